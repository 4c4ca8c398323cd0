import PyProof.Rows.All
import HandS.TupSets
import HandS.SetBool
import KE.SortData
import KE.GoesMore
import HandS.DictComp
import HandS.Conv
import HandS.Style
import Wide.All
import OpenK.AllK
import Wide.FinOn
import HandS.ForMost
import HandS.Evl
import HandS.Exc
import HandS.ExcOwn
import HandS.WordsExc
import HandS.Wide
import HandS.IsInst
import HandS.Defaults
import HandS.Flow
import HandS.HeadHook2
import HandS.HeadEnd
import HandS.HeadWalk
import HandS.SetFor
import HandS.TupAny
import HandS.Deep
import HandS.OwnEq
import HandS.ForDict
import HandS.SortInts
import KE.DataFind
import PyProof.InstNe
import PyProof.FactsAll.object_2
import HandS.TupMul
import HandS.Text
import HandS.ExcInit
import KE.KExcSuper
import KE.KExcIs
import HandS.ExcField
import HandS.ExcIs
import HandS.WideBits
import HandS.Head0
import HandS.Head1
import HandS.Head2
import PySem.Challenge.RW_throngways_k79_whole_texts_of_books
set_option Elab.async false
set_option linter.all false
set_option maxRecDepth 100000
set_option maxHeartbeats 4000000
/-! TLcg: x -> 5 x + 1 goes through all of 2^k. -/
namespace TQ
open PySem L2
def S : Nat → Nat
  | 0 => 0
  | n + 1 => S n * 5 + 1
theorem S_add (a : Nat) : ∀ b, S (a + b) = S a * 5 ^ b + S b
  | 0 => by simp [S]
  | b + 1 => by
    show S (a + b) * 5 + 1 = S a * 5 ^ (b + 1) + (S b * 5 + 1)
    rw [S_add a b, Nat.pow_succ, Nat.add_mul, Nat.mul_assoc]
    omega
theorem S_par : ∀ n, S n % 2 = n % 2
  | 0 => rfl
  | n + 1 => by
    show (S n * 5 + 1) % 2 = (n + 1) % 2
    have := S_par n
    omega
theorem five_mod : ∀ n, 5 ^ n % 4 = 1
  | 0 => rfl
  | n + 1 => by rw [Nat.pow_succ, Nat.mul_mod, five_mod n]
theorem odd_div {k a b : Nat} (hb : b % 2 = 1) (h : 2 ^ k ∣ a * b) : 2 ^ k ∣ a := by
  have c : Nat.Coprime (2 ^ k) b := by
    apply Nat.Coprime.pow_left
    unfold Nat.Coprime
    rw [Nat.gcd_rec, hb]
    rfl
  exact c.dvd_of_dvd_mul_right h
theorem S_div : ∀ (k d : Nat), 2 ^ k ∣ S d → 2 ^ k ∣ d
  | 0, d, _ => by simp
  | k + 1, d, h => by
    have h2 : S d % 2 = 0 := Nat.mod_eq_zero_of_dvd (Nat.dvd_trans ⟨2 ^ k, by rw [Nat.pow_succ, Nat.mul_comm]⟩ h)
    rw [S_par] at h2
    obtain ⟨e, rfl⟩ : ∃ e, d = e + e := ⟨d / 2, by omega⟩
    rw [S_add] at h
    have e1 : S e * 5 ^ e + S e = (S e * ((5 ^ e + 1) / 2)) * 2 := by
      have := five_mod e
      have e2 : 5 ^ e + 1 = (5 ^ e + 1) / 2 * 2 := by omega
      calc S e * 5 ^ e + S e = S e * (5 ^ e + 1) := by rw [Nat.mul_add, Nat.mul_one]
        _ = S e * ((5 ^ e + 1) / 2 * 2) := by rw [← e2]
        _ = _ := by rw [Nat.mul_assoc]
    rw [e1, Nat.pow_succ] at h
    have h3 : 2 ^ k ∣ S e * ((5 ^ e + 1) / 2) := Nat.dvd_of_mul_dvd_mul_right (by decide) h
    have h4 : 2 ^ k ∣ S e := odd_div (by have := five_mod e; omega) h3
    obtain ⟨q, hq⟩ := S_div k e h4
    exact ⟨q, by rw [Nat.pow_succ, Nat.mul_right_comm]; omega⟩
theorem S_inj {k a b : Nat} (ha : a < b) (hb : b < 2 ^ k) : S a % 2 ^ k ≠ S b % 2 ^ k := by
  intro h
  obtain ⟨d, rfl⟩ : ∃ d, b = d + a := ⟨b - a, by omega⟩
  rw [S_add d a] at h
  have h1 : 2 ^ k ∣ S d * 5 ^ a := by
    have h2 : (S d * 5 ^ a + S a - S a) % 2 ^ k = 0 := Nat.sub_mod_eq_zero_of_mod_eq h.symm
    rw [Nat.add_sub_cancel] at h2
    exact Nat.dvd_of_mod_eq_zero h2
  have h2 := S_div k d (odd_div (by have := five_mod a; omega) h1)
  have := Nat.le_of_dvd (by omega) h2
  omega
theorem lcgN_S (k : Nat) : ∀ n, lcgN (2 ^ k - 1) n = S n % 2 ^ k
  | 0 => by show 0 = 0 % 2 ^ k; rw [Nat.zero_mod]
  | n + 1 => by
    have hp : 2 ^ k - 1 + 1 = 2 ^ k := Nat.sub_add_cancel (Nat.one_le_two_pow)
    show (lcgN (2 ^ k - 1) n * 5 + 1) % (2 ^ k - 1 + 1) = (S n * 5 + 1) % 2 ^ k
    rw [hp, lcgN_S k n, Nat.add_mod, Nat.mod_mul_mod, ← Nat.add_mod]
theorem S_all (k : Nat) {j : Nat} (hj : j < 2 ^ k) : ∃ b, b < 2 ^ k ∧ S b % 2 ^ k = j := by
  rcases Classical.em (∃ b, b < 2 ^ k ∧ S b % 2 ^ k = j) with h | h
  · exact h
  · exfalso
    have nd : ((List.range (2 ^ k)).map fun b => S b % 2 ^ k).Nodup := by
      rw [List.nodup_iff_pairwise_ne, List.pairwise_map, List.pairwise_iff_getElem]
      intro a b ha hb hab
      rw [List.getElem_range, List.getElem_range]
      exact S_inj hab (by simpa using hb)
    have sub : ∀ x ∈ (List.range (2 ^ k)).map (fun b => S b % 2 ^ k), x ∈ (List.range (2 ^ k)).erase j := by
      intro x hx
      obtain ⟨b, hb, rfl⟩ := List.mem_map.mp hx
      have hb' := List.mem_range.mp hb
      refine (List.mem_erase_of_ne fun e => h ⟨b, hb', e⟩).mpr (List.mem_range.mpr (Nat.mod_lt _ (Nat.two_pow_pos k)))
    have := nat_nodup_len _ _ nd sub
    rw [List.length_map, List.length_range, List.length_erase_of_mem (List.mem_range.mpr hj), List.length_range] at this
    have := Nat.two_pow_pos k
    omega
theorem S_pow : ∀ k, 2 ^ k ∣ S (2 ^ k)
  | 0 => ⟨_, (Nat.one_mul _).symm⟩
  | k + 1 => by
    obtain ⟨q, hq⟩ := S_pow k
    have h5 := five_mod (2 ^ k)
    rw [Nat.pow_succ, Nat.mul_two, S_add, hq]
    refine ⟨q * ((5 ^ 2 ^ k + 1) / 2), ?_⟩
    have e2 : 5 ^ 2 ^ k + 1 = (5 ^ 2 ^ k + 1) / 2 * 2 := by omega
    calc 2 ^ k * q * 5 ^ 2 ^ k + 2 ^ k * q = 2 ^ k * q * (5 ^ 2 ^ k + 1) := by rw [Nat.mul_add, Nat.mul_one]
      _ = 2 ^ k * q * ((5 ^ 2 ^ k + 1) / 2 * 2) := by rw [← e2]
      _ = (2 ^ k + 2 ^ k) * (q * ((5 ^ 2 ^ k + 1) / 2)) := by rw [← Nat.mul_two]; ac_rfl
theorem S_round (k n : Nat) : S (2 ^ k + n) % 2 ^ k = S n % 2 ^ k := by
  obtain ⟨q, hq⟩ := S_pow k
  rw [S_add, hq, Nat.mul_assoc, Nat.mul_add_mod]
/-- from anywhere, each slot is met within a round -/
theorem lcg_every {k m : Nat} (hm : m + 1 = 2 ^ k) {i j : Nat} (hi : i ≤ m) (hj : j ≤ m) : ∃ n, n ≤ m ∧ lcgI m i n = j := by
  have em : m = 2 ^ k - 1 := by omega
  obtain ⟨a, ha, ea⟩ := S_all k (show i < 2 ^ k by omega)
  obtain ⟨b, hb, eb⟩ := S_all k (show j < 2 ^ k by omega)
  have ea' : lcgN m a = i := by rw [em, lcgN_S]; exact ea
  rw [← ea']
  rcases Nat.lt_or_ge b a with c | c
  · refine ⟨2 ^ k + b - a, by omega, ?_⟩
    rw [lcgN_add, em, lcgN_S, show a + (2 ^ k + b - a) = 2 ^ k + b by omega, S_round]
    exact eb
  · refine ⟨b - a, by omega, ?_⟩
    rw [lcgN_add, em, lcgN_S, show a + (b - a) = b by omega]
    exact eb
end TQ
/-! TTab: a set's table of any mask 2^k - 1: what stands in it is found, what does not is put in. -/
namespace TQ
open PySem L2
abbrev Pw (m : Nat) : Prop := ∃ k, m + 1 = 2 ^ k
/-- the c-th slot that a search for h looks at -/
abbrev at_ (m : Nat) (h : Int) (c : Nat) : Nat := L2.way m h c
theorem at_le (m : Nat) (h : Int) (c : Nat) : at_ m h c ≤ m := by
  have h0 : SetTable.bits h % (m + 1) ≤ m := Nat.le_of_lt_succ (Nat.mod_lt _ (Nat.succ_pos m))
  have r := L2.runEnd_bd h0
  have q := L2.nth_in (m := m) c (L2.runAt m (SetTable.bits h % (m + 1)) (SetTable.bits h)) (by show SetTable.bits h % (m + 1) + (SetTable.runEnd m (SetTable.bits h % (m + 1)) - SetTable.bits h % (m + 1)) ≤ m; omega)
  exact Nat.le_trans (Nat.le_add_right _ _) q
theorem runs_meet {m : Nat} (P : Pw m) (h : Int) {j : Nat} (hj : j ≤ m) : ∃ n, n ≤ m + 12 ∧ runI m (SetTable.bits h) n = j := by
  obtain ⟨k, hk⟩ := P
  obtain ⟨n, h1, h2⟩ := lcg_every hk (runI_le m (SetTable.bits h) 12) hj
  exact ⟨12 + n, by omega, (runI_tail (bits_lt h) n).trans h2⟩
theorem at_meets {m : Nat} (P : Pw m) (h : Int) {j : Nat} (hj : j ≤ m) : ∃ c, c < 10 * SetTable.turns m ∧ at_ m h c = j := by
  obtain ⟨n, h1, h2⟩ := runs_meet P h hj
  obtain ⟨c, h3, h4⟩ := run_nth m (SetTable.bits h) n
  have : 10 * SetTable.turns m = 10 * m + 150 := by unfold SetTable.turns; omega
  exact ⟨c, by omega, (congrArg SetTable.Probe.j h4).trans h2⟩
/-- a table: no dummies, slots rising, each element on its own way behind taken slots only -/
structure Tab (t : SetTable) (hs : List Int) : Prop where
  pw : Pw t.mask
  up : Ris t.place.toList
  nod : t.dummies = #[]
  cnt : t.place.toList.length = hs.length
  top : ∀ x ∈ t.place.toList, x ≤ t.mask
  way : ∀ (i : Nat) (h : Int) (j : Nat), hs[i]? = some h → t.place.toList[i]? = some j → ∃ c, at_ t.mask h c = j ∧ ∀ d, d < c → at_ t.mask h d ∈ t.place.toList
/-- where a search for h ends if nothing of its hash is met -/
structure End (t : SetTable) (h : Int) (c : Nat) : Prop where
  bd : c < 10 * SetTable.turns t.mask
  free : at_ t.mask h c ∉ t.place.toList
  full : ∀ d, d < c → at_ t.mask h d ∈ t.place.toList
theorem Tab.end {t : SetTable} {hs : List Int} (T : Tab t hs) (room : hs.length ≤ t.mask) (h : Int) : ∃ c, End t h c := by
  have l : t.place.toList.length < t.mask + 1 := by have := T.cnt; omega
  obtain ⟨j, j1, j2⟩ := st_missing _ _ l
  obtain ⟨c, c1, c2⟩ := at_meets T.pw h (show j ≤ t.mask by omega)
  obtain ⟨d, d1, d2, d3⟩ := st_least (p := fun c => at_ t.mask h c ∉ t.place.toList) c (show _ ∉ _ from c2 ▸ j2)
  exact ⟨d, by omega, d2, fun e he => Classical.not_not.mp (d3 e he)⟩
theorem Tab.ahead {t : SetTable} {hs : List Int} (T : Tab t hs) {h : Int} {c i j : Nat} (Z : End t h c) (hi : hs[i]? = some h) (hj : t.place.toList[i]? = some j) : ∃ d, d < c ∧ at_ t.mask h d = j := by
  obtain ⟨d, e1, e2⟩ := T.way i h j hi hj
  refine ⟨d, ?_, e1⟩
  rcases Nat.lt_or_ge d c with q | q
  · exact q
  · exfalso
    rcases Nat.eq_or_lt_of_le q with q | q
    · exact Z.free (by rw [q, e1]; exact List.mem_of_getElem? hj)
    · exact Z.free (e2 c q)
theorem Tab.fresh (f mv : Nat) (led : Bool) : Tab (SetTable.fresh f mv led) [] where
  pw := ⟨3, rfl⟩
  up := List.Pairwise.nil
  nod := rfl
  cnt := rfl
  top := fun _ m => nomatch m
  way := fun i _ _ e => by simp at e
/-- putting in at the free slot -/
theorem Tab.put {t : SetTable} {hs : List Int} (T : Tab t hs) {h : Int} {c : Nat} (Z : End t h c) :
    let p := SetTable.below t.place (at_ t.mask h c)
    (t.put (at_ t.mask h c)).2 = p ∧ p ≤ hs.length ∧ Tab (t.put (at_ t.mask h c)).1 (hs.take p ++ h :: hs.drop p) ∧ (t.put (at_ t.mask h c)).1.mask = t.mask ∧ (t.put (at_ t.mask h c)).1.led = t.led ∧
      (t.put (at_ t.mask h c)).1.plain = t.plain ∧ (t.put (at_ t.mask h c)).1.fill = hs.length + 1 := by
  intro p
  have ej : at_ t.mask h c ≤ t.mask := at_le _ _ _
  have efree := Z.free
  have efull := Z.full
  obtain ⟨j, hj⟩ : ∃ j, at_ t.mask h c = j := ⟨_, rfl⟩
  have hp : SetTable.below t.place j = p := by rw [← hj]
  rw [hj] at ej efree ⊢
  clear_value p
  subst hp
  obtain ⟨b1, _, _⟩ := below_cut T.up j
  generalize hp : SetTable.below t.place j = p at b1 ⊢
  have lp : p ≤ t.place.toList.length := by rw [Array.length_toList]; exact b1
  have lh : p ≤ hs.length := by have := T.cnt; omega
  have np : t.place[p]? ≠ some j := fun e => efree (List.mem_of_getElem? (i := p) (by rw [Array.getElem?_toList]; exact e))
  have pl : (t.put j).1.place.toList = t.place.toList.take p ++ j :: t.place.toList.drop p := by rw [← hp]; exact put_place t j
  have ln : (t.put j).1.place.toList.length = hs.length + 1 := by rw [pl, len_ins _ lp, T.cnt]
  have dm := put_dm T.nod j
  have inc : ∀ x, x ∈ t.place.toList → x ∈ (t.put j).1.place.toList := fun x m => by rw [pl]; exact mem_ins.2 (.inr m)
  refine ⟨hp, lh, ⟨T.pw, by subst hp; exact ris_insert T.up np, dm, by rw [ln, len_ins _ lh], fun x m => ?_, fun i g y e1 e2 => ?_⟩, rfl, rfl, rfl, ?_⟩
  · rw [pl] at m
    rcases mem_ins.1 m with e | m
    · exact e ▸ ej
    · exact T.top x m
  · rw [tins_get hs lh] at e1
    rw [pl, tins_get _ lp] at e2
    have old : ∀ i', hs[i']? = some g → t.place.toList[i']? = some y → ∃ c, at_ t.mask g c = y ∧ ∀ d, d < c → at_ t.mask g d ∈ (t.put j).1.place.toList := fun i' q1 q2 => by
      obtain ⟨d, z1, z2⟩ := T.way i' g y q1 q2
      exact ⟨d, z1, fun e he => inc _ (z2 e he)⟩
    by_cases c1 : i < p
    · rw [if_pos c1] at e1 e2
      exact old i e1 e2
    · rw [if_neg c1] at e1 e2
      by_cases c2 : i = p
      · rw [if_pos c2] at e1 e2
        cases e1
        cases e2
        exact ⟨c, hj, fun d hd => inc _ (efull d hd)⟩
      · rw [if_neg c2] at e1 e2
        exact old (i - 1) e1 e2
  · have e3 : (t.put j).1.fill = (t.put j).1.place.toList.length + (t.put j).1.dummies.size := rfl
    rw [e3, ln, dm]
    rfl
end TQ
/-! TLay: a table laid anew, of any mask 2^k - 1. -/
namespace TQ
open PySem L2
theorem free_at {m : Nat} (P : Pw m) (own : Array (Option Nat)) (h : Int) (room : ∃ j, j ≤ m ∧ oAt own j = none) :
    ∃ c, SetTable.layClean.free m own (SetTable.turns m) (SetTable.bits h % (m + 1)) (SetTable.bits h) = some (at_ m h c) ∧ oAt own (at_ m h c) = none ∧ ∀ d, d < c → oAt own (at_ m h d) ≠ none := by
  obtain ⟨j, hj, hf⟩ := room
  obtain ⟨n, n1, n2⟩ := runs_meet P h hj
  have e : at_ m h (off m (SetTable.bits h % (m + 1)) (SetTable.bits h) n) = j := by
    refine Eq.trans ?_ n2
    show (nth m (runAt m (SetTable.bits h % (m + 1)) (SetTable.bits h)) _).j = _
    rw [nth_off, itL_run]
    rfl
  obtain ⟨c, c1, c2, c3⟩ := st_least (p := fun c => oAt own (at_ m h c) = none) (off m (SetTable.bits h % (m + 1)) (SetTable.bits h) n) (by rw [← e] at hf; exact hf)
  refine ⟨c, free_spec m own (SetTable.turns m) n _ _ c ?_ c1 (fun d hd => ?_) ?_, c2, c3⟩
  · unfold SetTable.turns
    omega
  · have := c3 d hd
    cases q : oAt own (at_ m h d) with
    | none => exact (this q).elim
    | some _ => rfl
  · exact congrArg Option.isNone c2
theorem lay_one {m : Nat} (P : Pw m) {done : List Int} {own : Array (Option Nat)} (W : Own m done own) (hl : done.length ≤ m) (h : Int) :
    ∃ j, SetTable.layClean.free m own (SetTable.turns m) (SetTable.bits h % (m + 1)) (SetTable.bits h) = some j ∧ Own m (done ++ [h]) (own.setIfInBounds j (some done.length)) := by
  obtain ⟨ps, l, mem⟩ := W.ps
  obtain ⟨j0, a1, a2⟩ := st_missing ps (m + 1) (by omega)
  obtain ⟨c, c1, c2, c3⟩ := free_at P own h ⟨j0, by omega, Classical.not_not.mp fun q => a2 (mem j0 (by omega) q)⟩
  have cm := at_le m h c
  obtain ⟨j, ej⟩ : ∃ j, at_ m h c = j := ⟨_, rfl⟩
  rw [ej] at c1 c2 cm
  have js : j < own.size := by rw [W.sz]; omega
  have self := oAt_set_self (some done.length) js
  have keep : ∀ i, oAt own i ≠ none → oAt (own.setIfInBounds j (some done.length)) i = oAt own i := fun i hi => oAt_set_ne _ fun e => hi (by rw [e]; exact c2)
  have taken : ∀ i, oAt own i ≠ none → oAt (own.setIfInBounds j (some done.length)) i ≠ none := fun i hi => by rw [keep i hi]; exact hi
  refine ⟨j, c1, ⟨by rw [Array.size_setIfInBounds, W.sz], fun i k hi e => ?_, fun k hk => ?_, ⟨j :: ps, by simp [l], fun i hi e => ?_⟩⟩⟩
  · by_cases q : i = j
    · subst q
      rw [self] at e
      cases e
      exact ⟨h, c, by simp, ej, fun d hd => taken _ (c3 d hd)⟩
    · rw [oAt_set_ne _ q] at e
      obtain ⟨g, d, z1, z2, z3⟩ := W.at_ i k hi e
      exact ⟨g, d, by rw [List.getElem?_append_left (List.getElem?_eq_some_iff.mp z1).1]; exact z1, z2, fun d' hd => taken _ (z3 d' hd)⟩
  · rcases Nat.lt_or_ge k done.length with q | q
    · obtain ⟨i, i1, i2⟩ := W.all k q
      exact ⟨i, i1, by rw [keep i (by rw [i2]; simp)]; exact i2⟩
    · have : k = done.length := by simp at hk; omega
      exact ⟨j, cm, by rw [self, this]⟩
  · by_cases q : i = j
    · rw [q]; exact List.mem_cons_self ..
    · rw [oAt_set_ne _ q] at e
      exact List.mem_cons_of_mem _ (mem i hi e)
theorem lay_all {m : Nat} (P : Pw m) : ∀ (rest done : List Int) (own : Array (Option Nat)), Own m done own → done.length + rest.length ≤ m →
    ∃ own', rest.foldl (stepF m) (some (own, done.length)) = some (own', done.length + rest.length) ∧ Own m (done ++ rest) own'
  | [], done, own, W, _ => ⟨own, rfl, by rw [List.append_nil]; exact W⟩
  | h :: rest, done, own, W, hl => by
    have hl' : done.length + rest.length + 1 ≤ m := hl
    obtain ⟨j, e, W'⟩ := lay_one P W (by omega) h
    have ln : (done ++ [h]).length = done.length + 1 := by simp
    obtain ⟨own', f, V⟩ := lay_all P rest (done ++ [h]) _ W' (by omega)
    rw [ln] at f
    refine ⟨own', ?_, by rw [List.append_assoc] at V; exact V⟩
    rw [List.foldl_cons, stepF_some e, f, List.length_cons]
    congr 2
    omega
theorem lay_clean {m : Nat} (P : Pw m) {hs : Array Int} (hn : hs.size ≤ m) : ∃ own, SetTable.layClean m hs = some own ∧ Own m hs.toList own := by
  obtain ⟨own, f, W⟩ := lay_all P hs.toList [] _ (Own.init m) (by simpa using hn)
  refine ⟨own, ?_, W⟩
  rw [layClean_eq]
  exact congrArg (Option.map (·.1)) f
theorem relay {M wanted : Nat} (P : Pw M) (hw : SetTable.sizeAbove wanted - 1 = M) (t : SetTable) {hs : Array Int} (hn : hs.size ≤ M) :
    ∃ t' order, t.relaid hs wanted = some (t', order) ∧ order.toList.Perm (List.range hs.size) ∧ Tab t' (order.toList.map fun i => hs.getD i 0) ∧ t'.mask = M ∧ t'.led = t.led ∧ t'.plain = t.plain := by
  obtain ⟨own, e, W⟩ := lay_clean P hn
  obtain ⟨r1, r2⟩ := ris_live (fun j => own.getD j none) (List.range (M + 1)) List.pairwise_lt_range
  have r1 : Ris ((liveOf M own).map (·.1)) := r1
  have r2 : ∀ x ∈ (liveOf M own).map (·.1), x ∈ List.range (M + 1) := r2
  have lv : ∀ {j k : Nat}, (j, k) ∈ liveOf M own ↔ j ≤ M ∧ oAt own j = some k := mem_live W.sz
  have has : ∀ k, k < hs.size → k ∈ (liveOf M own).map (·.2) := fun k hk => by
    obtain ⟨j, q⟩ := W.all k (by simpa using hk)
    exact List.mem_map.mpr ⟨(j, k), lv.2 q, rfl⟩
  have ln : (liveOf M own).length = hs.size := by
    obtain ⟨ps, p1, p2⟩ := W.ps
    have a := nat_nodup_len _ ps (r1.imp fun h => Nat.ne_of_lt h) fun x hx => by
      obtain ⟨⟨y, k⟩, hq, rfl⟩ := List.mem_map.mp hx
      obtain ⟨b1, b2⟩ := lv.1 hq
      exact p2 y b1 (by rw [b2]; simp)
    have b := nat_nodup_len _ _ (List.nodup_range (n := hs.size)) fun k hk => has k (List.mem_range.mp hk)
    simp at a b p1
    omega
  refine ⟨tabOf t M own, ((liveOf M own).map (·.2)).toArray, by rw [relaid_eq, hw, e]; rfl, perm_range _ _ (by simpa using ln) has, ⟨P, r1, rfl, by simp [tabOf], fun x hx => ?_, fun i h j h1 h2 => ?_⟩, rfl, rfl, rfl⟩
  · have := List.mem_range.mp (r2 x hx)
    show x ≤ M
    omega
  · have h1 : (((liveOf M own).map (·.2)).map fun i => hs.getD i 0)[i]? = some h := h1
    have h2 : ((liveOf M own).map (·.1))[i]? = some j := h2
    rw [List.getElem?_map] at h2
    rw [List.getElem?_map, List.getElem?_map] at h1
    obtain ⟨⟨y, k⟩, q1, q2⟩ := Option.map_eq_some_iff.mp h2
    rw [q1] at h1
    cases q2
    have eh : hs.getD k 0 = h := Option.some.inj h1
    obtain ⟨b1, b2⟩ := lv.1 (List.mem_of_getElem? q1)
    obtain ⟨g, c, a1, a2, a3⟩ := W.at_ y k b1 b2
    have eg : g = h := by
      rw [← eh, Array.getD_eq_getD_getElem?, ← Array.getElem?_toList, a1]
      rfl
    subst eg
    refine ⟨c, a2, fun d hd => ?_⟩
    obtain ⟨k2, e2⟩ := Option.ne_none_iff_exists'.mp (a3 d hd)
    exact List.mem_map.mpr ⟨(_, k2), lv.2 ⟨at_le M g d, e2⟩, rfl⟩
end TQ
/-! TSet: a set of tuples of ints of any size below 2400: search, add. -/
namespace TQ
open PySem PySem.Spec PyProof.Rows L2
/-- the masks of a set that grows -/
def Grows (m : Nat) : Prop := m = 7 ∨ m = 31 ∨ m = 127 ∨ m = 511 ∨ m = 2047 ∨ m = 8191
theorem Grows.pw {m : Nat} (g : Grows m) : Pw m := by
  rcases g with e | e | e | e | e | e <;> subst e
  · exact ⟨3, rfl⟩
  · exact ⟨5, rfl⟩
  · exact ⟨7, rfl⟩
  · exact ⟨9, rfl⟩
  · exact ⟨11, rfl⟩
  · exact ⟨13, rfl⟩
theorem Grows.le {m : Nat} (g : Grows m) : m ≤ 8191 := by
  rcases g with e | e | e | e | e | e <;> omega
/-- the c-th state of the search for h -/
abbrev pr (m : Nat) (h : Int) (c : Nat) : SetTable.Probe := nth m (runAt m (SetTable.bits h % (m + 1)) (SetTable.bits h)) c
theorem nth_nd (m : Nat) : ∀ (n : Nat) (p : SetTable.Probe), p.dummy = none → (nth m p n).dummy = none
  | 0, _, e => e
  | n + 1, p, e => nth_nd m n (adv m p) (by unfold adv; split <;> exact e)
theorem pr_more (m : Nat) (h : Int) (c d : Nat) : nth m (pr m h c) d = pr m h (c + d) := (nth_add m c _ d).symm
theorem pr_j (m : Nat) (h : Int) (c d : Nat) : (nth m (pr m h c) d).j = at_ m h (c + d) := congrArg (·.j) (pr_more m h c d)
section
variable {P : Program} {w : World} {A : Around} {E : Value → Shared → Prop} {s : Shared}
/-- the set at a has the keys of L, each with the address of the tuple that came first -/
structure Ts (P : Program) (w : World) (h : Heap) (a : Addr) (L : List (Addr × List Int)) (es : Array (Int × Value)) (ep : Nat) (t : SetTable) : Prop where
  here : ∃ o, h.get? a = some o ∧ o.ExactSet ∧ o.data = .set es ep t
  rws : es.toList = rowsOf P w L
  tab : Tab t (L.map fun p => thash P w p.2)
  gr : Grows t.mask
  uniq : (L.map (·.2)).Nodup
  tps : ∀ p ∈ L, IsT P w h p.2 p.1
  pl : t.plain = true
  ld : w.params.followText "set-order" = true ∨ t.led = true
  room : L.length * 5 < t.mask * 3
  few : L.length < 2400
variable {a : Addr} {L : List (Addr × List Int)} {es : Array (Int × Value)} {ep : Nat} {t : SetTable}
theorem rws_len {L : List (Addr × List Int)} {es : Array (Int × Value)} (e : es.toList = rowsOf P w L) : es.size = L.length := by
  rw [← Array.length_toList, e]
  exact List.length_map ..
theorem Tab.size {t : SetTable} {L : List (Addr × List Int)} (T : Tab t (L.map fun p => thash P w p.2)) : t.place.size = L.length := by
  rw [← Array.length_toList, T.cnt]
  exact List.length_map ..
theorem tab_fit {t : SetTable} {n : Nat} (hp : t.place.size = n) (hd : t.dummies = #[]) (hr : n ≤ t.mask) : t.fits n = true := by
  unfold SetTable.fits SetTable.fill
  simp only [hd, hp, Bool.and_eq_true, beq_iff_eq, decide_eq_true_eq]
  exact ⟨trivial, hr⟩
theorem Ts.fit (Z : Ts P w s.heap a L es ep t) : t.fits es.size = true :=
  tab_fit (by rw [rws_len Z.rws]; exact Z.tab.size) Z.tab.nod (by rw [rws_len Z.rws]; have := Z.room; omega)
theorem Ts.ent (Z : Ts P w s.heap a L es ep t) {i : Nat} {p : Addr × List Int} (e : L[i]? = some p) : es[i]? = some (thash P w p.2, Value.ref p.1) := by
  rw [← Array.getElem?_toList, Z.rws]
  show (L.map _)[i]? = _
  rw [List.getElem?_map, e]
  rfl
theorem Ts.stays (Z : Ts P w s.heap a L es ep t) : ¬ t.gaveWay = true := by
  have odd : t.mask % 2 = 1 := by rcases Z.gr with e | e | e | e | e | e <;> rw [e]
  unfold SetTable.gaveWay
  simp [odd]
theorem seek (Z : Ts P w s.heap a L es ep t) {x : Addr} {k : List Int} (kx : IsT P w s.heap k x) (hu : A.units < cLine) {C : Nat} (F : End t (thash P w k) C) {Q : SetFound → Shared → Prop}
    (old : k ∈ L.map (·.2) → Q (.there none) s) (new : k ∉ L.map (·.2) → Q (.free (at_ t.mask (thash P w k) C) false) s) :
    ∀ (f c : Nat) (fr : Option SetTable.Probe), fr.getD (t.probeStart (thash P w k)) = pr t.mask (thash P w k) c → c ≤ C → C - c < f →
      (∀ (i : Nat) p, L[i]? = some p → p.2 = k → ∃ d, c ≤ d ∧ d < C ∧ t.place.toList[i]? = some (at_ t.mask (thash P w k) d)) →
      wpAny (model P w) A (setSearchFrom a (.ref x) (thash P w k) true f fr) Q E s
  | 0, _, _, _, _, hf, _ => absurd hf (Nat.not_lt_zero _)
  | f + 1, c, fr, efr, hc, hf, ahead => by
    obtain ⟨o, o1, o2, o3⟩ := Z.here
    have T := Z.tab
    obtain ⟨hh, eh⟩ : ∃ hh, hh = thash P w k := ⟨_, rfl⟩
    rw [← eh] at F new efr ahead ⊢
    have hash_i : ∀ (i : Nat) p, L[i]? = some p → (fun i => (es[i]?.map (·.1)).getD 0) i = thash P w p.2 := fun i p q => by simp only [Z.ent q]; rfl
    have look := go_spec t T.up T.nod (fun i => (es[i]?.map (·.1)).getD 0) hh (10 * SetTable.turns t.mask) (C - c) (pr t.mask hh c) (nth_nd _ c _ rfl) (by have := F.bd; omega)
      (fun d hd => by rw [pr_j]; exact F.full _ (by omega)) (by rw [pr_j, show c + (C - c) = C by omega]; exact F.free)
    rw [setSearchFrom_succ]
    refine wpAny_bind (wpAny_setState_of o1 o3 Z.fit ?_)
    dsimp only
    refine wp_if_neg Z.stays ?_
    try refine wpAny_bind (wpAny_pure ?_)
    have eprobe : t.probe (fun i => (es[i]?.map (·.1)).getD 0) hh (fr.getD (t.probeStart hh)) = SetTable.probe.go t (fun i => (es[i]?.map (·.1)).getD 0) hh (10 * SetTable.turns t.mask) (pr t.mask hh c) := by rw [efr]; rfl
    rw [eprobe]
    rcases look with ⟨d, i, d1, d2, d3, d4, d5⟩ | ⟨d4, d5⟩
    · rw [d5]
      dsimp only
      rw [pr_j] at d2
      rw [pr_j, pr_more]
      obtain ⟨p, pe⟩ : ∃ p, L[i]? = some p := by
        have l1 := (List.getElem?_eq_some_iff.mp d2).1
        rw [T.cnt, List.length_map] at l1
        exact ⟨_, List.getElem?_eq_getElem l1⟩
      have pm := List.mem_of_getElem? pe
      have pt := Z.tps p pm
      have tail : wpAny (model P w) A (searchRest a (.ref x) hh true f es t (at_ t.mask hh (c + d)) i (pr t.mask hh (c + (d + 1)))) Q E s := by
        unfold searchRest
        rw [Z.ent pe]
        dsimp only
        refine wpAny_bind (wpAny_holding (wpAny_eqBool_tuple hu pt kx ?_))
        refine wpAny_bind (wpAny_setState_of o1 o3 Z.fit ?_)
        dsimp only
        by_cases ek : p.2 = k
        · refine wp_if_pos (by simp [ek]) (wpAny_pure (old (List.mem_map.mpr ⟨p, pm, ek⟩)))
        · refine wp_if_neg (by simp [ek]) ?_
          try refine wpAny_bind (wpAny_pure ?_)
          rw [sameMem]
          dsimp only
          have lv := slot_live T.up d2
          simp only [if_true, lv, Z.ent pe]
          refine wpAny_bind (wpAny_isSame_ref_self (wpAny_bind (wpAny_pure ?_)))
          simp only [if_true]
          refine wp_if_neg (by simp [ek]) ?_
          rw [eh] at F new ahead ⊢
          refine seek Z kx hu F old new f (c + (d + 1)) _ rfl (by omega) (by omega) fun i0 p0 q0 k0 => ?_
          obtain ⟨g, g1, g2, g3⟩ := ahead i0 p0 q0 k0
          refine ⟨g, ?_, g2, g3⟩
          rcases Nat.lt_trichotomy g (c + d) with z | z | z
          · refine absurd ?_ (d4 (g - c) i0 (by omega) (by rw [pr_j, show c + (g - c) = g by omega, eh]; exact g3))
            exact (hash_i i0 p0 q0).trans ((congrArg (thash P w) k0).trans eh.symm)
          · rw [z, ← eh] at g3
            have l2 := slot_live T.up g3
            rw [lv] at l2
            cases l2
            rw [pe] at q0
            cases q0
            exact absurd k0 ek
          · omega
      by_cases hl : t.led = true
      · refine wp_if_neg (by simp [hl]) ?_
        try refine wpAny_bind (wpAny_pure ?_)
        exact tail
      · refine wp_if_pos (by simp [hl]) ?_
        refine wpAny_bind (seen_tup kx (fun y my => ?_) ?_)
        · obtain ⟨e, me, ey⟩ := List.mem_map.mp my
          have m2 : e ∈ es.toList := by
            have := (by simpa using me : e ∈ es ∧ e.1 = hh).1
            simpa using this
          rw [Z.rws] at m2
          obtain ⟨r, mr, er⟩ := List.mem_map.mp m2
          exact ⟨r.2, r.1, by rw [← ey, ← er], Z.tps r mr⟩
        · refine wp_if_neg (by decide) ?_
          try refine wpAny_bind (wpAny_pure ?_)
          exact tail
    · rw [d5]
      dsimp only
      rw [pr_j, show c + (C - c) = C by omega]
      refine wpAny_pure (new fun mk => ?_)
      obtain ⟨p0, m0, k0⟩ := List.mem_map.mp mk
      obtain ⟨i0, l0, e0⟩ := List.getElem_of_mem m0
      have q0 : L[i0]? = some p0 := by rw [List.getElem?_eq_getElem l0, e0]
      obtain ⟨g, g1, g2, g3⟩ := ahead i0 p0 q0 k0
      refine d4 (g - c) i0 (by omega) (by rw [pr_j, show c + (g - c) = g by omega]; exact g3) ?_
      exact (hash_i i0 p0 q0).trans ((congrArg (thash P w) k0).trans eh.symm)
theorem seek_all (Z : Ts P w s.heap a L es ep t) {x : Addr} {k : List Int} (kx : IsT P w s.heap k x) (hu : A.units < cLine) {Q : SetFound → Shared → Prop}
    (old : k ∈ L.map (·.2) → Q (.there none) s) (new : ∀ C, k ∉ L.map (·.2) → End t (thash P w k) C → Q (.free (at_ t.mask (thash P w k) C) false) s) :
    wpAny (model P w) A (setSearch a (.ref x) (thash P w k) true) Q E s := by
  obtain ⟨C, F⟩ := Z.tab.end (by rw [List.length_map]; have := Z.room; omega) (thash P w k)
  have big : C < 100000 := by
    have := F.bd
    have := Z.gr.le
    unfold SetTable.turns at *
    omega
  unfold setSearch
  refine seek Z kx hu F old (fun n => new C n F) 100000 0 none rfl (Nat.zero_le _) (by omega) fun i p q e => ?_
  have hi : (L.map fun p => thash P w p.2)[i]? = some (thash P w k) := by rw [List.getElem?_map, q, ← e]; rfl
  have li : i < t.place.toList.length := by
    rw [Z.tab.cnt, List.length_map]
    exact (List.getElem?_eq_some_iff.mp q).1
  obtain ⟨d, d1, d2⟩ := Z.tab.ahead F hi (List.getElem?_eq_getElem li)
  exact ⟨d, Nat.zero_le _, d1, by rw [d2]; exact List.getElem?_eq_getElem li⟩
end
end TQ
/-! TAdd: a tuple put into the set. -/
namespace TQ
open PySem PySem.Spec PyProof.Rows L2
theorem up5 : SetTable.sizeAbove (SetTable.grown 5) = 32 := by decide +kernel
theorem up19 : SetTable.sizeAbove (SetTable.grown 19) = 128 := by decide +kernel
theorem up77 : SetTable.sizeAbove (SetTable.grown 77) = 512 := by decide +kernel
theorem up307 : SetTable.sizeAbove (SetTable.grown 307) = 2048 := by decide +kernel
theorem up1229 : SetTable.sizeAbove (SetTable.grown 1229) = 8192 := by decide +kernel
/-- the next mask -/
theorem grow_next {m n : Nat} (g : Grows m) (few : n < 2400) (r : n * 5 < m * 3) (full : (n + 1) * 5 ≥ m * 3) :
    ∃ M, SetTable.sizeAbove (SetTable.grown (n + 1)) - 1 = M ∧ Grows M ∧ SetTable.sizeAbove (SetTable.grown (n + 1)) ≤ 8192 ∧ (n + 1) * 5 < M * 3 := by
  rcases g with e | e | e | e | e | e <;> subst e
  · obtain rfl : n = 4 := by omega
    exact ⟨31, by rw [up5], .inr (.inl rfl), by rw [up5]; decide, by decide⟩
  · obtain rfl : n = 18 := by omega
    exact ⟨127, by rw [up19], .inr (.inr (.inl rfl)), by rw [up19]; decide, by decide⟩
  · obtain rfl : n = 76 := by omega
    exact ⟨511, by rw [up77], .inr (.inr (.inr (.inl rfl))), by rw [up77]; decide, by decide⟩
  · obtain rfl : n = 306 := by omega
    exact ⟨2047, by rw [up307], .inr (.inr (.inr (.inr (.inl rfl)))), by rw [up307]; decide, by decide⟩
  · obtain rfl : n = 1228 := by omega
    exact ⟨8191, by rw [up1229], .inr (.inr (.inr (.inr (.inr rfl)))), by rw [up1229]; decide, by decide⟩
  · omega
section
variable {P : Program} {w : World} {A : Around} {E : Value → Shared → Prop} {s : Shared} {a : Addr} {L : List (Addr × List Int)} {es : Array (Int × Value)} {ep : Nat} {t : SetTable}
theorem anew {o : Obj} (o1 : s.heap.get? a = some o) (o2 : o.ExactSet) (o3 : o.data = .set es ep t) (er : es.toList = rowsOf P w L) (e1 : t.place.size = L.length) (e2 : t.dummies = #[]) (e3 : L.length ≤ t.mask)
    (uq : (L.map (·.2)).Nodup) (tp : ∀ p ∈ L, IsT P w s.heap p.2 p.1) (pl : t.plain = true) (ld : w.params.followText "set-order" = true ∨ t.led = true) (few : L.length < 2400) {wanted M : Nat}
    (m1 : SetTable.sizeAbove wanted - 1 = M) (m2 : Grows M) (m3 : SetTable.sizeAbove wanted ≤ 8192) (room : L.length * 5 < M * 3) {Q : Unit → Shared → Prop}
    (c : ∀ h' L' es' ep' t', Heap.SameBut a s.heap h' → Ts P w h' a L' es' ep' t' → L'.Perm L → Q () { s with heap := h' }) : wpAny (model P w) A (setRelay a wanted) Q E s := by
  have ls := rws_len er
  have fit : t.fits es.size = true := tab_fit (by rw [e1, ls]) e2 (by omega)
  have ln : (es.map (·.1)).size = L.length := by rw [Array.size_map, ls]
  obtain ⟨t', order, r1, r2, T, r3, r4, r5⟩ := relay m2.pw m1 t (hs := es.map (·.1)) (by omega)
  rw [ln] at r2
  obtain ⟨L2, z1, z2, z3⟩ := order_rows L es order er r2
  have l2 := z2.length_eq
  have ls2 : (order.filterMap (es[·]?)).size = L.length := by rw [rws_len z1, l2]
  rw [← z3] at T
  rw [setRelay_eq]
  refine wpAny_bind (wpAny_setState_of o1 o3 fit ?_)
  dsimp only
  refine wp_if_neg (by rw [sizeLine_eq]; omega) ?_
  try refine wpAny_bind (wpAny_pure ?_)
  rw [r1]
  dsimp only
  refine wpAny_bind (wp_if_neg (by rw [ls2, ls]; simp) ?_)
  try refine wpAny_bind (wpAny_pure ?_)
  refine wpAny_pure ?_
  dsimp only
  refine wpAny_storeSet_of o1 o3 (c _ L2 (order.filterMap (es[·]?)) (ep + 1) t' (Heap.SameBut.update ..) ?_ z2) (by rw [ls2, sizeLine_eq]; omega)
  exact { here := ⟨_, store_at o1 o3, ⟨o2.1, o2.2.1, o2.2.2⟩, rfl⟩, rws := z1, tab := T, gr := by rw [r3]; exact m2, uniq := (z2.map (·.2)).nodup_iff.mpr uq,
          tps := fun p m => isT_same (tp p (z2.mem_iff.mp m)) o1 o3 (Heap.SameBut.update ..), pl := by rw [r5]; exact pl, ld := by rw [r4]; exact ld, room := by rw [l2, r3]; exact room, few := by rw [l2]; exact few }
/-- adding -/
theorem adds (Z : Ts P w s.heap a L es ep t) {x : Addr} {k : List Int} (kx : IsT P w s.heap k x) (hu : A.units < cLine) (more : L.length + 1 < 2400) {Q : Bool → Shared → Prop}
    (c : ∀ b h' L' es' ep' t', Heap.SameBut a s.heap h' → Ts P w h' a L' es' ep' t' → (k ∈ L.map (·.2) → L' = L) → (k ∉ L.map (·.2) → L'.Perm ((x, k) :: L)) → Q b { s with heap := h' }) :
    wpAny (model P w) A (setAddHashed a (.ref x) (thash P w k)) Q E s := by
  obtain ⟨o, o1, o2, o3⟩ := Z.here
  have ls := rws_len Z.rws
  unfold setAddHashed
  refine wpAny_holding ?_
  rw [show (100000 : Nat) = 99999 + 1 from rfl, setAddHashedIn_succ]
  refine wpAny_bind (wpAny_setState_of o1 o3 Z.fit ?_)
  dsimp only
  refine wp_if_neg (by simp [byScan, Value.scannable]) ?_
  try refine wpAny_bind (wpAny_pure ?_)
  refine wpAny_bind (seek_all Z kx hu (fun mk => ?_) fun C nk F => ?_)
  · exact wpAny_pure (c false s.heap L es ep t (Heap.SameBut.refl ..) Z (fun _ => rfl) fun n => absurd mk n)
  · dsimp only
    refine wpAny_bind (wpAny_setState_of o1 o3 Z.fit ?_)
    dsimp only
    have put := Z.tab.put F
    have pq : (t.put (at_ t.mask (thash P w k) C)).1.plain = true := by rw [put.2.2.2.2.2.1]; exact Z.pl
    have ldq : w.params.followText "set-order" = true ∨ (t.put (at_ t.mask (thash P w k) C)).1.led = true := by rw [put.2.2.2.2.1]; exact Z.ld
    generalize et : t.put (at_ t.mask (thash P w k) C) = tp at put pq ldq ⊢
    obtain ⟨t1, p⟩ := tp
    obtain ⟨u1, u2, u3, u4, _, _, u7⟩ := put
    dsimp only at u1 u2 u3 u4 u7 pq ldq ⊢
    rw [← u1] at u2 u3
    clear u1
    first
      | (refine wpAny_bind ?_; refine wp_if_pos pq ?_; refine hashBy_tup kx ?_)
      | refine wp_if_pos pq (wpAny_bind (hashBy_tup kx ?_))
    simp only [if_true]
    have pm := put_perm L p (x, k)
    have l1 : (L.take p ++ (x, k) :: L.drop p).length = L.length + 1 := pm.length_eq
    have rws1 : (SetTable.insertAt es p (thash P w k, Value.ref x)).toList = rowsOf P w (L.take p ++ (x, k) :: L.drop p) := by rw [SetTable.toList_insertAt, rows_put, Z.rws]
    have u3' : Tab t1 ((L.take p ++ (x, k) :: L.drop p).map fun p => thash P w p.2) := by
      rw [List.map_append, List.map_cons, List.map_take, List.map_drop]
      exact u3
    have uq1 : ((L.take p ++ (x, k) :: L.drop p).map (·.2)).Nodup := (pm.map (·.2)).nodup_iff.mpr (List.nodup_cons.mpr ⟨nk, Z.uniq⟩)
    generalize SetTable.insertAt es p (thash P w k, Value.ref x) = es1 at rws1 ⊢
    generalize L.take p ++ (x, k) :: L.drop p = L1 at pm l1 rws1 u3' uq1
    have ls1 := rws_len rws1
    rw [List.length_map] at u7
    refine wpAny_bind (wpAny_storeSet_of o1 o3 ?_ (by rw [ls1, sizeLine_eq]; omega))
    have sb : Heap.SameBut a s.heap (s.heap.update a (Obj.putSet es1 t1)) := Heap.SameBut.update ..
    have v1 := store_at (es' := es1) (t' := t1) o1 o3
    generalize s.heap.update a (Obj.putSet es1 t1) = h1 at sb v1 ⊢
    have tps1 : ∀ q ∈ L1, IsT P w h1 q.2 q.1 := fun q m => by
      rcases List.mem_cons.mp (pm.mem_iff.mp m) with rfl | m
      · exact isT_same kx o1 o3 sb
      · exact isT_same (Z.tps q m) o1 o3 sb
    have gr1 : Grows t1.mask := by rw [u4]; exact Z.gr
    have full : t1.tooFull = true ↔ (L.length + 1) * 5 ≥ t.mask * 3 := by
      unfold SetTable.tooFull
      rw [decide_eq_true_eq, u7, u4]
    by_cases hf : t1.tooFull = true
    · obtain ⟨M, m1, m2, m3, m4⟩ := grow_next Z.gr Z.few Z.room (full.mp hf)
      first
        | (refine wpAny_bind ?_; refine wp_if_pos (by simp [hf]) ?_)
        | (refine wp_if_pos (by simp [hf]) ?_; refine wpAny_bind ?_)
      rw [ls]
      refine anew (s := { s with heap := h1 }) v1 ⟨o2.1, o2.2.1, o2.2.2⟩ rfl rws1 u3'.size u3'.nod (by have := Z.room; omega) uq1 tps1 pq ldq (by omega) m1 m2 m3 (by omega) fun h2 L2 es2 ep2 t2 sb2 Z2 pm2 => ?_
      exact wpAny_pure (c true h2 L2 es2 ep2 t2 (sb.trans sb2) Z2 (fun z => absurd z nk) fun _ => pm2.trans pm)
    · first
        | refine wp_if_neg (by simp [hf]) ?_
        | (refine wpAny_bind ?_; refine wp_if_neg (by simp [hf]) ?_; refine wpAny_pure ?_)
      refine wpAny_pure (c true h1 L1 es1 (ep + 1) t1 sb ?_ (fun z => absurd z nk) fun _ => pm)
      exact { here := ⟨_, v1, ⟨o2.1, o2.2.1, o2.2.2⟩, rfl⟩, rws := rws1, tab := u3', gr := gr1, uniq := uq1, tps := tps1, pl := pq, ld := ldq, room := by rw [l1, u4]; have := mt full.mpr hf; omega, few := by omega }
/-- set.add(x) -/
theorem set_add (Z : Ts P w s.heap a L es ep t) {x : Addr} {k : List Int} (kx : IsT P w s.heap k x) (hu : A.units + 8 < cLine) (more : L.length + 1 < 2400) {Q : Value → Shared → Prop}
    (c : ∀ h' L' es' ep' t' tk, Heap.SameBut a s.heap h' → Ts P w h' a L' es' ep' t' → (k ∈ L.map (·.2) → L' = L) → (k ∉ L.map (·.2) → L'.Perm ((x, k) :: L)) → Q .none { s with heap := h', toks := tk }) :
    wpAny (model P w) A (call (.builtin "set.add") [.ref a, .ref x]) Q E s := by
  obtain ⟨o, o1, o2, o3⟩ := Z.here
  refine wpAny_call_entry F.slot_set_add ⟨o, o1, o2.1⟩ F.entry_set_add ?_ (F.args_set_add_2 _ _)
  unfold Builtin.«set.add» Builtin.Frozenset.oneOther
  simp only [List.isEmpty_nil, bind_assoc]
  unfold Builtin.Frozenset.addrOf setAdd
  refine wpAny_bind (wpAny_pure ?_)
  try dsimp only
  refine wpAny_bind (wpAny_pure ?_)
  try dsimp only
  refine wpAny_bind (wpAny_holding ?_)
  refine wpAny_bind (wpAny_pyHash_tuple (by show A.units + 1 < cLine; omega) kx ?_)
  refine adds (s := { s with toks := s.toks + (k.length + 1) }) Z kx (by show A.units + 1 < cLine; omega) more fun b h' L' es' ep' t' sb Z' c1 c2 => ?_
  show wpAny _ _ (ret Value.none) _ _ _
  exact wpAny_pure ⟨_, rfl, c h' L' es' ep' t' _ sb Z' c1 c2⟩
end
end TQ
/-! TComp: {x for a in A for x in B}: a set of tuples of ints. -/
namespace TQ
open PySem PySem.Spec PyProof.Rows L2
/-- the set, without its tuples -/
def Tz (P : Program) (w : World) (h : Heap) (a : Addr) (L : List (Addr × List Int)) : Prop := ∃ (es : Array (Int × Value)) (ep : Nat) (t : SetTable), (∃ o, h.get? a = some o ∧ o.ExactSet ∧ o.data = .set es ep t) ∧ es.toList = rowsOf P w L ∧
  Tab t (L.map fun p => thash P w p.2) ∧ Grows t.mask ∧ (L.map (·.2)).Nodup ∧ t.plain = true ∧ (w.params.followText "set-order" = true ∨ t.led = true) ∧ L.length * 5 < t.mask * 3 ∧ L.length < 2400
def SetG (P : Program) (w : World) (a : Addr) (L : List (Addr × List Int)) : HO := .ext fun h => Tz P w h a L
section
variable {P : Program} {w : World} {h : Heap} {a : Addr} {L : List (Addr × List Int)} {es : Array (Int × Value)} {ep : Nat} {t : SetTable}
theorem Ts.tz (Z : Ts P w h a L es ep t) : Tz P w h a L := ⟨es, ep, t, Z.here, Z.rws, Z.tab, Z.gr, Z.uniq, Z.pl, Z.ld, Z.room, Z.few⟩
theorem Tz.ts (z : Tz P w h a L) (tp : ∀ p ∈ L, IsT P w h p.2 p.1) : ∃ es ep t, Ts P w h a L es ep t := by
  obtain ⟨es, ep, t, z1, z2, z3, z4, z5, z6, z7, z8, z9⟩ := z
  exact ⟨es, ep, t, ⟨z1, z2, z3, z4, z5, tp, z6, z7, z8, z9⟩⟩
theorem setG_ok {H : Hp} (z : Tz P w h a L) : ObjOk P w H h a (SetG P w a L) := by
  have ⟨es, ep, t, ⟨o, o1, o2⟩, q⟩ := z
  refine ⟨z, ⟨o, o1⟩, fun h1 h2 y k => ?_⟩
  have ⟨es', ep', t', ⟨o', u1, u2⟩, q'⟩ : Tz P w h1 a L := y
  exact ⟨es', ep', t', ⟨o', k o' u1, u2⟩, q'⟩
theorem tz_new {h : Heap} {a : Addr} (e : h.get? a = some { cls := .type "set", dict := none, data := .set #[] 0 (.fresh 0 0 (!w.params.followText "set-order")) }) : Tz P w h a [] := by
  refine ⟨#[], 0, _, ⟨_, e, ⟨rfl, rfl, rfl⟩, rfl⟩, rfl, Tab.fresh _ _ _, .inl rfl, List.nodup_nil, rfl, ?_, by show 0 * 5 < 7 * 3; decide, by show 0 < 2400; decide⟩
  show _ ∨ (!w.params.followText "set-order") = true
  cases w.params.followText "set-order"
  · exact .inr rfl
  · exact .inl rfl
end
section
variable {X : Cx}
/-- set.add of a tuple of ints -/
theorem add_here {pins : List (Addr × Obj)} {σ : L2.St} {H : Hp} {s : Shared} {E : Value → Shared → Prop} {D x : Addr} {L : List (Addr × List Int)} {k : List Int} {Q : Value → Shared → Prop} (I : Inv X pins σ H s) (hD : H D = some (SetG X.prog X.w D L))
    (tp : ∀ p ∈ L, SqT X.K H p.1 (p.2.map V.int)) (kx : SqT X.K H x (k.map V.int)) (hu : X.A.units + 8 < cLine) (more : L.length + 1 < 2400)
    (c : ∀ s' L', (k ∈ L.map (·.2) → L' = L) → (k ∉ L.map (·.2) → L'.Perm ((x, k) :: L)) → Inv X pins σ (upd H D (SetG X.prog X.w D L')) s' → Q .none s') : wpAny (model X.prog X.w) X.A (call (.builtin "set.add") [.ref D, .ref x]) Q E s := by
  have z : Tz X.prog X.w s.heap D L := (I.hok D _ hD).1
  obtain ⟨es, ep, t, Z⟩ := z.ts fun p m => I.isT (tp p m)
  refine set_add Z (I.isT kx) hu more fun h' L' es' ep' t' tk sb Z' c1 c2 => ?_
  have z' := Z'.tz
  have he : ∃ u, h'.get? D = some u := by
    obtain ⟨o, o1, _⟩ := Z'.here
    exact ⟨o, o1⟩
  exact c _ L' c1 c2 (I.write (e := D) (t' := tk) (by rw [hD]; trivial) (.inl rfl) (fun b u hb e => (sb.2 b hb).trans e) he (setG_ok z'))
end
abbrev cpr (elt t0 i0 t1 i1 : Expr) (scope : Scope) (pos : Pos) : Expr := .SetComp elt [⟨t0, i0, [], 0⟩, ⟨t1, i1, [], 0⟩] scope pos
theorem turn_outer (elt t0 i0 t1 i1 : Expr) (scope : Scope) (pos : Pos) (it acc : Value) (env : Env) :
    compTurn (cpr elt t0 i0 t1 i1 scope pos) 0 it acc env = (do
      standAt i0.pos
      match ← pyNext it with
      | none => pure (.done .next)
      | some v =>
        letOwnedTupleGo t0 it v
        assign t0 env v
        let x ← eval i1 env
        standAt i1.pos
        let x ← foldedSetIterable i1 env x
        let _ ← runOwn (.compStart (cpr elt t0 i0 t1 i1 scope pos) 1 (← holding [x] (pyIter x)) acc env) env
        again (.compLoop (cpr elt t0 i0 t1 i1 scope pos) 0 it acc env)) := by rfl
theorem turn_inner (elt t0 i0 t1 i1 : Expr) (scope : Scope) (pos : Pos) (it acc : Value) (env : Env) :
    compTurn (cpr elt t0 i0 t1 i1 scope pos) 1 it acc env = (do
      standAt i1.pos
      match ← pyNext it with
      | none => pure (.done .next)
      | some v =>
        letOwnedTupleGo t1 it v
        assign t1 env v
        (do let v ← eval elt env; standAt elt.pos; let _ ← call (.builtin "set.add") [acc, v])
        again (.compLoop (cpr elt t0 i0 t1 i1 scope pos) 1 it acc env)) := by rfl
section
variable {prog : Program} {w : World} {A : Around} {R : Result → Shared → Prop} {s : Shared} {elt t0 i0 t1 i1 : Expr} {scope : Scope} {pos : Pos} {it acc : Value} {env : Env}
theorem loop_outer (hs : ∀ x, foldedSetIterable i1 env x = pure x) (I : Nat → Shared → Prop)
    (turn : ∀ n s, I n s → wpAny (model prog w) A (pyNext it) (fun r s1 => match r with
      | none => R (.ok .next) s1
      | some v => wpAny (model prog w) A (letOwnedTupleGo t0 it v) (fun _ s2 => wpAny (model prog w) A (assign t0 env v) (fun _ s3 =>
          wpAny (model prog w) A (eval i1 env) (fun x s4 => wpAny (model prog w) A (pyIter x) (fun it1 s5 => codeAny (model prog w) A (.compStart (cpr elt t0 i0 t1 i1 scope pos) 1 it1 acc env) (fun r s' => match r with
            | .ok _ => ∃ m, m < n ∧ I m s'
            | .error _ => False) s5) (notedBy (model prog w) A env fun e s' => R (.error e) s') s4) (notedBy (model prog w) A env fun e s' => R (.error e) s') s3) (notedBy (model prog w) A env fun e s' => R (.error e) s') s2)
          (notedBy (model prog w) A env fun e s' => R (.error e) s') s1) (notedBy (model prog w) A env fun e s' => R (.error e) s') s) (n : Nat) (h : I n s) :
    codeAny (model prog w) A (.compLoop (cpr elt t0 i0 t1 i1 scope pos) 0 it acc env) R s := by
  refine codeAny_loop rfl I (fun n s hI => ?_) n h
  show wpAny _ A ((compTurn (cpr elt t0 i0 t1 i1 scope pos) 0 it acc env).onRaise (fun x => do noteFrame x env; theTreesLotGoes x)) _ _ s
  refine wpAny_noted ?_
  rw [turn_outer]
  refine wpAny_bind (wpAny_standAt (wpAny_bind (wpAny_mono (turn n s hI) (fun r s1 h1 => ?_) fun _ _ z => z)))
  cases r with
  | none => exact wpAny_pure h1
  | some v =>
    refine wpAny_bind (wpAny_mono h1 (fun _ s2 h2 => ?_) fun _ _ z => z)
    refine wpAny_bind (wpAny_mono h2 (fun _ s3 h3 => ?_) fun _ _ z => z)
    refine wpAny_bind (wpAny_mono h3 (fun x s4 h4 => ?_) fun _ _ z => z)
    refine wpAny_bind (wpAny_standAt (wpAny_bind (wpAny_of_eq (hs x) (wpAny_bind (wpAny_holding (wpAny_mono h4 (fun it1 s5 h5 => ?_) fun _ _ z => z))))))
    refine wpAny_bind (wpAny_runOwn ?_)
    rw [Around.mark_none]
    refine codeAny_mono h5 fun r s' hr => ?_
    cases r with
    | ok f =>
      first
        | exact wpAny_pure ⟨rfl, hr⟩
        | exact wpAny_bind (wpAny_pure (wpAny_pure ⟨rfl, hr⟩))
    | error e => exact hr.elim
theorem loop_inner (I : Nat → Shared → Prop)
    (turn : ∀ n s, I n s → wpAny (model prog w) A (pyNext it) (fun r s1 => match r with
      | none => R (.ok .next) s1
      | some v => wpAny (model prog w) A (letOwnedTupleGo t1 it v) (fun _ s2 => wpAny (model prog w) A (assign t1 env v) (fun _ s3 =>
          wpAny (model prog w) A (eval elt env) (fun x s4 => wpAny (model prog w) A (call (.builtin "set.add") [acc, x]) (fun _ s5 => ∃ m, m < n ∧ I m s5) (notedBy (model prog w) A env fun e s' => R (.error e) s') s4)
            (notedBy (model prog w) A env fun e s' => R (.error e) s') s3) (notedBy (model prog w) A env fun e s' => R (.error e) s') s2)
          (notedBy (model prog w) A env fun e s' => R (.error e) s') s1) (notedBy (model prog w) A env fun e s' => R (.error e) s') s) (n : Nat) (h : I n s) :
    codeAny (model prog w) A (.compLoop (cpr elt t0 i0 t1 i1 scope pos) 1 it acc env) R s := by
  refine codeAny_loop rfl I (fun n s hI => ?_) n h
  show wpAny _ A ((compTurn (cpr elt t0 i0 t1 i1 scope pos) 1 it acc env).onRaise (fun x => do noteFrame x env; theTreesLotGoes x)) _ _ s
  refine wpAny_noted ?_
  rw [turn_inner]
  refine wpAny_bind (wpAny_standAt (wpAny_bind (wpAny_mono (turn n s hI) (fun r s1 h1 => ?_) fun _ _ z => z)))
  cases r with
  | none => exact wpAny_pure h1
  | some v =>
    refine wpAny_bind (wpAny_mono h1 (fun _ s2 h2 => ?_) fun _ _ z => z)
    refine wpAny_bind (wpAny_mono h2 (fun _ s3 h3 => ?_) fun _ _ z => z)
    exact wpAny_bind (wpAny_bind (wpAny_mono h3 (fun x s4 h4 => wpAny_bind (wpAny_standAt (wpAny_bind (wpAny_mono h4 (fun _ s5 h5 => wpAny_pure (wpAny_pure ⟨rfl, h5⟩)) fun _ _ z => z)))) fun _ _ z => z))
theorem start_inner (h0 : codeAny (model prog w) A (.compLoop (cpr elt t0 i0 t1 i1 scope pos) 1 it acc env) R s)
    (h : wpAny (model prog w) A (pyIter it) (fun it' s' => codeAny (model prog w) A (.compLoop (cpr elt t0 i0 t1 i1 scope pos) 1 it' acc env) R s') (notedBy (model prog w) A env fun x s' => R (.error x) s') s) :
    codeAny (model prog w) A (.compStart (cpr elt t0 i0 t1 i1 scope pos) 1 it acc env) R s := by
  refine codeAny_of_tree ?_
  show wpAny _ _ ((compStart (cpr elt t0 i0 t1 i1 scope pos) 1 it acc env).onRaise (fun x => do noteFrame x env; standAt theWindowsPlace)) _ _ s
  refine wpAny_notedAt ?_
  unfold compStart
  show wpAny _ _ (ask >>= _) _ _ s
  refine wpAny_bind (wpAny_askSetting (wpAny_ite ?_))
  split
  · first
      | exact wpAny_bind (wpAny_pure (wpAny_pure (And.intro rfl h0)))
      | exact wpAny_pure (And.intro rfl h0)
  · first
      | exact wpAny_bind (wpAny_rule (wpAny_bind (wpAny_standAt (wpAny_bind (wpAny_mono h (fun it' s' z => wpAny_pure (And.intro rfl z)) fun _ _ z => z)))))
      | (refine wpAny_bind (wpAny_rule ?_); show wpAny _ _ (standAt i1.pos >>= _) _ _ s; exact wpAny_bind (wpAny_standAt (wpAny_bind (wpAny_mono h (fun it' s' z => wpAny_pure (And.intro rfl z)) fun _ _ z => z))))
end
end TQ
/-! TCp: the comprehension itself. -/
namespace TQ
open PySem PySem.Spec PyProof.Rows L2
section
variable {X : Cx}
def tCp (P : Program) (w : World) (K : PySem.W.Frag) (wi : TI) (g : TG) (wi1 : TI) (g1 : TG) (te : TE) (vs vs1 : List Nat) : TE := fun σ H Q => wi σ H fun J H1 => ∀ D, H1 D = none → ∃ W : Nat → Nat → Hp → Prop,
  (∃ m, W 0 m (upd H1 D (SetG P w D []))) ∧ ∀ i m H, W i m H → (J.stop i H ∧ Q (.ref D) H) ∨ (J.go i H ∧ ∃ Nx : Hp → Prop, (∀ H', Nx H' → ∃ m', m' < m ∧ W (i + 1) m' H') ∧
    ∀ x H', J.yld i H x H' → g x (wipe σ vs) H' fun σ2 H2 => wipe σ2 vs = wipe σ vs ∧ wi1 σ2 H2 fun J1 H4 => ∃ W1 : Nat → Nat → Hp → Prop, (∃ m, W1 0 m H4) ∧ ∀ j k H, W1 j k H →
      (J1.stop j H ∧ Nx H) ∨ (J1.go j H ∧ ∃ Nx1 : Hp → Prop, (∀ H', Nx1 H' → ∃ k', k' < k ∧ W1 (j + 1) k' H') ∧ ∀ x H', J1.yld j H x H' → g1 x (wipe σ2 vs1) H' fun σ3 H5 => wipe σ3 vs1 = wipe σ2 vs1 ∧
        te σ3 H5 fun y H6 => ∃ (xa : Addr) (L : List (Addr × List Int)) (ns : List Int), y = .ref xa ∧ H6 D = some (SetG P w D L) ∧ (∀ p ∈ L, SqT K H6 p.1 (p.2.map V.int)) ∧ SqT K H6 xa (ns.map V.int) ∧ L.length + 1 < 2400 ∧
          ∀ L', (ns ∈ L.map (·.2) → L' = L) → (ns ∉ L.map (·.2) → L'.Perm ((xa, ns) :: L)) → Nx1 (upd H6 D (SetG P w D L'))))
theorem cp_core {pins : List (Addr × Obj)} {u0 : Shared} {σ : L2.St} {H : Hp} {Q : VK} {elt tg it0 tg1 it1 : Expr} {scope : Scope} {mine : List (PySem.Str × Nat)} {vs1 : List Nat} {pos pos' : Pos} {wi wi1 : TI} {g g1 : TG} {te : TE} {use : Option (Value → Sem Unit)} {Qf : Value → Shared → Prop}
    (calm : X.calm = true) (hu : X.A.units + 8 < cLine) (hN : X.N.Nodup) (I0 : Inv X pins σ H u0) (hi : PI X tg it0 wi) (blk : BlkOk X.N X.env.scope scope mine) (hv : ∀ i ∈ vs1, i ∈ mine.map (·.2))
    (hg : ∀ (s : Shared) (H : Hp) (C : Addr) (cl : List (PySem.Str × Addr)) (fp : List Addr), PG (X.blk s H scope (compEnvC scope cl C X.env) fp) tg g)
    (hi1 : ∀ (s : Shared) (H : Hp) (C : Addr) (cl : List (PySem.Str × Addr)) (fp : List Addr), PI (X.blk s H scope (compEnvC scope cl C X.env) fp) tg1 it1 wi1)
    (hg1 : ∀ (s : Shared) (H : Hp) (C : Addr) (cl : List (PySem.Str × Addr)) (fp : List Addr), PG (X.blk s H scope (compEnvC scope cl C X.env) fp) tg1 g1)
    (he : ∀ (s : Shared) (H : Hp) (C : Addr) (cl : List (PySem.Str × Addr)) (fp : List Addr), PE (X.blk s H scope (compEnvC scope cl C X.env) fp) elt te) (fo : ∀ x, foldedSetIterable it0 X.env x = pure x) (fo1 : ∀ env x, foldedSetIterable it1 env x = pure x)
    (t : tCp X.prog X.w X.K wi g wi1 g1 te (mine.map (·.2)) vs1 σ H Q)
    (back : ∀ D C s' m H', Inv X pins σ H' s' → Q (.ref D) H' → s'.heap.Ns C m → FpOk X pins H' C → compPost (model X.prog X.w) X.A X.xe use Qf (.ref D) C (.ok .next) s') :
    wpAny (model X.prog X.w) X.A (comprehension (cpr elt tg it0 tg1 it1 scope pos) scope X.env pos' (newSet (.type "set")) false (eval it0 X.env) use) Qf X.xe u0 := by
  have frees : ∀ y ∈ scope.names, y.2 = .free → ∃ c, X.env.cells.lookup y.1 = some c := fun y m e => (blk.free y m e).elim (fun z => I0.ok.has _ (.inl z)) fun z => I0.ok.has _ (.inr z)
  refine wpAny_comprehension_free (use := use) rfl fo (closure_ok frees) blk.kind (fun y m e => by rw [blk.uniq y m, e]) (thn (hi.run pins u0 σ H _ I0 t) fun xv u1 h1 => thn h1 fun itv u2 h2 => ?_)
  obtain ⟨it, fp, tn, J, H2, rfl, I2, T, st2, fp2, q⟩ := h2
  refine PpSet.newSet_ok (newEnv_comp ?_)
  obtain ⟨D, eD⟩ : ∃ D, u2.heap.objs.size = D := ⟨_, rfl⟩
  rw [eD]
  have D2 : H2 D = none := I2.hok.fresh (Nat.le_of_eq eD)
  obtain ⟨W, ⟨m0, w0⟩, turn⟩ := q D D2
  obtain ⟨u3, eu3⟩ : ∃ u3 : Shared, { u2 with heap := u2.heap.push { cls := .type "set", dict := none, data := .set #[] 0 (.fresh 0 0 (!X.w.params.followText "set-order")) } } = u3 := ⟨_, rfl⟩
  have hp3 : u3.heap = u2.heap.push { cls := .type "set", dict := none, data := .set #[] 0 (.fresh 0 0 (!X.w.params.followText "set-order")) } := by rw [← eu3]
  have I3 : Inv X pins σ (upd H2 D (SetG X.prog X.w D [])) u3 := by
    rw [← eu3]
    refine I2.laid (t' := u2.toks) (fun b o e => Heap.get?_push_of_some _ e) (Nat.le_of_eq eD) ?_
    rw [← eD]
    exact setG_ok (tz_new (Heap.get?_push_size _ rfl))
  have fp3 : ∀ b ∈ fp, FpOk X pins (upd H2 D (SetG X.prog X.w D [])) b ∧ b < u3.heap.objs.size := fun b mb => by
    obtain ⟨o, eo, _⟩ := T.obj _ _ st2 b mb
    have lt := Heap.lt_size eo
    refine ⟨⟨?_, (fp2 b mb).2⟩, by rw [hp3, Heap.size_push]; exact Nat.lt_succ_of_lt lt⟩
    rw [upd_ne (by rw [← eD]; exact Nat.ne_of_lt lt)]
    exact (fp2 b mb).1
  have st3 : tn 0 u3.heap := T.keep _ _ _ st2 fun b _ o e => by rw [hp3]; exact Heap.get?_push_of_some _ e
  have I4 := block_start I3 blk hN fp3
  have none3 : ∀ b ∈ fp, (upd H2 D (SetG X.prog X.w D [])) b = none := fun b mb => (fp3 b mb).1.1
  rw [eu3]
  obtain ⟨cls, ecl⟩ : ∃ cls, cellsFrom (u3.heap.objs.size + 1) scope.names (cloFrom X.env.cells scope.names []) = cls := ⟨_, rfl⟩
  have yg := hg u3 (upd H2 D (SetG X.prog X.w D [])) u3.heap.objs.size cls fp
  have yi := hi1 u3 (upd H2 D (SetG X.prog X.w D [])) u3.heap.objs.size cls fp
  have yg1 := hg1 u3 (upd H2 D (SetG X.prog X.w D [])) u3.heap.objs.size cls fp
  have ye := he u3 (upd H2 D (SetG X.prog X.w D [])) u3.heap.objs.size cls fp
  rw [← ecl] at yg yi yg1 ye
  show codeAny _ _ (.compStart (cpr elt tg it0 tg1 it1 scope pos) 0 (.ref it) (.ref D) (compEnvC scope (cellsFrom (u3.heap.objs.size + 1) scope.names (cloFrom X.env.cells scope.names [])) u3.heap.objs.size X.env)) (compPost (model X.prog X.w) X.A X.xe use Qf (.ref D) u3.heap.objs.size)
    { u3 with heap := pushCells (u3.heap.push { cls := .type "dict", data := .dict #[] }) scope.names }
  generalize ece : compEnvC scope (cellsFrom (u3.heap.objs.size + 1) scope.names (cloFrom X.env.cells scope.names [])) u3.heap.objs.size X.env = ce at I4 yg yi yg1 ye ⊢
  have ceL : ce.locals = u3.heap.objs.size := by subst ece; rfl
  generalize eH3 : upd H2 D (SetG X.prog X.w D []) = H3 at I3 I4 yg yi yg1 ye w0 none3 fp3
  generalize eu4 : ({ u3 with heap := pushCells (u3.heap.push { cls := .type "dict", data := .dict #[] }) scope.names } : Shared) = u4 at I4 ⊢
  have st4 : tn 0 u4.heap := T.keep _ _ _ st3 fun b _ o e => by rw [← eu4]; exact pushCells_keeps _ _ _ _ (Heap.get?_push_of_some _ e)
  generalize eB : X.blk u3 H3 scope ce fp = B at I4 yg yi yg1 ye
  subst eB
  have fpB : ∀ {σ' : L2.St} {H' : Hp} {s' : Shared}, Inv (X.blk u3 H3 scope ce fp) [] σ' H' s' → (∀ b ∈ fp, H' b = none) → ∀ b ∈ fp, FpOk (X.blk u3 H3 scope ce fp) [] H' b := fun {σ' H' s'} I' n b mb =>
    ⟨n b mb, (I'.ok.exf b mb).1, I'.ok.exfs b mb, .inl mb, fun x c e => (I'.ok.exf b mb).2 x c e, fun p mp => absurd (show p ∈ ([] : List (Addr × Obj)) ++ [] from mp) (by simp)⟩
  have loop : codeAny (model X.prog X.w) X.A (.compLoop (cpr elt tg it0 tg1 it1 scope pos) 0 (.ref it) (.ref D) ce) (compPost (model X.prog X.w) X.A X.xe use Qf (.ref D) u3.heap.objs.size) u4 := by
    refine loop_outer (fo1 ce) (fun n s' => ∃ i H', Inv (X.blk u3 H3 scope ce fp) [] (wipe σ (mine.map (·.2))) H' s' ∧ tn i s'.heap ∧ (∀ b ∈ fp, H' b = none) ∧ W i n H') ?_ m0 ⟨0, H3, I4, st4, none3, w0⟩
    rintro n u5 ⟨i, H5, I5, st5, n5, w5⟩
    rcases turn i n H5 w5 with ⟨stop, fin⟩ | ⟨go, Nx, nx, step⟩
    · refine thnF (T.done (X.blk u3 H3 scope ce fp) rfl rfl rfl calm i [] u5 _ H5 (fun _ _ => False) I5 (fpB I5 n5) st5 stop) fun r u6 ⟨er, I6⟩ => ?_
      subst er
      have I7 : Inv X pins σ H5 u6 := I3.call' (ch := fp) I6.os I6.base I6.hok I6.bare fun b mb => ⟨(fp3 b mb).1.2.2.2.1, (fp3 b mb).1.2.1, (fp3 b mb).1.2.2.2.2.1, (fp3 b mb).1.2.2.2.2.2⟩
      have nL : H5 u3.heap.objs.size = none := by
        have z : H5 ce.locals = none := I6.free
        rwa [ceL] at z
      obtain ⟨m, ns, _⟩ := I6.loc
      have ns : u6.heap.Ns ce.locals m := ns
      rw [ceL] at ns
      exact back D _ u6 m H5 I7 fin ns (I3.fpOk (Nat.le_refl _) nL)
    · refine thnF (T.item (X.blk u3 H3 scope ce fp) rfl rfl rfl calm i [] u5 _ H5 (fun _ _ => False) I5 (fpB I5 n5) st5 go) fun r u6 ⟨xv, er, h6⟩ => ?_
      subst er
      refine thnF h6 fun _ u7 ⟨x, H7, I7, r7, y7, st7, n7⟩ => ?_
      have I7p := I7.pinned (fpB I7 n7) (T.obj _ _ st7)
      refine thnF (yg.run _ u7 _ H7 x xv _ I7p r7 (step x H7 y7)) fun _ u8 ⟨σ8, H8, I8, ew8, q8⟩ => ?_
      have len8 : (wipe σ (mine.map (·.2))).length = σ8.length := by rw [← ew8, wipe_length]
      have old8 : ∀ (j : Nat) v, (wipe σ (mine.map (·.2)))[j]? = some (some v) → (wipe σ8 vs1)[j]? = some (some v) := fun j v e => by
        rw [← ew8] at e
        obtain ⟨e1, e2⟩ := wipe_some e
        rw [wipe_out fun z => e2 (hv j z)]
        exact e1
      refine thnF (yi.run _ u8 σ8 H8 _ I8 q8) fun xv1 u9 h9 => thnF h9 fun itv1 u10 h10 => ?_
      obtain ⟨jt, fq, tn1, J1, H10, rfl, I10, T1, st10, fq10, W1, ⟨m1, w1⟩, turn1⟩ := h10
      have fpC : ∀ {H' : Hp}, (∀ b ∈ fq, H' b = none) → ∀ b ∈ fq, FpOk (X.blk u3 H3 scope ce fp) ([] ++ pinsAt fp u7.heap) H' b := fun n b mb => ⟨n b mb, (fq10 b mb).2⟩
      have loop1 : codeAny (model X.prog X.w) X.A (.compLoop (cpr elt tg it0 tg1 it1 scope pos) 1 (.ref jt) (.ref D) ce)
          (fun r s' => match r with
            | .ok _ => ∃ m, m < n ∧ ∃ i H', Inv (X.blk u3 H3 scope ce fp) [] (wipe σ (mine.map (·.2))) H' s' ∧ tn i s'.heap ∧ (∀ b ∈ fp, H' b = none) ∧ W i m H'
            | .error _ => False) u10 := by
        refine loop_inner (fun k s' => ∃ j H', Inv (X.blk u3 H3 scope ce fp) ([] ++ pinsAt fp u7.heap) (wipe σ8 vs1) H' s' ∧ tn1 j s'.heap ∧ (∀ b ∈ fq, H' b = none) ∧ W1 j k H') ?_ m1
          ⟨0, H10, I10.weak (wipe_length _ _) (fun j v e => (wipe_some e).1), st10, fun b mb => (fq10 b mb).1, w1⟩
        rintro k u11 ⟨j, H11, I11, st11, n11, w11⟩
        rcases turn1 j k H11 w11 with ⟨stop1, fin1⟩ | ⟨go1, Ny, ny, step1⟩
        · refine thnF (T1.done (X.blk u3 H3 scope ce fp) rfl rfl rfl calm j _ u11 (wipe σ8 vs1) H11 (fun _ _ => False) I11 (fpC n11) st11 stop1) fun r u12 ⟨er, I12⟩ => ?_
          subst er
          obtain ⟨m', lm, w'⟩ := nx H11 fin1
          have kept : ∀ b ∈ fp, ∀ o, u7.heap.get? b = some o → u12.heap.get? b = some o ∧ H11 b = none := fun b mb o e =>
            let z := I12.pin (b, o) (List.mem_append_right _ (List.mem_append_right _ (mem_pinsAt mb e)))
            ⟨z.1, z.2.1⟩
          refine ⟨m', lm, i + 1, H11, (I12.unpinned (pins := [])).weak (len8.trans (wipe_length σ8 vs1).symm) old8, T.keep _ _ _ st7 fun b mb o e => (kept b mb o e).1, fun b mb => ?_, w'⟩
          obtain ⟨o, eo, _⟩ := T.obj _ _ st7 b mb
          exact (kept b mb o eo).2
        · refine thnF (T1.item (X.blk u3 H3 scope ce fp) rfl rfl rfl calm j _ u11 (wipe σ8 vs1) H11 (fun _ _ => False) I11 (fpC n11) st11 go1) fun r u12 ⟨yv, er, h12⟩ => ?_
          subst er
          refine thnF h12 fun _ u13 ⟨y, H13, I13, r13, y13, st13, n13⟩ => ?_
          have I13p := I13.pinned (fpC n13) (T1.obj _ _ st13)
          refine thnF (yg1.run _ u13 (wipe σ8 vs1) H13 y yv _ I13p r13 (step1 y H13 y13)) fun _ u14 ⟨σ14, H14, I14, ew14, q14⟩ => ?_
          refine thnF (ye.run _ u14 σ14 H14 _ I14 q14) fun z u15 ⟨zv, H15, I15, r15, xa, L, ns, ez, hD, tps, kx, more, cont⟩ => ?_
          subst ez
          cases (show z = Value.ref xa from r15)
          refine add_here (X := X.blk u3 H3 scope ce fp) I15 hD tps kx hu more fun u16 L' c1 c2 I16 => ?_
          obtain ⟨m', lm, w'⟩ := ny _ (cont L' c1 c2)
          have kept : ∀ b ∈ fq, ∀ o, u13.heap.get? b = some o → u16.heap.get? b = some o ∧ (upd H15 D (SetG X.prog X.w D L')) b = none := fun b mb o e =>
            let z := I16.pin (b, o) (List.mem_append_right _ (List.mem_append_right _ (mem_pinsAt mb e)))
            ⟨z.1, z.2.1⟩
          refine ⟨m', lm, j + 1, _, I16.unpinned.weak (by rw [← ew14, wipe_length]) (fun j v e => by rw [← ew14] at e; exact (wipe_some e).1), T1.keep _ _ _ st13 fun b mb o e => (kept b mb o e).1, fun b mb => ?_, w'⟩
          obtain ⟨o, eo, _⟩ := T1.obj _ _ st13 b mb
          exact (kept b mb o eo).2
      exact start_inner loop1 (T1.self X.A 0 _ _ _ st10 loop1)
  exact PpSet.codeAny_compStart_set loop (T.self X.A 0 _ _ _ st4 loop)
theorem pe_cp {elt tg it0 tg1 it1 : Expr} {scope : Scope} {mine : List (PySem.Str × Nat)} {vs1 : List Nat} {pos : Pos} {wi wi1 : TI} {g g1 : TG} {te : TE} (calm : X.calm = true) (hu : X.A.units + 8 < cLine) (hN : X.N.Nodup) (hi : PI X tg it0 wi) (blk : BlkOk X.N X.env.scope scope mine) (hv : ∀ i ∈ vs1, i ∈ mine.map (·.2))
    (hg : ∀ (s : Shared) (H : Hp) (C : Addr) (cl : List (PySem.Str × Addr)) (fp : List Addr), PG (X.blk s H scope (compEnvC scope cl C X.env) fp) tg g)
    (hi1 : ∀ (s : Shared) (H : Hp) (C : Addr) (cl : List (PySem.Str × Addr)) (fp : List Addr), PI (X.blk s H scope (compEnvC scope cl C X.env) fp) tg1 it1 wi1)
    (hg1 : ∀ (s : Shared) (H : Hp) (C : Addr) (cl : List (PySem.Str × Addr)) (fp : List Addr), PG (X.blk s H scope (compEnvC scope cl C X.env) fp) tg1 g1)
    (he : ∀ (s : Shared) (H : Hp) (C : Addr) (cl : List (PySem.Str × Addr)) (fp : List Addr), PE (X.blk s H scope (compEnvC scope cl C X.env) fp) elt te) (fo : ∀ x, foldedSetIterable it0 X.env x = pure x := by intro _; rfl) (fo1 : ∀ env x, foldedSetIterable it1 env x = pure x := by intro _ _; rfl) :
    PE X (cpr elt tg it0 tg1 it1 scope pos) (tCp X.prog X.w X.K wi g wi1 g1 te (mine.map (·.2)) vs1) := by
  refine ⟨fun pins s σ H Q I t => ?_⟩
  rw [PpSet.eval_SetComp]
  refine cp_core calm hu hN I hi blk hv hg hi1 hg1 he fo fo1 t fun D C s' m H' I' q ns f => ⟨m, ns, fun h'' sb => ?_⟩
  obtain ⟨f0, f1, f2, f3, f4, f5⟩ := f
  exact ⟨.ref D, H', I'.turned (t' := s'.toks) (fun b o hb e => (sb.2 b hb).trans e) f0 f1 f3 f4 f5, rfl, q⟩
end
end TQ
/-! TSort: sorted(a set of tuples of ints). -/
namespace TQ
open PySem PySem.Spec PyProof.Rows L2
/-- an ascending list of tuples, each once -/
def Asc (l : List (List Int)) : Prop := l.Pairwise (· < ·)
theorem asc_mem_ext : ∀ {l m : List (List Int)}, Asc l → Asc m → (∀ k, k ∈ l ↔ k ∈ m) → l = m
  | [], [], _, _, _ => rfl
  | [], y :: m, _, _, h => absurd ((h y).2 List.mem_cons_self) (by simp)
  | x :: l, [], _, _, h => absurd ((h x).1 List.mem_cons_self) (by simp)
  | x :: l, y :: m, a, b, h => by
    obtain ⟨a1, a2⟩ := List.pairwise_cons.mp a
    obtain ⟨b1, b2⟩ := List.pairwise_cons.mp b
    have e : x = y := by
      rcases List.mem_cons.mp ((h x).1 List.mem_cons_self) with e | e
      · exact e
      · rcases List.mem_cons.mp ((h y).2 List.mem_cons_self) with e2 | e2
        · exact e2.symm
        · exact absurd (List.lt_trans (a1 y e2) (b1 x e)) (List.lt_irrefl x)
    subst e
    refine congrArg (x :: ·) (asc_mem_ext a2 b2 fun k => ⟨fun z => ?_, fun z => ?_⟩)
    · rcases List.mem_cons.mp ((h k).1 (List.mem_cons_of_mem _ z)) with e | e
      · subst e; exact absurd (a1 _ z) (List.lt_irrefl _)
      · exact e
    · rcases List.mem_cons.mp ((h k).2 (List.mem_cons_of_mem _ z)) with e | e
      · subst e; exact absurd (b1 _ z) (List.lt_irrefl _)
      · exact e
theorem perm_lift {α β : Type} {f : α → β} {l m : List β} (h : l.Perm m) : ∀ L, m = L.map f → ∃ L1 : List α, l = L1.map f ∧ L1.Perm L := by
  induction h with
  | nil =>
    intro L e
    cases L with
    | nil => exact ⟨[], rfl, .nil⟩
    | cons _ _ => cases e
  | cons x p ih =>
    intro L e
    cases L with
    | nil => cases e
    | cons y L =>
      obtain ⟨L1, e1, p1⟩ := ih L (by simpa using (List.cons.inj e).2)
      exact ⟨y :: L1, by rw [e1, (List.cons.inj e).1]; rfl, p1.cons y⟩
  | swap x y l =>
    intro L e
    match L, e with
    | a :: b :: L, e =>
      have e1 := (List.cons.inj e).1
      have e2 := (List.cons.inj e).2
      exact ⟨b :: a :: L, by rw [e1, (List.cons.inj e2).1, (List.cons.inj e2).2]; rfl, List.Perm.swap ..⟩
  | trans p q ih1 ih2 =>
    intro L e
    obtain ⟨L1, e1, p1⟩ := ih2 L e
    obtain ⟨L2, e2, p2⟩ := ih1 L1 e1
    exact ⟨L2, e2, p2.trans p1⟩
def encT (p : Addr × List Int) : PyData := .tuple (p.2.map .int)
theorem le_encT : PySem.W.dataLe false encT = fun p q => decide (p.2 ≤ q.2) := by
  funext p q
  show (!PySem.W.dataLt (.tuple (q.2.map .int)) (.tuple (p.2.map .int))) = _
  rw [PySem.W.dataLt_tuple]
  show (!PySem.W.rowLt (q.2.map .int) (p.2.map .int)) = _
  rw [PySem.W.dataLt_ints]
  by_cases h : q.2 < p.2
  · have : ¬ p.2 ≤ q.2 := fun r => List.not_lt.mpr r h
    simp [h, this]
  · have : p.2 ≤ q.2 := List.not_lt.mp h
    simp [h, this]
section
variable {P : Program} {w : World}
theorem reads_items {h : Heap} {k : List Int} {vs : List Value} (x : ItemsAre (intKind P w) k vs) : ReadsAll h vs (k.map .int) [] := by
  induction x with
  | nil => exact .nil
  | @cons k0 v ks vs h1 _ ih =>
    obtain ⟨t, rfl⟩ := Value.isInt_shape h1
    exact .cons (as := []) (.int k0 t) ih
theorem reads_tup {h : Heap} {p : Addr × List Int} (x : IsT P w h p.2 p.1) : Reads h (.ref p.1) (encT p) [] := by
  obtain ⟨o, items, n, ho, hc, hd, hi⟩ := x
  exact .tuple ho hc hd (reads_items hi)
variable {A : Around} {E : Value → Shared → Prop} {s : Shared}
theorem sorted_set {a : Addr} {L : List (Addr × List Int)} {es : Array (Int × Value)} {ep : Nat} {t : SetTable} {Q : Value → Shared → Prop} (Z : Ts P w s.heap a L es ep t) (hh : A.handled = none) (hu : A.units + 16 < cLine) (ne : ∀ p ∈ L, p.2 ≠ [])
    (c : ∀ s' l (out : Array Value) (n : Nat) (L' : List (Addr × List Int)), (∀ b o, s.heap.get? b = some o → s'.heap.get? b = some o) → s'.gens = s.gens → s'.os = s.os → s.heap.objs.size ≤ l →
      s'.heap.get? l = some (seqObj "list" out n) → out.toList = L'.map (fun q => Value.ref q.1) → L'.Perm L → L'.Pairwise (fun q r => q.2 ≤ r.2) → Q (.ref l) s') :
    wpAny (model P w) A (call (.builtin "sorted") [.ref a]) Q E s := by
  obtain ⟨o, o1, o2, o3⟩ := Z.here
  have ls := rws_len Z.rws
  refine Calls.call_function_entry kind_sorted plain_sorted entry_sorted (args_sorted1 _) ?_
  unfold Builtin.«sorted»
  refine wpAny_bind (m := checkCount "sorted" 1 1 _) (wpAny_pure ?_)
  refine wpAny_bind (collect_set (A := A.in1) hh ⟨o, o1, o2.1, o3⟩ Z.fit (by have := Z.few; unfold scanBound; omega) Z.tab.up Z.ld fun s1 vs k1 z1 g1 os1 pm => ?_)
  have ev : es.toList.map (·.2) = L.map fun q => Value.ref q.1 := by
    rw [Z.rws]
    exact List.map_map ..
  obtain ⟨L1, e1, p1⟩ := perm_lift pm L ev
  have l1 : L1.length = L.length := p1.length_eq
  have few := Z.few
  subst e1
  refine wpAny_bind (wpAny_newList ?_ (by rw [List.length_map, sizeLine_eq]; omega))
  have ob : (s1.heap.push (seqObj "list" (L1.map fun q => Value.ref q.1).toArray 0)).get? s1.heap.objs.size = some (seqObj "list" (L1.map fun q => Value.ref q.1).toArray 0) := Heap.get?_push_size _ rfl
  have rd : ∀ q ∈ L1, Reads (s1.heap.push (seqObj "list" (L1.map fun q => Value.ref q.1).toArray 0)) (.ref q.1) (encT q) [] := fun q m =>
    reads_tup (P := P) (w := w) (isT_keep (Z.tps q (p1.mem_iff.mp m)) fun b u e => Heap.get?_push_of_some _ (k1 b u e))
  have each : ∀ M : List (Addr × List Int), (∀ q ∈ M, q ∈ L1) → PySem.W.EachIs (fun v (q : Addr × List Int) => ∃ as, Reads (s1.heap.push (seqObj "list" (L1.map fun q => Value.ref q.1).toArray 0)) v (encT q) as ∧ s1.heap.objs.size ∉ as) (M.map fun q => Value.ref q.1) M := by
    intro M
    induction M with
    | nil => intro _; exact .nil
    | cons q M ih => intro hm; exact .cons ⟨[], rd q (hm q List.mem_cons_self), by simp⟩ (ih fun r hr => hm r (List.mem_cons_of_mem _ hr))
  have refs : ∀ M : List (Addr × List Int), PySem.W.EachIs (fun v (q : Addr × List Int) => v = Value.ref q.1) (M.map fun q => Value.ref q.1) M := by
    intro M
    induction M with
    | nil => exact .nil
    | cons q M ih => exact .cons rfl ih
  have unref : ∀ {vs : List Value} {M : List (Addr × List Int)}, PySem.W.EachIs (fun v (q : Addr × List Int) => v = Value.ref q.1) vs M → vs = M.map fun q => Value.ref q.1 := by
    intro vs M h
    induction h with
    | nil => rfl
    | cons e _ ih => rw [e, ih]; rfl
  refine wpAny_bind (wpAny_holding (PySem.W.list_sort_data (s := { s1 with heap := s1.heap.push (seqObj "list" (L1.map fun q => Value.ref q.1).toArray 0) }) (R := fun v (q : Addr × List Int) => v = Value.ref q.1) (bs := L1) (enc := encT) ob (refs L1) (each L1 fun q m => m) ?_ ?_ (by rw [sizeLine_eq]; omega) ?_ fun out lo eo => ?_))
  · exact PySem.W.AllAlike.of fun p q => by
      unfold encT
      rw [PySem.W.alike, PySem.W.alike_ints]
  · refine .inl fun d md => ?_
    obtain ⟨q, mq, rfl⟩ := List.mem_map.mp md
    have nq := ne q (p1.mem_iff.mp mq)
    unfold encT
    cases e : q.2 with
    | nil => exact absurd e nq
    | cons x r => exact ⟨_, _, rfl⟩
  · intro q _
    have : (encT q).depth = PyData.depthAll (q.2.map .int) + 1 := by unfold encT; simp [PyData.depth]
    rw [this, PySem.W.depth_ints]
    show A.units + 1 + 1 + (0 + 1) < _
    omega
  · obtain ⟨n, en⟩ := sortedHeap_at (vs := L1.map fun q => Value.ref q.1) (out := out.toArray) ob
    have eo' := unref eo
    refine wpAny_pure ⟨_, rfl, c _ s1.heap.objs.size out.toArray n (L1.mergeSort (PySem.W.dataLe false encT)) (fun b u e => ?_) g1 os1 z1 en (by simpa using eo') ((List.mergeSort_perm ..).trans p1) ?_⟩
    · have q := k1 b u e
      have lt := Heap.lt_size q
      show (sortedHeap (s1.heap.push (seqObj "list" (L1.map fun q => Value.ref q.1).toArray 0)) s1.heap.objs.size (L1.map fun q => Value.ref q.1) out.toArray).get? b = some u
      rw [sortedHeap_old (Nat.ne_of_lt lt) (by rw [size_push']; exact Nat.lt_succ_of_lt lt)]
      exact Heap.get?_push_of_some _ q
    · rw [le_encT]
      have := List.pairwise_mergeSort (le := fun p q : Addr × List Int => decide (p.2 ≤ q.2)) (fun a b c h1 h2 => by simp only [decide_eq_true_eq] at *; exact List.le_trans h1 h2) (fun a b => by simp only [Bool.or_eq_true, decide_eq_true_eq]; exact List.le_total ..) L1
      exact this.imp fun h => by simpa using h
end
section
variable {X : Cx}
def rSorted (P : Program) (w : World) (K : PySem.W.Frag) : List V → Hp → VK → Prop := fun vs H Q => ∃ (a : Addr) (L : List (Addr × List Int)), vs = [V.ref a] ∧ H a = some (SetG P w a L) ∧ (∀ p ∈ L, SqT K H p.1 (p.2.map V.int)) ∧ (∀ p ∈ L, p.2 ≠ []) ∧
  ∀ (L' : List (Addr × List Int)) (l : Addr), L'.Perm L → L'.length ≤ sizeLine → Asc (L'.map (·.2)) → H l = none → Q (.ref l) (upd H l (.lst (L'.map fun q => V.ref q.1)))
theorem call_sorted (calm : X.calm = true) (hu : X.A.units + 16 < cLine) : CallR X (.builtin "sorted") (rSorted X.prog X.w X.K) := by
  intro pins s σ H vs us Q I r h
  obtain ⟨a, L, rfl, ha, tp, ne, q⟩ := h
  have z : Tz X.prog X.w s.heap a L := (I.hok a _ ha).1
  obtain ⟨es, ep, t, Z⟩ := z.ts fun p m => I.isT (tp p m)
  rw [Vals.ref1 r]
  refine sorted_set Z (I.ok.hd calm) hu ne fun s' l out n L' k g o lz lo eo pm srt => ?_
  have few : L'.length ≤ sizeLine := by rw [pm.length_eq, sizeLine_eq]; have := Z.few; omega
  have nl : H l = none := I.hok.fresh lz
  have uq : (L'.map (·.2)).Nodup := (pm.map (·.2)).nodup_iff.mpr Z.uniq
  have asc : Asc (L'.map (·.2)) := by
    unfold Asc
    have h2 : (L'.map (·.2)).Pairwise (fun a b => a ≤ b) := List.pairwise_map.mpr srt
    exact (h2.and uq).imp fun {x y} ⟨h3, h4⟩ => by
      rcases Classical.em (x < y) with c | c
      · exact c
      · exact absurd (List.le_antisymm h3 (List.not_lt.mp c)) h4
  have J : Inv X pins σ (upd H l (.lst (L'.map fun q => V.ref q.1))) { s with heap := s'.heap, gens := s'.gens, drawn := s'.drawn, toks := s'.toks } :=
    I.call (ch := []) (Un.laid k lz nl) (I.hok.laid k lz ⟨by rw [List.length_map]; exact few, out.toList, n, by rw [eo]; exact vals_of_refs L', lo⟩) (by rw [g]; exact I.bare) (fun _ z => nomatch z)
  have es' : s' = { s with heap := s'.heap, gens := s'.gens, drawn := s'.drawn, toks := s'.toks } := by
    cases s'
    cases s
    cases o
    rfl
  rw [es']
  exact ⟨.ref l, _, J, rfl, q L' l pm few asc nl⟩
end
end TQ
/-! TEnum: enumerate of a tuple. -/
namespace TQ
open PySem PySem.Spec PyProof.Rows L2
open Sem (wp)
theorem enum_new {v : Value} {ob : Obj} {Z : Heap → Prop} (B : Begins v ob Z) :
    Meets (Builtin.«enumerate.__new__» ⟨[.type "enumerate", v], []⟩) (fun _ R s => Z s.heap ∧
      R (.ok (.ret (.ref (s.heap.push ob).objs.size))) { s with heap := (s.heap.push ob).push { cls := .type "enumerate", data := .fields #[.none, .bool false, .ref s.heap.objs.size, rawInt 0, .none, .none] } }) :=
  .of_wp fun prog w A R s h => by
    obtain ⟨hp, g, d, tk, os⟩ := s; obtain ⟨z, h⟩ := h
    have hsub := sub_enumerate
    have go : ∀ {A' : Around} {E : Value → Shared → Prop} {Q : Value → Shared → Prop}, Q (.ref hp.objs.size) ⟨hp.push ob, g, d, tk, os⟩ → wpAny (model prog w) A' (pyIter v) Q E ⟨hp, g, d, tk, os⟩ :=
      fun q => B.iter prog w _ _ ⟨hp, g, d, tk, os⟩ _ z q
    wp_walk
    refine wpAny_stack_any fun st => wpAny_pure ?_
    split
    · rename_i c _ _ _ _ _
      cases (c == Value.type "enumerate")
      · wp_walk using go
        exact ⟨_, rfl, h⟩
      · wp_walk using go
        exact ⟨_, rfl, h⟩
    · wp_walk using go
      exact ⟨_, rfl, h⟩
section
variable {prog : Program} {w : World} {A : Around} {E : Value → Shared → Prop} {s : Shared}
theorem enum_begins {v : Value} {ob : Obj} {Z : Heap → Prop} {Q : Value → Shared → Prop} (B : Begins v ob Z) (z : Z s.heap)
    (c : ∀ h', IsEnum h' (s.heap.objs.size + 1) s.heap.objs.size 0 .none → h'.get? s.heap.objs.size = some ob → (∀ b o, s.heap.get? b = some o → h'.get? b = some o) → Q (.ref (s.heap.objs.size + 1)) { s with heap := h' }) :
    wpAny (model prog w) A (call (.type "enumerate") [v]) Q E s := by
  refine callType_new F.called_enumerate (by decide) (F.typeCall_enumerate_1 _) (F.newCall_enumerate_1 _) (fun obj => F.args_object_init_2 obj _) F.entry_enumerate_new (enum_new B) ⟨z, ?_⟩
  have z1 : (s.heap.push ob).objs.size = s.heap.objs.size + 1 := Heap.size_push ..
  have g1 : ((s.heap.push ob).push { cls := .type "enumerate", data := .fields #[.none, .bool false, .ref s.heap.objs.size, rawInt 0, .none, .none] }).get? (s.heap.push ob).objs.size = some { cls := .type "enumerate", data := .fields #[.none, .bool false, .ref s.heap.objs.size, rawInt 0, .none, .none] } := Heap.get?_push_size _ rfl
  show _ ∧ _
  rw [z1] at g1 ⊢
  exact ⟨⟨_, g1, rfl⟩, c _ g1 (Heap.get?_push_of_some _ (Heap.get?_push_size _ B.free)) fun b o x => Heap.get?_push_of_some _ (Heap.get?_push_of_some _ x)⟩
end
/-- the walk of enumerate(a tuple) -/
def Iet (K : PySem.W.Frag) (a : Addr) : It :=
  ⟨fun i H => ∃ (xs : List V) (x : V), SqT K H a xs ∧ xs[i]? = some x, fun i H v H' => ∃ T x, v = .ref T ∧ H T = none ∧ H' = upd H T (.tup [.int (i : Nat), x]) ∧ ∀ xs, SqT K H a xs → xs[i]? = some x, fun i H => ∃ xs : List V, SqT K H a xs ∧ xs.length = i⟩
theorem isTup_tuple {h : Heap} {a : Addr} {its : Array Value} (x : IsTup h a its) : h.IsTuple a its := by
  obtain ⟨o, ho, hc, n, hd⟩ := x
  exact ⟨o, ho, hc, n, hd⟩
theorem turn_et {P : Program} {w : World} {K : PySem.W.Frag} {elts : List Expr} {kk : Nat} {tpos : Pos} (a e it : Addr) :
    Turn P w K (.Tuple elts kk tpos) (Iet K a) [e, it] e (fun i h => (∃ old, IsEnum h e it ((i : Nat) : Int) old) ∧ h.IsTupleIter it a i ∧ e ≠ it ∧ a ≠ e ∧ a ≠ it) where
  mem := by simp
  obj := fun i h st b hb => by
    obtain ⟨⟨old, he⟩, ⟨o, ho, hc, hd⟩, _⟩ := st
    rcases (by simpa using hb : b = e ∨ b = it) with rfl | rfl
    · exact ⟨_, he, fun v q => nomatch q⟩
    · exact ⟨o, ho, fun v q => by rw [hd] at q; cases q⟩
  keep := fun i h h' st k => let ⟨⟨old, he⟩, hi, hne⟩ := st; ⟨⟨old, k e (by simp) _ he⟩, hi.at fun o q => k it (by simp) o q, hne⟩
  item := by
    intro X hP hw hK hc i pins s σ H E I hf st hg
    subst hP hw hK
    obtain ⟨⟨old, he⟩, hit, ne1, ne2, ne3⟩ := st
    obtain ⟨xs, x, hq, hx⟩ := hg
    obtain ⟨its, rv, p, hz⟩ := I.tuple hq
    obtain ⟨u, hu, ru⟩ := rv.get hx
    have el : e < s.heap.objs.size := Heap.lt_size he
    have il : it < s.heap.objs.size := by obtain ⟨_, q, _⟩ := hit; exact Heap.lt_size q
    have pt := isTup_tuple p
    have hlt : i < its.toArray.size := by simpa using (List.getElem?_eq_some_iff.mp hu).1
    have D : Draws X.prog X.w X.A.in1 it [it, a] its.toArray.size (fun i v => its.toArray[i]? = some v) (fun i h => h.IsTupleIter it a i ∧ h.IsTuple a its.toArray) := Draws.tuple (A := X.A.in1) (show X.A.in1.handled = none from I.ok.hd hc) it a ne3 its.toArray
    refine wpAny_pyNext_enum_itemD D he ⟨hit, pt⟩ hlt ne1 (by simp only [List.mem_cons, List.not_mem_nil, or_false, not_or]; exact ⟨ne1, fun z => ne2 z.symm⟩) fun y h' tk hy ho st' hT hsz hk => ?_
    have ey : y = u := by
      have : its.toArray[i]? = some u := by simpa using hu
      rw [this] at hy
      exact (Option.some.inj hy).symm
    subst ey
    refine ⟨_, rfl, wpAny_letOwnedTupleGo_enum (s := { s with heap := h', toks := tk + 1 }) ho fun h2 he' sb => ?_⟩
    have T2 : h2.get? s.heap.objs.size = some { cls := .type "tuple", data := .seq #[.int i tk, y] } := (sb.2 _ (Nat.ne_of_gt el)).trans hT
    have new : ObjOk X.prog X.w (upd H s.heap.objs.size (.tup [.int (i : Nat), x])) h2 s.heap.objs.size (.tup [.int (i : Nat), x]) :=
      ⟨by show 2 ≤ sizeLine; decide, [.int i tk, y], .cons ⟨_, rfl⟩ (.cons ru .nil), ⟨_, T2, rfl, _, rfl⟩⟩
    have I1 : Inv X pins σ (upd H s.heap.objs.size (.tup [.int (i : Nat), x])) { s with heap := h2, toks := tk + 1 } :=
      I.turnedNew (ch := [e, it]) (fun b ob hb q => (sb.2 b (fun z => hb (by simp [z]))).trans (hk b ob (fun z => hb (by simp [z])) (fun z => hb (by simp [z])) q)) hf (Nat.le_refl _) new
    refine ⟨.ref s.heap.objs.size, _, I1, rfl, ⟨_, x, rfl, I.hok.fresh (Nat.le_refl _), rfl, fun ys hy => ?_⟩, ⟨⟨y, ?_⟩, st'.1.at fun o q => (sb.2 it (Ne.symm ne1)).trans q, ne1, ne2, ne3⟩, fun b hb => ?_⟩
    · rw [I.tuple_inj hy hq]; exact hx
    · rw [show ((i + 1 : Nat) : Int) = (i : Int) + 1 by omega]; exact he'
    · have lt : b < s.heap.objs.size := by rcases (by simpa using hb : b = e ∨ b = it) with rfl | rfl <;> assumption
      rw [upd_ne (Nat.ne_of_lt lt)]
      exact (hf b hb).1
  done := by
    intro X hP hw hK hc i pins s σ H E I hf st hg
    subst hP hw hK
    obtain ⟨⟨old, he⟩, hit, ne1, ne2, ne3⟩ := st
    obtain ⟨xs, hq, hx⟩ := hg
    obtain ⟨its, rv, p, hz⟩ := I.tuple hq
    obtain ⟨f0, f1, f2, f3, f4, f5⟩ := hf it (by simp)
    have ln := rv.length
    have en : i = its.toArray.size := by rw [List.size_toArray, ← ln, hx]
    subst en
    have D : Draws X.prog X.w X.A.in1 it [it, a] its.toArray.size (fun i v => its.toArray[i]? = some v) (fun i h => h.IsTupleIter it a i ∧ h.IsTuple a its.toArray) := Draws.tuple (A := X.A.in1) (show X.A.in1.handled = none from I.ok.hd hc) it a ne3 its.toArray
    exact wpAny_pyNext_enum_endD D he ⟨hit, isTup_tuple p⟩ fun h' eb => ⟨rfl, I.turned (t' := s.toks) (fun b o hb q => eb b o hb q) f0 f1 f3 f4 f5⟩
  self := fun A i s Q E st h => let ⟨⟨_, he⟩, _⟩ := st; wpAny_pyIter_enum he h
def iEnT (K : PySem.W.Frag) (ta : TA) : TI := fun σ H R => ta σ H fun vs H1 => ∃ a xs, vs = [.ref a] ∧ SqT K H1 a xs ∧ R (Iet K a) H1
theorem pi_enT {X : Cx} {e : Expr} {ta : TA} {p pos tpos : Pos} {elts : List Expr} {kk : Nat} (hg : Gl X "enumerate") (hm : X.mg "enumerate" = none) (ha : PA X [e] ta) (hs : starEach [e] X.env = [(false, eval e X.env)] := by rfl) :
    PI X (.Tuple elts kk tpos) (.Call (.Name "enumerate" p) [e] [] pos) (iEnT X.K ta) := by
  refine ⟨fun pins s σ H R I h => ?_⟩
  refine Call_ (ld_blt I hg hm boot_enumerate (PyProof.Rows.callWith_type1 (thn (ha.run pos pins s σ H _ I h) fun us s1 ⟨vs, H1, I1, r1, q1⟩ => ?_) hs rfl))
  obtain ⟨a, xs, ex, hq, q⟩ := q1
  subst ex
  cases r1 with
  | cons r rr =>
    cases rr
    cases r
    obtain ⟨its, rv, pt, hz⟩ := I1.tuple hq
    have al : a < s1.heap.objs.size := by obtain ⟨o, ho, _⟩ := pt; exact Heap.lt_size ho
    refine enum_begins (begins_tuple a its.toArray) (isTup_tuple pt) fun h' he hit hk => wpAny_pyIter_enum he ?_
    have I2 : Inv X pins σ H1 { s1 with heap := h' } := I1.kept (t' := s1.toks) hk
    refine ⟨s1.heap.objs.size + 1, [s1.heap.objs.size + 1, s1.heap.objs.size], _, _, H1, rfl, I2, turn_et a (s1.heap.objs.size + 1) s1.heap.objs.size, ⟨⟨.none, he⟩, ⟨_, hit, rfl, rfl⟩, Nat.succ_ne_self _, Nat.ne_of_lt (Nat.lt_succ_of_lt al), Nat.ne_of_lt al⟩, fun b hb => ?_, q⟩
    have le : s1.heap.objs.size ≤ b := by rcases (by simpa using hb : b = s1.heap.objs.size + 1 ∨ b = s1.heap.objs.size) with rfl | rfl <;> omega
    exact I1.fpOk le (I1.hok.fresh le)
end TQ
/-! TDict: dict comprehensions with tuple keys; sorted lists of tuples. -/
namespace TQ
open PySem PySem.Spec PyProof.Rows L2
section
variable {X : Cx}
theorem put_here {pins : List (Addr × Obj)} {σ : L2.St} {H : Hp} {s : Shared} {E : Value → Shared → Prop} {D b : Addr} {kvs : List (List Key × V)} {k : List Key} {v : V} {r : Value} {Q : Unit → Shared → Prop} (hu : X.A.units + 1 < cLine) (I : Inv X pins σ H s) (hD : H D = some (.dT kvs))
    (hb : H b = some (.tup (k.map kV))) (few : kvs.length < sizeLine) (rv : RelV v r) (c : ∀ s', Inv X pins σ (upd H D (.dT (putK kvs k v))) s' → Q () s') : wpAny (model X.prog X.w) X.A (dictSet D (.ref b) r) Q E s := by
  obtain ⟨z, hs, xs, rel, dd⟩ := dt_of I.hok hD
  have zx : xs.length ≤ sizeLine := by rw [← Paired.length rel]; exact z
  have zp : (putK kvs k v).length ≤ sizeLine := by have := length_putK kvs k v; omega
  refine wpAny_dictSet_heap (hsz := zx) (show X.A.units < cLine by omega) (key_of I.hok hb) dd fun h' dd' sb => c _ ?_
  obtain ⟨o, es, ep, q1, q2, q3, q4, _, q5⟩ := dd'
  refine d_write I (by rw [hD]; exact True.intro) sb ⟨o, q1⟩ ⟨zp, hs, _, (rel.put k hb rv).keeps fun a ys e => ?_, o, es, ep, q1, q2, q3, q4, q5⟩
  rw [upd_ne (ne_of e hD (fun z => nomatch z))]
  exact e
def tDt (wi : TI) (g : TG) (tk tv : TE) (vs : List Nat) : TE := fun σ H Q => wi σ H fun J H1 => ∀ D, H1 D = none → ∃ W : Nat → Nat → Hp → Prop, (∃ m, W 0 m (upd H1 D (.dT []))) ∧ ∀ i m H, W i m H →
  (J.stop i H ∧ Q (.ref D) H) ∨ (J.go i H ∧ ∃ Nx : Hp → Prop, (∀ H', Nx H' → ∃ m', m' < m ∧ W (i + 1) m' H') ∧ ∀ x H', J.yld i H x H' → g x (wipe σ vs) H' fun σ2 H2 => wipe σ2 vs = wipe σ vs ∧
    tk σ2 H2 fun y H4 => tv σ2 H4 fun z H5 => ∃ (kvs : List (List Key × V)) (k : List Key) (b : Addr), y = .ref b ∧ H5 D = some (.dT kvs) ∧ H5 b = some (.tup (k.map kV)) ∧ kvs.length < sizeLine ∧ Nx (upd H5 D (.dT (putK kvs k z))))
theorem dt_core {pins : List (Addr × Obj)} {u0 : Shared} {σ : L2.St} {H : Hp} {Q : VK} {kx vx tg it0 : Expr} {scope : Scope} {mine : List (PySem.Str × Nat)} {pos pos' : Pos} {wi : TI} {g : TG} {tk tv : TE} {use : Option (Value → Sem Unit)} {Qf : Value → Shared → Prop}
    (calm : X.calm = true) (hu : X.A.units + 1 < cLine) (hN : X.N.Nodup) (I0 : Inv X pins σ H u0) (hi : PI X tg it0 wi) (blk : BlkOk X.N X.env.scope scope mine)
    (hg : ∀ (s : Shared) (H : Hp) (C : Addr) (cl : List (PySem.Str × Addr)) (fp : List Addr), PG (X.blk s H scope (compEnvC scope cl C X.env) fp) tg g)
    (hk : ∀ (s : Shared) (H : Hp) (C : Addr) (cl : List (PySem.Str × Addr)) (fp : List Addr), PE (X.blk s H scope (compEnvC scope cl C X.env) fp) kx tk)
    (hv : ∀ (s : Shared) (H : Hp) (C : Addr) (cl : List (PySem.Str × Addr)) (fp : List Addr), PE (X.blk s H scope (compEnvC scope cl C X.env) fp) vx tv) (fo : ∀ x, foldedSetIterable it0 X.env x = pure x)
    (t : tDt wi g tk tv (mine.map (·.2)) σ H Q)
    (bck : ∀ D C s' m H', Inv X pins σ H' s' → Q (.ref D) H' → s'.heap.Ns C m → FpOk X pins H' C → compPost (model X.prog X.w) X.A X.xe use Qf (.ref D) C (.ok .next) s') :
    wpAny (model X.prog X.w) X.A (comprehension (.DictComp kx vx [⟨tg, it0, [], 0⟩] scope pos) scope X.env pos' newDict false (eval it0 X.env) use) Qf X.xe u0 := by
  have frees : ∀ y ∈ scope.names, y.2 = .free → ∃ c, X.env.cells.lookup y.1 = some c := fun y m e => (blk.free y m e).elim (fun z => I0.ok.has _ (.inl z)) fun z => I0.ok.has _ (.inr z)
  refine wpAny_comprehension_free (use := use) rfl fo (closure_ok frees) blk.kind (fun y m e => by rw [blk.uniq y m, e]) (thn (hi.run pins u0 σ H _ I0 t) fun xv u1 h1 => thn h1 fun itv u2 h2 => ?_)
  obtain ⟨it, fp, tn, J, H2, rfl, I2, T, st2, fp2, q⟩ := h2
  refine wpAny_newObj_type (newEnv_comp ?_)
  obtain ⟨D, eD⟩ : ∃ D, u2.heap.objs.size = D := ⟨_, rfl⟩
  rw [eD]
  have D2 : H2 D = none := I2.hok.fresh (Nat.le_of_eq eD)
  obtain ⟨W, ⟨m0, w0⟩, turn⟩ := q D D2
  obtain ⟨u3, eu3⟩ : ∃ u3 : Shared, { u2 with heap := u2.heap.push { cls := .type "dict", data := .dict #[] } } = u3 := ⟨_, rfl⟩
  have hp3 : u3.heap = u2.heap.push { cls := .type "dict", data := .dict #[] } := by rw [← eu3]
  have I3 : Inv X pins σ (upd H2 D (.dT [])) u3 := by
    rw [← eu3]
    refine I2.laid (t' := u2.toks) (fun b o e => Heap.get?_push_of_some _ e) (Nat.le_of_eq eD) ?_
    rw [← eD]
    exact dt_empty u2.heap I2.big
  have fp3 : ∀ b ∈ fp, FpOk X pins (upd H2 D (.dT [])) b ∧ b < u3.heap.objs.size := fun b mb => by
    obtain ⟨o, eo, _⟩ := T.obj _ _ st2 b mb
    have lt := Heap.lt_size eo
    refine ⟨⟨?_, (fp2 b mb).2⟩, by rw [hp3, Heap.size_push]; exact Nat.lt_succ_of_lt lt⟩
    rw [upd_ne (by rw [← eD]; exact Nat.ne_of_lt lt)]
    exact (fp2 b mb).1
  have st3 : tn 0 u3.heap := T.keep _ _ _ st2 fun b _ o e => by rw [hp3]; exact Heap.get?_push_of_some _ e
  have I4 := block_start I3 blk hN fp3
  have none3 : ∀ b ∈ fp, (upd H2 D (.dT [])) b = none := fun b mb => (fp3 b mb).1.1
  rw [eu3]
  have yg := hg u3 (upd H2 D (.dT [])) u3.heap.objs.size (cellsFrom (u3.heap.objs.size + 1) scope.names (cloFrom X.env.cells scope.names [])) fp
  have yk := hk u3 (upd H2 D (.dT [])) u3.heap.objs.size (cellsFrom (u3.heap.objs.size + 1) scope.names (cloFrom X.env.cells scope.names [])) fp
  have yv := hv u3 (upd H2 D (.dT [])) u3.heap.objs.size (cellsFrom (u3.heap.objs.size + 1) scope.names (cloFrom X.env.cells scope.names [])) fp
  show codeAny _ _ (.compStart (.DictComp kx vx [⟨tg, it0, [], 0⟩] scope pos) 0 (.ref it) (.ref D) (compEnvC scope (cellsFrom (u3.heap.objs.size + 1) scope.names (cloFrom X.env.cells scope.names [])) u3.heap.objs.size X.env)) (compPost (model X.prog X.w) X.A X.xe use Qf (.ref D) u3.heap.objs.size)
    { u3 with heap := pushCells (u3.heap.push { cls := .type "dict", data := .dict #[] }) scope.names }
  generalize ece : compEnvC scope (cellsFrom (u3.heap.objs.size + 1) scope.names (cloFrom X.env.cells scope.names [])) u3.heap.objs.size X.env = ce at I4 yg yk yv ⊢
  have ceL : ce.locals = u3.heap.objs.size := by subst ece; rfl
  generalize eH3 : upd H2 D (.dT []) = H3 at I3 I4 yg yk yv w0 none3 fp3
  generalize eu4 : ({ u3 with heap := pushCells (u3.heap.push { cls := .type "dict", data := .dict #[] }) scope.names } : Shared) = u4 at I4 ⊢
  have st4 : tn 0 u4.heap := T.keep _ _ _ st3 fun b _ o e => by rw [← eu4]; exact pushCells_keeps _ _ _ _ (Heap.get?_push_of_some _ e)
  have fpB : ∀ {σ' : L2.St} {H' : Hp} {s' : Shared}, Inv (X.blk u3 H3 scope ce fp) [] σ' H' s' → (∀ b ∈ fp, H' b = none) → ∀ b ∈ fp, FpOk (X.blk u3 H3 scope ce fp) [] H' b := fun {σ' H' s'} I' n b mb =>
    ⟨n b mb, (I'.ok.exf b mb).1, I'.ok.exfs b mb, .inl mb, fun x c e => (I'.ok.exf b mb).2 x c e, fun p mp => absurd (show p ∈ ([] : List (Addr × Obj)) ++ [] from mp) (by simp)⟩
  have loop : codeAny (model X.prog X.w) X.A (.compLoop (.DictComp kx vx [⟨tg, it0, [], 0⟩] scope pos) 0 (.ref it) (.ref D) ce) (compPost (model X.prog X.w) X.A X.xe use Qf (.ref D) u3.heap.objs.size) u4 := by
    refine compLoop_anyD (fun n s' => ∃ i H', Inv (X.blk u3 H3 scope ce fp) [] (wipe σ (mine.map (·.2))) H' s' ∧ tn i s'.heap ∧ (∀ b ∈ fp, H' b = none) ∧ W i n H') ?_ m0 ⟨0, H3, I4, st4, none3, w0⟩
    rintro n u5 ⟨i, H5, I5, st5, n5, w5⟩
    rcases turn i n H5 w5 with ⟨stop, fin⟩ | ⟨go, Nx, nx, step⟩
    · refine thnF (T.done (X.blk u3 H3 scope ce fp) rfl rfl rfl calm i [] u5 _ H5 (fun _ _ => False) I5 (fpB I5 n5) st5 stop) fun r u6 ⟨er, I6⟩ => ?_
      subst er
      have I7 : Inv X pins σ H5 u6 := I3.call' (ch := fp) I6.os I6.base I6.hok I6.bare fun b mb => ⟨(fp3 b mb).1.2.2.2.1, (fp3 b mb).1.2.1, (fp3 b mb).1.2.2.2.2.1, (fp3 b mb).1.2.2.2.2.2⟩
      have nL : H5 u3.heap.objs.size = none := by
        have z : H5 ce.locals = none := I6.free
        rwa [ceL] at z
      obtain ⟨m, ns, _⟩ := I6.loc
      have ns : u6.heap.Ns ce.locals m := ns
      rw [ceL] at ns
      exact bck D _ u6 m H5 I7 fin ns (I3.fpOk (Nat.le_refl _) nL)
    · refine thnF (T.item (X.blk u3 H3 scope ce fp) rfl rfl rfl calm i [] u5 _ H5 (fun _ _ => False) I5 (fpB I5 n5) st5 go) fun r u6 ⟨xv, er, h6⟩ => ?_
      subst er
      refine thnF h6 fun _ u7 ⟨x, H7, I7, r7, y7, st7, n7⟩ => ?_
      have I7p := I7.pinned (fpB I7 n7) (T.obj _ _ st7)
      refine thnF (yg.run _ u7 _ H7 x xv _ I7p r7 (step x H7 y7)) fun _ u8 ⟨σ8, H8, I8, ew8, q8⟩ => ?_
      refine thnF ((pts_nil (X := X.blk u3 H3 scope ce fp)).run _ u8 σ8 H8 (fun b H => b = true ∧ tk σ8 H _) I8 ⟨rfl, q8⟩) fun b u9 ⟨H9, I9, eb, q9⟩ => ?_
      subst eb
      have len8 : (wipe σ (mine.map (·.2))).length = σ8.length := by rw [← ew8, wipe_length]
      have old8 : ∀ (j : Nat) v, (wipe σ (mine.map (·.2)))[j]? = some (some v) → σ8[j]? = some (some v) := fun j v e => by
        rw [← ew8] at e
        exact (wipe_some e).1
      have ends : ∀ {s' : Shared} {H' : Hp}, Inv (X.blk u3 H3 scope ce fp) ([] ++ pinsAt fp u7.heap) σ8 H' s' → Nx H' → ∃ m, m < n ∧ ∃ i H', Inv (X.blk u3 H3 scope ce fp) [] (wipe σ (mine.map (·.2))) H' s' ∧ tn i s'.heap ∧ (∀ b ∈ fp, H' b = none) ∧ W i m H' := fun {s' H'} I' nxt => by
        obtain ⟨m', lm, w'⟩ := nx H' nxt
        have kept : ∀ b ∈ fp, ∀ o, u7.heap.get? b = some o → s'.heap.get? b = some o ∧ H' b = none := fun b mb o e =>
          let z := I'.pin (b, o) (List.mem_append_right _ (List.mem_append_right _ (mem_pinsAt mb e)))
          ⟨z.1, z.2.1⟩
        refine ⟨m', lm, i + 1, H', (I'.unpinned (pins := [])).weak len8 old8, T.keep _ _ _ st7 fun b mb o e => (kept b mb o e).1, fun b mb => ?_, w'⟩
        obtain ⟨o, eo, _⟩ := T.obj _ _ st7 b mb
        exact (kept b mb o eo).2
      have go2 : wpAny (model X.prog X.w) X.A (eval kx ce) (fun kv s4 => wpAny (model X.prog X.w) X.A (eval vx ce) (fun vv s5 => wpAny (model X.prog X.w) X.A (dictSet D kv vv) (fun _ s6 => ∃ m, m < n ∧ ∃ i H', Inv (X.blk u3 H3 scope ce fp) [] (wipe σ (mine.map (·.2))) H' s6 ∧ tn i s6.heap ∧ (∀ b ∈ fp, H' b = none) ∧ W i m H')
          (notedBy (model X.prog X.w) X.A ce fun e s' => compPost (model X.prog X.w) X.A X.xe use Qf (.ref D) u3.heap.objs.size (.error e) s') s5) (notedBy (model X.prog X.w) X.A ce fun e s' => compPost (model X.prog X.w) X.A X.xe use Qf (.ref D) u3.heap.objs.size (.error e) s') s4) (notedBy (model X.prog X.w) X.A ce fun e s' => compPost (model X.prog X.w) X.A X.xe use Qf (.ref D) u3.heap.objs.size (.error e) s') u9 := by
        refine thnF (yk.run _ u9 σ8 H9 _ I9 q9) fun z u10 ⟨y, H10, I10, r10, q10⟩ => ?_
        refine thnF (yv.run _ u10 σ8 H10 _ I10 q10) fun z2 u11 ⟨y2, H11, I11, r11, kvs, k, kb, ey, hD, hb, few, nxt⟩ => ?_
        subst ey
        cases (show z = Value.ref kb from r10)
        exact put_here (X := X.blk u3 H3 scope ce fp) hu I11 hD hb few r11 fun u12 I12 => ends I12 nxt
      simpa using go2
  exact codeAny_compStart_dict loop (T.self X.A 0 _ _ _ st4 loop)
theorem pe_dt {kx vx tg it0 : Expr} {scope : Scope} {mine : List (PySem.Str × Nat)} {pos : Pos} {wi : TI} {g : TG} {tk tv : TE} (calm : X.calm = true) (hu : X.A.units + 1 < cLine) (hN : X.N.Nodup) (hi : PI X tg it0 wi) (blk : BlkOk X.N X.env.scope scope mine)
    (hg : ∀ (s : Shared) (H : Hp) (C : Addr) (cl : List (PySem.Str × Addr)) (fp : List Addr), PG (X.blk s H scope (compEnvC scope cl C X.env) fp) tg g)
    (hk : ∀ (s : Shared) (H : Hp) (C : Addr) (cl : List (PySem.Str × Addr)) (fp : List Addr), PE (X.blk s H scope (compEnvC scope cl C X.env) fp) kx tk)
    (hv : ∀ (s : Shared) (H : Hp) (C : Addr) (cl : List (PySem.Str × Addr)) (fp : List Addr), PE (X.blk s H scope (compEnvC scope cl C X.env) fp) vx tv) (fo : ∀ x, foldedSetIterable it0 X.env x = pure x := by intro _; rfl) :
    PE X (.DictComp kx vx [⟨tg, it0, [], 0⟩] scope pos) (tDt wi g tk tv (mine.map (·.2))) := by
  refine ⟨fun pins s σ H Q I t => ?_⟩
  rw [arm_eval_DictComp]
  refine dt_core calm hu hN I hi blk hg hk hv fo t fun D C s' m H' I' q ns f => ⟨m, ns, fun h'' sb => ?_⟩
  obtain ⟨f0, f1, f2, f3, f4, f5⟩ := f
  exact ⟨.ref D, H', I'.turned (t' := s'.toks) (fun b o hb e => (sb.2 b hb).trans e) f0 f1 f3 f4 f5, rfl, q⟩
/-! ### sorted(a list of tuples of ints) -/
def rSortL (K : PySem.W.Frag) : List V → Hp → VK → Prop := fun vs H Q => ∃ (a : Addr) (L : List (Addr × List Int)), vs = [V.ref a] ∧ SqL K H a (L.map fun p => V.ref p.1) ∧ (∀ p ∈ L, SqT K H p.1 (p.2.map V.int)) ∧ (∀ p ∈ L, p.2 ≠ []) ∧
  ∀ (L' : List (Addr × List Int)) (l : Addr), L'.Perm L → L'.length ≤ sizeLine → (L'.map (·.2)).Pairwise (· ≤ ·) → H l = none → Q (.ref l) (upd H l (.lst (L'.map fun q => V.ref q.1)))
theorem call_sortL (hu : X.A.units + 16 < cLine) : CallR X (.builtin "sorted") (rSortL X.K) := by
  intro pins σ s H vs us Q I r h
  obtain ⟨a, L, rfl, ha, tp, ne, q⟩ := h
  obtain ⟨its, rv, pl, hz⟩ := I.list ha
  have ei := refs_of_vals rv
  rw [List.length_map] at hz
  subst ei
  rw [Vals.ref1 r]
  have rd : ∀ p ∈ L, Reads σ.heap (.ref p.1) (encT p) [] := fun p m => reads_tup (P := X.prog) (w := X.w) (I.isT (tp p m))
  have each : ∀ M : List (Addr × List Int), (∀ p ∈ M, p ∈ L) → PySem.W.EachIs (fun v (p : Addr × List Int) => ∃ as, Reads σ.heap v (encT p) as) (M.map fun p => Value.ref p.1) M := by
    intro M
    induction M with
    | nil => intro _; exact .nil
    | cons p M ih => intro hm; exact .cons ⟨[], rd p (hm p List.mem_cons_self)⟩ (ih fun r hr => hm r (List.mem_cons_of_mem _ hr))
  have refs : ∀ M : List (Addr × List Int), PySem.W.EachIs (fun v (p : Addr × List Int) => v = Value.ref p.1) (M.map fun p => Value.ref p.1) M := by
    intro M
    induction M with
    | nil => exact .nil
    | cons p M ih => exact .cons rfl ih
  have unref : ∀ {vs : List Value} {M : List (Addr × List Int)}, PySem.W.EachIs (fun v (p : Addr × List Int) => v = Value.ref p.1) vs M → vs = M.map fun p => Value.ref p.1 := by
    intro vs M h
    induction h with
    | nil => rfl
    | cons e _ ih => rw [e, ih]; rfl
  refine PySem.W.sorted_data (R := fun v (p : Addr × List Int) => v = Value.ref p.1) (bs := L) (enc := encT) pl.isList (refs L) (each L fun p m => m) (PySem.W.AllAlike.of fun p q => by unfold encT; rw [PySem.W.alike, PySem.W.alike_ints]) (.inl fun d md => ?_) hz (fun p _ => ?_) fun out lo eo => ?_
  · obtain ⟨p, mp, rfl⟩ := List.mem_map.mp md
    have np := ne p mp
    unfold encT
    cases e : p.2 with
    | nil => exact absurd e np
    | cons x r => exact ⟨_, _, rfl⟩
  · have : (encT p).depth = PyData.depthAll (p.2.map .int) + 1 := by unfold encT; simp [PyData.depth]
    rw [this, PySem.W.depth_ints]
    omega
  · have eo' := unref eo
    have pm : (L.mergeSort (PySem.W.dataLe false encT)).Perm L := List.mergeSort_perm ..
    obtain ⟨ep, e1⟩ := PyProof.Rows.sortedAll_at σ.heap (L.map fun p => Value.ref p.1) out.toArray
    have n1 : H (σ.heap.objs.size + 1) = none := I.hok.fresh (Nat.le_succ _)
    have ln : (L.mergeSort (PySem.W.dataLe false encT)).length ≤ sizeLine := by rw [pm.length_eq]; exact hz
    refine ⟨.ref _, _, I.laid (t' := σ.toks) (o := .lst ((L.mergeSort (PySem.W.dataLe false encT)).map fun q => V.ref q.1)) (fun _ _ => PyProof.Rows.sortedAll_old) (Nat.le_succ _) ⟨by rw [List.length_map]; exact ln, out, ep, by rw [eo']; exact vals_of_refs _, e1⟩, rfl, q (L.mergeSort (PySem.W.dataLe false encT)) _ pm ln ?_ n1⟩
    rw [List.pairwise_map, le_encT]
    have := List.pairwise_mergeSort (le := fun p q : Addr × List Int => decide (p.2 ≤ q.2)) (fun a b c h1 h2 => by simp only [decide_eq_true_eq] at *; exact List.le_trans h1 h2) (fun a b => by simp only [Bool.or_eq_true, decide_eq_true_eq]; exact List.le_total ..) L
    exact this.imp fun h => by simpa using h
end
end TQ
/-! TRev: t[::-1] of a tuple. -/
namespace TQ
open PySem PySem.Spec PyProof.Rows L2 HT
section
variable {prog : Program} {w : World} {A : Around} {E : Value → Shared → Prop} {s : Shared}
theorem turned_items (xs : List Value) : ((List.range xs.length).filterMap fun (m : Nat) => xs.toArray[((((xs.length : Nat) : Int) - 1) + (m : Int) * (-1)).toNat]?) = xs.reverse := by
  have go : ∀ l : List Nat, (∀ m ∈ l, m < xs.length) → l.filterMap (fun (m : Nat) => xs.toArray[((((xs.length : Nat) : Int) - 1) + (m : Int) * (-1)).toNat]?) = l.map (fun m => xs.getD (xs.length - 1 - m) .none) := by
    intro l
    induction l with
    | nil => intro _; rfl
    | cons m l ih =>
      intro h
      have hm := h m List.mem_cons_self
      have e1 : ((((xs.length : Nat) : Int) - 1) + (m : Int) * (-1)).toNat = xs.length - 1 - m := by omega
      have e2 : xs.toArray[((((xs.length : Nat) : Int) - 1) + (m : Int) * (-1)).toNat]? = some (xs.getD (xs.length - 1 - m) .none) := by
        rw [e1, List.getElem?_toArray, List.getD_eq_getElem?_getD, List.getElem?_eq_getElem (by omega)]
        rfl
      rw [List.filterMap_cons_some (f := fun (m : Nat) => xs.toArray[((((xs.length : Nat) : Int) - 1) + (m : Int) * (-1)).toNat]?) e2, List.map_cons, ih fun k hk => h k (List.mem_cons_of_mem _ hk)]
  rw [go _ fun m hm => List.mem_range.mp hm]
  apply List.ext_getElem?
  intro i
  by_cases h : i < xs.length
  · rw [List.getElem?_map, List.getElem?_range h, List.getElem?_reverse h]
    show some (xs.getD (xs.length - 1 - i) .none) = _
    rw [List.getD_eq_getElem?_getD, List.getElem?_eq_getElem (by omega)]
    rfl
  · rw [List.getElem?_eq_none (by simp; omega), List.getElem?_eq_none (by simp; omega)]
theorem turn_tuple {t sl : Addr} {xs : List Value} {u : Tok} {Q : Value → Shared → Prop} (ht : IsTup s.heap t xs.toArray) (hs : s.heap.IsSliceOf sl .none .none (.int (-1) u)) (ne : xs ≠ [])
    (h : Q (.ref s.heap.objs.size) { s with heap := s.heap.push { cls := .type "tuple", data := .seq xs.reverse.toArray } }) (hz : xs.length ≤ sizeLine) : wpAny (model prog w) A (getItem (.ref t) (.ref sl)) Q E s := by
  obtain ⟨os, o1, o2, o3⟩ := id hs
  have T1 : s.TypeIs (.ref sl) "slice" := ⟨os, o1, o2⟩
  have pos : 0 < xs.length := List.length_pos_iff.mpr ne
  unfold getItem
  try with_reducible refine wpAny_holding ?_
  first | refine wpAny_bind (wpAny_pure ?_) | skip
  refine wpAny_bind (wpAny_sequenceKey ht.typeIs (by decide) ?_)
  refine wpAny_bind (wpAny_callSpecial?_slot (name := Str.ofString "__getitem__") ht.typeIs PyProof.Rows.slot_tuple_getitem (wpAny_call_entry PyProof.Rows.slot_tuple_getitem ht.typeIs entry_tuple_getitem ?_ (args_tuple_getitem _ _)))
  show wpAny _ _ (Builtin.Tuple.tupleItemsOf (.ref t) >>= _) _ _ s
  refine wpAny_bind (tupleItemsOf_ ht ?_)
  refine wpAny_bind (wpAny_typeOf T1 ?_)
  rw [if_pos (by decide)]
  have app : ∀ {R : Int × Int × Nat → Shared → Prop}, R (((xs.length : Nat) : Int) - 1, -1, xs.length) s → wpAny (model prog w) A.in1 (Builtin.Slice.sliceApplied (.ref sl) (pure ((xs.toArray.size : Nat) : Int))) R E s := fun {R} r => by
    unfold Builtin.Slice.sliceApplied Builtin.Slice.sliceFields
    refine wpAny_bind (wpAny_bind (wpAny_field o1 o3 (x := .none) rfl (wpAny_bind (wpAny_field o1 o3 (x := .none) rfl (wpAny_bind (wpAny_field o1 o3 (x := .int (-1) u) rfl (wpAny_pure ?_)))))))
    refine wpAny_bind (slicePart_int ?_)
    show wpAny _ _ (if ((-1 : Int) == 0) = true then _ else _) _ _ s
    rw [if_neg (by decide)]
    refine wpAny_bind (slicePart_none (wpAny_bind (slicePart_none (wpAny_bind (wpAny_pure ?_)))))
    have e1 : Builtin.Slice.sliceAdjust none none (-1) ((xs.toArray.size : Nat) : Int) = (((xs.length : Nat) : Int) - 1, -1) := by
      unfold Builtin.Slice.sliceAdjust
      simp
    show wpAny _ _ (match Builtin.Slice.sliceAdjust none none (-1) ((xs.toArray.size : Nat) : Int) with | (lo, hi) => pure (lo, (-1 : Int), Builtin.Slice.slicePlaces lo hi (-1))) _ _ s
    rw [e1]
    have e2 : Builtin.Slice.slicePlaces (((xs.length : Nat) : Int) - 1) (-1) (-1) = xs.length := by
      unfold Builtin.Slice.slicePlaces
      have h1 : ¬ ((-1 : Int) > 0) := by decide
      have h2 : ((xs.length : Nat) : Int) - 1 > -1 := by omega
      simp only [h1, if_false, h2, if_true]
      rw [show (- (-1) : Int) = 1 by decide, Int.ediv_one]
      omega
    show wpAny _ _ (pure (((xs.length : Nat) : Int) - 1, (-1 : Int), Builtin.Slice.slicePlaces (((xs.length : Nat) : Int) - 1) (-1) (-1))) _ _ s
    rw [e2]
    exact wpAny_pure r
  refine wpAny_bind (app ?_)
  show wpAny _ _ (if (((((xs.length : Nat) : Int) - 1) == 0 && (-1 : Int) == 1 && xs.length == xs.toArray.size) = true) then _ else _) _ _ s
  rw [if_neg (by simp)]
  have ok : sizeOk (.seq xs.reverse.toArray) := by
    show xs.reverse.toArray.size ≤ sizeLine
    rw [List.size_toArray, List.length_reverse]
    exact hz
  have ei : ((List.range xs.length).filterMap fun (m : Nat) => xs.toArray[((((xs.length : Nat) : Int) - 1) + (m : Int) * (-1)).toNat]?).toArray = xs.reverse.toArray := by rw [turned_items]
  rw [ei]
  first
    | exact wpAny_bind (m := Builtin.Tuple.tupleExact _) (wpAny_newObj_type (wpAny_pure ⟨_, rfl, wpAny_pure h⟩) ok)
    | exact wpAny_bind (m := Builtin.Tuple.tupleExact _) (wpAny_newObj_type (wpAny_bind (wpAny_pure (wpAny_pure ⟨_, rfl, wpAny_pure h⟩))) ok)
    | exact wpAny_bind (wpAny_bind (m := Builtin.Tuple.tupleExact _) (wpAny_newObj_type (wpAny_pure (wpAny_pure ⟨_, rfl, wpAny_pure h⟩)) ok))
    | exact wpAny_bind (wpAny_bind (m := Builtin.Tuple.tupleExact _) (wpAny_newObj_type (wpAny_pure ⟨_, rfl, wpAny_pure h⟩) ok))
end
section
variable {X : Cx}
def tRevT (K : PySem.W.Frag) (te : TE) : TE := fun σ H Q => te σ H fun x H1 => ∃ a xs, x = .ref a ∧ SqT K H1 a xs ∧ xs ≠ [] ∧ ∀ p, H1 p = none → Q (.ref p) (upd H1 p (.tup xs.reverse))
theorem pe_revT {e : Expr} {te : TE} {k : Nat} {p1 p2 p3 pos : Pos} (he : PE X e te) : PE X (.Subscript e (.Slice none none (some (.UnaryOp .USub (.Constant (.int 1) k p1) p2)) p3) pos) (tRevT X.K te) := by
  refine ⟨fun pins s σ H Q I h => ?_⟩
  refine Subscript_ (thn (he.run pins s σ H _ I h) fun v s1 ⟨x, H1, I1, r1, a, xs, ex, hx, ne, q⟩ => ?_)
  subst ex
  cases r1
  have st : PO X (some (.UnaryOp .USub (.Constant (.int 1) k p1) p2)) (tPart (tUn (rU fun i => .int (-i)) (tC (.int 1)))) := po_some (pe_un un_neg pe_int)
  refine wpAny_Slice (thn (po_none.run pins s1 σ H1 (fun o H2 => o = none ∧ H2 = H1) I1 ⟨rfl, rfl⟩) fun vl s2 ⟨l, H2, I2, pl, el, e2⟩ => ?_)
  subst el e2
  refine thn (po_none.run pins s2 σ H2 (fun o H3 => o = none ∧ H3 = H2) I2 ⟨rfl, rfl⟩) fun vu s3 ⟨u, H3, I3, pu, eu, e3⟩ => ?_
  subst eu e3
  refine thn (st.run pins s3 σ H3 (fun o H4 => o = some (-1) ∧ H4 = H3) I3 ⟨1, rfl, -1, rfl, rfl, rfl⟩) fun vs s4 ⟨o, H4, I4, ps, eo, e4⟩ => ?_
  subst eo e4
  cases pl
  cases pu
  cases ps with
  | int i tk =>
  have I5 : Inv X pins σ H4 { s4 with heap := s4.heap.push { cls := .type "slice", data := .fields #[.none, .none, .int (-1) tk] } } := I4.kept (t' := s4.toks) fun b ob q => Heap.get?_push_of_some _ q
  obtain ⟨its, r, ht, hz⟩ := I5.tuple hx
  have hlen := r.length
  show wpAny (model X.prog X.w) X.A (subscriptTail e (.Slice none none (some (.UnaryOp .USub (.Constant (.int 1) k p1) p2)) p3) (.ref a) (.ref s4.heap.objs.size)) (EP X pins σ Q) X.xe { s4 with heap := s4.heap.push { cls := .type "slice", data := .fields #[.none, .none, .int (-1) tk] } }
  refine tail_any (ops := [.ref a, .ref s4.heap.objs.size]) ht.typeIs (PyProof.Rows.slot_tuple_getitem.lookup) ?_ (by with_unfolding_all rfl)
  refine turn_tuple ht (Heap.IsSliceOf.new _ .none .none (.int (-1) tk)) (fun z => ne (by subst z; exact List.length_eq_zero_iff.mp hlen)) ?_ (by omega)
  refine ⟨.ref _, _, I5.laid (t' := s4.toks) (o := .tup xs.reverse) (fun b ob q => Heap.get?_push_of_some _ q) (Nat.le_refl _) ?_, rfl, q _ (I5.hok.fresh (Nat.le_refl _))⟩
  exact ⟨by rw [List.length_reverse]; exact hz, _, r.reverse, ⟨_, Heap.get?_push_size _ rfl, rfl, _, rfl⟩⟩
end
end TQ
/-! GRoom: a def's promise where no repr is under way. -/
namespace G
open PySem PySem.Spec PyProof.Rows L2

structure Room (k : Nat) (A : Around) : Prop extends L2.Room k A where
  gd : A.guards = some []
theorem Room.mono {j k : Nat} {A : Around} (r : Room k A) (h : j ≤ k) : Room j A := ⟨r.toRoom.mono h, r.gd⟩
theorem Room.make {k : Nat} {A : Around} (r : Room (k + 1) A) (C : Addr) (us : List Value) (kw : List (Str × Value)) : Room k (A.under (.builtin "type.__call__" ⟨.ref C :: us, kw⟩)) := by
  refine ⟨r.toRoom.make C us kw, ?_⟩
  rw [← r.gd]
  first | rfl | simp [Around.under, Code.guards, Code.isGuard, pushGuards, guardIds]
theorem Room.in1 {k : Nat} {A : Around} (r : Room (k + 1) A) : Room k A.in1 := ⟨r.toRoom.in1, r.gd⟩
structure FnOk (P : Program) (w : World) (K : PySem.W.Frag) (mg : Str → Option Value) (base : Heap) (CX : CXT) (k : Nat) (f : Addr) (fd : FuncData) (ps : List Str) (sp : Sp) : Prop where
  len : ∀ vs H Q E, sp vs H Q E → vs.length = ps.length
  run : ∀ (A : Around) (en : List Env) (st : Shared) (H : L2.Hp) (ar : Args) (us : List Value) (vs : List L2.V) (Q : VK) (E : XK), Room k A → Env0 P w K mg base A en st H →
    BindsTo st fd ar (ps.zip us) → Vals vs us → sp vs H Q E → codeAny (model P w) A (.call (.ref f) ar) (CR CX en P w H st Q E) st
theorem FnOk.mono {P : Program} {w : World} {K : PySem.W.Frag} {mg : Str → Option Value} {base : Heap} {CX : CXT} {i k : Nat} {f : Addr} {fd : FuncData} {ps : List Str} {sp : Sp} (F : FnOk P w K mg base CX i f fd ps sp) (h : i ≤ k) : FnOk P w K mg base CX k f fd ps sp where
  len := F.len
  run := fun A en st H ar us vs Q E r => F.run A en st H ar us vs Q E (r.mono h)
section
variable {X : Cx} {CX : CXT} {k : Nat} {f : Addr} {fd : FuncData} {ps : List Str} {sp : Sp}
theorem run_fnS {pins : List (Addr × Obj)} {σ : L2.St} {H : L2.Hp} {s : Shared} {Q : VK} {us : List Value} {vs : List L2.V} {E : L2.St → XK} (F : FnOk X.prog X.w X.K X.mg X.base CX k f fd ps sp) (r : Room k X.A) (hb : Binds X.K fd ps []) (hE : PassesAt CX X σ (E σ))
    (I : Inv X pins σ H s) (rv : Vals vs us) (q : sp vs H Q (E σ)) : wpAny (model X.prog X.w) X.A (call (.ref f) us) (EP X pins σ Q) X.xe s := by
  have hn : us.length = ps.length := rv.length.symm.trans (F.len _ _ _ _ q)
  have bt := hb s us I.kIn (by simpa using hn)
  simp only [List.append_nil] at bt
  have c := F.run X.A X.stack s H ⟨us, []⟩ us vs Q (E σ) r I.env0 bt rv q
  refine wpAny_call (codeAny_mono c fun z s' hz => ?_)
  match z, hz with
  | .error e, hz => exact hE pins H s e s' I hz
  | .ok (.ret u), hz => exact I.after hz
  | .ok .next, hz => exact hz.elim
  | .ok .brk, hz => exact hz.elim
  | .ok .cont, hz => exact hz.elim
theorem run_fn {pins : List (Addr × Obj)} {σ : L2.St} {H : L2.Hp} {s : Shared} {Q : VK} {us ds : List Value} {vs dvs : List L2.V} {E : XK} (F : FnOk X.prog X.w X.K X.mg X.base CX k f fd ps sp) (r : Room k X.A) (hb : Binds X.K fd ps ds) (hd : Vals dvs ds) (hE : Passes CX X E)
    (I : Inv X pins σ H s) (rv : Vals vs us) (q : sp (vs ++ dvs) H Q E) : wpAny (model X.prog X.w) X.A (call (.ref f) us) (EP X pins σ Q) X.xe s := by
  have rv2 := rv.append hd
  have hn : (us ++ ds).length = ps.length := rv2.length.symm.trans (F.len _ _ _ _ q)
  have c := F.run X.A X.stack s H ⟨us, []⟩ (us ++ ds) (vs ++ dvs) Q E r I.env0 (hb s us I.kIn hn) rv2 q
  refine wpAny_call (codeAny_mono c fun z s' hz => ?_)
  match z, hz with
  | .error e, hz => exact hE pins σ H s e s' I hz
  | .ok (.ret u), hz => exact I.after hz
  | .ok .next, hz => exact hz.elim
  | .ok .brk, hz => exact hz.elim
  | .ok .cont, hz => exact hz.elim
theorem pe_callS {x : Str} {e : Expr} {es : List Expr} {t : L2.TA} {E : L2.St → XK} {p pos : Pos} (F : FnOk X.prog X.w X.K X.mg X.base CX k f fd ps sp) (r : Room k X.A) (hg : L2.Gl X x) (hm : X.mg x = some (.ref f)) (hk : PySem.W.keepIn X.K (.ref f) = true) (hb : Binds X.K fd ps [])
    (hE : ∀ σ, PassesAt CX X σ (E σ)) (ha : PA X (e :: es) t) (hdb : (x == ("__debug__" : Str)) = false := by decide) (he : starEach (e :: es) X.env = (false, eval e X.env) :: starEach es X.env := by rfl)
    (hpl : (backTo pos (starEach es X.env)).any (·.1) = false := by rfl) : PE X (.Call (.Name x p) (e :: es) [] pos) (L2.tCallS sp E t) where
  run := fun pins s σ H Q I h => wpAny_Call_Name_kw (L2.ld_glob I hg hm (PySem.W.callWith_K (h₀ := X.base) I.ok.mod.kin hk
    (L2.thn (ha.run pos pins s σ H _ I h) fun us s2 z => by
      obtain ⟨vs, H2, I2, rv, q⟩ := z
      exact ⟨I2.kIn, run_fnS F r hb (hE σ) I2 rv q⟩) he hpl) hdb)
theorem pe_call0 {x : Str} {E : XK} {p pos : Pos} {ds : List Value} {dvs : List L2.V} (F : FnOk X.prog X.w X.K X.mg X.base CX k f fd ps sp) (r : Room k X.A) (hg : L2.Gl X x) (hm : X.mg x = some (.ref f)) (hk : PySem.W.keepIn X.K (.ref f) = true) (hb : Binds X.K fd ps ds) (hd : Vals dvs ds)
    (hE : Passes CX X E) (hdb : (x == ("__debug__" : Str)) = false := by decide) : PE X (.Call (.Name x p) [] [] pos) (L2.tCall sp dvs E L2.tNil) where
  run := fun pins s σ H Q I h => wpAny_Call_Name_kw (L2.ld_glob I hg hm (PySem.W.callWith_K0 I.kIn hk (run_fn (us := []) F r hb hd hE I .nil h)) hdb)
end
theorem fund_ok {P : Program} {w : World} {K : PySem.W.Frag} {mg : Str → Option Value} {base : Heap} {x qual : Str} {params : Arguments} {body : List Stmt} {scope : Scope} {dvs : List L2.V} {kws : List (Str × L2.V)} {f : Addr} {fd : FuncData} {CX : CXT} {N ps : List Str} {k : Nat} {sp : Sp}
    (F : FunD K x qual params body scope dvs kws f fd) (S : FnScope N ps scope) (hlen : ∀ vs H Q E, sp vs H Q E → vs.length = ps.length)
    (hB : ∀ (cdv : Value) (A : Around) (en : List Env) (st : Shared) (H : L2.Hp) (vs : List L2.V) (Q : VK) (E : XK), Room k (A.deeper (envOfC qual scope st.heap.objs.size f cdv)) → sp vs H Q E →
      ∃ t, PSs (cxOf CX P w K mg base N qual scope f cdv A en st H E) body t ∧ t { nx := fun _ H' => Q .non H', rt := Q } (L2.start N vs) H) : FnOk P w K mg base CX (k + 1) f fd ps sp := by
  obtain ⟨oc, od, dV, kV, doc, pm, an, cdv, ct, osl, rfl, look, code, _, _⟩ := F.ex
  refine { len := hlen, run := fun A en st H ar us vs Q E room e0 hb rv q => ?_ }
  have hpl := hlen _ _ _ _ q
  have keeps : ∀ b o, base.get? b = some o → st.heap.get? b = some o := fun b o e => (e0.bs b o e).1
  have KIn := e0.mod.kin.keeps keeps
  have cellOk : ∀ y ∈ ps.zip us, scope.names.lookup y.1 = some .local ∨ (scope.names.lookup y.1 = some .cell ∧ ((cellsFrom (st.heap.objs.size + 1) scope.names []).lookup y.1).isSome = true) := by
    rintro ⟨nm, v⟩ my
    exact (S.par nm (List.of_mem_zip my).1).imp id fun z => ⟨z, PySem.W.cellsFrom_some _ _ _ (.inl z)⟩
  refine codeAny_call_function room.toRoom.depth (KIn _ _ look) rfl S.co S.gen rfl (PySem.W.codeRec_of KIn code) (hb _ _ _ _ (wpAny_newFunctionEnv_cells S.kind cellOk fun env henv s2 inC => ?_))
  subst henv
  refine ⟨(e0.mod.nolimit.keeps keeps).keeps inC.toInCall.keep, codeAny_func ?_⟩
  have deep : Room k (A.deeper (envOfC qual scope st.heap.objs.size f cdv)) := ⟨room.toRoom.deeper _, room.gd⟩
  obtain ⟨t, hps, hq⟩ := hB cdv A en st H vs Q E deep q
  have I0 : Inv (cxOf CX P w K mg base N qual scope f cdv A en st H E) [] (L2.start N vs) H s2 := L2.inv_start S room.hd e0 hpl rv inC
  refine wpAny_mono (hps.run [] s2 (L2.start N vs) H _ I0 hq) (fun flow s3 h3 => ?_) fun _ _ h3 => h3
  match flow, h3 with
  | .ret u, h3 =>
    obtain ⟨v, σ3, H3, J, r3, q3⟩ := h3
    exact ⟨v, H3, J.os, J.bare, J.base, J.hok, r3, q3⟩
  | .next, h3 =>
    obtain ⟨σ3, H3, J, q3⟩ := h3
    exact ⟨.non, H3, J.os, J.bare, J.base, J.hok, rfl, q3⟩
  | .brk, h3 =>
    obtain ⟨_, _, _, q3⟩ := h3
    exact False.elim q3
  | .cont, h3 =>
    obtain ⟨_, _, _, q3⟩ := h3
    exact False.elim q3
/-! ### the law's own def, called from outside -/
section
variable {P : Program} {w : World} {K : PySem.W.Frag} {mg mb : Str → Option Value} {CX : CXT} {k : Nat} {fa a : Addr} {fd : FuncData} {x : Str} {sp : Sp} {s₁ : Shared} {cells : List Value} {ns : List Int}
/-- what is wanted behind the law's call -/
def Told (s₁ : Shared) (z : Result) (s2 : Shared) : Prop := z = .ok (.ret (.bool true)) ∧ OldK s₁.heap s2.heap ∧ s2.os = s₁.os ∧ AllBare s2.gens
theorem law_from (H : Hp) (only : ∀ b, H b = none ∨ (b = a ∧ ∃ ob xs, H b = some (.frz ob (.lst xs)))) (hK : H a ≠ none → K.lookup a = none) (hok : HOk P w H s₁.heap) (KIn : K.In s₁.heap) (gl : s₁.heap.Ns mainGlobals mg) (bl : s₁.heap.Ns builtinsNs mb)
    (bt : ∀ y : Str, y ≠ "__name__" → mb y = bootBuiltins y) (lim : s₁.heap.NoLimit) (noG : s₁.gens = #[]) (at_ : s₁.heap.get? a = some { cls := .type "list", data := .seq cells.toArray }) (room : Room k callerA)
    (F : ∀ base : Heap, K.In base → base.Ns mainGlobals mg → FnOk P w K mg base CX k fa fd [x] sp) (hb : ∀ (s : Shared) (u : Value), BindsTo s fd ⟨[u], []⟩ [(x, u)])
    (hsp : sp [.ref a] H (fun v _ => v = .bl true) fun _ _ _ => False) (noX : ∀ H e s2, CX [] H s₁ (fun _ _ _ => False) e s2 → False) : codeAny (model P w) callerA (.call (.ref fa) ⟨[.ref a], []⟩) (Told s₁) s₁ := by
  have seen : ∀ {b : Addr} {ob : Obj}, s₁.heap.get? b = some ob → (∀ its n, ob.data ≠ .seq its n) → H b = none := fun {b ob} e nd => (only b).elim id fun ⟨eb, _⟩ => by
    subst eb
    rw [at_] at e
    cases e
    exact absurd rfl (nd _ _)
  have dictKept : ∀ {b : Addr} {m : Str → Option Value}, s₁.heap.Ns b m → (hidT s₁.heap H).Ns b m := fun {b m} ⟨ob, es, ep, e, ed, rest⟩ => ⟨ob, es, ep, hidT_get e (seen e fun its n z => by rw [ed] at z; cases z), ed, rest⟩
  have KBase : K.In (hidT s₁.heap H) := fun b ob look => hidT_get (KIn b ob look) ((only b).elim id fun ⟨eb, _, _, hz⟩ => by
    subst eb
    rw [hK (by rw [hz]; exact fun z => nomatch z)] at look
    cases look)
  obtain ⟨mc, c1, c2⟩ := lim
  have md : Mod K mg (hidT s₁.heap H) := { kin := KBase, glob := dictKept gl, blt := ⟨mb, dictKept bl, bt⟩, nolimit := ⟨mc, dictKept c1, c2⟩ }
  have nofr : ∀ b ∈ frs ([] : List Env), H b = none := fun b mb => nomatch mb
  have e0 : Env0 P w K mg (hidT s₁.heap H) callerA [] s₁ H := { frames := rfl, mod := md, bs := fun b ob z => of_hidT z, bsz := Nat.le_of_eq (hidT_size _ _), funs := trivial, frf := nofr, hok := hok, bare := .of_eq noG }
  refine codeAny_mono ((F _ KBase (dictKept gl)).run callerA [] s₁ H ⟨[.ref a], []⟩ [.ref a] [.ref a] _ _ room e0 (hb s₁ (.ref a)) (.cons rfl .nil) hsp) fun z s2 hz => ?_
  match z, hz with
  | .error e, hz => exact (noX H e s2 hz).elim
  | .ok .next, hz => exact hz.elim
  | .ok .brk, hz => exact hz.elim
  | .ok .cont, hz => exact hz.elim
  | .ok (.ret u), hz =>
    obtain ⟨v, H2, eo, bare2, un, hok2, rel, ev⟩ := hz
    have ev : v = .bl true := ev
    subst ev
    have eu : u = Value.bool true := rel
    subst eu
    refine ⟨rfl, OldK.of_keep fun b ob e => ?_, eo, bare2⟩
    rcases only b with n | ⟨_, o1, xs, hz1⟩
    · exact un.keep b ob e n (fun m => nomatch m) (fun m => nomatch m)
    · have hz2 := un.frzs b o1 _ hz1
      have q1 := (hok b _ hz1).1
      have q2 := (hok2 b _ hz2).1
      rw [e] at q1
      cases q1
      exact q2
theorem law_told (iAre : IntsAre cells ns) (few : ns.length ≤ sizeLine) (KIn : K.In s₁.heap) (gl : s₁.heap.Ns mainGlobals mg) (bl : s₁.heap.Ns builtinsNs mb)
    (bt : ∀ y : Str, y ≠ "__name__" → mb y = bootBuiltins y) (lim : s₁.heap.NoLimit) (noG : s₁.gens = #[]) (at_ : s₁.heap.get? a = some { cls := .type "list", data := .seq cells.toArray }) (room : Room k callerA)
    (F : ∀ base : Heap, K.In base → base.Ns mainGlobals mg → FnOk P w K mg base CX k fa fd [x] sp) (hb : ∀ (s : Shared) (u : Value), BindsTo s fd ⟨[u], []⟩ [(x, u)])
    (hsp : ∀ H : Hp, SqL K H a (ns.map V.int) → sp [.ref a] H (fun v _ => v = .bl true) fun _ _ _ => False) (noX : ∀ H e s2, CX [] H s₁ (fun _ _ _ => False) e s2 → False) : codeAny (model P w) callerA (.call (.ref fa) ⟨[.ref a], []⟩) (Told s₁) s₁ := by
  have rel := vals_ints iAre
  by_cases look : K.lookup a = none
  · -- the script is laid anew: known to the object
    let H : Hp := fun b => if b = a then some (.frz { cls := .type "list", data := .seq cells.toArray } (.lst (ns.map V.int))) else none
    have Ha : H a = some (.frz { cls := .type "list", data := .seq cells.toArray } (.lst (ns.map V.int))) := if_pos rfl
    have Hn : ∀ {b : Addr}, b ≠ a → H b = none := fun n => if_neg n
    refine law_from H (fun b => ?_) (fun _ => look) (fun b u e => ?_) KIn gl bl bt lim noG at_ room F hb (hsp H (.inl (.inr ⟨_, Ha⟩))) noX
    · by_cases eb : b = a
      · exact .inr ⟨eb, _, _, by rw [eb]; exact Ha⟩
      · exact .inl (Hn eb)
    · by_cases eb : b = a
      · subst eb
        rw [Ha] at e
        cases e
        exact ⟨at_, by simpa using few, cells, _, rel, at_⟩
      · rw [Hn eb] at e
        cases e
  · obtain ⟨ob, look⟩ := Option.ne_none_iff_exists'.mp look
    have same := KIn a ob look
    rw [at_] at same
    cases same
    have hs : cells.toArray.size ≤ sizeLine := by
      have := iAre.length
      simp only [List.size_toArray]
      omega
    exact law_from (fun _ => none) (fun _ => .inl rfl) (fun z => absurd rfl z) (fun _ _ z => by cases z) KIn gl bl bt lim noG at_ room F hb (hsp _ (.inr ⟨_, _, _, look, rfl, rfl, rfl, hs, by simpa using rel⟩)) noX
end
theorem walkG {l : PySem.W.OpenLaw} {n k : Nat} {q : Program} {loose : List Str} {XP : (Str → Option Value) → Heap → Prop} {YP : World → Heap → Prop} {d : DefRec} {CX : World → CXT} {x : Str} (most : l.most = some n) (few : n ≤ sizeLine) (noD : d.params.defaults = []) (room : Room k callerA)
    (F : ∀ (w : World) (mg : Str → Option Value) (fa : Addr) (h : Heap), YP w h → h.Ns mainGlobals mg → mg d.name = some (.ref fa) → ∃ (K : PySem.W.Frag) (fd : FuncData) (sp : Sp), K.In h ∧ (∀ (s : Shared) (u : Value), BindsTo s fd ⟨[u], []⟩ [(x, u)]) ∧
      (∀ (H : Hp) (a : Addr) (ns : List Int), ns.length ≤ n → (∀ z ∈ ns, Builtin.Int.intBits z ≤ 1048576) → SqL K H a (ns.map V.int) → sp [.ref a] H (fun v _ => v = .bl true) fun _ _ _ => False) ∧
      ∀ base : Heap, K.In base → base.Ns mainGlobals mg → FnOk l.prog w K mg base (CX w) k fa fd [x] sp)
    (noX : ∀ (w : World) (H : Hp) (s : Shared) (e : Value) (s' : Shared), CX w [] H s (fun _ _ _ => False) e s' → False) : PySem.W.WalkO q loose XP YP l.row.toRowW d [] (fun f vs => PySem.call f vs) := by
  refine Att.attach_callB most noD fun w s0 s1 mg mb fa o pm cd doc a cells ns gr yp ho hd hcd hmg hobj iAre hlen hbits noG => ?_
  obtain ⟨K, fd, sp, KIn, hb, hsp, hF⟩ := F w mg fa _ yp gr.T.g hmg
  exact law_told iAre (Nat.le_trans hlen few) KIn gr.T.g gr.T.b gr.T.builtins gr.T.nolimit noG hobj room hF hb (fun H => hsp H a ns hlen hbits) fun H e => noX w H s1 e
end G
/-! G: values in place of the heap. A pure datum D stands in a base heap that only grows; an owned tree O stands in the full heap. -/
namespace G
open PySem L2
open Evl (Ex)

inductive D where
  | non | bl (b : Bool) | int (i : Int) | str (x : Str) | ty (n : String) | fn (a : Addr)
  | tup (ds : List D) | lst (ds : List D) | frl (ds : List D)
  | dK (ks : List Key) (ds : List D) | dT (ks : List (List Key)) (ds : List D)
  | ins (C : Addr) (fs : List Str) (ds : List D)
  | exc (a C : Addr) (d : Option Addr) (fs : List Str) (ds : List D)
  | frt (ds : List D)
  | tix (a : Addr) (ns : List Int)
  | lkK (ks : List Key) (ds : List D) | lkT (ks : List (List Key)) (ds : List D)
  | tfz (ds : List D)
/-- a tuple of ints that is known to the object, without attributes of its own -/
def TixP (a : Addr) (ns : List Int) (h : Heap) : Prop := ∃ its : List Value, Vals (ns.map V.int) its ∧ h.get? a = some { cls := .type "tuple", data := .seq its.toArray }
/-- no tuple -/
def ntup : HO → Prop
  | .tup _ => False
  | _ => True
inductive O where
  | pur (d : D)
  | lst (p : Addr) (xs : List O)
  | dK (p : Addr) (ks : List Key) (xs : List O)
  | dT (p : Addr) (ks : List (List Key)) (xs : List O)
  | ins (p dx C : Addr) (fs : List Str) (xs : List O)
  | tup (xs : List O)
/-- a tuple of the text -/
def FrT (K : PySem.W.Frag) (a : Addr) (xs : List V) : Prop := ∃ (o : Obj) (its : Array Value) (n : Nat), K.lookup a = some o ∧ o.cls = .type "tuple" ∧ o.data = .seq its n ∧ its.size ≤ sizeLine ∧ Vals xs its.toList
/-- a tuple of the heap or of the text -/
def TupAt (K : PySem.W.Frag) (H : Hp) (a : Addr) (xs : List V) : Prop := H a = some (.tup xs) ∨ FrT K a xs
theorem TupAt.mono {K : PySem.W.Frag} {b b' : Hp} {a : Addr} {xs : List V} (q : TupAt K b a xs) (e : Ex b b') : TupAt K b' a xs := q.imp (e _ _) id
theorem TupAt.sq {K : PySem.W.Frag} {H : Hp} {a : Addr} {xs : List V} (q : TupAt K H a xs) : SqT K H a xs := q.elim SqT.of .inr
mutual
/-- d is what v means in the heap H -/
def den (K : PySem.W.Frag) (H : Hp) : D → V → Prop
  | .non, v => v = .non
  | .bl b, v => v = .bl b
  | .int i, v => v = .int i
  | .str x, v => v = .str x
  | .ty n, v => v = .ty n
  | .fn a, v => v = .ref a
  | .tup ds, v => ∃ a vs, v = .ref a ∧ H a = some (.tup vs) ∧ denL K H ds vs
  | .lst ds, v => ∃ a vs, v = .ref a ∧ H a = some (.lst vs) ∧ denL K H ds vs
  | .frl ds, v => ∃ a vs, v = .ref a ∧ SqL K H a vs ∧ denL K H ds vs
  | .frt ds, v => ∃ a vs, v = .ref a ∧ TupAt K H a vs ∧ denL K H ds vs
  | .tfz ds, v => ∃ a o vs, v = .ref a ∧ H a = some (.frz o (.tup vs)) ∧ o.cls = .type "tuple" ∧ o.dict = none ∧ denL K H ds vs
  | .tix a ns, v => v = .ref a ∧ H a = some (.ext (TixP a ns))
  | .dK ks ds, v => ∃ a vs, v = .ref a ∧ H a = some (.dK (ks.zip vs)) ∧ ks.length = vs.length ∧ denL K H ds vs
  | .dT ks ds, v => ∃ a vs, v = .ref a ∧ H a = some (.dT (ks.zip vs)) ∧ ks.length = vs.length ∧ denL K H ds vs
  | .lkK ks ds, v => ∃ a o vs, v = .ref a ∧ H a = some (.frz o (.dK (ks.zip vs))) ∧ ks.length = vs.length ∧ denL K H ds vs
  | .lkT ks ds, v => ∃ a o vs, v = .ref a ∧ H a = some (.frz o (.dT (ks.zip vs))) ∧ ks.length = vs.length ∧ denL K H ds vs
  | .ins C fs ds, v => ∃ a dx vs, v = .ref a ∧ H a = some (.ins C dx (fs.zip vs)) ∧ H dx = some (.own a) ∧ fs.length = vs.length ∧ denL K H ds vs
  | .exc a _ d fs ds, v => v = .ref a ∧ ((d = none ∧ fs = [] ∧ ds = []) ∨ ∃ dd vs, d = some dd ∧ H dd = some (.xd (fs.zip vs)) ∧ fs.length = vs.length ∧ denL K H ds vs)
def denL (K : PySem.W.Frag) (H : Hp) : List D → List V → Prop
  | [], vs => vs = []
  | d :: ds, vs => ∃ v r, vs = v :: r ∧ den K H d v ∧ denL K H ds r
end
mutual
/-- o stands at v: its own objects in h, its pure parts in b -/
def own (K : PySem.W.Frag) (b h : Hp) : O → V → Prop
  | .pur d, v => den K b d v
  | .lst p xs, v => v = .ref p ∧ ∃ vs, h p = some (.lst vs) ∧ ownL K b h xs vs
  | .dK p ks xs, v => v = .ref p ∧ ∃ vs, h p = some (.dK (ks.zip vs)) ∧ ks.length = vs.length ∧ ownL K b h xs vs
  | .dT p ks xs, v => v = .ref p ∧ ∃ vs, h p = some (.dT (ks.zip vs)) ∧ ks.length = vs.length ∧ ownL K b h xs vs
  | .ins p dx C fs xs, v => v = .ref p ∧ ∃ vs, h p = some (.ins C dx (fs.zip vs)) ∧ h dx = some (.own p) ∧ fs.length = vs.length ∧ ownL K b h xs vs
  | .tup xs, v => ∃ a vs, v = .ref a ∧ b a = some (.tup vs) ∧ ownL K b h xs vs
def ownL (K : PySem.W.Frag) (b h : Hp) : List O → List V → Prop
  | [], vs => vs = []
  | o :: os, vs => ∃ v r, vs = v :: r ∧ own K b h o v ∧ ownL K b h os r
end
mutual
def foot : O → List Addr
  | .pur _ => []
  | .lst p xs => p :: footL xs
  | .dK p _ xs => p :: footL xs
  | .dT p _ xs => p :: footL xs
  | .ins p dx _ _ xs => p :: dx :: footL xs
  | .tup xs => footL xs
def footL : List O → List Addr
  | [] => []
  | o :: os => foot o ++ footL os
end
mutual
def O.d : O → D
  | .pur d => d
  | .lst _ xs => .lst (O.dL xs)
  | .dK _ ks xs => .dK ks (O.dL xs)
  | .dT _ ks xs => .dT ks (O.dL xs)
  | .ins _ _ C fs xs => .ins C fs (O.dL xs)
  | .tup xs => .tup (O.dL xs)
def O.dL : List O → List D
  | [] => []
  | o :: os => o.d :: O.dL os
end
section
variable {K : PySem.W.Frag} {b b' h h' : Hp}
mutual
theorem den_mono (e : Ex b b') : ∀ (d : D) (v : V), den K b d v → den K b' d v
  | .non, _, h => h
  | .bl _, _, h => h
  | .int _, _, h => h
  | .str _, _, h => h
  | .ty _, _, h => h
  | .fn _, _, h => h
  | .tup ds, _, ⟨a, vs, e1, h1, h2⟩ => ⟨a, vs, e1, e _ _ h1, denL_mono e ds vs h2⟩
  | .lst ds, _, ⟨a, vs, e1, h1, h2⟩ => ⟨a, vs, e1, e _ _ h1, denL_mono e ds vs h2⟩
  | .frl ds, _, ⟨a, vs, e1, h1, h2⟩ => ⟨a, vs, e1, Evl.ex_l e h1, denL_mono e ds vs h2⟩
  | .frt ds, _, ⟨a, vs, e1, h1, h2⟩ => ⟨a, vs, e1, h1.mono e, denL_mono e ds vs h2⟩
  | .tfz ds, _, ⟨a, o, vs, e1, h1, q1, q2, h2⟩ => ⟨a, o, vs, e1, e _ _ h1, q1, q2, denL_mono e ds vs h2⟩
  | .tix _ _, _, ⟨e1, h1⟩ => ⟨e1, e _ _ h1⟩
  | .dK _ ds, _, ⟨a, vs, e1, h1, h3, h2⟩ => ⟨a, vs, e1, e _ _ h1, h3, denL_mono e ds vs h2⟩
  | .dT _ ds, _, ⟨a, vs, e1, h1, h3, h2⟩ => ⟨a, vs, e1, e _ _ h1, h3, denL_mono e ds vs h2⟩
  | .lkK _ ds, _, ⟨a, o, vs, e1, h1, h3, h2⟩ => ⟨a, o, vs, e1, e _ _ h1, h3, denL_mono e ds vs h2⟩
  | .lkT _ ds, _, ⟨a, o, vs, e1, h1, h3, h2⟩ => ⟨a, o, vs, e1, e _ _ h1, h3, denL_mono e ds vs h2⟩
  | .ins _ _ ds, _, ⟨a, dx, vs, e1, h1, h4, h3, h2⟩ => ⟨a, dx, vs, e1, e _ _ h1, e _ _ h4, h3, denL_mono e ds vs h2⟩
  | .exc _ _ _ _ _, _, ⟨e1, .inl h⟩ => ⟨e1, .inl h⟩
  | .exc _ _ _ _ ds, _, ⟨e1, .inr ⟨dd, vs, e2, h1, h3, h2⟩⟩ => ⟨e1, .inr ⟨dd, vs, e2, e _ _ h1, h3, denL_mono e ds vs h2⟩⟩
theorem denL_mono (e : Ex b b') : ∀ (ds : List D) (vs : List V), denL K b ds vs → denL K b' ds vs
  | [], _, h => h
  | d :: ds, _, ⟨v, r, e1, h1, h2⟩ => ⟨v, r, e1, den_mono e d v h1, denL_mono e ds r h2⟩
end
mutual
theorem own_keep (e : Ex b b') : ∀ (o : O) (v : V), own K b h o v → (∀ a ∈ foot o, h' a = h a) → own K b' h' o v
  | .pur d, v, x, _ => den_mono e d v x
  | .lst p xs, _, ⟨e1, vs, h1, h2⟩, k => ⟨e1, vs, (k p (List.mem_cons_self ..)).trans h1, ownL_keep e xs vs h2 fun a z => k a (List.mem_cons_of_mem _ z)⟩
  | .dK p ks xs, _, ⟨e1, vs, h1, h3, h2⟩, k => ⟨e1, vs, (k p (List.mem_cons_self ..)).trans h1, h3, ownL_keep e xs vs h2 fun a z => k a (List.mem_cons_of_mem _ z)⟩
  | .dT p ks xs, _, ⟨e1, vs, h1, h3, h2⟩, k => ⟨e1, vs, (k p (List.mem_cons_self ..)).trans h1, h3, ownL_keep e xs vs h2 fun a z => k a (List.mem_cons_of_mem _ z)⟩
  | .ins p dx C fs xs, _, ⟨e1, vs, h1, h4, h3, h2⟩, k => ⟨e1, vs, (k p (List.mem_cons_self ..)).trans h1, (k dx (List.mem_cons_of_mem _ (List.mem_cons_self ..))).trans h4, h3,
      ownL_keep e xs vs h2 fun a z => k a (List.mem_cons_of_mem _ (List.mem_cons_of_mem _ z))⟩
  | .tup xs, _, ⟨a, vs, e1, h1, h2⟩, k => ⟨a, vs, e1, e _ _ h1, ownL_keep e xs vs h2 k⟩
theorem ownL_keep (e : Ex b b') : ∀ (os : List O) (vs : List V), ownL K b h os vs → (∀ a ∈ footL os, h' a = h a) → ownL K b' h' os vs
  | [], _, x, _ => x
  | o :: os, _, ⟨v, r, e1, h1, h2⟩, k => ⟨v, r, e1, own_keep e o v h1 fun a z => k a (List.mem_append_left _ z), ownL_keep e os r h2 fun a z => k a (List.mem_append_right _ z)⟩
end
mutual
theorem own_there : ∀ (o : O) (v : V), own K b h o v → ∀ a ∈ foot o, ∃ u, h a = some u
  | .pur d, v, x, a, z => by simp [foot] at z
  | .lst p xs, _, ⟨e1, vs, h1, h2⟩, a, z => by
    rcases List.mem_cons.mp z with e | z
    · exact ⟨_, e ▸ h1⟩
    · exact ownL_there xs vs h2 a z
  | .dK p ks xs, _, ⟨e1, vs, h1, h3, h2⟩, a, z => by
    rcases List.mem_cons.mp z with e | z
    · exact ⟨_, e ▸ h1⟩
    · exact ownL_there xs vs h2 a z
  | .dT p ks xs, _, ⟨e1, vs, h1, h3, h2⟩, a, z => by
    rcases List.mem_cons.mp z with e | z
    · exact ⟨_, e ▸ h1⟩
    · exact ownL_there xs vs h2 a z
  | .ins p dx C fs xs, _, ⟨e1, vs, h1, h4, h3, h2⟩, a, z => by
    rcases List.mem_cons.mp z with e | z
    · exact ⟨_, e ▸ h1⟩
    · rcases List.mem_cons.mp z with e | z
      · exact ⟨_, e ▸ h4⟩
      · exact ownL_there xs vs h2 a z
  | .tup xs, _, ⟨_, vs, e1, h1, h2⟩, a, z => ownL_there xs vs h2 a z
theorem ownL_there : ∀ (os : List O) (vs : List V), ownL K b h os vs → ∀ a ∈ footL os, ∃ u, h a = some u
  | [], _, _, a, z => by simp [footL] at z
  | o :: os, _, ⟨v, r, e1, h1, h2⟩, a, z => by
    rcases List.mem_append.mp z with z | z
    · exact own_there o v h1 a z
    · exact ownL_there os r h2 a z
end
mutual
theorem own_nt : ∀ (o : O) (v : V), own K b h o v → ∀ a ∈ foot o, ∀ u, h a = some u → ntup u
  | .pur d, v, x, a, z, _, _ => by simp [foot] at z
  | .lst p xs, _, ⟨e1, vs, h1, h2⟩, a, z, u, e => by
    rcases List.mem_cons.mp z with q | z
    · subst q; rw [h1] at e; cases e; trivial
    · exact ownL_nt xs vs h2 a z u e
  | .dK p ks xs, _, ⟨e1, vs, h1, h3, h2⟩, a, z, u, e => by
    rcases List.mem_cons.mp z with q | z
    · subst q; rw [h1] at e; cases e; trivial
    · exact ownL_nt xs vs h2 a z u e
  | .dT p ks xs, _, ⟨e1, vs, h1, h3, h2⟩, a, z, u, e => by
    rcases List.mem_cons.mp z with q | z
    · subst q; rw [h1] at e; cases e; trivial
    · exact ownL_nt xs vs h2 a z u e
  | .ins p dx C fs xs, _, ⟨e1, vs, h1, h4, h3, h2⟩, a, z, u, e => by
    rcases List.mem_cons.mp z with q | z
    · subst q; rw [h1] at e; cases e; trivial
    · rcases List.mem_cons.mp z with q | z
      · subst q; rw [h4] at e; cases e; trivial
      · exact ownL_nt xs vs h2 a z u e
  | .tup xs, _, ⟨_, vs, e1, h1, h2⟩, a, z, u, e => ownL_nt xs vs h2 a z u e
theorem ownL_nt : ∀ (os : List O) (vs : List V), ownL K b h os vs → ∀ a ∈ footL os, ∀ u, h a = some u → ntup u
  | [], _, _, a, z, _, _ => by simp [footL] at z
  | o :: os, _, ⟨v, r, e1, h1, h2⟩, a, z, u, e => by
    rcases List.mem_append.mp z with z | z
    · exact own_nt o v h1 a z u e
    · exact ownL_nt os r h2 a z u e
end
mutual
/-- an owned tree joins the base -/
theorem own_frz (e : Ex b b') : ∀ (o : O) (v : V), own K b h o v → (∀ a ∈ foot o, b' a = h a) → den K b' o.d v
  | .pur d, v, x, _ => den_mono e d v x
  | .lst p xs, _, ⟨e1, vs, h1, h2⟩, k => ⟨p, vs, e1, (k p (List.mem_cons_self ..)).trans h1, ownL_frz e xs vs h2 fun a z => k a (List.mem_cons_of_mem _ z)⟩
  | .dK p ks xs, _, ⟨e1, vs, h1, h3, h2⟩, k => ⟨p, vs, e1, (k p (List.mem_cons_self ..)).trans h1, h3, ownL_frz e xs vs h2 fun a z => k a (List.mem_cons_of_mem _ z)⟩
  | .dT p ks xs, _, ⟨e1, vs, h1, h3, h2⟩, k => ⟨p, vs, e1, (k p (List.mem_cons_self ..)).trans h1, h3, ownL_frz e xs vs h2 fun a z => k a (List.mem_cons_of_mem _ z)⟩
  | .ins p dx C fs xs, _, ⟨e1, vs, h1, h4, h3, h2⟩, k => ⟨p, dx, vs, e1, (k p (List.mem_cons_self ..)).trans h1, (k dx (List.mem_cons_of_mem _ (List.mem_cons_self ..))).trans h4, h3,
      ownL_frz e xs vs h2 fun a z => k a (List.mem_cons_of_mem _ (List.mem_cons_of_mem _ z))⟩
  | .tup xs, _, ⟨a, vs, e1, h1, h2⟩, k => ⟨a, vs, e1, e _ _ h1, ownL_frz e xs vs h2 k⟩
theorem ownL_frz (e : Ex b b') : ∀ (os : List O) (vs : List V), ownL K b h os vs → (∀ a ∈ footL os, b' a = h a) → denL K b' (O.dL os) vs
  | [], _, x, _ => x
  | o :: os, _, ⟨v, r, e1, h1, h2⟩, k => ⟨v, r, e1, own_frz e o v h1 fun a z => k a (List.mem_append_left _ z), ownL_frz e os r h2 fun a z => k a (List.mem_append_right _ z)⟩
end
end

/-! ### slots -/
abbrev Gam := List (Option O)
def inF (g : Gam) (a : Addr) : Prop := ∃ (i : Nat) (o : O), g[i]? = some (some o) ∧ a ∈ foot o
structure Hold (K : PySem.W.Frag) (b h : Hp) (σ : L2.St) (g : Gam) : Prop where
  sub : Ex b h
  len : σ.length = g.length
  sl : ∀ (i : Nat) (o : O), g[i]? = some (some o) → ∃ v, σ[i]? = some (some v) ∧ own K b h o v
  nd : ∀ (i : Nat) (o : O), g[i]? = some (some o) → (foot o).Nodup
  dj : ∀ (i j : Nat) (o u : O), i ≠ j → g[i]? = some (some o) → g[j]? = some (some u) → ∀ a, a ∈ foot o → a ∉ foot u
  nb : ∀ (i : Nat) (o : O), g[i]? = some (some o) → ∀ a ∈ foot o, b a = none
structure Frm (g : Gam) (b h : Hp) (g' : Gam) (b' h' : Hp) : Prop where
  bs : Ex b b'
  keep : ∀ a o, h a = some o → ¬ inF g a → h' a = some o
  nb : ∀ a o, h a = some o → ntup o → b a = none → ¬ inF g a → b' a = none
  new : ∀ a, inF g' a → inF g a ∨ h a = none
section
variable {K : PySem.W.Frag} {b b' b'' h h' h'' : Hp} {σ σ' : L2.St} {g g' g'' : Gam} {o u : O} {v : V}
theorem Frm.refl (g : Gam) (b h : Hp) : Frm g b h g b h := ⟨Ex.refl b, fun _ _ e _ => e, fun _ _ _ _ e _ => e, fun _ e => .inl e⟩
theorem Frm.trans (x : Frm g b h g' b' h') (y : Frm g' b' h' g'' b'' h'') : Frm g b h g'' b'' h'' := by
  have k : ∀ a o, h a = some o → ¬ inF g a → ¬ inF g' a := fun a o e n z => by
    rcases x.new a z with z | z
    · exact n z
    · rw [e] at z; cases z
  refine ⟨x.bs.trans y.bs, fun a o e n => y.keep a o (x.keep a o e n) (k a o e n), fun a o e t eb n => y.nb a o (x.keep a o e n) t (x.nb a o e t eb n) (k a o e n), fun a z => ?_⟩
  rcases y.new a z with z | z
  · exact x.new a z
  · by_cases hz : inF g a
    · exact .inl hz
    · cases e : h a with
      | none => exact .inr rfl
      | some o => rw [x.keep a o e hz] at z; cases z
theorem Frm.sub (x : Frm g b h g' b' h') (s : ∀ a, inF g'' a → inF g' a) : Frm g b h g'' b' h' := ⟨x.bs, x.keep, x.nb, fun a z => x.new a (s a z)⟩
theorem inF_cons {a : Addr} {x : Option O} : inF (x :: g) a ↔ (∃ o, x = some o ∧ a ∈ foot o) ∨ inF g a := by
  constructor
  · rintro ⟨i, o, e, m⟩
    cases i with
    | zero => exact .inl ⟨o, by simpa using e, m⟩
    | succ i => exact .inr ⟨i, o, by simpa using e, m⟩
  · rintro (⟨o, e, m⟩ | ⟨i, o, e, m⟩)
    · exact ⟨0, o, by simp [e], m⟩
    · exact ⟨i + 1, o, by simpa using e, m⟩
theorem Hold.inF_there (x : Hold K b h σ g) {a : Addr} (z : inF g a) : ∃ o, h a = some o := by
  obtain ⟨i, o, e, m⟩ := z
  obtain ⟨v, _, w⟩ := x.sl i o e
  exact own_there o v w a m
theorem Hold.inF_nt (x : Hold K b h σ g) {a : Addr} (z : inF g a) {u : HO} (e : h a = some u) : ntup u := by
  obtain ⟨i, o, e1, m⟩ := z
  obtain ⟨v, _, w⟩ := x.sl i o e1
  exact own_nt o v w a m u e
theorem Hold.inF_nb (x : Hold K b h σ g) {a : Addr} (z : inF g a) : b a = none := by
  obtain ⟨i, o, e, m⟩ := z
  exact x.nb i o e a m
theorem Hold.tail {x : Option O} {w : Option V} (k : Hold K b h (w :: σ) (x :: g)) : Hold K b h σ g :=
  ⟨k.sub, by have := k.len; simpa using this, fun i o e => by
    have := k.sl (i + 1) o (by simpa using e)
    simpa using this, fun i o e => k.nd (i + 1) o (by simpa using e), fun i j o u n e1 e2 => k.dj (i + 1) (j + 1) o u (by omega) (by simpa using e1) (by simpa using e2), fun i o e => k.nb (i + 1) o (by simpa using e)⟩
theorem Hold.head (k : Hold K b h (some v :: σ) (some o :: g)) : own K b h o v ∧ (foot o).Nodup ∧ (∀ a ∈ foot o, b a = none) ∧ ∀ a ∈ foot o, ¬ inF g a := by
  obtain ⟨w, e, z⟩ := k.sl 0 o rfl
  have e' : v = w := by simpa using e
  subst e'
  refine ⟨z, k.nd 0 o rfl, k.nb 0 o rfl, fun a m ⟨i, u, e, mu⟩ => ?_⟩
  exact k.dj 0 (i + 1) o u (by omega) rfl (by simpa using e) a m mu
theorem Hold.cons (k : Hold K b h σ g) (z : own K b h o v) (nd : (foot o).Nodup) (nb : ∀ a ∈ foot o, b a = none) (dj : ∀ a ∈ foot o, ¬ inF g a) : Hold K b h (some v :: σ) (some o :: g) := by
  refine ⟨k.sub, by simp [k.len], fun i u e => ?_, fun i u e => ?_, fun i j u w n e1 e2 a m1 m2 => ?_, fun i u e => ?_⟩
  · cases i with
    | zero => have : o = u := by simpa using e
              subst this; exact ⟨v, rfl, z⟩
    | succ i => have := k.sl i u (by simpa using e); simpa using this
  · cases i with
    | zero => have : o = u := by simpa using e
              subst this; exact nd
    | succ i => exact k.nd i u (by simpa using e)
  · cases i with
    | zero =>
      have : o = u := by simpa using e1
      subst this
      cases j with
      | zero => exact n rfl
      | succ j => exact dj a m1 ⟨j, w, by simpa using e2, m2⟩
    | succ i =>
      cases j with
      | zero =>
        have : o = w := by simpa using e2
        subst this
        exact dj a m2 ⟨i, u, by simpa using e1, m1⟩
      | succ j => exact k.dj i j u w (by omega) (by simpa using e1) (by simpa using e2) a m1 m2
  · cases i with
    | zero => have : o = u := by simpa using e
              subst this; exact nb
    | succ i => exact k.nb i u (by simpa using e)
theorem Hold.consN (k : Hold K b h σ g) (w : Option V) : Hold K b h (w :: σ) (none :: g) := by
  refine ⟨k.sub, by simp [k.len], fun i u e => ?_, fun i u e => ?_, fun i j u w n e1 e2 a m1 m2 => ?_, fun i u e => ?_⟩
  · cases i with
    | zero => simp at e
    | succ i => have := k.sl i u (by simpa using e); simpa using this
  · cases i with
    | zero => simp at e
    | succ i => exact k.nd i u (by simpa using e)
  · cases i with
    | zero => simp at e1
    | succ i =>
      cases j with
      | zero => simp at e2
      | succ j => exact k.dj i j u w (by omega) (by simpa using e1) (by simpa using e2) a m1 m2
  · cases i with
    | zero => simp at e
    | succ i => exact k.nb i u (by simpa using e)
/-- the base grows by what none of the slots owns -/
theorem Hold.grow (k : Hold K b h σ g) (e : Ex b b') (s : Ex b' h) (nb : ∀ a, inF g a → b' a = none) : Hold K b' h σ g :=
  ⟨s, k.len, fun i o q => by
    obtain ⟨v, e1, z⟩ := k.sl i o q
    exact ⟨v, e1, own_keep e o v z fun _ _ => rfl⟩, k.nd, k.dj, fun i o q a m => nb a ⟨i, o, q, m⟩⟩
/-- an owned result joins the base -/
theorem Hold.frz (k : Hold K b h (some v :: σ) (some o :: g)) : ∃ b', Ex b b' ∧ den K b' o.d v ∧ Hold K b' h σ g ∧ (∀ a, b' a ≠ none → b a = none → a ∈ foot o) := by
  obtain ⟨z, nd, nb, dj⟩ := k.head
  refine ⟨fun a => if a ∈ foot o then h a else b a, ?_, ?_, ?_, ?_⟩
  · intro a u e
    by_cases m : a ∈ foot o
    · rw [nb a m] at e; cases e
    · show (if a ∈ foot o then h a else b a) = some u
      rw [if_neg m]; exact e
  · refine own_frz (fun a u e => ?_) o v z fun a m => ?_
    · by_cases m : a ∈ foot o
      · rw [nb a m] at e; cases e
      · show (if a ∈ foot o then h a else b a) = some u
        rw [if_neg m]; exact e
    · show (if a ∈ foot o then h a else b a) = h a
      rw [if_pos m]
  · refine k.tail.grow (fun a u e => ?_) (fun a u e => ?_) fun a q => ?_
    · by_cases m : a ∈ foot o
      · rw [nb a m] at e; cases e
      · show (if a ∈ foot o then h a else b a) = some u
        rw [if_neg m]; exact e
    · have e' : (if a ∈ foot o then h a else b a) = some u := e
      by_cases m : a ∈ foot o
      · rw [if_pos m] at e'; exact e'
      · rw [if_neg m] at e'; exact k.sub a u e'
    · show (if a ∈ foot o then h a else b a) = none
      rw [if_neg fun m => dj a m q]
      exact k.tail.inF_nb q
  · intro a n1 n2
    have n1' : (if a ∈ foot o then h a else b a) ≠ none := n1
    by_cases m : a ∈ foot o
    · exact m
    · rw [if_neg m] at n1'; exact absurd n2 n1'
theorem Frm.frz (x : Frm g b h (some o :: g') b' h') (e : Ex b' b'') (n : ∀ a, b'' a ≠ none → b' a = none → a ∈ foot o) : Frm g b h g' b'' h' := by
  refine ⟨x.bs.trans e, x.keep, fun a u e1 t e2 n1 => ?_, fun a z => x.new a (inF_cons.mpr (.inr z))⟩
  cases q : b'' a with
  | none => rfl
  | some w =>
    have m := n a (by rw [q]; simp) (x.nb a u e1 t e2 n1)
    rcases x.new a (inF_cons.mpr (.inl ⟨o, rfl, m⟩)) with z | z
    · exact absurd z n1
    · rw [e1] at z; cases z
/-- a result that leans on nothing owned, lifted to the slots -/
def Res (K : PySem.W.Frag) (b h b' h' : Hp) (v : V) (o : O) : Prop := Hold K b' h' [some v] [some o] ∧ Frm [] b h [some o] b' h'
theorem inF_nil {a : Addr} : ¬ inF [] a := fun ⟨i, o, e, _⟩ => by simp at e
theorem Res.lift (k : Hold K b h σ g) (r : Res K b h b' h' v o) : Hold K b' h' (some v :: σ) (some o :: g) ∧ Frm g b h (some o :: g) b' h' := by
  obtain ⟨r1, r2⟩ := r
  obtain ⟨z, nd, nb, _⟩ := r1.head
  have kp : ∀ a, inF g a → h' a = h a := fun a q => by
    obtain ⟨u, e⟩ := k.inF_there q
    rw [e]; exact r2.keep a u e inF_nil
  have hb : ∀ a, inF g a → b' a = none := fun a q => by
    obtain ⟨u, e⟩ := k.inF_there q
    exact r2.nb a u e (k.inF_nt q e) (k.inF_nb q) inF_nil
  have k' : Hold K b' h' σ g := ⟨r1.sub, k.len, fun i u q => by
    obtain ⟨w, e1, z⟩ := k.sl i u q
    exact ⟨w, e1, own_keep r2.bs u w z fun a m => kp a ⟨i, u, q, m⟩⟩, k.nd, k.dj, fun i u q a m => hb a ⟨i, u, q, m⟩⟩
  have dj : ∀ a ∈ foot o, h a = none := fun a m => by
    rcases r2.new a (inF_cons.mpr (.inl ⟨o, rfl, m⟩)) with z | z
    · exact absurd z inF_nil
    · exact z
  refine ⟨k'.cons z nd nb fun a m q => ?_, ⟨r2.bs, fun a u e _ => r2.keep a u e inF_nil, fun a u e1 t e2 _ => r2.nb a u e1 t e2 inF_nil, fun a q => ?_⟩⟩
  · obtain ⟨u, e⟩ := k.inF_there q
    rw [dj a m] at e; cases e
  · rcases inF_cons.mp q with ⟨o', e, m⟩ | q
    · cases e; exact .inr (dj a m)
    · exact .inl q
/-- a pure result: nothing has changed -/
theorem Res.same {d : D} (s : Ex b h) (z : den K b d v) : Res K b h b h v (.pur d) := by
  refine ⟨⟨s, rfl, fun i o e => ?_, fun i o e => ?_, fun i j o u n e1 e2 a m1 m2 => ?_, fun i o e a m => ?_⟩, ⟨Ex.refl b, fun _ _ e _ => e, fun _ _ _ _ e _ => e, fun a q => ?_⟩⟩
  · cases i with
    | zero => have : O.pur d = o := by simpa using e
              subst this; exact ⟨v, rfl, z⟩
    | succ i => simp at e
  · cases i with
    | zero => have : O.pur d = o := by simpa using e
              subst this; simp [foot]
    | succ i => simp at e
  · cases i with
    | zero => have : O.pur d = o := by simpa using e1
              subst this; simp [foot] at m1
    | succ i => simp at e1
  · cases i with
    | zero => have : O.pur d = o := by simpa using e
              subst this; simp [foot] at m
    | succ i => simp at e
  · obtain ⟨i, o, e, m⟩ := q
    cases i with
    | zero => have : O.pur d = o := by simpa using e
              subst this; simp [foot] at m
    | succ i => simp at e
theorem hold1 (s : Ex b h) (z : own K b h o v) (nd : (foot o).Nodup) (nb : ∀ a ∈ foot o, b a = none) : Hold K b h [some v] [some o] :=
  Hold.cons (σ := []) (g := []) ⟨s, rfl, fun i o e => by simp at e, fun i o e => by simp at e, fun i j o u n e => by simp at e, fun i o e => by simp at e⟩ z nd nb fun _ _ => inF_nil
/-- a new pure object at p -/
theorem Res.new {p : Addr} {ob : HO} {d : D} (s : Ex b h) (np : h p = none) (z : den K (upd b p ob) d v) : Res K b h (upd b p ob) (upd h p ob) v (.pur d) := by
  have nbp : b p = none := Evl.fresh_back s np
  refine ⟨hold1 (fun a u e => ?_) z (by simp [foot]) (fun a m => by simp [foot] at m), ⟨Ex.new nbp, fun a u e _ => ?_, fun a u e1 t e2 _ => ?_, fun a q => ?_⟩⟩
  · by_cases ha : a = p
    · subst ha; rw [upd_same] at e ⊢; exact e
    · rw [upd_ne ha] at e ⊢; exact s a u e
  · rw [upd_ne (ne_of_none e np)]; exact e
  · rw [upd_ne (ne_of_none e1 np)]; exact e2
  · rcases inF_cons.mp q with ⟨o', e, m⟩ | q
    · cases e; simp [foot] at m
    · exact absurd q inF_nil
/-- a new owned object at p, its parts pure -/
theorem Res.own1 {p : Addr} {ob : HO} (s : Ex b h) (np : h p = none) (z : own K b (upd h p ob) o v) (hf : foot o = [p]) : Res K b h b (upd h p ob) v o := by
  have nbp : b p = none := Evl.fresh_back s np
  refine ⟨hold1 (fun a u e => ?_) z (by simp [hf]) (fun a m => by rw [hf] at m; simp at m; subst m; exact nbp), ⟨Ex.refl b, fun a u e _ => ?_, fun a u e1 t e2 _ => e2, fun a q => ?_⟩⟩
  · rw [upd_ne (ne_of_none e nbp)]; exact s a u e
  · rw [upd_ne (ne_of_none e np)]; exact e
  · rcases inF_cons.mp q with ⟨o', e, m⟩ | q
    · cases e; rw [hf] at m; simp at m; subst m; exact .inr np
    · exact absurd q inF_nil
end
end G
/-! G: the judgements and the rules of expressions. -/
namespace G
open PySem L2
open Evl (Ex)

/-- an exception: its class, its fields -/
abbrev Exn := Addr × List (Str × D)
abbrev Wsh := Exn → Gam → Prop
def exAt (K : PySem.W.Frag) (b h : Hp) (x : Exn) (cls : Value) (d : Option Addr) : Prop :=
  cls = .ref x.1 ∧ ((d = none ∧ x.2 = []) ∨ ∃ a vs, d = some a ∧ b a = some (.xd ((x.2.map (·.1)).zip vs)) ∧ denL K b (x.2.map (·.2)) vs)
section
variable (K : PySem.W.Frag) (g : Gam) (b h : Hp) (σ : L2.St)
def ContX (We : Wsh) (W : WX) : Prop := ∀ cls d σ' b' h' g' x, Hold K b' h' σ' g' → Frm g b h g' b' h' → exAt K b' h' x cls d → We x g' → W cls d σ' h'
def Cont (P : O → Gam → Prop) (Q : VK) : Prop := ∀ v b' h' g' o, Hold K b' h' (some v :: σ) (some o :: g') → Frm g b h (some o :: g') b' h' → P o g' → Q v h'
def ContT (P : Bool → Gam → Prop) (Q : Bool → Hp → Prop) : Prop := ∀ k b' h' g', Hold K b' h' σ g' → Frm g b h g' b' h' → P k g' → Q k h'
end
abbrev WE := Wsh → Gam → (O → Gam → Prop) → Prop
abbrev WT := Wsh → Gam → (Bool → Gam → Prop) → Prop
structure GE (X : Cx) (W : WX) (e : Expr) (t : TE) (w : WE) : Prop where
  pe : PE X e t
  se : ∀ b h σ g We P Q, Hold X.K b h σ g → w We g P → ContX X.K g b h We W → Cont X.K g b h σ P Q → t σ h Q
structure GT (X : Cx) (W : WX) (e : Expr) (t : TT) (w : WT) : Prop where
  pe : PT X e t
  se : ∀ b h σ g We P Q, Hold X.K b h σ g → w We g P → ContX X.K g b h We W → ContT X.K g b h σ P Q → t σ h Q
structure GW (X : Cx) (W : WX) (e : Expr) (t : TT) (w : WT) : Prop where
  pe : PW X e t
  se : ∀ b h σ g We P Q, Hold X.K b h σ g → w We g P → ContX X.K g b h We W → ContT X.K g b h σ P Q → t σ h Q
theorem GW.gt {X : Cx} {W : WX} {e : Expr} {t : TT} {w : WT} (h : GW X W e t w) : GT X W e t w := ⟨h.pe.pt, h.se⟩
section
variable {K : PySem.W.Frag} {g g' : Gam} {b b' h h' : Hp} {σ : L2.St} {We : Wsh} {W : WX} {v : V} {o : O}
theorem ContX.step (x : ContX K g b h We W) (f : Frm g b h g' b' h') : ContX K g' b' h' We W := fun cls d σ' b2 h2 g2 e k f2 z q => x cls d σ' b2 h2 g2 e k (f.trans f2) z q
/-- a value has come, and is pure from here on -/
theorem come (k : Hold K b' h' (some v :: σ) (some o :: g')) (f : Frm g b h (some o :: g') b' h') : ∃ b'', Hold K b'' h' σ g' ∧ Frm g b h g' b'' h' ∧ den K b'' o.d v := by
  obtain ⟨b'', e, z, k', n⟩ := k.frz
  exact ⟨b'', k', f.frz e n, z⟩
theorem fin (k : Hold K b' h' σ g') (f : Frm g b h g' b' h') {b2 h2 : Hp} (r : Res K b' h' b2 h2 v o) {P : O → Gam → Prop} {Q : VK} (c : Cont K g b h σ P Q) (p : P o g') : Q v h2 := by
  obtain ⟨k2, f2⟩ := r.lift k
  exact c v b2 h2 g' o k2 (f.trans f2) p
end

/-! ### names, constants -/
def wVar (i : Nat) : WE := fun _ g P => match g[i]? with
  | some (some (.pur d)) => P (.pur d) g
  | _ => False
/-- an owned name is given away -/
def wMov (i : Nat) : WE := fun _ g P => match g[i]? with
  | some (some o) => P o (g.set i none)
  | _ => False
/-- an owned name is pure from here on -/
def wFrz (i : Nat) : WE := fun _ g P => match g[i]? with
  | some (some o) => P (.pur o.d) (g.set i (some (.pur o.d)))
  | _ => False
def wC (d : D) : WE := fun _ g P => P (.pur d) g
section
variable {X : Cx} {W : WX}
theorem ge_var {i : Nat} {x : Str} {pos : Pos} (hN : X.N[i]? = some x := by rfl) (hv : Vis X.env.scope x := by first | exact Or.inl rfl | exact Or.inr (Or.inl rfl) | exact Or.inr (Or.inr rfl))
    (hd : (x == ("__debug__" : Str)) = false := by decide) (hcd : (x == ("__classdict__" : Str)) = false := by decide) : GE X W (.Name x pos) (tVar i) (wVar i) := by
  refine ⟨pe_var hN hv hd hcd, fun b h σ g We P Q k hw hx c => ?_⟩
  unfold wVar at hw
  split at hw
  · rename_i d e
    obtain ⟨v, e1, z⟩ := k.sl i _ e
    exact ⟨v, e1, fin k (Frm.refl g b h) (Res.same k.sub z) c hw⟩
  · exact hw.elim
theorem set_none {K : PySem.W.Frag} {b h : Hp} {σ : L2.St} {g : Gam} {i : Nat} {v : V} {o : O} (k : Hold K b h σ g) (e : g[i]? = some (some o)) (ev : σ[i]? = some (some v)) :
    Hold K b h (some v :: σ) (some o :: g.set i none) ∧ ∀ a, inF (some o :: g.set i none) a → inF g a := by
  have hi : i < g.length := (List.getElem?_eq_some_iff.mp e).1
  obtain ⟨v', ev', z⟩ := k.sl i o e
  rw [ev] at ev'
  cases ev'
  have old : ∀ (j : Nat) (u : O), (g.set i none)[j]? = some (some u) → j ≠ i ∧ g[j]? = some (some u) := fun j u q => by
    by_cases hj : i = j
    · subst hj; rw [List.getElem?_set_self hi] at q; simp at q
    · rw [List.getElem?_set_ne hj] at q; exact ⟨Ne.symm hj, q⟩
  have k' : Hold K b h σ (g.set i none) := ⟨k.sub, by simp [k.len], fun j u q => k.sl j u (old j u q).2, fun j u q => k.nd j u (old j u q).2,
    fun j l u w n q1 q2 => k.dj j l u w n (old j u q1).2 (old l w q2).2, fun j u q => k.nb j u (old j u q).2⟩
  refine ⟨k'.cons z (k.nd i o e) (k.nb i o e) fun a m ⟨j, u, q, mu⟩ => k.dj i j o u (Ne.symm (old j u q).1) e (old j u q).2 a m mu, fun a q => ?_⟩
  rcases inF_cons.mp q with ⟨u, e', m⟩ | ⟨j, u, q, mu⟩
  · cases e'; exact ⟨i, o, e, m⟩
  · exact ⟨j, u, (old j u q).2, mu⟩
theorem ge_mov {i : Nat} {x : Str} {pos : Pos} (hN : X.N[i]? = some x := by rfl) (hv : Vis X.env.scope x := by first | exact Or.inl rfl | exact Or.inr (Or.inl rfl) | exact Or.inr (Or.inr rfl))
    (hd : (x == ("__debug__" : Str)) = false := by decide) (hcd : (x == ("__classdict__" : Str)) = false := by decide) : GE X W (.Name x pos) (tVar i) (wMov i) := by
  refine ⟨pe_var hN hv hd hcd, fun b h σ g We P Q k hw hx c => ?_⟩
  unfold wMov at hw
  split at hw
  · rename_i o e
    obtain ⟨v, e1, z⟩ := k.sl i _ e
    obtain ⟨k2, s2⟩ := set_none k e e1
    exact ⟨v, e1, c v b h _ o k2 ((Frm.refl g b h).sub s2) hw⟩
  · exact hw.elim
theorem set_pur {K : PySem.W.Frag} {b h : Hp} {σ : L2.St} {g : Gam} {i : Nat} {v : V} {o : O} (k : Hold K b h σ g) (e : g[i]? = some (some o)) (ev : σ[i]? = some (some v)) :
    ∃ b', Hold K b' h σ (g.set i (some (.pur o.d))) ∧ Frm g b h (g.set i (some (.pur o.d))) b' h ∧ den K b' o.d v := by
  have hi : i < g.length := (List.getElem?_eq_some_iff.mp e).1
  obtain ⟨k2, s2⟩ := set_none k e ev
  obtain ⟨b', eb, z, k3, n⟩ := k2.frz
  have e3 : (g.set i none).set i (some (.pur o.d)) = g.set i (some (.pur o.d)) := by simp
  have old : ∀ (j : Nat) (u : O), (g.set i (some (.pur o.d)))[j]? = some (some u) → (j = i ∧ u = .pur o.d) ∨ (j ≠ i ∧ (g.set i none)[j]? = some (some u)) := fun j u q => by
    by_cases hj : i = j
    · subst hj; rw [List.getElem?_set_self hi] at q; simp at q; exact .inl ⟨rfl, q.symm⟩
    · rw [List.getElem?_set_ne hj] at q ⊢; exact .inr ⟨Ne.symm hj, q⟩
  refine ⟨b', ⟨k3.sub, by simp [k.len], fun j u q => ?_, fun j u q => ?_, fun j l u w m q1 q2 a m1 m2 => ?_, fun j u q a m => ?_⟩, ⟨eb, fun _ _ q _ => q, fun a u q1 _ q2 q3 => ?_, fun a q => ?_⟩, z⟩
  · rcases old j u q with ⟨rfl, rfl⟩ | ⟨_, q⟩
    · exact ⟨v, ev, z⟩
    · exact k3.sl j u q
  · rcases old j u q with ⟨rfl, rfl⟩ | ⟨_, q⟩
    · simp [foot]
    · exact k3.nd j u q
  · rcases old j u q1 with ⟨rfl, rfl⟩ | ⟨_, q1⟩
    · simp [foot] at m1
    · rcases old l w q2 with ⟨rfl, rfl⟩ | ⟨_, q2⟩
      · simp [foot] at m2
      · exact k3.dj j l u w m q1 q2 a m1 m2
  · rcases old j u q with ⟨rfl, rfl⟩ | ⟨_, q⟩
    · simp [foot] at m
    · exact k3.nb j u q a m
  · cases r : b' a with
    | none => rfl
    | some w => exact absurd ⟨i, o, e, n a (by rw [r]; simp) q2⟩ q3
  · obtain ⟨j, u, q, m⟩ := q
    rcases old j u q with ⟨rfl, rfl⟩ | ⟨_, q⟩
    · simp [foot] at m
    · exact .inl (s2 a (inF_cons.mpr (.inr ⟨j, u, q, m⟩)))
theorem ge_frz {i : Nat} {x : Str} {pos : Pos} (hN : X.N[i]? = some x := by rfl) (hv : Vis X.env.scope x := by first | exact Or.inl rfl | exact Or.inr (Or.inl rfl) | exact Or.inr (Or.inr rfl))
    (hd : (x == ("__debug__" : Str)) = false := by decide) (hcd : (x == ("__classdict__" : Str)) = false := by decide) : GE X W (.Name x pos) (tVar i) (wFrz i) := by
  refine ⟨pe_var hN hv hd hcd, fun b h σ g We P Q k hw hx c => ?_⟩
  unfold wFrz at hw
  split at hw
  · rename_i o e
    obtain ⟨v, e1, z⟩ := k.sl i _ e
    obtain ⟨b', k2, f2, z2⟩ := set_pur k e e1
    exact ⟨v, e1, fin k2 f2 (Res.same k2.sub z2) c hw⟩
  · exact hw.elim
theorem ge_c {e : Expr} {v : V} {d : D} (h : PE X e (tC v)) (z : ∀ b, den X.K b d v) : GE X W e (tC v) (wC d) :=
  ⟨h, fun b h' σ g We P Q k hw hx c => fin k (Frm.refl g b h') (Res.same k.sub (z b)) c hw⟩
theorem ge_int {i j pos} : GE X W (.Constant (.int i) j pos) (tC (.int i)) (wC (.int i)) := ge_c pe_int fun _ => rfl
theorem ge_bl {b j pos} : GE X W (.Constant (.bool b) j pos) (tC (.bl b)) (wC (.bl b)) := ge_c pe_bl fun _ => rfl
theorem ge_non {j pos} : GE X W (.Constant .none j pos) (tC .non) (wC .non) := ge_c pe_non fun _ => rfl
theorem ge_str {x j pos} : GE X W (.Constant (.str x) j pos) (tC (.str x)) (wC (.str x)) := ge_c pe_str fun _ => rfl
/-- a module's number -/
theorem ge_gint {x : Str} {i : Int} {pos : Pos} (hm : ∃ t, X.mg x = some (.int i t)) (hg : Gl X x := by rfl) (hd : (x == ("__debug__" : Str)) = false := by decide) : GE X W (.Name x pos) (tC (.int i)) (wC (.int i)) := by
  obtain ⟨t, hm⟩ := hm
  exact ge_c (pe_glob hg hm (v := .int i) ⟨t, rfl⟩ hd) fun _ => rfl
/-- a module's def or class as a value -/
theorem ge_gref {x : Str} {a : Addr} {pos : Pos} (hm : X.mg x = some (.ref a)) (hg : Gl X x := by rfl) (hd : (x == ("__debug__" : Str)) = false := by decide) : GE X W (.Name x pos) (tC (.ref a)) (wC (.fn a)) :=
  ge_c (pe_glob hg hm (v := .ref a) rfl hd) fun _ => rfl
/-- a built-in class as a value -/
theorem ge_ty {x : Str} {n : String} {pos : Pos} (hm : X.mg x = none) (hv : bootBuiltins x = some (.type n)) (hg : Gl X x := by rfl) (hn : x ≠ "__name__" := by decide) (hd : (x == ("__debug__" : Str)) = false := by decide) : GE X W (.Name x pos) (tC (.ty n)) (wC (.ty n)) :=
  ge_c (pe_bltn hg hm hv (v := .ty n) rfl hn hd) fun _ => rfl

/-! ### two places -/
abbrev RO := D → D → (O → Prop) → Prop
def Brd (K : PySem.W.Frag) (r : RO) (r' : R2) : Prop := ∀ b h x y dx dy P Q, Ex b h → den K b dx x → den K b dy y → r dx dy P → (∀ v b' h' o, Res K b h b' h' v o → P o → Q v h') → r' x y h Q
structure OpG (X : Cx) (f : Value → Value → Sem Value) (r' : R2) (r : RO) : Prop where
  pe : OpR X f r'
  se : Brd X.K r r'
structure IxG (X : Cx) (r' : R2) (r : RO) : Prop where
  pe : IxR X r'
  se : Brd X.K r r'
def wOp (r : RO) (wa wb : WE) : WE := fun We g P => wa We g fun x g1 => wb We g1 fun y g2 => r x.d y.d fun z => P z g2
variable {a c e : Expr} {ta tb : TE} {wa wb : WE} {r : RO} {r' : R2}
theorem two (ha : ∀ b h σ g We P Q, Hold X.K b h σ g → wa We g P → ContX X.K g b h We W → Cont X.K g b h σ P Q → ta σ h Q)
    (hb : ∀ b h σ g We P Q, Hold X.K b h σ g → wb We g P → ContX X.K g b h We W → Cont X.K g b h σ P Q → tb σ h Q) {b h : Hp} {σ : L2.St} {g : Gam} {We : Wsh} {P : D → D → Gam → Prop} {Q : V → V → Hp → Prop}
    (k : Hold X.K b h σ g) (hw : wa We g fun x g1 => wb We g1 fun y g2 => P x.d y.d g2) (hx : ContX X.K g b h We W)
    (c : ∀ v u b' h' g' x y, Hold X.K b' h' σ g' → Frm g b h g' b' h' → den X.K b' x v → den X.K b' y u → P x y g' → Q v u h') : ta σ h fun v h1 => tb σ h1 fun u h2 => Q v u h2 := by
  refine ha b h σ g We _ _ k hw hx fun v b1 h1 g1 x k1 f1 p1 => ?_
  obtain ⟨b1', k1', f1', z1⟩ := come k1 f1
  refine hb b1' h1 σ g1 We _ _ k1' p1 (hx.step f1') fun u b2 h2 g2 y k2 f2 p2 => ?_
  obtain ⟨b2', k2', f2', z2⟩ := come k2 f2
  exact c v u b2' h2 g2 x.d y.d k2' (f1'.trans f2') (den_mono f2'.bs _ _ z1) z2 p2
theorem ge_op {op : Operator} {pos : Pos} (ho : OpG X (binaryOp op) r' r) (ha : GE X W a ta wa) (hb : GE X W c tb wb) : GE X W (.BinOp a op c pos) (tOp r' ta tb) (wOp r wa wb) := by
  obtain ⟨ho, br⟩ := ho
  obtain ⟨pa, qa⟩ := ha
  obtain ⟨pb, qb⟩ := hb
  refine ⟨pe_op ho pa pb, fun b h σ g We P Q k hw hx ct => ?_⟩
  exact two (P := fun x y g2 => r x y fun z => P z g2) (Q := fun x y h2 => r' x y h2 Q) qa qb k hw hx fun v u b' h' g' x y k' f' zx zy p =>
    br b' h' v u x y _ Q k'.sub zx zy p fun w b2 h2 o rs q => fin k' f' rs ct q
theorem ge_cmp {op : CmpOp} {pos : Pos} (ho : OpG X (compareOp op) r' r) (ha : GE X W a ta wa) (hb : GE X W c tb wb) (hm : behindInMarks op c = false := by first | exact nomark _ | rfl) : GE X W (.Compare a [op] [c] pos) (tOp r' ta tb) (wOp r wa wb) := by
  obtain ⟨ho, br⟩ := ho
  obtain ⟨pa, qa⟩ := ha
  obtain ⟨pb, qb⟩ := hb
  refine ⟨pe_cmpR ho pa pb hm, fun b h σ g We P Q k hw hx ct => ?_⟩
  exact two (P := fun x y g2 => r x y fun z => P z g2) (Q := fun x y h2 => r' x y h2 Q) qa qb k hw hx fun v u b' h' g' x y k' f' zx zy p =>
    br b' h' v u x y _ Q k'.sub zx zy p fun w b2 h2 o rs q => fin k' f' rs ct q
theorem ge_ix {pos : Pos} (ho : IxG X r' r) (ha : GE X W a ta wa) (hb : GE X W c tb wb) (hs : PlainIx c := by intro _ _; rfl) : GE X W (.Subscript a c pos) (tOp r' ta tb) (wOp r wa wb) := by
  obtain ⟨ho, br⟩ := ho
  obtain ⟨pa, qa⟩ := ha
  obtain ⟨pb, qb⟩ := hb
  refine ⟨pe_ix ho pa pb hs, fun b h σ g We P Q k hw hx ct => ?_⟩
  exact two (P := fun x y g2 => r x y fun z => P z g2) (Q := fun x y h2 => r' x y h2 Q) qa qb k hw hx fun v u b' h' g' x y k' f' zx zy p =>
    br b' h' v u x y _ Q k'.sub zx zy p fun w b2 h2 o rs q => fin k' f' rs ct q
def D.isTrue : O → (Bool → Prop) → Prop
  | .pur (.bl k), P => P k
  | _, _ => False
/-- an expression that gives True or False, as a test -/
def wTest (wa : WE) : WT := fun We g P => wa We g fun x g1 => D.isTrue x fun k => P k g1
theorem test_of {K : PySem.W.Frag} {b h b' h' : Hp} {σ : L2.St} {g g' : Gam} {v : V} {o : O} {P : Bool → Gam → Prop} {Q : Bool → Hp → Prop} (k : Hold K b' h' (some v :: σ) (some o :: g')) (f : Frm g b h (some o :: g') b' h') (q : D.isTrue o fun k => P k g')
    (c : ContT K g b h σ P Q) : ∃ k, v = .bl k ∧ Q k h' := by
  cases o with
  | pur d => cases d with
    | bl kk =>
      obtain ⟨z, _, _, _⟩ := k.head
      exact ⟨kk, z, c kk b' h' g' k.tail (f.sub fun a q => inF_cons.mpr (.inr q)) q⟩
    | _ => exact q.elim
  | _ => exact q.elim
theorem gt_cmp {op : CmpOp} {pos : Pos} (ho : OpG X (compareOp op) r' r) (ha : GE X W a ta wa) (hb : GE X W c tb wb) (hm : behindInMarks op c = false := by first | exact nomark _ | rfl) : GT X W (.Compare a [op] [c] pos) (tTest (tOp r' ta tb)) (wTest (wOp r wa wb)) := by
  obtain ⟨ho, br⟩ := ho
  obtain ⟨pa, qa⟩ := ha
  obtain ⟨pb, qb⟩ := hb
  refine ⟨pt_cmpR ho pa pb hm, fun b h σ g We P Q k hw hx ct => ?_⟩
  exact two (P := fun x y g2 => r x y fun z => D.isTrue z fun k => P k g2) (Q := fun x y h2 => r' x y h2 fun x H' => ∃ k, x = .bl k ∧ Q k H') qa qb k hw hx fun v u b' h' g' x y k' f' zx zy p =>
    br b' h' v u x y _ _ k'.sub zx zy p fun w b2 h2 o rs q => by
      obtain ⟨k2, f2⟩ := rs.lift k'
      exact test_of k2 (f'.trans f2) q ct
theorem gt_val {e : Expr} {t : TE} {w : WE} (h : GE X W e t w) (he : ∀ whole, isTrue e X.env whole = (do let v ← whole; standAt e.pos; holding [v] (truthy v)) := by intro _; rfl) : GT X W e (tB t) (wTest w) := by
  obtain ⟨p, q⟩ := h
  refine ⟨pt_val p he, fun b h σ g We P Q k hw hx ct => ?_⟩
  exact q b h σ g We _ _ k hw hx fun v b' h' g' o k' f' p' => test_of k' f' p' ct
/-! ### and, or, not, if -/
/-- two ways -/
@[irreducible] def br (k : Bool) (A B : Prop) : Prop := if k = true then A else B
theorem br_t {A B : Prop} : br true A B ↔ A := by unfold br; simp
theorem br_f {A B : Prop} : br false A B ↔ B := by unfold br; simp
theorem br_i {k : Bool} {A B : Prop} (h1 : k = true → A) (h2 : k = false → B) : br k A B := by
  cases k with
  | true => exact br_t.mpr (h1 rfl)
  | false => exact br_f.mpr (h2 rfl)
theorem br_T {k : Bool} {A B : Prop} (e : k = true) (h : A) : br k A B := by subst e; exact br_t.mpr h
theorem br_F {k : Bool} {A B : Prop} (e : k = false) (h : B) : br k A B := by subst e; exact br_f.mpr h
def wAnd (wa wb : WT) : WT := fun We g P => wa We g fun k g1 => br k (wb We g1 P) (P false g1)
def wOr (wa wb : WT) : WT := fun We g P => wa We g fun k g1 => br k (P true g1) (wb We g1 P)
def wNot (wa : WT) : WT := fun We g P => wa We g fun k g1 => P (!k) g1
variable {t1 t2 : TT} {tA tB' : WT} {rest : List Expr}
theorem gw_and1 {pos : Pos} (ha : GT X W a t1 tA) : GW X W (.BoolOp .And [a] pos) t1 tA := ⟨pw_and1 ha.pe, ha.se⟩
theorem gw_or1 {pos : Pos} (ha : GT X W a t1 tA) : GW X W (.BoolOp .Or [a] pos) t1 tA := ⟨pw_or1 ha.pe, ha.se⟩
theorem gw_and {pos : Pos} (ha : GT X W a t1 tA) (hb : GW X W (.BoolOp .And (c :: rest) pos) t2 tB') : GW X W (.BoolOp .And (a :: c :: rest) pos) (tAnd t1 t2) (wAnd tA tB') := by
  obtain ⟨p, q⟩ := ha
  obtain ⟨p2, q2⟩ := hb
  refine ⟨pw_and p p2, fun b h σ g We P Q k hw hx ct => ?_⟩
  refine q b h σ g We _ _ k hw hx fun kk b' h' g' k' f' p' => ?_
  cases kk with
  | true => exact q2 b' h' σ g' We P Q k' (br_t.mp p') (hx.step f') fun k2 b2 h2 g2 h3 f2 p2 => ct k2 b2 h2 g2 h3 (f'.trans f2) p2
  | false => exact ct false b' h' g' k' f' (br_f.mp p')
theorem gw_or {pos : Pos} (ha : GT X W a t1 tA) (hb : GW X W (.BoolOp .Or (c :: rest) pos) t2 tB') : GW X W (.BoolOp .Or (a :: c :: rest) pos) (tOr t1 t2) (wOr tA tB') := by
  obtain ⟨p, q⟩ := ha
  obtain ⟨p2, q2⟩ := hb
  refine ⟨pw_or p p2, fun b h σ g We P Q k hw hx ct => ?_⟩
  refine q b h σ g We _ _ k hw hx fun kk b' h' g' k' f' p' => ?_
  cases kk with
  | false => exact q2 b' h' σ g' We P Q k' (br_f.mp p') (hx.step f') fun k2 b2 h2 g2 h3 f2 p2 => ct k2 b2 h2 g2 h3 (f'.trans f2) p2
  | true => exact ct true b' h' g' k' f' (br_t.mp p')
theorem gt_not {pos : Pos} (ha : GT X W a t1 tA) : GT X W (.UnaryOp .Not a pos) (tNot t1) (wNot tA) := by
  obtain ⟨p, q⟩ := ha
  exact ⟨pt_not p, fun b h σ g We P Q k hw hx ct => q b h σ g We _ (fun c H1 => Q (!c) H1) k hw hx fun kk b' h' g' k' f' p' => ct (!kk) b' h' g' k' f' p'⟩
/-- as values -/
def wAndV (wa wb : WE) : WE := fun We g P => wa We g fun x g1 => D.isTrue x fun k => br k (wb We g1 P) (P (.pur (.bl false)) g1)
def wOrV (wa wb : WE) : WE := fun We g P => wa We g fun x g1 => D.isTrue x fun k => br k (P (.pur (.bl true)) g1) (wb We g1 P)
def wNotV (wa : WE) : WE := fun We g P => wa We g fun x g1 => D.isTrue x fun k => P (.pur (.bl (!k))) g1
theorem cont_go {K : PySem.W.Frag} {b h b' h' : Hp} {σ : L2.St} {g g' : Gam} {P : O → Gam → Prop} {Q : VK} (c : Cont K g b h σ P Q) (f : Frm g b h g' b' h') : Cont K g' b' h' σ P Q :=
  fun v b2 h2 g2 o k f2 p => c v b2 h2 g2 o k (f.trans f2) p
theorem ge_one {op} {pos : Pos} {t : TE} {w : WE} (h : GE X W a t w) : GE X W (.BoolOp op [a] pos) t w := ⟨pe_one h.pe, h.se⟩
theorem ge_and {pos : Pos} (ha : GE X W a ta wa) (hb : GE X W (.BoolOp .And (c :: rest) pos) tb wb) : GE X W (.BoolOp .And (a :: c :: rest) pos) (tAndV ta tb) (wAndV wa wb) := by
  obtain ⟨p, q⟩ := ha
  obtain ⟨p2, q2⟩ := hb
  refine ⟨pe_and p p2, fun b h σ g We P Q k hw hx ct => ?_⟩
  refine q b h σ g We _ _ k hw hx fun v b' h' g' o k' f' p' => ?_
  refine test_of (P := fun kk g1 => br kk (wb We g1 P) (P (.pur (.bl false)) g1)) (Q := fun kk H1 => if kk = true then tb σ H1 Q else Q (.bl false) H1) k' f' p' fun kk b2 h2 g2 k2 f2 p2 => ?_
  cases kk with
  | true => exact q2 b2 h2 σ g2 We P Q k2 (br_t.mp p2) (hx.step f2) (cont_go ct f2)
  | false => exact fin k2 f2 (Res.same k2.sub (d := .bl false) rfl) ct (br_f.mp p2)
theorem ge_or {pos : Pos} (ha : GE X W a ta wa) (hb : GE X W (.BoolOp .Or (c :: rest) pos) tb wb) : GE X W (.BoolOp .Or (a :: c :: rest) pos) (tOrV ta tb) (wOrV wa wb) := by
  obtain ⟨p, q⟩ := ha
  obtain ⟨p2, q2⟩ := hb
  refine ⟨pe_or p p2, fun b h σ g We P Q k hw hx ct => ?_⟩
  refine q b h σ g We _ _ k hw hx fun v b' h' g' o k' f' p' => ?_
  refine test_of (P := fun kk g1 => br kk (P (.pur (.bl true)) g1) (wb We g1 P)) (Q := fun kk H1 => if kk = true then Q (.bl true) H1 else tb σ H1 Q) k' f' p' fun kk b2 h2 g2 k2 f2 p2 => ?_
  cases kk with
  | false => exact q2 b2 h2 σ g2 We P Q k2 (br_f.mp p2) (hx.step f2) (cont_go ct f2)
  | true => exact fin k2 f2 (Res.same k2.sub (d := .bl true) rfl) ct (br_t.mp p2)
theorem ge_not {pos : Pos} (ha : GE X W a ta wa) : GE X W (.UnaryOp .Not a pos) (tNotV ta) (wNotV wa) := by
  obtain ⟨p, q⟩ := ha
  refine ⟨pe_not p, fun b h σ g We P Q k hw hx ct => ?_⟩
  refine q b h σ g We _ _ k hw hx fun v b' h' g' o k' f' p' => ?_
  exact test_of (P := fun kk g1 => P (.pur (.bl (!kk))) g1) (Q := fun kk H1 => Q (.bl (!kk)) H1) k' f' p' fun kk b2 h2 g2 k2 f2 p2 => fin k2 f2 (Res.same k2.sub (d := .bl (!kk)) rfl) ct p2
def wIf (wt : WT) (wa wb : WE) : WE := fun We g P => wt We g fun k g1 => br k (wa We g1 P) (wb We g1 P)
theorem ge_if {t : Expr} {pos : Pos} (ht : GT X W t t1 tA) (ha : GE X W a ta wa) (hb : GE X W c tb wb) : GE X W (.IfExp t a c pos) (tIf t1 ta tb) (wIf tA wa wb) := by
  obtain ⟨p, q⟩ := ht
  obtain ⟨p1, q1⟩ := ha
  obtain ⟨p2, q2⟩ := hb
  refine ⟨pe_ifExp p p1 p2, fun b h σ g We P Q k hw hx ct => ?_⟩
  refine q b h σ g We _ _ k hw hx fun kk b' h' g' k' f' p' => ?_
  cases kk with
  | true => exact q1 b' h' σ g' We P Q k' (br_t.mp p') (hx.step f') (cont_go ct f')
  | false => exact q2 b' h' σ g' We P Q k' (br_f.mp p') (hx.step f') (cont_go ct f')
/-- a < b < c -/
def wChain (r r2 : RO) (wa wb wc : WE) : WE := fun We g P => wa We g fun x g1 => wb We g1 fun y g2 => r x.d y.d fun z => D.isTrue z fun k => br k (wc We g2 fun u g3 => r2 y.d u.d fun z2 => P z2 g3) (P (.pur (.bl false)) g2)
end
end G
/-! G: chains, arguments, statements, loops. -/
namespace G
open PySem L2
open Evl (Ex)

structure Ctx (X : Cx) (W : WX) : Prop where
  tk : Takes X W
  po : PassesOwn (model X.prog X.w) X.A X.env X.xe
  nd : X.N.Nodup
  calm : X.calm = true

section
variable {X : Cx} {W : WX} {r r2 : RO} {r' r2' : R2} {a c e : Expr} {ta tb tc : TE} {tr : TA} {wa wb wc w : WE}
/-! ### chains -/
theorem three (br : Brd X.K r r') (br2 : Brd X.K r2 r2') (ha : ∀ b h σ g We P Q, Hold X.K b h σ g → wa We g P → ContX X.K g b h We W → Cont X.K g b h σ P Q → ta σ h Q)
    (hb : ∀ b h σ g We P Q, Hold X.K b h σ g → wb We g P → ContX X.K g b h We W → Cont X.K g b h σ P Q → tb σ h Q)
    (hc : ∀ b h σ g We P Q, Hold X.K b h σ g → wc We g P → ContX X.K g b h We W → Cont X.K g b h σ P Q → tc σ h Q) {b h : Hp} {σ : L2.St} {g : Gam} {We : Wsh} {P : O → Gam → Prop} {Q : VK}
    (k : Hold X.K b h σ g) (hw : wChain r r2 wa wb wc We g P) (hx : ContX X.K g b h We W) (ct : Cont X.K g b h σ P Q) : tChain r' r2' ta tb tc σ h Q := by
  refine two (P := fun x y g2 => r x y fun z => D.isTrue z fun k => G.br k (wc We g2 fun u g3 => r2 y u.d fun z2 => P z2 g3) (P (.pur (.bl false)) g2))
    (Q := fun v u h2 => r' v u h2 fun z h3 => ∃ k, z = .bl k ∧ if k = true then tc σ h3 fun w h4 => r2' u w h4 Q else Q (.bl false) h3) ha hb k hw hx fun v u b' h' g' x y k' f' zx zy p => ?_
  refine br b' h' v u x y _ _ k'.sub zx zy p fun z b2 h2 o rs q => ?_
  obtain ⟨k2, f2⟩ := rs.lift k'
  refine test_of (P := fun k g2 => G.br k (wc We g2 fun u g3 => r2 y u.d fun z2 => P z2 g3) (P (.pur (.bl false)) g2))
    (Q := fun k h3 => if k = true then tc σ h3 fun w h4 => r2' u w h4 Q else Q (.bl false) h3) k2 f2 q fun kk b3 h3 g3 k3 f3 p3 => ?_
  cases kk with
  | false => exact fin k3 (f'.trans f3) (Res.same k3.sub (d := .bl false) rfl) ct (br_f.mp p3)
  | true =>
    refine hc b3 h3 σ g3 We _ _ k3 (br_t.mp p3) (hx.step (f'.trans f3)) fun w b4 h4 g4 z4 k4 f4 p4 => ?_
    obtain ⟨b5, k5, f5, zw⟩ := come k4 f4
    have f6 := f3.trans f5
    exact br2 b5 h4 u w y z4.d _ Q k5.sub (den_mono f6.bs _ _ zy) zw p4 fun v5 b6 h6 o6 rs6 q6 => fin k5 (f'.trans f6) rs6 ct q6
theorem ge_chain {op op2 : CmpOp} {pos : Pos} (ho : OpG X (compareOp op) r' r) (ho2 : OpG X (compareOp op2) r2' r2) (ha : GE X W a ta wa) (hb : GE X W c tb wb) (hc : GE X W e tc wc) (hm : lastMarks [op, op2] [c, e] = false := by with_unfolding_all rfl) :
    GE X W (.Compare a [op, op2] [c, e] pos) (tChain r' r2' ta tb tc) (wChain r r2 wa wb wc) := by
  obtain ⟨ho, br⟩ := ho
  obtain ⟨ho2, br2⟩ := ho2
  obtain ⟨pa, qa⟩ := ha
  obtain ⟨pb, qb⟩ := hb
  obtain ⟨pc, qc⟩ := hc
  exact ⟨pe_chain ho ho2 pa pb pc hm, fun b h σ g We P Q k hw hx ct => three br br2 qa qb qc k hw hx ct⟩
theorem gt_chain {op op2 : CmpOp} {pos : Pos} (ho : OpG X (compareOp op) r' r) (ho2 : OpG X (compareOp op2) r2' r2) (ha : GE X W a ta wa) (hb : GE X W c tb wb) (hc : GE X W e tc wc) (hm : lastMarks [op, op2] [c, e] = false := by with_unfolding_all rfl) :
    GT X W (.Compare a [op, op2] [c, e] pos) (tTest (tChain r' r2' ta tb tc)) (wTest (wChain r r2 wa wb wc)) := by
  obtain ⟨ho, br⟩ := ho
  obtain ⟨ho2, br2⟩ := ho2
  obtain ⟨pa, qa⟩ := ha
  obtain ⟨pb, qb⟩ := hb
  obtain ⟨pc, qc⟩ := hc
  exact ⟨pt_chain ho ho2 pa pb pc hm, fun b h σ g We P Q k hw hx ct => three br br2 qa qb qc k hw hx fun v b' h' g' o k' f' p' => test_of k' f' p' ct⟩

/-! ### one place -/
abbrev RU1 := D → (O → Prop) → Prop
structure UnG (X : Cx) (f : Value → Sem Value) (r' : V → Hp → VK → Prop) (r : RU1) : Prop where
  pe : UnR X f r'
  se : ∀ b h x dx P Q, Ex b h → den X.K b dx x → r dx P → (∀ v b' h' o, Res X.K b h b' h' v o → P o → Q v h') → r' x h Q
def wUn (r : RU1) (wa : WE) : WE := fun We g P => wa We g fun x g1 => r x.d fun z => P z g1
theorem ge_un {op : UnaryOp} {pos : Pos} {r' : V → Hp → VK → Prop} {r : RU1} (ho : UnG X (unaryOp op) r' r) (ha : GE X W a ta wa) : GE X W (.UnaryOp op a pos) (tUn r' ta) (wUn r wa) := by
  obtain ⟨ho, br⟩ := ho
  obtain ⟨pa, qa⟩ := ha
  refine ⟨pe_un ho pa, fun b h σ g We P Q k hw hx ct => ?_⟩
  refine qa b h σ g We _ _ k hw hx fun v b' h' g' o k' f' p' => ?_
  obtain ⟨b2, k2, f2, z⟩ := come k' f'
  exact br b2 h' v o.d _ Q k2.sub z p' fun u b3 h3 o3 rs q => fin k2 f2 rs ct q

/-! ### arguments -/
inductive Arg where
  | val (d : D) | bor (i : Nat)
abbrev WA := Wsh → Gam → (List Arg → Gam → Prop) → Prop
/-- what the arguments stand for -/
def ArgsOk (K : PySem.W.Frag) (b : Hp) (σ : L2.St) : List Arg → List V → Prop
  | [], vs => vs = []
  | .val d :: as, vs => ∃ v r, vs = v :: r ∧ den K b d v ∧ ArgsOk K b σ as r
  | .bor i :: as, vs => ∃ v r, vs = v :: r ∧ σ[i]? = some (some v) ∧ ArgsOk K b σ as r
theorem ArgsOk.mono {K : PySem.W.Frag} {b b' : Hp} {σ : L2.St} (e : Ex b b') : ∀ {as : List Arg} {vs : List V}, ArgsOk K b σ as vs → ArgsOk K b' σ as vs
  | [], _, h => h
  | .val _ :: _, _, ⟨v, r, e1, z, t⟩ => ⟨v, r, e1, den_mono e _ _ z, ArgsOk.mono e t⟩
  | .bor _ :: _, _, ⟨v, r, e1, z, t⟩ => ⟨v, r, e1, z, ArgsOk.mono e t⟩
structure GA (X : Cx) (W : WX) (es : List Expr) (t : TA) (w : WA) : Prop where
  pe : PA X es t
  se : ∀ b h σ g We P Q, Hold X.K b h σ g → w We g P → ContX X.K g b h We W →
    (∀ vs b' h' g' as, Hold X.K b' h' σ g' → Frm g b h g' b' h' → ArgsOk X.K b' σ as vs → P as g' → Q vs h') → t σ h Q
def wNil : WA := fun _ g P => P [] g
def wCons (wa : WE) (wr : WA) : WA := fun We g P => wa We g fun x g1 => wr We g1 fun as g2 => P (.val x.d :: as) g2
/-- a name whose object the callee may change -/
def wBor (i : Nat) (wr : WA) : WA := fun We g P => wr We g fun as g2 => P (.bor i :: as) g2
theorem ga_nil : GA X W [] tNil wNil := ⟨pa_nil, fun b h σ g We P Q k hw hx ct => ct [] b h g [] k (Frm.refl g b h) rfl hw⟩
theorem ga_cons {es : List Expr} {wr : WA} (ha : GE X W e ta wa) (hr : GA X W es tr wr) (hs : starEach (e :: es) X.env = (false, eval e X.env) :: starEach es X.env := by rfl) : GA X W (e :: es) (tCons ta tr) (wCons wa wr) := by
  obtain ⟨pa, qa⟩ := ha
  obtain ⟨pr, qr⟩ := hr
  refine ⟨pa_cons pa pr hs, fun b h σ g We P Q k hw hx ct => ?_⟩
  refine qa b h σ g We _ _ k hw hx fun v b' h' g' o k' f' p' => ?_
  obtain ⟨b2, k2, f2, z⟩ := come k' f'
  exact qr b2 h' σ g' We _ _ k2 p' (hx.step f2) fun vs b3 h3 g3 as k3 f3 z3 p3 => ct (v :: vs) b3 h3 g3 (.val o.d :: as) k3 (f2.trans f3) ⟨v, vs, rfl, den_mono f3.bs _ _ z, z3⟩ p3
/-- the slot holds something -/
theorem ga_bor {es : List Expr} {wr : WA} {i : Nat} {x : Str} {p : Pos} (hr : GA X W es tr wr) (hN : X.N[i]? = some x := by rfl) (hv : Vis X.env.scope x := by first | exact Or.inl rfl | exact Or.inr (Or.inl rfl) | exact Or.inr (Or.inr rfl))
    (hd : (x == ("__debug__" : Str)) = false := by decide) (hcd : (x == ("__classdict__" : Str)) = false := by decide) (hs : starEach (.Name x p :: es) X.env = (false, eval (.Name x p) X.env) :: starEach es X.env := by rfl) :
    GA X W (.Name x p :: es) (tCons (tVar i) tr) (fun We g P => (match g[i]? with
      | some (some _) => True
      | _ => False) ∧ wBor i wr We g P) := by
  obtain ⟨pr, qr⟩ := hr
  refine ⟨pa_cons (pe_var hN hv hd hcd) pr hs, fun b h σ g We P Q k ⟨hi, hw⟩ hx ct => ?_⟩
  split at hi
  · rename_i o e
    obtain ⟨v, e1, z⟩ := k.sl i _ e
    refine ⟨v, e1, qr b h σ g We _ _ k hw hx fun vs b3 h3 g3 as k3 f3 z3 p3 => ct (v :: vs) b3 h3 g3 (.bor i :: as) k3 f3 ⟨v, vs, rfl, e1, z3⟩ p3⟩
  · exact hi.elim

/-! ### built-ins called with pure arguments -/
def allVal : List Arg → Option (List D)
  | [] => some []
  | .val d :: as => (allVal as).map (d :: ·)
  | .bor _ :: _ => none
theorem allVal_ok {K : PySem.W.Frag} {b : Hp} {σ : L2.St} : ∀ {as : List Arg} {vs : List V} {ds : List D}, ArgsOk K b σ as vs → allVal as = some ds → denL K b ds vs
  | [], _, _, h, e => by cases e; exact h
  | .val d :: as, _, ds, ⟨v, r, e1, z, t⟩, e => by
    have e' : (allVal as).map (d :: ·) = some ds := e
    cases q : allVal as with
    | none => rw [q] at e'; cases e'
    | some l => rw [q] at e'; cases e'; exact ⟨v, r, e1, z, allVal_ok t q⟩
  | .bor _ :: _, _, _, _, e => by cases e
abbrev RC1 := List D → (O → Prop) → Prop
structure CallG (X : Cx) (f : Value) (r' : List V → Hp → VK → Prop) (r : RC1) : Prop where
  pe : CallR X f r'
  se : ∀ b h xs ds P Q, Ex b h → denL X.K b ds xs → r ds P → (∀ v b' h' o, Res X.K b h b' h' v o → P o → Q v h') → r' xs h Q
def wCB (r : RC1) (wa : WA) : WE := fun We g P => wa We g fun as g1 => match allVal as with
  | some ds => r ds fun z => P z g1
  | none => False
theorem cb_of {t : TA} {wa : WA} {r : RC1} {r' : List V → Hp → VK → Prop} (br : ∀ b h xs ds P Q, Ex b h → denL X.K b ds xs → r ds P → (∀ v b' h' o, Res X.K b h b' h' v o → P o → Q v h') → r' xs h Q)
    (qa : ∀ b h σ g We P Q, Hold X.K b h σ g → wa We g P → ContX X.K g b h We W → (∀ vs b' h' g' as, Hold X.K b' h' σ g' → Frm g b h g' b' h' → ArgsOk X.K b' σ as vs → P as g' → Q vs h') → t σ h Q) :
    ∀ b h σ g We P Q, Hold X.K b h σ g → wCB r wa We g P → ContX X.K g b h We W → Cont X.K g b h σ P Q → tCB r' t σ h Q := by
  intro b h σ g We P Q k hw hx ct
  refine qa b h σ g We _ _ k hw hx fun vs b' h' g' as k' f' z p => ?_
  cases e : allVal as with
  | none => rw [e] at p; exact p.elim
  | some ds =>
    rw [e] at p
    exact br b' h' vs ds _ Q k'.sub (allVal_ok z e) p fun v b2 h2 o rs q => fin k' f' rs ct q
theorem ge_cb {x : Str} {id : String} {r' : List V → Hp → VK → Prop} {r : RC1} {es : List Expr} {wa : WA} {p pos : Pos} (hc : CallG X (.builtin id) r' r) (hm : X.mg x = none) (hv : bootBuiltins x = some (.builtin id)) (ha : GA X W (e :: es) tr wa) (hg : Gl X x := by rfl)
    (hn : x ≠ "__name__" := by decide) (hdb : (x == ("__debug__" : Str)) = false := by decide)
    (he : starEach (e :: es) X.env = (false, eval e X.env) :: starEach es X.env := by rfl) (hpl : (backTo pos (starEach es X.env)).any (·.1) = false := by rfl) : GE X W (.Call (.Name x p) (e :: es) [] pos) (tCB r' tr) (wCB r wa) := by
  obtain ⟨hc, br⟩ := hc
  obtain ⟨pa, qa⟩ := ha
  exact ⟨pe_callB hc hg hm hv pa hn hdb he hpl, cb_of br qa⟩
theorem ge_ct {x : Str} {T : String} {r' : List V → Hp → VK → Prop} {r : RC1} {es : List Expr} {wa : WA} {p pos : Pos} (hc : CallG X (.type T) r' r) (hm : X.mg x = none) (hv : bootBuiltins x = some (.type T)) (ha : GA X W (e :: es) tr wa) (hg : Gl X x := by rfl)
    (hn : x ≠ "__name__" := by decide) (hdb : (x == ("__debug__" : Str)) = false := by decide)
    (he : starEach (e :: es) X.env = (false, eval e X.env) :: starEach es X.env := by rfl) (hpl : (backTo pos (starEach es X.env)).any (·.1) = false := by rfl) : GE X W (.Call (.Name x p) (e :: es) [] pos) (tCB r' tr) (wCB r wa) := by
  obtain ⟨hc, br⟩ := hc
  obtain ⟨pa, qa⟩ := ha
  exact ⟨pe_callTy hc hg hm hv pa hn hdb he hpl, cb_of br qa⟩

/-! ### displays -/
def wTup (wa : WA) : WE := fun We g P => wa We g fun as g1 => match allVal as with
  | some ds => ds.length ≤ sizeLine ∧ P (.pur (.tup ds)) g1
  | none => False
def wLst (wa : WA) : WE := fun We g P => wa We g fun as g1 => match allVal as with
  | some ds => ds.length ≤ sizeLine ∧ ∀ p, P (.lst p (ds.map .pur)) g1
  | none => False
theorem denL_len {K : PySem.W.Frag} {b : Hp} : ∀ {ds : List D} {vs : List V}, denL K b ds vs → ds.length = vs.length
  | [], _, h => by have h' : _ = ([] : List V) := h; subst h'; rfl
  | d :: ds, _, ⟨v, r, e, _, t⟩ => by subst e; simp [denL_len t]
theorem ownL_pur {K : PySem.W.Frag} {b h : Hp} : ∀ {ds : List D} {vs : List V}, denL K b ds vs → ownL K b h (ds.map .pur) vs
  | [], _, h => h
  | d :: ds, _, ⟨v, r, e, z, t⟩ => ⟨v, r, e, z, ownL_pur t⟩
theorem footL_pur : ∀ (ds : List D), footL (ds.map .pur) = []
  | [] => rfl
  | d :: ds => by show foot (.pur d) ++ footL (ds.map .pur) = []; rw [footL_pur ds]; rfl
theorem dL_pur : ∀ (ds : List D), O.dL (ds.map .pur) = ds
  | [] => rfl
  | d :: ds => by show d :: O.dL (ds.map .pur) = d :: ds; rw [dL_pur ds]
theorem ge_tup {es : List Expr} {wa : WA} {x1} {pos : Pos} (ha : GA X W es tr wa) : GE X W (.Tuple es x1 pos) (tTup tr) (wTup wa) := by
  obtain ⟨pa, qa⟩ := ha
  refine ⟨pe_tup pa, fun b h σ g We P Q k hw hx ct => ?_⟩
  refine qa b h σ g We _ _ k hw hx fun vs b' h' g' as k' f' z p => ?_
  cases e : allVal as with
  | none => rw [e] at p; exact p.elim
  | some ds =>
    rw [e] at p
    obtain ⟨hl, p⟩ := p
    have zl := allVal_ok z e
    refine ⟨by rw [← denL_len zl]; exact hl, fun q hq => ?_⟩
    refine fin k' f' (Res.new (ob := .tup vs) (d := .tup ds) k'.sub hq ⟨q, vs, rfl, upd_same, denL_mono (Ex.new (Evl.fresh_back k'.sub hq)) _ _ zl⟩) ct p
theorem ge_lst {es : List Expr} {wa : WA} {pos : Pos} (ha : GA X W es tr wa) : GE X W (.List es pos) (tLst tr) (wLst wa) := by
  obtain ⟨pa, qa⟩ := ha
  refine ⟨pe_lst pa, fun b h σ g We P Q k hw hx ct => ?_⟩
  refine qa b h σ g We _ _ k hw hx fun vs b' h' g' as k' f' z p => ?_
  cases e : allVal as with
  | none => rw [e] at p; exact p.elim
  | some ds =>
    rw [e] at p
    obtain ⟨hl, p⟩ := p
    have zl := allVal_ok z e
    refine ⟨by rw [← denL_len zl]; exact hl, fun q hq => ?_⟩
    refine fin k' f' (Res.own1 (ob := .lst vs) (o := .lst q (ds.map .pur)) k'.sub hq ⟨rfl, vs, upd_same, ownL_pur zl⟩ (by simp [foot, footL_pur])) ct (p q)
end

/-! ### statements -/
structure GEnds where
  nx : Gam → Prop
  rt : O → Gam → Prop
  bk : Gam → Prop := fun _ => False
  ct : Gam → Prop := fun _ => False
abbrev WS := Wsh → GEnds → Gam → Prop
structure EndsOk (K : PySem.W.Frag) (g : Gam) (b h : Hp) (E : GEnds) (D : Ends) : Prop where
  nx : ∀ σ' b' h' g', Hold K b' h' σ' g' → Frm g b h g' b' h' → E.nx g' → D.nx σ' h'
  bk : ∀ σ' b' h' g', Hold K b' h' σ' g' → Frm g b h g' b' h' → E.bk g' → D.bk σ' h'
  ct : ∀ σ' b' h' g', Hold K b' h' σ' g' → Frm g b h g' b' h' → E.ct g' → D.ct σ' h'
  rt : ∀ σ' v b' h' g' o, Hold K b' h' (some v :: σ') (some o :: g') → Frm g b h (some o :: g') b' h' → E.rt o g' → D.rt v h'
structure GS (X : Cx) (W : WX) (st : Stmt) (w : WS) : Prop where
  ex : ∃ t, PS X st t ∧ ∀ b h σ g We E D, Hold X.K b h σ g → w We E g → ContX X.K g b h We W → EndsOk X.K g b h E D → t D σ h
structure GSs (X : Cx) (W : WX) (st : List Stmt) (w : WS) : Prop where
  ex : ∃ t, PSs X st t ∧ ∀ b h σ g We E D, Hold X.K b h σ g → w We E g → ContX X.K g b h We W → EndsOk X.K g b h E D → t D σ h
section
variable {X : Cx} {W : WX} {e : Expr} {te : TE} {wa wb : WE} {st : Stmt} {rest : List Stmt} {ws wr : WS}
theorem EndsOk.step {K : PySem.W.Frag} {g g' : Gam} {b h b' h' : Hp} {E : GEnds} {D : Ends} (x : EndsOk K g b h E D) (f : Frm g b h g' b' h') : EndsOk K g' b' h' E D :=
  ⟨fun σ2 b2 h2 g2 k f2 p => x.nx σ2 b2 h2 g2 k (f.trans f2) p, fun σ2 b2 h2 g2 k f2 p => x.bk σ2 b2 h2 g2 k (f.trans f2) p, fun σ2 b2 h2 g2 k f2 p => x.ct σ2 b2 h2 g2 k (f.trans f2) p,
    fun σ2 v b2 h2 g2 o k f2 p => x.rt σ2 v b2 h2 g2 o k (f.trans f2) p⟩
def wNext : WS := fun _ E g => E.nx g
def wSeq (w1 w2 : WS) : WS := fun We E g => w1 We { E with nx := w2 We E } g
theorem gss_nil : GSs X W [] wNext := ⟨tNext, pss_nil, fun b h σ g We E D k hw hx ct => ct.nx σ b h g k (Frm.refl g b h) hw⟩
theorem gss_cons (h1 : GS X W st ws) (h2 : GSs X W rest wr) : GSs X W (st :: rest) (wSeq ws wr) := by
  obtain ⟨t, p, q⟩ := h1.ex
  obtain ⟨t2, p2, q2⟩ := h2.ex
  refine ⟨tSeq t t2, pss_cons p p2, fun b h σ g We E D k hw hx ct => ?_⟩
  exact q b h σ g We _ _ k hw hx ⟨fun σ2 b2 h2 g2 k2 f2 p2 => q2 b2 h2 σ2 g2 We E D k2 p2 (hx.step f2) (ct.step f2), ct.bk, ct.ct, ct.rt⟩
theorem gss_one (h1 : GS X W st ws) : GSs X W [st] ws := by
  obtain ⟨t, p, q⟩ := h1.ex
  exact ⟨t, pss_one p, q⟩
theorem gs_pass {pos : Pos} : GS X W (.Pass pos) wNext := ⟨tNext, ps_pass, fun b h σ g We E D k hw hx ct => ct.nx σ b h g k (Frm.refl g b h) hw⟩
theorem gs_break {pos : Pos} : GS X W (.Break pos) (fun _ E g => E.bk g) := ⟨tBreak, ps_break, fun b h σ g We E D k hw hx ct => ct.bk σ b h g k (Frm.refl g b h) hw⟩
theorem gs_continue {pos : Pos} : GS X W (.Continue pos) (fun _ E g => E.ct g) := ⟨tCont, ps_continue, fun b h σ g We E D k hw hx ct => ct.ct σ b h g k (Frm.refl g b h) hw⟩
/-- never come to -/
def wNever : WS := fun _ _ _ => False
theorem gs_never : GS X W st wNever := ⟨tNever, ps_never, fun b h σ g We E D k hw hx ct => hw.elim⟩
def wExpr (wa : WE) : WS := fun We E g => wa We g fun _ g1 => E.nx g1
theorem gs_expr {pos : Pos} (he : GE X W e te wa) (hs : swapsWith e none pos.line X.env = pure false := by rfl) : GS X W (.Expr e pos) (wExpr wa) := by
  obtain ⟨p, q⟩ := he
  refine ⟨tDrop te, ps_expr p hs, fun b h σ g We E D k hw hx ct => ?_⟩
  exact q b h σ g We _ _ k hw hx fun v b' h' g' o k' f' p' => ct.nx σ b' h' g' k'.tail (f'.sub fun a z => inF_cons.mpr (.inr z)) p'
def wRet (wa : WE) : WS := fun We E g => wa We g E.rt
theorem gs_ret {pos : Pos} (he : GE X W e te wa) : GS X W (.Return (some e) pos) (wRet wa) := by
  obtain ⟨p, q⟩ := he
  refine ⟨tRet te, ps_ret p, fun b h σ g We E D k hw hx ct => ?_⟩
  exact q b h σ g We _ _ k hw hx fun v b' h' g' o k' f' p' => ct.rt σ v b' h' g' o k' f' p'
theorem gs_retN {pos : Pos} : GS X W (.Return none pos) (fun _ E g => E.rt (.pur .non) g) := by
  refine ⟨tRetN, ps_retN, fun b h σ g We E D k hw hx ct => ?_⟩
  obtain ⟨k2, f2⟩ := (Res.same k.sub (d := .non) (v := .non) rfl : Res X.K b h b h .non (.pur .non)).lift k
  exact ct.rt σ .non b h g _ k2 f2 hw
def wIfS (wt : WT) (w1 w2 : WS) : WS := fun We E g => wt We g fun k g1 => br k (w1 We E g1) (w2 We E g1)
theorem gs_if {c : Expr} {b1 b2 : List Stmt} {t : TT} {wt : WT} {pos : Pos} (hc : GT X W c t wt) (h1 : GSs X W b1 ws) (h2 : GSs X W b2 wr) : GS X W (.If c b1 b2 pos) (wIfS wt ws wr) := by
  obtain ⟨p, q⟩ := hc
  obtain ⟨t1, p1, q1⟩ := h1.ex
  obtain ⟨t2, p2, q2⟩ := h2.ex
  refine ⟨tIfS t t1 t2, ps_if p p1 p2, fun b h σ g We E D k hw hx ct => ?_⟩
  refine q b h σ g We _ _ k hw hx fun kk b' h' g' k' f' p' => ?_
  cases kk with
  | true => exact q1 b' h' σ g' We E D k' (br_t.mp p') (hx.step f') (ct.step f')
  | false => exact q2 b' h' σ g' We E D k' (br_f.mp p') (hx.step f') (ct.step f')

/-! ### targets -/
/-- v comes to a target -/
abbrev WG := D → Gam → (Gam → Prop) → Prop
structure GG (X : Cx) (tg : Expr) (t : TG) (w : WG) : Prop where
  pe : PG X tg t
  se : ∀ b h σ g d v P Q, Hold X.K b h σ g → den X.K b d v → w d g P → (∀ σ' b' h' g', Hold X.K b' h' σ' g' → Frm g b h g' b' h' → P g' → Q σ' h') → t v σ h Q
theorem Hold.put {K : PySem.W.Frag} {b h : Hp} {σ : L2.St} {g : Gam} {v : V} {o : O} (k : Hold K b h (some v :: σ) (some o :: g)) (i : Nat) :
    Hold K b h (σ.set i (some v)) (g.set i (some o)) ∧ ∀ a, inF (g.set i (some o)) a → inF (some o :: g) a := by
  obtain ⟨z, nd, nb, dj⟩ := k.head
  have kt := k.tail
  by_cases hi : i < g.length
  · have hs : i < σ.length := by rw [kt.len]; exact hi
    have old : ∀ (j : Nat) (u : O), (g.set i (some o))[j]? = some (some u) → (j = i ∧ u = o) ∨ (j ≠ i ∧ g[j]? = some (some u)) := fun j u q => by
      by_cases hj : i = j
      · subst hj; rw [List.getElem?_set_self hi] at q; simp at q; exact .inl ⟨rfl, q.symm⟩
      · rw [List.getElem?_set_ne hj] at q; exact .inr ⟨Ne.symm hj, q⟩
    refine ⟨⟨k.sub, by simp [kt.len], fun j u q => ?_, fun j u q => ?_, fun j l u w m q1 q2 a m1 m2 => ?_, fun j u q a m => ?_⟩, fun a ⟨j, u, q, m⟩ => ?_⟩
    · rcases old j u q with ⟨rfl, rfl⟩ | ⟨hj, q⟩
      · exact ⟨v, List.getElem?_set_self hs, z⟩
      · obtain ⟨w, e, zz⟩ := kt.sl j u q
        exact ⟨w, by rw [List.getElem?_set_ne (Ne.symm hj)]; exact e, zz⟩
    · rcases old j u q with ⟨rfl, rfl⟩ | ⟨_, q⟩
      · exact nd
      · exact kt.nd j u q
    · rcases old j u q1 with ⟨ej, eu⟩ | ⟨_, r1⟩
      · subst eu
        rcases old l w q2 with ⟨el, ew⟩ | ⟨_, r2⟩
        · exact m (ej.trans el.symm)
        · exact dj a m1 ⟨l, w, r2, m2⟩
      · rcases old l w q2 with ⟨el, ew⟩ | ⟨_, r2⟩
        · subst ew
          exact dj a m2 ⟨j, u, r1, m1⟩
        · exact kt.dj j l u w m r1 r2 a m1 m2
    · rcases old j u q with ⟨rfl, rfl⟩ | ⟨_, q⟩
      · exact nb a m
      · exact kt.nb j u q a m
    · rcases old j u q with ⟨rfl, rfl⟩ | ⟨_, q⟩
      · exact inF_cons.mpr (.inl ⟨u, rfl, m⟩)
      · exact inF_cons.mpr (.inr ⟨j, u, q, m⟩)
  · have hs : ¬ i < σ.length := by rw [kt.len]; exact hi
    rw [List.set_eq_of_length_le (by omega), List.set_eq_of_length_le (by omega)]
    exact ⟨kt, fun a q => inF_cons.mpr (.inr q)⟩
def wSet (i : Nat) (wa : WE) : WS := fun We E g => wa We g fun o g1 => E.nx (g1.set i (some o))
theorem gs_set {i : Nat} {x : Str} {pos pos' : Pos} (hN : X.N.Nodup) (he : GE X W e te wa) (hi : X.N[i]? = some x := by rfl) (hx : Loc X.env.scope x := by first | exact Or.inl rfl | exact Or.inr rfl)
    (hs : swapsWith e (some (.Name x pos')) pos.line X.env = pure false := by rfl) (hf : X.fn x = true ∨ X.env.scope.names.lookup x = some .local := by first | exact .inl rfl | exact .inr rfl) : GS X W (.Assign [.Name x pos'] e pos) (wSet i wa) := by
  obtain ⟨p, q⟩ := he
  refine ⟨tAsg te (gName i), ps_set hN hi hx p hs hf, fun b h σ g We E D k hw hx ct => ?_⟩
  refine q b h σ g We _ _ k hw hx fun v b' h' g' o k' f' p' => ?_
  obtain ⟨k2, s2⟩ := k'.put i
  exact ct.nx _ b' h' _ k2 (f'.sub s2) p'
def wName (i : Nat) : WG := fun d g P => P (g.set i (some (.pur d)))
theorem gg_name {i : Nat} {x : Str} {pos : Pos} (hN : X.N.Nodup) (hi : X.N[i]? = some x := by rfl) (hx : Loc X.env.scope x := by first | exact Or.inl rfl | exact Or.inr rfl)
    (hf : X.fn x = true ∨ X.env.scope.names.lookup x = some .local := by first | exact .inl rfl | exact .inr rfl) : GG X (.Name x pos) (gName i) (wName i) := by
  refine ⟨pg_name hN hi hx hf, fun b h σ g d v P Q k z hw c => ?_⟩
  obtain ⟨k1, f1⟩ := (Res.same k.sub z).lift k
  obtain ⟨k2, s2⟩ := k1.put i
  exact c _ b h _ k2 (f1.sub s2) hw
abbrev WGs := List D → Gam → (Gam → Prop) → Prop
structure GGs (X : Cx) (ts : List Expr) (t : TGs) (w : WGs) : Prop where
  pe : PGs X ts t
  se : ∀ b h σ g ds vs P Q, Hold X.K b h σ g → denL X.K b ds vs → w ds g P → (∀ σ' b' h' g', Hold X.K b' h' σ' g' → Frm g b h g' b' h' → P g' → Q σ' h') → t vs σ h Q
def wGNil : WGs := fun ds g P => match ds with
  | [] => P g
  | _ => False
def wGCons (w1 : WG) (w2 : WGs) : WGs := fun ds g P => match ds with
  | d :: ds => w1 d g fun g1 => w2 ds g1 P
  | _ => False
theorem ggs_nil : GGs X [] gNil wGNil := by
  refine ⟨pgs_nil, fun b h σ g ds vs P Q k z hw c => ?_⟩
  cases ds with
  | nil => exact ⟨z, c σ b h g k (Frm.refl g b h) hw⟩
  | cons _ _ => exact hw.elim
theorem ggs_cons {t : Expr} {ts : List Expr} {t1 : TG} {t2 : TGs} {w1 : WG} {w2 : WGs} (h1 : GG X t t1 w1) (h2 : GGs X ts t2 w2) (hs : (assignEach (t :: ts) X.env).map (·.2) = assign t X.env :: (assignEach ts X.env).map (·.2) := by rfl) : GGs X (t :: ts) (gCons t1 t2) (wGCons w1 w2) := by
  obtain ⟨p1, q1⟩ := h1
  obtain ⟨p2, q2⟩ := h2
  refine ⟨pgs_cons p1 p2 hs, fun b h σ g ds vs P Q k z hw c => ?_⟩
  cases ds with
  | nil => exact hw.elim
  | cons d ds =>
    obtain ⟨v, r, e, z1, z2⟩ := z
    refine ⟨v, r, e, q1 b h σ g d v _ _ k z1 hw fun σ' b' h' g' k' f' p' => ?_⟩
    exact q2 b' h' σ' g' ds r P Q k' (denL_mono f'.bs _ _ z2) p' fun σ2 b2 h2 g2 k2 f2 p2 => c σ2 b2 h2 g2 k2 (f'.trans f2) p2
def wTupG (n : Nat) (w : WGs) : WG := fun d g P => match d with
  | .frt ds => ds.length = n ∧ w ds g P
  | .tup ds => ds.length = n ∧ w ds g P
  | _ => False
theorem gg_tup {es : List Expr} {k : Nat} {t : TGs} {w : WGs} {n : Nat} {pos : Pos} (hc : X.calm = true) (h : GGs X es t w) (hn0 : es.length = n := by rfl) (hn : (assignEach es X.env).length = n := by rfl) (hst : (assignEach es X.env).findIdx? (·.1) = none := by rfl) {K : PySem.W.Frag} (hK : X.K = K := by exact rfl) :
    GG X (.Tuple es k pos) (gTup K n t) (wTupG n w) := by
  subst hK
  obtain ⟨p, q⟩ := h
  refine ⟨pg_tup hc p hn hst, fun b h σ g d v P Q k z hw c => ?_⟩
  cases d with
  | frt ds =>
    obtain ⟨a, vs, e, s1, s2⟩ := z
    obtain ⟨hl, hw⟩ := hw
    exact ⟨a, vs, e, (s1.mono k.sub).sq, by rw [← denL_len s2]; exact hl, q b h σ g ds vs P Q k s2 hw c⟩
  | tup ds =>
    obtain ⟨a, vs, e, s1, s2⟩ := z
    obtain ⟨hl, hw⟩ := hw
    exact ⟨a, vs, e, SqT.of (k.sub _ _ s1), by rw [← denL_len s2]; exact hl, q b h σ g ds vs P Q k s2 hw c⟩
  | _ => exact hw.elim
def wAsg (wa : WE) (wg : WG) : WS := fun We E g => wa We g fun o g1 => wg o.d g1 E.nx
theorem gs_asg {tg : Expr} {t2 : TG} {wg : WG} {pos : Pos} (he : GE X W e te wa) (hg : GG X tg t2 wg) (hs : swapsWithSole [tg] e pos.line X.env = pure false := by rfl) (hw : swappedStores [tg] e X.env = pure none := by rfl)
    (h1 : (assignEach [tg] X.env).map (·.2) = [assign tg X.env] := by rfl) : GS X W (.Assign [tg] e pos) (wAsg wa wg) := by
  obtain ⟨p, q⟩ := he
  obtain ⟨p2, q2⟩ := hg
  refine ⟨tAsg te t2, ps_asg p p2 hs hw h1, fun b h σ g We E D k hw hx ct => ?_⟩
  refine q b h σ g We _ _ k hw hx fun v b' h' g' o k' f' p' => ?_
  obtain ⟨b2, k2, f2, z⟩ := come k' f'
  exact q2 b2 h' σ g' o.d v _ _ k2 z p' fun σ3 b3 h3 g3 k3 f3 p3 => ct.nx σ3 b3 h3 g3 k3 (f2.trans f3) p3
/-- a, b = x, y -/
def wPar (i j : Nat) (wa : WA) : WS := fun We E g => wa We g fun as g1 => match allVal as with
  | some [d, u] => E.nx ((g1.set i (some (.pur d))).set j (some (.pur u)))
  | _ => False
theorem gs_par {i j : Nat} {x y : Str} {a c : Expr} {t : TA} {wa : WA} {px py pt pos : Pos} {kt k2 pt2} (hc : X.calm = true) (hN : X.N.Nodup) (ha : GA X W [a, c] t wa) (hij : i ≠ j := by decide)
    (hi : X.N[i]? = some x := by rfl) (hj : X.N[j]? = some y := by rfl)
    (hx : X.env.scope.names.lookup x = some .local := by rfl) (hy : X.env.scope.names.lookup y = some .local := by rfl)
    (hw : swappedStores [.Tuple [.Name x px, .Name y py] kt pt] (.Tuple [a, c] k2 pt2) X.env = pure (some [x, y]) := by rfl)
    (hs : swapsWithSole [.Tuple [.Name x px, .Name y py] kt pt] (.Tuple [a, c] k2 pt2) pos.line X.env = pure false := by rfl) :
    GS X W (.Assign [.Tuple [.Name x px, .Name y py] kt pt] (.Tuple [a, c] k2 pt2) pos) (wPar i j wa) := by
  obtain ⟨p, q⟩ := ha
  refine ⟨tPar i j t, ps_par hc hN hi hj hij hx hy p hw hs, fun b h σ g We E D k hw hx ct => ?_⟩
  refine q b h σ g We _ _ k hw hx fun vs b' h' g' as k' f' z p => ?_
  cases e : allVal as with
  | none => rw [e] at p; exact p.elim
  | some ds =>
    rw [e] at p
    have zl := allVal_ok z e
    match ds, p, zl with
    | [d, u], p, zl =>
      obtain ⟨v, r, e1, z1, v2, r2, e2, z2, e3⟩ := zl
      subst e1 e2 e3
      refine ⟨v, v2, rfl, ?_⟩
      obtain ⟨k1, f1⟩ := (Res.same k'.sub z1).lift k'
      obtain ⟨k1', s1⟩ := k1.put i
      obtain ⟨k3, f3⟩ := (Res.same k1'.sub z2).lift k1'
      obtain ⟨k4, s4⟩ := k3.put j
      exact ct.nx _ b' h' _ k4 (f'.trans ((f1.sub s1).trans (f3.sub s4))) p
    | [], p, _ => exact p.elim
    | [_], p, _ => exact p.elim
    | _ :: _ :: _ :: _, p, _ => exact p.elim
/-- x op= e, a pure name -/
def wAug (i : Nat) (r : RO) (wa : WE) : WS := fun We E g => match g[i]? with
  | some (some (.pur d)) => wa We g fun o g1 => r d o.d fun z => E.nx (g1.set i (some z))
  | _ => False
theorem gs_aug {i : Nat} {x : Str} {op : Operator} {r' : R2} {r : RO} {pos pos' : Pos} (hN : X.N.Nodup) (ho : OpG X (inplaceOp op) r' r) (he : GE X W e te wa) (hi : X.N[i]? = some x := by rfl) (hx : Loc X.env.scope x := by first | exact Or.inl rfl | exact Or.inr rfl)
    (hf : X.fn x = true ∨ X.env.scope.names.lookup x = some .local := by first | exact .inl rfl | exact .inr rfl) : GS X W (.AugAssign (.Name x pos') op e pos) (wAug i r wa) := by
  obtain ⟨ho, br⟩ := ho
  obtain ⟨p, q⟩ := he
  refine ⟨tAug i te r', ps_aug hN hi hx p (fun pins s σ H x y v u Q I rx ry h => ho pins s σ H x y v u Q I rx ry h) hf, fun b h σ g We E D k hw hx ct => ?_⟩
  unfold wAug at hw
  split at hw
  · rename_i d e
    obtain ⟨v, e1, z⟩ := k.sl i _ e
    refine ⟨v, e1, q b h σ g We _ _ k hw hx fun u b' h' g' o k' f' p' => ?_⟩
    obtain ⟨b2, k2, f2, zu⟩ := come k' f'
    refine br b2 h' v u d o.d _ _ k2.sub (den_mono f2.bs _ _ z) zu p' fun w b3 h3 o3 rs q => ?_
    obtain ⟨k3, f3⟩ := rs.lift k2
    obtain ⟨k4, s4⟩ := k3.put i
    exact ct.nx _ b3 h3 _ k4 (f2.trans (f3.sub s4)) q
  · exact hw.elim

/-! ### while -/
def wWhile (wt : WT) (wb : WS) : WS := fun We E g => ∃ (I : Nat → Gam → Prop), (∃ m, I m g) ∧ ∀ m g1, I m g1 →
  wt We g1 fun k g2 => br k (wb We { E with nx := fun g3 => ∃ m', m' < m ∧ I m' g3, ct := fun g3 => ∃ m', m' < m ∧ I m' g3, bk := E.nx } g2) (E.nx g2)
theorem gs_while {c : Expr} {body : List Stmt} {t : TT} {wt : WT} {wb : WS} {pos : Pos} (hp : PassesOwn (model X.prog X.w) X.A X.env X.xe) (hc : GT X W c t wt) (hb : GSs X W body wb) : GS X W (.While c body [] pos) (wWhile wt wb) := by
  obtain ⟨p, q⟩ := hc
  obtain ⟨t2, p2, q2⟩ := hb.ex
  refine ⟨tWhile t t2, ps_while hp p p2, fun b h σ g We E D k ⟨I, ⟨m0, i0⟩, hs⟩ hx ct => ?_⟩
  refine ⟨fun m σ' h' => ∃ b' g', Hold X.K b' h' σ' g' ∧ Frm g b h g' b' h' ∧ I m g', ⟨m0, b, g, k, Frm.refl g b h, i0⟩, ?_⟩
  rintro m σ' h' ⟨b', g', k', f', i'⟩
  refine q b' h' σ' g' We _ _ k' (hs m g' i') (hx.step f') fun kk b2 h2 g2 k2 f2 p2 => ?_
  have f3 := f'.trans f2
  cases kk with
  | true =>
    refine ⟨fun σ4 h4 => ∃ m', m' < m ∧ ∃ b' g', Hold X.K b' h4 σ4 g' ∧ Frm g b h g' b' h4 ∧ I m' g', fun σ4 h4 z => z, ?_⟩
    exact q2 b2 h2 σ' g2 We _ _ k2 (br_t.mp p2) (hx.step f3) ⟨fun σ4 b4 h4 g4 k4 f4 ⟨m', l, i4⟩ => ⟨m', l, b4, g4, k4, f3.trans f4, i4⟩, fun σ4 b4 h4 g4 k4 f4 p4 => ct.nx σ4 b4 h4 g4 k4 (f3.trans f4) p4,
      fun σ4 b4 h4 g4 k4 f4 ⟨m', l, i4⟩ => ⟨m', l, b4, g4, k4, f3.trans f4, i4⟩, fun σ4 v b4 h4 g4 o k4 f4 p4 => ct.rt σ4 v b4 h4 g4 o k4 (f3.trans f4) p4⟩
  | false => exact ct.nx σ' b2 h2 g2 k2 f3 (br_f.mp p2)

/-! ### for -/
/-- what is walked: the items, one by one, fixed ahead -/
abbrev WI := Wsh → Gam → (List D → Gam → Prop) → Prop
/-- new, or a tuple that stands -/
def newT (h : Hp) (a : Addr) : Prop := h a = none ∨ ∃ xs, h a = some (.tup xs)
/-- the walk J yields what the items ds mean, whatever the frame's own objects become -/
def Yields (K : PySem.W.Frag) (b h : Hp) (J : It) (ds : List D) : Prop :=
  ∀ b' h', Ex b b' → Ex b' h' → (∀ a o, h a = some o → b a = some o → h' a = some o) → ∀ i, (i = ds.length → J.stop i h') ∧ ∀ d, ds[i]? = some d → J.go i h' ∧ ∀ x h2, J.yld i h' x h2 → ∃ b2, Ex b' b2 ∧ Ex h' h2 ∧ Ex b2 h2 ∧ (∀ a, b2 a ≠ none → b' a = none → newT h' a) ∧ den K b2 d x
structure GI (X : Cx) (W : WX) (tg iter : Expr) (t : TI) (w : WI) : Prop where
  pe : PI X tg iter t
  se : ∀ b h σ g We P Q, Hold X.K b h σ g → w We g P → ContX X.K g b h We W →
    (∀ J b' h' g' ds, Hold X.K b' h' σ g' → Frm g b h g' b' h' → Yields X.K b' h' J ds → P ds g' → Q J h') → t σ h Q
def wFor (wi : WI) (wg : WG) (wb : WS) : WS := fun We E g => wi We g fun ds g1 => ∃ I : Nat → Gam → Prop, I 0 g1 ∧
  (∀ i d g2, ds[i]? = some d → I i g2 → wg d g2 fun g3 => wb We { E with nx := I (i + 1), ct := I (i + 1), bk := E.nx } g3) ∧ ∀ g2, I ds.length g2 → E.nx g2
/-- the base and the heap grow by what is new to both -/
theorem Hold.wide {K : PySem.W.Frag} {b h b' h' : Hp} {σ : L2.St} {g : Gam} (k : Hold K b h σ g) (e1 : Ex b b') (e2 : Ex h h') (e3 : Ex b' h') (n : ∀ a, b' a ≠ none → b a = none → newT h a) : Hold K b' h' σ g ∧ Frm g b h g b' h' := by
  have hb : ∀ a u, h a = some u → ntup u → b a = none → b' a = none := fun a u q1 nt q2 => by
    cases q : b' a with
    | none => rfl
    | some w =>
      rcases n a (by rw [q]; simp) q2 with h1 | ⟨xs, h1⟩
      · rw [q1] at h1; cases h1
      · rw [q1] at h1; cases h1; exact nt.elim
  have kp : ∀ a, inF g a → h' a = h a := fun a q => by
    obtain ⟨u, e⟩ := k.inF_there q
    rw [e]; exact e2 a u e
  refine ⟨⟨e3, k.len, fun i u q => ?_, k.nd, k.dj, fun i u q a m => ?_⟩, ⟨e1, fun a u q _ => e2 a u q, fun a u q1 nt q2 _ => hb a u q1 nt q2, fun a q => .inl q⟩⟩
  · obtain ⟨w, e, z⟩ := k.sl i u q
    exact ⟨w, e, own_keep e1 u w z fun a m => kp a ⟨i, u, q, m⟩⟩
  · obtain ⟨w, e⟩ := k.inF_there ⟨i, u, q, m⟩
    exact hb a w e (k.inF_nt ⟨i, u, q, m⟩ e) (k.nb i u q a m)
theorem gs_for {tg iter : Expr} {body : List Stmt} {ti : TI} {tg' : TG} {wi : WI} {wg : WG} {wb : WS} {pos : Pos} (hp : PassesOwn (model X.prog X.w) X.A X.env X.xe) (hc : X.calm = true) (hi : GI X W tg iter ti wi) (hg : GG X tg tg' wg) (hb : GSs X W body wb)
    (hs : ∀ x, foldedSetIterable iter X.env x = pure x := by intro _; rfl) : GS X W (.For tg iter body [] pos) (wFor wi wg wb) := by
  obtain ⟨pi, qi⟩ := hi
  obtain ⟨pg, qg⟩ := hg
  obtain ⟨tb, pb, qb⟩ := hb.ex
  refine ⟨tFor ti tg' tb, ps_for hp hc pi pg pb hs, fun b h σ g We E D k hw hx ct => ?_⟩
  refine qi b h σ g We _ _ k hw hx fun J b1 h1 g1 ds k1 f1 y ⟨I, i0, hstep, hend⟩ => ?_
  refine ⟨fun i m σ' h' => m = ds.length - i ∧ i ≤ ds.length ∧ ∃ b' g', Hold X.K b' h' σ' g' ∧ Frm g1 b1 h1 g' b' h' ∧ I i g', ⟨ds.length, by simp, Nat.zero_le _, b1, g1, k1, Frm.refl g1 b1 h1, i0⟩, ?_⟩
  rintro i m σ' h' ⟨rfl, hi, b', g', k', f', p⟩
  have yy := y b' h' f'.bs k'.sub (fun a o e1 e2 => f'.keep a o e1 fun z => by rw [k1.inF_nb z] at e2; cases e2) i
  by_cases hlt : i < ds.length
  · refine .inr ⟨(yy.2 ds[i] (by simp [hlt])).1, fun σ4 h4 => i + 1 ≤ ds.length ∧ ∃ b' g', Hold X.K b' h4 σ4 g' ∧ Frm g1 b1 h1 g' b' h4 ∧ I (i + 1) g', fun σ4 h4 z => ⟨ds.length - (i + 1), by omega, rfl, z.1, z.2⟩, fun x h2 yl => ?_⟩
    obtain ⟨b2, e1, e2, e3, n, z⟩ := (yy.2 ds[i] (by simp [hlt])).2 x h2 yl
    obtain ⟨k2, f2⟩ := k'.wide e1 e2 e3 n
    have f3 := f'.trans f2
    refine qg b2 h2 σ' g' ds[i] x _ _ k2 z (hstep i ds[i] g' (by simp [hlt]) p) fun σ5 b5 h5 g5 k5 f5 p5 => ?_
    have f6 := f3.trans f5
    exact qb b5 h5 σ5 g5 We _ _ k5 p5 (hx.step (f1.trans f6)) ⟨fun σ7 b7 h7 g7 k7 f7 p7 => ⟨hlt, b7, g7, k7, f6.trans f7, p7⟩, fun σ7 b7 h7 g7 k7 f7 p7 => ct.nx σ7 b7 h7 g7 k7 (f1.trans (f6.trans f7)) p7,
      fun σ7 b7 h7 g7 k7 f7 p7 => ⟨hlt, b7, g7, k7, f6.trans f7, p7⟩, fun σ7 v b7 h7 g7 o k7 f7 p7 => ct.rt σ7 v b7 h7 g7 o k7 (f1.trans (f6.trans f7)) p7⟩
  · have e : i = ds.length := by omega
    subst e
    exact .inl ⟨yy.1 rfl, ct.nx σ' b' h' g' k' (f1.trans f') (hend g' p)⟩
end
end G
/-! G: defs and their calls. -/
namespace G
open PySem PySem.Spec PyProof.Rows L2
open Evl (Ex)

/-- a def's promise: its arguments, what is wanted of an exception, what is wanted of the result and of the arguments behind it -/
abbrev Pm := List O → Wsh → (O → Gam → Prop) → Prop
def spOf (K : PySem.W.Frag) (n : Nat) (pm : Pm) : Sp := fun vs H Q E => ∃ b as We P, as.length = n ∧ Hold K b H (vs.map some) (as.map some) ∧ pm as We P ∧
  (∀ v b' h' g' o, Hold K b' h' (some v :: vs.map some) (some o :: g') → Frm (as.map some) b H (some o :: g') b' h' → P o g' → Q v h') ∧
  (∀ cls d b' h' g' x, Hold K b' h' (vs.map some) g' → Frm (as.map some) b H g' b' h' → exAt K b' h' x cls d → We x g' → E cls d h')
theorem spOf_len {K : PySem.W.Frag} {n : Nat} {pm : Pm} (vs : List V) (H : Hp) (Q : VK) (E : XK) (h : spOf K n pm vs H Q E) : vs.length = n := by
  obtain ⟨b, as, We, P, hl, k, _⟩ := h
  have := k.len
  simp at this
  omega
abbrev FnG (P : Program) (w : World) (K : PySem.W.Frag) (mg : Str → Option Value) (base : Heap) (k : Nat) (f : Addr) (fd : FuncData) (ps : List Str) (pm : Pm) : Prop :=
  FnOk P w K mg base (L2.CX P w) k f fd ps (spOf K ps.length pm)

def argsO (g : Gam) : List Arg → Option (List O)
  | [] => some []
  | .val d :: as => match argsO g as with
    | some os => some (.pur d :: os)
    | none => none
  | .bor i :: as => match g[i]? with
    | some (some o) => (match argsO g as with
      | some os => some (o :: os)
      | none => none)
    | _ => none
def bors : List Arg → List Nat
  | [] => []
  | .val _ :: as => bors as
  | .bor i :: as => i :: bors as
/-- behind the call: the borrowed slots as the callee left them -/
def back : Gam → List Arg → Gam → Gam
  | g, [], _ => g
  | g, .val _ :: as, g' => back g as g'.tail
  | g, .bor i :: as, g' => back (g.set i (match g' with
    | x :: _ => x
    | [] => none)) as g'.tail
section
variable {K : PySem.W.Frag} {b b' h h' : Hp} {σ : L2.St} {g g' : Gam} {as : List Arg} {vs : List V} {os : List O} {v : V} {o : O}
theorem mem_bors {i : Nat} : ∀ {as : List Arg}, i ∈ bors as ↔ ∃ k : Nat, as[k]? = some (.bor i)
  | [] => by simp [bors]
  | .val d :: as => by
    show i ∈ bors as ↔ _
    rw [mem_bors]
    constructor
    · rintro ⟨k, e⟩; exact ⟨k + 1, by simpa using e⟩
    · rintro ⟨k, e⟩
      cases k with
      | zero => simp at e
      | succ k => exact ⟨k, by simpa using e⟩
  | .bor j :: as => by
    show i ∈ j :: bors as ↔ _
    rw [List.mem_cons, mem_bors]
    constructor
    · rintro (rfl | ⟨k, e⟩)
      · exact ⟨0, rfl⟩
      · exact ⟨k + 1, by simpa using e⟩
    · rintro ⟨k, e⟩
      cases k with
      | zero => simp at e; exact .inl e.symm
      | succ k => exact .inr ⟨k, by simpa using e⟩
theorem ArgsOk.len : ∀ {as : List Arg} {vs : List V}, ArgsOk K b σ as vs → vs.length = as.length
  | [], _, h => by have h' : _ = ([] : List V) := h; subst h'; rfl
  | .val _ :: _, _, ⟨v, r, e1, z, t⟩ => by subst e1; simp [ArgsOk.len t]
  | .bor _ :: _, _, ⟨v, r, e1, z, t⟩ => by subst e1; simp [ArgsOk.len t]
theorem ArgsOk.get {j : Nat} : ∀ {as : List Arg} {vs : List V} {k : Nat}, ArgsOk K b σ as vs → as[k]? = some (.bor j) → ∃ v, vs[k]? = some v ∧ σ[j]? = some (some v)
  | [], _, k, _, e => by simp at e
  | .val _ :: _, _, 0, _, e => by simp at e
  | .bor i :: _, _, 0, ⟨v, r, e1, z, t⟩, e => by
    subst e1
    have e' : i = j := by simpa using e
    subst e'
    exact ⟨v, rfl, z⟩
  | .val _ :: _, _, k + 1, ⟨v, r, e1, z, t⟩, e => by
    subst e1
    obtain ⟨w, q1, q2⟩ := ArgsOk.get (k := k) t (by simpa using e)
    exact ⟨w, by simpa using q1, q2⟩
  | .bor _ :: _, _, k + 1, ⟨v, r, e1, z, t⟩, e => by
    subst e1
    obtain ⟨w, q1, q2⟩ := ArgsOk.get (k := k) t (by simpa using e)
    exact ⟨w, by simpa using q1, q2⟩
/-- what the callee gets -/
theorem callee_in (k : Hold K b h σ g) : ∀ {as : List Arg} {vs : List V} {os : List O}, ArgsOk K b σ as vs → argsO g as = some os → (bors as).Nodup →
    Hold K b h (vs.map some) (os.map some) ∧ (∀ a, inF (os.map some) a → ∃ j o, j ∈ bors as ∧ g[j]? = some (some o) ∧ a ∈ foot o) ∧ os.length = as.length
  | [], vs, os, z, e, _ => by
    have z' : vs = [] := z
    have e' : [] = os := Option.some.inj e
    subst z' e'
    exact ⟨⟨k.sub, rfl, fun i o e => by simp at e, fun i o e => by simp at e, fun i j o u n e => by simp at e, fun i o e => by simp at e⟩, fun a q => (inF_nil q).elim, rfl⟩
  | .val d :: as, _, os, ⟨v, r, e1, z, t⟩, e, nd => by
    subst e1
    unfold argsO at e
    split at e
    · rename_i os' e2
      cases e
      obtain ⟨k', f', l⟩ := callee_in k t e2 nd
      refine ⟨k'.cons (o := .pur d) z (by simp [foot]) (fun a m => by simp [foot] at m) (fun a m => by simp [foot] at m), fun a q => ?_, by simp [l]⟩
      rcases inF_cons.mp q with ⟨o, e, m⟩ | q
      · cases e; simp [foot] at m
      · exact f' a q
    · cases e
  | .bor i :: as, _, os, ⟨v, r, e1, z, t⟩, e, nd => by
    subst e1
    unfold argsO at e
    split at e
    · rename_i o eo
      split at e
      · rename_i os' e2
        cases e
        obtain ⟨hn, nd'⟩ := List.nodup_cons.mp nd
        obtain ⟨k', f', l⟩ := callee_in k t e2 nd'
        obtain ⟨v', ev, zo⟩ := k.sl i o eo
        rw [z] at ev
        cases ev
        refine ⟨k'.cons zo (k.nd i o eo) (k.nb i o eo) (fun a m q => ?_), fun a q => ?_, by simp [l]⟩
        · obtain ⟨j, u, hj, eu, mu⟩ := f' a q
          exact k.dj i j o u (fun e => hn (e ▸ hj)) eo eu a m mu
        · rcases inF_cons.mp q with ⟨u, e, m⟩ | q
          · cases e; exact ⟨i, o, List.mem_cons_self .., eo, m⟩
          · obtain ⟨j, u, hj, eu, mu⟩ := f' a q
            exact ⟨j, u, List.mem_cons_of_mem _ hj, eu, mu⟩
      · cases e
    · cases e
theorem back_len : ∀ {as : List Arg} {g g' : Gam}, (back g as g').length = g.length
  | [], _, _ => rfl
  | .val _ :: as, g, g' => back_len (as := as)
  | .bor i :: as, g, g' => by
    show (back (g.set i _) as g'.tail).length = g.length
    rw [back_len, List.length_set]
theorem back_get {j : Nat} {u : O} : ∀ {as : List Arg} {g g' : Gam}, (bors as).Nodup → (back g as g')[j]? = some (some u) → (j ∉ bors as ∧ g[j]? = some (some u)) ∨ ∃ k : Nat, as[k]? = some (.bor j) ∧ g'[k]? = some (some u)
  | [], _, _, _, e => .inl ⟨by simp [bors], e⟩
  | .val _ :: as, g, g', nd, e => by
    rcases back_get (as := as) nd e with ⟨n, e⟩ | ⟨k, e1, e2⟩
    · exact .inl ⟨n, e⟩
    · exact .inr ⟨k + 1, by simpa using e1, by rw [List.getElem?_tail] at e2; exact e2⟩
  | .bor i :: as, g, g', nd, e => by
    obtain ⟨hn, nd'⟩ := List.nodup_cons.mp nd
    rcases back_get (as := as) nd' e with ⟨n, e⟩ | ⟨k, e1, e2⟩
    · by_cases hj : i = j
      · subst hj
        refine .inr ⟨0, rfl, ?_⟩
        by_cases hi : i < g.length
        · rw [List.getElem?_set_self hi] at e
          cases g' with
          | nil => simp at e
          | cons x r => simpa using e
        · rw [List.getElem?_eq_none (by simpa using hi)] at e; cases e
      · rw [List.getElem?_set_ne hj] at e
        exact .inl ⟨fun q => (List.mem_cons.mp q).elim (fun q => hj q.symm) n, e⟩
    · exact .inr ⟨k + 1, by simpa using e1, by rw [List.getElem?_tail] at e2; exact e2⟩
/-- the callee has ended -/
theorem callee_out (k : Hold K b h σ g) (z : ArgsOk K b σ as vs) (e : argsO g as = some os) (nd : (bors as).Nodup) (k2 : Hold K b' h' (some v :: vs.map some) (some o :: g')) (f2 : Frm (os.map some) b h (some o :: g') b' h') :
    Hold K b' h' (some v :: σ) (some o :: back g as g') ∧ Frm g b h (some o :: back g as g') b' h' := by
  obtain ⟨k1, f1, l1⟩ := callee_in k z e nd
  have sub : ∀ a, inF (os.map some) a → inF g a := fun a q => by
    obtain ⟨j, u, _, eu, m⟩ := f1 a q
    exact ⟨j, u, eu, m⟩
  -- an untouched slot's objects
  have out : ∀ (j : Nat) (u : O), j ∉ bors as → g[j]? = some (some u) → ∀ a ∈ foot u, ¬ inF (os.map some) a := fun j u n eu a m q => by
    obtain ⟨i, w, hi, ew, mw⟩ := f1 a q
    exact k.dj j i u w (fun e => n (e ▸ hi)) eu ew a m mw
  have kp : ∀ (j : Nat) (u : O), j ∉ bors as → g[j]? = some (some u) → ∀ a ∈ foot u, h' a = h a ∧ b' a = none ∧ ∃ x, h a = some x := fun j u n eu a m => by
    obtain ⟨x, ex⟩ := k.inF_there ⟨j, u, eu, m⟩
    exact ⟨(f2.keep a x ex (out j u n eu a m)).trans ex.symm, f2.nb a x ex (k.inF_nt ⟨j, u, eu, m⟩ ex) (k.nb j u eu a m) (out j u n eu a m), x, ex⟩
  have new : ∀ (j : Nat) (u : O), j ∉ bors as → g[j]? = some (some u) → ∀ a ∈ foot u, ¬ inF (some o :: g') a := fun j u n eu a m q => by
    rcases f2.new a q with q | q
    · exact out j u n eu a m q
    · obtain ⟨x, ex⟩ := (kp j u n eu a m).2.2
      rw [ex] at q; cases q
  obtain ⟨zo, ndo, nbo, djo⟩ := k2.head
  have kt := k2.tail
  have kb : Hold K b' h' σ (back g as g') := by
    refine ⟨k2.sub, by rw [back_len]; exact k.len, fun j u q => ?_, fun j u q => ?_, fun j l u w n q1 q2 a m1 m2 => ?_, fun j u q a m => ?_⟩
    · rcases back_get nd q with ⟨n, eu⟩ | ⟨i, e1, e2⟩
      · obtain ⟨w, ew, zw⟩ := k.sl j u eu
        exact ⟨w, ew, own_keep f2.bs u w zw fun a m => (kp j u n eu a m).1⟩
      · obtain ⟨w, ew, zw⟩ := kt.sl i u e2
        obtain ⟨w', e3, e4⟩ := z.get e1
        have e5 : w' = w := by
          have : (vs.map some)[i]? = some (some w') := by rw [List.getElem?_map, e3]; rfl
          rw [this] at ew; simpa using ew
        subst e5
        exact ⟨w', e4, zw⟩
    · rcases back_get nd q with ⟨n, eu⟩ | ⟨i, e1, e2⟩
      · exact k.nd j u eu
      · exact kt.nd i u e2
    · rcases back_get nd q1 with ⟨n1, eu⟩ | ⟨i, e1, e2⟩
      · rcases back_get nd q2 with ⟨n2, ew⟩ | ⟨i', e3, e4⟩
        · exact k.dj j l u w n eu ew a m1 m2
        · exact new j u n1 eu a m1 (inF_cons.mpr (.inr ⟨i', w, e4, m2⟩))
      · rcases back_get nd q2 with ⟨n2, ew⟩ | ⟨i', e3, e4⟩
        · exact new l w n2 ew a m2 (inF_cons.mpr (.inr ⟨i, u, e2, m1⟩))
        · refine kt.dj i i' u w (fun e => ?_) e2 e4 a m1 m2
          subst e
          rw [e1] at e3
          have e5 : j = l := by simpa using e3
          exact n e5
    · rcases back_get nd q with ⟨n, eu⟩ | ⟨i, e1, e2⟩
      · exact (kp j u n eu a m).2.1
      · exact kt.nb i u e2 a m
  refine ⟨kb.cons zo ndo nbo fun a m ⟨j, u, q, mu⟩ => ?_, ⟨f2.bs, fun a x ex n => f2.keep a x ex fun q => n (sub a q), fun a x e1 t e2 n => f2.nb a x e1 t e2 fun q => n (sub a q), fun a q => ?_⟩⟩
  · rcases back_get nd q with ⟨n, eu⟩ | ⟨i, e1, e2⟩
    · exact new j u n eu a mu (inF_cons.mpr (.inl ⟨o, rfl, m⟩))
    · exact djo a m ⟨i, u, e2, mu⟩
  · have viaNew : inF (some o :: g') a → inF g a ∨ h a = none := fun q => (f2.new a q).elim (fun q => .inl (sub a q)) .inr
    rcases inF_cons.mp q with ⟨u, e, m⟩ | ⟨j, u, q, mu⟩
    · cases e; exact viaNew (inF_cons.mpr (.inl ⟨o, rfl, m⟩))
    · rcases back_get nd q with ⟨n, eu⟩ | ⟨i, e1, e2⟩
      · exact .inl ⟨j, u, eu, mu⟩
      · exact viaNew (inF_cons.mpr (.inr ⟨i, u, e2, mu⟩))
end

def wCall (n : Nat) (pm : Pm) (wa : WA) : WE := fun We g P => wa We g fun as g1 => match argsO g1 as with
  | some os => os.length = n ∧ (bors as).Nodup ∧ pm os (fun x g' => We x (back g1 as g')) fun o g' => P o (back g1 as g')
  | none => False
section
variable {X : Cx} {W : WX} {e : Expr} {es : List Expr} {t : TA} {wa : WA}
theorem call_se {n : Nat} {pm : Pm} (qa : ∀ b h σ g We P Q, Hold X.K b h σ g → wa We g P → ContX X.K g b h We W → (∀ vs b' h' g' as, Hold X.K b' h' σ g' → Frm g b h g' b' h' → ArgsOk X.K b' σ as vs → P as g' → Q vs h') → t σ h Q) :
    ∀ b h σ g We P Q, Hold X.K b h σ g → wCall n pm wa We g P → ContX X.K g b h We W → Cont X.K g b h σ P Q → tCallS (spOf X.K n pm) (L2.WE W) t σ h Q := by
  intro b h σ g We P Q k hw hx ct
  refine qa b h σ g We _ _ k hw hx fun vs b' h' g' as k' f' z p => ?_
  cases e : argsO g' as with
  | none => rw [e] at p; exact p.elim
  | some os =>
    rw [e] at p
    obtain ⟨hl, nd, p⟩ := p
    obtain ⟨k1, f1, l1⟩ := callee_in k' z e nd
    refine ⟨b', os, _, _, hl, k1, p, fun v b2 h2 g2 o k2 f2 p2 => ?_, fun cls d b2 h2 g2 x k2 f2 z2 p2 => ?_⟩
    · obtain ⟨k3, f3⟩ := callee_out k' z e nd k2 f2
      exact ct v b2 h2 _ o k3 (f'.trans f3) p2
    · obtain ⟨k2', f2'⟩ := (Res.same k2.sub (d := .non) (v := .non) rfl : Res X.K b2 h2 b2 h2 .non (.pur .non)).lift k2
      obtain ⟨k3, f3⟩ := callee_out k' z e nd k2' (f2.trans f2')
      exact hx cls d σ b2 h2 _ x k3.tail (f'.trans (f3.sub fun a q => inF_cons.mpr (.inr q))) z2 p2
/-- a call of a def -/
theorem ge_call {x : Str} {k : Nat} {f : Addr} {fd : FuncData} {ps : List Str} {pm : Pm} {p pos : Pos} (C : Ctx X W) (F : FnG X.prog X.w X.K X.mg X.base k f fd ps pm) (hr : Room k X.A) (hm : X.mg x = some (.ref f)) (hk : PySem.W.keepIn X.K (.ref f) = true) (hb : Binds X.K fd ps [])
    (ha : GA X W (e :: es) t wa) (hg : Gl X x := by rfl) (hdb : (x == ("__debug__" : Str)) = false := by decide) (he : starEach (e :: es) X.env = (false, eval e X.env) :: starEach es X.env := by rfl) (hpl : (backTo pos (starEach es X.env)).any (·.1) = false := by rfl) :
    GE X W (.Call (.Name x p) (e :: es) [] pos) (tCallS (spOf X.K ps.length pm) (L2.WE W) t) (wCall ps.length pm wa) :=
  ⟨pe_callS F hr hg hm hk hb (fun σ => passAt C.tk σ) ha.pe hdb he hpl, call_se ha.se⟩
/-- .. of no parameters, that raises nothing -/
def wCall0 (pm : Pm) : WE := fun _ g P => pm [] (fun _ _ => False) fun o _ => P o g
theorem ge_call0 {x : Str} {k : Nat} {f : Addr} {fd : FuncData} {pm : Pm} {p pos : Pos} (F : FnG X.prog X.w X.K X.mg X.base k f fd [] pm) (hr : Room k X.A) (hm : X.mg x = some (.ref f)) (hk : PySem.W.keepIn X.K (.ref f) = true) (hb : Binds X.K fd [] [])
    (hg : Gl X x := by rfl) (hdb : (x == ("__debug__" : Str)) = false := by decide) : GE X W (.Call (.Name x p) [] [] pos) (tCall (spOf X.K 0 pm) [] E0 tNil) (wCall0 pm) := by
  refine ⟨pe_call0 F hr hg hm hk hb .nil passL hdb, fun b h σ g We P Q k hw hx ct => ?_⟩
  refine ⟨b, [], _, _, rfl, ⟨k.sub, rfl, fun i o e => by simp at e, fun i o e => by simp at e, fun i j o u n e => by simp at e, fun i o e => by simp at e⟩, hw, fun v b2 h2 g2 o k2 f2 p2 => ?_, fun cls d b2 h2 g2 x k2 f2 z2 p2 => p2⟩
  have r : Res X.K b h b2 h2 v o := by
    obtain ⟨z, nd, nb, _⟩ := k2.head
    refine ⟨hold1 k2.sub z nd nb, f2.sub fun a q => ?_⟩
    rcases inF_cons.mp q with ⟨u, e, m⟩ | q
    · exact inF_cons.mpr (.inl ⟨u, e, m⟩)
    · exact (inF_nil q).elim
  exact fin k (Frm.refl g b h) r ct p2
end

/-! ### a def keeps its promise -/
def root : O → Option Addr
  | .pur _ => none
  | .lst p _ => some p
  | .dK p _ _ => some p
  | .dT p _ _ => some p
  | .ins p _ _ _ _ => some p
  | .tup _ => none
/-- an argument behind the call, by the slot it came in -/
def keepR (a : O) (x : Option O) : Option O := match root a, x with
  | none, _ => some a
  | some p, some u => if root u = some p then some u else none
  | some _, none => none
def keepA (a : O) (x : Option O) : Option O := match a with
  | .tup _ => none
  | .pur d => keepR (.pur d) x
  | .lst p xs => keepR (.lst p xs) x
  | .dK p ks xs => keepR (.dK p ks xs) x
  | .dT p ks xs => keepR (.dT p ks xs) x
  | .ins p dx C fs xs => keepR (.ins p dx C fs xs) x
def aft : List O → Gam → Gam
  | [], _ => []
  | a :: as, x :: g => keepA a x :: aft as g
  | a :: as, [] => keepA a none :: aft as []
section
variable {K : PySem.W.Frag} {b b' h h' : Hp} {σ σ' : L2.St} {g g' : Gam} {as : List O} {vs : List V} {v : V} {o : O}
theorem own_root {a : O} {w : V} {p : Addr} (z : own K b h a w) (e : root a = some p) : w = .ref p := by
  cases a with
  | pur d => cases e
  | lst q xs => cases e; exact z.1
  | dK q ks xs => cases e; exact z.1
  | dT q ks xs => cases e; exact z.1
  | ins q dx C fs xs => cases e; exact z.1
  | tup xs => cases e
theorem keepR_some {a u : O} {x : Option O} (ne : ∀ xs, a ≠ .tup xs) (e : keepR a x = some u) : (∃ d, a = .pur d ∧ u = .pur d) ∨ ((∃ p, root a = some p ∧ root u = some p) ∧ (some x = some (some u))) := by
  unfold keepR at e
  split at e
  · rename_i q
    cases a with
    | pur d => cases e; exact .inl ⟨d, rfl, rfl⟩
    | tup xs => exact (ne xs rfl).elim
    | _ => cases q
  · rename_i p y q
    split at e
    · rename_i h
      cases e
      exact .inr ⟨⟨p, q, h⟩, rfl⟩
    · cases e
  · cases e
theorem keepA_some {a u : O} {x : Option O} (e : keepA a x = some u) : (∃ d, a = .pur d ∧ u = .pur d) ∨ ((∃ p, root a = some p ∧ root u = some p) ∧ (some x = some (some u))) := by
  cases a with
  | tup xs => cases e
  | pur d => exact keepR_some (fun _ => nofun) e
  | lst p xs => exact keepR_some (fun _ => nofun) e
  | dK p ks xs => exact keepR_some (fun _ => nofun) e
  | dT p ks xs => exact keepR_some (fun _ => nofun) e
  | ins p dx C fs xs => exact keepR_some (fun _ => nofun) e
theorem aft_get {u : O} : ∀ {as : List O} {g : Gam} {k : Nat}, (aft as g)[k]? = some (some u) → ∃ a, as[k]? = some a ∧ ((∃ d, a = .pur d ∧ u = .pur d) ∨ ((∃ p, root a = some p ∧ root u = some p) ∧ g[k]? = some (some u)))
  | [], _, _, e => by simp [aft] at e
  | a :: as, x :: g, k + 1, e => aft_get (as := as) (g := g) (k := k) e
  | a :: as, [], k + 1, e => by
    obtain ⟨c, e1, q⟩ := aft_get (as := as) (g := []) (k := k) e
    exact ⟨c, e1, q.elim .inl fun ⟨_, q⟩ => by simp at q⟩
  | a :: as, x :: g, 0, e => ⟨a, rfl, keepA_some (by simpa [aft] using e)⟩
  | a :: as, [], 0, e => ⟨a, rfl, (keepA_some (x := none) (by simpa [aft] using e)).elim .inl fun ⟨q, z⟩ => by simp at z⟩
theorem aft_len : ∀ {as : List O} {g : Gam}, (aft as g).length = as.length
  | [], _ => rfl
  | _ :: as, _ :: g => by show (aft as g).length + 1 = _; rw [aft_len]; rfl
  | _ :: as, [] => by show (aft as []).length + 1 = _; rw [aft_len]; rfl
theorem aft_ok (k : Hold K b h (vs.map some) (as.map some)) (k2 : Hold K b' h' (some v :: σ') (some o :: g')) (f2 : Frm (as.map some) b h (some o :: g') b' h') :
    Hold K b' h' (some v :: vs.map some) (some o :: aft as g') ∧ Frm (as.map some) b h (some o :: aft as g') b' h' := by
  obtain ⟨zo, ndo, nbo, djo⟩ := k2.head
  have kt := k2.tail
  have low : ∀ (i : Nat) (u : O) (a : Addr), (aft as g')[i]? = some (some u) → a ∈ foot u → g'[i]? = some (some u) := fun i u a e m => by
    obtain ⟨c, e1, ⟨d, e2, e3⟩ | ⟨_, e2⟩⟩ := aft_get e
    · subst e3; simp [foot] at m
    · exact e2
  have kb : Hold K b' h' (vs.map some) (aft as g') := by
    refine ⟨k2.sub, by rw [aft_len]; have := k.len; simpa using this, fun i u e => ?_, fun i u e => ?_, fun i j u w n e1 e2 a m1 m2 => ?_, fun i u e a m => kt.nb i u (low i u a e m) a m⟩
    · obtain ⟨c, e1, q⟩ := aft_get e
      obtain ⟨w, ew, zw⟩ := k.sl i c (by rw [List.getElem?_map, e1]; rfl)
      rcases q with ⟨d, rfl, rfl⟩ | ⟨⟨p, r1, r2⟩, e2⟩
      · exact ⟨w, ew, den_mono f2.bs _ _ zw⟩
      · obtain ⟨w2, _, zw2⟩ := kt.sl i u e2
        have q1 := own_root zw r1
        have q2 := own_root zw2 r2
        subst q1 q2
        exact ⟨_, ew, zw2⟩
    · obtain ⟨c, e1, ⟨d, e2, e3⟩ | ⟨_, e2⟩⟩ := aft_get e
      · subst e3; simp [foot]
      · exact kt.nd i u e2
    · exact kt.dj i j u w n (low i u a e1 m1) (low j w a e2 m2) a m1 m2
  refine ⟨kb.cons zo ndo nbo fun a m ⟨i, u, e, mu⟩ => djo a m ⟨i, u, low i u a e mu, mu⟩, f2.sub fun a q => ?_⟩
  rcases inF_cons.mp q with ⟨u, e, m⟩ | ⟨i, u, e, m⟩
  · exact inF_cons.mpr (.inl ⟨u, e, m⟩)
  · exact inF_cons.mpr (.inr ⟨i, u, low i u a e m, m⟩)
theorem inF_pad {n : Nat} {a : Addr} (q : inF (g ++ List.replicate n none) a) : inF g a := by
  obtain ⟨i, o, e, m⟩ := q
  refine ⟨i, o, ?_, m⟩
  rw [List.getElem?_append] at e
  split at e
  · exact e
  · rw [List.getElem?_replicate] at e
    split at e <;> simp at e
theorem Hold.pad (k : Hold K b h σ g) (n : Nat) : Hold K b h (σ ++ List.replicate n none) (g ++ List.replicate n none) := by
  have low : ∀ (i : Nat) (o : O), (g ++ List.replicate n none)[i]? = some (some o) → g[i]? = some (some o) := fun i o e => by
    rw [List.getElem?_append] at e
    split at e
    · exact e
    · rw [List.getElem?_replicate] at e
      split at e <;> simp at e
  refine ⟨k.sub, by simp [k.len], fun i o e => ?_, fun i o e => k.nd i o (low i o e), fun i j o u m e1 e2 => k.dj i j o u m (low i o e1) (low j u e2), fun i o e => k.nb i o (low i o e)⟩
  obtain ⟨v, e1, z⟩ := k.sl i o (low i o e)
  refine ⟨v, ?_, z⟩
  rw [List.getElem?_append_left]
  · exact e1
  · exact (List.getElem?_eq_some_iff.mp e1).1
end
/-- what a def's body starts from -/
def args0 (n : Nat) (as : List O) : Gam := as.map some ++ List.replicate (n - as.length) none
def endsOf (as : List O) (P : O → Gam → Prop) : GEnds := { nx := fun g => P (.pur .non) (aft as g), rt := fun o g => P o (aft as g) }
theorem fn_G {P : Program} {w : World} {K : PySem.W.Frag} {mg : Str → Option Value} {base : Heap} {x qual : Str} {params : Arguments} {body : List Stmt} {scope : Scope} {dvs : List V} {kws : List (Str × V)} {f : Addr} {fd : FuncData} {N ps : List Str} {k : Nat} {pm : Pm} {ws : WS}
    (F : FunD K x qual params body scope dvs kws f fd) (S : FnScope N ps scope)
    (hb : ∀ (cdv : Value) (A : Around) (outer : List PySem.Env) (s : Shared) (H : Hp) (E : XK), Room k (A.deeper (envOfC qual scope s.heap.objs.size f cdv)) → Ctx (cxOf (L2.CX P w) P w K mg base N qual scope f cdv A outer s H E) (fun cls d _ H => E cls d H) →
      GSs (cxOf (L2.CX P w) P w K mg base N qual scope f cdv A outer s H E) (fun cls d _ H => E cls d H) body ws)
    (hw : ∀ as We R, as.length = ps.length → pm as We R → ws (fun x g => We x (aft as g)) (endsOf as R) (args0 N.length as)) : FnG P w K mg base (k + 1) f fd ps pm := by
  refine fund_ok F S spOf_len fun cdv A outer s H vs Q E hr h => ?_
  obtain ⟨b, as, We, R, hl, k0, hp, hq, he⟩ := h
  have C : Ctx (cxOf (L2.CX P w) P w K mg base N qual scope f cdv A outer s H E) (fun cls d _ H => E cls d H) :=
    ⟨takes_of rfl rfl rfl rfl, passes_of rfl, S.nd, rfl⟩
  obtain ⟨t, p, q⟩ := (hb cdv A outer s H E hr C).ex
  refine ⟨t, p, ?_⟩
  have el : vs.length = as.length := by have := k0.len; simpa using this
  have k1 : Hold K b H (L2.start N vs) (args0 N.length as) := by
    unfold L2.start args0
    rw [el]
    exact k0.pad _
  have low : ∀ a, inF (args0 N.length as) a → inF (as.map some) a := fun a z => inF_pad z
  have fr : ∀ {b' h' : Hp} {g' : Gam}, Frm (args0 N.length as) b H g' b' h' → Frm (as.map some) b H g' b' h' := fun f =>
    ⟨f.bs, fun a o e n => f.keep a o e fun z => n (low a z), fun a o e1 t e2 n => f.nb a o e1 t e2 fun z => n (low a z), fun a z => (f.new a z).elim (fun z => .inl (low a z)) .inr⟩
  refine q b H (L2.start N vs) (args0 N.length as) _ _ _ k1 (hw as We R hl hp) (fun cls d σ' b' h' g' x k' f' z p' => ?_) ⟨fun σ' b' h' g' k' f' p' => ?_, fun σ' b' h' g' k' f' p' => p'.elim, fun σ' b' h' g' k' f' p' => p'.elim, fun σ' v b' h' g' o k' f' p' => ?_⟩
  · obtain ⟨k2, f2⟩ := (Res.same k'.sub (d := .non) (v := .non) rfl : Res K b' h' b' h' .non (.pur .non)).lift k'
    obtain ⟨k3, f3⟩ := aft_ok k0 k2 (fr (f'.trans f2))
    exact he cls d b' h' _ x k3.tail (f3.sub fun a q => inF_cons.mpr (.inr q)) z p'
  · obtain ⟨k2, f2⟩ := (Res.same k'.sub (d := .non) (v := .non) rfl : Res K b' h' b' h' .non (.pur .non)).lift k'
    obtain ⟨k3, f3⟩ := aft_ok k0 k2 (fr (f'.trans f2))
    exact hq .non b' h' _ _ k3 f3 p'
  · obtain ⟨k3, f3⟩ := aft_ok k0 k' (fr f')
    exact hq v b' h' _ o k3 f3 p'
end G
/-! G: operators, built-ins, walks, comprehensions. -/
namespace G
open PySem L2
open Evl (Ex)

/-! ### ints -/
def roI (f : Int → Int → D) : RO := fun x y P => match x, y with
  | .int i, .int j => P (.pur (f i j))
  | _, _ => False
def roC (C : Int → Int → Prop) (f : Int → Int → D) : RO := fun x y P => match x, y with
  | .int i, .int j => C i j ∧ P (.pur (f i j))
  | _, _ => False
section
variable {X : Cx} {W : WX}
theorem og_I {f : Value → Value → Sem Value} {g : Int → Int → V} {d : Int → Int → D} (h : OpR X f (rI0 g)) (e : ∀ i j b, den X.K b (d i j) (g i j)) : OpG X f (rI0 g) (roI d) := by
  refine ⟨h, fun b hh x y dx dy P Q s zx zy hr c => ?_⟩
  cases dx with
  | int i =>
    cases dy with
    | int j => exact ⟨i, j, zx, zy, c _ b hh _ (Res.same s (e i j b)) hr⟩
    | _ => exact hr.elim
  | _ => exact hr.elim
theorem og_C {f : Value → Value → Sem Value} {C : Int → Int → Prop} {g : Int → Int → V} {d : Int → Int → D} (h : OpR X f (rI C g)) (e : ∀ i j b, den X.K b (d i j) (g i j)) : OpG X f (rI C g) (roC C d) := by
  refine ⟨h, fun b hh x y dx dy P Q s zx zy hr c => ?_⟩
  cases dx with
  | int i =>
    cases dy with
    | int j => exact ⟨i, j, zx, zy, hr.1, c _ b hh _ (Res.same s (e i j b)) hr.2⟩
    | _ => exact hr.elim
  | _ => exact hr.elim
theorem og_add : OpG X (binaryOp .Add) (rI0 fun i j => .int (i + j)) (roI fun i j => .int (i + j)) := og_I op_add fun _ _ _ => rfl
theorem og_sub : OpG X (binaryOp .Sub) (rI0 fun i j => .int (i - j)) (roI fun i j => .int (i - j)) := og_I op_sub fun _ _ _ => rfl
theorem og_mul : OpG X (binaryOp .Mult) (rI CMul fun i j => .int (i * j)) (roC CMul fun i j => .int (i * j)) := og_C op_mul fun _ _ _ => rfl
theorem og_fdiv : OpG X (binaryOp .FloorDiv) (rI CDiv fun i j => .int (i / j)) (roC CDiv fun i j => .int (i / j)) := og_C op_fdiv fun _ _ _ => rfl
theorem og_mod : OpG X (binaryOp .Mod) (rI (fun _ j => 0 < j) fun i j => .int (i % j)) (roC (fun _ j => 0 < j) fun i j => .int (i % j)) := og_C op_mod fun _ _ _ => rfl
theorem og_pow : OpG X (binaryOp .Pow) (rI CPow fun i j => .int (i ^ j.toNat)) (roC CPow fun i j => .int (i ^ j.toNat)) := og_C op_pow fun _ _ _ => rfl
theorem og_mulW : OpG X (binaryOp .Mult) (rI CMulW fun i j => .int (i * j)) (roC CMulW fun i j => .int (i * j)) := og_C op_mulW fun _ _ _ => rfl
theorem og_fdivW : OpG X (binaryOp .FloorDiv) (rI CDivW fun i j => .int (i / j)) (roC CDivW fun i j => .int (i / j)) := og_C op_fdivW fun _ _ _ => rfl
theorem og_iadd : OpG X (inplaceOp .Add) (rI0 fun i j => .int (i + j)) (roI fun i j => .int (i + j)) := og_I iop_add fun _ _ _ => rfl
theorem og_isub : OpG X (inplaceOp .Sub) (rI0 fun i j => .int (i - j)) (roI fun i j => .int (i - j)) := og_I iop_sub fun _ _ _ => rfl
theorem og_lt : OpG X (compareOp .Lt) (rI0 fun i j => .bl (decide (i < j))) (roI fun i j => .bl (decide (i < j))) := og_I op_lt fun _ _ _ => rfl
theorem og_le : OpG X (compareOp .LtE) (rI0 fun i j => .bl (decide (i ≤ j))) (roI fun i j => .bl (decide (i ≤ j))) := og_I op_le fun _ _ _ => rfl
theorem og_gt : OpG X (compareOp .Gt) (rI0 fun i j => .bl (decide (j < i))) (roI fun i j => .bl (decide (j < i))) := og_I op_gt fun _ _ _ => rfl
theorem og_ge : OpG X (compareOp .GtE) (rI0 fun i j => .bl (decide (j ≤ i))) (roI fun i j => .bl (decide (j ≤ i))) := og_I op_ge fun _ _ _ => rfl
theorem og_eqI : OpG X (compareOp .Eq) rEq (roI fun i j => .bl (decide (i = j))) := by
  refine ⟨op_eq, fun b hh x y dx dy P Q s zx zy hr c => ?_⟩
  cases dx with
  | int i =>
    cases dy with
    | int j =>
      have ex : x = .int i := zx
      have ey : y = .int j := zy
      subst ex ey
      refine ⟨rfl, c _ b hh (.pur (.bl (decide (i = j)))) (Res.same s ?_) hr⟩
      show V.bl _ = V.bl _
      rw [dec_int, Bool.beq_eq_decide_eq]
    | _ => exact hr.elim
  | _ => exact hr.elim
theorem og_neI : OpG X (compareOp .NotEq) rNe (roI fun i j => .bl (!decide (i = j))) := by
  refine ⟨op_ne, fun b hh x y dx dy P Q s zx zy hr c => ?_⟩
  cases dx with
  | int i =>
    cases dy with
    | int j =>
      have ex : x = .int i := zx
      have ey : y = .int j := zy
      subst ex ey
      refine ⟨rfl, c _ b hh (.pur (.bl (!decide (i = j)))) (Res.same s ?_) hr⟩
      show V.bl _ = V.bl _
      rw [dec_int, Bool.beq_eq_decide_eq]
    | _ => exact hr.elim
  | _ => exact hr.elim
def ruI (f : Int → Int) : RU1 := fun x P => match x with
  | .int i => P (.pur (.int (f i)))
  | _ => False
theorem ug_neg : UnG X (unaryOp .USub) (rU fun i => .int (-i)) (ruI fun i => -i) := by
  refine ⟨un_neg, fun b hh x dx P Q s zx hr c => ?_⟩
  cases dx with
  | int i => exact ⟨i, zx, c _ b hh _ (Res.same s (d := .int (-i)) rfl) hr⟩
  | _ => exact hr.elim

/-! ### data of any form: ==, in -/
/-- is a flat value -/
def D.fl : D → Option V
  | .non => some .non
  | .bl b => some (.bl b)
  | .int i => some (.int i)
  | .str x => some (.str x)
  | _ => none
theorem fl_ok {K : PySem.W.Frag} {b : Hp} {d : D} {v u : V} (z : den K b d v) (e : d.fl = some u) : v = u ∧ flatV u = true := by
  cases d with
  | non => cases e; exact ⟨z, rfl⟩
  | bl k => cases e; exact ⟨z, rfl⟩
  | int i => cases e; exact ⟨z, rfl⟩
  | str x => cases e; exact ⟨z, rfl⟩
  | _ => cases e
def flL : List D → Option (List V)
  | [] => some []
  | d :: ds => match d.fl, flL ds with
    | some v, some vs => some (v :: vs)
    | _, _ => none
theorem flL_ok {K : PySem.W.Frag} {b : Hp} : ∀ {ds : List D} {vs us : List V}, denL K b ds vs → flL ds = some us → vs = us ∧ us.all flatV = true
  | [], _, _, z, e => by
    have z' : _ = ([] : List V) := z
    cases e
    exact ⟨z', rfl⟩
  | d :: ds, _, us, ⟨v, r, e1, z, t⟩, e => by
    subst e1
    unfold flL at e
    split at e
    · rename_i v' vs' e1 e2
      cases e
      obtain ⟨rfl, f1⟩ := fl_ok z e1
      obtain ⟨rfl, f2⟩ := flL_ok t e2
      exact ⟨rfl, by rw [List.all_cons, f1, f2]; rfl⟩
    · cases e
/-- x in ds, all flat -/
@[irreducible] def roIn (neg : Bool) : RO := fun x y P => match y with
  | .lst ds => (match x.fl, flL ds with
    | some v, some vs => P (.pur (.bl (if neg then !inV v vs else inV v vs)))
    | _, _ => False)
  | .tup ds => (match x.fl, flL ds with
    | some v, some vs => P (.pur (.bl (if neg then !inV v vs else inV v vs)))
    | _, _ => False)
  | _ => False
theorem in_br (neg : Bool) : Brd X.K (roIn neg) (rIn X.K neg) := by
  intro b hh x y dx dy P Q s zx zy hr c
  cases dy with
  | lst ds =>
    obtain ⟨a, vs, rfl, q, t⟩ := zy
    simp only [roIn] at hr
    split at hr
    · rename_i v ws e1 e2
      obtain ⟨rfl, f1⟩ := fl_ok zx e1
      obtain ⟨rfl, f2⟩ := flL_ok t e2
      exact ⟨a, vs, rfl, .inl (SqL.of (s _ _ q)), f1, f2, c _ b hh (.pur (.bl _)) (Res.same s rfl) hr⟩
    · exact hr.elim
  | tup ds =>
    obtain ⟨a, vs, rfl, q, t⟩ := zy
    simp only [roIn] at hr
    split at hr
    · rename_i v ws e1 e2
      obtain ⟨rfl, f1⟩ := fl_ok zx e1
      obtain ⟨rfl, f2⟩ := flL_ok t e2
      exact ⟨a, vs, rfl, .inr (SqT.of (s _ _ q)), f1, f2, c _ b hh (.pur (.bl _)) (Res.same s rfl) hr⟩
    · exact hr.elim
  | _ => exact (by unfold roIn at hr; exact hr.elim)
theorem og_in {K : PySem.W.Frag} (hK : X.K = K := by exact rfl) : OpG X (compareOp .In) (rIn K false) (roIn false) := by
  subst hK
  exact ⟨op_in_seq, in_br false⟩
theorem og_notIn {K : PySem.W.Frag} (hK : X.K = K := by exact rfl) : OpG X (compareOp .NotIn) (rIn K true) (roIn true) := by
  subst hK
  exact ⟨op_notIn_seq, in_br true⟩
mutual
def D.py : D → Option PyData
  | .non => some .none
  | .bl b => some (.bool b)
  | .int i => some (.int i)
  | .str x => some (.str x)
  | .tup ds => (pyL ds).map .tuple
  | .frt ds => (pyL ds).map .tuple
  | .tfz ds => (pyL ds).map .tuple
  | .lst ds => (pyL ds).map .list
  | _ => none
def pyL : List D → Option (List PyData)
  | [] => some []
  | d :: ds => match d.py, pyL ds with
    | some p, some ps => some (p :: ps)
    | _, _ => none
end
mutual
theorem py_ok {K : PySem.W.Frag} {b : Hp} : ∀ (d : D) (v : V) (p : PyData), den K b d v → d.py = some p → Dp K b v p
  | .non, v, p, z, e => by cases e; have z' : v = .non := z; subst z'; exact .non
  | .bl k, v, p, z, e => by cases e; have z' : v = .bl k := z; subst z'; exact .bl k
  | .int k, v, p, z, e => by cases e; have z' : v = .int k := z; subst z'; exact .int k
  | .str k, v, p, z, e => by cases e; have z' : v = .str k := z; subst z'; exact .str k
  | .tup ds, v, p, ⟨a, vs, e1, q, t⟩, e => by
    subst e1
    have e' : (pyL ds).map PyData.tuple = some p := by simpa [D.py] using e
    cases h : pyL ds with
    | none => rw [h] at e'; cases e'
    | some ps => rw [h] at e'; cases e'; exact .tup (SqT.of q) (pyL_ok ds vs ps t h)
  | .frt ds, v, p, ⟨a, vs, e1, q, t⟩, e => by
    subst e1
    have e' : (pyL ds).map PyData.tuple = some p := by simpa [D.py] using e
    cases h : pyL ds with
    | none => rw [h] at e'; cases e'
    | some ps => rw [h] at e'; cases e'; exact .tup q.sq (pyL_ok ds vs ps t h)
  | .tfz ds, v, p, ⟨a, o, vs, e1, q, _, _, t⟩, e => by
    subst e1
    have e' : (pyL ds).map PyData.tuple = some p := by simpa [D.py] using e
    cases h : pyL ds with
    | none => rw [h] at e'; cases e'
    | some ps => rw [h] at e'; cases e'; exact .tup (.inl (.inr ⟨o, q⟩)) (pyL_ok ds vs ps t h)
  | .lst ds, v, p, ⟨a, vs, e1, q, t⟩, e => by
    subst e1
    have e' : (pyL ds).map PyData.list = some p := by simpa [D.py] using e
    cases h : pyL ds with
    | none => rw [h] at e'; cases e'
    | some ps => rw [h] at e'; cases e'; exact .lst (SqL.of q) (pyL_ok ds vs ps t h)
  | .ty _, _, _, _, e => by cases e
  | .frl _, _, _, _, e => by cases e
  | .fn _, _, _, _, e => by cases e
  | .dK _ _, _, _, _, e => by cases e
  | .dT _ _, _, _, _, e => by cases e
  | .lkK _ _, _, _, _, e => by cases e
  | .lkT _ _, _, _, _, e => by cases e
  | .ins _ _ _, _, _, _, e => by cases e
theorem pyL_ok {K : PySem.W.Frag} {b : Hp} : ∀ (ds : List D) (vs : List V) (ps : List PyData), denL K b ds vs → pyL ds = some ps → DpAll K b vs ps
  | [], vs, ps, z, e => by
    have z' : vs = [] := z
    subst z'
    cases e
    exact .nil
  | d :: ds, _, ps, ⟨v, r, e1, z, t⟩, e => by
    subst e1
    cases h1 : d.py with
    | none => simp [pyL, h1] at e
    | some p =>
      cases h2 : pyL ds with
      | none => simp [pyL, h1, h2] at e
      | some qs =>
        simp [pyL, h1, h2] at e
        subst e
        exact .cons (py_ok d v p z h1) (pyL_ok ds r qs t h2)
end
mutual
theorem Dp_ex {K : PySem.W.Frag} {b h : Hp} (e : Ex b h) : ∀ {v : V} {p : PyData}, Dp K b v p → Dp K h v p
  | _, _, .non => .non
  | _, _, .bl k => .bl k
  | _, _, .int k => .int k
  | _, _, .str k => .str k
  | _, _, .lst q t => .lst (Evl.ex_l e q) (DpAll_ex e t)
  | _, _, .tup q t => .tup (Evl.ex_t e q) (DpAll_ex e t)
theorem DpAll_ex {K : PySem.W.Frag} {b h : Hp} (e : Ex b h) : ∀ {vs : List V} {ps : List PyData}, DpAll K b vs ps → DpAll K h vs ps
  | _, _, .nil => .nil
  | _, _, .cons a t => .cons (Dp_ex e a) (DpAll_ex e t)
end
/-- == of data -/
@[irreducible] def roEq (neg : Bool) : RO := fun x y P => match x.py, y.py with
  | some p, some q => SeqAt.shaped p = true ∧ SeqAt.shaped q = true ∧ P (.pur (.bl (if neg then !PyData.eqv p q else PyData.eqv p q)))
  | _, _ => False
theorem og_eq (hu : X.A.units + 64 < cLine) {K : PySem.W.Frag} (hK : X.K = K := by exact rfl) : OpG X (compareOp .Eq) (rEqD K) (roEq false) := by
  subst hK
  refine ⟨op_eqD hu, fun b hh x y dx dy P Q s zx zy hr c => ?_⟩
  unfold roEq at hr
  split at hr
  · rename_i p q e1 e2
    exact ⟨p, q, Dp_ex s (py_ok dx x p zx e1), Dp_ex s (py_ok dy y q zy e2), hr.1, hr.2.1, c _ b hh (.pur (.bl _)) (Res.same s rfl) hr.2.2⟩
  · exact hr.elim
theorem og_ne (hu : X.A.units + 64 < cLine) {K : PySem.W.Frag} (hK : X.K = K := by exact rfl) : OpG X (compareOp .NotEq) (rNeD K) (roEq true) := by
  subst hK
  refine ⟨op_neD hu, fun b hh x y dx dy P Q s zx zy hr c => ?_⟩
  unfold roEq at hr
  split at hr
  · rename_i p q e1 e2
    exact ⟨p, q, Dp_ex s (py_ok dx x p zx e1), Dp_ex s (py_ok dy y q zy e2), hr.1, hr.2.1, c _ b hh (.pur (.bl _)) (Res.same s rfl) hr.2.2⟩
  · exact hr.elim

/-! ### places -/
def roIx : RO := fun x y P => match x, y with
  | .frt ds, .int i => (match atI ds i with
    | some d => P (.pur d)
    | none => False)
  | .tfz ds, .int i => (match atI ds i with
    | some d => P (.pur d)
    | none => False)
  | .tup ds, .int i => (match atI ds i with
    | some d => P (.pur d)
    | none => False)
  | .lst ds, .int i => (match atI ds i with
    | some d => P (.pur d)
    | none => False)
  | _, _ => False
theorem denL_at {K : PySem.W.Frag} {b : Hp} : ∀ {ds : List D} {vs : List V} {j : Nat} {d : D}, denL K b ds vs → ds[j]? = some d → ∃ v, vs[j]? = some v ∧ den K b d v
  | [], _, _, _, _, e => by simp at e
  | c :: ds, _, 0, d, ⟨v, r, e1, z, t⟩, e => by
    subst e1
    have e' : c = d := by simpa using e
    subst e'
    exact ⟨v, rfl, z⟩
  | c :: ds, _, j + 1, d, ⟨v, r, e1, z, t⟩, e => by
    subst e1
    obtain ⟨w, q1, q2⟩ := denL_at (j := j) t (by simpa using e)
    exact ⟨w, by simpa using q1, q2⟩
theorem denL_atI {K : PySem.W.Frag} {b : Hp} {ds : List D} {vs : List V} {i : Int} {d : D} (t : denL K b ds vs) (e : atI ds i = some d) : ∃ v, atI vs i = some v ∧ den K b d v := by
  unfold atI at e ⊢
  rw [← denL_len t]
  cases q : ixN ds.length i with
  | none => rw [q] at e; cases e
  | some j =>
    rw [q] at e
    exact denL_at t e
theorem ig_seq {K : PySem.W.Frag} (hK : X.K = K := by exact rfl) : IxG X (rIx K) roIx := by
  subst hK
  refine ⟨ix_seq, fun b hh x y dx dy P Q s zx zy hr c => ?_⟩
  cases dx with
  | frt ds =>
    cases dy with
    | int i =>
      obtain ⟨a, vs, rfl, q, t⟩ := zx
      simp only [roIx] at hr
      split at hr
      · rename_i d e
        obtain ⟨v, e1, z⟩ := denL_atI t e
        exact .inr (.inl ⟨a, vs, i, v, rfl, zy, (q.mono s).sq, e1, c _ b hh _ (Res.same s z) hr⟩)
      · exact hr.elim
    | _ => exact hr.elim
  | tfz ds =>
    cases dy with
    | int i =>
      obtain ⟨a, o, vs, rfl, q, _, _, t⟩ := zx
      simp only [roIx] at hr
      split at hr
      · rename_i d e
        obtain ⟨v, e1, z⟩ := denL_atI t e
        exact .inr (.inl ⟨a, vs, i, v, rfl, zy, .inl (.inr ⟨o, s _ _ q⟩), e1, c _ b hh _ (Res.same s z) hr⟩)
      · exact hr.elim
    | _ => exact hr.elim
  | tup ds =>
    cases dy with
    | int i =>
      obtain ⟨a, vs, rfl, q, t⟩ := zx
      simp only [roIx] at hr
      split at hr
      · rename_i d e
        obtain ⟨v, e1, z⟩ := denL_atI t e
        exact .inr (.inl ⟨a, vs, i, v, rfl, zy, SqT.of (s _ _ q), e1, c _ b hh _ (Res.same s z) hr⟩)
      · exact hr.elim
    | _ => exact hr.elim
  | lst ds =>
    cases dy with
    | int i =>
      obtain ⟨a, vs, rfl, q, t⟩ := zx
      simp only [roIx] at hr
      split at hr
      · rename_i d e
        obtain ⟨v, e1, z⟩ := denL_atI t e
        exact .inl ⟨a, vs, i, v, rfl, zy, SqL.of (s _ _ q), e1, c _ b hh _ (Res.same s z) hr⟩
      · exact hr.elim
    | _ => exact hr.elim
  | _ => exact hr.elim

/-! ### built-ins -/
def rcI (f : Int → D) : RC1 := fun ds P => match ds with
  | [.int i] => P (.pur (f i))
  | _ => False
def rcII (f : Int → Int → D) : RC1 := fun ds P => match ds with
  | [.int i, .int j] => P (.pur (f i j))
  | _ => False
theorem denL1 {K : PySem.W.Frag} {b : Hp} {d : D} {xs : List V} (z : denL K b [d] xs) : ∃ v, xs = [v] ∧ den K b d v := by
  obtain ⟨v, r, e1, z1, e2⟩ := z
  subst e2
  exact ⟨v, e1, z1⟩
theorem denL2 {K : PySem.W.Frag} {b : Hp} {d u : D} {xs : List V} (z : denL K b [d, u] xs) : ∃ v w, xs = [v, w] ∧ den K b d v ∧ den K b u w := by
  obtain ⟨v, r, e1, z1, w, r2, e2, z2, e3⟩ := z
  subst e2 e3
  exact ⟨v, w, e1, z1, z2⟩
theorem cg_I {f : Value} {r : List V → Hp → VK → Prop} {d : Int → D} {g : Int → V} (h : CallR X f r) (e : ∀ i b, den X.K b (d i) (g i)) (hr : ∀ i H Q, Q (g i) H → r [.int i] H Q) : CallG X f r (rcI d) := by
  refine ⟨h, fun b hh xs ds P Q s z hp c => ?_⟩
  unfold rcI at hp
  split at hp
  · rename_i i
    obtain ⟨v, rfl, z1⟩ := denL1 z
    have z' : v = .int i := z1
    subst z'
    exact hr i hh Q (c _ b hh _ (Res.same s (e i b)) hp)
  · exact hp.elim
theorem cg_II {f : Value} {r : List V → Hp → VK → Prop} {d : Int → Int → D} {g : Int → Int → V} (h : CallR X f r) (e : ∀ i j b, den X.K b (d i j) (g i j)) (hr : ∀ i j H Q, Q (g i j) H → r [.int i, .int j] H Q) : CallG X f r (rcII d) := by
  refine ⟨h, fun b hh xs ds P Q s z hp c => ?_⟩
  unfold rcII at hp
  split at hp
  · rename_i i j
    obtain ⟨v, w, rfl, z, z2⟩ := denL2 z
    have z' : v = .int i := z
    have z2' : w = .int j := z2
    subst z' z2'
    exact hr i j hh Q (c _ b hh _ (Res.same s (e i j b)) hp)
  · exact hp.elim
abbrev rvAbs : List V → Hp → VK → Prop := fun xs H Q => ∃ i, xs = [.int i] ∧ Q (.int (if i < 0 then -i else i)) H
abbrev rvInt : List V → Hp → VK → Prop := fun xs H Q => (∃ i, xs = [.int i] ∧ Q (.int i) H) ∨ ∃ k, xs = [.bl k] ∧ Q (.int (if k then 1 else 0)) H
abbrev rvMax2 : List V → Hp → VK → Prop := fun xs H Q => ∃ i j, xs = [.int i, .int j] ∧ Q (.int (if j > i then j else i)) H
abbrev rvMin2 : List V → Hp → VK → Prop := fun xs H Q => ∃ i j, xs = [.int i, .int j] ∧ Q (.int (if j < i then j else i)) H
abbrev rvLen (K : PySem.W.Frag) : List V → Hp → VK → Prop := fun xs H Q => ∃ p ys, xs = [.ref p] ∧ (SqL K H p ys ∨ SqT K H p ys) ∧ Q (.int ys.length) H
abbrev rvList (K : PySem.W.Frag) : List V → Hp → VK → Prop := fun xs H Q => ∃ p ys, xs = [.ref p] ∧ (SqL K H p ys ∨ SqT K H p ys) ∧ ∀ l, H l = none → Q (.ref l) (upd H l (.lst ys))
abbrev rvTuple (K : PySem.W.Frag) : List V → Hp → VK → Prop := fun xs H Q => ∃ p ys, xs = [.ref p] ∧ ((SqL K H p ys ∧ ∀ l, H l = none → Q (.ref l) (upd H l (.tup ys))) ∨ (SqT K H p ys ∧ Q (.ref p) H))
theorem cg_abs : CallG X (.builtin "abs") rvAbs (rcI fun i => .int (if i < 0 then -i else i)) := cg_I call_abs (fun _ _ => rfl) fun i H Q q => ⟨i, rfl, q⟩
theorem cg_int : CallG X (.type "int") rvInt (rcI fun i => .int i) := cg_I call_int1 (fun _ _ => rfl) fun i H Q q => .inl ⟨i, rfl, q⟩
theorem cg_max2 (hc : X.calm = true) : CallG X (.builtin "max") rvMax2 (rcII fun i j => .int (if j > i then j else i)) := cg_II (call_max2 hc) (fun _ _ _ => rfl) fun i j H Q q => ⟨i, j, rfl, q⟩
theorem cg_min2 (hc : X.calm = true) : CallG X (.builtin "min") rvMin2 (rcII fun i j => .int (if j < i then j else i)) := cg_II (call_min2 hc) (fun _ _ _ => rfl) fun i j H Q q => ⟨i, j, rfl, q⟩
def rcLen : RC1 := fun ds P => match ds with
  | [.frt xs] => P (.pur (.int xs.length))
  | [.tfz xs] => P (.pur (.int xs.length))
  | [.tup xs] => P (.pur (.int xs.length))
  | [.lst xs] => P (.pur (.int xs.length))
  | _ => False
theorem cg_len {K : PySem.W.Frag} (hK : X.K = K := by exact rfl) : CallG X (.builtin "len") (rvLen K) rcLen := by
  subst hK
  refine ⟨call_len_seq, fun b hh xs ds P Q s z hp c => ?_⟩
  unfold rcLen at hp
  split at hp
  · rename_i us
    obtain ⟨v, rfl, a, vs, rfl, q, t⟩ := denL1 z
    refine ⟨a, vs, rfl, .inr (q.mono s).sq, ?_⟩
    rw [← denL_len t]
    exact c _ b hh (.pur (.int _)) (Res.same s rfl) hp
  · rename_i us
    obtain ⟨v, rfl, a, o, vs, rfl, q, _, _, t⟩ := denL1 z
    refine ⟨a, vs, rfl, .inr (.inl (.inr ⟨o, s _ _ q⟩)), ?_⟩
    rw [← denL_len t]
    exact c _ b hh (.pur (.int _)) (Res.same s rfl) hp
  · rename_i us
    obtain ⟨v, rfl, a, vs, rfl, q, t⟩ := denL1 z
    refine ⟨a, vs, rfl, .inr (SqT.of (s _ _ q)), ?_⟩
    rw [← denL_len t]
    exact c _ b hh (.pur (.int _)) (Res.same s rfl) hp
  · rename_i us
    obtain ⟨v, rfl, a, vs, rfl, q, t⟩ := denL1 z
    refine ⟨a, vs, rfl, .inl (SqL.of (s _ _ q)), ?_⟩
    rw [← denL_len t]
    exact c _ b hh (.pur (.int _)) (Res.same s rfl) hp
  · exact hp.elim
/-- list(xs), a new one -/
def rcList : RC1 := fun ds P => match ds with
  | [.tup xs] => ∀ p, P (.lst p (xs.map .pur))
  | [.lst xs] => ∀ p, P (.lst p (xs.map .pur))
  | _ => False
theorem cg_list {K : PySem.W.Frag} (hK : X.K = K := by exact rfl) : CallG X (.type "list") (rvList K) rcList := by
  subst hK
  refine ⟨call_list_of, fun b hh xs ds P Q s z hp c => ?_⟩
  unfold rcList at hp
  split at hp
  · rename_i us
    obtain ⟨v, rfl, a, vs, rfl, q, t⟩ := denL1 z
    exact ⟨a, vs, rfl, .inr (SqT.of (s _ _ q)), fun p np => c _ b _ _ (Res.own1 (o := .lst p (us.map .pur)) s np ⟨rfl, vs, upd_same, ownL_pur t⟩ (by simp [foot, footL_pur])) (hp p)⟩
  · rename_i us
    obtain ⟨v, rfl, a, vs, rfl, q, t⟩ := denL1 z
    exact ⟨a, vs, rfl, .inl (SqL.of (s _ _ q)), fun p np => c _ b _ _ (Res.own1 (o := .lst p (us.map .pur)) s np ⟨rfl, vs, upd_same, ownL_pur t⟩ (by simp [foot, footL_pur])) (hp p)⟩
  · exact hp.elim
def rcTuple : RC1 := fun ds P => match ds with
  | [.tup xs] => P (.pur (.tup xs))
  | [.lst xs] => P (.pur (.tup xs))
  | _ => False
theorem cg_tuple {K : PySem.W.Frag} (hK : X.K = K := by exact rfl) : CallG X (.type "tuple") (rvTuple K) rcTuple := by
  subst hK
  refine ⟨call_tuple_of, fun b hh xs ds P Q s z hp c => ?_⟩
  unfold rcTuple at hp
  split at hp
  · rename_i us
    obtain ⟨v, rfl, a, vs, rfl, q, t⟩ := denL1 z
    exact ⟨a, vs, rfl, .inr ⟨SqT.of (s _ _ q), c _ b hh (.pur (.tup us)) (Res.same s ⟨a, vs, rfl, q, t⟩) hp⟩⟩
  · rename_i us
    obtain ⟨v, rfl, a, vs, rfl, q, t⟩ := denL1 z
    exact ⟨a, vs, rfl, .inl ⟨SqL.of (s _ _ q), fun p np => c _ _ _ _ (Res.new (d := .tup us) s np ⟨p, vs, rfl, upd_same, denL_mono (Ex.new (Evl.fresh_back s np)) _ _ t⟩) hp⟩⟩
  · exact hp.elim
def blsOf : List D → Option (List Bool)
  | [] => some []
  | .bl k :: ds => (blsOf ds).map (k :: ·)
  | _ => none
theorem bls_ok {K : PySem.W.Frag} {b : Hp} : ∀ {ds : List D} {vs : List V} {ks : List Bool}, denL K b ds vs → blsOf ds = some ks → vs = ks.map V.bl
  | [], _, _, z, e => by cases e; exact z
  | d :: ds, _, ks, ⟨v, r, e1, z, t⟩, e => by
    cases d with
    | bl k =>
      have e' : (blsOf ds).map (k :: ·) = some ks := e
      cases q : blsOf ds with
      | none => rw [q] at e'; cases e'
      | some l =>
        rw [q] at e'
        cases e'
        have z' : v = .bl k := z
        rw [e1, z', bls_ok t q]
        rfl
    | _ => cases e
@[irreducible] def rcAll (f : List Bool → Bool) : RC1 := fun ds P => match ds with
  | [.lst xs] => (match blsOf xs with
    | some ks => P (.pur (.bl (f ks)))
    | none => False)
  | _ => False
theorem cg_all (hc : X.calm = true) {K : PySem.W.Frag} (hK : X.K = K := by exact rfl) : CallG X (.builtin "all") (rAll K) (rcAll fun ks => ks.all id) := by
  subst hK
  refine ⟨cr_all hc, fun b hh xs ds P Q s z hp c => ?_⟩
  unfold rcAll at hp
  split at hp
  · rename_i us
    obtain ⟨v, rfl, a, vs, rfl, q, t⟩ := denL1 z
    split at hp
    · rename_i ks e
      have e2 := bls_ok t e
      subst e2
      exact ⟨a, ks, rfl, SqL.of (s _ _ q), c _ b hh (.pur (.bl _)) (Res.same s rfl) hp⟩
    · exact hp.elim
  · exact hp.elim
theorem cg_any (hc : X.calm = true) {K : PySem.W.Frag} (hK : X.K = K := by exact rfl) : CallG X (.builtin "any") (rAny K) (rcAll fun ks => ks.any id) := by
  subst hK
  refine ⟨cr_any hc, fun b hh xs ds P Q s z hp c => ?_⟩
  unfold rcAll at hp
  split at hp
  · rename_i us
    obtain ⟨v, rfl, a, vs, rfl, q, t⟩ := denL1 z
    split at hp
    · rename_i ks e
      have e2 := bls_ok t e
      subst e2
      exact ⟨a, ks, rfl, SqL.of (s _ _ q), c _ b hh (.pur (.bl _)) (Res.same s rfl) hp⟩
    · exact hp.elim
  · exact hp.elim
def intsOf : List D → Option (List Int)
  | [] => some []
  | .int k :: ds => (intsOf ds).map (k :: ·)
  | _ => none
theorem ints_ok {K : PySem.W.Frag} {b : Hp} : ∀ {ds : List D} {vs : List V} {ks : List Int}, denL K b ds vs → intsOf ds = some ks → vs = ks.map V.int
  | [], _, _, z, e => by cases e; exact z
  | d :: ds, _, ks, ⟨v, r, e1, z, t⟩, e => by
    cases d with
    | int k =>
      have e' : (intsOf ds).map (k :: ·) = some ks := e
      cases q : intsOf ds with
      | none => rw [q] at e'; cases e'
      | some l =>
        rw [q] at e'
        cases e'
        have z' : v = .int k := z
        rw [e1, z', ints_ok t q]
        rfl
    | _ => cases e
def rcSum : RC1 := fun ds P => match ds with
  | [.lst xs] => (match intsOf xs with
    | some ks => P (.pur (.int ks.sum))
    | none => False)
  | _ => False
theorem cg_sum (hc : X.calm = true) {K : PySem.W.Frag} (hK : X.K = K := by exact rfl) : CallG X (.builtin "sum") (rSum K) rcSum := by
  subst hK
  refine ⟨cr_sum hc, fun b hh xs ds P Q s z hp c => ?_⟩
  unfold rcSum at hp
  split at hp
  · rename_i us
    obtain ⟨v, rfl, a, vs, rfl, q, t⟩ := denL1 z
    split at hp
    · rename_i ks e
      have e2 := ints_ok t e
      subst e2
      exact ⟨a, ks, rfl, SqL.of (s _ _ q), c _ b hh (.pur (.int _)) (Res.same s rfl) hp⟩
    · exact hp.elim
  · exact hp.elim
/-! ### isinstance of built-in classes -/
def tyD : D → Option String
  | .non => some "NoneType"
  | .bl _ => some "bool"
  | .int _ => some "int"
  | .str _ => some "str"
  | .tup _ => some "tuple"
  | .frt _ => some "tuple"
  | .tfz _ => some "tuple"
  | .lst _ => some "list"
  | .dK _ _ => some "dict"
  | .dT _ _ => some "dict"
  | .lkK _ _ => some "dict"
  | _ => none
def isT (t n : String) : Bool := t == n || (t == "bool" && n == "int")
def knownT (n : String) : Bool := n == "int" || n == "bool" || n == "tuple" || n == "list" || n == "str" || n == "dict"
theorem sq_ty {K : PySem.W.Frag} {h : Hp} {a : Addr} {vs : List V} (q : SqT K h a vs) : TyX K h (.ref a) (.type "tuple") := by
  rcases q with (q | ⟨o, q⟩) | ⟨o, its, n, q, c, _⟩
  · exact .base (.tup q)
  · exact .fTuple q
  · exact .kTuple q c
theorem sl_ty {K : PySem.W.Frag} {h : Hp} {a : Addr} {vs : List V} (q : SqL K h a vs) : TyX K h (.ref a) (.type "list") := by
  rcases q with (q | ⟨o, q⟩) | ⟨o, its, n, q, c, _⟩
  · exact .base (.lst q)
  · exact .base (.frz q)
  · exact .kList q c
theorem ty_ok {K : PySem.W.Frag} {b h : Hp} {d : D} {v : V} {t : String} (s : Ex b h) (z : den K b d v) (e : tyD d = some t) : TyX K h v (.type t) := by
  cases d with
  | non => cases e; have z' : v = .non := z; subst z'; exact .base .non
  | bl k => cases e; have z' : v = .bl k := z; subst z'; exact .base (.bl k)
  | int k => cases e; have z' : v = .int k := z; subst z'; exact .base (.int k)
  | str k => cases e; have z' : v = .str k := z; subst z'; exact .base (.str k)
  | tup ds => cases e; obtain ⟨a, vs, rfl, q, _⟩ := z; exact sq_ty (SqT.of (s _ _ q))
  | frt ds => cases e; obtain ⟨a, vs, rfl, q, _⟩ := z; exact sq_ty (q.mono s).sq
  | tfz ds => cases e; obtain ⟨a, o, vs, rfl, q, _⟩ := z; exact sq_ty (.inl (.inr ⟨o, s _ _ q⟩))
  | lst ds => cases e; obtain ⟨a, vs, rfl, q, _⟩ := z; exact sl_ty (SqL.of (s _ _ q))
  | dK ks ds => cases e; obtain ⟨a, vs, rfl, q, _⟩ := z; exact .base (.dK (s _ _ q))
  | dT ks ds => cases e; obtain ⟨a, vs, rfl, q, _⟩ := z; exact .base (.dT (s _ _ q))
  | lkK ks ds => cases e; obtain ⟨a, o, vs, rfl, q, _⟩ := z; exact .fDict (s _ _ q)
  | _ => cases e
theorem known_cases {n : String} (h : knownT n = true) : n = "int" ∨ n = "bool" ∨ n = "tuple" ∨ n = "list" ∨ n = "str" ∨ n = "dict" := by
  simp only [knownT, Bool.or_eq_true, beq_iff_eq] at h
  rcases h with ((((h | h) | h) | h) | h) | h <;> simp [h]
theorem tyD_cases {d : D} {t : String} (e : tyD d = some t) : t = "NoneType" ∨ t = "bool" ∨ t = "int" ∨ t = "str" ∨ t = "tuple" ∨ t = "list" ∨ t = "dict" := by
  cases d <;> first | (cases e; simp) | cases e
end
end G
/-! G: isinstance, walks, comprehensions, owned lists and dicts. -/
namespace G
open PySem L2
open Evl (Ex)

section
variable {X : Cx} {W : WX}
theorem kit_tab {t n : String} (h1 : t = "NoneType" ∨ t = "bool" ∨ t = "int" ∨ t = "str" ∨ t = "tuple" ∨ t = "list" ∨ t = "dict") (h2 : n = "int" ∨ n = "bool" ∨ n = "tuple" ∨ n = "list" ∨ n = "str" ∨ n = "dict") : kitB t n = some (isT t n) := by
  rcases h1 with rfl | rfl | rfl | rfl | rfl | rfl | rfl <;> rcases h2 with rfl | rfl | rfl | rfl | rfl | rfl <;> decide +kernel
/-- None, flags, integers, strings, tuples, lists, dicts -/
def D.ok (d : D) : Bool := (tyD d).isSome
def isD (d : D) (n : String) : Bool := match tyD d with
  | some t => isT t n
  | none => false
@[irreducible] def isiP (d : D) (n : String) (P : O → Prop) : Prop := D.ok d = true ∧ knownT n = true ∧ P (.pur (.bl (isD d n)))
theorem isiP_i {d : D} {n : String} {P : O → Prop} (h : D.ok d = true) (hn : knownT n = true) (p : P (.pur (.bl (isD d n)))) : isiP d n P := by unfold isiP; exact ⟨h, hn, p⟩
/-- isinstance(x, T) -/
def rcIsi : RC1 := fun ds P => match ds with
  | [d, .ty n] => isiP d n P
  | _ => False
theorem cg_isi {K : PySem.W.Frag} (hK : X.K = K := by exact rfl) : CallG X (.builtin "isinstance") (rIsi K) rcIsi := by
  subst hK
  refine ⟨call_isi, fun b hh xs ds P Q s z hp c => ?_⟩
  unfold rcIsi at hp
  split at hp
  · rename_i d n
    obtain ⟨v, w, rfl, z1, z2⟩ := denL2 z
    have z2' : w = .ty n := z2
    subst z2'
    unfold isiP D.ok isD at hp
    cases e : tyD d with
    | none => rw [e] at hp; cases hp.1
    | some t =>
      rw [e] at hp
      exact ⟨v, .ty n, .type t, .type n, isT t n, rfl, .ty n, ty_ok s z1 e, kit_ty (kit_tab (tyD_cases e) (known_cases hp.2.1)), c _ b hh (.pur (.bl _)) (Res.same s rfl) hp.2.2⟩
  · exact hp.elim
theorem kitAny2 {K : PySem.W.Frag} {t n m : String} (h1 : kitB t n = some (isT t n)) (h2 : kitB t m = some (isT t m)) : PySem.W.kitAny K (.type t) [.type n, .type m] = some (isT t n || isT t m) := by
  refine kitAny_cons (kit_ty h1) (fun e => ?_) (fun e => by rw [e]; rfl)
  rw [e]
  refine kitAny_cons (kit_ty h2) (fun e => ?_) (fun e => by rw [e]; rfl)
  rw [e]
  rfl
/-- isinstance(x, (T, U)), the tuple written -/
@[irreducible] def isi2P (d : D) (n m : String) (P : O → Prop) : Prop := D.ok d = true ∧ knownT n = true ∧ knownT m = true ∧ P (.pur (.bl (isD d n || isD d m)))
theorem isi2P_i {d : D} {n m : String} {P : O → Prop} (h : D.ok d = true) (hn : knownT n = true) (hm : knownT m = true) (p : P (.pur (.bl (isD d n || isD d m)))) : isi2P d n m P := by unfold isi2P; exact ⟨h, hn, hm, p⟩
def wIsi2 (n m : String) (wa : WE) : WE := fun We g P => wa We g fun x g1 => isi2P x.d n m fun z => P z g1
theorem ge_isi2 {e : Expr} {te : TE} {we : WE} {x y : Str} {n m : String} {k2} {p p1 p2 p3 pos : Pos} (hm : X.mg "isinstance" = none) (he : GE X W e te we) (hx : X.mg x = none) (hy : X.mg y = none) (vx : bootBuiltins x = some (.type n)) (vy : bootBuiltins y = some (.type m))
    (hg : Gl X "isinstance" := by rfl) (gx : Gl X x := by rfl) (gy : Gl X y := by rfl) (nx : x ≠ "__name__" := by decide) (ny : y ≠ "__name__" := by decide) (dx : (x == ("__debug__" : Str)) = false := by decide) (dy : (y == ("__debug__" : Str)) = false := by decide)
    (h1 : starEach [e, .Tuple [.Name x p1, .Name y p2] k2 p3] X.env = (false, eval e X.env) :: starEach [.Tuple [.Name x p1, .Name y p2] k2 p3] X.env := by rfl)
    (h2 : starEach [.Tuple [.Name x p1, .Name y p2] k2 p3] X.env = [(false, eval (.Tuple [.Name x p1, .Name y p2] k2 p3) X.env)] := by rfl)
    (h3 : starEach [.Name x p1, .Name y p2] X.env = (false, eval (.Name x p1) X.env) :: starEach [.Name y p2] X.env := by rfl) (h4 : starEach [.Name y p2] X.env = [(false, eval (.Name y p2) X.env)] := by rfl)
    (hpl : (backTo pos (starEach [.Tuple [.Name x p1, .Name y p2] k2 p3] X.env)).any (·.1) = false := by rfl) {K : PySem.W.Frag} (hK : X.K = K := by exact rfl) :
    GE X W (.Call (.Name "isinstance" p) [e, .Tuple [.Name x p1, .Name y p2] k2 p3] [] pos) (tCB (rIsiT K) (tCons te (tCons (tTup (tCons (tC (.ty n)) (tCons (tC (.ty m)) tNil))) tNil))) (wIsi2 n m we) := by
  subst hK
  refine ⟨pe_callB call_isiT hg hm (by decide +kernel) (pa_cons he.pe (pa_cons (pe_tup (pa_cons (pe_bltn gx hx vx rfl nx dx) (pa_cons (pe_bltn gy hy vy rfl ny dy) pa_nil h4) h3)) pa_nil h2) h1) (by decide) (by decide) h1 hpl, fun b h σ g We P Q k hw hx ct => ?_⟩
  refine he.se b h σ g We _ _ k hw hx fun v b' h' g' o k' f' p' => ?_
  obtain ⟨b2, k2, f2, z⟩ := come k' f'
  refine ⟨by show 2 ≤ sizeLine; decide, fun q hq => ?_⟩
  unfold isi2P D.ok isD at p'
  cases e : tyD o.d with
  | none => rw [e] at p'; cases p'.1
  | some t =>
    rw [e] at p'
    obtain ⟨_, q1, q2, p'⟩ := p'
    have rs : Res X.K b2 h' _ _ (.ref q) (.pur (.tup [.ty n, .ty m])) := Res.new (ob := .tup [.ty n, .ty m]) k2.sub hq ⟨q, _, rfl, upd_same, _, _, rfl, rfl, _, _, rfl, rfl, rfl⟩
    obtain ⟨k3, f3⟩ := rs.lift k2
    have f4 := f2.trans (f3.sub fun a q => inF_cons.mpr (.inr q))
    refine ⟨v, q, [.ty n, .ty m], .type t, [.type n, .type m], _, rfl, upd_same, .cons (.ty n) (.cons (.ty m) .nil), ty_ok (Ex.trans k2.sub (Ex.new hq)) z e, kitAny2 (kit_tab (tyD_cases e) (known_cases q1)) (kit_tab (tyD_cases e) (known_cases q2)), ?_⟩
    exact fin k3.tail f4 (Res.same k3.sub (d := .bl _) rfl) ct p'

/-! ### walks -/
theorem yields_ints {K : PySem.W.Frag} {b h : Hp} {lo : Int} {n : Nat} : Yields K b h (Itr lo n) ((List.range n).map fun i => .int (lo + (i : Nat))) := by
  intro b' h' e1 e2 e3 i
  rw [List.length_map, List.length_range]
  refine ⟨fun e => Nat.le_of_eq e.symm, fun d q => ?_⟩
  rw [List.getElem?_map] at q
  cases r : (List.range n)[i]? with
  | none => rw [r] at q; cases q
  | some j =>
    rw [r] at q
    cases q
    obtain ⟨hi, ej⟩ := List.getElem?_eq_some_iff.mp r
    rw [List.length_range] at hi
    have ej' : i = j := by simpa using ej
    subst ej'
    refine ⟨hi, fun x h2 ⟨e4, e5⟩ => ?_⟩
    subst e4 e5
    exact ⟨b', Ex.refl b', Ex.refl _, e2, fun a n1 n2 => absurd n2 n1, rfl⟩
theorem yields_list {K : PySem.W.Frag} {b h : Hp} {ds : List D} {a : Addr} {vs : List V} (q : SqL K b a vs) (t : denL K b ds vs) : Yields K b h (Itl K a) ds := by
  intro b' h' e1 e2 e3 i
  have q' := Evl.ex_l e2 (Evl.ex_l e1 q)
  refine ⟨fun e => ⟨vs, q', by rw [← denL_len t]; omega⟩, fun d r => ?_⟩
  obtain ⟨v, ev, z⟩ := denL_at t r
  refine ⟨⟨vs, v, q', ev⟩, fun x h2 ⟨e4, e5⟩ => ?_⟩
  subst e4
  have := e5 vs q'
  rw [ev] at this
  cases this
  exact ⟨b', Ex.refl b', Ex.refl _, e2, fun a n1 n2 => absurd n2 n1, den_mono e1 _ _ z⟩
theorem yields_tup {K : PySem.W.Frag} {b h : Hp} {ds : List D} {a : Addr} {vs : List V} (q : SqT K b a vs) (t : denL K b ds vs) : Yields K b h (Itt K a) ds := by
  intro b' h' e1 e2 e3 i
  have q' := Evl.ex_t e2 (Evl.ex_t e1 q)
  refine ⟨fun e => ⟨vs, q', by rw [← denL_len t]; omega⟩, fun d r => ?_⟩
  obtain ⟨v, ev, z⟩ := denL_at t r
  refine ⟨⟨vs, v, q', ev⟩, fun x h2 ⟨e4, e5⟩ => ?_⟩
  subst e4
  have := e5 vs q'
  rw [ev] at this
  cases this
  exact ⟨b', Ex.refl b', Ex.refl _, e2, fun a n1 n2 => absurd n2 n1, den_mono e1 _ _ z⟩
variable {tg e : Expr} {te : TE} {wa : WE} {tr : TA} {wr : WA}
def wIL (wa : WE) : WI := fun We g P => wa We g fun o g1 => match o.d with
  | .lst ds => P ds g1
  | _ => False
def wIT (wa : WE) : WI := fun We g P => wa We g fun o g1 => match o.d with
  | .tup ds => P ds g1
  | .tfz ds => P ds g1
  | _ => False
theorem gi_list (h : GE X W e te wa) {K : PySem.W.Frag} (hK : X.K = K := by exact rfl) : GI X W tg e (iList K te) (wIL wa) := by
  subst hK
  refine ⟨pi_list h.pe, fun b h1 σ g We P Q k hw hx c => ?_⟩
  refine h.se b h1 σ g We _ _ k hw hx fun v b' h' g' o k' f' p => ?_
  obtain ⟨b2, k2, f2, z⟩ := come k' f'
  split at p
  · rename_i ds e
    rw [e] at z
    obtain ⟨a, vs, rfl, q, t⟩ := z
    exact ⟨a, rfl, ⟨vs, SqL.of (k2.sub _ _ q)⟩, c _ b2 h' g' ds k2 f2 (yields_list (SqL.of q) t) p⟩
  · exact p.elim
theorem gi_tup (h : GE X W e te wa) {K : PySem.W.Frag} (hK : X.K = K := by exact rfl) : GI X W tg e (iTup K te) (wIT wa) := by
  subst hK
  refine ⟨pi_tup h.pe, fun b h1 σ g We P Q k hw hx c => ?_⟩
  refine h.se b h1 σ g We _ _ k hw hx fun v b' h' g' o k' f' p => ?_
  obtain ⟨b2, k2, f2, z⟩ := come k' f'
  split at p
  · rename_i ds e
    rw [e] at z
    obtain ⟨a, vs, rfl, q, t⟩ := z
    exact ⟨a, rfl, ⟨vs, SqT.of (k2.sub _ _ q)⟩, c _ b2 h' g' ds k2 f2 (yields_tup (SqT.of q) t) p⟩
  · rename_i ds e
    rw [e] at z
    obtain ⟨a, o, vs, rfl, q, _, _, t⟩ := z
    exact ⟨a, rfl, ⟨vs, .inl (.inr ⟨o, k2.sub _ _ q⟩)⟩, c _ b2 h' g' ds k2 f2 (yields_tup (.inl (.inr ⟨o, q⟩)) t) p⟩
  · exact p.elim
def rngD (lo : Int) (n : Nat) : List D := (List.range n).map fun i => .int (lo + (i : Nat))
def wIR1 (wr : WA) : WI := fun We g P => wr We g fun as g1 => match allVal as with
  | some [.int j] => -(2 ^ 62) ≤ j ∧ j < 2 ^ 62 ∧ P (rngD 0 j.toNat) g1
  | _ => False
def wIR2 (wr : WA) : WI := fun We g P => wr We g fun as g1 => match allVal as with
  | some [.int i, .int j] => (-(2 ^ 62) ≤ i ∧ i < 2 ^ 62 ∧ -(2 ^ 62) ≤ j ∧ j < 2 ^ 62) ∧ P (rngD i (j - i).toNat) g1
  | _ => False
theorem gi_r1 {p pos : Pos} (hm : X.mg "range" = none) (h : GA X W [e] tr wr) (hg : Gl X "range" := by rfl) (hs : starEach [e] X.env = [(false, eval e X.env)] := by rfl) : GI X W tg (.Call (.Name "range" p) [e] [] pos) (iRng1 tr) (wIR1 wr) := by
  refine ⟨pi_range1 hg hm h.pe hs, fun b h1 σ g We P Q k hw hx c => ?_⟩
  refine h.se b h1 σ g We _ _ k hw hx fun vs b' h' g' as k' f' z p => ?_
  split at p
  · rename_i j e
    obtain ⟨v, rfl, z2⟩ := denL1 (allVal_ok z e)
    exact ⟨j, congrArg (fun v => [v]) (show v = .int j from z2), p.1, p.2.1, c _ b' h' g' _ k' f' yields_ints p.2.2⟩
  · exact p.elim
theorem gi_r2 {e2 : Expr} {p pos : Pos} (hm : X.mg "range" = none) (h : GA X W [e, e2] tr wr) (hg : Gl X "range" := by rfl) (hs : starEach [e, e2] X.env = [(false, eval e X.env), (false, eval e2 X.env)] := by rfl) (hs2 : starEach [e2] X.env = [(false, eval e2 X.env)] := by rfl) :
    GI X W tg (.Call (.Name "range" p) [e, e2] [] pos) (iRng2 tr) (wIR2 wr) := by
  refine ⟨pi_range2 hg hm h.pe hs hs2, fun b h1 σ g We P Q k hw hx c => ?_⟩
  refine h.se b h1 σ g We _ _ k hw hx fun vs b' h' g' as k' f' z p => ?_
  split at p
  · rename_i i j e
    obtain ⟨v, w, rfl, z2, z3⟩ := denL2 (allVal_ok z e)
    have z2' : v = .int i := z2
    have z3' : w = .int j := z3
    subst z2' z3'
    exact ⟨i, j, rfl, p.1, c _ b' h' g' _ k' f' yields_ints p.2⟩
  · exact p.elim

/-! ### comprehensions -/
def wYes : WT := fun _ g P => P true g
structure GTs (X : Cx) (W : WX) (ifs : List Expr) (t : TT) (w : WT) : Prop where
  pe : PTs X ifs t
  se : ∀ b h σ g We P Q, Hold X.K b h σ g → w We g P → ContX X.K g b h We W → ContT X.K g b h σ P Q → t σ h Q
theorem gts_nil : GTs X W [] tYes wYes := ⟨pts_nil, fun b h σ g We P Q k hw hx ct => ct true b h g k (Frm.refl g b h) hw⟩
theorem gts_one {c : Expr} {t : TT} {w : WT} (h : GT X W c t w) : GTs X W [c] t w := ⟨pts_one h.pe, h.se⟩
def wipeG (g : Gam) : List Nat → Gam
  | [] => g
  | v :: vs => (wipeG g vs).set v none
theorem wipeG_len (g : Gam) : ∀ vs : List Nat, (wipeG g vs).length = g.length
  | [] => rfl
  | v :: vs => by unfold wipeG; rw [List.length_set, wipeG_len g vs]
theorem wipeG_some {g : Gam} {i : Nat} {o : O} : ∀ {vs : List Nat}, (wipeG g vs)[i]? = some (some o) → g[i]? = some (some o) ∧ i ∉ vs
  | [], h => ⟨h, by simp⟩
  | v :: vs, h => by
    unfold wipeG at h
    by_cases hi : v = i
    · subst hi
      by_cases hv : v < (wipeG g vs).length
      · rw [List.getElem?_set_self hv] at h; cases h
      · rw [List.getElem?_eq_none (by simpa using hv)] at h; cases h
    · rw [List.getElem?_set_ne hi] at h
      obtain ⟨h1, h2⟩ := wipeG_some h
      exact ⟨h1, by simp only [List.mem_cons, not_or]; exact ⟨fun e => hi e.symm, h2⟩⟩
/-- behind the block: its own names have what they had, if that was pure -/
def unwipe (g g' : Gam) : List Nat → Gam
  | [] => g'
  | v :: vs => (unwipe g g' vs).set v (match g[v]? with
    | some (some (.pur d)) => some (.pur d)
    | _ => none)
theorem wipe_keep {σ : L2.St} {i : Nat} {x : V} : ∀ {vs : List Nat}, i ∉ vs → σ[i]? = some (some x) → (wipe σ vs)[i]? = some (some x)
  | [], _, h => h
  | v :: vs, n, h => by
    unfold wipe
    rw [List.getElem?_set_ne (fun (e : v = i) => n (by rw [e]; exact List.mem_cons_self ..))]
    exact wipe_keep (fun z => n (List.mem_cons_of_mem _ z)) h
theorem unwipe_len (g g' : Gam) : ∀ vs : List Nat, (unwipe g g' vs).length = g'.length
  | [] => rfl
  | v :: vs => by unfold unwipe; rw [List.length_set, unwipe_len g g' vs]
theorem unwipe_some {g g' : Gam} {i : Nat} {o : O} : ∀ {vs : List Nat}, (unwipe g g' vs)[i]? = some (some o) → (i ∉ vs ∧ g'[i]? = some (some o)) ∨ ∃ d, o = .pur d ∧ g[i]? = some (some (.pur d))
  | [], h => .inl ⟨by simp, h⟩
  | v :: vs, h => by
    unfold unwipe at h
    by_cases hi : v = i
    · subst hi
      by_cases hv : v < (unwipe g g' vs).length
      · rw [List.getElem?_set_self hv] at h
        split at h
        · rename_i d e
          have h' : O.pur d = o := by simpa using h
          exact .inr ⟨d, h'.symm, e⟩
        · cases h
      · rw [List.getElem?_eq_none (by simpa using hv)] at h; cases h
    · rw [List.getElem?_set_ne hi] at h
      rcases unwipe_some h with ⟨n, e⟩ | r
      · exact .inl ⟨by simp only [List.mem_cons, not_or]; exact ⟨fun e => hi e.symm, n⟩, e⟩
      · exact .inr r
section
variable {K : PySem.W.Frag} {b h b' h' : Hp} {σ σ' : L2.St} {g g' : Gam}
theorem Hold.wipe (k : Hold K b h σ g) (vs : List Nat) : Hold K b h (L2.wipe σ vs) (wipeG g vs) ∧ ∀ a, inF (wipeG g vs) a → inF g a := by
  refine ⟨⟨k.sub, by rw [wipe_length, wipeG_len]; exact k.len, fun i o e => ?_, fun i o e => k.nd i o (wipeG_some e).1, fun i j o u n e1 e2 => k.dj i j o u n (wipeG_some e1).1 (wipeG_some e2).1, fun i o e => k.nb i o (wipeG_some e).1⟩, fun a ⟨i, o, e, m⟩ => ⟨i, o, (wipeG_some e).1, m⟩⟩
  obtain ⟨e1, n⟩ := wipeG_some e
  obtain ⟨v, ev, z⟩ := k.sl i o e1
  exact ⟨v, wipe_keep n ev, z⟩
theorem Hold.unwipe (k : Hold K b h σ g) (k2 : Hold K b' h' σ' g') (e : Ex b b') (vs : List Nat) (hw : L2.wipe σ' vs = L2.wipe σ vs) : Hold K b' h' σ (unwipe g g' vs) ∧ ∀ a, inF (G.unwipe g g' vs) a → inF g' a := by
  have low : ∀ (i : Nat) (o : O) (a : Addr), (G.unwipe g g' vs)[i]? = some (some o) → a ∈ foot o → g'[i]? = some (some o) := fun i o a q m => by
    rcases unwipe_some q with ⟨n, q⟩ | ⟨d, rfl, q⟩
    · exact q
    · simp [foot] at m
  have ls : σ'.length = σ.length := by
    have := congrArg List.length hw
    rwa [wipe_length, wipe_length] at this
  refine ⟨⟨k2.sub, by rw [unwipe_len, ← k2.len, ls], fun i o q => ?_, fun i o q => ?_, fun i j o u n q1 q2 a m1 m2 => k2.dj i j o u n (low i o a q1 m1) (low j u a q2 m2) a m1 m2, fun i o q a m => k2.nb i o (low i o a q m) a m⟩, fun a ⟨i, o, q, m⟩ => ⟨i, o, low i o a q m, m⟩⟩
  · rcases unwipe_some q with ⟨n, r⟩ | ⟨d, eo, r⟩
    · obtain ⟨v, ev, z⟩ := k2.sl i o r
      have := wipe_keep n ev
      rw [hw] at this
      exact ⟨v, (wipe_some this).1, z⟩
    · obtain ⟨v, ev, z⟩ := k.sl i (.pur d) r
      subst eo
      exact ⟨v, ev, den_mono e d v z⟩
  · rcases unwipe_some q with ⟨n, q⟩ | ⟨d, rfl, q⟩
    · exact k2.nd i o q
    · simp [foot]
end

@[irreducible] def wLc (wi : WI) (wg : WG) (wt : WT) (we : WE) (vs : List Nat) : WE := fun We g P => wi We g fun ds g1 => ∃ I : Nat → List D → Gam → Prop, I 0 [] g1 ∧
  (∀ i d acc g2, ds[i]? = some d → acc.length ≤ i → I i acc g2 → i < sizeLine ∧ wg d (wipeG g2 vs) fun g3 => wt (fun _ _ => False) g3 fun k g4 =>
    br k (we (fun _ _ => False) g4 fun o g5 => I (i + 1) (acc ++ [o.d]) (unwipe g2 g5 vs)) (I (i + 1) acc (unwipe g2 g4 vs))) ∧
  ∀ acc g2, acc.length ≤ ds.length → I ds.length acc g2 → ∀ p, P (.lst p (acc.map .pur)) g2
end
end G
/-! G: list comprehensions. -/
namespace G
open PySem L2
open Evl (Ex)

def Sames (ts : List Nat) (σ σ' : L2.St) : Prop := σ'.length = σ.length ∧ ∀ i : Nat, i ∉ ts → σ'[i]? = σ[i]?
theorem Sames.refl (ts : List Nat) (σ : L2.St) : Sames ts σ σ := ⟨rfl, fun _ _ => rfl⟩
theorem Sames.trans {ts : List Nat} {σ σ' σ'' : L2.St} (a : Sames ts σ σ') (b : Sames ts σ' σ'') : Sames ts σ σ'' := ⟨b.1.trans a.1, fun i n => (b.2 i n).trans (a.2 i n)⟩
theorem Sames.mono {ts us : List Nat} {σ σ' : L2.St} (a : Sames ts σ σ') (h : ∀ i ∈ ts, i ∈ us) : Sames us σ σ' := ⟨a.1, fun i n => a.2 i fun z => n (h i z)⟩
theorem wipe_get (σ : L2.St) (i : Nat) : ∀ vs : List Nat, (L2.wipe σ vs)[i]? = if i ∈ vs then (if i < σ.length then some none else none) else σ[i]?
  | [] => by simp [L2.wipe]
  | v :: vs => by
    unfold L2.wipe
    by_cases hi : v = i
    · subst hi
      simp only [List.mem_cons, true_or, if_true]
      by_cases hl : v < σ.length
      · rw [List.getElem?_set_self (by rw [wipe_length]; exact hl), if_pos hl]
      · rw [List.getElem?_eq_none (by rw [List.length_set, wipe_length]; omega), if_neg hl]
    · rw [List.getElem?_set_ne hi, wipe_get σ i vs]
      have : (i ∈ v :: vs) ↔ i ∈ vs := by simp only [List.mem_cons]; exact ⟨fun z => z.elim (fun e => absurd e.symm hi) id, .inr⟩
      simp only [this]
theorem wipe_sames {σ σ' : L2.St} {vs : List Nat} (a : Sames vs (L2.wipe σ vs) σ') : L2.wipe σ' vs = L2.wipe σ vs := by
  have l : σ'.length = σ.length := by rw [a.1, wipe_length]
  apply List.ext_getElem?
  intro i
  rw [wipe_get, wipe_get, l]
  by_cases h : i ∈ vs
  · rw [if_pos h, if_pos h]
  · rw [if_neg h, if_neg h, a.2 i h, wipe_get, if_neg h]
/-- a target within a block: the slots that it stores -/
structure GB (X : Cx) (tg : Expr) (ts : List Nat) (t : TG) (w : WG) : Prop where
  pe : PG X tg t
  se : ∀ b h σ g d v P Q, Hold X.K b h σ g → den X.K b d v → w d g P → (∀ σ' b' h' g', Hold X.K b' h' σ' g' → Frm g b h g' b' h' → Sames ts σ σ' → P g' → Q σ' h') → t v σ h Q
structure GBs (X : Cx) (tgs : List Expr) (ts : List Nat) (t : TGs) (w : WGs) : Prop where
  pe : PGs X tgs t
  se : ∀ b h σ g ds vs P Q, Hold X.K b h σ g → denL X.K b ds vs → w ds g P → (∀ σ' b' h' g', Hold X.K b' h' σ' g' → Frm g b h g' b' h' → Sames ts σ σ' → P g' → Q σ' h') → t vs σ h Q
section
variable {X : Cx} {W : WX}
theorem gb_name {i : Nat} {x : Str} {pos : Pos} (hN : X.N.Nodup) (hi : X.N[i]? = some x := by rfl) (hx : Loc X.env.scope x := by first | exact Or.inl rfl | exact Or.inr rfl)
    (hf : X.fn x = true ∨ X.env.scope.names.lookup x = some .local := by first | exact .inl rfl | exact .inr rfl) : GB X (.Name x pos) [i] (gName i) (wName i) := by
  refine ⟨pg_name hN hi hx hf, fun b h σ g d v P Q k z hw c => ?_⟩
  obtain ⟨k1, f1⟩ := (Res.same k.sub z).lift k
  obtain ⟨k2, s2⟩ := k1.put i
  exact c _ b h _ k2 (f1.sub s2) ⟨by simp, fun j n => by rw [List.getElem?_set_ne (fun e => n (by simp [e]))]⟩ hw
theorem gbs_nil : GBs X [] [] gNil wGNil := by
  refine ⟨pgs_nil, fun b h σ g ds vs P Q k z hw c => ?_⟩
  cases ds with
  | nil => exact ⟨z, c σ b h g k (Frm.refl g b h) (Sames.refl _ σ) hw⟩
  | cons _ _ => exact hw.elim
theorem gbs_cons {t : Expr} {ts : List Expr} {ns ms : List Nat} {t1 : TG} {t2 : TGs} {w1 : WG} {w2 : WGs} (h1 : GB X t ns t1 w1) (h2 : GBs X ts ms t2 w2) (hs : (assignEach (t :: ts) X.env).map (·.2) = assign t X.env :: (assignEach ts X.env).map (·.2) := by rfl) : GBs X (t :: ts) (ns ++ ms) (gCons t1 t2) (wGCons w1 w2) := by
  obtain ⟨p1, q1⟩ := h1
  obtain ⟨p2, q2⟩ := h2
  refine ⟨pgs_cons p1 p2 hs, fun b h σ g ds vs P Q k z hw c => ?_⟩
  cases ds with
  | nil => exact hw.elim
  | cons d ds =>
    obtain ⟨v, r, e, z1, z2⟩ := z
    refine ⟨v, r, e, q1 b h σ g d v _ _ k z1 hw fun σ' b' h' g' k' f' s' p' => ?_⟩
    exact q2 b' h' σ' g' ds r P Q k' (denL_mono f'.bs _ _ z2) p' fun σ2 b2 h2 g2 k2 f2 s2 p2 => c σ2 b2 h2 g2 k2 (f'.trans f2) ((s'.mono fun i z => List.mem_append_left _ z).trans (s2.mono fun i z => List.mem_append_right _ z)) p2
theorem gb_tup {es : List Expr} {ts : List Nat} {k : Nat} {t : TGs} {w : WGs} {n : Nat} {pos : Pos} (hc : X.calm = true) (h : GBs X es ts t w) (hn0 : es.length = n := by rfl) (hn : (assignEach es X.env).length = n := by rfl) (hst : (assignEach es X.env).findIdx? (·.1) = none := by rfl) {K : PySem.W.Frag} (hK : X.K = K := by exact rfl) :
    GB X (.Tuple es k pos) ts (gTup K n t) (wTupG n w) := by
  subst hK
  obtain ⟨p, q⟩ := h
  refine ⟨pg_tup hc p hn hst, fun b h σ g d v P Q k z hw c => ?_⟩
  cases d with
  | frt ds =>
    obtain ⟨a, vs, e, s1, s2⟩ := z
    obtain ⟨hl, hw⟩ := hw
    exact ⟨a, vs, e, (s1.mono k.sub).sq, by rw [← denL_len s2]; exact hl, q b h σ g ds vs P Q k s2 hw c⟩
  | tup ds =>
    obtain ⟨a, vs, e, s1, s2⟩ := z
    obtain ⟨hl, hw⟩ := hw
    exact ⟨a, vs, e, SqT.of (k.sub _ _ s1), by rw [← denL_len s2]; exact hl, q b h σ g ds vs P Q k s2 hw c⟩
  | _ => exact hw.elim
theorem GB.gg {tg : Expr} {ts : List Nat} {t : TG} {w : WG} (h : GB X tg ts t w) : GG X tg t w := ⟨h.pe, fun b h1 σ g d v P Q k z hw c => h.se b h1 σ g d v P Q k z hw fun σ' b' h' g' k' f' _ p => c σ' b' h' g' k' f' p⟩
abbrev W0 : WX := fun _ _ _ _ => False
theorem contX0 {K : PySem.W.Frag} {g : Gam} {b h : Hp} {W : WX} : ContX K g b h (fun _ _ => False) W := fun _ _ _ _ _ _ _ _ _ _ q => q.elim
/-- what a comprehension's list is while it grows: at p, none of the slots' -/
theorem Hold.aside {K : PySem.W.Frag} {b h : Hp} {σ : L2.St} {g : Gam} {p : Addr} {o : HO} (k : Hold K b h σ g) (np : ¬ inF g p) (nb : b p = none) : Hold K b (upd h p o) σ g := by
  refine ⟨fun a u e => ?_, k.len, fun i u e => ?_, k.nd, k.dj, k.nb⟩
  · rw [upd_ne (ne_of_none e nb)]; exact k.sub a u e
  · obtain ⟨v, ev, z⟩ := k.sl i u e
    exact ⟨v, ev, own_keep (Ex.refl b) u v z fun a m => upd_ne fun e2 => np ⟨i, u, e, e2 ▸ m⟩⟩
theorem lc_se {K : PySem.W.Frag} {ti : TI} {tg : TG} {tt : TT} {te : TE} {wi : WI} {wg : WG} {wt : WT} {we : WE} {vs ts : List Nat}
    (qi : ∀ b h σ g We P Q, Hold K b h σ g → wi We g P → ContX K g b h We W → (∀ J b' h' g' ds, Hold K b' h' σ g' → Frm g b h g' b' h' → Yields K b' h' J ds → P ds g' → Q J h') → ti σ h Q)
    (qg : ∀ b h σ g d v P Q, Hold K b h σ g → den K b d v → wg d g P → (∀ σ' b' h' g', Hold K b' h' σ' g' → Frm g b h g' b' h' → Sames ts σ σ' → P g' → Q σ' h') → tg v σ h Q)
    (qt : ∀ b h σ g We P Q, Hold K b h σ g → wt We g P → ContX K g b h We W0 → ContT K g b h σ P Q → tt σ h Q)
    (qe : ∀ b h σ g We P Q, Hold K b h σ g → we We g P → ContX K g b h We W0 → Cont K g b h σ P Q → te σ h Q) (hts : ∀ i ∈ ts, i ∈ vs) :
    ∀ b h σ g We P Q, Hold K b h σ g → wLc wi wg wt we vs We g P → ContX K g b h We W → Cont K g b h σ P Q → tLc ti tg tt te vs σ h Q := by
  intro b h σ g We P Q k hw hx ct
  unfold wLc at hw
  refine qi b h σ g We _ _ k hw hx fun J b1 h1 g1 ds k1 f1 y ⟨I, i0, hstep, hend⟩ => fun p hp => ?_
  have nbp : b1 p = none := Evl.fresh_back k1.sub hp
  have npg : ¬ inF g1 p := fun z => by obtain ⟨u, e⟩ := k1.inF_there z; rw [hp] at e; cases e
  -- what stands between the turns
  refine ⟨fun i m h' => m = ds.length - i ∧ i ≤ ds.length ∧ ∃ acc us b' g', acc.length ≤ i ∧ h' p = some (.lst us) ∧ denL K b' acc us ∧ b' p = none ∧ ¬ inF g' p ∧ Hold K b' h' σ g' ∧ Frm g1 b1 h1 g' b' h' ∧ I i acc g',
    ⟨ds.length, by simp, Nat.zero_le _, [], [], b1, g1, Nat.le_refl _, upd_same, rfl, nbp, npg, k1.aside npg nbp, ⟨Ex.refl b1, fun a u e _ => by rw [upd_ne (ne_of_none e hp)]; exact e, fun a u e1 t e2 _ => e2, fun a z => .inl z⟩, i0⟩, ?_⟩
  rintro i m h' ⟨rfl, hi, acc, us, b', g', hl, hpp, zu, nb', ng', k', f', pI⟩
  have yy := y b' h' f'.bs k'.sub (fun a o e1 e2 => f'.keep a o e1 fun z => by rw [k1.inF_nb z] at e2; cases e2) i
  by_cases hlt : i < ds.length
  · refine .inr ⟨(yy.2 ds[i] (by simp [hlt])).1, fun h4 => i + 1 ≤ ds.length ∧ ∃ acc us b' g', acc.length ≤ i + 1 ∧ h4 p = some (.lst us) ∧ denL K b' acc us ∧ b' p = none ∧ ¬ inF g' p ∧ Hold K b' h4 σ g' ∧ Frm g1 b1 h1 g' b' h4 ∧ I (i + 1) acc g',
      fun h4 z => ⟨ds.length - (i + 1), by omega, rfl, z.1, z.2⟩, fun x h2 yl => ?_⟩
    obtain ⟨b2, e1, e2, e3, n, z⟩ := (yy.2 ds[i] (by simp [hlt])).2 x h2 yl
    obtain ⟨k2, f2⟩ := k'.wide e1 e2 e3 n
    have p2 : h2 p = some (.lst us) := e2 p _ hpp
    have nb2 : b2 p = none := f2.nb p _ hpp trivial nb' ng'
    obtain ⟨kw, sw⟩ := k2.wipe vs
    have fw : Frm g' b' h' (wipeG g' vs) b2 h2 := f2.sub sw
    obtain ⟨hsz, st⟩ := hstep i ds[i] acc g' (by simp [hlt]) hl pI
    refine qg b2 h2 (L2.wipe σ vs) (wipeG g' vs) ds[i] x _ _ kw z st fun σ3 b3 h3 g3 k3 f3 s3 st3 => ?_
    have ew : L2.wipe σ3 vs = L2.wipe σ vs := wipe_sames (s3.mono hts)
    refine ⟨ew, ?_⟩
    have ngw : ¬ inF (wipeG g' vs) p := fun z => ng' (sw p z)
    have p3 : h3 p = some (.lst us) := f3.keep p _ p2 ngw
    have nb3 : b3 p = none := f3.nb p _ p2 trivial nb2 ngw
    have ng3 : ¬ inF g3 p := fun z => (f3.new p z).elim ngw fun z => by rw [p2] at z; cases z
    refine qt b3 h3 σ3 g3 _ _ _ k3 st3 contX0 fun kk b4 h4 g4 k4 f4 st4 => ?_
    have p4 : h4 p = some (.lst us) := f4.keep p _ p3 ng3
    have nb4 : b4 p = none := f4.nb p _ p3 trivial nb3 ng3
    have ng4 : ¬ inF g4 p := fun z => (f4.new p z).elim ng3 fun z => by rw [p3] at z; cases z
    -- from the turn's start to here, the block's slots aside
    have F : ∀ {b5 h5 : Hp} {g5 : Gam}, Frm g4 b4 h4 g5 b5 h5 → Frm g' b2 h2 g5 b5 h5 := fun {b5 h5 g5} f5 => by
      have f6 := (f3.trans f4).trans f5
      refine ⟨f6.bs, fun a u e n => f6.keep a u e fun z => n (sw a z), fun a u e1 t e2 n => f6.nb a u e1 t e2 fun z => n (sw a z), fun a z => (f6.new a z).elim (fun z => .inl (sw a z)) .inr⟩
    cases kk with
    | false =>
      have ff := F (Frm.refl g4 b4 h4)
      obtain ⟨k5, s5⟩ := k2.unwipe k4 ff.bs vs ew
      exact ⟨hlt, acc, us, b4, _, by omega, p4, denL_mono (f2.trans ff).bs _ _ zu, nb4, fun z => ng4 (s5 p z), k5, (f'.trans (f2.trans ff)).sub s5, br_f.mp st4⟩
    | true =>
      refine qe b4 h4 σ3 g4 _ _ _ k4 (br_t.mp st4) contX0 fun v b5 h5 g5 o k5 f5 st5 => ?_
      obtain ⟨b6, k6, f6, zo⟩ := come k5 f5
      have p6 : h5 p = some (.lst us) := f6.keep p _ p4 ng4
      have nb6 : b6 p = none := f6.nb p _ p4 trivial nb4 ng4
      have ng6 : ¬ inF g5 p := fun z => (f6.new p z).elim ng4 fun z => by rw [p4] at z; cases z
      have ff := F f6
      obtain ⟨k7, s7⟩ := k2.unwipe k6 ff.bs vs ew
      have zu6 := denL_mono (f2.trans ff).bs _ _ zu
      have lu : us.length = acc.length := (denL_len zu).symm
      refine ⟨us, p6, by omega, hlt, acc ++ [o.d], us ++ [v], b6, _, by simp; omega, upd_same, ?_, nb6, fun z => ng6 (s7 p z), k7.aside (fun z => ng6 (s7 p z)) nb6, ?_, st5⟩
      · exact denL_app zu6 ⟨v, [], rfl, zo, rfl⟩
      · have f9 := (f'.trans (f2.trans ff)).sub s7
        refine ⟨f9.bs, fun a u e n => ?_, f9.nb, f9.new⟩
        rw [upd_ne (ne_of_none e hp)]
        exact f9.keep a u e n
  · have e : i = ds.length := by omega
    subst e
    refine .inl ⟨yy.1 rfl, ?_⟩
    refine ct (.ref p) b' h' g' (.lst p (acc.map .pur)) (k'.cons ⟨rfl, us, hpp, ownL_pur zu⟩ (by simp [foot, footL_pur]) (fun a m => ?_) fun a m => ?_) ?_ (hend acc g' hl pI p)
    · have : a = p := by simpa [foot, footL_pur] using m
      subst this; exact nb'
    · have : a = p := by simpa [foot, footL_pur] using m
      subst this; exact ng'
    · refine f1.trans ⟨f'.bs, f'.keep, f'.nb, fun a z => ?_⟩
      rcases inF_cons.mp z with ⟨u, e, m⟩ | z
      · cases e
        have : a = p := by simpa [foot, footL_pur] using m
        subst this; exact .inr hp
      · exact f'.new a z
where
  denL_app {K : PySem.W.Frag} {b : Hp} : ∀ {ds es : List D} {vs us : List V}, denL K b ds vs → denL K b es us → denL K b (ds ++ es) (vs ++ us)
  | [], _, _, _, z, q => by have z' : _ = ([] : List V) := z; subst z'; exact q
  | d :: ds, _, _, _, ⟨v, r, e, z, t⟩, q => by subst e; exact ⟨v, r ++ _, rfl, z, denL_app t q⟩
theorem ge_lc {elt tg iter : Expr} {ifs : List Expr} {scope : Scope} {own : List (Str × Nat)} {ts : List Nat} {pos : Pos} {ti : TI} {tg' : TG} {tt : TT} {te : TE} {wi : WI} {wg : WG} {wt : WT} {we : WE} (hc : X.calm = true) (hN : X.N.Nodup) (hi : GI X W tg iter ti wi) (ok : BlkOk X.N X.env.scope scope own)
    (hg : ∀ (s : Shared) (H : Hp) (C : Addr) (cl : List (Str × Addr)) (fp : List Addr), GB (X.blk s H scope (compEnvC scope cl C X.env) fp) tg ts tg' wg)
    (ht : ∀ (s : Shared) (H : Hp) (C : Addr) (cl : List (Str × Addr)) (fp : List Addr), GTs (X.blk s H scope (compEnvC scope cl C X.env) fp) W0 ifs tt wt)
    (he : ∀ (s : Shared) (H : Hp) (C : Addr) (cl : List (Str × Addr)) (fp : List Addr), GE (X.blk s H scope (compEnvC scope cl C X.env) fp) W0 elt te we) (hts : ∀ i ∈ ts, i ∈ own.map (·.2) := by decide) (hs : ∀ x, foldedSetIterable iter X.env x = pure x := by intro _; rfl) :
    GE X W (.ListComp elt [⟨tg, iter, ifs, 0⟩] scope pos) (tLc ti tg' tt te (own.map (·.2))) (wLc wi wg wt we (own.map (·.2))) :=
  ⟨pe_lc hc hN hi.pe ok (fun s H C cl fp => (hg s H C cl fp).pe) (fun s H C cl fp => (ht s H C cl fp).pe) (fun s H C cl fp => (he s H C cl fp).pe) hs,
    lc_se hi.se (hg X.s_0 X.H_0 0 [] []).se (ht X.s_0 X.H_0 0 [] []).se (he X.s_0 X.H_0 0 [] []).se hts⟩
theorem gs_setLc {i : Nat} {y : Str} {py : Pos} {elt tg iter : Expr} {ifs : List Expr} {scope : Scope} {own : List (Str × Nat)} {ts : List Nat} {pos spos : Pos} {ti : TI} {tg' : TG} {tt : TT} {te : TE} {wi : WI} {wg : WG} {wt : WT} {we : WE} (hc : X.calm = true) (hN : X.N.Nodup)
    (hi : GI X W tg iter ti wi) (ok : BlkOk X.N X.env.scope scope own)
    (hg : ∀ (s : Shared) (H : Hp) (C : Addr) (cl : List (Str × Addr)) (fp : List Addr), GB (X.blk s H scope (compEnvC scope cl C X.env) fp) tg ts tg' wg)
    (ht : ∀ (s : Shared) (H : Hp) (C : Addr) (cl : List (Str × Addr)) (fp : List Addr), GTs (X.blk s H scope (compEnvC scope cl C X.env) fp) W0 ifs tt wt)
    (he : ∀ (s : Shared) (H : Hp) (C : Addr) (cl : List (Str × Addr)) (fp : List Addr), GE (X.blk s H scope (compEnvC scope cl C X.env) fp) W0 elt te we)
    (hsw : swapsWith (.ListComp elt [⟨tg, iter, ifs, 0⟩] scope pos) (some (.Name y py)) spos.line X.env = pure true) (hy : X.N[i]? = some y := by rfl) (hyl : X.env.scope.names.lookup y = some .local := by rfl)
    (hts : ∀ i ∈ ts, i ∈ own.map (·.2) := by decide) (hs : ∀ x, foldedSetIterable iter X.env x = pure x := by intro _; rfl) :
    GS X W (.Assign [.Name y py] (.ListComp elt [⟨tg, iter, ifs, 0⟩] scope pos) spos) (wSet i (wLc wi wg wt we (own.map (·.2)))) := by
  refine ⟨tAsg (tLc ti tg' tt te (own.map (·.2))) (gName i), ps_setLc hc hN hy hyl hsw hi.pe ok (fun s H C cl fp => (hg s H C cl fp).pe) (fun s H C cl fp => (ht s H C cl fp).pe) (fun s H C cl fp => (he s H C cl fp).pe) hs, fun b h σ g We E D k hw hx ct => ?_⟩
  refine lc_se hi.se (hg X.s_0 X.H_0 0 [] []).se (ht X.s_0 X.H_0 0 [] []).se (he X.s_0 X.H_0 0 [] []).se hts b h σ g We _ _ k hw hx fun v b' h' g' o k' f' p' => ?_
  obtain ⟨k2, s2⟩ := k'.put i
  exact ct.nx _ b' h' _ k2 (f'.sub s2) p'
end
end G
/-! G: lists and dicts of the def's own, changed in place. -/
namespace G
open PySem L2
open Evl (Ex)

section
variable {K : PySem.W.Frag} {b h : Hp} {σ : L2.St} {g : Gam} {i : Nat} {o o' : O} {p : Addr} {ob : HO}
/-- the object at the root of a slot is written -/
theorem Hold.upd_root (k : Hold K b h σ g) (e : g[i]? = some (some o)) (r : root o = some p) (r' : root o' = some p) (z : own K b (upd h p ob) o' (.ref p)) (fs : ∀ a ∈ foot o', a ∈ foot o) (nd : (foot o').Nodup) :
    Hold K b (upd h p ob) σ (g.set i (some o')) ∧ Frm g b h (g.set i (some o')) b (upd h p ob) := by
  have hi : i < g.length := (List.getElem?_eq_some_iff.mp e).1
  have pin : p ∈ foot o := by
    cases o with
    | pur d => cases r
    | lst q xs => cases r; exact List.mem_cons_self ..
    | dK q ks xs => cases r; exact List.mem_cons_self ..
    | dT q ks xs => cases r; exact List.mem_cons_self ..
    | ins q dx C fs xs => cases r; exact List.mem_cons_self ..
    | tup xs => cases r
  have bp : b p = none := k.nb i o e p pin
  obtain ⟨v, ev, zo⟩ := k.sl i o e
  have vp : v = .ref p := own_root zo r
  subst vp
  have old : ∀ (j : Nat) (u : O), (g.set i (some o'))[j]? = some (some u) → (j = i ∧ u = o') ∨ (j ≠ i ∧ g[j]? = some (some u)) := fun j u q => by
    by_cases hj : i = j
    · subst hj; rw [List.getElem?_set_self hi] at q; simp at q; exact .inl ⟨rfl, q.symm⟩
    · rw [List.getElem?_set_ne hj] at q; exact .inr ⟨Ne.symm hj, q⟩
  refine ⟨⟨fun a u q => ?_, by simp [k.len], fun j u q => ?_, fun j u q => ?_, fun j l u w n q1 q2 a m1 m2 => ?_, fun j u q a m => ?_⟩, ⟨Ex.refl b, fun a u q n => ?_, fun _ _ _ _ q _ => q, fun a ⟨j, u, q, m⟩ => ?_⟩⟩
  · rw [upd_ne (ne_of_none q bp)]; exact k.sub a u q
  · rcases old j u q with ⟨ej, eu⟩ | ⟨nj, q⟩
    · subst ej eu; exact ⟨_, ev, z⟩
    · obtain ⟨w, ew, zw⟩ := k.sl j u q
      exact ⟨w, ew, own_keep (Ex.refl b) u w zw fun a m => upd_ne fun e2 => k.dj j i u o nj q e a m (by rw [e2]; exact pin)⟩
  · rcases old j u q with ⟨ej, eu⟩ | ⟨nj, q⟩
    · subst eu; exact nd
    · exact k.nd j u q
  · rcases old j u q1 with ⟨ej, eu⟩ | ⟨nj, r1⟩
    · subst eu
      rcases old l w q2 with ⟨el, ew⟩ | ⟨nl, r2⟩
      · exact n (ej.trans el.symm)
      · exact k.dj i l o w (Ne.symm nl) e r2 a (fs a m1) m2
    · rcases old l w q2 with ⟨el, ew⟩ | ⟨nl, r2⟩
      · subst ew
        exact k.dj i j o u (Ne.symm nj) e r1 a (fs a m2) m1
      · exact k.dj j l u w n r1 r2 a m1 m2
  · rcases old j u q with ⟨ej, eu⟩ | ⟨nj, q⟩
    · subst eu; exact k.nb i o e a (fs a m)
    · exact k.nb j u q a m
  · rw [upd_ne fun e2 => n ⟨i, o, e, by rw [e2]; exact pin⟩]; exact q
  · rcases old j u q with ⟨ej, eu⟩ | ⟨nj, q⟩
    · subst eu; exact .inl ⟨i, o, e, fs a m⟩
    · exact .inl ⟨j, u, q, m⟩
theorem ownL_len : ∀ {os : List O} {vs : List V}, ownL K b h os vs → os.length = vs.length
  | [], _, z => by have z' : _ = ([] : List V) := z; subst z'; rfl
  | o :: os, _, ⟨v, r, e, _, t⟩ => by subst e; simp [ownL_len t]
theorem ownL_app : ∀ {os us : List O} {vs ws : List V}, ownL K b h os vs → ownL K b h us ws → ownL K b h (os ++ us) (vs ++ ws)
  | [], _, _, _, z, q => by have z' : _ = ([] : List V) := z; subst z'; exact q
  | o :: os, _, _, _, ⟨v, r, e, z, t⟩, q => by subst e; exact ⟨v, r ++ _, rfl, z, ownL_app t q⟩
theorem ownL_at : ∀ {os : List O} {vs : List V} {j : Nat} {o : O}, ownL K b h os vs → os[j]? = some o → ∃ v, vs[j]? = some v ∧ own K b h o v
  | [], _, _, _, _, e => by simp at e
  | c :: os, _, 0, o, ⟨v, r, e1, z, t⟩, e => by
    subst e1
    have e' : c = o := by simpa using e
    subst e'
    exact ⟨v, rfl, z⟩
  | c :: os, _, j + 1, o, ⟨v, r, e1, z, t⟩, e => by
    subst e1
    obtain ⟨w, q1, q2⟩ := ownL_at (j := j) t (by simpa using e)
    exact ⟨w, by simpa using q1, q2⟩
theorem ownL_set {o' : O} {v' : V} : ∀ {os : List O} {vs : List V} {j : Nat}, ownL K b h os vs → own K b h o' v' → ownL K b h (os.set j o') (vs.set j v')
  | [], _, _, z, _ => by have z' : _ = ([] : List V) := z; subst z'; exact rfl
  | c :: os, _, 0, ⟨v, r, e1, z, t⟩, q => by subst e1; exact ⟨v', r, rfl, q, t⟩
  | c :: os, _, j + 1, ⟨v, r, e1, z, t⟩, q => by subst e1; exact ⟨v, r.set j v', rfl, z, ownL_set t q⟩
theorem ownL_erase : ∀ {os : List O} {vs : List V} {j : Nat}, ownL K b h os vs → ownL K b h (os.eraseIdx j) (vs.eraseIdx j)
  | [], _, _, z => by have z' : _ = ([] : List V) := z; subst z'; exact rfl
  | c :: os, _, 0, ⟨v, r, e1, z, t⟩ => by subst e1; exact t
  | c :: os, _, j + 1, ⟨v, r, e1, z, t⟩ => by subst e1; exact ⟨v, r.eraseIdx j, rfl, z, ownL_erase t⟩
theorem footL_app : ∀ (os us : List O), footL (os ++ us) = footL os ++ footL us
  | [], _ => rfl
  | o :: os, us => by show foot o ++ footL (os ++ us) = (foot o ++ footL os) ++ footL us; rw [footL_app os us, List.append_assoc]
theorem footL_erase : ∀ (os : List O) (j : Nat), (footL (os.eraseIdx j)).Sublist (footL os)
  | [], _ => List.Sublist.refl _
  | o :: os, 0 => List.sublist_append_right _ _
  | o :: os, j + 1 => (footL_erase os j).append_left (foot o)
theorem footL_set_pur (d : D) : ∀ (os : List O) (j : Nat), (footL (os.set j (.pur d))).Sublist (footL os)
  | [], _ => List.Sublist.refl _
  | o :: os, 0 => by
    show (foot (.pur d) ++ footL os).Sublist _
    exact List.sublist_append_right _ _
  | o :: os, j + 1 => (footL_set_pur d os j).append_left (foot o)
theorem ownL_aside {p : Addr} {ob : HO} {os : List O} {vs : List V} (z : ownL K b h os vs) (n : p ∉ footL os) : ownL K b (upd h p ob) os vs :=
  ownL_keep (Ex.refl b) os vs z fun a m => upd_ne fun e => n (e ▸ m)
end

/-! ### lists -/
def isLst (x : Option (Option O)) : Prop := match x with
  | some (some (.lst _ _)) => True
  | _ => False
section
variable {X : Cx} {W : WX} {e : Expr} {te : TE} {we : WE} {i : Nat} {x : Str}
theorem Hold.lst {K : PySem.W.Frag} {b h : Hp} {σ : L2.St} {g : Gam} {i : Nat} (k : Hold K b h σ g) (q : isLst g[i]?) : ∃ p xs vs, g[i]? = some (some (.lst p xs)) ∧ σ[i]? = some (some (.ref p)) ∧ h p = some (.lst vs) ∧ ownL K b h xs vs := by
  unfold isLst at q
  split at q
  · rename_i p xs e
    obtain ⟨v, ev, ev2, vs, hp, z⟩ := k.sl i _ e
    subst ev2
    exact ⟨p, xs, vs, e, ev, hp, z⟩
  · exact q.elim
theorem tyV_lst {K : PySem.W.Frag} {h : Hp} {p : Addr} {vs : List V} (e : h p = some (.lst vs)) : tyV K "list" (.ref p) h := Or.inl ⟨rfl, _, SqL.of e⟩
/-- x.append(e) -/
def wApp (i : Nat) (we : WE) : WS := fun We E g => isLst g[i]? ∧ we We g fun o g1 => match g1[i]? with
  | some (some (.lst p xs)) => xs.length < sizeLine ∧ E.nx (g1.set i (some (.lst p (xs ++ [.pur o.d]))))
  | _ => False
theorem gs_app {p apos cpos pos : Pos} (he : GE X W e te we) (hN : X.N[i]? = some x := by rfl) (hv : Vis X.env.scope x := by first | exact Or.inl rfl | exact Or.inr (Or.inl rfl) | exact Or.inr (Or.inr rfl))
    (hd : (x == ("__debug__" : Str)) = false := by decide) (hcd : (x == ("__classdict__" : Str)) = false := by decide)
    (hbase : attributeBase (.Name x p) "append" X.env (eval (.Name x p) X.env) = eval (.Name x p) X.env := by rfl)
    (hfew : ((backTo cpos (starEach [e] X.env)).all (fun x => !x.1) && (backToKw cpos (keywordEach [] X.env)).all (fun x => x.1.isSome)
      && decide (([e] : List Expr).length + ([] : List Keyword).length + (if ([] : List Keyword).isEmpty then 0 else 1) < 30)) = true := by rfl)
    (hline : (apos.endLine == cpos.line) = true := by rfl) (hs : starEach [e] X.env = (false, eval e X.env) :: starEach [] X.env := by rfl)
    (hs2 : swapsWith (.Call (.Attribute (.Name x p) "append" apos) [e] [] cpos) none pos.line X.env = pure false := by rfl) :
    GS X W (.Expr (.Call (.Attribute (.Name x p) "append" apos) [e] [] cpos) pos) (wApp i we) := by
  refine ⟨tDrop (tBM X.K "list" rAppend (tVar i) (tCons te tNil)), ps_expr (pe_bm PySem.F.plainAttrs_list PySem.F.slot_list_append PySem.F.type_list_append mt_append (pe_var hN hv hd hcd) (pa_cons he.pe pa_nil hs) hbase hfew hline hs (by rfl)) hs2, fun b h σ g We E D k ⟨hl, hw⟩ hx ct => ?_⟩
  obtain ⟨p0, xs0, vs0, e0, ev0, hp0, _⟩ := k.lst hl
  refine ⟨_, ev0, tyV_lst hp0, he.se b h σ g We _ _ k hw hx fun v b' h' g' o k' f' p' => ?_⟩
  obtain ⟨b2, k2, f2, zo⟩ := come k' f'
  split at p'
  · rename_i p1 xs e1
    obtain ⟨v1, ev1, ev2, vs, hp, z⟩ := k2.sl i _ e1
    rw [ev0] at ev1
    cases ev1
    cases ev2
    have ln := ownL_len z
    refine ⟨p0, vs, v, rfl, rfl, hp, by omega, ?_⟩
    have np : p0 ∉ footL xs := (List.nodup_cons.mp (k2.nd i _ e1)).1
    obtain ⟨k3, f3⟩ := k2.upd_root (o' := .lst p0 (xs ++ [.pur o.d])) (ob := .lst (vs ++ [v])) e1 rfl rfl ⟨rfl, _, upd_same, ownL_app (us := [.pur o.d]) (ws := [v]) (ownL_aside z np) ⟨v, [], rfl, zo, rfl⟩⟩
      (fun a m => by simpa [foot, footL_app, footL] using m) (by have := k2.nd i _ e1; simpa [foot, footL_app, footL] using this)
    exact ct.nx σ b2 _ _ k3 (f2.trans f3) p'.2
  · exact p'.elim
/-- x.pop(e) -/
@[irreducible] def popAt (i : Nat) (o : O) (g1 : Gam) (P : O → Gam → Prop) : Prop := match g1[i]?, o.d with
  | some (some (.lst p xs)), .int j => -(2 ^ 63) ≤ j ∧ j < 2 ^ 63 ∧ (match seqIndex? j xs.length with
    | some n => (match xs[n]? with
      | some (.pur d) => P (.pur d) (g1.set i (some (.lst p (xs.eraseIdx n))))
      | _ => False)
    | none => False)
  | _, _ => False
def wPopAt (i : Nat) (we : WE) : WE := fun We g P => isLst g[i]? ∧ we We g fun o g1 => popAt i o g1 P
theorem ge_popAt {p apos cpos : Pos} (he : GE X W e te we) (hN : X.N[i]? = some x := by rfl) (hv : Vis X.env.scope x := by first | exact Or.inl rfl | exact Or.inr (Or.inl rfl) | exact Or.inr (Or.inr rfl))
    (hd : (x == ("__debug__" : Str)) = false := by decide) (hcd : (x == ("__classdict__" : Str)) = false := by decide)
    (hbase : attributeBase (.Name x p) "pop" X.env (eval (.Name x p) X.env) = eval (.Name x p) X.env := by rfl)
    (hfew : ((backTo cpos (starEach [e] X.env)).all (fun x => !x.1) && (backToKw cpos (keywordEach [] X.env)).all (fun x => x.1.isSome)
      && decide (([e] : List Expr).length + ([] : List Keyword).length + (if ([] : List Keyword).isEmpty then 0 else 1) < 30)) = true := by rfl)
    (hline : (apos.endLine == cpos.line) = true := by rfl) (hs : starEach [e] X.env = (false, eval e X.env) :: starEach [] X.env := by rfl) {K : PySem.W.Frag} (hK : X.K = K := by exact rfl) :
    GE X W (.Call (.Attribute (.Name x p) "pop" apos) [e] [] cpos) (tBM K "list" rPopAt (tVar i) (tCons te tNil)) (wPopAt i we) := by
  subst hK
  refine ⟨pe_bm PySem.F.plainAttrs_list PySem.F.slot_list_pop PySem.F.type_list_pop mt_popAt (pe_var hN hv hd hcd) (pa_cons he.pe pa_nil hs) hbase hfew hline hs (by rfl), fun b h σ g We P Q k ⟨hl, hw⟩ hx ct => ?_⟩
  obtain ⟨p0, xs0, vs0, e0, ev0, hp0, _⟩ := k.lst hl
  refine ⟨_, ev0, tyV_lst hp0, he.se b h σ g We _ _ k hw hx fun v b' h' g' o k' f' p' => ?_⟩
  unfold popAt at p'
  obtain ⟨b2, k2, f2, zo⟩ := come k' f'
  split at p'
  · rename_i p1 xs j e1 e2
    rw [e2] at zo
    have ev : v = .int j := zo
    subst ev
    obtain ⟨v1, ev1, ev2, vs, hp, z⟩ := k2.sl i _ e1
    rw [ev0] at ev1
    cases ev1
    cases ev2
    have ln := ownL_len z
    obtain ⟨q1, q2, p'⟩ := p'
    split at p'
    · rename_i n en
      split at p'
      · rename_i d ed
        obtain ⟨w, ew, zw⟩ := ownL_at z ed
        refine ⟨p0, vs, j, n, w, rfl, rfl, hp, q1, q2, by rw [← ln]; exact en, ew, ?_⟩
        have np : p0 ∉ footL xs := (List.nodup_cons.mp (k2.nd i _ e1)).1
        have sl := footL_erase xs n
        obtain ⟨k3, f3⟩ := k2.upd_root (o' := .lst p0 (xs.eraseIdx n)) (ob := .lst (vs.eraseIdx n)) e1 rfl rfl ⟨rfl, _, upd_same, ownL_aside (ownL_erase z) fun m => np (sl.subset m)⟩
          (fun a m => (List.mem_cons.mp m).elim (fun e => by rw [e]; exact List.mem_cons_self ..) fun m => List.mem_cons_of_mem _ (sl.subset m)) ((sl.cons_cons p0).nodup (k2.nd i _ e1))
        exact fin k3 (f2.trans f3) (Res.same k3.sub zw) ct p'
      · exact p'.elim
    · exact p'.elim
  · exact p'.elim
/-- x[e] of an own list -/
@[irreducible] def ixAt (i : Nat) (o : O) (g1 : Gam) (P : O → Gam → Prop) : Prop := match g1[i]?, o.d with
  | some (some (.lst _ xs)), .int j => (match atI xs j with
    | some (.pur d) => P (.pur d) g1
    | _ => False)
  | _, _ => False
def wIxO (i : Nat) (we : WE) : WE := fun We g P => isLst g[i]? ∧ we We g fun o g1 => ixAt i o g1 P
theorem ownL_atI {K : PySem.W.Frag} {b h : Hp} {os : List O} {vs : List V} {j : Int} {o : O} (t : ownL K b h os vs) (e : atI os j = some o) : ∃ v, atI vs j = some v ∧ own K b h o v := by
  unfold atI at e ⊢
  rw [← ownL_len t]
  cases q : ixN os.length j with
  | none => rw [q] at e; cases e
  | some n =>
    rw [q] at e
    exact ownL_at t e
theorem ge_ixO {p pos : Pos} (he : GE X W e te we) (hN : X.N[i]? = some x := by rfl) (hv : Vis X.env.scope x := by first | exact Or.inl rfl | exact Or.inr (Or.inl rfl) | exact Or.inr (Or.inr rfl))
    (hd : (x == ("__debug__" : Str)) = false := by decide) (hcd : (x == ("__classdict__" : Str)) = false := by decide) (hs : PlainIx e := by intro _ _; rfl) {K : PySem.W.Frag} (hK : X.K = K := by exact rfl) : GE X W (.Subscript (.Name x p) e pos) (tOp (rIxL K) (tVar i) te) (wIxO i we) := by
  subst hK
  refine ⟨pe_ix ix_list (pe_var hN hv hd hcd) he.pe hs, fun b h σ g We P Q k ⟨hl, hw⟩ hx ct => ?_⟩
  obtain ⟨p0, xs0, vs0, e0, ev0, hp0, _⟩ := k.lst hl
  refine ⟨_, ev0, he.se b h σ g We _ _ k hw hx fun v b' h' g' o k' f' p' => ?_⟩
  unfold ixAt at p'
  obtain ⟨b2, k2, f2, zo⟩ := come k' f'
  split at p'
  · rename_i p1 xs j e1 e2
    rw [e2] at zo
    have ev : v = .int j := zo
    subst ev
    obtain ⟨v1, ev1, ev2, vs, hp, z⟩ := k2.sl i _ e1
    rw [ev0] at ev1
    cases ev1
    cases ev2
    split at p'
    · rename_i d ed
      obtain ⟨w, ew, zw⟩ := ownL_atI z ed
      exact ⟨p0, vs, j, w, rfl, rfl, SqL.of hp, ew, fin k2 f2 (Res.same k2.sub zw) ct p'⟩
    · exact p'.elim
  · exact p'.elim
/-- x[e] = v -/
@[irreducible] def setAt (i : Nat) (u o : O) (g2 : Gam) (E : GEnds) : Prop := match g2[i]?, o.d with
  | some (some (.lst p xs)), .int j => (match ixN xs.length j with
    | some n => E.nx (g2.set i (some (.lst p (xs.set n (.pur u.d)))))
    | none => False)
  | _, _ => False
def wSetO (i : Nat) (wv we : WE) : WS := fun We E g => wv We g fun u g1 => isLst g1[i]? ∧ we We g1 fun o g2 => setAt i u o g2 E
theorem gs_setO {value : Expr} {tv : TE} {wv : WE} {p ps pos : Pos} (hv' : GE X W value tv wv) (he : GE X W e te we) (hN : X.N[i]? = some x := by rfl) (hv : Vis X.env.scope x := by first | exact Or.inl rfl | exact Or.inr (Or.inl rfl) | exact Or.inr (Or.inr rfl))
    (hd : (x == ("__debug__" : Str)) = false := by decide) (hcd : (x == ("__classdict__" : Str)) = false := by decide)
    (ha : ∀ v, assign (.Subscript (.Name x p) e ps) X.env v = (do
      let ov ← holding [v] (eval (.Name x p) X.env)
      let iv ← holding [v, ov] (eval e X.env)
      standAt ps
      holding [v, ov, iv] (setItem ov iv v)
      release [v, ov, iv] []) := by intro _; rfl)
    (hs : swapsWithSole [.Subscript (.Name x p) e ps] value pos.line X.env = pure false := by rfl) (hw : swappedStores [.Subscript (.Name x p) e ps] value X.env = pure none := by rfl)
    (h1 : (assignEach [.Subscript (.Name x p) e ps] X.env).map (·.2) = [assign (.Subscript (.Name x p) e ps) X.env] := by rfl) : GS X W (.Assign [.Subscript (.Name x p) e ps] value pos) (wSetO i wv we) := by
  refine ⟨tAsg tv (gSub (tVar i) te rSetL), ps_asg hv'.pe (pg_sub (pe_var hN hv hd hcd) he.pe set_list ha) hs hw h1, fun b h σ g We E D k hw hx ct => ?_⟩
  refine hv'.se b h σ g We _ _ k hw hx fun v b1 h1 g1 u k1 f1 ⟨hl, p1⟩ => ?_
  obtain ⟨b1', k1', f1', zu⟩ := come k1 f1
  obtain ⟨p0, xs0, vs0, e0, ev0, hp0, _⟩ := k1'.lst hl
  refine ⟨_, ev0, he.se b1' h1 σ g1 We _ _ k1' p1 (hx.step f1') fun v2 b2 h2 g2 o k2 f2 p' => ?_⟩
  unfold setAt at p'
  obtain ⟨b3, k3, f3, zo⟩ := come k2 f2
  split at p'
  · rename_i p1 xs j e1 e2
    rw [e2] at zo
    have ev : v2 = .int j := zo
    subst ev
    obtain ⟨v1, ev1, ev2, vs, hp, z⟩ := k3.sl i _ e1
    rw [ev0] at ev1
    cases ev1
    cases ev2
    have ln := ownL_len z
    split at p'
    · rename_i n en
      refine ⟨p0, vs, j, n, rfl, rfl, hp, by rw [← ln]; exact en, ?_⟩
      have np : p0 ∉ footL xs := (List.nodup_cons.mp (k3.nd i _ e1)).1
      have sl := footL_set_pur u.d xs n
      obtain ⟨k4, f4⟩ := k3.upd_root (o' := .lst p0 (xs.set n (.pur u.d))) (ob := .lst (vs.set n v)) e1 rfl rfl ⟨rfl, _, upd_same, ownL_set (ownL_aside z np) (den_mono f3.bs _ _ zu)⟩
        (fun a m => (List.mem_cons.mp m).elim (fun e => by rw [e]; exact List.mem_cons_self ..) fun m => List.mem_cons_of_mem _ (sl.subset m)) ((sl.cons_cons p0).nodup (k3.nd i _ e1))
      exact ct.nx σ b3 _ _ k4 (f1'.trans (f3.trans f4)) p'
    · exact p'.elim
  · exact p'.elim
end

/-! ### dicts by keys that are ints and texts -/
def D.key : D → Option Key
  | .int i => some (.inl i)
  | .str x => some (.inr x)
  | _ => none
theorem key_ok {K : PySem.W.Frag} {b : Hp} {d : D} {v : V} {k : Key} (z : den K b d v) (e : d.key = some k) : v = kV k := by
  cases d with
  | int i => cases e; exact z
  | str x => cases e; exact z
  | _ => cases e
section
variable {κ : Type} [DecidableEq κ]
/-- the place of a key -/
def findK : List κ → κ → Option Nat
  | [], _ => none
  | x :: ks, k => if x = k then some 0 else (findK ks k).map (· + 1)
theorem findK_cons (x : κ) (ks : List κ) (k : κ) : findK (x :: ks) k = if x = k then some 0 else (findK ks k).map (· + 1) := rfl
theorem valV_zip {k : κ} : ∀ {ks : List κ} {vs : List V}, ks.length = vs.length → valV (ks.zip vs) k = (findK ks k).bind fun j => vs[j]?
  | [], [], _ => rfl
  | x :: ks, v :: vs, h => by
    rw [List.zip_cons_cons]
    by_cases e : x = k
    · rw [valV_pos (show (x, v).1 = k from e)]
      rw [findK_cons, if_pos e]
      rfl
    · rw [valV_neg (show ¬ (x, v).1 = k from e), valV_zip (by simpa using h)]
      rw [findK_cons, if_neg e]
      cases findK ks k with
      | none => rfl
      | some j => simp
theorem findK_lt {k : κ} : ∀ {ks : List κ} {j : Nat}, findK ks k = some j → j < ks.length ∧ ks[j]? = some k
  | [], _, e => by cases e
  | x :: ks, j, e => by
    rw [findK_cons] at e
    split at e
    · rename_i h
      cases e
      exact ⟨by simp, by simp [h]⟩
    · cases q : findK ks k with
      | none => rw [q] at e; cases e
      | some n =>
        rw [q] at e
        cases e
        have := findK_lt q
        exact ⟨by simp; exact this.1, by simpa using this.2⟩
theorem findK_none {k : κ} : ∀ {ks : List κ}, findK ks k = none → k ∉ ks
  | [], _ => by simp
  | x :: ks, e => by
    rw [findK_cons] at e
    split at e
    · cases e
    · rename_i h
      have : findK ks k = none := by simpa using e
      simp only [List.mem_cons, not_or]
      exact ⟨fun q => h q.symm, findK_none this⟩
theorem any_zip {k : κ} : ∀ {ks : List κ} {vs : List V}, ks.length = vs.length → ((ks.zip vs).any fun kv => decide (kv.1 = k)) = (findK ks k).isSome
  | [], [], _ => rfl
  | x :: ks, v :: vs, h => by
    rw [List.zip_cons_cons, List.any_cons, any_zip (by simpa using h)]
    rw [findK_cons]
    by_cases e : x = k
    · simp [e]
    · simp [e]
theorem putK_old {k : κ} {v : V} : ∀ {ks : List κ} {vs : List V} {j : Nat}, ks.Nodup → ks.length = vs.length → findK ks k = some j → (ks.zip vs).map (fun kv => if kv.1 = k then (kv.1, v) else kv) = ks.zip (vs.set j v)
  | [], _, _, _, _, e => by cases e
  | x :: ks, [], _, _, h, _ => by simp at h
  | x :: ks, w :: vs, j, nd, h, e => by
    obtain ⟨n1, n2⟩ := List.nodup_cons.mp nd
    rw [List.zip_cons_cons, List.map_cons]
    rw [findK_cons] at e
    split at e
    · rename_i q
      cases e
      subst q
      rw [if_pos rfl]
      have : (ks.zip vs).map (fun kv => if kv.1 = x then (kv.1, v) else kv) = ks.zip vs := by
        refine (List.map_congr_left fun p hp => ?_).trans (List.map_id _)
        have : p.1 ∈ ks := (List.of_mem_zip (a := p.1) (b := p.2) hp).1
        rw [if_neg fun (e : p.1 = x) => n1 (by rw [← e]; exact this)]
        rfl
      rw [this]
      rfl
    · rename_i q
      rw [if_neg q]
      cases r : findK ks k with
      | none => rw [r] at e; cases e
      | some n =>
        rw [r] at e
        cases e
        rw [putK_old n2 (by simpa using h) r]
        rfl
theorem putK_zip {k : κ} {v : V} {ks : List κ} {vs : List V} {j : Nat} (nd : ks.Nodup) (h : ks.length = vs.length) (e : findK ks k = some j) : putK (ks.zip vs) k v = ks.zip (vs.set j v) := by
  unfold putK
  rw [any_zip h, e]
  exact putK_old nd h e
theorem putK_zipN {k : κ} {v : V} {ks : List κ} {vs : List V} (h : ks.length = vs.length) (e : findK ks k = none) : putK (ks.zip vs) k v = (ks ++ [k]).zip (vs ++ [v]) := by
  unfold putK
  rw [any_zip h, e, List.zip_append h]
  rfl
end
def isDK (x : Option (Option O)) : Prop := match x with
  | some (some (.dK _ _ _)) => True
  | _ => False
section
variable {X : Cx} {W : WX} {e : Expr} {te : TE} {we : WE} {i : Nat} {x : Str}
theorem Hold.dk {K : PySem.W.Frag} {b h : Hp} {σ : L2.St} {g : Gam} {i : Nat} (k : Hold K b h σ g) (q : isDK g[i]?) : ∃ p ks xs vs, g[i]? = some (some (.dK p ks xs)) ∧ σ[i]? = some (some (.ref p)) ∧ h p = some (.dK (ks.zip vs)) ∧ ks.length = vs.length ∧ ownL K b h xs vs := by
  unfold isDK at q
  split at q
  · rename_i p ks xs e
    obtain ⟨v, ev, ev2, vs, hp, hl, z⟩ := k.sl i _ e
    subst ev2
    exact ⟨p, ks, xs, vs, e, ev, hp, hl, z⟩
  · exact q.elim
/-- d[k] of an own dict -/
@[irreducible] def wDGetO (i : Nat) (we : WE) : WE := fun We g P => isDK g[i]? ∧ we We g fun o g1 => match g1[i]?, o.d.key with
  | some (some (.dK _ ks xs)), some k => (match findK ks k with
    | some j => (match xs[j]? with
      | some (.pur d) => P (.pur d) g1
      | _ => False)
    | none => False)
  | _, _ => False
theorem ge_dgetO {p pos : Pos} (hu : X.A.units + 1 < cLine) (he : GE X W e te we) (hN : X.N[i]? = some x := by rfl) (hv : Vis X.env.scope x := by first | exact Or.inl rfl | exact Or.inr (Or.inl rfl) | exact Or.inr (Or.inr rfl))
    (hd : (x == ("__debug__" : Str)) = false := by decide) (hcd : (x == ("__classdict__" : Str)) = false := by decide) (hs : NoSl e := by intro _ _; rfl) : GE X W (.Subscript (.Name x p) e pos) (tDGet (tVar i) te) (wDGetO i we) := by
  refine ⟨pe_dget hu (pe_var hN hv hd hcd) he.pe hs, fun b h σ g We P Q k hw hx ct => ?_⟩
  unfold wDGetO at hw
  obtain ⟨hl, hw⟩ := hw
  obtain ⟨p0, ks0, xs0, vs0, e0, ev0, hp0, _⟩ := k.dk hl
  refine ⟨_, ev0, he.se b h σ g We _ _ k hw hx fun v b' h' g' o k' f' p' => ?_⟩
  obtain ⟨b2, k2, f2, zo⟩ := come k' f'
  split at p'
  · rename_i p1 ks xs kk e1 e2
    have ev := key_ok zo e2
    subst ev
    obtain ⟨v1, ev1, ev2, vs, hp, hlen, z⟩ := k2.sl i _ e1
    rw [ev0] at ev1
    cases ev1
    cases ev2
    split at p'
    · rename_i j ej
      split at p'
      · rename_i d ed
        obtain ⟨w, ew, zw⟩ := ownL_at z ed
        refine ⟨p0, w, rfl, ?_, fin k2 f2 (Res.same k2.sub zw) ct p'⟩
        have := DGet.k (k := kk) hp
        rw [valV_zip hlen, ej] at this
        rw [← ew]; exact this
      · exact p'.elim
    · exact p'.elim
  · exact p'.elim
/-- d[k] = v -/
def putO (p : Addr) (ks : List Key) (xs : List O) (k : Key) (d : D) : O := match findK ks k with
  | some j => .dK p ks (xs.set j (.pur d))
  | none => .dK p (ks ++ [k]) (xs ++ [.pur d])
@[irreducible] def dput (i : Nat) (we : WE) (We : Wsh) (E : GEnds) (u : O) (g1 : Gam) : Prop := isDK g1[i]? ∧ we We g1 fun o g2 => match g2[i]?, o.d.key with
  | some (some (.dK p ks xs)), some k => ks.Nodup ∧ xs.length < sizeLine ∧ E.nx (g2.set i (some (putO p ks xs k u.d)))
  | _, _ => False
def wDPutO (i : Nat) (wv we : WE) : WS := fun We E g => wv We g fun u g1 => dput i we We E u g1
theorem putO_ok {K : PySem.W.Frag} {b h : Hp} {σ : L2.St} {g : Gam} {i : Nat} {p : Addr} {ks : List Key} {xs : List O} {k : Key} {d : D} {v : V} (H : Hold K b h σ g) (e : g[i]? = some (some (.dK p ks xs))) (zd : den K b d v) (nd : ks.Nodup) (hz : xs.length < sizeLine) :
    ∃ h', DPut h p (kV k) v h' ∧ Hold K b h' σ (g.set i (some (putO p ks xs k d))) ∧ Frm g b h (g.set i (some (putO p ks xs k d))) b h' := by
  obtain ⟨v1, ev1, ev2, vs, hp, hlen, z⟩ := H.sl i _ e
  have ln := ownL_len z
  refine ⟨upd h p (.dK (putK (ks.zip vs) k v)), DPut.k hp (by rw [List.length_zip]; omega), ?_⟩
  have np : p ∉ footL xs := (List.nodup_cons.mp (H.nd i _ e)).1
  unfold putO
  cases q : findK ks k with
  | some j =>
    rw [putK_zip nd hlen q]
    have sl := footL_set_pur d xs j
    exact H.upd_root (o' := .dK p ks (xs.set j (.pur d))) e rfl rfl ⟨rfl, vs.set j v, upd_same, by simp [hlen], ownL_set (ownL_aside z np) zd⟩
      (fun a m => (List.mem_cons.mp m).elim (fun e => by rw [e]; exact List.mem_cons_self ..) fun m => List.mem_cons_of_mem _ (sl.subset m)) ((sl.cons_cons p).nodup (H.nd i _ e))
  | none =>
    rw [putK_zipN hlen q]
    exact H.upd_root (o' := .dK p (ks ++ [k]) (xs ++ [.pur d])) e rfl rfl ⟨rfl, vs ++ [v], upd_same, by simp [hlen], ownL_app (us := [.pur d]) (ws := [v]) (ownL_aside z np) ⟨v, [], rfl, zd, rfl⟩⟩
      (fun a m => by simpa [foot, footL_app, footL] using m) (by have := H.nd i _ e; simpa [foot, footL_app, footL] using this)
theorem gs_dputO {value : Expr} {tv : TE} {wv : WE} {p ps pos : Pos} (hu : X.A.units + 1 < cLine) (hv' : GE X W value tv wv) (he : GE X W e te we) (hN : X.N[i]? = some x := by rfl) (hv : Vis X.env.scope x := by first | exact Or.inl rfl | exact Or.inr (Or.inl rfl) | exact Or.inr (Or.inr rfl))
    (hd : (x == ("__debug__" : Str)) = false := by decide) (hcd : (x == ("__classdict__" : Str)) = false := by decide) (hs : swapsWith value (some (.Subscript (.Name x p) e ps)) pos.line X.env = pure false := by rfl) :
    GS X W (.Assign [.Subscript (.Name x p) e ps] value pos) (wDPutO i wv we) := by
  refine ⟨sDPut (tVar i) te tv, ps_dput hu (pe_var hN hv hd hcd) he.pe hv'.pe hs, fun b h σ g We E D k hw hx ct => ?_⟩
  refine hv'.se b h σ g We _ _ k hw hx fun v b1 h1 g1 u k1 f1 p1 => ?_
  unfold dput at p1
  obtain ⟨hl, p1⟩ := p1
  obtain ⟨b1', k1', f1', zu⟩ := come k1 f1
  obtain ⟨p0, ks0, xs0, vs0, e0, ev0, hp0, _⟩ := k1'.dk hl
  refine ⟨_, ev0, he.se b1' h1 σ g1 We _ _ k1' p1 (hx.step f1') fun v2 b2 h2 g2 o k2 f2 p' => ?_⟩
  obtain ⟨b3, k3, f3, zo⟩ := come k2 f2
  split at p'
  · rename_i p1 ks xs kk e1 e2
    have ev := key_ok zo e2
    subst ev
    obtain ⟨v1, ev1, ev2, _⟩ := k3.sl i _ e1
    rw [ev0] at ev1
    cases ev1
    cases ev2
    obtain ⟨h4, q1, q2, q3⟩ := putO_ok k3 e1 (den_mono f3.bs _ _ zu) p'.1 p'.2.1 (k := kk)
    exact ⟨p0, h4, rfl, q1, ct.nx σ b3 h4 _ q2 (f1'.trans (f3.trans q3)) p'.2.2⟩
  · exact p'.elim
/-- d[k] += e, ints -/
@[irreducible] def wDAddO (i : Nat) (we wv : WE) : WS := fun We E g => isDK g[i]? ∧ we We g fun o g1 => match g1[i]?, o.d.key with
  | some (some (.dK _ ks xs)), some k => (match findK ks k with
    | some j => (match xs[j]? with
      | some (.pur (.int n)) => wv We g1 fun u g2 => (match g2[i]?, u.d with
        | some (some (.dK p2 ks2 xs2)), .int m => ks2.Nodup ∧ xs2.length < sizeLine ∧ E.nx (g2.set i (some (putO p2 ks2 xs2 k (.int (n + m)))))
        | _, _ => False)
      | _ => False)
    | none => False)
  | _, _ => False
theorem gs_daddO {value : Expr} {tv : TE} {wv : WE} {p ps pos : Pos} (hu : X.A.units + 1 < cLine) (he : GE X W e te we) (hv' : GE X W value tv wv) (hN : X.N[i]? = some x := by rfl) (hv : Vis X.env.scope x := by first | exact Or.inl rfl | exact Or.inr (Or.inl rfl) | exact Or.inr (Or.inr rfl))
    (hd : (x == ("__debug__" : Str)) = false := by decide) (hcd : (x == ("__classdict__" : Str)) = false := by decide)
    (ha : ∀ ov iv new, augStore e ov iv new = (do holding [new, ov, iv] (setItem ov iv new); release [new, ov, iv] []; pure .next) := by intro _ _ _; rfl) :
    GS X W (.AugAssign (.Subscript (.Name x p) e ps) .Add value pos) (wDAddO i we wv) := by
  refine ⟨sDAug (tVar i) te tv rAdd, ps_daug hu (pe_var hN hv hd hcd) he.pe hv'.pe in_add ha, fun b h σ g We E D k hw hx ct => ?_⟩
  unfold wDAddO at hw
  obtain ⟨hl, hw⟩ := hw
  obtain ⟨p0, ks0, xs0, vs0, e0, ev0, hp0, _⟩ := k.dk hl
  refine ⟨_, ev0, he.se b h σ g We _ _ k hw hx fun v b' h' g' o k' f' p' => ?_⟩
  obtain ⟨b2, k2, f2, zo⟩ := come k' f'
  split at p'
  · rename_i p1 ks xs kk e1 e2
    have ev := key_ok zo e2
    subst ev
    obtain ⟨v1, ev1, ev2, vs, hp, hlen, z⟩ := k2.sl i _ e1
    rw [ev0] at ev1
    cases ev1
    cases ev2
    split at p'
    · rename_i j ej
      split at p'
      · rename_i n ed
        obtain ⟨w, ew, zw⟩ := ownL_at z ed
        have zw' : w = .int n := zw
        subst zw'
        refine ⟨p0, .int n, rfl, ?_, hv'.se b2 h' σ g' We _ _ k2 p' (hx.step f2) fun v3 b3 h3 g3 u k3 f3 p3 => ?_⟩
        · have := DGet.k (k := kk) hp
          rw [valV_zip hlen, ej] at this
          rw [← ew]; exact this
        · obtain ⟨b4, k4, f4, zu⟩ := come k3 f3
          split at p3
          · rename_i p5 ks2 xs2 m e5 e6
            rw [e6] at zu
            have zu' : v3 = .int m := zu
            subst zu'
            obtain ⟨v6, ev6, ev7, _⟩ := k4.sl i _ e5
            rw [ev0] at ev6
            cases ev6
            cases ev7
            obtain ⟨h5, q1, q2, q3⟩ := putO_ok (v := .int (n + m)) (d := .int (n + m)) k4 e5 rfl p3.1 p3.2.1 (k := kk)
            exact ⟨n, m, rfl, rfl, h5, q1, ct.nx σ b4 h5 _ q2 (f2.trans (f4.trans q3)) p3.2.2⟩
          · exact p3.elim
      · exact p'.elim
    · exact p'.elim
  · exact p'.elim
end
end G
/-! G: defs by name, slices, list(range), dict displays, len(set(tuple)). -/
namespace G
open PySem PySem.Spec PyProof.Rows L2
open Evl (Ex)

/-- a def of the module, by its name -/
structure Fn (P : Program) (w : World) (K : PySem.W.Frag) (mg : Str → Option Value) (base : Heap) (k : Nat) (x : Str) (ps : List Str) (pm : Pm) : Prop where
  ex : ∃ f fd, FnG P w K mg base k f fd ps pm ∧ mg x = some (.ref f) ∧ PySem.W.keepIn K (.ref f) = true ∧ Binds K fd ps []
theorem Fn.mono {P : Program} {w : World} {K : PySem.W.Frag} {mg : Str → Option Value} {base : Heap} {j k : Nat} {x : Str} {ps : List Str} {pm : Pm} (F : Fn P w K mg base j x ps pm) (h : j ≤ k) : Fn P w K mg base k x ps pm := by
  obtain ⟨f, fd, h1, h2⟩ := F.ex
  exact ⟨f, fd, h1.mono h, h2⟩
section
variable {X : Cx} {W : WX} {e : Expr} {es : List Expr} {te : TE} {t : TA} {we : WE} {wa : WA}
theorem ge_fn {x : Str} {k : Nat} {ps : List Str} {pm : Pm} {p pos : Pos} (C : Ctx X W) (F : Fn X.prog X.w X.K X.mg X.base k x ps pm) (hr : Room k X.A) (ha : GA X W (e :: es) t wa) (hg : Gl X x := by rfl) (hdb : (x == ("__debug__" : Str)) = false := by decide)
    (he : starEach (e :: es) X.env = (false, eval e X.env) :: starEach es X.env := by rfl) (hpl : (backTo pos (starEach es X.env)).any (·.1) = false := by rfl) {K : PySem.W.Frag} (hK : X.K = K := by exact rfl) :
    GE X W (.Call (.Name x p) (e :: es) [] pos) (tCallS (spOf K ps.length pm) (L2.WE W) t) (wCall ps.length pm wa) := by
  subst hK
  obtain ⟨f, fd, F, hm, hk, hb⟩ := F.ex
  exact ge_call C F hr hm hk hb ha hg hdb he hpl
theorem ge_fn0 {x : Str} {k : Nat} {pm : Pm} {p pos : Pos} (F : Fn X.prog X.w X.K X.mg X.base k x [] pm) (hr : Room k X.A) (hg : Gl X x := by rfl) (hdb : (x == ("__debug__" : Str)) = false := by decide) {K : PySem.W.Frag} (hK : X.K = K := by exact rfl) :
    GE X W (.Call (.Name x p) [] [] pos) (tCall (spOf K 0 pm) [] E0 tNil) (wCall0 pm) := by
  subst hK
  obtain ⟨f, fd, F, hm, hk, hb⟩ := F.ex
  exact ge_call0 F hr hm hk hb hg hdb
/-! ### len(x), x the def's own -/
def wLenO (i : Nat) : WE := fun _ g P => match g[i]? with
  | some (some (.lst _ xs)) => P (.pur (.int xs.length)) g
  | _ => False
theorem ge_lenO {i : Nat} {x : Str} {p q pos : Pos} (hm : X.mg "len" = none) (hN : X.N[i]? = some x := by rfl) (hv : Vis X.env.scope x := by first | exact Or.inl rfl | exact Or.inr (Or.inl rfl) | exact Or.inr (Or.inr rfl))
    (hd : (x == ("__debug__" : Str)) = false := by decide) (hcd : (x == ("__classdict__" : Str)) = false := by decide) (hg : Gl X "len" := by rfl)
    (h1 : starEach [.Name x q] X.env = (false, eval (.Name x q) X.env) :: starEach [] X.env := by rfl) {K : PySem.W.Frag} (hK : X.K = K := by exact rfl) : GE X W (.Call (.Name "len" p) [.Name x q] [] pos) (tCB (rvLen K) (tCons (tVar i) tNil)) (wLenO i) := by
  subst hK
  refine ⟨pe_callB call_len_seq hg hm boot_len (pa_cons (pe_var hN hv hd hcd) pa_nil h1) (by decide) (by decide) h1 (by rfl), fun b h σ g We P Q k hw hx ct => ?_⟩
  unfold wLenO at hw
  split at hw
  · rename_i p xs e
    obtain ⟨v, ev, ev2, vs, hp, z⟩ := k.sl i _ e
    subst ev2
    refine ⟨_, ev, p, vs, rfl, .inl (SqL.of hp), ?_⟩
    rw [← ownL_len z]
    exact fin k (Frm.refl g b h) (Res.same k.sub (d := .int _) rfl) ct hw
  · exact hw.elim
/-! ### slices -/
abbrev WO := Wsh → Gam → (Option Int → Gam → Prop) → Prop
structure GO (X : Cx) (W : WX) (e : Option Expr) (t : TO) (w : WO) : Prop where
  pe : PO X e t
  se : ∀ b h σ g We P Q, Hold X.K b h σ g → w We g P → ContX X.K g b h We W → (∀ o b' h' g', Hold X.K b' h' σ g' → Frm g b h g' b' h' → P o g' → Q o h') → t σ h Q
theorem go_none : GO X W none tNoPart (fun _ g P => P none g) := ⟨po_none, fun b h σ g We P Q k hw hx ct => ct none b h g k (Frm.refl g b h) hw⟩
def wPart (we : WE) : WO := fun We g P => we We g fun o g1 => match o.d with
  | .int i => P (some i) g1
  | _ => False
theorem go_some (he : GE X W e te we) : GO X W (some e) (tPart te) (wPart we) := by
  refine ⟨po_some he.pe, fun b h σ g We P Q k hw hx ct => ?_⟩
  refine he.se b h σ g We _ _ k hw hx fun v b' h' g' o k' f' p' => ?_
  obtain ⟨b2, k2, f2, z⟩ := come k' f'
  split at p'
  · rename_i i ei
    rw [ei] at z
    exact ⟨i, z, ct (some i) b2 h' g' k2 f2 p'⟩
  · exact p'.elim
/-- the items of a slice -/
def cutD (ds : List D) (lo hi : Option Int) : List D := (ds.drop (HT.sIx ds.length 0 lo)).take (HT.sIx ds.length ds.length hi - HT.sIx ds.length 0 lo)
theorem denL_drop {K : PySem.W.Frag} {b : Hp} : ∀ (n : Nat) {ds : List D} {vs : List V}, denL K b ds vs → denL K b (ds.drop n) (vs.drop n)
  | 0, _, _, z => z
  | n + 1, [], _, z => by have z' : _ = ([] : List V) := z; subst z'; exact rfl
  | n + 1, d :: ds, _, ⟨v, r, e, _, t⟩ => by subst e; exact denL_drop n t
theorem denL_take {K : PySem.W.Frag} {b : Hp} : ∀ (n : Nat) {ds : List D} {vs : List V}, denL K b ds vs → denL K b (ds.take n) (vs.take n)
  | 0, _, _, _ => rfl
  | n + 1, [], _, z => by have z' : _ = ([] : List V) := z; subst z'; exact rfl
  | n + 1, d :: ds, _, ⟨v, r, e, z, t⟩ => by subst e; exact ⟨v, r.take n, rfl, z, denL_take n t⟩
theorem denL_cut {K : PySem.W.Frag} {b : Hp} {ds : List D} {vs : List V} {lo hi : Option Int} (t : denL K b ds vs) : denL K b (cutD ds lo hi) (cutV vs lo hi) := by
  unfold cutD cutV
  rw [← denL_len t]
  exact denL_take _ (denL_drop _ t)
/-- xs[lo:hi] of a list -/
def wSlL (we : WE) (wl wh : WO) : WE := fun We g P => we We g fun o g1 => wl We g1 fun l g2 => wh We g2 fun u g3 => match o.d with
  | .lst ds => ∀ p, P (.lst p ((cutD ds l u).map .pur)) g3
  | .frl ds => ∀ p, P (.lst p ((cutD ds l u).map .pur)) g3
  | _ => False
theorem ge_slL {lo hi : Option Expr} {tl th : TO} {wl wh : WO} {p2 pos : Pos} (he : GE X W e te we) (hl : GO X W lo tl wl) (hh : GO X W hi th wh) {K : PySem.W.Frag} (hK : X.K = K := by exact rfl) : GE X W (.Subscript e (.Slice lo hi none p2) pos) (tSl (rSlL K) te tl th) (wSlL we wl wh) := by
  subst hK
  refine ⟨pe_slice sl_list he.pe hl.pe hh.pe, fun b h σ g We P Q k hw hx ct => ?_⟩
  refine he.se b h σ g We _ _ k hw hx fun v b1 h1 g1 o k1 f1 p1 => ?_
  obtain ⟨b2, k2, f2, z⟩ := come k1 f1
  refine hl.se b2 h1 σ g1 We _ _ k2 p1 (hx.step f2) fun l b3 h3 g3 k3 f3 p3 => ?_
  refine hh.se b3 h3 σ g3 We _ _ k3 p3 (hx.step (f2.trans f3)) fun u b4 h4 g4 k4 f4 p4 => ?_
  have f5 := f3.trans f4
  split at p4
  · rename_i ds ed
    rw [ed] at z
    obtain ⟨a, vs, rfl, q, t⟩ := den_mono f5.bs _ _ z
    refine ⟨a, vs, rfl, SqL.of (k4.sub _ _ q), fun p np => ?_⟩
    exact fin k4 (f2.trans f5) (Res.own1 (o := .lst p ((cutD ds l u).map .pur)) k4.sub np ⟨rfl, _, upd_same, ownL_pur (denL_cut t)⟩ (by simp [foot, footL_pur])) ct (p4 p)
  · rename_i ds ed
    rw [ed] at z
    obtain ⟨a, vs, rfl, q, t⟩ := den_mono f5.bs _ _ z
    refine ⟨a, vs, rfl, Evl.ex_l k4.sub q, fun p np => ?_⟩
    exact fin k4 (f2.trans f5) (Res.own1 (o := .lst p ((cutD ds l u).map .pur)) k4.sub np ⟨rfl, _, upd_same, ownL_pur (denL_cut t)⟩ (by simp [foot, footL_pur])) ct (p4 p)
  · exact p4.elim
/-- t[lo:hi] of a tuple, not the whole of it -/
def wSlT (we : WE) (wl wh : WO) : WE := fun We g P => we We g fun o g1 => wl We g1 fun l g2 => wh We g2 fun u g3 => match o.d with
  | .tup ds => ¬ (HT.sIx ds.length 0 l = 0 ∧ HT.sIx ds.length ds.length u = ds.length) ∧ P (.pur (.tup (cutD ds l u))) g3
  | _ => False
theorem ge_slT {lo hi : Option Expr} {tl th : TO} {wl wh : WO} {p2 pos : Pos} (he : GE X W e te we) (hl : GO X W lo tl wl) (hh : GO X W hi th wh) {K : PySem.W.Frag} (hK : X.K = K := by exact rfl) : GE X W (.Subscript e (.Slice lo hi none p2) pos) (tSl (rSlT K) te tl th) (wSlT we wl wh) := by
  subst hK
  refine ⟨pe_slice sl_tup he.pe hl.pe hh.pe, fun b h σ g We P Q k hw hx ct => ?_⟩
  refine he.se b h σ g We _ _ k hw hx fun v b1 h1 g1 o k1 f1 p1 => ?_
  obtain ⟨b2, k2, f2, z⟩ := come k1 f1
  refine hl.se b2 h1 σ g1 We _ _ k2 p1 (hx.step f2) fun l b3 h3 g3 k3 f3 p3 => ?_
  refine hh.se b3 h3 σ g3 We _ _ k3 p3 (hx.step (f2.trans f3)) fun u b4 h4 g4 k4 f4 p4 => ?_
  have f5 := f3.trans f4
  split at p4
  · rename_i ds ed
    rw [ed] at z
    obtain ⟨a, vs, rfl, q, t⟩ := den_mono f5.bs _ _ z
    refine ⟨a, vs, rfl, SqT.of (k4.sub _ _ q), by rw [← denL_len t]; exact p4.1, fun p np => ?_⟩
    exact fin k4 (f2.trans f5) (Res.new (d := .tup (cutD ds l u)) k4.sub np ⟨p, _, rfl, upd_same, denL_mono (Ex.new (Evl.fresh_back k4.sub np)) _ _ (denL_cut t)⟩) ct p4.2
  · exact p4.elim
/-! ### list(range(..)) -/
theorem denL_rng {K : PySem.W.Frag} {b : Hp} (lo : Int) (n : Nat) : denL K b (rngD lo n) ((List.range n).map fun i => V.int (lo + (i : Nat))) := by
  unfold rngD
  induction List.range n with
  | nil => exact rfl
  | cons i l ih => exact ⟨_, _, rfl, rfl, ih⟩
def wListR1 (we : WE) : WE := fun We g P => we We g fun o g1 => match o.d with
  | .int n => RgOk 0 n ∧ ∀ p, P (.lst p ((rngD 0 n.toNat).map .pur)) g1
  | _ => False
theorem ge_listR1 {p p2 pos pos2 : Pos} (hc : X.calm = true) (hm : X.mg "list" = none) (hm2 : X.mg "range" = none) (he : GE X W e te we) (hg : Gl X "list" := by rfl) (hg2 : Gl X "range" := by rfl) (na : starEach [e] X.env = (false, eval e X.env) :: starEach [] X.env := by rfl)
    (na2 : starEach [.Call (.Name "range" p2) [e] [] pos2] X.env = (false, eval (.Call (.Name "range" p2) [e] [] pos2) X.env) :: starEach [] X.env := by rfl) : GE X W (.Call (.Name "list" p) [.Call (.Name "range" p2) [e] [] pos2] [] pos) (tLstRg (tRg1 te)) (wListR1 we) := by
  refine ⟨pe_listRg hc hg hm (prg_1 hg2 hm2 he.pe na) na2, fun b h σ g We P Q k hw hx ct => ?_⟩
  refine he.se b h σ g We _ _ k hw hx fun v b' h' g' o k' f' p' => ?_
  obtain ⟨b2, k2, f2, z⟩ := come k' f'
  split at p'
  · rename_i n en
    rw [en] at z
    have z' : v = .int n := z
    subst z'
    refine ⟨n, rfl, p'.1, fun q nq => ?_⟩
    have e0 : rgV 0 n = (List.range n.toNat).map fun i => V.int (0 + (i : Nat)) := by unfold rgV; rw [Int.sub_zero]
    rw [e0]
    exact fin k2 f2 (Res.own1 (o := .lst q ((rngD 0 n.toNat).map .pur)) k2.sub nq ⟨rfl, _, upd_same, ownL_pur (denL_rng 0 n.toNat)⟩ (by simp [foot, footL_pur])) ct (p'.2 q)
  · exact p'.elim
/-! ### {k: v, ..}, the keys written texts -/
abbrev WP := Wsh → Gam → (List D → Gam → Prop) → Prop
structure GP (X : Cx) (W : WX) (pos : Pos) (ks : List Str) (keys : List (Option Expr)) (values : List Expr) (trs : List (TE × TE)) (w : WP) : Prop where
  pe : PPs X pos keys values trs
  se : ∀ b h σ g We P Q, Hold X.K b h σ g → w We g P → ContX X.K g b h We W →
    (∀ vs b' h' g' ds, Hold X.K b' h' σ g' → Frm g b h g' b' h' → denL X.K b' ds vs → ks.length = vs.length → P ds g' → Q ((ks.map fun x => (V.str x)).zip vs) h') → tPairs trs σ h Q
theorem gp_nil {pos : Pos} : GP X W pos [] [] [] [] (fun _ g P => P [] g) := ⟨pps_nil, fun b h σ g We P Q k hw hx ct => ct [] b h g [] k (Frm.refl g b h) rfl rfl hw⟩
theorem gp_cons {pos p2 : Pos} {x : Str} {j : Nat} {v : Expr} {tv : TE} {wv : WE} {ks : List Str} {keys : List (Option Expr)} {values : List Expr} {trs : List (TE × TE)} {wr : WP} (hv : GE X W v tv wv) (hr : GP X W pos ks keys values trs wr) :
    GP X W pos (x :: ks) (some (.Constant (.str x) j p2) :: keys) (v :: values) ((tC (.str x), tv) :: trs) (fun We g P => wv We g fun o g1 => wr We g1 fun ds g2 => P (o.d :: ds) g2) := by
  refine ⟨pps_cons pe_str hv.pe hr.pe, fun b h σ g We P Q k hw hx ct => ?_⟩
  refine hv.se b h σ g We _ _ k hw hx fun u b' h' g' o k' f' p' => ?_
  obtain ⟨b2, k2, f2, z⟩ := come k' f'
  exact hr.se b2 h' σ g' We _ _ k2 p' (hx.step f2) fun vs b3 h3 g3 ds k3 f3 z3 l3 p3 => ct (u :: vs) b3 h3 g3 (o.d :: ds) k3 (f2.trans f3) ⟨u, vs, rfl, den_mono f3.bs _ _ z, z3⟩ (by simp [l3]) p3
theorem mergeK_zip : ∀ {ks : List Key} {vs : List V} {ks0 : List Key} {vs0 : List V}, (ks0 ++ ks).Nodup → ks0.length = vs0.length → ks.length = vs.length → mergeK (ks0.zip vs0) (ks.zip vs) = (ks0 ++ ks).zip (vs0 ++ vs)
  | [], [], ks0, vs0, _, _, _ => by simp [mergeK]
  | [], _ :: _, _, _, _, _, h => by simp at h
  | _ :: _, [], _, _, _, _, h => by simp at h
  | k :: ks, v :: vs, ks0, vs0, nd, h0, h => by
    have nk : k ∉ ks0 := fun m => by
      have := (List.nodup_append.mp nd).2.2 k m k (List.mem_cons_self ..)
      exact this rfl
    have fn : findK ks0 k = none := by
      cases q : findK ks0 k with
      | none => rfl
      | some j => exact absurd (List.mem_of_getElem? (findK_lt q).2) nk
    show mergeK (putK (ks0.zip vs0) k v) (ks.zip vs) = _
    rw [putK_zipN h0 fn, mergeK_zip (by simpa using nd) (by simp [h0]) (by simpa using h)]
    simp
def wDict (ks : List Str) (w : WP) : WE := fun We g P => w We g fun ds g1 => (ks.map (Sum.inr : Str → Key)).Nodup ∧ ks.length ≤ 15 ∧ ∀ p, P (.dK p (ks.map Sum.inr) (ds.map .pur)) g1
theorem ge_dict {pos : Pos} {ks : List Str} {keys : List (Option Expr)} {values : List Expr} {trs : List (TE × TE)} {w : WP} (h : GP X W pos ks keys values trs w) (hall : keys.all (·.isSome) = true := by rfl) (hl : keys.length = values.length := by rfl) (h0 : keys ≠ [] := by intro z; cases z)
    (h15 : keys.length ≤ 15 := by decide) : GE X W (.Dict keys values pos) (tDisp trs) (wDict ks w) := by
  refine ⟨pe_disp h.pe hall hl h0 h15, fun b hh σ g We P Q k hw hx ct => fun p np => ?_⟩
  have nbp : b p = none := Evl.fresh_back k.sub np
  have npg : ¬ inF g p := fun z => by obtain ⟨u, e⟩ := k.inF_there z; rw [np] at e; cases e
  have k1 := k.aside (o := .dK []) npg nbp
  have f1 : Frm g b hh g b (upd hh p (.dK [])) := ⟨Ex.refl b, fun a u e _ => by rw [upd_ne (ne_of_none e np)]; exact e, fun a u e1 t e2 _ => e2, fun a z => .inl z⟩
  refine h.se b _ σ g We _ _ k1 hw (hx.step f1) fun vs b2 h2 g2 ds k2 f2 z l ⟨nd, h15, p2⟩ => ?_
  have hp : h2 p = some (.dK []) := f2.keep p _ upd_same npg
  have nb2 : b2 p = none := f2.nb p _ upd_same trivial nbp npg
  have ng2 : ¬ inF g2 p := fun z => (f2.new p z).elim npg fun z => by rw [upd_same] at z; cases z
  refine ⟨hp, (ks.map Sum.inr).zip vs, ?_, ?_, ?_⟩
  · exact zipk ks vs
  · rw [List.length_zip, List.length_map]; omega
  · have em : mergeK [] ((ks.map (Sum.inr : Str → Key)).zip vs) = (ks.map Sum.inr).zip vs := mergeK_zip (ks0 := []) (vs0 := []) (by simpa using nd) rfl (by simpa using l)
    rw [em]
    have k3 := k2.aside (o := .dK ((ks.map Sum.inr).zip vs)) ng2 nb2
    have ft : foot (.dK p (ks.map Sum.inr) (ds.map .pur)) = [p] := by simp [foot, footL_pur]
    refine ct (.ref p) b2 _ g2 (.dK p (ks.map Sum.inr) (ds.map .pur)) (k3.cons ⟨rfl, vs, upd_same, by simpa using l, ownL_pur z⟩ (by simp [ft]) (fun a m => ?_) fun a m => ?_) ⟨f2.bs, fun a u e n => ?_, fun a u e1 t e2 n => f2.nb a u (f1.keep a u e1 n) t e2 n, fun a z => ?_⟩ (p2 p)
    · rw [ft] at m; simp at m; subst m; exact nb2
    · rw [ft] at m; simp at m; subst m; exact ng2
    · rw [upd_ne (ne_of_none e np)]; exact f2.keep a u (f1.keep a u e n) n
    · rcases inF_cons.mp z with ⟨u, e, m⟩ | z
      · cases e; rw [ft] at m; simp at m; subst m; exact .inr np
      · rcases f2.new a z with z | z
        · exact .inl z
        · by_cases ea : a = p
          · subst ea; exact .inr np
          · rw [upd_ne ea] at z; exact .inr z
where
  zipk : ∀ (ks : List Str) (vs : List V), (ks.map fun x => (V.str x)).zip vs = ((ks.map (Sum.inr : Str → Key)).zip vs).map fun kv => (kV kv.1, kv.2)
    | [], _ => rfl
    | _ :: _, [] => rfl
    | k :: ks, v :: vs => by simp only [List.map_cons, List.zip_cons_cons, zipk ks vs]; rfl
end

/-! ### len(set(t)), t a tuple of ints -/
theorem nodup_sub {α : Type} [DecidableEq α] : ∀ (l m : List α), l.Nodup → (∀ x ∈ l, x ∈ m) → l.length ≤ m.length
  | [], _, _, _ => Nat.zero_le _
  | x :: l, m, nd, h => by
    obtain ⟨n1, n2⟩ := List.nodup_cons.mp nd
    have hx : x ∈ m := h x (List.mem_cons_self ..)
    have := nodup_sub l (m.erase x) n2 fun y hy => (List.mem_erase_of_ne fun (e : y = x) => n1 (by rw [← e]; exact hy)).mpr (h y (List.mem_cons_of_mem _ hy))
    rw [List.length_erase_of_mem hx] at this
    have : 0 < m.length := List.length_pos_of_mem hx
    simp only [List.length_cons]
    omega
theorem not_nodup {α : Type} [DecidableEq α] : ∀ (l : List α), ¬ l.Nodup → ∃ m : List α, m.length + 1 = l.length ∧ ∀ x ∈ l, x ∈ m
  | [], h => absurd List.nodup_nil h
  | x :: l, h => by
    by_cases hx : x ∈ l
    · exact ⟨l, rfl, fun y hy => (List.mem_cons.mp hy).elim (fun (e : y = x) => by rw [e]; exact hx) id⟩
    · obtain ⟨m, e, q⟩ := not_nodup l fun nd => h (List.nodup_cons.mpr ⟨hx, nd⟩)
      exact ⟨x :: m, by simp [e], fun y hy => (List.mem_cons.mp hy).elim (fun (e : y = x) => by rw [e]; exact List.mem_cons_self ..) fun hy => List.mem_cons_of_mem _ (q y hy)⟩
theorem same_len {ks ns : List Int} (nd : ks.Nodup) (h : ∀ k, k ∈ ns ↔ k ∈ ks) : ks.length ≤ ns.length ∧ (ks.length = ns.length ↔ ns.Nodup) := by
  have h1 := nodup_sub ks ns nd fun x hx => (h x).mpr hx
  refine ⟨h1, fun e => ?_, fun e => ?_⟩
  · refine Decidable.byContradiction fun hn => ?_
    obtain ⟨m, em, q⟩ := not_nodup ns hn
    have := nodup_sub ks m nd fun x hx => q x ((h x).mpr hx)
    omega
  · have := nodup_sub ns ks e fun x hx => (h x).mp hx
    omega
def tLenSetT (K : PySem.W.Frag) (ta : TE) : TE := fun σ H Q => ta σ H fun x H1 => ∃ (l : Addr) (ns : List Int), x = .ref l ∧ SqT K H1 l (ns.map V.int) ∧ ns.length ≤ 4000 ∧ ∀ c : Nat, c ≤ ns.length → (c = ns.length ↔ ns.Nodup) → Q (.int c) H1
section
variable {X : Cx} {W : WX} {e : Expr} {te : TE} {we : WE}
theorem pe_lenSetT {a : Expr} {ta : TE} {p p2 q pos : Pos} (hc : X.calm = true) (hg : Gl X "len") (hm : X.mg "len" = none) (hg2 : Gl X "set") (hm2 : X.mg "set" = none) (ha : PE X a ta)
    (na : starEach [a] X.env = (false, eval a X.env) :: starEach [] X.env := by rfl) : PE X (.Call (.Name "len" p) [.Call (.Name "set" p2) [a] [] q] [] pos) (tLenSetT X.K ta) := by
  refine ⟨fun pins s σ H Q I h => ?_⟩
  refine Call_ (ld_blt I hg hm boot_len ?_)
  refine PyProof.Rows.callWith_builtin1 (PyProof.Rows.args_cons ?_ rfl) rfl rfl
  refine Call_ (ld_blt I hg2 hm2 boot_set ?_)
  refine PyProof.Rows.callWith_type1 (PyProof.Rows.args_cons (thn (ha.run pins s σ H _ I h) fun v s1 ⟨x, H1, I1, r1, q1⟩ => PyProof.Rows.args_nil ?_) na) na rfl
  obtain ⟨l, ns, rfl, hq, hl, q1⟩ := q1
  cases r1
  obtain ⟨its, r, pl, hz⟩ := I1.tuple hq
  obtain ⟨ob, eo, ho, n, hd⟩ := pl
  refine call_set_tupI (P := X.prog) ns (I1.ok.hd hc) ⟨ob, eo, ho, n, hd⟩ (by simpa using r.ints) (by unfold scanBound; omega) fun h' tk c hS hcl hk => ?_
  refine PyProof.Rows.args_nil ?_
  obtain ⟨o, es, ep, t, hob, hex, hd2, hgood, hnd, hmem, hsz, hf, hn, _⟩ := hS
  have I2 : Inv X pins σ H1 { s1 with heap := h', toks := tk } := I1.kept fun b o e => hk b o e
  have hh := same_len (ns := ns) hnd fun k => by
    rw [← hmem k]
    simp
  rw [List.length_map, Array.length_toList] at hh
  exact call_len_set hob hex hd2 hf (by rw [hn] <;> omega) ⟨.int es.size, H1, I2.tok _, ⟨_, rfl⟩, q1 es.size hh.1 hh.2⟩
@[irreducible] def wLenSet (we : WE) : WE := fun We g P => we We g fun o g1 => match o.d with
  | .tup ds => (match intsOf ds with
    | some ns => ns.length ≤ 4000 ∧ ∀ c : Nat, c ≤ ns.length → (c = ns.length ↔ ns.Nodup) → P (.pur (.int c)) g1
    | none => False)
  | _ => False
theorem ge_lenSet {p p2 q pos : Pos} (hc : X.calm = true) (hm : X.mg "len" = none) (hm2 : X.mg "set" = none) (he : GE X W e te we) (hg : Gl X "len" := by rfl) (hg2 : Gl X "set" := by rfl)
    (na : starEach [e] X.env = (false, eval e X.env) :: starEach [] X.env := by rfl) {K : PySem.W.Frag} (hK : X.K = K := by exact rfl) : GE X W (.Call (.Name "len" p) [.Call (.Name "set" p2) [e] [] q] [] pos) (tLenSetT K te) (wLenSet we) := by
  subst hK
  refine ⟨pe_lenSetT hc hg hm hg2 hm2 he.pe na, fun b h σ g We P Q k hw hx ct => ?_⟩
  unfold wLenSet at hw
  refine he.se b h σ g We _ _ k hw hx fun v b' h' g' o k' f' p' => ?_
  obtain ⟨b2, k2, f2, z⟩ := come k' f'
  split at p'
  · rename_i ds ed
    rw [ed] at z
    obtain ⟨a, vs, rfl, q, t⟩ := z
    split at p'
    · rename_i ns en
      have ev := ints_ok t en
      subst ev
      exact ⟨a, ns, rfl, SqT.of (k2.sub _ _ q), p'.1, fun c h1 h2 => fin k2 f2 (Res.same k2.sub (d := .int c) rfl) ct (p'.2 c h1 h2)⟩
    · exact p'.elim
  · exact p'.elim
end
end G
/-! G: readings: what closes comprehensions and loops. -/
namespace G
open PySem L2
theorem lc_filter {ds : List D} {g1 : Gam} {wg : WG} {wt : WT} {we : WE} {vs : List Nat} {P : Addr → List D → Gam → Prop} (f : D → D) (keep : D → Bool) (hn : ds.length ≤ sizeLine)
    (h : ∀ (i : Nat) (d : D) (Q : D → Gam → Prop) (Q0 : Gam → Prop), ds[i]? = some d → (keep d = true → Q (f d) g1) → (keep d = false → Q0 g1) → wg d (wipeG g1 vs) fun g3 => wt (fun _ _ => False) g3 fun k g4 =>
      br k (we (fun _ _ => False) g4 fun o g5 => Q o.d (unwipe g1 g5 vs)) (Q0 (unwipe g1 g4 vs)))
    (hP : ∀ p, P p ((ds.filter keep).map f) g1) :
    ∃ I : Nat → List D → Gam → Prop, I 0 [] g1 ∧
  (∀ i d acc g2, ds[i]? = some d → acc.length ≤ i → I i acc g2 → i < sizeLine ∧ wg d (wipeG g2 vs) fun g3 => wt (fun _ _ => False) g3 fun k g4 =>
    br k (we (fun _ _ => False) g4 fun o g5 => I (i + 1) (acc ++ [o.d]) (unwipe g2 g5 vs)) (I (i + 1) acc (unwipe g2 g4 vs))) ∧
  ∀ acc g2, acc.length ≤ ds.length → I ds.length acc g2 → ∀ p, P p acc g2 := by
  refine ⟨fun i acc g => acc = ((ds.take i).filter keep).map f ∧ g = g1, ⟨rfl, rfl⟩, ?_, ?_⟩
  · rintro i d acc g2 e _ ⟨rfl, rfl⟩
    have hi : i < ds.length := (List.getElem?_eq_some_iff.mp e).1
    have et : ds.take (i + 1) = ds.take i ++ [d] := by rw [List.take_add_one, e]; rfl
    refine ⟨by omega, h i d (fun o g5 => ((ds.take i).filter keep).map f ++ [o] = ((ds.take (i + 1)).filter keep).map f ∧ g5 = g2) (fun g4 => ((ds.take i).filter keep).map f = ((ds.take (i + 1)).filter keep).map f ∧ g4 = g2) e (fun hk => ?_) fun hk => ?_⟩
    · exact ⟨by rw [et, List.filter_append, List.map_append, List.filter_cons, if_pos hk]; rfl, rfl⟩
    · exact ⟨by rw [et, List.filter_append, List.map_append, List.filter_cons, if_neg (by simp [hk])]; simp, rfl⟩
  · rintro acc g2 _ ⟨rfl, rfl⟩ p
    rw [List.take_length]
    exact hP p
theorem lc_map {ds : List D} {g1 : Gam} {wg : WG} {wt : WT} {we : WE} {vs : List Nat} {P : Addr → List D → Gam → Prop} (f : D → D) (hn : ds.length ≤ sizeLine)
    (h : ∀ (i : Nat) (d : D) (Q : D → Gam → Prop) (Q0 : Gam → Prop), ds[i]? = some d → Q (f d) g1 → wg d (wipeG g1 vs) fun g3 => wt (fun _ _ => False) g3 fun k g4 =>
      br k (we (fun _ _ => False) g4 fun o g5 => Q o.d (unwipe g1 g5 vs)) (Q0 (unwipe g1 g4 vs)))
    (hP : ∀ p, P p (ds.map f) g1) :
    ∃ I : Nat → List D → Gam → Prop, I 0 [] g1 ∧
  (∀ i d acc g2, ds[i]? = some d → acc.length ≤ i → I i acc g2 → i < sizeLine ∧ wg d (wipeG g2 vs) fun g3 => wt (fun _ _ => False) g3 fun k g4 =>
    br k (we (fun _ _ => False) g4 fun o g5 => I (i + 1) (acc ++ [o.d]) (unwipe g2 g5 vs)) (I (i + 1) acc (unwipe g2 g4 vs))) ∧
  ∀ acc g2, acc.length ≤ ds.length → I ds.length acc g2 → ∀ p, P p acc g2 := by
  refine lc_filter f (fun _ => true) hn (fun i d Q Q0 e q _ => h i d Q Q0 e (q rfl)) ?_
  have e : ds.filter (fun _ => true) = ds := List.filter_eq_self.mpr fun _ _ => rfl
  rw [e]
  exact hP
theorem rcAll_lst {f : List Bool → Bool} {xs : List D} {ks : List Bool} {p : Addr} {P : O → Prop} (h : blsOf xs = some ks) (hP : P (.pur (.bl (f ks)))) : rcAll f [(O.lst p (xs.map .pur)).d] P := by
  unfold rcAll
  show (match blsOf (O.dL (xs.map .pur)) with
    | some ks => P (.pur (.bl (f ks)))
    | none => False)
  rw [dL_pur]
  simp only [h]
  exact hP
theorem bls_map (f : D → Bool) : ∀ ds : List D, blsOf (ds.map fun d => .bl (f d)) = some (ds.map f)
  | [] => rfl
  | d :: ds => by
    show (blsOf (ds.map fun d => D.bl (f d))).map (f d :: ·) = _
    rw [bls_map f ds]
    rfl
theorem all_map {α : Type} (f : α → Bool) (xs : List α) : (xs.map f).all id = xs.all f := by
  induction xs with
  | nil => rfl
  | cons x xs ih => simp [ih]
theorem lc_if {wi : WI} {wg : WG} {wt : WT} {we : WE} {vs : List Nat} {We : Wsh} {g : Gam} {P : O → Gam → Prop} (f : D → D) (keep : D → Bool) (ds : List D) (hi : ∀ Q : List D → Gam → Prop, Q ds g → wi We g Q) (hn : ds.length ≤ sizeLine)
    (h : ∀ (i : Nat) (d : D) (Q : D → Gam → Prop) (Q0 : Gam → Prop), ds[i]? = some d → (keep d = true → Q (f d) g) → (keep d = false → Q0 g) → wg d (wipeG g vs) fun g3 => wt (fun _ _ => False) g3 fun k g4 =>
      br k (we (fun _ _ => False) g4 fun o g5 => Q o.d (unwipe g g5 vs)) (Q0 (unwipe g g4 vs)))
    (hP : ∀ p, P (.lst p (((ds.filter keep).map f).map .pur)) g) : wLc wi wg wt we vs We g P := by
  unfold wLc
  exact hi _ (lc_filter f keep hn h hP)
theorem lc_of {wi : WI} {wg : WG} {wt : WT} {we : WE} {vs : List Nat} {We : Wsh} {g : Gam} {P : O → Gam → Prop} (f : D → D) (ds : List D) (hi : ∀ Q : List D → Gam → Prop, Q ds g → wi We g Q) (hn : ds.length ≤ sizeLine)
    (h : ∀ (i : Nat) (d : D) (Q : D → Gam → Prop) (Q0 : Gam → Prop), ds[i]? = some d → Q (f d) g → wg d (wipeG g vs) fun g3 => wt (fun _ _ => False) g3 fun k g4 =>
      br k (we (fun _ _ => False) g4 fun o g5 => Q o.d (unwipe g g5 vs)) (Q0 (unwipe g g4 vs)))
    (hP : ∀ p, P (.lst p ((ds.map f).map .pur)) g) : wLc wi wg wt we vs We g P := by
  unfold wLc
  exact hi _ (lc_map f hn h hP)
/-- all([p(x) for x in xs]) -/
theorem all_lc {f : D → Bool} {ds : List D} {p : Addr} {P : O → Prop} (hP : P (.pur (.bl (ds.all f)))) : rcAll (fun ks => ks.all id) [(O.lst p ((ds.map fun d => .bl (f d)).map .pur)).d] P :=
  rcAll_lst (bls_map f ds) (by rw [all_map]; exact hP)
theorem any_map {α : Type} (f : α → Bool) (xs : List α) : (xs.map f).any id = xs.any f := by
  induction xs with
  | nil => rfl
  | cons x xs ih => simp [ih]
theorem any_lc {f : D → Bool} {ds : List D} {p : Addr} {P : O → Prop} (hP : P (.pur (.bl (ds.any f)))) : rcAll (fun ks => ks.any id) [(O.lst p ((ds.map fun d => .bl (f d)).map .pur)).d] P :=
  rcAll_lst (bls_map f ds) (by rw [any_map]; exact hP)
/-! ### places of lists -/
theorem ixN_of {n : Nat} {j : Int} (h0 : 0 ≤ j) (h1 : j < n) : ixN n j = some j.toNat := by
  unfold ixN
  rw [if_pos h0, if_pos h1]
theorem atI_of {α : Type} {xs : List α} {j : Int} {x : α} (h0 : 0 ≤ j) (h : xs[j.toNat]? = some x) : atI xs j = some x := by
  have hl : j.toNat < xs.length := (List.getElem?_eq_some_iff.mp h).1
  unfold atI
  rw [ixN_of h0 (by omega)]
  exact h
/-- a place that is no constant, locked -/
@[irreducible] def roIxV : RO := roIx
theorem ig_seqV {X : Cx} {K : PySem.W.Frag} (hK : X.K = K := by exact rfl) : IxG X (rIx K) roIxV := by
  subst hK
  unfold roIxV
  exact ig_seq
theorem ix_l {ds : List D} {j : Int} {d : D} {P : O → Prop} (e : atI ds j = some d) (h : P (.pur d)) : roIxV (.lst ds) (.int j) P := by
  unfold roIxV roIx
  simp only [e]
  exact h
theorem ix_t {ds : List D} {j : Int} {d : D} {P : O → Prop} (e : atI ds j = some d) (h : P (.pur d)) : roIxV (.tup ds) (.int j) P := by
  unfold roIxV roIx
  simp only [e]
  exact h
theorem ix_f {ds : List D} {j : Int} {d : D} {P : O → Prop} (e : atI ds j = some d) (h : P (.pur d)) : roIxV (.frt ds) (.int j) P := by
  unfold roIxV roIx
  simp only [e]
  exact h
theorem ix_z {ds : List D} {j : Int} {d : D} {P : O → Prop} (e : atI ds j = some d) (h : P (.pur d)) : roIxV (.tfz ds) (.int j) P := by
  unfold roIxV roIx
  simp only [e]
  exact h
theorem at_ints {ns : List Int} {j : Int} (h0 : 0 ≤ j) (h1 : j < ns.length) : ∃ x, x ∈ ns ∧ ns[j.toNat]? = some x ∧ atI (ns.map D.int) j = some (.int x) := by
  have hl : j.toNat < ns.length := by omega
  refine ⟨ns[j.toNat], List.getElem_mem hl, by simp [hl], atI_of h0 (by simp [hl])⟩
theorem pop_i {i : Nat} {j : Int} {g : Gam} {P : O → Gam → Prop} {p : Addr} {xs : List O} {d : D} (e : g[i]? = some (some (.lst p xs))) (h0 : 0 ≤ j) (h62 : xs.length ≤ 2 ^ 62) (hd : xs[j.toNat]? = some (.pur d))
    (h : P (.pur d) (g.set i (some (.lst p (xs.eraseIdx j.toNat))))) : popAt i (.pur (.int j)) g P := by
  have hl : j.toNat < xs.length := (List.getElem?_eq_some_iff.mp hd).1
  unfold popAt
  have e2 : (O.pur (.int j)).d = .int j := rfl
  have e3 : seqIndex? j xs.length = some j.toNat := (ixN_seq (ixN_of h0 (by omega))).1
  simp only [e, e2, e3, hd]
  exact ⟨by omega, by omega, h⟩
theorem ixat_i {i : Nat} {j : Int} {g : Gam} {P : O → Gam → Prop} {p : Addr} {xs : List O} {d : D} (e : g[i]? = some (some (.lst p xs))) (ha : atI xs j = some (.pur d)) (h : P (.pur d) g) : ixAt i (.pur (.int j)) g P := by
  unfold ixAt
  have e2 : (O.pur (.int j)).d = .int j := rfl
  simp only [e, e2, ha]
  exact h
theorem setat_i {i : Nat} {u : O} {j : Int} {g : Gam} {E : GEnds} {p : Addr} {xs : List O} {n : Nat} (e : g[i]? = some (some (.lst p xs))) (ha : ixN xs.length j = some n) (h : E.nx (g.set i (some (.lst p (xs.set n (.pur u.d)))))) : setAt i u (.pur (.int j)) g E := by
  unfold setAt
  have e2 : (O.pur (.int j)).d = .int j := rfl
  simp only [e, e2, ha]
  exact h
/-! ### a cut between statements -/
def wCut (w1 w2 : WS) : WS := fun We E g => ∃ I : Gam → Prop, w1 We { E with nx := I } g ∧ ∀ g2, I g2 → w2 We E g2
theorem gss_cut {X : Cx} {W : WX} {st : Stmt} {rest : List Stmt} {ws wr : WS} (h1 : GS X W st ws) (h2 : GSs X W rest wr) : GSs X W (st :: rest) (wCut ws wr) := by
  obtain ⟨t, p, q⟩ := h1.ex
  obtain ⟨t2, p2, q2⟩ := h2.ex
  refine ⟨tSeq t t2, pss_cons p p2, fun b h σ g We E D k hw hx ct => ?_⟩
  obtain ⟨I, hw, hI⟩ := hw
  exact q b h σ g We _ _ k hw hx ⟨fun σ2 b2 h2 g2 k2 f2 p2 => q2 b2 h2 σ2 g2 We E D k2 (hI g2 p2) (hx.step f2) (ct.step f2), ct.bk, ct.ct, ct.rt⟩
/-! ### a return with an argument's own object -/
theorem rt_dK {as : List O} {R : O → Gam → Prop} {o : O} {p : Addr} {ks ks' : List Key} {xs xs' : List O} {g : Gam} (h : R o (some (.dK p ks' xs') :: aft as g)) : (endsOf (.dK p ks xs :: as) R).rt o (some (.dK p ks' xs') :: g) := by
  have e : aft (.dK p ks xs :: as) (some (.dK p ks' xs') :: g) = some (.dK p ks' xs') :: aft as g := by simp [aft, keepA, keepR, root]
  show R o (aft _ _)
  rw [e]
  exact h
/-! ### own dicts -/
theorem dget_i {i : Nat} {we : WE} {We : Wsh} {g : Gam} {P : O → Gam → Prop} {dk : D} {k : Key} {p : Addr} {ks : List Key} {xs : List O} {j : Nat} {d : D} (hwe : ∀ Q : O → Gam → Prop, Q (.pur dk) g → we We g Q) (hk : dk.key = some k)
    (e : g[i]? = some (some (.dK p ks xs))) (hf : findK ks k = some j) (hx : xs[j]? = some (.pur d)) (h : P (.pur d) g) : wDGetO i we We g P := by
  unfold wDGetO
  refine ⟨by rw [e]; trivial, hwe _ ?_⟩
  have e2 : (O.pur dk).d.key = some k := hk
  simp only [e, e2, hf, hx]
  exact h
theorem dput_i {i : Nat} {we : WE} {We : Wsh} {g : Gam} {E : GEnds} {u : O} {dk : D} {k : Key} {p : Addr} {ks : List Key} {xs : List O} {j : Nat} (hwe : ∀ Q : O → Gam → Prop, Q (.pur dk) g → we We g Q) (hk : dk.key = some k)
    (e : g[i]? = some (some (.dK p ks xs))) (hf : findK ks k = some j) (nd : ks.Nodup) (hn : xs.length < sizeLine) (h : E.nx (g.set i (some (.dK p ks (xs.set j (.pur u.d)))))) : dput i we We E u g := by
  unfold dput
  refine ⟨by rw [e]; trivial, hwe _ ?_⟩
  have e2 : (O.pur dk).d.key = some k := hk
  simp only [e, e2]
  refine ⟨nd, hn, ?_⟩
  unfold putO
  rw [hf]
  exact h
theorem dadd_i {i : Nat} {we wv : WE} {We : Wsh} {g : Gam} {E : GEnds} {dk : D} {k : Key} {p : Addr} {ks : List Key} {xs : List O} {j : Nat} {n m : Int} (hwe : ∀ Q : O → Gam → Prop, Q (.pur dk) g → we We g Q) (hk : dk.key = some k)
    (e : g[i]? = some (some (.dK p ks xs))) (hf : findK ks k = some j) (hx : xs[j]? = some (.pur (.int n))) (hwv : ∀ Q : O → Gam → Prop, Q (.pur (.int m)) g → wv We g Q) (nd : ks.Nodup) (hn : xs.length < sizeLine)
    (h : E.nx (g.set i (some (.dK p ks (xs.set j (.pur (.int (n + m)))))))) : wDAddO i we wv We E g := by
  unfold wDAddO
  refine ⟨by rw [e]; trivial, hwe _ ?_⟩
  have e2 : (O.pur dk).d.key = some k := hk
  simp only [e, e2, hf, hx]
  refine hwv _ ?_
  have e3 : (O.pur (D.int m)).d = .int m := rfl
  simp only [e, e3]
  refine ⟨nd, hn, ?_⟩
  unfold putO
  rw [hf]
  exact h
theorem dget_s {i : Nat} {We : Wsh} {g : Gam} {P : O → Gam → Prop} {y : Str} {p : Addr} {ks : List Key} {xs : List O} {j : Nat} {d : D}
    (e : g[i]? = some (some (.dK p ks xs))) (hf : findK ks (.inr y) = some j) (hx : xs[j]? = some (.pur d)) (h : P (.pur d) g) : wDGetO i (wC (.str y)) We g P := dget_i (dk := .str y) (fun Q q => q) rfl e hf hx h
theorem dput_s {i : Nat} {We : Wsh} {g : Gam} {E : GEnds} {u : O} {y : Str} {p : Addr} {ks : List Key} {xs : List O} {j : Nat}
    (e : g[i]? = some (some (.dK p ks xs))) (hf : findK ks (.inr y) = some j) (nd : ks.Nodup) (hn : xs.length < sizeLine) (h : E.nx (g.set i (some (.dK p ks (xs.set j (.pur u.d)))))) : dput i (wC (.str y)) We E u g := dput_i (dk := .str y) (fun Q q => q) rfl e hf nd hn h
theorem dadd_s {i : Nat} {We : Wsh} {g : Gam} {E : GEnds} {y : Str} {p : Addr} {ks : List Key} {xs : List O} {j : Nat} {n m : Int}
    (e : g[i]? = some (some (.dK p ks xs))) (hf : findK ks (.inr y) = some j) (hx : xs[j]? = some (.pur (.int n))) (nd : ks.Nodup) (hn : xs.length < sizeLine)
    (h : E.nx (g.set i (some (.dK p ks (xs.set j (.pur (.int (n + m)))))))) : wDAddO i (wC (.str y)) (wC (.int m)) We E g := dadd_i (dk := .str y) (fun Q q => q) rfl e hf hx (fun Q q => q) nd hn h
theorem rng_len (lo : Int) (n : Nat) : (rngD lo n).length = n := by simp [rngD]
theorem rng_at {lo : Int} {n i : Nat} {d : D} (e : (rngD lo n)[i]? = some d) : d = .int (lo + (i : Nat)) ∧ i < n := by
  have hi : i < n := by rw [← rng_len lo n]; exact (List.getElem?_eq_some_iff.mp e).1
  refine ⟨?_, hi⟩
  unfold rngD at e
  rw [List.getElem?_map, List.getElem?_range hi] at e
  cases e
  rfl
theorem eqV_ints (x y : Int) : eqV (.int y) (.int x) = decide (y = x) := by
  by_cases h : y = x
  · subst h; simp [eqV]
  · simp [eqV, h]
theorem inV_ints (x : Int) : ∀ ns : List Int, inV (.int x) (ns.map .int) = decide (x ∈ ns)
  | [] => rfl
  | n :: ns => by
    have e : inV (.int x) ((n :: ns).map .int) = (eqV (.int n) (.int x) || inV (.int x) (ns.map .int)) := rfl
    rw [e, inV_ints x ns, eqV_ints]
    by_cases h : n = x
    · subst h; simp
    · have h' : ¬ x = n := fun e => h e.symm
      simp [h, h']
theorem flL_ints : ∀ ns : List Int, flL (ns.map .int) = some (ns.map .int)
  | [] => rfl
  | n :: ns => by
    show (match (D.int n).fl, flL (ns.map .int) with
      | some v, some vs => some (v :: vs)
      | _, _ => none) = _
    rw [flL_ints ns]
    rfl
/-- x in a list of ints, x not in it -/
theorem in_ints {neg : Bool} {x : Int} {ns : List Int} {P : O → Prop} (h : P (.pur (.bl (if neg then !decide (x ∈ ns) else decide (x ∈ ns))))) : roIn neg (.int x) (.lst (ns.map .int)) P := by
  unfold roIn
  show (match (D.int x).fl, flL (ns.map .int) with
    | some v, some vs => P (.pur (.bl (if neg then !inV v vs else inV v vs)))
    | _, _ => False)
  rw [flL_ints ns]
  show P (.pur (.bl (if neg then !inV (.int x) (ns.map .int) else inV (.int x) (ns.map .int))))
  rw [inV_ints]
  exact h
theorem in_own {neg : Bool} {x : Int} {ns : List Int} {P : O → Prop} (h : P (.pur (.bl (if neg then !decide (x ∈ ns) else decide (x ∈ ns))))) : roIn neg (.int x) (.lst (O.dL ((ns.map D.int).map .pur))) P := by
  rw [dL_pur]
  exact in_ints h
theorem lenSet_i {we : WE} {We : Wsh} {g : Gam} {P : O → Gam → Prop} {ds : List D} {ns : List Int} (hi : ∀ Q : O → Gam → Prop, Q (.pur (.tup ds)) g → we We g Q) (en : intsOf ds = some ns) (hn : ns.length ≤ 4000)
    (h : ∀ c : Nat, c ≤ ns.length → (c = ns.length ↔ ns.Nodup) → P (.pur (.int c)) g) : wLenSet we We g P := by
  unfold wLenSet
  refine hi _ ?_
  show (match intsOf ds with
    | some ns => ns.length ≤ 4000 ∧ ∀ c : Nat, c ≤ ns.length → (c = ns.length ↔ ns.Nodup) → P (.pur (.int c)) g
    | none => False)
  rw [en]
  exact ⟨hn, h⟩
end G
/-! G: chains of three comparisons. -/
namespace G
open PySem L2 PyProof PyProof.Rows
open Evl (Ex)
section
variable {X : Cx} {W : WX} {r r2 r3 : RO} {r' r2' r3' : R2} {a c e f : Expr} {ta tb tc td : TE} {wa wb wc wd : WE}
def tChain3 (r r' r'' : R2) (ta tb tc td : TE) : TE := fun σ H Q => ta σ H fun x H1 => tb σ H1 fun y H2 => r x y H2 fun z H3 => ∃ k, z = .bl k ∧
  (if k = true then tc σ H3 fun w' H4 => r' y w' H4 fun z2 H5 => ∃ k2, z2 = .bl k2 ∧ (if k2 = true then td σ H5 fun u' H6 => r'' w' u' H6 Q else Q (.bl false) H5) else Q (.bl false) H3)
theorem pe_chain3 {op op' op'' : CmpOp} {r r' r'' : R2} {b : Expr} {pos : Pos} (ho : OpR X (compareOp op) r) (ho' : OpR X (compareOp op') r') (ho'' : OpR X (compareOp op'') r'') (ha : PE X a ta) (hb : PE X b tb) (hc : PE X c tc) (hd : PE X e td)
    (hm : lastMarks [op, op', op''] [b, c, e] = false := by with_unfolding_all rfl) : PE X (.Compare a [op, op', op''] [b, c, e] pos) (tChain3 r r' r'' ta tb tc td) := by
  refine ⟨fun pins s σ H Q I h => ?_⟩
  refine Compare_chain (thn (ha.run pins s σ H _ I h) fun v s1 ⟨x, H1, I1, r1, q1⟩ => chain_link (thn (hb.run pins s1 σ H1 _ I1 q1) fun u s2 ⟨y, H2, I2, r2, q2⟩ =>
    thn (ho pins s2 σ H2 x y v u _ I2 r1 r2 q2) fun d s3 ⟨z, H3, I3, r3, k, e, q3⟩ => ?_)) hm
  subst e
  cases r3
  refine wpAny_truthy_bool ?_
  cases k with
  | false => exact ite_ff ⟨.bl false, H3, I3, rfl, q3⟩
  | true =>
    refine ite_tt (chain_link (thn (hc.run pins s3 σ H3 _ I3 q3) fun w' s4 ⟨z', H4, I4, r4, q4⟩ => thn (ho' pins s4 σ H4 y z' u w' _ I4 r2 r4 q4) fun d2 s5 ⟨z2, H5, I5, r5, k2, e2, q5⟩ => ?_))
    subst e2
    cases r5
    refine wpAny_truthy_bool ?_
    cases k2 with
    | false => exact ite_ff ⟨.bl false, H5, I5, rfl, q5⟩
    | true => exact ite_tt (chain_last (thn (hd.run pins s5 σ H5 _ I5 q5) fun w3 s6 ⟨z3, H6, I6, r6, q6⟩ => ho'' pins s6 σ H6 z' z3 w' w3 Q I6 r4 r6 q6))
/-- a < b < c < d -/
def wChain3 (r r2 r3 : RO) (wa wb wc wd : WE) : WE := fun We g P => wa We g fun x g1 => wb We g1 fun y g2 => r x.d y.d fun z => D.isTrue z fun k =>
  br k (wc We g2 fun u g3 => r2 y.d u.d fun z2 => D.isTrue z2 fun k2 => br k2 (wd We g3 fun t g4 => r3 u.d t.d fun z3 => P z3 g4) (P (.pur (.bl false)) g3)) (P (.pur (.bl false)) g2)
theorem four (br : Brd X.K r r') (br2 : Brd X.K r2 r2') (br3 : Brd X.K r3 r3') (ha : ∀ b h σ g We P Q, Hold X.K b h σ g → wa We g P → ContX X.K g b h We W → Cont X.K g b h σ P Q → ta σ h Q)
    (hb : ∀ b h σ g We P Q, Hold X.K b h σ g → wb We g P → ContX X.K g b h We W → Cont X.K g b h σ P Q → tb σ h Q)
    (hc : ∀ b h σ g We P Q, Hold X.K b h σ g → wc We g P → ContX X.K g b h We W → Cont X.K g b h σ P Q → tc σ h Q)
    (hd : ∀ b h σ g We P Q, Hold X.K b h σ g → wd We g P → ContX X.K g b h We W → Cont X.K g b h σ P Q → td σ h Q) {b h : Hp} {σ : L2.St} {g : Gam} {We : Wsh} {P : O → Gam → Prop} {Q : VK}
    (k : Hold X.K b h σ g) (hw : wChain3 r r2 r3 wa wb wc wd We g P) (hx : ContX X.K g b h We W) (ct : Cont X.K g b h σ P Q) : tChain3 r' r2' r3' ta tb tc td σ h Q := by
  refine two (P := fun x y g2 => r x y fun z => D.isTrue z fun k => G.br k (wc We g2 fun u g3 => r2 y u.d fun z2 => D.isTrue z2 fun k2 => G.br k2 (wd We g3 fun t g4 => r3 u.d t.d fun z3 => P z3 g4) (P (.pur (.bl false)) g3)) (P (.pur (.bl false)) g2))
    (Q := fun v u h2 => r' v u h2 fun z h3 => ∃ k, z = .bl k ∧ if k = true then tc σ h3 fun w h4 => r2' u w h4 fun z2 h5 => ∃ k2, z2 = .bl k2 ∧ (if k2 = true then td σ h5 fun u' h6 => r3' w u' h6 Q else Q (.bl false) h5) else Q (.bl false) h3) ha hb k hw hx fun v u b' h' g' x y k' f' zx zy p => ?_
  refine br b' h' v u x y _ _ k'.sub zx zy p fun z b2 h2 o rs q => ?_
  obtain ⟨k2, f2⟩ := rs.lift k'
  refine test_of (P := fun k g2 => G.br k (wc We g2 fun u g3 => r2 y u.d fun z2 => D.isTrue z2 fun k2 => G.br k2 (wd We g3 fun t g4 => r3 u.d t.d fun z3 => P z3 g4) (P (.pur (.bl false)) g3)) (P (.pur (.bl false)) g2))
    (Q := fun k h3 => if k = true then tc σ h3 fun w h4 => r2' u w h4 fun z2 h5 => ∃ k2, z2 = .bl k2 ∧ (if k2 = true then td σ h5 fun u' h6 => r3' w u' h6 Q else Q (.bl false) h5) else Q (.bl false) h3) k2 f2 q fun kk b3 h3 g3 k3 f3 p3 => ?_
  cases kk with
  | false => exact fin k3 (f'.trans f3) (Res.same k3.sub (d := .bl false) rfl) ct (br_f.mp p3)
  | true =>
    refine hc b3 h3 σ g3 We _ _ k3 (br_t.mp p3) (hx.step (f'.trans f3)) fun w b4 h4 g4 z4 k4 f4 p4 => ?_
    obtain ⟨b5, k5, f5, zw⟩ := come k4 f4
    have f6 := f3.trans f5
    refine br2 b5 h4 u w y z4.d _ _ k5.sub (den_mono f6.bs _ _ zy) zw p4 fun v5 b6 h6 o6 rs6 q6 => ?_
    obtain ⟨k7, f7⟩ := rs6.lift k5
    refine test_of (P := fun k2 g2 => G.br k2 (wd We g2 fun t g4 => r3 z4.d t.d fun z3 => P z3 g4) (P (.pur (.bl false)) g2))
      (Q := fun k2 h5 => if k2 = true then td σ h5 fun u' h6 => r3' w u' h6 Q else Q (.bl false) h5) k7 f7 q6 fun kk b8 h8 g8 k8 f8 p8 => ?_
    have f9 := f6.trans f8
    cases kk with
    | false => exact fin k8 (f'.trans f9) (Res.same k8.sub (d := .bl false) rfl) ct (br_f.mp p8)
    | true =>
      refine hd b8 h8 σ g8 We _ _ k8 (br_t.mp p8) (hx.step (f'.trans f9)) fun t b10 h10 g10 o10 k10 f10 p10 => ?_
      obtain ⟨b11, k11, f11, zt⟩ := come k10 f10
      exact br3 b11 h10 w t z4.d o10.d _ Q k11.sub (den_mono (f8.trans f11).bs _ _ zw) zt p10 fun v12 b12 h12 o12 rs12 q12 => fin k11 (f'.trans (f9.trans f11)) rs12 ct q12
theorem ge_chain3 {b : Expr} {op op2 op3 : CmpOp} {pos : Pos} (ho : OpG X (compareOp op) r' r) (ho2 : OpG X (compareOp op2) r2' r2) (ho3 : OpG X (compareOp op3) r3' r3) (ha : GE X W a ta wa) (hb : GE X W b tb wb) (hc : GE X W c tc wc) (hd : GE X W e td wd)
    (hm : lastMarks [op, op2, op3] [b, c, e] = false := by with_unfolding_all rfl) :
    GE X W (.Compare a [op, op2, op3] [b, c, e] pos) (tChain3 r' r2' r3' ta tb tc td) (wChain3 r r2 r3 wa wb wc wd) :=
  ⟨pe_chain3 ho.pe ho2.pe ho3.pe ha.pe hb.pe hc.pe hd.pe hm, fun b h σ g We P Q k hw hx ct => four ho.se ho2.se ho3.se ha.se hb.se hc.se hd.se k hw hx ct⟩
/-! ### x in ys, ys the def's own list -/
theorem ownL_fl {K : PySem.W.Frag} {b h : Hp} : ∀ {os : List O} {vs us : List V}, ownL K b h os vs → flL (O.dL os) = some us → vs = us ∧ us.all flatV = true
  | [], _, _, z, e => by
    have z' : _ = ([] : List V) := z
    cases e
    exact ⟨z', rfl⟩
  | o :: os, _, us, ⟨v, r, e1, z, t⟩, e => by
    subst e1
    have e' : (match o.d.fl, flL (O.dL os) with
      | some v, some vs => some (v :: vs)
      | _, _ => none) = some us := e
    split at e'
    · rename_i v' vs' q1 q2
      cases e'
      obtain ⟨rfl, f2⟩ := ownL_fl t q2
      cases o with
      | pur d =>
        obtain ⟨rfl, f1⟩ := fl_ok z q1
        exact ⟨rfl, by rw [List.all_cons, f1, f2]; rfl⟩
      | lst _ _ => cases q1
      | dK _ _ _ => cases q1
      | dT _ _ _ => cases q1
      | ins _ _ _ _ _ => cases q1
      | tup _ => cases q1
    · cases e'
def wInO (neg : Bool) (i : Nat) (wa : WE) : WE := fun We g P => wa We g fun o g1 => match g1[i]? with
  | some (some (.lst _ xs)) => roIn neg o.d (.lst (O.dL xs)) fun z => P z g1
  | _ => False
theorem in_se {neg : Bool} {i : Nat} (qa : ∀ b h σ g We P Q, Hold X.K b h σ g → wa We g P → ContX X.K g b h We W → Cont X.K g b h σ P Q → ta σ h Q) :
    ∀ b h σ g We P Q, Hold X.K b h σ g → wInO neg i wa We g P → ContX X.K g b h We W → Cont X.K g b h σ P Q → tOp (rIn X.K neg) ta (tVar i) σ h Q := by
  intro b h σ g We P Q k hw hx ct
  refine qa b h σ g We _ _ k hw hx fun v b' h' g' o k' f' p' => ?_
  obtain ⟨b2, k2, f2, zo⟩ := come k' f'
  split at p'
  · rename_i p1 xs e1
    obtain ⟨v1, ev1, ev2, vs, hp, z⟩ := k2.sl i _ e1
    subst ev2
    refine ⟨_, ev1, p1, vs, rfl, .inl (SqL.of hp), ?_⟩
    unfold roIn at p'
    simp only at p'
    split at p'
    · rename_i v' ws q1 q2
      obtain ⟨rfl, fx⟩ := fl_ok zo q1
      obtain ⟨rfl, fs⟩ := ownL_fl z q2
      exact ⟨fx, fs, fin k2 f2 (Res.same k2.sub (d := .bl _) rfl) ct p'⟩
    · exact p'.elim
  · exact p'.elim
theorem ge_inO {i : Nat} {x : Str} {p pos : Pos} (ha : GE X W a ta wa) (hN : X.N[i]? = some x := by rfl) (hv : Vis X.env.scope x := by first | exact Or.inl rfl | exact Or.inr (Or.inl rfl) | exact Or.inr (Or.inr rfl))
    (hd : (x == ("__debug__" : Str)) = false := by decide) (hcd : (x == ("__classdict__" : Str)) = false := by decide) (hm : behindInMarks .In (.Name x p) = false := by rfl) {K : PySem.W.Frag} (hK : X.K = K := by exact rfl) :
    GE X W (.Compare a [.In] [.Name x p] pos) (tOp (rIn K false) ta (tVar i)) (wInO false i wa) := by
  subst hK
  exact ⟨pe_cmpR op_in_seq ha.pe (pe_var hN hv hd hcd) hm, in_se ha.se⟩
theorem ge_notInO {i : Nat} {x : Str} {p pos : Pos} (ha : GE X W a ta wa) (hN : X.N[i]? = some x := by rfl) (hv : Vis X.env.scope x := by first | exact Or.inl rfl | exact Or.inr (Or.inl rfl) | exact Or.inr (Or.inr rfl))
    (hd : (x == ("__debug__" : Str)) = false := by decide) (hcd : (x == ("__classdict__" : Str)) = false := by decide) (hm : behindInMarks .NotIn (.Name x p) = false := by rfl) {K : PySem.W.Frag} (hK : X.K = K := by exact rfl) :
    GE X W (.Compare a [.NotIn] [.Name x p] pos) (tOp (rIn K true) ta (tVar i)) (wInO true i wa) := by
  subst hK
  exact ⟨pe_cmpR op_notIn_seq ha.pe (pe_var hN hv hd hcd) hm, in_se ha.se⟩
theorem gt_inO {i : Nat} {x : Str} {p pos : Pos} (ha : GE X W a ta wa) (hN : X.N[i]? = some x := by rfl) (hv : Vis X.env.scope x := by first | exact Or.inl rfl | exact Or.inr (Or.inl rfl) | exact Or.inr (Or.inr rfl))
    (hd : (x == ("__debug__" : Str)) = false := by decide) (hcd : (x == ("__classdict__" : Str)) = false := by decide) (hm : behindInMarks .In (.Name x p) = false := by rfl) {K : PySem.W.Frag} (hK : X.K = K := by exact rfl) :
    GT X W (.Compare a [.In] [.Name x p] pos) (tTest (tOp (rIn K false) ta (tVar i))) (wTest (wInO false i wa)) := by
  subst hK
  exact ⟨pt_cmpR op_in_seq ha.pe (pe_var hN hv hd hcd) hm, fun b h σ g We P Q k hw hx ct => in_se ha.se b h σ g We _ _ k hw hx fun v b' h' g' o k' f' p' => test_of k' f' p' ct⟩
theorem gt_notInO {i : Nat} {x : Str} {p pos : Pos} (ha : GE X W a ta wa) (hN : X.N[i]? = some x := by rfl) (hv : Vis X.env.scope x := by first | exact Or.inl rfl | exact Or.inr (Or.inl rfl) | exact Or.inr (Or.inr rfl))
    (hd : (x == ("__debug__" : Str)) = false := by decide) (hcd : (x == ("__classdict__" : Str)) = false := by decide) (hm : behindInMarks .NotIn (.Name x p) = false := by rfl) {K : PySem.W.Frag} (hK : X.K = K := by exact rfl) :
    GT X W (.Compare a [.NotIn] [.Name x p] pos) (tTest (tOp (rIn K true) ta (tVar i))) (wTest (wInO true i wa)) := by
  subst hK
  exact ⟨pt_cmpR op_notIn_seq ha.pe (pe_var hN hv hd hcd) hm, fun b h σ g We P Q k hw hx ct => in_se ha.se b h σ g We _ _ k hw hx fun v b' h' g' o k' f' p' => test_of k' f' p' ct⟩
end
end G
/-! G: sorted({y for x in A for y in B(x)}), the members tuples of ints. -/
namespace G
open PySem L2 TQ
open Evl (Ex)
def tupI (k : List Int) : D := .tup (k.map .int)
theorem denL_ints {K : PySem.W.Frag} {b : Hp} : ∀ {k : List Int} {vs : List V}, denL K b (k.map .int) vs → vs = k.map V.int
  | [], _, h => h
  | i :: k, _, ⟨v, r, e, z, t⟩ => by
    have z' : v = V.int i := z
    rw [e, z', denL_ints t]
    rfl
theorem denL_ints' {K : PySem.W.Frag} {b : Hp} : ∀ (k : List Int), denL K b (k.map .int) (k.map V.int)
  | [] => rfl
  | i :: k => ⟨_, _, rfl, rfl, denL_ints' k⟩
theorem den_tupI {K : PySem.W.Frag} {b : Hp} {k : List Int} {v : V} (h : den K b (tupI k) v) : ∃ a, v = .ref a ∧ b a = some (.tup (k.map V.int)) := by
  obtain ⟨a, vs, e, q, t⟩ := h
  rw [denL_ints t] at q
  exact ⟨a, e, q⟩
theorem tupI_den {K : PySem.W.Frag} {b : Hp} {k : List Int} {a : Addr} (h : b a = some (.tup (k.map V.int))) : den K b (tupI k) (.ref a) := ⟨a, _, rfl, h, denL_ints' k⟩
theorem nodup_subT : ∀ (xs ys : List (List Int)), xs.Nodup → (∀ x ∈ xs, x ∈ ys) → xs.length ≤ ys.length
  | [], _, _, _ => Nat.zero_le _
  | x :: xs, ys, nd, h => by
    obtain ⟨n1, n2⟩ := List.nodup_cons.mp nd
    have m := h x List.mem_cons_self
    have := nodup_subT xs (ys.erase x) n2 fun z mz => (List.mem_erase_of_ne fun e => n1 (by rw [← e]; exact mz)).mpr (h z (List.mem_cons_of_mem _ mz))
    rw [List.length_erase_of_mem m] at this
    have := List.length_pos_of_mem m
    rw [List.length_cons]
    omega
/-- the set at D has just the keys of acc -/
def Has (P : Program) (w : World) (K : PySem.W.Frag) (D : Addr) (b h : Hp) (acc : List (List Int)) : Prop := ∃ L : List (Addr × List Int), h D = some (SetG P w D L) ∧ (∀ p ∈ L, b p.1 = some (.tup (p.2.map V.int))) ∧ (L.map (·.2)).Nodup ∧ ∀ k, k ∈ L.map (·.2) ↔ k ∈ acc
@[irreducible] def wCp (wi : WI) (i0 i1 : Nat) (wi1 : WI) (vs : List Nat) : WE := fun We g P => wi We g fun ds g1 => i1 < g1.length ∧ ∃ f : D → List (List Int), (∃ U : List (List Int), U.length + 1 < 2400 ∧ ∀ k ∈ ds.flatMap f, k ∈ U) ∧ (∀ k ∈ ds.flatMap f, k ≠ []) ∧
  (∀ d, unwipe g1 ((wipeG g1 vs).set i0 (some (.pur d))) vs = g1) ∧
  (∀ d ∈ ds, wi1 (fun _ _ => False) ((wipeG g1 vs).set i0 (some (.pur d))) fun es g3 => g3 = (wipeG g1 vs).set i0 (some (.pur d)) ∧ es = (f d).map tupI) ∧
  ∀ ks p, Asc ks → (∀ k, k ∈ ks ↔ k ∈ ds.flatMap f) → P (.lst p ((ks.map tupI).map .pur)) g1
theorem own_irrel {K : PySem.W.Frag} {b b' h h' : Hp} {p : Addr} {o : HO} {σ : L2.St} {g : Gam} (k : Hold K b h σ g) (np : ¬ inF g p) (nb : b p = none) : Hold K b (upd h p o) σ g := k.aside np nb
section
variable {X : Cx} {W : WX}
theorem cp_se {K : PySem.W.Frag} {P0 : Program} {w0 : World} {ti ti1 : TI} {wi wi1 : WI} {i0 i1 : Nat} {vs : List Nat}
    (qi : ∀ b h σ g We P Q, Hold K b h σ g → wi We g P → ContX K g b h We W → (∀ J b' h' g' ds, Hold K b' h' σ g' → Frm g b h g' b' h' → Yields K b' h' J ds → P ds g' → Q J h') → ti σ h Q)
    (qi1 : ∀ b h σ g We P Q, Hold K b h σ g → wi1 We g P → ContX K g b h We W0 → (∀ J b' h' g' ds, Hold K b' h' σ g' → Frm g b h g' b' h' → Yields K b' h' J ds → P ds g' → Q J h') → ti1 σ h Q)
    (h0 : i0 ∈ vs) (h1 : i1 ∈ vs) : ∀ b h σ g We P Q, Hold K b h σ g → wCp wi i0 i1 wi1 vs We g P → ContX K g b h We W → Cont K g b h σ P Q →
      tCB (rSorted P0 w0 K) (tCons (tCp P0 w0 K ti (gName i0) ti1 (gName i1) (tVar i1) vs [i1]) tNil) σ h Q := by
  intro b h σ g We P Q k hw hx ct
  unfold wCp at hw
  refine qi b h σ g We _ _ k hw hx fun J b1 h1' g1 ds k1 f1 y ⟨li1, f, few, ne, wipe1, inner, fin1⟩ => fun D hD => ?_
  have nbD : b1 D = none := Evl.fresh_back k1.sub hD
  have ngD : ¬ inF g1 D := fun z => by obtain ⟨u, e⟩ := k1.inF_there z; rw [hD] at e; cases e
  refine ⟨fun i m H => m = ds.length - i ∧ i ≤ ds.length ∧ ∃ b', Hold K b' H σ g1 ∧ Frm g1 b1 h1' g1 b' H ∧ b' D = none ∧ Has P0 w0 K D b' H ((ds.take i).flatMap f),
    ⟨ds.length, by simp, Nat.zero_le _, b1, k1.aside ngD nbD, ⟨Ex.refl b1, fun a u e _ => by rw [upd_ne (ne_of_none e hD)]; exact e, fun a u e1 t e2 _ => e2, fun a z => .inl z⟩, nbD, [], upd_same, (fun p m => nomatch m), List.nodup_nil, fun q => by simp⟩, ?_⟩
  rintro i m H ⟨rfl, hi, b', k', f', nb', has⟩
  have yy := y b' H f'.bs k'.sub (fun a o e1 e2 => f'.keep a o e1 fun z => by rw [k1.inF_nb z] at e2; cases e2) i
  by_cases hlt : i < ds.length
  · have di : ds[i]? = some ds[i] := by simp [hlt]
    obtain ⟨d, ed⟩ : ∃ d, ds[i] = d := ⟨_, rfl⟩
    rw [ed] at di
    have dm : d ∈ ds := ed ▸ List.getElem_mem hlt
    obtain ⟨yg, yst⟩ := yy.2 d di
    have etake : ds.take (i + 1) = ds.take i ++ [d] := by rw [List.take_succ, di]; rfl
    have sub1 : ∀ q, q ∈ (ds.take (i + 1)).flatMap f → q ∈ ds.flatMap f := fun q m => by
      obtain ⟨e, m1, m2⟩ := List.mem_flatMap.mp m
      exact List.mem_flatMap.mpr ⟨e, List.mem_of_mem_take m1, m2⟩
    have len1 : ((ds.take (i + 1)).flatMap f).length ≤ (ds.flatMap f).length := by
      have e : ds.flatMap f = (ds.take (i + 1)).flatMap f ++ (ds.drop (i + 1)).flatMap f := by rw [← List.flatMap_append, List.take_append_drop]
      rw [e, List.length_append]
      omega
    have lenT : ((ds.take (i + 1)).flatMap f).length = ((ds.take i).flatMap f).length + (f d).length := by rw [etake, List.flatMap_append, List.length_append]; simp
    refine .inr ⟨yg, fun H4 => i + 1 ≤ ds.length ∧ ∃ b', Hold K b' H4 σ g1 ∧ Frm g1 b1 h1' g1 b' H4 ∧ b' D = none ∧ Has P0 w0 K D b' H4 ((ds.take (i + 1)).flatMap f), fun H4 z => ⟨ds.length - (i + 1), by omega, rfl, z.1, z.2⟩, fun x h2 yl => ?_⟩
    obtain ⟨b2, e1, e2, e3, n, z⟩ := yst x h2 yl
    obtain ⟨k2, f2⟩ := k'.wide e1 e2 e3 n
    have nb2 : b2 D = none := by
      obtain ⟨L, eL, _⟩ := has
      exact f2.nb D _ eL trivial nb' ngD
    have has2 : Has P0 w0 K D b2 h2 ((ds.take i).flatMap f) := by
      obtain ⟨L, eL, tp, ll, mem⟩ := has
      exact ⟨L, e2 D _ eL, fun p mp => e1 _ _ (tp p mp), ll, mem⟩
    obtain ⟨kw, sw⟩ := k2.wipe vs
    obtain ⟨kp, fp⟩ := (Res.same kw.sub z).lift kw
    obtain ⟨kq, sq⟩ := kp.put i0
    have hwp : L2.wipe ((L2.wipe σ vs).set i0 (some x)) vs = L2.wipe σ vs := wipe_sames ⟨by rw [List.length_set], fun j nj => List.getElem?_set_ne (fun (e : i0 = j) => nj (e ▸ h0))⟩
    refine ⟨hwp, ?_⟩
    obtain ⟨σ8, eσ8⟩ : ∃ σ8, (L2.wipe σ vs).set i0 (some x) = σ8 := ⟨_, rfl⟩
    obtain ⟨g2, eg2⟩ : ∃ g2, (wipeG g1 vs).set i0 (some (.pur d)) = g2 := ⟨_, rfl⟩
    have inn := inner d dm
    have unw := wipe1 d
    rw [eσ8] at kq hwp ⊢
    rw [eg2] at kq sq inn unw
    have sub2 : ∀ a, inF g2 a → inF g1 a := fun a q => by
      rcases inF_cons.mp (sq a q) with ⟨o, e, m⟩ | q
      · cases e; simp [foot] at m
      · exact sw a q
    have gsub : ∀ a, inF g1 a → inF g2 a := fun a q => by
      have := (k2.unwipe kq (Ex.refl b2) vs hwp).2 a
      rw [unw] at this
      exact this q
    have fr12 : ∀ {c c' : Hp} {h h' : Hp}, Frm g2 c h g2 c' h' → Frm g1 c h g1 c' h' := fun x => ⟨x.bs, fun a u e n => x.keep a u e fun z => n (sub2 a z), fun a u e1 t e2 n => x.nb a u e1 t e2 fun z => n (sub2 a z), fun a z => (x.new a (gsub a z)).elim (fun z => .inl (sub2 a z)) .inr⟩
    refine qi1 b2 h2 σ8 g2 _ _ _ kq inn contX0 fun J1 b4 h4 g4 es k4 f4 y4 ⟨eg4, ees⟩ => ?_
    rw [eg4] at k4 f4
    clear eg4
    have ng2 : ¬ inF g2 D := fun q => ngD (sub2 D q)
    have nb4 : b4 D = none := by
      obtain ⟨L, eL, _⟩ := has2
      exact f4.nb D _ eL trivial nb2 ng2
    have has4 : Has P0 w0 K D b4 h4 ((ds.take i).flatMap f) := by
      obtain ⟨L, eL, tp, ll, mem⟩ := has2
      exact ⟨L, f4.keep D _ eL ng2, fun p mp => f4.bs _ _ (tp p mp), ll, mem⟩
    -- the inner loop
    refine ⟨fun j m H => m = es.length - j ∧ j ≤ es.length ∧ ∃ b', Hold K b' H σ8 g2 ∧ Ex b4 b' ∧ Frm g1 b1 h1' g1 b' H ∧ b' D = none ∧ Has P0 w0 K D b' H ((ds.take i).flatMap f ++ (f d).take j),
      ⟨es.length, by simp, Nat.zero_le _, b4, k4, Ex.refl b4, f'.trans (f2.trans (fr12 f4)), nb4, by simpa using has4⟩, ?_⟩
    rintro j m H5 ⟨rfl, hj, b5, k5, x5, f5, nb5, has5⟩
    have y5 := y4 b5 H5 x5 k5.sub (fun a o e1 e2 => by
      have q1 := k4.sub a _ e2
      rw [e1] at q1
      cases q1
      exact k5.sub a _ (x5 a _ e2)) j
    by_cases hjl : j < es.length
    · have ej : es[j]? = some es[j] := by simp [hjl]
      have lf : j < (f d).length := by rw [ees, List.length_map] at hjl; exact hjl
      obtain ⟨q, eq⟩ : ∃ q, (f d)[j]? = some q := ⟨_, List.getElem?_eq_getElem lf⟩
      have ejq : es[j]? = some (tupI q) := by rw [ees, List.getElem?_map, eq]; rfl
      obtain ⟨yg5, yst5⟩ := y5.2 (tupI q) ejq
      refine .inr ⟨yg5, fun H6 => j + 1 ≤ es.length ∧ ∃ b', Hold K b' H6 σ8 g2 ∧ Ex b4 b' ∧ Frm g1 b1 h1' g1 b' H6 ∧ b' D = none ∧ Has P0 w0 K D b' H6 ((ds.take i).flatMap f ++ (f d).take (j + 1)), fun H6 z => ⟨es.length - (j + 1), by omega, rfl, z.1, z.2⟩, fun x1 h6 yl1 => ?_⟩
      obtain ⟨b6, u1, u2, u3, u4, z6⟩ := yst5 x1 h6 yl1
      obtain ⟨k6, f6⟩ := k5.wide u1 u2 u3 u4
      obtain ⟨xa, rfl, sx⟩ := den_tupI z6
      obtain ⟨L, eL, tp, ll, mem⟩ := has5
      have eL6 : h6 D = some (SetG P0 w0 D L) := u2 D _ eL
      have nb6 : b6 D = none := f6.nb D _ eL trivial nb5 ng2
      have ls8 : (L2.wipe σ8 [i1]).length = g1.length := by
        rw [wipe_length, ← eσ8, List.length_set, wipe_length, k1.len]
      refine ⟨wipe_sames ⟨by rw [List.length_set], fun t nt => List.getElem?_set_ne (fun (e : i1 = t) => nt (by simp [e]))⟩, .ref xa, List.getElem?_set_self (by rw [ls8]; exact li1), xa, L, q, rfl, eL6, fun p mp => SqT.of (k6.sub _ _ (u1 _ _ (tp p mp))), SqT.of (k6.sub _ _ sx), ?_, fun L' c1 c2 => ⟨hjl, b6, k6.aside ng2 nb6, x5.trans u1, ?_, nb6, L', upd_same, ?_, ?_, ?_⟩⟩
      · obtain ⟨U, lu, hU⟩ := few
        have hs := nodup_subT (L.map (·.2)) U ll fun t mt => hU t (by
          rcases List.mem_append.mp ((mem t).1 mt) with z | z
          · obtain ⟨e, m1, m2⟩ := List.mem_flatMap.mp z
            exact List.mem_flatMap.mpr ⟨e, List.mem_of_mem_take m1, m2⟩
          · exact List.mem_flatMap.mpr ⟨d, dm, List.mem_of_mem_take z⟩)
        rw [List.length_map] at hs
        omega
      · have ff := f5.trans (fr12 f6)
        refine ⟨ff.bs, fun a u e na => ?_, fun a u e t e' na => ff.nb a u e t e' na, fun a z => ff.new a z⟩
        rw [upd_ne (ne_of_none e hD)]
        exact ff.keep a u e na
      · intro p mp
        by_cases hq : q ∈ L.map (·.2)
        · rw [c1 hq] at mp
          exact u1 _ _ (tp p mp)
        · rcases List.mem_cons.mp ((c2 hq).mem_iff.mp mp) with e | mp
          · rw [e]; exact sx
          · exact u1 _ _ (tp p mp)
      · show (L'.map (·.2)).Nodup
        by_cases hq : q ∈ L.map (·.2)
        · rw [c1 hq]; exact ll
        · exact ((c2 hq).map (·.2)).nodup_iff.mpr (List.nodup_cons.mpr ⟨hq, ll⟩)
      · intro t
        have e5 : (f d).take (j + 1) = (f d).take j ++ [q] := by rw [List.take_succ, eq]; rfl
        rw [e5, ← List.append_assoc, List.mem_append, ← mem t, List.mem_singleton]
        by_cases hq : q ∈ L.map (·.2)
        · rw [c1 hq]
          exact ⟨.inl, fun z => z.elim id fun e => e ▸ hq⟩
        · rw [((c2 hq).map (·.2)).mem_iff, List.map_cons, List.mem_cons]
          exact Or.comm
    · have e : j = es.length := by omega
      have lf : (f d).length = j := by rw [e, ees, List.length_map]
      refine .inl ⟨y5.1 e, hlt, b5, ?_, ?_, nb5, ?_⟩
      · obtain ⟨ku, su⟩ := k'.unwipe k5 (f2.bs.trans (f4.bs.trans x5)) vs hwp
        rw [unw] at ku
        exact ku
      · exact f5
      · rw [etake, List.flatMap_append]
        rw [← lf, List.take_length] at has5
        simpa using has5
  · have e : i = ds.length := by omega
    subst e
    refine .inl ⟨yy.1 rfl, ?_⟩
    rw [List.take_length] at has
    obtain ⟨L, eL, tp, ll, mem⟩ := has
    refine ⟨D, L, rfl, eL, fun p mp => SqT.of (k'.sub _ _ (tp p mp)), fun p mp => ne _ ((mem _).1 (List.mem_map.mpr ⟨p, mp, rfl⟩)), fun L' l pm _ asc nl => ?_⟩
    have nbl : b' l = none := Evl.fresh_back k'.sub nl
    have ngl : ¬ inF g1 l := fun z => by obtain ⟨u, e⟩ := k'.inF_there z; rw [nl] at e; cases e
    have dl : ∀ M : List (Addr × List Int), (∀ p ∈ M, b' p.1 = some (.tup (p.2.map V.int))) → denL K b' ((M.map (·.2)).map tupI) (M.map fun q => V.ref q.1) := by
      intro M
      induction M with
      | nil => intro _; rfl
      | cons p M ih => intro hm; exact ⟨_, _, rfl, tupI_den (hm p List.mem_cons_self), ih fun q mq => hm q (List.mem_cons_of_mem _ mq)⟩
    have fl : foot (.lst l (((L'.map (·.2)).map tupI).map .pur)) = [l] := by
      show l :: footL _ = [l]
      rw [footL_pur]
    have ka := k'.aside (o := .lst (L'.map fun q => V.ref q.1)) ngl nbl
    refine ct (.ref l) b' _ g1 (.lst l (((L'.map (·.2)).map tupI).map .pur)) (ka.cons ⟨rfl, _, upd_same, ownL_pur (dl L' fun p mp => tp p (pm.mem_iff.mp mp))⟩ (by rw [fl]; simp) (fun a m => ?_) fun a m => ?_) ?_ (fin1 (L'.map (·.2)) l asc fun q => ?_)
    · have : a = l := by rw [fl] at m; simpa using m
      subst this; exact nbl
    · have : a = l := by rw [fl] at m; simpa using m
      subst this; exact ngl
    · refine f1.trans ⟨f'.bs, fun a u e n => ?_, f'.nb, fun a z => ?_⟩
      · have q := f'.keep a u e n
        rw [upd_ne (ne_of_none q nl)]
        exact q
      · rcases inF_cons.mp z with ⟨u, e, m⟩ | z
        · cases e
          have : a = l := by rw [fl] at m; simpa using m
          subst this
          cases e2 : h1' a with
          | none => exact .inr rfl
          | some u => exact absurd (f'.keep a u e2 ngl) (by rw [nl]; simp)
        · exact f'.new a z
    · exact ((pm.map (·.2)).mem_iff).trans (mem q)
theorem ge_cp {it0 it1 : Expr} {xn yn : Str} {scope : Scope} {mine : List (Str × Nat)} {i0 i1 : Nat} {p px py py2 cpos pos : Pos} {ti ti1 : TI} {wi wi1 : WI} (calm : X.calm = true) (hu : X.A.units + 16 < cLine) (hN : X.N.Nodup) (hm : X.mg "sorted" = none) (hi : GI X W (.Name xn px) it0 ti wi) (blk : BlkOk X.N X.env.scope scope mine)
    (hi1 : ∀ (s : Shared) (H : Hp) (C : Addr) (cl : List (Str × Addr)) (fp : List Addr), GI (X.blk s H scope (compEnvC scope cl C X.env) fp) W0 (.Name yn py) it1 ti1 wi1)
    (hg0 : ∀ (s : Shared) (H : Hp) (C : Addr) (cl : List (Str × Addr)) (fp : List Addr), PG (X.blk s H scope (compEnvC scope cl C X.env) fp) (.Name xn px) (gName i0))
    (hg1 : ∀ (s : Shared) (H : Hp) (C : Addr) (cl : List (Str × Addr)) (fp : List Addr), PG (X.blk s H scope (compEnvC scope cl C X.env) fp) (.Name yn py) (gName i1))
    (he : ∀ (s : Shared) (H : Hp) (C : Addr) (cl : List (Str × Addr)) (fp : List Addr), PE (X.blk s H scope (compEnvC scope cl C X.env) fp) (.Name yn py2) (tVar i1)) 
    (h0 : i0 ∈ mine.map (·.2) := by decide) (h1 : i1 ∈ mine.map (·.2) := by decide) (hg : Gl X "sorted" := by rfl)
    (fo : ∀ x, foldedSetIterable it0 X.env x = pure x := by intro _; rfl) (fo1 : ∀ env x, foldedSetIterable it1 env x = pure x := by intro _ _; rfl)
    (hs : starEach [cpr (.Name yn py2) (.Name xn px) it0 (.Name yn py) it1 scope cpos] X.env = (false, eval (cpr (.Name yn py2) (.Name xn px) it0 (.Name yn py) it1 scope cpos) X.env) :: starEach [] X.env := by rfl)
    (hpl : (backTo pos (starEach [] X.env)).any (·.1) = false := by rfl) :
    GE X W (.Call (.Name "sorted" p) [cpr (.Name yn py2) (.Name xn px) it0 (.Name yn py) it1 scope cpos] [] pos)
      (tCB (rSorted X.prog X.w X.K) (tCons (tCp X.prog X.w X.K ti (gName i0) ti1 (gName i1) (tVar i1) (mine.map (·.2)) [i1]) tNil)) (wCp wi i0 i1 wi1 (mine.map (·.2))) := by
  exact ⟨pe_callB (call_sorted calm hu) hg hm (by decide +kernel) (pa_cons (pe_cp calm (by omega) hN hi.pe blk (fun i m => by rw [List.mem_singleton.mp m]; exact h1) hg0 (fun s H C cl fp => (hi1 s H C cl fp).pe) hg1 he fo fo1) pa_nil hs) (by decide) (by decide) hs hpl,
    cp_se hi.se (hi1 X.s_0 X.H_0 0 [] []).se h0 h1⟩
end
end G
/-! G: classes of the program: making, fields, methods. -/
namespace G
open PySem PySem.Spec PyProof.Rows L2
open Evl (Ex)

theorem look_zip {f : Str} : ∀ {fs : List Str} {vs : List V} {j : Nat}, fs.findIdx? (· == f) = some j → fs.length = vs.length → (fs.zip vs).lookup f = vs[j]?
  | [], _, _, e, _ => by simp at e
  | g :: fs, [], _, _, h => by simp at h
  | g :: fs, v :: vs, j, e, h => by
    rw [List.findIdx?_cons] at e
    by_cases q : (g == f) = true
    · rw [if_pos q] at e
      cases e
      have : (f == g) = true := by rw [eq_of_beq q]; exact beq_self_eq_true _
      simp [List.lookup, this]
    · rw [if_neg q] at e
      obtain ⟨n, en, ej⟩ := Option.map_eq_some_iff.mp e
      have q2 : (f == g) = false := beq_eq_false_iff_ne.mpr fun z => q (by rw [z]; exact beq_self_eq_true _)
      have := look_zip en (by simpa using h)
      subst ej
      simp [List.lookup, q2, this]
theorem look_none {f : Str} : ∀ {fs : List Str} {vs : List V}, fs.findIdx? (· == f) = none → (fs.zip vs).lookup f = none
  | [], _, _ => by simp
  | g :: fs, [], _ => by simp
  | g :: fs, v :: vs, e => by
    rw [List.findIdx?_cons] at e
    by_cases q : (g == f) = true
    · rw [if_pos q] at e; cases e
    · rw [if_neg q] at e
      have q2 : (f == g) = false := beq_eq_false_iff_ne.mpr fun z => q (by rw [z]; exact beq_self_eq_true _)
      have := look_none (vs := vs) (by simpa using e)
      simp [List.lookup, q2, this]
theorem putF_new {f : Str} {y : V} : ∀ {fs : List Str} {vs : List V}, fs.length = vs.length → fs.findIdx? (· == f) = none → putF f y (fs.zip vs) = (fs ++ [f]).zip (vs ++ [y])
  | [], [], _, _ => rfl
  | g :: fs, v :: vs, h, e => by
    rw [List.findIdx?_cons] at e
    by_cases q : (g == f) = true
    · rw [if_pos q] at e; cases e
    · rw [if_neg q] at e
      show (if g = f then _ else (g, v) :: putF f y (fs.zip vs)) = _
      rw [if_neg (fun z => q (by rw [z]; exact beq_self_eq_true _)), putF_new (by simpa using h) (by simpa using e)]
      rfl
section
variable {X : Cx} {W : WX} {e : Expr} {te : TE} {we : WE}
/-- e.f of a pure instance -/
def wFld (C : Addr) (fs : List Str) (j : Nat) (we : WE) : WE := fun We g P => we We g fun o g1 => match o.d with
  | .ins C' fs' ds => C' = C ∧ fs' = fs ∧ (match ds[j]? with
    | some d => P (.pur d) g1
    | none => False)
  | _ => False
theorem denL_len' {K : PySem.W.Frag} {b : Hp} {ds : List D} {vs : List V} (h : denL K b ds vs) : ds.length = vs.length := denL_len h
theorem ge_fld {f : Str} {C : Addr} {fs : List Str} {j : Nat} {pos : Pos} (c : Cls X.K C) (n : NoAttr X.K C f) (hl : fs.findIdx? (· == f) = some j) (he : GE X W e te we) (hb : attributeBase e f X.env (eval e X.env) = eval e X.env := by rfl) {K : PySem.W.Frag} (hK : X.K = K := by exact rfl) :
    GE X W (.Attribute e f pos) (tFld K te f) (wFld C fs j we) := by
  subst hK
  refine ⟨pe_fld he.pe hb, fun b h σ g We P Q k hw hx ct => ?_⟩
  refine he.se b h σ g We _ _ k hw hx fun v b' h' g' o k' f' p' => ?_
  obtain ⟨b2, k2, f2, z⟩ := come k' f'
  split at p'
  · rename_i C' fs' ds e1
    obtain ⟨rfl, rfl, p'⟩ := p'
    rw [e1] at z
    obtain ⟨a, dx, vs, rfl, h1, h2, h3, h4⟩ := z
    split at p'
    · rename_i d ed
      obtain ⟨w, ew, zw⟩ := denL_at h4 ed
      refine ⟨a, C', dx, fs'.zip vs, w, rfl, k2.sub _ _ h1, c, n, (look_zip hl h3).trans ew, fin k2 f2 (Res.same k2.sub zw) ct p'⟩
    · exact p'.elim
  · exact p'.elim
/-- self.f = e, f new -/
def wFldS (C : Addr) (f : Str) (i : Nat) (wv : WE) : WS := fun We E g => wv We g fun u g1 => match g1[i]? with
  | some (some (.ins p dx C' fs xs)) => C' = C ∧ fs.findIdx? (· == f) = none ∧ fs.length < 1000 ∧ E.nx (g1.set i (some (.ins p dx C' (fs ++ [f]) (xs ++ [.pur u.d]))))
  | _ => False
theorem gs_fld {f x : Str} {C : Addr} {i : Nat} {p pos pos' : Pos} (c : Cls X.K C) (n : NoAttr X.K C f) (he : GE X W e te we) (hN : X.N[i]? = some x := by rfl) (hv : Vis X.env.scope x := by first | exact Or.inl rfl | exact Or.inr (Or.inl rfl) | exact Or.inr (Or.inr rfl))
    (hd : (x == ("__debug__" : Str)) = false := by decide) (hcd : (x == ("__classdict__" : Str)) = false := by decide) (hs : swapsWith e (some (.Attribute (.Name x p) f pos')) pos.line X.env = pure false := by rfl) :
    GS X W (.Assign [.Attribute (.Name x p) f pos'] e pos) (wFldS C f i we) := by
  refine ⟨sFld X.K (tVar i) te f, ps_fld (pe_var hN hv hd hcd) he.pe hs, fun b h σ g We E D k hw hx ct => ?_⟩
  refine he.se b h σ g We _ _ k hw hx fun v b' h' g' o k' f' p' => ?_
  obtain ⟨b2, k2, f2, z⟩ := come k' f'
  split at p'
  · rename_i p0 dx C' fs xs e1
    obtain ⟨rfl, q1, q2, p'⟩ := p'
    obtain ⟨w, ew, rfl, vs, h1, h2, h3, h4⟩ := k2.sl i _ e1
    have nd := k2.nd i _ e1
    obtain ⟨nd1, nd2⟩ := List.nodup_cons.mp nd
    obtain ⟨nd3, nd4⟩ := List.nodup_cons.mp nd2
    have ne : dx ≠ p0 := fun z => nd1 (by rw [z]; exact List.mem_cons_self ..)
    have np : p0 ∉ footL xs := fun z => nd1 (List.mem_cons_of_mem _ z)
    refine ⟨.ref p0, ew, p0, C', dx, fs.zip vs, rfl, h1, c, n, by rw [List.length_zip]; omega, ?_⟩
    rw [putF_new h3 q1]
    obtain ⟨k3, f3⟩ := k2.upd_root (o' := .ins p0 dx C' (fs ++ [f]) (xs ++ [.pur o.d])) (ob := .ins C' dx ((fs ++ [f]).zip (vs ++ [v]))) e1 rfl rfl
      ⟨rfl, _, upd_same, by rw [upd_ne ne]; exact h2, by simp [h3], ownL_app (us := [.pur o.d]) (ws := [v]) (ownL_aside h4 np) ⟨v, [], rfl, z, rfl⟩⟩
      (fun a m => by simpa [foot, footL_app, footL] using m) (by simpa [foot, footL_app, footL] using nd)
    exact ct.nx _ _ _ _ k3 (f2.trans f3) p'
  · exact p'.elim

/-! ### methods -/
variable {es : List Expr} {t : TA} {wa : WA}
def tMethX (C : Addr) (m : Str) (sp : Sp) (E : L2.St → XK) (ta : TE) (t : TA) : TE := fun σ H Q => ta σ H fun x H1 => ∃ a dx fs, x = .ref a ∧ H1 a = some (.ins C dx fs) ∧ fs.lookup m = none ∧ t σ H1 fun vs H2 => sp (x :: vs) H2 Q (E σ)
theorem pe_methX {CX : CXT} {k : Nat} {f C : Addr} {fd : FuncData} {ps : List Str} {sp : Sp} {E : L2.St → XK} {m : Str} {pos apos : Pos} {o : Expr} {ta : TE} {pl : Sem Bool} (he : PE X o ta) (c : Cls X.K C) (hm : Meth X.K C m f) (F : FnOk X.prog X.w X.K X.mg X.base CX k f fd ps sp) (hr : Room k X.A)
    (hb : Binds X.K fd ps []) (hx : ∀ σ, PassesAt CX X σ (E σ)) (ha : PA X (e :: es) t) (hst : starEach (e :: es) X.env = (false, eval e X.env) :: starEach es X.env := by rfl) (hpl : (backTo pos (starEach es X.env)).any (·.1) = false := by rfl)
    (ht : eval (.Call (.Attribute o m apos) (e :: es) [] pos) X.env = (do
      let ov ← eval o X.env
      standAt apos.atName
      let (f, first) ← holding [ov] (getMethod ov m pl)
      callWith pos f first (backTo pos (starEach (e :: es) X.env)) (backToKw pos (keywordEach [] X.env))) := by rfl) : PE X (.Call (.Attribute o m apos) (e :: es) [] pos) (tMethX C m sp E ta t) := by
  refine ⟨fun pins s σ H Q I w => ?_⟩
  refine PySem.W.methodCall_KW (pl := pl) (thn (he.run pins s σ H _ I w) fun u s1 ⟨x, H1, I1, rx, a, dx, fs, ex, ea, l, q⟩ => ?_) ht
  subst ex
  obtain rfl : u = Value.ref a := rx
  refine getmeth_ok I1 ea c hm l ?_
  refine PySem.W.callWith_K (first := [.ref a]) (h₀ := X.base) I.ok.mod.kin hm.kp (thn (ha.run pos pins s1 σ H1 _ I1 q) fun us s2 ⟨vs, H2, I2, r, q2⟩ => ⟨I2.kIn, ?_⟩) hst hpl
  exact run_fnS (us := .ref a :: us) (vs := .ref a :: vs) F hr hb (hx σ) I2 (.cons rfl r) q2
/-- a method of the class at the name x: qualified as the class's -/
structure FnM (P : Program) (w : World) (K : PySem.W.Frag) (mg : Str → Option Value) (base : Heap) (k : Nat) (C : Addr) (m : Str) (ps : List Str) (pm : Pm) : Prop where
  ex : ∃ f fd, FnG P w K mg base k f fd ps pm ∧ Meth K C m f ∧ Binds K fd ps []
theorem FnM.mono {P : Program} {w : World} {K : PySem.W.Frag} {mg : Str → Option Value} {base : Heap} {j k : Nat} {C : Addr} {m : Str} {ps : List Str} {pm : Pm} (F : FnM P w K mg base j C m ps pm) (h : j ≤ k) : FnM P w K mg base k C m ps pm := by
  obtain ⟨f, fd, F, a, b⟩ := F.ex
  exact ⟨f, fd, FnOk.mono F h, a, b⟩
/-- x.m(..), x an own instance -/
def wMethO (C : Addr) (m : Str) (n : Nat) (pm : Pm) (i : Nat) (wa : WA) : WE := fun We g P => (match g[i]? with
  | some (some (.ins _ _ C' fs _)) => C' = C ∧ fs.findIdx? (· == m) = none
  | _ => False) ∧ wCall n pm (wBor i wa) We g P
theorem ge_methO {k : Nat} {C : Addr} {ps : List Str} {pm : Pm} {m x : Str} {i : Nat} {p pos apos : Pos} {pl : Sem Bool} (c : Cls X.K C) (Cx : Ctx X W) (F : FnM X.prog X.w X.K X.mg X.base k C m ps pm) (hr : Room k X.A) (ha : GA X W (e :: es) t wa)
    (hN : X.N[i]? = some x := by rfl) (hv : Vis X.env.scope x := by first | exact Or.inl rfl | exact Or.inr (Or.inl rfl) | exact Or.inr (Or.inr rfl)) (hd : (x == ("__debug__" : Str)) = false := by decide) (hcd : (x == ("__classdict__" : Str)) = false := by decide)
    (hst : starEach (e :: es) X.env = (false, eval e X.env) :: starEach es X.env := by rfl) (hpl : (backTo pos (starEach es X.env)).any (·.1) = false := by rfl)
    (ht : eval (.Call (.Attribute (.Name x p) m apos) (e :: es) [] pos) X.env = (do
      let ov ← eval (.Name x p) X.env
      standAt apos.atName
      let (f, first) ← holding [ov] (getMethod ov m pl)
      callWith pos f first (backTo pos (starEach (e :: es) X.env)) (backToKw pos (keywordEach [] X.env))) := by rfl) :
    GE X W (.Call (.Attribute (.Name x p) m apos) (e :: es) [] pos) (tMethX C m (spOf X.K ps.length pm) (L2.WE W) (tVar i) t) (wMethO C m ps.length pm i wa) := by
  obtain ⟨f, fd, F, hm, hb⟩ := F.ex
  refine ⟨pe_methX (pl := pl) (pe_var hN hv hd hcd) c hm F hr hb (fun σ => passAt Cx.tk σ) ha.pe hst hpl ht, fun b h σ g We P Q k ⟨h0, hw⟩ hx ct => ?_⟩
  split at h0
  · rename_i p0 dx C' fs xs e0
    obtain ⟨rfl, h0⟩ := h0
    obtain ⟨v0, ev0, rfl, vs0, q1, q2, q3, q4⟩ := k.sl i _ e0
    refine ⟨.ref p0, ev0, p0, dx, fs.zip vs0, rfl, q1, look_none h0, ?_⟩
    have := call_se (X := X) (W := W) (n := ps.length) (pm := pm) (ga_bor (i := i) (x := x) (p := p) ha hN hv hd hcd (by rfl)).se b h σ g We P Q k (show wCall _ _ _ _ _ _ from ⟨by rw [e0]; trivial, hw⟩) hx ct
    obtain ⟨v1, ev1, z⟩ := this
    rw [ev0] at ev1
    cases ev1
    exact z
  · exact h0.elim

/-! ### making -/
def tMakeX (C : Addr) (sp : Sp) (E : L2.St → XK) (t : TA) : TE := fun σ H Q => t σ H fun vs H1 => ∀ x dx, H1 x = none → H1 dx = none → dx ≠ x → sp (.ref x :: vs) (upd (upd H1 dx (.own x)) x (.ins C dx [])) (fun v H2 => v = .non ∧ Q (.ref x) H2) (E σ)
theorem pe_makeX {CX : CXT} {k : Nat} {f C : Addr} {fd : FuncData} {ps : List Str} {sp : Sp} {E : L2.St → XK} {x : Str} {p pos : Pos} (M : Mk X.K C f) (F : FnOk X.prog X.w X.K X.mg X.base CX k f fd ps sp) (hr : Room (k + 1) X.A) (hg : Gl X x) (hm : X.mg x = some (.ref C)) (hb : Binds X.K fd ps [])
    (hx : ∀ σ, PassesAt CX X σ (E σ)) (ha : PA X (e :: es) t) (hdb : (x == ("__debug__" : Str)) = false := by decide) (he : starEach (e :: es) X.env = (false, eval e X.env) :: starEach es X.env := by rfl) (hpl : (backTo pos (starEach es X.env)).any (·.1) = false := by rfl) :
    PE X (.Call (.Name x p) (e :: es) [] pos) (tMakeX C sp E t) := by
  refine ⟨fun pins u0 σ H Q I w => ?_⟩
  refine wpAny_Call_Name_kw (ld_glob I hg hm ?_ hdb)
  refine PySem.W.callWith_K (h₀ := X.base) I.ok.mod.kin M.kp (thn (ha.run pos pins u0 σ H _ I w) fun us s ⟨vs, H1, I1, r, q⟩ => ⟨I1.kIn, ?_⟩) he hpl
  have big := q (s.heap.objs.size + 1) s.heap.objs.size (I1.hok.fresh (Nat.le_succ _)) (I1.hok.fresh (Nat.le_refl _)) (Nat.ne_of_lt (Nat.lt_succ_self _))
  have I2 := Inv.made (C := C) I1
  have r2 : Vals (V.ref (s.heap.objs.size + 1) :: vs) (Value.ref (s.heap.objs.size + 1) :: us) := .cons rfl r
  have len : (Value.ref (s.heap.objs.size + 1) :: us).length = ps.length := by rw [← r2.length]; exact F.len _ _ _ _ big
  have bnd := hb _ (Value.ref (s.heap.objs.size + 1) :: us) I2.kIn (by rw [List.append_nil]; exact len)
  rw [List.append_nil] at bnd
  refine wpAny_call (make_map (f := f) I1.kIn M.makes M.init (beq_iff_eq.mp M.fn) (codeAny_mono (F.run _ X.stack _ _ ⟨Value.ref (s.heap.objs.size + 1) :: us, []⟩ _ _ _ _ (hr.make C us []) (I2.env0.make C us []) bnd r2 big) fun r s' hq => ?_))
  cases r with
  | error x => exact hx σ pins _ _ x s' I2 hq
  | ok fl =>
    cases fl with
    | ret u =>
      obtain ⟨v, H', I3, rv, ev, q3⟩ := I2.after hq
      subst ev
      exact ⟨rv, ⟨V.ref (s.heap.objs.size + 1), H', I3, rfl, q3⟩⟩
    | next => exact False.elim hq
    | brk => exact False.elim hq
    | cont => exact False.elim hq
/-- a class that can be made: its __init__ -/
structure FnI (P : Program) (w : World) (K : PySem.W.Frag) (mg : Str → Option Value) (base : Heap) (k : Nat) (x : Str) (C : Addr) (ps : List Str) (pm : Pm) : Prop where
  ex : ∃ f fd, FnG P w K mg base k f fd ps pm ∧ Mk K C f ∧ mg x = some (.ref C) ∧ Binds K fd ps []
def wMake (C : Addr) (n : Nat) (pm : Pm) (wa : WA) : WE := fun We g P => wa We g fun as g1 => match argsO g1 as with
  | some os => os.length + 1 = n ∧ (bors as).Nodup ∧ ∀ x dx, pm (.ins x dx C [] [] :: os) (fun xo g' => We xo (back g1 as g'.tail)) fun o g' => o = .pur .non ∧ (match g' with
    | some u :: r => root u = some x ∧ P u (back g1 as r)
    | _ => False)
  | none => False
theorem ge_make {k : Nat} {C : Addr} {ps : List Str} {pm : Pm} {x : Str} {p pos : Pos} (Cx : Ctx X W) (F : FnI X.prog X.w X.K X.mg X.base k x C ps pm) (hr : Room (k + 1) X.A) (ha : GA X W (e :: es) t wa) (hg : Gl X x := by rfl)
    (hdb : (x == ("__debug__" : Str)) = false := by decide) (he : starEach (e :: es) X.env = (false, eval e X.env) :: starEach es X.env := by rfl) (hpl : (backTo pos (starEach es X.env)).any (·.1) = false := by rfl) :
    GE X W (.Call (.Name x p) (e :: es) [] pos) (tMakeX C (spOf X.K ps.length pm) (L2.WE W) t) (wMake C ps.length pm wa) := by
  obtain ⟨f, fd, F, M, hm, hb⟩ := F.ex
  refine ⟨pe_makeX M F hr hg hm hb (fun σ => passAt Cx.tk σ) ha.pe hdb he hpl, fun b h σ g We P Q k hw hx ct => ?_⟩
  refine ha.se b h σ g We _ _ k hw hx fun vs b1 h1 g1 as k1 f1 z p1 => ?_
  intro x dx nx ndx ne
  cases e1 : argsO g1 as with
  | none => rw [e1] at p1; exact p1.elim
  | some os =>
    rw [e1] at p1
    obtain ⟨hl, nd, p1⟩ := p1
    obtain ⟨k2, f2, l2⟩ := callee_in k1 z e1 nd
    have bx : b1 x = none := Evl.fresh_back k1.sub nx
    have bdx : b1 dx = none := Evl.fresh_back k1.sub ndx
    have nix : ¬ inF (os.map some) x := fun q => by obtain ⟨u, e⟩ := k2.inF_there q; rw [nx] at e; cases e
    have nidx : ¬ inF (os.map some) dx := fun q => by obtain ⟨u, e⟩ := k2.inF_there q; rw [ndx] at e; cases e
    have k3 : Hold X.K b1 (upd (upd h1 dx (.own x)) x (.ins C dx [])) (vs.map some) (os.map some) := (k2.aside nidx bdx).aside nix bx
    have k4 : Hold X.K b1 (upd (upd h1 dx (.own x)) x (.ins C dx [])) (some (.ref x) :: vs.map some) (some (.ins x dx C [] []) :: os.map some) :=
      k3.cons (o := .ins x dx C [] []) ⟨rfl, [], upd_same, by rw [upd_ne ne, upd_same], rfl, rfl⟩ (by simp [foot, footL]; exact Ne.symm ne) (fun a m => by
        rcases (by simpa [foot, footL] using m : a = x ∨ a = dx) with rfl | rfl
        · exact bx
        · exact bdx) fun a m => by
        rcases (by simpa [foot, footL] using m : a = x ∨ a = dx) with rfl | rfl
        · exact nix
        · exact nidx
    have fn : Frm (os.map some) b1 h1 (some (.ins x dx C [] []) :: os.map some) b1 (upd (upd h1 dx (.own x)) x (.ins C dx [])) := by
      refine ⟨Ex.refl b1, fun a u e n => ?_, fun _ _ _ _ e _ => e, fun a q => ?_⟩
      · rw [upd_ne (ne_of_none e nx), upd_ne (ne_of_none e ndx)]; exact e
      · rcases inF_cons.mp q with ⟨u, e, m⟩ | q
        · cases e
          rcases (by simpa [foot, footL] using m : a = x ∨ a = dx) with rfl | rfl
          · exact .inr nx
          · exact .inr ndx
        · exact .inl q
    refine ⟨b1, .ins x dx C [] [] :: os, _, _, by simpa using hl, k4, p1 x dx, fun v b5 h5 g5 o k5 f5 p5 => ?_, fun cls d b5 h5 g5 xo k5 f5 z5 p5 => ?_⟩
    · obtain ⟨eo, p5⟩ := p5
      subst eo
      obtain ⟨zo, _, _, _⟩ := k5.head
      cases g5 with
      | nil => exact p5.elim
      | cons y r => cases y with
        | none => exact p5.elim
        | some u =>
          obtain ⟨ru, p5⟩ := p5
          refine ⟨zo, ?_⟩
          have k6 : Hold X.K b5 h5 (some (.ref x) :: vs.map some) (some u :: r) := k5.tail
          have f6 : Frm (os.map some) b1 h1 (some u :: r) b5 h5 := fn.trans (f5.sub fun a q => inF_cons.mpr (.inr q))
          obtain ⟨k7, f7⟩ := callee_out k1 z e1 nd k6 f6
          exact ct (.ref x) b5 h5 _ u k7 (f1.trans f7) p5
    · have k6 : Hold X.K b5 h5 (vs.map some) g5.tail := by
        cases g5 with
        | nil => have := k5.len; simp at this
        | cons y r => exact k5.tail
      have f6 : Frm (os.map some) b1 h1 g5.tail b5 h5 := fn.trans (f5.sub fun a q => by
        cases g5 with
        | nil => exact q
        | cons y r => exact inF_cons.mpr (.inr q))
      obtain ⟨k6', f6'⟩ := (Res.same k6.sub (d := .non) (v := .non) rfl : Res X.K b5 h5 b5 h5 .non (.pur .non)).lift k6
      obtain ⟨k7, f7⟩ := callee_out k1 z e1 nd k6' (f6.trans f6')
      exact hx cls d σ b5 h5 _ xo k7.tail (f1.trans (f7.sub fun a q => inF_cons.mpr (.inr q))) z5 p5
end
end G
/-! G: enumerate; dicts with tuple keys; sorted; list + list; turned rows. -/
namespace G
open PySem PySem.Spec PyProof.Rows L2 TQ
open Evl (Ex)
/-! ### enumerate -/
def enD : Nat → List D → List D
  | _, [] => []
  | k, d :: ds => .tup [.int (k : Nat), d] :: enD (k + 1) ds
theorem enD_at : ∀ {ds : List D} {k i : Nat}, (enD k ds)[i]? = ds[i]?.map fun d => .tup [.int ((k + i : Nat) : Int), d]
  | [], _, _ => by simp [enD]
  | d :: ds, k, 0 => by simp [enD]
  | d :: ds, k, i + 1 => by
    show (enD (k + 1) ds)[i]? = _
    rw [enD_at, show k + 1 + i = k + (i + 1) by omega]
    simp
theorem enD_len : ∀ (ds : List D) (k : Nat), (enD k ds).length = ds.length
  | [], _ => rfl
  | d :: ds, k => by show (enD (k + 1) ds).length + 1 = _; rw [enD_len]; rfl
theorem en_new {K : PySem.W.Frag} {b b' h' : Hp} {i : Nat} {d : D} {vs : List V} {T : Addr} {x : V} (e1 : Ex b b') (e2 : Ex b' h') (nT : h' T = none) (z : den K b d x) :
    ∃ b2, Ex b' b2 ∧ Ex h' (upd h' T (.tup [.int (i : Nat), x])) ∧ Ex b2 (upd h' T (.tup [.int (i : Nat), x])) ∧ (∀ a, b2 a ≠ none → b' a = none → newT h' a) ∧ den K b2 (.tup [.int (i : Nat), d]) (.ref T) := by
  have nb := Evl.fresh_back e2 nT
  refine ⟨upd b' T (.tup [.int (i : Nat), x]), Ex.new nb, Ex.new nT, fun a u e => ?_, fun a n1 n2 => ?_, T, [.int (i : Nat), x], rfl, upd_same, _, _, rfl, rfl, x, [], rfl, den_mono (e1.trans (Ex.new nb)) d x z, rfl⟩
  · by_cases ha : a = T
    · subst ha; rw [upd_same] at e ⊢; exact e
    · rw [upd_ne ha] at e ⊢; exact e2 a u e
  · by_cases ha : a = T
    · rw [ha]; exact .inl nT
    · rw [upd_ne ha] at n1; exact absurd n2 n1
theorem yields_enT {K : PySem.W.Frag} {b h : Hp} {ds : List D} {a : Addr} {vs : List V} (q : b a = some (.tup vs)) (t : denL K b ds vs) : Yields K b h (Iet K a) (enD 0 ds) := by
  intro b' h' e1 e2 e3 i
  have q' : SqT K h' a vs := SqT.of (e2 _ _ (e1 _ _ q))
  refine ⟨fun e => ⟨vs, q', by rw [← denL_len t, e, enD_len]⟩, fun d r => ?_⟩
  rw [enD_at] at r
  obtain ⟨c, ec, ed⟩ := Option.map_eq_some_iff.mp r
  obtain ⟨v, ev, z⟩ := denL_at t ec
  refine ⟨⟨vs, v, q', ev⟩, fun x h2 ⟨T, y, e4, nT, e5, e6⟩ => ?_⟩
  have := e6 vs q'
  rw [ev] at this
  cases this
  subst e4 e5 ed
  have := en_new (i := i) (vs := vs) e1 e2 nT z
  simpa using this
theorem yields_enL {K : PySem.W.Frag} {b h : Hp} {ds : List D} {a : Addr} {vs : List V} (q : b a = some (.lst vs)) (t : denL K b ds vs) : Yields K b h (Ite K a) (enD 0 ds) := by
  intro b' h' e1 e2 e3 i
  have q' : SqL K h' a vs := SqL.of (e2 _ _ (e1 _ _ q))
  refine ⟨fun e => ⟨vs, q', by rw [← denL_len t, e, enD_len]; exact Nat.le_refl _⟩, fun d r => ?_⟩
  rw [enD_at] at r
  obtain ⟨c, ec, ed⟩ := Option.map_eq_some_iff.mp r
  obtain ⟨v, ev, z⟩ := denL_at t ec
  refine ⟨⟨vs, v, q', ev⟩, fun x h2 ⟨T, y, e4, nT, e5, e6⟩ => ?_⟩
  have := e6 vs q'
  rw [ev] at this
  cases this
  subst e4 e5 ed
  have := en_new (i := i) (vs := vs) e1 e2 nT z
  simpa using this
section
variable {X : Cx} {W : WX} {e : Expr} {te : TE} {we : WE} {ta : TA} {wa : WA}
def wIEnT (wa : WA) : WI := fun We g P => wa We g fun as g1 => match allVal as with
  | some [.tup ds] => P (enD 0 ds) g1
  | _ => False
def wIEnL (wa : WA) : WI := fun We g P => wa We g fun as g1 => match allVal as with
  | some [.lst ds] => P (enD 0 ds) g1
  | _ => False
theorem gi_enumT {p pos tpos : Pos} {elts : List Expr} {kk : Nat} (hm : X.mg "enumerate" = none) (ha : GA X W [e] ta wa) (hg : Gl X "enumerate" := by rfl) (hs : starEach [e] X.env = [(false, eval e X.env)] := by rfl) {K : PySem.W.Frag} (hK : X.K = K := by exact rfl) :
    GI X W (.Tuple elts kk tpos) (.Call (.Name "enumerate" p) [e] [] pos) (iEnT K ta) (wIEnT wa) := by
  subst hK
  refine ⟨pi_enT hg hm ha.pe hs, fun b h σ g We P Q k hw hx c => ?_⟩
  refine ha.se b h σ g We _ _ k hw hx fun vs b' h' g' as k' f' z p => ?_
  split at p
  · rename_i ds ed
    obtain ⟨v, rfl, a, xs, rfl, q, t⟩ := denL1 (allVal_ok z ed)
    exact ⟨a, xs, rfl, SqT.of (k'.sub _ _ q), c _ b' h' g' _ k' f' (yields_enT q t) p⟩
  · exact p.elim
theorem gi_enumL {p pos tpos : Pos} {elts : List Expr} {kk : Nat} (hm : X.mg "enumerate" = none) (ha : GA X W [e] ta wa) (hg : Gl X "enumerate" := by rfl) (hs : starEach [e] X.env = [(false, eval e X.env)] := by rfl) {K : PySem.W.Frag} (hK : X.K = K := by exact rfl) :
    GI X W (.Tuple elts kk tpos) (.Call (.Name "enumerate" p) [e] [] pos) (iEnum K ta) (wIEnL wa) := by
  subst hK
  refine ⟨pi_enum hg hm ha.pe hs, fun b h σ g We P Q k hw hx c => ?_⟩
  refine ha.se b h σ g We _ _ k hw hx fun vs b' h' g' as k' f' z p => ?_
  split at p
  · rename_i ds ed
    obtain ⟨v, rfl, a, xs, rfl, q, t⟩ := denL1 (allVal_ok z ed)
    exact ⟨a, xs, rfl, SqL.of (k'.sub _ _ q), c _ b' h' g' _ k' f' (yields_enL q t) p⟩
  · exact p.elim

/-! ### in a dict with tuple keys -/
def kI (k : List Int) : List Key := k.map Sum.inl
theorem kI_kV (k : List Int) : (kI k).map kV = k.map V.int := by unfold kI; rw [List.map_map]; rfl
theorem kI_inj {k m : List Int} (h : kI k = kI m) : k = m := by
  have := congrArg (List.map kV) h
  rw [kI_kV, kI_kV] at this
  exact List.map_inj_right (f := V.int) (fun a b e => by injection e) |>.mp this
theorem find_kI {k : List Int} : ∀ {ks : List (List Int)}, findK (ks.map kI) (kI k) = ks.findIdx? (· == k)
  | [] => rfl
  | m :: ks => by
    rw [List.map_cons, findK_cons, List.findIdx?_cons]
    by_cases h : m = k
    · subst h; simp
    · have h2 : ¬ kI m = kI k := fun z => h (kI_inj z)
      have h3 : ¬ (m == k) = true := fun z => h (eq_of_beq z)
      rw [if_neg h2, if_neg h3, find_kI]
theorem valT_zip {k : List Key} {ks : List (List Key)} {vs : List V} (h : ks.length = vs.length) : (valV (ks.zip vs) k).isSome = (findK ks k).isSome := by
  rw [← any_zip h, valV_any]
theorem find_mem {k : List Int} {ks : List (List Int)} : (findK (ks.map kI) (kI k)).isSome = decide (k ∈ ks) := by
  rw [find_kI, List.findIdx?_isSome]
  by_cases h : k ∈ ks
  · simp [h]
  · simp only [h, decide_false, List.any_eq_false, beq_iff_eq]
    exact fun x m e => h (e ▸ m)
@[irreducible] def roInT (neg : Bool) : RO := fun x y P => match y with
  | .dT ks _ => ∃ k : List Int, x = tupI k ∧ P (.pur (.bl (if neg then !(findK ks (kI k)).isSome else (findK ks (kI k)).isSome)))
  | _ => False
def rInT : R2 := fun x y H Q => ∃ a o, y = .ref a ∧ DGet H a x o ∧ Q (.bl o.isSome) H
def rNotInT : R2 := fun x y H Q => ∃ a o, y = .ref a ∧ DGet H a x o ∧ Q (.bl (!o.isSome)) H
theorem og_inT (hu : X.A.units + 64 < cLine) : OpG X (compareOp .In) rInT (roInT false) := by
  refine ⟨fun pins s σ H x y u v Q I rx ry hq => ?_, fun b hh x y dx dy P Q s zx zy hr c => ?_⟩
  · obtain ⟨a, o, rfl, g, q⟩ := hq
    cases ry
    exact d_in (by omega) I g rx fun s' I' => ⟨.bl o.isSome, H, I', rfl, q⟩
  · unfold roInT at hr
    split at hr
    · rename_i ks ds
      obtain ⟨k, rfl, hr⟩ := hr
      obtain ⟨a, rfl, q⟩ := den_tupI zx
      obtain ⟨d, vs, rfl, h1, h2, h3⟩ := zy
      refine ⟨d, _, rfl, DGet.t (k := kI k) (s _ _ h1) (by rw [kI_kV]; exact s _ _ q), ?_⟩
      rw [valT_zip h2]
      exact c _ b hh (.pur (.bl _)) (Res.same s rfl) hr
    · exact hr.elim
theorem og_notInT (hu : X.A.units + 64 < cLine) : OpG X (compareOp .NotIn) rNotInT (roInT true) := by
  refine ⟨fun pins s σ H x y u v Q I rx ry hq => ?_, fun b hh x y dx dy P Q s zx zy hr c => ?_⟩
  · obtain ⟨a, o, rfl, g, q⟩ := hq
    cases ry
    exact d_notIn (by omega) I g rx fun s' I' => ⟨.bl (!o.isSome), H, I', rfl, q⟩
  · unfold roInT at hr
    split at hr
    · rename_i ks ds
      obtain ⟨k, rfl, hr⟩ := hr
      obtain ⟨a, rfl, q⟩ := den_tupI zx
      obtain ⟨d, vs, rfl, h1, h2, h3⟩ := zy
      refine ⟨d, _, rfl, DGet.t (k := kI k) (s _ _ h1) (by rw [kI_kV]; exact s _ _ q), ?_⟩
      rw [valT_zip h2]
      exact c _ b hh (.pur (.bl _)) (Res.same s rfl) hr
    · exact hr.elim

/-! ### an own dict with tuple keys -/
def wDNewT : WE := fun _ g P => ∀ p, P (.dT p [] []) g
theorem ge_dnewT {pos : Pos} : GE X W (.Dict [] [] pos) tDNewT wDNewT := by
  refine ⟨pe_dnewT, fun b h σ g We P Q k hw hx ct => fun p hp => ?_⟩
  exact fin k (Frm.refl g b h) (Res.own1 (ob := .dT []) (o := .dT p [] []) k.sub hp ⟨rfl, [], upd_same, rfl, rfl⟩ (by simp [foot, footL])) ct (hw p)
def isDT (x : Option (Option O)) : Prop := match x with
  | some (some (.dT _ _ _)) => True
  | _ => False
theorem Hold.dt {K : PySem.W.Frag} {b h : Hp} {σ : L2.St} {g : Gam} {i : Nat} (k : Hold K b h σ g) (q : isDT g[i]?) : ∃ p ks xs vs, g[i]? = some (some (.dT p ks xs)) ∧ σ[i]? = some (some (.ref p)) ∧ h p = some (.dT (ks.zip vs)) ∧ ks.length = vs.length ∧ ownL K b h xs vs := by
  unfold isDT at q
  split at q
  · rename_i p ks xs e
    obtain ⟨v, ev, ev2, vs, hp, hl, z⟩ := k.sl i _ e
    subst ev2
    exact ⟨p, ks, xs, vs, e, ev, hp, hl, z⟩
  · exact q.elim
def putT (p : Addr) (ks : List (List Key)) (xs : List O) (k : List Key) (d : D) : O := match findK ks k with
  | some j => .dT p ks (xs.set j (.pur d))
  | none => .dT p (ks ++ [k]) (xs ++ [.pur d])
@[irreducible] def dputT (i : Nat) (we : WE) (We : Wsh) (E : GEnds) (u : O) (g1 : Gam) : Prop := isDT g1[i]? ∧ we We g1 fun o g2 => match g2[i]? with
  | some (some (.dT p ks xs)) => ∃ k : List Int, o.d = tupI k ∧ ks.Nodup ∧ xs.length < sizeLine ∧ E.nx (g2.set i (some (putT p ks xs (kI k) u.d)))
  | _ => False
def wDPutT (i : Nat) (wv we : WE) : WS := fun We E g => wv We g fun u g1 => dputT i we We E u g1
theorem putT_ok {K : PySem.W.Frag} {b h : Hp} {σ : L2.St} {g : Gam} {i : Nat} {p kb : Addr} {ks : List (List Key)} {xs : List O} {k : List Key} {d : D} {v : V} (H : Hold K b h σ g) (e : g[i]? = some (some (.dT p ks xs))) (zd : den K b d v) (ek : h kb = some (.tup (k.map kV))) (nd : ks.Nodup) (hz : xs.length < sizeLine) :
    ∃ h', DPut h p (.ref kb) v h' ∧ Hold K b h' σ (g.set i (some (putT p ks xs k d))) ∧ Frm g b h (g.set i (some (putT p ks xs k d))) b h' := by
  obtain ⟨v1, ev1, ev2, vs, hp, hlen, z⟩ := H.sl i _ e
  have ln := ownL_len z
  refine ⟨upd h p (.dT (putK (ks.zip vs) k v)), DPut.t hp ek (by rw [List.length_zip]; omega), ?_⟩
  have np : p ∉ footL xs := (List.nodup_cons.mp (H.nd i _ e)).1
  unfold putT
  cases q : findK ks k with
  | some j =>
    rw [putK_zip nd hlen q]
    have sl := footL_set_pur d xs j
    exact H.upd_root (o' := .dT p ks (xs.set j (.pur d))) e rfl rfl ⟨rfl, vs.set j v, upd_same, by simp [hlen], ownL_set (ownL_aside z np) zd⟩
      (fun a m => (List.mem_cons.mp m).elim (fun e => by rw [e]; exact List.mem_cons_self ..) fun m => List.mem_cons_of_mem _ (sl.subset m)) ((sl.cons_cons p).nodup (H.nd i _ e))
  | none =>
    rw [putK_zipN hlen q]
    exact H.upd_root (o' := .dT p (ks ++ [k]) (xs ++ [.pur d])) e rfl rfl ⟨rfl, vs ++ [v], upd_same, by simp [hlen], ownL_app (us := [.pur d]) (ws := [v]) (ownL_aside z np) ⟨v, [], rfl, zd, rfl⟩⟩
      (fun a m => by simpa [foot, footL_app, footL] using m) (by have := H.nd i _ e; simpa [foot, footL_app, footL] using this)
theorem gs_dputT {i : Nat} {x : Str} {value : Expr} {tv : TE} {wv : WE} {p ps pos : Pos} (hu : X.A.units + 1 < cLine) (hv' : GE X W value tv wv) (he : GE X W e te we) (hN : X.N[i]? = some x := by rfl) (hv : Vis X.env.scope x := by first | exact Or.inl rfl | exact Or.inr (Or.inl rfl) | exact Or.inr (Or.inr rfl))
    (hd : (x == ("__debug__" : Str)) = false := by decide) (hcd : (x == ("__classdict__" : Str)) = false := by decide) (hs : swapsWith value (some (.Subscript (.Name x p) e ps)) pos.line X.env = pure false := by rfl) :
    GS X W (.Assign [.Subscript (.Name x p) e ps] value pos) (wDPutT i wv we) := by
  refine ⟨sDPut (tVar i) te tv, ps_dput hu (pe_var hN hv hd hcd) he.pe hv'.pe hs, fun b h σ g We E D k hw hx ct => ?_⟩
  refine hv'.se b h σ g We _ _ k hw hx fun v b1 h1 g1 u k1 f1 p1 => ?_
  unfold dputT at p1
  obtain ⟨hl, p1⟩ := p1
  obtain ⟨b1', k1', f1', zu⟩ := come k1 f1
  obtain ⟨p0, ks0, xs0, vs0, e0, ev0, hp0, _⟩ := k1'.dt hl
  refine ⟨_, ev0, he.se b1' h1 σ g1 We _ _ k1' p1 (hx.step f1') fun v2 b2 h2 g2 o k2 f2 p' => ?_⟩
  obtain ⟨b3, k3, f3, zo⟩ := come k2 f2
  split at p'
  · rename_i p1 ks xs e1
    obtain ⟨kk, ek, c1, c2, c3⟩ := p'
    rw [ek] at zo
    obtain ⟨kb, rfl, zk⟩ := den_tupI zo
    obtain ⟨v1, ev1, ev2, _⟩ := k3.sl i _ e1
    rw [ev0] at ev1
    cases ev1
    cases ev2
    obtain ⟨h4, q1, q2, q3⟩ := putT_ok k3 e1 (den_mono f3.bs _ _ zu) (k := kI kk) (kb := kb) (by rw [kI_kV]; exact k3.sub _ _ zk) c1 c2
    exact ⟨p0, h4, rfl, q1, ct.nx σ b3 h4 _ q2 (f1'.trans (f3.trans q3)) c3⟩
  · exact p'.elim

/-! ### sorted -/
def rcSortL : RC1 := fun ds P => match ds with
  | [.lst xs] => ∃ ks : List (List Int), xs = ks.map tupI ∧ (∀ k ∈ ks, k ≠ []) ∧ ∀ (L : List (List Int)) (p : Addr), L.Perm ks → L.Pairwise (· ≤ ·) → P (.lst p ((L.map tupI).map .pur))
  | _ => False
theorem rows_of {K : PySem.W.Frag} {b : Hp} : ∀ {ks : List (List Int)} {vs : List V}, denL K b (ks.map tupI) vs → ∃ L : List (Addr × List Int), vs = L.map (fun p => V.ref p.1) ∧ ks = L.map (·.2) ∧ ∀ p ∈ L, b p.1 = some (.tup (p.2.map V.int))
  | [], _, h => ⟨[], h, rfl, fun p m => nomatch m⟩
  | k :: ks, _, ⟨v, r, e, z, t⟩ => by
    obtain ⟨a, rfl, q⟩ := den_tupI z
    obtain ⟨L, e1, e2, tp⟩ := rows_of t
    refine ⟨(a, k) :: L, by rw [e, e1]; rfl, by rw [e2]; rfl, fun p m => ?_⟩
    rcases List.mem_cons.mp m with rfl | m
    · exact q
    · exact tp p m
theorem rows_den {K : PySem.W.Frag} {b : Hp} : ∀ L : List (Addr × List Int), (∀ p ∈ L, b p.1 = some (.tup (p.2.map V.int))) → denL K b ((L.map (·.2)).map tupI) (L.map fun p => V.ref p.1)
  | [], _ => rfl
  | p :: L, h => ⟨_, _, rfl, tupI_den (h p List.mem_cons_self), rows_den L fun q m => h q (List.mem_cons_of_mem _ m)⟩
theorem cg_sortL (hu : X.A.units + 16 < cLine) {K : PySem.W.Frag} (hK : X.K = K := by exact rfl) : CallG X (.builtin "sorted") (rSortL K) rcSortL := by
  subst hK
  refine ⟨call_sortL hu, fun b hh xs ds P Q s z hp c => ?_⟩
  unfold rcSortL at hp
  split at hp
  · rename_i us
    obtain ⟨v, rfl, a, vs, rfl, q, t⟩ := denL1 z
    obtain ⟨ks, rfl, ne, hp⟩ := hp
    obtain ⟨L, rfl, rfl, tp⟩ := rows_of t
    refine ⟨a, L, rfl, SqL.of (s _ _ q), fun p m => SqT.of (s _ _ (tp p m)), fun p m => ne _ (List.mem_map.mpr ⟨p, m, rfl⟩), fun L' l pm _ srt nl => ?_⟩
    refine c _ b _ (.lst l (((L'.map (·.2)).map tupI).map .pur)) (Res.own1 s nl ⟨rfl, _, upd_same, ownL_pur (rows_den L' fun p m => tp p (pm.mem_iff.mp m))⟩ (by show l :: footL _ = [l]; rw [footL_pur])) (hp _ l (pm.map _) srt)
  · exact hp.elim
/-- sorted(list(d)), d an own dict with tuple keys -/
def tSortK (K : PySem.W.Frag) (i : Nat) : TE := tCB (rSortL K) (tCons (tCB (fun xs H Q => ∃ d kvs, xs = [V.ref d] ∧ Rd H d (.dT kvs) ∧ ∀ p bs, H p = none → IsKeys H kvs bs → Q (.ref p) (upd H p (.lst (bs.map V.ref)))) (tCons (tVar i) tNil)) tNil)
def wSortK (i : Nat) : WE := fun _ g P => match g[i]? with
  | some (some (.dT _ ks _)) => ∃ ms : List (List Int), ks = ms.map kI ∧ (∀ k ∈ ms, k ≠ []) ∧ ∀ (L : List (List Int)) (p : Addr), L.Perm ms → L.Pairwise (· ≤ ·) → P (.lst p ((L.map tupI).map .pur)) g
  | _ => False
theorem keys_rows {H : Hp} : ∀ {ms : List (List Int)} {vs : List V} {bs : List Addr}, ms.length = vs.length → IsKeys H ((ms.map kI).zip vs) bs → ∃ L : List (Addr × List Int), bs = L.map (·.1) ∧ ms = L.map (·.2) ∧ ∀ p ∈ L, H p.1 = some (.tup (p.2.map V.int))
  | [], [], bs, _, h => by
    cases h
    exact ⟨[], rfl, rfl, fun p m => nomatch m⟩
  | m :: ms, v :: vs, _, hl, h => by
    cases h with
    | @cons p a ps as h1 h2 =>
      obtain ⟨L, e1, e2, tp⟩ := keys_rows (by simpa using hl) h2
      refine ⟨(a, m) :: L, by rw [e1]; rfl, by rw [e2]; rfl, fun q mq => ?_⟩
      rcases List.mem_cons.mp mq with rfl | mq
      · have : H a = some (.tup ((kI m).map kV)) := h1
        rw [kI_kV] at this
        exact this
      · exact tp q mq
theorem ge_sortK {i : Nat} {x : Str} {p p2 p3 pos pos2 : Pos} (calm : X.calm = true) (hu : X.A.units + 16 < cLine) (hm : X.mg "sorted" = none) (hm2 : X.mg "list" = none) (hN : X.N[i]? = some x := by rfl) (hv : Vis X.env.scope x := by first | exact Or.inl rfl | exact Or.inr (Or.inl rfl) | exact Or.inr (Or.inr rfl))
    (hd : (x == ("__debug__" : Str)) = false := by decide) (hcd : (x == ("__classdict__" : Str)) = false := by decide) (hg : Gl X "sorted" := by rfl) (hg2 : Gl X "list" := by rfl)
    (hs : starEach [.Call (.Name "list" p2) [.Name x p3] [] pos2] X.env = (false, eval (.Call (.Name "list" p2) [.Name x p3] [] pos2) X.env) :: starEach [] X.env := by rfl) (hs2 : starEach [.Name x p3] X.env = (false, eval (.Name x p3) X.env) :: starEach [] X.env := by rfl)
    (hpl : (backTo pos (starEach [] X.env)).any (·.1) = false := by rfl) (hpl2 : (backTo pos2 (starEach [] X.env)).any (·.1) = false := by rfl) {K : PySem.W.Frag} (hK : X.K = K := by exact rfl) :
    GE X W (.Call (.Name "sorted" p) [.Call (.Name "list" p2) [.Name x p3] [] pos2] [] pos) (tSortK K i) (wSortK i) := by
  subst hK
  refine ⟨pe_callB (call_sortL hu) hg hm (by decide +kernel) (pa_cons (pe_callTy (call_list_dT calm) hg2 hm2 (by decide +kernel) (pa_cons (pe_var hN hv hd hcd) pa_nil hs2) (by decide) (by decide) hs2 hpl2) pa_nil hs) (by decide) (by decide) hs hpl, fun b h σ g We P Q k hw hx ct => ?_⟩
  unfold wSortK at hw
  split at hw
  · rename_i p0 ks xs e0
    obtain ⟨ms, rfl, ne, hw⟩ := hw
    obtain ⟨v, ev, rfl, vs, hp, hl, z⟩ := k.sl i _ e0
    refine ⟨.ref p0, ev, p0, _, rfl, Rd.of hp, fun q bs nq ik => ?_⟩
    obtain ⟨L, rfl, rfl, tp⟩ := keys_rows (by simpa using hl) ik
    have tq : ∀ p ∈ L, (upd h q (.lst ((L.map (·.1)).map V.ref))) p.1 = some (.tup (p.2.map V.int)) := fun p m => by rw [upd_ne (ne_of_none (tp p m) nq)]; exact tp p m
    refine ⟨q, L, rfl, SqL.of (by rw [upd_same, List.map_map]; rfl), fun p m => SqT.of (tq p m), fun p m => ne _ (List.mem_map.mpr ⟨p, m, rfl⟩), fun L' l pm _ srt nl => ?_⟩
    -- the keys join the base
    have nbq : b q = none := Evl.fresh_back k.sub nq
    have ngq : ¬ inF g q := fun z => by obtain ⟨u, e⟩ := k.inF_there z; rw [nq] at e; cases e
    have k1 : Hold X.K b (upd h q (.lst ((L.map (·.1)).map V.ref))) σ g := k.aside ngq nbq
    have eb : Ex b (fun a => if ∃ p ∈ L, p.1 = a then h a else b a) := fun a u e => by
      show (if ∃ p ∈ L, p.1 = a then h a else b a) = some u
      split
      · exact k.sub a u e
      · exact e
    have es : Ex (fun a => if ∃ p ∈ L, p.1 = a then h a else b a) (upd h q (.lst ((L.map (·.1)).map V.ref))) := fun a u e => by
      have e' : (if ∃ p ∈ L, p.1 = a then h a else b a) = some u := e
      split at e'
      · rw [upd_ne (ne_of_none e' nq)]; exact e'
      · rw [upd_ne (ne_of_none (k.sub a u e') nq)]; exact k.sub a u e'
    have no : ∀ a, inF g a → ¬ ∃ p ∈ L, p.1 = a := fun a z ⟨p, m, e⟩ => by
      subst e
      have := k.inF_nt z (tp p m)
      exact this
    have k2 := k1.grow eb es fun a z => by
      show (if ∃ p ∈ L, p.1 = a then h a else b a) = none
      rw [if_neg (no a z)]
      exact k.inF_nb z
    have f2 : Frm g b h g (fun a => if ∃ p ∈ L, p.1 = a then h a else b a) (upd h q (.lst ((L.map (·.1)).map V.ref))) := ⟨eb, fun a u e n => by rw [upd_ne (ne_of_none e nq)]; exact e, fun a u e t en n => by
      show (if ∃ p ∈ L, p.1 = a then h a else b a) = none
      split
      · rename_i hp
        obtain ⟨p, m, rfl⟩ := hp
        rw [tp p m] at e
        cases e
        exact t.elim
      · exact en, fun a z => .inl z⟩
    have tb : ∀ p ∈ L', (fun a => if ∃ p ∈ L, p.1 = a then h a else b a) p.1 = some (.tup (p.2.map V.int)) := fun p m => by
      show (if ∃ r ∈ L, r.1 = p.1 then h p.1 else b p.1) = _
      rw [if_pos ⟨p, pm.mem_iff.mp m, rfl⟩]
      exact tp p (pm.mem_iff.mp m)
    refine fin k2 f2 (Res.own1 (ob := .lst (L'.map fun q => V.ref q.1)) (o := .lst l (((L'.map (·.2)).map tupI).map .pur)) k2.sub nl ⟨rfl, _, upd_same, ownL_pur (rows_den L' tb)⟩ (by show l :: footL _ = [l]; rw [footL_pur])) ct (hw _ l (pm.map _) srt)
  · exact hw.elim
end
end G
/-! G: list + list, turned rows, list comprehensions with two fors, dict comprehensions with tuple keys, reverse, clear. -/
namespace G
open PySem PySem.Spec PyProof.Rows L2 TQ
open Evl (Ex)
theorem denL_app {K : PySem.W.Frag} {b : Hp} : ∀ {ds es : List D} {vs us : List V}, denL K b ds vs → denL K b es us → denL K b (ds ++ es) (vs ++ us)
  | [], _, _, _, z, q => by have z' : _ = ([] : List V) := z; subst z'; exact q
  | d :: ds, _, _, _, ⟨v, r, e, z, t⟩, q => by subst e; exact ⟨v, r ++ _, rfl, z, denL_app t q⟩
theorem denL_rev {K : PySem.W.Frag} {b : Hp} : ∀ {ds : List D} {vs : List V}, denL K b ds vs → denL K b ds.reverse vs.reverse
  | [], _, z => by have z' : _ = ([] : List V) := z; subst z'; exact rfl
  | d :: ds, _, ⟨v, r, e, z, t⟩ => by
    subst e
    rw [List.reverse_cons, List.reverse_cons]
    exact denL_app (denL_rev t) ⟨v, [], rfl, z, rfl⟩
section
variable {X : Cx} {W : WX} {e : Expr} {te : TE} {we : WE} {ta : TA} {wa : WA}
def roCatL : RO := fun x y P => match x, y with
  | .lst xs, .lst ys => xs.length + ys.length ≤ sizeLine ∧ ∀ p, P (.lst p ((xs ++ ys).map .pur))
  | _, _ => False
theorem og_catL : OpG X (binaryOp .Add) rCat roCatL := by
  refine ⟨op_cat, fun b hh x y dx dy P Q s zx zy hr c => ?_⟩
  unfold roCatL at hr
  split at hr
  · rename_i xs ys
    obtain ⟨a1, v1, rfl, h1, t1⟩ := zx
    obtain ⟨a2, v2, rfl, h2, t2⟩ := zy
    refine ⟨a1, a2, v1, v2, rfl, rfl, s _ _ h1, s _ _ h2, by rw [← denL_len t1, ← denL_len t2]; exact hr.1, fun p np => ?_⟩
    exact c _ b _ (.lst p ((xs ++ ys).map .pur)) (Res.own1 s np ⟨rfl, _, upd_same, ownL_pur (denL_app t1 t2)⟩ (by show p :: footL _ = [p]; rw [footL_pur])) (hr.2 p)
  · exact hr.elim
/-! ### turned -/
def wRevL (we : WE) : WE := fun We g P => we We g fun o g1 => match o.d with
  | .lst ds => ∀ p, P (.lst p (ds.reverse.map .pur)) g1
  | _ => False
theorem ge_revL {k : Nat} {p1 p2 p3 pos : Pos} (he : GE X W e te we) {K : PySem.W.Frag} (hK : X.K = K := by exact rfl) : GE X W (.Subscript e (.Slice none none (some (.UnaryOp .USub (.Constant (.int 1) k p1) p2)) p3) pos) (tRevL K te) (wRevL we) := by
  subst hK
  refine ⟨pe_revL he.pe, fun b h σ g We P Q k hw hx ct => ?_⟩
  refine he.se b h σ g We _ _ k hw hx fun v b' h' g' o k' f' p' => ?_
  obtain ⟨b2, k2, f2, z⟩ := come k' f'
  split at p'
  · rename_i ds ed
    rw [ed] at z
    obtain ⟨a, vs, rfl, q, t⟩ := z
    refine ⟨a, vs, rfl, SqL.of (k2.sub _ _ q), fun p np => ?_⟩
    exact fin k2 f2 (Res.own1 (o := .lst p (ds.reverse.map .pur)) k2.sub np ⟨rfl, _, upd_same, ownL_pur (denL_rev t)⟩ (by show p :: footL _ = [p]; rw [footL_pur])) ct (p' p)
  · exact p'.elim
def wRevT (we : WE) : WE := fun We g P => we We g fun o g1 => match o.d with
  | .tup ds => ds ≠ [] ∧ P (.pur (.tup ds.reverse)) g1
  | _ => False
theorem ge_revT {k : Nat} {p1 p2 p3 pos : Pos} (he : GE X W e te we) {K : PySem.W.Frag} (hK : X.K = K := by exact rfl) : GE X W (.Subscript e (.Slice none none (some (.UnaryOp .USub (.Constant (.int 1) k p1) p2)) p3) pos) (tRevT K te) (wRevT we) := by
  subst hK
  refine ⟨pe_revT he.pe, fun b h σ g We P Q k hw hx ct => ?_⟩
  refine he.se b h σ g We _ _ k hw hx fun v b' h' g' o k' f' p' => ?_
  obtain ⟨b2, k2, f2, z⟩ := come k' f'
  split at p'
  · rename_i ds ed
    rw [ed] at z
    obtain ⟨a, vs, rfl, q, t⟩ := z
    have ln := denL_len t
    refine ⟨a, vs, rfl, SqT.of (k2.sub _ _ q), fun e => p'.1 (by subst e; exact List.length_eq_zero_iff.mp ln), fun p np => ?_⟩
    exact fin k2 f2 (Res.new (ob := .tup vs.reverse) (d := .tup ds.reverse) k2.sub np ⟨p, _, rfl, upd_same, denL_mono (Ex.new (Evl.fresh_back k2.sub np)) _ _ (denL_rev t)⟩) ct p'.2
  · exact p'.elim
/-! ### {a: b for .. in ..}, the keys tuples of ints -/
@[irreducible] def wDt (wi : WI) (wg : WG) (wk wv : WE) (vs : List Nat) : WE := fun We g P => wi We g fun ds g1 => ∃ (f : D → List Int) (u : D → D), ds.length < sizeLine ∧ (ds.map f).Nodup ∧
  (∀ d ∈ ds, wg d (wipeG g1 vs) fun g2 => wk (fun _ _ => False) g2 fun o g3 => o.d = tupI (f d) ∧ wv (fun _ _ => False) g3 fun r g4 => r.d = u d ∧ unwipe g1 g4 vs = g1) ∧
  ∀ p, P (.dT p ((ds.map f).map kI) ((ds.map u).map .pur)) g1
theorem dt_se {K : PySem.W.Frag} {ti : TI} {tg : TG} {tk tv : TE} {wi : WI} {wg : WG} {wk wv : WE} {vs ts : List Nat}
    (qi : ∀ b h σ g We P Q, Hold K b h σ g → wi We g P → ContX K g b h We W → (∀ J b' h' g' ds, Hold K b' h' σ g' → Frm g b h g' b' h' → Yields K b' h' J ds → P ds g' → Q J h') → ti σ h Q)
    (qg : ∀ b h σ g d v P Q, Hold K b h σ g → den K b d v → wg d g P → (∀ σ' b' h' g', Hold K b' h' σ' g' → Frm g b h g' b' h' → Sames ts σ σ' → P g' → Q σ' h') → tg v σ h Q)
    (qk : ∀ b h σ g We P Q, Hold K b h σ g → wk We g P → ContX K g b h We W0 → Cont K g b h σ P Q → tk σ h Q)
    (qv : ∀ b h σ g We P Q, Hold K b h σ g → wv We g P → ContX K g b h We W0 → Cont K g b h σ P Q → tv σ h Q) (hts : ∀ i ∈ ts, i ∈ vs) :
    ∀ b h σ g We P Q, Hold K b h σ g → wDt wi wg wk wv vs We g P → ContX K g b h We W → Cont K g b h σ P Q → tDt ti tg tk tv vs σ h Q := by
  intro b h σ g We P Q k hw hx ct
  unfold wDt at hw
  refine qi b h σ g We _ _ k hw hx fun J b1 h1 g1 ds k1 f1 y ⟨f, u, hn, nd, turn, fin1⟩ => fun D hD => ?_
  have nb1 : b1 D = none := Evl.fresh_back k1.sub hD
  have ng1 : ¬ inF g1 D := fun z => by obtain ⟨u, e⟩ := k1.inF_there z; rw [hD] at e; cases e
  refine ⟨fun i m H => m = ds.length - i ∧ i ≤ ds.length ∧ ∃ b' us, Hold K b' H σ g1 ∧ Frm g1 b1 h1 g1 b' H ∧ b' D = none ∧ H D = some (.dT ((((ds.take i).map f).map kI).zip us)) ∧ denL K b' ((ds.take i).map u) us,
    ⟨ds.length, by simp, Nat.zero_le _, b1, [], k1.aside ng1 nb1, ⟨Ex.refl b1, fun a u e _ => by rw [upd_ne (ne_of_none e hD)]; exact e, fun a u e1 t e2 _ => e2, fun a z => .inl z⟩, nb1, by rw [upd_same]; rfl, rfl⟩, ?_⟩
  rintro i m H ⟨rfl, hi, b', us, k', f', nb', hDH, zu⟩
  have yy := y b' H f'.bs k'.sub (fun a o e1 e2 => f'.keep a o e1 fun z => by rw [k1.inF_nb z] at e2; cases e2) i
  by_cases hlt : i < ds.length
  · obtain ⟨d, ed⟩ : ∃ d, ds[i]? = some d := ⟨_, List.getElem?_eq_getElem hlt⟩
    have dm := List.mem_of_getElem? ed
    have etake : ds.take (i + 1) = ds.take i ++ [d] := by rw [List.take_succ, ed]; rfl
    refine .inr ⟨(yy.2 d ed).1, fun H4 => i + 1 ≤ ds.length ∧ ∃ b' us, Hold K b' H4 σ g1 ∧ Frm g1 b1 h1 g1 b' H4 ∧ b' D = none ∧ H4 D = some (.dT ((((ds.take (i + 1)).map f).map kI).zip us)) ∧ denL K b' ((ds.take (i + 1)).map u) us, fun H4 z => ⟨ds.length - (i + 1), by omega, rfl, z.1, z.2⟩, fun x h2 yl => ?_⟩
    obtain ⟨b2, e1, e2, e3, n, z⟩ := (yy.2 d ed).2 x h2 yl
    obtain ⟨k2, f2⟩ := k'.wide e1 e2 e3 n
    have D2 : h2 D = some (.dT ((((ds.take i).map f).map kI).zip us)) := e2 D _ hDH
    have nb2 : b2 D = none := f2.nb D _ hDH trivial nb' ng1
    obtain ⟨kw, sw⟩ := k2.wipe vs
    refine qg b2 h2 (L2.wipe σ vs) (wipeG g1 vs) d x _ _ kw z (turn d dm) fun σ3 b3 h3 g3 k3 f3 s3 st3 => ?_
    have ew : L2.wipe σ3 vs = L2.wipe σ vs := wipe_sames (s3.mono hts)
    refine ⟨ew, ?_⟩
    have ngw : ¬ inF (wipeG g1 vs) D := fun z => ng1 (sw D z)
    have D3 : h3 D = some _ := f3.keep D _ D2 ngw
    have nb3 : b3 D = none := f3.nb D _ D2 trivial nb2 ngw
    have ng3 : ¬ inF g3 D := fun z => (f3.new D z).elim ngw fun z => by rw [D2] at z; cases z
    refine qk b3 h3 σ3 g3 _ _ _ k3 st3 contX0 fun v b4 h4 g4 o k4 f4 st4 => ?_
    obtain ⟨b4', k4', f4', zo⟩ := come k4 f4
    obtain ⟨eo, st4⟩ := st4
    rw [eo] at zo
    obtain ⟨kb, rfl, zk⟩ := den_tupI zo
    have D4 : h4 D = some _ := f4'.keep D _ D3 ng3
    have nb4 : b4' D = none := f4'.nb D _ D3 trivial nb3 ng3
    have ng4 : ¬ inF g4 D := fun z => (f4'.new D z).elim ng3 fun z => by rw [D3] at z; cases z
    refine qv b4' h4 σ3 g4 _ _ _ k4' st4 contX0 fun v5 b5 h5 g5 r k5 f5 st5 => ?_
    obtain ⟨b6, k6, f6, zr⟩ := come k5 f5
    obtain ⟨er, eu⟩ := st5
    rw [er] at zr
    have D6 : h5 D = some _ := f6.keep D _ D4 ng4
    have nb6 : b6 D = none := f6.nb D _ D4 trivial nb4 ng4
    have F0 := (f3.trans f4').trans f6
    have F : Frm g1 b2 h2 g5 b6 h5 := ⟨F0.bs, fun a u e n => F0.keep a u e fun z => n (sw a z), fun a u e1 t e2 n => F0.nb a u e1 t e2 fun z => n (sw a z), fun a z => (F0.new a z).elim (fun z => .inl (sw a z)) .inr⟩
    obtain ⟨k7, s7⟩ := k2.unwipe k6 F.bs vs ew
    rw [eu] at k7 s7
    have zu6 := denL_mono (f2.trans F).bs _ _ zu
    have lu : us.length = i := by rw [← denL_len zu, List.length_map, List.length_take]; omega
    have lk : (((ds.take i).map f).map kI).length = us.length := by rw [lu]; simp; omega
    have nk : findK (((ds.take i).map f).map kI) (kI (f d)) = none := by
      cases q : findK (((ds.take i).map f).map kI) (kI (f d)) with
      | none => rfl
      | some j =>
        exfalso
        have h := find_mem (k := f d) (ks := (ds.take i).map f)
        rw [q] at h
        have hm : f d ∈ (ds.take i).map f := by simpa using h.symm
        have e3 : (ds.map f) = (ds.take i).map f ++ (f d) :: (ds.drop (i + 1)).map f := by
          have := List.take_append_drop (i + 1) ds
          rw [etake] at this
          conv => lhs; rw [← this]
          simp
        rw [e3] at nd
        have := (List.nodup_append.mp nd).2.2 _ hm _ List.mem_cons_self
        exact this rfl
    have F7 : Frm g1 b1 h1 g1 b6 h5 := (f'.trans (f2.trans F)).sub s7
    refine ⟨_, kI (f d), kb, rfl, D6, by rw [kI_kV]; exact k6.sub _ _ (f6.bs _ _ zk), by rw [List.length_zip, lk, Nat.min_self, lu]; omega, hlt, b6, us ++ [v5], k7.aside ng1 nb6, ⟨F7.bs, fun a u e na => ?_, F7.nb, F7.new⟩, nb6, ?_, ?_⟩
    · rw [upd_ne (ne_of_none e hD)]
      exact F7.keep a u e na
    · rw [upd_same, putK_zipN lk nk, etake]
      simp
    · rw [etake, List.map_append]
      exact denL_app zu6 ⟨v5, [], rfl, zr, rfl⟩
  · have e : i = ds.length := by omega
    subst e
    rw [List.take_length] at hDH zu
    have lu : us.length = ds.length := by rw [← denL_len zu, List.length_map]
    have ft : foot (.dT D ((ds.map f).map kI) ((ds.map u).map .pur)) = [D] := by show D :: footL _ = [D]; rw [footL_pur]
    refine .inl ⟨yy.1 rfl, ?_⟩
    refine ct (.ref D) b' H g1 (.dT D ((ds.map f).map kI) ((ds.map u).map .pur)) (k'.cons ⟨rfl, us, hDH, by simp [lu], ownL_pur zu⟩ (by rw [ft]; simp) (fun a m => ?_) fun a m => ?_) (f1.trans ⟨f'.bs, f'.keep, f'.nb, fun a z => ?_⟩) (fin1 D)
    · have : a = D := by rw [ft] at m; simpa using m
      subst this; exact nb'
    · have : a = D := by rw [ft] at m; simpa using m
      subst this; exact ng1
    · rcases inF_cons.mp z with ⟨u, e, m⟩ | z
      · cases e
        have : a = D := by rw [ft] at m; simpa using m
        subst this; exact .inr hD
      · exact f'.new a z
theorem ge_dt {kx vx tg iter : Expr} {scope : Scope} {own : List (Str × Nat)} {ts : List Nat} {pos : Pos} {ti : TI} {tg' : TG} {tk tv : TE} {wi : WI} {wg : WG} {wk wv : WE} (calm : X.calm = true) (hu : X.A.units + 1 < cLine) (hN : X.N.Nodup) (hi : GI X W tg iter ti wi) (ok : BlkOk X.N X.env.scope scope own)
    (hg : ∀ (s : Shared) (H : Hp) (C : Addr) (cl : List (Str × Addr)) (fp : List Addr), GB (X.blk s H scope (compEnvC scope cl C X.env) fp) tg ts tg' wg)
    (hk : ∀ (s : Shared) (H : Hp) (C : Addr) (cl : List (Str × Addr)) (fp : List Addr), GE (X.blk s H scope (compEnvC scope cl C X.env) fp) W0 kx tk wk)
    (hv : ∀ (s : Shared) (H : Hp) (C : Addr) (cl : List (Str × Addr)) (fp : List Addr), GE (X.blk s H scope (compEnvC scope cl C X.env) fp) W0 vx tv wv) (hts : ∀ i ∈ ts, i ∈ own.map (·.2) := by decide) (fo : ∀ x, foldedSetIterable iter X.env x = pure x := by intro _; rfl) :
    GE X W (.DictComp kx vx [⟨tg, iter, [], 0⟩] scope pos) (tDt ti tg' tk tv (own.map (·.2))) (wDt wi wg wk wv (own.map (·.2))) :=
  ⟨pe_dt calm hu hN hi.pe ok (fun s H C cl fp => (hg s H C cl fp).pe) (fun s H C cl fp => (hk s H C cl fp).pe) (fun s H C cl fp => (hv s H C cl fp).pe) fo,
    dt_se hi.se (hg X.s_0 X.H_0 0 [] []).se (hk X.s_0 X.H_0 0 [] []).se (hv X.s_0 X.H_0 0 [] []).se hts⟩
end
end G
/-! G: list comprehensions with two fors; reverse, clear. -/
namespace G
open PySem PySem.Spec PyProof.Rows L2 TQ
open Evl (Ex)
theorem pur_ownL {K : PySem.W.Frag} {b h : Hp} : ∀ {ds : List D} {vs : List V}, ownL K b h (ds.map .pur) vs → denL K b ds vs
  | [], _, z => z
  | d :: ds, _, ⟨v, r, e, z, t⟩ => ⟨v, r, e, z, pur_ownL t⟩
section
variable {X : Cx} {W : WX} {e : Expr} {te : TE} {we : WE} {i : Nat} {x : Str}
/-- x.reverse() -/
def wRevS (i : Nat) : WS := fun _ E g => match g[i]? with
  | some (some (.lst p xs)) => ∃ ds : List D, xs = ds.map .pur ∧ E.nx (g.set i (some (.lst p (ds.reverse.map .pur))))
  | _ => False
theorem gs_rev {p apos cpos pos : Pos} (hN : X.N[i]? = some x := by rfl) (hv : Vis X.env.scope x := by first | exact Or.inl rfl | exact Or.inr (Or.inl rfl) | exact Or.inr (Or.inr rfl))
    (hd : (x == ("__debug__" : Str)) = false := by decide) (hcd : (x == ("__classdict__" : Str)) = false := by decide)
    (hbase : attributeBase (.Name x p) "reverse" X.env (eval (.Name x p) X.env) = eval (.Name x p) X.env := by rfl) (hline : (apos.endLine == cpos.line) = true := by rfl)
    (hs2 : swapsWith (.Call (.Attribute (.Name x p) "reverse" apos) [] [] cpos) none pos.line X.env = pure false := by rfl) :
    GS X W (.Expr (.Call (.Attribute (.Name x p) "reverse" apos) [] [] cpos) pos) (wRevS i) := by
  refine ⟨tDrop (tBM0 X.K "list" rReverse (tVar i)), ps_expr (pe_bm0 PySem.F.plainAttrs_list PySem.F.slot_list_reverse PySem.F.type_list_reverse mt_reverse (pe_var hN hv hd hcd) hbase hline) hs2, fun b h σ g We E D k hw hx ct => ?_⟩
  unfold wRevS at hw
  split at hw
  · rename_i p0 xs e0
    obtain ⟨ds, rfl, hw⟩ := hw
    obtain ⟨v, ev, rfl, vs, hp, z⟩ := k.sl i _ e0
    refine ⟨.ref p0, ev, tyV_lst hp, p0, vs, rfl, rfl, hp, ?_⟩
    have f0 : ∀ ds : List G.D, foot (.lst p0 (ds.map .pur)) = [p0] := fun ds => by show p0 :: footL _ = [p0]; rw [footL_pur]
    obtain ⟨k3, f3⟩ := k.upd_root (o' := .lst p0 (ds.reverse.map .pur)) (ob := .lst vs.reverse) e0 rfl rfl ⟨rfl, _, upd_same, ownL_pur (denL_rev (pur_ownL z))⟩ (fun a m => by rw [f0] at m ⊢; exact m) (by rw [f0]; simp)
    exact ct.nx σ b _ _ k3 f3 hw
  · exact hw.elim
/-- x.clear() -/
def wClearS (i : Nat) : WS := fun _ E g => match g[i]? with
  | some (some (.lst p _)) => E.nx (g.set i (some (.lst p [])))
  | _ => False
theorem gs_clear {p apos cpos pos : Pos} (hN : X.N[i]? = some x := by rfl) (hv : Vis X.env.scope x := by first | exact Or.inl rfl | exact Or.inr (Or.inl rfl) | exact Or.inr (Or.inr rfl))
    (hd : (x == ("__debug__" : Str)) = false := by decide) (hcd : (x == ("__classdict__" : Str)) = false := by decide)
    (hbase : attributeBase (.Name x p) "clear" X.env (eval (.Name x p) X.env) = eval (.Name x p) X.env := by rfl) (hline : (apos.endLine == cpos.line) = true := by rfl)
    (hs2 : swapsWith (.Call (.Attribute (.Name x p) "clear" apos) [] [] cpos) none pos.line X.env = pure false := by rfl) :
    GS X W (.Expr (.Call (.Attribute (.Name x p) "clear" apos) [] [] cpos) pos) (wClearS i) := by
  refine ⟨tDrop (tBM0 X.K "list" rClear (tVar i)), ps_expr (pe_bm0 PySem.F.plainAttrs_list PySem.F.slot_list_clear PySem.F.type_list_clear mt_clear (pe_var hN hv hd hcd) hbase hline) hs2, fun b h σ g We E D k hw hx ct => ?_⟩
  unfold wClearS at hw
  split at hw
  · rename_i p0 xs e0
    obtain ⟨v, ev, rfl, vs, hp, z⟩ := k.sl i _ e0
    refine ⟨.ref p0, ev, tyV_lst hp, p0, vs, rfl, rfl, hp, ?_⟩
    obtain ⟨k3, f3⟩ := k.upd_root (o' := .lst p0 []) (ob := .lst []) e0 rfl rfl ⟨rfl, [], upd_same, rfl⟩ (fun a m => by
      have : a = p0 := by simpa [foot, footL] using m
      subst this; exact List.mem_cons_self ..) (by simp [foot, footL])
    exact ct.nx σ b _ _ k3 f3 hw
  · exact hw.elim
/-! ### [.. for x in A for y in B] -/
@[irreducible] def wLc2 (wi : WI) (i0 i1 : Nat) (wi1 : WI) (we : WE) (vs : List Nat) : WE := fun We g P => wi We g fun ds g1 => ∃ (B : D → List D) (u : D → D → D), (ds.flatMap fun d => (B d).map (u d)).length ≤ sizeLine ∧
  (∀ d, unwipe g1 ((wipeG g1 vs).set i0 (some (.pur d))) vs = g1) ∧
  (∀ d x, unwipe ((wipeG g1 vs).set i0 (some (.pur d))) ((wipeG ((wipeG g1 vs).set i0 (some (.pur d))) [i1]).set i1 (some (.pur x))) [i1] = (wipeG g1 vs).set i0 (some (.pur d))) ∧
  (∀ d ∈ ds, wi1 (fun _ _ => False) ((wipeG g1 vs).set i0 (some (.pur d))) fun es g3 => g3 = (wipeG g1 vs).set i0 (some (.pur d)) ∧ es = B d) ∧
  (∀ d ∈ ds, ∀ x ∈ B d, we (fun _ _ => False) ((wipeG ((wipeG g1 vs).set i0 (some (.pur d))) [i1]).set i1 (some (.pur x))) fun o g7 => g7 = (wipeG ((wipeG g1 vs).set i0 (some (.pur d))) [i1]).set i1 (some (.pur x)) ∧ o.d = u d x) ∧
  ∀ p, P (.lst p ((ds.flatMap fun d => (B d).map (u d)).map .pur)) g1
theorem lc2_se {K : PySem.W.Frag} {ti ti1 : TI} {te : TE} {wi wi1 : WI} {we : WE} {i0 i1 : Nat} {vs : List Nat}
    (qi : ∀ b h σ g We P Q, Hold K b h σ g → wi We g P → ContX K g b h We W → (∀ J b' h' g' ds, Hold K b' h' σ g' → Frm g b h g' b' h' → Yields K b' h' J ds → P ds g' → Q J h') → ti σ h Q)
    (qi1 : ∀ b h σ g We P Q, Hold K b h σ g → wi1 We g P → ContX K g b h We W0 → (∀ J b' h' g' ds, Hold K b' h' σ g' → Frm g b h g' b' h' → Yields K b' h' J ds → P ds g' → Q J h') → ti1 σ h Q)
    (qe : ∀ b h σ g We P Q, Hold K b h σ g → we We g P → ContX K g b h We W0 → Cont K g b h σ P Q → te σ h Q)
    (h0 : i0 ∈ vs) : ∀ b h σ g We P Q, Hold K b h σ g → wLc2 wi i0 i1 wi1 we vs We g P → ContX K g b h We W → Cont K g b h σ P Q → tLc2 ti (gName i0) tYes ti1 (gName i1) tYes te vs [i1] σ h Q := by
  intro b h σ g We P Q k hw hx ct
  unfold wLc2 at hw
  refine qi b h σ g We _ _ k hw hx fun J b1 h1 g1 ds k1 f1 y ⟨B, u, few, wipe1, wipe2, inner, elts, fin1⟩ => fun D hD => ?_
  have nb1 : b1 D = none := Evl.fresh_back k1.sub hD
  have ng1 : ¬ inF g1 D := fun z => by obtain ⟨u, e⟩ := k1.inF_there z; rw [hD] at e; cases e
  refine ⟨fun i m H => m = ds.length - i ∧ i ≤ ds.length ∧ ∃ b' us, Hold K b' H σ g1 ∧ Frm g1 b1 h1 g1 b' H ∧ b' D = none ∧ H D = some (.lst us) ∧ denL K b' ((ds.take i).flatMap fun d => (B d).map (u d)) us,
    ⟨ds.length, by simp, Nat.zero_le _, b1, [], k1.aside ng1 nb1, ⟨Ex.refl b1, fun a u e _ => by rw [upd_ne (ne_of_none e hD)]; exact e, fun a u e1 t e2 _ => e2, fun a z => .inl z⟩, nb1, upd_same, rfl⟩, ?_⟩
  rintro i m H ⟨rfl, hi, b', us, k', f', nb', hDH, zu⟩
  have yy := y b' H f'.bs k'.sub (fun a o e1 e2 => f'.keep a o e1 fun z => by rw [k1.inF_nb z] at e2; cases e2) i
  by_cases hlt : i < ds.length
  · obtain ⟨d, di⟩ : ∃ d, ds[i]? = some d := ⟨_, List.getElem?_eq_getElem hlt⟩
    have dm := List.mem_of_getElem? di
    obtain ⟨yg, yst⟩ := yy.2 d di
    have etake : ds.take (i + 1) = ds.take i ++ [d] := by rw [List.take_succ, di]; rfl
    have len1 : ((ds.take (i + 1)).flatMap fun d => (B d).map (u d)).length ≤ (ds.flatMap fun d => (B d).map (u d)).length := by
      have e : (ds.flatMap fun d => (B d).map (u d)) = ((ds.take (i + 1)).flatMap fun d => (B d).map (u d)) ++ ((ds.drop (i + 1)).flatMap fun d => (B d).map (u d)) := by rw [← List.flatMap_append, List.take_append_drop]
      rw [e, List.length_append]
      omega
    have lenT : ((ds.take (i + 1)).flatMap fun d => (B d).map (u d)).length = ((ds.take i).flatMap fun d => (B d).map (u d)).length + (B d).length := by rw [etake, List.flatMap_append, List.length_append]; simp
    refine .inr ⟨yg, fun H4 => i + 1 ≤ ds.length ∧ ∃ b' us, Hold K b' H4 σ g1 ∧ Frm g1 b1 h1 g1 b' H4 ∧ b' D = none ∧ H4 D = some (.lst us) ∧ denL K b' ((ds.take (i + 1)).flatMap fun d => (B d).map (u d)) us, fun H4 z => ⟨ds.length - (i + 1), by omega, rfl, z.1, z.2⟩, fun x h2 yl => ?_⟩
    obtain ⟨b2, e1, e2, e3, n, z⟩ := yst x h2 yl
    obtain ⟨k2, f2⟩ := k'.wide e1 e2 e3 n
    have nb2 : b2 D = none := f2.nb D _ hDH trivial nb' ng1
    have D2 : h2 D = some (.lst us) := e2 D _ hDH
    obtain ⟨kw, sw⟩ := k2.wipe vs
    obtain ⟨kp, fp⟩ := (Res.same kw.sub z).lift kw
    obtain ⟨kq, sq⟩ := kp.put i0
    have hwp : L2.wipe ((L2.wipe σ vs).set i0 (some x)) vs = L2.wipe σ vs := wipe_sames ⟨by rw [List.length_set], fun j nj => List.getElem?_set_ne (fun (e : i0 = j) => nj (e ▸ h0))⟩
    refine ⟨hwp, ?_⟩
    obtain ⟨σ8, eσ8⟩ : ∃ σ8, (L2.wipe σ vs).set i0 (some x) = σ8 := ⟨_, rfl⟩
    have inn := inner d dm
    have elt := elts d dm
    have unw := wipe1 d
    have unw2 := wipe2 d
    obtain ⟨g2, eg2⟩ : ∃ g2, (wipeG g1 vs).set i0 (some (.pur d)) = g2 := ⟨_, rfl⟩
    rw [eσ8] at kq hwp ⊢
    rw [eg2] at kq sq inn unw
    simp only [eg2] at elt unw2
    have sub2 : ∀ a, inF g2 a → inF g1 a := fun a q => by
      rcases inF_cons.mp (sq a q) with ⟨o, e, m⟩ | q
      · cases e; simp [foot] at m
      · exact sw a q
    have gsub : ∀ a, inF g1 a → inF g2 a := fun a q => by
      have := (k2.unwipe kq (Ex.refl b2) vs hwp).2 a
      rw [unw] at this
      exact this q
    have fr12 : ∀ {c c' : Hp} {h h' : Hp}, Frm g2 c h g2 c' h' → Frm g1 c h g1 c' h' := fun x => ⟨x.bs, fun a u e n => x.keep a u e fun z => n (sub2 a z), fun a u e1 t e2 n => x.nb a u e1 t e2 fun z => n (sub2 a z), fun a z => (x.new a (gsub a z)).elim (fun z => .inl (sub2 a z)) .inr⟩
    show tYes σ8 h2 _
    unfold tYes
    simp only [if_true]
    refine qi1 b2 h2 σ8 g2 _ _ _ kq inn contX0 fun J1 b4 h4 g4 es k4 f4 y4 ⟨eg4, ees⟩ => ?_
    rw [eg4] at k4 f4
    subst ees
    clear eg4
    have ng2 : ¬ inF g2 D := fun q => ng1 (sub2 D q)
    have nb4 : b4 D = none := f4.nb D _ D2 trivial nb2 ng2
    have D4 : h4 D = some (.lst us) := f4.keep D _ D2 ng2
    have zu4 := denL_mono (f2.bs.trans f4.bs) _ _ zu
    refine ⟨fun j m H => m = (B d).length - j ∧ j ≤ (B d).length ∧ ∃ b' us, Hold K b' H σ8 g2 ∧ Ex b4 b' ∧ Frm g1 b1 h1 g1 b' H ∧ b' D = none ∧ H D = some (.lst us) ∧ denL K b' (((ds.take i).flatMap fun d => (B d).map (u d)) ++ ((B d).take j).map (u d)) us,
      ⟨(B d).length, by simp, Nat.zero_le _, b4, us, k4, Ex.refl b4, f'.trans (f2.trans (fr12 f4)), nb4, D4, by simpa using zu4⟩, ?_⟩
    rintro j m H5 ⟨rfl, hj, b5, us5, k5, x5, f5, nb5, D5, zu5⟩
    have y5 := y4 b5 H5 x5 k5.sub (fun a o e1 e2 => by
      have q1 := k4.sub a _ e2
      rw [e1] at q1
      cases q1
      exact k5.sub a _ (x5 a _ e2)) j
    by_cases hjl : j < (B d).length
    · obtain ⟨q, eq⟩ : ∃ q, (B d)[j]? = some q := ⟨_, List.getElem?_eq_getElem hjl⟩
      have qm := List.mem_of_getElem? eq
      obtain ⟨yg5, yst5⟩ := y5.2 q eq
      refine .inr ⟨yg5, fun H6 => j + 1 ≤ (B d).length ∧ ∃ b' us, Hold K b' H6 σ8 g2 ∧ Ex b4 b' ∧ Frm g1 b1 h1 g1 b' H6 ∧ b' D = none ∧ H6 D = some (.lst us) ∧ denL K b' (((ds.take i).flatMap fun d => (B d).map (u d)) ++ ((B d).take (j + 1)).map (u d)) us, fun H6 z => ⟨(B d).length - (j + 1), by omega, rfl, z.1, z.2⟩, fun x1 h6 yl1 => ?_⟩
      obtain ⟨b6, u1, u2, u3, u4, z6⟩ := yst5 x1 h6 yl1
      obtain ⟨k6, f6⟩ := k5.wide u1 u2 u3 u4
      have nb6 : b6 D = none := f6.nb D _ D5 trivial nb5 ng2
      have D6 : h6 D = some (.lst us5) := u2 D _ D5
      obtain ⟨kw6, sw6⟩ := k6.wipe [i1]
      obtain ⟨kp6, _⟩ := (Res.same kw6.sub z6).lift kw6
      obtain ⟨kq6, sq6⟩ := kp6.put i1
      have hw6 : L2.wipe ((L2.wipe σ8 [i1]).set i1 (some x1)) [i1] = L2.wipe σ8 [i1] := wipe_sames ⟨by rw [List.length_set], fun t nt => List.getElem?_set_ne (fun (e : i1 = t) => nt (by simp [e]))⟩
      refine ⟨hw6, ?_⟩
      have el := elt q qm
      have uw2 := unw2 q
      obtain ⟨g6, eg6⟩ : ∃ g6, (wipeG g2 [i1]).set i1 (some (.pur q)) = g6 := ⟨_, rfl⟩
      rw [eg6] at kq6 sq6 uw2
      simp only [eg6] at el
      have sub6 : ∀ a, inF g6 a → inF g2 a := fun a q => by
        rcases inF_cons.mp (sq6 a q) with ⟨o, e, m⟩ | q
        · cases e; simp [foot] at m
        · exact sw6 a q
      refine qe b6 h6 _ g6 _ _ _ kq6 el contX0 fun v b7 h7 g7 o k7 f7 st7 => ?_
      obtain ⟨b8, k8, f8, zo⟩ := come k7 f7
      obtain ⟨eg7, eo⟩ := st7
      rw [eg7] at k8 f8
      rw [eo] at zo
      have ng6 : ¬ inF g6 D := fun q => ng2 (sub6 D q)
      have nb8 : b8 D = none := f8.nb D _ D6 trivial nb6 ng6
      have D8 : h7 D = some (.lst us5) := f8.keep D _ D6 ng6
      obtain ⟨k9, s9⟩ := k6.unwipe k8 f8.bs [i1] hw6
      rw [uw2] at k9 s9
      have f9 : Frm g2 b6 h6 g2 b8 h7 := ⟨f8.bs, fun a u e n => f8.keep a u e fun z => n (sub6 a z), fun a u e1 t e2 n => f8.nb a u e1 t e2 fun z => n (sub6 a z), fun a z => (f8.new a (s9 a z)).elim (fun z => .inl (sub6 a z)) .inr⟩
      have zu8 := denL_mono (f6.bs.trans f8.bs) _ _ zu5
      have l8 := denL_len zu8
      have le8 : us5.length < ((ds.take (i + 1)).flatMap fun d => (B d).map (u d)).length := by
        rw [← l8, lenT, List.length_append, List.length_map, List.length_take]
        omega
      refine ⟨us5, D8, by omega, hjl, b8, us5 ++ [v], k9.aside ng2 nb8, x5.trans (f6.bs.trans f8.bs), ?_, nb8, upd_same, ?_⟩
      · have ff := f5.trans (fr12 (f6.trans f9))
        refine ⟨ff.bs, fun a u e na => ?_, ff.nb, ff.new⟩
        rw [upd_ne (ne_of_none e hD)]
        exact ff.keep a u e na
      · have e5 : (B d).take (j + 1) = (B d).take j ++ [q] := by rw [List.take_succ, eq]; rfl
        rw [e5, List.map_append, ← List.append_assoc]
        exact denL_app zu8 ⟨v, [], rfl, zo, rfl⟩
    · have e : j = (B d).length := by omega
      refine .inl ⟨y5.1 e, hlt, b5, us5, ?_, f5, nb5, D5, ?_⟩
      · obtain ⟨ku, su⟩ := k'.unwipe k5 (f2.bs.trans (f4.bs.trans x5)) vs hwp
        rw [unw] at ku
        exact ku
      · rw [e, List.take_length] at zu5
        rw [etake, List.flatMap_append]
        simpa using zu5
  · have e : i = ds.length := by omega
    subst e
    rw [List.take_length] at zu
    have ft : foot (.lst D ((ds.flatMap fun d => (B d).map (u d)).map .pur)) = [D] := by show D :: footL _ = [D]; rw [footL_pur]
    refine .inl ⟨yy.1 rfl, ?_⟩
    refine ct (.ref D) b' H g1 (.lst D ((ds.flatMap fun d => (B d).map (u d)).map .pur)) (k'.cons ⟨rfl, us, hDH, ownL_pur zu⟩ (by rw [ft]; simp) (fun a m => ?_) fun a m => ?_) (f1.trans ⟨f'.bs, f'.keep, f'.nb, fun a z => ?_⟩) (fin1 D)
    · have : a = D := by rw [ft] at m; simpa using m
      subst this; exact nb'
    · have : a = D := by rw [ft] at m; simpa using m
      subst this; exact ng1
    · rcases inF_cons.mp z with ⟨u, e, m⟩ | z
      · cases e
        have : a = D := by rw [ft] at m; simpa using m
        subst this; exact .inr hD
      · exact f'.new a z
theorem ge_lc2 {elt it0 it1 : Expr} {xn yn : Str} {scope : Scope} {mine : List (Str × Nat)} {i0 i1 : Nat} {px py pos : Pos} {ti ti1 : TI} {te : TE} {wi wi1 : WI} {we : WE} (calm : X.calm = true) (hN : X.N.Nodup) (hi : GI X W (.Name xn px) it0 ti wi) (blk : BlkOk X.N X.env.scope scope mine)
    (hi1 : ∀ (s : Shared) (H : Hp) (C : Addr) (cl : List (Str × Addr)) (fp : List Addr), GI (X.blk s H scope (compEnvC scope cl C X.env) fp) W0 (.Name yn py) it1 ti1 wi1)
    (hg0 : ∀ (s : Shared) (H : Hp) (C : Addr) (cl : List (Str × Addr)) (fp : List Addr), PG (X.blk s H scope (compEnvC scope cl C X.env) fp) (.Name xn px) (gName i0))
    (hg1 : ∀ (s : Shared) (H : Hp) (C : Addr) (cl : List (Str × Addr)) (fp : List Addr), PG (X.blk s H scope (compEnvC scope cl C X.env) fp) (.Name yn py) (gName i1))
    (he : ∀ (s : Shared) (H : Hp) (C : Addr) (cl : List (Str × Addr)) (fp : List Addr), GE (X.blk s H scope (compEnvC scope cl C X.env) fp) W0 elt te we)
    (h0 : i0 ∈ mine.map (·.2) := by decide) (h1 : i1 ∈ mine.map (·.2) := by decide) (fo : ∀ x, foldedSetIterable it0 X.env x = pure x := by intro _; rfl) (fo1 : ∀ env x, foldedSetIterable it1 env x = pure x := by intro _ _; rfl) :
    GE X W (.ListComp elt [⟨.Name xn px, it0, [], 0⟩, ⟨.Name yn py, it1, [], 0⟩] scope pos) (tLc2 ti (gName i0) tYes ti1 (gName i1) tYes te (mine.map (·.2)) [i1]) (wLc2 wi i0 i1 wi1 we (mine.map (·.2))) :=
  ⟨pe_lc2 calm hN hi.pe blk (fun i m => by rw [List.mem_singleton.mp m]; exact h1) hg0 (fun s H C cl fp => pts_nil) (fun s H C cl fp => (hi1 s H C cl fp).pe) hg1 (fun s H C cl fp => pts_nil) (fun s H C cl fp => (he s H C cl fp).pe) fo fo1,
    lc2_se hi.se (hi1 X.s_0 X.H_0 0 [] []).se (he X.s_0 X.H_0 0 [] []).se h0⟩
end
end G
/-! G: slices of any kind; stretches of ways; what a book is. -/
namespace G
open PySem PySem.Spec PyProof.Rows L2 TQ
open Evl (Ex)
def clsBody : Stmt → List Stmt
  | .ClassDef _ _ _ b _ _ _ _ _ _ _ => b
  | _ => []
theorem cutD_all {ds : List D} {l u : Option Int} (h : HT.sIx ds.length 0 l = 0 ∧ HT.sIx ds.length ds.length u = ds.length) : cutD ds l u = ds := by
  unfold cutD
  rw [h.1, h.2]
  simp
section
variable {X : Cx} {W : WX} {e : Expr} {te : TE} {we : WE}
/-- t[lo:hi] of a tuple -/
def wSlA (we : WE) (wl wh : WO) : WE := fun We g P => we We g fun o g1 => wl We g1 fun l g2 => wh We g2 fun u g3 => match o.d with
  | .tup ds => P (.pur (.tup (cutD ds l u))) g3
  | _ => False
theorem ge_slA {lo hi : Option Expr} {tl th : TO} {wl wh : WO} {p2 pos : Pos} (he : GE X W e te we) (hl : GO X W lo tl wl) (hh : GO X W hi th wh) {K : PySem.W.Frag} (hK : X.K = K := by exact rfl) : GE X W (.Subscript e (.Slice lo hi none p2) pos) (tSl (rSlA K) te tl th) (wSlA we wl wh) := by
  subst hK
  refine ⟨pe_slice sl_tupA he.pe hl.pe hh.pe, fun b h σ g We P Q k hw hx ct => ?_⟩
  refine he.se b h σ g We _ _ k hw hx fun v b1 h1 g1 o k1 f1 p1 => ?_
  obtain ⟨b2, k2, f2, z⟩ := come k1 f1
  refine hl.se b2 h1 σ g1 We _ _ k2 p1 (hx.step f2) fun l b3 h3 g3 k3 f3 p3 => ?_
  refine hh.se b3 h3 σ g3 We _ _ k3 p3 (hx.step (f2.trans f3)) fun u b4 h4 g4 k4 f4 p4 => ?_
  have f5 := f3.trans f4
  split at p4
  · rename_i ds ed
    rw [ed] at z
    obtain ⟨a, vs, rfl, q, t⟩ := den_mono f5.bs _ _ z
    have ln := denL_len t
    refine ⟨a, vs, rfl, SqT.of (k4.sub _ _ q), fun hw => ?_, fun hw p np => ?_⟩
    · rw [cutD_all (by rw [ln]; exact hw)] at p4
      exact fin k4 (f2.trans f5) (Res.same (d := .tup ds) k4.sub ⟨a, vs, rfl, q, t⟩) ct p4
    · exact fin k4 (f2.trans f5) (Res.new (d := .tup (cutD ds l u)) k4.sub np ⟨p, _, rfl, upd_same, denL_mono (Ex.new (Evl.fresh_back k4.sub np)) _ _ (denL_cut t)⟩) ct p4
  · exact p4.elim
end
/-! ### stretches -/
def cutI (w : List Int) (s e : Nat) : List Int := (w.drop s).take (e - s)
theorem sIx_in {n : Nat} {d : Nat} {k : Nat} (h : k ≤ n) : HT.sIx n d (some (k : Int)) = k := by rw [HT.sIx_nat]; omega
theorem cutD_tup {w : List Int} {s e : Nat} (h1 : s ≤ w.length) (h2 : e ≤ w.length) : cutD (w.map .int) (some (s : Int)) (some (e : Int)) = (cutI w s e).map .int := by
  unfold cutD cutI
  rw [List.length_map, sIx_in h1, sIx_in h2, ← List.map_drop, ← List.map_take]
/-- the stretches of a way as the program cuts them -/
def stretch (w : List Int) : List (List Int) := (List.range w.length).flatMap fun s => (List.range (w.length - s)).map fun j => cutI w s (s + 1 + j)
def isStretch (w k : List Int) : Prop := ∃ s e, s < e ∧ e ≤ w.length ∧ k = cutI w s e
theorem mem_stretch {w k : List Int} : k ∈ stretch w ↔ isStretch w k := by
  unfold stretch isStretch
  simp only [List.mem_flatMap, List.mem_range, List.mem_map]
  constructor
  · rintro ⟨s, hs, j, hj, rfl⟩
    exact ⟨s, s + 1 + j, by omega, by omega, rfl⟩
  · rintro ⟨s, e, h1, h2, rfl⟩
    exact ⟨s, by omega, e - s - 1, by omega, by rw [show s + 1 + (e - s - 1) = e by omega]⟩
theorem stretch_ne {w k : List Int} (h : k ∈ stretch w) : k ≠ [] := by
  obtain ⟨s, e, h1, h2, rfl⟩ := mem_stretch.mp h
  intro z
  have := congrArg List.length z
  unfold cutI at this
  simp at this
  omega
theorem stretch_len {w : List Int} (h : w.length ≤ 8) : (stretch w).length ≤ 36 := by
  have key : ∀ n, n ≤ 8 → ((List.range n).flatMap fun s => (List.range (n - s)).map fun j => (s, j)).length ≤ 36 := by decide
  have e : (stretch w).length = ((List.range w.length).flatMap fun s => (List.range (w.length - s)).map fun j => (s, j)).length := by
    unfold stretch
    simp [List.length_flatMap]
  rw [e]
  exact key _ h
/-- the pieces of ways: ascending, each once -/
def allP (ws : List (List Int)) : List (List Int) := ((ws.flatMap stretch).eraseDups).mergeSort (fun a b => decide (a ≤ b))
theorem mem_allP {ws : List (List Int)} {k : List Int} : k ∈ allP ws ↔ ∃ w ∈ ws, isStretch w k := by
  unfold allP
  rw [(List.mergeSort_perm _ _).mem_iff, List.mem_eraseDups, List.mem_flatMap]
  exact ⟨fun ⟨w, a, b⟩ => ⟨w, a, mem_stretch.mp b⟩, fun ⟨w, a, b⟩ => ⟨w, a, mem_stretch.mpr b⟩⟩
theorem asc_of_sorted {l : List (List Int)} (h : l.Pairwise (· ≤ ·)) (nd : l.Nodup) : Asc l :=
  (h.and nd).imp fun {x y} ⟨h3, h4⟩ => by
    rcases Classical.em (x < y) with c | c
    · exact c
    · exact absurd (List.le_antisymm h3 (List.not_lt.mp c)) h4
theorem eraseDups_nodup (l : List (List Int)) : l.eraseDups.Nodup := by
  have key : ∀ n, ∀ l : List (List Int), l.length ≤ n → l.eraseDups.Nodup := by
    intro n
    induction n with
    | zero => intro l h; cases l with
      | nil => simp
      | cons _ _ => simp at h
    | succ n ih =>
      intro l h
      cases l with
      | nil => simp
      | cons a l =>
        rw [List.eraseDups_cons]
        refine List.nodup_cons.mpr ⟨fun z => ?_, ih _ ?_⟩
        · rw [List.mem_eraseDups] at z
          have := (List.mem_filter.mp z).2
          simp at this
        · have := List.length_filter_le (fun b => !b == a) l
          simp at h
          omega
  exact key _ l (Nat.le_refl _)
theorem asc_allP (ws : List (List Int)) : Asc (allP ws) := by
  refine asc_of_sorted ?_ ((List.mergeSort_perm _ _).nodup_iff.mpr (eraseDups_nodup _))
  have := List.pairwise_mergeSort (le := fun a b : List Int => decide (a ≤ b)) (fun a b c h1 h2 => by simp only [decide_eq_true_eq] at *; exact List.le_trans h1 h2) (fun a b => by simp only [Bool.or_eq_true, decide_eq_true_eq]; exact List.le_total ..) ((ws.flatMap stretch).eraseDups)
  exact this.imp fun h => by simpa using h
theorem asc_allP_of {ws ks : List (List Int)} (h : Asc ks) (m : ∀ k, k ∈ ks ↔ ∃ w ∈ ws, isStretch w k) : ks = allP ws := asc_mem_ext h (asc_allP ws) fun k => (m k).trans mem_allP.symm
theorem asc_nodup {l : List (List Int)} (h : Asc l) : l.Nodup := h.imp fun {x y} q e => by subst e; exact List.lt_irrefl _ q
theorem nodup_sub_len : ∀ (l m : List (List Int)), l.Nodup → (∀ x ∈ l, x ∈ m) → l.length ≤ m.length := nodup_sub
theorem allP_len {ws : List (List Int)} (h : ∀ w ∈ ws, w.length ≤ 8) : (allP ws).length ≤ ws.length * 36 := by
  have h1 : (allP ws).length ≤ (ws.flatMap stretch).length := nodup_sub_len _ _ (asc_nodup (asc_allP ws)) fun x m => by
    obtain ⟨w, a, b⟩ := mem_allP.mp m
    exact List.mem_flatMap.mpr ⟨w, a, mem_stretch.mpr b⟩
  refine Nat.le_trans h1 ?_
  have : ∀ l : List (List Int), (∀ w ∈ l, w.length ≤ 8) → (l.flatMap stretch).length ≤ l.length * 36 := by
    intro l
    induction l with
    | nil => intro _; simp
    | cons w l ih =>
      intro hl
      have a := stretch_len (hl w List.mem_cons_self)
      have b := ih fun v m => hl v (List.mem_cons_of_mem _ m)
      rw [List.flatMap_cons, List.length_append, List.length_cons]
      omega
  exact this ws h
/-- what a way of n roads is -/
def wayI (n : Int) (w : List Int) : Prop := 1 ≤ w.length ∧ w.length ≤ 8 ∧ w.Nodup ∧ ∀ x ∈ w, 0 ≤ x ∧ x < n
theorem stretch_way {n : Int} {w k : List Int} (h : wayI n w) (s : isStretch w k) : wayI n k := by
  obtain ⟨a, e, h1, h2, rfl⟩ := s
  have sub : (cutI w a e).Sublist w := (List.take_sublist _ _).trans (List.drop_sublist _ _)
  refine ⟨?_, Nat.le_trans sub.length_le h.2.1, sub.nodup h.2.2.1, fun x m => h.2.2.2 x (sub.subset m)⟩
  unfold cutI
  rw [List.length_take, List.length_drop]
  omega
/-! ### books -/
def bkF : List Str := ["roads", "ways", "kept_ways", "kept_followings"]
def nums (n : Nat) : List D := (List.range n).map fun i => .int (i : Nat)
def fol (ks : List (List Int)) : List (List Int) := ks.filter fun k => k.length == 2
/-- the book of so many roads that lists ks -/
def bookD (C : Addr) (r : Int) (ks : List (List Int)) : D := .ins C bkF [.int r, .tup (ks.map tupI), .dT (ks.map kI) (nums ks.length), .tup ((fol ks).map tupI)]
def bookO (p dx C : Addr) (r : Int) (ks : List (List Int)) : O := .ins p dx C bkF [.pur (.int r), .pur (.tup (ks.map tupI)), .pur (.dT (ks.map kI) (nums ks.length)), .pur (.tup ((fol ks).map tupI))]
end G
/-! G: a tuple in a list of tuples; == of lists of tuples. -/
namespace G
open PySem PySem.Spec PyProof.Rows L2 TQ
open Evl (Ex)
def encW (k : List Int) : PyData := .tuple (k.map .int)
theorem pyL_ints : ∀ k : List Int, pyL (k.map D.int) = some (k.map .int)
  | [] => rfl
  | i :: k => by
    show (match D.py (.int i), pyL (k.map D.int) with
      | some p, some ps => some (p :: ps)
      | _, _ => none) = _
    rw [pyL_ints k]
    rfl
theorem py_tupI (k : List Int) : (tupI k).py = some (encW k) := by
  show (pyL (k.map D.int)).map PyData.tuple = _
  rw [pyL_ints]
  rfl
theorem pyL_tups : ∀ ks : List (List Int), pyL (ks.map tupI) = some (ks.map encW)
  | [] => rfl
  | k :: ks => by
    show (match D.py (tupI k), pyL (ks.map tupI) with
      | some p, some ps => some (p :: ps)
      | _, _ => none) = _
    rw [pyL_tups ks, py_tupI]
    rfl
theorem canLay_ints : ∀ k : List Int, PyData.canLayAll0 (k.map .int) = true
  | [] => rfl
  | i :: k => by
    show (PyData.canLay0 (.int i) && PyData.canLayAll0 (k.map .int)) = true
    rw [canLay_ints k]
    rfl
theorem canLay_tups : ∀ ks : List (List Int), PyData.canLayAll0 (ks.map encW) = true
  | [] => rfl
  | k :: ks => by
    show (PyData.canLayAll0 (k.map .int) && PyData.canLayAll0 (ks.map encW)) = true
    rw [canLay_ints, canLay_tups ks]
    rfl
theorem depth_ints' (k : List Int) : PyData.depthAll (k.map .int) = 0 := PySem.W.depth_ints k
theorem depth_tups : ∀ ks : List (List Int), PyData.depthAll (ks.map encW) ≤ 1
  | [] => by decide
  | k :: ks => by
    have h : PyData.depthAll ((k :: ks).map encW) = max (PyData.depthAll (k.map .int) + 1) (PyData.depthAll (ks.map encW)) := rfl
    rw [h, depth_ints']
    have := depth_tups ks
    omega
theorem shaped_tup (k : List Int) : SeqAt.shaped (encW k) = true := by
  unfold SeqAt.shaped
  rw [Bool.and_eq_true]
  refine ⟨canLay_ints k, decide_eq_true ?_⟩
  show PyData.depthAll (k.map .int) + 1 ≤ 64
  rw [depth_ints']
  omega
theorem shaped_lt (ks : List (List Int)) : SeqAt.shaped (.list (ks.map encW)) = true := by
  unfold SeqAt.shaped
  rw [Bool.and_eq_true]
  refine ⟨canLay_tups ks, decide_eq_true ?_⟩
  show PyData.depthAll (ks.map encW) + 1 ≤ 64
  have := depth_tups ks
  omega
theorem shaped_tt (ks : List (List Int)) : SeqAt.shaped (.tuple (ks.map encW)) = true := by
  unfold SeqAt.shaped
  rw [Bool.and_eq_true]
  refine ⟨canLay_tups ks, decide_eq_true ?_⟩
  show PyData.depthAll (ks.map encW) + 1 ≤ 64
  have := depth_tups ks
  omega
theorem eqv_ints : ∀ k m : List Int, PyData.eqvAll (k.map .int) (m.map .int) = decide (k = m)
  | [], [] => rfl
  | [], _ :: _ => by simp [PyData.eqvAll]
  | _ :: _, [] => by simp [PyData.eqvAll]
  | i :: k, j :: m => by
    show (PyData.eqv (.int i) (.int j) && PyData.eqvAll (k.map .int) (m.map .int)) = _
    rw [eqv_ints k m]
    show ((i == j) && decide (k = m)) = _
    by_cases h1 : i = j <;> by_cases h2 : k = m <;> simp [h1, h2]
theorem eqv_tup (k m : List Int) : PyData.eqv (encW k) (encW m) = decide (k = m) := eqv_ints k m
theorem eqv_tups : ∀ ks ms : List (List Int), PyData.eqvAll (ks.map encW) (ms.map encW) = decide (ks = ms)
  | [], [] => rfl
  | [], _ :: _ => by simp [PyData.eqvAll]
  | _ :: _, [] => by simp [PyData.eqvAll]
  | k :: ks, m :: ms => by
    show (PyData.eqv (encW k) (encW m) && PyData.eqvAll (ks.map encW) (ms.map encW)) = _
    rw [eqv_tups ks ms, eqv_tup]
    by_cases h1 : k = m <;> by_cases h2 : ks = ms <;> simp [h1, h2]
theorem eq_lt {neg : Bool} {ks ms : List (List Int)} {P : O → Prop} (h : P (.pur (.bl (if neg then !decide (ks = ms) else decide (ks = ms))))) : roEq neg (.lst (ks.map tupI)) (.lst (ms.map tupI)) P := by
  unfold roEq
  have e : ∀ ks : List (List Int), D.py (.lst (ks.map tupI)) = some (.list (ks.map encW)) := fun ks => by
    show (pyL (ks.map tupI)).map PyData.list = _
    rw [pyL_tups]
    rfl
  rw [e, e]
  refine ⟨shaped_lt ks, shaped_lt ms, ?_⟩
  show P (.pur (.bl (if neg then !PyData.eqvAll (ks.map encW) (ms.map encW) else PyData.eqvAll (ks.map encW) (ms.map encW))))
  rw [eqv_tups]
  exact h
theorem eq_tt {neg : Bool} {ks ms : List (List Int)} {P : O → Prop} (h : P (.pur (.bl (if neg then !decide (ks = ms) else decide (ks = ms))))) : roEq neg (.tup (ks.map tupI)) (.tup (ms.map tupI)) P := by
  unfold roEq
  have e : ∀ ks : List (List Int), D.py (.tup (ks.map tupI)) = some (.tuple (ks.map encW)) := fun ks => by
    show (pyL (ks.map tupI)).map PyData.tuple = _
    rw [pyL_tups]
    rfl
  rw [e, e]
  refine ⟨shaped_tt ks, shaped_tt ms, ?_⟩
  show P (.pur (.bl (if neg then !PyData.eqvAll (ks.map encW) (ms.map encW) else PyData.eqvAll (ks.map encW) (ms.map encW))))
  rw [eqv_tups]
  exact h
theorem eq_bl {neg k m : Bool} {P : O → Prop} (h : P (.pur (.bl (if neg then !(k == m) else (k == m))))) : roEq neg (.bl k) (.bl m) P := by
  unfold roEq
  exact ⟨by cases k <;> decide, by cases m <;> decide, h⟩
@[irreducible] def roInW (neg : Bool) : RO := fun x y P => match y with
  | .lst ds => ∃ (k : List Int) (ks : List (List Int)), x = tupI k ∧ ds = ks.map tupI ∧ P (.pur (.bl (if neg then !decide (k ∈ ks) else decide (k ∈ ks))))
  | _ => False
theorem any_tups (k : List Int) : ∀ ks : List (List Int), ((ks.map encW).any fun z => PyData.eqv z (encW k)) = decide (k ∈ ks)
  | [] => rfl
  | m :: ks => by
    rw [List.map_cons, List.any_cons, eqv_tup, any_tups k ks]
    by_cases h1 : m = k <;> by_cases h2 : k ∈ ks <;> simp [h1, h2]
    intro e
    exact absurd e.symm h1
theorem inW_i {neg : Bool} {k : List Int} {ks : List (List Int)} {P : O → Prop} (h : P (.pur (.bl (if neg then !decide (k ∈ ks) else decide (k ∈ ks))))) : roInW neg (tupI k) (.lst (ks.map tupI)) P := by
  unfold roInW
  exact ⟨k, ks, rfl, rfl, h⟩
theorem inT_i {neg : Bool} {k : List Int} {ks : List (List Int)} {ds : List D} {P : O → Prop} (h : P (.pur (.bl (if neg then !decide (k ∈ ks) else decide (k ∈ ks))))) : roInT neg (tupI k) (.dT (ks.map kI) ds) P := by
  unfold roInT
  refine ⟨k, rfl, ?_⟩
  rw [find_mem]
  exact h
section
variable {X : Cx}
theorem dp_tup {K : PySem.W.Frag} {b h : Hp} {k : List Int} {v : V} (s : Ex b h) (z : den K b (tupI k) v) : Dp K h v (encW k) := Dp_ex s (py_ok _ v _ z (py_tupI k))
theorem dp_lt {K : PySem.W.Frag} {b h : Hp} {ks : List (List Int)} {v : V} (s : Ex b h) (z : den K b (.lst (ks.map tupI)) v) : Dp K h v (.list (ks.map encW)) := Dp_ex s (py_ok _ v _ z (by
  show (pyL (ks.map tupI)).map PyData.list = _
  rw [pyL_tups]
  rfl))
theorem og_inW (hu : X.A.units + 65 < cLine) {K : PySem.W.Frag} (hK : X.K = K := by exact rfl) : OpG X (compareOp .In) (rInD K) (roInW false) := by
  subst hK
  refine ⟨op_inD hu, fun b hh x y dx dy P Q s zx zy hr c => ?_⟩
  unfold roInW at hr
  split at hr
  · obtain ⟨k, ks, rfl, rfl, hr⟩ := hr
    refine ⟨encW k, ks.map encW, dp_tup s zx, dp_lt s zy, shaped_tup k, shaped_lt ks, ?_⟩
    rw [any_tups]
    exact c _ b hh (.pur (.bl _)) (Res.same s rfl) hr
  · exact hr.elim
theorem og_notInW (hu : X.A.units + 65 < cLine) {K : PySem.W.Frag} (hK : X.K = K := by exact rfl) : OpG X (compareOp .NotIn) (rNotInD K) (roInW true) := by
  subst hK
  refine ⟨op_notInD hu, fun b hh x y dx dy P Q s zx zy hr c => ?_⟩
  unfold roInW at hr
  split at hr
  · obtain ⟨k, ks, rfl, rfl, hr⟩ := hr
    refine ⟨encW k, ks.map encW, dp_tup s zx, dp_lt s zy, shaped_tup k, shaped_lt ks, ?_⟩
    rw [any_tups]
    exact c _ b hh (.pur (.bl _)) (Res.same s rfl) hr
  · exact hr.elim
theorem hu65 {k : Nat} {A : Around} (r : Room k A) : A.units + 65 < cLine := by have := r.un; omega
theorem hu16 {k : Nat} {A : Around} (r : Room k A) : A.units + 16 < cLine := by have := r.un; omega
end
end G
/-! G: how readings close (sets, dicts with tuple keys, two fors, instances). -/
namespace G
open PySem PySem.Spec PyProof.Rows L2 TQ
open Evl (Ex)
theorem sorted_eq : ∀ {l m : List (List Int)}, l.Perm m → l.Pairwise (· ≤ ·) → m.Pairwise (· ≤ ·) → l = m
  | [], m, p, _, _ => p.nil_eq
  | x :: l, [], p, _, _ => absurd p.length_eq (by simp)
  | x :: l, y :: m, p, a, b => by
    obtain ⟨a1, a2⟩ := List.pairwise_cons.mp a
    obtain ⟨b1, b2⟩ := List.pairwise_cons.mp b
    have e : x = y := by
      rcases List.mem_cons.mp (p.mem_iff.mp List.mem_cons_self) with e | e
      · exact e
      · rcases List.mem_cons.mp (p.mem_iff.mpr List.mem_cons_self) with e2 | e2
        · exact e2.symm
        · exact List.le_antisymm (a1 y e2) (b1 x e)
    subst e
    exact congrArg (x :: ·) (sorted_eq ((List.perm_cons x).mp p) a2 b2)
def sortW (l : List (List Int)) : List (List Int) := l.mergeSort (fun a b => decide (a ≤ b))
theorem sortW_pw (l : List (List Int)) : (sortW l).Pairwise (· ≤ ·) := by
  have := List.pairwise_mergeSort (le := fun a b : List Int => decide (a ≤ b)) (fun a b c h1 h2 => by simp only [decide_eq_true_eq] at *; exact List.le_trans h1 h2) (fun a b => by simp only [Bool.or_eq_true, decide_eq_true_eq]; exact List.le_total ..) l
  exact this.imp fun h => by simpa using h
theorem sortW_of {l m : List (List Int)} (p : l.Perm m) (s : l.Pairwise (· ≤ ·)) : l = sortW m := sorted_eq (p.trans (List.mergeSort_perm _ _).symm) s (sortW_pw m)
theorem mem_sortW {l : List (List Int)} {k : List Int} : k ∈ sortW l ↔ k ∈ l := (List.mergeSort_perm _ _).mem_iff
theorem sortW_len (l : List (List Int)) : (sortW l).length = l.length := (List.mergeSort_perm _ _).length_eq
theorem sortL_i {p : Addr} {ks : List (List Int)} {P : O → Prop} (ne : ∀ k ∈ ks, k ≠ []) (h : ∀ q, P (.lst q (((sortW ks).map tupI).map .pur))) : rcSortL [(O.lst p ((ks.map tupI).map .pur)).d] P := by
  show rcSortL [.lst (O.dL ((ks.map tupI).map .pur))] P
  rw [dL_pur]
  exact ⟨ks, rfl, ne, fun L q pm s => by rw [sortW_of pm s]; exact h q⟩
theorem sortK_i {i : Nat} {g : Gam} {P : O → Gam → Prop} {We : Wsh} {p : Addr} {ms : List (List Int)} {xs : List O} (e : g[i]? = some (some (.dT p (ms.map kI) xs))) (ne : ∀ k ∈ ms, k ≠ []) (h : ∀ q, P (.lst q (((sortW ms).map tupI).map .pur)) g) : wSortK i We g P := by
  unfold wSortK
  rw [e]
  exact ⟨ms, rfl, ne, fun L q pm s => by rw [sortW_of pm s]; exact h q⟩
theorem cp_i {wi wi1 : WI} {i0 i1 : Nat} {vs : List Nat} {We : Wsh} {g : Gam} {P : O → Gam → Prop} (ds : List D) (f : D → List (List Int)) (hi : ∀ Q : List D → Gam → Prop, Q ds g → wi We g Q) (l1 : i1 < g.length) (few : ∃ U : List (List Int), U.length + 1 < 2400 ∧ ∀ k ∈ ds.flatMap f, k ∈ U) (ne : ∀ k ∈ ds.flatMap f, k ≠ [])
    (w1 : ∀ d, unwipe g ((wipeG g vs).set i0 (some (.pur d))) vs = g)
    (inner : ∀ d ∈ ds, wi1 (fun _ _ => False) ((wipeG g vs).set i0 (some (.pur d))) fun es g3 => g3 = (wipeG g vs).set i0 (some (.pur d)) ∧ es = (f d).map tupI)
    (h : ∀ ks p, Asc ks → (∀ k, k ∈ ks ↔ k ∈ ds.flatMap f) → P (.lst p ((ks.map tupI).map .pur)) g) : wCp wi i0 i1 wi1 vs We g P := by
  unfold wCp
  exact hi _ ⟨l1, f, few, ne, w1, inner, h⟩
theorem lc2_i {wi wi1 : WI} {we : WE} {i0 i1 : Nat} {vs : List Nat} {We : Wsh} {g : Gam} {P : O → Gam → Prop} (ds : List D) (B : D → List D) (u : D → D → D) (hi : ∀ Q : List D → Gam → Prop, Q ds g → wi We g Q) (few : (ds.flatMap fun d => (B d).map (u d)).length ≤ sizeLine)
    (w1 : ∀ d, unwipe g ((wipeG g vs).set i0 (some (.pur d))) vs = g)
    (w2 : ∀ d x, unwipe ((wipeG g vs).set i0 (some (.pur d))) ((wipeG ((wipeG g vs).set i0 (some (.pur d))) [i1]).set i1 (some (.pur x))) [i1] = (wipeG g vs).set i0 (some (.pur d)))
    (inner : ∀ d ∈ ds, wi1 (fun _ _ => False) ((wipeG g vs).set i0 (some (.pur d))) fun es g3 => g3 = (wipeG g vs).set i0 (some (.pur d)) ∧ es = B d)
    (elts : ∀ d ∈ ds, ∀ x ∈ B d, we (fun _ _ => False) ((wipeG ((wipeG g vs).set i0 (some (.pur d))) [i1]).set i1 (some (.pur x))) fun o g7 => g7 = (wipeG ((wipeG g vs).set i0 (some (.pur d))) [i1]).set i1 (some (.pur x)) ∧ o.d = u d x)
    (h : ∀ p, P (.lst p ((ds.flatMap fun d => (B d).map (u d)).map .pur)) g) : wLc2 wi i0 i1 wi1 we vs We g P := by
  unfold wLc2
  exact hi _ ⟨B, u, few, w1, w2, inner, elts, h⟩
theorem dt_i {wi : WI} {wg : WG} {wk wv : WE} {vs : List Nat} {We : Wsh} {g : Gam} {P : O → Gam → Prop} (ds : List D) (f : D → List Int) (u : D → D) (hi : ∀ Q : List D → Gam → Prop, Q ds g → wi We g Q) (few : ds.length < sizeLine) (nd : (ds.map f).Nodup)
    (turn : ∀ d ∈ ds, wg d (wipeG g vs) fun g2 => wk (fun _ _ => False) g2 fun o g3 => o.d = tupI (f d) ∧ wv (fun _ _ => False) g3 fun r g4 => r.d = u d ∧ unwipe g g4 vs = g)
    (h : ∀ p, P (.dT p ((ds.map f).map kI) ((ds.map u).map .pur)) g) : wDt wi wg wk wv vs We g P := by
  unfold wDt
  exact hi _ ⟨f, u, few, nd, turn, h⟩
theorem dput_t {i : Nat} {we : WE} {We : Wsh} {E : GEnds} {u : O} {g : Gam} {p : Addr} {ks : List (List Int)} {xs : List O} {k : List Int} (e : g[i]? = some (some (.dT p (ks.map kI) xs))) (hwe : ∀ Q : O → Gam → Prop, Q (.pur (tupI k)) g → we We g Q) (nd : ks.Nodup) (few : xs.length < sizeLine)
    (h1 : k ∈ ks → ∀ j, E.nx (g.set i (some (.dT p (ks.map kI) (xs.set j (.pur u.d)))))) (h2 : k ∉ ks → E.nx (g.set i (some (.dT p ((ks ++ [k]).map kI) (xs ++ [.pur u.d]))))) : dputT i we We E u g := by
  unfold dputT
  refine ⟨by rw [e]; trivial, hwe _ ?_⟩
  rw [e]
  refine ⟨k, rfl, ?_, few, ?_⟩
  · exact List.pairwise_map.mpr (nd.imp fun {a b} ne e => ne (kI_inj e))
  · unfold putT
    have m := find_mem (k := k) (ks := ks)
    cases q : findK (ks.map kI) (kI k) with
    | some j =>
      rw [q] at m
      exact h1 (by simpa using m.symm) j
    | none =>
      rw [q] at m
      have := h2 (by simpa using m.symm)
      rw [List.map_append] at this
      exact this
/-- behind a def: its first argument is an instance | a list of its own -/
theorem nx_ins {as : List O} {R : O → Gam → Prop} {p dx C : Addr} {fs fs' : List Str} {xs xs' : List O} {g : Gam} (h : R (.pur .non) (some (.ins p dx C fs' xs') :: aft as g)) : (endsOf (.ins p dx C fs xs :: as) R).nx (some (.ins p dx C fs' xs') :: g) := by
  show R (.pur .non) (aft (.ins p dx C fs xs :: as) (some (.ins p dx C fs' xs') :: g))
  have e : aft (.ins p dx C fs xs :: as) (some (.ins p dx C fs' xs') :: g) = some (.ins p dx C fs' xs') :: aft as g := by
    show keepA _ _ :: aft as g = _
    have : keepA (.ins p dx C fs xs) (some (.ins p dx C fs' xs')) = some (.ins p dx C fs' xs') := by
      show (if root (.ins p dx C fs' xs') = some p then some _ else none) = _
      exact if_pos rfl
    rw [this]
  rw [e]
  exact h
theorem rt_lst {as : List O} {R : O → Gam → Prop} {o : O} {p : Addr} {xs xs' : List O} {g : Gam} (h : R o (some (.lst p xs') :: aft as g)) : (endsOf (.lst p xs :: as) R).rt o (some (.lst p xs') :: g) := by
  show R o (aft (.lst p xs :: as) (some (.lst p xs') :: g))
  have e : aft (.lst p xs :: as) (some (.lst p xs') :: g) = some (.lst p xs') :: aft as g := by
    show keepA _ _ :: aft as g = _
    have : keepA (.lst p xs) (some (.lst p xs')) = some (.lst p xs') := by
      show (if root (.lst p xs') = some p then some _ else none) = _
      exact if_pos rfl
    rw [this]
  rw [e]
  exact h
theorem intsOf_map : ∀ {ds : List D} {ns : List Int}, intsOf ds = some ns → ds = ns.map .int
  | [], _, e => by cases e; rfl
  | d :: ds, ns, e => by
    cases d with
    | int i =>
      have e' : (intsOf ds).map (i :: ·) = some ns := e
      cases q : intsOf ds with
      | none => rw [q] at e'; cases e'
      | some l => rw [q] at e'; cases e'; rw [intsOf_map q]; rfl
    | _ => cases e
theorem ints_intsOf : ∀ ns : List Int, intsOf (ns.map D.int) = some ns
  | [] => rfl
  | n :: ns => by
    show (intsOf (ns.map D.int)).map (n :: ·) = _
    rw [ints_intsOf ns]
    rfl
theorem fm_congr {α β : Type} {f h : α → List β} : ∀ {l : List α}, (∀ a ∈ l, f a = h a) → l.flatMap f = l.flatMap h
  | [], _ => rfl
  | a :: l, e => by rw [List.flatMap_cons, List.flatMap_cons, e a List.mem_cons_self, fm_congr fun b m => e b (List.mem_cons_of_mem _ m)]
theorem pgn {X : Cx} {i : Nat} {x : Str} {pos : Pos} (hN : X.N.Nodup) (hi : X.N[i]? = some x := by rfl) (hx : Loc X.env.scope x := by first | exact Or.inl rfl | exact Or.inr rfl)
    (hf : X.fn x = true ∨ X.env.scope.names.lookup x = some .local := by first | exact .inl rfl | exact .inr rfl) : PG X (.Name x pos) (gName i) := pg_name hN hi hx hf
theorem pev {X : Cx} {i : Nat} {x : Str} {pos : Pos} (hN : X.N[i]? = some x := by rfl) (hv : Vis X.env.scope x := by first | exact Or.inl rfl | exact Or.inr (Or.inl rfl) | exact Or.inr (Or.inr rfl)) (hd : (x == ("__debug__" : Str)) = false := by decide) (hcd : (x == ("__classdict__" : Str)) = false := by decide) : PE X (.Name x pos) (tVar i) := pe_var hN hv hd hcd
theorem lc_raw {wi : WI} {wg : WG} {wt : WT} {we : WE} {vs : List Nat} {We : Wsh} {g : Gam} {P : O → Gam → Prop} (h : wi We g fun ds g1 => ∃ I : Nat → List D → Gam → Prop, I 0 [] g1 ∧
    (∀ i d acc g2, ds[i]? = some d → acc.length ≤ i → I i acc g2 → i < sizeLine ∧ wg d (wipeG g2 vs) fun g3 => wt (fun _ _ => False) g3 fun k g4 =>
      br k (we (fun _ _ => False) g4 fun o g5 => I (i + 1) (acc ++ [o.d]) (unwipe g2 g5 vs)) (I (i + 1) acc (unwipe g2 g4 vs))) ∧
    ∀ acc g2, acc.length ≤ ds.length → I ds.length acc g2 → ∀ p, P (.lst p (acc.map .pur)) g2) : wLc wi wg wt we vs We g P := by
  unfold wLc
  exact h
end G
/-! G: an expression that only looks: every slot counts as data meanwhile, and what comes is a plain value. -/
namespace G
open PySem PySem.Spec PyProof.Rows L2
open Evl (Ex)
def frzG (g : Gam) : Gam := g.map (Option.map fun o => .pur o.d)
section
variable {K : PySem.W.Frag} {b h h2 : Hp} {σ : L2.St} {g : Gam}
theorem frzG_at {i : Nat} {o : O} (e : (frzG g)[i]? = some (some o)) : ∃ u, g[i]? = some (some u) ∧ o = .pur u.d := by
  unfold frzG at e
  rw [List.getElem?_map] at e
  cases q : g[i]? with
  | none => rw [q] at e; cases e
  | some w =>
    rw [q] at e
    cases w with
    | none => cases e
    | some u => cases e; exact ⟨u, rfl, rfl⟩
theorem Hold.look (k : Hold K b h σ g) : Hold K h h σ (frzG g) := by
  refine ⟨Ex.refl h, by rw [k.len]; simp [frzG], fun i o e => ?_, fun i o e => ?_, fun i j o u n e1 e2 a m => ?_, fun i o e a m => ?_⟩
  · obtain ⟨u, e1, rfl⟩ := frzG_at e
    obtain ⟨v, e2, z⟩ := k.sl i u e1
    exact ⟨v, e2, own_frz k.sub u v z fun _ _ => rfl⟩
  · obtain ⟨u, e1, rfl⟩ := frzG_at e
    exact List.nodup_nil
  · obtain ⟨u, e1, rfl⟩ := frzG_at e1
    cases m
  · obtain ⟨u, e1, rfl⟩ := frzG_at e
    cases m
theorem Hold.looked (k : Hold K b h σ g) (e : Ex h h2) : Hold K b h2 σ g ∧ Frm g b h g b h2 := by
  refine ⟨⟨k.sub.trans e, k.len, fun i o q => ?_, k.nd, k.dj, k.nb⟩, Ex.refl b, fun a o q _ => e a o q, fun a o q1 _ q2 _ => q2, fun a z => .inl z⟩
  obtain ⟨v, e1, z⟩ := k.sl i o q
  refine ⟨v, e1, own_keep (Ex.refl b) o v z fun a m => ?_⟩
  obtain ⟨w, ew⟩ := k.inF_there ⟨i, o, q, m⟩
  rw [ew, e a w ew]
def atomD : D → Bool
  | .int _ => true
  | .bl _ => true
  | .non => true
  | .str _ => true
  | _ => false
theorem den_atom {b b' : Hp} {d : D} {v : V} (a : atomD d = true) (z : den K b d v) : den K b' d v := by
  cases d with
  | int i => exact z
  | bl k => exact z
  | non => exact z
  | str s => exact z
  | _ => cases a
end
section
variable {X : Cx} {W : WX} {e : Expr}
def wPeekT (w : WT) : WT := fun _ g P => w (fun _ _ => False) (frzG g) fun k _ => P k g
theorem gt_peek {t : TT} {w : WT} (ht : GT X W e t w) : GT X W e t (wPeekT w) := by
  refine ⟨ht.pe, fun b h σ g We P Q k hw hx ct => ?_⟩
  refine ht.se h h σ (frzG g) _ _ _ k.look hw contX0 fun z b2 h2 g2 k2 f2 p => ?_
  obtain ⟨k3, f3⟩ := k.looked (f2.bs.trans k2.sub)
  exact ct z b h2 g k3 f3 p
def wPeek (w : WE) : WE := fun _ g P => w (fun _ _ => False) (frzG g) fun o _ => ∃ d, o = .pur d ∧ atomD d = true ∧ P (.pur d) g
theorem ge_peek {t : TE} {w : WE} (ht : GE X W e t w) : GE X W e t (wPeek w) := by
  refine ⟨ht.pe, fun b h σ g We P Q k hw hx ct => ?_⟩
  refine ht.se h h σ (frzG g) _ _ _ k.look hw contX0 fun v b2 h2 g2 o k2 f2 ⟨d, eo, at_, p⟩ => ?_
  subst eo
  obtain ⟨k3, f3⟩ := k.looked (f2.bs.trans k2.sub)
  refine fin k3 f3 (Res.same k3.sub (den_atom at_ k2.head.1)) ct p
end
end G
/-! G: own classes: isinstance of them and with them, their own ==; a hook with facts of one's own. -/
namespace G
open PySem PySem.Spec PyProof.Rows L2
open Evl (Ex)
/-! ### a hook with more facts -/
abbrev AlX : Type := Bool × He.AlD
def obsX (ex : List (PySem.W.Frag → Bool)) (fa : List He.Fa) (fn : List He.DefD) (K : PySem.W.Frag) : AlX := (ex.all fun f => f K, He.obsD fa fn K)
def SaysX (ex : List (PySem.W.Frag → Bool)) (fa : List He.Fa) (fn : List He.DefD) (K : PySem.W.Frag) : Prop := obsX ex fa fn K = (true, He.valD fn)
def obsXG (ex : List (PySem.W.Frag → Bool)) (n : Nat) (fa : List He.Fa) (fn : List He.DefD) (g : Addr → Option Obj) : AlX := obsX ex fa fn (He.frG g (He.asD g n))
def hookX (ex : List (PySem.W.Frag → Bool)) (n : Nat) (fa : List He.Fa) (fn : List He.DefD) : PySem.W.Hook where
  α := AlX
  obs := fun s => obsXG ex n fa fn s.heap.get?
  val := fun _ => (true, He.valD fn)
  says := fun _ h => ∃ K : PySem.W.Frag, K.In h ∧ SaysX ex fa fn K
  of := fun _ _ e => ⟨_, He.frG_in, e⟩
  keeps := fun _ _ _ ⟨K, hK, c⟩ k => ⟨K, PySem.W.Frag.In.keeps hK k, c⟩
theorem obsXG_eq {ex : List (PySem.W.Frag → Bool)} {n : Nat} {fa : List He.Fa} {fn : List He.DefD} {g : Addr → Option Obj} {s : Shared} (h : ∀ a, g a = s.heap.get? a) : obsXG ex n fa fn g = (hookX ex n fa fn).obs s := by
  have e : g = s.heap.get? := funext h
  rw [e]; rfl
section
variable {ex : List (PySem.W.Frag → Bool)} {fa : List He.Fa} {fn : List He.DefD} {K : PySem.W.Frag}
theorem SaysX.says (c : SaysX ex fa fn K) : He.SaysD fa fn K := congrArg (fun z : AlX => z.2) c
theorem SaysX.more (c : SaysX ex fa fn K) (i : Nat) {f : PySem.W.Frag → Bool} (h : ex[i]? = some f := by rfl) : f K = true :=
  List.all_eq_true.mp (show (ex.all fun f => f K) = true from congrArg (fun z : AlX => z.1) c) f (List.mem_of_getElem? h)
end
/-! ### what isinstance asks of a class -/
def sixT : List String := ["int", "bool", "tuple", "list", "str", "dict"]
def clsB (K : PySem.W.Frag) (C : Addr) : Bool := He.eqO (PySem.W.findIn K (.ref C) "__class__") (some (some (.builtin "object.__class__"))) &&
  (decide (PySem.W.specialIn K (.builtin "object.__class__") "__get__" = some (some (.builtin "getset_descriptor.__get__"))) && (decide (PySem.W.takesIn K (.builtin "object.__class__") = some true) &&
  (decide (PySem.W.mroIn K C (.type "object") = some true) && (((PySem.W.clsIn K C).isSome && PySem.W.typeIn K (.ref C) == some (.type "type")) && sixT.all fun n => decide (PySem.W.mroIn K C (.type n) = some false)))))
def subB (K : PySem.W.Frag) (C D : Addr) (b : Bool) : Bool := decide (PySem.W.kitOne K (.ref C) (.ref D) = some b)
structure ClsX (K : PySem.W.Frag) (C : Addr) : Prop where
  cl : Cls K C
  ha : PySem.W.findIn K (.ref C) "__class__" = some (some (.builtin "object.__class__"))
  hn : PySem.W.specialIn K (.builtin "object.__class__") "__get__" = some (some (.builtin "getset_descriptor.__get__"))
  htk : PySem.W.takesIn K (.builtin "object.__class__") = some true
  hm : PySem.W.mroIn K C (.type "object") = some true
  hc : ((PySem.W.clsIn K C).isSome && PySem.W.typeIn K (.ref C) == some (.type "type")) = true
  h6 : ∀ n ∈ sixT, PySem.W.mroIn K C (.type n) = some false
theorem clsX_of {K : PySem.W.Frag} {C : Addr} (c : Cls K C) (h : clsB K C = true) : ClsX K C := by
  obtain ⟨h1, h⟩ := He.ba h
  obtain ⟨h2, h⟩ := He.ba h
  obtain ⟨h3, h⟩ := He.ba h
  obtain ⟨h4, h⟩ := He.ba h
  obtain ⟨h5, h6⟩ := He.ba h
  exact ⟨c, He.eqO_ok h1, of_decide_eq_true h2, of_decide_eq_true h3, of_decide_eq_true h4, h5, fun n m => of_decide_eq_true (List.all_eq_true.mp h6 n m)⟩
section
variable {K : PySem.W.Frag} {C : Addr} {H : Hp}
theorem ClsX.ty (x : ClsX K C) {a dx : Addr} {fs : List (Str × V)} (e : H a = some (.ins C dx fs)) : TyX K H (.ref a) (.ref C) := .base (.ins e x.cl x.ha x.hn x.htk x.hm)
theorem kitMeta6 {n : String} (h : n ∈ sixT) : PySem.W.kitMeta n = true := by
  simp only [sixT, List.mem_cons, List.not_mem_nil, or_false] at h
  rcases h with rfl | rfl | rfl | rfl | rfl | rfl <;> decide +kernel
theorem ClsX.kit6 (x : ClsX K C) {n : String} (h : n ∈ sixT) : PySem.W.kitOne K (.ref C) (.type n) = some false := by
  have e : PySem.W.kitOne K (.ref C) (.type n) = PySem.W.kitCls K (.ref C) (.type n) := if_neg (show ¬ (Value.ref C == Value.type n) = true from fun z => nomatch (show false = true from z))
  rw [e]
  show (if PySem.W.kitMeta n = true then PySem.W.mroIn K C (.type n) else none) = _
  rw [if_pos (kitMeta6 h)]
  exact x.h6 n h
theorem kit_self : PySem.W.kitOne K (.ref C) (.ref C) = some true := if_pos (by simp)
def tys7 : List String := ["NoneType", "bool", "int", "str", "tuple", "list", "dict"]
theorem mro7 {t : String} (h : t ∈ tys7) (C : Addr) : (PySem.W.subIn K (.type t) (.ref C)) = some false := by
  simp only [tys7, List.mem_cons, List.not_mem_nil, or_false] at h
  rcases h with rfl | rfl | rfl | rfl | rfl | rfl | rfl <;> rfl
theorem ClsX.kit7 (x : ClsX K C) {t : String} (h : t ∈ tys7) : PySem.W.kitOne K (.type t) (.ref C) = some false := by
  have e : PySem.W.kitOne K (.type t) (.ref C) = PySem.W.kitCls K (.type t) (.ref C) := if_neg (show ¬ (Value.type t == Value.ref C) = true from fun z => nomatch (show false = true from z))
  rw [e]
  show (if _ then PySem.W.subIn K (.type t) (.ref C) else none) = _
  rw [if_pos x.hc]
  exact mro7 h C
end
end G
/-! G: a class's own ==; isinstance with own classes. -/
namespace G
open PySem PySem.Spec PyProof.Rows L2
open Evl (Ex)
section
variable {X : Cx} {W : WX}
/-! ### x == y by the text's own method -/
def rOwnEq (K : PySem.W.Frag) (C : Addr) (sp : Sp) : R2 := fun x y H Q => (∃ a dx fs, x = .ref a ∧ H a = some (.ins C dx fs)) ∧ (∃ tb, TyX K H y tb ∧ PySem.W.notFirst K C tb = true) ∧ sp [x, y] H (fun v H' => ∃ z, v = .bl z ∧ Q (.bl z) H') E0
theorem op_own {k : Nat} {C f : Addr} {fd : FuncData} {ps : List Str} {sp : Sp} (F : FnOk X.prog X.w X.K X.mg X.base (L2.CX X.prog X.w) k f fd ps sp) (hm : Meth X.K C "__eq__" f) (hb : Binds X.K fd ps []) (hr : Room k X.A) : OpR X (compareOp .Eq) (rOwnEq X.K C sp) := by
  intro pins s σ H x y v u Q I rx ry hq
  obtain ⟨⟨a, dx, fs, rfl, ha⟩, ⟨tb, ty, nf⟩, h⟩ := hq
  show wpAny (model X.prog X.w) X.A (richCompare .Eq v u) (EP X pins σ Q) X.xe s
  cases rx
  obtain ⟨mA, J, _⟩ := ins_get I.hok ha
  obtain ⟨od, J, _⟩ := J.look
  obtain ⟨m, hF⟩ := I.fr
  obtain ⟨Pk, Z, pk, _⟩ := kit_of I ry ty
  refine PySem.W.cmp_K (op := .Eq) (tb := tb) hr.units0 hF I.ok.mod.kin J (Z.ty _ _ I.kIn pk) nf hm.at_ hm.fn ?_
  have r2 : Vals [V.ref a, y] [Value.ref a, u] := .cons rfl (.cons ry .nil)
  refine wpAny_mono (run_fn (dvs := []) (ds := []) F hr hb .nil passL I r2 h) (fun r s' q => ?_) fun _ _ e => e
  obtain ⟨v', H', I', rv, z, rfl, qz⟩ := q
  cases rv
  exact ⟨.bl z, H', I', rfl, qz⟩
def roOwnEq (C : Addr) (pm : Pm) : RO := fun dx dy P => (∃ fs xs, dx = .ins C fs xs) ∧ ((∃ fs xs, dy = .ins C fs xs) ∨ D.ok dy = true) ∧ pm [.pur dx, .pur dy] (fun _ _ => False) (fun o _ => ∃ z, o = .pur (.bl z) ∧ P (.pur (.bl z)))
theorem hold_pur2 {K : PySem.W.Frag} {b h : Hp} {x y : V} {dx dy : D} (s : Ex b h) (zx : den K b dx x) (zy : den K b dy y) : Hold K b h ([x, y].map some) ([O.pur dx, .pur dy].map some) := by
  have base : Hold K b h ([] : L2.St) [] := ⟨s, rfl, fun i o e => by simp at e, fun i o e => by simp at e, fun i j o u n e => by simp at e, fun i o e => by simp at e⟩
  have h1 : Hold K b h [some y] [some (.pur dy)] := base.cons (o := .pur dy) zy List.nodup_nil (fun a m => (List.not_mem_nil m).elim) fun a m => (List.not_mem_nil m).elim
  exact h1.cons (o := .pur dx) zx List.nodup_nil (fun a m => (List.not_mem_nil m).elim) fun a m => (List.not_mem_nil m).elim
theorem no_inF2 {dx dy : D} {a : Addr} : ¬ inF ([O.pur dx, .pur dy].map some) a := by
  intro z
  rcases inF_cons.mp z with ⟨o, e, m⟩ | z
  · cases e; cases m
  · rcases inF_cons.mp z with ⟨o, e, m⟩ | z
    · cases e; cases m
    · exact (inF_nil z).elim
theorem ClsX.first {K : PySem.W.Frag} {C : Addr} {H : Hp} (x : ClsX K C) {b : Hp} {d : D} {v : V} (s : Ex b H) (z : den K b d v) (h : (∃ fs xs, d = .ins C fs xs) ∨ D.ok d = true) : ∃ tb, TyX K H v tb ∧ PySem.W.notFirst K C tb = true := by
  rcases h with ⟨fs, xs, rfl⟩ | h
  · obtain ⟨a, dx, vs, rfl, e, _⟩ := z
    exact ⟨_, x.ty (s _ _ e), by simp [PySem.W.notFirst]⟩
  · unfold D.ok at h
    cases e : tyD d with
    | none => rw [e] at h; cases h
    | some t =>
      refine ⟨_, ty_ok s z e, ?_⟩
      have m : t ∈ tys7 := by
        rcases tyD_cases e with rfl | rfl | rfl | rfl | rfl | rfl | rfl <;> decide
      show (Value.type t == Value.ref C || PySem.W.subIn K (.type t) (.ref C) == some false) = true
      rw [mro7 m C]
      simp
theorem og_own {k : Nat} {C : Addr} {ps : List Str} {pm : Pm} (x : ClsX X.K C) (F : FnM X.prog X.w X.K X.mg X.base k C "__eq__" ps pm) (h2 : ps.length = 2) (hr : Room k X.A) : OpG X (compareOp .Eq) (rOwnEq X.K C (spOf X.K ps.length pm)) (roOwnEq C pm) := by
  obtain ⟨f, fd, F, hm, hb⟩ := F.ex
  refine ⟨op_own F hm hb hr, fun b h x y dx dy P Q s zx zy hr c => ?_⟩
  obtain ⟨⟨fs, xs, rfl⟩, hy, hp⟩ := hr
  refine ⟨?_, ‹ClsX X.K C›.first s zy hy, b, [.pur (.ins C fs xs), .pur dy], _, _, by rw [h2]; rfl, hold_pur2 s zx zy, hp, fun v b' h' g' o k' f' p => ?_, fun cls d b' h' g' x k' f' z p => p⟩
  · obtain ⟨a, d, vs, rfl, e, _⟩ := zx
    exact ⟨a, d, _, rfl, s _ _ e⟩
  · obtain ⟨z, rfl, pz⟩ := p
    obtain ⟨zv, nd, nb, _⟩ := k'.head
    have ev : v = .bl z := zv
    subst ev
    refine ⟨z, rfl, c _ b' h' (.pur (.bl z)) ?_ pz⟩
    refine ⟨hold1 k'.sub zv nd nb, f'.bs, fun a o e _ => f'.keep a o e no_inF2, fun a o e t e2 _ => f'.nb a o e t e2 no_inF2, fun a q => ?_⟩
    rcases inF_cons.mp q with ⟨u, e, m⟩ | q
    · cases e; cases m
    · exact (inF_nil q).elim
/-! ### isinstance -/
def D.okX (C : Addr) (d : D) : Prop := (∃ fs xs, d = .ins C fs xs) ∨ D.ok d = true
def isInsB : D → Bool
  | .ins _ _ _ => true
  | _ => false
@[irreducible] def isCP (C : Addr) (d : D) (P : O → Prop) : Prop := D.okX C d ∧ P (.pur (.bl (isInsB d)))
theorem isCP_i {C : Addr} {d : D} {P : O → Prop} (h : D.okX C d) (p : P (.pur (.bl (isInsB d)))) : isCP C d P := by unfold isCP; exact ⟨h, p⟩
@[irreducible] def isXP (C : Addr) (d : D) (n : String) (P : O → Prop) : Prop := D.okX C d ∧ knownT n = true ∧ P (.pur (.bl (isD d n)))
theorem isXP_i {C : Addr} {d : D} {n : String} {P : O → Prop} (h : D.okX C d) (hn : knownT n = true) (p : P (.pur (.bl (isD d n)))) : isXP C d n P := by unfold isXP; exact ⟨h, hn, p⟩
/-- isinstance(x, C), C an own class -/
def rcIsC (C : Addr) : RC1 := fun ds P => match ds with
  | [d, .fn c] => c = C ∧ isCP C d P
  | _ => False
/-- isinstance(x, T), x perhaps an instance of C -/
def rcIsX (C : Addr) : RC1 := fun ds P => match ds with
  | [d, .ty n] => isXP C d n P
  | _ => False
theorem ok_7 {d : D} (h : D.ok d = true) : ∃ t, tyD d = some t ∧ t ∈ tys7 ∧ isInsB d = false := by
  unfold D.ok at h
  cases e : tyD d with
  | none => rw [e] at h; cases h
  | some t =>
    refine ⟨t, rfl, ?_, ?_⟩
    · rcases tyD_cases e with rfl | rfl | rfl | rfl | rfl | rfl | rfl <;> decide
    · cases d <;> first | rfl | cases e
theorem cg_isC {C : Addr} (x : ClsX X.K C) : CallG X (.builtin "isinstance") (rIsi X.K) (rcIsC C) := by
  refine ⟨call_isi, fun b hh xs ds P Q s z hp c => ?_⟩
  unfold rcIsC at hp
  split at hp
  · rename_i d c'
    obtain ⟨v, w, rfl, z1, z2⟩ := denL2 z
    have z2' : w = .ref c' := z2
    subst z2'
    obtain ⟨rfl, hp⟩ := hp
    unfold isCP at hp
    obtain ⟨h, hp⟩ := hp
    rcases h with ⟨fs, xs, rfl⟩ | h
    · obtain ⟨a, dx, vs, rfl, e, _⟩ := z1
      exact ⟨_, _, _, _, true, rfl, .own _, x.ty (s _ _ e), kit_self, c _ b hh (.pur (.bl _)) (Res.same s rfl) hp⟩
    · obtain ⟨t, e, m, e2⟩ := ok_7 h
      rw [e2] at hp
      exact ⟨_, _, _, _, false, rfl, .own _, ty_ok s z1 e, x.kit7 m, c _ b hh (.pur (.bl _)) (Res.same s rfl) hp⟩
  · exact hp.elim
theorem cg_isX {C : Addr} (x : ClsX X.K C) : CallG X (.builtin "isinstance") (rIsi X.K) (rcIsX C) := by
  refine ⟨call_isi, fun b hh xs ds P Q s z hp c => ?_⟩
  unfold rcIsX at hp
  split at hp
  · rename_i d n
    obtain ⟨v, w, rfl, z1, z2⟩ := denL2 z
    have z2' : w = .ty n := z2
    subst z2'
    unfold isXP at hp
    obtain ⟨h, hn, hp⟩ := hp
    rcases h with ⟨fs, xs, rfl⟩ | h
    · obtain ⟨a, dx, vs, rfl, e, _⟩ := z1
      have m : n ∈ sixT := by rcases known_cases hn with rfl | rfl | rfl | rfl | rfl | rfl <;> decide
      exact ⟨_, _, _, _, false, rfl, .ty n, x.ty (s _ _ e), x.kit6 m, c _ b hh (.pur (.bl _)) (Res.same s rfl) hp⟩
    · unfold D.ok isD at *
      cases e : tyD d with
      | none => rw [e] at h; cases h
      | some t =>
        rw [e] at hp
        exact ⟨v, .ty n, .type t, .type n, isT t n, rfl, .ty n, ty_ok s z1 e, kit_ty (kit_tab (tyD_cases e) (known_cases hn)), c _ b hh (.pur (.bl _)) (Res.same s rfl) hp⟩
  · exact hp.elim
end
end G
/-! G: is and is not, of flags and of None. -/
namespace G
open PySem PySem.Spec PyProof.Rows L2
open Evl (Ex)
section
variable {X : Cx}
def roIsB (neg : Bool) : RO := fun x y P => match x, y with
  | .bl a, .bl b => P (.pur (.bl (if neg then !decide (a = b) else decide (a = b))))
  | _, _ => False
theorem og_isB : OpG X (compareOp .Is) rIsB (roIsB false) := by
  refine ⟨op_isBl, fun b hh x y dx dy P Q s zx zy hr c => ?_⟩
  unfold roIsB at hr
  split at hr
  · rename_i u v
    have e1 : x = .bl u := zx
    have e2 : y = .bl v := zy
    exact ⟨u, v, e1, e2, c _ b hh (.pur (.bl _)) (Res.same s rfl) hr⟩
  · exact hr.elim
theorem og_notB : OpG X (compareOp .IsNot) rNotB (roIsB true) := by
  refine ⟨op_notBl, fun b hh x y dx dy P Q s zx zy hr c => ?_⟩
  unfold roIsB at hr
  split at hr
  · rename_i u v
    have e1 : x = .bl u := zx
    have e2 : y = .bl v := zy
    exact ⟨u, v, e1, e2, c _ b hh (.pur (.bl _)) (Res.same s rfl) hr⟩
  · exact hr.elim
def isNonD : D → Bool
  | .non => true
  | _ => false
theorem non_den {K : PySem.W.Frag} {b : Hp} {d : D} {v : V} (z : den K b d v) : decide (v = .non) = isNonD d := by
  cases d with
  | non => have e : v = .non := z; rw [e]; rfl
  | bl k => have e : v = .bl k := z; rw [e]; rfl
  | int k => have e : v = .int k := z; rw [e]; rfl
  | str k => have e : v = .str k := z; rw [e]; rfl
  | ty k => have e : v = .ty k := z; rw [e]; rfl
  | fn k => have e : v = .ref k := z; rw [e]; rfl
  | tup ds => obtain ⟨a, vs, rfl, _⟩ := z; rfl
  | lst ds => obtain ⟨a, vs, rfl, _⟩ := z; rfl
  | frl ds => obtain ⟨a, vs, rfl, _⟩ := z; rfl
  | frt ds => obtain ⟨a, vs, rfl, _⟩ := z; rfl
  | tfz ds => obtain ⟨a, o, vs, rfl, _⟩ := z; rfl
  | tix a ns => obtain ⟨rfl, _⟩ := z; rfl
  | dK ks ds => obtain ⟨a, vs, rfl, _⟩ := z; rfl
  | dT ks ds => obtain ⟨a, vs, rfl, _⟩ := z; rfl
  | lkK ks ds => obtain ⟨a, o, vs, rfl, _⟩ := z; rfl
  | lkT ks ds => obtain ⟨a, o, vs, rfl, _⟩ := z; rfl
  | ins C fs ds => obtain ⟨a, dx, vs, rfl, _⟩ := z; rfl
  | exc a C d fs ds => obtain ⟨rfl, _⟩ := z; rfl
def roIsN (neg : Bool) : RO := fun x y P => match y with
  | .non => P (.pur (.bl (if neg then !isNonD x else isNonD x)))
  | _ => False
theorem og_isN : OpG X (compareOp .Is) (fun x y H Q => y = .non ∧ Q (.bl (decide (x = .non))) H) (roIsN false) := by
  refine ⟨op_isN, fun b hh x y dx dy P Q s zx zy hr c => ?_⟩
  unfold roIsN at hr
  split at hr
  · have e2 : y = .non := zy
    refine ⟨e2, ?_⟩
    rw [non_den zx]
    exact c _ b hh (.pur (.bl _)) (Res.same s rfl) hr
  · exact hr.elim
theorem og_notN : OpG X (compareOp .IsNot) (fun x y H Q => y = .non ∧ Q (.bl (!decide (x = .non))) H) (roIsN true) := by
  refine ⟨op_notN, fun b hh x y dx dy P Q s zx zy hr c => ?_⟩
  unfold roIsN at hr
  split at hr
  · have e2 : y = .non := zy
    refine ⟨e2, ?_⟩
    rw [non_den zx]
    exact c _ b hh (.pur (.bl _)) (Res.same s rfl) hr
  · exact hr.elim
/-! ### t + u, tuples -/
def roCatT : RO := fun x y P => match x, y with
  | .tup xs, .tup ys => xs.length + ys.length ≤ sizeLine ∧ P (.pur (.tup (xs ++ ys)))
  | _, _ => False
theorem og_catT {K : PySem.W.Frag} (hK : X.K = K := by exact rfl) : OpG X (binaryOp .Add) (rCatA K) roCatT := by
  subst hK
  refine ⟨op_catA, fun b hh x y dx dy P Q s zx zy hr c => ?_⟩
  unfold roCatT at hr
  split at hr
  · rename_i xs ys
    obtain ⟨a1, v1, rfl, h1, t1⟩ := id zx
    obtain ⟨a2, v2, rfl, h2, t2⟩ := id zy
    obtain ⟨hz, hr⟩ := hr
    refine ⟨a1, a2, v1, v2, rfl, rfl, SqT.of (s _ _ h1), SqT.of (s _ _ h2), by rw [← denL_len t1, ← denL_len t2]; exact hz, fun e => ?_, fun e1 e2 => ?_, fun e1 e2 p np => ?_⟩
    · subst e
      have e : xs = [] := List.length_eq_zero_iff.mp (denL_len t1)
      subst e
      exact c _ b hh (.pur (.tup ys)) (Res.same s zy) hr
    · subst e2
      have e : ys = [] := List.length_eq_zero_iff.mp (denL_len t2)
      subst e
      rw [List.append_nil] at hr
      exact c _ b hh (.pur (.tup xs)) (Res.same s zx) hr
    · exact c _ _ _ (.pur (.tup (xs ++ ys))) (Res.new (ob := .tup (v1 ++ v2)) s np ⟨p, _, rfl, upd_same, denL_mono (Ex.new (Evl.fresh_back s np)) _ _ (denL_app t1 t2)⟩) hr
  · exact hr.elim
end
theorem lc_to {wi : WI} {wg : WG} {wt : WT} {we : WE} {vs : List Nat} {We : Wsh} {g : Gam} {P : O → Gam → Prop} (g1 : Gam) (f : D → D) (ds : List D) (hi : ∀ Q : List D → Gam → Prop, Q ds g1 → wi We g Q) (hn : ds.length ≤ sizeLine)
    (h : ∀ (i : Nat) (d : D) (Q : D → Gam → Prop) (Q0 : Gam → Prop), ds[i]? = some d → Q (f d) g1 → wg d (wipeG g1 vs) fun g3 => wt (fun _ _ => False) g3 fun k g4 =>
      br k (we (fun _ _ => False) g4 fun o g5 => Q o.d (unwipe g1 g5 vs)) (Q0 (unwipe g1 g4 vs)))
    (hP : ∀ p, P (.lst p ((ds.map f).map .pur)) g1) : wLc wi wg wt we vs We g P := by
  unfold wLc
  exact hi _ (lc_map f hn h hP)
theorem lc_ifto {wi : WI} {wg : WG} {wt : WT} {we : WE} {vs : List Nat} {We : Wsh} {g : Gam} {P : O → Gam → Prop} (g1 : Gam) (f : D → D) (keep : D → Bool) (ds : List D) (hi : ∀ Q : List D → Gam → Prop, Q ds g1 → wi We g Q) (hn : ds.length ≤ sizeLine)
    (h : ∀ (i : Nat) (d : D) (Q : D → Gam → Prop) (Q0 : Gam → Prop), ds[i]? = some d → (keep d = true → Q (f d) g1) → (keep d = false → Q0 g1) → wg d (wipeG g1 vs) fun g3 => wt (fun _ _ => False) g3 fun k g4 =>
      br k (we (fun _ _ => False) g4 fun o g5 => Q o.d (unwipe g1 g5 vs)) (Q0 (unwipe g1 g4 vs)))
    (hP : ∀ p, P (.lst p (((ds.filter keep).map f).map .pur)) g1) : wLc wi wg wt we vs We g P := by
  unfold wLc
  exact hi _ (lc_filter f keep hn h hP)
end G
/-! G: a field of an instance of one of two classes. -/
namespace G
open PySem PySem.Spec PyProof.Rows L2
open Evl (Ex)
section
variable {X : Cx} {W : WX} {e : Expr} {te : TE} {we : WE}
def wFld2 (C D : Addr) (fs : List Str) (j : Nat) (we : WE) : WE := fun We g P => we We g fun o g1 => match o.d with
  | .ins C' fs' ds => (C' = C ∨ C' = D) ∧ fs' = fs ∧ (match ds[j]? with
    | some d => P (.pur d) g1
    | none => False)
  | _ => False
theorem ge_fld2 {f : Str} {C D : Addr} {fs : List Str} {j : Nat} {pos : Pos} (c : Cls X.K C) (n : NoAttr X.K C f) (c2 : Cls X.K D) (n2 : NoAttr X.K D f) (hl : fs.findIdx? (· == f) = some j) (he : GE X W e te we) (hb : attributeBase e f X.env (eval e X.env) = eval e X.env := by rfl) {K : PySem.W.Frag} (hK : X.K = K := by exact rfl) :
    GE X W (.Attribute e f pos) (tFld K te f) (wFld2 C D fs j we) := by
  subst hK
  refine ⟨pe_fld he.pe hb, fun b h σ g We P Q k hw hx ct => ?_⟩
  refine he.se b h σ g We _ _ k hw hx fun v b' h' g' o k' f' p' => ?_
  obtain ⟨b2, k2, f2, z⟩ := come k' f'
  split at p'
  · rename_i C' fs' ds e1
    obtain ⟨hC, rfl, p'⟩ := p'
    have cc : Cls X.K C' ∧ NoAttr X.K C' f := by
      rcases hC with rfl | rfl
      · exact ⟨c, n⟩
      · exact ⟨c2, n2⟩
    rw [e1] at z
    obtain ⟨a, dx, vs, rfl, h1, h2, h3, h4⟩ := z
    split at p'
    · rename_i d ed
      obtain ⟨w, ew, zw⟩ := denL_at h4 ed
      refine ⟨a, C', dx, fs'.zip vs, w, rfl, k2.sub _ _ h1, cc.1, cc.2, (look_zip hl h3).trans ew, fin k2 f2 (Res.same k2.sub zw) ct p'⟩
    · exact p'.elim
  · exact p'.elim
end
end G
/-! NDc: {k: v for a in A for x in B}, keys ints or texts. -/
namespace TQ
open PySem PySem.Spec PyProof.Rows L2
abbrev dpr (kx vx t0 i0 t1 i1 : Expr) (scope : Scope) (pos : Pos) : Expr := .DictComp kx vx [⟨t0, i0, [], 0⟩, ⟨t1, i1, [], 0⟩] scope pos
theorem dturn_outer (kx vx t0 i0 t1 i1 : Expr) (scope : Scope) (pos : Pos) (it acc : Value) (env : Env) :
    compTurn (dpr kx vx t0 i0 t1 i1 scope pos) 0 it acc env = (do
      standAt i0.pos
      match ← pyNext it with
      | none => pure (.done .next)
      | some v =>
        letOwnedTupleGo t0 it v
        assign t0 env v
        let x ← eval i1 env
        standAt i1.pos
        let x ← foldedSetIterable i1 env x
        let _ ← runOwn (.compStart (dpr kx vx t0 i0 t1 i1 scope pos) 1 (← holding [x] (pyIter x)) acc env) env
        again (.compLoop (dpr kx vx t0 i0 t1 i1 scope pos) 0 it acc env)) := by rfl
theorem dturn_inner (kx vx t0 i0 t1 i1 : Expr) (scope : Scope) (pos : Pos) (it : Value) (D : Addr) (env : Env) :
    compTurn (dpr kx vx t0 i0 t1 i1 scope pos) 1 it (.ref D) env = (do
      standAt i1.pos
      match ← pyNext it with
      | none => pure (.done .next)
      | some v =>
        letOwnedTupleGo t1 it v
        assign t1 env v
        (do
          let kv ← eval kx env
          let vv ← holding [kv] (eval vx env)
          standAt { kx.pos with endLine := vx.pos.endLine, endCol := vx.pos.endCol }
          holding [kv, vv] (dictSet D kv vv))
        again (.compLoop (dpr kx vx t0 i0 t1 i1 scope pos) 1 it (.ref D) env)) := by rfl
section
variable {prog : Program} {w : World} {A : Around} {R : Result → Shared → Prop} {s : Shared} {kx vx t0 i0 t1 i1 : Expr} {scope : Scope} {pos : Pos} {it acc : Value} {env : Env}
theorem dloop_outer (hs : ∀ x, foldedSetIterable i1 env x = pure x) (I : Nat → Shared → Prop)
    (turn : ∀ n s, I n s → wpAny (model prog w) A (pyNext it) (fun r s1 => match r with
      | none => R (.ok .next) s1
      | some v => wpAny (model prog w) A (letOwnedTupleGo t0 it v) (fun _ s2 => wpAny (model prog w) A (assign t0 env v) (fun _ s3 =>
          wpAny (model prog w) A (eval i1 env) (fun x s4 => wpAny (model prog w) A (pyIter x) (fun it1 s5 => codeAny (model prog w) A (.compStart (dpr kx vx t0 i0 t1 i1 scope pos) 1 it1 acc env) (fun r s' => match r with
            | .ok _ => ∃ m, m < n ∧ I m s'
            | .error _ => False) s5) (notedBy (model prog w) A env fun e s' => R (.error e) s') s4) (notedBy (model prog w) A env fun e s' => R (.error e) s') s3) (notedBy (model prog w) A env fun e s' => R (.error e) s') s2)
          (notedBy (model prog w) A env fun e s' => R (.error e) s') s1) (notedBy (model prog w) A env fun e s' => R (.error e) s') s) (n : Nat) (h : I n s) :
    codeAny (model prog w) A (.compLoop (dpr kx vx t0 i0 t1 i1 scope pos) 0 it acc env) R s := by
  refine codeAny_loop rfl I (fun n s hI => ?_) n h
  show wpAny _ A ((compTurn (dpr kx vx t0 i0 t1 i1 scope pos) 0 it acc env).onRaise (fun x => do noteFrame x env; theTreesLotGoes x)) _ _ s
  refine wpAny_noted ?_
  rw [dturn_outer]
  refine wpAny_bind (wpAny_standAt (wpAny_bind (wpAny_mono (turn n s hI) (fun r s1 h1 => ?_) fun _ _ z => z)))
  cases r with
  | none => exact wpAny_pure h1
  | some v =>
    refine wpAny_bind (wpAny_mono h1 (fun _ s2 h2 => ?_) fun _ _ z => z)
    refine wpAny_bind (wpAny_mono h2 (fun _ s3 h3 => ?_) fun _ _ z => z)
    refine wpAny_bind (wpAny_mono h3 (fun x s4 h4 => ?_) fun _ _ z => z)
    refine wpAny_bind (wpAny_standAt (wpAny_bind (wpAny_of_eq (hs x) (wpAny_bind (wpAny_holding (wpAny_mono h4 (fun it1 s5 h5 => ?_) fun _ _ z => z))))))
    refine wpAny_bind (wpAny_runOwn ?_)
    rw [Around.mark_none]
    refine codeAny_mono h5 fun r s' hr => ?_
    cases r with
    | ok f =>
      first
        | exact wpAny_pure ⟨rfl, hr⟩
        | exact wpAny_bind (wpAny_pure (wpAny_pure ⟨rfl, hr⟩))
    | error e => exact hr.elim
theorem dloop_inner {D : Addr} (I : Nat → Shared → Prop)
    (turn : ∀ n s, I n s → wpAny (model prog w) A (pyNext it) (fun r s1 => match r with
      | none => R (.ok .next) s1
      | some v => wpAny (model prog w) A (letOwnedTupleGo t1 it v) (fun _ s2 => wpAny (model prog w) A (assign t1 env v) (fun _ s3 =>
          wpAny (model prog w) A (eval kx env) (fun kv s4 => wpAny (model prog w) A (eval vx env) (fun vv s5 =>
              wpAny (model prog w) A (dictSet D kv vv) (fun _ s6 => ∃ m, m < n ∧ I m s6) (notedBy (model prog w) A env fun e s' => R (.error e) s') s5) (notedBy (model prog w) A env fun e s' => R (.error e) s') s4)
            (notedBy (model prog w) A env fun e s' => R (.error e) s') s3) (notedBy (model prog w) A env fun e s' => R (.error e) s') s2)
          (notedBy (model prog w) A env fun e s' => R (.error e) s') s1) (notedBy (model prog w) A env fun e s' => R (.error e) s') s) (n : Nat) (h : I n s) :
    codeAny (model prog w) A (.compLoop (dpr kx vx t0 i0 t1 i1 scope pos) 1 it (.ref D) env) R s := by
  refine codeAny_loop rfl I (fun n s hI => ?_) n h
  show wpAny _ A ((compTurn (dpr kx vx t0 i0 t1 i1 scope pos) 1 it (.ref D) env).onRaise (fun x => do noteFrame x env; theTreesLotGoes x)) _ _ s
  refine wpAny_noted ?_
  rw [dturn_inner]
  refine wpAny_bind (wpAny_standAt (wpAny_bind (wpAny_mono (turn n s hI) (fun r s1 h1 => ?_) fun _ _ z => z)))
  cases r with
  | none => exact wpAny_pure h1
  | some v =>
    refine wpAny_bind (wpAny_mono h1 (fun _ s2 h2 => ?_) fun _ _ z => z)
    refine wpAny_bind (wpAny_mono h2 (fun _ s3 h3 => ?_) fun _ _ z => z)
    exact wpAny_bind (wpAny_bind (wpAny_mono h3 (fun kv s4 h4 => wpAny_bind (wpAny_holding (wpAny_mono h4 (fun vv s5 h5 => wpAny_bind (wpAny_standAt (wpAny_holding (wpAny_mono h5 (fun _ s6 h6 => wpAny_pure ⟨rfl, h6⟩) fun _ _ z => z)))) fun _ _ z => z))) fun _ _ z => z))
theorem dstart_inner (h0 : codeAny (model prog w) A (.compLoop (dpr kx vx t0 i0 t1 i1 scope pos) 1 it acc env) R s)
    (h : wpAny (model prog w) A (pyIter it) (fun it' s' => codeAny (model prog w) A (.compLoop (dpr kx vx t0 i0 t1 i1 scope pos) 1 it' acc env) R s') (notedBy (model prog w) A env fun x s' => R (.error x) s') s) :
    codeAny (model prog w) A (.compStart (dpr kx vx t0 i0 t1 i1 scope pos) 1 it acc env) R s := by
  refine codeAny_of_tree ?_
  show wpAny _ _ ((compStart (dpr kx vx t0 i0 t1 i1 scope pos) 1 it acc env).onRaise (fun x => do noteFrame x env; standAt theWindowsPlace)) _ _ s
  refine wpAny_notedAt ?_
  unfold compStart
  show wpAny _ _ (ask >>= _) _ _ s
  refine wpAny_bind (wpAny_askSetting (wpAny_ite ?_))
  split
  · first
      | exact wpAny_bind (wpAny_pure (wpAny_pure (And.intro rfl h0)))
      | exact wpAny_pure (And.intro rfl h0)
  · first
      | exact wpAny_bind (wpAny_rule (wpAny_bind (wpAny_standAt (wpAny_bind (wpAny_mono h (fun it' s' z => wpAny_pure (And.intro rfl z)) fun _ _ z => z)))))
      | (refine wpAny_bind (wpAny_rule ?_); show wpAny _ _ (standAt i1.pos >>= _) _ _ s; exact wpAny_bind (wpAny_standAt (wpAny_bind (wpAny_mono h (fun it' s' z => wpAny_pure (And.intro rfl z)) fun _ _ z => z))))
end
section
variable {X : Cx}
def tDc2 (wi : TI) (g : TG) (wi1 : TI) (g1 : TG) (tk tv : TE) (vs vs1 : List Nat) : TE := fun σ H Q => wi σ H fun J H1 => ∀ D, H1 D = none → ∃ W : Nat → Nat → Hp → Prop,
  (∃ m, W 0 m (upd H1 D (.dK []))) ∧ ∀ i m H, W i m H → (J.stop i H ∧ Q (.ref D) H) ∨ (J.go i H ∧ ∃ Nx : Hp → Prop, (∀ H', Nx H' → ∃ m', m' < m ∧ W (i + 1) m' H') ∧
    ∀ x H', J.yld i H x H' → g x (wipe σ vs) H' fun σ2 H2 => wipe σ2 vs = wipe σ vs ∧ wi1 σ2 H2 fun J1 H4 => ∃ W1 : Nat → Nat → Hp → Prop, (∃ m, W1 0 m H4) ∧ ∀ j k H, W1 j k H →
      (J1.stop j H ∧ Nx H) ∨ (J1.go j H ∧ ∃ Nx1 : Hp → Prop, (∀ H', Nx1 H' → ∃ k', k' < k ∧ W1 (j + 1) k' H') ∧ ∀ x H', J1.yld j H x H' → g1 x (wipe σ2 vs1) H' fun σ3 H5 => wipe σ3 vs1 = wipe σ2 vs1 ∧
        tk σ3 H5 fun y H6 => tv σ3 H6 fun z H7 => ∃ kvs k, y = kV k ∧ H7 D = some (.dK kvs) ∧ kvs.length < sizeLine ∧ Nx1 (upd H7 D (.dK (putK kvs k z)))))
theorem dc2_core {pins : List (Addr × Obj)} {u0 : Shared} {σ : L2.St} {H : Hp} {Q : VK} {kx vx tg it0 tg1 it1 : Expr} {scope : Scope} {mine : List (PySem.Str × Nat)} {vs1 : List Nat} {pos pos' : Pos} {wi wi1 : TI} {g g1 : TG} {tk tv : TE} {use : Option (Value → Sem Unit)} {Qf : Value → Shared → Prop}
    (calm : X.calm = true) (hN : X.N.Nodup) (I0 : Inv X pins σ H u0) (hi : PI X tg it0 wi) (blk : BlkOk X.N X.env.scope scope mine) (hv : ∀ i ∈ vs1, i ∈ mine.map (·.2))
    (hg : ∀ (s : Shared) (H : Hp) (C : Addr) (cl : List (PySem.Str × Addr)) (fp : List Addr), PG (X.blk s H scope (compEnvC scope cl C X.env) fp) tg g)
    (hi1 : ∀ (s : Shared) (H : Hp) (C : Addr) (cl : List (PySem.Str × Addr)) (fp : List Addr), PI (X.blk s H scope (compEnvC scope cl C X.env) fp) tg1 it1 wi1)
    (hg1 : ∀ (s : Shared) (H : Hp) (C : Addr) (cl : List (PySem.Str × Addr)) (fp : List Addr), PG (X.blk s H scope (compEnvC scope cl C X.env) fp) tg1 g1)
    (hk : ∀ (s : Shared) (H : Hp) (C : Addr) (cl : List (PySem.Str × Addr)) (fp : List Addr), PE (X.blk s H scope (compEnvC scope cl C X.env) fp) kx tk)
    (he : ∀ (s : Shared) (H : Hp) (C : Addr) (cl : List (PySem.Str × Addr)) (fp : List Addr), PE (X.blk s H scope (compEnvC scope cl C X.env) fp) vx tv) (fo : ∀ x, foldedSetIterable it0 X.env x = pure x) (fo1 : ∀ env x, foldedSetIterable it1 env x = pure x)
    (t : tDc2 wi g wi1 g1 tk tv (mine.map (·.2)) vs1 σ H Q)
    (back : ∀ D C s' m H', Inv X pins σ H' s' → Q (.ref D) H' → s'.heap.Ns C m → FpOk X pins H' C → compPost (model X.prog X.w) X.A X.xe use Qf (.ref D) C (.ok .next) s') :
    wpAny (model X.prog X.w) X.A (comprehension (dpr kx vx tg it0 tg1 it1 scope pos) scope X.env pos' newDict false (eval it0 X.env) use) Qf X.xe u0 := by
  have frees : ∀ y ∈ scope.names, y.2 = .free → ∃ c, X.env.cells.lookup y.1 = some c := fun y m e => (blk.free y m e).elim (fun z => I0.ok.has _ (.inl z)) fun z => I0.ok.has _ (.inr z)
  refine wpAny_comprehension_free (use := use) rfl fo (closure_ok frees) blk.kind (fun y m e => by rw [blk.uniq y m, e]) (thn (hi.run pins u0 σ H _ I0 t) fun xv u1 h1 => thn h1 fun itv u2 h2 => ?_)
  obtain ⟨it, fp, tn, J, H2, rfl, I2, T, st2, fp2, q⟩ := h2
  refine wpAny_newObj_type (newEnv_comp ?_)
  obtain ⟨D, eD⟩ : ∃ D, u2.heap.objs.size = D := ⟨_, rfl⟩
  rw [eD]
  have D2 : H2 D = none := I2.hok.fresh (Nat.le_of_eq eD)
  obtain ⟨W, ⟨m0, w0⟩, turn⟩ := q D D2
  obtain ⟨u3, eu3⟩ : ∃ u3 : Shared, { u2 with heap := u2.heap.push { cls := .type "dict", data := .dict #[] } } = u3 := ⟨_, rfl⟩
  have hp3 : u3.heap = u2.heap.push { cls := .type "dict", data := .dict #[] } := by rw [← eu3]
  have I3 : Inv X pins σ (upd H2 D (.dK [])) u3 := by
    rw [← eu3]
    refine I2.laid (t' := u2.toks) (fun b o e => Heap.get?_push_of_some _ e) (Nat.le_of_eq eD) ?_
    rw [← eD]
    exact dk_empty u2.heap I2.big
  have fp3 : ∀ b ∈ fp, FpOk X pins (upd H2 D (.dK [])) b ∧ b < u3.heap.objs.size := fun b mb => by
    obtain ⟨o, eo, _⟩ := T.obj _ _ st2 b mb
    have lt := Heap.lt_size eo
    refine ⟨⟨?_, (fp2 b mb).2⟩, by rw [hp3, Heap.size_push]; exact Nat.lt_succ_of_lt lt⟩
    rw [upd_ne (by rw [← eD]; exact Nat.ne_of_lt lt)]
    exact (fp2 b mb).1
  have st3 : tn 0 u3.heap := T.keep _ _ _ st2 fun b _ o e => by rw [hp3]; exact Heap.get?_push_of_some _ e
  have I4 := block_start I3 blk hN fp3
  have none3 : ∀ b ∈ fp, (upd H2 D (.dK [])) b = none := fun b mb => (fp3 b mb).1.1
  rw [eu3]
  obtain ⟨cls, ecl⟩ : ∃ cls, cellsFrom (u3.heap.objs.size + 1) scope.names (cloFrom X.env.cells scope.names []) = cls := ⟨_, rfl⟩
  have yg := hg u3 (upd H2 D (.dK [])) u3.heap.objs.size cls fp
  have yi := hi1 u3 (upd H2 D (.dK [])) u3.heap.objs.size cls fp
  have yg1 := hg1 u3 (upd H2 D (.dK [])) u3.heap.objs.size cls fp
  have yk := hk u3 (upd H2 D (.dK [])) u3.heap.objs.size cls fp
  have ye := he u3 (upd H2 D (.dK [])) u3.heap.objs.size cls fp
  rw [← ecl] at yg yi yg1 yk ye
  show codeAny _ _ (.compStart (dpr kx vx tg it0 tg1 it1 scope pos) 0 (.ref it) (.ref D) (compEnvC scope (cellsFrom (u3.heap.objs.size + 1) scope.names (cloFrom X.env.cells scope.names [])) u3.heap.objs.size X.env)) (compPost (model X.prog X.w) X.A X.xe use Qf (.ref D) u3.heap.objs.size)
    { u3 with heap := pushCells (u3.heap.push { cls := .type "dict", data := .dict #[] }) scope.names }
  generalize ece : compEnvC scope (cellsFrom (u3.heap.objs.size + 1) scope.names (cloFrom X.env.cells scope.names [])) u3.heap.objs.size X.env = ce at I4 yg yi yg1 yk ye ⊢
  have ceL : ce.locals = u3.heap.objs.size := by subst ece; rfl
  generalize eH3 : upd H2 D (.dK []) = H3 at I3 I4 yg yi yg1 yk ye w0 none3 fp3
  generalize eu4 : ({ u3 with heap := pushCells (u3.heap.push { cls := .type "dict", data := .dict #[] }) scope.names } : Shared) = u4 at I4 ⊢
  have st4 : tn 0 u4.heap := T.keep _ _ _ st3 fun b _ o e => by rw [← eu4]; exact pushCells_keeps _ _ _ _ (Heap.get?_push_of_some _ e)
  generalize eB : X.blk u3 H3 scope ce fp = B at I4 yg yi yg1 yk ye
  subst eB
  have fpB : ∀ {σ' : L2.St} {H' : Hp} {s' : Shared}, Inv (X.blk u3 H3 scope ce fp) [] σ' H' s' → (∀ b ∈ fp, H' b = none) → ∀ b ∈ fp, FpOk (X.blk u3 H3 scope ce fp) [] H' b := fun {σ' H' s'} I' n b mb =>
    ⟨n b mb, (I'.ok.exf b mb).1, I'.ok.exfs b mb, .inl mb, fun x c e => (I'.ok.exf b mb).2 x c e, fun p mp => absurd (show p ∈ ([] : List (Addr × Obj)) ++ [] from mp) (by simp)⟩
  have loop : codeAny (model X.prog X.w) X.A (.compLoop (dpr kx vx tg it0 tg1 it1 scope pos) 0 (.ref it) (.ref D) ce) (compPost (model X.prog X.w) X.A X.xe use Qf (.ref D) u3.heap.objs.size) u4 := by
    refine dloop_outer (fo1 ce) (fun n s' => ∃ i H', Inv (X.blk u3 H3 scope ce fp) [] (wipe σ (mine.map (·.2))) H' s' ∧ tn i s'.heap ∧ (∀ b ∈ fp, H' b = none) ∧ W i n H') ?_ m0 ⟨0, H3, I4, st4, none3, w0⟩
    rintro n u5 ⟨i, H5, I5, st5, n5, w5⟩
    rcases turn i n H5 w5 with ⟨stop, fin⟩ | ⟨go, Nx, nx, step⟩
    · refine thnF (T.done (X.blk u3 H3 scope ce fp) rfl rfl rfl calm i [] u5 _ H5 (fun _ _ => False) I5 (fpB I5 n5) st5 stop) fun r u6 ⟨er, I6⟩ => ?_
      subst er
      have I7 : Inv X pins σ H5 u6 := I3.call' (ch := fp) I6.os I6.base I6.hok I6.bare fun b mb => ⟨(fp3 b mb).1.2.2.2.1, (fp3 b mb).1.2.1, (fp3 b mb).1.2.2.2.2.1, (fp3 b mb).1.2.2.2.2.2⟩
      have nL : H5 u3.heap.objs.size = none := by
        have z : H5 ce.locals = none := I6.free
        rwa [ceL] at z
      obtain ⟨m, ns, _⟩ := I6.loc
      have ns : u6.heap.Ns ce.locals m := ns
      rw [ceL] at ns
      exact back D _ u6 m H5 I7 fin ns (I3.fpOk (Nat.le_refl _) nL)
    · refine thnF (T.item (X.blk u3 H3 scope ce fp) rfl rfl rfl calm i [] u5 _ H5 (fun _ _ => False) I5 (fpB I5 n5) st5 go) fun r u6 ⟨xv, er, h6⟩ => ?_
      subst er
      refine thnF h6 fun _ u7 ⟨x, H7, I7, r7, y7, st7, n7⟩ => ?_
      have I7p := I7.pinned (fpB I7 n7) (T.obj _ _ st7)
      refine thnF (yg.run _ u7 _ H7 x xv _ I7p r7 (step x H7 y7)) fun _ u8 ⟨σ8, H8, I8, ew8, q8⟩ => ?_
      have len8 : (wipe σ (mine.map (·.2))).length = σ8.length := by rw [← ew8, wipe_length]
      have old8 : ∀ (j : Nat) v, (wipe σ (mine.map (·.2)))[j]? = some (some v) → (wipe σ8 vs1)[j]? = some (some v) := fun j v e => by
        rw [← ew8] at e
        obtain ⟨e1, e2⟩ := wipe_some e
        rw [wipe_out fun z => e2 (hv j z)]
        exact e1
      refine thnF (yi.run _ u8 σ8 H8 _ I8 q8) fun xv1 u9 h9 => thnF h9 fun itv1 u10 h10 => ?_
      obtain ⟨jt, fq, tn1, J1, H10, rfl, I10, T1, st10, fq10, W1, ⟨m1, w1⟩, turn1⟩ := h10
      have fpC : ∀ {H' : Hp}, (∀ b ∈ fq, H' b = none) → ∀ b ∈ fq, FpOk (X.blk u3 H3 scope ce fp) ([] ++ pinsAt fp u7.heap) H' b := fun n b mb => ⟨n b mb, (fq10 b mb).2⟩
      have loop1 : codeAny (model X.prog X.w) X.A (.compLoop (dpr kx vx tg it0 tg1 it1 scope pos) 1 (.ref jt) (.ref D) ce)
          (fun r s' => match r with
            | .ok _ => ∃ m, m < n ∧ ∃ i H', Inv (X.blk u3 H3 scope ce fp) [] (wipe σ (mine.map (·.2))) H' s' ∧ tn i s'.heap ∧ (∀ b ∈ fp, H' b = none) ∧ W i m H'
            | .error _ => False) u10 := by
        refine dloop_inner (fun k s' => ∃ j H', Inv (X.blk u3 H3 scope ce fp) ([] ++ pinsAt fp u7.heap) (wipe σ8 vs1) H' s' ∧ tn1 j s'.heap ∧ (∀ b ∈ fq, H' b = none) ∧ W1 j k H') ?_ m1
          ⟨0, H10, I10.weak (wipe_length _ _) (fun j v e => (wipe_some e).1), st10, fun b mb => (fq10 b mb).1, w1⟩
        rintro k u11 ⟨j, H11, I11, st11, n11, w11⟩
        rcases turn1 j k H11 w11 with ⟨stop1, fin1⟩ | ⟨go1, Ny, ny, step1⟩
        · refine thnF (T1.done (X.blk u3 H3 scope ce fp) rfl rfl rfl calm j _ u11 (wipe σ8 vs1) H11 (fun _ _ => False) I11 (fpC n11) st11 stop1) fun r u12 ⟨er, I12⟩ => ?_
          subst er
          obtain ⟨m', lm, w'⟩ := nx H11 fin1
          have kept : ∀ b ∈ fp, ∀ o, u7.heap.get? b = some o → u12.heap.get? b = some o ∧ H11 b = none := fun b mb o e =>
            let z := I12.pin (b, o) (List.mem_append_right _ (List.mem_append_right _ (mem_pinsAt mb e)))
            ⟨z.1, z.2.1⟩
          refine ⟨m', lm, i + 1, H11, (I12.unpinned (pins := [])).weak (len8.trans (wipe_length σ8 vs1).symm) old8, T.keep _ _ _ st7 fun b mb o e => (kept b mb o e).1, fun b mb => ?_, w'⟩
          obtain ⟨o, eo, _⟩ := T.obj _ _ st7 b mb
          exact (kept b mb o eo).2
        · refine thnF (T1.item (X.blk u3 H3 scope ce fp) rfl rfl rfl calm j _ u11 (wipe σ8 vs1) H11 (fun _ _ => False) I11 (fpC n11) st11 go1) fun r u12 ⟨yv, er, h12⟩ => ?_
          subst er
          refine thnF h12 fun _ u13 ⟨y, H13, I13, r13, y13, st13, n13⟩ => ?_
          have I13p := I13.pinned (fpC n13) (T1.obj _ _ st13)
          refine thnF (yg1.run _ u13 (wipe σ8 vs1) H13 y yv _ I13p r13 (step1 y H13 y13)) fun _ u14 ⟨σ14, H14, I14, ew14, q14⟩ => ?_
          refine thnF (yk.run _ u14 σ14 H14 _ I14 q14) fun z u15 ⟨zk, H15, I15, r15, q15⟩ => ?_
          refine thnF (ye.run _ u15 σ14 H15 _ I15 q15) fun z2 u16a ⟨zv, H16, I16a, r16, kvs, kk, ek, hD, more, cont⟩ => ?_
          subst ek
          refine d_dictSet (X := X.blk u3 H3 scope ce fp) I16a hD more r15 r16 fun u16 I16 => ?_
          obtain ⟨m', lm, w'⟩ := ny _ cont
          have kept : ∀ b ∈ fq, ∀ o, u13.heap.get? b = some o → u16.heap.get? b = some o ∧ (upd H16 D (.dK (putK kvs kk zv))) b = none := fun b mb o e =>
            let z := I16.pin (b, o) (List.mem_append_right _ (List.mem_append_right _ (mem_pinsAt mb e)))
            ⟨z.1, z.2.1⟩
          refine ⟨m', lm, j + 1, _, I16.unpinned.weak (by rw [← ew14, wipe_length]) (fun j v e => by rw [← ew14] at e; exact (wipe_some e).1), T1.keep _ _ _ st13 fun b mb o e => (kept b mb o e).1, fun b mb => ?_, w'⟩
          obtain ⟨o, eo, _⟩ := T1.obj _ _ st13 b mb
          exact (kept b mb o eo).2
      exact dstart_inner loop1 (T1.self X.A 0 _ _ _ st10 loop1)
  exact codeAny_compStart_dict loop (T.self X.A 0 _ _ _ st4 loop)
theorem pe_dc2 {kx vx tg it0 tg1 it1 : Expr} {scope : Scope} {mine : List (PySem.Str × Nat)} {vs1 : List Nat} {pos : Pos} {wi wi1 : TI} {g g1 : TG} {tk tv : TE} (calm : X.calm = true) (hN : X.N.Nodup) (hi : PI X tg it0 wi) (blk : BlkOk X.N X.env.scope scope mine) (hv : ∀ i ∈ vs1, i ∈ mine.map (·.2))
    (hg : ∀ (s : Shared) (H : Hp) (C : Addr) (cl : List (PySem.Str × Addr)) (fp : List Addr), PG (X.blk s H scope (compEnvC scope cl C X.env) fp) tg g)
    (hi1 : ∀ (s : Shared) (H : Hp) (C : Addr) (cl : List (PySem.Str × Addr)) (fp : List Addr), PI (X.blk s H scope (compEnvC scope cl C X.env) fp) tg1 it1 wi1)
    (hg1 : ∀ (s : Shared) (H : Hp) (C : Addr) (cl : List (PySem.Str × Addr)) (fp : List Addr), PG (X.blk s H scope (compEnvC scope cl C X.env) fp) tg1 g1)
    (hk : ∀ (s : Shared) (H : Hp) (C : Addr) (cl : List (PySem.Str × Addr)) (fp : List Addr), PE (X.blk s H scope (compEnvC scope cl C X.env) fp) kx tk)
    (he : ∀ (s : Shared) (H : Hp) (C : Addr) (cl : List (PySem.Str × Addr)) (fp : List Addr), PE (X.blk s H scope (compEnvC scope cl C X.env) fp) vx tv) (fo : ∀ x, foldedSetIterable it0 X.env x = pure x := by intro _; rfl) (fo1 : ∀ env x, foldedSetIterable it1 env x = pure x := by intro _ _; rfl) :
    PE X (dpr kx vx tg it0 tg1 it1 scope pos) (tDc2 wi g wi1 g1 tk tv (mine.map (·.2)) vs1) := by
  refine ⟨fun pins s σ H Q I t => ?_⟩
  rw [arm_eval_DictComp]
  refine dc2_core calm hN I hi blk hv hg hi1 hg1 hk he fo fo1 t fun D C s' m H' I' q ns f => ⟨m, ns, fun h'' sb => ?_⟩
  obtain ⟨f0, f1, f2, f3, f4, f5⟩ := f
  exact ⟨.ref D, H', I'.turned (t' := s'.toks) (fun b o hb e => (sb.2 b hb).trans e) f0 f1 f3 f4 f5, rfl, q⟩
end
end TQ
/-! G: own objects within own lists. -/
namespace G
open PySem PySem.Spec PyProof.Rows L2
open Evl (Ex)
section
variable {K : PySem.W.Frag} {b h b' h' : Hp} {σ σ' : L2.St} {g g' : Gam} {i : Nat} {o o' c c' : O} {p q : Addr} {ob : HO} {v : V}
/-- a value held aside while the slots change -/
theorem Hold.carry (k : Hold K b h (some v :: σ) (some o :: g)) (k2 : Hold K b' h' σ' g') (f : Frm g b h g' b' h') : Hold K b' h' (some v :: σ') (some o :: g') := by
  obtain ⟨z, nd, nb, dj⟩ := k.head
  have there := own_there o v z
  refine k2.cons (own_keep f.bs o v z fun a m => ?_) nd (fun a m => ?_) fun a m q => ?_
  · obtain ⟨u, e⟩ := there a m
    rw [e]; exact f.keep a u e (dj a m)
  · obtain ⟨u, e⟩ := there a m
    exact f.nb a u e (own_nt o v z a m u e) (nb a m) (dj a m)
  · rcases f.new a q with q | q
    · exact dj a m q
    · obtain ⟨u, e⟩ := there a m
      rw [q] at e; cases e
theorem Frm.carry (f : Frm g b h g' b' h') : Frm (some o :: g) b h (some o :: g') b' h' := by
  refine ⟨f.bs, fun a u e n => f.keep a u e fun z => n (inF_cons.mpr (.inr z)), fun a u e t e2 n => f.nb a u e t e2 fun z => n (inF_cons.mpr (.inr z)), fun a z => ?_⟩
  rcases inF_cons.mp z with z | z
  · exact .inl (inF_cons.mpr (.inl z))
  · exact (f.new a z).imp (fun z => inF_cons.mpr (.inr z)) id
/-- an address within a slot is written -/
theorem Hold.upd_in (k : Hold K b h σ g) (e : g[i]? = some (some o)) (pin : p ∈ foot o) (z : ∀ v, own K b h o v → own K b (upd h p ob) o' v) (fs : ∀ a ∈ foot o', a ∈ foot o) (nd : (foot o').Nodup) :
    Hold K b (upd h p ob) σ (g.set i (some o')) ∧ Frm g b h (g.set i (some o')) b (upd h p ob) := by
  have hi : i < g.length := (List.getElem?_eq_some_iff.mp e).1
  have bp : b p = none := k.nb i o e p pin
  obtain ⟨v, ev, zo⟩ := k.sl i o e
  have old : ∀ (j : Nat) (u : O), (g.set i (some o'))[j]? = some (some u) → (j = i ∧ u = o') ∨ (j ≠ i ∧ g[j]? = some (some u)) := fun j u q => by
    by_cases hj : i = j
    · subst hj; rw [List.getElem?_set_self hi] at q; simp at q; exact .inl ⟨rfl, q.symm⟩
    · rw [List.getElem?_set_ne hj] at q; exact .inr ⟨Ne.symm hj, q⟩
  refine ⟨⟨fun a u q => ?_, by simp [k.len], fun j u q => ?_, fun j u q => ?_, fun j l u w n q1 q2 a m1 m2 => ?_, fun j u q a m => ?_⟩, ⟨Ex.refl b, fun a u q n => ?_, fun _ _ _ _ q _ => q, fun a ⟨j, u, q, m⟩ => ?_⟩⟩
  · rw [upd_ne (ne_of_none q bp)]; exact k.sub a u q
  · rcases old j u q with ⟨ej, eu⟩ | ⟨nj, q⟩
    · subst ej eu; exact ⟨_, ev, z v zo⟩
    · obtain ⟨w, ew, zw⟩ := k.sl j u q
      exact ⟨w, ew, own_keep (Ex.refl b) u w zw fun a m => upd_ne fun e2 => k.dj j i u o nj q e a m (by rw [e2]; exact pin)⟩
  · rcases old j u q with ⟨ej, eu⟩ | ⟨nj, q⟩
    · subst eu; exact nd
    · exact k.nd j u q
  · rcases old j u q1 with ⟨ej, eu⟩ | ⟨nj, r1⟩
    · subst eu
      rcases old l w q2 with ⟨el, ew⟩ | ⟨nl, r2⟩
      · exact n (ej.trans el.symm)
      · exact k.dj i l o w (Ne.symm nl) e r2 a (fs a m1) m2
    · rcases old l w q2 with ⟨el, ew⟩ | ⟨nl, r2⟩
      · subst ew
        exact k.dj i j o u (Ne.symm nj) e r1 a (fs a m2) m1
      · exact k.dj j l u w n r1 r2 a m1 m2
  · rcases old j u q with ⟨ej, eu⟩ | ⟨nj, q⟩
    · subst eu; exact k.nb i o e a (fs a m)
    · exact k.nb j u q a m
  · rw [upd_ne fun e2 => n ⟨i, o, e, by rw [e2]; exact pin⟩]; exact q
  · rcases old j u q with ⟨ej, eu⟩ | ⟨nj, q⟩
    · subst eu; exact .inl ⟨i, o, e, fs a m⟩
    · exact .inl ⟨j, u, q, m⟩
/-- a value goes into an object of a slot -/
theorem Hold.absorb (k : Hold K b h (some v :: σ) (some o :: g)) (e : g[i]? = some (some c)) (pin : p ∈ foot c) (z : ∀ w, own K b h c w → own K b h o v → own K b (upd h p ob) c' w) (fs : ∀ a ∈ foot c', a ∈ foot c ∨ a ∈ foot o) (nd : (foot c').Nodup) :
    Hold K b (upd h p ob) σ (g.set i (some c')) ∧ Frm (some o :: g) b h (g.set i (some c')) b (upd h p ob) := by
  obtain ⟨zo, ndo, nbo, djo⟩ := k.head
  have kt := k.tail
  have hi : i < g.length := (List.getElem?_eq_some_iff.mp e).1
  have bp : b p = none := kt.nb i c e p pin
  obtain ⟨w, ev, zc⟩ := kt.sl i c e
  have old : ∀ (j : Nat) (u : O), (g.set i (some c'))[j]? = some (some u) → (j = i ∧ u = c') ∨ (j ≠ i ∧ g[j]? = some (some u)) := fun j u q => by
    by_cases hj : i = j
    · subst hj; rw [List.getElem?_set_self hi] at q; simp at q; exact .inl ⟨rfl, q.symm⟩
    · rw [List.getElem?_set_ne hj] at q; exact .inr ⟨Ne.symm hj, q⟩
  refine ⟨⟨fun a u q => ?_, by simp [kt.len], fun j u q => ?_, fun j u q => ?_, fun j l u w n q1 q2 a m1 m2 => ?_, fun j u q a m => ?_⟩, ⟨Ex.refl b, fun a u q n => ?_, fun _ _ _ _ q _ => q, fun a ⟨j, u, q, m⟩ => ?_⟩⟩
  · rw [upd_ne (ne_of_none q bp)]; exact kt.sub a u q
  · rcases old j u q with ⟨ej, eu⟩ | ⟨nj, q⟩
    · subst ej eu; exact ⟨_, ev, z w zc zo⟩
    · obtain ⟨x, ew, zw⟩ := kt.sl j u q
      exact ⟨x, ew, own_keep (Ex.refl b) u x zw fun a m => upd_ne fun e2 => kt.dj j i u c nj q e a m (by rw [e2]; exact pin)⟩
  · rcases old j u q with ⟨ej, eu⟩ | ⟨nj, q⟩
    · subst eu; exact nd
    · exact kt.nd j u q
  · rcases old j u q1 with ⟨ej, eu⟩ | ⟨nj, r1⟩
    · subst eu
      rcases old l w q2 with ⟨el, ew⟩ | ⟨nl, r2⟩
      · exact n (ej.trans el.symm)
      · rcases fs a m1 with m1 | m1
        · exact kt.dj i l c w (Ne.symm nl) e r2 a m1 m2
        · exact djo a m1 ⟨l, w, r2, m2⟩
    · rcases old l w q2 with ⟨el, ew⟩ | ⟨nl, r2⟩
      · subst ew
        rcases fs a m2 with m2 | m2
        · exact kt.dj i j c u (Ne.symm nj) e r1 a m2 m1
        · exact djo a m2 ⟨j, u, r1, m1⟩
      · exact kt.dj j l u w n r1 r2 a m1 m2
  · rcases old j u q with ⟨ej, eu⟩ | ⟨nj, q⟩
    · subst eu
      exact (fs a m).elim (kt.nb i c e a) (nbo a)
    · exact kt.nb j u q a m
  · rw [upd_ne fun e2 => n (inF_cons.mpr (.inr ⟨i, c, e, by rw [e2]; exact pin⟩))]; exact q
  · rcases old j u q with ⟨ej, eu⟩ | ⟨nj, q⟩
    · subst eu
      exact .inl ((fs a m).elim (fun m => inF_cons.mpr (.inr ⟨i, c, e, m⟩)) fun m => inF_cons.mpr (.inl ⟨o, rfl, m⟩))
    · exact .inl (inF_cons.mpr (.inr ⟨j, u, q, m⟩))
theorem root_in {q : Addr} {c : O} (r : root c = some q) : q ∈ foot c := by
  cases c with
  | pur d => cases r
  | lst q xs => cases r; exact List.mem_cons_self ..
  | dK q ks xs => cases r; exact List.mem_cons_self ..
  | dT q ks xs => cases r; exact List.mem_cons_self ..
  | ins q dx C fs xs => cases r; exact List.mem_cons_self ..
  | tup xs => cases r
theorem footL_mem {a : Addr} {c : O} : ∀ {os : List O} {j : Nat}, os[j]? = some c → a ∈ foot c → a ∈ footL os
  | [], _, e, _ => by simp at e
  | x :: os, 0, e, m => by
    have e' : x = c := by simpa using e
    subst e'
    exact List.mem_append_left _ m
  | x :: os, j + 1, e, m => List.mem_append_right _ (footL_mem (j := j) (by simpa using e) m)
theorem footL_set {c c' : O} (s : (foot c').Sublist (foot c)) : ∀ {os : List O} {j : Nat}, os[j]? = some c → (footL (os.set j c')).Sublist (footL os)
  | [], _, e => by simp at e
  | x :: os, 0, e => by
    have e' : x = c := by simpa using e
    subst e'
    exact s.append (List.Sublist.refl _)
  | x :: os, j + 1, e => (footL_set s (j := j) (by simpa using e)).append_left (foot x)
theorem ownL_child {q : Addr} {ob : HO} {c c' : O} (r : root c = some q) (z : own K b h c (.ref q) → own K b (upd h q ob) c' (.ref q)) : ∀ {os : List O} {vs : List V} {j : Nat}, ownL K b h os vs → os[j]? = some c → (footL os).Nodup → ownL K b (upd h q ob) (os.set j c') vs
  | [], _, _, _, e, _ => by simp at e
  | x :: os, _, 0, ⟨v, rr, e1, zx, t⟩, e, nd => by
    have e' : x = c := by simpa using e
    subst e'
    subst e1
    have := own_root zx r
    subst this
    refine ⟨_, rr, rfl, z zx, ownL_aside t fun m => ?_⟩
    exact (List.nodup_append.mp nd).2.2 q (root_in r) q m rfl
  | x :: os, _, j + 1, ⟨v, rr, e1, zx, t⟩, e, nd => by
    subst e1
    have e' : os[j]? = some c := by simpa using e
    obtain ⟨_, nd2, nd3⟩ := List.nodup_append.mp nd
    refine ⟨v, rr, rfl, own_keep (Ex.refl b) x v zx fun a m => upd_ne fun e2 => ?_, ownL_child r z t e' nd2⟩
    exact nd3 a m q (footL_mem e' (root_in r)) e2
/-- an own object within an own list is written -/
theorem Hold.upd_child {n : Nat} {xs : List O} (k : Hold K b h σ g) (e : g[i]? = some (some (.lst p xs))) (ec : xs[n]? = some c) (r : root c = some q) (z : own K b h c (.ref q) → own K b (upd h q ob) c' (.ref q)) (s : (foot c').Sublist (foot c)) :
    Hold K b (upd h q ob) σ (g.set i (some (.lst p (xs.set n c')))) ∧ Frm g b h (g.set i (some (.lst p (xs.set n c')))) b (upd h q ob) := by
  have nd := k.nd i _ e
  obtain ⟨np, nd2⟩ := List.nodup_cons.mp nd
  have qin := footL_mem ec (root_in r)
  have qp : q ≠ p := fun z => np (z ▸ qin)
  have sl := footL_set s ec
  refine k.upd_in e (List.mem_cons_of_mem _ qin) (fun v ⟨e1, vs, hp, t⟩ => ⟨e1, vs, ?_, ownL_child r z t ec nd2⟩) (fun a m => (List.mem_cons.mp m).elim (fun e => by rw [e]; exact List.mem_cons_self ..) fun m => List.mem_cons_of_mem _ (sl.subset m)) ((sl.cons_cons p).nodup nd)
  rw [upd_ne (Ne.symm qp)]; exact hp
/-- the child that stands at a place -/
theorem Hold.child {n : Nat} {xs : List O} (k : Hold K b h σ g) (e : g[i]? = some (some (.lst p xs))) (ec : xs[n]? = some c) (r : root c = some q) : ∃ vs, h p = some (.lst vs) ∧ ownL K b h xs vs ∧ vs[n]? = some (.ref q) ∧ own K b h c (.ref q) := by
  obtain ⟨v, ev, _, vs, hp, t⟩ := k.sl i _ e
  obtain ⟨w, ew, zw⟩ := ownL_at t ec
  have := own_root zw r
  subst this
  exact ⟨vs, hp, t, ew, zw⟩
/-- a slot that is forgotten -/
theorem Hold.setN (k : Hold K b h σ g) (w : Nat) (x : Option V) : Hold K b h (σ.set w x) (g.set w none) ∧ ∀ a, inF (g.set w none) a → inF g a := by
  have old : ∀ (j : Nat) (u : O), (g.set w none)[j]? = some (some u) → j ≠ w ∧ g[j]? = some (some u) := fun j u q => by
    by_cases hj : w = j
    · subst hj
      by_cases hl : w < g.length
      · rw [List.getElem?_set_self hl] at q; simp at q
      · rw [List.getElem?_eq_none (by simpa using hl)] at q; cases q
    · rw [List.getElem?_set_ne hj] at q; exact ⟨Ne.symm hj, q⟩
  refine ⟨⟨k.sub, by simp [k.len], fun j u q => ?_, fun j u q => k.nd j u (old j u q).2, fun j l u w n q1 q2 => k.dj j l u w n (old j u q1).2 (old l w q2).2, fun j u q => k.nb j u (old j u q).2⟩, fun a ⟨j, u, q, m⟩ => ⟨j, u, (old j u q).2, m⟩⟩
  obtain ⟨v, ev, z⟩ := k.sl j u (old j u q).2
  exact ⟨v, by rw [List.getElem?_set_ne (Ne.symm (old j u q).1)]; exact ev, z⟩
end

/-! ### a comprehension whose items are own -/
@[irreducible] def wLcO (wi : WI) (wg : WG) (wt : WT) (we : WE) (vs : List Nat) : WE := fun We g P => wi We g fun ds g1 => ∃ I : Nat → List O → Gam → Prop, I 0 [] g1 ∧
  (∀ i d acc g2, ds[i]? = some d → acc.length ≤ i → I i acc g2 → i < sizeLine ∧ wg d (wipeG g2 vs) fun g3 => wt (fun _ _ => False) g3 fun k g4 =>
    br k (we (fun _ _ => False) g4 fun o g5 => I (i + 1) (acc ++ [o]) (unwipe g2 g5 vs)) (I (i + 1) acc (unwipe g2 g4 vs))) ∧
  ∀ acc g2, acc.length ≤ ds.length → I ds.length acc g2 → ∀ p, P (.lst p acc) g2
section
variable {X : Cx} {W : WX}
theorem lcO_se {K : PySem.W.Frag} {ti : TI} {tg : TG} {tt : TT} {te : TE} {wi : WI} {wg : WG} {wt : WT} {we : WE} {vs ts : List Nat}
    (qi : ∀ b h σ g We P Q, Hold K b h σ g → wi We g P → ContX K g b h We W → (∀ J b' h' g' ds, Hold K b' h' σ g' → Frm g b h g' b' h' → Yields K b' h' J ds → P ds g' → Q J h') → ti σ h Q)
    (qg : ∀ b h σ g d v P Q, Hold K b h σ g → den K b d v → wg d g P → (∀ σ' b' h' g', Hold K b' h' σ' g' → Frm g b h g' b' h' → Sames ts σ σ' → P g' → Q σ' h') → tg v σ h Q)
    (qt : ∀ b h σ g We P Q, Hold K b h σ g → wt We g P → ContX K g b h We W0 → ContT K g b h σ P Q → tt σ h Q)
    (qe : ∀ b h σ g We P Q, Hold K b h σ g → we We g P → ContX K g b h We W0 → Cont K g b h σ P Q → te σ h Q) (hts : ∀ i ∈ ts, i ∈ vs) :
    ∀ b h σ g We P Q, Hold K b h σ g → wLcO wi wg wt we vs We g P → ContX K g b h We W → Cont K g b h σ P Q → tLc ti tg tt te vs σ h Q := by
  intro b h σ g We P Q k hw hx ct
  unfold wLcO at hw
  refine qi b h σ g We _ _ k hw hx fun J b1 h1 g1 ds k1 f1 y ⟨I, i0, hstep, hend⟩ => fun p hp => ?_
  have nbp : b1 p = none := Evl.fresh_back k1.sub hp
  have npg : ¬ inF g1 p := fun z => by obtain ⟨u, e⟩ := k1.inF_there z; rw [hp] at e; cases e
  have k0 : Hold K b1 (upd h1 p (.lst [])) (some (.ref p) :: σ) (some (.lst p []) :: g1) := (k1.aside (o := .lst []) npg nbp).cons ⟨rfl, [], upd_same, rfl⟩ (by simp [foot, footL]) (fun a m => by
    have : a = p := by simpa [foot, footL] using m
    subst this; exact nbp) fun a m => by
    have : a = p := by simpa [foot, footL] using m
    subst this; exact npg
  have f0 : Frm g1 b1 h1 (some (.lst p []) :: g1) b1 (upd h1 p (.lst [])) := ⟨Ex.refl b1, fun a u e _ => by rw [upd_ne (ne_of_none e hp)]; exact e, fun a u e1 t e2 _ => e2, fun a z => by
    rcases inF_cons.mp z with ⟨o, e, m⟩ | z
    · cases e
      have : a = p := by simpa [foot, footL] using m
      subst this; exact .inr hp
    · exact .inl z⟩
  refine ⟨fun i m h' => m = ds.length - i ∧ i ≤ ds.length ∧ ∃ acc b' g', acc.length ≤ i ∧ Hold K b' h' (some (.ref p) :: σ) (some (.lst p acc) :: g') ∧ Frm g1 b1 h1 (some (.lst p acc) :: g') b' h' ∧ I i acc g',
    ⟨ds.length, by simp, Nat.zero_le _, [], b1, g1, Nat.le_refl _, k0, f0, i0⟩, ?_⟩
  rintro i m h' ⟨rfl, hi, acc, b', g', hl, kh, f', pI⟩
  have k' := kh.tail
  have ft : Frm g1 b1 h1 g' b' h' := f'.sub fun a z => inF_cons.mpr (.inr z)
  have yy := y b' h' f'.bs k'.sub (fun a o e1 e2 => f'.keep a o e1 fun z => by rw [k1.inF_nb z] at e2; cases e2) i
  by_cases hlt : i < ds.length
  · refine .inr ⟨(yy.2 ds[i] (by simp [hlt])).1, fun h4 => i + 1 ≤ ds.length ∧ ∃ acc b' g', acc.length ≤ i + 1 ∧ Hold K b' h4 (some (.ref p) :: σ) (some (.lst p acc) :: g') ∧ Frm g1 b1 h1 (some (.lst p acc) :: g') b' h4 ∧ I (i + 1) acc g',
      fun h4 z => ⟨ds.length - (i + 1), by omega, rfl, z.1, z.2⟩, fun x h2 yl => ?_⟩
    obtain ⟨b2, e1, e2, e3, n, z⟩ := (yy.2 ds[i] (by simp [hlt])).2 x h2 yl
    obtain ⟨kh2, fh2⟩ := kh.wide e1 e2 e3 n
    have k2 := kh2.tail
    obtain ⟨kw, sw⟩ := k2.wipe vs
    obtain ⟨hsz, st⟩ := hstep i ds[i] acc g' (by simp [hlt]) hl pI
    refine qg b2 h2 (L2.wipe σ vs) (wipeG g' vs) ds[i] x _ _ kw z st fun σ3 b3 h3 g3 k3 f3 s3 st3 => ?_
    have ew : L2.wipe σ3 vs = L2.wipe σ vs := wipe_sames (s3.mono hts)
    refine ⟨ew, ?_⟩
    refine qt b3 h3 σ3 g3 _ _ _ k3 st3 contX0 fun kk b4 h4 g4 k4 f4 st4 => ?_
    have F : ∀ {b5 h5 : Hp} {g5 : Gam}, Frm g4 b4 h4 g5 b5 h5 → Frm g' b2 h2 g5 b5 h5 := fun {b5 h5 g5} f5 => by
      have f6 := (f3.trans f4).trans f5
      exact ⟨f6.bs, fun a u e n => f6.keep a u e fun z => n (sw a z), fun a u e1 t e2 n => f6.nb a u e1 t e2 fun z => n (sw a z), fun a z => (f6.new a z).elim (fun z => .inl (sw a z)) .inr⟩
    cases kk with
    | false =>
      have ff := F (Frm.refl g4 b4 h4)
      obtain ⟨k5, s5⟩ := k2.unwipe k4 ff.bs vs ew
      have fs := ff.sub s5
      exact ⟨hlt, acc, b4, _, by omega, kh2.carry k5 fs, f'.trans (fh2.trans fs.carry), br_f.mp st4⟩
    | true =>
      refine qe b4 h4 σ3 g4 _ _ _ k4 (br_t.mp st4) contX0 fun v b5 h5 g5 o k5 f5 st5 => ?_
      have ff := F f5
      obtain ⟨k7, s7⟩ := k2.unwipe k5.tail ff.bs vs ew
      -- the new item beside the list
      have ff7 : Frm g' b2 h2 (some o :: unwipe g' g5 vs) b5 h5 := ff.sub fun a z => (inF_cons.mp z).elim (fun z => inF_cons.mpr (.inl z)) fun z => inF_cons.mpr (.inr (s7 a z))
      obtain ⟨zo, ndo, nbo, djo⟩ := k5.head
      have k8 : Hold K b5 h5 (some v :: σ) (some o :: unwipe g' g5 vs) := k7.cons zo ndo nbo fun a m z => djo a m (s7 a z)
      have k9 : Hold K b5 h5 (some (.ref p) :: some v :: σ) (some (.lst p acc) :: some o :: unwipe g' g5 vs) := kh2.carry k8 ff7
      -- the item goes in
      obtain ⟨⟨_, us, hpu, zu⟩, nd9, nb9, dj9⟩ := k9.head
      have lu : us.length = acc.length := (ownL_len zu).symm
      have np : p ∉ footL acc := (List.nodup_cons.mp nd9).1
      have po : p ∉ foot o := fun m => dj9 p (List.mem_cons_self ..) (inF_cons.mpr (.inl ⟨o, rfl, m⟩))
      have dis : ∀ a ∈ footL acc, a ∉ foot o := fun a m mo => dj9 a (List.mem_cons_of_mem _ m) (inF_cons.mpr (.inl ⟨o, rfl, mo⟩))
      have ng : ¬ inF (unwipe g' g5 vs) p := fun z => dj9 p (List.mem_cons_self ..) (inF_cons.mpr (.inr z))
      have nbp5 : b5 p = none := nb9 p (List.mem_cons_self ..)
      have kk := k7.aside (o := .lst (us ++ [v])) ng nbp5
      have foot' : foot (.lst p (acc ++ [o])) = p :: (footL acc ++ foot o) := by simp [foot, footL_app, footL]
      have kr : Hold K b5 (upd h5 p (.lst (us ++ [v]))) (some (.ref p) :: σ) (some (.lst p (acc ++ [o])) :: unwipe g' g5 vs) := kk.cons ⟨rfl, us ++ [v], upd_same, ownL_app (us := [o]) (ws := [v]) (ownL_aside zu np) ⟨v, [], rfl, own_keep (Ex.refl b5) o v zo fun a m => upd_ne fun e => po (e ▸ m), rfl⟩⟩
        (by rw [foot']; exact List.nodup_cons.mpr ⟨fun m => (List.mem_append.mp m).elim np po, List.nodup_append.mpr ⟨(List.nodup_cons.mp nd9).2, ndo, fun a m1 c m2 e => dis a m1 (e ▸ m2)⟩⟩)
        (fun a m => by
          rw [foot'] at m
          rcases List.mem_cons.mp m with rfl | m
          · exact nbp5
          · rcases List.mem_append.mp m with m | m
            · exact nb9 a (List.mem_cons_of_mem _ m)
            · exact nbo a m)
        (fun a m z => by
          rw [foot'] at m
          rcases List.mem_cons.mp m with rfl | m
          · exact ng z
          · rcases List.mem_append.mp m with m | m
            · exact dj9 a (List.mem_cons_of_mem _ m) (inF_cons.mpr (.inr z))
            · exact djo a m (s7 a z))
      refine ⟨us, hpu, by omega, hlt, acc ++ [o], b5, _, by simp; omega, kr, ?_, st5⟩
      have f9 := f'.trans (fh2.trans ff7.carry)
      refine ⟨f9.bs, fun a u e n => ?_, f9.nb, fun a z => ?_⟩
      · rw [upd_ne (ne_of_none e hp)]
        exact f9.keep a u e n
      · refine f9.new a ?_
        rcases inF_cons.mp z with ⟨x, e, m⟩ | z
        · cases e
          rw [foot'] at m
          rcases List.mem_cons.mp m with rfl | m
          · exact inF_cons.mpr (.inl ⟨_, rfl, List.mem_cons_self ..⟩)
          · rcases List.mem_append.mp m with m | m
            · exact inF_cons.mpr (.inl ⟨_, rfl, List.mem_cons_of_mem _ m⟩)
            · exact inF_cons.mpr (.inr (inF_cons.mpr (.inl ⟨o, rfl, m⟩)))
        · exact inF_cons.mpr (.inr (inF_cons.mpr (.inr z)))
  · have e : i = ds.length := by omega
    subst e
    exact .inl ⟨yy.1 rfl, ct (.ref p) b' h' g' (.lst p acc) kh (f1.trans f') (hend acc g' hl pI p)⟩
theorem ge_lcO {elt tg iter : Expr} {ifs : List Expr} {scope : Scope} {own : List (Str × Nat)} {ts : List Nat} {pos : Pos} {ti : TI} {tg' : TG} {tt : TT} {te : TE} {wi : WI} {wg : WG} {wt : WT} {we : WE} (hc : X.calm = true) (hN : X.N.Nodup) (hi : GI X W tg iter ti wi) (ok : BlkOk X.N X.env.scope scope own)
    (hg : ∀ (s : Shared) (H : Hp) (C : Addr) (cl : List (Str × Addr)) (fp : List Addr), GB (X.blk s H scope (compEnvC scope cl C X.env) fp) tg ts tg' wg)
    (ht : ∀ (s : Shared) (H : Hp) (C : Addr) (cl : List (Str × Addr)) (fp : List Addr), GTs (X.blk s H scope (compEnvC scope cl C X.env) fp) W0 ifs tt wt)
    (he : ∀ (s : Shared) (H : Hp) (C : Addr) (cl : List (Str × Addr)) (fp : List Addr), GE (X.blk s H scope (compEnvC scope cl C X.env) fp) W0 elt te we) (hts : ∀ i ∈ ts, i ∈ own.map (·.2) := by decide) (hs : ∀ x, foldedSetIterable iter X.env x = pure x := by intro _; rfl) :
    GE X W (.ListComp elt [⟨tg, iter, ifs, 0⟩] scope pos) (tLc ti tg' tt te (own.map (·.2))) (wLcO wi wg wt we (own.map (·.2))) :=
  ⟨pe_lc hc hN hi.pe ok (fun s H C cl fp => (hg s H C cl fp).pe) (fun s H C cl fp => (ht s H C cl fp).pe) (fun s H C cl fp => (he s H C cl fp).pe) hs,
    lcO_se hi.se (hg X.s_0 X.H_0 0 [] []).se (ht X.s_0 X.H_0 0 [] []).se (he X.s_0 X.H_0 0 [] []).se hts⟩
theorem gs_setLcO {i : Nat} {y : Str} {py : Pos} {elt tg iter : Expr} {ifs : List Expr} {scope : Scope} {own : List (Str × Nat)} {ts : List Nat} {pos spos : Pos} {ti : TI} {tg' : TG} {tt : TT} {te : TE} {wi : WI} {wg : WG} {wt : WT} {we : WE} (hc : X.calm = true) (hN : X.N.Nodup)
    (hi : GI X W tg iter ti wi) (ok : BlkOk X.N X.env.scope scope own)
    (hg : ∀ (s : Shared) (H : Hp) (C : Addr) (cl : List (Str × Addr)) (fp : List Addr), GB (X.blk s H scope (compEnvC scope cl C X.env) fp) tg ts tg' wg)
    (ht : ∀ (s : Shared) (H : Hp) (C : Addr) (cl : List (Str × Addr)) (fp : List Addr), GTs (X.blk s H scope (compEnvC scope cl C X.env) fp) W0 ifs tt wt)
    (he : ∀ (s : Shared) (H : Hp) (C : Addr) (cl : List (Str × Addr)) (fp : List Addr), GE (X.blk s H scope (compEnvC scope cl C X.env) fp) W0 elt te we)
    (hsw : swapsWith (.ListComp elt [⟨tg, iter, ifs, 0⟩] scope pos) (some (.Name y py)) spos.line X.env = pure true) (hy : X.N[i]? = some y := by rfl) (hyl : X.env.scope.names.lookup y = some .local := by rfl)
    (hts : ∀ i ∈ ts, i ∈ own.map (·.2) := by decide) (hs : ∀ x, foldedSetIterable iter X.env x = pure x := by intro _; rfl) :
    GS X W (.Assign [.Name y py] (.ListComp elt [⟨tg, iter, ifs, 0⟩] scope pos) spos) (wSet i (wLcO wi wg wt we (own.map (·.2)))) := by
  refine ⟨tAsg (tLc ti tg' tt te (own.map (·.2))) (gName i), ps_setLc hc hN hy hyl hsw hi.pe ok (fun s H C cl fp => (hg s H C cl fp).pe) (fun s H C cl fp => (ht s H C cl fp).pe) (fun s H C cl fp => (he s H C cl fp).pe) hs, fun b h σ g We E D k hw hx ct => ?_⟩
  refine lcO_se hi.se (hg X.s_0 X.H_0 0 [] []).se (ht X.s_0 X.H_0 0 [] []).se (he X.s_0 X.H_0 0 [] []).se hts b h σ g We _ _ k hw hx fun v b' h' g' o k' f' p' => ?_
  obtain ⟨k2, s2⟩ := k'.put i
  exact ct.nx _ b' h' _ k2 (f'.sub s2) p'
theorem lcO_raw {wi : WI} {wg : WG} {wt : WT} {we : WE} {vs : List Nat} {We : Wsh} {g : Gam} {P : O → Gam → Prop} (h : wi We g fun ds g1 => ∃ I : Nat → List O → Gam → Prop, I 0 [] g1 ∧
    (∀ i d acc g2, ds[i]? = some d → acc.length ≤ i → I i acc g2 → i < sizeLine ∧ wg d (wipeG g2 vs) fun g3 => wt (fun _ _ => False) g3 fun k g4 =>
      br k (we (fun _ _ => False) g4 fun o g5 => I (i + 1) (acc ++ [o]) (unwipe g2 g5 vs)) (I (i + 1) acc (unwipe g2 g4 vs))) ∧
    ∀ acc g2, acc.length ≤ ds.length → I ds.length acc g2 → ∀ p, P (.lst p acc) g2) : wLcO wi wg wt we vs We g P := by
  unfold wLcO
  exact h
end
end G
/-! G: rules for tables: own lists and dicts within an own list. -/
namespace G
open PySem PySem.Spec PyProof.Rows L2
open Evl (Ex)
theorem footL_nd {c : O} : ∀ {os : List O} {j : Nat}, (footL os).Nodup → os[j]? = some c → (foot c).Nodup
  | [], _, _, e => by simp at e
  | x :: os, 0, nd, e => by
    have e' : x = c := by simpa using e
    subst e'
    exact (List.nodup_append.mp nd).1
  | x :: os, j + 1, nd, e => footL_nd (j := j) (List.nodup_append.mp nd).2.1 (by simpa using e)
section
variable {X : Cx} {W : WX} {e : Expr} {te : TE} {we : WE} {i : Nat} {x : Str}
/-- x.append(e), what comes is moved in -/
def wAppO (i : Nat) (we : WE) : WS := fun We E g => isLst g[i]? ∧ we We g fun o g1 => match g1[i]? with
  | some (some (.lst p xs)) => xs.length < sizeLine ∧ E.nx (g1.set i (some (.lst p (xs ++ [o]))))
  | _ => False
theorem gs_appO {p apos cpos pos : Pos} (he : GE X W e te we) (hN : X.N[i]? = some x := by rfl) (hv : Vis X.env.scope x := by first | exact Or.inl rfl | exact Or.inr (Or.inl rfl) | exact Or.inr (Or.inr rfl))
    (hd : (x == ("__debug__" : Str)) = false := by decide) (hcd : (x == ("__classdict__" : Str)) = false := by decide)
    (hbase : attributeBase (.Name x p) "append" X.env (eval (.Name x p) X.env) = eval (.Name x p) X.env := by rfl)
    (hfew : ((backTo cpos (starEach [e] X.env)).all (fun x => !x.1) && (backToKw cpos (keywordEach [] X.env)).all (fun x => x.1.isSome)
      && decide (([e] : List Expr).length + ([] : List Keyword).length + (if ([] : List Keyword).isEmpty then 0 else 1) < 30)) = true := by rfl)
    (hline : (apos.endLine == cpos.line) = true := by rfl) (hs : starEach [e] X.env = (false, eval e X.env) :: starEach [] X.env := by rfl)
    (hs2 : swapsWith (.Call (.Attribute (.Name x p) "append" apos) [e] [] cpos) none pos.line X.env = pure false := by rfl) :
    GS X W (.Expr (.Call (.Attribute (.Name x p) "append" apos) [e] [] cpos) pos) (wAppO i we) := by
  refine ⟨tDrop (tBM X.K "list" rAppend (tVar i) (tCons te tNil)), ps_expr (pe_bm PySem.F.plainAttrs_list PySem.F.slot_list_append PySem.F.type_list_append mt_append (pe_var hN hv hd hcd) (pa_cons he.pe pa_nil hs) hbase hfew hline hs (by rfl)) hs2, fun b h σ g We E D k ⟨hl, hw⟩ hx ct => ?_⟩
  obtain ⟨p0, xs0, vs0, e0, ev0, hp0, _⟩ := k.lst hl
  refine ⟨_, ev0, tyV_lst hp0, he.se b h σ g We _ _ k hw hx fun v b' h' g' o k' f' p' => ?_⟩
  split at p'
  · rename_i p1 xs e1
    obtain ⟨v1, ev1, ev2, vs, hp, z⟩ := k'.tail.sl i _ e1
    have ev1 : σ[i]? = some (some v1) := ev1
    rw [ev0] at ev1
    cases ev1
    cases ev2
    have ln := ownL_len z
    refine ⟨p0, vs, v, rfl, rfl, hp, by omega, ?_⟩
    have nd1 := k'.tail.nd i _ e1
    have np : p0 ∉ footL xs := (List.nodup_cons.mp nd1).1
    obtain ⟨zo, ndo, nbo, djo⟩ := k'.head
    have dis : ∀ a ∈ foot (.lst p0 xs), a ∉ foot o := fun a m mo => djo a mo ⟨i, _, e1, m⟩
    have foot' : foot (.lst p0 (xs ++ [o])) = p0 :: (footL xs ++ foot o) := by simp [foot, footL_app, footL]
    obtain ⟨k3, f3⟩ := k'.absorb (c' := .lst p0 (xs ++ [o])) (p := p0) (ob := .lst (vs ++ [v])) e1 (List.mem_cons_self ..)
      (fun w ⟨ew, us, hu, zu⟩ zo => by
        rw [hp] at hu
        cases hu
        exact ⟨ew, vs ++ [v], upd_same, ownL_app (us := [o]) (ws := [v]) (ownL_aside zu np) ⟨v, [], rfl, own_keep (Ex.refl b') o v zo fun a m => upd_ne fun e => dis p0 (List.mem_cons_self ..) (e ▸ m), rfl⟩⟩)
      (fun a m => by
        rw [foot'] at m
        rcases List.mem_cons.mp m with rfl | m
        · exact .inl (List.mem_cons_self ..)
        · exact (List.mem_append.mp m).imp (fun m => List.mem_cons_of_mem _ m) id)
      (by rw [foot']; exact List.nodup_cons.mpr ⟨fun m => (List.mem_append.mp m).elim np (dis p0 (List.mem_cons_self ..)), List.nodup_append.mpr ⟨(List.nodup_cons.mp nd1).2, ndo, fun a m1 c m2 e => dis a (List.mem_cons_of_mem _ m1) (e ▸ m2)⟩⟩)
    exact ct.nx σ b' _ _ k3 (f'.trans f3) p'.2
  · exact p'.elim
/-- x[e] = v, what comes is moved in -/
@[irreducible] def setAtO (i : Nat) (u o : O) (g2 : Gam) (E : GEnds) : Prop := match g2[i]?, o.d with
  | some (some (.lst p xs)), .int j => ∃ n c, ixN xs.length j = some n ∧ xs[n]? = some c ∧ E.nx (g2.set i (some (.lst p (xs.set n u))))
  | _, _ => False
def wSetOO (i : Nat) (wv we : WE) : WS := fun We E g => wv We g fun u g1 => isLst g1[i]? ∧ we We g1 fun o g2 => setAtO i u o g2 E
theorem footL_set2 {u c : O} : ∀ {os : List O} {j : Nat}, os[j]? = some c → (footL os).Nodup → (foot u).Nodup → (∀ a ∈ footL os, a ∉ foot u) → (footL (os.set j u)).Nodup ∧ ∀ a ∈ footL (os.set j u), a ∈ footL os ∨ a ∈ foot u
  | [], _, e, _, _, _ => by simp at e
  | x :: os, 0, e, nd, nu, dj => by
    obtain ⟨n1, n2, n3⟩ := List.nodup_append.mp nd
    refine ⟨List.nodup_append.mpr ⟨nu, n2, fun a m1 c m2 e => dj c (List.mem_append_right _ m2) (e ▸ m1)⟩, fun a m => ?_⟩
    exact (List.mem_append.mp m).elim .inr fun m => .inl (List.mem_append_right _ m)
  | x :: os, j + 1, e, nd, nu, dj => by
    obtain ⟨n1, n2, n3⟩ := List.nodup_append.mp nd
    obtain ⟨q1, q2⟩ := footL_set2 (j := j) (by simpa using e) n2 nu fun a m => dj a (List.mem_append_right _ m)
    refine ⟨List.nodup_append.mpr ⟨n1, q1, fun a m1 c m2 e => ?_⟩, fun a m => ?_⟩
    · rcases q2 c m2 with m2 | m2
      · exact n3 a m1 c m2 e
      · exact dj a (List.mem_append_left _ m1) (e ▸ m2)
    · rcases List.mem_append.mp m with m | m
      · exact .inl (List.mem_append_left _ m)
      · exact (q2 a m).imp (fun m => List.mem_append_right _ m) id
theorem gs_setOO {value : Expr} {tv : TE} {wv : WE} {p ps pos : Pos} (hv' : GE X W value tv wv) (he : GE X W e te we) (hN : X.N[i]? = some x := by rfl) (hv : Vis X.env.scope x := by first | exact Or.inl rfl | exact Or.inr (Or.inl rfl) | exact Or.inr (Or.inr rfl))
    (hd : (x == ("__debug__" : Str)) = false := by decide) (hcd : (x == ("__classdict__" : Str)) = false := by decide)
    (ha : ∀ v, assign (.Subscript (.Name x p) e ps) X.env v = (do
      let ov ← holding [v] (eval (.Name x p) X.env)
      let iv ← holding [v, ov] (eval e X.env)
      standAt ps
      holding [v, ov, iv] (setItem ov iv v)
      release [v, ov, iv] []) := by intro _; rfl)
    (hs : swapsWithSole [.Subscript (.Name x p) e ps] value pos.line X.env = pure false := by rfl) (hw : swappedStores [.Subscript (.Name x p) e ps] value X.env = pure none := by rfl)
    (h1 : (assignEach [.Subscript (.Name x p) e ps] X.env).map (·.2) = [assign (.Subscript (.Name x p) e ps) X.env] := by rfl) : GS X W (.Assign [.Subscript (.Name x p) e ps] value pos) (wSetOO i wv we) := by
  refine ⟨tAsg tv (gSub (tVar i) te rSetL), ps_asg hv'.pe (pg_sub (pe_var hN hv hd hcd) he.pe set_list ha) hs hw h1, fun b h σ g We E D k hw hx ct => ?_⟩
  refine hv'.se b h σ g We _ _ k hw hx fun v b1 h1 g1 u k1 f1 ⟨hl, p1⟩ => ?_
  obtain ⟨p0, xs0, vs0, e0, ev0, hp0, _⟩ := k1.tail.lst hl
  have ev0 : σ[i]? = some (some (.ref p0)) := ev0
  have fu : Frm g b h g1 b1 h1 := f1.sub fun a z => inF_cons.mpr (.inr z)
  refine ⟨_, ev0, he.se b1 h1 σ g1 We _ _ k1.tail p1 (hx.step fu) fun v2 b2 h2 g2 o k2 f2 p' => ?_⟩
  unfold setAtO at p'
  obtain ⟨b3, k3, f3, zo⟩ := come k2 f2
  have kc := k1.carry k3 f3
  split at p'
  · rename_i p1 xs j e1 e2
    rw [e2] at zo
    have ev : v2 = .int j := zo
    subst ev
    obtain ⟨v1, ev1, ev2, vs, hp, z⟩ := k3.sl i _ e1
    rw [ev0] at ev1
    cases ev1
    cases ev2
    have ln := ownL_len z
    obtain ⟨n, c, en, ec, p'⟩ := p'
    refine ⟨p0, vs, j, n, rfl, rfl, hp, by rw [← ln]; exact en, ?_⟩
    have nd1 := k3.nd i _ e1
    have np : p0 ∉ footL xs := (List.nodup_cons.mp nd1).1
    obtain ⟨zu, ndu, nbu, dju⟩ := kc.head
    have dis : ∀ a ∈ foot (.lst p0 xs), a ∉ foot u := fun a m mo => dju a mo ⟨i, _, e1, m⟩
    obtain ⟨q1, q2⟩ := footL_set2 ec (List.nodup_cons.mp nd1).2 ndu fun a m => dis a (List.mem_cons_of_mem _ m)
    obtain ⟨k4, f4⟩ := kc.absorb (c' := .lst p0 (xs.set n u)) (p := p0) (ob := .lst (vs.set n v)) e1 (List.mem_cons_self ..)
      (fun w ⟨ew, us, hu, zs⟩ zo => by
        rw [hp] at hu
        cases hu
        exact ⟨ew, vs.set n v, upd_same, ownL_set (ownL_aside zs np) (own_keep (Ex.refl b3) u v zo fun a m => upd_ne fun e => dis p0 (List.mem_cons_self ..) (e ▸ m))⟩)
      (fun a m => (List.mem_cons.mp m).elim (fun e => .inl (by rw [e]; exact List.mem_cons_self ..)) fun m => (q2 a m).imp (fun m => List.mem_cons_of_mem _ m) id)
      (List.nodup_cons.mpr ⟨fun m => (q2 p0 m).elim np (dis p0 (List.mem_cons_self ..)), q1⟩)
    exact ct.nx σ b3 _ _ k4 (f1.trans (f3.carry.trans f4)) p'
  · exact p'.elim
/-! ### a row of a table -/
@[irreducible] def rowAt (i : Nat) (o : O) (g1 : Gam) (C : Nat → Addr → Prop) : Prop := match g1[i]?, o.d with
  | some (some (.lst _ xs)), .int j => ∃ n q ys, ixN xs.length j = some n ∧ xs[n]? = some (.lst q ys) ∧ C n q
  | _, _ => False
@[irreducible] def rowApp (i n : Nat) (q : Addr) (u : O) (g2 : Gam) (E : GEnds) : Prop := match g2[i]? with
  | some (some (.lst p xs)) => ∃ ys, xs[n]? = some (.lst q ys) ∧ ys.length < sizeLine ∧ E.nx (g2.set i (some (.lst p (xs.set n (.lst q (ys ++ [.pur u.d]))))))
  | _ => False
/-- x[e].append(a) -/
def wAppAt (i : Nat) (we wa : WE) : WS := fun We E g => isLst g[i]? ∧ we We g fun o g1 => rowAt i o g1 fun n q => wa We g1 fun u g2 => rowApp i n q u g2 E
theorem gs_appAt {a : Expr} {ta : TE} {wa : WE} {p sp apos cpos pos : Pos} (he : GE X W e te we) (ha : GE X W a ta wa) (hN : X.N[i]? = some x := by rfl) (hv : Vis X.env.scope x := by first | exact Or.inl rfl | exact Or.inr (Or.inl rfl) | exact Or.inr (Or.inr rfl))
    (hd : (x == ("__debug__" : Str)) = false := by decide) (hcd : (x == ("__classdict__" : Str)) = false := by decide) (hpi : PlainIx e := by intro _ _; rfl)
    (hbase : attributeBase (.Subscript (.Name x p) e sp) "append" X.env (eval (.Subscript (.Name x p) e sp) X.env) = eval (.Subscript (.Name x p) e sp) X.env := by rfl)
    (hfew : ((backTo cpos (starEach [a] X.env)).all (fun x => !x.1) && (backToKw cpos (keywordEach [] X.env)).all (fun x => x.1.isSome)
      && decide (([a] : List Expr).length + ([] : List Keyword).length + (if ([] : List Keyword).isEmpty then 0 else 1) < 30)) = true := by rfl)
    (hline : (apos.endLine == cpos.line) = true := by rfl) (hs : starEach [a] X.env = (false, eval a X.env) :: starEach [] X.env := by rfl)
    (hs2 : swapsWith (.Call (.Attribute (.Subscript (.Name x p) e sp) "append" apos) [a] [] cpos) none pos.line X.env = pure false := by rfl) :
    GS X W (.Expr (.Call (.Attribute (.Subscript (.Name x p) e sp) "append" apos) [a] [] cpos) pos) (wAppAt i we wa) := by
  refine ⟨tDrop (tBM X.K "list" rAppend (tOp (rIxL X.K) (tVar i) te) (tCons ta tNil)), ps_expr (pe_bm PySem.F.plainAttrs_list PySem.F.slot_list_append PySem.F.type_list_append mt_append (pe_ix ix_list (pe_var hN hv hd hcd) he.pe hpi) (pa_cons ha.pe pa_nil hs) hbase hfew hline hs (by rfl)) hs2, fun b h σ g We E D k ⟨hl, hw⟩ hx ct => ?_⟩
  obtain ⟨p0, xs0, vs0, e0, ev0, hp0, _⟩ := k.lst hl
  refine ⟨_, ev0, he.se b h σ g We _ _ k hw hx fun v b1 h1 g1 o k1 f1 p1 => ?_⟩
  obtain ⟨b1', k1', f1', zo⟩ := come k1 f1
  unfold rowAt at p1
  split at p1
  · rename_i pp xs j e1 e2
    rw [e2] at zo
    have ev : v = .int j := zo
    subst ev
    obtain ⟨n, q, ys, en, ec, p1⟩ := p1
    obtain ⟨v1, ev1, ev2, _⟩ := k1'.sl i _ e1
    rw [ev0] at ev1
    cases ev1
    cases ev2
    obtain ⟨vs, hp, t, evn, zc⟩ := k1'.child e1 ec rfl
    obtain ⟨_, us, hq, _⟩ := zc
    refine ⟨p0, vs, j, .ref q, rfl, rfl, SqL.of hp, ?_, tyV_lst hq, ?_⟩
    · unfold atI
      rw [← ownL_len t, en]
      exact evn
    refine ha.se b1' h1 σ g1 We _ _ k1' p1 (hx.step f1') fun u b2 h2 g2 ou k2 f2 p2 => ?_
    obtain ⟨b2', k2', f2', zu⟩ := come k2 f2
    unfold rowApp at p2
    split at p2
    · rename_i pp2 xs2 e3
      obtain ⟨ys2, ec2, hz, p2⟩ := p2
      obtain ⟨vs2, hp2, t2, ev2, zc2⟩ := k2'.child e3 ec2 rfl
      have zc2' := zc2
      obtain ⟨_, us2, hq2, zs2⟩ := zc2'
      have nq : q ∉ footL ys2 := (List.nodup_cons.mp (footL_nd (List.nodup_cons.mp (k2'.nd i _ e3)).2 ec2)).1
      refine ⟨q, us2, u, rfl, rfl, hq2, by rw [← ownL_len zs2]; exact hz, ?_⟩
      obtain ⟨k5, f5⟩ := k2'.upd_child (c' := .lst q (ys2 ++ [.pur ou.d])) (ob := .lst (us2 ++ [u])) e3 ec2 rfl (fun _ => ⟨rfl, _, upd_same, ownL_app (us := [.pur ou.d]) (ws := [u]) (ownL_aside zs2 nq) ⟨u, [], rfl, zu, rfl⟩⟩)
        (by simp [foot, footL_app, footL])
      exact ct.nx σ b2' _ _ k5 (f1'.trans (f2'.trans f5)) p2
    · exact p2.elim
  · exact p1.elim
/-! ### row = x[e]; row[a] = v -/
@[irreducible] def aliasAt (i w : Nat) (o : O) (g1 : Gam) (C : Nat → Addr → Prop) : Prop := match g1[i]?, o.d with
  | some (some (.lst _ xs)), .int j => w < g1.length ∧ ∃ n q c, ixN xs.length j = some n ∧ xs[n]? = some c ∧ root c = some q ∧ C n q
  | _, _ => False
@[irreducible] def rowPut (i n : Nat) (q : Addr) (u o2 : O) (g3 : Gam) (E : GEnds) : Prop := match g3[i]?, o2.d with
  | some (some (.lst p xs)), .int j => ∃ ys m, xs[n]? = some (.lst q ys) ∧ ixN ys.length j = some m ∧ E.nx (g3.set i (some (.lst p (xs.set n (.lst q (ys.set m (.pur u.d)))))))
  | _, _ => False
@[irreducible] def dictPut (i n : Nat) (q : Addr) (u o2 : O) (g3 : Gam) (E : GEnds) : Prop := match g3[i]?, o2.d.key with
  | some (some (.lst p xs)), some k => ∃ ks ys, xs[n]? = some (.dK q ks ys) ∧ ks.Nodup ∧ ys.length < sizeLine ∧ E.nx (g3.set i (some (.lst p (xs.set n (putO q ks ys k u.d)))))
  | _, _ => False
def wAliasL (i w : Nat) (we wv wa : WE) (wr : WS) : WS := fun We E g => isLst g[i]? ∧ we We g fun o g1 => aliasAt i w o g1 fun n q => wv We (g1.set w none) fun u g2 => wa We g2 fun o2 g3 => rowPut i n q u o2 g3 { E with nx := wr We E }
def wAliasD (i w : Nat) (we wv wa : WE) (wr : WS) : WS := fun We E g => isLst g[i]? ∧ we We g fun o g1 => aliasAt i w o g1 fun n q => wv We (g1.set w none) fun u g2 => wa We g2 fun o2 g3 => dictPut i n q u o2 g3 { E with nx := wr We E }
variable {rest : List Stmt} {wr : WS}
theorem gss_aliasL {w : Nat} {y : Str} {value a : Expr} {tv ta : TE} {wv wa : WE} {p sp yp pos1 p2 ps pos : Pos} (hn : X.N.Nodup) (he : GE X W e te we) (hv' : GE X W value tv wv) (ha' : GE X W a ta wa) (hr : GSs X W rest wr)
    (hN : X.N[i]? = some x := by rfl) (hNw : X.N[w]? = some y := by rfl) (hv : Vis X.env.scope x := by first | exact Or.inl rfl | exact Or.inr (Or.inl rfl) | exact Or.inr (Or.inr rfl)) (hvw : Vis X.env.scope y := by first | exact Or.inl rfl | exact Or.inr (Or.inl rfl) | exact Or.inr (Or.inr rfl))
    (hlw : Loc X.env.scope y := by first | exact Or.inl rfl | exact Or.inr rfl)
    (hd : (x == ("__debug__" : Str)) = false := by decide) (hcd : (x == ("__classdict__" : Str)) = false := by decide) (hdw : (y == ("__debug__" : Str)) = false := by decide) (hcdw : (y == ("__classdict__" : Str)) = false := by decide) (hpi : PlainIx e := by intro _ _; rfl)
    (hs0 : swapsWith (.Subscript (.Name x p) e sp) (some (.Name y yp)) pos1.line X.env = pure false := by rfl) (hf : X.fn y = true ∨ X.env.scope.names.lookup y = some .local := by first | exact .inl rfl | exact .inr rfl)
    (ha : ∀ v, assign (.Subscript (.Name y p2) a ps) X.env v = (do
      let ov ← holding [v] (eval (.Name y p2) X.env)
      let iv ← holding [v, ov] (eval a X.env)
      standAt ps
      holding [v, ov, iv] (setItem ov iv v)
      release [v, ov, iv] []) := by intro _; rfl)
    (hs : swapsWithSole [.Subscript (.Name y p2) a ps] value pos.line X.env = pure false := by rfl) (hw : swappedStores [.Subscript (.Name y p2) a ps] value X.env = pure none := by rfl)
    (h1 : (assignEach [.Subscript (.Name y p2) a ps] X.env).map (·.2) = [assign (.Subscript (.Name y p2) a ps) X.env] := by rfl) :
    GSs X W (.Assign [.Name y yp] (.Subscript (.Name x p) e sp) pos1 :: .Assign [.Subscript (.Name y p2) a ps] value pos :: rest) (wAliasL i w we wv wa wr) := by
  obtain ⟨t3, p3, q3⟩ := hr.ex
  refine ⟨tSeq (tAsg (tOp (rIxL X.K) (tVar i) te) (gName w)) (tSeq (tAsg tv (gSub (tVar w) ta rSetL)) t3), pss_cons (ps_set hn hNw hlw (pe_ix ix_list (pe_var hN hv hd hcd) he.pe hpi) hs0 hf) (pss_cons (ps_asg hv'.pe (pg_sub (pe_var hNw hvw hdw hcdw) ha'.pe set_list ha) hs hw h1) p3), fun b h σ g We E D k ⟨hl, hw⟩ hx ct => ?_⟩
  obtain ⟨p0, xs0, vs0, e0, ev0, hp0, _⟩ := k.lst hl
  refine ⟨_, ev0, he.se b h σ g We _ _ k hw hx fun v b1 h1 g1 o k1 f1 p1 => ?_⟩
  obtain ⟨b1', k1', f1', zo⟩ := come k1 f1
  unfold aliasAt at p1
  split at p1
  · rename_i pp xs j e1 e2
    rw [e2] at zo
    have ev : v = .int j := zo
    subst ev
    obtain ⟨hwl, n, q, c, en, ec, rc, p1⟩ := p1
    obtain ⟨v1, ev1, ev2, _⟩ := k1'.sl i _ e1
    rw [ev0] at ev1
    cases ev1
    cases ev2
    obtain ⟨vs, hp, t, evn, zc⟩ := k1'.child e1 ec rc
    refine ⟨p0, vs, j, .ref q, rfl, rfl, SqL.of hp, ?_, ?_⟩
    · unfold atI
      rw [← ownL_len t, en]
      exact evn
    obtain ⟨k2, s2⟩ := k1'.setN w (some (.ref q))
    have f2 := f1'.sub s2
    refine hv'.se b1' h1 _ (g1.set w none) We _ _ k2 p1 (hx.step f2) fun u b3 h3 g3 ou k3 f3 p3 => ?_
    obtain ⟨b3', k3', f3', zu⟩ := come k3 f3
    have f23 := f2.trans f3'
    refine ⟨.ref q, List.getElem?_set_self (by rw [k1'.len]; exact hwl), ha'.se b3' h3 _ g3 We _ _ k3' p3 (hx.step f23) fun yv b4 h4 g4 oy k4 f4 p4 => ?_⟩
    obtain ⟨b4', k4', f4', zy⟩ := come k4 f4
    unfold rowPut at p4
    split at p4
    · rename_i pp4 xs4 jj e4 e5
      rw [e5] at zy
      have ev : yv = .int jj := zy
      subst ev
      obtain ⟨ys, m, ex, em, p4⟩ := p4
      obtain ⟨vs4, hp4, t4, ev4, zc4⟩ := k4'.child e4 ex rfl
      obtain ⟨_, us, hq, zs⟩ := zc4
      have nq : q ∉ footL ys := (List.nodup_cons.mp (footL_nd (List.nodup_cons.mp (k4'.nd i _ e4)).2 ex)).1
      refine ⟨q, us, jj, m, rfl, rfl, hq, by rw [← ownL_len zs]; exact em, ?_⟩
      obtain ⟨k5, f5⟩ := k4'.upd_child (c' := .lst q (ys.set m (.pur ou.d))) (ob := .lst (us.set m u)) e4 ex rfl (fun _ => ⟨rfl, _, upd_same, ownL_set (ownL_aside zs nq) (den_mono f4'.bs _ _ zu)⟩)
        ((footL_set_pur ou.d ys m).cons_cons q)
      have ff := f23.trans (f4'.trans f5)
      exact q3 b4' _ _ _ We E D k5 p4 (hx.step ff) (ct.step ff)
    · exact p4.elim
  · exact p1.elim
theorem gss_aliasD {w : Nat} {y : Str} {value a : Expr} {tv ta : TE} {wv wa : WE} {p sp yp pos1 p2 ps pos : Pos} (hn : X.N.Nodup) (hu : X.A.units + 1 < cLine) (he : GE X W e te we) (hv' : GE X W value tv wv) (ha' : GE X W a ta wa) (hr : GSs X W rest wr)
    (hN : X.N[i]? = some x := by rfl) (hNw : X.N[w]? = some y := by rfl) (hv : Vis X.env.scope x := by first | exact Or.inl rfl | exact Or.inr (Or.inl rfl) | exact Or.inr (Or.inr rfl)) (hvw : Vis X.env.scope y := by first | exact Or.inl rfl | exact Or.inr (Or.inl rfl) | exact Or.inr (Or.inr rfl))
    (hlw : Loc X.env.scope y := by first | exact Or.inl rfl | exact Or.inr rfl)
    (hd : (x == ("__debug__" : Str)) = false := by decide) (hcd : (x == ("__classdict__" : Str)) = false := by decide) (hdw : (y == ("__debug__" : Str)) = false := by decide) (hcdw : (y == ("__classdict__" : Str)) = false := by decide) (hpi : PlainIx e := by intro _ _; rfl)
    (hs0 : swapsWith (.Subscript (.Name x p) e sp) (some (.Name y yp)) pos1.line X.env = pure false := by rfl) (hf : X.fn y = true ∨ X.env.scope.names.lookup y = some .local := by first | exact .inl rfl | exact .inr rfl)
    (hs : swapsWith value (some (.Subscript (.Name y p2) a ps)) pos.line X.env = pure false := by rfl) :
    GSs X W (.Assign [.Name y yp] (.Subscript (.Name x p) e sp) pos1 :: .Assign [.Subscript (.Name y p2) a ps] value pos :: rest) (wAliasD i w we wv wa wr) := by
  obtain ⟨t3, p3, q3⟩ := hr.ex
  refine ⟨tSeq (tAsg (tOp (rIxL X.K) (tVar i) te) (gName w)) (tSeq (sDPut (tVar w) ta tv) t3), pss_cons (ps_set hn hNw hlw (pe_ix ix_list (pe_var hN hv hd hcd) he.pe hpi) hs0 hf) (pss_cons (ps_dput hu (pe_var hNw hvw hdw hcdw) ha'.pe hv'.pe hs) p3), fun b h σ g We E D k ⟨hl, hw⟩ hx ct => ?_⟩
  obtain ⟨p0, xs0, vs0, e0, ev0, hp0, _⟩ := k.lst hl
  refine ⟨_, ev0, he.se b h σ g We _ _ k hw hx fun v b1 h1 g1 o k1 f1 p1 => ?_⟩
  obtain ⟨b1', k1', f1', zo⟩ := come k1 f1
  unfold aliasAt at p1
  split at p1
  · rename_i pp xs j e1 e2
    rw [e2] at zo
    have ev : v = .int j := zo
    subst ev
    obtain ⟨hwl, n, q, c, en, ec, rc, p1⟩ := p1
    obtain ⟨v1, ev1, ev2, _⟩ := k1'.sl i _ e1
    rw [ev0] at ev1
    cases ev1
    cases ev2
    obtain ⟨vs, hp, t, evn, zc⟩ := k1'.child e1 ec rc
    refine ⟨p0, vs, j, .ref q, rfl, rfl, SqL.of hp, ?_, ?_⟩
    · unfold atI
      rw [← ownL_len t, en]
      exact evn
    obtain ⟨k2, s2⟩ := k1'.setN w (some (.ref q))
    have f2 := f1'.sub s2
    refine hv'.se b1' h1 _ (g1.set w none) We _ _ k2 p1 (hx.step f2) fun u b3 h3 g3 ou k3 f3 p3 => ?_
    obtain ⟨b3', k3', f3', zu⟩ := come k3 f3
    have f23 := f2.trans f3'
    refine ⟨.ref q, List.getElem?_set_self (by rw [k1'.len]; exact hwl), ha'.se b3' h3 _ g3 We _ _ k3' p3 (hx.step f23) fun yv b4 h4 g4 oy k4 f4 p4 => ?_⟩
    obtain ⟨b4', k4', f4', zy⟩ := come k4 f4
    unfold dictPut at p4
    split at p4
    · rename_i pp4 xs4 kk e4 e5
      have ev := key_ok zy e5
      subst ev
      obtain ⟨ks, ys, ex, nd, hz, p4⟩ := p4
      obtain ⟨vs4, hp4, t4, ev4, zc4⟩ := k4'.child e4 ex rfl
      obtain ⟨_, us, hq, hlen, zs⟩ := zc4
      have nq : q ∉ footL ys := (List.nodup_cons.mp (footL_nd (List.nodup_cons.mp (k4'.nd i _ e4)).2 ex)).1
      have ln := ownL_len zs
      have zu4 := den_mono f4'.bs _ _ zu
      refine ⟨q, upd h4 q (.dK (putK (ks.zip us) kk u)), rfl, DPut.k hq (by rw [List.length_zip]; omega), ?_⟩
      have key : Hold X.K b4' (upd h4 q (.dK (putK (ks.zip us) kk u))) (σ.set w (some (.ref q))) (g4.set i (some (.lst pp4 (xs4.set n (putO q ks ys kk ou.d))))) ∧ Frm g4 b4' h4 (g4.set i (some (.lst pp4 (xs4.set n (putO q ks ys kk ou.d))))) b4' (upd h4 q (.dK (putK (ks.zip us) kk u))) := by
        unfold putO
        cases r : findK ks kk with
        | some m =>
          rw [putK_zip nd hlen r]
          exact k4'.upd_child (c' := .dK q ks (ys.set m (.pur ou.d))) e4 ex rfl (fun _ => ⟨rfl, us.set m u, upd_same, by simp [hlen], ownL_set (ownL_aside zs nq) zu4⟩) ((footL_set_pur ou.d ys m).cons_cons q)
        | none =>
          rw [putK_zipN hlen r]
          exact k4'.upd_child (c' := .dK q (ks ++ [kk]) (ys ++ [.pur ou.d])) e4 ex rfl (fun _ => ⟨rfl, us ++ [u], upd_same, by simp [hlen], ownL_app (us := [.pur ou.d]) (ws := [u]) (ownL_aside zs nq) ⟨u, [], rfl, zu4, rfl⟩⟩)
            (by simp [foot, footL_app, footL])
      have ff := f23.trans (f4'.trans key.2)
      exact q3 b4' _ _ _ We E D key.1 p4 (hx.step ff) (ct.step ff)
    · exact p4.elim
  · exact p1.elim
/-! ### x in d, keys ints or texts -/
@[irreducible] def inK (neg : Bool) (ks : List Key) (d : D) (P : O → Prop) : Prop := ∃ k, d.key = some k ∧ P (.pur (.bl (if neg then !(findK ks k).isSome else (findK ks k).isSome)))
theorem find_ints {x : Int} : ∀ {ks : List Int}, (findK (ks.map (Sum.inl : Int → Key)) (Sum.inl x)).isSome = decide (x ∈ ks)
  | [] => by simp [findK]
  | y :: ks => by
    rw [List.map_cons, findK_cons]
    by_cases e : y = x
    · subst e; simp
    · have e2 : ¬ (Sum.inl y : Key) = Sum.inl x := fun z => e (Sum.inl.inj z)
      have e3 : ¬ x = y := fun z => e z.symm
      rw [if_neg e2, Option.isSome_map, find_ints]
      simp [e3]
theorem inK_i {neg : Bool} {x : Int} {ks : List Int} {P : O → Prop} (h : P (.pur (.bl (if neg then !decide (x ∈ ks) else decide (x ∈ ks))))) : inK neg (ks.map Sum.inl) (.int x) P := by
  unfold inK
  refine ⟨_, rfl, ?_⟩
  rw [find_ints]
  exact h
def wInDO (neg : Bool) (i : Nat) (wa : WE) : WE := fun We g P => wa We g fun o g1 => match g1[i]? with
  | some (some (.dK _ ks _)) => inK neg ks o.d fun z => P z g1
  | _ => False
theorem inD_se {neg : Bool} {a : Expr} {ta : TE} {wa : WE} (ha : GE X W a ta wa) :
    ∀ b h σ g We P Q, Hold X.K b h σ g → wInDO neg i wa We g P → ContX X.K g b h We W → Cont X.K g b h σ P Q → tOp (if neg then rNotInT else rInT) ta (tVar i) σ h Q := by
  intro b h σ g We P Q k hw hx ct
  refine ha.se b h σ g We _ _ k hw hx fun v b' h' g' o k' f' p' => ?_
  obtain ⟨b2, k2, f2, zo⟩ := come k' f'
  split at p'
  · rename_i p1 ks xs e1
    obtain ⟨v1, ev1, ev2, vs, hp, hlen, z⟩ := k2.sl i _ e1
    subst ev2
    unfold inK at p'
    obtain ⟨kk, ek, p'⟩ := p'
    have ev := key_ok zo ek
    subst ev
    refine ⟨_, ev1, ?_⟩
    have dg := DGet.k (k := kk) hp
    have es : (valV (ks.zip vs) kk).isSome = (findK ks kk).isSome := by rw [← any_zip hlen, valV_any]
    cases neg with
    | false =>
      refine ⟨p1, _, rfl, dg, ?_⟩
      rw [es]
      exact fin k2 f2 (Res.same k2.sub (d := .bl _) rfl) ct p'
    | true =>
      refine ⟨p1, _, rfl, dg, ?_⟩
      rw [es]
      exact fin k2 f2 (Res.same k2.sub (d := .bl _) rfl) ct p'
  · exact p'.elim
theorem op_inD (hu : X.A.units + 64 < cLine) : OpR X (compareOp .In) rInT := (og_inT hu).pe
theorem op_notInD (hu : X.A.units + 64 < cLine) : OpR X (compareOp .NotIn) rNotInT := (og_notInT hu).pe
theorem ge_inDO {a : Expr} {ta : TE} {wa : WE} {p pos : Pos} (hu : X.A.units + 64 < cLine) (ha : GE X W a ta wa) (hN : X.N[i]? = some x := by rfl) (hv : Vis X.env.scope x := by first | exact Or.inl rfl | exact Or.inr (Or.inl rfl) | exact Or.inr (Or.inr rfl))
    (hd : (x == ("__debug__" : Str)) = false := by decide) (hcd : (x == ("__classdict__" : Str)) = false := by decide) (hm : behindInMarks .In (.Name x p) = false := by rfl) : GE X W (.Compare a [.In] [.Name x p] pos) (tOp rInT ta (tVar i)) (wInDO false i wa) :=
  ⟨pe_cmpR (op_inD hu) ha.pe (pe_var hN hv hd hcd) hm, inD_se ha⟩
theorem gt_inDO {a : Expr} {ta : TE} {wa : WE} {p pos : Pos} (hu : X.A.units + 64 < cLine) (ha : GE X W a ta wa) (hN : X.N[i]? = some x := by rfl) (hv : Vis X.env.scope x := by first | exact Or.inl rfl | exact Or.inr (Or.inl rfl) | exact Or.inr (Or.inr rfl))
    (hd : (x == ("__debug__" : Str)) = false := by decide) (hcd : (x == ("__classdict__" : Str)) = false := by decide) (hm : behindInMarks .In (.Name x p) = false := by rfl) : GT X W (.Compare a [.In] [.Name x p] pos) (tTest (tOp rInT ta (tVar i))) (wTest (wInDO false i wa)) :=
  ⟨pt_cmpR (op_inD hu) ha.pe (pe_var hN hv hd hcd) hm, fun b h σ g We P Q k hw hx ct => inD_se ha b h σ g We _ _ k hw hx fun v b' h' g' o k' f' p' => test_of k' f' p' ct⟩
theorem gt_notInDO {a : Expr} {ta : TE} {wa : WE} {p pos : Pos} (hu : X.A.units + 64 < cLine) (ha : GE X W a ta wa) (hN : X.N[i]? = some x := by rfl) (hv : Vis X.env.scope x := by first | exact Or.inl rfl | exact Or.inr (Or.inl rfl) | exact Or.inr (Or.inr rfl))
    (hd : (x == ("__debug__" : Str)) = false := by decide) (hcd : (x == ("__classdict__" : Str)) = false := by decide) (hm : behindInMarks .NotIn (.Name x p) = false := by rfl) : GT X W (.Compare a [.NotIn] [.Name x p] pos) (tTest (tOp rNotInT ta (tVar i))) (wTest (wInDO true i wa)) :=
  ⟨pt_cmpR (op_notInD hu) ha.pe (pe_var hN hv hd hcd) hm, fun b h σ g We P Q k hw hx ct => inD_se (neg := true) ha b h σ g We _ _ k hw hx fun v b' h' g' o k' f' p' => test_of k' f' p' ct⟩
def roInK (neg : Bool) : RO := fun x y P => match y with
  | .dK ks _ => inK neg ks x P
  | _ => False
theorem inK_se {neg : Bool} {K : PySem.W.Frag} : Brd K (roInK neg) (if neg then rNotInT else rInT) := by
  intro b hh x y dx dy P Q s zx zy hr c
  unfold roInK at hr
  split at hr
  · rename_i ks ds
    unfold inK at hr
    obtain ⟨kk, ek, hr⟩ := hr
    have ev := key_ok zx ek
    subst ev
    obtain ⟨d, vs, rfl, h1, h2, h3⟩ := zy
    have dg := DGet.k (k := kk) (s _ _ h1)
    have es : (valV (ks.zip vs) kk).isSome = (findK ks kk).isSome := by rw [← any_zip h2, valV_any]
    cases neg with
    | false =>
      refine ⟨d, _, rfl, dg, ?_⟩
      rw [es]
      exact c _ b hh (.pur (.bl _)) (Res.same s rfl) hr
    | true =>
      refine ⟨d, _, rfl, dg, ?_⟩
      rw [es]
      exact c _ b hh (.pur (.bl _)) (Res.same s rfl) hr
  · exact hr.elim
theorem og_inK (hu : X.A.units + 64 < cLine) : OpG X (compareOp .In) rInT (roInK false) := ⟨op_inD hu, inK_se (neg := false)⟩
theorem og_notInK (hu : X.A.units + 64 < cLine) : OpG X (compareOp .NotIn) rNotInT (roInK true) := ⟨op_notInD hu, inK_se (neg := true)⟩
end
end G
/-! G: looks that make data, a dict of one pair, the keys of an own dict, dict comprehensions with two fors. -/
namespace G
open PySem PySem.Spec PyProof.Rows L2
open Evl (Ex)
mutual
/-- tuples of plain values -/
def tupD : D → Bool
  | .tup ds => tupDL ds
  | .int _ => true
  | .bl _ => true
  | .non => true
  | .str _ => true
  | _ => false
def tupDL : List D → Bool
  | [] => true
  | d :: ds => tupD d && tupDL ds
end
/-- the base with all tuples of the heap -/
def withT (b h : Hp) : Hp := fun a => match b a with
  | some u => some u
  | none => (match h a with
    | some (.tup vs) => some (.tup vs)
    | _ => none)
section
variable {K : PySem.W.Frag} {b h : Hp}
theorem withT_base : Ex b (withT b h) := fun a u e => by unfold withT; rw [e]
theorem withT_tup (s : Ex b h) {a : Addr} {vs : List V} (e : h a = some (.tup vs)) : withT b h a = some (.tup vs) := by
  unfold withT
  cases q : b a with
  | some u =>
    have := s a u q
    rw [e] at this
    cases this
    rfl
  | none => rw [e]
theorem withT_heap (s : Ex b h) : Ex (withT b h) h := fun a u e => by
  unfold withT at e
  cases q : b a with
  | some w => rw [q] at e; cases e; exact s a _ q
  | none =>
    rw [q] at e
    dsimp only at e
    split at e
    · rename_i vs ev
      cases e
      exact ev
    · cases e
theorem withT_new {a : Addr} {u : HO} (e : withT b h a = some u) (n : b a = none) : ∃ vs, h a = some (.tup vs) := by
  unfold withT at e
  rw [n] at e
  dsimp only at e
  split at e
  · rename_i vs ev
    exact ⟨vs, ev⟩
  · cases e
mutual
theorem den_withT (s : Ex b h) : ∀ (d : D) (v : V), tupD d = true → den K h d v → den K (withT b h) d v
  | .tup ds, _, t, ⟨a, vs, e, q, z⟩ => ⟨a, vs, e, withT_tup s q, denL_withT s ds vs t z⟩
  | .int _, _, _, z => z
  | .bl _, _, _, z => z
  | .non, _, _, z => z
  | .str _, _, _, z => z
  | .ty _, _, t, _ => by cases t
  | .fn _, _, t, _ => by cases t
  | .lst _, _, t, _ => by cases t
  | .frl _, _, t, _ => by cases t
  | .dK _ _, _, t, _ => by cases t
  | .dT _ _, _, t, _ => by cases t
  | .ins _ _ _, _, t, _ => by cases t
theorem denL_withT (s : Ex b h) : ∀ (ds : List D) (vs : List V), tupDL ds = true → denL K h ds vs → denL K (withT b h) ds vs
  | [], _, _, z => z
  | d :: ds, _, t, ⟨v, r, e, z, q⟩ => by
    have t' : (tupD d && tupDL ds) = true := t
    rw [Bool.and_eq_true] at t'
    exact ⟨v, r, e, den_withT s d v t'.1 z, denL_withT s ds r t'.2 q⟩
end
theorem denL_ofOwn {p : Addr} : ∀ {ds : List D} {vs : List V}, ownL K b h (ds.map .pur) vs → denL K b ds vs
  | [], _, z => z
  | d :: ds, _, ⟨v, r, e, z, t⟩ => ⟨v, r, e, z, denL_ofOwn (p := p) t⟩
end
section
variable {X : Cx} {W : WX} {e : Expr}
def okO : O → Prop
  | .pur d => tupD d = true
  | .lst _ xs => ∃ ds, xs = ds.map .pur ∧ tupDL ds = true
  | _ => False
@[irreducible] def okP (o : O) (P : Prop) : Prop := okO o ∧ P
theorem okP_i {o : O} {P : Prop} (h : okO o) (p : P) : okP o P := by unfold okP; exact ⟨h, p⟩
/-- an expression that only looks; what comes is tuples of plain values, or a new list of such -/
def wPeek2 (w : WE) : WE := fun _ g P => w (fun _ _ => False) (frzG g) fun o _ => okP o (P o g)
theorem ge_peek2 {t : TE} {w : WE} (ht : GE X W e t w) : GE X W e t (wPeek2 w) := by
  refine ⟨ht.pe, fun b h σ g We P Q k hw hx ct => ?_⟩
  refine ht.se h h σ (frzG g) _ _ _ k.look hw contX0 fun v b2 h2 g2 o k2 f2 pp => ?_
  unfold okP at pp
  obtain ⟨ok, p⟩ := pp
  have e2 : Ex h h2 := f2.bs.trans k2.sub
  obtain ⟨k3, f3⟩ := k.looked e2
  have s3 : Ex b h2 := k3.sub
  have k4 : Hold X.K (withT b h2) h2 σ g := k3.grow withT_base (withT_heap s3) fun a z => by
    cases q : withT b h2 a with
    | none => rfl
    | some u =>
      obtain ⟨vs, ev⟩ := withT_new q (k3.inF_nb z)
      exact (k3.inF_nt z ev).elim
  have f4 : Frm g b h g (withT b h2) h2 := ⟨withT_base, f3.keep, fun a u e1 t e2' n => by
    cases q : withT b h2 a with
    | none => rfl
    | some w =>
      obtain ⟨vs, ev⟩ := withT_new q e2'
      rw [e2 a u e1] at ev
      cases ev
      exact t.elim, f3.new⟩
  obtain ⟨zo, ndo, nbo, djo⟩ := k2.head
  cases o with
  | pur d =>
    exact fin k4 f4 (Res.same k4.sub (den_withT s3 d v ok (den_mono k2.sub d v zo))) ct p
  | lst q xs =>
    obtain ⟨ds, rfl, td⟩ := ok
    obtain ⟨ev, us, hq, zs⟩ := zo
    subst ev
    have hqn : h q = none := by
      rcases f2.new q (inF_cons.mpr (.inl ⟨_, rfl, List.mem_cons_self ..⟩)) with z | z
      · obtain ⟨i, u, e1, m⟩ := z
        obtain ⟨w, _, rfl⟩ := frzG_at e1
        simp [foot] at m
      · exact z
    have bq : b q = none := Evl.fresh_back k.sub hqn
    have wq : withT b h2 q = none := by
      cases r : withT b h2 q with
      | none => rfl
      | some u =>
        obtain ⟨vs, ev⟩ := withT_new r bq
        rw [hq] at ev
        cases ev
    have nq : ¬ inF g q := fun z => by obtain ⟨u, e⟩ := k.inF_there z; rw [hqn] at e; cases e
    have ft : foot (.lst q (ds.map .pur)) = [q] := by simp [foot, footL_pur]
    have zz := denL_withT s3 ds us td (denL_mono k2.sub _ _ (denL_ofOwn (p := q) zs))
    refine ct (.ref q) (withT b h2) h2 g (.lst q (ds.map .pur)) (k4.cons ⟨rfl, us, hq, ownL_pur zz⟩ (by rw [ft]; simp) (fun a m => ?_) fun a m => ?_) ⟨f4.bs, f4.keep, f4.nb, fun a z => ?_⟩ p
    · rw [ft] at m
      have : a = q := by simpa using m
      subst this; exact wq
    · rw [ft] at m
      have : a = q := by simpa using m
      subst this; exact nq
    · rcases inF_cons.mp z with ⟨u, e, m⟩ | z
      · cases e
        rw [ft] at m
        have : a = q := by simpa using m
        subst this; exact .inr hqn
      · exact f4.new a z
  | dK _ _ _ => exact ok.elim
  | dT _ _ _ => exact ok.elim
  | ins _ _ _ _ _ => exact ok.elim
  | tup _ => exact ok.elim
/-! ### {k: v} -/
@[irreducible] def dict1P (d : D) (u : D) (P : O → Prop) : Prop := ∃ k, d.key = some k ∧ ∀ p, P (.dK p [k] [.pur u])
def wDict1 (wk wv : WE) : WE := fun We g P => wk We g fun o g1 => wv We g1 fun u g2 => dict1P o.d u.d fun z => P z g2
theorem dict1_i {x : Int} {u : D} {P : O → Prop} (h : ∀ p, P (.dK p ([x].map Sum.inl) ([u].map .pur))) : dict1P (.int x) u P := by
  unfold dict1P
  exact ⟨_, rfl, h⟩
theorem ge_dict1 {ke v : Expr} {tk tv : TE} {wk wv : WE} {pos : Pos} (hk : GE X W ke tk wk) (hv : GE X W v tv wv) : GE X W (.Dict [some ke] [v] pos) (tDisp [(tk, tv)]) (wDict1 wk wv) := by
  refine ⟨pe_disp (pps_cons hk.pe hv.pe pps_nil) rfl rfl (by intro z; cases z) (by show 1 ≤ 15; decide), fun b hh σ g We P Q k hw hx ct => fun p np => ?_⟩
  have nbp : b p = none := Evl.fresh_back k.sub np
  have npg : ¬ inF g p := fun z => by obtain ⟨u, e⟩ := k.inF_there z; rw [np] at e; cases e
  have k1 := k.aside (o := .dK []) npg nbp
  have f1 : Frm g b hh g b (upd hh p (.dK [])) := ⟨Ex.refl b, fun a u e _ => by rw [upd_ne (ne_of_none e np)]; exact e, fun a u e1 t e2 _ => e2, fun a z => .inl z⟩
  refine hk.se b _ σ g We _ _ k1 hw (hx.step f1) fun x b2 h2 g2 o k2 f2 p2 => ?_
  obtain ⟨b2', k2', f2', zx⟩ := come k2 f2
  refine hv.se b2' h2 σ g2 We _ _ k2' p2 (hx.step (f1.trans f2')) fun y b3 h3 g3 u k3 f3 p3 => ?_
  obtain ⟨b3', k3', f3', zy⟩ := come k3 f3
  have ff := f2'.trans f3'
  have hp : h3 p = some (.dK []) := ff.keep p _ upd_same npg
  have nb3 : b3' p = none := ff.nb p _ upd_same trivial nbp npg
  have ng3 : ¬ inF g3 p := fun z => (ff.new p z).elim npg fun z => by rw [upd_same] at z; cases z
  unfold dict1P at p3
  obtain ⟨kk, ek, p3⟩ := p3
  have ev := key_ok zx ek
  subst ev
  refine ⟨hp, [(kk, y)], rfl, by simp, ?_⟩
  have em : mergeK [] [(kk, y)] = [kk].zip [y] := rfl
  rw [em]
  have k4 := k3'.aside (o := .dK ([kk].zip [y])) ng3 nb3
  have ft : foot (.dK p [kk] [.pur u.d]) = [p] := by simp [foot, footL]
  refine ct (.ref p) b3' _ g3 (.dK p [kk] [.pur u.d]) (k4.cons ⟨rfl, [y], upd_same, rfl, y, [], rfl, zy, rfl⟩ (by simp [ft]) (fun a m => ?_) fun a m => ?_) ⟨ff.bs, fun a w e n => ?_, fun a w e1 t e2 n => ff.nb a w (f1.keep a w e1 n) t e2 n, fun a z => ?_⟩ (p3 p)
  · rw [ft] at m; simp at m; subst m; exact nb3
  · rw [ft] at m; simp at m; subst m; exact ng3
  · rw [upd_ne (ne_of_none e np)]; exact ff.keep a w (f1.keep a w e n) n
  · rcases inF_cons.mp z with ⟨w, e, m⟩ | z
    · cases e; rw [ft] at m; simp at m; subst m; exact .inr np
    · rcases ff.new a z with z | z
      · exact .inl z
      · by_cases ea : a = p
        · subst ea; exact .inr np
        · rw [upd_ne ea] at z; exact .inr z
/-! ### [.. for x in ws[n]], ws[n] an own dict -/
def keyD : Key → D
  | .inl i => .int i
  | .inr x => .str x
theorem keyD_den {K : PySem.W.Frag} {b : Hp} (k : Key) : den K b (keyD k) (kV k) := by cases k <;> rfl
theorem atoms_den {K : PySem.W.Frag} {b b' : Hp} : ∀ {ds : List D} {vs : List V}, ds.all atomD = true → denL K b ds vs → denL K b' ds vs
  | [], _, _, z => z
  | d :: ds, _, t, ⟨v, r, e, z, q⟩ => by
    rw [List.all_cons, Bool.and_eq_true] at t
    exact ⟨v, r, e, den_atom t.1 z, atoms_den t.2 q⟩
@[irreducible] def wLcKeys (i jn i1 : Nat) (we : WE) (vs : List Nat) : WE := fun _ g P => ∃ (p : Addr) (xs : List O) (m : Int) (n : Nat) (q : Addr) (ks : List Key) (ys : List O) (f : Key → D), g[i]? = some (some (.lst p xs)) ∧ g[jn]? = some (some (.pur (.int m))) ∧ ixN xs.length m = some n ∧ xs[n]? = some (.dK q ks ys) ∧
  (∀ k, atomD (f k) = true) ∧ ks.length ≤ sizeLine ∧ (∀ d, unwipe (g.set i none) ((wipeG (g.set i none) vs).set i1 (some (.pur d))) vs = g.set i none) ∧
  (∀ k ∈ ks, we (fun _ _ => False) ((wipeG (g.set i none) vs).set i1 (some (.pur (keyD k)))) fun o g2 => o.d = f k ∧ g2 = (wipeG (g.set i none) vs).set i1 (some (.pur (keyD k)))) ∧
  ∀ r, P (.lst r ((ks.map f).map .pur)) g
theorem zip_at {ks : List Key} {us : List V} {i : Nat} {k : Key} {v : V} (e : (ks.zip us)[i]? = some (k, v)) : ks[i]? = some k := by
  rw [List.getElem?_zip_eq_some] at e
  exact e.1
theorem lcKeys_se {K : PySem.W.Frag} {te : TE} {we : WE} {i jn i1 : Nat} {vs : List Nat} (hi1 : i1 ∈ vs)
    (qe : ∀ b h σ g We P Q, Hold K b h σ g → we We g P → ContX K g b h We W0 → Cont K g b h σ P Q → te σ h Q) :
    ∀ b h σ g We P Q, Hold K b h σ g → wLcKeys i jn i1 we vs We g P → Cont K g b h σ P Q → tLockE (tLc (iKeys (tOp (rIxL K) (tVar i) (tVar jn))) (gName i1) tYes te vs) σ h Q := by
  intro b h σ g We P Q k hw ct
  unfold wLcKeys at hw
  obtain ⟨p, xs, m, n, q, ks, ys, f, ei, ej, en, ec, hat, hsz, huw, helt, hP⟩ := hw
  obtain ⟨vp, hp, t, evn, zc⟩ := k.child ei ec rfl
  obtain ⟨_, us, hq, hlen, zys⟩ := zc
  obtain ⟨vi, evi, zi⟩ := k.sl i _ ei
  have evi2 : vi = .ref p := zi.1
  subst evi2
  obtain ⟨vj, evj, zj⟩ := k.sl jn _ ej
  have evj2 : vj = .int m := zj
  subst evj2
  have ndi := k.nd i _ ei
  have qin : q ∈ footL xs := footL_mem ec (List.mem_cons_self ..)
  have qp : q ≠ p := fun z => (List.nodup_cons.mp ndi).1 (z ▸ qin)
  obtain ⟨k0, s0⟩ := set_none k ei evi
  have kn : Hold K b h σ (g.set i none) := k0.tail
  have bq : b q = none := k.nb i _ ei q (List.mem_cons_of_mem _ qin)
  have nq : ¬ inF (g.set i none) q := k0.head.2.2.2 q (List.mem_cons_of_mem _ qin)
  refine ⟨q, .dK (ks.zip us), hq, trivial, fun od => ?_⟩
  have kL := kn.aside (o := .frz od (.dK (ks.zip us))) nq bq
  generalize ehL : upd h q (.frz od (.dK (ks.zip us))) = hL at kL ⊢
  have hLq : hL q = some (.frz od (.dK (ks.zip us))) := by rw [← ehL]; exact upd_same
  have hLo : ∀ a, a ≠ q → hL a = h a := fun a na => by rw [← ehL]; exact upd_ne na
  refine ⟨.ref p, evi, .int m, evj, p, vp, m, .ref q, rfl, rfl, SqL.of (by rw [hLo p (Ne.symm qp)]; exact hp), ?_, q, od, rfl, .inl ⟨ks.zip us, hLq, fun D hD => ?_⟩⟩
  · unfold atI
    rw [← ownL_len t, en]
    exact evn
  have Dq : D ≠ q := fun z => by rw [z, hLq] at hD; cases hD
  have hDn : h D = none := by rw [← hLo D Dq]; exact hD
  have bD : b D = none := Evl.fresh_back k.sub hDn
  have nD : ¬ inF (g.set i none) D := fun z => by obtain ⟨u, e⟩ := kn.inF_there z; rw [hDn] at e; cases e
  have zl : (ks.zip us).length = ks.length := by rw [List.length_zip]; omega
  refine ⟨fun c mm H => mm = ks.length - c ∧ c ≤ ks.length ∧ ∃ b' ws, Hold K b' H σ (g.set i none) ∧ Frm (g.set i none) b hL (g.set i none) b' H ∧ b' D = none ∧ H D = some (.lst ws) ∧ denL K b' ((ks.take c).map f) ws,
    ⟨ks.length, by simp, Nat.zero_le _, b, [], kL.aside nD bD, ⟨Ex.refl b, fun a u e _ => by rw [upd_ne (ne_of_none e hD)]; exact e, fun a u e1 t e2 _ => e2, fun a z => .inl z⟩, bD, upd_same, rfl⟩, ?_⟩
  rintro c mm H ⟨rfl, hc, b', ws, k', f', nb', hDH, zw⟩
  have Hq : H q = some (.frz od (.dK (ks.zip us))) := f'.keep q _ hLq nq
  by_cases hlt : c < ks.length
  · obtain ⟨kk, ek⟩ : ∃ kk, ks[c]? = some kk := ⟨_, List.getElem?_eq_getElem hlt⟩
    have mk := List.mem_of_getElem? ek
    refine .inr ⟨⟨Hq, by rw [zl]; exact hlt⟩, fun H4 => c + 1 ≤ ks.length ∧ ∃ b' ws, Hold K b' H4 σ (g.set i none) ∧ Frm (g.set i none) b hL (g.set i none) b' H4 ∧ b' D = none ∧ H4 D = some (.lst ws) ∧ denL K b' ((ks.take (c + 1)).map f) ws,
      fun H4 z => ⟨ks.length - (c + 1), by omega, rfl, z.1, z.2⟩, fun x h2 yl => ?_⟩
    obtain ⟨eh, k2, v2, e2, rfl⟩ := yl
    subst eh
    have ek2 := zip_at e2
    rw [ek] at ek2
    cases ek2
    obtain ⟨kw, sw⟩ := k'.wipe vs
    obtain ⟨kp, fp⟩ := (Res.same kw.sub (keyD_den kk)).lift kw
    obtain ⟨kq, sq⟩ := kp.put i1
    have hwp : L2.wipe ((L2.wipe σ vs).set i1 (some (kV kk))) vs = L2.wipe σ vs := wipe_sames ⟨by rw [List.length_set], fun j nj => List.getElem?_set_ne (fun (e : i1 = j) => nj (e ▸ hi1))⟩
    refine ⟨hwp, ?_⟩
    show tYes _ _ _
    unfold tYes
    simp only [if_true]
    refine qe b' _ _ _ _ _ _ kq (helt kk mk) contX0 fun v b5 h5 g5 o k5 f5 ⟨eo, eg⟩ => ?_
    obtain ⟨b6, k6, f6, zo⟩ := come k5 f5
    rw [eg] at k6 f6
    rw [eo] at zo
    have sub2 : ∀ a, inF ((wipeG (g.set i none) vs).set i1 (some (.pur (keyD kk)))) a → inF (g.set i none) a := fun a z => by
      rcases inF_cons.mp (sq a z) with ⟨o, e, m⟩ | z
      · cases e; simp [foot] at m
      · exact sw a z
    have ng2 : ¬ inF ((wipeG (g.set i none) vs).set i1 (some (.pur (keyD kk)))) D := fun z => nD (sub2 D z)
    have D5 : h5 D = some (.lst ws) := f6.keep D _ hDH ng2
    have nb6 : b6 D = none := f6.nb D _ hDH trivial nb' ng2
    obtain ⟨k7, s7⟩ := k'.unwipe k6 f6.bs vs hwp
    rw [huw] at k7 s7
    have f8 : Frm (g.set i none) b' h2 (g.set i none) b6 h5 := ⟨f6.bs, fun a u e n => f6.keep a u e fun z => n (sub2 a z), fun a u e1 t e2 n => f6.nb a u e1 t e2 fun z => n (sub2 a z), fun a z => (f6.new a (s7 a z)).elim (fun z => .inl (sub2 a z)) .inr⟩
    have zw6 := denL_mono f6.bs _ _ zw
    have lw : ws.length = c := by rw [← denL_len zw6, List.length_map, List.length_take]; omega
    refine ⟨ws, D5, by omega, hlt, b6, ws ++ [v], k7.aside nD nb6, ?_, nb6, upd_same, ?_⟩
    · have ff := f'.trans f8
      refine ⟨ff.bs, fun a u e na => ?_, ff.nb, ff.new⟩
      rw [upd_ne (ne_of_none e hD)]
      exact ff.keep a u e na
    · have et : ks.take (c + 1) = ks.take c ++ [kk] := by rw [List.take_succ, ek]; rfl
      rw [et, List.map_append]
      exact denL_app zw6 ⟨v, [], rfl, zo, rfl⟩
  · have ec2 : c = ks.length := by omega
    subst ec2
    rw [List.take_length] at zw
    refine .inl ⟨⟨Hq, by rw [zl]; exact Nat.le_refl _⟩, Hq, ?_⟩
    -- unlocked
    have nq' : ¬ inF (g.set i none) q := nq
    have b'q : b' q = none := f'.nb q _ hLq trivial bq nq
    have ku := k'.aside (o := .dK (ks.zip us)) nq' b'q
    have F : Frm (g.set i none) b h (g.set i none) b' (upd H q (.dK (ks.zip us))) := by
      refine ⟨f'.bs, fun a u e na => ?_, fun a u e tt e2 na => ?_, fun a z => ?_⟩
      · by_cases ea : a = q
        · subst ea; rw [upd_same, ← hq]; exact e
        · rw [upd_ne ea]; exact f'.keep a u (by rw [hLo a ea]; exact e) na
      · by_cases ea : a = q
        · subst ea; exact b'q
        · exact f'.nb a u (by rw [hLo a ea]; exact e) tt e2 na
      · rcases f'.new a z with z | z
        · exact .inl z
        · by_cases ea : a = q
          · subst ea; rw [hLq] at z; cases z
          · exact .inr (by rw [← hLo a ea]; exact z)
    have kc := k0.carry ku F
    obtain ⟨kb, sb⟩ := kc.put i
    have eσ : σ.set i (some (.ref p)) = σ := List.ext_getElem? fun j => by
      by_cases e : i = j
      · subst e; rw [List.getElem?_set_self (List.getElem?_eq_some_iff.mp evi).1]; exact evi.symm
      · rw [List.getElem?_set_ne e]
    have eg : (g.set i none).set i (some (.lst p xs)) = g := List.ext_getElem? fun j => by
      by_cases e : i = j
      · subst e; rw [List.getElem?_set_self (by rw [List.length_set]; exact (List.getElem?_eq_some_iff.mp ei).1)]; exact ei.symm
      · rw [List.getElem?_set_ne e, List.getElem?_set_ne e]
    rw [eσ, eg] at kb
    rw [eg] at sb
    have f9 : Frm g b h g b' (upd H q (.dK (ks.zip us))) := by
      refine ⟨F.bs, fun a u e na => F.keep a u e fun z => na (s0 a (inF_cons.mpr (.inr z))), fun a u e tt e2 na => F.nb a u e tt e2 fun z => na (s0 a (inF_cons.mpr (.inr z))), fun a z => .inl z⟩
    have ft : foot (.lst D ((ks.map f).map .pur)) = [D] := by show D :: footL _ = [D]; rw [footL_pur]
    have Du : (upd H q (.dK (ks.zip us))) D = some (.lst ws) := by rw [upd_ne Dq]; exact hDH
    have ngD : ¬ inF g D := fun z => by obtain ⟨u, e⟩ := k.inF_there z; rw [hDn] at e; cases e
    refine ct (.ref D) b' _ g (.lst D ((ks.map f).map .pur)) (kb.cons ⟨rfl, ws, Du, ownL_pur zw⟩ (by rw [ft]; simp) (fun a m => ?_) fun a m => ?_) ⟨f9.bs, f9.keep, f9.nb, fun a z => ?_⟩ (hP D)
    · rw [ft] at m
      have : a = D := by simpa using m
      subst this; exact nb'
    · rw [ft] at m
      have : a = D := by simpa using m
      subst this; exact ngD
    · rcases inF_cons.mp z with ⟨u, e, m⟩ | z
      · cases e
        rw [ft] at m
        have : a = D := by simpa using m
        subst this; exact .inr hDn
      · exact .inl z
theorem ge_lcKeys {elt : Expr} {x y z : Str} {scope : Scope} {own : List (Str × Nat)} {i jn i1 : Nat} {px py pz sp pos : Pos} {te : TE} {we : WE} (hc : X.calm = true) (hN : X.N.Nodup) (ok : BlkOk X.N X.env.scope scope own)
    (hg : ∀ (s : Shared) (H : Hp) (C : Addr) (cl : List (Str × Addr)) (fp : List Addr), PG (X.blk s H scope (compEnvC scope cl C X.env) fp) (.Name z pz) (gName i1))
    (he : ∀ (s : Shared) (H : Hp) (C : Addr) (cl : List (Str × Addr)) (fp : List Addr), GE (X.blk s H scope (compEnvC scope cl C X.env) fp) W0 elt te we) (hi1 : i1 ∈ own.map (·.2) := by decide)
    (hNx : X.N[i]? = some x := by rfl) (hv : Vis X.env.scope x := by first | exact Or.inl rfl | exact Or.inr (Or.inl rfl) | exact Or.inr (Or.inr rfl)) (hNy : X.N[jn]? = some y := by rfl) (hvy : Vis X.env.scope y := by first | exact Or.inl rfl | exact Or.inr (Or.inl rfl) | exact Or.inr (Or.inr rfl))
    (hd : (x == ("__debug__" : Str)) = false := by decide) (hcd : (x == ("__classdict__" : Str)) = false := by decide) (hdy : (y == ("__debug__" : Str)) = false := by decide) (hcdy : (y == ("__classdict__" : Str)) = false := by decide)
    (hs : ∀ u, foldedSetIterable (.Subscript (.Name x px) (.Name y py) sp) X.env u = pure u := by intro _; rfl) {K : PySem.W.Frag} (hK : X.K = K := by exact rfl) :
    GE X W (.ListComp elt [⟨.Name z pz, .Subscript (.Name x px) (.Name y py) sp, [], 0⟩] scope pos) (tLockE (tLc (iKeys (tOp (rIxL K) (tVar i) (tVar jn))) (gName i1) tYes te (own.map (·.2)))) (wLcKeys i jn i1 we (own.map (·.2))) := by
  subst hK
  exact ⟨pe_lock (pe_lc hc hN (pi_keys (pe_ix ix_list (pe_var hNx hv hd hcd) (pe_var hNy hvy hdy hcdy) (by intro _ _; rfl))) ok hg (fun s H C cl fp => pts_nil) (fun s H C cl fp => (he s H C cl fp).pe) hs), fun b h σ g We P Q k hw hx ct => lcKeys_se hi1 (he X.s_0 X.H_0 0 [] []).se b h σ g We P Q k hw ct⟩
end
end G
/-! G: {k: v for a in A for x in B}, keys ints; sorted of a list of ints. -/
namespace G
open PySem PySem.Spec PyProof.Rows L2 TQ
open Evl (Ex)
abbrev fM {α : Type} (ds : List D) (B : D → List D) (f : D → D → α) : List α := ds.flatMap fun d => (B d).map (f d)
abbrev gX (g : Gam) (i1 : Nat) (x : D) : Gam := (wipeG g [i1]).set i1 (some (.pur x))
@[irreducible] def wDc2 (wi : WI) (wg : WG) (wi1 : WI) (i1 : Nat) (wk wv : WE) (vs : List Nat) : WE := fun We g P => wi We g fun ds g1 => ∃ (G2 : D → Gam) (B : D → List D) (f : D → D → Int) (u : D → D → D),
  (fM ds B f).Nodup ∧ (fM ds B f).length < sizeLine ∧ (∀ d ∈ ds, wg d (wipeG g1 vs) fun g2 => g2 = G2 d) ∧ (∀ d ∈ ds, unwipe g1 (G2 d) vs = g1) ∧
  (∀ d ∈ ds, wi1 (fun _ _ => False) (G2 d) fun es g3 => g3 = G2 d ∧ es = B d) ∧ (∀ d ∈ ds, ∀ x ∈ B d, unwipe (G2 d) (gX (G2 d) i1 x) [i1] = G2 d) ∧
  (∀ d ∈ ds, ∀ x ∈ B d, wk (fun _ _ => False) (gX (G2 d) i1 x) fun o g7 => g7 = gX (G2 d) i1 x ∧ o.d = .int (f d x) ∧ wv (fun _ _ => False) (gX (G2 d) i1 x) fun r g8 => g8 = gX (G2 d) i1 x ∧ r.d = u d x) ∧
  ∀ p, P (.dK p ((fM ds B f).map Sum.inl) ((fM ds B u).map .pur)) g1
theorem fM_len {α β : Type} (B : D → List D) (f : D → D → α) (u : D → D → β) : ∀ ds : List D, (fM ds B f).length = (fM ds B u).length
  | [] => rfl
  | d :: ds => by
    show (((B d).map (f d)) ++ fM ds B f).length = (((B d).map (u d)) ++ fM ds B u).length
    rw [List.length_append, List.length_append, fM_len B f u ds, List.length_map, List.length_map]
theorem find_new {x : Int} {ks : List Int} (h : x ∉ ks) : findK (ks.map (Sum.inl : Int → Key)) (Sum.inl x) = none := by
  have := find_ints (x := x) (ks := ks)
  cases q : findK (ks.map (Sum.inl : Int → Key)) (Sum.inl x) with
  | none => rfl
  | some j =>
    rw [q] at this
    have h2 : true = decide (x ∈ ks) := this
    rw [decide_eq_false h] at h2
    cases h2
section
variable {X : Cx} {W : WX}
theorem dc2_se {K : PySem.W.Frag} {ti ti1 : TI} {tg : TG} {tk tv : TE} {wi wi1 : WI} {wg : WG} {wk wv : WE} {i1 : Nat} {vs ts : List Nat}
    (qi : ∀ b h σ g We P Q, Hold K b h σ g → wi We g P → ContX K g b h We W → (∀ J b' h' g' ds, Hold K b' h' σ g' → Frm g b h g' b' h' → Yields K b' h' J ds → P ds g' → Q J h') → ti σ h Q)
    (qg : ∀ b h σ g d v P Q, Hold K b h σ g → den K b d v → wg d g P → (∀ σ' b' h' g', Hold K b' h' σ' g' → Frm g b h g' b' h' → Sames ts σ σ' → P g' → Q σ' h') → tg v σ h Q)
    (qi1 : ∀ b h σ g We P Q, Hold K b h σ g → wi1 We g P → ContX K g b h We W0 → (∀ J b' h' g' ds, Hold K b' h' σ g' → Frm g b h g' b' h' → Yields K b' h' J ds → P ds g' → Q J h') → ti1 σ h Q)
    (qk : ∀ b h σ g We P Q, Hold K b h σ g → wk We g P → ContX K g b h We W0 → Cont K g b h σ P Q → tk σ h Q)
    (qv : ∀ b h σ g We P Q, Hold K b h σ g → wv We g P → ContX K g b h We W0 → Cont K g b h σ P Q → tv σ h Q) (hts : ∀ i ∈ ts, i ∈ vs) :
    ∀ b h σ g We P Q, Hold K b h σ g → wDc2 wi wg wi1 i1 wk wv vs We g P → ContX K g b h We W → Cont K g b h σ P Q → tDc2 ti tg ti1 (gName i1) tk tv vs [i1] σ h Q := by
  intro b h σ g We P Q k hw hx ct
  unfold wDc2 at hw
  refine qi b h σ g We _ _ k hw hx fun J b1 h1 g1 ds k1 f1 y ⟨G2, B, f, u, hnd, few, tgt, wipe1, inner, wipe2, elts, fin1⟩ => fun D hD => ?_
  have nb1 : b1 D = none := Evl.fresh_back k1.sub hD
  have ng1 : ¬ inF g1 D := fun z => by obtain ⟨u, e⟩ := k1.inF_there z; rw [hD] at e; cases e
  refine ⟨fun i m H => m = ds.length - i ∧ i ≤ ds.length ∧ ∃ b' us, Hold K b' H σ g1 ∧ Frm g1 b1 h1 g1 b' H ∧ b' D = none ∧ H D = some (.dK (((fM (ds.take i) B f).map Sum.inl).zip us)) ∧ denL K b' (fM (ds.take i) B u) us,
    ⟨ds.length, by simp, Nat.zero_le _, b1, [], k1.aside ng1 nb1, ⟨Ex.refl b1, fun a u e _ => by rw [upd_ne (ne_of_none e hD)]; exact e, fun a u e1 t e2 _ => e2, fun a z => .inl z⟩, nb1, upd_same, rfl⟩, ?_⟩
  rintro i m H ⟨rfl, hi, b', us, k', f', nb', hDH, zu⟩
  have yy := y b' H f'.bs k'.sub (fun a o e1 e2 => f'.keep a o e1 fun z => by rw [k1.inF_nb z] at e2; cases e2) i
  by_cases hlt : i < ds.length
  · obtain ⟨d, di⟩ : ∃ d, ds[i]? = some d := ⟨_, List.getElem?_eq_getElem hlt⟩
    have dm := List.mem_of_getElem? di
    obtain ⟨yg, yst⟩ := yy.2 d di
    have etake : ds.take (i + 1) = ds.take i ++ [d] := by rw [List.take_succ, di]; rfl
    have eall : fM ds B f = fM (ds.take i) B f ++ ((B d).map (f d) ++ fM (ds.drop (i + 1)) B f) := by
      have e1 : ds = ds.take (i + 1) ++ ds.drop (i + 1) := (List.take_append_drop _ _).symm
      have e2 : fM ds B f = fM (ds.take (i + 1)) B f ++ fM (ds.drop (i + 1)) B f := by
        show ds.flatMap _ = _
        rw [← List.flatMap_append, List.take_append_drop]
      rw [e2, etake]
      show (ds.take i ++ [d]).flatMap _ ++ _ = _
      rw [List.flatMap_append, List.append_assoc]
      simp
    refine .inr ⟨yg, fun H4 => i + 1 ≤ ds.length ∧ ∃ b' us, Hold K b' H4 σ g1 ∧ Frm g1 b1 h1 g1 b' H4 ∧ b' D = none ∧ H4 D = some (.dK (((fM (ds.take (i + 1)) B f).map Sum.inl).zip us)) ∧ denL K b' (fM (ds.take (i + 1)) B u) us, fun H4 z => ⟨ds.length - (i + 1), by omega, rfl, z.1, z.2⟩, fun x h2 yl => ?_⟩
    obtain ⟨b2, e1, e2, e3, n, z⟩ := yst x h2 yl
    obtain ⟨k2, f2⟩ := k'.wide e1 e2 e3 n
    have nb2 : b2 D = none := f2.nb D _ hDH trivial nb' ng1
    have D2 : h2 D = some (.dK (((fM (ds.take i) B f).map Sum.inl).zip us)) := e2 D _ hDH
    obtain ⟨kw, sw⟩ := k2.wipe vs
    refine qg b2 h2 (L2.wipe σ vs) (wipeG g1 vs) d x _ _ kw z (tgt d dm) fun σ8 b3 h3 g2 kq f3 s3 eg2 => ?_
    have hwp : L2.wipe σ8 vs = L2.wipe σ vs := wipe_sames (s3.mono hts)
    refine ⟨hwp, ?_⟩
    subst eg2
    have inn := inner d dm
    have elt := elts d dm
    have unw := wipe1 d dm
    have unw2 := wipe2 d dm
    -- from g1 to the block's slots
    have f13 : Frm g1 b2 h2 (G2 d) b3 h3 := ⟨f3.bs, fun a u e n => f3.keep a u e fun z => n (sw a z), fun a u e1 t e2 n => f3.nb a u e1 t e2 fun z => n (sw a z), fun a z => (f3.new a z).elim (fun z => .inl (sw a z)) .inr⟩
    have D3 : h3 D = some (.dK (((fM (ds.take i) B f).map Sum.inl).zip us)) := f13.keep D _ D2 ng1
    have nb3 : b3 D = none := f13.nb D _ D2 trivial nb2 ng1
    have ng2 : ¬ inF (G2 d) D := fun q => (f13.new D q).elim ng1 fun q => by rw [D2] at q; cases q
    refine qi1 b3 h3 σ8 (G2 d) _ _ _ kq inn contX0 fun J1 b4 h4 g4 es k4 f4 y4 ⟨eg4, ees⟩ => ?_
    rw [eg4] at k4 f4
    subst ees
    clear eg4
    have nb4 : b4 D = none := f4.nb D _ D3 trivial nb3 ng2
    have D4 := f4.keep D _ D3 ng2
    have zu4 := denL_mono (f2.bs.trans (f13.bs.trans f4.bs)) _ _ zu
    refine ⟨fun j m H => m = (B d).length - j ∧ j ≤ (B d).length ∧ ∃ b' us, Hold K b' H σ8 (G2 d) ∧ Ex b4 b' ∧ Frm g1 b1 h1 (G2 d) b' H ∧ b' D = none ∧ H D = some (.dK (((fM (ds.take i) B f ++ ((B d).take j).map (f d)).map Sum.inl).zip us)) ∧ denL K b' (fM (ds.take i) B u ++ ((B d).take j).map (u d)) us,
      ⟨(B d).length, by simp, Nat.zero_le _, b4, us, k4, Ex.refl b4, f'.trans (f2.trans (f13.trans f4)), nb4, by simpa using D4, by simpa using zu4⟩, ?_⟩
    rintro j m H5 ⟨rfl, hj, b5, us5, k5, x5, f5, nb5, D5, zu5⟩
    have y5 := y4 b5 H5 x5 k5.sub (fun a o e1 e2 => by
      have q1 := k4.sub a _ e2
      rw [e1] at q1
      cases q1
      exact k5.sub a _ (x5 a _ e2)) j
    have l5 : (fM (ds.take i) B f ++ ((B d).take j).map (f d)).length = us5.length := by
      have := denL_len zu5
      rw [← this, List.length_append, List.length_append, fM_len B f u, List.length_map, List.length_map]
    by_cases hjl : j < (B d).length
    · obtain ⟨q, eq⟩ : ∃ q, (B d)[j]? = some q := ⟨_, List.getElem?_eq_getElem hjl⟩
      have qm := List.mem_of_getElem? eq
      obtain ⟨yg5, yst5⟩ := y5.2 q eq
      refine .inr ⟨yg5, fun H6 => j + 1 ≤ (B d).length ∧ ∃ b' us, Hold K b' H6 σ8 (G2 d) ∧ Ex b4 b' ∧ Frm g1 b1 h1 (G2 d) b' H6 ∧ b' D = none ∧ H6 D = some (.dK (((fM (ds.take i) B f ++ ((B d).take (j + 1)).map (f d)).map Sum.inl).zip us)) ∧ denL K b' (fM (ds.take i) B u ++ ((B d).take (j + 1)).map (u d)) us, fun H6 z => ⟨(B d).length - (j + 1), by omega, rfl, z.1, z.2⟩, fun x1 h6 yl1 => ?_⟩
      obtain ⟨b6, u1, u2, u3, u4, z6⟩ := yst5 x1 h6 yl1
      obtain ⟨k6, f6⟩ := k5.wide u1 u2 u3 u4
      have ng5 : ¬ inF (G2 d) D := ng2
      have nb6 : b6 D = none := f6.nb D _ D5 trivial nb5 ng2
      have D6 := u2 D _ D5
      obtain ⟨kw6, sw6⟩ := k6.wipe [i1]
      obtain ⟨kp6, _⟩ := (Res.same kw6.sub z6).lift kw6
      obtain ⟨kq6, sq6⟩ := kp6.put i1
      have hw6 : L2.wipe ((L2.wipe σ8 [i1]).set i1 (some x1)) [i1] = L2.wipe σ8 [i1] := wipe_sames ⟨by rw [List.length_set], fun t nt => List.getElem?_set_ne (fun (e : i1 = t) => nt (by simp [e]))⟩
      refine ⟨hw6, ?_⟩
      have el := elt q qm
      have uw2 := unw2 q qm
      have sub6 : ∀ a, inF (gX (G2 d) i1 q) a → inF (G2 d) a := fun a z => by
        rcases inF_cons.mp (sq6 a z) with ⟨o, e, m⟩ | z
        · cases e; simp [foot] at m
        · exact sw6 a z
      have ng6 : ¬ inF (gX (G2 d) i1 q) D := fun z => ng2 (sub6 D z)
      refine qk b6 h6 _ (gX (G2 d) i1 q) _ _ _ kq6 el contX0 fun v b7 h7 g7 o k7 f7 st7 => ?_
      obtain ⟨b8, k8, f8, zo⟩ := come k7 f7
      obtain ⟨eg7, eo, st8⟩ := st7
      subst eg7
      rw [eo] at zo
      have ev : v = .int (f d q) := zo
      subst ev
      refine qv b8 h7 _ (gX (G2 d) i1 q) _ _ _ k8 st8 contX0 fun w b9 h9 g9 r k9 f9 st9 => ?_
      obtain ⟨b10, k10, f10, zr⟩ := come k9 f9
      obtain ⟨eg9, er⟩ := st9
      subst eg9
      rw [er] at zr
      have f810 := f8.trans f10
      have nb10 : b10 D = none := f810.nb D _ D6 trivial nb6 ng6
      have D10 := f810.keep D _ D6 ng6
      obtain ⟨k11, s11⟩ := k6.unwipe k10 f810.bs [i1] hw6
      rw [uw2] at k11 s11
      have f12 : Frm (G2 d) b6 h6 (G2 d) b10 h9 := ⟨f810.bs, fun a u e n => f810.keep a u e fun z => n (sub6 a z), fun a u e1 t e2 n => f810.nb a u e1 t e2 fun z => n (sub6 a z), fun a z => (f810.new a (s11 a z)).elim (fun z => .inl (sub6 a z)) .inr⟩
      have zu10 := denL_mono (f6.bs.trans f810.bs) _ _ zu5
      have e5 : (B d).take (j + 1) = (B d).take j ++ [q] := by rw [List.take_succ, eq]; rfl
      have edrop : (B d) = (B d).take j ++ (q :: (B d).drop (j + 1)) := by
        have h1 := (List.take_append_drop j (B d)).symm
        have h2 : (B d).drop j = q :: (B d).drop (j + 1) := by
          obtain ⟨hl, e⟩ := List.getElem?_eq_some_iff.mp eq
          rw [← e]
          exact List.drop_eq_getElem_cons hl
        rw [h2] at h1
        exact h1
      have keyNew : f d q ∉ fM (ds.take i) B f ++ ((B d).take j).map (f d) := by
        have hnd2 := hnd
        rw [eall, edrop, List.map_append, List.map_cons] at hnd2
        have e7 : fM (ds.take i) B f ++ (((B d).take j).map (f d) ++ f d q :: ((B d).drop (j + 1)).map (f d) ++ fM (ds.drop (i + 1)) B f) = (fM (ds.take i) B f ++ ((B d).take j).map (f d)) ++ (f d q :: (((B d).drop (j + 1)).map (f d) ++ fM (ds.drop (i + 1)) B f)) := by simp
        rw [e7] at hnd2
        intro hm
        exact (List.nodup_append.mp hnd2).2.2 _ hm _ List.mem_cons_self rfl
      have lenLt : us5.length < sizeLine := by
        rw [← l5]
        have : (fM ds B f).length = (fM (ds.take i) B f ++ ((B d).take j).map (f d)).length + (1 + (((B d).drop (j + 1)).map (f d)).length + (fM (ds.drop (i + 1)) B f).length) := by
          rw [eall]
          simp only [List.length_append, List.length_map]
          have := congrArg List.length edrop
          rw [List.length_append, List.length_cons] at this
          omega
        omega
      refine ⟨((fM (ds.take i) B f ++ ((B d).take j).map (f d)).map Sum.inl).zip us5, Sum.inl (f d q), rfl, D10, ?_, hjl, b10, us5 ++ [w], k11.aside ng2 nb10, x5.trans (f6.bs.trans f810.bs), ?_, nb10, ?_, ?_⟩
      · rw [List.length_zip, List.length_map, l5]
        omega
      · have ff := f5.trans (f6.trans f12)
        refine ⟨ff.bs, fun a u e na => ?_, ff.nb, ff.new⟩
        rw [upd_ne (ne_of_none e hD)]
        exact ff.keep a u e na
      · rw [upd_same, putK_zipN (by rw [List.length_map]; exact l5) (find_new keyNew), e5, List.map_append, List.map_append, List.map_append, List.map_append, List.append_assoc]
        rfl
      · rw [e5, List.map_append, ← List.append_assoc]
        exact denL_app zu10 ⟨w, [], rfl, zr, rfl⟩
    · have e : j = (B d).length := by omega
      refine .inl ⟨y5.1 e, hlt, b5, us5, ?_, ?_, nb5, ?_, ?_⟩
      · obtain ⟨ku, su⟩ := k2.unwipe k5 (f13.bs.trans (f4.bs.trans x5)) vs hwp
        rw [unw] at ku
        exact ku
      · obtain ⟨ku, su⟩ := k2.unwipe k5 (f13.bs.trans (f4.bs.trans x5)) vs hwp
        rw [unw] at su
        exact f5.sub su
      · rw [e, List.take_length] at D5
        rw [D5, etake]
        show _ = some (HO.dK ((((ds.take i ++ [d]).flatMap _).map Sum.inl).zip us5))
        rw [List.flatMap_append]
        simp
      · rw [e, List.take_length] at zu5
        rw [etake]
        show denL K b5 ((ds.take i ++ [d]).flatMap _) us5
        rw [List.flatMap_append]
        simpa using zu5
  · have e : i = ds.length := by omega
    subst e
    rw [List.take_length] at zu hDH
    have ft : foot (.dK D ((fM ds B f).map Sum.inl) ((fM ds B u).map .pur)) = [D] := by show D :: footL _ = [D]; rw [footL_pur]
    refine .inl ⟨yy.1 rfl, ?_⟩
    refine ct (.ref D) b' H g1 (.dK D ((fM ds B f).map Sum.inl) ((fM ds B u).map .pur)) (k'.cons ⟨rfl, us, hDH, by rw [List.length_map, fM_len B f u, denL_len zu], ownL_pur zu⟩ (by rw [ft]; simp) (fun a m => ?_) fun a m => ?_) (f1.trans ⟨f'.bs, f'.keep, f'.nb, fun a z => ?_⟩) (fin1 D)
    · have : a = D := by rw [ft] at m; simpa using m
      subst this; exact nb'
    · have : a = D := by rw [ft] at m; simpa using m
      subst this; exact ng1
    · rcases inF_cons.mp z with ⟨u, e, m⟩ | z
      · cases e
        have : a = D := by rw [ft] at m; simpa using m
        subst this; exact .inr hD
      · exact f'.new a z
theorem ge_dc2 {kx vx t0 it0 it1 : Expr} {yn : Str} {scope : Scope} {mine : List (Str × Nat)} {i1 : Nat} {ts : List Nat} {py pos : Pos} {ti ti1 : TI} {tg : TG} {tk tv : TE} {wi wi1 : WI} {wg : WG} {wk wv : WE} (calm : X.calm = true) (hN : X.N.Nodup) (hi : GI X W t0 it0 ti wi) (blk : BlkOk X.N X.env.scope scope mine)
    (hi1 : ∀ (s : Shared) (H : Hp) (C : Addr) (cl : List (Str × Addr)) (fp : List Addr), GI (X.blk s H scope (compEnvC scope cl C X.env) fp) W0 (.Name yn py) it1 ti1 wi1)
    (hg0 : ∀ (s : Shared) (H : Hp) (C : Addr) (cl : List (Str × Addr)) (fp : List Addr), GB (X.blk s H scope (compEnvC scope cl C X.env) fp) t0 ts tg wg)
    (hg1 : ∀ (s : Shared) (H : Hp) (C : Addr) (cl : List (Str × Addr)) (fp : List Addr), PG (X.blk s H scope (compEnvC scope cl C X.env) fp) (.Name yn py) (gName i1))
    (hk : ∀ (s : Shared) (H : Hp) (C : Addr) (cl : List (Str × Addr)) (fp : List Addr), GE (X.blk s H scope (compEnvC scope cl C X.env) fp) W0 kx tk wk)
    (he : ∀ (s : Shared) (H : Hp) (C : Addr) (cl : List (Str × Addr)) (fp : List Addr), GE (X.blk s H scope (compEnvC scope cl C X.env) fp) W0 vx tv wv)
    (hts : ∀ i ∈ ts, i ∈ mine.map (·.2) := by decide) (h1 : i1 ∈ mine.map (·.2) := by decide) (fo : ∀ x, foldedSetIterable it0 X.env x = pure x := by intro _; rfl) (fo1 : ∀ env x, foldedSetIterable it1 env x = pure x := by intro _ _; rfl) :
    GE X W (.DictComp kx vx [⟨t0, it0, [], 0⟩, ⟨.Name yn py, it1, [], 0⟩] scope pos) (tDc2 ti tg ti1 (gName i1) tk tv (mine.map (·.2)) [i1]) (wDc2 wi wg wi1 i1 wk wv (mine.map (·.2))) :=
  ⟨pe_dc2 calm hN hi.pe blk (fun i m => by rw [List.mem_singleton.mp m]; exact h1) (fun s H C cl fp => (hg0 s H C cl fp).pe) (fun s H C cl fp => (hi1 s H C cl fp).pe) hg1 (fun s H C cl fp => (hk s H C cl fp).pe) (fun s H C cl fp => (he s H C cl fp).pe) fo fo1,
    dc2_se hi.se (hg0 X.s_0 X.H_0 0 [] []).se (hi1 X.s_0 X.H_0 0 [] []).se (hk X.s_0 X.H_0 0 [] []).se (he X.s_0 X.H_0 0 [] []).se hts⟩
theorem dc2_i {wi wi1 : WI} {wg : WG} {wk wv : WE} {i1 : Nat} {vs : List Nat} {We : Wsh} {g : Gam} {P : O → Gam → Prop} (ds : List D) (G2 : D → Gam) (B : D → List D) (f : D → D → Int) (u : D → D → D) (hi : ∀ Q : List D → Gam → Prop, Q ds g → wi We g Q)
    (nd : (fM ds B f).Nodup) (few : (fM ds B f).length < sizeLine) (tgt : ∀ d ∈ ds, wg d (wipeG g vs) fun g2 => g2 = G2 d) (w1 : ∀ d ∈ ds, unwipe g (G2 d) vs = g)
    (inner : ∀ d ∈ ds, wi1 (fun _ _ => False) (G2 d) fun es g3 => g3 = G2 d ∧ es = B d) (w2 : ∀ d ∈ ds, ∀ x ∈ B d, unwipe (G2 d) (gX (G2 d) i1 x) [i1] = G2 d)
    (elts : ∀ d ∈ ds, ∀ x ∈ B d, wk (fun _ _ => False) (gX (G2 d) i1 x) fun o g7 => g7 = gX (G2 d) i1 x ∧ o.d = .int (f d x) ∧ wv (fun _ _ => False) (gX (G2 d) i1 x) fun r g8 => g8 = gX (G2 d) i1 x ∧ r.d = u d x)
    (h : ∀ p, P (.dK p ((fM ds B f).map Sum.inl) ((fM ds B u).map .pur)) g) : wDc2 wi wg wi1 i1 wk wv vs We g P := by
  unfold wDc2
  exact hi _ ⟨G2, B, f, u, nd, few, tgt, w1, inner, w2, elts, h⟩
/-! ### sorted of a list of ints -/
@[irreducible] def rcSortI : RC1 := fun ds P => match ds with
  | [.lst xs] => ∃ ns : List Int, xs = ns.map D.int ∧ ns.length ≤ 3000 ∧ ∀ (L : List Int) (p : Addr), L.Perm ns → L.Pairwise (· ≤ ·) → P (.lst p ((L.map D.int).map .pur))
  | _ => False
end
end G
/-! G: sorted of a list of ints. -/
namespace G
open PySem PySem.Spec PyProof.Rows L2
open Evl (Ex)
section
variable {X : Cx} {W : WX}
theorem denL_int {K : PySem.W.Frag} {b : Hp} : ∀ ns : List Int, denL K b (ns.map D.int) (ns.map V.int)
  | [] => rfl
  | n :: ns => ⟨_, _, rfl, rfl, denL_int ns⟩
theorem cg_sortI {K : PySem.W.Frag} (hK : X.K = K := by exact rfl) : CallG X (.builtin "sorted") (rSortedI K) rcSortI := by
  subst hK
  refine ⟨cr_sortedI, fun b hh xs ds P Q s z hp c => ?_⟩
  unfold rcSortI at hp
  split at hp
  · rename_i us
    obtain ⟨v, rfl, a, vs, rfl, q, t⟩ := denL1 z
    obtain ⟨ns, rfl, _, hp⟩ := hp
    have ev := ints_ok t (ints_intsOf ns)
    subst ev
    refine ⟨a, ns, rfl, SqL.of (s _ _ q), fun L p pm srt np => ?_⟩
    exact c _ b _ (.lst p ((L.map D.int).map .pur)) (Res.own1 s np ⟨rfl, _, upd_same, ownL_pur (denL_int L)⟩ (by simp only [foot, footL_pur])) (hp L p pm srt)
  · exact hp.elim
theorem sortI_i {p : Addr} {ns : List Int} {P : O → Prop} (hn : ns.length ≤ 3000) (hs : ns.Pairwise (· ≤ ·)) (h : ∀ q, P (.lst q ((ns.map D.int).map .pur))) : rcSortI [(O.lst p ((ns.map D.int).map .pur)).d] P := by
  show rcSortI [.lst (O.dL _)] P
  rw [dL_pur]
  unfold rcSortI
  refine ⟨ns, rfl, hn, fun L q pm srt => ?_⟩
  have e : L = ns := pm.eq_of_pairwise (fun a b _ _ h1 h2 => Int.le_antisymm h1 h2) srt hs
  rw [e]
  exact h q
end
end G
/-! G: x.pop(), tables as rows. -/
namespace G
open PySem PySem.Spec PyProof.Rows L2
open Evl (Ex)
section
variable {X : Cx} {W : WX} {i : Nat} {x : Str}
theorem footL_last : ∀ (os : List O), (footL os.dropLast).Sublist (footL os)
  | [] => List.Sublist.refl _
  | [o] => List.nil_sublist _
  | o :: u :: os => (footL_last (u :: os)).append_left (foot o)
theorem ownL_last {K : PySem.W.Frag} {b h : Hp} : ∀ {os : List O} {vs : List V}, ownL K b h os vs → ownL K b h os.dropLast vs.dropLast
  | [], _, z => by have z' : _ = ([] : List V) := z; subst z'; exact rfl
  | [o], _, ⟨v, r, e, z, t⟩ => by have t' : r = [] := t; subst e t'; exact rfl
  | o :: u :: os, _, ⟨v, r, e, z, t⟩ => by
    obtain ⟨v2, r2, e2, z2, t2⟩ := t
    subst e e2
    exact ⟨v, (v2 :: r2).dropLast, rfl, z, ownL_last (os := u :: os) ⟨v2, r2, rfl, z2, t2⟩⟩
@[irreducible] def popP (i : Nat) (g : Gam) (P : O → Gam → Prop) : Prop := match g[i]? with
  | some (some (.lst p xs)) => ∃ d, xs[xs.length - 1]? = some (.pur d) ∧ P (.pur d) (g.set i (some (.lst p xs.dropLast)))
  | _ => False
def wPop (i : Nat) : WE := fun _ g P => popP i g P
theorem ge_pop {p apos cpos : Pos} (hN : X.N[i]? = some x := by rfl) (hv : Vis X.env.scope x := by first | exact Or.inl rfl | exact Or.inr (Or.inl rfl) | exact Or.inr (Or.inr rfl))
    (hd : (x == ("__debug__" : Str)) = false := by decide) (hcd : (x == ("__classdict__" : Str)) = false := by decide)
    (hbase : attributeBase (.Name x p) "pop" X.env (eval (.Name x p) X.env) = eval (.Name x p) X.env := by rfl) (hline : (apos.endLine == cpos.line) = true := by rfl) {K : PySem.W.Frag} (hK : X.K = K := by exact rfl) :
    GE X W (.Call (.Attribute (.Name x p) "pop" apos) [] [] cpos) (tBM0 K "list" rPop (tVar i)) (wPop i) := by
  subst hK
  refine ⟨pe_bm0 PySem.F.plainAttrs_list PySem.F.slot_list_pop PySem.F.type_list_pop mt_pop (pe_var hN hv hd hcd) hbase hline, fun b h σ g We P Q k hw hx ct => ?_⟩
  have hw : popP i g P := hw
  unfold popP at hw
  split at hw
  · rename_i p0 xs e1
    obtain ⟨v1, ev1, ev2, vs, hp, z⟩ := k.sl i _ e1
    subst ev2
    obtain ⟨d, ed, hw⟩ := hw
    obtain ⟨w, ew, zw⟩ := ownL_at z ed
    refine ⟨_, ev1, tyV_lst hp, p0, vs, w, rfl, rfl, hp, by rw [← ownL_len z]; exact ew, ?_⟩
    have np : p0 ∉ footL xs := (List.nodup_cons.mp (k.nd i _ e1)).1
    have sl := footL_last xs
    obtain ⟨k3, f3⟩ := k.upd_root (o' := .lst p0 xs.dropLast) (ob := .lst vs.dropLast) e1 rfl rfl ⟨rfl, _, upd_same, ownL_aside (ownL_last z) fun m => np (sl.subset m)⟩
      (fun a m => (List.mem_cons.mp m).elim (fun e => by rw [e]; exact List.mem_cons_self ..) fun m => List.mem_cons_of_mem _ (sl.subset m)) ((sl.cons_cons p0).nodup (k.nd i _ e1))
    exact fin k3 f3 (Res.same k3.sub zw) ct hw
  · exact hw.elim
theorem pop_last {g : Gam} {P : O → Gam → Prop} {p : Addr} {xs : List Int} {y : Int} (e : g[i]? = some (some (.lst p (((xs ++ [y]).map D.int).map .pur)))) (h : P (.pur (.int y)) (g.set i (some (.lst p ((xs.map D.int).map .pur))))) : popP i g P := by
  unfold popP
  rw [e]
  refine ⟨.int y, by simp, ?_⟩
  have : (((xs ++ [y]).map D.int).map O.pur).dropLast = (xs.map D.int).map O.pur := by simp
  rw [this]
  exact h
end
/-! ### rows -/
abbrev lI (r : List Int) : D := .lst (r.map .int)
def RowsO (xs : List O) (rows : List (List D)) : Prop := xs.length = rows.length ∧ ∀ (n : Nat) (r : List D), rows[n]? = some r → ∃ q, xs[n]? = some (.lst q (r.map .pur))
theorem RowsO.nil : RowsO [] [] := ⟨rfl, fun n r e => by simp at e⟩
theorem RowsO.app {xs : List O} {rows : List (List D)} {r : List D} {q : Addr} (h : RowsO xs rows) : RowsO (xs ++ [.lst q (r.map .pur)]) (rows ++ [r]) := by
  refine ⟨by simp [h.1], fun n s e => ?_⟩
  by_cases hn : n < rows.length
  · rw [List.getElem?_append_left hn] at e
    obtain ⟨p, ep⟩ := h.2 n s e
    exact ⟨p, by rw [List.getElem?_append_left (by rw [h.1]; exact hn)]; exact ep⟩
  · rw [List.getElem?_append_right (by omega)] at e
    have hz : n - rows.length = 0 := by
      have := (List.getElem?_eq_some_iff.mp e).1
      simp at this
      omega
    rw [hz] at e
    cases e
    refine ⟨q, ?_⟩
    rw [List.getElem?_append_right (by rw [h.1]; omega), h.1, hz]
    rfl
theorem RowsO.set {xs : List O} {rows : List (List D)} {r : List D} {q : Addr} {n : Nat} (h : RowsO xs rows) : RowsO (xs.set n (.lst q (r.map .pur))) (rows.set n r) := by
  refine ⟨by simp [h.1], fun m s e => ?_⟩
  by_cases hm : n = m
  · subst hm
    have hl : n < rows.length := by
      have := (List.getElem?_eq_some_iff.mp e).1
      simpa using this
    rw [List.getElem?_set_self hl] at e
    cases e
    exact ⟨q, List.getElem?_set_self (by rw [h.1]; exact hl)⟩
  · rw [List.getElem?_set_ne hm] at e ⊢
    exact h.2 m s e
theorem RowsO.d {xs : List O} : ∀ {rows : List (List D)}, RowsO xs rows → O.dL xs = rows.map D.lst := by
  induction xs with
  | nil => intro rows h; have := h.1; cases rows with
    | nil => rfl
    | cons _ _ => simp at this
  | cons x xs ih =>
    intro rows h
    cases rows with
    | nil => have := h.1; simp at this
    | cons r rows =>
      obtain ⟨q, e⟩ := h.2 0 r rfl
      have e' : x = .lst q (r.map .pur) := by simpa using e
      have h2 : RowsO xs rows := ⟨by have := h.1; simpa using this, fun n s en => h.2 (n + 1) s en⟩
      show x.d :: O.dL xs = D.lst r :: rows.map D.lst
      rw [ih h2, e']
      show D.lst (O.dL _) :: _ = _
      rw [dL_pur]
def DictsO (xs : List O) (kss : List (List Int)) : Prop := xs.length = kss.length ∧ ∀ (n : Nat) (ks : List Int), kss[n]? = some ks → ∃ q ys, ys.length = ks.length ∧ xs[n]? = some (.dK q (ks.map Sum.inl) ys)
theorem rowAt_i {i : Nat} {o : O} {g : Gam} {C : Nat → Addr → Prop} {p : Addr} {xs : List O} {rows : List (List D)} {j : Int} {r : List D} (e : g[i]? = some (some (.lst p xs))) (eo : o.d = .int j) (h : RowsO xs rows) (h0 : 0 ≤ j) (er : rows[j.toNat]? = some r) (hC : ∀ q, xs[j.toNat]? = some (.lst q (r.map .pur)) → C j.toNat q) : rowAt i o g C := by
  obtain ⟨q, eq⟩ := h.2 _ _ er
  unfold rowAt
  rw [e, eo]
  refine ⟨j.toNat, q, _, ixN_of h0 ?_, eq, hC q eq⟩
  have := (List.getElem?_eq_some_iff.mp eq).1
  omega
theorem rowApp_i {i n : Nat} {q : Addr} {u : O} {g : Gam} {E : GEnds} {p : Addr} {xs : List O} {r : List D} (e : g[i]? = some (some (.lst p xs))) (eq : xs[n]? = some (.lst q (r.map .pur))) (hz : r.length < sizeLine) (h : E.nx (g.set i (some (.lst p (xs.set n (.lst q ((r ++ [u.d]).map .pur))))))) : rowApp i n q u g E := by
  unfold rowApp
  rw [e]
  refine ⟨_, eq, by rw [List.length_map]; exact hz, ?_⟩
  rw [List.map_append] at h
  exact h
theorem aliasAt_i {i w : Nat} {o : O} {g : Gam} {C : Nat → Addr → Prop} {p : Addr} {xs : List O} {j : Int} {c : O} {q : Addr} (e : g[i]? = some (some (.lst p xs))) (eo : o.d = .int j) (hw : w < g.length) (h0 : 0 ≤ j) (ec : xs[j.toNat]? = some c) (r : root c = some q) (hC : C j.toNat q) : aliasAt i w o g C := by
  unfold aliasAt
  rw [e, eo]
  refine ⟨hw, j.toNat, q, c, ixN_of h0 ?_, ec, r, hC⟩
  have := (List.getElem?_eq_some_iff.mp ec).1
  omega
theorem rowPut_i {i n : Nat} {q : Addr} {u o2 : O} {g : Gam} {E : GEnds} {p : Addr} {xs : List O} {r : List D} {j : Int} (e : g[i]? = some (some (.lst p xs))) (eo : o2.d = .int j) (eq : xs[n]? = some (.lst q (r.map .pur))) (h0 : 0 ≤ j) (h1 : j < r.length) (h : E.nx (g.set i (some (.lst p (xs.set n (.lst q ((r.set j.toNat u.d).map .pur))))))) : rowPut i n q u o2 g E := by
  unfold rowPut
  rw [e, eo]
  refine ⟨_, j.toNat, eq, ixN_of h0 (by rw [List.length_map]; exact h1), ?_⟩
  rw [← List.map_set]
  exact h
theorem dictPut_i {i n : Nat} {q : Addr} {u o2 : O} {g : Gam} {E : GEnds} {p : Addr} {xs : List O} {ks : List Int} {ys : List O} {j : Int} (e : g[i]? = some (some (.lst p xs))) (eo : o2.d = .int j) (eq : xs[n]? = some (.dK q (ks.map Sum.inl) ys)) (hl : ys.length = ks.length) (nd : ks.Nodup) (hz : ks.length < sizeLine)
    (h1 : j ∈ ks → ∀ ys', ys'.length = ks.length → E.nx (g.set i (some (.lst p (xs.set n (.dK q (ks.map Sum.inl) ys')))))) (h2 : j ∉ ks → ∀ ys', ys'.length = ks.length + 1 → E.nx (g.set i (some (.lst p (xs.set n (.dK q ((ks ++ [j]).map Sum.inl) ys')))))) : dictPut i n q u o2 g E := by
  unfold dictPut
  rw [e, eo]
  refine ⟨ks.map Sum.inl, ys, eq, ?_, by omega, ?_⟩
  · rw [List.Nodup, List.pairwise_map]
    exact nd.imp fun {a b} h z => h (Sum.inl.inj z)
  · unfold putO
    by_cases m : j ∈ ks
    · have := find_ints (x := j) (ks := ks)
      rw [decide_eq_true m] at this
      obtain ⟨k, ek⟩ := Option.isSome_iff_exists.mp this
      rw [ek]
      exact h1 m _ (by simp [hl])
    · rw [find_new m]
      have := h2 m (ys ++ [.pur u.d]) (by simp [hl])
      rw [List.map_append] at this
      exact this
end G
/-! Knots: the plain law. -/
namespace G
open Classical
def nxts (A : List (List Int)) (x : Int) : List Int := A.getD x.toNat []
inductive Rch (A : List (List Int)) (s : Int) : Int → Prop
  | refl : Rch A s s
  | step {x y : Int} : Rch A s x → y ∈ nxts A x → Rch A s y
theorem Rch.trans {A : List (List Int)} {x y z : Int} (h : Rch A x y) (g : Rch A y z) : Rch A x z := by
  induction g with
  | refl => exact h
  | step _ m ih => exact ih.step m
theorem Rch.one {A : List (List Int)} {x y : Int} (m : y ∈ nxts A x) : Rch A x y := Rch.refl.step m
def ArcsOk (A : List (List Int)) : Prop := ∀ r ∈ A, ∀ x ∈ r, 0 ≤ x ∧ x < A.length
theorem row_rng {A : List (List Int)} (h : ArcsOk A) {x y : Int} (m : y ∈ nxts A x) : 0 ≤ y ∧ y < A.length := by
  unfold nxts at m
  rw [List.getD_eq_getElem?_getD] at m
  cases e : A[x.toNat]? with
  | none => rw [e] at m; cases m
  | some r => rw [e] at m; exact h r (List.mem_of_getElem? e) y m
theorem reach_rng {A : List (List Int)} (h : ArcsOk A) {s x : Int} (hs : 0 ≤ s ∧ s < A.length) (r : Rch A s x) : 0 ≤ x ∧ x < A.length := by
  induction r with
  | refl => exact hs
  | step _ m _ => exact row_rng h m
/-- a lot that is closed has all that is reached -/
theorem reach_in {A : List (List Int)} {s x : Int} {ks : List Int} (hs : s ∈ ks) (hc : ∀ y ∈ ks, ∀ z ∈ nxts A y, z ∈ ks) (r : Rch A s x) : x ∈ ks := by
  induction r with
  | refl => exact hs
  | step _ m ih => exact hc _ ih _ m
def rng (n : Nat) : List Int := (List.range n).map Int.ofNat
theorem mem_rng {n : Nat} {x : Int} : x ∈ rng n ↔ 0 ≤ x ∧ x < n := by
  unfold rng
  constructor
  · intro m
    obtain ⟨i, hi, rfl⟩ := List.mem_map.mp m
    have hi := List.mem_range.mp hi
    have : Int.ofNat i = (i : Int) := rfl
    omega
  · rintro ⟨h1, h2⟩
    exact List.mem_map.mpr ⟨x.toNat, List.mem_range.mpr (by omega), by show ((x.toNat : Nat) : Int) = x; omega⟩
theorem rng_pw (n : Nat) : (rng n).Pairwise (· < ·) := by
  unfold rng
  rw [List.pairwise_map]
  exact List.pairwise_lt_range.imp fun {a b} h => by
    have : Int.ofNat a = (a : Int) := rfl
    have : Int.ofNat b = (b : Int) := rfl
    omega
theorem rng_len' (n : Nat) : (rng n).length = n := by unfold rng; rw [List.length_map, List.length_range]
theorem rng_succ (n : Nat) : rng (n + 1) = rng n ++ [(n : Int)] := by
  unfold rng
  rw [List.range_succ, List.map_append]
  rfl
def samK (A : List (List Int)) (x y : Int) : Prop := Rch A x y ∧ Rch A y x
theorem samK.symm {A : List (List Int)} {x y : Int} (h : samK A x y) : samK A y x := ⟨h.2, h.1⟩
theorem samK.trans {A : List (List Int)} {x y z : Int} (h : samK A x y) (g : samK A y z) : samK A x z := ⟨h.1.trans g.1, g.2.trans h.2⟩
theorem samK.refl {A : List (List Int)} (x : Int) : samK A x x := ⟨.refl, .refl⟩
noncomputable def clsOf (A : List (List Int)) (x : Int) : List Int := (rng A.length).filter fun y => decide (samK A x y)
def isHead (A : List (List Int)) (x : Int) : Prop := ∀ y, 0 ≤ y → y < x → ¬ samK A x y
noncomputable def headsTo (A : List (List Int)) (n : Nat) : List Int := (rng n).filter fun x => decide (isHead A x)
noncomputable def lotsL (A : List (List Int)) : List (List Int) := (headsTo A A.length).map (clsOf A)
theorem mem_cls {A : List (List Int)} {x y : Int} : y ∈ clsOf A x ↔ (0 ≤ y ∧ y < A.length) ∧ samK A x y := by
  unfold clsOf
  rw [List.mem_filter, mem_rng]
  simp
theorem mem_heads {A : List (List Int)} {n : Nat} {x : Int} : x ∈ headsTo A n ↔ (0 ≤ x ∧ x < n) ∧ isHead A x := by
  unfold headsTo
  rw [List.mem_filter, mem_rng]
  simp
theorem cls_pw (A : List (List Int)) (x : Int) : (clsOf A x).Pairwise (· < ·) := (rng_pw _).filter _
theorem cls_eq {A : List (List Int)} {x y : Int} (h : samK A x y) : clsOf A x = clsOf A y := by
  unfold clsOf
  refine List.filter_congr fun z _ => decide_eq_decide.mpr ⟨fun g => h.symm.trans g, fun g => h.trans g⟩
theorem heads_succ (A : List (List Int)) (n : Nat) : headsTo A (n + 1) = headsTo A n ++ (if isHead A (n : Int) then [(n : Int)] else []) := by
  unfold headsTo
  rw [rng_succ, List.filter_append]
  congr 1
  by_cases h : isHead A (n : Int)
  · rw [if_pos h]; simp [h]
  · rw [if_neg h]; simp [h]
/-- each road has the head of its lot -/
theorem head_of {A : List (List Int)} {n : Nat} : ∀ x : Int, 0 ≤ x → x < n → ∃ y, y ∈ headsTo A n ∧ y ≤ x ∧ samK A y x := by
  have key : ∀ k : Nat, ∀ x : Int, x.toNat = k → 0 ≤ x → x < n → ∃ y, y ∈ headsTo A n ∧ y ≤ x ∧ samK A y x := by
    intro k
    induction k using Nat.strongRecOn with
    | _ k ih =>
      intro x ex h0 h1
      by_cases h : isHead A x
      · exact ⟨x, mem_heads.mpr ⟨⟨h0, h1⟩, h⟩, Int.le_refl _, samK.refl x⟩
      · have h2 : ∃ y, 0 ≤ y ∧ y < x ∧ samK A x y := by
          refine Classical.byContradiction fun hn => h fun y y0 y1 s => hn ⟨y, y0, y1, s⟩
        obtain ⟨y, y0, y1, s⟩ := h2
        obtain ⟨z, mz, hz, sz⟩ := ih y.toNat (by omega) y rfl y0 (by omega)
        exact ⟨z, mz, by omega, sz.trans s.symm⟩
  exact fun x => key _ x rfl
theorem mem_lots {A : List (List Int)} {l : List Int} : l ∈ lotsL A ↔ ∃ x, x ∈ headsTo A A.length ∧ l = clsOf A x := by
  unfold lotsL
  rw [List.mem_map]
  exact ⟨fun ⟨x, a, b⟩ => ⟨x, a, b.symm⟩, fun ⟨x, a, b⟩ => ⟨x, a, b.symm⟩⟩
theorem in_lots {A : List (List Int)} {x : Int} (h0 : 0 ≤ x) (h1 : x < A.length) : ∃ l ∈ lotsL A, x ∈ l := by
  obtain ⟨y, my, _, s⟩ := head_of (A := A) x h0 h1
  exact ⟨clsOf A y, mem_lots.mpr ⟨y, my, rfl⟩, mem_cls.mpr ⟨⟨h0, h1⟩, s⟩⟩
theorem lot_same {A : List (List Int)} {l : List Int} (h : l ∈ lotsL A) {x y : Int} (hx : x ∈ l) : y ∈ l ↔ (0 ≤ y ∧ y < A.length) ∧ samK A x y := by
  obtain ⟨z, _, rfl⟩ := mem_lots.mp h
  have s := (mem_cls.mp hx).2
  rw [mem_cls]
  exact and_congr_right fun _ => ⟨fun g => s.symm.trans g, fun g => s.trans g⟩
theorem lots_disj (A : List (List Int)) : (lotsL A).Pairwise fun l m => ∀ x, x ∈ l → x ∉ m := by
  unfold lotsL
  rw [List.pairwise_map]
  have h : (headsTo A A.length).Pairwise (· < ·) := (rng_pw _).filter _
  refine h.imp_of_mem fun {a b} ma mb lt x mx my => ?_
  have s := (mem_cls.mp mx).2.trans (mem_cls.mp my).2.symm
  exact (mem_heads.mp mb).2 a (mem_heads.mp ma).1.1 lt s.symm
theorem flat_nodup : ∀ {L : List (List Int)}, (∀ l ∈ L, l.Nodup) → (L.Pairwise fun l m => ∀ x, x ∈ l → x ∉ m) → L.flatten.Nodup
  | [], _, _ => List.nodup_nil
  | l :: L, h, p => by
    obtain ⟨p1, p2⟩ := List.pairwise_cons.mp p
    rw [List.flatten_cons]
    refine List.nodup_append.mpr ⟨h l List.mem_cons_self, flat_nodup (fun m mm => h m (List.mem_cons_of_mem _ mm)) p2, fun a ma b mb e => ?_⟩
    obtain ⟨m, mm, mb⟩ := List.mem_flatten.mp mb
    exact p1 m mm a ma (e ▸ mb)
theorem lt_nodup {l : List Int} (h : l.Pairwise (· < ·)) : l.Nodup := h.imp fun {a b} q e => by omega
theorem lots_flat (A : List (List Int)) : (lotsL A).flatten.Nodup := flat_nodup (fun l m => by
  obtain ⟨x, _, rfl⟩ := mem_lots.mp m
  exact lt_nodup (cls_pw A x)) (lots_disj A)
theorem lots_len (A : List (List Int)) : (lotsL A).length ≤ A.length := by
  unfold lotsL headsTo
  rw [List.length_map]
  have := List.length_filter_le (fun x => decide (isHead A x)) (rng A.length)
  rw [rng_len'] at this
  exact this
theorem lot_ne {A : List (List Int)} {l : List Int} (h : l ∈ lotsL A) : ∃ x, x ∈ l := by
  obtain ⟨x, mx, rfl⟩ := mem_lots.mp h
  exact ⟨x, mem_cls.mpr ⟨(mem_heads.mp mx).1, samK.refl x⟩⟩
theorem lot_rng {A : List (List Int)} {l : List Int} (h : l ∈ lotsL A) {x : Int} (m : x ∈ l) : 0 ≤ x ∧ x < A.length := by
  obtain ⟨y, _, rfl⟩ := mem_lots.mp h
  exact (mem_cls.mp m).1
/-! ### one after the other -/
noncomputable def pickI (n : Nat) (W : Nat → Nat → Prop) (acc : List Nat) : Option Nat := (List.range n).find? fun j => decide (j ∉ acc ∧ ∀ a, a < n → W a j → a ∈ acc)
noncomputable def ordI (n : Nat) (W : Nat → Nat → Prop) : Nat → List Nat → List Nat
  | 0, acc => acc
  | k + 1, acc => match pickI n W acc with
    | some j => ordI n W k (acc ++ [j])
    | none => acc
theorem pick_is {n : Nat} {W : Nat → Nat → Prop} {acc : List Nat} {j : Nat} (hj : j < n) (h1 : j ∉ acc) (h2 : ∀ a, a < n → W a j → a ∈ acc) (h3 : ∀ i, i < j → ¬ (i ∉ acc ∧ ∀ a, a < n → W a i → a ∈ acc)) : pickI n W acc = some j := by
  unfold pickI
  rw [List.find?_range_eq_some]
  refine ⟨decide_eq_true ⟨h1, h2⟩, List.mem_range.mpr hj, fun i hi => ?_⟩
  simp only [Bool.not_eq_true', decide_eq_false_iff_not]
  exact h3 i hi
theorem pick_there {n : Nat} {W : Nat → Nat → Prop} (μ : Nat → Nat) (hμ : ∀ a j, a < n → j < n → W a j → μ a < μ j) {acc : List Nat} {j : Nat} (hj : j < n) (h : j ∉ acc) : ∃ i, i < n ∧ i ∉ acc ∧ ∀ a, a < n → W a i → a ∈ acc := by
  have key : ∀ k j, μ j = k → j < n → j ∉ acc → ∃ i, i < n ∧ i ∉ acc ∧ ∀ a, a < n → W a i → a ∈ acc := by
    intro k
    induction k using Nat.strongRecOn with
    | _ k ih =>
      intro j ej hj h
      by_cases ha : ∀ a, a < n → W a j → a ∈ acc
      · exact ⟨j, hj, h, ha⟩
      · have : ∃ a, a < n ∧ W a j ∧ a ∉ acc := by
          refine Classical.byContradiction fun hn => ha fun a h1 h2 => Classical.byContradiction fun h3 => hn ⟨a, h1, h2, h3⟩
        obtain ⟨a, a1, a2, a3⟩ := this
        exact ih (μ a) (by rw [← ej]; exact hμ a j a1 hj a2) a rfl a1 a3
  exact key _ j rfl hj h
theorem ord_step {n : Nat} {W : Nat → Nat → Prop} {acc : List Nat} {j k : Nat} (h : pickI n W acc = some j) : ordI n W (k + 1) acc = ordI n W k (acc ++ [j]) := by
  show (match pickI n W acc with
    | some j => ordI n W k (acc ++ [j])
    | none => acc) = _
  rw [h]
theorem pick_prop {n : Nat} {W : Nat → Nat → Prop} {acc : List Nat} {j : Nat} (h : pickI n W acc = some j) : j < n ∧ j ∉ acc := by
  unfold pickI at h
  have h1 := List.find?_some h
  have h2 := List.mem_of_find?_eq_some h
  exact ⟨List.mem_range.mp h2, (of_decide_eq_true h1).1⟩
theorem ord_perm {n : Nat} {W : Nat → Nat → Prop} (μ : Nat → Nat) (hμ : ∀ a j, a < n → j < n → W a j → μ a < μ j) : ∀ (k : Nat) (acc : List Nat), acc.Nodup → (∀ j ∈ acc, j < n) → acc.length + k = n → (ordI n W k acc).Perm (List.range n)
  | 0, acc, nd, lt, hl => by
    show acc.Perm _
    have h1 : acc.length = n := by omega
    refine (List.perm_ext_iff_of_nodup nd List.nodup_range).mpr fun a => ⟨fun m => List.mem_range.mpr (lt a m), fun m => ?_⟩
    refine Classical.byContradiction fun hn => ?_
    have := nodup_sub (a :: acc) (List.range n) (List.nodup_cons.mpr ⟨hn, nd⟩) fun x mx => (List.mem_cons.mp mx).elim (fun e => e ▸ m) fun mx => List.mem_range.mpr (lt x mx)
    rw [List.length_cons, List.length_range] at this
    omega
  | k + 1, acc, nd, lt, hl => by
    have : ∃ j, j < n ∧ j ∉ acc := by
      refine Classical.byContradiction fun hn => ?_
      have := nodup_sub (List.range n) acc List.nodup_range fun x mx => Classical.byContradiction fun h => hn ⟨x, List.mem_range.mp mx, h⟩
      rw [List.length_range] at this
      omega
    obtain ⟨j, hj, hn⟩ := this
    obtain ⟨i, i1, i2, i3⟩ := pick_there μ hμ hj hn
    cases e : pickI n W acc with
    | none =>
      unfold pickI at e
      have := List.find?_eq_none.mp e i (List.mem_range.mpr i1)
      simp only [decide_eq_true_eq] at this
      exact absurd ⟨i2, i3⟩ this
    | some m =>
      rw [ord_step e]
      obtain ⟨m1, m2⟩ := pick_prop e
      exact ord_perm μ hμ k (acc ++ [m]) (List.nodup_append.mpr ⟨nd, by simp, fun a ma b mb q => m2 (by rw [← List.mem_singleton.mp mb, ← q]; exact ma)⟩) (fun x mx => (List.mem_append.mp mx).elim (lt x) fun mx => List.mem_singleton.mp mx ▸ m1) (by simp; omega)
/-! ### followings as arcs -/
/-- for each road the roads to which it follows on -/
def arcsOf (r : Nat) (P : List (Int × Int)) : List (List Int) := (rng r).map fun x => (P.filter fun m => decide (m.1 = x)).map (·.2)
theorem arcs_len (r : Nat) (P : List (Int × Int)) : (arcsOf r P).length = r := by unfold arcsOf; rw [List.length_map, rng_len']
theorem rng_get {r : Nat} {x : Int} (h0 : 0 ≤ x) (h1 : x < r) : (rng r)[x.toNat]? = some x := by
  unfold rng
  rw [List.getElem?_map, List.getElem?_range (by omega)]
  show some ((x.toNat : Nat) : Int) = some x
  congr 1
  omega
theorem arcs_get {r : Nat} {P : List (Int × Int)} {x : Int} (h0 : 0 ≤ x) (h1 : x < r) : (arcsOf r P)[x.toNat]? = some ((P.filter fun m => decide (m.1 = x)).map (·.2)) := by
  unfold arcsOf
  rw [List.getElem?_map, rng_get h0 h1]
  rfl
theorem mem_row {r : Nat} {P : List (Int × Int)} {x y : Int} (h0 : 0 ≤ x) (h1 : x < r) : y ∈ nxts (arcsOf r P) x ↔ (x, y) ∈ P := by
  unfold nxts
  rw [List.getD_eq_getElem?_getD, arcs_get h0 h1]
  show y ∈ (P.filter fun m => decide (m.1 = x)).map (·.2) ↔ _
  rw [List.mem_map]
  constructor
  · rintro ⟨⟨a, b⟩, m, e⟩
    obtain ⟨m1, m2⟩ := List.mem_filter.mp m
    have e1 : a = x := of_decide_eq_true m2
    have e2 : b = y := e
    rw [← e1, ← e2]
    exact m1
  · intro m
    exact ⟨(x, y), List.mem_filter.mpr ⟨m, decide_eq_true rfl⟩, rfl⟩
def rngP (r : Int) (ps : List (Int × Int)) : Prop := ∀ m ∈ ps, 0 ≤ m.1 ∧ m.1 < r ∧ 0 ≤ m.2 ∧ m.2 < r
theorem arcs_ok {r : Nat} {P : List (Int × Int)} (h : rngP r P) : ArcsOk (arcsOf r P) := by
  intro row m y my
  rw [arcs_len]
  unfold arcsOf at m
  obtain ⟨x, _, rfl⟩ := List.mem_map.mp m
  obtain ⟨p, mp, rfl⟩ := List.mem_map.mp my
  obtain ⟨_, _, h3, h4⟩ := h p (List.mem_filter.mp mp).1
  exact ⟨h3, h4⟩
/-- one lot leads to another -/
def Leads (L : List (List Int)) (P : List (Int × Int)) (a j : Nat) : Prop := a ≠ j ∧ ∃ m ∈ P, (∃ l, L[a]? = some l ∧ m.1 ∈ l) ∧ ∃ l, L[j]? = some l ∧ m.2 ∈ l
noncomputable def knotsL (r : Nat) (P : List (Int × Int)) : List (List Int) := (ordI (lotsL (arcsOf r P)).length (Leads (lotsL (arcsOf r P)) P) (lotsL (arcsOf r P)).length []).map fun i => (lotsL (arcsOf r P)).getD i []
/-- how many roads lead to a lot -/
noncomputable def upN (A : List (List Int)) (j : Nat) : Nat := ((rng A.length).filter fun x => decide (∃ l, (lotsL A)[j]? = some l ∧ ∃ y ∈ l, Rch A x y)).length
theorem up_lt {r : Nat} {P : List (Int × Int)} (hP : rngP r P) {a j : Nat} (ha : a < (lotsL (arcsOf r P)).length) (hj : j < (lotsL (arcsOf r P)).length) (h : Leads (lotsL (arcsOf r P)) P a j) : upN (arcsOf r P) a < upN (arcsOf r P) j := by
  obtain ⟨ne, m, mP, ⟨la, ea, ma⟩, lj, ej, mj⟩ := h
  obtain ⟨p1, p2, p3, p4⟩ := hP m mP
  have mla := List.mem_of_getElem? ea
  have mlj := List.mem_of_getElem? ej
  have arc : Rch (arcsOf r P) m.1 m.2 := Rch.one ((mem_row p1 p2).mpr mP)
  have rj := lot_rng mlj mj
  have notBack : ¬ Rch (arcsOf r P) m.2 m.1 := fun z => by
    have s : samK (arcsOf r P) m.1 m.2 := ⟨arc, z⟩
    have m2a : m.2 ∈ la := (lot_same mla ma).mpr ⟨rj, s⟩
    rcases Nat.lt_trichotomy a j with q | q | q
    · have := List.pairwise_iff_getElem.mp (lots_disj (arcsOf r P)) a j ha hj q
      rw [(List.getElem?_eq_some_iff.mp ea).2, (List.getElem?_eq_some_iff.mp ej).2] at this
      exact this _ m2a mj
    · exact ne q
    · have := List.pairwise_iff_getElem.mp (lots_disj (arcsOf r P)) j a hj ha q
      rw [(List.getElem?_eq_some_iff.mp ea).2, (List.getElem?_eq_some_iff.mp ej).2] at this
      exact this _ mj m2a
  unfold upN
  have nd : ∀ p : Int → Bool, ((rng (arcsOf r P).length).filter p).Nodup := fun p => lt_nodup ((rng_pw _).filter _)
  have hsub := nodup_sub (m.2 :: (rng (arcsOf r P).length).filter fun x => decide (∃ l, (lotsL (arcsOf r P))[a]? = some l ∧ ∃ y ∈ l, Rch (arcsOf r P) x y))
    ((rng (arcsOf r P).length).filter fun x => decide (∃ l, (lotsL (arcsOf r P))[j]? = some l ∧ ∃ y ∈ l, Rch (arcsOf r P) x y)) (List.nodup_cons.mpr ⟨fun z => ?_, nd _⟩) fun x mx => ?_
  · rw [List.length_cons] at hsub
    omega
  · obtain ⟨l, el, y, my, ry⟩ := of_decide_eq_true (List.mem_filter.mp z).2
    rw [ea] at el
    cases el
    exact notBack (ry.trans ((lot_same mla my).mp ma).2.1)
  · rcases List.mem_cons.mp mx with rfl | mx
    · exact List.mem_filter.mpr ⟨mem_rng.mpr rj, decide_eq_true ⟨lj, ej, m.2, mj, .refl⟩⟩
    · obtain ⟨m1, m2⟩ := List.mem_filter.mp mx
      obtain ⟨l, el, y, my, ry⟩ := of_decide_eq_true m2
      rw [ea] at el
      cases el
      exact List.mem_filter.mpr ⟨m1, decide_eq_true ⟨lj, ej, m.2, mj, ry.trans (((lot_same mla my).mp ma).2.1.trans arc)⟩⟩
theorem map_getD_range {α : Type} (L : List α) (d : α) : (List.range L.length).map (fun i => L.getD i d) = L := by
  apply List.ext_getElem?
  intro i
  rw [List.getElem?_map]
  by_cases h : i < L.length
  · rw [List.getElem?_range h, List.getElem?_eq_getElem h]
    show some (L.getD i d) = _
    rw [List.getD_eq_getElem?_getD, List.getElem?_eq_getElem h]
    rfl
  · rw [List.getElem?_eq_none (by rw [List.length_range]; omega), List.getElem?_eq_none (by omega)]
    rfl
theorem knots_perm {r : Nat} {P : List (Int × Int)} (hP : rngP r P) : (knotsL r P).Perm (lotsL (arcsOf r P)) := by
  have h := ord_perm (upN (arcsOf r P)) (fun a j ha hj w => up_lt hP ha hj w) (lotsL (arcsOf r P)).length [] List.nodup_nil (fun j m => nomatch m) (by simp)
  have h2 := h.map fun i => (lotsL (arcsOf r P)).getD i []
  rw [map_getD_range] at h2
  exact h2
end G
/-! G: reading own dicts with int keys. -/
namespace G
open PySem PySem.Spec PyProof.Rows L2
theorem find_at {x : Int} : ∀ {ks : List Int} {j : Nat}, ks.Nodup → ks[j]? = some x → findK (ks.map (Sum.inl : Int → Key)) (Sum.inl x) = some j
  | [], _, _, e => by simp at e
  | y :: ks, 0, nd, e => by
    have e' : y = x := by simpa using e
    subst e'
    rw [List.map_cons, findK_cons, if_pos rfl]
  | y :: ks, j + 1, nd, e => by
    have e' : ks[j]? = some x := by simpa using e
    obtain ⟨n1, n2⟩ := List.nodup_cons.mp nd
    have ne : ¬ (Sum.inl y : Key) = Sum.inl x := fun z => n1 (Sum.inl.inj z ▸ List.mem_of_getElem? e')
    rw [List.map_cons, findK_cons, if_neg ne, find_at n2 e']
    rfl
theorem inl_nodup {ks : List Int} (nd : ks.Nodup) : (ks.map (Sum.inl : Int → Key)).Nodup := by
  rw [List.Nodup, List.pairwise_map]
  exact nd.imp fun {a b} h z => h (Sum.inl.inj z)
theorem dput_n {i : Nat} {we : WE} {We : Wsh} {E : GEnds} {u : O} {g : Gam} {p : Addr} {ks : List Int} {xs : List O} {x : Int} (e : g[i]? = some (some (.dK p (ks.map Sum.inl) xs))) (hi : ∀ Q : O → Gam → Prop, Q (.pur (.int x)) g → we We g Q) (nd : ks.Nodup) (hl : xs.length = ks.length) (hz : ks.length < sizeLine)
    (h1 : x ∈ ks → ∀ j, E.nx (g.set i (some (.dK p (ks.map Sum.inl) (xs.set j (.pur u.d)))))) (h2 : x ∉ ks → E.nx (g.set i (some (.dK p ((ks ++ [x]).map Sum.inl) (xs ++ [.pur u.d]))))) : dput i we We E u g := by
  unfold dput
  refine ⟨by unfold isDK; rw [e]; trivial, hi _ ?_⟩
  have e2 : (O.pur (.int x)).d.key = some (.inl x) := rfl
  simp only [e, e2]
  refine ⟨inl_nodup nd, by omega, ?_⟩
  unfold putO
  by_cases m : x ∈ ks
  · obtain ⟨j, hj⟩ := List.getElem?_of_mem m
    rw [find_at nd hj]
    exact h1 m j
  · rw [find_new m]
    have := h2 m
    rw [List.map_append] at this
    exact this
theorem dget_n {i : Nat} {we : WE} {We : Wsh} {g : Gam} {P : O → Gam → Prop} {p : Addr} {ks : List Int} {xs : List O} {x : Int} {j : Nat} {d : D} (e : g[i]? = some (some (.dK p (ks.map Sum.inl) xs))) (hi : ∀ Q : O → Gam → Prop, Q (.pur (.int x)) g → we We g Q) (nd : ks.Nodup) (ej : ks[j]? = some x) (ed : xs[j]? = some (.pur d)) (h : P (.pur d) g) : wDGetO i we We g P :=
  dget_i (dk := .int x) hi rfl e (find_at nd ej) ed h
section
variable {X : Cx} {W : WX}
def wDNewK : WE := fun _ g P => ∀ p, P (.dK p [] []) g
theorem ge_dnew {pos : Pos} : GE X W (.Dict [] [] pos) tDNewK wDNewK := by
  refine ⟨pe_dnewK, fun b h σ g We P Q k hw hx ct => fun p hp => ?_⟩
  exact fin k (Frm.refl g b h) (Res.own1 (ob := .dK []) (o := .dK p [] []) k.sub hp ⟨rfl, [], upd_same, rfl, rfl⟩ (by simp [foot, footL])) ct (hw p)
end
theorem tupDL_ints : ∀ ns : List Int, tupDL (ns.map D.int) = true
  | [] => rfl
  | n :: ns => by
    show (true && tupDL (ns.map D.int)) = true
    rw [tupDL_ints ns]
    rfl
theorem tupDL_bls : ∀ ns : List Bool, tupDL (ns.map D.bl) = true
  | [] => rfl
  | n :: ns => by
    show (true && tupDL (ns.map D.bl)) = true
    rw [tupDL_bls ns]
    rfl
theorem arcs_app {r : Nat} {Q : List (Int × Int)} {a b : Int} (h0 : 0 ≤ a) (h1 : a < r) : ∃ old, (arcsOf r Q)[a.toNat]? = some old ∧ arcsOf r (Q ++ [(a, b)]) = (arcsOf r Q).set a.toNat (old ++ [b]) := by
  refine ⟨_, arcs_get h0 h1, ?_⟩
  apply List.ext_getElem?
  intro i
  by_cases hi : i < r
  · have h2 : 0 ≤ (i : Int) ∧ (i : Int) < r := by omega
    have e1 := arcs_get (r := r) (P := Q ++ [(a, b)]) h2.1 h2.2
    have e2 := arcs_get (r := r) (P := Q) h2.1 h2.2
    have ei : ((i : Int)).toNat = i := by omega
    rw [ei] at e1 e2
    rw [e1, List.filter_append, List.map_append]
    by_cases ha : a.toNat = i
    · have : a = (i : Int) := by omega
      subst this
      rw [ha, List.getElem?_set_self (by rw [arcs_len]; exact hi)]
      simp
    · rw [List.getElem?_set_ne ha, e2]
      have : ¬ a = (i : Int) := by omega
      simp [this]
  · rw [List.getElem?_eq_none (by rw [arcs_len]; omega), List.getElem?_eq_none (by rw [List.length_set, arcs_len]; omega)]
end G
/-! G: a walk over an own list that stays own; lists of ints compared; tables of flags. -/
namespace G
open PySem PySem.Spec PyProof.Rows L2
open Evl (Ex)
section
variable {X : Cx} {W : WX}
def ownAt (g : Gam) (i : Nat) (p : Addr) (ds : List D) : Prop := g[i]? = some (some (.lst p (ds.map .pur)))
@[irreducible] def wForO (i : Nat) (wg : WG) (wb : WS) : WS := fun We E g => ∃ (p : Addr) (ds : List D), ownAt g i p ds ∧ ∃ I : Nat → Gam → Prop, I 0 g ∧
  (∀ n d g2, ds[n]? = some d → I n g2 → ownAt g2 i p ds ∧ wg d g2 fun g3 => wb We { E with nx := I (n + 1), ct := I (n + 1), bk := E.nx } g3) ∧ ∀ g2, I ds.length g2 → ownAt g2 i p ds ∧ E.nx g2
theorem forO_i {i : Nat} {wg : WG} {wb : WS} {We : Wsh} {E : GEnds} {g : Gam} {p : Addr} {ds : List D} (I : Nat → Gam → Prop) (e : ownAt g i p ds) (h0 : I 0 g)
    (hs : ∀ n d g2, ds[n]? = some d → I n g2 → ownAt g2 i p ds ∧ wg d g2 fun g3 => wb We { E with nx := I (n + 1), ct := I (n + 1), bk := E.nx } g3) (hd : ∀ g2, I ds.length g2 → ownAt g2 i p ds ∧ E.nx g2) : wForO i wg wb We E g := by
  unfold wForO
  exact ⟨p, ds, e, I, h0, hs, hd⟩
theorem gs_forO {tg : Expr} {x : Str} {i : Nat} {body : List Stmt} {tg' : TG} {wg : WG} {wb : WS} {px pos : Pos} (hp : PassesOwn (model X.prog X.w) X.A X.env X.xe) (hc : X.calm = true) (hg : GG X tg tg' wg) (hb : GSs X W body wb)
    (hN : X.N[i]? = some x := by rfl) (hv : Vis X.env.scope x := by first | exact Or.inl rfl | exact Or.inr (Or.inl rfl) | exact Or.inr (Or.inr rfl))
    (hd : (x == ("__debug__" : Str)) = false := by decide) (hcd : (x == ("__classdict__" : Str)) = false := by decide) (hs : ∀ u, foldedSetIterable (.Name x px) X.env u = pure u := by intro _; rfl) {K : PySem.W.Frag} (hK : X.K = K := by exact rfl) : GS X W (.For tg (.Name x px) body [] pos) (wForO i wg wb) := by
  subst hK
  obtain ⟨pg, qg⟩ := hg
  obtain ⟨tb, pb, qb⟩ := hb.ex
  refine ⟨tFor (iList X.K (tVar i)) tg' tb, ps_for hp hc (pi_list (pe_var hN hv hd hcd)) pg pb hs, fun b h σ g We E D k hw hx ct => ?_⟩
  unfold wForO at hw
  obtain ⟨p, ds, e0, I, i0, hstep, hend⟩ := hw
  obtain ⟨v0, ev0, ev1, vs0, hp0, z0⟩ := k.sl i _ e0
  subst ev1
  refine ⟨_, ev0, p, rfl, ⟨vs0, SqL.of hp0⟩, ?_⟩
  refine ⟨fun n m σ' h' => m = ds.length - n ∧ n ≤ ds.length ∧ ∃ b' g', Hold X.K b' h' σ' g' ∧ Frm g b h g' b' h' ∧ I n g', ⟨ds.length, by simp, Nat.zero_le _, b, g, k, Frm.refl g b h, i0⟩, ?_⟩
  rintro n m σ' h' ⟨rfl, hn, b', g', k', f', pI⟩
  by_cases hlt : n < ds.length
  · obtain ⟨eo, hst⟩ := hstep n ds[n] g' (by simp [hlt]) pI
    obtain ⟨v1, ev2, ev3, vs, hp1, z1⟩ := k'.sl i _ eo
    have zd : denL X.K b' ds vs := denL_ofOwn (p := p) z1
    obtain ⟨v, ev, zv⟩ := denL_at zd (show ds[n]? = some ds[n] by simp [hlt])
    refine .inr ⟨⟨vs, v, SqL.of hp1, ev⟩, fun σ4 h4 => n + 1 ≤ ds.length ∧ ∃ b' g', Hold X.K b' h4 σ4 g' ∧ Frm g b h g' b' h4 ∧ I (n + 1) g', fun σ4 h4 z => ⟨ds.length - (n + 1), by omega, rfl, z.1, z.2⟩, fun x h2 yl => ?_⟩
    obtain ⟨e4, e5⟩ := yl
    subst e4
    have e6 := e5 vs (SqL.of hp1)
    rw [ev] at e6
    cases e6
    refine qg b' _ σ' g' ds[n] v _ _ k' zv hst fun σ5 b5 h5 g5 k5 f5 p5 => ?_
    have f6 := f'.trans f5
    exact qb b5 h5 σ5 g5 We _ _ k5 p5 (hx.step f6) ⟨fun σ7 b7 h7 g7 k7 f7 p7 => ⟨hlt, b7, g7, k7, f6.trans f7, p7⟩, fun σ7 b7 h7 g7 k7 f7 p7 => ct.nx σ7 b7 h7 g7 k7 (f6.trans f7) p7,
      fun σ7 b7 h7 g7 k7 f7 p7 => ⟨hlt, b7, g7, k7, f6.trans f7, p7⟩, fun σ7 v b7 h7 g7 o k7 f7 p7 => ct.rt σ7 v b7 h7 g7 o k7 (f6.trans f7) p7⟩
  · have e : n = ds.length := by omega
    subst e
    obtain ⟨eo, hst⟩ := hend g' pI
    obtain ⟨v1, ev2, ev3, vs, hp1, z1⟩ := k'.sl i _ eo
    refine .inl ⟨⟨vs, SqL.of hp1, ?_⟩, ct.nx σ' b' h' g' k' f' hst⟩
    have := ownL_len z1
    rw [List.length_map] at this
    omega
end
@[irreducible] def rcSortT : RC1 := rcSortL
theorem cg_sortT {X : Cx} (hu : X.A.units + 16 < cLine) {K : PySem.W.Frag} (hK : X.K = K := by exact rfl) : CallG X (.builtin "sorted") (TQ.rSortL K) rcSortT := by
  have h : CallG X (.builtin "sorted") (TQ.rSortL K) rcSortL := cg_sortL hu hK
  exact ⟨h.pe, fun b hh xs ds P Q s z hp c => h.se b hh xs ds P Q s z (by unfold rcSortT at hp; exact hp) c⟩
theorem sortT_i {p : Addr} {ks : List (List Int)} {P : O → Prop} (ne : ∀ k ∈ ks, k ≠ []) (h : ∀ q, P (.lst q (((sortW ks).map tupI).map .pur))) : rcSortT [(O.lst p ((ks.map tupI).map .pur)).d] P := by
  unfold rcSortT
  exact sortL_i ne h
theorem setAtO_i {i : Nat} {u o : O} {g : Gam} {E : GEnds} {p : Addr} {xs : List O} {j : Int} (e : g[i]? = some (some (.lst p xs))) (eo : o.d = .int j) (h0 : 0 ≤ j) (h1 : j < xs.length) (h : E.nx (g.set i (some (.lst p (xs.set j.toNat u))))) : setAtO i u o g E := by
  unfold setAtO
  rw [e, eo]
  have hl : j.toNat < xs.length := by omega
  exact ⟨j.toNat, xs[j.toNat], ixN_of h0 h1, List.getElem?_eq_getElem hl, h⟩
theorem shaped_li (k : List Int) : SeqAt.shaped (.list (k.map .int)) = true := shaped_tup k
theorem eq_li {neg : Bool} {k m : List Int} {P : O → Prop} (h : P (.pur (.bl (if neg then !decide (k = m) else decide (k = m))))) : roEq neg (.lst (k.map .int)) (.lst (m.map .int)) P := by
  unfold roEq
  have e : ∀ ks : List Int, D.py (.lst (ks.map .int)) = some (.list (ks.map .int)) := fun ks => by
    show (pyL (ks.map D.int)).map PyData.list = _
    rw [pyL_ints]
    rfl
  rw [e, e]
  refine ⟨shaped_li k, shaped_li m, ?_⟩
  show P (.pur (.bl (if neg then !PyData.eqvAll (k.map .int) (m.map .int) else PyData.eqvAll (k.map .int) (m.map .int))))
  rw [eqv_ints]
  exact h
theorem map_set_rng {α : Type} {r : Nat} {f f' : Int → α} {a : Int} (h0 : 0 ≤ a) (h1 : a < r) (h : ∀ x, x ≠ a → f x = f' x) : ((rng r).map f).set a.toNat (f' a) = (rng r).map f' := by
  apply List.ext_getElem?
  intro i
  by_cases hi : i < r
  · have e : ∀ q : Int → α, ((rng r).map q)[i]? = some (q i) := fun q => by
      have := rng_get (r := r) (x := (i : Int)) (by omega) (by omega)
      rw [Int.toNat_natCast] at this
      rw [List.getElem?_map, this]
      rfl
    by_cases ea : a.toNat = i
    · have : a = (i : Int) := by omega
      subst this
      rw [Int.toNat_natCast, List.getElem?_set_self (by rw [List.length_map, rng_len']; exact hi), e]
    · rw [List.getElem?_set_ne ea, e, e, h _ (by omega)]
  · rw [List.getElem?_eq_none (by rw [List.length_set, List.length_map, rng_len']; omega), List.getElem?_eq_none (by rw [List.length_map, rng_len']; omega)]
theorem rng_at' {α : Type} {r : Nat} {f : Int → α} {a : Int} (h0 : 0 ≤ a) (h1 : a < r) : ((rng r).map f)[a.toNat]? = some (f a) := by
  rw [List.getElem?_map, rng_get h0 h1]
  rfl
open Classical in
/-- a row of flags -/
noncomputable def rowQ (r : Nat) (Q : Int → Int → Prop) (x : Int) : List D := (rng r).map fun y => .bl (decide (Q x y))
noncomputable def tabQ (r : Nat) (Q : Int → Int → Prop) : List (List D) := (rng r).map (rowQ r Q)
theorem rowQ_len (r : Nat) (Q : Int → Int → Prop) (x : Int) : (rowQ r Q x).length = r := by unfold rowQ; rw [List.length_map, rng_len']
theorem tabQ_len (r : Nat) (Q : Int → Int → Prop) : (tabQ r Q).length = r := by unfold tabQ; rw [List.length_map, rng_len']
theorem tabQ_at {r : Nat} {Q : Int → Int → Prop} {x : Int} (h0 : 0 ≤ x) (h1 : x < r) : (tabQ r Q)[x.toNat]? = some (rowQ r Q x) := rng_at' h0 h1
open Classical in
theorem rowQ_at {r : Nat} {Q : Int → Int → Prop} {x y : Int} (h0 : 0 ≤ y) (h1 : y < r) : (rowQ r Q x)[y.toNat]? = some (.bl (decide (Q x y))) := rng_at' h0 h1
theorem rowQ_congr {r : Nat} {Q Q' : Int → Int → Prop} {x : Int} (h : ∀ y : Int, 0 ≤ y → y < r → (Q x y ↔ Q' x y)) : rowQ r Q x = rowQ r Q' x := by
  unfold rowQ
  refine List.map_congr_left fun y m => ?_
  obtain ⟨h0, h1⟩ := mem_rng.mp m
  exact congrArg D.bl (decide_eq_decide.mpr (h y h0 h1))
theorem tabQ_congr {r : Nat} {Q Q' : Int → Int → Prop} (h : ∀ x y : Int, 0 ≤ x → x < r → 0 ≤ y → y < r → (Q x y ↔ Q' x y)) : tabQ r Q = tabQ r Q' := by
  unfold tabQ
  refine List.map_congr_left fun x m => ?_
  obtain ⟨h0, h1⟩ := mem_rng.mp m
  exact rowQ_congr fun y => h x y h0 h1
/-- one row anew -/
theorem tabQ_set {r : Nat} {Q Q' : Int → Int → Prop} {a : Int} (h0 : 0 ≤ a) (h1 : a < r) (h : ∀ x y : Int, x ≠ a → 0 ≤ y → y < r → (Q x y ↔ Q' x y)) : (tabQ r Q).set a.toNat (rowQ r Q' a) = tabQ r Q' :=
  map_set_rng h0 h1 fun x ne => rowQ_congr fun y y0 y1 => h x y ne y0 y1
theorem rowQ_set {r : Nat} {Q Q' : Int → Int → Prop} {a b : Int} (h0 : 0 ≤ b) (h1 : b < r) (hb : Q' a b) (h : ∀ y, y ≠ b → (Q a y ↔ Q' a y)) : (rowQ r Q a).set b.toNat (.bl true) = rowQ r Q' a := by
  have e := map_set_rng (r := r) (f := fun y => D.bl (@decide (Q a y) (Classical.propDecidable _))) (f' := fun y => D.bl (@decide (Q' a y) (Classical.propDecidable _))) h0 h1 fun y ne => congrArg D.bl (decide_eq_decide.mpr (h y ne))
  have e2 : D.bl (@decide (Q' a b) (Classical.propDecidable _)) = .bl true := congrArg D.bl (@decide_eq_true _ (Classical.propDecidable _) hb)
  rw [e2] at e
  exact e
/-! ### ways by lesser and lesser roads -/
def Rm (P : List (Int × Int)) : Nat → Int → Int → Prop
  | 0, x, y => x = y ∨ (x, y) ∈ P
  | m + 1, x, y => Rm P m x y ∨ (Rm P m x (m : Nat) ∧ Rm P m (m : Nat) y)
theorem Rm_up {P : List (Int × Int)} {m : Nat} {x y : Int} (h : Rm P m x y) : ∀ k, m ≤ k → Rm P k x y
  | 0, hk => by
    have : m = 0 := by omega
    subst this
    exact h
  | k + 1, hk => by
    by_cases e : m = k + 1
    · subst e; exact h
    · exact .inl (Rm_up h k (by omega))
theorem Rm_trans {P : List (Int × Int)} : ∀ (m : Nat) {x y z : Int}, 0 ≤ z → z < m → Rm P m x z → Rm P m z y → Rm P m x y
  | 0, _, _, _, _, h, _, _ => by omega
  | m + 1, x, y, z, h0, h1, a, c => by
    by_cases e : z = (m : Int)
    · subst e
      have a' : Rm P m x (m : Nat) := a.elim id fun q => q.1
      have c' : Rm P m (m : Nat) y := c.elim id fun q => q.2
      exact .inr ⟨a', c'⟩
    · have hz : z < m := by omega
      rcases a with a | ⟨a1, a2⟩
      · rcases c with c | ⟨c1, c2⟩
        · exact .inl (Rm_trans m h0 hz a c)
        · exact .inr ⟨Rm_trans m h0 hz a c1, c2⟩
      · rcases c with c | ⟨c1, c2⟩
        · exact .inr ⟨a1, Rm_trans m h0 hz a2 c⟩
        · exact .inr ⟨a1, c2⟩
theorem Rm_rch {r : Nat} {P : List (Int × Int)} (hP : rngP r P) : ∀ (m : Nat) {x y : Int}, m ≤ r → 0 ≤ x → x < r → Rm P m x y → Rch (arcsOf r P) x y
  | 0, x, y, _, h0, h1, h => by
    rcases h with rfl | h
    · exact .refl
    · exact Rch.one ((mem_row h0 h1).mpr h)
  | m + 1, x, y, hm, h0, h1, h => by
    rcases h with h | ⟨a, c⟩
    · exact Rm_rch hP m (by omega) h0 h1 h
    · exact (Rm_rch hP m (by omega) h0 h1 a).trans (Rm_rch hP m (by omega) (by omega) (by omega) c)
theorem rch_Rm {r : Nat} {P : List (Int × Int)} (hP : rngP r P) {x y : Int} (h0 : 0 ≤ x) (h1 : x < r) (h : Rch (arcsOf r P) x y) : Rm P r x y := by
  induction h with
  | refl => exact Rm_up (m := 0) (.inl rfl) r (Nat.zero_le _)
  | @step u v g m ih =>
    have ru := reach_rng (arcs_ok hP) (s := x) (by rw [arcs_len]; exact ⟨h0, h1⟩) g
    rw [arcs_len] at ru
    have mp := (mem_row ru.1 ru.2).mp m
    exact Rm_trans r ru.1 ru.2 ih (Rm_up (m := 0) (.inr mp) r (Nat.zero_le _))
theorem Rm_iff {r : Nat} {P : List (Int × Int)} (hP : rngP r P) {x y : Int} (h0 : 0 ≤ x) (h1 : x < r) : Rm P r x y ↔ Rch (arcsOf r P) x y := ⟨Rm_rch hP r (Nat.le_refl _) h0 h1, rch_Rm hP h0 h1⟩
end G
/-! G: a name set to a list made by looking; ints in tuples. -/
namespace G
open PySem PySem.Spec PyProof.Rows L2
section
variable {X : Cx} {W : WX}
theorem gs_setLcP {i : Nat} {y : Str} {py : Pos} {elt tg iter : Expr} {ifs : List Expr} {scope : Scope} {own : List (Str × Nat)} {ts : List Nat} {pos spos : Pos} {ti : TI} {tg' : TG} {tt : TT} {te : TE} {wi : WI} {wg : WG} {wt : WT} {we : WE} (hc : X.calm = true) (hN : X.N.Nodup)
    (hi : GI X W tg iter ti wi) (ok : BlkOk X.N X.env.scope scope own)
    (hg : ∀ (s : Shared) (H : Hp) (C : Addr) (cl : List (Str × Addr)) (fp : List Addr), GB (X.blk s H scope (compEnvC scope cl C X.env) fp) tg ts tg' wg)
    (ht : ∀ (s : Shared) (H : Hp) (C : Addr) (cl : List (Str × Addr)) (fp : List Addr), GTs (X.blk s H scope (compEnvC scope cl C X.env) fp) W0 ifs tt wt)
    (he : ∀ (s : Shared) (H : Hp) (C : Addr) (cl : List (Str × Addr)) (fp : List Addr), GE (X.blk s H scope (compEnvC scope cl C X.env) fp) W0 elt te we)
    (hsw : swapsWith (.ListComp elt [⟨tg, iter, ifs, 0⟩] scope pos) (some (.Name y py)) spos.line X.env = pure true) (hy : X.N[i]? = some y := by rfl) (hyl : X.env.scope.names.lookup y = some .local := by rfl)
    (hts : ∀ i ∈ ts, i ∈ own.map (·.2) := by decide) (hs : ∀ x, foldedSetIterable iter X.env x = pure x := by intro _; rfl) :
    GS X W (.Assign [.Name y py] (.ListComp elt [⟨tg, iter, ifs, 0⟩] scope pos) spos) (wSet i (wPeek2 (wLc wi wg wt we (own.map (·.2))))) := by
  refine ⟨tAsg (tLc ti tg' tt te (own.map (·.2))) (gName i), ps_setLc hc hN hy hyl hsw hi.pe ok (fun s H C cl fp => (hg s H C cl fp).pe) (fun s H C cl fp => (ht s H C cl fp).pe) (fun s H C cl fp => (he s H C cl fp).pe) hs, fun b h σ g We E D k hw hx ct => ?_⟩
  refine (ge_peek2 (ge_lc (pos := pos) hc hN hi ok hg ht he hts hs)).se b h σ g We _ _ k hw hx fun v b' h' g' o k' f' p' => ?_
  obtain ⟨k2, s2⟩ := k'.put i
  exact ct.nx _ b' h' _ k2 (f'.sub s2) p'
end
theorem in_tupI {neg : Bool} {x : Int} {ns : List Int} {P : O → Prop} (h : P (.pur (.bl (if neg then !decide (x ∈ ns) else decide (x ∈ ns))))) : roIn neg (.int x) (.tup (ns.map .int)) P := by
  unfold roIn
  show (match (D.int x).fl, flL (ns.map .int) with
    | some v, some vs => P (.pur (.bl (if neg then !inV v vs else inV v vs)))
    | _, _ => False)
  rw [flL_ints ns]
  show P (.pur (.bl (if neg then !inV (.int x) (ns.map .int) else inV (.int x) (ns.map .int))))
  rw [inV_ints]
  exact h
end G
/-! G: x.remove(t), tuples of ints. -/
namespace G
open PySem PySem.Spec PyProof.Rows L2
open Evl (Ex)
def rRemW (K : PySem.W.Frag) : V → List V → Hp → VK → Prop := fun x vs H Q => ∃ (l : Addr) (us : List V) (y : V) (d : PyData) (ds : List PyData) (j : Nat), x = .ref l ∧ vs = [y] ∧ H l = some (.lst us) ∧ DpAll K H us ds ∧ Dp K H y d ∧ SeqAt.shaped d = true ∧ SeqAt.shaped (.list ds) = true ∧ SeqAt.dataPlace ds d = some j ∧ Q .non (upd H l (.lst (us.eraseIdx j)))
theorem mt_remW {X : Cx} (hu : X.A.units + 65 < cLine) : MtR X "list.remove" (rRemW X.K) := by
  intro pins s σ H x xs v us Q I rx rxs h
  obtain ⟨l, ws, y, d, ds, j, rfl, rfl, hH, hds, hy, sd, sl, hp, q⟩ := h
  cases rx
  cases rxs with
  | cons ry rt =>
    rename_i uy ut
    cases rt
    obtain ⟨bs, r1⟩ := Dp.reads I d y uy hy ry
    have hxs : PyData.canLayAll0 ds = true := SeqAt.canLay_of_shaped sl
    have hroom : X.A.units + 1 + min (PyData.depthAll ds) d.depth < cLine := room_in_shaped sd hu
    obtain ⟨z, its, n, r, hl, e⟩ := I.lstM hH
    obtain ⟨as, h4⟩ := Dp.readsAll I ds _ its hds r
    refine SeqAt.remove_list_data (vs := its.toArray) (xs := ds) (d := d) (j := j) ⟨_, e, rfl, n, rfl⟩ (show ReadsAll s.heap its.toArray.toList ds as from h4) r1 (PyData.plainAll_of_canLay0 ds hxs) (PyData.plain_of_canLay0 d (SeqAt.canLay_of_shaped sd)) hroom hp (by rw [List.size_toArray]; omega) ?_
    refine ⟨.non, _, I.lset (its' := its.eraseIdx j) hH e ?_ (r.eraseIdx j) ?_, rfl, q⟩
    · show its.toArray.eraseIdxIfInBounds j = (its.eraseIdx j).toArray
      rw [List.eraseIdxIfInBounds_toArray]
    · have := List.length_eraseIdx_le ws j
      omega
theorem dpAll_own {K : PySem.W.Frag} {b b1 h : Hp} (s : Ex b h) : ∀ {ks : List (List Int)} {vs : List V}, ownL K b b1 ((ks.map tupI).map .pur) vs → DpAll K h vs (ks.map encW)
  | [], _, z => by have z' : _ = ([] : List V) := z; subst z'; exact .nil
  | k :: ks, _, ⟨v, r, e, z, t⟩ => by subst e; exact .cons (dp_tup s z) (dpAll_own s t)
theorem place_tup (k : List Int) : ∀ ks : List (List Int), k ∈ ks → SeqAt.dataPlace (ks.map encW) (encW k) = some (ks.idxOf k)
  | [], m => by simp at m
  | x :: ks, m => by
    show (List.findIdx? (fun y => PyData.eqv y (encW k)) (encW x :: ks.map encW)) = _
    rw [List.findIdx?_cons, eqv_tup, List.idxOf_cons]
    by_cases h : x = k
    · subst h
      simp
    · have m2 : k ∈ ks := (List.mem_cons.mp m).resolve_left fun e => h e.symm
      have e := place_tup k ks m2
      unfold SeqAt.dataPlace at e
      rw [e, Option.map_some]
      have hb : (x == k) = false := by simpa using h
      rw [hb]
      simp [h]
theorem footL_purs : ∀ ds : List D, footL (ds.map .pur) = []
  | [] => rfl
  | d :: ds => by show foot (.pur d) ++ footL (ds.map .pur) = []; rw [footL_purs ds]; rfl
theorem map_eraseIdx {α β : Type} (f : α → β) : ∀ (xs : List α) (j : Nat), (xs.map f).eraseIdx j = (xs.eraseIdx j).map f
  | [], _ => rfl
  | x :: xs, 0 => rfl
  | x :: xs, j + 1 => by
    show f x :: (xs.map f).eraseIdx j = f x :: (xs.eraseIdx j).map f
    rw [map_eraseIdx f xs j]
theorem erase_idx (k : List Int) : ∀ ks : List (List Int), k ∈ ks → ks.eraseIdx (ks.idxOf k) = ks.erase k
  | [], m => by simp at m
  | x :: ks, m => by
    by_cases h : x = k
    · subst h
      simp
    · have m2 : k ∈ ks := (List.mem_cons.mp m).resolve_left fun e => h e.symm
      have hb : (x == k) = false := by simpa using h
      rw [List.idxOf_cons, List.erase_cons, hb]
      show x :: ks.eraseIdx (ks.idxOf k) = x :: ks.erase k
      rw [erase_idx k ks m2]
@[irreducible] def remAt (i : Nat) (o : O) (g1 : Gam) (E : GEnds) : Prop := ∃ (p : Addr) (ks : List (List Int)) (k : List Int), g1[i]? = some (some (.lst p ((ks.map tupI).map .pur))) ∧ o.d = tupI k ∧ k ∈ ks ∧ E.nx (g1.set i (some (.lst p (((ks.erase k).map tupI).map .pur))))
def wRem (i : Nat) (we : WE) : WS := fun We E g => isLst g[i]? ∧ we We g fun o g1 => remAt i o g1 E
theorem rem_i {i : Nat} {o : O} {g1 : Gam} {E : GEnds} {p : Addr} {ks : List (List Int)} {k : List Int} (e : g1[i]? = some (some (.lst p ((ks.map tupI).map .pur)))) (eo : o.d = tupI k) (m : k ∈ ks) (h : E.nx (g1.set i (some (.lst p (((ks.erase k).map tupI).map .pur))))) : remAt i o g1 E := by
  unfold remAt
  exact ⟨p, ks, k, e, eo, m, h⟩
section
variable {X : Cx} {W : WX} {i : Nat} {x : Str} {e : Expr} {te : TE} {we : WE}
theorem gs_rem {p apos cpos pos : Pos} (hu : X.A.units + 65 < cLine) (he : GE X W e te we) (hN : X.N[i]? = some x := by rfl) (hv : Vis X.env.scope x := by first | exact Or.inl rfl | exact Or.inr (Or.inl rfl) | exact Or.inr (Or.inr rfl))
    (hd : (x == ("__debug__" : Str)) = false := by decide) (hcd : (x == ("__classdict__" : Str)) = false := by decide)
    (hbase : attributeBase (.Name x p) "remove" X.env (eval (.Name x p) X.env) = eval (.Name x p) X.env := by rfl)
    (hfew : ((backTo cpos (starEach [e] X.env)).all (fun x => !x.1) && (backToKw cpos (keywordEach [] X.env)).all (fun x => x.1.isSome)
      && decide (([e] : List Expr).length + ([] : List Keyword).length + (if ([] : List Keyword).isEmpty then 0 else 1) < 30)) = true := by rfl)
    (hline : (apos.endLine == cpos.line) = true := by rfl) (hs : starEach [e] X.env = (false, eval e X.env) :: starEach [] X.env := by rfl)
    (hs2 : swapsWith (.Call (.Attribute (.Name x p) "remove" apos) [e] [] cpos) none pos.line X.env = pure false := by rfl) :
    GS X W (.Expr (.Call (.Attribute (.Name x p) "remove" apos) [e] [] cpos) pos) (wRem i we) := by
  refine ⟨tDrop (tBM X.K "list" (rRemW X.K) (tVar i) (tCons te tNil)), ps_expr (pe_bm PySem.F.plainAttrs_list PySem.F.slot_list_remove PySem.F.type_list_remove (mt_remW hu) (pe_var hN hv hd hcd) (pa_cons he.pe pa_nil hs) hbase hfew hline hs (by rfl)) hs2, fun b h σ g We E D k ⟨hl, hw⟩ hx ct => ?_⟩
  obtain ⟨p0, xs0, vs0, e0, ev0, hp0, _⟩ := k.lst hl
  refine ⟨_, ev0, tyV_lst hp0, he.se b h σ g We _ _ k hw hx fun v b' h' g' o k' f' p' => ?_⟩
  obtain ⟨b2, k2, f2, zo⟩ := come k' f'
  unfold remAt at p'
  obtain ⟨p1, ks, kk, e1, eo, m, p'⟩ := p'
  obtain ⟨v1, ev1, ev2, vs, hp, z⟩ := k2.sl i _ e1
  rw [ev0] at ev1
  cases ev1
  cases ev2
  have zk : den X.K b2 (tupI kk) v := by rw [← eo]; exact zo
  refine ⟨p0, vs, v, encW kk, ks.map encW, ks.idxOf kk, rfl, rfl, hp, dpAll_own k2.sub z, dp_tup k2.sub zk, shaped_tup kk, shaped_lt ks, place_tup kk ks m, ?_⟩
  have hz := ownL_erase z (j := ks.idxOf kk)
  rw [map_eraseIdx, map_eraseIdx, erase_idx kk ks m] at hz
  have fe : ∀ ms : List (List Int), foot (.lst p0 ((ms.map tupI).map .pur)) = [p0] := fun ms => by
    show p0 :: footL _ = _
    rw [footL_purs]
  obtain ⟨k3, f3⟩ := k2.upd_root (o' := .lst p0 (((ks.erase kk).map tupI).map .pur)) (ob := .lst (vs.eraseIdx (ks.idxOf kk))) e1 rfl rfl ⟨rfl, _, upd_same, ownL_aside hz (by rw [footL_purs]; simp)⟩
    (fun a m => by rw [fe] at m ⊢; exact m) (by rw [fe]; simp)
  exact ct.nx σ b2 _ _ k3 (f2.trans f3) p'
end
end G
/-! G: x != y by the text's own __eq__ (object's __ne__), classes that come from others. -/
namespace PySem.W
open PyProof.Rows
open Builtin
section
variable {prog : Program} {w : World} {A : Around} {E : Value → Shared → Prop} {s : Shared} {K : Frag} {x C L f : Addr} {h₀ : Heap} {m : Str → Option Value} {ox : Obj} {od : Option Obj} {name : Str} {b tb : Value}
theorem ifBound_B {M : Model} {T id : String} {args : List Value} {Q : Option Value → Shared → Prop} (S : Slot T name id) (X : K.In s.heap) (I : InstAt s.heap x ox C od) (hs : findIn K (.ref C) name = some (some (.builtin id)))
    (h : wpAny M A (call (.builtin id) (.ref x :: args)) (fun v => Q (some v)) E s) : wpAny M A (callSpecialIfBound? (.ref x) name args) Q E s := by
  simp only [callSpecialIfBound?, bindSpecialIfBound?]
  refine wpAny_holding (wpAny_bind (wpAny_bind (wpAny_bind (I.type.here ((looks_findIn X hs).here ?_)))))
  refine wpAny_bind (wpAny_askSetting (wpAny_ite ?_))
  have fin : wpAny M A (call (.builtin id) ([.ref x] ++ args) >>= fun v => pure (some v)) Q E s := wpAny_bind (wpAny_mono h (fun v s' h' => wpAny_pure h') fun _ _ h' => h')
  split
  · refine wpAny_bind ?_
    rw [S.bind]
    exact wpAny_pure (wpAny_pure (by exact fin))
  · refine wpAny_tryCatch (wpAny_bind ?_)
    rw [S.bind]
    exact wpAny_pure (wpAny_pure (by exact fin))
theorem objNe_K {Q : Fin → Shared → Prop} (hu : A.units < cLine) (X : K.In s.heap) (I : InstAt s.heap x ox C od) (hs : findIn K (.ref C) "__eq__" = some (some (.ref f))) (hf : isFn K (.ref f) = true)
    (hcall : wpAny (model prog w) A (call (.ref f) [.ref x, b]) (fun v s' => ∃ z, v = .bool z ∧ Q (.done (.ret (.bool (!z)))) s') E s) :
    wpAny (model prog w) A (Builtin.«object.__ne__» ⟨[.ref x, b], []⟩) Q E s := by
  unfold Builtin.«object.__ne__»
  repeat (first
    | with_reducible refine wpAny_cRoomFor hu ?_
    | (refine wpAny_bind (m := callSpecialIfBound? (.ref x) (Str.ofString "__eq__") [b])
        (ifBound_K X I hs hf (wpAny_mono hcall (fun r s' hr => by
          obtain ⟨z, rfl, hq⟩ := hr
          repeat (first | exact hq | exact wpAny_pure hq | exact wpAny_truthy_bool hq | (refine wpAny_bind (m := truthy (.bool _)) (wpAny_truthy_bool ?_)) | wp_step)) fun _ _ e => e)))
    | wp_step)
theorem cmpNe_K {Q : Value → Shared → Prop} (hu : A.units + 1 < cLine) (F : Fr h₀ L s.heap m) (X₀ : K.In h₀) (I : InstAt s.heap x ox C od) (hb : Looks (model prog w) s.heap (typeOf b) tb) (hn : notFirst K C tb = true)
    (hne : findIn K (.ref C) "__ne__" = some (some (.builtin "object.__ne__"))) (ho : mroIn K C (.type "object") = some true) (hs : findIn K (.ref C) "__eq__" = some (some (.ref f))) (hf : isFn K (.ref f) = true)
    (h : wpAny (model prog w) A.in1 (call (.ref f) [.ref x, b]) (fun v s' => ∃ z, v = .bool z ∧ Q (.bool (!z)) s') E s) : wpAny (model prog w) A (richCompare .NotEq (.ref x) b) Q E s := by
  have X := X₀.keeps F.keep
  have S := PySem.F.slot_object_ne
  have one : wpAny (model prog w) A (tryCompare (.ref x) (cmpInfo .NotEq).2.1 b) (fun r s' => ∃ v, r = some v ∧ Q v s') E s := by
    unfold tryCompare
    refine wpAny_bind (ifBound_B S X I hne (wpAny_call (codeAny_call_builtin S.plain PySem.F.cmpEntry_ne
      (check_slot PySem.F.cmpKind_ne PySem.F.cmpSplit_ne (I.type.andThen (looks_subIn X (show subIn K (.ref C) (.type "object") = some true from ho))) (PySem.F.cmpArgs_ne _ _)
        (objNe_K (A := A.in1) hu X I hs hf (wpAny_mono h (fun v s' hv => ?_) fun _ _ e => e))))))
    obtain ⟨z, rfl, hq⟩ := hv
    exact ⟨z, rfl, wpAny_pure ⟨_, rfl, hq⟩⟩
  unfold richCompare
  simp only [oneThing_ref]
  refine wpAny_holding (wpAny_bind (wpAny_cRoomFor (Nat.lt_of_succ_lt hu) ?_))
  refine wpAny_bind (I.type.here (wpAny_bind (hb.here ?_)))
  split
  · rename_i q
    have e : subIn K tb (.ref C) = some false := by
      rcases Bool.or_eq_true_iff.mp hn with e | e
      · rw [beq_iff_eq.mp e] at q; simp at q
      · exact beq_iff_eq.mp e
    refine wpAny_bind ((looks_subIn X e).here ?_)
    simp only [Bool.false_eq_true, if_false]
    refine wpAny_bind (wpAny_mono one (fun r s' z => ?_) fun _ _ e => e)
    obtain ⟨v, rfl, hq⟩ := z
    exact wpAny_pure hq
  · refine wpAny_bind (wpAny_pure ?_)
    simp only [Bool.false_eq_true, if_false]
    refine wpAny_bind (wpAny_mono one (fun r s' z => ?_) fun _ _ e => e)
    obtain ⟨v, rfl, hq⟩ := z
    exact wpAny_pure hq
end
end PySem.W
namespace G
open PySem PySem.Spec PyProof.Rows L2
open Evl (Ex)
def neB (K : PySem.W.Frag) (C : Addr) : Bool := decide (PySem.W.findIn K (.ref C) "__ne__" = some (some (.builtin "object.__ne__")))
/-- two classes, the first from the second -/
def fromB (K : PySem.W.Frag) (C D : Addr) : Bool := decide (PySem.W.kitOne K (.ref C) (.ref D) = some true) && PySem.W.notFirst K C (.ref D)
section
variable {X : Cx} {W : WX}
theorem op_ownNe {k : Nat} {C f : Addr} {fd : FuncData} {ps : List Str} {sp : Sp} (F : FnOk X.prog X.w X.K X.mg X.base (L2.CX X.prog X.w) k f fd ps sp) (hm : Meth X.K C "__eq__" f) (hb : Binds X.K fd ps []) (hr : Room (k + 1) X.A) (hne : neB X.K C = true) (x : ClsX X.K C) : OpR X (compareOp .NotEq) (fun x y H Q => rOwnEq X.K C sp x y H fun v H' => ∃ z, v = .bl z ∧ Q (.bl (!z)) H') := by
  intro pins s σ H x' y v u Q I rx ry hq
  obtain ⟨⟨a, dx, fs, rfl, ha⟩, ⟨tb, ty, nf⟩, h⟩ := hq
  show wpAny (model X.prog X.w) X.A (richCompare .NotEq v u) (EP X pins σ Q) X.xe s
  cases rx
  obtain ⟨mA, J, _⟩ := ins_get I.hok ha
  obtain ⟨od, J, _⟩ := J.look
  obtain ⟨m, hF⟩ := I.fr
  obtain ⟨Pk, Z, pk, _⟩ := kit_of I ry ty
  refine PySem.W.cmpNe_K (tb := tb) (by have := hr.un; omega) hF I.ok.mod.kin J (Z.ty _ _ I.kIn pk) nf (of_decide_eq_true hne) x.hm hm.at_ hm.fn ?_
  have r2 : Vals [V.ref a, y] [Value.ref a, u] := .cons rfl (.cons ry .nil)
  refine wpAny_mono (wpAny_call (codeAny_mono (F.run X.A.in1 X.stack s H ⟨[.ref a, u], []⟩ [.ref a, u] [.ref a, y] _ E0 hr.in1 I.env0.in1 (hb s [.ref a, u] I.kIn (by have := F.len _ _ _ _ h; simpa using this)) r2 h) fun r s' hq => ?_)) (fun r s' q => q) fun _ _ e => e
  cases r with
  | error e => exact passL pins σ H s e s' I hq
  | ok fl =>
    cases fl with
    | ret u' =>
      obtain ⟨v', H', I', rv, z, rfl, z2, e2, qz⟩ := I.after hq
      cases e2
      cases rv
      exact ⟨z, rfl, .bl (!z), H', I', rfl, qz⟩
    | next => exact False.elim hq
    | brk => exact False.elim hq
    | cont => exact False.elim hq
end
end G
/-! G: {t: c for ..}, tuple keys that may come again, one value; lists or tuples walked. -/
namespace G
open PySem PySem.Spec PyProof.Rows L2 TQ
open Evl (Ex)
theorem kI_nd {ks : List (List Int)} (nd : ks.Nodup) : (ks.map kI).Nodup := List.pairwise_map.mpr (nd.imp fun {a b} ne e => ne (kI_inj e))
theorem denL_one {K : PySem.W.Frag} {b : Hp} {d : D} {v : V} (z : den K b d v) : ∀ {ks : List (List Int)} {us : List V} (j : Nat), denL K b (ks.map fun _ => d) us → denL K b (ks.map fun _ => d) (us.set j v)
  | [], _, _, e => by have e' : _ = ([] : List V) := e; subst e'; exact rfl
  | k :: ks, _, 0, ⟨u, r, e, _, t⟩ => by subst e; exact ⟨v, r, rfl, z, t⟩
  | k :: ks, _, j + 1, ⟨u, r, e, z1, t⟩ => by subst e; exact ⟨u, r.set j v, rfl, z1, denL_one z j t⟩
section
variable {X : Cx} {W : WX}
@[irreducible] def wDtR (wi : WI) (wg : WG) (wk wv : WE) (vs : List Nat) : WE := fun We g P => wi We g fun ds g1 => ∃ (f : D → List Int) (e0 : D), ds.length < sizeLine ∧
  (∀ d ∈ ds, wg d (wipeG g1 vs) fun g2 => wk (fun _ _ => False) g2 fun o g3 => o.d = tupI (f d) ∧ wv (fun _ _ => False) g3 fun r g4 => r.d = e0 ∧ unwipe g1 g4 vs = g1) ∧
  ∀ (p : Addr) (ks : List (List Int)), ks.Nodup → (∀ k, k ∈ ks ↔ k ∈ ds.map f) → P (.dT p (ks.map kI) ((ks.map fun _ => e0).map .pur)) g1
theorem dtR_se {K : PySem.W.Frag} {ti : TI} {tg : TG} {tk tv : TE} {wi : WI} {wg : WG} {wk wv : WE} {vs ts : List Nat}
    (qi : ∀ b h σ g We P Q, Hold K b h σ g → wi We g P → ContX K g b h We W → (∀ J b' h' g' ds, Hold K b' h' σ g' → Frm g b h g' b' h' → Yields K b' h' J ds → P ds g' → Q J h') → ti σ h Q)
    (qg : ∀ b h σ g d v P Q, Hold K b h σ g → den K b d v → wg d g P → (∀ σ' b' h' g', Hold K b' h' σ' g' → Frm g b h g' b' h' → Sames ts σ σ' → P g' → Q σ' h') → tg v σ h Q)
    (qk : ∀ b h σ g We P Q, Hold K b h σ g → wk We g P → ContX K g b h We W0 → Cont K g b h σ P Q → tk σ h Q)
    (qv : ∀ b h σ g We P Q, Hold K b h σ g → wv We g P → ContX K g b h We W0 → Cont K g b h σ P Q → tv σ h Q) (hts : ∀ i ∈ ts, i ∈ vs) :
    ∀ b h σ g We P Q, Hold K b h σ g → wDtR wi wg wk wv vs We g P → ContX K g b h We W → Cont K g b h σ P Q → tDt ti tg tk tv vs σ h Q := by
  intro b h σ g We P Q k hw hx ct
  unfold wDtR at hw
  refine qi b h σ g We _ _ k hw hx fun J b1 h1 g1 ds k1 f1 y ⟨f, e0, hn, turn, fin1⟩ => fun D hD => ?_
  have nb1 : b1 D = none := Evl.fresh_back k1.sub hD
  have ng1 : ¬ inF g1 D := fun z => by obtain ⟨u, e⟩ := k1.inF_there z; rw [hD] at e; cases e
  refine ⟨fun i m H => m = ds.length - i ∧ i ≤ ds.length ∧ ∃ (b' : Hp) (us : List V) (ks : List (List Int)), Hold K b' H σ g1 ∧ Frm g1 b1 h1 g1 b' H ∧ b' D = none ∧ H D = some (.dT ((ks.map kI).zip us)) ∧ denL K b' (ks.map fun _ => e0) us ∧ ks.Nodup ∧ ks.length ≤ i ∧ ∀ k, k ∈ ks ↔ k ∈ (ds.take i).map f,
    ⟨ds.length, by simp, Nat.zero_le _, b1, [], [], k1.aside ng1 nb1, ⟨Ex.refl b1, fun a u e _ => by rw [upd_ne (ne_of_none e hD)]; exact e, fun a u e1 t e2 _ => e2, fun a z => .inl z⟩, nb1, by rw [upd_same]; rfl, rfl, List.nodup_nil, Nat.zero_le _, fun k => by simp⟩, ?_⟩
  rintro i m H ⟨rfl, hi, b', us, ks, k', f', nb', hDH, zu, ndk, lks, hmem⟩
  have yy := y b' H f'.bs k'.sub (fun a o e1 e2 => f'.keep a o e1 fun z => by rw [k1.inF_nb z] at e2; cases e2) i
  by_cases hlt : i < ds.length
  · obtain ⟨d, ed⟩ : ∃ d, ds[i]? = some d := ⟨_, List.getElem?_eq_getElem hlt⟩
    have dm := List.mem_of_getElem? ed
    have etake : ds.take (i + 1) = ds.take i ++ [d] := by rw [List.take_succ, ed]; rfl
    refine .inr ⟨(yy.2 d ed).1, fun H4 => i + 1 ≤ ds.length ∧ ∃ (b' : Hp) (us : List V) (ks : List (List Int)), Hold K b' H4 σ g1 ∧ Frm g1 b1 h1 g1 b' H4 ∧ b' D = none ∧ H4 D = some (.dT ((ks.map kI).zip us)) ∧ denL K b' (ks.map fun _ => e0) us ∧ ks.Nodup ∧ ks.length ≤ i + 1 ∧ ∀ k, k ∈ ks ↔ k ∈ (ds.take (i + 1)).map f, fun H4 z => ⟨ds.length - (i + 1), by omega, rfl, z.1, z.2⟩, fun x h2 yl => ?_⟩
    obtain ⟨b2, e1, e2, e3, n, z⟩ := (yy.2 d ed).2 x h2 yl
    obtain ⟨k2, f2⟩ := k'.wide e1 e2 e3 n
    have D2 : h2 D = some (.dT ((ks.map kI).zip us)) := e2 D _ hDH
    have nb2 : b2 D = none := f2.nb D _ hDH trivial nb' ng1
    obtain ⟨kw, sw⟩ := k2.wipe vs
    refine qg b2 h2 (L2.wipe σ vs) (wipeG g1 vs) d x _ _ kw z (turn d dm) fun σ3 b3 h3 g3 k3 f3 s3 st3 => ?_
    have ew : L2.wipe σ3 vs = L2.wipe σ vs := wipe_sames (s3.mono hts)
    refine ⟨ew, ?_⟩
    have ngw : ¬ inF (wipeG g1 vs) D := fun z => ng1 (sw D z)
    have D3 : h3 D = some _ := f3.keep D _ D2 ngw
    have nb3 : b3 D = none := f3.nb D _ D2 trivial nb2 ngw
    have ng3 : ¬ inF g3 D := fun z => (f3.new D z).elim ngw fun z => by rw [D2] at z; cases z
    refine qk b3 h3 σ3 g3 _ _ _ k3 st3 contX0 fun v b4 h4 g4 o k4 f4 st4 => ?_
    obtain ⟨b4', k4', f4', zo⟩ := come k4 f4
    obtain ⟨eo, st4⟩ := st4
    rw [eo] at zo
    obtain ⟨kb, rfl, zk⟩ := den_tupI zo
    have D4 : h4 D = some _ := f4'.keep D _ D3 ng3
    have nb4 : b4' D = none := f4'.nb D _ D3 trivial nb3 ng3
    have ng4 : ¬ inF g4 D := fun z => (f4'.new D z).elim ng3 fun z => by rw [D3] at z; cases z
    refine qv b4' h4 σ3 g4 _ _ _ k4' st4 contX0 fun v5 b5 h5 g5 r k5 f5 st5 => ?_
    obtain ⟨b6, k6, f6, zr⟩ := come k5 f5
    obtain ⟨er, eu⟩ := st5
    rw [er] at zr
    have D6 : h5 D = some _ := f6.keep D _ D4 ng4
    have nb6 : b6 D = none := f6.nb D _ D4 trivial nb4 ng4
    have F0 := (f3.trans f4').trans f6
    have F : Frm g1 b2 h2 g5 b6 h5 := ⟨F0.bs, fun a u e n => F0.keep a u e fun z => n (sw a z), fun a u e1 t e2 n => F0.nb a u e1 t e2 fun z => n (sw a z), fun a z => (F0.new a z).elim (fun z => .inl (sw a z)) .inr⟩
    obtain ⟨k7, s7⟩ := k2.unwipe k6 F.bs vs ew
    rw [eu] at k7 s7
    have zu6 := denL_mono (f2.trans F).bs _ _ zu
    have lu : us.length = ks.length := by rw [← denL_len zu, List.length_map]
    have lk : (ks.map kI).length = us.length := by rw [lu, List.length_map]
    have hz9 : ((ks.map kI).zip us).length < sizeLine := by rw [List.length_zip, lk, Nat.min_self, lu]; omega
    have F7 : Frm g1 b1 h1 g1 b6 h5 := (f'.trans (f2.trans F)).sub s7
    have fr9 : ∀ o, Frm g1 b1 h1 g1 b6 (upd h5 D o) := fun o => ⟨F7.bs, fun a u e na => by
      rw [upd_ne (ne_of_none e hD)]
      exact F7.keep a u e na, F7.nb, F7.new⟩
    have mem9 : ∀ k, k ∈ (ds.take (i + 1)).map f ↔ k ∈ ks ∨ k = f d := fun k => by
      rw [etake, List.map_append, List.mem_append, ← hmem k]
      simp
    refine ⟨_, kI (f d), kb, rfl, D6, by rw [kI_kV]; exact k6.sub _ _ (f6.bs _ _ zk), hz9, hlt, ?_⟩
    by_cases hin : f d ∈ ks
    · obtain ⟨j, ej⟩ : ∃ j, findK (ks.map kI) (kI (f d)) = some j := by
        have h := find_mem (k := f d) (ks := ks)
        rw [decide_eq_true hin] at h
        exact Option.isSome_iff_exists.mp h
      exact ⟨b6, us.set j v5, ks, k7.aside ng1 nb6, fr9 _, nb6, by rw [upd_same, putK_zip (kI_nd ndk) lk ej], denL_one zr j zu6, ndk, by omega, fun k => by
        rw [mem9 k]
        exact ⟨.inl, fun z => z.elim id fun e => e ▸ hin⟩⟩
    · have nk : findK (ks.map kI) (kI (f d)) = none := by
        cases q : findK (ks.map kI) (kI (f d)) with
        | none => rfl
        | some j =>
          have h := find_mem (k := f d) (ks := ks)
          rw [q, decide_eq_false hin] at h
          cases h
      refine ⟨b6, us ++ [v5], ks ++ [f d], k7.aside ng1 nb6, fr9 _, nb6, by rw [upd_same, putK_zipN lk nk, List.map_append]; rfl, ?_, List.nodup_append.mpr ⟨ndk, by simp, fun a ma b mb e => hin (by rw [← List.mem_singleton.mp mb, ← e]; exact ma)⟩, by simp; omega, fun k => by
        rw [mem9 k, List.mem_append, List.mem_singleton]⟩
      rw [List.map_append]
      exact denL_app zu6 ⟨v5, [], rfl, zr, rfl⟩
  · have e : i = ds.length := by omega
    subst e
    rw [List.take_length] at hmem
    have lu : us.length = ks.length := by rw [← denL_len zu, List.length_map]
    have ft : foot (.dT D (ks.map kI) ((ks.map fun _ => e0).map .pur)) = [D] := by show D :: footL _ = [D]; rw [footL_pur]
    refine .inl ⟨yy.1 rfl, ?_⟩
    refine ct (.ref D) b' H g1 (.dT D (ks.map kI) ((ks.map fun _ => e0).map .pur)) (k'.cons ⟨rfl, us, hDH, by simp [lu], ownL_pur zu⟩ (by rw [ft]; simp) (fun a m => ?_) fun a m => ?_) (f1.trans ⟨f'.bs, f'.keep, f'.nb, fun a z => ?_⟩) (fin1 D ks ndk hmem)
    · have : a = D := by rw [ft] at m; simpa using m
      subst this; exact nb'
    · have : a = D := by rw [ft] at m; simpa using m
      subst this; exact ng1
    · rcases inF_cons.mp z with ⟨u, e, m⟩ | z
      · cases e
        have : a = D := by rw [ft] at m; simpa using m
        subst this; exact .inr hD
      · exact f'.new a z
theorem ge_dtR {kx vx tg iter : Expr} {scope : Scope} {own : List (Str × Nat)} {ts : List Nat} {pos : Pos} {ti : TI} {tg' : TG} {tk tv : TE} {wi : WI} {wg : WG} {wk wv : WE} (calm : X.calm = true) (hu : X.A.units + 1 < cLine) (hN : X.N.Nodup) (hi : GI X W tg iter ti wi) (ok : BlkOk X.N X.env.scope scope own)
    (hg : ∀ (s : Shared) (H : Hp) (C : Addr) (cl : List (Str × Addr)) (fp : List Addr), GB (X.blk s H scope (compEnvC scope cl C X.env) fp) tg ts tg' wg)
    (hk : ∀ (s : Shared) (H : Hp) (C : Addr) (cl : List (Str × Addr)) (fp : List Addr), GE (X.blk s H scope (compEnvC scope cl C X.env) fp) W0 kx tk wk)
    (hv : ∀ (s : Shared) (H : Hp) (C : Addr) (cl : List (Str × Addr)) (fp : List Addr), GE (X.blk s H scope (compEnvC scope cl C X.env) fp) W0 vx tv wv) (hts : ∀ i ∈ ts, i ∈ own.map (·.2) := by decide) (fo : ∀ x, foldedSetIterable iter X.env x = pure x := by intro _; rfl) :
    GE X W (.DictComp kx vx [⟨tg, iter, [], 0⟩] scope pos) (tDt ti tg' tk tv (own.map (·.2))) (wDtR wi wg wk wv (own.map (·.2))) :=
  ⟨pe_dt calm hu hN hi.pe ok (fun s H C cl fp => (hg s H C cl fp).pe) (fun s H C cl fp => (hk s H C cl fp).pe) (fun s H C cl fp => (hv s H C cl fp).pe) fo,
    dtR_se hi.se (hg X.s_0 X.H_0 0 [] []).se (hk X.s_0 X.H_0 0 [] []).se (hv X.s_0 X.H_0 0 [] []).se hts⟩
theorem dtR_i {wi : WI} {wg : WG} {wk wv : WE} {vs : List Nat} {We : Wsh} {g : Gam} {P : O → Gam → Prop} (ds : List D) (f : D → List Int) (e0 : D) (hi : ∀ Q : List D → Gam → Prop, Q ds g → wi We g Q) (few : ds.length < sizeLine)
    (turn : ∀ d ∈ ds, wg d (wipeG g vs) fun g2 => wk (fun _ _ => False) g2 fun o g3 => o.d = tupI (f d) ∧ wv (fun _ _ => False) g3 fun r g4 => r.d = e0 ∧ unwipe g g4 vs = g)
    (h : ∀ (p : Addr) (ks : List (List Int)), ks.Nodup → (∀ k, k ∈ ks ↔ k ∈ ds.map f) → P (.dT p (ks.map kI) ((ks.map fun _ => e0).map .pur)) g) : wDtR wi wg wk wv vs We g P := by
  unfold wDtR
  exact hi _ ⟨f, e0, few, turn, h⟩
/-! ### for x in a list or a tuple -/
@[irreducible] def seqP (d : D) (P : List D → Prop) : Prop := ∃ ds, (d = .lst ds ∨ d = .tup ds) ∧ P ds
theorem seqP_i {d : D} {P : List D → Prop} {ds : List D} (h : d = .lst ds ∨ d = .tup ds) (p : P ds) : seqP d P := by unfold seqP; exact ⟨ds, h, p⟩
def iLT (K : PySem.W.Frag) (tl : TE) : TI := fun σ H R => tl σ H fun x H1 => ∃ a, x = .ref a ∧ (((∃ xs, SqL K H1 a xs) ∧ R (Itl K a) H1) ∨ ((∃ xs, SqT K H1 a xs) ∧ R (Itt K a) H1))
theorem pi_lt {tg l : Expr} {tl : TE} (hl : PE X l tl) : PI X tg l (iLT X.K tl) := by
  refine ⟨fun pins s σ H R I h => ?_⟩
  refine thn (hl.run pins s σ H _ I h) fun v s1 ⟨x, H1, I1, r1, q1⟩ => ?_
  obtain ⟨a, e, q1⟩ := q1
  subst e
  cases r1
  have fp : ∀ b ∈ [s1.heap.objs.size], FpOk X pins H1 b := fun b hb => by
    have e : b = s1.heap.objs.size := by simpa using hb
    subst e
    exact I1.fpOk (Nat.le_refl _) (I1.hok.fresh (Nat.le_refl _))
  rcases q1 with ⟨⟨xs, hq⟩, q⟩ | ⟨⟨xs, hq⟩, q⟩
  · obtain ⟨its, rv, p, hz⟩ := I1.list hq
    refine wpAny_pyIter_list p.isList ?_
    exact ⟨s1.heap.objs.size, [s1.heap.objs.size], _, _, H1, rfl, I1.kept (t' := s1.toks) fun b o e => Heap.get?_push_of_some _ e, turn_list a _, ⟨_, Heap.get?_push_size _ rfl, rfl, rfl⟩, fp, q⟩
  · obtain ⟨its, rv, p, hz⟩ := I1.tuple hq
    refine wpAny_pyIter_tuple (show s1.heap.IsTuple a its.toArray from p) ?_
    exact ⟨s1.heap.objs.size, [s1.heap.objs.size], _, _, H1, rfl, I1.kept (t' := s1.toks) fun b o e => Heap.get?_push_of_some _ e, turn_tuple a _, ⟨_, Heap.get?_push_size _ rfl, rfl, rfl⟩, fp, q⟩
def wILT (wa : WE) : WI := fun We g P => wa We g fun o g1 => seqP o.d fun ds => P ds g1
theorem gi_lt {tg e : Expr} {te : TE} {wa : WE} (h : GE X W e te wa) {K : PySem.W.Frag} (hK : X.K = K := by exact rfl) : GI X W tg e (iLT K te) (wILT wa) := by
  subst hK
  refine ⟨pi_lt h.pe, fun b h1 σ g We P Q k hw hx c => ?_⟩
  refine h.se b h1 σ g We _ _ k hw hx fun v b' h' g' o k' f' p => ?_
  obtain ⟨b2, k2, f2, z⟩ := come k' f'
  unfold seqP at p
  obtain ⟨ds, e, p⟩ := p
  rcases e with e | e
  · rw [e] at z
    obtain ⟨a, vs, rfl, q, t⟩ := z
    exact ⟨a, rfl, .inl ⟨⟨vs, SqL.of (k2.sub _ _ q)⟩, c _ b2 h' g' ds k2 f2 (yields_list (SqL.of q) t) p⟩⟩
  · rw [e] at z
    obtain ⟨a, vs, rfl, q, t⟩ := z
    exact ⟨a, rfl, .inr ⟨⟨vs, SqT.of (k2.sub _ _ q)⟩, c _ b2 h' g' ds k2 f2 (yields_tup (SqT.of q) t) p⟩⟩
end
end G
/-! G: != and isinstance with a class and one that comes from it. -/
namespace G
open PySem PySem.Spec PyProof.Rows L2
open Evl (Ex)
section
variable {X : Cx} {W : WX}
def roOwnNe (C D : Addr) (pm : Pm) : RO := fun dx dy P => (∃ fs xs, dx = .ins C fs xs) ∧ ((∃ fs xs, dy = .ins C fs xs) ∨ (∃ fs xs, dy = .ins D fs xs)) ∧ pm [.pur dx, .pur dy] (fun _ _ => False) (fun o _ => ∃ z, o = .pur (.bl z) ∧ P (.pur (.bl (!z))))
theorem ins_typed {K : PySem.W.Frag} {C : Addr} {H b : Hp} {fs : List Str} {xs : List D} {v : V} (x : ClsX K C) (s : Ex b H) (z : den K b (.ins C fs xs) v) : TyX K H v (.ref C) := by
  obtain ⟨a, dx, vs, rfl, e, _⟩ := z
  exact x.ty (s _ _ e)
theorem og_ownNe {k : Nat} {C D : Addr} {ps : List Str} {pm : Pm} (x : ClsX X.K C) (xd : ClsX X.K D) (hne : neB X.K C = true) (hf : PySem.W.notFirst X.K C (.ref D) = true) (F : FnM X.prog X.w X.K X.mg X.base k C "__eq__" ps pm) (h2 : ps.length = 2) (hr : Room (k + 1) X.A) :
    OpG X (compareOp .NotEq) (fun x y H Q => rOwnEq X.K C (spOf X.K ps.length pm) x y H fun v H' => ∃ z, v = .bl z ∧ Q (.bl (!z)) H') (roOwnNe C D pm) := by
  obtain ⟨f, fd, F, hm, hb⟩ := F.ex
  refine ⟨op_ownNe F hm hb hr hne x, fun b h x' y dx dy P Q s zx zy hr c => ?_⟩
  obtain ⟨⟨fs, xs, rfl⟩, hy, hp⟩ := hr
  have hty : ∃ tb, TyX X.K h y tb ∧ PySem.W.notFirst X.K C tb = true := by
    rcases hy with ⟨gs, ys, rfl⟩ | ⟨gs, ys, rfl⟩
    · exact ⟨_, ins_typed x s zy, by simp [PySem.W.notFirst]⟩
    · exact ⟨_, ins_typed xd s zy, hf⟩
  refine ⟨?_, hty, b, [.pur (.ins C fs xs), .pur dy], _, _, by rw [h2]; rfl, hold_pur2 s zx zy, hp, fun v b' h' g' o k' f' p => ?_, fun cls d b' h' g' x k' f' z p => p⟩
  · obtain ⟨a, d, vs, rfl, e, _⟩ := zx
    exact ⟨a, d, _, rfl, s _ _ e⟩
  · obtain ⟨z, rfl, pz⟩ := p
    obtain ⟨zv, nd, nb, _⟩ := k'.head
    have ev : v = .bl z := zv
    subst ev
    refine ⟨z, rfl, z, rfl, c _ b' h' (.pur (.bl (!z))) ?_ pz⟩
    refine ⟨hold1 k'.sub rfl List.nodup_nil (fun a m => (List.not_mem_nil m).elim), f'.bs, fun a o e _ => f'.keep a o e no_inF2, fun a o e t e2 _ => f'.nb a o e t e2 no_inF2, fun a q => ?_⟩
    rcases inF_cons.mp q with ⟨u, e, m⟩ | q
    · cases e; cases m
    · exact (inF_nil q).elim
/-- isinstance(x, C), x an instance of C or of D, that comes from C -/
@[irreducible] def isCP2 (C C2 : Addr) (d : D) (P : O → Prop) : Prop := ((∃ fs xs, d = .ins C fs xs) ∨ (∃ fs xs, d = .ins C2 fs xs)) ∧ P (.pur (.bl true))
theorem isCP2_i {C C2 : Addr} {d : D} {P : O → Prop} (h : (∃ fs xs, d = .ins C fs xs) ∨ (∃ fs xs, d = .ins C2 fs xs)) (p : P (.pur (.bl true))) : isCP2 C C2 d P := by unfold isCP2; exact ⟨h, p⟩
def rcIsC2 (C C2 : Addr) : RC1 := fun ds P => match ds with
  | [d, .fn c] => c = C ∧ isCP2 C C2 d P
  | _ => False
theorem cg_isC2 {C C2 : Addr} (x : ClsX X.K C) (x2 : ClsX X.K C2) (hk : PySem.W.kitOne X.K (.ref C2) (.ref C) = some true) : CallG X (.builtin "isinstance") (rIsi X.K) (rcIsC2 C C2) := by
  refine ⟨call_isi, fun b hh xs ds P Q s z hp c => ?_⟩
  unfold rcIsC2 at hp
  split at hp
  · rename_i d c'
    obtain ⟨v, w, rfl, z1, z2⟩ := denL2 z
    have z2' : w = .ref c' := z2
    subst z2'
    obtain ⟨rfl, hp⟩ := hp
    unfold isCP2 at hp
    obtain ⟨h, hp⟩ := hp
    rcases h with ⟨fs, xs, rfl⟩ | ⟨fs, xs, rfl⟩
    · obtain ⟨a, dx, vs, rfl, e, _⟩ := z1
      exact ⟨_, _, _, _, true, rfl, .own _, x.ty (s _ _ e), kit_self, c _ b hh (.pur (.bl _)) (Res.same s rfl) hp⟩
    · obtain ⟨a, dx, vs, rfl, e, _⟩ := z1
      exact ⟨_, _, _, _, true, rfl, .own _, x2.ty (s _ _ e), hk, c _ b hh (.pur (.bl _)) (Res.same s rfl) hp⟩
  · exact hp.elim
end
end G
/-! GAll: all of G. -/
/-! G: looks that make new objects of tuples, plain values and fixed tables, of any depth (a book made of a list that stays one's own). -/
namespace G
open PySem PySem.Spec PyProof.Rows L2
open Evl (Ex)
/-- what is never owned where no slot owns a dict with tuple keys -/
def plainH : HO → Bool
  | .tup _ => true
  | .dT _ => true
  | _ => false
/-- the base with the tuples and tables of another one -/
def withP (b b2 : Hp) : Hp := fun a => match b a with
  | some u => some u
  | none => (match b2 a with
    | some u => if plainH u = true then some u else none
    | none => none)
mutual
def tupX : D → Bool
  | .tup ds => tupXL ds
  | .dT _ ds => tupXL ds
  | .int _ => true
  | .bl _ => true
  | .non => true
  | .str _ => true
  | _ => false
def tupXL : List D → Bool
  | [] => true
  | d :: ds => tupX d && tupXL ds
/-- an owned tree whose leaves are such, and that owns no table -/
def okT : O → Bool
  | .pur d => tupX d
  | .lst _ xs => okTL xs
  | .dK _ _ xs => okTL xs
  | .dT _ _ _ => false
  | .ins _ _ _ _ xs => okTL xs
  | .tup xs => okTL xs
def okTL : List O → Bool
  | [] => true
  | o :: os => okT o && okTL os
/-- an owned tree that owns no table -/
def noT : O → Bool
  | .pur _ => true
  | .lst _ xs => noTL xs
  | .dK _ _ xs => noTL xs
  | .dT _ _ _ => false
  | .ins _ _ _ _ xs => noTL xs
  | .tup xs => noTL xs
def noTL : List O → Bool
  | [] => true
  | o :: os => noT o && noTL os
end
theorem okTL_pur : ∀ ds : List D, okTL (ds.map .pur) = tupXL ds
  | [] => rfl
  | d :: ds => by
    show (tupX d && okTL (ds.map .pur)) = (tupX d && tupXL ds)
    rw [okTL_pur ds]
theorem noTL_pur : ∀ ds : List D, noTL (ds.map .pur) = true
  | [] => rfl
  | d :: ds => by
    show (true && noTL (ds.map .pur)) = true
    rw [noTL_pur ds]
    rfl
theorem tupXL_tups : ∀ ks : List (List Int), tupXL (ks.map tupI) = true
  | [] => rfl
  | k :: ks => by
    have e : ∀ l : List Int, tupXL (l.map .int) = true := fun l => by
      induction l with
      | nil => rfl
      | cons x l ih => show (true && tupXL (l.map .int)) = true; rw [ih]; rfl
    show (tupXL (k.map .int) && tupXL (ks.map tupI)) = true
    rw [e, tupXL_tups ks]
    rfl
mutual
theorem ok_noT : ∀ o : O, okT o = true → noT o = true
  | .pur _, _ => rfl
  | .lst _ xs, h => ok_noTL xs h
  | .dK _ _ xs, h => ok_noTL xs h
  | .dT _ _ _, h => h
  | .ins _ _ _ _ xs, h => ok_noTL xs h
  | .tup xs, h => ok_noTL xs h
theorem ok_noTL : ∀ os : List O, okTL os = true → noTL os = true
  | [], _ => rfl
  | o :: os, h => by
    have h' : (okT o && okTL os) = true := h
    rw [Bool.and_eq_true] at h'
    show (noT o && noTL os) = true
    rw [ok_noT o h'.1, ok_noTL os h'.2]
    rfl
end
section
variable {K : PySem.W.Frag} {b b2 h : Hp}
theorem withP_base : Ex b (withP b b2) := fun a u e => by unfold withP; rw [e]
theorem withP_at (s : Ex b b2) {a : Addr} {u : HO} (e : b2 a = some u) (p : plainH u = true) : withP b b2 a = some u := by
  unfold withP
  cases q : b a with
  | some w =>
    have := s a w q
    rw [e] at this
    cases this
    rfl
  | none => rw [e]; exact if_pos p
theorem withP_in (s : Ex b b2) : Ex (withP b b2) b2 := fun a u e => by
  unfold withP at e
  cases q : b a with
  | some w => rw [q] at e; cases e; exact s a _ q
  | none =>
    rw [q] at e
    dsimp only at e
    split at e
    · rename_i w ev
      split at e
      · cases e; exact ev
      · cases e
    · cases e
theorem withP_none {a : Addr} (n : b a = none) (n2 : b2 a = none) : withP b b2 a = none := by
  unfold withP
  rw [n, n2]
theorem withP_new {a : Addr} (n : b a = none) (hp : ∀ u, b2 a = some u → plainH u = false) : withP b b2 a = none := by
  unfold withP
  rw [n]
  dsimp only
  split
  · rename_i w ev
    rw [if_neg (by rw [hp w ev]; decide)]
  · rfl
mutual
theorem den_withP (s : Ex b b2) : ∀ (d : D) (v : V), tupX d = true → den K b2 d v → den K (withP b b2) d v
  | .tup ds, _, t, ⟨a, vs, e, q, z⟩ => ⟨a, vs, e, withP_at s q rfl, denL_withP s ds vs t z⟩
  | .dT ks ds, _, t, ⟨a, vs, e, q, l, z⟩ => ⟨a, vs, e, withP_at s q rfl, l, denL_withP s ds vs t z⟩
  | .int _, _, _, z => z
  | .bl _, _, _, z => z
  | .non, _, _, z => z
  | .str _, _, _, z => z
  | .ty _, _, t, _ => by cases t
  | .fn _, _, t, _ => by cases t
  | .lst _, _, t, _ => by cases t
  | .frl _, _, t, _ => by cases t
  | .dK _ _, _, t, _ => by cases t
  | .ins _ _ _, _, t, _ => by cases t
  | .exc _ _ _ _ _, _, t, _ => by cases t
  | .frt _, _, t, _ => by cases t
theorem denL_withP (s : Ex b b2) : ∀ (ds : List D) (vs : List V), tupXL ds = true → denL K b2 ds vs → denL K (withP b b2) ds vs
  | [], _, _, z => z
  | d :: ds, _, t, ⟨v, r, e, z, q⟩ => by
    have t' : (tupX d && tupXL ds) = true := t
    rw [Bool.and_eq_true] at t'
    exact ⟨v, r, e, den_withP s d v t'.1 z, denL_withP s ds r t'.2 q⟩
end
mutual
theorem own_withP (s : Ex b b2) : ∀ (o : O) (v : V), okT o = true → own K b2 h o v → own K (withP b b2) h o v
  | .pur d, v, t, z => den_withP s d v t z
  | .lst p xs, _, t, ⟨e1, vs, h1, h2⟩ => ⟨e1, vs, h1, ownL_withP s xs vs t h2⟩
  | .dK p ks xs, _, t, ⟨e1, vs, h1, h3, h2⟩ => ⟨e1, vs, h1, h3, ownL_withP s xs vs t h2⟩
  | .dT p ks xs, _, t, _ => by cases t
  | .ins p dx C fs xs, _, t, ⟨e1, vs, h1, h4, h3, h2⟩ => ⟨e1, vs, h1, h4, h3, ownL_withP s xs vs t h2⟩
  | .tup xs, _, t, ⟨a, vs, e1, h1, h2⟩ => ⟨a, vs, e1, withP_at s h1 rfl, ownL_withP s xs vs t h2⟩
theorem ownL_withP (s : Ex b b2) : ∀ (os : List O) (vs : List V), okTL os = true → ownL K b2 h os vs → ownL K (withP b b2) h os vs
  | [], _, _, x => x
  | o :: os, _, t, ⟨v, r, e1, h1, h2⟩ => by
    have t' : (okT o && okTL os) = true := t
    rw [Bool.and_eq_true] at t'
    exact ⟨v, r, e1, own_withP s o v t'.1 h1, ownL_withP s os r t'.2 h2⟩
end
mutual
/-- what a tree without tables owns is not plain -/
theorem own_np : ∀ (o : O) (v : V), noT o = true → own K b h o v → ∀ a ∈ foot o, ∀ u, h a = some u → plainH u = false
  | .pur d, v, _, x, a, z, _, _ => by simp [foot] at z
  | .lst p xs, _, t, ⟨e1, vs, h1, h2⟩, a, z, u, e => by
    rcases List.mem_cons.mp z with q | z
    · subst q; rw [h1] at e; cases e; rfl
    · exact ownL_np xs vs t h2 a z u e
  | .dK p ks xs, _, t, ⟨e1, vs, h1, h3, h2⟩, a, z, u, e => by
    rcases List.mem_cons.mp z with q | z
    · subst q; rw [h1] at e; cases e; rfl
    · exact ownL_np xs vs t h2 a z u e
  | .dT p ks xs, _, t, _, a, z, u, e => by cases t
  | .ins p dx C fs xs, _, t, ⟨e1, vs, h1, h4, h3, h2⟩, a, z, u, e => by
    rcases List.mem_cons.mp z with q | z
    · subst q; rw [h1] at e; cases e; rfl
    · rcases List.mem_cons.mp z with q | z
      · subst q; rw [h4] at e; cases e; rfl
      · exact ownL_np xs vs t h2 a z u e
  | .tup xs, _, t, ⟨_, vs, e1, h1, h2⟩, a, z, u, e => ownL_np xs vs t h2 a z u e
theorem ownL_np : ∀ (os : List O) (vs : List V), noTL os = true → ownL K b h os vs → ∀ a ∈ footL os, ∀ u, h a = some u → plainH u = false
  | [], _, _, _, a, z, _, _ => by simp [footL] at z
  | o :: os, _, t, ⟨v, r, e1, h1, h2⟩, a, z, u, e => by
    have t' : (noT o && noTL os) = true := t
    rw [Bool.and_eq_true] at t'
    rcases List.mem_append.mp z with z | z
    · exact own_np o v t'.1 h1 a z u e
    · exact ownL_np os r t'.2 h2 a z u e
end
end
def noTG (g : Gam) : Bool := g.all fun x => match x with
  | some o => noT o
  | none => true
open Classical in
/-- the base with what the slots own -/
noncomputable def bFrz (b h : Hp) (g : Gam) : Hp := fun a => if inF g a then h a else b a
section
variable {X : Cx} {W : WX} {e : Expr}
theorem Hold.look2 {K : PySem.W.Frag} {b h : Hp} {σ : L2.St} {g : Gam} (k : Hold K b h σ g) : Hold K (bFrz b h g) h σ (frzG g) ∧ Ex b (bFrz b h g) := by
  have e0 : Ex b (bFrz b h g) := fun a u e => by
    unfold bFrz
    rw [if_neg fun z => by rw [k.inF_nb z] at e; cases e]
    exact e
  refine ⟨⟨fun a u e => ?_, by rw [k.len]; simp [frzG], fun i o e => ?_, fun i o e => ?_, fun i j o u n e1 e2 a m => ?_, fun i o e a m => ?_⟩, e0⟩
  · unfold bFrz at e
    split at e
    · exact e
    · exact k.sub a u e
  · obtain ⟨u, e1, rfl⟩ := frzG_at e
    obtain ⟨v, e2, z⟩ := k.sl i u e1
    exact ⟨v, e2, own_frz e0 u v z fun a m => by unfold bFrz; exact if_pos ⟨i, u, e1, m⟩⟩
  · obtain ⟨u, e1, rfl⟩ := frzG_at e
    exact List.nodup_nil
  · obtain ⟨u, e1, rfl⟩ := frzG_at e1
    cases m
  · obtain ⟨u, e1, rfl⟩ := frzG_at e
    cases m
theorem frzG_noF {g : Gam} {a : Addr} : ¬ inF (frzG g) a := fun ⟨i, o, e, m⟩ => by
  obtain ⟨u, _, rfl⟩ := frzG_at e
  cases m
@[irreducible] def okP3 (g : Gam) (o : O) (P : Prop) : Prop := noTG g = true ∧ okT o = true ∧ P
theorem okP3_i {g : Gam} {o : O} {P : Prop} (hg : noTG g = true) (h : okT o = true) (p : P) : okP3 g o P := by unfold okP3; exact ⟨hg, h, p⟩
def wPeek3 (w : WE) : WE := fun _ g P => w (fun _ _ => False) (frzG g) fun o _ => okP3 g o (P o g)
theorem ge_peek3 {t : TE} {w : WE} (ht : GE X W e t w) : GE X W e t (wPeek3 w) := by
  refine ⟨ht.pe, fun b h σ g We P Q k hw hx ct => ?_⟩
  obtain ⟨kL, eL⟩ := k.look2
  refine ht.se _ h σ (frzG g) _ _ _ kL hw contX0 fun v b2 h2 g2 o k2 f2 pp => ?_
  unfold okP3 at pp
  obtain ⟨hg, ok, p⟩ := pp
  have e2 : Ex h h2 := fun a u e => f2.keep a u e frzG_noF
  obtain ⟨k3, f3⟩ := k.looked e2
  have eb : Ex b b2 := eL.trans f2.bs
  have s3 : Ex (withP b b2) h2 := (withP_in eb).trans k2.sub
  have gnp : ∀ a, inF g a → ∀ u, b2 a = some u → plainH u = false := fun a z u hu => by
    obtain ⟨i, o', e1, m⟩ := z
    obtain ⟨v', _, zz⟩ := k3.sl i o' e1
    exact own_np o' v' (List.all_eq_true.mp hg (some o') (List.mem_of_getElem? e1)) zz a m u (k2.sub a u hu)
  have k4 : Hold X.K (withP b b2) h2 σ g := k3.grow withP_base s3 fun a z => withP_new (k3.inF_nb z) (gnp a z)
  obtain ⟨zo, ndo, nbo, djo⟩ := k2.head
  have fr : ∀ a ∈ foot o, h a = none := fun a m => (f2.new a (inF_cons.mpr (.inl ⟨_, rfl, m⟩))).elim (fun z => absurd z frzG_noF) id
  have ng : ∀ a ∈ foot o, ¬ inF g a := fun a m z => by
    obtain ⟨u, hu⟩ := k.inF_there z
    rw [fr a m] at hu
    cases hu
  refine ct v (withP b b2) h2 g o (k4.cons (own_withP eb o v ok zo) ndo (fun a m => withP_none (Evl.fresh_back k.sub (fr a m)) (nbo a m)) ng) ⟨withP_base, f3.keep, fun a u e1 t eb0 n => ?_, fun a z => ?_⟩ p
  · exact withP_none eb0 (f2.nb a u e1 t (by unfold bFrz; rw [if_neg n]; exact eb0) frzG_noF)
  · rcases inF_cons.mp z with ⟨u, e, m⟩ | z
    · cases e
      exact .inr (fr a m)
    · exact .inl z
end
/-! ### enumerate of a name that is a list or a tuple -/
section
variable {X : Cx} {W : WX}
def wIEnV (i : Nat) : WI := fun _ g P => match g[i]? with
  | some (some (.pur d)) => seqP d fun ds => P (enD 0 ds) g
  | _ => False
theorem gi_enumV {i : Nat} {x : Str} {p p1 pos tpos : Pos} {elts : List Expr} {kk : Nat} (hm : X.mg "enumerate" = none) (hg : Gl X "enumerate" := by rfl) (hN : X.N[i]? = some x := by rfl) (hv : Vis X.env.scope x := by first | exact Or.inl rfl | exact Or.inr (Or.inl rfl) | exact Or.inr (Or.inr rfl))
    (hd : (x == ("__debug__" : Str)) = false := by decide) (hcd : (x == ("__classdict__" : Str)) = false := by decide) (hs : starEach [.Name x p1] X.env = [(false, eval (.Name x p1) X.env)] := by rfl) {K : PySem.W.Frag} (hK : X.K = K := by exact rfl) :
    GI X W (.Tuple elts kk tpos) (.Call (.Name "enumerate" p) [.Name x p1] [] pos) (fun σ H R => iEnum K (tCons (tVar i) tNil) σ H R ∨ TQ.iEnT K (tCons (tVar i) tNil) σ H R) (wIEnV i) := by
  subst hK
  have GV : GE X W (.Name x p1) (tVar i) (wVar i) := ge_var hN hv hd hcd
  have GAV : GA X W [.Name x p1] (tCons (tVar i) tNil) (wCons (wVar i) wNil) := ga_cons GV ga_nil hs
  have GL := gi_enumL (X := X) (W := W) (p := p) (pos := pos) (tpos := tpos) (elts := elts) (kk := kk) hm GAV hg hs
  have GT := gi_enumT (X := X) (W := W) (p := p) (pos := pos) (tpos := tpos) (elts := elts) (kk := kk) hm GAV hg hs
  refine ⟨⟨fun pins s σ H R I h => ?_⟩, fun b h σ g We P Q k hw hx c => ?_⟩
  · rcases h with h | h
    · exact GL.pe.run pins s σ H R I h
    · exact GT.pe.run pins s σ H R I h
  · unfold wIEnV at hw
    split at hw
    · rename_i d e
      unfold seqP at hw
      obtain ⟨ds, e2, hw⟩ := hw
      rcases e2 with e2 | e2 <;> subst e2
      · refine .inl (GL.se b h σ g We P Q k ?_ hx c)
        unfold wIEnL wCons wVar
        rw [e]
        exact hw
      · refine .inr (GT.se b h σ g We P Q k ?_ hx c)
        unfold wIEnT wCons wVar
        rw [e]
        exact hw
    · exact hw.elim
end
/-! ### an own ==, within a block too -/
theorem og_ownB {X : Cx} {k : Nat} {C : Addr} {ps : List Str} {pm : Pm} {P : Program} {w : World} {K : PySem.W.Frag} {mg : Str → Option Value} {base : Heap} (x : ClsX K C) (F : FnM P w K mg base k C "__eq__" ps pm) (h2 : ps.length = 2) (hr : Room k X.A)
    (hK : X.K = K := by exact rfl) (hP : X.prog = P := by exact rfl) (hw : X.w = w := by exact rfl) (hm : X.mg = mg := by exact rfl) (hb : X.base = base := by exact rfl) : OpG X (compareOp .Eq) (rOwnEq K C (spOf K ps.length pm)) (roOwnEq C pm) := by
  subst hK hP hw hm hb
  exact og_own x F h2 hr
end G
/-! TMul: a tuple times 0, 1 or more. -/
namespace TQ
open PySem PySem.Spec PyProof.Rows L2
def TAt (l : Addr) (items : Array Value) (n : Nat) (dd : Option Addr) (sl : Array (Option Value)) (h : Heap) : Prop := h.get? l = some { cls := .type "tuple", dict := dd, data := .seq items n, slots := sl }
theorem tuple_mul1 (l : Addr) (items : Array Value) (n : Nat) (dd : Option Addr) (sl : Array (Option Value)) (u : Tok) :
    Meets (Builtin.«tuple.__mul__» ⟨[.ref l, .int 1 u], []⟩) (fun _ R s => TAt l items n dd sl s.heap ∧ R (.ok (.ret (.ref l))) s) :=
  .of_wp fun prog w A R s hh => by
    obtain ⟨hp, g, d, tk, os⟩ := s
    obtain ⟨hl, h⟩ := hh
    unfold TAt at hl
    have f1 := AutoSeq1.idx_int
    wp_walk using wpAny_loadPart' hl
    exact ⟨_, rfl, h⟩
theorem tuple_mul0 (l : Addr) (items : Array Value) (n : Nat) (dd : Option Addr) (sl : Array (Option Value)) (u : Tok) (hi : items.isEmpty = false) :
    Meets (Builtin.«tuple.__mul__» ⟨[.ref l, .int 0 u], []⟩) (fun _ R s => TAt l items n dd sl s.heap ∧
      R (.ok (.ret (Value.ref s.heap.objs.size))) { s with heap := s.heap.push { cls := Value.type "tuple", data := Data.seq #[] }, toks := s.toks }) :=
  .of_wp fun prog w A R s hh => by
    obtain ⟨hp, g, d, tk, os⟩ := s
    obtain ⟨hl, h⟩ := hh
    unfold TAt at hl
    have f1 := AutoSeq1.idx_int
    wp_walk using wpAny_loadPart' hl
    exact ⟨_, rfl, h⟩
/-- tuple * int, the int from 0 to 1000 -/
def rRepN (K : PySem.W.Frag) : R2 := fun x y H Q => ∃ (l : Addr) (k : Int) (xs : List V), x = .ref l ∧ y = .int k ∧ SqT K H l xs ∧ xs ≠ [] ∧ 0 ≤ k ∧ k ≤ 1000 ∧ xs.length ≤ 1000 ∧ (k = 1 → Q (.ref l) H) ∧ (k ≠ 1 → ∀ p, H p = none → Q (.ref p) (upd H p (.tup (List.replicate k.toNat xs).flatten)))
theorem op_repN {X : Cx} : OpR X (binaryOp .Mult) (rRepN X.K) := by
  intro pins s σ H x y v u Q I rx ry h
  obtain ⟨l, k, xs, rfl, rfl, hT, hne, h1, h2, hz, q1, q2⟩ := h
  by_cases hk : 2 ≤ k
  · exact op_repT pins s σ H _ _ v u Q I rx ry ⟨l, k, xs, rfl, rfl, hT, hne, hk, h2, hz, q2 (by omega)⟩
  cases rx
  obtain ⟨t, rfl⟩ := ry
  obtain ⟨its, r, ⟨⟨cls, dd, data, sl⟩, ho, hc, n, hd⟩, hs⟩ := I.tuple hT
  simp only at hc hd
  subst hc hd
  have hle : its.length = xs.length := r.length.symm
  have hi : its.toArray.isEmpty = false := by
    cases its with
    | nil => exact absurd (List.eq_nil_of_length_eq_zero hle.symm) hne
    | cons a b => rfl
  have go : ∀ {Q2 : Value → Shared → Prop}, wpAny (model X.prog X.w) X.A (call (.builtin "tuple.__mul__") [.ref l, .int k t]) Q2 X.xe s → wpAny (model X.prog X.w) X.A (binaryOp .Mult (.ref l) (.int k t)) Q2 X.xe s := fun {Q2} hcall =>
    wpAny_binaryOp_repeat_ref (T := "tuple") (U := "int") (by decide) ⟨_, ho, rfl⟩ (fun s' => typeIs_int s' k t) noFill_tuple_mul F.fills_int_mul F.slot_int_rmul repeat_tuple F.slot_int_index.lookup
      (call_meets F.slot_int_rmul (typeIs_int s k t) F.entry_int_rmul (F.args_int_rmul_2 _ _) (int_rmul_tuple k t l its.toArray n dd sl) ⟨ho, rfl, ⟨_, ho, rfl⟩, hcall⟩)
  have hk2 : k = 0 ∨ k = 1 := by omega
  rcases hk2 with rfl | rfl
  · refine go (call_meets F.slot_tuple_mul ⟨_, ho, rfl⟩ F.entry_tuple_mul (F.args_tuple_mul_2 _ _) (tuple_mul0 l its.toArray n dd sl t hi) ⟨ho, ?_⟩)
    refine ⟨.ref s.heap.objs.size, _, I.laid (t' := s.toks) (o := .tup (List.replicate (0 : Int).toNat xs).flatten) (fun b ob q => Heap.get?_push_of_some _ q) (Nat.le_refl _) ?_, rfl, q2 (by decide) _ (I.hok.fresh (Nat.le_refl _))⟩
    exact ⟨Nat.zero_le _, [], .nil, IsTup.new _ _⟩
  · refine go (call_meets F.slot_tuple_mul ⟨_, ho, rfl⟩ F.entry_tuple_mul (F.args_tuple_mul_2 _ _) (tuple_mul1 l its.toArray n dd sl t) ⟨ho, ?_⟩)
    exact ⟨.ref l, H, I, rfl, q1 rfl⟩
end TQ
namespace G
open PySem PySem.Spec PyProof.Rows L2 TQ
open Evl (Ex)
def roRepT : RO := fun x y P => match x, y with
  | .tup ds, .int k => ds ≠ [] ∧ 0 ≤ k ∧ k ≤ 1000 ∧ ds.length ≤ 1000 ∧ P (.pur (.tup (List.replicate k.toNat ds).flatten))
  | _, _ => False
theorem denL_app2 {K : PySem.W.Frag} {b : Hp} : ∀ {ds es : List D} {vs us : List V}, denL K b ds vs → denL K b es us → denL K b (ds ++ es) (vs ++ us)
  | [], _, _, _, z, t => by have z' : _ = ([] : List V) := z; subst z'; exact t
  | d :: ds, _, _, _, ⟨v, r, e, zd, q⟩, t => by subst e; exact ⟨v, _, rfl, zd, denL_app2 q t⟩
theorem denL_rep {K : PySem.W.Frag} {b : Hp} {ds : List D} {vs : List V} (t : denL K b ds vs) : ∀ n : Nat, denL K b (List.replicate n ds).flatten (List.replicate n vs).flatten
  | 0 => rfl
  | n + 1 => by
    rw [List.replicate_succ, List.replicate_succ, List.flatten_cons, List.flatten_cons]
    exact denL_app2 t (denL_rep t n)
theorem og_repT {X : Cx} {K : PySem.W.Frag} (hK : X.K = K := by exact rfl) : OpG X (binaryOp .Mult) (rRepN K) roRepT := by
  subst hK
  refine ⟨op_repN, fun b hh x y dx dy P Q s zx zy hr c => ?_⟩
  unfold roRepT at hr
  split at hr
  · rename_i ds k
    obtain ⟨h0, h1, h2, h3, hp⟩ := hr
    obtain ⟨a, vs, rfl, ha, t⟩ := id zx
    have ey : y = .int k := zy
    have ln := denL_len t
    refine ⟨a, k, vs, rfl, ey, SqT.of (s _ _ ha), fun e => h0 (List.eq_nil_of_length_eq_zero (by rw [ln, e]; rfl)), h1, h2, by omega, fun e => ?_, fun e p np => ?_⟩
    · subst e
      have : (List.replicate (1 : Int).toNat ds).flatten = ds := by simp
      rw [this] at hp
      exact c _ b hh (.pur (.tup ds)) (Res.same s zx) hp
    · exact c _ _ _ (.pur (.tup _)) (Res.new (ob := .tup (List.replicate k.toNat vs).flatten) s np ⟨p, _, rfl, upd_same, denL_mono (Ex.new (Evl.fresh_back s np)) _ _ (denL_rep t _)⟩) hp
  · exact hr.elim
end G
/-! TEv: xs[::2] of at most three items. -/
namespace TQ
open PySem PySem.Spec PyProof.Rows L2
def ev3 {α : Type} : List α → List α
  | [a] => [a]
  | [a, _] => [a]
  | [a, _, c] => [a, c]
  | _ => []
theorem pick_ev : ∀ {its : List Value}, its.length ≤ 3 → slicePick its.toArray none none (some 2) = (ev3 its).toArray
  | [], _ => by with_unfolding_all rfl
  | [a], _ => by with_unfolding_all rfl
  | [a, b], _ => by with_unfolding_all rfl
  | [a, b, c], _ => by with_unfolding_all rfl
  | _ :: _ :: _ :: _ :: _, h => by simp at h
theorem ev_vals : ∀ {xs : List V} {its : List Value}, Vals xs its → Vals (ev3 xs) (ev3 its)
  | [], _, .nil => .nil
  | [_], _, .cons a .nil => .cons a .nil
  | [_, _], _, .cons a (.cons _ .nil) => .cons a .nil
  | [_, _, _], _, .cons a (.cons _ (.cons c .nil)) => .cons a (.cons c .nil)
  | _ :: _ :: _ :: _ :: _, _, .cons _ (.cons _ (.cons _ (.cons _ _))) => .nil
theorem ev_len {α : Type} : ∀ xs : List α, (ev3 xs).length ≤ 2
  | [] => Nat.zero_le _
  | [_] => Nat.le_succ _
  | [_, _] => Nat.le_succ _
  | [_, _, _] => Nat.le_refl _
  | _ :: _ :: _ :: _ :: _ => Nat.zero_le _
def tEv (K : PySem.W.Frag) (te : TE) : TE := fun σ H Q => te σ H fun x H1 => ∃ a xs, x = .ref a ∧ SqL K H1 a xs ∧ xs.length ≤ 3 ∧ ∀ p, H1 p = none → Q (.ref p) (upd H1 p (.lst (ev3 xs)))
theorem pe_ev {X : Cx} {e : Expr} {te : TE} {k : Nat} {p1 p3 pos : Pos} (he : PE X e te) : PE X (.Subscript e (.Slice none none (some (.Constant (.int 2) k p1)) p3) pos) (tEv X.K te) := by
  constructor
  intro pins s0 σ H0 Q I0 h0
  refine Subscript_ (thn (he.run pins s0 σ H0 _ I0 h0) ?_)
  rintro v s1 ⟨x, H, I, rx, a, xs, rfl, hx, h3, q⟩
  cases rx
  have two : PO X (some (.Constant (.int 2) k p1)) (tPart (tC (.int 2))) := po_some pe_int
  refine wpAny_Slice (thn (po_none.run pins s1 σ H (fun o H2 => o = none ∧ H2 = H) I ⟨rfl, rfl⟩) ?_)
  rintro vl s2 ⟨_, _, I2, pl, rfl, rfl⟩
  refine thn (po_none.run pins s2 σ _ (fun o H3 => o = none ∧ H3 = _) I2 ⟨rfl, rfl⟩) ?_
  rintro vu s3 ⟨_, _, I3, pu, rfl, rfl⟩
  refine thn (two.run pins s3 σ _ (fun o H4 => o = some 2 ∧ H4 = _) I3 ⟨2, rfl, rfl, rfl⟩) ?_
  rintro vs s4 ⟨_, _, I4, ps, rfl, rfl⟩
  have I5 : Inv X pins σ _ { s4 with heap := s4.heap.push { cls := .type "slice", data := .fields #[vl, vu, vs] } } := I4.kept (t' := s4.toks) fun _ _ z => Heap.get?_push_of_some _ z
  obtain ⟨its, rv, hl, hz⟩ := I5.list hx
  have hn : its.length ≤ 3 := by rw [← rv.length]; exact h3
  show wpAny (model X.prog X.w) X.A (subscriptTail e (.Slice none none (some (.Constant (.int 2) k p1)) p3) (.ref a) (.ref s4.heap.objs.size)) (EP X pins σ Q) X.xe _
  refine tail_any (ops := [.ref a, .ref s4.heap.objs.size]) hl.isList.typeIs (PySem.slot_list_getitem.lookup) (wpAny_getItem_list_slice hl.isList (Heap.IsSliceOf.new _ vl vu vs) pl pu ps (by decide) ?_ (by rw [List.size_toArray, sizeLine_eq]; omega)) (by with_unfolding_all rfl)
  rw [pick_ev hn]
  refine ⟨.ref _, _, I5.laid (t' := s4.toks) (o := .lst (ev3 xs)) (fun _ _ z => Heap.get?_push_of_some _ z) (Nat.le_refl _) ⟨?_, _, 0, ev_vals rv, Heap.get?_push_size _ rfl⟩, rfl, q _ (I5.hok.fresh (Nat.le_refl _))⟩
  have := ev_len xs
  rw [sizeLine_eq]
  omega
end TQ
namespace G
open PySem PySem.Spec PyProof.Rows L2 TQ
open Evl (Ex)
def wEv (we : WE) : WE := fun We g P => we We g fun o g1 => match o.d with
  | .lst ds => ds.length ≤ 3 ∧ ∀ p, P (.lst p ((ev3 ds).map .pur)) g1
  | _ => False
theorem denL_ev {K : PySem.W.Frag} {b : Hp} : ∀ {ds : List D} {vs : List V}, denL K b ds vs → denL K b (ev3 ds) (ev3 vs)
  | [], _, z => by have z' : _ = ([] : List V) := z; subst z'; rfl
  | [_], _, ⟨v, _, rfl, z, t⟩ => by have t' : _ = ([] : List V) := t; subst t'; exact ⟨v, [], rfl, z, rfl⟩
  | [_, _], _, ⟨v, _, rfl, z, ⟨u, _, rfl, y, t⟩⟩ => by have t' : _ = ([] : List V) := t; subst t'; exact ⟨v, [], rfl, z, rfl⟩
  | [_, _, _], _, ⟨v, _, rfl, z, ⟨u, _, rfl, y, ⟨w, _, rfl, x, t⟩⟩⟩ => by have t' : _ = ([] : List V) := t; subst t'; exact ⟨v, [w], rfl, z, w, [], rfl, x, rfl⟩
  | _ :: _ :: _ :: _ :: _, _, ⟨_, _, rfl, _, ⟨_, _, rfl, _, ⟨_, _, rfl, _, ⟨_, _, rfl, _, _⟩⟩⟩⟩ => rfl
theorem ge_ev {X : Cx} {W : WX} {e : Expr} {te : TE} {we : WE} {k : Nat} {p1 p3 pos : Pos} (he : GE X W e te we) {K : PySem.W.Frag} (hK : X.K = K := by exact rfl) : GE X W (.Subscript e (.Slice none none (some (.Constant (.int 2) k p1)) p3) pos) (tEv K te) (wEv we) := by
  subst hK
  refine ⟨pe_ev he.pe, fun b h σ g We P Q kk hw hx ct => ?_⟩
  refine he.se b h σ g We _ _ kk hw hx fun v b' h' g' o k' f' p' => ?_
  obtain ⟨b2, k2, f2, z⟩ := come k' f'
  split at p'
  · rename_i ds ed
    obtain ⟨hl, p'⟩ := p'
    rw [ed] at z
    obtain ⟨a, vs, rfl, q, t⟩ := z
    refine ⟨a, vs, rfl, SqL.of (k2.sub _ _ q), by rw [← denL_len t]; exact hl, fun p np => ?_⟩
    exact fin k2 f2 (Res.own1 (o := .lst p ((ev3 ds).map .pur)) k2.sub np ⟨rfl, _, upd_same, ownL_pur (denL_ev t)⟩ (by simp [foot, footL_pur])) ct (p' p)
  · exact p'.elim
end G
/-! G: a value that is pure from its making on. -/
namespace G
open PySem PySem.Spec PyProof.Rows L2
open Evl (Ex)
section
variable {X : Cx} {W : WX} {e : Expr}
def wFz (w : WE) : WE := fun We g P => w We g fun o g1 => P (.pur o.d) g1
theorem ge_fz {t : TE} {w : WE} (ht : GE X W e t w) : GE X W e t (wFz w) := by
  refine ⟨ht.pe, fun b h σ g We P Q k hw hx ct => ?_⟩
  refine ht.se b h σ g We _ Q k hw hx fun v b2 h2 g2 o k2 f2 p => ?_
  obtain ⟨b3, k3, f3, z⟩ := come k2 f2
  exact fin k3 f3 (Res.same k3.sub z) ct p
theorem gs_setLcF {i : Nat} {y : Str} {py : Pos} {elt tg iter : Expr} {ifs : List Expr} {scope : Scope} {own : List (Str × Nat)} {ts : List Nat} {pos spos : Pos} {ti : TI} {tg' : TG} {tt : TT} {te : TE} {wi : WI} {wg : WG} {wt : WT} {we : WE} (hc : X.calm = true) (hN : X.N.Nodup)
    (hi : GI X W tg iter ti wi) (ok : BlkOk X.N X.env.scope scope own)
    (hg : ∀ (s : Shared) (H : Hp) (C : Addr) (cl : List (Str × Addr)) (fp : List Addr), GB (X.blk s H scope (compEnvC scope cl C X.env) fp) tg ts tg' wg)
    (ht : ∀ (s : Shared) (H : Hp) (C : Addr) (cl : List (Str × Addr)) (fp : List Addr), GTs (X.blk s H scope (compEnvC scope cl C X.env) fp) W0 ifs tt wt)
    (he : ∀ (s : Shared) (H : Hp) (C : Addr) (cl : List (Str × Addr)) (fp : List Addr), GE (X.blk s H scope (compEnvC scope cl C X.env) fp) W0 elt te we)
    (hsw : swapsWith (.ListComp elt [⟨tg, iter, ifs, 0⟩] scope pos) (some (.Name y py)) spos.line X.env = pure true) (hy : X.N[i]? = some y := by rfl) (hyl : X.env.scope.names.lookup y = some .local := by rfl)
    (hts : ∀ i ∈ ts, i ∈ own.map (·.2) := by decide) (hs : ∀ x, foldedSetIterable iter X.env x = pure x := by intro _; rfl) :
    GS X W (.Assign [.Name y py] (.ListComp elt [⟨tg, iter, ifs, 0⟩] scope pos) spos) (wSet i (wFz (wLc wi wg wt we (own.map (·.2))))) := by
  refine ⟨tAsg (tLc ti tg' tt te (own.map (·.2))) (gName i), ps_setLc hc hN hy hyl hsw hi.pe ok (fun s H C cl fp => (hg s H C cl fp).pe) (fun s H C cl fp => (ht s H C cl fp).pe) (fun s H C cl fp => (he s H C cl fp).pe) hs, fun b h σ g We E D k hw hx ct => ?_⟩
  refine (ge_fz (ge_lc (pos := pos) hc hN hi ok hg ht he hts hs)).se b h σ g We _ _ k hw hx fun v b' h' g' o k' f' p' => ?_
  obtain ⟨k2, s2⟩ := k'.put i
  exact ct.nx _ b' h' _ k2 (f'.sub s2) p'
end
end G
/-! G: max and min of a list of ints. -/
namespace G
open PySem PySem.Spec PyProof.Rows L2
open Evl (Ex)
section
variable {X : Cx}
@[irreducible] def rcMax1 : RC1 := fun ds P => match ds with
  | [.lst xs] => (match intsOf xs with
    | some ks => 0 < ks.length ∧ ∀ m, m ∈ ks → (∀ y, y ∈ ks → y ≤ m) → P (.pur (.int m))
    | none => False)
  | _ => False
@[irreducible] def rcMin1 : RC1 := fun ds P => match ds with
  | [.lst xs] => (match intsOf xs with
    | some ks => 0 < ks.length ∧ ∀ m, m ∈ ks → (∀ y, y ∈ ks → m ≤ y) → P (.pur (.int m))
    | none => False)
  | _ => False
theorem cg_max1 (hc : X.calm = true) {K : PySem.W.Frag} (hK : X.K = K := by exact rfl) : CallG X (.builtin "max") (rMax K) rcMax1 := by
  subst hK
  refine ⟨cr_max hc, fun b hh xs ds P Q s z hp c => ?_⟩
  unfold rcMax1 at hp
  split at hp
  · rename_i us
    obtain ⟨v, rfl, a, vs, rfl, q, t⟩ := denL1 z
    split at hp
    · rename_i ks e
      have e2 := ints_ok t e
      subst e2
      exact ⟨a, ks, rfl, SqL.of (s _ _ q), hp.1, fun m h1 h2 => c _ b hh (.pur (.int _)) (Res.same s rfl) (hp.2 m h1 h2)⟩
    · exact hp.elim
  · exact hp.elim
theorem cg_min1 (hc : X.calm = true) {K : PySem.W.Frag} (hK : X.K = K := by exact rfl) : CallG X (.builtin "min") (rMin K) rcMin1 := by
  subst hK
  refine ⟨cr_min hc, fun b hh xs ds P Q s z hp c => ?_⟩
  unfold rcMin1 at hp
  split at hp
  · rename_i us
    obtain ⟨v, rfl, a, vs, rfl, q, t⟩ := denL1 z
    split at hp
    · rename_i ks e
      have e2 := ints_ok t e
      subst e2
      exact ⟨a, ks, rfl, SqL.of (s _ _ q), hp.1, fun m h1 h2 => c _ b hh (.pur (.int _)) (Res.same s rfl) (hp.2 m h1 h2)⟩
    · exact hp.elim
  · exact hp.elim
end
theorem max1_i {xs : List D} {ks : List Int} {P : O → Prop} (e : xs = ks.map .int) (hl : 0 < ks.length) (h : ∀ m, m ∈ ks → (∀ y, y ∈ ks → y ≤ m) → P (.pur (.int m))) : rcMax1 [.lst xs] P := by
  subst e
  unfold rcMax1
  show (match intsOf (ks.map .int) with
    | some ks => 0 < ks.length ∧ ∀ m, m ∈ ks → (∀ y, y ∈ ks → y ≤ m) → P (.pur (.int m))
    | none => False)
  rw [ints_intsOf]
  exact ⟨hl, h⟩
theorem min1_i {xs : List D} {ks : List Int} {P : O → Prop} (e : xs = ks.map .int) (hl : 0 < ks.length) (h : ∀ m, m ∈ ks → (∀ y, y ∈ ks → m ≤ y) → P (.pur (.int m))) : rcMin1 [.lst xs] P := by
  subst e
  unfold rcMin1
  show (match intsOf (ks.map .int) with
    | some ks => 0 < ks.length ∧ ∀ m, m ∈ ks → (∀ y, y ∈ ks → m ≤ y) → P (.pur (.int m))
    | none => False)
  rw [ints_intsOf]
  exact ⟨hl, h⟩
end G
/-! G: tuples of the text, and tuples looked at as such. -/
namespace G
open PySem PySem.Spec PyProof.Rows L2
open Evl (Ex)
def D.weak : D → D
  | .tup ds => .frt ds
  | d => d
theorem den_weak {K : PySem.W.Frag} {b : Hp} {d : D} {v : V} (z : den K b d v) : den K b d.weak v := by
  cases d with
  | tup ds =>
    obtain ⟨a, vs, e, q, t⟩ := z
    exact ⟨a, vs, e, .inl q, t⟩
  | _ => exact z
section
variable {X : Cx} {W : WX} {e : Expr}
/-- a value that is looked at as a tuple of either kind -/
def wWk (w : WE) : WE := fun We g P => w We g fun o g1 => P (.pur o.d.weak) g1
theorem ge_wk {t : TE} {w : WE} (ht : GE X W e t w) : GE X W e t (wWk w) := by
  refine ⟨ht.pe, fun b h σ g We P Q k hw hx ct => ?_⟩
  refine ht.se b h σ g We _ Q k hw hx fun v b2 h2 g2 o k2 f2 p => ?_
  obtain ⟨b3, k3, f3, z⟩ := come k2 f2
  exact fin k3 f3 (Res.same k3.sub (den_weak z)) ct p
/-- a tuple that stands under a name of the text -/
def GTup (K : PySem.W.Frag) (a : Addr) (d : D) : Prop := ∀ b : Hp, den K b d (.ref a)
theorem ge_gtup {x : Str} {a : Addr} {d : D} {pos : Pos} (hm : X.mg x = some (.ref a)) (hz : GTup X.K a d) (hg : Gl X x := by rfl) (hd : (x == ("__debug__" : Str)) = false := by decide) : GE X W (.Name x pos) (tC (.ref a)) (wC d) :=
  ge_c (pe_glob hg hm (v := .ref a) rfl hd) hz
end
/-- a fact: the module's name x is a tuple of these -/
def tupF (x : Str) (vs : List He.Dv) : PySem.W.Frag → Bool := fun K => He.tupB K x vs
theorem frt_of {K : PySem.W.Frag} {x : Str} {vs : List He.Dv} (h : He.tupB K x vs = true) : FrT K (He.ga K x) (vs.map (He.Dv.v K)) := by
  rcases He.tupB_ok h (fun _ => none) with (q | ⟨o, q⟩) | q
  · cases q
  · cases q
  · exact q
theorem gtup_int2 {K : PySem.W.Frag} {x : Str} {i j : Int} (h : He.tupB K x [.int i, .int j] = true) : GTup K (He.ga K x) (.frt [.int i, .int j]) := fun b => ⟨_, _, rfl, .inr (frt_of h), _, _, rfl, rfl, _, _, rfl, rfl, rfl⟩
theorem gtup_glo {K : PySem.W.Frag} {x y : Str} {d : D} {j : Int} (h : He.tupB K x [.glo y, .int j] = true) (hy : GTup K (He.ga K y) d) : GTup K (He.ga K x) (.frt [d, .int j]) := fun b => ⟨_, _, rfl, .inr (frt_of h), _, _, rfl, hy b, _, _, rfl, rfl, rfl⟩
theorem sum_i {xs : List D} {ks : List Int} {P : O → Prop} (e : xs = ks.map .int) (h : P (.pur (.int ks.sum))) : rcSum [.lst xs] P := by
  subst e
  show (match intsOf (ks.map .int) with
    | some ks => P (.pur (.int ks.sum))
    | none => False)
  rw [ints_intsOf]
  exact h
section
variable {X : Cx}
/-- int of a flag -/
def rcIntB : RC1 := fun ds P => match ds with
  | [.bl k] => P (.pur (.int (if k then 1 else 0)))
  | _ => False
theorem cg_intB : CallG X (.type "int") rvInt rcIntB := by
  refine ⟨call_int1, fun b hh xs ds P Q s z hp c => ?_⟩
  unfold rcIntB at hp
  split at hp
  · rename_i k
    obtain ⟨v, r, rfl, z1, z2⟩ := z
    have z1 : v = .bl k := z1
    have z2 : r = [] := z2
    subst z1 z2
    exact .inr ⟨k, rfl, c _ b hh (.pur (.int _)) (Res.same s rfl) hp⟩
  · exact hp.elim
end
end G
/-! G: sum of a list of ints, locked. -/
namespace G
open PySem PySem.Spec PyProof.Rows L2
section
variable {X : Cx}
@[irreducible] def rcSumV : RC1 := rcSum
theorem cg_sumV (hc : X.calm = true) {K : PySem.W.Frag} (hK : X.K = K := by exact rfl) : CallG X (.builtin "sum") (rSum K) rcSumV := by
  unfold rcSumV
  exact cg_sum hc hK
theorem sumV_i {xs : List D} {ks : List Int} {P : O → Prop} (e : xs = ks.map .int) (h : P (.pur (.int ks.sum))) : rcSumV [.lst xs] P := by
  unfold rcSumV
  exact sum_i e h
end
end G
/-! G: zip of two lists, slices of what is a list or a tuple, str of an int. -/
namespace G
open PySem PySem.Spec PyProof.Rows L2
open Evl (Ex)
def zipD (ds es : List D) : List D := (ds.zip es).map fun p => .tup [p.1, p.2]
theorem pair_new {K : PySem.W.Frag} {b b' h' : Hp} {d1 d2 : D} {T : Addr} {x y : V} (e1 : Ex b b') (e2 : Ex b' h') (nT : h' T = none) (z1 : den K b d1 x) (z2 : den K b d2 y) :
    ∃ b2, Ex b' b2 ∧ Ex h' (upd h' T (.tup [x, y])) ∧ Ex b2 (upd h' T (.tup [x, y])) ∧ (∀ a, b2 a ≠ none → b' a = none → newT h' a) ∧ den K b2 (.tup [d1, d2]) (.ref T) := by
  have nb := Evl.fresh_back e2 nT
  refine ⟨upd b' T (.tup [x, y]), Ex.new nb, Ex.new nT, fun a u e => ?_, fun a n1 n2 => ?_, T, [x, y], rfl, upd_same, x, [y], rfl, den_mono (e1.trans (Ex.new nb)) d1 x z1, y, [], rfl, den_mono (e1.trans (Ex.new nb)) d2 y z2, rfl⟩
  · by_cases ha : a = T
    · subst ha; rw [upd_same] at e ⊢; exact e
    · rw [upd_ne ha] at e ⊢; exact e2 a u e
  · by_cases ha : a = T
    · rw [ha]; exact .inl nT
    · rw [upd_ne ha] at n1; exact absurd n2 n1
theorem yields_zip {K : PySem.W.Frag} {b h : Hp} {ds es : List D} {a c : Addr} {vs us : List V} (q1 : b a = some (.lst vs)) (q2 : b c = some (.lst us)) (t1 : denL K b ds vs) (t2 : denL K b es us) : Yields K b h (Itz K a c) (zipD ds es) := by
  intro b' h' e1 e2 e3 i
  have k1 : SqL K h' a vs := SqL.of (e2 _ _ (e1 _ _ q1))
  have k2 : SqL K h' c us := SqL.of (e2 _ _ (e1 _ _ q2))
  refine ⟨fun e => ⟨vs, us, k1, k2, ?_⟩, fun d r => ?_⟩
  · unfold zipD at e
    rw [List.length_map, List.length_zip] at e
    rw [← denL_len t1, ← denL_len t2]
    omega
  · unfold zipD at r
    rw [List.getElem?_map] at r
    obtain ⟨⟨p, q⟩, ep, rfl⟩ := Option.map_eq_some_iff.mp r
    obtain ⟨ep, eq⟩ := List.getElem?_zip_eq_some.mp ep
    obtain ⟨v, ev, z⟩ := denL_at t1 ep
    obtain ⟨u, eu, zu⟩ := denL_at t2 eq
    refine ⟨⟨vs, us, v, u, k1, k2, ev, eu⟩, fun x h2 ⟨T, x', y', e4, nT, e5, e6, e7⟩ => ?_⟩
    have f1 := e6 vs k1
    have f2 := e7 us k2
    rw [ev] at f1
    rw [eu] at f2
    cases f1
    cases f2
    subst e4 e5
    exact pair_new e1 e2 nT z zu
section
variable {X : Cx} {W : WX} {e e2 : Expr} {ta : TA} {wa : WA}
def wIZip (wa : WA) : WI := fun We g P => wa We g fun as g1 => match allVal as with
  | some [.lst ds, .lst es] => P (zipD ds es) g1
  | _ => False
theorem gi_zip {p pos tpos : Pos} {elts : List Expr} {kk : Nat} (hm : X.mg "zip" = none) (ha : GA X W [e, e2] ta wa) (hg : Gl X "zip" := by rfl) (hs : starEach [e, e2] X.env = (false, eval e X.env) :: starEach [e2] X.env := by rfl) (hpl : (backTo pos (starEach [e2] X.env)).any (·.1) = false := by rfl) {K : PySem.W.Frag} (hK : X.K = K := by exact rfl) :
    GI X W (.Tuple elts kk tpos) (.Call (.Name "zip" p) [e, e2] [] pos) (iZip K ta) (wIZip wa) := by
  subst hK
  refine ⟨pi_zip hg hm ha.pe hs hpl, fun b h σ g We P Q k hw hx c => ?_⟩
  refine ha.se b h σ g We _ _ k hw hx fun vs b' h' g' as k' f' z p => ?_
  split at p
  · rename_i ds es ed
    obtain ⟨v, u, rfl, z1, z2⟩ := denL2 (allVal_ok z ed)
    obtain ⟨a, xs, rfl, q, t⟩ := z1
    obtain ⟨a2, ys, rfl, q2, t2⟩ := z2
    exact ⟨a, a2, xs, ys, rfl, SqL.of (k'.sub _ _ q), SqL.of (k'.sub _ _ q2), c _ b' h' g' _ k' f' (yields_zip q q2 t t2) p⟩
  · exact p.elim
end
/-! ### a slice of a name that is a list or a tuple -/
section
variable {X : Cx} {W : WX}
def wSlV (i : Nat) (wl wh : WO) : WE := fun We g P => match g[i]? with
  | some (some (.pur (.lst _))) => wSlL (wVar i) wl wh We g P
  | some (some (.pur (.tup _))) => wSlA (wVar i) wl wh We g P
  | _ => False
theorem ge_slV {i : Nat} {x : Str} {p1 : Pos} {lo hi : Option Expr} {tl th : TO} {wl wh : WO} {p2 pos : Pos} (hl : GO X W lo tl wl) (hh : GO X W hi th wh) (hN : X.N[i]? = some x := by rfl) (hv : Vis X.env.scope x := by first | exact Or.inl rfl | exact Or.inr (Or.inl rfl) | exact Or.inr (Or.inr rfl))
    (hd : (x == ("__debug__" : Str)) = false := by decide) (hcd : (x == ("__classdict__" : Str)) = false := by decide) {K : PySem.W.Frag} (hK : X.K = K := by exact rfl) :
    GE X W (.Subscript (.Name x p1) (.Slice lo hi none p2) pos) (fun σ H Q => tSl (rSlL K) (tVar i) tl th σ H Q ∨ tSl (rSlA K) (tVar i) tl th σ H Q) (wSlV i wl wh) := by
  subst hK
  have GV : GE X W (.Name x p1) (tVar i) (wVar i) := ge_var hN hv hd hcd
  have GL := ge_slL (X := X) (W := W) (p2 := p2) (pos := pos) GV hl hh
  have GT := ge_slA (X := X) (W := W) (p2 := p2) (pos := pos) GV hl hh
  refine ⟨⟨fun pins s σ H R I h => ?_⟩, fun b h σ g We P Q k hw hx c => ?_⟩
  · rcases h with h | h
    · exact GL.pe.run pins s σ H R I h
    · exact GT.pe.run pins s σ H R I h
  · unfold wSlV at hw
    split at hw
    · exact .inl (GL.se b h σ g We P Q k hw hx c)
    · exact .inr (GT.se b h σ g We P Q k hw hx c)
    · exact hw.elim
/-- str of an int -/
@[irreducible] def rcStrI : RC1 := fun ds P => match ds with
  | [.int i] => i.natAbs < 2 ^ 100 ∧ ∀ x, P (.pur (.str x))
  | _ => False
theorem cg_strI : CallG X (.type "str") (fun xs H Q => ∃ i, xs = [.int i] ∧ i.natAbs.log2 < 1920 ∧ Q (.str (toString i)) H) rcStrI := by
  refine ⟨call_str_int, fun b hh xs ds P Q s z hp c => ?_⟩
  unfold rcStrI at hp
  split at hp
  · rename_i i
    obtain ⟨v, rfl, z1⟩ := denL1 z
    have z' : v = .int i := z1
    subst z'
    refine ⟨i, rfl, ?_, c _ b hh (.pur (.str _)) (Res.same s rfl) (hp.2 _)⟩
    by_cases h0 : i.natAbs = 0
    · rw [h0]; decide
    · have := (Nat.log2_lt h0).mpr hp.1
      omega
  · exact hp.elim
theorem strI_i {i : Int} {P : O → Prop} (h : i.natAbs < 2 ^ 100) (p : ∀ x, P (.pur (.str x))) : rcStrI [.int i] P := by
  unfold rcStrI
  exact ⟨h, p⟩
end
end G
/-! G: texts: +, ==, !=, len, str, int, the signs of a text, a sign in a text, z[i], join, split, a module's text. -/
namespace G
open PySem PySem.Spec PyProof.Rows L2
open Evl (Ex)
def strsD (ys : List Str) : List D := ys.map D.str
def sgnS (c : Nat) : Str := ⟨#[c]⟩
def numS (i : Int) : Str := Str.ofString (toString i)
theorem denL_strs {K : PySem.W.Frag} {b : Hp} : ∀ (ys : List Str), denL K b (strsD ys) (ys.map V.str)
  | [] => rfl
  | y :: ys => ⟨.str y, _, rfl, rfl, denL_strs ys⟩
theorem strs_denL {K : PySem.W.Frag} {b : Hp} : ∀ {ys : List Str} {vs : List V}, denL K b (strsD ys) vs → vs = ys.map V.str
  | [], _, e => e
  | y :: ys, _, ⟨v, r, e, z, t⟩ => by
    rw [e, strs_denL t]
    exact congrArg (· :: _) z
section
variable {X : Cx} {W : WX}
/-! ### two texts -/
@[irreducible] def roCatS : RO := fun x y P => ∃ a b : Str, x = .str a ∧ y = .str b ∧ a.length + b.length ≤ sizeLine ∧ P (.pur (.str (a ++ b)))
theorem catS_i {a b : Str} {P : O → Prop} (h : a.length + b.length ≤ sizeLine) (p : P (.pur (.str (a ++ b)))) : roCatS (.str a) (.str b) P := by
  unfold roCatS
  exact ⟨a, b, rfl, rfl, h, p⟩
theorem og_catS : OpG X (binaryOp .Add) (fun x y H Q => ∃ i j, x = .str i ∧ y = .str j ∧ i.length + j.length ≤ sizeLine ∧ Q (.str (i ++ j)) H) roCatS := by
  refine ⟨op_add_str, fun b hh x y dx dy P Q s zx zy hr c => ?_⟩
  unfold roCatS at hr
  obtain ⟨i, j, rfl, rfl, hz, p⟩ := hr
  exact ⟨i, j, zx, zy, hz, c _ b hh (.pur (.str _)) (Res.same s rfl) p⟩
@[irreducible] def roEqT (neg : Bool) : RO := fun x y P => ∃ a b : Str, x = .str a ∧ y = .str b ∧ P (.pur (.bl (if neg then !decide (a = b) else decide (a = b))))
theorem eqT_i {a b : Str} {P : O → Prop} (p : P (.pur (.bl (decide (a = b))))) : roEqT false (.str a) (.str b) P := by
  unfold roEqT
  exact ⟨a, b, rfl, rfl, p⟩
theorem neT_i {a b : Str} {P : O → Prop} (p : P (.pur (.bl (!decide (a = b))))) : roEqT true (.str a) (.str b) P := by
  unfold roEqT
  exact ⟨a, b, rfl, rfl, p⟩
theorem og_eqT : OpG X (compareOp .Eq) rEq (roEqT false) := by
  refine ⟨op_eq, fun b hh x y dx dy P Q s zx zy hr c => ?_⟩
  unfold roEqT at hr
  obtain ⟨i, j, rfl, rfl, p⟩ := hr
  cases (show x = .str i from zx)
  cases (show y = .str j from zy)
  refine ⟨rfl, c _ b hh (.pur (.bl (decide (i = j)))) (Res.same s ?_) p⟩
  show V.bl _ = V.bl _
  simp
theorem og_neT : OpG X (compareOp .NotEq) rNe (roEqT true) := by
  refine ⟨op_ne, fun b hh x y dx dy P Q s zx zy hr c => ?_⟩
  unfold roEqT at hr
  obtain ⟨i, j, rfl, rfl, p⟩ := hr
  cases (show x = .str i from zx)
  cases (show y = .str j from zy)
  refine ⟨rfl, c _ b hh (.pur (.bl (!decide (i = j)))) (Res.same s ?_) p⟩
  show V.bl _ = V.bl _
  simp
/-- one sign in a text -/
@[irreducible] def roInS : RO := fun x y P => ∃ (c : Nat) (z : Str), x = .str (sgnS c) ∧ y = .str z ∧ P (.pur (.bl (decide (c ∈ z.cps.toList))))
theorem inS_i {c : Nat} {z : Str} {P : O → Prop} (p : P (.pur (.bl (decide (c ∈ z.cps.toList))))) : roInS (.str (sgnS c)) (.str z) P := by
  unfold roInS
  exact ⟨c, z, rfl, rfl, p⟩
theorem og_inS : OpG X (compareOp .In) (fun x y H Q => ∃ (c : Nat) (z : Str), x = .str ⟨#[c]⟩ ∧ y = .str z ∧ Q (.bl (decide (c ∈ z.cps.toList))) H) roInS := by
  refine ⟨op_in_sign, fun b hh x y dx dy P Q s zx zy hr c => ?_⟩
  unfold roInS at hr
  obtain ⟨k, z, rfl, rfl, p⟩ := hr
  exact ⟨k, z, zx, zy, c _ b hh (.pur (.bl _)) (Res.same s rfl) p⟩
/-- z[i] -/
@[irreducible] def roIxS : RO := fun x y P => ∃ (z : Str) (i : Int) (c : Nat), x = .str z ∧ y = .int i ∧ z.length ≤ sizeLine ∧ atI z.cps.toList i = some c ∧ P (.pur (.str (sgnS c)))
theorem ixS_i {z : Str} {i : Int} {c : Nat} {P : O → Prop} (h : z.length ≤ sizeLine) (e : atI z.cps.toList i = some c) (p : P (.pur (.str (sgnS c)))) : roIxS (.str z) (.int i) P := by
  unfold roIxS
  exact ⟨z, i, c, rfl, rfl, h, e, p⟩
theorem ig_str : IxG X rIxS roIxS := by
  refine ⟨ix_str, fun b hh x y dx dy P Q s zx zy hr c => ?_⟩
  unfold roIxS at hr
  obtain ⟨z, i, k, rfl, rfl, h, e, p⟩ := hr
  exact ⟨z, i, k, zx, zy, h, e, c _ b hh (.pur (.str (sgnS k))) (Res.same s rfl) p⟩
/-! ### calls -/
@[irreducible] def rcLenS : RC1 := fun ds P => ∃ z : Str, ds = [.str z] ∧ z.length ≤ sizeLine ∧ P (.pur (.int z.length))
theorem lenS_i {z : Str} {P : O → Prop} (h : z.length ≤ sizeLine) (p : P (.pur (.int z.length))) : rcLenS [.str z] P := by
  unfold rcLenS
  exact ⟨z, rfl, h, p⟩
theorem cg_lenS : CallG X (.builtin "len") (fun xs H Q => ∃ z, xs = [.str z] ∧ z.length ≤ sizeLine ∧ Q (.int z.length) H) rcLenS := by
  refine ⟨call_len_str, fun b hh xs ds P Q s z hp c => ?_⟩
  unfold rcLenS at hp
  obtain ⟨y, rfl, hy, p⟩ := hp
  obtain ⟨v, rfl, z1⟩ := denL1 z
  have z' : v = .str y := z1
  subst z'
  exact ⟨y, rfl, hy, c _ b hh (.pur (.int _)) (Res.same s rfl) p⟩
@[irreducible] def rcStrN : RC1 := fun ds P => ∃ i : Int, ds = [.int i] ∧ i.natAbs < 2 ^ 100 ∧ P (.pur (.str (numS i)))
theorem strN_i {i : Int} {P : O → Prop} (h : i.natAbs < 2 ^ 100) (p : P (.pur (.str (numS i)))) : rcStrN [.int i] P := by
  unfold rcStrN
  exact ⟨i, rfl, h, p⟩
theorem cg_strN : CallG X (.type "str") (fun xs H Q => ∃ i, xs = [.int i] ∧ i.natAbs.log2 < 1920 ∧ Q (.str (toString i)) H) rcStrN := by
  refine ⟨call_str_int, fun b hh xs ds P Q s z hp c => ?_⟩
  unfold rcStrN at hp
  obtain ⟨i, rfl, hi, p⟩ := hp
  obtain ⟨v, rfl, z1⟩ := denL1 z
  have z' : v = .int i := z1
  subst z'
  refine ⟨i, rfl, ?_, c _ b hh (.pur (.str _)) (Res.same s rfl) p⟩
  by_cases h0 : i.natAbs = 0
  · rw [h0]; decide
  · have := (Nat.log2_lt h0).mpr hi
    omega
@[irreducible] def rcIntS : RC1 := fun ds P => ∃ (a : Str) (n : Int), ds = [.str a] ∧ PySem.intText? a = some n ∧ a.length ≤ 640 ∧ P (.pur (.int n))
theorem intS_i {a : Str} {n : Int} {P : O → Prop} (h : PySem.intText? a = some n) (hl : a.length ≤ 640) (p : P (.pur (.int n))) : rcIntS [.str a] P := by
  unfold rcIntS
  exact ⟨a, n, rfl, h, hl, p⟩
theorem cg_intS : CallG X (.type "int") (fun xs H Q => ∃ a n, xs = [.str a] ∧ PySem.intText? a = some n ∧ a.length ≤ 640 ∧ Q (.int n) H) rcIntS := by
  refine ⟨call_int_str, fun b hh xs ds P Q s z hp c => ?_⟩
  unfold rcIntS at hp
  obtain ⟨a, n, rfl, e, hl, p⟩ := hp
  obtain ⟨v, rfl, z1⟩ := denL1 z
  have z' : v = .str a := z1
  subst z'
  exact ⟨a, n, rfl, e, hl, c _ b hh (.pur (.int n)) (Res.same s rfl) p⟩
/-! ### the signs of a text -/
def sgnD (x : Str) : List D := strsD (x.cps.toList.map sgnS)
theorem yields_str {K : PySem.W.Frag} {b h : Hp} {x : Str} : Yields K b h (Its x) (sgnD x) := by
  intro b' h' e1 e2 e3 i
  have hl : (sgnD x).length = x.cps.size := by simp [sgnD, strsD]
  rw [hl]
  refine ⟨fun e => Nat.le_of_eq e.symm, fun d q => ?_⟩
  unfold sgnD strsD at q
  rw [List.getElem?_map] at q
  obtain ⟨y, ey, rfl⟩ := Option.map_eq_some_iff.mp q
  rw [List.getElem?_map] at ey
  obtain ⟨c, ec, rfl⟩ := Option.map_eq_some_iff.mp ey
  have hi : i < x.cps.size := by
    obtain ⟨hi, _⟩ := List.getElem?_eq_some_iff.mp ec
    simpa using hi
  refine ⟨hi, fun v h2 ⟨e4, c', e5, e6⟩ => ?_⟩
  subst e4 e6
  have : c' = c := by
    rw [Array.getElem?_toList] at ec
    rw [e5] at ec
    exact Option.some.inj ec
  subst this
  exact ⟨b', Ex.refl b', Ex.refl _, e2, fun a n1 n2 => absurd n2 n1, rfl⟩
variable {tg e : Expr} {te : TE} {wa : WE}
@[irreducible] def strP (d : D) (P : List D → Prop) : Prop := ∃ x : Str, d = .str x ∧ P (sgnD x)
theorem strP_i {x : Str} {P : List D → Prop} (p : P (sgnD x)) : strP (.str x) P := by
  unfold strP
  exact ⟨x, rfl, p⟩
def wIS (wa : WE) : WI := fun We g P => wa We g fun o g1 => strP o.d fun ds => P ds g1
theorem gi_str (h : GE X W e te wa) : GI X W tg e (iStr te) (wIS wa) := by
  refine ⟨pi_str h.pe, fun b h1 σ g We P Q k hw hx c => ?_⟩
  refine h.se b h1 σ g We _ _ k hw hx fun v b' h' g' o k' f' p => ?_
  obtain ⟨b2, k2, f2, z⟩ := come k' f'
  unfold strP at p
  obtain ⟨x, ed, p⟩ := p
  rw [ed] at z
  exact ⟨x, z, c _ b2 h' g' _ k2 f2 yields_str p⟩
/-! ### a.join(x), a.split(x) -/
variable {o : Expr} {to : TE} {wo we : WE}
@[irreducible] def jnP (a d : D) (P : O → Prop) : Prop := ∃ (s : Str) (ys : List Str), a = .str s ∧ (d = .lst (strsD ys) ∨ d = .tup (strsD ys)) ∧ (ys.map (·.length)).sum + ys.length * s.length ≤ 16777216 ∧ P (.pur (.str (Txt.join s ys)))
theorem jn_i {s : Str} {ys : List Str} {P : O → Prop} (h : (ys.map (·.length)).sum + ys.length * s.length ≤ 16777216) (p : P (.pur (.str (Txt.join s ys)))) : jnP (.str s) (.lst (strsD ys)) P := by
  unfold jnP
  exact ⟨s, ys, rfl, .inl rfl, h, p⟩
@[irreducible] def spP (a d : D) (P : O → Prop) : Prop := ∃ s z : Str, a = .str s ∧ d = .str z ∧ (z.length == 0) = false ∧ s.length + 2 ≤ sizeLine ∧ P (.pur (.lst (strsD (Txt.split s z))))
theorem sp_i {s z : Str} {P : O → Prop} (hz : (z.length == 0) = false) (h : s.length + 2 ≤ sizeLine) (p : P (.pur (.lst (strsD (Txt.split s z))))) : spP (.str s) (.str z) P := by
  unfold spP
  exact ⟨s, z, rfl, rfl, hz, h, p⟩
def wM1 (r : D → D → (O → Prop) → Prop) (wo we : WE) : WE := fun We g P => wo We g fun x g1 => (∃ s, x.d = .str s) ∧ we We g1 fun y g2 => r x.d y.d fun z => P z g2
theorem m1_se {r : V → List V → Hp → VK → Prop} {rd : D → D → (O → Prop) → Prop} (ho : GE X W o to wo) (he : GE X W e te we)
    (br : ∀ b h x y dx dy P Q, Ex b h → den X.K b dx x → den X.K b dy y → rd dx dy P → (∀ v b' h' o, Res X.K b h b' h' v o → P o → Q v h') → r x [y] h Q) :
    ∀ b h σ g We P Q, Hold X.K b h σ g → wM1 rd wo we We g P → ContX X.K g b h We W → Cont X.K g b h σ P Q → tM1 r to te σ h Q := by
  intro b h σ g We P Q k hw hx ct
  refine ho.se b h σ g We _ _ k hw hx fun v b1 h1 g1 x k1 f1 p1 => ?_
  obtain ⟨b2, k2, f2, z⟩ := come k1 f1
  obtain ⟨⟨s, es⟩, p1⟩ := p1
  have z' := z
  rw [es] at z'
  refine ⟨⟨s, z'⟩, ?_⟩
  refine he.se b2 h1 σ g1 We _ _ k2 p1 (hx.step f2) fun u b3 h3 g3 y k3 f3 p3 => ?_
  obtain ⟨b4, k4, f4, z4⟩ := come k3 f3
  exact br b4 h3 v u _ _ _ _ k4.sub (den_mono f4.bs _ _ z) z4 p3 fun w b' h' q rs p => fin k4 (f2.trans f4) rs ct p
theorem ge_join {apos pos : Pos} (ho : GE X W o to wo) (he : GE X W e te we) (hs : starEach [e] X.env = [(false, eval e X.env)] := by rfl) (hbase : attributeBase o "join" X.env (eval o X.env) = eval o X.env := by rfl) (hline : (apos.endLine == pos.line) = true := by rfl) {K : PySem.W.Frag} (hK : X.K = K := by exact rfl) :
    GE X W (.Call (.Attribute o "join" apos) [e] [] pos) (tM1 (fun x xs H Q => ∃ a p, ∃ ys : List Str, x = .str a ∧ xs = [.ref p] ∧ (SqL K H p (ys.map V.str) ∨ SqT K H p (ys.map V.str)) ∧
      (ys.map (·.length)).sum + ys.length * a.length ≤ 16777216 ∧ Q (.str (Txt.join a ys)) H) to te) (wM1 jnP wo we) := by
  subst hK
  refine ⟨pe_join ho.pe he.pe hs hbase hline, m1_se ho he fun b h x y dx dy P Q s zx zy hr c => ?_⟩
  unfold jnP at hr
  obtain ⟨a, ys, rfl, hd, hl, p⟩ := hr
  have hq : ∃ q, y = .ref q ∧ (SqL X.K h q (ys.map V.str) ∨ SqT X.K h q (ys.map V.str)) := by
    rcases hd with rfl | rfl
    · obtain ⟨q, vs, rfl, e1, t⟩ := zy
      rw [strs_denL t] at e1
      exact ⟨q, rfl, .inl (SqL.of (s _ _ e1))⟩
    · obtain ⟨q, vs, rfl, e1, t⟩ := zy
      rw [strs_denL t] at e1
      exact ⟨q, rfl, .inr (SqT.of (s _ _ e1))⟩
  obtain ⟨q, rfl, hq⟩ := hq
  exact ⟨a, q, ys, zx, rfl, hq, hl, c _ b h (.pur (.str _)) (Res.same s rfl) p⟩
theorem ge_split {apos pos : Pos} (ho : GE X W o to wo) (he : GE X W e te we) (hs : starEach [e] X.env = [(false, eval e X.env)] := by rfl) (hbase : attributeBase o "split" X.env (eval o X.env) = eval o X.env := by rfl) (hline : (apos.endLine == pos.line) = true := by rfl) :
    GE X W (.Call (.Attribute o "split" apos) [e] [] pos) (tM1 (fun x xs H Q => ∃ a b, x = .str a ∧ xs = [.str b] ∧ (b.length == 0) = false ∧ a.length + 2 ≤ sizeLine ∧ rNewStrs (Txt.split a b) H Q) to te) (wM1 spP wo we) := by
  refine ⟨pe_split ho.pe he.pe hs hbase hline, m1_se ho he fun b h x y dx dy P Q s zx zy hr c => ?_⟩
  unfold spP at hr
  obtain ⟨a, z, rfl, rfl, hz, hl, p⟩ := hr
  refine ⟨a, z, zx, congrArg (fun v => [v]) (show y = .str z from zy), hz, hl, fun q nq => ?_⟩
  exact c _ _ _ (.pur (.lst (strsD (Txt.split a z)))) (Res.new (d := .lst (strsD (Txt.split a z))) s nq ⟨q, _, rfl, upd_same, denL_strs _⟩) p
/-- a module's text -/
theorem ge_gstr {x z : Str} {pos : Pos} (hm : ∃ t, X.mg x = some (.str z t)) (hg : Gl X x := by rfl) (hd : (x == ("__debug__" : Str)) = false := by decide) : GE X W (.Name x pos) (tC (.str z)) (wC (.str z)) := by
  obtain ⟨t, hm⟩ := hm
  exact ge_c (pe_glob hg hm (v := .str z) ⟨t, rfl⟩ hd) fun _ => rfl
end
end G
/-! G: own lists within an own list or a tuple: x[e].append(a), x[e][a] = v, x[e].pop(a), x[e].clear(); a tuple with own parts. -/
namespace G
open PySem PySem.Spec PyProof.Rows L2
open Evl (Ex)
def kids : O → Option (List O)
  | .lst _ xs => some xs
  | .tup xs => some xs
  | _ => none
def setKids : O → List O → O
  | .lst p _, ys => .lst p ys
  | .tup _, ys => .tup ys
  | o, _ => o
def isKd : Option (Option O) → Prop
  | some (some (.lst _ _)) => True
  | some (some (.tup _)) => True
  | _ => False
section
variable {K : PySem.W.Frag} {b b' h h' : Hp} {σ σ' : L2.St} {g g' : Gam} {o c c' : O} {v : V} {i : Nat} {p q : Addr} {ob : HO}
theorem Hold.kd (k : Hold K b h σ g) (hl : isKd g[i]?) : ∃ w, σ[i]? = some (some w) := by
  cases e : g[i]? with
  | none => rw [e] at hl; exact hl.elim
  | some x =>
    cases x with
    | none => rw [e] at hl; exact hl.elim
    | some u =>
      obtain ⟨w, ew, _⟩ := k.sl i u e
      exact ⟨w, ew⟩
theorem Hold.kid {n : Nat} {w : O} {xs : List O} (k : Hold K b h σ g) (e : g[i]? = some (some w)) (ek : kids w = some xs) (ec : xs[n]? = some c) (r : root c = some q) :
    ∃ (a : Addr) (vs : List V), σ[i]? = some (some (.ref a)) ∧ (SqL K h a vs ∨ SqT K h a vs) ∧ xs.length = vs.length ∧ vs[n]? = some (.ref q) ∧ own K b h c (.ref q) := by
  obtain ⟨v, ev, z⟩ := k.sl i _ e
  cases w with
  | lst p ys =>
    cases ek
    obtain ⟨e1, vs, hp, t⟩ := z
    subst e1
    obtain ⟨u, eu, zu⟩ := ownL_at t ec
    have := own_root zu r
    subst this
    exact ⟨p, vs, ev, .inl (SqL.of hp), ownL_len t, eu, zu⟩
  | tup ys =>
    cases ek
    obtain ⟨a, vs, e1, hp, t⟩ := z
    subst e1
    obtain ⟨u, eu, zu⟩ := ownL_at t ec
    have := own_root zu r
    subst this
    exact ⟨a, vs, ev, .inr (SqT.of (k.sub _ _ hp)), ownL_len t, eu, zu⟩
  | _ => cases ek
theorem Hold.kid_nd {n : Nat} {w : O} {xs : List O} (k : Hold K b h σ g) (e : g[i]? = some (some w)) (ek : kids w = some xs) (ec : xs[n]? = some c) : (foot c).Nodup := by
  have nd := k.nd i _ e
  cases w with
  | lst p ys => cases ek; exact footL_nd (List.nodup_cons.mp nd).2 ec
  | tup ys => cases ek; exact footL_nd nd ec
  | _ => cases ek
/-- an own object within a list or tuple is written -/
theorem Hold.upd_kid {n : Nat} {w : O} {xs : List O} (k : Hold K b h σ g) (e : g[i]? = some (some w)) (ek : kids w = some xs) (ec : xs[n]? = some c) (r : root c = some q) (z : own K b h c (.ref q) → own K b (upd h q ob) c' (.ref q)) (s : (foot c').Sublist (foot c)) :
    Hold K b (upd h q ob) σ (g.set i (some (setKids w (xs.set n c')))) ∧ Frm g b h (g.set i (some (setKids w (xs.set n c')))) b (upd h q ob) := by
  cases w with
  | lst p ys => cases ek; exact k.upd_child e ec r z s
  | tup ys =>
    cases ek
    have nd := k.nd i _ e
    have qin := footL_mem ec (root_in r)
    have sl := footL_set s ec
    exact k.upd_in (o' := .tup (xs.set n c')) e qin (fun v ⟨a, vs, e1, hp, t⟩ => ⟨a, vs, e1, hp, ownL_child r z t ec nd⟩) (fun a m => sl.subset m) (sl.nodup nd)
  | _ => cases ek
end
@[irreducible] def kidAt (i : Nat) (o : O) (g1 : Gam) (C : Nat → Addr → Prop) : Prop := match g1[i]?, o.d with
  | some (some w), .int j => ∃ xs n q ys, kids w = some xs ∧ ixN xs.length j = some n ∧ xs[n]? = some (.lst q ys) ∧ C n q
  | _, _ => False
@[irreducible] def kidApp (i n : Nat) (q : Addr) (u : O) (g2 : Gam) (E : GEnds) : Prop := match g2[i]? with
  | some (some w) => ∃ xs ys, kids w = some xs ∧ xs[n]? = some (.lst q ys) ∧ ys.length < sizeLine ∧ E.nx (g2.set i (some (setKids w (xs.set n (.lst q (ys ++ [.pur u.d]))))))
  | _ => False
@[irreducible] def kidPut (i n : Nat) (q : Addr) (u o2 : O) (g3 : Gam) (E : GEnds) : Prop := match g3[i]?, o2.d with
  | some (some w), .int j => ∃ xs ys m, kids w = some xs ∧ xs[n]? = some (.lst q ys) ∧ ixN ys.length j = some m ∧ E.nx (g3.set i (some (setKids w (xs.set n (.lst q (ys.set m (.pur u.d)))))))
  | _, _ => False
theorem kidAt_i {i : Nat} {o : O} {g : Gam} {C : Nat → Addr → Prop} {w : O} {xs ys : List O} {j : Int} {n : Nat} {q : Addr} (e : g[i]? = some (some w)) (ej : o.d = .int j) (ek : kids w = some xs) (en : ixN xs.length j = some n) (ec : xs[n]? = some (.lst q ys)) (h : C n q) : kidAt i o g C := by
  unfold kidAt
  rw [e, ej]
  exact ⟨xs, n, q, ys, ek, en, ec, h⟩
theorem kidApp_i {i n : Nat} {q : Addr} {u : O} {g : Gam} {E : GEnds} {w : O} {xs ys : List O} (e : g[i]? = some (some w)) (ek : kids w = some xs) (ec : xs[n]? = some (.lst q ys)) (hl : ys.length < sizeLine) (h : E.nx (g.set i (some (setKids w (xs.set n (.lst q (ys ++ [.pur u.d]))))))) : kidApp i n q u g E := by
  unfold kidApp
  rw [e]
  exact ⟨xs, ys, ek, ec, hl, h⟩
theorem kidPut_i {i n : Nat} {q : Addr} {u o2 : O} {g : Gam} {E : GEnds} {w : O} {xs ys : List O} {j : Int} {m : Nat} (e : g[i]? = some (some w)) (ej : o2.d = .int j) (ek : kids w = some xs) (ec : xs[n]? = some (.lst q ys)) (em : ixN ys.length j = some m) (h : E.nx (g.set i (some (setKids w (xs.set n (.lst q (ys.set m (.pur u.d)))))))) : kidPut i n q u o2 g E := by
  unfold kidPut
  rw [e, ej]
  exact ⟨xs, ys, m, ek, ec, em, h⟩
section
variable {X : Cx} {W : WX} {e a c : Expr} {te ta tc : TE} {we wa wc : WE} {i : Nat} {x : Str}
/-- x[e].append(a) -/
def wKidApp (i : Nat) (we wa : WE) : WS := fun We E g => isKd g[i]? ∧ we We g fun o g1 => kidAt i o g1 fun n q => wa We g1 fun u g2 => kidApp i n q u g2 E
theorem gs_kidApp {p sp apos cpos pos : Pos} (he : GE X W e te we) (ha : GE X W a ta wa) (hN : X.N[i]? = some x := by rfl) (hv : Vis X.env.scope x := by first | exact Or.inl rfl | exact Or.inr (Or.inl rfl) | exact Or.inr (Or.inr rfl))
    (hd : (x == ("__debug__" : Str)) = false := by decide) (hcd : (x == ("__classdict__" : Str)) = false := by decide) (hpi : PlainIx e := by intro _ _; rfl)
    (hbase : attributeBase (.Subscript (.Name x p) e sp) "append" X.env (eval (.Subscript (.Name x p) e sp) X.env) = eval (.Subscript (.Name x p) e sp) X.env := by rfl)
    (hfew : ((backTo cpos (starEach [a] X.env)).all (fun x => !x.1) && (backToKw cpos (keywordEach [] X.env)).all (fun x => x.1.isSome)
      && decide (([a] : List Expr).length + ([] : List Keyword).length + (if ([] : List Keyword).isEmpty then 0 else 1) < 30)) = true := by rfl)
    (hline : (apos.endLine == cpos.line) = true := by rfl) (hs : starEach [a] X.env = (false, eval a X.env) :: starEach [] X.env := by rfl)
    (hs2 : swapsWith (.Call (.Attribute (.Subscript (.Name x p) e sp) "append" apos) [a] [] cpos) none pos.line X.env = pure false := by rfl) :
    GS X W (.Expr (.Call (.Attribute (.Subscript (.Name x p) e sp) "append" apos) [a] [] cpos) pos) (wKidApp i we wa) := by
  refine ⟨tDrop (tBM X.K "list" rAppend (tOp (rIx X.K) (tVar i) te) (tCons ta tNil)), ps_expr (pe_bm PySem.F.plainAttrs_list PySem.F.slot_list_append PySem.F.type_list_append mt_append (pe_ix ix_seq (pe_var hN hv hd hcd) he.pe hpi) (pa_cons ha.pe pa_nil hs) hbase hfew hline hs (by rfl)) hs2, fun b h σ g We E D k ⟨hl, hw⟩ hx ct => ?_⟩
  obtain ⟨w0, ev0⟩ := k.kd hl
  refine ⟨_, ev0, he.se b h σ g We _ _ k hw hx fun v b1 h1 g1 o k1 f1 p1 => ?_⟩
  obtain ⟨b1', k1', f1', zo⟩ := come k1 f1
  unfold kidAt at p1
  split at p1
  · rename_i w j e1 e2
    rw [e2] at zo
    have ev : v = .int j := zo
    subst ev
    obtain ⟨xs, n, q, ys, ek, en, ec, p1⟩ := p1
    obtain ⟨pa, vs, ev1, sq, ln, evn, zc⟩ := k1'.kid e1 ek ec rfl
    rw [ev0] at ev1
    cases ev1
    obtain ⟨_, us, hq, _⟩ := zc
    have eat : atI vs j = some (.ref q) := by
      unfold atI
      rw [← ln, en]
      exact evn
    have go : ∀ Q : VK, Q (.ref q) h1 → rIx X.K (.ref pa) (.int j) h1 Q := fun Q hq => sq.elim (fun s => .inl ⟨pa, vs, j, _, rfl, rfl, s, eat, hq⟩) fun s => .inr (.inl ⟨pa, vs, j, _, rfl, rfl, s, eat, hq⟩)
    refine go _ ⟨tyV_lst hq, ?_⟩
    refine ha.se b1' h1 _ g1 We _ _ k1' p1 (hx.step f1') fun u b2 h2 g2 ou k2 f2 p2 => ?_
    obtain ⟨b2', k2', f2', zu⟩ := come k2 f2
    unfold kidApp at p2
    split at p2
    · rename_i w2 e3
      obtain ⟨xs2, ys2, ek2, ec2, hz, p2⟩ := p2
      obtain ⟨pa2, vs2, ev2, sq2, ln2, evn2, zc2⟩ := k2'.kid e3 ek2 ec2 rfl
      have zc2' := zc2
      obtain ⟨_, us2, hq2, zs2⟩ := zc2'
      have nq : q ∉ footL ys2 := (List.nodup_cons.mp (k2'.kid_nd e3 ek2 ec2)).1
      refine ⟨q, us2, u, rfl, rfl, hq2, by rw [← ownL_len zs2]; exact hz, ?_⟩
      obtain ⟨k5, f5⟩ := k2'.upd_kid (c' := .lst q (ys2 ++ [.pur ou.d])) (ob := .lst (us2 ++ [u])) e3 ek2 ec2 rfl (fun _ => ⟨rfl, _, upd_same, ownL_app (us := [.pur ou.d]) (ws := [u]) (ownL_aside zs2 nq) ⟨u, [], rfl, zu, rfl⟩⟩)
        (by simp [foot, footL_app, footL])
      exact ct.nx σ b2' _ _ k5 (f1'.trans (f2'.trans f5)) p2
    · exact p2.elim
  · exact p1.elim
/-- x[e][a] = v -/
def wKidPut (i : Nat) (wc we wa : WE) : WS := fun We E g => wc We g fun u g0 => isKd g0[i]? ∧ we We g0 fun o g1 => kidAt i o g1 fun n q => wa We g1 fun o2 g2 => kidPut i n q u o2 g2 E
theorem gs_kidPut {p sp ps pos : Pos} (hc : GE X W c tc wc) (he : GE X W e te we) (ha' : GE X W a ta wa) (hN : X.N[i]? = some x := by rfl) (hv : Vis X.env.scope x := by first | exact Or.inl rfl | exact Or.inr (Or.inl rfl) | exact Or.inr (Or.inr rfl))
    (hd : (x == ("__debug__" : Str)) = false := by decide) (hcd : (x == ("__classdict__" : Str)) = false := by decide) (hpi : PlainIx e := by intro _ _; rfl)
    (ha : ∀ v, assign (.Subscript (.Subscript (.Name x p) e sp) a ps) X.env v = (do
      let ov ← holding [v] (eval (.Subscript (.Name x p) e sp) X.env)
      let iv ← holding [v, ov] (eval a X.env)
      standAt ps
      holding [v, ov, iv] (setItem ov iv v)
      release [v, ov, iv] []) := by intro _; rfl)
    (hs : swapsWithSole [.Subscript (.Subscript (.Name x p) e sp) a ps] c pos.line X.env = pure false := by rfl) (hw : swappedStores [.Subscript (.Subscript (.Name x p) e sp) a ps] c X.env = pure none := by rfl)
    (h1 : (assignEach [.Subscript (.Subscript (.Name x p) e sp) a ps] X.env).map (·.2) = [assign (.Subscript (.Subscript (.Name x p) e sp) a ps) X.env] := by rfl) :
    GS X W (.Assign [.Subscript (.Subscript (.Name x p) e sp) a ps] c pos) (wKidPut i wc we wa) := by
  refine ⟨tAsg tc (gSub (tOp (rIx X.K) (tVar i) te) ta rSetL), ps_asg hc.pe (pg_sub (pe_ix ix_seq (pe_var hN hv hd hcd) he.pe hpi) ha'.pe set_list ha) hs hw h1, fun b h σ g We E D k hw hx ct => ?_⟩
  refine hc.se b h σ g We _ _ k hw hx fun u b0 h0 g0 ou k0 f0 ⟨hl, hw⟩ => ?_
  obtain ⟨b0', k0', f0', zu⟩ := come k0 f0
  obtain ⟨w0, ev0⟩ := k0'.kd hl
  refine ⟨_, ev0, he.se b0' h0 σ g0 We _ _ k0' hw (hx.step f0') fun v b1 h1 g1 o k1 f1 p1 => ?_⟩
  obtain ⟨b1', k1', f1', zo⟩ := come k1 f1
  unfold kidAt at p1
  split at p1
  · rename_i w j e1 e2
    rw [e2] at zo
    have ev : v = .int j := zo
    subst ev
    obtain ⟨xs, n, q, ys, ek, en, ec, p1⟩ := p1
    obtain ⟨pa, vs, ev1, sq, ln, evn, zc⟩ := k1'.kid e1 ek ec rfl
    rw [ev0] at ev1
    cases ev1
    have eat : atI vs j = some (.ref q) := by
      unfold atI
      rw [← ln, en]
      exact evn
    have go : ∀ Q : VK, Q (.ref q) h1 → rIx X.K (.ref pa) (.int j) h1 Q := fun Q hq => sq.elim (fun s => .inl ⟨pa, vs, j, _, rfl, rfl, s, eat, hq⟩) fun s => .inr (.inl ⟨pa, vs, j, _, rfl, rfl, s, eat, hq⟩)
    have f01 := f0'.trans f1'
    refine go _ ?_
    refine ha'.se b1' h1 _ g1 We _ _ k1' p1 (hx.step f01) fun yv b2 h2 g2 oy k2 f2 p2 => ?_
    obtain ⟨b2', k2', f2', zy⟩ := come k2 f2
    unfold kidPut at p2
    split at p2
    · rename_i w2 jj e3 e5
      rw [e5] at zy
      have ev : yv = .int jj := zy
      subst ev
      obtain ⟨xs2, ys2, m, ek2, ec2, em, p2⟩ := p2
      obtain ⟨pa2, vs2, ev2, sq2, ln2, evn2, zc2⟩ := k2'.kid e3 ek2 ec2 rfl
      have zc2' := zc2
      obtain ⟨_, us2, hq2, zs2⟩ := zc2'
      have nq : q ∉ footL ys2 := (List.nodup_cons.mp (k2'.kid_nd e3 ek2 ec2)).1
      refine ⟨q, us2, jj, m, rfl, rfl, hq2, by rw [← ownL_len zs2]; exact em, ?_⟩
      obtain ⟨k5, f5⟩ := k2'.upd_kid (c' := .lst q (ys2.set m (.pur ou.d))) (ob := .lst (us2.set m u)) e3 ek2 ec2 rfl (fun _ => ⟨rfl, _, upd_same, ownL_set (ownL_aside zs2 nq) (den_mono (f1'.bs.trans f2'.bs) _ _ zu)⟩)
        ((footL_set_pur ou.d ys2 m).cons_cons q)
      exact ct.nx σ b2' _ _ k5 (f01.trans (f2'.trans f5)) p2
    · exact p2.elim
  · exact p1.elim
/-- (e, a): what comes of a is moved in -/
def wTupO (we wa : WE) : WE := fun We g P => we We g fun o g1 => wa We g1 fun u g2 => P (.tup [.pur o.d, u]) g2
theorem ge_tupO {k0 : Nat} {pos : Pos} (he : GE X W e te we) (ha : GE X W a ta wa) (hs : starEach [e, a] X.env = (false, eval e X.env) :: starEach [a] X.env := by rfl) (hs2 : starEach [a] X.env = (false, eval a X.env) :: starEach [] X.env := by rfl) :
    GE X W (.Tuple [e, a] k0 pos) (tTup (tCons te (tCons ta tNil))) (wTupO we wa) := by
  refine ⟨pe_tup (pa_cons he.pe (pa_cons ha.pe pa_nil hs2) hs), fun b h σ g We P Q k hw hx ct => ?_⟩
  refine he.se b h σ g We _ _ k hw hx fun v b1 h1 g1 o k1 f1 p1 => ?_
  obtain ⟨b1', k1', f1', zo⟩ := come k1 f1
  refine ha.se b1' h1 σ g1 We _ _ k1' p1 (hx.step f1') fun u b2 h2 g2 ou k2 f2 p2 => ?_
  refine ⟨by show 2 ≤ sizeLine; decide, fun q hq => ?_⟩
  have zo2 := den_mono f2.bs _ _ zo
  obtain ⟨zu, ndu, nbu, dju⟩ := k2.head
  have nb : b2 q = none := Evl.fresh_back k2.sub hq
  have nq : ∀ x, inF (some ou :: g2) x → x ≠ q := fun x z e => by
    obtain ⟨w, ew⟩ := k2.inF_there z
    rw [e, hq] at ew
    cases ew
  have e1 : Ex b2 (upd b2 q (.tup [v, u])) := Ex.new nb
  have kk : Hold X.K (upd b2 q (.tup [v, u])) (upd h2 q (.tup [v, u])) (some u :: σ) (some ou :: g2) := by
    refine ⟨fun x w ew => ?_, k2.len, fun i w ew => ?_, k2.nd, k2.dj, fun i w ew x m => ?_⟩
    · by_cases ex : x = q
      · subst ex; rw [upd_same] at ew ⊢; exact ew
      · rw [upd_ne ex] at ew ⊢; exact k2.sub x w ew
    · obtain ⟨y, ey, zy⟩ := k2.sl i w ew
      exact ⟨y, ey, own_keep e1 w y zy fun x m => upd_ne (nq x ⟨i, w, ew, m⟩)⟩
    · rw [upd_ne (nq x ⟨i, w, ew, m⟩)]
      exact k2.nb i w ew x m
  obtain ⟨zu3, ndu3, nbu3, dju3⟩ := kk.head
  have f3 : Frm g1 b1' h1 (some ou :: g2) (upd b2 q (.tup [v, u])) (upd h2 q (.tup [v, u])) := by
    refine ⟨f2.bs.trans e1, fun x w ew n => ?_, fun x w ew t eb n => ?_, f2.new⟩
    · have := f2.keep x w ew n
      rw [upd_ne (ne_of_none this hq)]
      exact this
    · have := f2.keep x w ew n
      rw [upd_ne (ne_of_none this hq)]
      exact f2.nb x w ew t eb n
  have ft : foot (.tup [.pur o.d, ou]) = foot ou := by simp [foot, footL]
  have k4 : Hold X.K (upd b2 q (.tup [v, u])) (upd h2 q (.tup [v, u])) (some (.ref q) :: σ) (some (.tup [.pur o.d, ou]) :: g2) :=
    kk.tail.cons ⟨q, [v, u], rfl, upd_same, v, [u], rfl, den_mono e1 _ _ zo2, u, [], rfl, zu3, rfl⟩ (by rw [ft]; exact ndu3) (fun x m => nbu3 x (by rw [ft] at m; exact m)) fun x m => dju3 x (by rw [ft] at m; exact m)
  have f4 : Frm g1 b1' h1 (some (.tup [.pur o.d, ou]) :: g2) (upd b2 q (.tup [v, u])) (upd h2 q (.tup [v, u])) := f3.sub fun x z => by
    rcases inF_cons.mp z with ⟨w, e, m⟩ | z
    · cases e; rw [ft] at m; exact inF_cons.mpr (.inl ⟨ou, rfl, m⟩)
    · exact inF_cons.mpr (.inr z)
  exact ct _ _ _ g2 _ k4 (f1'.trans f4) p2
end
end G
/-! G: x, y = f(..), f's result a tuple of data and of an own thing. -/
namespace G
open PySem PySem.Spec PyProof.Rows L2
open Evl (Ex)
section
variable {X : Cx} {W : WX} {e : Expr} {te : TE} {wa : WE}
def wAsgO2 (i j : Nat) (wa : WE) : WS := fun We E g => wa We g fun o g1 => ∃ d u, o = .tup [.pur d, u] ∧ E.nx ((g1.set i (some (.pur d))).set j (some u))
theorem gs_asgO2 {i j : Nat} {x y : Str} {k0 : Nat} {px py pt pos : Pos} (hc : X.calm = true) (hN : X.N.Nodup) (he : GE X W e te wa)
    (hi : X.N[i]? = some x := by rfl) (hj : X.N[j]? = some y := by rfl)
    (hx : Loc X.env.scope x := by first | exact Or.inl rfl | exact Or.inr rfl) (hy : Loc X.env.scope y := by first | exact Or.inl rfl | exact Or.inr rfl)
    (hf : X.fn x = true ∨ X.env.scope.names.lookup x = some .local := by first | exact .inl rfl | exact .inr rfl) (hf2 : X.fn y = true ∨ X.env.scope.names.lookup y = some .local := by first | exact .inl rfl | exact .inr rfl)
    (hs : swapsWithSole [.Tuple [.Name x px, .Name y py] k0 pt] e pos.line X.env = pure false := by rfl) (hw : swappedStores [.Tuple [.Name x px, .Name y py] k0 pt] e X.env = pure none := by rfl)
    (h1 : (assignEach [.Tuple [.Name x px, .Name y py] k0 pt] X.env).map (·.2) = [assign (.Tuple [.Name x px, .Name y py] k0 pt) X.env] := by rfl)
    (hn : (assignEach [.Name x px, .Name y py] X.env).length = 2 := by rfl) (hst : (assignEach [.Name x px, .Name y py] X.env).findIdx? (·.1) = none := by rfl)
    (ha : (assignEach [.Name x px, .Name y py] X.env).map (·.2) = assign (.Name x px) X.env :: (assignEach [.Name y py] X.env).map (·.2) := by rfl)
    (ha2 : (assignEach [.Name y py] X.env).map (·.2) = assign (.Name y py) X.env :: (assignEach [] X.env).map (·.2) := by rfl) {K : PySem.W.Frag} (hK : X.K = K := by exact rfl) :
    GS X W (.Assign [.Tuple [.Name x px, .Name y py] k0 pt] e pos) (wAsgO2 i j wa) := by
  subst hK
  obtain ⟨p, q⟩ := he
  refine ⟨tAsg te (gTup X.K 2 (gCons (gName i) (gCons (gName j) gNil))), ps_asg p (pg_tup hc (pgs_cons (pg_name hN hi hx hf) (pgs_cons (pg_name hN hj hy hf2) pgs_nil ha2) ha) hn hst) hs hw h1, fun b h σ g We E D k hw hx ct => ?_⟩
  refine q b h σ g We _ _ k hw hx fun v b' h' g' o k' f' p' => ?_
  obtain ⟨d, u, rfl, p'⟩ := p'
  obtain ⟨z, nd, nb, dj⟩ := k'.head
  have ft : foot (.tup [.pur d, u]) = foot u := by simp [foot, footL]
  rw [ft] at nd nb dj
  obtain ⟨a, vs, rfl, e1, v1, r1, rfl, z1, v2, r2, rfl, z2, e3⟩ := z
  have e3 : r2 = [] := e3
  subst e3
  have kt := k'.tail
  obtain ⟨k1, f1⟩ := (Res.same kt.sub (d := d) z1).lift kt
  obtain ⟨k2, s2⟩ := k1.put i
  have nF : ∀ x ∈ foot u, ¬ inF (g'.set i (some (.pur d))) x := fun x m z => by
    rcases inF_cons.mp (s2 x z) with ⟨w, e, m2⟩ | z
    · cases e
      exact nomatch m2
    · exact dj x m z
  have k3 : Hold X.K b' h' (some v2 :: σ.set i (some v1)) (some u :: g'.set i (some (.pur d))) := k2.cons z2 nd nb nF
  obtain ⟨k4, s4⟩ := k3.put j
  refine ⟨a, [v1, v2], rfl, SqT.of (k'.sub _ _ e1), rfl, v1, [v2], rfl, v2, [], rfl, ?_⟩
  refine ⟨rfl, ?_⟩
  refine ct.nx _ b' h' _ k4 (f'.sub fun x z => ?_) p'
  rcases inF_cons.mp (s4 x z) with ⟨w, e, m⟩ | z
  · cases e
    exact inF_cons.mpr (.inl ⟨_, rfl, by rw [ft]; exact m⟩)
  · rcases inF_cons.mp (s2 x z) with ⟨w, e, m⟩ | z
    · cases e
      exact nomatch m
    · exact inF_cons.mpr (.inr z)
end
/-! ### the list that a law is given: len, [i], list -/
section
variable {X : Cx}
@[irreducible] def rcLenR : RC1 := fun ds P => ∃ xs, ds = [.frl xs] ∧ P (.pur (.int xs.length))
theorem lenR_i {xs : List D} {P : O → Prop} (h : P (.pur (.int xs.length))) : rcLenR [.frl xs] P := by
  unfold rcLenR
  exact ⟨xs, rfl, h⟩
theorem cg_lenR {K : PySem.W.Frag} (hK : X.K = K := by exact rfl) : CallG X (.builtin "len") (rvLen K) rcLenR := by
  subst hK
  refine ⟨call_len_seq, fun b hh xs ds P Q s z hp c => ?_⟩
  unfold rcLenR at hp
  obtain ⟨us, rfl, hp⟩ := hp
  obtain ⟨v, rfl, a, vs, rfl, q, t⟩ := denL1 z
  refine ⟨a, vs, rfl, .inl (Evl.ex_l s q), ?_⟩
  rw [← denL_len t]
  exact c _ b hh (.pur (.int _)) (Res.same s rfl) hp
@[irreducible] def rcListR : RC1 := fun ds P => ∃ xs, ds = [.frl xs] ∧ ∀ p, P (.lst p (xs.map .pur))
theorem listR_i {xs : List D} {P : O → Prop} (h : ∀ p, P (.lst p (xs.map .pur))) : rcListR [.frl xs] P := by
  unfold rcListR
  exact ⟨xs, rfl, h⟩
theorem cg_listR {K : PySem.W.Frag} (hK : X.K = K := by exact rfl) : CallG X (.type "list") (rvList K) rcListR := by
  subst hK
  refine ⟨call_list_of, fun b hh xs ds P Q s z hp c => ?_⟩
  unfold rcListR at hp
  obtain ⟨us, rfl, hp⟩ := hp
  obtain ⟨v, rfl, a, vs, rfl, q, t⟩ := denL1 z
  exact ⟨a, vs, rfl, .inl (Evl.ex_l s q), fun p np => c _ b _ _ (Res.own1 (o := .lst p (us.map .pur)) s np ⟨rfl, vs, upd_same, ownL_pur t⟩ (by simp [foot, footL_pur])) (hp p)⟩
@[irreducible] def roIxR : RO := fun x y P => ∃ xs i d, x = .frl xs ∧ y = .int i ∧ atI xs i = some d ∧ P (.pur d)
theorem ixR_i {xs : List D} {i : Int} {d : D} {P : O → Prop} (e : atI xs i = some d) (h : P (.pur d)) : roIxR (.frl xs) (.int i) P := by
  unfold roIxR
  exact ⟨xs, i, d, rfl, rfl, e, h⟩
theorem ig_frl {K : PySem.W.Frag} (hK : X.K = K := by exact rfl) : IxG X (rIxL K) roIxR := by
  subst hK
  refine ⟨ix_list, fun b hh x y dx dy P Q s zx zy hr c => ?_⟩
  unfold roIxR at hr
  obtain ⟨xs, i, d, rfl, rfl, e, p⟩ := hr
  obtain ⟨a, vs, rfl, q, t⟩ := zx
  obtain ⟨v, ev, z⟩ := denL_atI t e
  exact ⟨a, vs, i, v, rfl, zy, Evl.ex_l s q, ev, c _ b hh (.pur d) (Res.same s z) p⟩
end
end G
/-! G: an own exception's __init__ that says super().__init__('m') and keeps its argument: as a def's promise. -/
namespace G
open PySem PySem.Spec PyProof.Rows L2
open Evl (Ex)
/-- self.f = p behind super().__init__('m') -/
def supBody (m : Str) (f p : Str) (j : Nat) (p0 p1 p2 p3 p4 p5 p6 p7 p8 p9 : Pos) : List Stmt :=
  [.Expr (.Call (.Attribute (.Call (.Name "super" p0) [] [] p1) "__init__" p2) [.Constant (.str m) j p3] [] p4) p5, .Assign [.Attribute (.Name "self" p6) f p7] (.Name p p8) p9]
structure SupC (P : Program) (K : PySem.W.Frag) (C fI : Addr) (fd : FuncData) (p f : Str) : Prop where
  oex : OexC K C
  iC : PySem.W.findIn K (.ref C) "__init__" = some (some (.ref fI))
  tI : PySem.W.typeIn K (.ref fI) = some (.type "function")
  lk : ∃ oc od osl, K.lookup fI = some ⟨oc, od, .func fd, osl⟩
  cc : ∃ cc oc od osl, fd.closure = [(("__class__" : Str), cc)] ∧ K.lookup cc = some ⟨oc, od, .cell (some (.ref C)), osl⟩
  code : ∃ cda vs oc od osl file tf, fd.code = .ref cda ∧ K.lookup cda = some ⟨oc, od, .fields vs, osl⟩ ∧ vs[2]? = some (.str file tf) ∧ ((P.main.file : Str) == file) = true
  codeR : PySem.W.codeIn K fd.code fd.qualname = true
  glob : fd.globals = mainGlobals
  blt : fd.builtins = builtinsNs
  par : ∃ ar : PySem.Arg, (fd.params.posonlyargs ++ fd.params.args).head? = some ar ∧ ar.arg = "self"
  body : ∃ m j p0 p1 p2 p3 p4 p5 p6 p7 p8 p9, fd.body = .stmts (supBody m f p j p0 p1 p2 p3 p4 p5 p6 p7 p8 p9) ∧ (p2.endLine == p4.line) = true
  kind : fd.scope.kind = .function
  co : fd.scope.isCoroutine = false
  gen : fd.scope.isGenerator = false
  nsup : fd.scope.names.lookup ("super" : Str) = some .globalImplicit
  ncls : fd.scope.names.lookup ("__class__" : Str) = some .free
  nself : fd.scope.names.lookup ("self" : Str) = some .local
  np : fd.scope.names.lookup p = some .local
  ncell : ∀ x ∈ fd.scope.names, x.2 ≠ .cell
  pself : p ≠ "self"
  pdbg : (p == ("__debug__" : Str)) = false
  binds : ∀ us : List Value, us.length = 2 → bindArgs fd ⟨us, []⟩ = pure ((["self", p] : List Str).zip us)
  top : (P.main.scope.names.lookup ("super" : Str)).isSome = false
  sup : PySem.W.nsIn K mainGlobals "super" = some none
  opq : PySem.W.nsIn K cStatics "thirdparty.any" = some none
  noat : PySem.W.findIn K (.ref C) f = some none
  along : PySem.W.ks_superIn K C C "__init__" = some (some (.builtin "ValueError.__init__"))
  self : PySem.W.mroIn K C (.ref C) = some true
  ve : PySem.W.subIn K (.ref C) (.type "ValueError") = some true
/-- what such an __init__ does -/
def spSup (C : Addr) (f : Str) : Sp := fun vs H Q _ => ∃ (a : Addr) (y : V), vs = [.ref a, y] ∧ H a = some (exo a C none) ∧ ∀ dx, H dx = none → dx ≠ a → Q .non (upd (upd H dx (exd dx [(f, y)])) a (exo a C (some dx)))
def supScope (sc : Scope) (p : Str) : Scope := { sc with names := [("self", .local), (p, .local)] }
section
variable {P : Program} {w : World} {K : PySem.W.Frag} {mg : Str → Option Value} {base : Heap} {C fI : Addr} {fd : FuncData} {p f : Str}
theorem sup_scope (S : SupC P K C fI fd p f) : FnScope ["self", p] ["self", p] (supScope fd.scope p) := by
  have ne : (p == ("self" : Str)) = false := by simpa using S.pself
  refine ⟨S.kind, S.co, S.gen, by simp; exact Ne.symm S.pself, rfl, fun x hx => ?_, fun y hy => ?_⟩
  · rcases List.mem_cons.mp hx with e | hx
    · subst e; exact .inl rfl
    · rcases List.mem_cons.mp hx with e | hx
      · subst e
        left
        show List.lookup x [("self", NameKind.local), (x, NameKind.local)] = _
        rw [List.lookup_cons, ne]
        simp
      · exact absurd hx List.not_mem_nil
  · have hy' : y ∈ [(("self" : Str), NameKind.local), (p, NameKind.local)] := hy
    simp at hy'
    rcases hy' with e | e <;> rw [e] <;> exact fun z => NameKind.noConfusion z
end
section
open PySem.W PySem.Calls
variable {prog : Program} {w : World} {A : Around} {E : Value → Shared → Prop} {h : Heap} {g : Array GenState} {d : Drawn} {t : Nat} {os : OsState}
variable {nm q : Str} {C N : Addr} {bs bm : List Value} {hdct : Bool} {sn : List Str} {sub : List Value} {ab : Bool} {col : Option Bool} {dd : Option Addr} {k0 k1 k2 k3 k5 : Option Value}
/-- the built-in __init__ bound to a new exception, called -/
theorem bound_init {u x t0 : Addr} {rest : List Value} {Q : Value → Shared → Prop} (hu : h.get? u = some (kxs_mw "ValueError.__init__" x))
    (hC : h.get? C = some (excClassObj nm q C N bs bm hdct sn sub ab col dd k0 k1 k2 k3 k5 "ValueError.__new__")) (he : h.get? x = some ({ cls := .ref C, dict := none, data := .fields #[.ref t0, .none, .none, .none, .bool false, .none] } : Obj)) (hz : rest.length ≤ sizeLine)
    (hq : ∀ h' t1, (∀ b o, b ≠ x → h.get? b = some o → h'.get? b = some o) → h'.get? x = some ({ cls := .ref C, dict := none, data := .fields #[.ref t1, .none, .none, .none, .bool false, .none] } : Obj) → Q .none ⟨h', g, d, t, os⟩) :
    wpAny (model prog w) A (call (.ref u) rest) Q E ⟨h, g, d, t, os⟩ := by
  refine wpAny_call (codeAny_of_tree ?_)
  show wpAny _ A.in1 (callAny (.ref u) ⟨rest, []⟩) _ _ _
  simp only [callAny]
  refine wpAny_bind (wpAny_load hu ?_)
  simp only [kxs_mw, show (Value.type "method-wrapper" == Value.type "method" || Value.type "method-wrapper" == Value.type "builtin_function_or_method" || Value.type "method-wrapper" == Value.type "method-wrapper") = true by decide, if_true]
  refine KFB.if_so (by decide) ?_
  refine wpAny_bind (check_bound_init F.excBase_ValueError.toExcCallFacts hC he rfl ?_)
  refine wpAny_bind (wpAny_pure (wpAny_pure ?_))
  refine ⟨plainId_quiet F.excBase_ValueError.init.plain _, codeAny_builtin F.excBase_ValueError.initEntry ?_⟩
  exact exc_init_tree (cls := .ref C) (t0 := t0) (dv := none) (c2 := .none) (c3 := .none) (b4 := .bool false) he hz fun h' k e _ => hq h' h.objs.size k e
end
section
variable {P : Program} {w : World} {K : PySem.W.Frag} {mg : Str → Option Value} {base : Heap} {C fI : Addr} {fd : FuncData} {p f : Str}
theorem sup_binds (S : SupC P K C fI fd p f) {a u : Value} : ∀ x, ((((["self", p] : List Str).zip [a, u]).reverse.lookup x) : Option Value) = bindL (envOfC fd.qualname (supScope fd.scope p) 0 fI fd.code).kindOf ((["self", p] : List Str).zip [a, u]) (fun _ => none) x := by
  intro x
  have ne : (p == ("self" : Str)) = false := by simpa using S.pself
  have k1 : (envOfC fd.qualname (supScope fd.scope p) 0 fI fd.code).kindOf "self" = some .local := rfl
  have k2 : (envOfC fd.qualname (supScope fd.scope p) 0 fI fd.code).kindOf p = some .local := by
    show List.lookup p [("self", NameKind.local), (p, NameKind.local)] = _
    rw [List.lookup_cons, ne]
    simp
  show List.lookup x [(p, u), ("self", a)] = bindL _ [("self", a), (p, u)] (fun _ => none) x
  simp only [bindL, k1, k2, if_true]
  rw [List.lookup_cons]
  by_cases h : x = p
  · subst h
    simp
  · have h2 : (x == p) = false := by simpa using h
    rw [h2, if_neg h, List.lookup_cons]
    by_cases h3 : x = "self"
    · subst h3
      simp
    · have h4 : (x == ("self" : Str)) = false := by simpa using h3
      rw [h4, if_neg h3]
      rfl
theorem kindOf_L {q : Str} {sc : Scope} {L L' f : Addr} {cd : Value} : (envOfC q sc L f cd).kindOf = (envOfC q sc L' f cd).kindOf := rfl
theorem sup_fn (S : SupC P K C fI fd p f) (k : Nat) : L2.FnOk P w K mg base (L2.CX P w) (k + 1) fI fd ["self", p] (spSup C f) := by
  refine ⟨fun vs H Q E h => by obtain ⟨a, y, rfl, _⟩ := h; rfl, fun A outer s H args us vs Q E hr e0 hb r hsp => ?_⟩
  obtain ⟨a, y, rfl, ea, hQ⟩ := hsp
  cases r with
  | @cons _ u1 _ ur r1 r =>
  cases r with
  | @cons _ u2 _ ur r2 r =>
  cases r with
  | nil =>
  obtain rfl : u1 = Value.ref a := r1
  have KX : K.In s.heap := e0.mod.kin.keeps fun b o e => (e0.bs b o e).1
  have lim : s.heap.NoLimit := e0.mod.nolimit.keeps fun b o e => (e0.bs b o e).1
  obtain ⟨oc, od, osl, lk⟩ := S.lk
  obtain ⟨cc, occ, odc, oslc, hclo, lcc⟩ := S.cc
  obtain ⟨cda, vs, oco, odo, oslo, file, tf, hcode, lcode, hvs, hfile⟩ := S.code
  obtain ⟨ar, hpar, har⟩ := S.par
  obtain ⟨m, j, p0, p1, p2, p3, p4, p5, p6, p7, p8, p9, hbody, hpos⟩ := S.body
  have hloc : ∀ x ∈ (["self", p] : List Str).zip [Value.ref a, u2], fd.scope.names.lookup x.1 = some .local := fun x hx => by
    have hx' : x ∈ [(("self" : Str), Value.ref a), (p, u2)] := hx
    simp at hx'
    rcases hx' with e | e <;> subst e
    · exact S.nself
    · exact S.np
  refine ks_codeAny_call_defAt hr.depth (KX _ _ lk) rfl lim (PySem.W.codeRec_of KX S.codeR) hbody hb S.ncell hloc (fun h₁ hns hk₁ => ?_) S.co S.gen S.kind
  -- the state at the entry
  have I0 : Inv (cxOf (L2.CX P w) P w K mg base ["self", p] fd.qualname (supScope fd.scope p) fI fd.code A outer s H E) [] (start ["self", p] [.ref a, y]) H
      { s with heap := h₁, toks := s.toks + ((["self", p] : List Str).zip [Value.ref a, u2]).length } := by
    refine inv_start (ps := ["self", p]) (us := [.ref a, u2]) (sup_scope S) hr.hd e0 rfl (.cons rfl (.cons r2 .nil)) ⟨⟨⟨_, _, rfl⟩, ?_, hk₁, Nat.le_refl _⟩, ?_, ?_, ?_⟩
    · have e := funext (sup_binds S (a := .ref a) (u := u2))
      have hns' : h₁.Ns s.heap.objs.size (bindL (envOfC fd.qualname (supScope fd.scope p) 0 fI fd.code).kindOf ((["self", p] : List Str).zip [Value.ref a, u2]) (fun _ => none)) := by
        rw [← e]
        exact hns
      exact hns'
    · intro n c h
      cases h
    · exact List.Pairwise.nil
    · intro n c h
      cases h
  obtain ⟨mb, hb1, hb2⟩ := e0.mod.blt
  have hks := S.nsup
  obtain ⟨t1, ho⟩ := exo_at I0.hok ea
  have hsup : mg "super" = none := PySem.W.mg_none_of e0.mod.kin e0.mod.glob S.sup
  have KX1 : K.In h₁ := KX.keeps hk₁
  obtain ⟨nm, qn, N, bs, bm, sn, sub, ab, col, dd, k0, k1, k2, k3, k5, hC, hbm⟩ := S.oex.cls
  have hclC : ∃ cd, PySem.W.clsIn K C = some cd ∧ (K.lookup C).map (·.data) = some (.cls cd) := by
    unfold PySem.W.clsIn
    rw [hC]
    exact ⟨_, rfl, rfl⟩
  have hself : (callEnv fd s.heap.objs.size fI).kindOf ar.arg = some .local := by rw [har]; exact S.nself
  have hvself : (fun x => ((["self", p] : List Str).zip [Value.ref a, u2]).reverse.lookup x) ar.arg = some (Value.ref a) := by
    have e := sup_binds S (a := .ref a) (u := u2) ("self" : Str)
    rw [har]
    show List.lookup ("self" : Str) [(p, u2), (("self" : Str), Value.ref a)] = _
    have ne : (("self" : Str) == p) = false := by simpa using Ne.symm S.pself
    rw [List.lookup_cons, ne]
    rfl
  rw [show supBody m f p j p0 p1 p2 p3 p4 p5 p6 p7 p8 p9 = [_, _] from rfl]
  refine ks_wpAt_execs_cons ?_
  have hpc : methodCallPos true (.Call (.Name "super" p0) [] [] p1) (callEnv fd s.heap.objs.size fI) p2 p4 = pure p4 := by
    unfold methodCallPos
    rw [if_pos (by rw [hpos]; rfl)]
  have he : eval (.Call (.Attribute (.Call (.Name "super" p0) [] [] p1) "__init__" p2) [.Constant (.str m) j p3] [] p4) (callEnv fd s.heap.objs.size fI) = (do
      let ov ← attributeBase (.Call (.Name "super" p0) [] [] p1) "__init__" (callEnv fd s.heap.objs.size fI) (eval (.Call (.Name "super" p0) [] [] p1) (callEnv fd s.heap.objs.size fI))
      standAt p2.atName
      let (f, first) ← holding [ov] (getMethod ov "__init__" (do return (← importBound (.Call (.Name "super" p0) [] [] p1) (callEnv fd s.heap.objs.size fI)).getD true))
      callWith p4 f first (backTo p4 (starEach [.Constant (.str m) j p3] (callEnv fd s.heap.objs.size fI))) []) := by
    show (do
      let ov ← attributeBase (.Call (.Name "super" p0) [] [] p1) "__init__" (callEnv fd s.heap.objs.size fI) (eval (.Call (.Name "super" p0) [] [] p1) (callEnv fd s.heap.objs.size fI))
      standAt p2.atName
      let (f, first) ← holding [ov] (getMethod ov "__init__" (do return (← importBound (.Call (.Name "super" p0) [] [] p1) (callEnv fd s.heap.objs.size fI)).getD true))
      let callPos ← methodCallPos true (.Call (.Name "super" p0) [] [] p1) (callEnv fd s.heap.objs.size fI) p2 p4
      callWith callPos f first (backTo p4 (starEach [.Constant (.str m) j p3] (callEnv fd s.heap.objs.size fI))) []) = _
    rw [hpc]
    rfl
  refine ks_wpAt_Expr_any (ks_wpAt_MethodCall (he := he) (ks_wpAt_super_base (env := callEnv fd s.heap.objs.size fI) S.nsup S.ncls rfl rfl (KX1 _ _ lk) rfl hpar hcode (KX1 _ _ lcode) rfl hvs hfile S.top
    (PySem.W.ks_loadName_global S.kind S.nsup (Calls.loadGlobal_builtin (by show h₁.Ns fd.globals mg; rw [S.glob]; exact (e0.mod.glob.keeps fun b o e => hk₁ b o (e0.bs b o e).1)) hsup (by show h₁.Ns fd.builtins mb; rw [S.blt]; exact (hb1.keeps fun b o e => hk₁ b o (e0.bs b o e).1)) (show mb "super" = some (.type "super") from (hb2 "super" (by decide)).trans (by decide +kernel)) ⟨rfl, ?_⟩)))) (by unfold interactive; rw [show (callEnv fd s.heap.objs.size fI).scope.kind = .function from S.kind]; rfl)
  refine wpAny_loadName_free S.kind S.ncls (by show fd.closure.lookup _ = some cc; rw [hclo]; rfl) ⟨_, KX1 _ _ lcc, rfl⟩ ?_
  refine wpAny_loadName_local S.kind hself hns hvself ?_
  obtain ⟨cdC, hcd, hcdat⟩ := hclC
  obtain ⟨oC, hoC, hoC2⟩ : ∃ oC, h₁.get? C = some oC ∧ oC.data = .cls cdC := ⟨_, KX1 _ _ hC, by rw [hC] at hcdat; exact Option.some.inj hcdat⟩
  refine ks_wpAny_isType_cls hoC hoC2 ⟨rfl, ?_⟩
  refine ks_wpAny_call_super hoC hoC2 ho rfl (fun c e => by cases e) (PySem.W.looks_mroIn KX1 S.self) (fun h₂ hso k₂ => ?_)
  have KX2 : K.In h₂ := KX1.keeps k₂
  have ho2 := k₂ _ _ ho
  have J : PySem.W.InstAt h₂ a ({ cls := .ref C, dict := none, data := .fields #[.ref t1, .none, .none, .none, .bool false, .none] } : Obj) C none := ⟨ho2, rfl, rfl, trivial⟩
  have hI : PySem.W.Looks (model P w) h₂ (isInstance (.ref a) (.type "ValueError")) true := J.type.andThen (PySem.W.looks_subIn KX2 S.ve)
  have hal : PySem.W.alongIn K "__init__" ((cdC.mro.dropWhile (· != .ref C)).drop 1) = some (some (.builtin "ValueError.__init__")) := by
    have e := S.along
    unfold PySem.W.ks_superIn at e
    rw [hcd] at e
    exact e
  refine PySem.W.kxs_getMethod PySem.W.kxs_ValueError hso (PySem.W.looks_opaque KX2 S.opq) (l₀ := cdC.mro) (fun A Q E s k q => wpAny_bind ((PySem.W.looks_clsIn KX2 hcd) A _ E s k (wpAny_pure q))) rfl KX2 hal hI (PySem.W.ks_ne KX2 J hcd) (by decide) ?_
  have k3 : ∀ b o, h₂.get? b = some o → (h₂.push (PySem.W.kxs_mw "ValueError.__init__" a)).get? b = some o := fun b o e => Heap.get?_push_of_some _ e
  have hu : (h₂.push (PySem.W.kxs_mw "ValueError.__init__" a)).get? h₂.objs.size = some (PySem.W.kxs_mw "ValueError.__init__" a) := Heap.get?_push_at rfl rfl
  refine PySem.W.kxs_callWith (i := "ValueError.__init__") (x := a) rfl (Calls.evalArgs_plain (Calls.spliced_cons (Calls.Constant_str (k := j) (pos := p3) (Calls.spliced_nil ⟨hu, ?_⟩))))
  refine bound_init hu (k3 _ _ (k₂ _ _ (KX1 _ _ hC))) (k3 _ _ ho2) (by show 1 ≤ sizeLine; rw [sizeLine_eq]; omega) fun h₄ t2 k₄ hx => ?_
  have I3 : Inv (cxOf (L2.CX P w) P w K mg base ["self", p] fd.qualname (supScope fd.scope p) fI fd.code A outer s H E) [] (start ["self", p] [.ref a, y]) H
      { s with heap := h₂.push (PySem.W.kxs_mw "ValueError.__init__" a), toks := s.toks } := I0.kept (t' := s.toks) fun b o e => k3 _ _ (k₂ _ _ e)
  have I4 : ∀ tk, Inv (cxOf (L2.CX P w) P w K mg base ["self", p] fd.qualname (supScope fd.scope p) fI fd.code A outer s H E) [] (start ["self", p] [.ref a, y]) H { s with heap := h₄, toks := tk } := fun tk => by
    have J2 := I3.write (t' := tk) (x := a) (e := a) (o := exo a C none) (by rw [ea]; exact True.intro) (.inl rfl) k₄ ⟨_, hx⟩ (exo_ok hx)
    have eu : upd H a (exo a C none) = H := by
      funext b
      by_cases hb : b = a
      · rw [hb, upd_same, ea]
      · rw [upd_ne hb]
    rw [eu] at J2
    exact J2
  show PySem.wpAt _ _ _ (execs [_] _) _ _ _
  refine ks_wpAt_execs_cons (wpAt_of_wpAny (plainObj_wpAny_Assign_Attribute ?_))
  obtain ⟨m4, hn4, hl4⟩ := (I4 0).loc
  obtain ⟨v0, rv0, lk0⟩ := hl4 0 "self" (.ref a) rfl rfl (.inl rfl)
  have ksP : (supScope fd.scope p).names.lookup p = some .local := by
    have ne : (p == ("self" : Str)) = false := by simpa using S.pself
    show List.lookup p [("self", NameKind.local), (p, NameKind.local)] = _
    rw [List.lookup_cons, ne]
    simp
  obtain ⟨v1, rv1, lk1⟩ := hl4 1 p y rfl rfl (.inl ksP)
  obtain rfl : v0 = Value.ref a := rv0
  have g0 : m4 "self" = some (Value.ref a) := by
    rcases lk0 with ⟨_, e⟩ | ⟨_, c, e, _⟩
    · exact e
    · cases e
  have g1 : m4 p = some v1 := by
    rcases lk1 with ⟨_, e⟩ | ⟨_, c, e, _⟩
    · exact e
    · cases e
  refine wpAny_Name (wpAny_loadName_local S.kind S.np hn4 g1 ?_) S.pdbg
  refine wpAny_Name (wpAny_loadName_local S.kind S.nself hn4 g0 ?_) (by decide)
  refine ost_new S.oex (I4 _) ea S.noat rv1 (fun dx s' n ne J => ?_)
  show PySem.wpAt _ _ _ (execs [] _) _ _ _
  refine wpAt_of_wpAny (wpAny_execs_nil ?_)
  exact ⟨.non, _, J.os, J.bare, J.base, J.hok, rfl, hQ dx n ne⟩
end
end G
/-! G: raise of own exceptions, try .. except C as e, isinstance(e, C), e.f. -/
namespace G
open PySem PySem.Spec PyProof.Rows L2
open Evl (Ex)
section
variable {X : Cx} {W : WX} {C fI : Addr} {fd : FuncData} {x f p : Str} {e : Expr} {te : TE} {wa : WE} {pp pos pos' : Pos} {k : Nat}
/-! ### raise -/
/-- C() of an own exception class without own __init__ -/
theorem pmk_bare {bmB : List Value} {B newId initId : String} (F : ExcBaseFacts B newId initId bmB) (q : PySem.W.excIn X.K C bmB newId = true) (gC : X.mg x = some (.ref C)) (kC : PySem.W.keepIn X.K (.ref C) = true) (r : Raises X (.ref C)) (hg : Gl X x)
    (hdb : (x == ("__debug__" : Str)) = false := by decide) : PMk X (.Call (.Name x pp) [] [] pos) (fun _ H Q => Q (.ref C) none H) := by
  intro pins s σ H Q I h
  obtain ⟨bm, N, nm, qn, bs, hdct, sn, sub, ab, col, dd, k0, k1, k2, k3, k5, mN, hC, hN, hni, T⟩ := exc_obj I.kIn q
  refine wpAny_Call_Name_kw (ld_glob I hg gC (PySem.W.callWith_K0 I.kIn kC ?_) hdb)
  show wpAny _ _ (call (.ref C) []) _ _ _
  exact wpAny_call_exc_subT F T hC hN hni (fun h' e hm => mk_of I hm r h (I.hok.gone hm.new)) (Nat.zero_le _)
def wRaise0 (C : Addr) : WS := fun We _ g => We (C, []) g
theorem gs_raise0 (C0 : Ctx X W) (q : PySem.W.excIn X.K C He.veBase "ValueError.__new__" = true) (gC : X.mg x = some (.ref C)) (kC : PySem.W.keepIn X.K (.ref C) = true) (h1 : PySem.W.subIn X.K (.ref C) (.type "BaseException") = some true)
    (h2 : PySem.W.typeIn X.K (.ref C) = some (.type "type")) (hg : Gl X x := by rfl) (hdb : (x == ("__debug__" : Str)) = false := by decide) : GS X W (.Raise (some (.Call (.Name x pp) [] [] pos)) none pos') (wRaise0 C) :=
  ⟨_, ps_raise C0.calm C0.tk (pmk_bare F.excBase_ValueError q gC kC (raises_own h1 h2) hg hdb), fun b h σ g We E D k hw hx ct => hx (.ref C) none σ b h g (C, []) k (Frm.refl g b h) ⟨rfl, .inl ⟨rfl, rfl⟩⟩ hw⟩
def wRaiseF (C : Addr) (f : Str) (wa : WE) : WS := fun We _ g => wa We g fun o g1 => We (C, [(f, o.d)]) g1
theorem gs_raiseF (C0 : Ctx X W) (S : SupC X.prog X.K C fI fd p f) (hr : Room (k + 1 + 1) X.A) (hm : X.mg x = some (.ref C)) (he : GE X W e te wa) (hg : Gl X x := by rfl) (hdb : (x == ("__debug__" : Str)) = false := by decide)
    (hs : starEach [e] X.env = (false, eval e X.env) :: starEach [] X.env := by rfl) : GS X W (.Raise (some (.Call (.Name x pp) [e] [] pos)) none pos') (wRaiseF C f wa) := by
  obtain ⟨pa, qa⟩ := he
  have hx0 : Passes (L2.CX X.prog X.w) X (fun _ _ _ => False) := passes_call C0.tk fun _ _ _ _ z => z.elim
  have PA0 : PA X [e] (tCons te tNil) := pa_cons pa pa_nil hs
  refine ⟨_, ps_raise C0.calm C0.tk (pmk_oex S.oex S.iC S.tI (sup_fn S k) hr.toRoom (.all S.binds) .nil hx0 hg hm PA0 hdb hs rfl), fun b h σ g We E D k0 hw hx ct => ?_⟩
  refine qa b h σ g We _ _ k0 hw hx fun v b1 h1 g1 o k1 f1 p1 => ?_
  obtain ⟨b2, k2, f2, z⟩ := come k1 f1
  refine ⟨by show 1 ≤ 1000; decide, fun a ha => ⟨a, v, rfl, upd_same, fun dx hd ne => ⟨rfl, dx, [(f, v)], upd_same, by rw [upd_ne ne, upd_same], by rw [upd_ne ne] at hd; exact hd, ?_⟩⟩⟩
  have hd1 : h1 dx = none := by rw [upd_ne ne] at hd; exact hd
  have eh : upd (del (upd (upd (upd h1 a (exo a C none)) dx (exd dx [(f, v)])) a (exo a C (some dx))) a) dx (.xd [(f, v)]) = upd h1 dx (.xd [(f, v)]) := by
    funext c
    by_cases hc : c = dx
    · subst hc; rw [upd_same, upd_same]
    · rw [upd_ne hc, upd_ne hc]
      by_cases hca : c = a
      · subst hca; rw [del_same, ha]
      · rw [del_ne hca, upd_ne hca, upd_ne hc, upd_ne hca]
  show W (.ref C) (some dx) σ (upd (del (upd (upd (upd h1 a (exo a C none)) dx (exd dx [(f, v)])) a (exo a C (some dx))) a) dx (.xd [(f, v)]))
  rw [eh]
  have nb : b2 dx = none := Evl.fresh_back k2.sub hd1
  have zz : den X.K (upd b2 dx (.xd [(f, v)])) (.exc a C (some dx) [f] [o.d]) (.ref a) := ⟨rfl, .inr ⟨dx, [v], rfl, upd_same, rfl, v, [], rfl, den_mono (Ex.new nb) _ _ z, rfl⟩⟩
  obtain ⟨k3, f3⟩ := (Res.new (d := .exc a C (some dx) [f] [o.d]) k2.sub hd1 zz).lift k2
  exact hx (.ref C) (some dx) σ _ _ g1 (C, [(f, o.d)]) k3.tail (f2.trans (f3.sub fun c q => inF_cons.mpr (.inr q))) ⟨rfl, .inr ⟨dx, [v], rfl, upd_same, v, [], rfl, den_mono (Ex.new nb) _ _ z, rfl⟩⟩ p1
end
/-! ### try: body, except C as n: suite -/
theorem Hold.drop {K : PySem.W.Frag} {b h : Hp} {σ : L2.St} {g : Gam} (k : Hold K b h σ g) (i : Nat) : Hold K b h (σ.set i none) (g.set i none) ∧ ∀ a, inF (g.set i none) a → inF g a := by
  have old : ∀ (j : Nat) (u : O), (g.set i none)[j]? = some (some u) → j ≠ i ∧ g[j]? = some (some u) := fun j u q => by
    by_cases hj : i = j
    · subst hj
      by_cases hi : i < g.length
      · rw [List.getElem?_set_self hi] at q; simp at q
      · rw [List.getElem?_eq_none (by simpa using hi)] at q; cases q
    · rw [List.getElem?_set_ne hj] at q; exact ⟨Ne.symm hj, q⟩
  refine ⟨⟨k.sub, by simp [k.len], fun j u q => ?_, fun j u q => k.nd j u (old j u q).2, fun j l u w n q1 q2 => k.dj j l u w n (old j u q1).2 (old l w q2).2, fun j u q => k.nb j u (old j u q).2⟩, fun a ⟨j, u, q, m⟩ => ⟨j, u, (old j u q).2, m⟩⟩
  obtain ⟨nj, q2⟩ := old j u q
  obtain ⟨v, e, z⟩ := k.sl j u q2
  exact ⟨v, by rw [List.getElem?_set_ne (Ne.symm nj)]; exact e, z⟩
abbrev WSu := Exn → Addr → Value → Option Addr → WS
def noX : WX := fun _ _ _ _ => False
structure GSu (X : Cx) (st : List Stmt) (ws : WSu) : Prop where
  ex : ∀ (a : Addr) (oe : Obj) (cls : Value) (d : Option Addr) (pn : List (Addr × Obj)), Zc cls d oe → (∃ vs, oe.data = .fields vs) → ∀ x, GSs (X.suite a ((a, oe) :: pn)) noX st (ws x a cls d)
def suT (K : PySem.W.Frag) (ws : WSu) (a : Addr) (cls : Value) (d : Option Addr) : TS := fun D σ H => ∃ b g x E, Hold K b H σ g ∧ exAt K b H x cls d ∧ ws x a cls d (fun _ _ => False) E g ∧ EndsOk K g b H E D
def bdT (K : PySem.W.Frag) (wb : WS) (W : WX) : TS := fun D σ H => ∃ b g We E, Hold K b H σ g ∧ wb We E g ∧ ContX K g b H We W ∧ EndsOk K g b H E D
theorem GSu.pss {X : Cx} {st : List Stmt} {ws : WSu} (h : GSu X st ws) {a : Addr} {oe : Obj} {cls : Value} {d : Option Addr} {pn : List (Addr × Obj)} (hz : Zc cls d oe) (hf : ∃ vs, oe.data = .fields vs) : PSs (X.suite a ((a, oe) :: pn)) st (suT X.K ws a cls d) := by
  refine ⟨fun pins s σ H D I ⟨b, g, x, E, k, hx, hw, ct⟩ => ?_⟩
  obtain ⟨t, p, q⟩ := (h.ex a oe cls d pn hz hf x).ex
  exact p.run pins s σ H D I (q b H σ g _ E D k hw (fun _ _ _ _ _ _ _ _ _ _ z => z.elim) ct)
/-- what is wanted behind a suite: its name has gone -/
def sufE (i : Nat) (E : GEnds) : GEnds := { nx := fun g => E.nx (g.set i none), rt := E.rt, bk := fun g => E.bk (g.set i none), ct := fun g => E.ct (g.set i none) }
def excD (x : Exn) (a : Addr) (d : Option Addr) : D := .exc a x.1 d (x.2.map (·.1)) (x.2.map (·.2))
theorem exAt_den {K : PySem.W.Frag} {b h : Hp} {x : Exn} {d : Option Addr} {cls : Value} (z : exAt K b h x cls d) (a : Addr) : den K b (excD x a d) (.ref a) := by
  obtain ⟨_, ⟨e1, e2⟩ | ⟨dd, vs, e1, e2, e3⟩⟩ := z
  · exact ⟨rfl, .inl ⟨e1, by rw [e2]; rfl, by rw [e2]; rfl⟩⟩
  · exact ⟨rfl, .inr ⟨dd, vs, e1, e2, by rw [← denL_len e3]; simp, e3⟩⟩
def wCatch (K : PySem.W.Frag) (c : Value) (i : Nat) (ws : WSu) (We : Wsh) (E : GEnds) : Wsh := fun x g1 => ∃ b, PySem.W.exmOne K (.ref x.1) c = some b ∧
  (b = true → ∀ a d, ws x a (.ref x.1) d (fun _ _ => False) (sufE i E) (g1.set i (some (.pur (excD x a d))))) ∧ (b = false → We x g1)
def wTry (K : PySem.W.Frag) (c : Value) (i : Nat) (wb : WS) (ws : WSu) : WS := fun We E g => wb (wCatch K c i ws We E) E g
section
variable {X : Cx} {W : WX} {x n : Str} {c : Value} {i : Nat} {body suite : List Stmt} {b₀ : Stmt} {np pos pos' : Pos} {wb : WS} {ws : WSu}
theorem gs_try (C0 : Ctx X W) (hc : Names X x c) (hb : ∀ (W' : WX) (pn : List (Addr × Obj)) (xe : Value → Shared → Prop), Ctx (X.tr pn xe) W' → GSs (X.tr pn xe) W' body wb) (hsu : GSu X (b₀ :: suite) ws)
    (hs : X.stack = X.env :: X.outer := by rfl) (hf : X.env.frame = some X.env.locals := by rfl) (hi : X.N[i]? = some n := by rfl) (hln : X.env.kindOf n = some .local := by rfl) {K : PySem.W.Frag} (hK : X.K = K := by exact rfl) :
    GS X W (.Try body [.ExceptHandler (some (.Name x np)) (some n) (b₀ :: suite) pos'] [] [] pos) (wTry K c i wb ws) := by
  subst hK
  refine ⟨_, ps_try_as (tb := bdT X.K wb) (ts := suT X.K ws) (Wout := W) hs hf C0.nd hi hln hc C0.tk (fun W' pn xe tk po => ⟨fun pins s σ H D I ⟨b, g, We, E, k, hw, hx, ct⟩ => ?_⟩) (fun a oe cls d pn hz hv => hsu.pss hz hv), fun b h σ g We E D k hw hx ct => ?_⟩
  · obtain ⟨t, p, q⟩ := (hb W' pn xe ⟨tk, po, C0.nd, C0.calm⟩).ex
    exact p.run pins s σ H D I (q b H σ g We E D k hw hx ct)
  · refine ⟨b, g, _, E, k, hw, fun cls d σ' b' h' g' x k' f' z q => ?_, ct⟩
    obtain ⟨bb, e, hy, hn⟩ := q
    obtain rfl : cls = .ref x.1 := z.1
    refine ⟨bb, e, fun hbb a ha => ?_, fun hbb => hx _ d σ' b' h' g' x k' f' z (hn hbb)⟩
    obtain ⟨k1, f1⟩ := (Res.same k'.sub (exAt_den z a)).lift k'
    obtain ⟨k2, s2⟩ := k1.put i
    have f2 := f'.trans (f1.sub s2)
    refine ⟨b', _, x, sufE i E, k2, z, hy hbb a d, ⟨fun σ3 b3 h3 g3 k3 f3 p3 => ?_, fun σ3 b3 h3 g3 k3 f3 p3 => ?_, fun σ3 b3 h3 g3 k3 f3 p3 => ?_, fun σ3 v b3 h3 g3 o k3 f3 p3 => ct.rt σ3 v b3 h3 g3 o k3 (f2.trans f3) p3⟩⟩
    · obtain ⟨k4, s4⟩ := k3.drop i
      exact ct.nx _ b3 h3 _ k4 (f2.trans (f3.sub s4)) p3
    · obtain ⟨k4, s4⟩ := k3.drop i
      exact ct.bk _ b3 h3 _ k4 (f2.trans (f3.sub s4)) p3
    · obtain ⟨k4, s4⟩ := k3.drop i
      exact ct.ct _ b3 h3 _ k4 (f2.trans (f3.sub s4)) p3
end
/-! ### within a suite: isinstance(e, C), e.f -/
/-- where the exception stands -/
def ExA (a : Addr) (cls : Value) (d : Option Addr) (oe : Obj) : Prop := Zc cls d oe ∧ ∃ vs, oe.data = .fields vs
def rIsX (K : PySem.W.Frag) (a : Addr) (cls : Value) (d : Option Addr) (cv : Value) : List V → Hp → VK → Prop := fun xs H Q => ∃ (C : Addr) (b : Bool) (c : V), xs = [.ref a, c] ∧ (∀ u, RelV c u → u = cv) ∧ cls = .ref C ∧ ExcC K C ∧
  (d = none ∨ ∃ dd fs, d = some dd ∧ H dd = some (.xd fs)) ∧ PySem.W.kitOne K (.ref C) cv = some b ∧ Q (.bl b) H
theorem call_isX {X : Cx} {a : Addr} {oe : Obj} {cls : Value} {d : Option Addr} {cv : Value} {pn : List (Addr × Obj)} (hE : ExA a cls d oe) : CallR (X.suite a ((a, oe) :: pn)) (.builtin "isinstance") (rIsX X.K a cls d cv) := by
  intro pins s σ H xs us Q I r h
  obtain ⟨C, b, c, rfl, hcv, rfl, eC, hd, e, q⟩ := h
  obtain ⟨⟨hz1, hz2⟩, vs, hv⟩ := hE
  cases r with | @cons _ u0 _ ur r0 r1 =>
  cases r1 with | @cons _ u1 _ _ r1 r2 =>
  cases r2
  obtain rfl : u0 = Value.ref a := r0
  obtain rfl := hcv _ r1
  have hget := (I.pin (a, oe) (List.mem_append_left _ List.mem_cons_self)).1
  have hcl : (PySem.W.clsIn X.K C).isSome = true := by
    obtain ⟨cd, hc, _⟩ := PySem.W.any_some eC.hd
    rw [hc]; rfl
  have J : ∃ od, PySem.W.InstAt s.heap a oe C od := by
    rcases hd with e0 | ⟨dd, fs, e0, e1⟩
    · exact ⟨none, hget, hz1, by unfold PySem.W.notCls; rw [hv], by rw [hz2, e0]; trivial⟩
    · obtain ⟨o, ho⟩ := objOk_get (I.hok dd _ e1)
      exact ⟨some o, hget, hz1, by unfold PySem.W.notCls; rw [hv], by rw [hz2, e0]; exact ho⟩
  obtain ⟨od, J⟩ := J
  exact PySem.W.kia_one (PySem.W.kitx_exc hcl eC.hg eC.hk eC.hs eC.ha eC.hn eC.ht eC.hm) I.kIn J e (fun z => nomatch z) fun tk => ⟨.bl b, H, I.kept (t' := tk) fun _ _ z => z, rfl, q⟩
def wIsE (K : PySem.W.Frag) (a : Addr) (cls : Value) (d : Option Addr) (i : Nat) (cv : Value) : WE := fun _ g P => match g[i]? with
  | some (some (.pur (.exc a' C d' _ _))) => a' = a ∧ d' = d ∧ cls = .ref C ∧ ExcC K C ∧ ∃ b, PySem.W.kitOne K (.ref C) cv = some b ∧ P (.pur (.bl b)) g
  | _ => False
section
variable {X : Cx} {W : WX} {a : Addr} {oe : Obj} {cls : Value} {d : Option Addr} {pn : List (Addr × Obj)} {i : Nat} {n : Str} {p p1 p2 pos : Pos}
theorem ge_isE {ce : Expr} {v : V} {cv : Value} (hE : ExA a cls d oe) (hI : X.mg "isinstance" = none) (hv : PE (X.suite a ((a, oe) :: pn)) ce (tC v)) (hcv : ∀ u, RelV v u → u = cv) (hN : X.N[i]? = some n := by rfl)
    (hvi : Vis X.env.scope n := by first | exact Or.inl rfl | exact Or.inr (Or.inl rfl) | exact Or.inr (Or.inr rfl)) (hd : (n == ("__debug__" : Str)) = false := by decide) (hcd : (n == ("__classdict__" : Str)) = false := by decide)
    (hg : Gl X "isinstance" := by rfl) (hs : starEach [ce] X.env = (false, eval ce X.env) :: starEach [] X.env := by rfl) {K : PySem.W.Frag} (hK : X.K = K := by exact rfl) :
    GE (X.suite a ((a, oe) :: pn)) W (.Call (.Name "isinstance" p) [.Name n p1, ce] [] pos) (tCB (rIsX K a cls d cv) (tCons (tVar i) (tCons (tC v) tNil))) (wIsE K a cls d i cv) := by
  subst hK
  have PA0 : PA (X.suite a ((a, oe) :: pn)) [.Name n p1, ce] (tCons (tVar i) (tCons (tC v) tNil)) := pa_cons (pe_var (i := i) hN hvi hd hcd) (pa_cons hv pa_nil hs) (by show starEach _ X.env = (false, _) :: starEach _ X.env; rfl)
  refine ⟨pe_callB (call_isX hE) hg hI (by decide +kernel) PA0 (by decide) (by decide) (by show starEach _ X.env = (false, _) :: starEach _ X.env; rfl) (by show (backTo pos (starEach [ce] X.env)).any (·.1) = false; rw [hs]; rfl), fun b h σ g We P Q k hw hx ct => ?_⟩
  unfold wIsE at hw
  split at hw
  · rename_i a' C d' fs ds e
    obtain ⟨rfl, rfl, rfl, eC, bb, ek, q⟩ := hw
    obtain ⟨u, eu, z⟩ := k.sl i _ e
    obtain ⟨rfl, zz⟩ := (show den X.K b (.exc a' C d' fs ds) u from z)
    refine ⟨_, eu, C, bb, v, rfl, hcv, rfl, eC, ?_, ek, fin k (Frm.refl g b h) (Res.same k.sub (d := .bl bb) rfl) ct q⟩
    rcases zz with hz | hz
    · exact .inl hz.1
    · obtain ⟨dd, vs, e1, e2, _⟩ := hz
      exact .inr ⟨dd, _, e1, k.sub _ _ e2⟩
  · exact hw.elim
def tXfX (K : PySem.W.Frag) (a : Addr) (cls : Value) (d : Option Addr) (f : Str) (te : TE) : TE := fun σ H Q => ∃ C, XfC K C ∧ PySem.W.findIn K (.ref C) f = some none ∧ tXf a cls d C f te σ H Q
def wXf (K : PySem.W.Frag) (a : Addr) (cls : Value) (d : Option Addr) (i : Nat) (f : Str) : WE := fun _ g P => match g[i]? with
  | some (some (.pur (.exc a' C d' fs ds))) => a' = a ∧ d' = d ∧ cls = .ref C ∧ XfC K C ∧ PySem.W.findIn K (.ref C) f = some none ∧ ∃ y, (fs.zip ds).lookup f = some y ∧ P (.pur y) g
  | _ => False
theorem lookup_den {K : PySem.W.Frag} {b : Hp} {f : Str} {y : D} : ∀ {fs : List Str} {ds : List D} {vs : List V}, denL K b ds vs → (fs.zip ds).lookup f = some y → ∃ v, (fs.zip vs).lookup f = some v ∧ den K b y v
  | [], _, _, _, e => by simp at e
  | _ :: _, [], _, _, e => by simp at e
  | g :: fs, d :: ds, _, ⟨v, r, rfl, z, t⟩, e => by
    rw [List.zip_cons_cons, List.lookup_cons] at e ⊢
    cases q : (f == g) with
    | true => rw [q] at e; cases e; exact ⟨v, rfl, z⟩
    | false => rw [q] at e; exact lookup_den t e
theorem ge_xf {f : Str} (hE : ExA a cls d oe) (hN : X.N[i]? = some n := by rfl)
    (hvi : Vis X.env.scope n := by first | exact Or.inl rfl | exact Or.inr (Or.inl rfl) | exact Or.inr (Or.inr rfl)) (hd : (n == ("__debug__" : Str)) = false := by decide) (hcd : (n == ("__classdict__" : Str)) = false := by decide)
    (hb : attributeBase (.Name n p1) f X.env (eval (.Name n p1) X.env) = eval (.Name n p1) X.env := by rfl) {K : PySem.W.Frag} (hK : X.K = K := by exact rfl) :
    GE (X.suite a ((a, oe) :: pn)) W (.Attribute (.Name n p1) f pos) (tXfX K a cls d f (tVar i)) (wXf K a cls d i f) := by
  subst hK
  refine ⟨⟨fun pins s σ H Q I ⟨C, hx, hno, h⟩ => ?_⟩, fun b h σ g We P Q k hw hx ct => ?_⟩
  · exact (pe_xf (X := X) (pn := pn) hx hno hE.1 hE.2 (pe_var (i := i) hN hvi hd hcd) hb).run pins s σ H Q I h
  · unfold wXf at hw
    split at hw
    · rename_i a' C d' fs ds e
      obtain ⟨rfl, rfl, rfl, hX, hno, y, el, q⟩ := hw
      obtain ⟨u, eu, z⟩ := k.sl i _ e
      obtain ⟨rfl, zz⟩ := (show den X.K b (.exc a' C d' fs ds) u from z)
      rcases zz with hz | hz
      · rw [hz.2.1] at el
        simp at el
      · obtain ⟨dd, vs, rfl, e2, _, e3⟩ := hz
        obtain ⟨v, ev, zv⟩ := lookup_den e3 el
        exact ⟨C, hX, hno, _, eu, rfl, rfl, dd, _, v, rfl, k.sub _ _ e2, ev, fin k (Frm.refl g b h) (Res.same k.sub zv) ct q⟩
    · exact hw.elim
end
end G
/-! G: what the top leaves of own exceptions, as facts; a hook that tells their __init__s too. -/
namespace G
open PySem PySem.Spec PyProof.Rows L2
open Evl (Ex)
def oexB (K : PySem.W.Frag) (C : Addr) : Bool := (match K.lookup C with
  | some ⟨.type t, _, .cls cd, sl⟩ => t == "type" && (match cd.mro, sl.toList with
    | .ref C' :: bm, [_, _, _, _, some (.builtin n), _] => C' == C && (n == "ValueError.__new__" && (!cd.hasDel && (cd.hasDict && PySem.HandSPX.refsVE bm)))
    | _, _ => false)
  | _ => false) && (He.eqO (PySem.W.findIn K (.ref C) "__setattr__") (some (some (.builtin "object.__setattr__"))) && (decide (PySem.W.subIn K (.ref C) (.type "BaseException") = some true) && (decide (PySem.W.typeIn K (.ref C) = some (.type "type")) && PySem.W.keepIn K (.ref C))))
theorem oexB_ok {K : PySem.W.Frag} {C : Addr} (h : oexB K C = true) : OexC K C := by
  obtain ⟨h1, h⟩ := He.ba h
  obtain ⟨h2, h⟩ := He.ba h
  obtain ⟨h3, h⟩ := He.ba h
  obtain ⟨h4, h5⟩ := He.ba h
  refine ⟨?_, He.eqO_ok h2, of_decide_eq_true h3, of_decide_eq_true h4, h5⟩
  split at h1
  · rename_i t dd cd sl hl
    obtain ⟨ht, h1⟩ := He.ba h1
    obtain rfl : t = "type" := by simpa using ht
    split at h1
    · rename_i C' bm k0 k1 k2 k3 n k5 hm hs
      obtain ⟨_, h1⟩ := He.ba h1
      obtain ⟨e1, h1⟩ := He.ba h1
      obtain ⟨e2, h1⟩ := He.ba h1
      obtain ⟨e3, h1⟩ := He.ba h1
      obtain ⟨e4, e5⟩ := He.ba h1
      obtain rfl : C' = C := by simpa using e1
      obtain rfl : n = "ValueError.__new__" := by simpa using e2
      obtain ⟨nm, bs, mro, ns, qn, hd, sn, sub, ab, col, dl⟩ := cd
      obtain rfl : mro = .ref C' :: bm := hm
      obtain rfl : hd = true := e4
      obtain rfl : dl = false := by simpa using e3
      obtain ⟨l⟩ := sl
      obtain rfl : l = [k0, k1, k2, k3, some (.builtin "ValueError.__new__"), k5] := hs
      exact ⟨nm, qn, ns, bs, bm, sn, sub, ab, col, dd, k0, k1, k2, k3, k5, hl, e5⟩
    · cases h1
  · cases h1
abbrev FnS : Type := Option (Arguments × FuncBody × Scope × Addr × Addr)
def fnS (K : PySem.W.Frag) (x : Str) : FnS := match K.lookup (He.ma K (He.ga K x) "__init__") with
  | some ⟨_, _, .func fd, _⟩ => some (fd.params, fd.body, fd.scope, fd.globals, fd.builtins)
  | _ => none
/-- a class whose __init__ says super().__init__('m'); self.f = p -/
structure SupD where
  cls : Str
  f : Str
  params : Arguments
  body : List Stmt
  scope : Scope
def SupD.val (d : SupD) : FnS := some (d.params, .stmts d.body, d.scope, mainGlobals, builtinsNs)
def nonB : Value → Bool
  | .none => true
  | _ => false
def fdB (file : Str) (K : PySem.W.Frag) (C : Addr) (fd : FuncData) : Bool := PySem.W.codeIn K fd.code fd.qualname && (nonB fd.defaults && ((match fd.closure with
  | [(n, c)] => decide (n = ("__class__" : Str)) && (match K.lookup c with
    | some ⟨_, _, .cell (some (.ref D)), _⟩ => D == C
    | _ => false)
  | _ => false) && match fd.code with
    | .ref c => (match K.lookup c with
      | some ⟨_, _, .fields vs, _⟩ => (match (vs[2]? : Option Value) with
        | some (.str n _) => file == n
        | _ => false)
      | _ => false)
    | _ => false))
def supB (file : Str) (d : SupD) (K : PySem.W.Frag) : Bool := let C := He.ga K d.cls
  let fI := He.ma K C "__init__"
  oexB K C && (He.eqO (PySem.W.findIn K (.ref C) "__init__") (some (some (.ref fI))) && (decide (PySem.W.typeIn K (.ref fI) = some (.type "function")) && ((match K.lookup fI with
    | some ⟨_, _, .func fd, _⟩ => fdB file K C fd
    | _ => false) && (He.eqO (PySem.W.nsIn K mainGlobals "super") (some none) && (He.eqO (PySem.W.nsIn K cStatics "thirdparty.any") (some none) && (He.eqO (PySem.W.findIn K (.ref C) d.f) (some none) &&
    (decide (PySem.W.ks_superIn K C C "__init__" = some (some (.builtin "ValueError.__init__"))) && (decide (PySem.W.mroIn K C (.ref C) = some true) && decide (PySem.W.subIn K (.ref C) (.type "ValueError") = some true)))))))))
structure SupSc (sc : Scope) (p : Str) : Prop where
  kind : sc.kind = .function
  co : sc.isCoroutine = false
  gen : sc.isGenerator = false
  nsup : sc.names.lookup ("super" : Str) = some .globalImplicit
  ncls : sc.names.lookup ("__class__" : Str) = some .free
  nself : sc.names.lookup ("self" : Str) = some .local
  np : sc.names.lookup p = some .local
  ncell : ∀ x ∈ sc.names, x.2 ≠ .cell
theorem supC_of {P : Program} {K : PySem.W.Frag} {d : SupD} {p : Str} (hB : supB P.main.file d K = true) (hE : fnS K d.cls = d.val)
    (hbody : ∃ m j p0 p1 p2 p3 p4 p5 p6 p7 p8 p9, d.body = supBody m d.f p j p0 p1 p2 p3 p4 p5 p6 p7 p8 p9 ∧ (p2.endLine == p4.line) = true) (hsc : SupSc d.scope p)
    (hpar : ∃ ar : PySem.Arg, (d.params.posonlyargs ++ d.params.args).head? = some ar ∧ ar.arg = "self")
    (hbi : ∀ fd : FuncData, fd.params = d.params → fd.defaults = .none → ∀ us : List Value, us.length = 2 → bindArgs fd ⟨us, []⟩ = pure ((["self", p] : List Str).zip us))
    (htop : (P.main.scope.names.lookup ("super" : Str)).isSome = false) (hp : p ≠ "self") (hdbg : (p == ("__debug__" : Str)) = false) : ∃ fd, SupC P K (He.ga K d.cls) (He.ma K (He.ga K d.cls) "__init__") fd p d.f := by
  obtain ⟨h1, h⟩ := He.ba hB
  obtain ⟨h2, h⟩ := He.ba h
  obtain ⟨h3, h⟩ := He.ba h
  obtain ⟨h4, h⟩ := He.ba h
  obtain ⟨h5, h⟩ := He.ba h
  obtain ⟨h6, h⟩ := He.ba h
  obtain ⟨h7, h⟩ := He.ba h
  obtain ⟨h8, h⟩ := He.ba h
  obtain ⟨h9, h10⟩ := He.ba h
  unfold fnS at hE
  cases q : K.lookup (He.ma K (He.ga K d.cls) "__init__") with
  | none => rw [q] at hE; cases hE
  | some o =>
    obtain ⟨oc, od, dt, osl⟩ := o
    rw [q] at hE h4
    cases dt with
    | func fd =>
      have hE' : some (fd.params, fd.body, fd.scope, fd.globals, fd.builtins) = some (d.params, FuncBody.stmts d.body, d.scope, mainGlobals, builtinsNs) := hE
      simp only [Option.some.injEq, Prod.mk.injEq] at hE'
      obtain ⟨e1, e2, e3, e4, e5⟩ := hE'
      have h4' : fdB P.main.file K (He.ga K d.cls) fd = true := h4
      obtain ⟨a1, h4'⟩ := He.ba h4'
      obtain ⟨a2, h4'⟩ := He.ba h4'
      obtain ⟨a3, a4⟩ := He.ba h4'
      have dn : fd.defaults = .none := by
        cases hd : fd.defaults with
        | none => rfl
        | _ => rw [hd] at a2; cases a2
      have ecc : ∃ cc oc od osl, fd.closure = [(("__class__" : Str), cc)] ∧ K.lookup cc = some ⟨oc, od, .cell (some (.ref (He.ga K d.cls))), osl⟩ := by
        split at a3
        · rename_i n c hcl
          obtain ⟨b1, b2⟩ := He.ba a3
          obtain rfl : n = "__class__" := by simpa using b1
          split at b2
          · rename_i oc2 od2 D osl2 hl
            obtain rfl : D = He.ga K d.cls := by simpa using b2
            exact ⟨c, _, _, _, hcl, hl⟩
          · cases b2
        · cases a3
      have eco : ∃ cda vs oc od osl file tf, fd.code = .ref cda ∧ K.lookup cda = some ⟨oc, od, .fields vs, osl⟩ ∧ vs[2]? = some (.str file tf) ∧ ((P.main.file : Str) == file) = true := by
        split at a4
        · rename_i c hcd
          split at a4
          · rename_i oc2 od2 vs osl2 hl
            split at a4
            · rename_i n tk hv
              exact ⟨c, vs, _, _, _, n, tk, hcd, hl, hv, a4⟩
            · cases a4
          · cases a4
        · cases a4
      obtain ⟨m, j, p0, p1, p2, p3, p4, p5, p6, p7, p8, p9, hbd, hpos⟩ := hbody
      exact ⟨fd, oexB_ok h1, He.eqO_ok h2, of_decide_eq_true h3, ⟨oc, od, osl, q⟩, ecc, eco, a1, e4, e5, by rw [e1]; exact hpar, ⟨m, j, p0, p1, p2, p3, p4, p5, p6, p7, p8, p9, by rw [e2, hbd], hpos⟩, by rw [e3]; exact hsc.kind, by rw [e3]; exact hsc.co, by rw [e3]; exact hsc.gen,
        by rw [e3]; exact hsc.nsup, by rw [e3]; exact hsc.ncls, by rw [e3]; exact hsc.nself, by rw [e3]; exact hsc.np, by rw [e3]; exact hsc.ncell, hp, hdbg, hbi fd e1 dn, htop, He.eqO_ok h5, He.eqO_ok h6, He.eqO_ok h7, of_decide_eq_true h8, of_decide_eq_true h9, of_decide_eq_true h10⟩
    | _ => cases hE
/-! ### isinstance of an exception, its fields -/
def exiB (K : PySem.W.Frag) (D : Addr) : Bool := He.eqO (PySem.W.findIn K (.ref D) "__getattribute__") (some (some (.builtin "BaseException.__getattribute__"))) && (He.eqO (PySem.W.findIn K (.ref D) "__getattr__") (some none) &&
  (decide (PySem.W.subIn K (.ref D) (.type "BaseException") = some true) && (PySem.W.hasDictIn K D && (He.eqO (PySem.W.findIn K (.ref D) "__class__") (some (some (.builtin "object.__class__"))) &&
  (decide (PySem.W.specialIn K (.builtin "object.__class__") "__get__" = some (some (.builtin "getset_descriptor.__get__"))) && (decide (PySem.W.takesIn K (.builtin "object.__class__") = some true) && decide (PySem.W.mroIn K D (.type "object") = some true)))))))
structure ExcI (K : PySem.W.Frag) (D : Addr) : Prop where
  is : ExcC K D
  xf : XfC K D
theorem exiB_ok {K : PySem.W.Frag} {D : Addr} (h : exiB K D = true) : ExcI K D := by
  obtain ⟨h1, h⟩ := He.ba h
  obtain ⟨h2, h⟩ := He.ba h
  obtain ⟨h3, h⟩ := He.ba h
  obtain ⟨h4, h⟩ := He.ba h
  obtain ⟨h5, h⟩ := He.ba h
  obtain ⟨h6, h⟩ := He.ba h
  obtain ⟨h7, h8⟩ := He.ba h
  exact ⟨⟨He.eqO_ok h1, He.eqO_ok h2, of_decide_eq_true h3, h4, He.eqO_ok h5, of_decide_eq_true h6, of_decide_eq_true h7, of_decide_eq_true h8⟩, ⟨He.eqO_ok h1, He.eqO_ok h2, of_decide_eq_true h3, h4⟩⟩
/-! ### the hook -/
abbrev AlY : Type := List FnS × AlX
def obsYG (ex : List (PySem.W.Frag → Bool)) (sup : List SupD) (n : Nat) (fa : List He.Fa) (fn : List He.DefD) (g : Addr → Option Obj) : AlY :=
  (fun K => (sup.map fun d => fnS K d.cls, obsX ex fa fn K)) (He.frG g (cStatics :: He.asD g n))
def SaysY (ex : List (PySem.W.Frag → Bool)) (sup : List SupD) (fa : List He.Fa) (fn : List He.DefD) (K : PySem.W.Frag) : Prop := (sup.map fun d => fnS K d.cls, obsX ex fa fn K) = (sup.map SupD.val, ((true, He.valD fn) : AlX))
def hookY (ex : List (PySem.W.Frag → Bool)) (sup : List SupD) (n : Nat) (fa : List He.Fa) (fn : List He.DefD) : PySem.W.Hook where
  α := AlY
  obs := fun s => obsYG ex sup n fa fn s.heap.get?
  val := fun _ => (sup.map SupD.val, ((true, He.valD fn) : AlX))
  says := fun _ h => ∃ K : PySem.W.Frag, K.In h ∧ SaysY ex sup fa fn K
  of := fun _ _ e => ⟨_, He.frG_in, e⟩
  keeps := fun _ _ _ ⟨K, hK, c⟩ k => ⟨K, PySem.W.Frag.In.keeps hK k, c⟩
theorem obsYG_eq {ex : List (PySem.W.Frag → Bool)} {sup : List SupD} {n : Nat} {fa : List He.Fa} {fn : List He.DefD} {g : Addr → Option Obj} {s : Shared} (h : ∀ a, g a = s.heap.get? a) : obsYG ex sup n fa fn g = (hookY ex sup n fa fn).obs s := by
  have e : g = s.heap.get? := funext h
  rw [e]; rfl
section
variable {ex : List (PySem.W.Frag → Bool)} {sup : List SupD} {fa : List He.Fa} {fn : List He.DefD} {K : PySem.W.Frag}
theorem SaysY.saysX (c : SaysY ex sup fa fn K) : SaysX ex fa fn K := congrArg (fun z : AlY => z.2) c
theorem SaysY.supAt (c : SaysY ex sup fa fn K) (i : Nat) {d : SupD} (h : sup[i]? = some d := by rfl) : fnS K d.cls = d.val := by
  have e : sup.map (fun d => fnS K d.cls) = sup.map SupD.val := congrArg (fun z : AlY => z.1) c
  have e2 : (sup.map fun d => fnS K d.cls)[i]? = (sup.map SupD.val)[i]? := by rw [e]
  rw [List.getElem?_map, List.getElem?_map, h] at e2
  exact Option.some.inj e2
end
end G
/-! G: sorted(set(xs)), xs a short list of tuples of ints; n >> k, n & 1. -/
namespace G
open PySem PySem.Spec PyProof.Rows L2
open Evl (Ex)
theorem hu64 {n : Nat} (h : n + 65 < cLine) : n + 64 < cLine := by omega
theorem denL_tups {K : PySem.W.Frag} {b : Hp} : ∀ {ks : List (List Int)} {vs : List V}, denL K b (ks.map tupI) vs → ∃ L : List (Addr × List Int), L.map (·.2) = ks ∧ vs = L.map (fun p => V.ref p.1) ∧ ∀ p ∈ L, b p.1 = some (.tup (p.2.map V.int))
  | [], _, h => ⟨[], rfl, h, fun p m => by cases m⟩
  | k :: ks, _, ⟨v, r, e, z, t⟩ => by
    obtain ⟨L, e1, e2, h⟩ := denL_tups t
    obtain ⟨a, us, ea, hb, zs⟩ := z
    have eu : us = k.map V.int := by
      have go : ∀ {k : List Int} {us : List V}, denL K b (k.map D.int) us → us = k.map V.int := by
        intro k
        induction k with
        | nil => intro us h; exact h
        | cons x k ih =>
          intro us ⟨v, r, e, z, t⟩
          have z : v = .int x := z
          rw [e, z, ih t]
          rfl
      exact go zs
    refine ⟨(a, k) :: L, by rw [List.map_cons, e1], by rw [e, ea, e2]; rfl, fun p m => ?_⟩
    rcases List.mem_cons.mp m with rfl | m
    · rw [hb, eu]
    · exact h p m
theorem tups_denL {K : PySem.W.Frag} {b : Hp} : ∀ (L : List (Addr × List Int)), (∀ p ∈ L, b p.1 = some (.tup (p.2.map V.int))) → denL K b ((L.map (·.2)).map tupI) (L.map fun p => V.ref p.1)
  | [], _ => rfl
  | p :: L, h => by
    refine ⟨_, _, rfl, ⟨p.1, p.2.map V.int, rfl, h p List.mem_cons_self, ?_⟩, tups_denL L fun q m => h q (List.mem_cons_of_mem _ m)⟩
    have go : ∀ k : List Int, denL K b (k.map D.int) (k.map V.int) := by
      intro k
      induction k with
      | nil => rfl
      | cons x k ih => exact ⟨_, _, rfl, rfl, ih⟩
    exact go p.2
@[irreducible] def sortSetR (d : D) (P : O → Prop) : Prop := ∃ (ks : List (List Int)) (n : Nat) (B : Int), d = .lst (ks.map tupI) ∧ ks.length < 64 ∧ 1 ≤ n ∧ (∀ k ∈ ks, k.length = n ∧ TS.Bd B k) ∧
  ∀ (ms : List (List Int)) q, ms.Nodup → (∀ k, k ∈ ms ↔ k ∈ ks) → ms.Pairwise (fun k l => TS.code B k ≤ TS.code B l) → P (.lst q ((ms.map tupI).map .pur))
def wSortSet (we : WE) : WE := fun We g P => we We g fun o g1 => sortSetR o.d fun z => P z g1
section
variable {X : Cx} {W : WX} {e : Expr} {te : TE} {we : WE}
theorem ge_sortSet {p p2 pos pos2 : Pos} (hc : X.calm = true) (hu : X.A.units + 64 < cLine) (hm : X.mg "sorted" = none) (hm2 : X.mg "set" = none) (he : GE X W e te we)
    (hg : Gl X "sorted" := by rfl) (hg2 : Gl X "set" := by rfl)
    (hs2 : starEach [e] X.env = (false, eval e X.env) :: starEach [] X.env := by rfl) (hpl2 : (backTo pos2 (starEach [] X.env)).any (·.1) = false := by rfl)
    (hs : starEach [.Call (.Name "set" p2) [e] [] pos2] X.env = (false, eval (.Call (.Name "set" p2) [e] [] pos2) X.env) :: starEach [] X.env := by rfl) (hpl : (backTo pos (starEach [] X.env)).any (·.1) = false := by rfl) :
    GE X W (.Call (.Name "sorted" p) [.Call (.Name "set" p2) [e] [] pos2] [] pos) (tCB (rSortedT X.K X.prog X.w) (tCons (tCB (rSetOfT X.K X.prog X.w) (tCons te tNil)) tNil)) (wSortSet we) := by
  refine ⟨pe_callB (cr_sortedT hc) hg hm (by decide +kernel) (pa_cons (pe_callTy (cr_setOfT hc hu) hg2 hm2 (by decide +kernel) (pa_cons he.pe pa_nil hs2) (by decide) (by decide) hs2 hpl2) pa_nil hs) (by decide) (by decide) hs hpl, fun b h σ g We P Q k hw hx ct => ?_⟩
  refine he.se b h σ g We _ _ k hw hx fun v b1 h1 g1 o k1 f1 p1 => ?_
  obtain ⟨b2, k2, f2, z⟩ := come k1 f1
  unfold sortSetR at p1
  obtain ⟨ks, n, B, ed, hl, hn, hB, p1⟩ := p1
  rw [ed] at z
  obtain ⟨a, vs, ev, hb, zs⟩ := z
  obtain ⟨L, e1, e2, hL⟩ := denL_tups zs
  subst ev
  have hLh : ∀ q ∈ L, SqT X.K h1 q.1 (q.2.map V.int) := fun q m => SqT.of (k2.sub _ _ (hL q m))
  refine ⟨a, L, rfl, ?_, hLh, by rw [← e1, List.length_map] at hl; exact hl, fun a2 S na hS1 hS2 => ?_⟩
  · rw [← e2]
    exact SqL.of (k2.sub _ _ hb)
  have nba : b2 a2 = none := Evl.fresh_back k2.sub na
  have hSh : ∀ q ∈ S, SqT X.K (upd h1 a2 (SetTO X.prog X.w a2 S)) q.1 (q.2.map V.int) := fun q m => by
    refine SqT.of ?_
    have := k2.sub _ _ (hL q (hS1 q m))
    rw [upd_ne (ne_of_none this na)]
    exact this
  have memS : ∀ q ∈ S, q.2 ∈ ks := fun q m => e1 ▸ List.mem_map.mpr ⟨q, hS1 q m, rfl⟩
  refine ⟨a2, S, n, B, rfl, upd_same, hSh, hn, fun q m => hB _ (memS q m), fun S' r pm nd _ pw nr => ?_⟩
  obtain ⟨k3, f3⟩ := k2.wide (Ex.refl b2) (h' := upd h1 a2 (SetTO X.prog X.w a2 S)) (fun c u e => by rw [upd_ne (ne_of_none e na)]; exact e) (fun c u e => by
    have e := k2.sub c u e
    rw [upd_ne (ne_of_none e na)]
    exact e) fun c n1 n2 => absurd n2 n1
  have hS' : ∀ q ∈ S', b2 q.1 = some (.tup (q.2.map V.int)) := fun q m => hL q (hS1 q (pm.mem_iff.mp m))
  refine fin k3 (f2.trans f3) (Res.own1 (ob := .lst (S'.map fun q => V.ref q.1)) (o := .lst r (((S'.map (·.2)).map tupI).map .pur)) k3.sub nr ⟨rfl, _, upd_same, ownL_pur (tups_denL S' hS')⟩ (by show r :: footL _ = [r]; rw [footL_pur])) ct (p1 (S'.map (·.2)) r nd (fun x => ?_) ?_)
  · constructor
    · intro m
      obtain ⟨q, mq, rfl⟩ := List.mem_map.mp m
      exact memS q (pm.mem_iff.mp mq)
    · intro m
      rw [← e1] at m
      obtain ⟨q, mq, rfl⟩ := List.mem_map.mp m
      obtain ⟨q2, mq2, e⟩ := List.mem_map.mp (hS2 q mq)
      rw [← e]
      exact List.mem_map.mpr ⟨q2, pm.mem_iff.mpr mq2, rfl⟩
  · exact List.pairwise_map.mpr pw
theorem og_shr : OpG X (binaryOp .RShift) (rI (fun _ j => 0 ≤ j) fun i j => .int (i / 2 ^ j.toNat)) (roC (fun _ j => 0 ≤ j) fun i j => .int (i / 2 ^ j.toNat)) := og_C op_shr fun _ _ _ => rfl
theorem og_odd : OpG X (binaryOp .BitAnd) (fun x y H Q => ∃ n : Nat, x = .int (n : Int) ∧ y = .int 1 ∧ Q (.int ((n % 2 : Nat) : Int)) H) (fun x y P => match x, y with
    | .int i, .int j => 0 ≤ i ∧ j = 1 ∧ P (.pur (.int (i % 2)))
    | _, _ => False) := by
  refine ⟨op_odd, fun b hh x y dx dy P Q s zx zy hr c => ?_⟩
  cases dx with
  | int i =>
    cases dy with
    | int j =>
      obtain ⟨h0, rfl, hP⟩ := hr
      obtain ⟨n, rfl⟩ : ∃ n : Nat, i = n := ⟨i.toNat, by omega⟩
      have ex : x = .int n := zx
      have ey : y = .int 1 := zy
      exact ⟨n, ex, ey, c _ b hh (.pur (.int ((n : Int) % 2))) (Res.same s (by show V.int _ = V.int _; congr 1)) hP⟩
    | _ => exact hr.elim
  | _ => exact hr.elim
end
end G
/-! G: xs.extend(ys); facts of plain exceptions; a def that nobody may call. -/
namespace G
open PySem PySem.Spec PyProof.Rows L2
open Evl (Ex)
/-- an exception class without __init__ of its own, raised -/
structure Raise0 (K : PySem.W.Frag) (C : Addr) : Prop where
  q : PySem.W.excIn K C He.veBase "ValueError.__new__" = true
  k : PySem.W.keepIn K (.ref C) = true
  b : PySem.W.subIn K (.ref C) (.type "BaseException") = some true
  t : PySem.W.typeIn K (.ref C) = some (.type "type")
def raise0B (K : PySem.W.Frag) (C : Addr) : Bool := PySem.W.excIn K C He.veBase "ValueError.__new__" && (PySem.W.keepIn K (.ref C) && (decide (PySem.W.subIn K (.ref C) (.type "BaseException") = some true) && decide (PySem.W.typeIn K (.ref C) = some (.type "type"))))
theorem raise0_ok {K : PySem.W.Frag} {C : Addr} (h : raise0B K C = true) : Raise0 K C := by
  obtain ⟨h1, h⟩ := He.ba h
  obtain ⟨h2, h⟩ := He.ba h
  obtain ⟨h3, h4⟩ := He.ba h
  exact ⟨h1, h2, of_decide_eq_true h3, of_decide_eq_true h4⟩
section
variable {X : Cx} {W : WX} {e : Expr} {te : TE} {we : WE} {i : Nat} {x : Str}
def wExt (i : Nat) (we : WE) : WS := fun We E g => isLst g[i]? ∧ we We g fun o g1 => match g1[i]?, o.d with
  | some (some (.lst p xs)), .lst ds => xs.length + ds.length ≤ sizeLine ∧ E.nx (g1.set i (some (.lst p (xs ++ ds.map .pur))))
  | _, _ => False
theorem gs_ext {p apos cpos pos : Pos} (he : GE X W e te we) (hN : X.N[i]? = some x := by rfl) (hv : Vis X.env.scope x := by first | exact Or.inl rfl | exact Or.inr (Or.inl rfl) | exact Or.inr (Or.inr rfl))
    (hd : (x == ("__debug__" : Str)) = false := by decide) (hcd : (x == ("__classdict__" : Str)) = false := by decide)
    (hbase : attributeBase (.Name x p) "extend" X.env (eval (.Name x p) X.env) = eval (.Name x p) X.env := by rfl)
    (hfew : ((backTo cpos (starEach [e] X.env)).all (fun x => !x.1) && (backToKw cpos (keywordEach [] X.env)).all (fun x => x.1.isSome)
      && decide (([e] : List Expr).length + ([] : List Keyword).length + (if ([] : List Keyword).isEmpty then 0 else 1) < 30)) = true := by rfl)
    (hline : (apos.endLine == cpos.line) = true := by rfl) (hs : starEach [e] X.env = (false, eval e X.env) :: starEach [] X.env := by rfl)
    (hs2 : swapsWith (.Call (.Attribute (.Name x p) "extend" apos) [e] [] cpos) none pos.line X.env = pure false := by rfl) :
    GS X W (.Expr (.Call (.Attribute (.Name x p) "extend" apos) [e] [] cpos) pos) (wExt i we) := by
  refine ⟨tDrop (tBM X.K "list" rExtend (tVar i) (tCons te tNil)), ps_expr (pe_bm PySem.F.plainAttrs_list PySem.F.slot_list_extend PySem.F.type_list_extend mt_extend (pe_var hN hv hd hcd) (pa_cons he.pe pa_nil hs) hbase hfew hline hs (by rfl)) hs2, fun b h σ g We E D k ⟨hl, hw⟩ hx ct => ?_⟩
  obtain ⟨p0, xs0, vs0, e0, ev0, hp0, _⟩ := k.lst hl
  refine ⟨_, ev0, tyV_lst hp0, he.se b h σ g We _ _ k hw hx fun v b' h' g' o k' f' p' => ?_⟩
  obtain ⟨b2, k2, f2, zo⟩ := come k' f'
  split at p'
  · rename_i p1 xs ds e1 e2
    obtain ⟨v1, ev1, ev2, vs, hp, z⟩ := k2.sl i _ e1
    rw [ev0] at ev1
    cases ev1
    cases ev2
    rw [e2] at zo
    obtain ⟨a, us, rfl, hq, zs⟩ := zo
    have ln := ownL_len z
    have ln2 := denL_len zs
    refine ⟨p0, a, vs, us, rfl, rfl, hp, k2.sub _ _ hq, by omega, ?_⟩
    have np : p0 ∉ footL xs := (List.nodup_cons.mp (k2.nd i _ e1)).1
    obtain ⟨k3, f3⟩ := k2.upd_root (o' := .lst p0 (xs ++ ds.map .pur)) (ob := .lst (vs ++ us)) e1 rfl rfl ⟨rfl, _, upd_same, ownL_app (us := ds.map .pur) (ws := us) (ownL_aside z np) (ownL_pur zs)⟩
      (fun a m => by simpa [foot, footL_app, footL_pur] using m) (by have := k2.nd i _ e1; simpa [foot, footL_app, footL_pur] using this)
    exact ct.nx σ b2 _ _ k3 (f2.trans f3) p'.2
  · exact p'.elim
end
/-- a def of which nothing is asked -/
def pmNo : Pm := fun _ _ _ => False
end G
/-! G: a dict of one pair, its key a tuple of ints. -/
namespace G
open PySem PySem.Spec PyProof.Rows L2
open Evl (Ex)
section
variable {X : Cx} {W : WX}
def tDisp1T (tk tv : TE) : TE := fun σ H Q => ∀ p, H p = none → tk σ (upd H p (.dT [])) fun x H1 => tv σ H1 fun y H2 => H2 p = some (.dT []) ∧ ∃ (k : List Key) (b : Addr), x = .ref b ∧ H2 b = some (.tup (k.map kV)) ∧ Q (.ref p) (upd H2 p (.dT [(k, y)]))
theorem pe_disp1T {ke v : Expr} {tk tv : TE} {pos : Pos} (hu : X.A.units + 1 < cLine) (hk : PE X ke tk) (hv : PE X v tv) : PE X (.Dict [some ke] [v] pos) (tDisp1T tk tv) := by
  refine ⟨fun pins s σ H Q I q => ?_⟩
  have hn := I.hok.fresh (Nat.le_refl s.heap.objs.size)
  have I1 := I.laid (a := s.heap.objs.size) (o := .dT []) (h' := s.heap.push { cls := .type "dict", data := .dict #[] }) (t' := s.toks) (fun _ _ q => Heap.get?_push_of_some _ q) (Nat.le_refl _) (dt_empty s.heap I.big)
  rw [arm_eval_Dict, zip_pairTrees [some ke] [v] X.env pos rfl rfl, dictDisplay_pairs (pairTrees [some ke] [v] X.env pos) (by intro z; cases z) (show 1 < 17 by decide)]
  refine wpAny_bind (wpAny_standAt (wpAny_bind ?_))
  unfold subDict
  refine wpAny_bind (wpAny_alloc ?_)
  refine wpAny_bind (wpAny_holding ?_)
  rw [if_pos (show (pairTrees [some ke] [v] X.env pos).length ≤ 15 from (by decide : 1 ≤ 15))]
  refine wpAny_bind (pairTrees_cons_walk (thn (hk.run pins _ σ _ _ I1 (q _ hn)) fun u s1 ⟨x, H1, I2, rx, q1⟩ => thn (hv.run pins s1 σ H1 _ I2 q1) fun w2 s2 ⟨y, H2, I3, ry, e, kk, b, ex, hb, q2⟩ => pairTrees_nil_walk ?_))
  subst ex
  cases (show u = Value.ref b from rx)
  refine wpAny_holding ?_
  refine wpAny_bind ?_
  rw [List.forIn_cons]
  refine wpAny_bind (wpAny_bind (TQ.put_here hu I3 e hb (by decide) ry fun s' I' => wpAny_pure ?_))
  show wpAny _ _ (forIn [] PUnit.unit _) _ _ _
  rw [List.forIn_nil]
  exact wpAny_pure (wpAny_pure (wpAny_pure (wpAny_pure ⟨.ref _, _, I', rfl, q2⟩)))
@[irreducible] def dict1TP (d : D) (u : D) (P : O → Prop) : Prop := ∃ k : List Int, d = tupI k ∧ ∀ p, P (.dT p [kI k] [.pur u])
def wDict1T (wk wv : WE) : WE := fun We g P => wk We g fun o g1 => wv We g1 fun u g2 => dict1TP o.d u.d fun z => P z g2
theorem dict1T_i {k : List Int} {d u : D} {P : O → Prop} (e : d = tupI k) (h : ∀ p, P (.dT p [kI k] [.pur u])) : dict1TP d u P := by
  unfold dict1TP
  exact ⟨_, e, h⟩
theorem ge_dict1T {ke v : Expr} {tk tv : TE} {wk wv : WE} {pos : Pos} (hu : X.A.units + 1 < cLine) (hk : GE X W ke tk wk) (hv : GE X W v tv wv) : GE X W (.Dict [some ke] [v] pos) (tDisp1T tk tv) (wDict1T wk wv) := by
  refine ⟨pe_disp1T hu hk.pe hv.pe, fun b hh σ g We P Q k hw hx ct => fun p np => ?_⟩
  have nbp : b p = none := Evl.fresh_back k.sub np
  have npg : ¬ inF g p := fun z => by obtain ⟨u, e⟩ := k.inF_there z; rw [np] at e; cases e
  have k1 := k.aside (o := .dT []) npg nbp
  have f1 : Frm g b hh g b (upd hh p (.dT [])) := ⟨Ex.refl b, fun a u e _ => by rw [upd_ne (ne_of_none e np)]; exact e, fun a u e1 t e2 _ => e2, fun a z => .inl z⟩
  refine hk.se b _ σ g We _ _ k1 hw (hx.step f1) fun x b2 h2 g2 o k2 f2 p2 => ?_
  obtain ⟨b2', k2', f2', zx⟩ := come k2 f2
  refine hv.se b2' h2 σ g2 We _ _ k2' p2 (hx.step (f1.trans f2')) fun y b3 h3 g3 u k3 f3 p3 => ?_
  obtain ⟨b3', k3', f3', zy⟩ := come k3 f3
  have ff := f2'.trans f3'
  have hp : h3 p = some (.dT []) := ff.keep p _ upd_same npg
  have nb3 : b3' p = none := ff.nb p _ upd_same trivial nbp npg
  have ng3 : ¬ inF g3 p := fun z => (ff.new p z).elim npg fun z => by rw [upd_same] at z; cases z
  unfold dict1TP at p3
  obtain ⟨kk, ek, p3⟩ := p3
  rw [ek] at zx
  obtain ⟨kb, rfl, zk⟩ := den_tupI zx
  refine ⟨hp, kI kk, kb, rfl, by rw [kI_kV]; exact k3'.sub _ _ (f3'.bs _ _ zk), ?_⟩
  have k4 := k3'.aside (o := .dT ([kI kk].zip [y])) ng3 nb3
  have ft : foot (.dT p [kI kk] [.pur u.d]) = [p] := by simp [foot, footL]
  refine ct (.ref p) b3' _ g3 (.dT p [kI kk] [.pur u.d]) (k4.cons ⟨rfl, [y], upd_same, rfl, y, [], rfl, zy, rfl⟩ (by simp [ft]) (fun a m => ?_) fun a m => ?_) ⟨ff.bs, fun a w e n => ?_, fun a w e1 t e2 n => ff.nb a w (f1.keep a w e1 n) t e2 n, fun a z => ?_⟩ (p3 p)
  · rw [ft] at m; simp at m; subst m; exact nb3
  · rw [ft] at m; simp at m; subst m; exact ng3
  · rw [upd_ne (ne_of_none e np)]; exact ff.keep a w (f1.keep a w e n) n
  · rcases inF_cons.mp z with ⟨w, e, m⟩ | z
    · cases e; rw [ft] at m; simp at m; subst m; exact .inr np
    · rcases ff.new a z with z | z
      · exact .inl z
      · by_cases ea : a = p
        · subst ea; exact .inr np
        · rw [upd_ne ea] at z; exact .inr z
end
/-! ### a list times an int -/
def roRepL : RO := fun x y P => match x, y with
  | .lst ds, .int k => 0 ≤ k ∧ k ≤ 1000 ∧ ds.length ≤ 1000 ∧ ∀ p, P (.lst p ((List.replicate k.toNat ds).flatten.map .pur))
  | _, _ => False
theorem og_repL {X : Cx} : OpG X (binaryOp .Mult) rRep roRepL := by
  refine ⟨op_rep, fun b hh x y dx dy P Q s zx zy hr c => ?_⟩
  unfold roRepL at hr
  split at hr
  · rename_i ds k
    obtain ⟨h0, h1, h2, hp⟩ := hr
    obtain ⟨a, vs, rfl, ha, t⟩ := zx
    have ey : y = .int k := zy
    have ln := denL_len t
    refine ⟨a, k, vs, rfl, ey, s _ _ ha, by omega, by omega, ?_, fun p np => ?_⟩
    · have : vs.length * k.toNat ≤ 1000 * 1000 := Nat.mul_le_mul (by omega) (by omega)
      rw [sizeLine_eq]
      omega
    · exact c _ b _ (.lst p ((List.replicate k.toNat ds).flatten.map .pur)) (Res.own1 s np ⟨rfl, _, upd_same, ownL_pur (denL_rep t _)⟩ (by show p :: footL _ = [p]; rw [footL_pur])) (hp p)
  · exact hr.elim
/-! ### tuple(range(n)) -/
def wTupR1 (we : WE) : WE := fun We g P => we We g fun o g1 => match o.d with
  | .int n => RgOk 0 n ∧ P (.pur (.tup (rngD 0 n.toNat))) g1
  | _ => False
theorem ge_tupR1 {X : Cx} {W : WX} {e : Expr} {te : TE} {we : WE} {p p2 pos pos2 : Pos} (hc : X.calm = true) (hm : X.mg "tuple" = none) (hm2 : X.mg "range" = none) (he : GE X W e te we) (hg : Gl X "tuple" := by rfl) (hg2 : Gl X "range" := by rfl) (na : starEach [e] X.env = (false, eval e X.env) :: starEach [] X.env := by rfl)
    (na2 : starEach [.Call (.Name "range" p2) [e] [] pos2] X.env = (false, eval (.Call (.Name "range" p2) [e] [] pos2) X.env) :: starEach [] X.env := by rfl) : GE X W (.Call (.Name "tuple" p) [.Call (.Name "range" p2) [e] [] pos2] [] pos) (tTupRg (tRg1 te)) (wTupR1 we) := by
  refine ⟨pe_tupRg hc hg hm (prg_1 hg2 hm2 he.pe na) na2, fun b h σ g We P Q k hw hx ct => ?_⟩
  refine he.se b h σ g We _ _ k hw hx fun v b' h' g' o k' f' p' => ?_
  obtain ⟨b2, k2, f2, z⟩ := come k' f'
  split at p'
  · rename_i n en
    rw [en] at z
    have z' : v = .int n := z
    subst z'
    refine ⟨n, rfl, p'.1, fun q nq => ?_⟩
    have e0 : rgV 0 n = (List.range n.toNat).map fun i => V.int (0 + (i : Nat)) := by unfold rgV; rw [Int.sub_zero]
    rw [e0]
    exact fin k2 f2 (Res.new (d := .tup (rngD 0 n.toNat)) k2.sub nq ⟨q, _, rfl, upd_same, denL_mono (Ex.new (Evl.fresh_back k2.sub nq)) _ _ (denL_rng 0 n.toNat)⟩) ct p'.2
  · exact p'.elim
end G
/-! G: a law's end. -/
namespace G
open PySem L2
open Evl (Ex)
theorem cx_false {P : Program} {w : World} {H : Hp} {s : Shared} {e : Value} {s' : Shared} (z : L2.CX P w [] H s (fun _ _ _ => False) e s') : False := by
  obtain ⟨_, _, _, _, _, _, _, _, _, _, _, _, h⟩ := z
  exact h
theorem ints_den {K : PySem.W.Frag} {b : Hp} : ∀ ns : List Int, denL K b (ns.map D.int) (ns.map V.int)
  | [] => rfl
  | n :: ns => ⟨.int n, ns.map V.int, rfl, rfl, ints_den ns⟩
theorem law_start {K : PySem.W.Frag} {pm : Pm} {H : Hp} {a : Addr} {ns : List Int} (hS : SqL K H a (ns.map V.int)) (h : pm [.pur (.frl (ns.map .int))] (fun _ _ => False) (fun o _ => o = .pur (.bl true))) :
    spOf K 1 pm [.ref a] H (fun v _ => v = .bl true) fun _ _ _ => False := by
  refine ⟨H, [.pur (.frl (ns.map .int))], _, _, rfl, ?_, h, ?_, ?_⟩
  · refine ⟨Ex.refl H, rfl, ?_, ?_, ?_, ?_⟩
    · intro i o e
      match i with
      | 0 =>
        cases e
        exact ⟨.ref a, rfl, a, _, rfl, hS, ints_den ns⟩
      | i + 1 => simp at e
    · intro i o e
      match i with
      | 0 => cases e; exact List.nodup_nil
      | i + 1 => simp at e
    · intro i j o u ne e1 e2 a m
      match i with
      | 0 => cases e1; exact (List.not_mem_nil m).elim
      | i + 1 => simp at e1
    · intro i o e a m
      match i with
      | 0 => cases e; exact (List.not_mem_nil m).elim
      | i + 1 => simp at e
  · intro v b' h' g' o k _ e
    subst e
    obtain ⟨v', e1, z⟩ := k.sl 0 _ rfl
    cases e1
    exact z
  · intro cls d b' h' g' x _ _ _ z
    exact z
end G
namespace K79
open PySem PySem.Spec PyProof.Rows L2 G TQ
/-! ### the text by places -/
def top (i : Nat) : Stmt := PySem.Challenge.pw_throngways_k79_whole_texts_of_books.main.body.getD i (.Pass ⟨0, 0, 0, 0⟩)
abbrev s_is_integer : Stmt := top 8
theorem sc_is_integer : FnScope ["thing"] ["thing"] (defScope s_is_integer) := ⟨rfl, rfl, rfl, by decide +kernel, rfl, by decide +kernel, by decide +kernel⟩
def d_is_integer : He.DefD := ⟨("is_integer", none), "is_integer", "is_integer", defArgs s_is_integer, defBody s_is_integer, defScope s_is_integer, [], []⟩
abbrev s_is_within : Stmt := top 9
theorem sc_is_within : FnScope ["thing", "least", "most"] ["thing", "least", "most"] (defScope s_is_within) := ⟨rfl, rfl, rfl, by decide +kernel, rfl, by decide +kernel, by decide +kernel⟩
def d_is_within : He.DefD := ⟨("is_within", none), "is_within", "is_within", defArgs s_is_within, defBody s_is_within, defScope s_is_within, [], []⟩
abbrev s_is_listed : Stmt := top 10
theorem sc_is_listed : FnScope ["thing"] ["thing"] (defScope s_is_listed) := ⟨rfl, rfl, rfl, by decide +kernel, rfl, by decide +kernel, by decide +kernel⟩
def d_is_listed : He.DefD := ⟨("is_listed", none), "is_listed", "is_listed", defArgs s_is_listed, defBody s_is_listed, defScope s_is_listed, [], []⟩
abbrev s_is_road : Stmt := top 11
theorem sc_is_road : FnScope ["roads", "thing"] ["roads", "thing"] (defScope s_is_road) := ⟨rfl, rfl, rfl, by decide +kernel, rfl, by decide +kernel, by decide +kernel⟩
def d_is_road : He.DefD := ⟨("is_road", none), "is_road", "is_road", defArgs s_is_road, defBody s_is_road, defScope s_is_road, [], []⟩
abbrev s_is_way : Stmt := top 12
theorem sc_is_way : FnScope ["roads", "thing", "road"] ["roads", "thing"] (defScope s_is_way) := ⟨rfl, rfl, rfl, by decide +kernel, rfl, by decide +kernel, by decide +kernel⟩
def d_is_way : He.DefD := ⟨("is_way", none), "is_way", "is_way", defArgs s_is_way, defBody s_is_way, defScope s_is_way, [], []⟩
abbrev s_numbers_line : Stmt := top 14
theorem sc_numbers_line : FnScope ["word", "numbers", "number"] ["word", "numbers"] (defScope s_numbers_line) := ⟨rfl, rfl, rfl, by decide +kernel, rfl, by decide +kernel, by decide +kernel⟩
def d_numbers_line : He.DefD := ⟨("numbers_line", none), "numbers_line", "numbers_line", defArgs s_numbers_line, defBody s_numbers_line, defScope s_numbers_line, [], []⟩
abbrev s_longest_ways : Stmt := top 15
theorem sc_longest_ways : FnScope ["book", "inner", "way"] ["book"] (defScope s_longest_ways) := ⟨rfl, rfl, rfl, by decide +kernel, rfl, by decide +kernel, by decide +kernel⟩
def d_longest_ways : He.DefD := ⟨("longest_ways", none), "longest_ways", "longest_ways", defArgs s_longest_ways, defBody s_longest_ways, defScope s_longest_ways, [], []⟩
abbrev s_book_text : Stmt := top 16
theorem sc_book_text : FnScope ["book", "lines", "way"] ["book"] (defScope s_book_text) := ⟨rfl, rfl, rfl, by decide +kernel, rfl, by decide +kernel, by decide +kernel⟩
def d_book_text : He.DefD := ⟨("book_text", none), "book_text", "book_text", defArgs s_book_text, defBody s_book_text, defScope s_book_text, [], []⟩
abbrev s_pieces_of : Stmt := top 19
theorem sc_pieces_of : FnScope ["way", "size", "start", "end"] ["way"] (defScope s_pieces_of) := ⟨rfl, rfl, rfl, by decide +kernel, rfl, by decide +kernel, by decide +kernel⟩
def d_pieces_of : He.DefD := ⟨("pieces_of", none), "pieces_of", "pieces_of", defArgs s_pieces_of, defBody s_pieces_of, defScope s_pieces_of, [], []⟩
abbrev s_all_pieces : Stmt := top 20
theorem sc_all_pieces : FnScope ["ways", "way", "piece"] ["ways"] (defScope s_all_pieces) := ⟨rfl, rfl, rfl, by decide +kernel, rfl, by decide +kernel, by decide +kernel⟩
def d_all_pieces : He.DefD := ⟨("all_pieces", none), "all_pieces", "all_pieces", defArgs s_all_pieces, defBody s_all_pieces, defScope s_all_pieces, [], []⟩
abbrev s_Book___init__ : Stmt := (clsBody (top 21)).getD 0 (.Pass ⟨0, 0, 0, 0⟩)
theorem sc_Book___init__ : FnScope ["self", "roads", "ways", "index", "way"] ["self", "roads", "ways"] (defScope s_Book___init__) := ⟨rfl, rfl, rfl, by decide +kernel, rfl, by decide +kernel, by decide +kernel⟩
def d_Book___init__ : He.DefD := ⟨("Book", some "__init__"), "__init__", "Book.__init__", defArgs s_Book___init__, defBody s_Book___init__, defScope s_Book___init__, [], []⟩
abbrev s_Book_keep : Stmt := (clsBody (top 21)).getD 1 (.Pass ⟨0, 0, 0, 0⟩)
theorem sc_Book_keep : FnScope ["self", "roads", "ways", "number", "way"] ["self", "roads", "ways"] (defScope s_Book_keep) := ⟨rfl, rfl, rfl, by decide +kernel, rfl, by decide +kernel, by decide +kernel⟩
def d_Book_keep : He.DefD := ⟨("Book", some "keep"), "keep", "Book.keep", defArgs s_Book_keep, defBody s_Book_keep, defScope s_Book_keep, [], []⟩
abbrev s_Book___eq__ : Stmt := (clsBody (top 21)).getD 2 (.Pass ⟨0, 0, 0, 0⟩)
theorem sc_Book___eq__ : FnScope ["self", "other"] ["self", "other"] (defScope s_Book___eq__) := ⟨rfl, rfl, rfl, by decide +kernel, rfl, by decide +kernel, by decide +kernel⟩
def d_Book___eq__ : He.DefD := ⟨("Book", some "__eq__"), "__eq__", "Book.__eq__", defArgs s_Book___eq__, defBody s_Book___eq__, defScope s_Book___eq__, [], []⟩
abbrev s_is_number : Stmt := top 25
theorem sc_is_number : FnScope ["word", "sign"] ["word"] (defScope s_is_number) := ⟨rfl, rfl, rfl, by decide +kernel, rfl, by decide +kernel, by decide +kernel⟩
def d_is_number : He.DefD := ⟨("is_number", none), "is_number", "is_number", defArgs s_is_number, defBody s_is_number, defScope s_is_number, [], []⟩
abbrev s_line_numbers : Stmt := top 26
theorem sc_line_numbers : FnScope ["line", "kind", "least", "words", "word"] ["line", "kind", "least"] (defScope s_line_numbers) := ⟨rfl, rfl, rfl, by decide +kernel, rfl, by decide +kernel, by decide +kernel⟩
def d_line_numbers : He.DefD := ⟨("line_numbers", none), "line_numbers", "line_numbers", defArgs s_line_numbers, defBody s_line_numbers, defScope s_line_numbers, [], []⟩
abbrev s_closed_lines : Stmt := top 27
theorem sc_closed_lines : FnScope ["text", "rows"] ["text"] (defScope s_closed_lines) := ⟨rfl, rfl, rfl, by decide +kernel, rfl, by decide +kernel, by decide +kernel⟩
def d_closed_lines : He.DefD := ⟨("closed_lines", none), "closed_lines", "closed_lines", defArgs s_closed_lines, defBody s_closed_lines, defScope s_closed_lines, [], []⟩
abbrev s_read_roads : Stmt := top 28
theorem sc_read_roads : FnScope ["line", "found"] ["line"] (defScope s_read_roads) := ⟨rfl, rfl, rfl, by decide +kernel, rfl, by decide +kernel, by decide +kernel⟩
def d_read_roads : He.DefD := ⟨("read_roads", none), "read_roads", "read_roads", defArgs s_read_roads, defBody s_read_roads, defScope s_read_roads, [], []⟩
abbrev s_read_book : Stmt := top 29
theorem sc_read_book : FnScope ["text", "lines", "rest", "roads", "ways", "at", "line", "way"] ["text"] (defScope s_read_book) := ⟨rfl, rfl, rfl, by decide +kernel, rfl, by decide +kernel, by decide +kernel⟩
def d_read_book : He.DefD := ⟨("read_book", none), "read_book", "read_book", defArgs s_read_book, defBody s_read_book, defScope s_read_book, [], []⟩
abbrev s__law_pool : Stmt := top 31
theorem sc__law_pool : FnScope ["_law_script", "_law_great"] ["_law_script"] (defScope s__law_pool) := ⟨rfl, rfl, rfl, by decide +kernel, rfl, by decide +kernel, by decide +kernel⟩
def d__law_pool : He.DefD := ⟨("_law_pool", none), "_law_pool", "_law_pool", defArgs s__law_pool, defBody s__law_pool, defScope s__law_pool, [], []⟩
abbrev s__law_draw : Stmt := top 32
theorem sc__law_draw : FnScope ["_law_pool_here", "_law_many", "_law_digit", "_law_cell", "_law_number"] ["_law_pool_here", "_law_many"] (defScope s__law_draw) := ⟨rfl, rfl, rfl, by decide +kernel, rfl, by decide +kernel, by decide +kernel⟩
def d__law_draw : He.DefD := ⟨("_law_draw", none), "_law_draw", "_law_draw", defArgs s__law_draw, defBody s__law_draw, defScope s__law_draw, [], []⟩
abbrev s__law_way : Stmt := top 33
theorem sc__law_way : FnScope ["_law_pool_here", "_law_roads", "_law_longest", "_law_left", "_law_way_here", "_law_k"] ["_law_pool_here", "_law_roads", "_law_longest"] (defScope s__law_way) := ⟨rfl, rfl, rfl, by decide +kernel, rfl, by decide +kernel, by decide +kernel⟩
def d__law_way : He.DefD := ⟨("_law_way", none), "_law_way", "_law_way", defArgs s__law_way, defBody s__law_way, defScope s__law_way, [], []⟩
abbrev s__law_core : Stmt := top 34
theorem sc__law_core : FnScope ["_law_kind", "_law_size", "_law_ring", "_law_k", "_law_way_here"] ["_law_kind", "_law_size"] (defScope s__law_core) := ⟨rfl, rfl, rfl, by decide +kernel, rfl, by decide +kernel, by decide +kernel⟩
def d__law_core : He.DefD := ⟨("_law_core", none), "_law_core", "_law_core", defArgs s__law_core, defBody s__law_core, defScope s__law_core, [], []⟩
abbrev s__law_book : Stmt := top 35
theorem sc__law_book : FnScope ["_law_pool_here", "_law_roads", "_law_ways", "_law_k"] ["_law_pool_here"] (defScope s__law_book) := ⟨rfl, rfl, rfl, by decide +kernel, rfl, by decide +kernel, by decide +kernel⟩
def d__law_book : He.DefD := ⟨("_law_book", none), "_law_book", "_law_book", defArgs s__law_book, defBody s__law_book, defScope s__law_book, [], []⟩
abbrev s__law_pieces : Stmt := top 36
theorem sc__law_pieces : FnScope ["_law_ways", "_law_found", "_law_way_here", "_law_start", "_law_end"] ["_law_ways"] (defScope s__law_pieces) := ⟨rfl, rfl, rfl, by decide +kernel, rfl, by decide +kernel, by decide +kernel⟩
def d__law_pieces : He.DefD := ⟨("_law_pieces", none), "_law_pieces", "_law_pieces", defArgs s__law_pieces, defBody s__law_pieces, defScope s__law_pieces, [], []⟩
abbrev s__law_wide : Stmt := top 37
theorem sc__law_wide : FnScope ["_law_pool_here", "_law_kind", "_law_roads", "_law_ways", "_law_k"] ["_law_pool_here"] (defScope s__law_wide) := ⟨rfl, rfl, rfl, by decide +kernel, rfl, by decide +kernel, by decide +kernel⟩
def d__law_wide : He.DefD := ⟨("_law_wide", none), "_law_wide", "_law_wide", defArgs s__law_wide, defBody s__law_wide, defScope s__law_wide, [], []⟩
abbrev s__law_within : Stmt := top 38
theorem sc__law_within : FnScope ["_law_inner", "_law_outer", "_law_start"] ["_law_inner", "_law_outer"] (defScope s__law_within) := ⟨rfl, rfl, rfl, by decide +kernel, rfl, by decide +kernel, by decide +kernel⟩
def d__law_within : He.DefD := ⟨("_law_within", none), "_law_within", "_law_within", defArgs s__law_within, defBody s__law_within, defScope s__law_within, [], []⟩
abbrev s__law_text : Stmt := top 39
theorem sc__law_text : FnScope ["_law_roads", "_law_ways", "_law_longest", "_law_way_here", "_law_lines", "_law_other", "_law_road"] ["_law_roads", "_law_ways"] (defScope s__law_text) := ⟨rfl, rfl, rfl, by decide +kernel, rfl, by decide +kernel, by decide +kernel⟩
def d__law_text : He.DefD := ⟨("_law_text", none), "_law_text", "_law_text", defArgs s__law_text, defBody s__law_text, defScope s__law_text, [], []⟩
abbrev s__law_right : Stmt := top 40
theorem sc__law_right : FnScope ["_law_pool_here", "_law_roads", "_law_ways", "_law_given", "_law_book_here", "_law_due", "_law_text_here", "_law_back"] ["_law_pool_here", "_law_roads", "_law_ways"] (defScope s__law_right) := ⟨rfl, rfl, rfl, by decide +kernel, rfl, by decide +kernel, by decide +kernel⟩
def d__law_right : He.DefD := ⟨("_law_right", none), "_law_right", "_law_right", defArgs s__law_right, defBody s__law_right, defScope s__law_right, [], []⟩
abbrev s_law : Stmt := top 41
theorem sc_law : FnScope ["_law_script", "_law_pool_here", "_law_roads", "_law_ways", "_law_others", "_law_more", "_law_alike", "_law_one", "_law_other"] ["_law_script"] (defScope s_law) := ⟨rfl, rfl, rfl, by decide +kernel, rfl, by decide +kernel, by decide +kernel⟩
def d_law : He.DefD := ⟨("law", none), "law", "law", defArgs s_law, defBody s_law, defScope s_law, [], []⟩
/-! ### what the top leaves -/
structure Txt (K : PySem.W.Frag) (mg : Str → Option Value) : Prop where
  m_ValueError : mg "ValueError" = none
  m_abs : mg "abs" = none
  m_all : mg "all" = none
  m_any : mg "any" = none
  m_bool : mg "bool" = none
  m_enumerate : mg "enumerate" = none
  m_int : mg "int" = none
  m_isinstance : mg "isinstance" = none
  m_len : mg "len" = none
  m_list : mg "list" = none
  m_min : mg "min" = none
  m_range : mg "range" = none
  m_set : mg "set" = none
  m_sorted : mg "sorted" = none
  m_str : mg "str" = none
  m_super : mg "super" = none
  m_tuple : mg "tuple" = none
  c_MOST_ROADS : ∃ t, mg "MOST_ROADS" = some (.int 40 t)
  c_MOST_WAY : ∃ t, mg "MOST_WAY" = some (.int 8 t)
  c_MOST_WAYS : ∃ t, mg "MOST_WAYS" = some (.int 60 t)
  c_FIGURES : ∃ t, mg "FIGURES" = some (.str "0123456789" t)
  c_MOST_FIGURES : ∃ t, mg "MOST_FIGURES" = some (.int 9 t)
  g_Book : mg "Book" = some (.ref (He.ga K "Book"))
  c_Book : Cls K (He.ga K "Book")
  na_Book_roads : NoAttr K (He.ga K "Book") "roads"
  na_Book_ways : NoAttr K (He.ga K "Book") "ways"
  na_Book_kept_ways : NoAttr K (He.ga K "Book") "kept_ways"
  na_Book_kept_followings : NoAttr K (He.ga K "Book") "kept_followings"
  me_Book_keep : Meth K (He.ga K "Book") "keep" (He.ma K (He.ga K "Book") "keep")
  me_Book___eq__ : Meth K (He.ga K "Book") "__eq__" (He.ma K (He.ga K "Book") "__eq__")
  x_Book : ClsX K (He.ga K "Book")
  mk_Book : Mk K (He.ga K "Book") (He.ma K (He.ga K "Book") "__init__")
theorem bt_ValueError : bootBuiltins "ValueError" = some (.type "ValueError") := by decide +kernel
theorem bt_abs : bootBuiltins "abs" = some (.builtin "abs") := by decide +kernel
theorem bt_all : bootBuiltins "all" = some (.builtin "all") := by decide +kernel
theorem bt_any : bootBuiltins "any" = some (.builtin "any") := by decide +kernel
theorem bt_bool : bootBuiltins "bool" = some (.type "bool") := by decide +kernel
theorem bt_enumerate : bootBuiltins "enumerate" = some (.type "enumerate") := by decide +kernel
theorem bt_int : bootBuiltins "int" = some (.type "int") := by decide +kernel
theorem bt_isinstance : bootBuiltins "isinstance" = some (.builtin "isinstance") := by decide +kernel
theorem bt_len : bootBuiltins "len" = some (.builtin "len") := by decide +kernel
theorem bt_list : bootBuiltins "list" = some (.type "list") := by decide +kernel
theorem bt_min : bootBuiltins "min" = some (.builtin "min") := by decide +kernel
theorem bt_range : bootBuiltins "range" = some (.type "range") := by decide +kernel
theorem bt_set : bootBuiltins "set" = some (.type "set") := by decide +kernel
theorem bt_sorted : bootBuiltins "sorted" = some (.builtin "sorted") := by decide +kernel
theorem bt_str : bootBuiltins "str" = some (.type "str") := by decide +kernel
theorem bt_super : bootBuiltins "super" = some (.type "super") := by decide +kernel
theorem bt_tuple : bootBuiltins "tuple" = some (.type "tuple") := by decide +kernel
theorem fi_Book_roads : (["roads", "ways", "kept_ways", "kept_followings"] : List Str).findIdx? (· == ("roads" : Str)) = some 0 := by decide +kernel
theorem fi_Book_ways : (["roads", "ways", "kept_ways", "kept_followings"] : List Str).findIdx? (· == ("ways" : Str)) = some 1 := by decide +kernel
theorem fi_Book_kept_ways : (["roads", "ways", "kept_ways", "kept_followings"] : List Str).findIdx? (· == ("kept_ways" : Str)) = some 2 := by decide +kernel
theorem fi_Book_kept_followings : (["roads", "ways", "kept_ways", "kept_followings"] : List Str).findIdx? (· == ("kept_followings" : Str)) = some 3 := by decide +kernel
structure Dfn (K : PySem.W.Frag) (mg : Str → Option Value) (d : He.DefD) : Prop where
  ex : ∃ fd, FunD K d.name d.qual d.params d.body d.scope [] [] (He.fAd K d.at_) fd ∧ mg d.name = some (.ref (He.fAd K d.at_))
structure DfnM (K : PySem.W.Frag) (d : He.DefD) : Prop where
  ex : ∃ fd, FunD K d.name d.qual d.params d.body d.scope [] [] (He.fAd K d.at_) fd

theorem Ctx.blk {X : Cx} {W : WX} (C : Ctx X W) {s : Shared} {H : Hp} {scope : Scope} {cenv : PySem.Env} {fp : List Addr} : Ctx (X.blk s H scope cenv fp) W0 := ⟨takes0, PassesOwn.never, C.nd, C.calm⟩
theorem sz {n : Nat} (h : n ≤ 3000) : n ≤ sizeLine := Nat.le_trans h (by decide)
/-! ### data -/
abbrev pi (i : Int) : Option O := some (.pur (.int i))
abbrev pd (d : D) : Option O := some (.pur d)
def isIntD : D → Bool
  | .int _ => true
  | _ => false
theorem isD_int (d : D) : (isD d "int" && !isD d "bool") = isIntD d := by
  cases d <;> first | rfl | decide
def isTupD : D → Bool
  | .tup _ => true
  | .frt _ => true
  | .tfz _ => true
  | _ => false
theorem isD_tup (d : D) : isD d "tuple" = isTupD d := by
  cases d <;> first | rfl | decide
def within (d : D) (lo hi : Int) : Bool := match d with
  | .int i => decide (lo ≤ i ∧ i ≤ hi)
  | _ => false
def wayD (n : Int) : D → Bool
  | .tup ds => decide (1 ≤ ds.length ∧ ds.length ≤ 8) && ds.all (fun d => within d 0 (n - 1)) && (match intsOf ds with
    | some ns => decide ns.Nodup
    | none => false)
  | _ => false
def simpleD : D → Bool
  | .tup ds => ds.all D.ok
  | .frt _ => false
  | .tfz _ => false
  | d => D.ok d
theorem simple_ok {d : D} (h : simpleD d = true) : D.ok d = true := by
  cases d with
  | tup ds => rfl
  | frt ds => cases h
  | tfz ds => cases h
  | _ => exact h
theorem simple_tup (k : List Int) : simpleD (tupI k) = true := by
  show (k.map D.int).all D.ok = true
  rw [List.all_map]
  exact List.all_eq_true.mpr fun x _ => rfl
theorem all_within {n : Int} (k : List Int) : (k.map D.int).all (fun d => within d 0 (n - 1)) = decide (∀ x ∈ k, 0 ≤ x ∧ x < n) := by
  induction k with
  | nil => rfl
  | cons x k ih =>
    rw [List.map_cons, List.all_cons, ih]
    show (decide (0 ≤ x ∧ x ≤ n - 1) && _) = _
    have : (0 ≤ x ∧ x ≤ n - 1) ↔ (0 ≤ x ∧ x < n) := by omega
    by_cases h1 : 0 ≤ x ∧ x < n
    · by_cases h2 : ∀ y ∈ k, 0 ≤ y ∧ y < n
      · have h3 : ∀ y ∈ x :: k, 0 ≤ y ∧ y < n := fun y m => by
          rcases List.mem_cons.mp m with e | m
          · rw [e]; exact h1
          · exact h2 y m
        rw [decide_eq_true h2, decide_eq_true h3, decide_eq_true (this.mpr h1)]
        rfl
      · have h3 : ¬ ∀ y ∈ x :: k, 0 ≤ y ∧ y < n := fun h => h2 fun y m => h y (List.mem_cons_of_mem _ m)
        rw [decide_eq_false h2, decide_eq_false h3, Bool.and_false]
    · have h3 : ¬ ∀ y ∈ x :: k, 0 ≤ y ∧ y < n := fun h => h1 (h x List.mem_cons_self)
      rw [decide_eq_false h3, decide_eq_false (mt this.mp h1), Bool.false_and]
theorem wayD_tup (n : Int) (k : List Int) : wayD n (tupI k) = true ↔ wayI n k := by
  show (decide (1 ≤ (k.map D.int).length ∧ (k.map D.int).length ≤ 8) && (k.map D.int).all (fun d => within d 0 (n - 1)) && (match intsOf (k.map D.int) with
    | some ns => decide ns.Nodup
    | none => false)) = true ↔ _
  rw [ints_intsOf, all_within, List.length_map]
  simp only [Bool.and_eq_true, decide_eq_true_eq]
  unfold wayI
  constructor
  · rintro ⟨⟨⟨a, b⟩, c⟩, d⟩; exact ⟨a, b, d, c⟩
  · rintro ⟨a, b, d, c⟩; exact ⟨⟨⟨a, b⟩, c⟩, d⟩
def thingD (C : Addr) (d : D) : Prop := (∃ fs xs, d = .ins C fs xs) ∨ simpleD d = true
theorem thing_ok {C : Addr} {d : D} (h : thingD C d) : D.okX C d := h.imp id simple_ok
theorem thing_tup {C : Addr} {ds : List D} (h : thingD C (.tup ds)) : ds.all D.ok = true := h.elim (fun ⟨_, _, e⟩ => nomatch e) id
/-- whether a book lists a thing -/
def listedD (r : Int) (ks : List (List Int)) (d : D) : Bool := wayD r d && (match d with
  | .tup ds => (match intsOf ds with
    | some ns => decide (ns ∈ ks)
    | none => false)
  | _ => false)
theorem listed_tup {r : Int} {ks : List (List Int)} {k : List Int} (h : ∀ m ∈ ks, wayI r m) : listedD r ks (tupI k) = decide (k ∈ ks) := by
  have e : listedD r ks (tupI k) = (wayD r (tupI k) && decide (k ∈ ks)) := by
    show (wayD r (tupI k) && (match intsOf (k.map D.int) with
      | some ns => decide (ns ∈ ks)
      | none => false)) = _
    rw [ints_intsOf]
  rw [e]
  by_cases m : k ∈ ks
  · rw [(wayD_tup r k).mpr (h k m)]
    rfl
  · rw [decide_eq_false m, Bool.and_false]
/-! ### the promises -/
def pm_is_integer : Pm := fun as We R => ∃ d : D, as = [.pur d] ∧ D.ok d = true ∧ R (.pur (.bl (isIntD d))) [pd d]
def pm_is_within : Pm := fun as We R => ∃ (d : D) (lo hi : Int), as = [.pur d, .pur (.int lo), .pur (.int hi)] ∧ D.ok d = true ∧ R (.pur (.bl (within d lo hi))) [pd d, pi lo, pi hi]
def pm_is_listed : Pm := fun as We R => ∃ d : D, as = [.pur d] ∧ D.ok d = true ∧ R (.pur (.bl (isD d "list" || isD d "tuple"))) [pd d]
def pm_is_road : Pm := fun as We R => ∃ (n : Int) (d : D), as = [.pur (.int n), .pur d] ∧ D.ok d = true ∧ R (.pur (.bl (within d 0 (n - 1)))) [pi n, pd d]
def pm_is_way : Pm := fun as We R => ∃ (n : Int) (d : D), as = [.pur (.int n), .pur d] ∧ simpleD d = true ∧ R (.pur (.bl (wayD n d))) [pi n, pd d]
def pm_is_listed_way (C : Addr) : Pm := fun as We R => ∃ (r : Int) (ks : List (List Int)) (d : D), as = [.pur (bookD C r ks), .pur d] ∧ simpleD d = true ∧ R (.pur (.bl (listedD r ks d))) [pd (bookD C r ks), pd d]
def pm_pieces_of : Pm := fun as We R => ∃ w : List Int, as = [.pur (tupI w)] ∧ w.length ≤ 8 ∧ ∀ p, R (.lst p (((sortW (stretch w)).map tupI).map .pur)) [pd (tupI w)]
def pm_all_pieces : Pm := fun as We R => ∃ (ws : List (List Int)) (dd : D), (dd = .lst (ws.map tupI) ∨ dd = .tup (ws.map tupI)) ∧ as = [.pur dd] ∧ (allP ws).length ≤ 2390 ∧ (∀ w ∈ ws, w.length ≤ 8) ∧ R (.pur (.tup ((allP ws).map tupI))) [pd dd]
def pm_Book_keep (C : Addr) : Pm := fun as We R => ∃ (p dx : Addr) (r : Int) (ks : List (List Int)), as = [.ins p dx C [] [], .pur (.int r), .pur (.tup (ks.map tupI))] ∧ ks.Nodup ∧ ks.length ≤ 3000 ∧ R (.pur .non) [some (bookO p dx C r ks), pi r, pd (.tup (ks.map tupI))]
def pm_Book___init__ (C : Addr) : Pm := fun as We R => ∃ (p dx : Addr) (r : Int) (ws : List (List Int)) (dd : D), (dd = .lst (ws.map tupI) ∨ dd = .tup (ws.map tupI)) ∧ as = [.ins p dx C [] [], .pur (.int r), .pur dd] ∧ 1 ≤ r ∧ r ≤ 40 ∧ ws.length ≤ 60 ∧ (∀ w ∈ ws, wayI r w) ∧ ∀ x y, R (.pur .non) [some (bookO p dx C r (allP ws)), x, y]
def pm_lists (C : Addr) : Pm := fun as We R => ∃ (r : Int) (ks : List (List Int)) (d : D), as = [.pur (bookD C r ks), .pur d] ∧ simpleD d = true ∧ R (.pur (.bl (listedD r ks d))) [pd (bookD C r ks), pd d]
def pm_followings (C : Addr) : Pm := fun as We R => ∃ (r : Int) (ks : List (List Int)), as = [.pur (bookD C r ks)] ∧ ∀ p, R (.lst p (((fol ks).map tupI).map .pur)) [pd (bookD C r ks)]

def pm_Book___eq__ (C : Addr) : Pm := fun as We R => ∃ (r : Int) (ks : List (List Int)), (∃ (r2 : Int) (ks2 : List (List Int)), as = [.pur (bookD C r ks), .pur (bookD C r2 ks2)] ∧ R (.pur (.bl (decide (r = r2) && decide (ks = ks2)))) [pd (bookD C r ks), pd (bookD C r2 ks2)]) ∨
  (∃ d : D, as = [.pur (bookD C r ks), .pur d] ∧ D.ok d = true ∧ R (.pur (.bl false)) [pd (bookD C r ks), pd d])
theorem ok_is_integer {P : Program} {w : World} {K : PySem.W.Frag} {mg : Str → Option Value} {base : Heap} (T : Txt K mg) (F : Dfn K mg d_is_integer)  : Fn P w K mg base 1 "is_integer" ["thing"] pm_is_integer := by
  obtain ⟨fd, F, hm⟩ := F.ex
  refine ⟨_, fd, fn_G (k := 0) (pm := pm_is_integer) F sc_is_integer (fun cdv A outer s H E hr C => (gss_one (gs_ret (ge_and (ge_cb cg_isi T.m_isinstance bt_isinstance (ga_cons (ge_var (i := 0)) (ga_cons (ge_ty T.m_int bt_int) ga_nil))) (ge_one (ge_not (ge_cb cg_isi T.m_isinstance bt_isinstance (ga_cons (ge_var (i := 0)) (ga_cons (ge_ty T.m_bool bt_bool) ga_nil))))))))) (fun as We R hl hp => ?_), hm, F.kp, F.bindsN (fun _ _ _ _ _ _ us hl => match us, hl with | [_], _ => rfl)⟩
  obtain ⟨d, rfl, hd, hR⟩ := hp
  refine isiP_i hd (by decide) ?_
  rw [← isD_int] at hR
  refine br_i (fun e => ?_) fun e => ?_
  · have e : isD d "int" = true := e
    rw [e] at hR
    exact isiP_i hd (by decide) hR
  · have e : isD d "int" = false := e
    rw [e] at hR
    exact hR
theorem ok_is_within {P : Program} {w : World} {K : PySem.W.Frag} {mg : Str → Option Value} {base : Heap} (T : Txt K mg) (F : Dfn K mg d_is_within) (c_is_integer : Fn P w K mg base 1 "is_integer" ["thing"] pm_is_integer) : Fn P w K mg base 2 "is_within" ["thing", "least", "most"] pm_is_within := by
  obtain ⟨fd, F, hm⟩ := F.ex
  refine ⟨_, fd, fn_G (k := 1) (pm := pm_is_within) F sc_is_within (fun cdv A outer s H E hr C => (gss_one (gs_ret (ge_and (ge_fn C c_is_integer (hr.mono (by decide)) (ga_cons (ge_var (i := 0)) ga_nil)) (ge_one (ge_chain og_le og_le (ge_var (i := 1)) (ge_var (i := 0)) (ge_var (i := 2)))))))) (fun as We R hl hp => ?_), hm, F.kp, F.bindsN (fun _ _ _ _ _ _ us hl => match us, hl with | [_, _, _], _ => rfl)⟩
  obtain ⟨d, lo, hi, rfl, hd, hR⟩ := hp
  refine ⟨rfl, by simp [bors], d, rfl, hd, ?_⟩
  cases d with
  | int i =>
    refine br_T rfl ?_
    have hR : R (.pur (.bl (decide (lo ≤ i ∧ i ≤ hi)))) _ := hR
    refine br_i (fun h1 => ?_) fun h1 => ?_
    · have h1 : lo ≤ i := of_decide_eq_true h1
      have e : decide (lo ≤ i ∧ i ≤ hi) = decide (i ≤ hi) := by simp [h1]
      rw [e] at hR
      exact hR
    · have h1 : ¬ lo ≤ i := of_decide_eq_false h1
      have e : decide (lo ≤ i ∧ i ≤ hi) = false := by simp [h1]
      rw [e] at hR
      exact hR
  | _ =>
    exact br_F rfl hR
theorem ok_is_listed {P : Program} {w : World} {K : PySem.W.Frag} {mg : Str → Option Value} {base : Heap} (T : Txt K mg) (F : Dfn K mg d_is_listed)  : Fn P w K mg base 1 "is_listed" ["thing"] pm_is_listed := by
  obtain ⟨fd, F, hm⟩ := F.ex
  refine ⟨_, fd, fn_G (k := 0) (pm := pm_is_listed) F sc_is_listed (fun cdv A outer s H E hr C => (gss_one (gs_ret (ge_isi2 T.m_isinstance (ge_var (i := 0)) T.m_list T.m_tuple bt_list bt_tuple)))) (fun as We R hl hp => ?_), hm, F.kp, F.bindsN (fun _ _ _ _ _ _ us hl => match us, hl with | [_], _ => rfl)⟩
  obtain ⟨d, rfl, hd, hR⟩ := hp
  exact isi2P_i hd (by decide) (by decide) hR
theorem ok_is_road {P : Program} {w : World} {K : PySem.W.Frag} {mg : Str → Option Value} {base : Heap} (T : Txt K mg) (F : Dfn K mg d_is_road) (c_is_within : Fn P w K mg base 2 "is_within" ["thing", "least", "most"] pm_is_within) : Fn P w K mg base 3 "is_road" ["roads", "thing"] pm_is_road := by
  obtain ⟨fd, F, hm⟩ := F.ex
  refine ⟨_, fd, fn_G (k := 2) (pm := pm_is_road) F sc_is_road (fun cdv A outer s H E hr C => (gss_one (gs_ret (ge_fn C c_is_within (hr.mono (by decide)) (ga_cons (ge_var (i := 1)) (ga_cons ge_int (ga_cons (ge_op og_sub (ge_var (i := 0)) ge_int) ga_nil))))))) (fun as We R hl hp => ?_), hm, F.kp, F.bindsN (fun _ _ _ _ _ _ us hl => match us, hl with | [_, _], _ => rfl)⟩
  obtain ⟨n, d, rfl, hd, hR⟩ := hp
  exact ⟨rfl, by simp [bors], d, 0, n - 1, rfl, hd, hR⟩

end K79
namespace K79
open PySem PySem.Spec PyProof.Rows L2 G TQ

theorem all_ok_at {ds : List D} (h : ds.all D.ok = true) {i : Nat} {d : D} (e : ds[i]? = some d) : D.ok d = true := List.all_eq_true.mp h d (List.mem_of_getElem? e)
theorem within_ints {n m : Int} : ∀ {ds : List D}, ds.all (fun d => within d n m) = true → ∃ ns, intsOf ds = some ns
  | [], _ => ⟨[], rfl⟩
  | d :: ds, h => by
    rw [List.all_cons, Bool.and_eq_true] at h
    obtain ⟨ns, e⟩ := within_ints h.2
    cases d with
    | int i => exact ⟨i :: ns, by show (intsOf ds).map (i :: ·) = _; rw [e]; rfl⟩
    | _ => exact nomatch h.1
theorem intsOf_len : ∀ {ds : List D} {ns : List Int}, intsOf ds = some ns → ns.length = ds.length
  | [], _, e => by cases e; rfl
  | d :: ds, ns, e => by
    cases d with
    | int i =>
      have e' : (intsOf ds).map (i :: ·) = some ns := e
      cases q : intsOf ds with
      | none => rw [q] at e'; cases e'
      | some l => rw [q] at e'; cases e'; simp [intsOf_len q]
    | _ => cases e
theorem ok_is_way {P : Program} {w : World} {K : PySem.W.Frag} {mg : Str → Option Value} {base : Heap} (T : Txt K mg) (F : Dfn K mg d_is_way) (c_is_road : Fn P w K mg base 3 "is_road" ["roads", "thing"] pm_is_road) : Fn P w K mg base 4 "is_way" ["roads", "thing"] pm_is_way := by
  obtain ⟨fd, F, hm⟩ := F.ex
  refine ⟨_, fd, fn_G (k := 3) (pm := pm_is_way) F sc_is_way (fun cdv A outer s H E hr C => (gss_cons (gs_if (GW.gt (gw_or (gt_not (gt_val (ge_cb cg_isi T.m_isinstance bt_isinstance (ga_cons (ge_var (i := 1)) (ga_cons (ge_ty T.m_tuple bt_tuple) ga_nil))))) (gw_or1 (gt_not (gt_chain og_le og_le ge_int (ge_cb cg_len T.m_len bt_len (ga_cons (ge_var (i := 1)) ga_nil)) (ge_gint T.c_MOST_WAY)))))) (gss_one (gs_ret ge_bl)) gss_nil)
      (gss_one (gs_ret (ge_and (ge_cb (cg_all C.calm) T.m_all bt_all (ga_cons (ge_lc (own := [("road", 2)]) C.calm C.nd (gi_tup (ge_var (i := 1))) (blkOk_by (N := ["roads", "thing", "road"]) (sc := (defScope s_is_way)) (by decide +kernel)) (fun _ _ _ _ _ => (gb_name (i := 2) C.nd)) (fun _ _ _ _ _ => gts_nil) (fun _ _ _ _ _ => (ge_fn (Ctx.blk C) c_is_road (hr.mono (by decide)) (ga_cons (ge_var (i := 0)) (ga_cons (ge_var (i := 2)) ga_nil))))) ga_nil)) (ge_one (ge_cmp og_eqI (ge_lenSet C.calm T.m_len T.m_set (ge_var (i := 1))) (ge_cb cg_len T.m_len bt_len (ga_cons (ge_var (i := 1)) ga_nil))))))))) (fun as We R hl hp => ?_), hm, F.kp, F.bindsN (fun _ _ _ _ _ _ us hl => match us, hl with | [_, _], _ => rfl)⟩
  obtain ⟨n, d, rfl, hd, hR⟩ := hp
  refine isiP_i (simple_ok hd) (by decide) ?_
  rw [isD_tup]
  cases d with
  | tup ds =>
    refine br_F rfl ?_
    have hd' : ds.all D.ok = true := hd
    have hR : R (.pur (.bl (decide (1 ≤ ds.length ∧ ds.length ≤ 8) && ds.all (fun d => within d 0 (n - 1)) && (match intsOf ds with
      | some ns => decide ns.Nodup
      | none => false)))) [pi n, some (.pur (.tup ds))] := hR
    refine br_i (fun h1 => ?_) fun h1 => ?_
    · have h1' : (1:Int) ≤ ds.length := of_decide_eq_true h1
      refine br_i (fun h8 => ?_) fun h8 => ?_
      · have h8' : ¬ ((ds.length:Int) ≤ 8) := by simpa using h8
        have e : decide (1 ≤ ds.length ∧ ds.length ≤ 8) = false := decide_eq_false (by omega)
        rw [e] at hR
        exact hR
      · have h8' : ((ds.length:Int) ≤ 8) := by simpa using h8
        have e : decide (1 ≤ ds.length ∧ ds.length ≤ 8) = true := decide_eq_true (by omega)
        rw [e] at hR
        refine lc_of (fun d => .bl (within d 0 (n - 1))) ds ?_ (sz (show ds.length ≤ 3000 by omega)) ?_ ?_
        · exact fun Q q => q
        · intro i d Q Q0 hi hQ
          refine br_T rfl ?_
          exact ⟨rfl, by simp [bors], n, d, rfl, all_ok_at hd' hi, hQ⟩
        · intro p
          refine all_lc ?_
          refine br_i (fun h2 => ?_) fun h2 => ?_
          · have h2' : ds.all (fun d => within d 0 (n - 1)) = true := h2
            rw [h2'] at hR
            obtain ⟨ns, en⟩ := within_ints h2'
            rw [en] at hR
            have hl := intsOf_len en
            refine lenSet_i (fun Q q => q) en (by omega) fun c hc he => ?_
            have e2 : decide ((c : Int) = (ds.length : Int)) = decide ns.Nodup := decide_eq_decide.mpr ⟨fun q => he.mp (by omega), fun q => by have := he.mpr q; omega⟩
            have hR : R (.pur (.bl (decide ns.Nodup))) [pi n, some (.pur (.tup ds))] := hR
            rw [← e2] at hR
            exact hR
          · have h2' : ds.all (fun d => within d 0 (n - 1)) = false := h2
            rw [h2'] at hR
            exact hR
    · have h1' : ¬ (1:Int) ≤ ds.length := of_decide_eq_false h1
      have e : decide (1 ≤ ds.length ∧ ds.length ≤ 8) = false := decide_eq_false (by omega)
      rw [e] at hR
      exact br_T rfl hR
  | frt ds => cases hd
  | tfz ds => cases hd
  | _ =>
    exact br_T rfl (br_T rfl hR)

theorem stretch_flat (w : List Int) : ((rngD 0 w.length).flatMap fun (d : D) => (match d with
    | .int s => rngD (s + 1) (w.length - s.toNat)
    | _ => []).map (fun (e : D) => match d, e with
      | .int s, .int e => D.tup (G.cutD (w.map D.int) (some s) (some e))
      | _, _ => .non)) = (stretch w).map tupI := by
  unfold stretch rngD
  rw [List.flatMap_map, List.map_flatMap]
  apply fm_congr
  intro s hs
  have hs := List.mem_range.mp hs
  show ((List.range (w.length - (0 + (s : Int)).toNat)).map fun i => D.int (0 + (s : Int) + 1 + (i : Nat))).map _ = _
  have e0 : (0 + (s : Int)).toNat = s := by omega
  rw [e0, List.map_map, List.map_map]
  apply List.map_congr_left
  intro j hj
  have hj := List.mem_range.mp hj
  show D.tup (G.cutD (w.map D.int) (some (0 + (s : Int))) (some (0 + (s : Int) + 1 + (j : Nat)))) = tupI (cutI w s (s + 1 + j))
  have e1 : (0 + (s : Int)) = ((s : Nat) : Int) := by omega
  have e2 : (0 + (s : Int) + 1 + (j : Nat)) = ((s + 1 + j : Nat) : Int) := by omega
  rw [e2, e1, cutD_tup (by omega) (by omega)]
  rfl
theorem rng_mem {lo : Int} {n : Nat} {d : D} (h : d ∈ rngD lo n) : ∃ i : Nat, i < n ∧ d = .int (lo + (i : Nat)) := by
  obtain ⟨i, hi, rfl⟩ := List.mem_map.mp h
  exact ⟨i, List.mem_range.mp hi, rfl⟩
theorem ok_pieces_of {P : Program} {w : World} {K : PySem.W.Frag} {mg : Str → Option Value} {base : Heap} (T : Txt K mg) (F : Dfn K mg d_pieces_of)  : Fn P w K mg base 1 "pieces_of" ["way"] pm_pieces_of := by
  obtain ⟨fd, F, hm⟩ := F.ex
  refine ⟨_, fd, fn_G (k := 0) (pm := pm_pieces_of) F sc_pieces_of (fun cdv A outer s H E hr C => (gss_cons (gs_set (i := 1) C.nd (ge_cb cg_len T.m_len bt_len (ga_cons (ge_var (i := 0)) ga_nil)))
      (gss_one (gs_ret (ge_cb (cg_sortL (hu16 hr)) T.m_sorted bt_sorted (ga_cons (ge_lc2 (mine := [("start", 2), ("end", 3)]) (i0 := 2) (i1 := 3) C.calm C.nd (gi_r1 T.m_range (ga_cons (ge_var (i := 1)) ga_nil)) (blkOk_by (N := ["way", "size", "start", "end"]) (sc := (defScope s_pieces_of)) (by decide +kernel)) (fun _ _ _ _ _ => (gi_r2 T.m_range (ga_cons (ge_op og_add (ge_var (i := 2)) ge_int) (ga_cons (ge_op og_add (ge_var (i := 1)) ge_int) ga_nil)))) (fun _ _ _ _ _ => pgn C.nd) (fun _ _ _ _ _ => pgn C.nd) (fun _ _ _ _ _ => (ge_slA (ge_var (i := 0)) (go_some (ge_var (i := 2))) (go_some (ge_var (i := 3)))))) ga_nil)))))) (fun as We R hl hp => ?_), hm, F.kp, F.bindsN (fun _ _ _ _ _ _ us hl => match us, hl with | [_], _ => rfl)⟩
  obtain ⟨w, rfl, hw, hR⟩ := hp
  have el : (w.map D.int).length = w.length := List.length_map ..
  have sl := stretch_len hw
  refine lc2_i (rngD 0 w.length) (fun d => match d with
    | .int s => rngD (s + 1) (w.length - s.toNat)
    | _ => []) (fun d e => match d, e with
      | .int s, .int e => D.tup (G.cutD (w.map D.int) (some s) (some e))
      | _, _ => .non) ?_ ?_ (fun _ => rfl) (fun _ _ => rfl) ?_ ?_ ?_
  · intro Q q
    refine ⟨by omega, by omega, ?_⟩
    have e : (((w.map D.int).length : Nat) : Int).toNat = w.length := by rw [Int.toNat_natCast, el]
    show Q (rngD 0 (((w.map D.int).length : Nat) : Int).toNat) _
    rw [e]
    exact q
  · rw [stretch_flat, List.length_map]
    exact sz (by omega)
  · intro d m
    obtain ⟨s, hs, rfl⟩ := rng_mem m
    refine ⟨⟨by omega, by omega, by omega, by omega⟩, rfl, ?_⟩
    rw [el]
    have e : (((w.length : Int) + 1) - (0 + (s : Nat) + 1)).toNat = w.length - (0 + ((s : Nat) : Int)).toNat := by omega
    rw [e]
  · intro d m x mx
    obtain ⟨s, hs, rfl⟩ := rng_mem m
    obtain ⟨j, hj, rfl⟩ := rng_mem mx
    exact ⟨rfl, rfl⟩
  · intro p
    rw [stretch_flat]
    exact sortL_i (p := p) (P := fun z => R z [pd (tupI w)]) (fun k m => stretch_ne m) fun q => hR q

theorem flat_ways (ws : List (List Int)) : ((ws.map tupI).flatMap fun d => match d with
    | .tup ds => (match intsOf ds with
      | some w => sortW (stretch w)
      | none => [])
    | _ => []) = ws.flatMap fun w => sortW (stretch w) := by
  rw [List.flatMap_map]
  apply fm_congr
  intro w _
  show (match intsOf (w.map D.int) with
    | some w => sortW (stretch w)
    | none => []) = _
  rw [ints_intsOf]
theorem flat_len (ws : List (List Int)) : (ws.flatMap fun w => sortW (stretch w)).length = (ws.flatMap stretch).length := by
  induction ws with
  | nil => rfl
  | cons w ws ih => rw [List.flatMap_cons, List.flatMap_cons, List.length_append, List.length_append, sortW_len, ih]
theorem flat_60 {ws : List (List Int)} (hn : ws.length ≤ 60) (h : ∀ w ∈ ws, w.length ≤ 8) : (ws.flatMap stretch).length < 2400 := by
  have key : ∀ l : List (List Int), (∀ w ∈ l, w.length ≤ 8) → (l.flatMap stretch).length ≤ l.length * 36 := by
    intro l
    induction l with
    | nil => intro _; simp
    | cons w l ih =>
      intro hl
      have a := stretch_len (hl w List.mem_cons_self)
      have b := ih fun v m => hl v (List.mem_cons_of_mem _ m)
      rw [List.flatMap_cons, List.length_append, List.length_cons]
      omega
  have := key ws h
  omega
theorem ok_all_pieces {P : Program} {w : World} {K : PySem.W.Frag} {mg : Str → Option Value} {base : Heap} (T : Txt K mg) (F : Dfn K mg d_all_pieces) (c_pieces_of : Fn P w K mg base 1 "pieces_of" ["way"] pm_pieces_of) : Fn P w K mg base 2 "all_pieces" ["ways"] pm_all_pieces := by
  obtain ⟨fd, F, hm⟩ := F.ex
  refine ⟨_, fd, fn_G (k := 1) (pm := pm_all_pieces) F sc_all_pieces (fun cdv A outer s H E hr C => (gss_one (gs_ret (ge_ct cg_tuple T.m_tuple bt_tuple (ga_cons (ge_cp (mine := [("way", 1), ("piece", 2)]) (i0 := 1) (i1 := 2) C.calm (hu16 hr) C.nd T.m_sorted (gi_lt (ge_var (i := 0))) (blkOk_by (N := ["ways", "way", "piece"]) (sc := (defScope s_all_pieces)) (by decide +kernel)) (fun _ _ _ _ _ => (gi_list (ge_fn (Ctx.blk C) c_pieces_of (hr.mono (by decide)) (ga_cons (ge_var (i := 1)) ga_nil)))) (fun _ _ _ _ _ => pgn C.nd) (fun _ _ _ _ _ => pgn C.nd) (fun _ _ _ _ _ => pev)) ga_nil))))) (fun as We R hl hp => ?_), hm, F.kp, F.bindsN (fun _ _ _ _ _ _ us hl => match us, hl with | [_], _ => rfl)⟩
  obtain ⟨ws, dd, hdd, rfl, hn, hw, hR⟩ := hp
  refine cp_i (ws.map tupI) (fun d => match d with
    | .tup ds => (match intsOf ds with
      | some w => sortW (stretch w)
      | none => [])
    | _ => []) (fun Q q => seqP_i hdd q) (show 2 < 3 by decide) ⟨allP ws, by omega, fun k m => ?_⟩ ?_ (fun _ => rfl) ?_ ?_
  · rw [flat_ways] at m
    obtain ⟨w, mw, mk⟩ := List.mem_flatMap.mp m
    exact mem_allP.mpr ⟨w, mw, mem_stretch.mp (mem_sortW.mp mk)⟩
  · intro k m
    rw [flat_ways] at m
    obtain ⟨w, _, mw⟩ := List.mem_flatMap.mp m
    exact stretch_ne (mem_sortW.mp mw)
  · intro d m
    obtain ⟨w, mw, rfl⟩ := List.mem_map.mp m
    refine ⟨rfl, by simp [bors], w, rfl, hw w mw, fun p => ?_⟩
    refine ⟨rfl, ?_⟩
    rw [dL_pur]
    show _ = (match intsOf (w.map D.int) with
      | some w => sortW (stretch w)
      | none => []).map tupI
    rw [ints_intsOf]
  · intro ks p asc mem
    have e := asc_allP_of (ws := ws) asc fun k => (mem k).trans (by
      rw [flat_ways, List.mem_flatMap]
      exact ⟨fun ⟨w, a, b⟩ => ⟨w, a, mem_stretch.mp (mem_sortW.mp b)⟩, fun ⟨w, a, b⟩ => ⟨w, a, mem_sortW.mpr (mem_stretch.mpr b)⟩⟩)
    subst e
    show R (.pur (.tup (O.dL (((allP ws).map tupI).map .pur)))) _
    rw [dL_pur]
    exact hR

end K79
namespace K79
open PySem PySem.Spec PyProof.Rows L2 G TQ

theorem en_key : ∀ (ks : List (List Int)) (n : Nat), (enD n (ks.map tupI)).map (fun d => match d with
    | .tup [_, .tup ds] => (match intsOf ds with
      | some k => k
      | none => [])
    | _ => ([] : List Int)) = ks
  | [], _ => rfl
  | k :: ks, n => by
    show (match intsOf (k.map D.int) with
      | some k => k
      | none => []) :: (enD (n + 1) (ks.map tupI)).map _ = _
    rw [ints_intsOf, en_key ks (n + 1)]
theorem en_num : ∀ (ds : List D) (n : Nat), (enD n ds).map (fun d => match d with
    | .tup [i, _] => i
    | _ => .non) = (List.range' n ds.length).map fun i => D.int (i : Nat)
  | [], _ => rfl
  | d :: ds, n => by
    show D.int (n : Nat) :: (enD (n + 1) ds).map _ = _
    rw [en_num ds (n + 1)]
    rfl
theorem en_nums (ks : List (List Int)) : (enD 0 (ks.map tupI)).map (fun d => match d with
    | .tup [i, _] => i
    | _ => .non) = nums ks.length := by
  rw [en_num, List.length_map]
  unfold nums
  rw [List.range_eq_range']
theorem en_mem {ks : List (List Int)} {d : D} : ∀ {n : Nat}, d ∈ enD n (ks.map tupI) → ∃ (i : Nat) (k : List Int), d = .tup [.int (i : Nat), tupI k] := by
  induction ks with
  | nil => intro n m; cases m
  | cons k ks ih =>
    intro n m
    rcases List.mem_cons.mp m with e | m
    · exact ⟨n, k, e⟩
    · exact ih m
def is2 : D → Bool
  | .tup ds => decide ((ds.length : Int) = 2)
  | _ => false
theorem fol_map (ks : List (List Int)) : ((ks.map tupI).filter is2) = (fol ks).map tupI := by
  unfold fol
  induction ks with
  | nil => rfl
  | cons k ks ih =>
    rw [List.map_cons, List.filter_cons, List.filter_cons, ih]
    have e : is2 (tupI k) = (k.length == 2) := by
      show decide (((k.map D.int).length : Int) = 2) = _
      rw [List.length_map]
      by_cases h : k.length = 2
      · rw [h]; rfl
      · have h2 : ¬ (k.length : Int) = 2 := by omega
        have h3 : (k.length == 2) = false := by simpa using h
        rw [decide_eq_false h2, h3]
    rw [e]
    cases k.length == 2 <;> rfl
theorem ok_Book_keep {P : Program} {w : World} {K : PySem.W.Frag} {mg : Str → Option Value} {base : Heap} (T : Txt K mg) (F : DfnM K d_Book_keep)  : FnM P w K mg base 1 (He.ga K "Book") "keep" ["self", "roads", "ways"] (pm_Book_keep (He.ga K "Book")) := by
  obtain ⟨fd, F⟩ := F.ex
  refine ⟨_, fd, fn_G (k := 0) (pm := (pm_Book_keep (He.ga K "Book"))) F sc_Book_keep (fun cdv A outer s H E hr C => (gss_cons (gs_fld (i := 0) T.c_Book T.na_Book_roads (ge_var (i := 1)))
      (gss_cons (gs_fld (i := 0) T.c_Book T.na_Book_ways (ge_var (i := 2)))
      (gss_cons (gs_fld (i := 0) T.c_Book T.na_Book_kept_ways (ge_dt (own := [("number", 3), ("way", 4)]) C.calm (hu_of hr.toRoom) C.nd (gi_enumT T.m_enumerate (ga_cons (ge_var (i := 2)) ga_nil)) (blkOk_by (N := ["self", "roads", "ways", "number", "way"]) (sc := (defScope s_Book_keep)) (by decide +kernel)) (fun _ _ _ _ _ => (gb_tup (by exact C.calm) (gbs_cons (gb_name (i := 3) (by exact C.nd)) (gbs_cons (gb_name (i := 4) (by exact C.nd)) gbs_nil)))) (fun _ _ _ _ _ => (ge_var (i := 4))) (fun _ _ _ _ _ => (ge_var (i := 3)))))
      (gss_one (gs_fld (i := 0) T.c_Book T.na_Book_kept_followings (ge_ct cg_tuple T.m_tuple bt_tuple (ga_cons (ge_lc (own := [("way", 4)]) C.calm C.nd (gi_tup (ge_var (i := 2))) (blkOk_by (N := ["self", "roads", "ways", "number", "way"]) (sc := (defScope s_Book_keep)) (by decide +kernel)) (fun _ _ _ _ _ => (gb_name (i := 4) C.nd)) (fun _ _ _ _ _ => (gts_one (gt_cmp og_eqI (ge_cb cg_len T.m_len bt_len (ga_cons (ge_var (i := 4)) ga_nil)) ge_int))) (fun _ _ _ _ _ => (ge_var (i := 4)))) ga_nil)))))))) (fun as We R hl hp => ?_), T.me_Book_keep, F.bindsN (fun _ _ _ _ _ _ us hl => match us, hl with | [_, _, _], _ => rfl)⟩
  obtain ⟨p, dx, r, ks, rfl, nd, hk, hR⟩ := hp
  have lk : (ks.map tupI).length = ks.length := List.length_map ..
  refine ⟨rfl, by decide +kernel, by decide, ?_⟩
  refine ⟨rfl, by decide +kernel, by decide, ?_⟩
  refine dt_i (enD 0 (ks.map tupI)) (fun d => match d with
    | .tup [_, .tup ds] => (match intsOf ds with
      | some k => k
      | none => [])
    | _ => ([] : List Int)) (fun d => match d with
    | .tup [i, _] => i
    | _ => .non) (fun Q q => q) ?_ ?_ ?_ ?_
  · rw [enD_len, lk]
    exact Nat.lt_of_le_of_lt hk (by decide)
  · rw [en_key]
    exact nd
  · intro d m
    obtain ⟨i, k, rfl⟩ := en_mem m
    refine ⟨rfl, ?_, rfl, rfl⟩
    show tupI k = tupI (match intsOf (k.map D.int) with
      | some k => k
      | none => [])
    rw [ints_intsOf]
  · intro q
    rw [en_key, en_nums]
    refine ⟨rfl, by decide +kernel, by decide, ?_⟩
    refine lc_if (fun d => d) is2 (ks.map tupI) (fun Q q => q) (by rw [lk]; exact sz hk) ?_ ?_
    · intro i d Q1 Q2 e1 e2 e3
      obtain ⟨k, mk, rfl⟩ := List.mem_map.mp (List.mem_of_getElem? e1)
      refine br_i (fun h => ?_) fun h => ?_
      · exact e2 h
      · exact e3 h
    · intro q2
      refine ⟨rfl, by decide +kernel, by decide, ?_⟩
      refine nx_ins ?_
      have e1 : ((fol ks).map tupI).map (fun d => d) = (fol ks).map tupI := List.map_id' _
      have e2 : (O.dT q (ks.map kI) ((nums ks.length).map .pur)).d = .dT (ks.map kI) (nums ks.length) := by
        show D.dT _ (O.dL _) = _
        rw [dL_pur]
      rw [fol_map, e1, dL_pur, e2]
      exact hR

theorem enD_at {ds : List D} {d : D} : ∀ {n i : Nat}, (enD n ds)[i]? = some d → ∃ e, ds[i]? = some e ∧ d = .tup [.int ((n + i : Nat)), e] := by
  induction ds with
  | nil => intro n i h; cases i <;> cases h
  | cons x xs ih =>
    intro n i h
    cases i with
    | zero =>
      have h : some (D.tup [.int (n : Nat), x]) = some d := h
      cases h
      exact ⟨x, rfl, rfl⟩
    | succ i =>
      obtain ⟨e, e1, e2⟩ := ih (n := n + 1) (i := i) h
      exact ⟨e, e1, by rw [e2, show n + 1 + i = n + (i + 1) by omega]⟩
theorem wd_ok {ws : List (List Int)} : D.ok (.lst (ws.map tupI)) = true := rfl
theorem ok_Book___init__ {P : Program} {w : World} {K : PySem.W.Frag} {mg : Str → Option Value} {base : Heap} (T : Txt K mg) (F : DfnM K d_Book___init__) (c_Book_keep : FnM P w K mg base 1 (He.ga K "Book") "keep" ["self", "roads", "ways"] (pm_Book_keep (He.ga K "Book"))) (c_is_within : Fn P w K mg base 2 "is_within" ["thing", "least", "most"] pm_is_within) (c_all_pieces : Fn P w K mg base 2 "all_pieces" ["ways"] pm_all_pieces) (c_is_listed : Fn P w K mg base 1 "is_listed" ["thing"] pm_is_listed) (c_is_way : Fn P w K mg base 4 "is_way" ["roads", "thing"] pm_is_way) : FnI P w K mg base 5 "Book" (He.ga K "Book") ["self", "roads", "ways"] (pm_Book___init__ (He.ga K "Book")) := by
  obtain ⟨fd, F⟩ := F.ex
  refine ⟨_, fd, fn_G (k := 4) (pm := (pm_Book___init__ (He.ga K "Book"))) F sc_Book___init__ (fun cdv A outer s H E hr C => (gss_cons (gs_if (gt_not (gt_val (ge_fn C c_is_within (hr.mono (by decide)) (ga_cons (ge_var (i := 1)) (ga_cons ge_int (ga_cons (ge_gint T.c_MOST_ROADS) ga_nil)))))) (gss_one gs_never) gss_nil)
      (gss_cons (gs_if (GW.gt (gw_or (gt_not (gt_val (ge_fn C c_is_listed (hr.mono (by decide)) (ga_cons (ge_var (i := 2)) ga_nil)))) (gw_or1 (gt_cmp og_gt (ge_cb cg_len T.m_len bt_len (ga_cons (ge_var (i := 2)) ga_nil)) (ge_gint T.c_MOST_WAYS))))) (gss_one gs_never) gss_nil)
      (gss_cons (gs_for C.po C.calm (gi_enumV (i := 2) T.m_enumerate) (gg_tup C.calm (ggs_cons (gg_name (i := 3) C.nd) (ggs_cons (gg_name (i := 4) C.nd) ggs_nil))) (gss_one (gs_if (gt_not (gt_val (ge_fn C c_is_way (hr.mono (by decide)) (ga_cons (ge_var (i := 1)) (ga_cons (ge_var (i := 4)) ga_nil))))) (gss_one gs_never) gss_nil)))
      (gss_one (gs_expr (ge_methO T.c_Book C c_Book_keep (hr.mono (by decide)) (i := 0) (ga_cons (ge_var (i := 1)) (ga_cons (ge_fn C c_all_pieces (hr.mono (by decide)) (ga_cons (ge_var (i := 2)) ga_nil)) ga_nil))))))))) (fun as We R hl hp => ?_), T.mk_Book, T.g_Book, F.bindsN (fun _ _ _ _ _ _ us hl => match us, hl with | [_, _, _], _ => rfl)⟩
  obtain ⟨p, dx, r, ws, dd, hdd, rfl, h1, h2, h3, h4, hR⟩ := hp
  rcases hdd with rfl | rfl
  · have lw : (ws.map tupI).length = ws.length := List.length_map ..
    refine ⟨rfl, by simp [bors], .int r, 1, 40, rfl, rfl, ?_⟩
    refine br_F (by show (!decide (1 ≤ r ∧ r ≤ 40)) = false; simp; omega) ?_
    refine ⟨rfl, by simp [bors], .lst (ws.map tupI), rfl, rfl, ?_⟩
    refine br_F rfl ?_
    refine br_F (by show decide ((60 : Int) < ((ws.map tupI).length : Nat)) = false; rw [lw]; simp; omega) ?_
    refine seqP_i (ds := ws.map tupI) (.inl rfl) ?_
    refine ⟨fun i g => ∃ x y, g = [some (.ins p dx (He.ga K "Book") [] []), pi r, pd (.lst (ws.map tupI)), x, y], ⟨none, none, rfl⟩, ?_, ?_⟩
    · rintro i d g e ⟨x, y, rfl⟩
      obtain ⟨k, ek, rfl⟩ := enD_at e
      obtain ⟨w, mw, rfl⟩ := List.mem_map.mp (List.mem_of_getElem? ek)
      refine ⟨rfl, ?_⟩
      refine ⟨rfl, by simp [bors], r, tupI w, rfl, simple_tup w, ?_⟩
      refine br_F (by show (!wayD r (tupI w)) = false; rw [(wayD_tup r w).mpr (h4 w mw)]; rfl) ?_
      exact ⟨_, _, rfl⟩
    · rintro g ⟨x, y, rfl⟩
      have hl := allP_len (ws := ws) fun w m => (h4 w m).2.1
      refine ⟨⟨rfl, rfl⟩, rfl, by simp [bors], ws, _, .inl rfl, rfl, by omega, fun w m => (h4 w m).2.1, ?_⟩
      refine ⟨rfl, by simp [bors], p, dx, r, allP ws, rfl, asc_nodup (asc_allP ws), by omega, ?_⟩
      refine nx_ins ?_
      exact hR _ _
  · have lw : (ws.map tupI).length = ws.length := List.length_map ..
    refine ⟨rfl, by simp [bors], .int r, 1, 40, rfl, rfl, ?_⟩
    refine br_F (by show (!decide (1 ≤ r ∧ r ≤ 40)) = false; simp; omega) ?_
    refine ⟨rfl, by simp [bors], .tup (ws.map tupI), rfl, rfl, ?_⟩
    refine br_F rfl ?_
    refine br_F (by show decide ((60 : Int) < ((ws.map tupI).length : Nat)) = false; rw [lw]; simp; omega) ?_
    refine seqP_i (ds := ws.map tupI) (.inr rfl) ?_
    refine ⟨fun i g => ∃ x y, g = [some (.ins p dx (He.ga K "Book") [] []), pi r, pd (.tup (ws.map tupI)), x, y], ⟨none, none, rfl⟩, ?_, ?_⟩
    · rintro i d g e ⟨x, y, rfl⟩
      obtain ⟨k, ek, rfl⟩ := enD_at e
      obtain ⟨w, mw, rfl⟩ := List.mem_map.mp (List.mem_of_getElem? ek)
      refine ⟨rfl, ?_⟩
      refine ⟨rfl, by simp [bors], r, tupI w, rfl, simple_tup w, ?_⟩
      refine br_F (by show (!wayD r (tupI w)) = false; rw [(wayD_tup r w).mpr (h4 w mw)]; rfl) ?_
      exact ⟨_, _, rfl⟩
    · rintro g ⟨x, y, rfl⟩
      have hl := allP_len (ws := ws) fun w m => (h4 w m).2.1
      refine ⟨⟨rfl, rfl⟩, rfl, by simp [bors], ws, _, .inr rfl, rfl, by omega, fun w m => (h4 w m).2.1, ?_⟩
      refine ⟨rfl, by simp [bors], p, dx, r, allP ws, rfl, asc_nodup (asc_allP ws), by omega, ?_⟩
      refine nx_ins ?_
      exact hR _ _
theorem ok_Book___eq__ {P : Program} {w : World} {K : PySem.W.Frag} {mg : Str → Option Value} {base : Heap} (T : Txt K mg) (F : DfnM K d_Book___eq__)  : FnM P w K mg base 1 (He.ga K "Book") "__eq__" ["self", "other"] (pm_Book___eq__ (He.ga K "Book")) := by
  obtain ⟨fd, F⟩ := F.ex
  refine ⟨_, fd, fn_G (k := 0) (pm := (pm_Book___eq__ (He.ga K "Book"))) F sc_Book___eq__ (fun cdv A outer s H E hr C => (gss_cons (gs_if (gt_not (gt_val (ge_cb (cg_isC T.x_Book) T.m_isinstance bt_isinstance (ga_cons (ge_var (i := 1)) (ga_cons (ge_gref T.g_Book) ga_nil))))) (gss_one (gs_ret ge_bl)) gss_nil)
      (gss_one (gs_ret (ge_and (ge_cmp og_eqI (ge_fld T.c_Book T.na_Book_roads fi_Book_roads (ge_var (i := 0))) (ge_fld T.c_Book T.na_Book_roads fi_Book_roads (ge_var (i := 1)))) (ge_one (ge_cmp (og_eq hr.units) (ge_fld T.c_Book T.na_Book_ways fi_Book_ways (ge_var (i := 0))) (ge_fld T.c_Book T.na_Book_ways fi_Book_ways (ge_var (i := 1)))))))))) (fun as We R hl hp => ?_), T.me_Book___eq__, F.bindsN (fun _ _ _ _ _ _ us hl => match us, hl with | [_, _], _ => rfl)⟩
  obtain ⟨r, ks, h⟩ := hp
  rcases h with ⟨r2, ks2, rfl, hR⟩ | ⟨d, rfl, hd, hR⟩
  · refine ⟨rfl, isCP_i (.inl ⟨_, _, rfl⟩) ?_⟩
    refine br_F rfl ?_
    refine ⟨rfl, rfl, rfl, rfl, ?_⟩
    refine br_i (fun h => ?_) fun h => ?_
    · have h : r = r2 := of_decide_eq_true h
      rw [decide_eq_true h, Bool.true_and] at hR
      refine ⟨rfl, rfl, rfl, rfl, ?_⟩
      exact eq_tt hR
    · have h : ¬ r = r2 := of_decide_eq_false h
      rw [decide_eq_false h, Bool.false_and] at hR
      exact hR
  · refine ⟨rfl, isCP_i (.inr hd) ?_⟩
    exact br_T (by show (!isInsB d) = true; rw [(ok_7 hd).choose_spec.2.2]; rfl) hR

end K79
namespace K79
open PySem PySem.Spec PyProof.Rows L2 G TQ

/-! ### the pool -/
structure Tp where
  great : Int
  seed : Int
  at_ : Int
  cells : List Int
abbrev tpX (s : Tp) : List O := [.pur (.int s.great), .pur (.int s.seed), .pur (.int s.at_), .pur (.lst (s.cells.map .int))]
abbrev tpO (p : Addr) (s : Tp) : O := .lst p (tpX s)
theorem rt_tp {as : List O} {R : O → Gam → Prop} {o : O} {p : Addr} {s s' : Tp} {g : Gam} (h : R o (some (tpO p s') :: aft as g)) : (endsOf (tpO p s :: as) R).rt o (some (tpO p s') :: g) := rt_lst h
def pm__law_pool : Pm := fun as We R => ∃ ns : List Int, as = [.pur (.frl (ns.map .int))] ∧ ns.length ≤ 63 ∧ ∀ p s x, R (tpO p s) [x]
def pm__law_draw : Pm := fun as We R => ∃ (p : Addr) (s : Tp) (n : Int), as = [tpO p s, .pur (.int n)] ∧ 0 < n ∧ n < 1073741824 ∧ ∀ v s', 0 ≤ v → v < n → R (.pur (.int v)) [some (tpO p s'), pi n]
theorem ok__law_pool {P : Program} {w : World} {K : PySem.W.Frag} {mg : Str → Option Value} {base : Heap} (T : Txt K mg) (F : Dfn K mg d__law_pool)  : Fn P w K mg base 1 "_law_pool" ["_law_script"] pm__law_pool := by
  obtain ⟨fd, F, hm⟩ := F.ex
  refine ⟨_, fd, fn_G (k := 0) (pm := pm__law_pool) F sc__law_pool (fun cdv A outer s H E hr C => (gss_cons (gs_set (i := 1) C.nd ge_int)
      (gss_cons (gs_if (GW.gt (gw_and (gt_cmp og_gt (ge_cb cg_lenR T.m_len bt_len (ga_cons (ge_var (i := 0)) ga_nil)) ge_int) (gw_and1 (gt_cmp og_ge (ge_cb cg_abs T.m_abs bt_abs (ga_cons (ge_ix ig_frl (ge_var (i := 0)) ge_int) ga_nil)) (ge_op og_pow ge_int ge_int))))) (gss_one (gs_set (i := 1) C.nd (ge_cb cg_abs T.m_abs bt_abs (ga_cons (ge_ix ig_frl (ge_var (i := 0)) ge_int) ga_nil)))) gss_nil)
      (gss_one (gs_ret (ge_lst (ga_cons (ge_var (i := 1)) (ga_cons (ge_op og_add ge_int (ge_cb cg_lenR T.m_len bt_len (ga_cons (ge_var (i := 0)) ga_nil))) (ga_cons ge_int (ga_cons (ge_ct cg_listR T.m_list bt_list (ga_cons (ge_var (i := 0)) ga_nil)) ga_nil)))))))))) (fun as We R hl hp => ?_), hm, F.kp, F.bindsN (fun _ _ _ _ _ _ us hl => match us, hl with | [_], _ => rfl)⟩
  obtain ⟨ns, rfl, hn, hR⟩ := hp
  refine lenR_i ?_
  refine br_i (fun h => ?_) fun h => ?_
  · have h' : (0 : Int) < ((ns.map D.int).length : Nat) := of_decide_eq_true h
    rw [List.length_map] at h'
    obtain ⟨x, _, _, e⟩ := at_ints (ns := ns) (Int.le_refl 0) h'
    refine ixR_i e ?_
    refine ⟨⟨by decide, by decide, by decide⟩, ?_⟩
    refine br_i (fun h2 => ?_) fun h2 => ?_
    · refine ixR_i e ?_
      refine lenR_i ?_
      refine listR_i fun p => ?_
      refine ⟨sz (show 4 ≤ 3000 by decide), fun p2 => ?_⟩
      show R (.lst p2 [.pur (.int _), .pur (.int (1 + ((ns.map D.int).length : Nat))), .pur (.int 0), .pur (.lst (O.dL ((ns.map .int).map .pur)))]) _
      rw [dL_pur]
      exact hR p2 ⟨_, _, 0, ns⟩ _
    · refine lenR_i ?_
      refine listR_i fun p => ?_
      refine ⟨sz (show 4 ≤ 3000 by decide), fun p2 => ?_⟩
      show R (.lst p2 [.pur (.int 0), .pur (.int (1 + ((ns.map D.int).length : Nat))), .pur (.int 0), .pur (.lst (O.dL ((ns.map .int).map .pur)))]) _
      rw [dL_pur]
      exact hR p2 ⟨0, _, 0, ns⟩ _
  · refine br_F rfl ?_
    refine lenR_i ?_
    refine listR_i fun p => ?_
    refine ⟨sz (show 4 ≤ 3000 by decide), fun p2 => ?_⟩
    show R (.lst p2 [.pur (.int 0), .pur (.int (1 + ((ns.map D.int).length : Nat))), .pur (.int 0), .pur (.lst (O.dL ((ns.map .int).map .pur)))]) _
    rw [dL_pur]
    exact hR p2 ⟨0, _, 0, ns⟩ _
theorem ok__law_draw {P : Program} {w : World} {K : PySem.W.Frag} {mg : Str → Option Value} {base : Heap} (T : Txt K mg) (F : Dfn K mg d__law_draw)  : Fn P w K mg base 1 "_law_draw" ["_law_pool_here", "_law_many"] pm__law_draw := by
  obtain ⟨fd, F, hm⟩ := F.ex
  refine ⟨_, fd, fn_G (k := 0) (pm := pm__law_draw) F sc__law_draw (fun cdv A outer s H E hr C => (gss_cons (gs_if (gt_cmp og_gt (ge_ixO (i := 0) ge_int) ge_int) (gss_cons (gs_set (i := 2) C.nd (ge_op og_mod (ge_ct cg_int T.m_int bt_int (ga_cons (ge_ixO (i := 0) ge_int) ga_nil)) (ge_var (i := 1))))
      (gss_cons (gs_setO (i := 0) (ge_op og_fdiv (ge_ct cg_int T.m_int bt_int (ga_cons (ge_ixO (i := 0) ge_int) ga_nil)) (ge_var (i := 1))) ge_int)
      (gss_one (gs_ret (ge_var (i := 2)))))) gss_nil)
      (gss_cons (gs_setO (i := 0) (ge_op og_add (ge_ixO (i := 0) ge_int) ge_int) ge_int)
      (gss_cons (gs_set (i := 3) C.nd ge_int)
      (gss_cut (gs_if (gt_cmp og_gt (ge_cb cg_len T.m_len bt_len (ga_cons (ge_ixO (i := 0) ge_int) ga_nil)) ge_int) (gss_one (gs_set (i := 3) C.nd (ge_op og_mod (ge_ct cg_int T.m_int bt_int (ga_cons (ge_ix ig_seqV (ge_ixO (i := 0) ge_int) (ge_op og_mod (ge_ct cg_int T.m_int bt_int (ga_cons (ge_ixO (i := 0) ge_int) ga_nil)) (ge_cb cg_len T.m_len bt_len (ga_cons (ge_ixO (i := 0) ge_int) ga_nil)))) ga_nil)) ge_int))) gss_nil)
      (gss_cons (gs_set (i := 4) C.nd (ge_op og_mod (ge_ct cg_int T.m_int bt_int (ga_cons (ge_op og_add (ge_op og_add (ge_op og_add (ge_op og_mul (ge_ixO (i := 0) ge_int) ge_int) (ge_op og_mul (ge_var (i := 3)) ge_int)) (ge_op og_mul (ge_ixO (i := 0) ge_int) ge_int)) ge_int) ga_nil)) ge_int))
      (gss_cons (gs_set (i := 4) C.nd (ge_op og_mod (ge_ct cg_int T.m_int bt_int (ga_cons (ge_op og_mul (ge_var (i := 4)) (ge_op og_add (ge_op og_fdiv (ge_var (i := 4)) ge_int) ge_int)) ga_nil)) ge_int))
      (gss_cons (gs_setO (i := 0) (ge_var (i := 4)) ge_int)
      (gss_one (gs_ret (ge_op og_mod (ge_ct cg_int T.m_int bt_int (ga_cons (ge_op og_fdiv (ge_var (i := 4)) ge_int) ga_nil)) (ge_var (i := 1))))))))))))) (fun as We R hl hp => ?_), hm, F.kp, F.bindsN (fun _ _ _ _ _ _ us hl => match us, hl with | [_, _], _ => rfl)⟩
  obtain ⟨p, s, n, rfl, hn0, hn1, hR⟩ := hp
  refine ⟨trivial, ?_⟩
  refine ixat_i rfl (d := .int s.great) rfl ?_
  refine br_i (fun h => ?_) fun h => ?_
  · refine ⟨trivial, ?_⟩
    refine ixat_i rfl (d := .int s.great) rfl ?_
    refine ⟨hn0, ?_⟩
    refine ⟨trivial, ?_⟩
    refine ixat_i rfl (d := .int s.great) rfl ?_
    refine ⟨⟨hn0, hn1⟩, ?_⟩
    refine ⟨trivial, ?_⟩
    refine setat_i rfl rfl ?_
    refine rt_tp (s' := ⟨s.great / n, s.seed, s.at_, s.cells⟩) ?_
    exact hR _ _ (Int.emod_nonneg _ (by omega)) (Int.emod_lt_of_pos _ hn0)
  · refine ⟨trivial, ?_⟩
    refine ixat_i rfl (d := .int s.at_) rfl ?_
    refine ⟨trivial, ?_⟩
    refine setat_i rfl rfl ?_
    refine ⟨fun g => ∃ c : Int, g = [some (tpO p ⟨s.great, s.seed, s.at_ + 1, s.cells⟩), pi n, none, pi c, none], ?_, ?_⟩
    · refine ⟨trivial, ?_⟩
      refine ixat_i rfl (d := .lst (s.cells.map .int)) rfl ?_
      refine br_i (fun h2 => ?_) fun h2 => ?_
      · have h2' : (0 : Int) < ((s.cells.map D.int).length : Nat) := of_decide_eq_true h2
        refine ⟨trivial, ?_⟩
        refine ixat_i rfl (d := .lst (s.cells.map .int)) rfl ?_
        refine ⟨trivial, ?_⟩
        refine ixat_i rfl (d := .int (s.at_ + 1)) rfl ?_
        refine ⟨trivial, ?_⟩
        refine ixat_i rfl (d := .lst (s.cells.map .int)) rfl ?_
        refine ⟨h2', ?_⟩
        have m1 := Int.emod_nonneg (s.at_ + 1) (show (((s.cells.map D.int).length : Nat) : Int) ≠ 0 by omega)
        have m2 := Int.emod_lt_of_pos (s.at_ + 1) h2'
        have m3 : (s.at_ + 1) % (((s.cells.map D.int).length : Nat) : Int) < (s.cells.length : Nat) := by
          have e : (s.cells.map D.int).length = s.cells.length := List.length_map ..
          rw [e] at m2 ⊢
          exact m2
        obtain ⟨c, _, _, ec⟩ := at_ints (ns := s.cells) m1 m3
        refine ix_l ec ?_
        refine ⟨(by decide : (0 : Int) < 2147483629), ?_⟩
        exact ⟨_, rfl⟩
      · exact ⟨7, rfl⟩
    · rintro g ⟨c, rfl⟩
      refine ⟨trivial, ?_⟩
      refine ixat_i rfl (d := .int s.seed) rfl ?_
      refine ⟨.inr ⟨by decide, by decide⟩, .inr ⟨by decide, by decide⟩, ?_⟩
      refine ⟨trivial, ?_⟩
      refine ixat_i rfl (d := .int (s.at_ + 1)) rfl ?_
      refine ⟨.inr ⟨by decide, by decide⟩, (by decide : (0 : Int) < 2147483647), ?_⟩
      generalize s.seed * 48271 + c * 40699 + (s.at_ + 1) * 69623 + 1 = y
      have m1 := Int.emod_nonneg y (show (2147483647 : Int) ≠ 0 by decide)
      have m2 := Int.emod_lt_of_pos y (show (0 : Int) < 2147483647 by decide)
      refine ⟨⟨by decide, by decide⟩, .inl ⟨by omega, by omega⟩, (by decide : (0 : Int) < 2147483647), ?_⟩
      refine ⟨trivial, ?_⟩
      refine setat_i rfl rfl ?_
      refine ⟨⟨by decide, by decide⟩, hn0, ?_⟩
      refine rt_tp (s' := ⟨s.great, y % 2147483647 * (y % 2147483647 / 1009 + 69621) % 2147483647, s.at_ + 1, s.cells⟩) ?_
      exact hR _ _ (Int.emod_nonneg _ (by omega)) (Int.emod_lt_of_pos _ hn0)

end K79
namespace K79
open PySem PySem.Spec PyProof.Rows L2 G TQ
theorem er_map {α β : Type} (f : α → β) : ∀ (l : List α) (n : Nat), (l.eraseIdx n).map f = (l.map f).eraseIdx n
  | [], _ => rfl
  | _ :: _, 0 => rfl
  | a :: l, n + 1 => congrArg (f a :: ·) (er_map f l n)
theorem perm_er : ∀ {l : List Int} {n : Nat} {c : Int}, l[n]? = some c → l.Perm (c :: l.eraseIdx n)
  | [], _, _, h => by simp at h
  | a :: l, 0, c, h => by
    have h : a = c := by simpa using h
    subst h
    exact .refl _
  | a :: l, n + 1, c, h => by
    have h' : l[n]? = some c := by simpa using h
    exact ((perm_er h').cons a).trans (.swap ..)
theorem perm_pop {l f : List Int} {n : Nat} {c : Int} (h : l[n]? = some c) : (l.eraseIdx n ++ (f ++ [c])).Perm (l ++ f) := by
  have h1 := perm_er h
  have h2 : (l.eraseIdx n ++ (f ++ [c])).Perm ((l.eraseIdx n ++ f) ++ [c]) := by rw [List.append_assoc]
  refine h2.trans ?_
  refine (List.perm_append_comm (l₁ := l.eraseIdx n ++ f) (l₂ := [c])).trans ?_
  exact (h1.append_right f).symm
theorem rng_ints (n : Nat) : rngD 0 n = ((List.range n).map Int.ofNat).map D.int := by
  unfold rngD
  rw [List.map_map]
  apply List.map_congr_left
  intro i _
  show D.int (0 + (i : Int)) = D.int (i : Int)
  rw [Int.zero_add]
theorem szl {n : Nat} (h : n ≤ 3000) : n < sizeLine := Nat.lt_of_le_of_lt h (by decide)
theorem rg_nodup (n : Nat) : ((List.range n).map Int.ofNat).Nodup := by
  rw [List.Nodup, List.pairwise_map]
  exact List.nodup_range.imp fun {a b} h e => h (Int.ofNat.inj e)
theorem way_of {r : Int} {l f : List Int} (h0 : 0 ≤ r) (hp : (l ++ f).Perm ((List.range r.toNat).map Int.ofNat)) (h1 : 1 ≤ f.length) (h8 : f.length ≤ 8) : wayI r f := by
  have nd : (l ++ f).Nodup := hp.nodup_iff.mpr (rg_nodup _)
  refine ⟨h1, h8, (List.nodup_append.mp nd).2.1, fun x m => ?_⟩
  have mx := hp.mem_iff.mp (List.mem_append_right l m)
  obtain ⟨i, hi, rfl⟩ := List.mem_map.mp mx
  have hi := List.mem_range.mp hi
  have : Int.ofNat i = (i : Int) := rfl
  omega
theorem cat_ways {q q3 : Addr} {ks ks3 : List (List Int)} {P : O → Prop} (h : ks.length + ks3.length ≤ 3000) (hP : ∀ p, P (.lst p (((ks ++ ks3).map tupI).map .pur))) : roCatL (O.lst q ((ks.map tupI).map .pur)).d (O.lst q3 ((ks3.map tupI).map .pur)).d P := by
  show roCatL (.lst (O.dL _)) (.lst (O.dL _)) P
  rw [dL_pur, dL_pur]
  refine ⟨by simpa using sz h, fun p => ?_⟩
  rw [← List.map_append]
  exact hP p

/-! ### the cores -/
def ringW (n : Nat) : List (List Int) := if 1 < n then (List.range n).map fun k : Nat => [(k : Int), ((k : Int) + 1) % (n : Int)] else []
def shiftW (n : Nat) : List (List Int) := (ringW n).map fun w => [(n : Int) + w.getD 0 0, (n : Int) + w.getD 1 0]
def turnW (n : Nat) : List (List Int) := (ringW n).map fun w => [w.getD 1 0, w.getD 0 0]
instance (r : Int) (w : List Int) : Decidable (wayI r w) := by unfold wayI; exact inferInstance
theorem core0 : ∀ n : Nat, 1 ≤ n → n ≤ 4 → ∀ w ∈ ringW n, wayI n w
  | 1, _, _ => by decide
  | 2, _, _ => by decide
  | 3, _, _ => by decide
  | 4, _, _ => by decide
theorem core1 : ∀ n : Nat, 1 ≤ n → n ≤ 4 → ∀ w ∈ ringW n ++ shiftW n ++ [[0, (n : Int)]], wayI (2 * (n : Int)) w
  | 1, _, _ => by decide
  | 2, _, _ => by decide
  | 3, _, _ => by decide
  | 4, _, _ => by decide
theorem core2 : ∀ n : Nat, 1 ≤ n → n ≤ 4 → ∀ w ∈ ringW n ++ [[0, (n : Int)], [(n : Int), (n : Int) + 1], [(n : Int) + 1, 0]], wayI ((n : Int) + 2) w
  | 1, _, _ => by decide
  | 2, _, _ => by decide
  | 3, _, _ => by decide
  | 4, _, _ => by decide
theorem core3 : ∀ n : Nat, 1 ≤ n → n ≤ 4 → ∀ w ∈ ringW n ++ turnW n, wayI n w
  | 1, _, _ => by decide
  | 2, _, _ => by decide
  | 3, _, _ => by decide
  | 4, _, _ => by decide
theorem core6 : ∀ n : Nat, 1 ≤ n → n ≤ 4 → ∀ w ∈ [(List.range (n + 2)).map Int.ofNat, [(n : Int) + 2, 0, (n : Int)]], wayI ((n : Int) + 3) w
  | 1, _, _ => by decide
  | 2, _, _ => by decide
  | 3, _, _ => by decide
  | 4, _, _ => by decide
theorem core4 : ∀ w ∈ [[0, 1], [0, 2], [1, 0], [1, 2], [2, 0], [2, 1]], wayI 3 w := by decide
theorem ringW_len {n : Nat} (h : n ≤ 4) : (ringW n).length ≤ 4 := by
  unfold ringW
  split
  · rw [List.length_map, List.length_range]; exact h
  · exact Nat.zero_le _
theorem ringW_at {n : Nat} : ∀ w ∈ ringW n, ∃ x y, w = [x, y] := by
  unfold ringW
  split
  · intro w m
    obtain ⟨k, _, rfl⟩ := List.mem_map.mp m
    exact ⟨_, _, rfl⟩
  · intro w m
    exact nomatch m
theorem ring_d {n : Nat} (h : 1 < n) : (rngD 0 n).map (fun d => match d with
    | .int k => .tup [.int k, .int ((k + 1) % (n : Int))]
    | _ => .non) = (ringW n).map tupI := by
  unfold ringW
  rw [if_pos h, rng_ints, List.map_map, List.map_map, List.map_map]
  rfl
def pm__law_way : Pm := fun as We R => ∃ (p : Addr) (s : Tp) (r m : Int), as = [tpO p s, .pur (.int r), .pur (.int m)] ∧ 1 ≤ r ∧ r ≤ 40 ∧ 1 ≤ m ∧ m ≤ 8 ∧ ∀ w s', wayI r w → (w.length : Int) ≤ m → R (.pur (tupI w)) [some (tpO p s'), pi r, pi m]
abbrev rwO (q : Addr) (n : Int) (ws : List (List Int)) : O := .tup [.pur (.int n), .lst q ((ws.map tupI).map .pur)]
def pm__law_core : Pm := fun as We R => ∃ (k : Int) (n : Nat), as = [.pur (.int k), .pur (.int n)] ∧ 1 ≤ n ∧ n ≤ 4 ∧ ∀ q (m : Int) ws, 1 ≤ m → m ≤ 8 → ws.length ≤ 9 → (∀ w ∈ ws, wayI m w) → R (rwO q m ws) [pi k, pi n]
def pm__law_book : Pm := fun as We R => ∃ (p : Addr) (s : Tp), as = [tpO p s] ∧ ∀ q (m : Int) ws s', 1 ≤ m → m ≤ 8 → ws.length ≤ 12 → (∀ w ∈ ws, wayI m w) → R (rwO q m ws) [some (tpO p s')]
theorem ok__law_way {P : Program} {w : World} {K : PySem.W.Frag} {mg : Str → Option Value} {base : Heap} (T : Txt K mg) (F : Dfn K mg d__law_way) (c__law_draw : Fn P w K mg base 1 "_law_draw" ["_law_pool_here", "_law_many"] pm__law_draw) : Fn P w K mg base 2 "_law_way" ["_law_pool_here", "_law_roads", "_law_longest"] pm__law_way := by
  obtain ⟨fd, F, hm⟩ := F.ex
  refine ⟨_, fd, fn_G (k := 1) (pm := pm__law_way) F sc__law_way (fun cdv A outer s H E hr C => (gss_cons (gs_set (i := 3) C.nd (ge_listR1 C.calm T.m_list T.m_range (ge_var (i := 1))))
      (gss_cons (gs_set (i := 4) C.nd (ge_lst ga_nil))
      (gss_cons (gs_for C.po C.calm (gi_r1 T.m_range (ga_cons (ge_cb (cg_min2 C.calm) T.m_min bt_min (ga_cons (ge_var (i := 1)) (ga_cons (ge_op og_add ge_int (ge_fn C c__law_draw (hr.mono (by decide)) (ga_bor (i := 0) (ga_cons (ge_var (i := 2)) ga_nil)))) ga_nil))) ga_nil)) (gg_name (i := 5) C.nd) (gss_one (gs_app (i := 4) (ge_popAt (i := 3) (ge_fn C c__law_draw (hr.mono (by decide)) (ga_bor (i := 0) (ga_cons (ge_lenO (i := 3) T.m_len) ga_nil)))))))
      (gss_one (gs_ret (ge_ct cg_tuple T.m_tuple bt_tuple (ga_cons (ge_frz (i := 4)) ga_nil)))))))) (fun as We R hl hp => ?_), hm, F.kp, F.bindsN (fun _ _ _ _ _ _ us hl => match us, hl with | [_, _, _], _ => rfl)⟩
  obtain ⟨p, s, r, m, rfl, hr1, hr2, hm1, hm2, hR⟩ := hp
  refine ⟨?_, fun q1 => ⟨sz (show 0 ≤ 3000 by decide), fun q2 => ?_⟩⟩
  · exact .of_le (by omega) (by omega) (by omega) (by omega)
  refine ⟨trivial, rfl, by simp [bors], p, s, m, rfl, by omega, by omega, fun v s1 h0 h1 => ?_⟩
  obtain ⟨k, ek, k1, k2, k3⟩ : ∃ k : Int, (if 1 + v < r then 1 + v else r) = k ∧ 1 ≤ k ∧ k ≤ r ∧ k ≤ m := by
    by_cases h : 1 + v < r
    · exact ⟨1 + v, if_pos h, by omega, by omega, by omega⟩
    · exact ⟨r, if_neg h, by omega, by omega, by omega⟩
  show _ ∧ _
  dsimp only
  rw [ek]
  refine ⟨by omega, by omega, fun i g => ∃ (s' : Tp) (l f : List Int) (x : Option O), (l ++ f).Perm ((List.range r.toNat).map Int.ofNat) ∧ l.length = r.toNat - i ∧ f.length = i ∧
    g = [some (tpO p s'), pi r, pi m, some (.lst q1 ((l.map D.int).map .pur)), some (.lst q2 ((f.map D.int).map .pur)), x], ⟨s1, (List.range r.toNat).map Int.ofNat, [], none, by rw [List.append_nil], by simp, rfl, ?_⟩, ?_, ?_⟩
  · rw [← rng_ints]
    rfl
  · rintro i d g e ⟨s', l, f, x, hp, hl, hf, rfl⟩
    obtain ⟨rfl, hi⟩ := rng_at e
    have hl' : ((l.map D.int).map O.pur).length = l.length := by simp
    refine ⟨trivial, trivial, trivial, rfl, by simp [bors], p, s', (((l.map D.int).map O.pur).length : Int), rfl, by omega, by omega, fun u s2 h0 h1 => ?_⟩
    have hv : u.toNat < l.length := by omega
    refine pop_i rfl h0 (by omega) (d := .int l[u.toNat]) (by simp [hv]) ?_
    have ec : l[u.toNat]? = some l[u.toNat] := by simp [hv]
    refine ⟨szl (show _ ≤ 3000 by simp; omega), s2, l.eraseIdx u.toNat, f ++ [l[u.toNat]], some (.pur (.int (0 + (i : Nat)))), (perm_pop ec).trans hp, by rw [List.length_eraseIdx]; simp [hv]; omega, by simp [hf], ?_⟩
    rw [er_map, er_map, List.map_append, List.map_append]
    rfl
  · rintro g ⟨s', l, f, x, hp, hl, hf, rfl⟩
    rw [rng_len] at hf hl
    refine rt_tp ?_
    show R (.pur (.tup (O.dL ((f.map D.int).map .pur)))) _
    rw [dL_pur]
    exact hR f s' (way_of (by omega) hp (by omega) (by omega)) (by omega)
theorem ok__law_core {P : Program} {w : World} {K : PySem.W.Frag} {mg : Str → Option Value} {base : Heap} (T : Txt K mg) (F : Dfn K mg d__law_core)  : Fn P w K mg base 1 "_law_core" ["_law_kind", "_law_size"] pm__law_core := by
  obtain ⟨fd, F, hm⟩ := F.ex
  refine ⟨_, fd, fn_G (k := 0) (pm := pm__law_core) F sc__law_core (fun cdv A outer s H E hr C => (gss_cons (gs_set (i := 2) C.nd (ge_lst ga_nil))
      (gss_cut (gs_if (gt_cmp og_gt (ge_var (i := 1)) ge_int) (gss_one (gs_setLc (i := 2) (own := [("_law_k", 3)]) C.calm C.nd (gi_r1 T.m_range (ga_cons (ge_var (i := 1)) ga_nil)) (blkOk_by (N := ["_law_kind", "_law_size", "_law_ring", "_law_k", "_law_way_here"]) (sc := (defScope s__law_core)) (by decide +kernel)) (fun _ _ _ _ _ => (gb_name (i := 3) C.nd)) (fun _ _ _ _ _ => gts_nil) (fun _ _ _ _ _ => (ge_tup (ga_cons (ge_var (i := 3)) (ga_cons (ge_op og_mod (ge_op og_add (ge_var (i := 3)) ge_int) (ge_var (i := 1))) ga_nil)))) (sw_true rfl rfl rfl (by decide +kernel)))) gss_nil)
      (gss_cons (gs_if (gt_cmp og_eqI (ge_var (i := 0)) ge_int) (gss_one (gs_ret (ge_tupO (ge_var (i := 1)) (ge_mov (i := 2))))) gss_nil)
      (gss_cons (gs_if (gt_cmp og_eqI (ge_var (i := 0)) ge_int) (gss_one (gs_ret (ge_tupO (ge_op og_mul ge_int (ge_var (i := 1))) (ge_op og_catL (ge_op og_catL (ge_frz (i := 2)) (ge_lc (own := [("_law_way_here", 4)]) C.calm C.nd (gi_list (ge_frz (i := 2))) (blkOk_by (N := ["_law_kind", "_law_size", "_law_ring", "_law_k", "_law_way_here"]) (sc := (defScope s__law_core)) (by decide +kernel)) (fun _ _ _ _ _ => (gb_name (i := 4) C.nd)) (fun _ _ _ _ _ => gts_nil) (fun _ _ _ _ _ => (ge_tup (ga_cons (ge_op og_add (ge_var (i := 1)) (ge_ix ig_seq (ge_var (i := 4)) ge_int)) (ga_cons (ge_op og_add (ge_var (i := 1)) (ge_ix ig_seq (ge_var (i := 4)) ge_int)) ga_nil)))))) (ge_lst (ga_cons (ge_tup (ga_cons ge_int (ga_cons (ge_var (i := 1)) ga_nil))) ga_nil)))))) gss_nil)
      (gss_cons (gs_if (gt_cmp og_eqI (ge_var (i := 0)) ge_int) (gss_one (gs_ret (ge_tupO (ge_op og_add (ge_var (i := 1)) ge_int) (ge_op og_catL (ge_frz (i := 2)) (ge_lst (ga_cons (ge_tup (ga_cons ge_int (ga_cons (ge_var (i := 1)) ga_nil))) (ga_cons (ge_tup (ga_cons (ge_var (i := 1)) (ga_cons (ge_op og_add (ge_var (i := 1)) ge_int) ga_nil))) (ga_cons (ge_tup (ga_cons (ge_op og_add (ge_var (i := 1)) ge_int) (ga_cons ge_int ga_nil))) ga_nil)))))))) gss_nil)
      (gss_cons (gs_if (gt_cmp og_eqI (ge_var (i := 0)) ge_int) (gss_one (gs_ret (ge_tupO (ge_var (i := 1)) (ge_op og_catL (ge_frz (i := 2)) (ge_lc (own := [("_law_way_here", 4)]) C.calm C.nd (gi_list (ge_frz (i := 2))) (blkOk_by (N := ["_law_kind", "_law_size", "_law_ring", "_law_k", "_law_way_here"]) (sc := (defScope s__law_core)) (by decide +kernel)) (fun _ _ _ _ _ => (gb_name (i := 4) C.nd)) (fun _ _ _ _ _ => gts_nil) (fun _ _ _ _ _ => (ge_tup (ga_cons (ge_ix ig_seq (ge_var (i := 4)) ge_int) (ga_cons (ge_ix ig_seq (ge_var (i := 4)) ge_int) ga_nil))))))))) gss_nil)
      (gss_cons (gs_if (gt_cmp og_eqI (ge_var (i := 0)) ge_int) (gss_one (gs_ret (ge_tupO ge_int (ge_lst (ga_cons (ge_tup (ga_cons ge_int (ga_cons ge_int ga_nil))) (ga_cons (ge_tup (ga_cons ge_int (ga_cons ge_int ga_nil))) (ga_cons (ge_tup (ga_cons ge_int (ga_cons ge_int ga_nil))) (ga_cons (ge_tup (ga_cons ge_int (ga_cons ge_int ga_nil))) (ga_cons (ge_tup (ga_cons ge_int (ga_cons ge_int ga_nil))) (ga_cons (ge_tup (ga_cons ge_int (ga_cons ge_int ga_nil))) ga_nil)))))))))) gss_nil)
      (gss_cons (gs_if (gt_cmp og_eqI (ge_var (i := 0)) ge_int) (gss_one (gs_ret (ge_tupO (ge_var (i := 1)) (ge_lst ga_nil)))) gss_nil)
      (gss_one (gs_ret (ge_tupO (ge_op og_add (ge_var (i := 1)) ge_int) (ge_lst (ga_cons (ge_tupR1 C.calm T.m_tuple T.m_range (ge_op og_add (ge_var (i := 1)) ge_int)) (ga_cons (ge_tup (ga_cons (ge_op og_add (ge_var (i := 1)) ge_int) (ga_cons ge_int (ga_cons (ge_var (i := 1)) ga_nil)))) ga_nil))))))))))))))) (fun as We R hl hp => ?_), hm, F.kp, F.bindsN (fun _ _ _ _ _ _ us hl => match us, hl with | [_, _], _ => rfl)⟩
  obtain ⟨k, n, rfl, hn1, hn4, hR⟩ := hp
  have c0 := core0 n hn1 hn4
  have c1 := core1 n hn1 hn4
  have c2 := core2 n hn1 hn4
  have c3 := core3 n hn1 hn4
  have c6 := core6 n hn1 hn4
  have rl := ringW_len hn4
  refine ⟨sz (show 0 ≤ 3000 by decide), fun q0 => ?_⟩
  refine ⟨fun g => ∃ (q : Addr) (x : Option O), g = [pi k, pi n, some (.lst q (((ringW n).map tupI).map .pur)), x, none], ?_, ?_⟩
  · refine br_i (fun h => ?_) fun h => ?_
    · have h' : 1 < n := by
        have h : decide ((1 : Int) < n) = true := h
        have := of_decide_eq_true h
        omega
      refine lc_of (fun d => match d with
        | .int k => .tup [.int k, .int ((k + 1) % (n : Int))]
        | _ => .non) (rngD 0 n) (fun Q q => ?_) (by rw [rng_len]; exact sz (by omega)) ?_ fun q => ?_
      · exact ⟨by omega, by omega, q⟩
      · intro i d Q Q0 e q
        obtain ⟨rfl, hi⟩ := rng_at e
        refine br_T rfl ?_
        refine ⟨(by omega : (0 : Int) < n), sz (show 2 ≤ 3000 by decide), ?_⟩
        exact q
      · rw [ring_d h']
        exact ⟨q, _, rfl⟩
    · have h' : ¬ 1 < n := by
        have h : decide ((1 : Int) < n) = false := h
        have := of_decide_eq_false h
        omega
      refine ⟨q0, none, ?_⟩
      unfold ringW
      rw [if_neg h']
      rfl
  rintro g ⟨q, x, rfl⟩
  refine br_i (fun e0 => ?_) fun e0 => ?_
  · exact hR q n (ringW n) (by omega) (by omega) (by omega) c0
  refine br_i (fun e1 => ?_) fun e1 => ?_
  · refine ⟨.inl ⟨by decide, by decide⟩, ?_⟩
    refine lc_of (fun d => match d with
      | .tup [.int a, .int b] => .tup [.int ((n : Int) + a), .int ((n : Int) + b)]
      | _ => .non) ((ringW n).map tupI) (fun Q qq => ?_) (by rw [List.length_map]; exact sz (by omega)) ?_ fun p1 => ?_
    · show Q (O.dL (((ringW n).map tupI).map .pur)) _
      rw [dL_pur]
      exact qq
    · intro i d Q Q0 e qq
      rw [List.getElem?_map] at e
      obtain ⟨w, ew, rfl⟩ := Option.map_eq_some_iff.mp e
      obtain ⟨a, b, rfl⟩ := ringW_at w (List.mem_of_getElem? ew)
      refine br_T rfl ?_
      refine ⟨sz (show 2 ≤ 3000 by decide), ?_⟩
      exact qq
    · have es : ((ringW n).map tupI).map (fun d => match d with
          | .tup [.int a, .int b] => D.tup [.int ((n : Int) + a), .int ((n : Int) + b)]
          | _ => .non) = (shiftW n).map tupI := by
        unfold shiftW
        rw [List.map_map, List.map_map]
        refine List.map_congr_left fun w m => ?_
        obtain ⟨a, b, rfl⟩ := ringW_at w m
        rfl
      rw [es]
      have sl : (shiftW n).length ≤ 4 := by unfold shiftW; rw [List.length_map]; exact rl
      refine cat_ways (q := q) (q3 := p1) (by omega) fun p2 => ?_
      refine ⟨sz (show 2 ≤ 3000 by decide), sz (show 1 ≤ 3000 by decide), fun p3 => ?_⟩
      refine cat_ways (q := p2) (q3 := p3) (ks3 := [[0, (n : Int)]]) (by simp; omega) fun p4 => ?_
      exact hR p4 (2 * n) _ (by omega) (by omega) (by simp; omega) c1
  refine br_i (fun e2 => ?_) fun e2 => ?_
  · refine ⟨sz (show 2 ≤ 3000 by decide), sz (show 2 ≤ 3000 by decide), sz (show 2 ≤ 3000 by decide), sz (show 3 ≤ 3000 by decide), fun p3 => ?_⟩
    refine cat_ways (q := q) (q3 := p3) (ks3 := [[0, (n : Int)], [(n : Int), (n : Int) + 1], [(n : Int) + 1, 0]]) (by simp; omega) fun p4 => ?_
    exact hR p4 (n + 2) _ (by omega) (by omega) (by simp; omega) c2
  refine br_i (fun e3 => ?_) fun e3 => ?_
  · refine lc_of (fun d => match d with
      | .tup [.int a, .int b] => .tup [.int b, .int a]
      | _ => .non) ((ringW n).map tupI) (fun Q qq => ?_) (by rw [List.length_map]; exact sz (by omega)) ?_ fun p1 => ?_
    · show Q (O.dL (((ringW n).map tupI).map .pur)) _
      rw [dL_pur]
      exact qq
    · intro i d Q Q0 e qq
      rw [List.getElem?_map] at e
      obtain ⟨w, ew, rfl⟩ := Option.map_eq_some_iff.mp e
      obtain ⟨a, b, rfl⟩ := ringW_at w (List.mem_of_getElem? ew)
      refine br_T rfl ?_
      refine ⟨sz (show 2 ≤ 3000 by decide), ?_⟩
      exact qq
    · have es : ((ringW n).map tupI).map (fun d => match d with
          | .tup [.int a, .int b] => D.tup [.int b, .int a]
          | _ => .non) = (turnW n).map tupI := by
        unfold turnW
        rw [List.map_map, List.map_map]
        refine List.map_congr_left fun w m => ?_
        obtain ⟨a, b, rfl⟩ := ringW_at w m
        rfl
      rw [es]
      have sl : (turnW n).length ≤ 4 := by unfold turnW; rw [List.length_map]; exact rl
      refine cat_ways (q := q) (q3 := p1) (by omega) fun p2 => ?_
      exact hR p2 n _ (by omega) (by omega) (by simp; omega) c3
  refine br_i (fun e4 => ?_) fun e4 => ?_
  · refine ⟨sz (show 2 ≤ 3000 by decide), sz (show 2 ≤ 3000 by decide), sz (show 2 ≤ 3000 by decide), sz (show 2 ≤ 3000 by decide), sz (show 2 ≤ 3000 by decide), sz (show 2 ≤ 3000 by decide), sz (show 6 ≤ 3000 by decide), fun p3 => ?_⟩
    exact hR p3 3 [[0, 1], [0, 2], [1, 0], [1, 2], [2, 0], [2, 1]] (by decide) (by decide) (by decide) core4
  refine br_i (fun e5 => ?_) fun e5 => ?_
  · refine ⟨sz (show 0 ≤ 3000 by decide), fun p3 => ?_⟩
    exact hR p3 n [] (by omega) (by omega) (by decide) (fun w m => nomatch m)
  · refine ⟨?_, ?_⟩
    · exact .of_le (by omega) (by omega) (by omega) (by omega)
    refine ⟨sz (show 3 ≤ 3000 by decide), sz (show 2 ≤ 3000 by decide), fun p3 => ?_⟩
    have en : rngD 0 ((n : Int) + 2).toNat = ((List.range (n + 2)).map Int.ofNat).map D.int := by
      rw [show ((n : Int) + 2).toNat = n + 2 by omega]
      exact rng_ints _
    have hh := hR p3 (n + 3) [(List.range (n + 2)).map Int.ofNat, [(n : Int) + 2, 0, (n : Int)]] (by omega) (by omega) (by simp) c6
    unfold rwO tupI at hh
    simp only [List.map_cons, List.map_nil] at hh
    have e2 : (D.tup (((List.range (n + 2)).map Int.ofNat).map D.int)) = .tup (rngD 0 ((n : Int) + 2).toNat) := by rw [en]
    simp only [e2] at hh
    exact hh
theorem ok__law_book {P : Program} {w : World} {K : PySem.W.Frag} {mg : Str → Option Value} {base : Heap} (T : Txt K mg) (F : Dfn K mg d__law_book) (c__law_core : Fn P w K mg base 1 "_law_core" ["_law_kind", "_law_size"] pm__law_core) (c__law_draw : Fn P w K mg base 1 "_law_draw" ["_law_pool_here", "_law_many"] pm__law_draw) (c__law_way : Fn P w K mg base 2 "_law_way" ["_law_pool_here", "_law_roads", "_law_longest"] pm__law_way) : Fn P w K mg base 3 "_law_book" ["_law_pool_here"] pm__law_book := by
  obtain ⟨fd, F, hm⟩ := F.ex
  refine ⟨_, fd, fn_G (k := 2) (pm := pm__law_book) F sc__law_book (fun cdv A outer s H E hr C => (gss_cons (gs_asgO2 (i := 1) (j := 2) C.calm C.nd (ge_fn C c__law_core (hr.mono (by decide)) (ga_cons (ge_fn C c__law_draw (hr.mono (by decide)) (ga_bor (i := 0) (ga_cons ge_int ga_nil))) (ga_cons (ge_op og_add ge_int (ge_fn C c__law_draw (hr.mono (by decide)) (ga_bor (i := 0) (ga_cons ge_int ga_nil)))) ga_nil))))
      (gss_cons (gs_for C.po C.calm (gi_r1 T.m_range (ga_cons (ge_fn C c__law_draw (hr.mono (by decide)) (ga_bor (i := 0) (ga_cons ge_int ga_nil))) ga_nil)) (gg_name (i := 3) C.nd) (gss_one (gs_app (i := 2) (ge_fn C c__law_way (hr.mono (by decide)) (ga_bor (i := 0) (ga_cons (ge_var (i := 1)) (ga_cons ge_int ga_nil)))))))
      (gss_one (gs_ret (ge_tupO (ge_var (i := 1)) (ge_mov (i := 2)))))))) (fun as We R hl hp => ?_), hm, F.kp, F.bindsN (fun _ _ _ _ _ _ us hl => match us, hl with | [_], _ => rfl)⟩
  obtain ⟨p, s, rfl, hR⟩ := hp
  refine ⟨trivial, rfl, by simp [bors], p, s, 7, rfl, by decide, by decide, fun k s1 k0 k1 => ?_⟩
  refine ⟨trivial, rfl, by simp [bors], p, s1, 4, rfl, by decide, by decide, fun n s2 n0 n1 => ?_⟩
  refine ⟨rfl, by simp [bors], k, (1 + n).toNat, by rw [show (((1 + n).toNat : Nat) : Int) = 1 + n by omega]; rfl, by omega, by omega, fun q m ws m1 m8 hl hw => ?_⟩
  refine ⟨_, _, rfl, ?_⟩
  refine ⟨trivial, rfl, by simp [bors], p, s2, 4, rfl, by decide, by decide, fun v s3 v0 v1 => ?_⟩
  refine ⟨by omega, by omega, fun i g => ∃ (s' : Tp) (vs : List (List Int)) (x : Option O), vs.length ≤ 9 + i ∧ (∀ w ∈ vs, wayI m w) ∧ g = [some (tpO p s'), pi m, some (.lst q ((vs.map tupI).map .pur)), x], ⟨s3, ws, none, hl, hw, rfl⟩, ?_, ?_⟩
  · rintro i d g e ⟨s', vs, x, hvl, hv, rfl⟩
    obtain ⟨rfl, hi⟩ := rng_at e
    refine ⟨trivial, trivial, rfl, by simp [bors], p, s', m, 4, rfl, by omega, by omega, by decide, by decide, fun w s5 hw5 hl5 => ?_⟩
    refine ⟨szl (show _ ≤ 3000 by simp; omega), s5, vs ++ [w], some (.pur (.int (0 + (i : Nat)))), by simp; omega, fun u mu => (List.mem_append.mp mu).elim (hv u) fun mu => by rw [List.mem_singleton.mp mu]; exact hw5, ?_⟩
    rw [List.map_append, List.map_append]
    rfl
  · rintro g ⟨s', vs, x, hvl, hv, rfl⟩
    rw [rng_len] at hvl
    refine rt_tp ?_
    exact hR q m vs s' m1 m8 (by omega) hv

def pm__law_wide : Pm := fun as We R => ∃ (p : Addr) (s : Tp), as = [tpO p s] ∧ ∀ q (m : Int) ws s', 1 ≤ m → m ≤ 40 → ws.length ≤ 60 → (∀ w ∈ ws, wayI m w) → R (rwO q m ws) [some (tpO p s')]
theorem ok__law_wide {P : Program} {w : World} {K : PySem.W.Frag} {mg : Str → Option Value} {base : Heap} (T : Txt K mg) (F : Dfn K mg d__law_wide) (c__law_draw : Fn P w K mg base 1 "_law_draw" ["_law_pool_here", "_law_many"] pm__law_draw) (c__law_book : Fn P w K mg base 3 "_law_book" ["_law_pool_here"] pm__law_book) (c__law_way : Fn P w K mg base 2 "_law_way" ["_law_pool_here", "_law_roads", "_law_longest"] pm__law_way) : Fn P w K mg base 4 "_law_wide" ["_law_pool_here"] pm__law_wide := by
  obtain ⟨fd, F, hm⟩ := F.ex
  refine ⟨_, fd, fn_G (k := 3) (pm := pm__law_wide) F sc__law_wide (fun cdv A outer s H E hr C => (gss_cons (gs_set (i := 1) C.nd (ge_fn C c__law_draw (hr.mono (by decide)) (ga_bor (i := 0) (ga_cons ge_int ga_nil))))
      (gss_cons (gs_if (gt_cmp og_lt (ge_var (i := 1)) ge_int) (gss_one (gs_ret (ge_fn C c__law_book (hr.mono (by decide)) (ga_bor (i := 0) ga_nil)))) gss_nil)
      (gss_cons (gs_set (i := 2) C.nd (ge_op og_add ge_int (ge_fn C c__law_draw (hr.mono (by decide)) (ga_bor (i := 0) (ga_cons ge_int ga_nil)))))
      (gss_cons (gs_set (i := 3) C.nd (ge_lst ga_nil))
      (gss_cons (gs_if (gt_cmp og_eqI (ge_var (i := 1)) ge_int) (gss_one (gs_for C.po C.calm (gi_r1 T.m_range (ga_cons (ge_fn C c__law_draw (hr.mono (by decide)) (ga_bor (i := 0) (ga_cons ge_int ga_nil))) ga_nil)) (gg_name (i := 4) C.nd) (gss_one (gs_app (i := 3) (ge_fn C c__law_way (hr.mono (by decide)) (ga_bor (i := 0) (ga_cons (ge_var (i := 2)) (ga_cons ge_int ga_nil)))))))) (gss_one (gs_for C.po C.calm (gi_r1 T.m_range (ga_cons (ge_fn C c__law_draw (hr.mono (by decide)) (ga_bor (i := 0) (ga_cons ge_int ga_nil))) ga_nil)) (gg_name (i := 4) C.nd) (gss_one (gs_app (i := 3) (ge_fn C c__law_way (hr.mono (by decide)) (ga_bor (i := 0) (ga_cons (ge_var (i := 2)) (ga_cons ge_int ga_nil)))))))))
      (gss_one (gs_ret (ge_tupO (ge_var (i := 2)) (ge_mov (i := 3))))))))))) (fun as We R hl hp => ?_), hm, F.kp, F.bindsN (fun _ _ _ _ _ _ us hl => match us, hl with | [_], _ => rfl)⟩
  obtain ⟨p, s, rfl, hR⟩ := hp
  refine ⟨trivial, rfl, by simp [bors], p, s, 4, rfl, by decide, by decide, fun kd s1 k0 k1 => ?_⟩
  refine br_i (fun e0 => ?_) fun e0 => ?_
  · refine ⟨trivial, rfl, by simp [bors], p, s1, rfl, fun q m ws s' m1 m8 hl hw => ?_⟩
    refine rt_tp ?_
    exact hR q m ws s' m1 (by omega) (by omega) hw
  refine ⟨trivial, rfl, by simp [bors], p, s1, 40, rfl, by decide, by decide, fun n s2 n0 n1 => ?_⟩
  refine ⟨sz (show 0 ≤ 3000 by decide), fun q => ?_⟩
  refine br_i (fun e1 => ?_) fun e1 => ?_
  · skip
    refine ⟨trivial, rfl, by simp [bors], p, s2, 10, rfl, by decide, by decide, fun v s3 v0 v1 => ?_⟩
    refine ⟨by omega, by omega, fun i g => ∃ (s' : Tp) (vs : List (List Int)) (x : Option O), vs.length = i ∧ (∀ w ∈ vs, wayI (1 + n) w) ∧ g = [some (tpO p s'), pi kd, pi (1 + n), some (.lst q ((vs.map tupI).map .pur)), x], ⟨s3, [], none, rfl, (fun w m => (nomatch m)), rfl⟩, ?_, ?_⟩
    · rintro i d g e ⟨s', vs, x, hvl, hv, rfl⟩
      obtain ⟨rfl, hi⟩ := rng_at e
      refine ⟨trivial, trivial, rfl, by simp [bors], p, s', 1 + n, 8, rfl, by omega, by omega, by decide, by decide, fun w s5 hw5 hl5 => ?_⟩
      refine ⟨szl (show _ ≤ 3000 by simp; omega), s5, vs ++ [w], some (.pur (.int (0 + (i : Nat)))), by simp; omega, fun u mu => (List.mem_append.mp mu).elim (hv u) fun mu => by rw [List.mem_singleton.mp mu]; exact hw5, ?_⟩
      rw [List.map_append, List.map_append]
      rfl
    · rintro g ⟨s', vs, x, hvl, hv, rfl⟩
      rw [rng_len] at hvl
      refine rt_tp ?_
      exact hR q (1 + n) vs s' (by omega) (by omega) (by omega) hv
  · skip
    refine ⟨trivial, rfl, by simp [bors], p, s2, 61, rfl, by decide, by decide, fun v s3 v0 v1 => ?_⟩
    refine ⟨by omega, by omega, fun i g => ∃ (s' : Tp) (vs : List (List Int)) (x : Option O), vs.length = i ∧ (∀ w ∈ vs, wayI (1 + n) w) ∧ g = [some (tpO p s'), pi kd, pi (1 + n), some (.lst q ((vs.map tupI).map .pur)), x], ⟨s3, [], none, rfl, (fun w m => (nomatch m)), rfl⟩, ?_, ?_⟩
    · rintro i d g e ⟨s', vs, x, hvl, hv, rfl⟩
      obtain ⟨rfl, hi⟩ := rng_at e
      refine ⟨trivial, trivial, rfl, by simp [bors], p, s', 1 + n, 2, rfl, by omega, by omega, by decide, by decide, fun w s5 hw5 hl5 => ?_⟩
      refine ⟨szl (show _ ≤ 3000 by simp; omega), s5, vs ++ [w], some (.pur (.int (0 + (i : Nat)))), by simp; omega, fun u mu => (List.mem_append.mp mu).elim (hv u) fun mu => by rw [List.mem_singleton.mp mu]; exact hw5, ?_⟩
      rw [List.map_append, List.map_append]
      rfl
    · rintro g ⟨s', vs, x, hvl, hv, rfl⟩
      rw [rng_len] at hvl
      refine rt_tp ?_
      exact hR q (1 + n) vs s' (by omega) (by omega) (by omega) hv

end K79
namespace K79
open PySem PySem.Spec PyProof.Rows L2 G TQ

def pm__law_pieces : Pm := fun as We R => ∃ ws : List (List Int), as = [.pur (.lst (ws.map tupI))] ∧ ws.length ≤ 60 ∧ (∀ w ∈ ws, w.length ≤ 8) ∧ ∀ p, R (.lst p (((allP ws).map tupI).map .pur)) [pd (.lst (ws.map tupI))]
def Good (ks : List (List Int)) (xs : List O) (M : List Int → Prop) : Prop := ks.Nodup ∧ xs.length = ks.length ∧ ∀ k, k ∈ ks ↔ M k
def upto (ws : List (List Int)) (i : Nat) (k : List Int) : Prop := ∃ v ∈ ws.take i, isStretch v k
def part (w : List Int) (s e : Nat) (k : List Int) : Prop := ∃ a b, a < b ∧ b ≤ w.length ∧ k = cutI w a b ∧ (a < s ∨ (a = s ∧ b ≤ e))
theorem part_step {w : List Int} {s j : Nat} {k : List Int} (h : s + j < w.length) : part w s (s + j + 1) k ↔ part w s (s + j) k ∨ k = cutI w s (s + j + 1) := by
  unfold part
  constructor
  · rintro ⟨a, b, h1, h2, rfl, h3⟩
    by_cases h4 : a = s ∧ b = s + j + 1
    · obtain ⟨rfl, rfl⟩ := h4; exact .inr rfl
    · exact .inl ⟨a, b, h1, h2, rfl, by omega⟩
  · rintro (⟨a, b, h1, h2, rfl, h3⟩ | rfl)
    · exact ⟨a, b, h1, h2, rfl, by omega⟩
    · exact ⟨s, s + j + 1, by omega, by omega, rfl, .inr ⟨rfl, Nat.le_refl _⟩⟩
theorem part_next {w : List Int} {s e : Nat} {k : List Int} (h : w.length ≤ e) : part w s e k ↔ part w (s + 1) 0 k := by
  unfold part
  constructor
  · rintro ⟨a, b, h1, h2, rfl, h3⟩; exact ⟨a, b, h1, h2, rfl, by omega⟩
  · rintro ⟨a, b, h1, h2, rfl, h3⟩; exact ⟨a, b, h1, h2, rfl, by omega⟩
theorem part_first {w : List Int} {s : Nat} {k : List Int} : part w s 0 k ↔ part w s s k := by
  unfold part
  constructor
  · rintro ⟨a, b, h1, h2, rfl, h3⟩; exact ⟨a, b, h1, h2, rfl, by omega⟩
  · rintro ⟨a, b, h1, h2, rfl, h3⟩; exact ⟨a, b, h1, h2, rfl, by omega⟩
theorem part_none {w k : List Int} : ¬ part w 0 0 k := by
  rintro ⟨a, b, h1, h2, rfl, h3⟩; omega
theorem part_all {w : List Int} {s : Nat} {k : List Int} (h : w.length ≤ s) : part w s 0 k ↔ isStretch w k := by
  unfold part isStretch
  constructor
  · rintro ⟨a, b, h1, h2, rfl, h3⟩; exact ⟨a, b, h1, h2, rfl⟩
  · rintro ⟨a, b, h1, h2, rfl⟩; exact ⟨a, b, h1, h2, rfl, .inl (by omega)⟩
theorem part_in {w : List Int} {s e : Nat} {k : List Int} (h : part w s e k) : isStretch w k := by
  obtain ⟨a, b, h1, h2, rfl, _⟩ := h
  exact ⟨a, b, h1, h2, rfl⟩
theorem upto_succ {ws : List (List Int)} {i : Nat} {w k : List Int} (e : ws[i]? = some w) : upto ws (i + 1) k ↔ upto ws i k ∨ isStretch w k := by
  unfold upto
  have et : ws.take (i + 1) = ws.take i ++ [w] := by rw [List.take_add_one, e]; rfl
  rw [et]
  simp only [List.mem_append, List.mem_singleton]
  constructor
  · rintro ⟨v, m | rfl, h⟩
    · exact .inl ⟨v, m, h⟩
    · exact .inr h
  · rintro (⟨v, m, h⟩ | h)
    · exact ⟨v, .inl m, h⟩
    · exact ⟨w, .inr rfl, h⟩
theorem few_of {ws ks : List (List Int)} (nd : ks.Nodup) (hn : ws.length ≤ 60) (hw : ∀ w ∈ ws, w.length ≤ 8) (h : ∀ k ∈ ks, ∃ w ∈ ws, isStretch w k) : ks.length ≤ 2160 := by
  have h1 : ks.length ≤ (allP ws).length := nodup_sub_len _ _ nd fun k m => mem_allP.mpr (h k m)
  have := allP_len hw
  omega
theorem good_put {ks : List (List Int)} {xs : List O} {M N : List Int → Prop} {k : List Int} {u : O} (h : Good ks xs M) (e : ∀ m, N m ↔ M m ∨ m = k) : (k ∈ ks → ∀ j, Good ks (xs.set j u) N) ∧ (k ∉ ks → Good (ks ++ [k]) (xs ++ [u]) N) := by
  obtain ⟨nd, hl, hm⟩ := h
  refine ⟨fun m j => ⟨nd, by simp [hl], fun x => ?_⟩, fun m => ⟨?_, by simp [hl], fun x => ?_⟩⟩
  · rw [e x, ← hm x]
    exact ⟨.inl, fun z => z.elim id fun z => z ▸ m⟩
  · refine List.nodup_append.mpr ⟨nd, by simp, ?_⟩
    intro a ma b mb
    rw [List.mem_singleton.mp mb]
    exact fun z => m (z ▸ ma)
  · rw [e x, ← hm x, List.mem_append, List.mem_singleton]
theorem good_eq {ks : List (List Int)} {xs : List O} {M N : List Int → Prop} (h : Good ks xs M) (e : ∀ m, N m ↔ M m) : Good ks xs N := ⟨h.1, h.2.1, fun k => (h.2.2 k).trans (e k).symm⟩
theorem ok__law_pieces {P : Program} {w : World} {K : PySem.W.Frag} {mg : Str → Option Value} {base : Heap} (T : Txt K mg) (F : Dfn K mg d__law_pieces)  : Fn P w K mg base 1 "_law_pieces" ["_law_ways"] pm__law_pieces := by
  obtain ⟨fd, F, hm⟩ := F.ex
  refine ⟨_, fd, fn_G (k := 0) (pm := pm__law_pieces) F sc__law_pieces (fun cdv A outer s H E hr C => (gss_cons (gs_set (i := 1) C.nd ge_dnewT)
      (gss_cons (gs_for C.po C.calm (gi_list (ge_var (i := 0))) (gg_name (i := 2) C.nd) (gss_one (gs_for C.po C.calm (gi_r1 T.m_range (ga_cons (ge_cb cg_len T.m_len bt_len (ga_cons (ge_var (i := 2)) ga_nil)) ga_nil)) (gg_name (i := 3) C.nd) (gss_one (gs_for C.po C.calm (gi_r2 T.m_range (ga_cons (ge_op og_add (ge_var (i := 3)) ge_int) (ga_cons (ge_op og_add (ge_cb cg_len T.m_len bt_len (ga_cons (ge_var (i := 2)) ga_nil)) ge_int) ga_nil))) (gg_name (i := 4) C.nd) (gss_one (gs_dputT (i := 1) (hu_of hr.toRoom) ge_bl (ge_slA (ge_var (i := 2)) (go_some (ge_var (i := 3))) (go_some (ge_var (i := 4)))))))))))
      (gss_one (gs_ret (ge_sortK (i := 1) C.calm (hu16 hr) T.m_sorted T.m_list)))))) (fun as We R hl hp => ?_), hm, F.kp, F.bindsN (fun _ _ _ _ _ _ us hl => match us, hl with | [_], _ => rfl)⟩
  obtain ⟨ws, rfl, hn, hw, hR⟩ := hp
  have lw : (ws.map tupI).length = ws.length := List.length_map ..
  refine fun q => ?_
  refine ⟨fun i g => ∃ (ks : List (List Int)) (xs : List O) (x y z : Option O), Good ks xs (upto ws i) ∧ g = [pd (.lst (ws.map tupI)), some (.dT q (ks.map kI) xs), x, y, z], ⟨[], [], none, none, none, ⟨List.nodup_nil, rfl, fun k => ⟨fun m => (by cases m), fun ⟨v, m, _⟩ => by simp at m⟩⟩, rfl⟩, ?_, ?_⟩
  · rintro i d g e ⟨ks, xs, x, y, z, hg, rfl⟩
    obtain ⟨w, ew, rfl⟩ : ∃ w, ws[i]? = some w ∧ d = tupI w := by
      rw [List.getElem?_map] at e
      cases q : ws[i]? with
      | none => rw [q] at e; cases e
      | some w => rw [q] at e; cases e; exact ⟨w, rfl, rfl⟩
    have mw : w ∈ ws := List.mem_of_getElem? ew
    have hw8 := hw w mw
    have el : (w.map D.int).length = w.length := List.length_map ..
    refine ⟨by omega, by omega, fun s g => ∃ (ks : List (List Int)) (xs : List O) (y z : Option O), Good ks xs (fun k => upto ws i k ∨ part w s 0 k) ∧ g = [pd (.lst (ws.map tupI)), some (.dT q (ks.map kI) xs), pd (tupI w), y, z], ⟨ks, xs, y, z, good_eq hg fun m => ⟨fun h => h.elim id fun h => absurd h part_none, .inl⟩, rfl⟩, ?_, ?_⟩
    · rintro s d g e ⟨ks, xs, y, z, hg, rfl⟩
      obtain ⟨rfl, hs⟩ := rng_at e
      have hs : s < ((w.map D.int).length : Int).toNat := hs
      refine ⟨⟨by omega, by omega, by omega, by omega⟩, fun j g => ∃ (ks : List (List Int)) (xs : List O) (z : Option O), Good ks xs (fun k => upto ws i k ∨ part w s (s + j) k) ∧ g = [pd (.lst (ws.map tupI)), some (.dT q (ks.map kI) xs), pd (tupI w), pi (0 + (s : Nat)), z], ⟨ks, xs, z, good_eq hg fun m => or_congr Iff.rfl part_first.symm, rfl⟩, ?_, ?_⟩
      · rintro j d g e ⟨ks, xs, z, hg, rfl⟩
        obtain ⟨rfl, hj⟩ := rng_at e
        have hj : j < (((w.map D.int).length : Int) + 1 - (0 + (s : Nat) + 1)).toNat := hj
        have hlt : s + j < w.length := by omega
        obtain ⟨g1, g2⟩ := good_put (u := .pur (.bl true)) (k := cutI w s (s + j + 1)) (N := fun k => upto ws i k ∨ part w s (s + (j + 1)) k) hg fun m => by
          show upto ws i m ∨ part w s (s + j + 1) m ↔ _
          rw [part_step hlt, or_assoc]
        have hfew : ks.length ≤ 2160 := few_of hg.1 hn hw fun k m => by
          rcases (hg.2.2 k).mp m with ⟨v, mv, h⟩ | h
          · exact ⟨v, List.mem_of_mem_take mv, h⟩
          · exact ⟨w, mw, part_in h⟩
        refine dput_t (k := cutI w s (s + j + 1)) rfl (fun Q q => ?_) hg.1 (szl (show xs.length ≤ 3000 by rw [hg.2.1]; omega)) (fun m jj => ⟨ks, _, _, g1 m jj, rfl⟩) fun m => ⟨_, _, _, g2 m, rfl⟩
        show Q (.pur (.tup (G.cutD (w.map D.int) (some (0 + (s : Nat))) (some ((0 + (s : Nat)) + 1 + (j : Nat)))))) _
        have e1 : (0 + (s : Int)) = ((s : Nat) : Int) := by omega
        have e2 : (((s : Nat) : Int) + 1 + (j : Nat)) = ((s + j + 1 : Nat) : Int) := by omega
        have e3 : G.cutD (w.map D.int) (some (0 + (s : Nat))) (some ((0 + (s : Nat)) + 1 + (j : Nat))) = (cutI w s (s + j + 1)).map .int := by rw [e1, e2, cutD_tup (by omega) (by omega)]
        rw [e3]
        exact q
      · rintro g ⟨ks, xs, z, hg, rfl⟩
        rw [rng_len] at hg
        exact ⟨ks, xs, _, z, good_eq hg fun m => or_congr Iff.rfl (part_next (by omega)).symm, rfl⟩
    · rintro g ⟨ks, xs, y, z, hg, rfl⟩
      rw [rng_len] at hg
      exact ⟨ks, xs, _, y, z, good_eq hg fun m => (upto_succ ew).trans (or_congr Iff.rfl (part_all (by omega)).symm), rfl⟩
  · rintro g ⟨ks, xs, x, y, z, hg, rfl⟩
    rw [lw] at hg
    have mem : ∀ k, k ∈ ks ↔ ∃ w ∈ ws, isStretch w k := fun k => (hg.2.2 k).trans (by unfold upto; rw [List.take_length])
    refine sortK_i (We := fun _ _ => False) (i := 1) (g := [pd (.lst (ws.map tupI)), some (.dT q (ks.map kI) xs), x, y, z]) (p := q) (ms := ks) (xs := xs) rfl (fun k m => ?_) fun p => ?_
    · obtain ⟨w, mw, h⟩ := (mem k).mp m
      exact stretch_ne (mem_stretch.mpr h)
    · rw [asc_allP_of (asc_of_sorted (sortW_pw ks) ((List.mergeSort_perm _ _).nodup_iff.mpr hg.1)) fun k => mem_sortW.trans (mem k)]
      exact hR p

end K79
namespace K79
open PySem PySem.Spec PyProof.Rows L2 G TQ
theorem tupDL_tups : ∀ ks : List (List Int), tupDL (ks.map tupI) = true
  | [] => rfl
  | k :: ks => by
    show (tupDL (k.map D.int) && tupDL (ks.map tupI)) = true
    rw [tupDL_ints, tupDL_tups ks]
    rfl
theorem filter_tups (f : List Int → Bool) (g : D → Bool) (h : ∀ k, g (tupI k) = f k) : ∀ ks : List (List Int), (ks.map tupI).filter g = (ks.filter f).map tupI
  | [] => rfl
  | k :: ks => by
    rw [List.map_cons, List.filter_cons, List.filter_cons, filter_tups f g h ks, h k]
    cases f k <;> rfl
theorem self_stretch {k : List Int} (h : 1 ≤ k.length) : isStretch k k := ⟨0, k.length, by omega, Nat.le_refl _, by unfold cutI; simp⟩

open TL
/-! ### lines -/
theorem joinL_len (S : List Nat) : ∀ ls : List (List Nat), (joinL S ls).length ≤ (ls.map (·.length)).sum + ls.length * S.length
  | [] => Nat.zero_le _
  | [p] => by
    show p.length ≤ (p.length + 0) + 1 * S.length
    omega
  | p :: q :: r => by
    have ih := joinL_len S (q :: r)
    show (p ++ (S ++ joinL S (q :: r))).length ≤ _
    rw [List.length_append, List.length_append]
    simp only [List.map_cons, List.sum_cons, List.length_cons, Nat.succ_mul] at ih ⊢
    omega
theorem join_len (a : Str) (ys : List Str) : (Txt.join a ys).length ≤ (ys.map (·.length)).sum + ys.length * a.length := by
  rw [len_tl, join_eq, tl_join, len_tl a]
  have h := joinL_len (tl a) (ys.map tl)
  rw [List.length_map, List.map_map] at h
  have e : ys.map ((·.length) ∘ tl) = ys.map (·.length) := List.map_congr_left fun y _ => (len_tl y).symm
  rw [e] at h
  exact h
theorem sum_le {M : Nat} : ∀ {ys : List Str}, (∀ y ∈ ys, y.length ≤ M) → (ys.map (·.length)).sum ≤ ys.length * M
  | [], _ => Nat.zero_le _
  | y :: ys, h => by
    have h1 := h y List.mem_cons_self
    have h2 := sum_le (ys := ys) fun z m => h z (List.mem_cons_of_mem _ m)
    simp only [List.map_cons, List.sum_cons, List.length_cons, Nat.succ_mul]
    omega
theorem tl_numS {i : Int} (h : 0 ≤ i) : tl (numS i) = numL i.toNat := by
  have e : numS i = Str.ofString (toString ((i.toNat : Nat) : Int)) := by rw [Int.toNat_of_nonneg h]; rfl
  rw [e]
  exact tl_num _
theorem numS_len {i : Int} (h0 : 0 ≤ i) (h1 : i < 1000) : (numS i).length ≤ 3 := by
  rw [len_tl, tl_numS h0]
  exact numL_len (by decide) (by omega)
def lineT (w : Str) (ns : List Int) : Str := Txt.join " " (w :: ns.map numS) ++ "\n"
theorem nums_sum {ns : List Int} (h : ∀ x ∈ ns, 0 ≤ x ∧ x < 1000) : ((ns.map numS).map (·.length)).sum ≤ ns.length * 3 := by
  have := sum_le (M := 3) (ys := ns.map numS) fun y m => by
    obtain ⟨x, mx, rfl⟩ := List.mem_map.mp m
    exact numS_len (h x mx).1 (h x mx).2
  rw [List.length_map] at this
  exact this
theorem line_join {w : Str} {ns : List Int} (h : ∀ x ∈ ns, 0 ≤ x ∧ x < 1000) : ((w :: ns.map numS).map (·.length)).sum + (w :: ns.map numS).length * (" " : Str).length ≤ w.length + ns.length * 4 + 1 := by
  have := nums_sum h
  have e : (" " : Str).length = 1 := rfl
  simp only [List.map_cons, List.sum_cons, List.length_cons, List.length_map, e]
  omega
theorem lineT_len {w : Str} {ns : List Int} (h : ∀ x ∈ ns, 0 ≤ x ∧ x < 1000) : (lineT w ns).length ≤ w.length + ns.length * 4 + 2 := by
  unfold lineT
  rw [strLen_append]
  have h1 := join_len " " (w :: ns.map numS)
  have h2 := line_join (w := w) h
  have e : ("\n" : Str).length = 1 := rfl
  omega
theorem strs_nums (ns : List Int) : (ns.map D.int).map (fun d => match d with
    | .int x => .str (numS x)
    | _ => .non) = strsD (ns.map numS) := by
  unfold strsD
  rw [List.map_map, List.map_map]
  rfl
theorem cat_strs {q q3 : Addr} {ks ks3 : List Str} {P : O → Prop} (h : ks.length + ks3.length ≤ 3000) (hP : ∀ p, P (.lst p ((strsD (ks ++ ks3)).map .pur))) : roCatL (O.lst q ((strsD ks).map .pur)).d (O.lst q3 ((strsD ks3).map .pur)).d P := by
  show roCatL (.lst (O.dL _)) (.lst (O.dL _)) P
  rw [dL_pur, dL_pur]
  refine ⟨by simpa [strsD] using sz h, fun p => ?_⟩
  have e : strsD ks ++ strsD ks3 = strsD (ks ++ ks3) := List.map_append.symm
  rw [e]
  exact hP p
theorem join_o {s : Str} {q : Addr} {ys : List Str} {P : O → Prop} (h : (ys.map (·.length)).sum + ys.length * s.length ≤ 16777216) (p : P (.pur (.str (Txt.join s ys)))) : jnP (.str s) (O.lst q ((strsD ys).map .pur)).d P := by
  show jnP _ (.lst (O.dL _)) P
  rw [dL_pur]
  exact jn_i h p
def pm_numbers_line : Pm := fun as We R => ∃ (w : Str) (ns : List Int), as = [.pur (.str w), .pur (tupI ns)] ∧ w.length ≤ 100 ∧ ns.length ≤ 1000 ∧ (∀ x ∈ ns, 0 ≤ x ∧ x < 1000) ∧ R (.pur (.str (lineT w ns))) [pd (.str w), pd (tupI ns)]
/-! ### the longest ways of a book -/
def cutsB (v k : List Int) : Bool := decide (1 < v.length) && (decide (k = v.tail) || decide (k = v.dropLast))
def topsP (ks : List (List Int)) : List (List Int) := ks.filter fun k => !(ks.any fun v => cutsB v k)
theorem cut_tail (w : List Int) : G.cutD (w.map .int) (some 1) none = w.tail.map .int := by
  unfold G.cutD
  have e : HT.sIx (w.map D.int).length 0 (some 1) = min 1 (w.map D.int).length := HT.sIx_nat (w.map D.int).length 0 1
  have e2 : HT.sIx (w.map D.int).length (w.map D.int).length none = (w.map D.int).length := rfl
  rw [e, e2, List.length_map]
  cases w with
  | nil => rfl
  | cons x w =>
    rw [show min 1 (x :: w).length = 1 by simp]
    show (w.map D.int).take _ = w.map D.int
    rw [List.take_of_length_le (by simp)]
theorem cut_init (w : List Int) : G.cutD (w.map .int) none (some (-1)) = w.dropLast.map .int := by
  unfold G.cutD
  have e : HT.sIx (w.map D.int).length 0 none = 0 := rfl
  have e2 : HT.sIx (w.map D.int).length (w.map D.int).length (some (-1)) = w.length - 1 := by
    rw [List.length_map]
    show (if (-1 : Int) < 0 then (-1 + (w.length : Int)).toNat else min (-1 : Int).toNat w.length) = _
    rw [if_pos (by decide)]
    omega
  rw [e, e2, List.drop_zero, List.dropLast_eq_take, List.map_take]
  rfl
def pm_longest_ways (C : Addr) : Pm := fun as We R => ∃ (r : Int) (ks : List (List Int)), as = [.pur (bookD C r ks)] ∧ ks.length ≤ 2390 ∧ ∀ p, R (.lst p (((topsP ks).map tupI).map .pur)) [pd (bookD C r ks)]
def keepT (f : List Int → Bool) : D → Bool
  | .tup ds => (match intsOf ds with
    | some k => f k
    | none => false)
  | _ => false
theorem keepT_tup (f : List Int → Bool) (k : List Int) : keepT f (tupI k) = f k := by
  show (match intsOf (k.map D.int) with
    | some k => f k
    | none => false) = _
  rw [ints_intsOf]
def bookT (r : Int) (ks : List (List Int)) : Str := Txt.join "" (lineT "roads" [r] :: (topsP ks).map (lineT "way"))
def pm_book_text (C : Addr) : Pm := fun as We R => ∃ (r : Int) (ks : List (List Int)), as = [.pur (bookD C r ks)] ∧ 1 ≤ r ∧ r ≤ 40 ∧ ks.length ≤ 2390 ∧ (∀ k ∈ ks, wayI r k) ∧ R (.pur (.str (bookT r ks))) [pd (bookD C r ks)]
theorem ok_numbers_line {P : Program} {w : World} {K : PySem.W.Frag} {mg : Str → Option Value} {base : Heap} (T : Txt K mg) (F : Dfn K mg d_numbers_line)  : Fn P w K mg base 1 "numbers_line" ["word", "numbers"] pm_numbers_line := by
  obtain ⟨fd, F, hm⟩ := F.ex
  refine ⟨_, fd, fn_G (k := 0) (pm := pm_numbers_line) F sc_numbers_line (fun cdv A outer s H E hr C => (gss_one (gs_ret (ge_op og_catS (ge_join ge_str (ge_op og_catL (ge_lst (ga_cons (ge_var (i := 0)) ga_nil)) (ge_lc (own := [("number", 2)]) C.calm C.nd (gi_tup (ge_var (i := 1))) (blkOk_by (N := ["word", "numbers", "number"]) (sc := (defScope s_numbers_line)) (by decide +kernel)) (fun _ _ _ _ _ => (gb_name (i := 2) C.nd)) (fun _ _ _ _ _ => gts_nil) (fun _ _ _ _ _ => (ge_ct cg_strN T.m_str bt_str (ga_cons (ge_var (i := 2)) ga_nil)))))) ge_str)))) (fun as We R hl hp => ?_), hm, F.kp, F.bindsN (fun _ _ _ _ _ _ us hl => match us, hl with | [_, _], _ => rfl)⟩
  obtain ⟨w, ns, rfl, hw, hn, hx, hR⟩ := hp
  refine ⟨⟨_, rfl⟩, ?_⟩
  refine ⟨sz (show 1 ≤ 3000 by decide), fun p => ?_⟩
  refine lc_of (fun d => match d with
    | .int x => .str (numS x)
    | _ => .non) (ns.map D.int) (fun Q q => q) (by rw [List.length_map]; exact sz (by omega)) ?_ fun p2 => ?_
  · intro i d Q Q0 e q
    obtain ⟨x, mx, rfl⟩ := List.mem_map.mp (List.mem_of_getElem? e)
    refine br_T rfl ?_
    have := hx x mx
    exact strN_i (by have : x.natAbs < 1000 := by omega
                     exact Nat.lt_of_lt_of_le this (by decide)) q
  · rw [strs_nums]
    refine cat_strs (q := p) (q3 := p2) (ks := [w]) (by simp; omega) fun p3 => ?_
    have hl := line_join (w := w) hx
    refine join_o (Nat.le_trans hl (by omega)) ?_
    refine catS_i ?_ hR
    have h1 := join_len " " (w :: ns.map numS)
    have e : ("\n" : Str).length = 1 := rfl
    have e2 : sizeLine = 16777216 := rfl
    show (Txt.join " " (w :: ns.map numS)).length + ("\n" : Str).length ≤ sizeLine
    omega

def upC (ks : List (List Int)) (i : Nat) (k : List Int) : Prop := ∃ v ∈ ks.take i, cutsB v k = true
theorem upC_succ {ks : List (List Int)} {i : Nat} {w : List Int} (e : ks[i]? = some w) (k : List Int) : upC ks (i + 1) k ↔ upC ks i k ∨ cutsB w k = true := by
  unfold upC
  have et : ks.take (i + 1) = ks.take i ++ [w] := by rw [List.take_add_one, e]; rfl
  rw [et]
  simp only [List.mem_append, List.mem_singleton]
  constructor
  · rintro ⟨v, m | rfl, h⟩
    · exact .inl ⟨v, m, h⟩
    · exact .inr h
  · rintro (⟨v, m, h⟩ | h)
    · exact ⟨v, .inl m, h⟩
    · exact ⟨w, .inr rfl, h⟩
theorem cuts_long {w k : List Int} (h : 1 < w.length) : cutsB w k = true ↔ k = w.tail ∨ k = w.dropLast := by
  unfold cutsB
  rw [decide_eq_true h]
  simp
theorem cuts_short {w k : List Int} (h : ¬ 1 < w.length) : ¬ cutsB w k = true := by
  unfold cutsB
  rw [decide_eq_false h]
  simp
theorem ok_longest_ways {P : Program} {w : World} {K : PySem.W.Frag} {mg : Str → Option Value} {base : Heap} (T : Txt K mg) (F : Dfn K mg d_longest_ways)  : Fn P w K mg base 1 "longest_ways" ["book"] (pm_longest_ways (He.ga K "Book")) := by
  obtain ⟨fd, F, hm⟩ := F.ex
  refine ⟨_, fd, fn_G (k := 0) (pm := (pm_longest_ways (He.ga K "Book"))) F sc_longest_ways (fun cdv A outer s H E hr C => (gss_cons (gs_set (i := 1) C.nd ge_dnewT)
      (gss_cons (gs_for C.po C.calm (gi_tup (ge_fld T.c_Book T.na_Book_ways fi_Book_ways (ge_var (i := 0)))) (gg_name (i := 2) C.nd) (gss_one (gs_if (gt_cmp og_gt (ge_cb cg_len T.m_len bt_len (ga_cons (ge_var (i := 2)) ga_nil)) ge_int) (gss_cut (gs_dputT (i := 1) (hu_of hr.toRoom) ge_bl (ge_slA (ge_var (i := 2)) (go_some ge_int) go_none))
      (gss_one (gs_dputT (i := 1) (hu_of hr.toRoom) ge_bl (ge_slA (ge_var (i := 2)) go_none (go_some (ge_un ug_neg ge_int)))))) gss_nil)))
      (gss_one (gs_ret (ge_peek2 (ge_lc (own := [("way", 2)]) C.calm C.nd (gi_tup (ge_fld T.c_Book T.na_Book_ways fi_Book_ways (ge_var (i := 0)))) (blkOk_by (N := ["book", "inner", "way"]) (sc := (defScope s_longest_ways)) (by decide +kernel)) (fun _ _ _ _ _ => (gb_name (i := 2) C.nd)) (fun _ _ _ _ _ => (gts_one (gt_cmp (og_notInT hr.units) (ge_var (i := 2)) (ge_var (i := 1))))) (fun _ _ _ _ _ => (ge_var (i := 2)))))))))) (fun as We R hl hp => ?_), hm, F.kp, F.bindsN (fun _ _ _ _ _ _ us hl => match us, hl with | [_], _ => rfl)⟩
  obtain ⟨r, ks, rfl, hn, hR⟩ := hp
  have lw : (ks.map tupI).length = ks.length := List.length_map ..
  refine fun q => ?_
  refine ⟨rfl, rfl, fun i g => ∃ (ms : List (List Int)) (xs : List O) (x : Option O), Good ms xs (upC ks i) ∧ ms.length ≤ 2 * i ∧ g = [pd (bookD (He.ga K "Book") r ks), some (.dT q (ms.map kI) xs), x], ⟨[], [], none, ⟨List.nodup_nil, rfl, fun k => ⟨fun m => (by cases m), fun ⟨v, m, _⟩ => by simp at m⟩⟩, Nat.zero_le _, rfl⟩, ?_, ?_⟩
  · rintro i d g e ⟨ms, xs, x, hg, hl, rfl⟩
    obtain ⟨w, ew, rfl⟩ : ∃ w, ks[i]? = some w ∧ d = tupI w := by
      have e : (ks.map tupI)[i]? = some d := e
      rw [List.getElem?_map] at e
      cases q : ks[i]? with
      | none => rw [q] at e; cases e
      | some w => rw [q] at e; cases e; exact ⟨w, rfl, rfl⟩
    have hi : i < ks.length := (List.getElem?_eq_some_iff.mp ew).1
    refine br_i (fun h => ?_) fun h => ?_
    · have h' : 1 < w.length := by
        have h : decide ((1 : Int) < ((w.map D.int).length : Nat)) = true := h
        have := of_decide_eq_true h
        rw [List.length_map] at this
        omega
      refine ⟨fun g => ∃ (ms : List (List Int)) (xs : List O), Good ms xs (fun k => upC ks i k ∨ k = w.tail) ∧ ms.length ≤ 2 * i + 1 ∧ g = [pd (bookD (He.ga K "Book") r ks), some (.dT q (ms.map kI) xs), pd (tupI w)], ?_, ?_⟩
      · obtain ⟨g1, g2⟩ := good_put (u := .pur (.bl true)) (k := w.tail) (N := fun k => upC ks i k ∨ k = w.tail) hg fun m => Iff.rfl
        refine dput_t (k := w.tail) rfl (fun Q q => ?_) hg.1 (Nat.lt_of_le_of_lt (show xs.length ≤ 10000 by rw [hg.2.1]; omega) (by decide)) (fun m jj => ⟨ms, _, g1 m jj, by omega, rfl⟩) fun m => ⟨_, _, g2 m, by simp; omega, rfl⟩
        show Q (.pur (.tup (G.cutD (w.map D.int) (some 1) none))) _
        rw [cut_tail]
        exact q
      · rintro g ⟨ms, xs, hg, hl, rfl⟩
        obtain ⟨g1, g2⟩ := good_put (u := .pur (.bl true)) (k := w.dropLast) (N := upC ks (i + 1)) hg fun m => by
          rw [upC_succ ew, cuts_long h', or_assoc]
        refine dput_t (k := w.dropLast) rfl (fun Q q => ?_) hg.1 (Nat.lt_of_le_of_lt (show xs.length ≤ 10000 by rw [hg.2.1]; omega) (by decide)) (fun m jj => ⟨ms, _, _, g1 m jj, by omega, rfl⟩) fun m => ⟨_, _, _, g2 m, by simp; omega, rfl⟩
        show Q (.pur (.tup (G.cutD (w.map D.int) none (some (-1))))) _
        rw [cut_init]
        exact q
    · have h' : ¬ 1 < w.length := by
        have h : decide ((1 : Int) < ((w.map D.int).length : Nat)) = false := h
        have := of_decide_eq_false h
        rw [List.length_map] at this
        omega
      exact ⟨ms, xs, _, good_eq hg fun m => (upC_succ ew m).trans ⟨fun z => z.elim id fun z => absurd z (cuts_short h'), .inl⟩, by omega, rfl⟩
  · rintro g ⟨ms, xs, x, hg, hl, rfl⟩
    have hg : Good ms xs (upC ks (ks.map tupI).length) := hg
    rw [lw] at hg
    have mem : ∀ k, decide (k ∈ ms) = ks.any fun v => cutsB v k := fun k => by
      rw [Bool.eq_iff_iff, decide_eq_true_iff, List.any_eq_true, hg.2.2 k]
      unfold upC
      rw [List.take_length]
    cases x
    all_goals
      refine lc_if (fun d => d) (keepT fun k => !(ks.any fun v => cutsB v k)) (ks.map tupI) (fun Q q => ⟨rfl, rfl, q⟩) (by rw [lw]; exact sz (by omega)) ?_ fun p => ?_
      · intro i d Q1 Q2 e1 e2 e3
        obtain ⟨k, mk, rfl⟩ := List.mem_map.mp (List.mem_of_getElem? e1)
        rw [keepT_tup, ← mem k] at e2 e3
        refine inT_i (neg := true) ?_
        refine br_i (fun h => ?_) fun h => ?_
        · exact e2 h
        · exact e3 h
      · rw [filter_tups (fun k => !(ks.any fun v => cutsB v k)) _ (keepT_tup _), List.map_id']
        exact okP_i ⟨_, rfl, tupDL_tups _⟩ (hR p)
theorem ok_book_text {P : Program} {w : World} {K : PySem.W.Frag} {mg : Str → Option Value} {base : Heap} (T : Txt K mg) (F : Dfn K mg d_book_text) (c_numbers_line : Fn P w K mg base 1 "numbers_line" ["word", "numbers"] pm_numbers_line) (c_longest_ways : Fn P w K mg base 1 "longest_ways" ["book"] (pm_longest_ways (He.ga K "Book"))) : Fn P w K mg base 2 "book_text" ["book"] (pm_book_text (He.ga K "Book")) := by
  obtain ⟨fd, F, hm⟩ := F.ex
  refine ⟨_, fd, fn_G (k := 1) (pm := (pm_book_text (He.ga K "Book"))) F sc_book_text (fun cdv A outer s H E hr C => (gss_cons (gs_set (i := 1) C.nd (ge_lst (ga_cons (ge_fn C c_numbers_line (hr.mono (by decide)) (ga_cons ge_str (ga_cons (ge_tup (ga_cons (ge_fld T.c_Book T.na_Book_roads fi_Book_roads (ge_var (i := 0))) ga_nil)) ga_nil))) ga_nil)))
      (gss_cons (gs_ext (i := 1) (ge_lc (own := [("way", 2)]) C.calm C.nd (gi_list (ge_fn C c_longest_ways (hr.mono (by decide)) (ga_cons (ge_var (i := 0)) ga_nil))) (blkOk_by (N := ["book", "lines", "way"]) (sc := (defScope s_book_text)) (by decide +kernel)) (fun _ _ _ _ _ => (gb_name (i := 2) C.nd)) (fun _ _ _ _ _ => gts_nil) (fun _ _ _ _ _ => (ge_fn (Ctx.blk C) c_numbers_line (hr.mono (by decide)) (ga_cons ge_str (ga_cons (ge_var (i := 2)) ga_nil))))))
      (gss_one (gs_ret (ge_join ge_str (ge_frz (i := 1)))))))) (fun as We R hl hp => ?_), hm, F.kp, F.bindsN (fun _ _ _ _ _ _ us hl => match us, hl with | [_], _ => rfl)⟩
  obtain ⟨r, ks, rfl, hr1, hr2, hn, hw, hR⟩ := hp
  have tl : (topsP ks).length ≤ 2390 := Nat.le_trans (List.length_filter_le _ _) hn
  have tw : ∀ k ∈ topsP ks, wayI r k := fun k m => hw k (List.mem_filter.mp m).1
  have line_ok : ∀ k ∈ topsP ks, ("way" : Str).length ≤ 100 ∧ k.length ≤ 1000 ∧ ∀ x ∈ k, 0 ≤ x ∧ x < 1000 := fun k m => by
    obtain ⟨a, b, c, d⟩ := tw k m
    exact ⟨by decide, by omega, fun x mx => by have := d x mx; omega⟩
  have ro : ∀ x ∈ [r], 0 ≤ x ∧ x < 1000 := fun x m => by rw [List.mem_singleton.mp m]; omega
  refine ⟨rfl, rfl, sz (show 1 ≤ 3000 by decide), ?_⟩
  refine ⟨rfl, by simp [bors], "roads", [r], rfl, by decide, by simp, ro, ?_⟩
  refine ⟨sz (show 1 ≤ 3000 by decide), fun q => ?_⟩
  refine ⟨trivial, ?_⟩
  refine lc_of (fun d => match d with
    | .tup ds => (match intsOf ds with
      | some k => .str (lineT "way" k)
      | none => .non)
    | _ => .non) ((topsP ks).map tupI) (fun Q qq => ?_) (by rw [List.length_map]; exact sz (by omega)) ?_ fun p => ?_
  · refine ⟨rfl, by simp [bors], r, ks, rfl, hn, fun p => ?_⟩
    show Q (O.dL (((topsP ks).map tupI).map .pur)) _
    rw [dL_pur]
    exact qq
  · intro i d Q Q0 e qq
    obtain ⟨k, mk, rfl⟩ := List.mem_map.mp (List.mem_of_getElem? e)
    obtain ⟨l1, l2, l3⟩ := line_ok k mk
    refine br_T rfl ?_
    refine ⟨rfl, by simp [bors], "way", k, rfl, l1, l2, l3, ?_⟩
    have ee : (match tupI k with
      | .tup ds => (match intsOf ds with
        | some k => D.str (lineT "way" k)
        | none => .non)
      | _ => .non) = .str (lineT "way" k) := by
      show (match intsOf (k.map D.int) with
        | some k => D.str (lineT "way" k)
        | none => .non) = _
      rw [ints_intsOf]
    rw [ee] at qq
    exact qq
  · have em : ((topsP ks).map tupI).map (fun d => match d with
      | .tup ds => (match intsOf ds with
        | some k => D.str (lineT "way" k)
        | none => .non)
      | _ => .non) = strsD ((topsP ks).map (lineT "way")) := by
      unfold strsD
      rw [List.map_map, List.map_map]
      refine List.map_congr_left fun k m => ?_
      show (match intsOf (k.map D.int) with
        | some k => D.str (lineT "way" k)
        | none => .non) = _
      rw [ints_intsOf]
      rfl
    rw [em]
    show _ ∧ _
    rw [dL_pur]
    refine ⟨?_, ?_⟩
    · show 1 + (strsD ((topsP ks).map (lineT "way"))).length ≤ sizeLine
      unfold strsD
      rw [List.length_map, List.length_map]
      exact sz (by omega)
    · refine ⟨⟨_, rfl⟩, ?_⟩
      refine join_o (q := q) (ys := lineT "roads" [r] :: (topsP ks).map (lineT "way")) ?_ hR
      have h1 := sum_le (M := 40) (ys := lineT "roads" [r] :: (topsP ks).map (lineT "way")) fun y m => by
        rcases List.mem_cons.mp m with rfl | m
        · have := lineT_len (w := "roads") ro
          have e : ("roads" : Str).length = 5 := rfl
          rw [e] at this
          exact Nat.le_trans this (by show 5 + 1 * 4 + 2 ≤ 40; decide)
        · obtain ⟨k, mk, rfl⟩ := List.mem_map.mp m
          have := lineT_len (w := "way") (line_ok k mk).2.2
          have e : ("way" : Str).length = 3 := rfl
          rw [e] at this
          have := (tw k mk).2.1
          omega
      have e : ("" : Str).length = 0 := rfl
      rw [e]
      simp only [List.length_cons, List.length_map] at h1 ⊢
      omega

end K79
namespace K79
open PySem PySem.Spec PyProof.Rows L2 G TQ
theorem enD_len' : ∀ (ds : List D) (k : Nat), (enD k ds).length = ds.length
  | [], _ => rfl
  | d :: ds, k => by show (enD (k + 1) ds).length + 1 = ds.length + 1; rw [enD_len' ds (k + 1)]

open TL
/-! ### words of a line -/
theorem num_first : ∀ n : Nat, n < 100 → n ≠ 0 → (numL n).head? ≠ some 48 := by decide +kernel
theorem num_zero : numL 0 = [48] := by decide +kernel
theorem figures : (("0123456789" : Str)).cps.toList = [48, 49, 50, 51, 52, 53, 54, 55, 56, 57] := by decide +kernel
theorem in_figures {c : Nat} (h : 48 ≤ c ∧ c ≤ 57) : decide (c ∈ (("0123456789" : Str)).cps.toList) = true := by
  rw [figures]
  obtain ⟨a, b⟩ := h
  refine decide_eq_true ?_
  have : c = 48 ∨ c = 49 ∨ c = 50 ∨ c = 51 ∨ c = 52 ∨ c = 53 ∨ c = 54 ∨ c = 55 ∨ c = 56 ∨ c = 57 := by omega
  simpa using this
theorem sgns_num {x : Int} (h : 0 ≤ x) : ∀ d ∈ sgnD (numS x), ∃ c, d = .str (sgnS c) ∧ 48 ≤ c ∧ c ≤ 57 := fun d m => by
  unfold sgnD strsD at m
  obtain ⟨y, my, rfl⟩ := List.mem_map.mp m
  obtain ⟨c, mc, rfl⟩ := List.mem_map.mp my
  have mc : c ∈ tl (numS x) := mc
  rw [tl_numS h] at mc
  exact ⟨c, rfl, numL_digits _ c mc⟩
theorem numS_pos {x : Int} (h : 0 ≤ x) : 1 ≤ (numS x).length := by
  rw [len_tl, tl_numS h]
  have := numL_ne x.toNat
  cases e : numL x.toNat with
  | nil => exact absurd e this
  | cons a l => simp
theorem sgnD_len (x : Str) : (sgnD x).length = x.length := by
  unfold sgnD strsD
  rw [List.length_map, List.length_map, len_tl]
def lnT (w : Str) (ns : List Int) : Str := Txt.join " " (w :: ns.map numS)
def pm_is_number : Pm := fun as We R => ∃ x : Int, as = [.pur (.str (numS x))] ∧ 0 ≤ x ∧ x < 100 ∧ ∀ y, R (.pur (.bl true)) y
def pm_line_numbers : Pm := fun as We R => ∃ (w : Str) (ns : List Int), as = [.pur (.str (lnT w ns)), .pur (.str w), .pur (.int 1)] ∧ 32 ∉ tl w ∧ w.length ≤ 100 ∧ 1 ≤ ns.length ∧ ns.length ≤ 100 ∧ (∀ x ∈ ns, 0 ≤ x ∧ x < 100) ∧ ∀ y, R (.pur (tupI ns)) y
theorem num_free {x : Int} (h : 0 ≤ x) {c : Nat} (hc : c < 48 ∨ 57 < c) : c ∉ tl (numS x) := by
  rw [tl_numS h]
  exact numL_free hc
theorem split_ln {w : Str} {ns : List Int} (hw : 32 ∉ tl w) (h : ∀ x ∈ ns, 0 ≤ x ∧ x < 100) : Txt.split (lnT w ns) " " = w :: ns.map numS := by
  refine split_join (s := 32) (S := []) rfl (by decide +kernel) (by simp) fun p m => ?_
  rcases List.mem_cons.mp m with rfl | m
  · exact hw
  · obtain ⟨x, mx, rfl⟩ := List.mem_map.mp m
    exact num_free (h x mx).1 (by decide)
theorem lnT_len {w : Str} {ns : List Int} (h : ∀ x ∈ ns, 0 ≤ x ∧ x < 100) : (lnT w ns).length ≤ w.length + ns.length * 4 + 1 := by
  have h' : ∀ x ∈ ns, 0 ≤ x ∧ x < 1000 := fun x m => by have := h x m; omega
  exact Nat.le_trans (join_len " " _) (line_join h')
theorem numS_int {x : Int} (h : 0 ≤ x) (h1 : x < 100) : PySem.intText? (numS x) = some x := by
  have e : numS x = Str.ofString (toString ((x.toNat : Nat) : Int)) := by rw [Int.toNat_of_nonneg h]; rfl
  rw [e, int_num (n := x.toNat) (Nat.le_trans (numL_len (k := 2) (by decide) (by omega)) (by decide)), Int.toNat_of_nonneg h]

theorem cutD_one (d : D) (ds : List D) : G.cutD (d :: ds) (some 1) none = ds := by
  unfold G.cutD
  have e : HT.sIx (d :: ds).length 0 (some 1) = min 1 (d :: ds).length := HT.sIx_nat (d :: ds).length 0 1
  have e2 : HT.sIx (d :: ds).length (d :: ds).length none = (d :: ds).length := rfl
  rw [e, e2, show min 1 (d :: ds).length = 1 by simp]
  show ds.take _ = ds
  rw [List.take_of_length_le (by simp)]
theorem words_at {w : Str} {ns : List Int} {i : Nat} {d : D} (e : (strsD (ns.map numS))[i]? = some d) : ∃ x ∈ ns, d = .str (numS x) := by
  have m := List.mem_of_getElem? e
  unfold strsD at m
  obtain ⟨y, my, rfl⟩ := List.mem_map.mp m
  obtain ⟨x, mx, rfl⟩ := List.mem_map.mp my
  exact ⟨x, mx, rfl⟩
theorem ok_is_number {P : Program} {w : World} {K : PySem.W.Frag} {mg : Str → Option Value} {base : Heap} (T : Txt K mg) (F : Dfn K mg d_is_number)  : Fn P w K mg base 1 "is_number" ["word"] pm_is_number := by
  obtain ⟨fd, F, hm⟩ := F.ex
  refine ⟨_, fd, fn_G (k := 0) (pm := pm_is_number) F sc_is_number (fun cdv A outer s H E hr C => (gss_cons (gs_if (GW.gt (gw_or (gt_not (gt_chain og_le og_le ge_int (ge_cb cg_lenS T.m_len bt_len (ga_cons (ge_var (i := 0)) ga_nil)) (ge_gint T.c_MOST_FIGURES))) (gw_or1 (gt_not (gt_val (ge_cb (cg_all C.calm) T.m_all bt_all (ga_cons (ge_lc (own := [("sign", 1)]) C.calm C.nd (gi_str (ge_var (i := 0))) (blkOk_by (N := ["word", "sign"]) (sc := (defScope s_is_number)) (by decide +kernel)) (fun _ _ _ _ _ => (gb_name (i := 1) C.nd)) (fun _ _ _ _ _ => gts_nil) (fun _ _ _ _ _ => (ge_cmp og_inS (ge_var (i := 1)) (ge_gstr T.c_FIGURES)))) ga_nil))))))) (gss_one (gs_ret ge_bl)) gss_nil)
      (gss_one (gs_ret (ge_or (ge_cmp og_eqT (ge_var (i := 0)) ge_str) (ge_one (ge_cmp og_neT (ge_ix ig_str (ge_var (i := 0)) ge_int) ge_str))))))) (fun as We R hl hp => ?_), hm, F.kp, F.bindsN (fun _ _ _ _ _ _ us hl => match us, hl with | [_], _ => rfl)⟩
  obtain ⟨x, rfl, h0, h1, hR⟩ := hp
  have l1 := numS_pos h0
  have l3 := numS_len h0 (by omega)
  have ls : (numS x).length ≤ sizeLine := Nat.le_trans l3 (by decide)
  refine lenS_i ls ?_
  refine br_i (fun a1 => ?_) fun a1 => ?_
  · refine br_i (fun a2 => ?_) fun a2 => ?_
    · exfalso
      have a2' : ¬ (((numS x).length : Int) ≤ 9) := by simpa using a2
      omega
    · refine lc_of (fun _ => .bl true) (sgnD (numS x)) (fun Q q => strP_i q) (by rw [sgnD_len]; exact ls) ?_ fun p => ?_
      · intro i d Q Q0 e q
        obtain ⟨c, rfl, hc⟩ := sgns_num h0 d (List.mem_of_getElem? e)
        refine br_T rfl ?_
        refine inS_i ?_
        rw [in_figures hc]
        exact q
      · refine all_lc (f := fun _ => true) ?_
        refine br_F (by simp) ?_
        refine eqT_i ?_
        refine br_i (fun b1 => ?_) fun b1 => ?_
        · have b1' : decide (numS x = "0") = true := b1
          rw [b1'] at *
          exact hR _
        · have b1' : decide (numS x = "0") = false := b1
          have hx : x.toNat ≠ 0 := fun e => by
            refine of_decide_eq_false b1' (ext_tl ?_)
            rw [tl_numS h0, e, num_zero]
            rfl
          have ht := tl_numS h0
          cases el : numL x.toNat with
          | nil => exact absurd el (numL_ne _)
          | cons c l =>
            rw [el] at ht
            have hc : c ≠ 48 := fun e => num_first x.toNat (by omega) hx (by rw [el, e]; rfl)
            have ea : atI (numS x).cps.toList 0 = some c := atI_of (Int.le_refl 0) (by
              have : (numS x).cps.toList = c :: l := ht
              rw [this]
              rfl)
            refine ixS_i ls ea ?_
            refine neT_i ?_
            have en : decide (sgnS c = ("0" : Str)) = false := decide_eq_false fun e => hc (by
              have := congrArg tl e
              have e2 : tl (sgnS c) = [c] := rfl
              have e3 : tl ("0" : Str) = [48] := rfl
              rw [e2, e3] at this
              exact (List.cons.inj this).1)
            show R (.pur (.bl (!decide (sgnS c = ("0" : Str))))) _
            rw [en]
            exact hR _
  · exfalso
    have a1' : decide ((1 : Int) ≤ ((numS x).length : Nat)) = false := a1
    have := of_decide_eq_false a1'
    omega
theorem ok_line_numbers {P : Program} {w : World} {K : PySem.W.Frag} {mg : Str → Option Value} {base : Heap} (T : Txt K mg) (F : Dfn K mg d_line_numbers) (c_is_number : Fn P w K mg base 1 "is_number" ["word"] pm_is_number) : Fn P w K mg base 2 "line_numbers" ["line", "kind", "least"] pm_line_numbers := by
  obtain ⟨fd, F, hm⟩ := F.ex
  refine ⟨_, fd, fn_G (k := 1) (pm := pm_line_numbers) F sc_line_numbers (fun cdv A outer s H E hr C => (gss_cons (gs_set (i := 3) C.nd (ge_split (ge_var (i := 0)) ge_str))
      (gss_cons (gs_if (GW.gt (gw_or (gt_cmp og_neT (ge_ix ig_seqV (ge_var (i := 3)) ge_int) (ge_var (i := 1))) (gw_or (gt_cmp og_le (ge_cb cg_len T.m_len bt_len (ga_cons (ge_var (i := 3)) ga_nil)) (ge_var (i := 2))) (gw_or1 (gt_not (gt_val (ge_cb (cg_all C.calm) T.m_all bt_all (ga_cons (ge_lc (own := [("word", 4)]) C.calm C.nd (gi_list (ge_slL (ge_var (i := 3)) (go_some ge_int) go_none)) (blkOk_by (N := ["line", "kind", "least", "words", "word"]) (sc := (defScope s_line_numbers)) (by decide +kernel)) (fun _ _ _ _ _ => (gb_name (i := 4) C.nd)) (fun _ _ _ _ _ => gts_nil) (fun _ _ _ _ _ => (ge_fn (Ctx.blk C) c_is_number (hr.mono (by decide)) (ga_cons (ge_var (i := 4)) ga_nil)))) ga_nil)))))))) (gss_one gs_never) gss_nil)
      (gss_one (gs_ret (ge_ct cg_tuple T.m_tuple bt_tuple (ga_cons (ge_lc (own := [("word", 4)]) C.calm C.nd (gi_list (ge_slL (ge_var (i := 3)) (go_some ge_int) go_none)) (blkOk_by (N := ["line", "kind", "least", "words", "word"]) (sc := (defScope s_line_numbers)) (by decide +kernel)) (fun _ _ _ _ _ => (gb_name (i := 4) C.nd)) (fun _ _ _ _ _ => gts_nil) (fun _ _ _ _ _ => (ge_ct cg_intS T.m_int bt_int (ga_cons (ge_var (i := 4)) ga_nil)))) ga_nil))))))) (fun as We R hl hp => ?_), hm, F.kp, F.bindsN (fun _ _ _ _ _ _ us hl => match us, hl with | [_, _, _], _ => rfl)⟩
  obtain ⟨w, ns, rfl, hw, hwl, hn1, hn2, hx, hR⟩ := hp
  have hl := lnT_len (w := w) hx
  refine ⟨⟨_, rfl⟩, ?_⟩
  refine sp_i rfl (Nat.le_trans (Nat.add_le_add_right hl 2) (Nat.le_trans (show _ ≤ 1000 by omega) (by decide))) ?_
  rw [split_ln hw hx]
  refine ix_l (d := .str w) (atI_of (Int.le_refl 0) rfl) ?_
  refine neT_i ?_
  have ew : (!decide (w = w)) = false := by simp
  refine br_F ew ?_
  have lw : (strsD (w :: ns.map numS)).length = ns.length + 1 := by simp [strsD]
  refine br_i (fun h => ?_) fun h => ?_
  · exfalso
    have h : decide (((strsD (w :: ns.map numS)).length : Int) ≤ 1) = true := h
    have := of_decide_eq_true h
    omega
  have iter : ∀ {Q : List D → Gam → Prop} {p : Addr} {g : Gam}, Q (strsD (ns.map numS)) g → Q (O.dL ((G.cutD (strsD (w :: ns.map numS)) (some 1) none).map .pur)) g := fun q => by
    rw [dL_pur]
    have e : strsD (w :: ns.map numS) = .str w :: strsD (ns.map numS) := rfl
    rw [e, cutD_one]
    exact q
  have ln : (strsD (ns.map numS)).length ≤ sizeLine := by
    simp only [strsD, List.length_map]
    exact sz (by omega)
  refine lc_of (fun _ => .bl true) (strsD (ns.map numS)) (fun Q q p => iter (p := p) q) ln ?_ fun p => ?_
  · intro i d Q Q0 e q
    obtain ⟨x, mx, rfl⟩ := words_at (w := w) e
    obtain ⟨x0, x1⟩ := hx x mx
    refine br_T rfl ?_
    exact ⟨rfl, by simp [bors], x, rfl, x0, x1, fun y => q⟩
  · refine all_lc (f := fun _ => true) ?_
    refine br_F (by simp) ?_
    refine lc_of (fun d => match d with
      | .str y => (match PySem.intText? y with
        | some n => .int n
        | none => .non)
      | _ => .non) (strsD (ns.map numS)) (fun Q q p => iter (p := p) q) ln ?_ fun p2 => ?_
    · intro i d Q Q0 e q
      obtain ⟨x, mx, rfl⟩ := words_at (w := w) e
      obtain ⟨x0, x1⟩ := hx x mx
      refine br_T rfl ?_
      have en := numS_int x0 x1
      refine intS_i en (Nat.le_trans (numS_len x0 (by omega)) (by decide)) ?_
      have eq : (match PySem.intText? (numS x) with
        | some n => D.int n
        | none => .non) = .int x := by rw [en]
      rw [← eq]
      exact q
    · have em : (strsD (ns.map numS)).map (fun d => match d with
        | .str y => (match PySem.intText? y with
          | some n => D.int n
          | none => .non)
        | _ => .non) = ns.map D.int := by
        unfold strsD
        rw [List.map_map, List.map_map]
        refine List.map_congr_left fun x m => ?_
        show (match PySem.intText? (numS x) with
          | some n => D.int n
          | none => .non) = _
        rw [numS_int (hx x m).1 (hx x m).2]
      rw [em]
      show R (.pur (.tup (O.dL ((ns.map D.int).map .pur)))) _
      rw [dL_pur]
      exact hR _

end K79
namespace K79
open PySem PySem.Spec PyProof.Rows L2 G TQ

open TL
/-! ### lines of a text -/
def textL (ls : List Str) : Str := Txt.join "" (ls.map (· ++ "\n"))
def textT (r : Int) (ws : List (List Int)) : Str := Txt.join "" (lineT "roads" [r] :: ws.map (lineT "way"))
theorem text_lines (r : Int) (ws : List (List Int)) : textT r ws = textL (lnT "roads" [r] :: ws.map (lnT "way")) := by
  unfold textT textL
  rw [List.map_cons, List.map_map]
  rfl
theorem joinL_nl : ∀ ls : List (List Nat), joinL [] (ls.map (· ++ [10])) = joinL [10] (ls ++ [[]])
  | [] => rfl
  | [l] => rfl
  | l :: m :: r => by
    have ih := joinL_nl (m :: r)
    show (l ++ [10]) ++ ([] ++ joinL [] ((m :: r).map (· ++ [10]))) = l ++ ([10] ++ joinL [10] ((m :: r) ++ [[]]))
    rw [ih, List.nil_append, List.append_assoc]
theorem textL_nl (ls : List Str) : textL ls = Txt.join "\n" (ls ++ [("" : Str)]) := by
  refine ext_tl ?_
  unfold textL
  rw [join_eq, join_eq, tl_join, tl_join, List.map_map, List.map_append]
  have e1 : tl ("" : Str) = [] := by decide +kernel
  have e2 : tl ("\n" : Str) = [10] := by decide +kernel
  have e3 : ls.map (tl ∘ (· ++ "\n")) = (ls.map tl).map (· ++ [10]) := by
    rw [List.map_map]
    refine List.map_congr_left fun l _ => ?_
    show tl (l ++ "\n") = tl l ++ [10]
    rw [tl_append, e2]
  rw [e1, e2, e3, joinL_nl]
  show _ = joinL [10] (ls.map tl ++ [tl ""])
  rw [e1]
theorem split_text {ls : List Str} (h : ∀ l ∈ ls, 10 ∉ tl l) : Txt.split (textL ls) "\n" = ls ++ [("" : Str)] := by
  rw [textL_nl]
  refine split_join (s := 10) (S := []) (by decide +kernel) (by decide +kernel) (by simp) fun p m => ?_
  rcases List.mem_append.mp m with m | m
  · exact h p m
  · rw [List.mem_singleton.mp m]
    decide +kernel
theorem mem_joinL {c : Nat} {S : List Nat} : ∀ {ls : List (List Nat)}, c ∈ joinL S ls → c ∈ S ∨ ∃ l ∈ ls, c ∈ l
  | [], h => nomatch h
  | [l], h => .inr ⟨l, List.mem_cons_self, h⟩
  | l :: m :: r, h => by
    have h : c ∈ l ++ (S ++ joinL S (m :: r)) := h
    rcases List.mem_append.mp h with h | h
    · exact .inr ⟨l, List.mem_cons_self, h⟩
    · rcases List.mem_append.mp h with h | h
      · exact .inl h
      · rcases mem_joinL h with h | ⟨z, mz, hz⟩
        · exact .inl h
        · exact .inr ⟨z, List.mem_cons_of_mem _ mz, hz⟩
theorem ln_free {w : Str} {ns : List Int} (hw : 10 ∉ tl w) (h : ∀ x ∈ ns, 0 ≤ x) : 10 ∉ tl (lnT w ns) := by
  unfold lnT
  rw [join_eq, tl_join]
  intro m
  have e : tl (" " : Str) = [32] := by decide +kernel
  rw [e] at m
  rcases mem_joinL m with m | ⟨l, ml, m⟩
  · exact absurd (List.mem_singleton.mp m) (by decide)
  · obtain ⟨y, my, rfl⟩ := List.mem_map.mp ml
    rcases List.mem_cons.mp my with e | my
    · exact hw (e ▸ m)
    · obtain ⟨x, mx, rfl⟩ := List.mem_map.mp my
      exact num_free (h x mx) (by decide) m
theorem cut_lastD (ds : List D) (d : D) : G.cutD (ds ++ [d]) none (some (-1)) = ds := by
  unfold G.cutD
  have e : HT.sIx (ds ++ [d]).length 0 none = 0 := rfl
  have e2 : HT.sIx (ds ++ [d]).length (ds ++ [d]).length (some (-1)) = ds.length := by
    show (if (-1 : Int) < 0 then (-1 + ((ds ++ [d]).length : Int)).toNat else min (-1 : Int).toNat (ds ++ [d]).length) = _
    rw [if_pos (by decide), List.length_append, List.length_singleton]
    omega
  rw [e, e2, List.drop_zero]
  simp
theorem at_lastD (ds : List D) (d : D) : atI (ds ++ [d]) (-1) = some d := by
  unfold atI ixN
  rw [if_neg (by decide), List.length_append, List.length_singleton, if_pos (by omega)]
  show (ds ++ [d])[((-1 : Int) + ((ds.length + 1 : Nat) : Int)).toNat]? = some d
  rw [show ((-1 : Int) + ((ds.length + 1 : Nat) : Int)).toNat = ds.length by omega]
  simp
def pm_closed_lines : Pm := fun as We R => ∃ ls : List Str, as = [.pur (.str (textL ls))] ∧ (∀ l ∈ ls, 10 ∉ tl l) ∧ (textL ls).length ≤ 1000000 ∧ ∀ y, R (.pur (.tup [.lst (strsD ls), .str ""])) y
def pm_read_roads : Pm := fun as We R => ∃ r : Int, as = [.pur (.str (lnT "roads" [r]))] ∧ 1 ≤ r ∧ r ≤ 40 ∧ ∀ y, R (.pur (.int r)) y
def pm_read_book (C : Addr) : Pm := fun as We R => ∃ (r : Int) (ws : List (List Int)), as = [.pur (.str (textT r ws))] ∧ 1 ≤ r ∧ r ≤ 40 ∧ ws.length ≤ 60 ∧ (∀ w ∈ ws, wayI r w) ∧ ∀ p dx y, R (bookO p dx C r (allP ws)) y
theorem way_free : 10 ∉ tl ("way" : Str) ∧ 32 ∉ tl ("way" : Str) := by decide +kernel
theorem roads_free : 10 ∉ tl ("roads" : Str) ∧ 32 ∉ tl ("roads" : Str) := by decide +kernel
theorem textT_len {r : Int} {ws : List (List Int)} (h1 : 1 ≤ r) (h2 : r ≤ 40) (hl : ws.length ≤ 60) (hw : ∀ w ∈ ws, wayI r w) : (textT r ws).length ≤ 1000000 := by
  have hj := join_len "" (lineT "roads" [r] :: ws.map (lineT "way"))
  have hs := sum_le (M := 40) (ys := lineT "roads" [r] :: ws.map (lineT "way")) fun y m => by
    rcases List.mem_cons.mp m with rfl | m
    · have := lineT_len (w := "roads") (ns := [r]) fun x m => by rw [List.mem_singleton.mp m]; omega
      exact Nat.le_trans this (by show 5 + 1 * 4 + 2 ≤ 40; decide)
    · obtain ⟨k, mk, rfl⟩ := List.mem_map.mp m
      obtain ⟨a, b, c, d⟩ := hw k mk
      have := lineT_len (w := "way") (ns := k) fun x mx => by have := d x mx; omega
      have e : ("way" : Str).length = 3 := rfl
      rw [e] at this
      omega
  have e : ("" : Str).length = 0 := rfl
  rw [e] at hj
  simp only [List.length_cons, List.length_map] at hj hs
  unfold textT
  omega
theorem ok_closed_lines {P : Program} {w : World} {K : PySem.W.Frag} {mg : Str → Option Value} {base : Heap} (T : Txt K mg) (F : Dfn K mg d_closed_lines)  : Fn P w K mg base 1 "closed_lines" ["text"] pm_closed_lines := by
  obtain ⟨fd, F, hm⟩ := F.ex
  refine ⟨_, fd, fn_G (k := 0) (pm := pm_closed_lines) F sc_closed_lines (fun cdv A outer s H E hr C => (gss_cons (gs_if (gt_not (gt_val (ge_cb cg_isi T.m_isinstance bt_isinstance (ga_cons (ge_var (i := 0)) (ga_cons (ge_ty T.m_str bt_str) ga_nil))))) (gss_one gs_never) gss_nil)
      (gss_cons (gs_set (i := 1) C.nd (ge_split (ge_var (i := 0)) ge_str))
      (gss_one (gs_ret (ge_tup (ga_cons (ge_slL (ge_var (i := 1)) go_none (go_some (ge_un ug_neg ge_int))) (ga_cons (ge_ix ig_seqV (ge_var (i := 1)) (ge_un ug_neg ge_int)) ga_nil)))))))) (fun as We R hl hp => ?_), hm, F.kp, F.bindsN (fun _ _ _ _ _ _ us hl => match us, hl with | [_], _ => rfl)⟩
  obtain ⟨ls, rfl, hf, hl, hR⟩ := hp
  refine isiP_i rfl (by decide) ?_
  refine br_F rfl ?_
  refine ⟨⟨_, rfl⟩, ?_⟩
  refine sp_i rfl (Nat.le_trans (Nat.add_le_add_right hl 2) (by decide)) ?_
  rw [split_text hf]
  have es : strsD (ls ++ [("" : Str)]) = strsD ls ++ [.str ""] := List.map_append
  rw [es]
  refine fun p => ?_
  refine ix_l (d := .str "") (at_lastD _ _) ?_
  refine ⟨sz (show 2 ≤ 3000 by decide), ?_⟩
  show R (.pur (.tup [.lst (O.dL ((G.cutD (strsD ls ++ [.str ""]) none (some (-1))).map .pur)), .str ""])) _
  rw [dL_pur, cut_lastD]
  exact hR _
theorem ok_read_roads {P : Program} {w : World} {K : PySem.W.Frag} {mg : Str → Option Value} {base : Heap} (T : Txt K mg) (F : Dfn K mg d_read_roads) (c_line_numbers : Fn P w K mg base 2 "line_numbers" ["line", "kind", "least"] pm_line_numbers) : Fn P w K mg base 3 "read_roads" ["line"] pm_read_roads := by
  obtain ⟨fd, F, hm⟩ := F.ex
  refine ⟨_, fd, fn_G (k := 2) (pm := pm_read_roads) F sc_read_roads (fun cdv A outer s H E hr C => (gss_cons (gs_set (i := 1) C.nd (ge_fn C c_line_numbers (hr.mono (by decide)) (ga_cons (ge_var (i := 0)) (ga_cons ge_str (ga_cons ge_int ga_nil)))))
      (gss_cons (gs_if (GW.gt (gw_or (gt_cmp og_isN (ge_var (i := 1)) ge_non) (gw_or1 (gt_cmp og_gt (ge_cb cg_len T.m_len bt_len (ga_cons (ge_var (i := 1)) ga_nil)) ge_int)))) (gss_one gs_never) gss_nil)
      (gss_one (gs_ret (ge_ix ig_seq (ge_var (i := 1)) ge_int)))))) (fun as We R hl hp => ?_), hm, F.kp, F.bindsN (fun _ _ _ _ _ _ us hl => match us, hl with | [_], _ => rfl)⟩
  obtain ⟨r, rfl, h1, h2, hR⟩ := hp
  refine ⟨rfl, by simp [bors], "roads", [r], rfl, roads_free.2, by decide, by simp, by simp, (fun x m => by rw [List.mem_singleton.mp m]; omega), fun y => ?_⟩
  refine br_F rfl ?_
  refine br_F rfl ?_
  exact hR _
theorem ok_read_book {P : Program} {w : World} {K : PySem.W.Frag} {mg : Str → Option Value} {base : Heap} (T : Txt K mg) (F : Dfn K mg d_read_book) (c_closed_lines : Fn P w K mg base 1 "closed_lines" ["text"] pm_closed_lines) (c_Book___init__ : FnI P w K mg base 5 "Book" (He.ga K "Book") ["self", "roads", "ways"] (pm_Book___init__ (He.ga K "Book"))) (c_read_roads : Fn P w K mg base 3 "read_roads" ["line"] pm_read_roads) (c_line_numbers : Fn P w K mg base 2 "line_numbers" ["line", "kind", "least"] pm_line_numbers) : Fn P w K mg base 7 "read_book" ["text"] (pm_read_book (He.ga K "Book")) := by
  obtain ⟨fd, F, hm⟩ := F.ex
  refine ⟨_, fd, fn_G (k := 6) (pm := (pm_read_book (He.ga K "Book"))) F sc_read_book (fun cdv A outer s H E hr C => (gss_cons (gs_asg (ge_fn C c_closed_lines (hr.mono (by decide)) (ga_cons (ge_var (i := 0)) ga_nil)) (gg_tup C.calm (ggs_cons (gg_name (i := 1) C.nd) (ggs_cons (gg_name (i := 2) C.nd) ggs_nil))))
      (gss_cons (gs_set (i := 3) C.nd ge_int)
      (gss_cons (gs_set (i := 4) C.nd (ge_lst ga_nil))
      (gss_cons (gs_for C.po C.calm (gi_enumL T.m_enumerate (ga_cons (ge_var (i := 1)) ga_nil)) (gg_tup C.calm (ggs_cons (gg_name (i := 5) C.nd) (ggs_cons (gg_name (i := 6) C.nd) ggs_nil))) (gss_one (gs_if (gt_cmp og_eqI (ge_var (i := 5)) ge_int) (gss_one (gs_set (i := 3) C.nd (ge_fn C c_read_roads (hr.mono (by decide)) (ga_cons (ge_var (i := 6)) ga_nil)))) (gss_cons (gs_set (i := 7) C.nd (ge_fn C c_line_numbers (hr.mono (by decide)) (ga_cons (ge_var (i := 6)) (ga_cons ge_str (ga_cons ge_int ga_nil)))))
      (gss_cons (gs_if (gt_cmp og_isN (ge_var (i := 7)) ge_non) (gss_one gs_never) gss_nil)
      (gss_one (gs_app (i := 4) (ge_var (i := 7)))))))))
      (gss_cons (gs_if (GW.gt (gw_or (gt_cmp og_eqI (ge_cb cg_len T.m_len bt_len (ga_cons (ge_var (i := 1)) ga_nil)) ge_int) (gw_or1 (gt_cmp og_neT (ge_var (i := 2)) ge_str)))) (gss_one gs_never) gss_nil)
      (gss_one (gs_ret (ge_make C c_Book___init__ (hr.mono (by decide)) (ga_cons (ge_var (i := 3)) (ga_cons (ge_frz (i := 4)) ga_nil))))))))))) (fun as We R hl hp => ?_), hm, F.kp, F.bindsN (fun _ _ _ _ _ _ us hl => match us, hl with | [_], _ => rfl)⟩
  obtain ⟨r, ws, rfl, h1, h2, hl, hw, hR⟩ := hp
  have hx : ∀ w ∈ ws, ∀ x ∈ w, 0 ≤ x ∧ x < 100 := fun w m x mx => by have := (hw w m).2.2.2 x mx; omega
  have e := text_lines r ws
  obtain ⟨LS, eLS⟩ : ∃ LS, LS = lnT "roads" [r] :: ws.map (lnT "way") := ⟨_, rfl⟩
  rw [← eLS] at e
  have lLS : LS.length = ws.length + 1 := by rw [eLS]; simp
  have hlen := textT_len h1 h2 hl hw
  refine ⟨rfl, by simp [bors], LS, by rw [← e]; rfl, fun l m => ?_, by rw [← e]; exact hlen, fun y => ?_⟩
  · rw [eLS] at m
    rcases List.mem_cons.mp m with rfl | m
    · exact ln_free roads_free.1 fun x m => by rw [List.mem_singleton.mp m]; omega
    · obtain ⟨w, mw, rfl⟩ := List.mem_map.mp m
      exact ln_free way_free.1 fun x mx => (hx w mw x mx).1
  refine ⟨rfl, ?_⟩
  refine ⟨sz (show 0 ≤ 3000 by decide), fun q => ?_⟩
  refine ⟨fun i g => ∃ x y z : Option O, g = [pd (.str (textT r ws)), pd (.lst (strsD LS)), pd (.str ""), pi (if i = 0 then 0 else r), some (.lst q (((ws.take (i - 1)).map tupI).map .pur)), x, y, z], ⟨none, none, none, rfl⟩, ?_, ?_⟩
  · rintro i d g e ⟨x, y, z, rfl⟩
    have e : (enD 0 (strsD LS))[i]? = some d := e
    obtain ⟨u, eu, rfl⟩ := enD_at e
    rw [Nat.zero_add]
    unfold strsD at eu
    rw [List.getElem?_map] at eu
    obtain ⟨l, el, rfl⟩ := Option.map_eq_some_iff.mp eu
    rw [eLS] at el
    refine ⟨rfl, ?_⟩
    cases i with
    | zero =>
      have el : lnT "roads" [r] = l := by simpa using el
      subst el
      refine br_T rfl ?_
      refine ⟨rfl, by simp [bors], r, rfl, h1, h2, fun y => ?_⟩
      exact ⟨_, _, _, rfl⟩
    | succ j =>
      have el : (ws.map (lnT "way"))[j]? = some l := by simpa using el
      rw [List.getElem?_map] at el
      obtain ⟨w, ew, rfl⟩ := Option.map_eq_some_iff.mp el
      have mw := List.mem_of_getElem? ew
      obtain ⟨a, b, c, dd⟩ := hw w mw
      refine br_F (decide_eq_false (by omega)) ?_
      refine ⟨rfl, by simp [bors], "way", w, rfl, way_free.2, by decide, a, by omega, hx w mw, fun y => ?_⟩
      refine br_F rfl ?_
      have hj : j < ws.length := (List.getElem?_eq_some_iff.mp ew).1
      refine ⟨trivial, szl (show _ ≤ 3000 by simp; omega), some (.pur (.int ((j + 1 : Nat) : Int))), some (.pur (.str (lnT "way" w))), some (.pur (tupI w)), ?_⟩
      have et : ws.take (j + 1 + 1 - 1) = ws.take (j + 1 - 1) ++ [w] := by
        show ws.take (j + 1) = ws.take j ++ [w]
        rw [List.take_add_one, ew]
        rfl
      rw [et, List.map_append, List.map_append]
      rfl
  · rintro g ⟨x, y, z, rfl⟩
    have le : (enD 0 (strsD LS)).length = ws.length + 1 := by rw [enD_len', ← lLS]; simp [strsD]
    rw [le]
    have lS : (strsD LS).length = ws.length + 1 := by rw [← lLS]; simp [strsD]
    refine br_F (decide_eq_false (by rw [lS]; omega)) ?_
    refine neT_i ?_
    refine br_F (by simp) ?_
    refine ⟨rfl, by simp [bors], fun pb dx => ⟨pb, dx, r, ws, .lst (ws.map tupI), .inl rfl, ?_, h1, h2, hl, hw, fun xa xb => ⟨rfl, rfl, ?_⟩⟩⟩
    · rw [if_neg (by omega), show ws.length + 1 - 1 = ws.length by omega, List.take_length]
      show [_, _, O.pur (.lst (O.dL _))] = _
      rw [dL_pur]
      rfl
    · exact hR pb dx _

end K79
namespace K79
open PySem PySem.Spec PyProof.Rows L2 G TQ

open TL
theorem eq_w {neg : Bool} {k m : List Int} {P : O → Prop} (h : P (.pur (.bl (if neg then !decide (k = m) else decide (k = m))))) : roEq neg (tupI k) (tupI m) P := by
  unfold roEq
  rw [py_tupI, py_tupI]
  refine ⟨shaped_tup k, shaped_tup m, ?_⟩
  rw [eqv_tup]
  exact h
/-! ### a way within another -/
def withinB (v w : List Int) : Bool := (List.range (v.length + 1 - w.length)).any fun s => decide (cutI v s (s + w.length) = w)
theorem withinB_iff {v w : List Int} (h : 1 ≤ w.length) : withinB v w = true ↔ isStretch v w := by
  unfold withinB isStretch
  rw [List.any_eq_true]
  constructor
  · rintro ⟨s, hs, e⟩
    have hs := List.mem_range.mp hs
    exact ⟨s, s + w.length, by omega, by omega, (of_decide_eq_true e).symm⟩
  · rintro ⟨s, e, h1, h2, he⟩
    have hl : w.length = e - s := by
      rw [he]
      unfold cutI
      rw [List.length_take, List.length_drop]
      omega
    refine ⟨s, List.mem_range.mpr (by omega), decide_eq_true ?_⟩
    rw [show s + w.length = e by omega]
    exact he.symm
def topB (ws : List (List Int)) (w : List Int) : Bool := !(ws.any fun o => decide (w ≠ o) && withinB o w)
def topL (ws : List (List Int)) (k : List Int) : Prop := ∀ o ∈ ws, k ≠ o → ¬ isStretch o k
theorem topB_iff {ws : List (List Int)} {k : List Int} (hl : 1 ≤ k.length) : topB ws k = true ↔ topL ws k := by
  unfold topB topL
  rw [Bool.not_eq_true', List.any_eq_false]
  constructor
  · intro h o mo ne hs
    refine h o mo ?_
    rw [(withinB_iff hl).mpr hs, decide_eq_true ne]
    rfl
  · intro h o mo hb
    rw [Bool.and_eq_true] at hb
    exact h o mo (of_decide_eq_true hb.1) ((withinB_iff hl).mp hb.2)
theorem stretch_trans {a b c : List Int} (h1 : isStretch a b) (h2 : isStretch b c) : isStretch a c := by
  obtain ⟨s, e, h3, h4, rfl⟩ := h1
  obtain ⟨s', e', h5, h6, rfl⟩ := h2
  unfold cutI at h6
  rw [List.length_take, List.length_drop] at h6
  refine ⟨s + s', s + e', by omega, by omega, ?_⟩
  unfold cutI
  rw [List.drop_take, List.drop_drop, List.take_take]
  congr 1
  omega
theorem stretch_len {a b : List Int} (h : isStretch a b) : 1 ≤ b.length ∧ b.length ≤ a.length := by
  obtain ⟨s, e, h3, h4, rfl⟩ := h
  unfold cutI
  rw [List.length_take, List.length_drop]
  omega
theorem cuts_stretch {v k : List Int} (h : cutsB v k = true) : isStretch v k ∧ k.length + 1 = v.length := by
  unfold cutsB at h
  rw [Bool.and_eq_true, Bool.or_eq_true] at h
  obtain ⟨h1, h⟩ := h
  have h1 := of_decide_eq_true h1
  rcases h with h | h
  · have e := of_decide_eq_true h
    subst e
    refine ⟨⟨1, v.length, h1, Nat.le_refl _, ?_⟩, by rw [List.length_tail]; omega⟩
    unfold cutI
    rw [List.drop_one, List.take_of_length_le (by rw [List.length_tail]; omega)]
  · have e := of_decide_eq_true h
    subst e
    refine ⟨⟨0, v.length - 1, by omega, by omega, ?_⟩, by rw [List.length_dropLast]; omega⟩
    unfold cutI
    rw [List.drop_zero, Nat.sub_zero, List.dropLast_eq_take]
theorem stretch_ext {g k : List Int} (h : isStretch g k) (ne : k ≠ g) : ∃ v, isStretch g v ∧ cutsB v k = true := by
  obtain ⟨s, e, h1, h2, rfl⟩ := h
  by_cases hs : 0 < s
  · refine ⟨cutI g (s - 1) e, ⟨s - 1, e, by omega, h2, rfl⟩, ?_⟩
    have hl : (cutI g (s - 1) e).length = e - (s - 1) := by unfold cutI; rw [List.length_take, List.length_drop]; omega
    rw [cuts_long (by rw [hl]; omega)]
    refine .inl ?_
    unfold cutI
    have hd : g.drop (s - 1) = g[s - 1]'(by omega) :: g.drop s := by
      have := List.drop_eq_getElem_cons (l := g) (i := s - 1) (by omega)
      rw [show s - 1 + 1 = s by omega] at this
      exact this
    rw [hd, show e - (s - 1) = (e - s) + 1 by omega, List.take_succ_cons]
    rfl
  · have s0 : s = 0 := by omega
    subst s0
    by_cases he : e < g.length
    · refine ⟨cutI g 0 (e + 1), ⟨0, e + 1, by omega, by omega, rfl⟩, ?_⟩
      have hl : (cutI g 0 (e + 1)).length = e + 1 := by unfold cutI; rw [List.length_take, List.length_drop]; omega
      rw [cuts_long (by rw [hl]; omega)]
      refine .inr ?_
      rw [List.dropLast_eq_take, hl]
      unfold cutI
      rw [List.take_take]
      congr 1
      omega
    · refine absurd ?_ ne
      unfold cutI
      rw [List.drop_zero, List.take_of_length_le (by omega)]
theorem tops_mem {ws : List (List Int)} (hw : ∀ w ∈ ws, 1 ≤ w.length) (k : List Int) : k ∈ topsP (allP ws) ↔ k ∈ ws ∧ topL ws k := by
  unfold topsP
  rw [List.mem_filter, Bool.not_eq_true', List.any_eq_false]
  have no : ∀ (h : ∀ v ∈ allP ws, ¬ cutsB v k = true) g, g ∈ ws → isStretch g k → k = g := fun h g mg hs => by
    by_cases e : k = g
    · exact e
    · obtain ⟨v, hv, hc⟩ := stretch_ext hs e
      exact absurd hc (h v (mem_allP.mpr ⟨g, mg, hv⟩))
  constructor
  · rintro ⟨m, h⟩
    obtain ⟨g, mg, hs⟩ := mem_allP.mp m
    have e := no h g mg hs
    refine ⟨e ▸ mg, fun o mo ne hs => ne (no h o mo hs)⟩
  · rintro ⟨m, h⟩
    refine ⟨mem_allP.mpr ⟨k, m, self_stretch (hw k m)⟩, fun v mv hc => ?_⟩
    obtain ⟨o, mo, hv⟩ := mem_allP.mp mv
    obtain ⟨c1, c2⟩ := cuts_stretch hc
    refine h o mo (fun e => ?_) (stretch_trans hv c1)
    have := (stretch_len hv).2
    rw [← e] at this
    omega
theorem asc_tops (ws : List (List Int)) : Asc (topsP (allP ws)) := List.Pairwise.filter _ (asc_allP ws)
theorem tops_law {ws ms : List (List Int)} (hw : ∀ w ∈ ws, 1 ≤ w.length) (nd : ms.Nodup) (hm : ∀ k, k ∈ ms ↔ k ∈ ws ∧ topB ws k = true) : sortW ms = topsP (allP ws) := by
  refine asc_mem_ext (asc_of_sorted (sortW_pw ms) ((List.mergeSort_perm _ _).nodup_iff.mpr nd)) (asc_tops ws) fun k => ?_
  rw [mem_sortW, hm k, tops_mem hw k]
  constructor
  · rintro ⟨m, h⟩
    exact ⟨m, (topB_iff (hw k m)).mp h⟩
  · rintro ⟨m, h⟩
    exact ⟨m, (topB_iff (hw k m)).mpr h⟩
theorem tops_few {ws : List (List Int)} (hw : ∀ w ∈ ws, 1 ≤ w.length) : (topsP (allP ws)).length ≤ ws.length := nodup_sub_len _ _ (asc_nodup (asc_tops ws)) fun k m => ((tops_mem hw k).mp m).1
theorem tops_up {ws : List (List Int)} (h8 : ∀ w ∈ ws, w.length ≤ 8) : ∀ (n : Nat) (k : List Int), k ∈ allP ws → 8 - k.length ≤ n → ∃ w ∈ topsP (allP ws), isStretch w k
  | n, k, m, hn => by
    by_cases ht : k ∈ topsP (allP ws)
    · obtain ⟨g, mg, hs⟩ := mem_allP.mp m
      exact ⟨k, ht, self_stretch (stretch_len hs).1⟩
    · have hx : ∃ v ∈ allP ws, cutsB v k = true := by
        refine Classical.byContradiction fun hx => ht ?_
        unfold topsP
        rw [List.mem_filter, Bool.not_eq_true', List.any_eq_false]
        exact ⟨m, fun v mv hc => hx ⟨v, mv, hc⟩⟩
      obtain ⟨v, mv, hc⟩ := hx
      obtain ⟨c1, c2⟩ := cuts_stretch hc
      obtain ⟨g, mg, hs⟩ := mem_allP.mp mv
      have := (stretch_len hs).2
      have := h8 g mg
      cases n with
      | zero => omega
      | succ n =>
        obtain ⟨w, mw, hw⟩ := tops_up h8 n v mv (by omega)
        exact ⟨w, mw, stretch_trans hw c1⟩
theorem allP_tops {ws : List (List Int)} (hw : ∀ w ∈ ws, 1 ≤ w.length ∧ w.length ≤ 8) : allP (topsP (allP ws)) = allP ws := by
  refine (asc_allP_of (asc_allP ws) fun k => ⟨fun m => tops_up (fun w m => (hw w m).2) _ k m (Nat.le_refl _), ?_⟩).symm
  rintro ⟨w, mw, hs⟩
  exact mem_allP.mpr ⟨w, ((tops_mem (fun w m => (hw w m).1) w).mp mw).1, hs⟩
/-! ### the text tells the book -/
theorem numS_inj {x y : Int} (hx : 0 ≤ x) (hy : 0 ≤ y) (e : numS x = numS y) : x = y := by
  have := congrArg tl e
  rw [tl_numS hx, tl_numS hy] at this
  have := numL_inj this
  omega
theorem nums_inj : ∀ {a b : List Int}, (∀ x ∈ a, 0 ≤ x) → (∀ x ∈ b, 0 ≤ x) → a.map numS = b.map numS → a = b
  | [], [], _, _, _ => rfl
  | [], _ :: _, _, _, e => nomatch e
  | _ :: _, [], _, _, e => nomatch e
  | x :: a, y :: b, ha, hb, e => by
    have e := List.cons.inj e
    rw [numS_inj (ha x List.mem_cons_self) (hb y List.mem_cons_self) e.1, nums_inj (fun z m => ha z (List.mem_cons_of_mem _ m)) (fun z m => hb z (List.mem_cons_of_mem _ m)) e.2]
theorem ln_inj {w : Str} {a b : List Int} (hw : 32 ∉ tl w) (ha : ∀ x ∈ a, 0 ≤ x ∧ x < 100) (hb : ∀ x ∈ b, 0 ≤ x ∧ x < 100) (e : lnT w a = lnT w b) : a = b := by
  have h := split_ln hw ha
  rw [e, split_ln hw hb] at h
  exact (nums_inj (fun x m => (hb x m).1) (fun x m => (ha x m).1) (List.cons.inj h).2).symm
theorem lns_inj {w : Str} (hw : 32 ∉ tl w) : ∀ {a b : List (List Int)}, (∀ k ∈ a, ∀ x ∈ k, 0 ≤ x ∧ x < 100) → (∀ k ∈ b, ∀ x ∈ k, 0 ≤ x ∧ x < 100) → a.map (lnT w) = b.map (lnT w) → a = b
  | [], [], _, _, _ => rfl
  | [], _ :: _, _, _, e => nomatch e
  | _ :: _, [], _, _, e => nomatch e
  | x :: a, y :: b, ha, hb, e => by
    have e := List.cons.inj e
    rw [ln_inj hw (ha x List.mem_cons_self) (hb y List.mem_cons_self) e.1, lns_inj hw (fun z m => ha z (List.mem_cons_of_mem _ m)) (fun z m => hb z (List.mem_cons_of_mem _ m)) e.2]
theorem lines_free {r : Int} {ws : List (List Int)} (h0 : 0 ≤ r) (hx : ∀ k ∈ ws, ∀ x ∈ k, 0 ≤ x ∧ x < 100) : ∀ l ∈ lnT "roads" [r] :: ws.map (lnT "way"), 10 ∉ tl l := fun l m => by
  rcases List.mem_cons.mp m with rfl | m
  · exact ln_free roads_free.1 fun x m => by rw [List.mem_singleton.mp m]; exact h0
  · obtain ⟨w, mw, rfl⟩ := List.mem_map.mp m
    exact ln_free way_free.1 fun x mx => (hx w mw x mx).1
theorem text_inj {r s : Int} {a b : List (List Int)} (hr : 0 ≤ r ∧ r < 100) (hs : 0 ≤ s ∧ s < 100) (ha : ∀ k ∈ a, ∀ x ∈ k, 0 ≤ x ∧ x < 100) (hb : ∀ k ∈ b, ∀ x ∈ k, 0 ≤ x ∧ x < 100) (e : textT r a = textT s b) : r = s ∧ a = b := by
  rw [text_lines, text_lines] at e
  have h := split_text (lines_free hr.1 ha)
  rw [e, split_text (lines_free hs.1 hb)] at h
  have h := List.append_inj_left' h rfl
  have h := List.cons.inj h
  have e1 := ln_inj roads_free.2 (fun x m => by rw [List.mem_singleton.mp m]; exact hs) (fun x m => by rw [List.mem_singleton.mp m]; exact hr) h.1
  exact ⟨(List.cons.inj e1).1.symm, (lns_inj way_free.2 hb ha h.2).symm⟩
/-- the texts of two books are one exactly if the books are -/
theorem text_eq {r s : Int} {ws vs : List (List Int)} (hr : 1 ≤ r ∧ r ≤ 40) (hs : 1 ≤ s ∧ s ≤ 40) (hw : ∀ w ∈ ws, wayI r w) (hv : ∀ w ∈ vs, wayI s w) : decide (bookT r (allP ws) = bookT s (allP vs)) = (decide (r = s) && decide (allP ws = allP vs)) := by
  have xs : ∀ {r : Int} {ws : List (List Int)}, r ≤ 40 → (∀ w ∈ ws, wayI r w) → ∀ k ∈ topsP (allP ws), ∀ x ∈ k, 0 ≤ x ∧ x < 100 := fun {r ws} hr hw k m x mx => by
    have mk := ((tops_mem (fun w m => (hw w m).1) k).mp m).1
    have := (hw k mk).2.2.2 x mx
    omega
  rw [← Bool.decide_and]
  refine decide_eq_decide.mpr ⟨fun e => ?_, fun ⟨e1, e2⟩ => by rw [e1, e2]⟩
  obtain ⟨e1, e2⟩ := text_inj (a := topsP (allP ws)) (b := topsP (allP vs)) ⟨by omega, by omega⟩ ⟨by omega, by omega⟩ (xs hr.2 hw) (xs hs.2 hv) e
  refine ⟨e1, ?_⟩
  rw [← allP_tops fun w m => ⟨(hw w m).1, (hw w m).2.1⟩, ← allP_tops (ws := vs) fun w m => ⟨(hv w m).1, (hv w m).2.1⟩, e2]

end K79
namespace K79
open PySem PySem.Spec PyProof.Rows L2 G TQ

open TL
def pm__law_within : Pm := fun as We R => ∃ w v : List Int, as = [.pur (tupI w), .pur (tupI v)] ∧ w.length ≤ 8 ∧ v.length ≤ 8 ∧ ∀ y, R (.pur (.bl (withinB v w))) y
def pm__law_text : Pm := fun as We R => ∃ (r : Int) (ws : List (List Int)), as = [.pur (.int r), .pur (.lst (ws.map tupI))] ∧ 1 ≤ r ∧ r ≤ 40 ∧ ws.length ≤ 60 ∧ (∀ w ∈ ws, wayI r w) ∧ ∀ y, R (.pur (.str (bookT r (allP ws)))) y
theorem any_keep (f : List Int → Bool) (ws : List (List Int)) : (ws.map tupI).any (keepT f) = ws.any f := by
  rw [List.any_map]
  congr 1
  funext k
  exact keepT_tup f k
theorem tl_lit_roads : tl ("roads " : Str) = tl ("roads" : Str) ++ [32] := by decide +kernel
theorem tl_lit_way : tl ("way " : Str) = tl ("way" : Str) ++ [32] := by decide +kernel
theorem tl_blank : tl (" " : Str) = [32] := by decide +kernel
theorem line_roads (r : Int) : ("roads " : Str) ++ numS r ++ "\n" = lineT "roads" [r] := by
  refine ext_tl ?_
  unfold lineT
  rw [tl_append, tl_append, tl_append, join_eq, tl_join, tl_lit_roads, tl_blank]
  show _ = tl ("roads" : Str) ++ ([32] ++ tl (numS r)) ++ _
  simp
theorem line_way {k : List Int} (h : 1 ≤ k.length) : ("way " : Str) ++ Txt.join " " (k.map numS) ++ "\n" = lineT "way" k := by
  refine ext_tl ?_
  unfold lineT
  cases k with
  | nil => exact absurd h (by decide)
  | cons x k =>
    rw [tl_append, tl_append, tl_append, join_eq, join_eq, tl_join, tl_join, tl_lit_way, tl_blank]
    show _ = (tl ("way" : Str) ++ ([32] ++ joinL [32] (((x :: k).map numS).map tl))) ++ _
    simp
def upK (ws : List (List Int)) (i : Nat) (k : List Int) : Prop := ∃ v ∈ ws.take i, topB ws v = true ∧ k = v
theorem upK_succ {ws : List (List Int)} {i : Nat} {w : List Int} (e : ws[i]? = some w) (k : List Int) : upK ws (i + 1) k ↔ upK ws i k ∨ (topB ws w = true ∧ k = w) := by
  unfold upK
  have et : ws.take (i + 1) = ws.take i ++ [w] := by rw [List.take_add_one, e]; rfl
  rw [et]
  simp only [List.mem_append, List.mem_singleton]
  constructor
  · rintro ⟨v, m | rfl, h⟩
    · exact .inl ⟨v, m, h⟩
    · exact .inr h
  · rintro (⟨v, m, h⟩ | h)
    · exact ⟨v, .inl m, h⟩
    · exact ⟨w, .inr rfl, h⟩
def numDt : D → D
  | .int x => .str (numS x)
  | _ => .non
theorem strs_nums2 (ns : List Int) : (ns.map D.int).map numDt = strsD (ns.map numS) := by
  unfold strsD
  rw [List.map_map, List.map_map]
  rfl
theorem len_app (a b : Str) : (a ++ b).length = a.length + b.length := strLen_append a b
theorem ok__law_within {P : Program} {w : World} {K : PySem.W.Frag} {mg : Str → Option Value} {base : Heap} (T : Txt K mg) (F : Dfn K mg d__law_within)  : Fn P w K mg base 1 "_law_within" ["_law_inner", "_law_outer"] pm__law_within := by
  obtain ⟨fd, F, hm⟩ := F.ex
  refine ⟨_, fd, fn_G (k := 0) (pm := pm__law_within) F sc__law_within (fun cdv A outer s H E hr C => (gss_cons (gs_for C.po C.calm (gi_r1 T.m_range (ga_cons (ge_op og_add (ge_op og_sub (ge_cb cg_len T.m_len bt_len (ga_cons (ge_var (i := 1)) ga_nil)) (ge_cb cg_len T.m_len bt_len (ga_cons (ge_var (i := 0)) ga_nil))) ge_int) ga_nil)) (gg_name (i := 2) C.nd) (gss_one (gs_if (gt_cmp (og_eq hr.units) (ge_slA (ge_var (i := 1)) (go_some (ge_var (i := 2))) (go_some (ge_op og_add (ge_var (i := 2)) (ge_cb cg_len T.m_len bt_len (ga_cons (ge_var (i := 0)) ga_nil))))) (ge_var (i := 0))) (gss_one (gs_ret ge_bl)) gss_nil)))
      (gss_one (gs_ret ge_bl)))) (fun as We R hl hp => ?_), hm, F.kp, F.bindsN (fun _ _ _ _ _ _ us hl => match us, hl with | [_, _], _ => rfl)⟩
  obtain ⟨w, v, rfl, hw, hv, hR⟩ := hp
  have lw : (w.map D.int).length = w.length := List.length_map ..
  have lv : (v.map D.int).length = v.length := List.length_map ..
  refine ⟨by omega, by omega, fun i g => (∀ s < i, cutI v s (s + w.length) ≠ w) ∧ ∃ x, g = [pd (tupI w), pd (tupI v), x], ⟨fun s h => absurd h (by omega), none, rfl⟩, ?_, ?_⟩
  · rintro s d g e ⟨hno, x, rfl⟩
    obtain ⟨rfl, hs⟩ := rng_at e
    have hs' : s + w.length ≤ v.length := by omega
    have e1 : (0 + (s : Int)) = ((s : Nat) : Int) := by omega
    have e2 : (0 + (s : Int)) + ((w.map D.int).length : Nat) = ((s + w.length : Nat) : Int) := by omega
    have e3 : D.tup (G.cutD (v.map D.int) (some (0 + (s : Int))) (some ((0 + (s : Int)) + ((w.map D.int).length : Nat)))) = tupI (cutI v s (s + w.length)) := by
      rw [e2, e1, cutD_tup (by omega) (by omega)]
      rfl
    show roEq false (D.tup (G.cutD (v.map D.int) (some (0 + (s : Int))) (some ((0 + (s : Int)) + ((w.map D.int).length : Nat))))) (tupI w) _
    rw [e3]
    refine eq_w ?_
    refine br_i (fun h => ?_) fun h => ?_
    · have h' : decide (cutI v s (s + w.length) = w) = true := h
      have et : withinB v w = true := by
        unfold withinB
        rw [List.any_eq_true]
        exact ⟨s, List.mem_range.mpr (by omega), h'⟩
      rw [et] at hR
      exact hR _
    · have h' : decide (cutI v s (s + w.length) = w) = false := h
      refine ⟨fun t ht => ?_, _, rfl⟩
      by_cases ht' : t < s
      · exact hno t ht'
      · have : t = s := by omega
        subst this
        exact of_decide_eq_false h'
  · rintro g ⟨hno, x, rfl⟩
    rw [rng_len] at hno
    have et : withinB v w = false := by
      unfold withinB
      rw [List.any_eq_false]
      intro s hs hd
      have hs := List.mem_range.mp hs
      exact hno s (by omega) (of_decide_eq_true hd)
    rw [et] at hR
    exact hR _
theorem ok__law_text {P : Program} {w : World} {K : PySem.W.Frag} {mg : Str → Option Value} {base : Heap} (T : Txt K mg) (F : Dfn K mg d__law_text) (c__law_within : Fn P w K mg base 1 "_law_within" ["_law_inner", "_law_outer"] pm__law_within) : Fn P w K mg base 2 "_law_text" ["_law_roads", "_law_ways"] pm__law_text := by
  obtain ⟨fd, F, hm⟩ := F.ex
  refine ⟨_, fd, fn_G (k := 1) (pm := pm__law_text) F sc__law_text (fun cdv A outer s H E hr C => (gss_cons (gs_set (i := 2) C.nd ge_dnewT)
      (gss_cons (gs_for C.po C.calm (gi_list (ge_var (i := 1))) (gg_name (i := 3) C.nd) (gss_one (gs_if (gt_not (gt_val (ge_cb (cg_any C.calm) T.m_any bt_any (ga_cons (ge_lc (own := [("_law_other", 5)]) C.calm C.nd (gi_list (ge_var (i := 1))) (blkOk_by (N := ["_law_roads", "_law_ways", "_law_longest", "_law_way_here", "_law_lines", "_law_other", "_law_road"]) (sc := (defScope s__law_text)) (by decide +kernel)) (fun _ _ _ _ _ => (gb_name (i := 5) C.nd)) (fun _ _ _ _ _ => gts_nil) (fun _ _ _ _ _ => (ge_and (ge_cmp (og_ne hr.units) (ge_var (i := 3)) (ge_var (i := 5))) (ge_one (ge_fn (Ctx.blk C) c__law_within (hr.mono (by decide)) (ga_cons (ge_var (i := 3)) (ga_cons (ge_var (i := 5)) ga_nil))))))) ga_nil)))) (gss_one (gs_dputT (i := 2) (hu_of hr.toRoom) ge_bl (ge_var (i := 3)))) gss_nil)))
      (gss_cut (gs_set (i := 4) C.nd (ge_lst (ga_cons (ge_op og_catS (ge_op og_catS ge_str (ge_ct cg_strN T.m_str bt_str (ga_cons (ge_var (i := 0)) ga_nil))) ge_str) ga_nil)))
      (gss_cons (gs_for C.po C.calm (gi_list (ge_sortK (i := 2) C.calm (hu16 hr) T.m_sorted T.m_list)) (gg_name (i := 3) C.nd) (gss_one (gs_app (i := 4) (ge_op og_catS (ge_op og_catS ge_str (ge_join ge_str (ge_lc (own := [("_law_road", 6)]) C.calm C.nd (gi_tup (ge_var (i := 3))) (blkOk_by (N := ["_law_roads", "_law_ways", "_law_longest", "_law_way_here", "_law_lines", "_law_other", "_law_road"]) (sc := (defScope s__law_text)) (by decide +kernel)) (fun _ _ _ _ _ => (gb_name (i := 6) C.nd)) (fun _ _ _ _ _ => gts_nil) (fun _ _ _ _ _ => (ge_ct cg_strN T.m_str bt_str (ga_cons (ge_var (i := 6)) ga_nil)))))) ge_str))))
      (gss_one (gs_ret (ge_join ge_str (ge_frz (i := 4)))))))))) (fun as We R hl hp => ?_), hm, F.kp, F.bindsN (fun _ _ _ _ _ _ us hl => match us, hl with | [_, _], _ => rfl)⟩
  obtain ⟨r, ws, rfl, h1, h2, hn, hw, hR⟩ := hp
  have lw : (ws.map tupI).length = ws.length := List.length_map ..
  refine fun q => ?_
  refine ⟨fun i g => ∃ (ms : List (List Int)) (xs : List O) (x : Option O), Good ms xs (upK ws i) ∧ g = [pi r, pd (.lst (ws.map tupI)), some (.dT q (ms.map kI) xs), x, none, none, none], ⟨[], [], none, ⟨List.nodup_nil, rfl, fun k => ⟨fun m => (by cases m), fun ⟨v, m, _⟩ => by simp at m⟩⟩, rfl⟩, ?_, ?_⟩
  · rintro i d g e ⟨ms, xs, x, hg, rfl⟩
    obtain ⟨w, ew, rfl⟩ : ∃ w, ws[i]? = some w ∧ d = tupI w := by
      have e : (ws.map tupI)[i]? = some d := e
      rw [List.getElem?_map] at e
      cases q : ws[i]? with
      | none => rw [q] at e; cases e
      | some w => rw [q] at e; cases e; exact ⟨w, rfl, rfl⟩
    have mw : w ∈ ws := List.mem_of_getElem? ew
    refine lc_of (fun d => .bl (keepT (fun o => decide (w ≠ o) && withinB o w) d)) (ws.map tupI) (fun Q q => q) (by rw [lw]; exact sz (by omega)) ?_ fun p => ?_
    · intro j d Q Q0 e q
      obtain ⟨u, mu, rfl⟩ := List.mem_map.mp (List.mem_of_getElem? e)
      rw [keepT_tup] at q
      refine br_T rfl ?_
      refine eq_w (neg := true) ?_
      refine br_i (fun h => ?_) fun h => ?_
      · have h' : (!decide (w = u)) = true := h
        have e1 : decide (w ≠ u) = true := by simpa using h'
        rw [e1, Bool.true_and] at q
        exact ⟨rfl, by simp [bors], w, u, rfl, (hw w mw).2.1, (hw u mu).2.1, fun y => q⟩
      · have h' : (!decide (w = u)) = false := h
        have e1 : decide (w ≠ u) = false := by simpa using h'
        rw [e1, Bool.false_and] at q
        exact q
    · refine any_lc ?_
      rw [any_keep]
      refine br_i (fun h => ?_) fun h => ?_
      · have h' : topB ws w = true := h
        obtain ⟨g1, g2⟩ := good_put (u := .pur (.bl true)) (k := w) (N := upK ws (i + 1)) hg fun m => by
          rw [upK_succ ew]
          exact or_congr Iff.rfl ⟨fun z => z.2, fun z => ⟨h', z⟩⟩
        have hfew : ms.length ≤ 60 := Nat.le_trans (nodup_sub_len _ _ hg.1 fun k m => by
          obtain ⟨v, mv, _, rfl⟩ := (hg.2.2 k).mp m
          exact List.mem_of_mem_take mv) hn
        exact dput_t (k := w) rfl (fun Q q => q) hg.1 (szl (show xs.length ≤ 3000 by rw [hg.2.1]; omega)) (fun m jj => ⟨ms, _, _, g1 m jj, rfl⟩) fun m => ⟨_, _, _, g2 m, rfl⟩
      · have h' : topB ws w = false := h
        exact ⟨ms, xs, _, good_eq hg fun m => (upK_succ ew m).trans ⟨fun z => z.elim id fun z => absurd z.1 (by rw [h']; decide), .inl⟩, rfl⟩
  · rintro g ⟨ms, xs, x, hg, rfl⟩
    rw [lw] at hg
    have mem : ∀ k, k ∈ ms ↔ k ∈ ws ∧ topB ws k = true := fun k => (hg.2.2 k).trans (by
      unfold upK
      rw [List.take_length]
      exact ⟨fun ⟨v, mv, h, e⟩ => e ▸ ⟨mv, h⟩, fun ⟨m, h⟩ => ⟨k, m, h, rfl⟩⟩)
    have es : sortW ms = topsP (allP ws) := tops_law (fun w m => (hw w m).1) hg.1 mem
    have hms : (sortW ms).length ≤ 60 := by
      rw [es]
      exact Nat.le_trans (tops_few fun w m => (hw w m).1) hn
    have mS : ∀ k ∈ sortW ms, wayI r k := fun k m => hw k ((mem k).mp (mem_sortW.mp m)).1
    refine ⟨fun g => ∃ p : Addr, g = [pi r, pd (.lst (ws.map tupI)), some (.dT q (ms.map kI) xs), x, some (.lst p ((strsD [lineT "roads" [r]]).map .pur)), none, none], ?_, ?_⟩
    · refine strN_i (Nat.lt_of_lt_of_le (show r.natAbs < 1000 by omega) (by decide)) ?_
      have l3 := numS_len (i := r) (by omega) (by omega)
      have e5 : ("roads " : Str).length = 6 := rfl
      have e6 : ("\n" : Str).length = 1 := rfl
      refine catS_i (by rw [e5]; exact sz (by omega)) ?_
      refine catS_i (by rw [len_app, e5, e6]; exact sz (by omega)) ?_
      rw [line_roads]
      exact ⟨sz (show 1 ≤ 3000 by decide), fun p => ⟨p, rfl⟩⟩
    rintro g ⟨p, rfl⟩
    unfold wSeq wFor wIL
    refine sortK_i (i := 2) (g := [pi r, pd (.lst (ws.map tupI)), some (.dT q (ms.map kI) xs), x, some (.lst p ((strsD [lineT "roads" [r]]).map .pur)), none, none]) (p := q) (ms := ms) (xs := xs) rfl (fun k m e => ?_) fun p2 => ?_
    · have := (hw k ((mem k).mp m).1).1
      rw [e] at this
      exact absurd this (by decide)
    have lS : ((sortW ms).map tupI).length = (sortW ms).length := List.length_map ..
    refine ⟨fun i g => ∃ z : Option O, g = [pi r, pd (.lst (ws.map tupI)), some (.dT q (ms.map kI) xs), z, some (.lst p ((strsD (lineT "roads" [r] :: ((sortW ms).take i).map (lineT "way"))).map .pur)), none, none], ⟨x, rfl⟩, ?_, ?_⟩
    · rintro i d g e ⟨z, rfl⟩
      have e : (O.dL (((sortW ms).map tupI).map .pur))[i]? = some d := e
      rw [dL_pur, List.getElem?_map] at e
      obtain ⟨w, ew, rfl⟩ := Option.map_eq_some_iff.mp e
      have mw := List.mem_of_getElem? ew
      obtain ⟨a, b, c, dd⟩ := mS w mw
      have hx : ∀ x ∈ w, 0 ≤ x ∧ x < 1000 := fun x m => by have := dd x m; omega
      skip
      all_goals
        refine ⟨trivial, ⟨_, rfl⟩, ?_⟩
        refine lc_of numDt (w.map D.int) (fun Q q => q) (by rw [List.length_map]; exact sz (by omega)) ?_ fun p3 => ?_
        · intro j d Q Q0 e q
          obtain ⟨x, mx, rfl⟩ := List.mem_map.mp (List.mem_of_getElem? e)
          have := hx x mx
          refine br_T rfl ?_
          exact strN_i (Nat.lt_of_lt_of_le (show x.natAbs < 1000 by omega) (by decide)) q
        · rw [strs_nums2]
          have s1 := nums_sum hx
          have e1 : (" " : Str).length = 1 := rfl
          have ez : sizeLine = 16777216 := rfl
          have s2 : ((w.map numS).map (·.length)).sum + (w.map numS).length * (" " : Str).length ≤ 40 := by
            rw [e1, List.length_map]
            omega
          refine join_o (Nat.le_trans s2 (by decide)) ?_
          have s3 := Nat.le_trans (join_len " " (w.map numS)) s2
          have e5 : ("way " : Str).length = 4 := rfl
          have e6 : ("\n" : Str).length = 1 := rfl
          refine catS_i (by rw [e5]; exact sz (by omega)) ?_
          refine catS_i (by rw [len_app, e5, e6]; exact sz (by omega)) ?_
          rw [line_way a]
          refine ⟨szl (show _ ≤ 3000 by simp [strsD]; omega), some (.pur (tupI w)), ?_⟩
          have et : (sortW ms).take (i + 1) = (sortW ms).take i ++ [w] := by rw [List.take_add_one, ew]; rfl
          rw [et, List.map_append]
          have es2 : strsD (lineT "roads" [r] :: (((sortW ms).take i).map (lineT "way") ++ [w].map (lineT "way"))) = strsD (lineT "roads" [r] :: ((sortW ms).take i).map (lineT "way")) ++ [.str (lineT "way" w)] := by
            simp [strsD]
          rw [es2, List.map_append]
          rfl
    · rintro g ⟨z, rfl⟩
      have ln : (O.dL (((sortW ms).map tupI).map .pur)).length = (sortW ms).length := by rw [dL_pur, lS]
      rw [ln, List.take_length]
      refine ⟨⟨_, rfl⟩, ?_⟩
      have ht := textT_len h1 h2 hms mS
      refine join_o (q := p) (ys := lineT "roads" [r] :: (sortW ms).map (lineT "way")) ?_ ?_
      · have h1 := sum_le (M := 40) (ys := lineT "roads" [r] :: (sortW ms).map (lineT "way")) fun y m => by
          rcases List.mem_cons.mp m with rfl | m
          · have := lineT_len (w := "roads") (ns := [r]) fun x m => by rw [List.mem_singleton.mp m]; omega
            exact Nat.le_trans this (by show 5 + 1 * 4 + 2 ≤ 40; decide)
          · obtain ⟨k, mk, rfl⟩ := List.mem_map.mp m
            obtain ⟨a, b, c, d⟩ := mS k mk
            have := lineT_len (w := "way") (ns := k) fun x mx => by have := d x mx; omega
            have e : ("way" : Str).length = 3 := rfl
            rw [e] at this
            omega
        have e : ("" : Str).length = 0 := rfl
        rw [e]
        simp only [List.length_cons, List.length_map] at h1 ⊢
        omega
      · rw [es]
        exact hR _

end K79
namespace K79
open PySem PySem.Spec PyProof.Rows L2 G TQ
theorem allP_way {r : Int} {ws : List (List Int)} (h : ∀ w ∈ ws, wayI r w) : ∀ k ∈ allP ws, wayI r k := fun k m => by
  obtain ⟨w, mw, s⟩ := mem_allP.mp m
  exact stretch_way (h w mw) s
theorem eq_ll {neg : Bool} {p q : Addr} {ks ms : List (List Int)} {P : O → Prop} (h : P (.pur (.bl (if neg then !decide (ks = ms) else decide (ks = ms))))) : roEq neg (O.lst p ((ks.map tupI).map .pur)).d (O.lst q ((ms.map tupI).map .pur)).d P := by
  show roEq neg (.lst (O.dL _)) (.lst (O.dL _)) P
  rw [dL_pur, dL_pur]
  exact eq_lt h
theorem bookO_ok {p dx C : Addr} {r : Int} {ks : List (List Int)} : okT (bookO p dx C r ks) = true := by
  have e : ∀ l : List D, tupXL (nums ks.length) = true := fun _ => by
    unfold nums
    generalize List.range ks.length = l
    induction l with
    | nil => rfl
    | cons x l ih => show (true && tupXL (l.map _)) = true; rw [ih]; rfl
  show (true && (tupXL (ks.map tupI) && (tupXL (nums ks.length) && (tupXL ((fol ks).map tupI) && true)))) = true
  rw [tupXL_tups, tupXL_tups, e []]
  rfl
theorem lst_d {p : Addr} {ds : List D} : (O.lst p (ds.map .pur)).d = .lst ds := by
  show D.lst (O.dL _) = _
  rw [dL_pur]

open TL
def pm_law : Pm := fun as We R => ∃ ns : List Int, as = [.pur (.frl (ns.map .int))] ∧ ns.length ≤ 63 ∧ ∀ x, R (.pur (.bl true)) x
def pm__law_right : Pm := fun as We R => ∃ (p : Addr) (s : Tp) (r : Int) (ws : List (List Int)), as = [tpO p s, .pur (.int r), .pur (.lst (ws.map tupI))] ∧ 1 ≤ r ∧ r ≤ 40 ∧ ws.length ≤ 60 ∧ (∀ w ∈ ws, wayI r w) ∧ ∀ s', R (.pur (.bl true)) [some (tpO p s'), pi r, pd (.lst (ws.map tupI))]
theorem ok__law_right {P : Program} {w : World} {K : PySem.W.Frag} {mg : Str → Option Value} {base : Heap} (T : Txt K mg) (F : Dfn K mg d__law_right) (c_Book___init__ : FnI P w K mg base 5 "Book" (He.ga K "Book") ["self", "roads", "ways"] (pm_Book___init__ (He.ga K "Book"))) (c__law_text : Fn P w K mg base 2 "_law_text" ["_law_roads", "_law_ways"] pm__law_text) (c_book_text : Fn P w K mg base 2 "book_text" ["book"] (pm_book_text (He.ga K "Book"))) (c_read_book : Fn P w K mg base 7 "read_book" ["text"] (pm_read_book (He.ga K "Book"))) (c__law_draw : Fn P w K mg base 1 "_law_draw" ["_law_pool_here", "_law_many"] pm__law_draw) (c__law_pieces : Fn P w K mg base 1 "_law_pieces" ["_law_ways"] pm__law_pieces) (c_Book___eq__ : FnM P w K mg base 1 (He.ga K "Book") "__eq__" ["self", "other"] (pm_Book___eq__ (He.ga K "Book"))) : Fn P w K mg base 8 "_law_right" ["_law_pool_here", "_law_roads", "_law_ways"] pm__law_right := by
  obtain ⟨fd, F, hm⟩ := F.ex
  refine ⟨_, fd, fn_G (k := 7) (pm := pm__law_right) F sc__law_right (fun cdv A outer s H E hr C => (gss_cons (gs_set (i := 3) C.nd (ge_ct cg_list T.m_list bt_list (ga_cons (ge_var (i := 2)) ga_nil)))
      (gss_cons (gs_set (i := 4) C.nd (ge_fz (ge_peek3 (ge_make C c_Book___init__ (hr.mono (by decide)) (ga_cons (ge_var (i := 1)) (ga_cons (ge_ct cg_tuple T.m_tuple bt_tuple (ga_cons (ge_var (i := 3)) ga_nil)) ga_nil))))))
      (gss_cut (gs_if (gt_cmp og_eqI (ge_fn C c__law_draw (hr.mono (by decide)) (ga_bor (i := 0) (ga_cons ge_int ga_nil))) ge_int) (gss_cons (gs_set (i := 4) C.nd (ge_fz (ge_peek3 (ge_make C c_Book___init__ (hr.mono (by decide)) (ga_cons (ge_var (i := 1)) (ga_cons (ge_var (i := 3)) ga_nil))))))
      (gss_one (gs_app (i := 3) (ge_tup (ga_cons ge_int ga_nil))))) gss_nil)
      (gss_cut (gs_set (i := 5) C.nd (ge_fn C c__law_text (hr.mono (by decide)) (ga_cons (ge_var (i := 1)) (ga_cons (ge_var (i := 2)) ga_nil))))
      (gss_cons (gs_set (i := 6) C.nd (ge_fn C c_book_text (hr.mono (by decide)) (ga_cons (ge_var (i := 4)) ga_nil)))
      (gss_cons (gs_if (GW.gt (gw_or (gt_not (gt_val (ge_cb cg_isi T.m_isinstance bt_isinstance (ga_cons (ge_var (i := 6)) (ga_cons (ge_ty T.m_str bt_str) ga_nil))))) (gw_or1 (gt_cmp og_neT (ge_var (i := 6)) (ge_var (i := 5)))))) (gss_one (gs_ret ge_bl)) gss_nil)
      (gss_cons (gs_set (i := 7) C.nd (ge_fz (ge_fn C c_read_book (hr.mono (by decide)) (ga_cons (ge_var (i := 5)) ga_nil))))
      (gss_cons (gs_if (GW.gt (gw_or (gt_not (gt_val (ge_cb (cg_isC T.x_Book) T.m_isinstance bt_isinstance (ga_cons (ge_var (i := 7)) (ga_cons (ge_gref T.g_Book) ga_nil))))) (gw_or (gt_cmp og_neI (ge_fld T.c_Book T.na_Book_roads fi_Book_roads (ge_var (i := 7))) (ge_var (i := 1))) (gw_or1 (gt_cmp (og_ne hr.units) (ge_ct cg_list T.m_list bt_list (ga_cons (ge_fld T.c_Book T.na_Book_ways fi_Book_ways (ge_var (i := 7))) ga_nil)) (ge_fn C c__law_pieces (hr.mono (by decide)) (ga_cons (ge_var (i := 2)) ga_nil))))))) (gss_one (gs_ret ge_bl)) gss_nil)
      (gss_cons (gs_if (GW.gt (gw_or (gt_not (gt_val (ge_cb cg_isi T.m_isinstance bt_isinstance (ga_cons (ge_fld T.c_Book T.na_Book_ways fi_Book_ways (ge_var (i := 7))) (ga_cons (ge_ty T.m_tuple bt_tuple) ga_nil))))) (gw_or (gt_not (gt_cmp (og_own T.x_Book c_Book___eq__ rfl (hr.mono (by decide))) (ge_var (i := 7)) (ge_var (i := 4)))) (gw_or1 (gt_not (gt_cmp (og_own T.x_Book c_Book___eq__ rfl (hr.mono (by decide))) (ge_var (i := 4)) (ge_var (i := 7)))))))) (gss_one (gs_ret ge_bl)) gss_nil)
      (gss_one (gs_ret (ge_and (ge_cmp og_eqT (ge_fn C c_book_text (hr.mono (by decide)) (ga_cons (ge_var (i := 7)) ga_nil)) (ge_var (i := 5))) (ge_one (ge_cmp og_eqT (ge_fn C c_book_text (hr.mono (by decide)) (ga_cons (ge_var (i := 4)) ga_nil)) (ge_var (i := 5))))))))))))))))) (fun as We R hl hp => ?_), hm, F.kp, F.bindsN (fun _ _ _ _ _ _ us hl => match us, hl with | [_, _, _], _ => rfl)⟩
  obtain ⟨p, s, r, ws, rfl, h1, h2, hn, hw, hR⟩ := hp
  have hw8 : ∀ w ∈ ws, w.length ≤ 8 := fun w m => (hw w m).2.1
  have hal := allP_len hw8
  have hk := allP_way hw
  have ht := allP_tops fun w m => ⟨(hw w m).1, (hw w m).2.1⟩
  have tw : ∀ w ∈ topsP (allP ws), wayI r w := fun w m => hw w ((tops_mem (fun w m => (hw w m).1) w).mp m).1
  have tf : (topsP (allP ws)).length ≤ 60 := Nat.le_trans (tops_few fun w m => (hw w m).1) hn
  refine fun q => ?_
  refine ⟨rfl, by simp [bors], fun pb dx => ⟨pb, dx, r, ws, .tup (ws.map tupI), .inr rfl, ?_, h1, h2, hn, hw, fun xa xb => ?_⟩⟩
  · simp only [dL_pur, lst_d]
    rfl
  refine ⟨rfl, rfl, ?_⟩
  refine okP3_i ?_ bookO_ok ?_
  · show noTG [some (tpO p s), pi r, pd (.lst (ws.map tupI)), some (.lst q ((ws.map tupI).map .pur)), none, none, none, none] = true
    simp only [noTG, noT, noTL_pur, tpO, tpX, pi, pd, noTL, List.all_cons, List.all_nil]
    rfl
  refine ⟨fun g => ∃ (s' : Tp) (x : Option O), g = [some (tpO p s'), pi r, pd (.lst (ws.map tupI)), x, pd (bookD (He.ga K "Book") r (allP ws)), none, none, none], ?_, ?_⟩
  · refine ⟨trivial, rfl, by simp [bors], p, s, 2, rfl, by decide, by decide, fun v s' v0 v1 => ?_⟩
    refine br_i (fun h => ?_) fun h => ?_
    · refine ⟨rfl, by simp [bors], fun pb dx => ⟨pb, dx, r, ws, .lst (ws.map tupI), .inl rfl, ?_, h1, h2, hn, hw, fun xa xb => ?_⟩⟩
      · simp only [dL_pur, lst_d]
        rfl
      refine ⟨rfl, rfl, ?_⟩
      refine okP3_i ?_ bookO_ok ?_
      · show noTG [some (tpO p s'), pi r, pd (.lst (ws.map tupI)), some (.lst q ((ws.map tupI).map .pur)), pd (bookD (He.ga K "Book") r (allP ws)), none, none, none] = true
        simp only [noTG, noT, noTL_pur, tpO, tpX, pi, pd, noTL, List.all_cons, List.all_nil]
        rfl
      refine ⟨trivial, sz (show 1 ≤ 3000 by decide), ?_⟩
      refine ⟨?_, s', _, rfl⟩
      exact szl (show _ ≤ 3000 by simp; omega)
    · exact ⟨s', _, rfl⟩
  rintro g ⟨s', x, rfl⟩
  refine ⟨fun g => g = [some (tpO p s'), pi r, pd (.lst (ws.map tupI)), x, pd (bookD (He.ga K "Book") r (allP ws)), pd (.str (bookT r (allP ws))), none, none], ?_, ?_⟩
  · exact ⟨rfl, by simp [bors], r, ws, rfl, h1, h2, hn, hw, fun y => rfl⟩
  rintro g rfl
  refine ⟨rfl, by simp [bors], r, allP ws, rfl, h1, h2, by omega, hk, ?_⟩
  refine isiP_i rfl (by decide) ?_
  refine br_F rfl ?_
  refine neT_i ?_
  refine br_F (by simp) ?_
  refine ⟨rfl, by simp [bors], r, topsP (allP ws), rfl, h1, h2, tf, tw, fun p2 dx2 y => ?_⟩
  rw [ht]
  refine ⟨rfl, isCP_i (.inl ⟨_, _, rfl⟩) ?_⟩
  refine br_F rfl ?_
  refine ⟨rfl, rfl, ?_⟩
  refine br_F (by simp) ?_
  refine ⟨rfl, rfl, fun q1 => ?_⟩
  refine ⟨rfl, by simp [bors], ws, rfl, hn, hw8, fun q2 => ?_⟩
  refine eq_ll (p := q1) (q := q2) ?_
  refine br_F (by simp) ?_
  refine ⟨rfl, rfl, ?_⟩
  refine isiP_i rfl (by decide) ?_
  refine br_F rfl ?_
  refine ⟨⟨_, _, rfl⟩, .inl ⟨_, _, rfl⟩, r, allP ws, .inl ⟨r, allP ws, rfl, ?_⟩⟩
  refine ⟨_, rfl, ?_⟩
  refine br_F (by simp) ?_
  refine ⟨⟨_, _, rfl⟩, .inl ⟨_, _, rfl⟩, r, allP ws, .inl ⟨r, allP ws, rfl, ?_⟩⟩
  refine ⟨_, rfl, ?_⟩
  refine br_F (by simp) ?_
  refine ⟨rfl, by simp [bors], r, allP ws, rfl, h1, h2, by omega, hk, ?_⟩
  refine eqT_i ?_
  refine br_T (by simp) ?_
  refine ⟨rfl, by simp [bors], r, allP ws, rfl, h1, h2, by omega, hk, ?_⟩
  refine eqT_i ?_
  rw [decide_eq_true rfl]
  refine rt_tp ?_
  exact hR s'

end K79
namespace K79
open PySem PySem.Spec PyProof.Rows L2 G TQ
theorem okg_law {P : Program} {w : World} {K : PySem.W.Frag} {mg : Str → Option Value} {base : Heap} {f : Addr} {fd : FuncData} (T : Txt K mg) (F : FunD K d_law.name d_law.qual d_law.params d_law.body d_law.scope [] [] f fd) (c__law_pool : Fn P w K mg base 1 "_law_pool" ["_law_script"] pm__law_pool) (c__law_wide : Fn P w K mg base 4 "_law_wide" ["_law_pool_here"] pm__law_wide) (c_Book___init__ : FnI P w K mg base 5 "Book" (He.ga K "Book") ["self", "roads", "ways"] (pm_Book___init__ (He.ga K "Book"))) (c__law_right : Fn P w K mg base 8 "_law_right" ["_law_pool_here", "_law_roads", "_law_ways"] pm__law_right) (c__law_pieces : Fn P w K mg base 1 "_law_pieces" ["_law_ways"] pm__law_pieces) (c_book_text : Fn P w K mg base 2 "book_text" ["book"] (pm_book_text (He.ga K "Book"))) (c_Book___eq__ : FnM P w K mg base 1 (He.ga K "Book") "__eq__" ["self", "other"] (pm_Book___eq__ (He.ga K "Book"))) : FnG P w K mg base 9 f fd ["_law_script"] pm_law := by
  refine fn_G (k := 8) (pm := pm_law) F sc_law (fun cdv A outer s H E hr C => (gss_cons (gs_set (i := 1) C.nd (ge_fn C c__law_pool (hr.mono (by decide)) (ga_cons (ge_var (i := 0)) ga_nil)))
      (gss_cut (gs_asg (ge_fn C c__law_wide (hr.mono (by decide)) (ga_bor (i := 1) ga_nil)) (gg_tup C.calm (ggs_cons (gg_name (i := 2) C.nd) (ggs_cons (gg_name (i := 3) C.nd) ggs_nil))))
      (gss_cut (gs_asg (ge_fn C c__law_wide (hr.mono (by decide)) (ga_bor (i := 1) ga_nil)) (gg_tup C.calm (ggs_cons (gg_name (i := 4) C.nd) (ggs_cons (gg_name (i := 5) C.nd) ggs_nil))))
      (gss_cut (gs_if (GW.gt (gw_or (gt_not (gt_val (ge_fn C c__law_right (hr.mono (by decide)) (ga_bor (i := 1) (ga_cons (ge_var (i := 2)) (ga_cons (ge_var (i := 3)) ga_nil)))))) (gw_or1 (gt_not (gt_val (ge_fn C c__law_right (hr.mono (by decide)) (ga_bor (i := 1) (ga_cons (ge_var (i := 4)) (ga_cons (ge_var (i := 5)) ga_nil))))))))) (gss_one (gs_ret ge_bl)) gss_nil)
      (gss_cut (gs_set (i := 6) C.nd (ge_and (ge_cmp og_eqI (ge_var (i := 2)) (ge_var (i := 4))) (ge_one (ge_cmp (og_eq hr.units) (ge_fn C c__law_pieces (hr.mono (by decide)) (ga_cons (ge_var (i := 3)) ga_nil)) (ge_fn C c__law_pieces (hr.mono (by decide)) (ga_cons (ge_var (i := 5)) ga_nil))))))
      (gss_cons (gs_set (i := 7) C.nd (ge_fz (ge_make C c_Book___init__ (hr.mono (by decide)) (ga_cons (ge_var (i := 2)) (ga_cons (ge_ct cg_list T.m_list bt_list (ga_cons (ge_var (i := 3)) ga_nil)) ga_nil)))))
      (gss_cons (gs_set (i := 8) C.nd (ge_fz (ge_make C c_Book___init__ (hr.mono (by decide)) (ga_cons (ge_var (i := 4)) (ga_cons (ge_ct cg_list T.m_list bt_list (ga_cons (ge_var (i := 5)) ga_nil)) ga_nil)))))
      (gss_cons (gs_if (gt_cmp (og_ne hr.units) (ge_cmp (og_own T.x_Book c_Book___eq__ rfl (hr.mono (by decide))) (ge_var (i := 7)) (ge_var (i := 8))) (ge_var (i := 6))) (gss_one (gs_ret ge_bl)) gss_nil)
      (gss_one (gs_ret (ge_cmp (og_eq hr.units) (ge_cmp og_eqT (ge_fn C c_book_text (hr.mono (by decide)) (ga_cons (ge_var (i := 7)) ga_nil)) (ge_fn C c_book_text (hr.mono (by decide)) (ga_cons (ge_var (i := 8)) ga_nil))) (ge_var (i := 6)))))))))))))) (fun as We R hl hp => ?_)
  obtain ⟨ns, rfl, hn, hR⟩ := hp
  refine ⟨rfl, by simp [bors], ns, rfl, hn, fun p s0 x => ?_⟩
  refine ⟨fun g => ∃ (s : Tp) (r : Int) (ws : List (List Int)), 1 ≤ r ∧ r ≤ 40 ∧ ws.length ≤ 60 ∧ (∀ w ∈ ws, wayI r w) ∧ g = [pd (.frl (ns.map .int)), some (tpO p s), pi r, pd (.lst (ws.map tupI)), none, none, none, none, none], ?_, ?_⟩
  · refine ⟨trivial, rfl, by simp [bors], p, s0, rfl, fun q m ws s m1 m40 hl hw => ?_⟩
    refine ⟨rfl, s, m, ws, m1, m40, hl, hw, ?_⟩
    show [pd (.frl (ns.map .int)), some (tpO p s), pi m, pd (.lst (O.dL ((ws.map tupI).map .pur))), none, none, none, none, none] = _
    rw [dL_pur]
  rintro g ⟨s, r, ws, h1, h2, hl, hw, rfl⟩
  refine ⟨fun g => ∃ (s : Tp) (r2 : Int) (vs : List (List Int)), 1 ≤ r2 ∧ r2 ≤ 40 ∧ vs.length ≤ 60 ∧ (∀ w ∈ vs, wayI r2 w) ∧ g = [pd (.frl (ns.map .int)), some (tpO p s), pi r, pd (.lst (ws.map tupI)), pi r2, pd (.lst (vs.map tupI)), none, none, none], ?_, ?_⟩
  · refine ⟨trivial, rfl, by simp [bors], p, s, rfl, fun q m vs s m1 m40 hl hw => ?_⟩
    refine ⟨rfl, s, m, vs, m1, m40, hl, hw, ?_⟩
    show [pd (.frl (ns.map .int)), some (tpO p s), pi r, pd (.lst (ws.map tupI)), pi m, pd (.lst (O.dL ((vs.map tupI).map .pur))), none, none, none] = _
    rw [dL_pur]
  rintro g ⟨s, r2, vs, k1, k2, kl, hv, rfl⟩
  refine ⟨fun g => ∃ s : Tp, g = [pd (.frl (ns.map .int)), some (tpO p s), pi r, pd (.lst (ws.map tupI)), pi r2, pd (.lst (vs.map tupI)), none, none, none], ?_, ?_⟩
  · refine ⟨trivial, rfl, by simp [bors], p, s, r, ws, rfl, h1, h2, hl, hw, fun s1 => ?_⟩
    refine br_F rfl ?_
    refine ⟨trivial, rfl, by simp [bors], p, s1, r2, vs, rfl, k1, k2, kl, hv, fun s2 => ?_⟩
    refine br_F rfl ?_
    exact ⟨s2, rfl⟩
  rintro g ⟨s, rfl⟩
  have w8 : ∀ w ∈ ws, w.length ≤ 8 := fun w m => (hw w m).2.1
  have v8 : ∀ w ∈ vs, w.length ≤ 8 := fun w m => (hv w m).2.1
  have lw := allP_len w8
  have lv := allP_len v8
  refine ⟨fun g => g = [pd (.frl (ns.map .int)), some (tpO p s), pi r, pd (.lst (ws.map tupI)), pi r2, pd (.lst (vs.map tupI)), pd (.bl (decide (r = r2) && decide (allP ws = allP vs))), none, none], ?_, ?_⟩
  · refine br_i (fun h => ?_) fun h => ?_
    · have h' : decide (r = r2) = true := h
      refine ⟨rfl, by simp [bors], ws, rfl, hl, w8, fun q1 => ?_⟩
      refine ⟨rfl, by simp [bors], vs, rfl, kl, v8, fun q2 => ?_⟩
      refine eq_ll (p := q1) (q := q2) ?_
      rw [h']
      rfl
    · have h' : decide (r = r2) = false := h
      rw [h']
      rfl
  rintro g rfl
  refine fun q1 => ?_
  refine ⟨rfl, by simp [bors], fun pb dx => ⟨pb, dx, r, ws, .lst (ws.map tupI), .inl rfl, ?_, h1, h2, hl, hw, fun xa xb => ?_⟩⟩
  · simp only [dL_pur, lst_d]
    rfl
  refine ⟨rfl, rfl, ?_⟩
  refine fun q2 => ?_
  refine ⟨rfl, by simp [bors], fun pb2 dx2 => ⟨pb2, dx2, r2, vs, .lst (vs.map tupI), .inl rfl, ?_, k1, k2, kl, hv, fun xa xb => ?_⟩⟩
  · simp only [dL_pur, lst_d]
    rfl
  refine ⟨rfl, rfl, ?_⟩
  refine ⟨⟨_, _, rfl⟩, .inl ⟨_, _, rfl⟩, r, allP ws, .inl ⟨r2, allP vs, rfl, ?_⟩⟩
  refine ⟨_, rfl, ?_⟩
  refine eq_bl ?_
  refine br_F (by simp) ?_
  refine ⟨rfl, by simp [bors], r, allP ws, rfl, h1, h2, by omega, allP_way hw, ?_⟩
  refine ⟨rfl, by simp [bors], r2, allP vs, rfl, k1, k2, by omega, allP_way hv, ?_⟩
  refine eqT_i ?_
  rw [text_eq ⟨h1, h2⟩ ⟨k1, k2⟩ hw hv]
  refine eq_bl ?_
  have e : (if false = true then !((decide (r = r2) && decide (allP ws = allP vs)) == (decide (r = r2) && decide (allP ws = allP vs))) else ((decide (r = r2) && decide (allP ws = allP vs)) == (decide (r = r2) && decide (allP ws = allP vs)))) = true := by simp
  rw [e]
  exact hR _

end K79
namespace K79
open PySem PySem.Spec PyProof.Rows L2 G TQ

theorem pm_true (ns : List Int) (hl : ns.length ≤ 63) (_ : ∀ z ∈ ns, Builtin.Int.intBits z ≤ 1048576) : pm_law [.pur (.frl (ns.map .int))] (fun _ _ => False) (fun o _ => o = .pur (.bl true)) := ⟨ns, rfl, hl, fun _ => rfl⟩
def lo0 : List PySem.Str := ["is_integer", "is_within", "is_listed", "is_road", "is_way", "numbers_line", "longest_ways", "book_text", "pieces_of", "all_pieces", "is_number", "line_numbers", "closed_lines", "read_roads", "read_book", "_law_pool", "_law_draw", "_law_way", "_law_core", "_law_book", "_law_pieces", "_law_wide", "_law_within", "_law_text", "_law_right", "MOST_ROADS", "MOST_WAY", "MOST_WAYS", "FIGURES", "MOST_FIGURES"]
def lo1 : List PySem.Str := ["ThrongError", "BadRoads", "BadWays", "BadText", "Book"]
abbrev loose : List PySem.Str := lo0 ++ lo1
def fn : List He.DefD := [d_is_integer, d_is_within, d_is_listed, d_is_road, d_is_way, d_numbers_line, d_longest_ways, d_book_text, d_pieces_of, d_all_pieces, d_Book___init__, d_Book_keep, d_Book___eq__, d_is_number, d_line_numbers, d_closed_lines, d_read_roads, d_read_book, d__law_pool, d__law_draw, d__law_way, d__law_core, d__law_book, d__law_pieces, d__law_wide, d__law_within, d__law_text, d__law_right, d_law]
def fa : List He.Fa := [.glo "is_integer", .glo "is_within", .glo "is_listed", .glo "is_road", .glo "is_way", .glo "numbers_line", .glo "longest_ways", .glo "book_text", .glo "pieces_of", .glo "all_pieces", .glo "is_number", .glo "line_numbers", .glo "closed_lines", .glo "read_roads", .glo "read_book", .glo "_law_pool", .glo "_law_draw", .glo "_law_way", .glo "_law_core", .glo "_law_book", .glo "_law_pieces", .glo "_law_wide", .glo "_law_within", .glo "_law_text", .glo "_law_right", .glo "law", .free "ValueError", .free "abs", .free "all", .free "any", .free "bool", .free "enumerate", .free "int", .free "isinstance", .free "len", .free "list", .free "min", .free "range", .free "set", .free "sorted", .free "str", .free "super", .free "tuple", .int "MOST_ROADS" 40, .int "MOST_WAY" 8, .int "MOST_WAYS" 60, .str "FIGURES" "0123456789", .int "MOST_FIGURES" 9, .glo "Book", .cls "Book", .noat "Book" "roads", .noat "Book" "ways", .noat "Book" "kept_ways", .noat "Book" "kept_followings", .meth "Book" "keep", .meth "Book" "__eq__", .mkr "Book"]
abbrev R : PySem.W.OpenRow := PySem.W.OpenLaw.row PySem.Challenge.rw_throngways_k79_whole_texts_of_books
def ex : List (PySem.W.Frag → Bool) := [fun K => G.clsB K (He.ga K "Book")]
abbrev hk : PySem.W.Hook := G.hookX ex 5 fa fn
def ob (s : PySem.W.SharedT) : G.AlX := G.obsXG ex 5 fa fn (HandSHeadRun.getT s)
theorem ob_eq (s : PySem.W.SharedT) : ob s = hk.obs s.abs := G.obsXG_eq (HandSHeadRun.getT_eq s)
theorem run (w : World) : HandSHeadRun.RunEq R (PySem.W.view R.prog [41]) hk ob 6000 loose w := by
  intro os
  kernel_rfl
theorem facts {P : Program} {w : World} {K : PySem.W.Frag} {h : Heap} {mg : Str → Option Value} {f : Addr} (X : K.In h) (G : h.Ns mainGlobals mg) (hfa : mg ("law" : Str) = some (.ref f)) (c : SaysX ex fa fn K) :
    ∃ fd : FuncData, (∀ (s : Shared) (v : Value), BindsTo s fd ⟨[v], []⟩ [("_law_script", v)]) ∧ ∀ base : Heap, K.In base → base.Ns mainGlobals mg → FnG P w K mg base 9 f fd ["_law_script"] pm_law := by
  have T : Txt K mg := ⟨He.free_ok X G (c.says.fact 26 (f := .free "ValueError") rfl), He.free_ok X G (c.says.fact 27 (f := .free "abs") rfl), He.free_ok X G (c.says.fact 28 (f := .free "all") rfl), He.free_ok X G (c.says.fact 29 (f := .free "any") rfl), He.free_ok X G (c.says.fact 30 (f := .free "bool") rfl), He.free_ok X G (c.says.fact 31 (f := .free "enumerate") rfl), He.free_ok X G (c.says.fact 32 (f := .free "int") rfl), He.free_ok X G (c.says.fact 33 (f := .free "isinstance") rfl), He.free_ok X G (c.says.fact 34 (f := .free "len") rfl), He.free_ok X G (c.says.fact 35 (f := .free "list") rfl), He.free_ok X G (c.says.fact 36 (f := .free "min") rfl), He.free_ok X G (c.says.fact 37 (f := .free "range") rfl), He.free_ok X G (c.says.fact 38 (f := .free "set") rfl), He.free_ok X G (c.says.fact 39 (f := .free "sorted") rfl), He.free_ok X G (c.says.fact 40 (f := .free "str") rfl), He.free_ok X G (c.says.fact 41 (f := .free "super") rfl), He.free_ok X G (c.says.fact 42 (f := .free "tuple") rfl), He.int_ok X G (c.says.fact 43 (f := .int "MOST_ROADS" 40) rfl), He.int_ok X G (c.says.fact 44 (f := .int "MOST_WAY" 8) rfl), He.int_ok X G (c.says.fact 45 (f := .int "MOST_WAYS" 60) rfl), He.str_ok X G (c.says.fact 46 (f := .str "FIGURES" "0123456789") rfl), He.int_ok X G (c.says.fact 47 (f := .int "MOST_FIGURES" 9) rfl), He.glo_ok X G (c.says.fact 48 (f := .glo "Book") rfl), He.cls_ok (c.says.fact 49 (f := .cls "Book") rfl), He.noat_ok (c.says.fact 50 (f := .noat "Book" "roads") rfl), He.noat_ok (c.says.fact 51 (f := .noat "Book" "ways") rfl), He.noat_ok (c.says.fact 52 (f := .noat "Book" "kept_ways") rfl), He.noat_ok (c.says.fact 53 (f := .noat "Book" "kept_followings") rfl), He.meth_ok (c.says.fact 54 (f := .meth "Book" "keep") rfl), He.meth_ok (c.says.fact 55 (f := .meth "Book" "__eq__") rfl), clsX_of (He.cls_ok (c.says.fact 49 (f := .cls "Book") rfl)) (c.more 0 rfl), He.mkr_ok (c.says.fact 56 (f := .mkr "Book") rfl)⟩
  have D_is_integer : Dfn K mg d_is_integer := ⟨by
    obtain ⟨fd, F⟩ := c.says.def_ 0 (d := d_is_integer) rfl
    exact ⟨fd, F, He.glo_ok X G (c.says.fact 0 (f := .glo "is_integer") rfl)⟩⟩
  have D_is_within : Dfn K mg d_is_within := ⟨by
    obtain ⟨fd, F⟩ := c.says.def_ 1 (d := d_is_within) rfl
    exact ⟨fd, F, He.glo_ok X G (c.says.fact 1 (f := .glo "is_within") rfl)⟩⟩
  have D_is_listed : Dfn K mg d_is_listed := ⟨by
    obtain ⟨fd, F⟩ := c.says.def_ 2 (d := d_is_listed) rfl
    exact ⟨fd, F, He.glo_ok X G (c.says.fact 2 (f := .glo "is_listed") rfl)⟩⟩
  have D_is_road : Dfn K mg d_is_road := ⟨by
    obtain ⟨fd, F⟩ := c.says.def_ 3 (d := d_is_road) rfl
    exact ⟨fd, F, He.glo_ok X G (c.says.fact 3 (f := .glo "is_road") rfl)⟩⟩
  have D_is_way : Dfn K mg d_is_way := ⟨by
    obtain ⟨fd, F⟩ := c.says.def_ 4 (d := d_is_way) rfl
    exact ⟨fd, F, He.glo_ok X G (c.says.fact 4 (f := .glo "is_way") rfl)⟩⟩
  have D_numbers_line : Dfn K mg d_numbers_line := ⟨by
    obtain ⟨fd, F⟩ := c.says.def_ 5 (d := d_numbers_line) rfl
    exact ⟨fd, F, He.glo_ok X G (c.says.fact 5 (f := .glo "numbers_line") rfl)⟩⟩
  have D_longest_ways : Dfn K mg d_longest_ways := ⟨by
    obtain ⟨fd, F⟩ := c.says.def_ 6 (d := d_longest_ways) rfl
    exact ⟨fd, F, He.glo_ok X G (c.says.fact 6 (f := .glo "longest_ways") rfl)⟩⟩
  have D_book_text : Dfn K mg d_book_text := ⟨by
    obtain ⟨fd, F⟩ := c.says.def_ 7 (d := d_book_text) rfl
    exact ⟨fd, F, He.glo_ok X G (c.says.fact 7 (f := .glo "book_text") rfl)⟩⟩
  have D_pieces_of : Dfn K mg d_pieces_of := ⟨by
    obtain ⟨fd, F⟩ := c.says.def_ 8 (d := d_pieces_of) rfl
    exact ⟨fd, F, He.glo_ok X G (c.says.fact 8 (f := .glo "pieces_of") rfl)⟩⟩
  have D_all_pieces : Dfn K mg d_all_pieces := ⟨by
    obtain ⟨fd, F⟩ := c.says.def_ 9 (d := d_all_pieces) rfl
    exact ⟨fd, F, He.glo_ok X G (c.says.fact 9 (f := .glo "all_pieces") rfl)⟩⟩
  have D_Book___init__ : DfnM K d_Book___init__ := ⟨c.says.def_ 10 (d := d_Book___init__) rfl⟩
  have D_Book_keep : DfnM K d_Book_keep := ⟨c.says.def_ 11 (d := d_Book_keep) rfl⟩
  have D_Book___eq__ : DfnM K d_Book___eq__ := ⟨c.says.def_ 12 (d := d_Book___eq__) rfl⟩
  have D_is_number : Dfn K mg d_is_number := ⟨by
    obtain ⟨fd, F⟩ := c.says.def_ 13 (d := d_is_number) rfl
    exact ⟨fd, F, He.glo_ok X G (c.says.fact 10 (f := .glo "is_number") rfl)⟩⟩
  have D_line_numbers : Dfn K mg d_line_numbers := ⟨by
    obtain ⟨fd, F⟩ := c.says.def_ 14 (d := d_line_numbers) rfl
    exact ⟨fd, F, He.glo_ok X G (c.says.fact 11 (f := .glo "line_numbers") rfl)⟩⟩
  have D_closed_lines : Dfn K mg d_closed_lines := ⟨by
    obtain ⟨fd, F⟩ := c.says.def_ 15 (d := d_closed_lines) rfl
    exact ⟨fd, F, He.glo_ok X G (c.says.fact 12 (f := .glo "closed_lines") rfl)⟩⟩
  have D_read_roads : Dfn K mg d_read_roads := ⟨by
    obtain ⟨fd, F⟩ := c.says.def_ 16 (d := d_read_roads) rfl
    exact ⟨fd, F, He.glo_ok X G (c.says.fact 13 (f := .glo "read_roads") rfl)⟩⟩
  have D_read_book : Dfn K mg d_read_book := ⟨by
    obtain ⟨fd, F⟩ := c.says.def_ 17 (d := d_read_book) rfl
    exact ⟨fd, F, He.glo_ok X G (c.says.fact 14 (f := .glo "read_book") rfl)⟩⟩
  have D__law_pool : Dfn K mg d__law_pool := ⟨by
    obtain ⟨fd, F⟩ := c.says.def_ 18 (d := d__law_pool) rfl
    exact ⟨fd, F, He.glo_ok X G (c.says.fact 15 (f := .glo "_law_pool") rfl)⟩⟩
  have D__law_draw : Dfn K mg d__law_draw := ⟨by
    obtain ⟨fd, F⟩ := c.says.def_ 19 (d := d__law_draw) rfl
    exact ⟨fd, F, He.glo_ok X G (c.says.fact 16 (f := .glo "_law_draw") rfl)⟩⟩
  have D__law_way : Dfn K mg d__law_way := ⟨by
    obtain ⟨fd, F⟩ := c.says.def_ 20 (d := d__law_way) rfl
    exact ⟨fd, F, He.glo_ok X G (c.says.fact 17 (f := .glo "_law_way") rfl)⟩⟩
  have D__law_core : Dfn K mg d__law_core := ⟨by
    obtain ⟨fd, F⟩ := c.says.def_ 21 (d := d__law_core) rfl
    exact ⟨fd, F, He.glo_ok X G (c.says.fact 18 (f := .glo "_law_core") rfl)⟩⟩
  have D__law_book : Dfn K mg d__law_book := ⟨by
    obtain ⟨fd, F⟩ := c.says.def_ 22 (d := d__law_book) rfl
    exact ⟨fd, F, He.glo_ok X G (c.says.fact 19 (f := .glo "_law_book") rfl)⟩⟩
  have D__law_pieces : Dfn K mg d__law_pieces := ⟨by
    obtain ⟨fd, F⟩ := c.says.def_ 23 (d := d__law_pieces) rfl
    exact ⟨fd, F, He.glo_ok X G (c.says.fact 20 (f := .glo "_law_pieces") rfl)⟩⟩
  have D__law_wide : Dfn K mg d__law_wide := ⟨by
    obtain ⟨fd, F⟩ := c.says.def_ 24 (d := d__law_wide) rfl
    exact ⟨fd, F, He.glo_ok X G (c.says.fact 21 (f := .glo "_law_wide") rfl)⟩⟩
  have D__law_within : Dfn K mg d__law_within := ⟨by
    obtain ⟨fd, F⟩ := c.says.def_ 25 (d := d__law_within) rfl
    exact ⟨fd, F, He.glo_ok X G (c.says.fact 22 (f := .glo "_law_within") rfl)⟩⟩
  have D__law_text : Dfn K mg d__law_text := ⟨by
    obtain ⟨fd, F⟩ := c.says.def_ 26 (d := d__law_text) rfl
    exact ⟨fd, F, He.glo_ok X G (c.says.fact 23 (f := .glo "_law_text") rfl)⟩⟩
  have D__law_right : Dfn K mg d__law_right := ⟨by
    obtain ⟨fd, F⟩ := c.says.def_ 27 (d := d__law_right) rfl
    exact ⟨fd, F, He.glo_ok X G (c.says.fact 24 (f := .glo "_law_right") rfl)⟩⟩
  obtain ⟨fd, F⟩ := c.says.def_ 28 (d := d_law) rfl
  have e := hfa.symm.trans (He.glo_ok X G (c.says.fact 25 (f := .glo "law") rfl))
  cases e
  have b := FunD.bindsA (ps := ["_law_script"]) F fun _ _ _ _ _ _ us hl => match us, hl with | [_], _ => rfl
  refine ⟨fd, fun s v => b s [v] rfl, fun base _ _ => ?_⟩
  have c_is_integer : Fn P w K mg base 1 "is_integer" ["thing"] pm_is_integer := ok_is_integer T D_is_integer 
  have c_is_listed : Fn P w K mg base 1 "is_listed" ["thing"] pm_is_listed := ok_is_listed T D_is_listed 
  have c_numbers_line : Fn P w K mg base 1 "numbers_line" ["word", "numbers"] pm_numbers_line := ok_numbers_line T D_numbers_line 
  have c_longest_ways : Fn P w K mg base 1 "longest_ways" ["book"] (pm_longest_ways (He.ga K "Book")) := ok_longest_ways T D_longest_ways 
  have c_pieces_of : Fn P w K mg base 1 "pieces_of" ["way"] pm_pieces_of := ok_pieces_of T D_pieces_of 
  have c_Book_keep : FnM P w K mg base 1 (He.ga K "Book") "keep" ["self", "roads", "ways"] (pm_Book_keep (He.ga K "Book")) := ok_Book_keep T D_Book_keep 
  have c_Book___eq__ : FnM P w K mg base 1 (He.ga K "Book") "__eq__" ["self", "other"] (pm_Book___eq__ (He.ga K "Book")) := ok_Book___eq__ T D_Book___eq__ 
  have c_is_number : Fn P w K mg base 1 "is_number" ["word"] pm_is_number := ok_is_number T D_is_number 
  have c_closed_lines : Fn P w K mg base 1 "closed_lines" ["text"] pm_closed_lines := ok_closed_lines T D_closed_lines 
  have c__law_pool : Fn P w K mg base 1 "_law_pool" ["_law_script"] pm__law_pool := ok__law_pool T D__law_pool 
  have c__law_draw : Fn P w K mg base 1 "_law_draw" ["_law_pool_here", "_law_many"] pm__law_draw := ok__law_draw T D__law_draw 
  have c__law_core : Fn P w K mg base 1 "_law_core" ["_law_kind", "_law_size"] pm__law_core := ok__law_core T D__law_core 
  have c__law_pieces : Fn P w K mg base 1 "_law_pieces" ["_law_ways"] pm__law_pieces := ok__law_pieces T D__law_pieces 
  have c__law_within : Fn P w K mg base 1 "_law_within" ["_law_inner", "_law_outer"] pm__law_within := ok__law_within T D__law_within 
  have c_is_within : Fn P w K mg base 2 "is_within" ["thing", "least", "most"] pm_is_within := ok_is_within T D_is_within c_is_integer
  have c_book_text : Fn P w K mg base 2 "book_text" ["book"] (pm_book_text (He.ga K "Book")) := ok_book_text T D_book_text c_numbers_line c_longest_ways
  have c_all_pieces : Fn P w K mg base 2 "all_pieces" ["ways"] pm_all_pieces := ok_all_pieces T D_all_pieces c_pieces_of
  have c_line_numbers : Fn P w K mg base 2 "line_numbers" ["line", "kind", "least"] pm_line_numbers := ok_line_numbers T D_line_numbers c_is_number
  have c__law_way : Fn P w K mg base 2 "_law_way" ["_law_pool_here", "_law_roads", "_law_longest"] pm__law_way := ok__law_way T D__law_way c__law_draw
  have c__law_text : Fn P w K mg base 2 "_law_text" ["_law_roads", "_law_ways"] pm__law_text := ok__law_text T D__law_text c__law_within
  have c_is_road : Fn P w K mg base 3 "is_road" ["roads", "thing"] pm_is_road := ok_is_road T D_is_road c_is_within
  have c_read_roads : Fn P w K mg base 3 "read_roads" ["line"] pm_read_roads := ok_read_roads T D_read_roads c_line_numbers
  have c__law_book : Fn P w K mg base 3 "_law_book" ["_law_pool_here"] pm__law_book := ok__law_book T D__law_book c__law_core c__law_draw c__law_way
  have c_is_way : Fn P w K mg base 4 "is_way" ["roads", "thing"] pm_is_way := ok_is_way T D_is_way c_is_road
  have c__law_wide : Fn P w K mg base 4 "_law_wide" ["_law_pool_here"] pm__law_wide := ok__law_wide T D__law_wide c__law_draw c__law_book c__law_way
  have c_Book___init__ : FnI P w K mg base 5 "Book" (He.ga K "Book") ["self", "roads", "ways"] (pm_Book___init__ (He.ga K "Book")) := ok_Book___init__ T D_Book___init__ c_Book_keep c_is_within c_all_pieces c_is_listed c_is_way
  have c_read_book : Fn P w K mg base 7 "read_book" ["text"] (pm_read_book (He.ga K "Book")) := ok_read_book T D_read_book c_closed_lines c_Book___init__ c_read_roads c_line_numbers
  have c__law_right : Fn P w K mg base 8 "_law_right" ["_law_pool_here", "_law_roads", "_law_ways"] pm__law_right := ok__law_right T D__law_right c_Book___init__ c__law_text c_book_text c_read_book c__law_draw c__law_pieces c_Book___eq__
  exact okg_law T F c__law_pool c__law_wide c_Book___init__ c__law_right c__law_pieces c_book_text c_Book___eq__
end K79
open PySem PySem.W PySem.Calls PyProof.Rows
theorem PySem.Challenge.cw_throngways_k79_whole_texts_of_books_holds : PySem.Challenge.rw_throngways_k79_whole_texts_of_books.Holds := by
  w_on; o_law
  refine HandSHeadRun.head_any (r := OpenLaw.row PySem.Challenge.rw_throngways_k79_whole_texts_of_books) (q := view (OpenLaw.row PySem.Challenge.rw_throngways_k79_whole_texts_of_books).prog [41]) (H := K79.hk) (ob := K79.ob) (M := 6000) (loose := K79.loose) (d := HandSHeadRun.topDef (OpenLaw.row PySem.Challenge.rw_throngways_k79_whole_texts_of_books).prog 41) (kwd := []) K79.ob_eq
    (by kernel_rfl) (fun s => by kernel_rfl) K79.run (by kernel_rfl) (by kernel_rfl) (by kernel_rfl) (by rfl) (by first | assumption | decide +kernel) (by decide +kernel) ⟨rfl, rfl, rfl, rfl, rfl, by decide +kernel⟩ ?hw ?hc
  case hw => w_witness2
  case hc =>
    refine G.walkG (l := PySem.Challenge.rw_throngways_k79_whole_texts_of_books) (n := 63) (k := 9) (x := "_law_script") (CX := fun w => L2.CX (PySem.Challenge.rw_throngways_k79_whole_texts_of_books).prog w) rfl (by decide) (by kernel_rfl) ⟨⟨rfl, by decide, by decide⟩, rfl⟩ ?F ?C
    case C => exact fun w H s e s' z => G.cx_false z
    intro w mg fa h Y GN hmg0
    obtain ⟨K, KX, c⟩ := Y
    have hmg : mg ("law" : PySem.Str) = some (.ref fa) := by
      have e : (HandSHeadRun.topDef (OpenLaw.row PySem.Challenge.rw_throngways_k79_whole_texts_of_books).prog 41).name = ("law" : PySem.Str) := by kernel_rfl
      rw [← e]
      exact hmg0
    obtain ⟨fd, hb, hF⟩ := K79.facts (P := (PySem.Challenge.rw_throngways_k79_whole_texts_of_books).prog) (w := w) KX GN hmg c
    exact ⟨K, fd, G.spOf K 1 K79.pm_law, KX, hb, fun H a ns hl hz hS => G.law_start hS (K79.pm_true ns hl hz), fun base h1 h2 => hF base h1 h2⟩
