import PyProof.Rows.All
import Wide.All
import OpenK.AllK
import Wide.FinOn
import HandS.TupSets
import KE.SortData
import KE.KDictKeyed
import KE.KeyNested
import KE.DataEq
import PyProof.WalkInts
import KE.KMinKey
import HandS.SetFor
import HandS.ForMost
import HandS.Conv
import HandS.Rev
import HandS.TupAny
import HandS.Flow
import HandS.IsInst
import HandS.NoneIn
import HandS.Deep
import HandS.TupMul
import HandS.Style
import HandS.Wide
import HandS.Lambda
import HandS.Dict
import HandS.WordsExc
import HandS.ExcOwn
import HandS.SortKw
import KE.KDictPairs
import HandS.Comp
import KE.GoesNew
import KE.GoesMore
import HandS.ExcInit
import HandS.ExcField
import KE.KExcIs
import HandS.HeadHook4
import HandS.Head2
import HandS.HeadEnd
import HandS.HeadWalk
import PySem.Challenge.RW_slanttiles_k11_values_of_terms
set_option Elab.async false
set_option linter.all false
set_option maxRecDepth 100000
/-! Sets of nested tuples of ints: made of a list, sorted. -/
namespace SL
open PySem PySem.Spec PyProof.Rows L2
set_option autoImplicit false

mutual
/-- no text in it -/
def mute : NestedKey → Bool
  | .text _ => false
  | .tup ks => mutes ks
  | .none => true
  | .num _ => true
def mutes : List NestedKey → Bool
  | [] => true
  | k :: ks => mute k && mutes ks
end

section
variable {P : Program} {w : World}
/-- a walk over items, each of which answers b, ends as if none had been there -/
def Says (P : Program) (w : World) (m : Sem Bool) (b : Bool) (s : Shared) : Prop := ∀ (A : Around) (E : Value → Shared → Prop) (Q : Bool → Shared → Prop), Q b s → wpAny (model P w) A m Q E s

mutual
theorem hash_says : ∀ (k : NestedKey) (v : Value) (d : Nat) (s : Shared), NestedIs s.heap k v → mute k = true → k.depth ≤ d → Says P w (hashByValue d v) true s
  | .none, _, d, s, x, _, _ => by
    cases x
    intro A E Q q
    cases d <;> exact wpAny_pure q
  | .num i, _, d, s, x, _, _ => by
    intro A E Q q
    cases x with
    | bool hb => cases d <;> exact wpAny_pure q
    | int i t => cases d <;> exact wpAny_pure q
  | .text y, _, d, s, x, hm, _ => by simp [mute] at hm
  | .tup ks, _, d, s, x, hm, hd => by
    intro A E Q q
    cases x with
    | @tup a o its m _ ho hc hs hk =>
      cases d with
      | zero => simp [NestedKey.depth] at hd
      | succ d =>
        have hall := hashes_say ks its.toList d s hk (by simpa [mute] using hm) (by simp only [NestedKey.depth] at hd; omega)
        have ty : s.TypeIs (.ref a) "tuple" := ⟨o, ho, hc⟩
        unfold hashByValue
        refine wpAny_bind (wpAny_specialOf ty F.slot_tuple_hash.lookup ?_)
        refine wpAny_bind (M := model P w) (wpAny_seqItems ho hs ?_)
        refine wpAny_bind ?_
        dsimp only [Option.getD]
        rw [← Array.forIn_toList]
        refine wpAny_forIn_list _ (fun us st s2 => (s2 = s ∧ st.1 = none) ∧ ∀ u ∈ us, Says P w (hashByValue d u) true s) _ ?_ ?_ _ _ ⟨⟨rfl, rfl⟩, hall⟩
        · intro u us st s2 ⟨⟨e1, e2⟩, f⟩
          subst e1
          refine wpAny_bind (f u (List.mem_cons_self ..) _ _ _ ?_)
          exact wpAny_pure ⟨⟨rfl, rfl⟩, fun v hv => f v (List.mem_cons_of_mem _ hv)⟩
        · intro st s2 ⟨⟨e1, e2⟩, _⟩
          obtain ⟨st1, st2⟩ := st
          subst e1
          cases e2
          exact wpAny_pure q
theorem hashes_say : ∀ (ks : List NestedKey) (vs : List Value) (d : Nat) (s : Shared), NestedAll s.heap ks vs → mutes ks = true → NestedKey.depthAll ks ≤ d → ∀ u ∈ vs, Says P w (hashByValue d u) true s
  | [], _, d, s, x, _, _ => by
    cases x
    intro u hu
    cases hu
  | k :: ks, _, d, s, x, hm, hd => by
    cases x with
    | cons x1 x2 =>
      simp only [mutes, Bool.and_eq_true] at hm
      simp only [NestedKey.depthAll] at hd
      intro u hu
      rcases List.mem_cons.mp hu with rfl | hu
      · exact hash_says k _ d s x1 hm.1 (by omega)
      · exact hashes_say ks _ d s x2 hm.2 (by omega) u hu
end
mutual
theorem class_says : ∀ (k : NestedKey) (v : Value) (d : Nat) (s : Shared), NestedIs s.heap k v → k.depth ≤ d → Says P w (ofAClassStatement d v) false s
  | .none, _, d, s, x, _ => by
    cases x
    intro A E Q q
    cases d <;> exact wpAny_pure q
  | .num i, _, d, s, x, _ => by
    intro A E Q q
    cases x with
    | bool hb => cases d <;> exact wpAny_pure q
    | int i t => cases d <;> exact wpAny_pure q
  | .text y, _, d, s, x, _ => by
    cases x
    intro A E Q q
    cases d <;> exact wpAny_pure q
  | .tup ks, _, d, s, x, hd => by
    intro A E Q q
    cases x with
    | @tup a o its m _ ho hc hs hk =>
      cases d with
      | zero => simp [NestedKey.depth] at hd
      | succ d =>
        have hall := classes_say ks its.toList d s hk (by simp only [NestedKey.depth] at hd; omega)
        have ty : s.TypeIs (.ref a) "tuple" := ⟨o, ho, hc⟩
        unfold ofAClassStatement
        refine wpAny_bind (wpAny_typeOf ty ?_)
        dsimp only
        rw [show (("tuple" : String) == "tuple") = true from by decide]
        simp only [if_true, Bool.not_true, Bool.false_eq_true, if_false]
        try refine wpAny_bind (wpAny_pure ?_)
        try simp only [Bool.not_true, Bool.false_eq_true, if_false]
        try refine wpAny_bind (wpAny_pure ?_)
        refine wpAny_bind (M := model P w) (wpAny_seqItems ho hs ?_)
        dsimp only
        refine wpAny_bind ?_
        rw [← Array.forIn_toList]
        refine wpAny_forIn_list _ (fun us st s2 => (s2 = s ∧ st.1 = none) ∧ ∀ u ∈ us, Says P w (ofAClassStatement d u) false s) _ ?_ ?_ _ _ ⟨⟨rfl, rfl⟩, hall⟩
        · intro u us st s2 ⟨⟨e1, e2⟩, f⟩
          subst e1
          refine wpAny_bind (f u (List.mem_cons_self ..) _ _ _ ?_)
          exact wpAny_pure ⟨⟨rfl, rfl⟩, fun v hv => f v (List.mem_cons_of_mem _ hv)⟩
        · intro st s2 ⟨⟨e1, e2⟩, _⟩
          obtain ⟨st1, st2⟩ := st
          subst e1
          cases e2
          exact wpAny_pure q
theorem classes_say : ∀ (ks : List NestedKey) (vs : List Value) (d : Nat) (s : Shared), NestedAll s.heap ks vs → NestedKey.depthAll ks ≤ d → ∀ u ∈ vs, Says P w (ofAClassStatement d u) false s
  | [], _, d, s, x, _ => by
    cases x
    intro u hu
    cases hu
  | k :: ks, _, d, s, x, hd => by
    cases x with
    | cons x1 x2 =>
      simp only [NestedKey.depthAll] at hd
      intro u hu
      rcases List.mem_cons.mp hu with rfl | hu
      · exact class_says k _ d s x1 (by omega)
      · exact classes_say ks _ d s x2 (by omega) u hu
end
end
end SL

set_option maxRecDepth 100000
/-! Sets of nested tuples: looking for a member, putting one in. -/
namespace SL
open PySem PySem.Spec PyProof.Rows L2
set_option autoImplicit false

abbrev Mb := Addr × NestedKey
structure Fit (h : Heap) (p : Mb) : Prop where
  isk : NestedIs h p.2 (.ref p.1)
  deep : p.2.depth ≤ 8
  still : mute p.2 = true
def tabRows (w : World) (L : List Mb) : List (Int × Value) := L.map fun p => (p.2.hash w, Value.ref p.1)
def tabHs (w : World) (L : List Mb) : List Int := L.map fun p => p.2.hash w
structure NSet (w : World) (h : Heap) (a : Addr) (L : List Mb) (es : Array (Int × Value)) (ep : Nat) (t : SetTable) : Prop where
  obj : ∃ o, h.get? a = some o ∧ o.ExactSet ∧ o.data = .set es ep t
  rows : es.toList = tabRows w L
  tab : TabOk t (tabHs w L)
  uniq : (L.map (·.2)).Nodup
  fit : ∀ p ∈ L, Fit h p
  flat : t.plain = true
  led : w.params.followText "set-order" = true ∨ t.led = true
  wide : L.length * 5 < t.mask * 3
  few : L.length < 64
section
variable {P : Program} {w : World} {A : Around} {E : Value → Shared → Prop} {s : Shared} {a : Addr} {L : List Mb} {es : Array (Int × Value)} {ep : Nat} {t : SetTable} {h : Heap}
theorem tabHs_len : (tabHs w L).length = L.length := by unfold tabHs; rw [List.length_map]
theorem tabHs_get {i : Nat} {p : Mb} (e : L[i]? = some p) : (tabHs w L)[i]? = some (p.2.hash w) := by
  unfold tabHs
  rw [List.getElem?_map, e] <;> rfl
theorem NSet.size (R : NSet w h a L es ep t) : es.size = L.length := by
  rw [← Array.length_toList, R.rows]
  unfold tabRows
  rw [List.length_map]
theorem NSet.places (R : NSet w h a L es ep t) : t.place.size = L.length := by rw [R.tab.sz, tabHs_len]
theorem NSet.fits (R : NSet w h a L es ep t) : t.fits es.size = true := by
  have z := R.size
  have y := R.places
  have x := R.wide
  unfold SetTable.fits SetTable.fill
  rw [R.tab.dm]
  simp only [Bool.and_eq_true, beq_iff_eq, decide_eq_true_eq, Array.size_empty, Nat.add_zero]
  show t.place.size = es.size ∧ t.place.size ≤ t.mask
  omega
theorem NSet.at_ (R : NSet w h a L es ep t) {i : Nat} {p : Mb} (e : L[i]? = some p) : es[i]? = some (p.2.hash w, Value.ref p.1) := by
  have q : (tabRows w L)[i]? = some (p.2.hash w, Value.ref p.1) := by
    unfold tabRows
    rw [List.getElem?_map, e] <;> rfl
  rw [← R.rows, Array.getElem?_toList] at q
  exact q
theorem NSet.gives (R : NSet w h a L es ep t) : t.gaveWay = false := by
  have q := mask_odd R.tab.mok
  unfold SetTable.gaveWay
  rw [q]
  decide
/-- the n-th place on the way of a hash -/
abbrev stp (m : Nat) (hh : Int) (c : Nat) : SetTable.Probe := nth m (runAt m (SetTable.bits hh % (m + 1)) (SetTable.bits hh)) c
theorem stp_dummy (m : Nat) (hh : Int) (c : Nat) : (stp m hh c).dummy = none := by
  have go : ∀ (q : Nat) (p : SetTable.Probe), p.dummy = none → (nth m p q).dummy = none := fun q => by
    induction q with
    | zero => exact fun _ e => e
    | succ q ih => exact fun p e => ih (adv m p) (by unfold adv; split <;> exact e)
  exact go c _ rfl
theorem stp_on (m : Nat) (hh : Int) (c q : Nat) : nth m (stp m hh c) q = stp m hh (c + q) := (nth_add m c _ q).symm

theorem fit_eq {x y : Mb} {Q : Bool → Shared → Prop} (fx : Fit s.heap x) (fy : Fit s.heap y) (hu : A.units + 8 < cLine) (q : Q (decide (x.2 = y.2)) s) : wpAny (model P w) A (eqBool (.ref x.1) (.ref y.1)) Q E s :=
  (nestedKind P w).eqBool hu ⟨fx.isk, fx.deep⟩ ⟨fy.isk, fy.deep⟩ q
/-- a look among members tells nothing -/
theorem unseen {x : Mb} (fx : Fit s.heap x) {Q : Bool → Shared → Prop} (q : Q false s) (ys : List Value) (hy : ∀ y ∈ ys, ∃ p : Mb, y = Value.ref p.1 ∧ Fit s.heap p) : wpAny (model P w) A (searchCouldBeSeen (.ref x.1) ys) Q E s := by
  unfold searchCouldBeSeen
  refine wpAny_bind ?_
  refine wpAny_forIn_list _ (fun us st s2 => (s2 = s ∧ st.1 = none) ∧ ∀ u ∈ us, ∃ p : Mb, u = Value.ref p.1 ∧ Fit s.heap p) _ ?_ ?_ _ _ ⟨⟨rfl, rfl⟩, hy⟩
  · intro u us st s2 ⟨⟨e1, e2⟩, f⟩
    subst e1
    obtain ⟨p, rfl, fp⟩ := f u (List.mem_cons_self ..)
    have more : ∀ u ∈ us, ∃ p : Mb, u = Value.ref p.1 ∧ Fit s2.heap p := fun v hv => f v (List.mem_cons_of_mem _ hv)
    dsimp only
    by_cases c : (x.1 == p.1 || (carriedByValue (.ref x.1) && carriedByValue (.ref p.1))) = true
    · rw [if_pos c]
      exact wpAny_pure ⟨⟨rfl, rfl⟩, more⟩
    · rw [if_neg c]
      refine wpAny_bind (quiet_key _ _ 8 s2 fx.isk fx.deep _ _ _ ?_)
      refine wpAny_bind (quiet_key _ _ 8 s2 fp.isk fp.deep _ _ _ ?_)
      refine wpAny_bind (class_says _ _ 8 s2 fx.isk fx.deep _ _ _ ?_)
      refine wpAny_bind (class_says _ _ 8 s2 fp.isk fp.deep _ _ _ ?_)
      exact wpAny_pure ⟨⟨rfl, rfl⟩, more⟩
  · intro st s2 ⟨⟨e1, e2⟩, _⟩
    obtain ⟨st1, st2⟩ := st
    subst e1
    cases e2
    exact wpAny_pure q

/-- the search from the c-th place on: K is the first empty one -/
theorem look (R : NSet w s.heap a L es ep t) {x : Mb} (fx : Fit s.heap x) (hu : A.units + 8 < cLine) {K : Nat} (far : K < 10 * SetTable.turns t.mask) (free : way t.mask (x.2.hash w) K ∉ t.place.toList)
    (full : ∀ c, c < K → way t.mask (x.2.hash w) c ∈ t.place.toList) {Q : SetFound → Shared → Prop} (yes : x.2 ∈ L.map (·.2) → Q (.there none) s) (no : x.2 ∉ L.map (·.2) → Q (.free (way t.mask (x.2.hash w) K) false) s) :
    ∀ (f c : Nat) (from_ : Option SetTable.Probe), from_.getD (t.probeStart (x.2.hash w)) = stp t.mask (x.2.hash w) c → c ≤ K → K - c < f →
      (∀ (i : Nat) (p : Mb), L[i]? = some p → p.2 = x.2 → ∃ d, (c ≤ d ∧ d < K) ∧ t.place.toList[i]? = some (way t.mask (x.2.hash w) d)) →
      wpAny (model P w) A (setSearchFrom a (.ref x.1) (x.2.hash w) true f from_) Q E s
  | 0, _, _, _, _, lt, _ => absurd lt (Nat.not_lt_zero _)
  | f + 1, c, from_, e0, hc, lt, pos => by
    obtain ⟨o, ho, hex, hd⟩ := R.obj
    have way_at : ∀ q, (nth t.mask (stp t.mask (x.2.hash w) c) q).j = way t.mask (x.2.hash w) (c + q) := fun q => by rw [stp_on]
    have hash_at : ∀ (i : Nat) (p : Mb), L[i]? = some p → (fun i => (es[i]?.map (·.1)).getD 0) i = p.2.hash w := fun i p e => by
      show (es[i]?.map (·.1)).getD 0 = _
      rw [R.at_ e] <;> rfl
    have G := go_spec t R.tab.ris R.tab.dm (fun i => (es[i]?.map (·.1)).getD 0) (x.2.hash w) (10 * SetTable.turns t.mask) (K - c) (stp t.mask (x.2.hash w) c) (stp_dummy ..) (by omega)
      (fun q hq => by rw [way_at]; exact full _ (by omega)) (by rw [way_at, Nat.add_sub_of_le hc]; exact free)
    rw [setSearchFrom_succ]
    refine wpAny_bind (wpAny_setState_of ho hd R.fits ?_)
    dsimp only
    rw [if_neg (by rw [R.gives]; exact Bool.false_ne_true)]
    try refine wpAny_bind (wpAny_pure ?_)
    rcases G with ⟨q, i, hq, hi, hsame, early, met⟩ | ⟨early, met⟩
    · have met2 : t.probe (fun i => (es[i]?.map (·.1)).getD 0) (x.2.hash w) (from_.getD (t.probeStart (x.2.hash w))) = some (.candidate (way t.mask (x.2.hash w) (c + q)) i (stp t.mask (x.2.hash w) (c + (q + 1)))) := by
        rw [e0, ← way_at, ← stp_on]
        exact met
      rw [met2]
      dsimp only
      rw [way_at] at hi
      have il : i < L.length := by
        rw [← R.places, ← Array.length_toList]
        exact (List.getElem?_eq_some_iff.mp hi).1
      obtain ⟨p, hp⟩ : ∃ p, L[i]? = some p := ⟨_, List.getElem?_eq_getElem il⟩
      have pin := List.mem_of_getElem? hp
      have live := slot_live R.tab.ris hi
      have rest : wpAny (model P w) A (searchRest a (.ref x.1) (x.2.hash w) true f es t (way t.mask (x.2.hash w) (c + q)) i (stp t.mask (x.2.hash w) (c + (q + 1)))) Q E s := by
        unfold searchRest
        rw [R.at_ hp]
        dsimp only
        refine wpAny_bind (wpAny_holding (fit_eq (R.fit p pin) fx hu ?_))
        refine wpAny_bind (wpAny_setState_of ho hd R.fits ?_)
        dsimp only
        by_cases same : p.2 = x.2
        · rw [if_pos (by simp [same])]
          exact wpAny_pure (yes (List.mem_map.mpr ⟨p, pin, same⟩))
        · rw [if_neg (by simp [same])]
          try refine wpAny_bind (wpAny_pure ?_)
          rw [sameMem]
          dsimp only
          simp only [if_true, live, R.at_ hp]
          refine wpAny_bind (wpAny_isSame_ref_self (wpAny_bind (wpAny_pure ?_)))
          simp only [if_true]
          rw [if_neg (by simp [same])]
          refine look R fx hu far free full yes no f (c + (q + 1)) _ rfl (by omega) (by omega) fun i2 p2 h2 k2 => ?_
          obtain ⟨d, ⟨d1, d2⟩, d3⟩ := pos i2 p2 h2 k2
          refine ⟨d, ⟨?_, d2⟩, d3⟩
          have n1 : ¬ d < c + q := fun lt2 => by
            refine early (d - c) i2 (by omega) ?_ ((hash_at i2 p2 h2).trans (by rw [k2]))
            rw [way_at, Nat.add_sub_of_le d1]
            exact d3
          have n2 : d ≠ c + q := fun ed => by
            subst ed
            have l2 := slot_live R.tab.ris d3
            rw [live] at l2
            injection l2 with l2
            subst l2
            rw [hp] at h2
            cases h2
            exact same k2
          omega
      by_cases hl : t.led = true
      · rw [if_neg (by rw [hl]; decide)]
        try refine wpAny_bind (wpAny_pure ?_)
        exact rest
      · rw [if_pos (by simpa using hl)]
        refine wpAny_bind (unseen fx ?_ _ fun y hy => ?_)
        · rw [if_neg Bool.false_ne_true]
          try refine wpAny_bind (wpAny_pure ?_)
          exact rest
        · obtain ⟨e, e1, e2⟩ := List.mem_map.mp hy
          have e3 : e ∈ es.toList := by
            have z : e ∈ es ∧ e.1 = x.2.hash w := by simpa using e1
            simpa using z.1
          rw [R.rows] at e3
          obtain ⟨p2, p3, p4⟩ := List.mem_map.mp e3
          exact ⟨p2, by rw [← e2, ← p4], R.fit p2 p3⟩
    · have met2 : t.probe (fun i => (es[i]?.map (·.1)).getD 0) (x.2.hash w) (from_.getD (t.probeStart (x.2.hash w))) = some (.empty (way t.mask (x.2.hash w) K) none) := by
        rw [e0]
        have z := way_at (K - c)
        rw [Nat.add_sub_of_le hc] at z
        rw [← z]
        exact met
      rw [met2]
      refine wpAny_pure (no fun hm => ?_)
      obtain ⟨p, p1, p2⟩ := List.mem_map.mp hm
      obtain ⟨i, i1, i2⟩ := List.getElem_of_mem p1
      have ip : L[i]? = some p := by rw [List.getElem?_eq_getElem i1, i2]
      obtain ⟨d, ⟨d1, d2⟩, d3⟩ := pos i p ip p2
      refine early (d - c) i (by omega) ?_ ((hash_at i p ip).trans (by rw [p2]))
      rw [way_at, Nat.add_sub_of_le d1]
      exact d3

/-- the search that adding does -/
theorem look_all (R : NSet w s.heap a L es ep t) {x : Mb} (fx : Fit s.heap x) (hu : A.units + 8 < cLine) {Q : SetFound → Shared → Prop} (yes : x.2 ∈ L.map (·.2) → Q (.there none) s)
    (no : ∀ K, x.2 ∉ L.map (·.2) → way t.mask (x.2.hash w) K ∉ t.place.toList → (∀ c, c < K → way t.mask (x.2.hash w) c ∈ t.place.toList) → Q (.free (way t.mask (x.2.hash w) K) false) s) :
    wpAny (model P w) A (setSearch a (.ref x.1) (x.2.hash w) true) Q E s := by
  have wd := R.wide
  obtain ⟨K, far, free, full⟩ := R.tab.first (by rw [tabHs_len]; omega) (x.2.hash w)
  have few : K < 100000 := by
    have b : 10 * SetTable.turns t.mask ≤ 2000 := by
      unfold SetTable.turns
      rcases R.tab.mok with e | e | e <;> rw [e] <;> decide
    omega
  unfold setSearch
  refine look R fx hu far free full yes (fun z => no K z free full) 100000 0 none rfl (Nat.zero_le _) (by omega) fun i p e1 e2 => ?_
  have il : i < t.place.toList.length := by
    rw [Array.length_toList, R.places]
    exact (List.getElem?_eq_some_iff.mp e1).1
  have g := List.getElem?_eq_getElem il
  obtain ⟨d, d1, d2⟩ := R.tab.before free (by rw [tabHs_get e1, e2]) g
  exact ⟨d, ⟨Nat.zero_le _, d1⟩, by rw [g, d2]⟩
end
end SL

set_option maxRecDepth 100000
/-! Sets of nested tuples: a member put in. -/
namespace SL
open PySem PySem.Spec PyProof.Rows L2
set_option autoImplicit false
theorem Fit.other {h h' : Heap} {a : Addr} {o : Obj} {es : Array (Int × Value)} {ep : Nat} {t : SetTable} {p : Mb} (f : Fit h p) (ho : h.get? a = some o) (hd : o.data = .set es ep t) (sb : Heap.SameBut a h h') : Fit h' p :=
  ⟨NestedIs.at (fun b ob vs n e1 e2 => (sb.2 b fun eb => by
    subst eb
    rw [ho] at e1
    cases e1
    rw [hd] at e2
    cases e2).trans e1) _ _ f.isk, f.deep, f.still⟩
theorem Fit.keep {h h' : Heap} {p : Mb} (f : Fit h p) (k : ∀ b o, h.get? b = some o → h'.get? b = some o) : Fit h' p := ⟨NestedIs.at (fun b o vs n e _ => k b o e) _ _ f.isk, f.deep, f.still⟩
theorem NSet.keep {w : World} {h h' : Heap} {a : Addr} {L : List Mb} {es : Array (Int × Value)} {ep : Nat} {t : SetTable} (R : NSet w h a L es ep t) (k : ∀ b o, h.get? b = some o → h'.get? b = some o) : NSet w h' a L es ep t := by
  obtain ⟨o, ho, r⟩ := R.obj
  exact { R with obj := ⟨o, k a o ho, r⟩, fit := fun p hp => (R.fit p hp).keep k }
/-- the rows laid in another order are those of a permutation -/
theorem reorder {w : World} {L : List Mb} {es : Array (Int × Value)} (hr : es.toList = tabRows w L) (js : List Nat) (lt : ∀ j ∈ js, j < L.length) :
    (js.filterMap fun j => es[j]?) = tabRows w (js.filterMap fun j => L[j]?) ∧ tabHs w (js.filterMap fun j => L[j]?) = js.map fun j => (es.map (·.1)).getD j 0 := by
  induction js with
  | nil => exact ⟨rfl, rfl⟩
  | cons j js ih =>
    obtain ⟨h1, h2⟩ := ih fun i hi => lt i (List.mem_cons_of_mem _ hi)
    have jl := lt j (List.mem_cons_self ..)
    have ej : es[j]? = some ((L[j]).2.hash w, Value.ref (L[j]).1) := by
      rw [← Array.getElem?_toList, hr]
      unfold tabRows
      rw [List.getElem?_map, List.getElem?_eq_getElem jl] <;> rfl
    rw [List.filterMap_cons_some ej, List.filterMap_cons_some (List.getElem?_eq_getElem jl)]
    refine ⟨by rw [h1] <;> rfl, ?_⟩
    have eh : (es.map (·.1)).getD j 0 = (L[j]).2.hash w := by simp [Array.getD_eq_getD_getElem?, ej]
    rw [List.map_cons, eh, ← h2]
    rfl
theorem pick_all {α : Type} (L : List α) : ((List.range L.length).filterMap fun j => L[j]?) = L := by
  have go : ∀ m, m ≤ L.length → ((List.range m).filterMap fun j => L[j]?) = L.take m := fun m => by
    induction m with
    | zero => exact fun _ => rfl
    | succ m ih =>
      intro hm
      rw [List.range_succ, List.filterMap_append, ih (by omega), List.take_succ, List.getElem?_eq_getElem (by omega), List.filterMap_cons_some (List.getElem?_eq_getElem (by omega))]
      rfl
  rw [go _ (Nat.le_refl _), List.take_length]
section
variable {P : Program} {w : World} {A : Around} {E : Value → Shared → Prop} {s : Shared} {a : Addr} {L : List Mb} {es : Array (Int × Value)} {ep : Nat} {t : SetTable}
/-- laid anew -/
theorem relay {o : Obj} (ho : s.heap.get? a = some o) (hex : o.ExactSet) (hd : o.data = .set es ep t) (hr : es.toList = tabRows w L) (hp : t.place.size = es.size) (hdm : t.dummies = #[]) (hm : es.size ≤ t.mask) (uq : (L.map (·.2)).Nodup)
    (ft : ∀ p ∈ L, Fit s.heap p) (fl : t.plain = true) (ld : w.params.followText "set-order" = true ∨ t.led = true) (few : L.length < 64) {wanted M : Nat} (e1 : SetTable.sizeAbove wanted - 1 = M) (e2 : MaskOk M) (e3 : SetTable.sizeAbove wanted ≤ 128)
    (e4 : L.length * 5 < M * 3) {Q : Unit → Shared → Prop} (q : ∀ h' L' es' ep' t', Heap.SameBut a s.heap h' → NSet w h' a L' es' ep' t' → L'.Perm L → Q () { s with heap := h' }) : wpAny (model P w) A (setRelay a wanted) Q E s := by
  have el : es.size = L.length := by
    rw [← Array.length_toList, hr]
    unfold tabRows
    rw [List.length_map]
  have ff : t.fits es.size = true := by
    unfold SetTable.fits SetTable.fill
    rw [hdm]
    simp only [Bool.and_eq_true, beq_iff_eq, decide_eq_true_eq, Array.size_empty, Nat.add_zero]
    show t.place.size = es.size ∧ t.place.size ≤ t.mask
    omega
  obtain ⟨t2, ord, laid, pm, T2, m2, l2, p2, d2⟩ := relaid_ok t (hs := es.map (·.1)) (wanted := wanted) e1 e2 (by rw [Array.size_map, el]; omega)
  rw [Array.size_map, el] at pm
  obtain ⟨r1, r2⟩ := reorder hr ord.toList fun j hj => List.mem_range.mp (pm.mem_iff.mp hj)
  have pL : (ord.toList.filterMap fun j => L[j]?).Perm L := by
    have z := pm.filterMap fun j => L[j]?
    rw [pick_all] at z
    exact z
  generalize (ord.toList.filterMap fun j => L[j]?) = L2 at r1 r2 pL
  rw [← r2] at T2
  have rows2 : (ord.filterMap (es[·]?)).toList = tabRows w L2 := by rw [Array.toList_filterMap]; exact r1
  have sz2 : (ord.filterMap (es[·]?)).size = es.size := by
    rw [← Array.length_toList, rows2, el]
    unfold tabRows
    rw [List.length_map, pL.length_eq]
  rw [setRelay_eq]
  refine wpAny_bind (wpAny_setState_of ho hd ff ?_)
  dsimp only
  rw [if_neg (by rw [sizeLine_eq]; omega)]
  try refine wpAny_bind (wpAny_pure ?_)
  rw [laid]
  dsimp only
  refine wpAny_bind ?_
  rw [if_neg (by rw [sz2]; simp)]
  try refine wpAny_bind (wpAny_pure ?_)
  refine wpAny_pure ?_
  dsimp only
  refine wpAny_storeSet_of ho hd ?_ (by rw [sz2, el, sizeLine_eq]; omega)
  have sb : Heap.SameBut a s.heap (s.heap.update a (Obj.putSet (ord.filterMap (es[·]?)) t2)) := Heap.SameBut.update ..
  refine q _ L2 (ord.filterMap (es[·]?)) (ep + 1) t2 sb ?_ pL
  exact {
    obj := ⟨_, store_at ho hd, ⟨hex.1, hex.2.1, hex.2.2⟩, rfl⟩
    rows := rows2
    tab := T2
    uniq := (pL.map (·.2)).nodup_iff.mpr uq
    fit := fun p hp => (ft p (pL.mem_iff.mp hp)).other ho hd sb
    flat := by rw [p2]; exact fl
    led := by rw [l2]; exact ld
    wide := by rw [pL.length_eq, m2]; exact e4
    few := by rw [pL.length_eq]; exact few }

/-- one put in -/
theorem put_in (R : NSet w s.heap a L es ep t) {x : Mb} (fx : Fit s.heap x) (hu : A.units + 8 < cLine) (few : x.2 ∉ L.map (·.2) → L.length + 1 < 64) {Q : Bool → Shared → Prop}
    (q : ∀ b h' L' es' ep' t', Heap.SameBut a s.heap h' → NSet w h' a L' es' ep' t' → (x.2 ∈ L.map (·.2) → L' = L) → (x.2 ∉ L.map (·.2) → L'.Perm (x :: L)) → Q b { s with heap := h' }) :
    wpAny (model P w) A (setAddHashed a (.ref x.1) (x.2.hash w)) Q E s := by
  obtain ⟨o, ho, hex, hd⟩ := R.obj
  have el := R.size
  have wd := R.wide
  unfold setAddHashed
  refine wpAny_holding ?_
  rw [show (100000 : Nat) = 99999 + 1 from rfl, setAddHashedIn_succ]
  refine wpAny_bind (wpAny_setState_of ho hd R.fits ?_)
  dsimp only
  rw [if_neg (by simp [byScan, Value.scannable])]
  try refine wpAny_bind (wpAny_pure ?_)
  refine wpAny_bind (look_all R fx hu (fun hm => ?_) fun K hm free full => ?_)
  · exact wpAny_pure (q false s.heap L es ep t (Heap.SameBut.refl a s.heap) R (fun _ => rfl) fun z => absurd hm z)
  · have few := few hm
    dsimp only
    refine wpAny_bind (wpAny_setState_of ho hd R.fits ?_)
    dsimp only
    obtain ⟨q1, q2, q3, q4, q5, q6, _, _, q9⟩ := R.tab.put free full
    have flat2 := q6.trans R.flat
    generalize hpt : t.put (way t.mask (x.2.hash w) K) = pt at q1 q3 q4 q5 q6 q9 flat2 ⊢
    obtain ⟨t1, pl⟩ := pt
    dsimp only at q1 q3 q4 q5 q6 q9 flat2 ⊢
    rw [← q1] at q2 q3
    rw [tabHs_len] at q2 q9
    have hb : Says P w (hashByValue 8 (.ref x.1)) true s := hash_says _ _ 8 s fx.isk fx.still fx.deep
    first
      | (refine wpAny_bind ?_; rw [if_pos flat2]; refine hb _ _ _ ?_)
      | (rw [if_pos flat2]; refine wpAny_bind (hb _ _ _ ?_))
    simp only [if_true]
    have pm : (L.take pl ++ x :: L.drop pl).Perm (x :: L) := by
      have z : (L.take pl ++ x :: L.drop pl).Perm (x :: (L.take pl ++ L.drop pl)) := List.perm_middle
      rwa [List.take_append_drop] at z
    have rows1 : (SetTable.insertAt es pl (x.2.hash w, Value.ref x.1)).toList = tabRows w (L.take pl ++ x :: L.drop pl) := by
      rw [SetTable.toList_insertAt, R.rows]
      unfold tabRows
      rw [List.map_append, List.map_cons, List.map_take, List.map_drop]
    have hs1 : tabHs w (L.take pl ++ x :: L.drop pl) = (tabHs w L).take pl ++ x.2.hash w :: (tabHs w L).drop pl := by
      unfold tabHs
      rw [List.map_append, List.map_cons, List.map_take, List.map_drop]
    rw [← hs1] at q3
    generalize L.take pl ++ x :: L.drop pl = L1 at pm rows1 q3
    have len1 : L1.length = L.length + 1 := pm.length_eq
    have sz1 : (SetTable.insertAt es pl (x.2.hash w, Value.ref x.1)).size = L.length + 1 := by
      rw [← Array.length_toList, rows1, ← len1]
      unfold tabRows
      rw [List.length_map]
    have uq1 : (L1.map (·.2)).Nodup := (pm.map (·.2)).nodup_iff.mpr (by rw [List.map_cons]; exact List.nodup_cons.mpr ⟨hm, R.uniq⟩)
    generalize SetTable.insertAt es pl (x.2.hash w, Value.ref x.1) = es1 at rows1 sz1 ⊢
    refine wpAny_bind (wpAny_storeSet_of ho hd ?_ (by rw [sz1, sizeLine_eq]; omega))
    have sb : Heap.SameBut a s.heap (s.heap.update a (Obj.putSet es1 t1)) := Heap.SameBut.update ..
    have ho1 := store_at (es' := es1) (t' := t1) ho hd
    generalize s.heap.update a (Obj.putSet es1 t1) = h1 at sb ho1 ⊢
    have ft1 : ∀ p ∈ L1, Fit h1 p := fun p hp => by
      rcases List.mem_cons.mp (pm.mem_iff.mp hp) with e | hp
      · exact e ▸ fx.other ho hd sb
      · exact (R.fit p hp).other ho hd sb
    have ld1 : w.params.followText "set-order" = true ∨ t1.led = true := by rw [q5]; exact R.led
    by_cases full1 : t1.tooFull = true
    · have big : (L.length + 1) * 5 ≥ t1.mask * 3 := by
        have z := full1
        unfold SetTable.tooFull at z
        rw [decide_eq_true_eq, q9] at z
        exact z
      have pls1 : t1.place.size = es1.size := by rw [q3.sz, tabHs_len, len1, sz1]
      have two : (t.mask = 7 ∧ L.length = 4) ∨ (t.mask = 31 ∧ L.length = 18) := by
        rcases R.tab.mok with e | e | e
        · exact .inl ⟨e, by rw [q4, e] at big; rw [e] at wd; omega⟩
        · exact .inr ⟨e, by rw [q4, e] at big; rw [e] at wd; omega⟩
        · exfalso; rw [q4, e] at big; omega
      have go : ∀ M, SetTable.sizeAbove (SetTable.grown (L.length + 1)) - 1 = M → MaskOk M → SetTable.sizeAbove (SetTable.grown (L.length + 1)) ≤ 128 → (L.length + 1) * 5 < M * 3 →
          wpAny (model P w) A (setRelay a (SetTable.grown (L.length + 1))) (fun _ s' => wpAny (model P w) A (pure true) Q E s') E { s with heap := h1 } := fun M z1 z2 z3 z4 => by
        refine relay (s := { s with heap := h1 }) ho1 ⟨hex.1, hex.2.1, hex.2.2⟩ rfl rows1 pls1 q3.dm (by rw [sz1, q4]; rcases two with ⟨e, e2⟩ | ⟨e, e2⟩ <;> omega) uq1 ft1 flat2 ld1 (by rw [len1]; exact few) z1 z2 z3 (by rw [len1]; exact z4) ?_
        exact fun h2 L2 es2 ep2 t2 sb2 R2 pm2 => wpAny_pure (q true h2 L2 es2 ep2 t2 (sb.trans sb2) R2 (fun z => absurd z hm) fun _ => pm2.trans pm)
      rw [el]
      have fin : wpAny (model P w) A (setRelay a (SetTable.grown (L.length + 1))) (fun _ s' => wpAny (model P w) A (pure true) Q E s') E { s with heap := h1 } := by
        rcases two with ⟨_, e⟩ | ⟨_, e⟩
        · exact go 31 (by rw [e, size_20]) (.inr (.inl rfl)) (by rw [e, size_20]; decide) (by omega)
        · exact go 127 (by rw [e, size_76]) (.inr (.inr rfl)) (by rw [e, size_76]; decide) (by omega)
      first
        | (refine wpAny_bind ?_; rw [if_pos (by simp [full1])]; exact fin)
        | (rw [if_pos (by simp [full1])]; exact wpAny_bind fin)
    · have fin : wpAny (model P w) A (pure true) Q E { s with heap := h1 } := by
        refine wpAny_pure (q true h1 L1 es1 (ep + 1) t1 sb ?_ (fun z => absurd z hm) fun _ => pm)
        refine { obj := ⟨_, ho1, ⟨hex.1, hex.2.1, hex.2.2⟩, rfl⟩, rows := rows1, tab := q3, uniq := uq1, fit := ft1, flat := flat2, led := ld1, wide := ?_, few := by rw [len1]; exact few }
        have z := full1
        unfold SetTable.tooFull at z
        rw [decide_eq_true_eq, q9] at z
        rw [len1]
        omega
      first
        | (rw [if_neg (by simp [full1])]; exact fin)
        | (refine wpAny_bind ?_; rw [if_neg (by simp [full1])]; exact wpAny_pure fin)
end
end SL

set_option maxRecDepth 100000
/-! set(xs), xs a list of nested tuples. -/
namespace SL
open PySem PySem.Spec PyProof.Rows L2
set_option autoImplicit false
/-- what the set has of the first i members -/
structure Has (ks : List Mb) (i : Nat) (L : List Mb) : Prop where
  sub : ∀ p ∈ L, p ∈ ks.take i
  all : ∀ p ∈ ks.take i, p.2 ∈ L.map (·.2)
theorem Has.next {ks L L' : List Mb} {i : Nat} {x : Mb} (g : Has ks i L) (e : ks[i]? = some x) (old : x.2 ∈ L.map (·.2) → L' = L) (new : x.2 ∉ L.map (·.2) → L'.Perm (x :: L)) : Has ks (i + 1) L' := by
  have tk : ks.take (i + 1) = ks.take i ++ [x] := by rw [List.take_succ, e] <;> rfl
  rcases Classical.em (x.2 ∈ L.map (·.2)) with c | c
  · rw [old c]
    refine ⟨fun p hp => by rw [tk]; exact List.mem_append_left _ (g.sub p hp), fun p hp => ?_⟩
    rw [tk] at hp
    rcases List.mem_append.mp hp with z | z
    · exact g.all p z
    · rw [List.mem_singleton.mp z]; exact c
  · have pm := new c
    refine ⟨fun p hp => ?_, fun p hp => ?_⟩
    · rw [tk]
      rcases List.mem_cons.mp (pm.mem_iff.mp hp) with z | z
      · rw [z]; exact List.mem_append_right _ (List.mem_singleton.mpr rfl)
      · exact List.mem_append_left _ (g.sub p z)
    · rw [(pm.map (·.2)).mem_iff, List.map_cons]
      rw [tk] at hp
      rcases List.mem_append.mp hp with z | z
      · exact List.mem_cons_of_mem _ (g.all p z)
      · rw [List.mem_singleton.mp z]; exact List.mem_cons_self
/-- few unlike ones -/
def Few (ks : List Mb) : Prop := ∀ L : List Mb, (L.map (·.2)).Nodup → (∀ p ∈ L, p ∈ ks) → L.length < 64
section
variable {P : Program} {w : World} {A : Around} {E : Value → Shared → Prop} {s : Shared}
abbrev newSet (w : World) : Obj := { cls := .type "set", dict := none, data := .set #[] 0 (.fresh 0 0 (!w.params.followText "set-order")) }
theorem nset_new {h : Heap} {a : Addr} (ho : h.get? a = some (newSet w)) : NSet w h a [] #[] 0 (.fresh 0 0 (!w.params.followText "set-order")) := by
  refine { obj := ⟨_, ho, ⟨rfl, rfl, rfl⟩, rfl⟩, rows := rfl, tab := ⟨List.Pairwise.nil, rfl, rfl, .inl rfl, fun x hx => (by cases hx), fun i h j hi => (by simp [tabHs] at hi)⟩, uniq := List.nodup_nil, fit := fun p hp => (by cases hp), flat := rfl, led := ?_, wide := ?_, few := (by decide) }
  · show _ ∨ (!w.params.followText "set-order") = true
    cases w.params.followText "set-order"
    · exact .inr rfl
    · exact .inl rfl
  · show 0 * 5 < 7 * 3
    decide
theorem loop_in {I : Addr} {fp wr : List Addr} {G : Array GenState → Array GenState → Prop} {n : Nat} {V : Nat → Value → Prop} {St : Nat → Shared → Prop} {R : Result → Shared → Prop}
    (W : WalksS P w A.in1 I fp wr G n V St) (S : Addr) (apart : S ∉ fp) (ks : List Mb) (hn : n = ks.length) (few : Few ks) (val : ∀ i v, V i v → ∃ p, ks[i]? = some p ∧ v = .ref p.1)
    (h0 : Heap) (hk : ∀ p ∈ ks, Fit h0 p) (newS : h0.get? S = none) (newW : ∀ b ∈ wr, h0.get? b = none) (hu : A.in1.units + 8 < cLine) :
    ∀ (m i : Nat) (s : Shared), n - i = m → i ≤ n → St i s → (∀ b o, h0.get? b = some o → s.heap.get? b = some o) → (∃ L es ep t, NSet w s.heap S L es ep t ∧ Has ks i L) →
      (∀ s' L es ep t, Moved (S :: wr) G s s' → NSet w s'.heap S L es ep t → Has ks n L → (∀ b o, h0.get? b = some o → s'.heap.get? b = some o) → R (.ok (.ret .none)) s') →
      codeAny (model P w) A (.builtin "set.update.loop" ⟨[.ref S, .ref I], []⟩) R s := by
  have nw : S ∉ wr := fun z => apart (W.sub _ z)
  have more : ∀ b ∈ wr, b ∈ S :: wr := fun b hb => List.mem_cons_of_mem _ hb
  have carry : ∀ {s s' : Shared}, Moved wr G s s' → (∀ b o, h0.get? b = some o → s.heap.get? b = some o) → ∀ b o, h0.get? b = some o → s'.heap.get? b = some o := fun mv kp b o e =>
    mv.heap b o (fun hb => by rw [newW b hb] at e; cases e) (kp b o e)
  -- the set stays while the walk goes on
  have hold : ∀ {s s' : Shared} {i : Nat} {L : List Mb} {es : Array (Int × Value)} {ep : Nat} {t : SetTable}, Moved wr G s s' → (∀ b o, h0.get? b = some o → s'.heap.get? b = some o) → Has ks i L → NSet w s.heap S L es ep t → NSet w s'.heap S L es ep t := by
    intro s s' i L es ep t mv kp g R
    obtain ⟨o, ho, r⟩ := R.obj
    exact { R with obj := ⟨o, mv.heap S o nw ho, r⟩, fit := fun p hp => (hk p (List.mem_of_mem_take (g.sub p hp))).keep kp }
  intro m
  induction m with
  | zero =>
    intro i s hm hi st kp ⟨L, es, ep, t, R, g⟩ fin
    obtain rfl : i = n := by omega
    refine codeAny_builtin F.entry_set_update_loop ?_
    rw [Around.under_plainId F.plain_set_update_loop _]
    refine wpAny_bind (m := pyNext (.ref I)) (W.done s _ _ st fun s' mv => ?_)
    have kp' := carry mv kp
    exact wpAny_pure (fin s' L es ep t (mv.mono more) (hold mv kp' g R) g kp')
  | succ m ih =>
    intro i s hm hi st kp ⟨L, es, ep, t, R, g⟩ fin
    have lt : i < n := by omega
    refine codeAny_builtin F.entry_set_update_loop ?_
    rw [Around.under_plainId F.plain_set_update_loop _]
    refine wpAny_bind (m := pyNext (.ref I)) (W.item i s _ _ lt st fun v s' hv st' mv => ?_)
    obtain ⟨p, hp, rfl⟩ := val i v hv
    have kp' := carry mv kp
    have R' := hold mv kp' g R
    have pk := List.mem_of_getElem? hp
    have fp' : Fit s'.heap p := (hk p pk).keep kp'
    show wpAny _ A.in1 (holding [Value.ref p.1] (setAdd S (.ref p.1)) >>= _) _ _ s'
    refine wpAny_bind (wpAny_holding ?_)
    unfold setAdd
    refine wpAny_holding ?_
    refine wpAny_bind (pyHash_key p.2 _ _ _ _ fp'.isk (by have := fp'.deep; omega) ?_)
    refine put_in (s := { s' with toks := s'.toks + p.2.draws }) R' fp' hu (fun hn => ?_) fun b h' L' es' ep' t' sb R2 old new => ?_
    · exact few (p :: L) (by rw [List.map_cons]; exact List.nodup_cons.mpr ⟨hn, R.uniq⟩) fun q hq => by
        rcases List.mem_cons.mp hq with e | hq
        · exact e ▸ pk
        · exact List.mem_of_mem_take (g.sub q hq)
    have kp2 : ∀ b o, h0.get? b = some o → h'.get? b = some o := fun b o e => (sb.2 b fun z => by rw [z, newS] at e; cases e).trans (kp' b o e)
    refine wpAny_pure ⟨plainId_quiet F.plain_set_update_loop _, ih (i + 1) _ (by omega) lt (W.frame _ s' _ _ st' (Nat.le_add_right _ _) fun b hb o e => ?_) kp2 ⟨L', es', ep', t', R2, g.next hp old new⟩ fun s2 L2 es2 ep2 t2 mv2 R3 g3 kp3 => ?_⟩
    · rw [sb.2 b fun z : b = S => apart (z ▸ hb)]; exact e
    · refine fin s2 L2 es2 ep2 t2 (Moved.trans W.gtrans ((mv.mono more).then_heap (Nat.le_add_right _ _) fun b o hb e => ?_) mv2) R3 g3 kp3
      rw [sb.2 b fun z : b = S => hb (z ▸ List.mem_cons_self)]; exact e
end
end SL

set_option maxRecDepth 100000
set_option maxHeartbeats 3200000
/-! set(xs), xs a list of nested tuples: the call. -/
namespace SL
open PySem PySem.Spec PyProof.Rows L2
set_option autoImplicit false
section
variable {P : Program} {w : World} {A : Around} {E : Value → Shared → Prop} {s : Shared}
theorem beyond {h : Heap} {b : Addr} (e : h.objs.size ≤ b) : h.get? b = none := by
  cases q : h.get? b with
  | none => rfl
  | some o => exact absurd (Heap.lt_size q) (Nat.not_lt.mpr e)
/-- what set(xs) leaves -/
def Left (w : World) (ks : List Mb) (s : Shared) (h' : Heap) : Prop := ∃ L es ep t, NSet w h' s.heap.objs.size L es ep t ∧ Has ks ks.length L ∧ ∀ b o, s.heap.get? b = some o → h'.get? b = some o
theorem init_set {l : Addr} {its : Array Value} (ks : List Mb) {R : Result → Shared → Prop} (free : A.handled = none) (hl : s.heap.IsList l its) (eq : its.toList = ks.map fun p => Value.ref p.1) (hk : ∀ p ∈ ks, Fit s.heap p) (few : Few ks) (hu : A.units + 12 < cLine)
    (q : ∀ h' tk, Left w ks s h' → R (.ok (.ret .none)) { s with heap := h', toks := tk }) :
    codeAny (model P w) A (.call (.builtin "set.__init__") ⟨[.ref s.heap.objs.size, .ref l], []⟩) R { s with heap := s.heap.push (newSet w) } := by
  have nsz : its.size = ks.length := by rw [← Array.length_toList, eq, List.length_map]
  have atS : (s.heap.push (newSet w)).get? s.heap.objs.size = some (newSet w) := Heap.get?_push_size _ rfl
  have tyS : Shared.TypeIs { s with heap := s.heap.push (newSet w) } (.ref s.heap.objs.size) "set" := ⟨_, atS, rfl⟩
  have isL : (s.heap.push (newSet w)).IsList l its := hl.push _
  refine codeAny_call_builtin (R := R) F.called_set.init.plain F.entry_set_init (check_set_init_1 tyS ?_)
  obtain ⟨ol, g1, g2, nl, g3⟩ := id isL
  obtain ⟨oc, od, odt, osl⟩ := ol
  simp only at g2 g3
  subst g2; subst g3
  have s1 := F.sub_list_set
  have s2 := F.sub_list_frozenset
  have s3 : (Value.type "list" == Value.type "dict") = false := by decide
  unfold Builtin.«set.__init__» noKeywords Builtin.Frozenset.updateFrom
  generalize hI : pyIter = PI
  wp_walk
  subst hI
  refine wpAny_pyIter_list isL ?_
  refine wpAny_bind (wpAny_runValue ?_)
  have ll : l < s.heap.objs.size := by
    obtain ⟨o, ho, _⟩ := hl
    exact Heap.lt_size ho
  have sz : (s.heap.push (newSet w)).objs.size = s.heap.objs.size + 1 := Heap.size_push ..
  have w1 : l ≠ (s.heap.push (newSet w)).objs.size := by rw [sz]; exact Nat.ne_of_lt (Nat.lt_succ_of_lt ll)
  have w2 : s.heap.objs.size ∉ [(s.heap.push (newSet w)).objs.size, l] := by
    rw [sz]
    simp only [List.mem_cons, List.not_mem_nil, or_false, not_or]
    exact ⟨Nat.ne_of_lt (Nat.lt_succ_self _), Nat.ne_of_gt ll⟩
  refine loop_in ((Walks.list (by simp [free]) _ l w1 its).toS) s.heap.objs.size w2 ks nsz few (fun i v hv => ?_) s.heap hk (beyond (Nat.le_refl _))
    (fun b hb => beyond (by rw [List.mem_singleton.mp hb, sz]; exact Nat.le_succ _)) ?_ (its.size - 0) 0 _ (by omega) (Nat.zero_le _) ⟨⟨_, Heap.get?_push_size _ rfl, rfl, rfl⟩, isL.push _⟩ (fun b o e => Heap.get?_push_of_some _ (Heap.get?_push_of_some _ e))
    ⟨[], #[], 0, _, nset_new (Heap.get?_push_of_some _ atS), ⟨fun p hp => (by cases hp), fun p hp => (by simp at hp)⟩⟩ fun s' L es ep t mv R g kp => ?_
  · have z : its.toList[i]? = some v := by rw [Array.getElem?_toList]; exact hv
    rw [eq, List.getElem?_map] at z
    obtain ⟨p, e1, e2⟩ := Option.map_eq_some_iff.mp z
    exact ⟨p, e1, e2.symm⟩
  · show A.units + 1 + 1 + 8 < cLine
    omega
  · obtain ⟨h', g', d', tk', os'⟩ := s'
    have e1 : g' = s.gens := mv.gens
    have e2 : d' = s.drawn := mv.drawn
    have e3 : os' = s.os := mv.os
    subst e1 e2 e3
    rw [nsz] at g
    refine wpAny_pure ?_
    exact wpAny_pure (q h' tk' ⟨L, es, ep, t, R, g, kp⟩)
end
end SL

set_option maxRecDepth 100000
set_option maxHeartbeats 3200000
/-! set(xs) made by a call. -/
namespace SL
open PySem PySem.Spec PyProof.Rows L2
set_option autoImplicit false
section
variable {P : Program} {w : World} {A : Around} {E : Value → Shared → Prop} {s : Shared}
theorem make_set {l : Addr} {its : Array Value} (ks : List Mb) {Q : Value → Shared → Prop} (free : A.handled = none) (hl : s.heap.IsList l its) (eq : its.toList = ks.map fun p => Value.ref p.1) (hk : ∀ p ∈ ks, Fit s.heap p) (few : Few ks) (hu : A.units + 24 < cLine)
    (q : ∀ h' tk, Left w ks s h' → Q (.ref s.heap.objs.size) { s with heap := h', toks := tk }) : wpAny (model P w) A (call (.type "set") [.ref l]) Q E s := by
  obtain ⟨c, tl, mro⟩ := F.called_set.mro
  have made := F.called_set.made
  have subs := F.called_set.sub
  refine wpAny_call (codeAny_of_tree ?_)
  show wpAny _ _ (callAny (.type "set") _) _ _ s
  refine wpAny_pure ⟨Code.quiet_builtin _ (by decide +kernel), codeAny_builtin F.entry_type_call ?_⟩
  rw [Around.under_plain (weight_type_call_type "set" [.ref l] []) rfl]
  have c1 := F.called_set.notType
  have c2 := F.called_set.canCreate
  have c3 := F.typeCall_set_1 (.ref l)
  repeat (any_goals first | assumption | wp_step)
  refine codeAny_mono (code_set_led1 (.ref l) (E := E) (Q₁ := fun o s₁ => o = .ref s.heap.objs.size ∧ s₁ = { s with heap := s.heap.push (newSet w) }) ⟨rfl, rfl⟩) fun r s₁ hr => ?_
  cases r with
  | error e => exact hr
  | ok fl =>
    cases fl with
    | ret o =>
      obtain ⟨e1, e2⟩ := hr
      subst e1 e2
      have atS : (s.heap.push (newSet w)).get? s.heap.objs.size = some (newSet w) := Heap.get?_push_size _ rfl
      have tyS : Shared.TypeIs { s with heap := s.heap.push (newSet w) } (.ref s.heap.objs.size) "set" := ⟨_, atS, rfl⟩
      have look := F.called_set.init.lookup
      have bind := F.called_set.init.bind (.ref s.heap.objs.size)
      repeat (any_goals first | assumption | wp_step)
      refine codeAny_mono (init_set (R := wants (fun r s₂ => r = .none ∧ ∃ h' tk, s₂ = { s with heap := h', toks := tk } ∧ Left w ks s h') E) ks (by simp [free]) hl eq hk few ?_ fun h' tk z => ⟨rfl, h', tk, rfl, z⟩) fun r2 s2 hr2 => ?_
      · show A.units + _ + 12 < cLine
        omega
      · cases r2 with
        | error e => exact hr2
        | ok fl2 =>
          cases fl2 with
          | ret r =>
            obtain ⟨e1, h', tk, e2, z⟩ := hr2
            subst e1 e2
            repeat (any_goals first | assumption | wp_step)
            exact q h' tk z
          | _ => exact hr2.elim
    | _ => exact hr.elim
end
end SL

set_option maxRecDepth 100000
set_option maxHeartbeats 3200000
/-! sorted(x), x a set of nested tuples. -/
namespace SL
open PySem PySem.Spec PyProof.Rows L2 PySem.W
set_option autoImplicit false
/-- addresses that are members' ones, in what order they come -/
theorem as_members {L : List Mb} : ∀ vs : List Value, (∀ v ∈ vs, ∃ p ∈ L, v = Value.ref p.1) → ∃ M : List Mb, vs = M.map (fun p => Value.ref p.1) ∧ ∀ p ∈ M, p ∈ L
  | [], _ => ⟨[], rfl, fun p hp => nomatch hp⟩
  | v :: vs, h => by
    obtain ⟨p, p1, p2⟩ := h v (List.mem_cons_self ..)
    obtain ⟨M, m1, m2⟩ := as_members vs fun u hu => h u (List.mem_cons_of_mem _ hu)
    refine ⟨p :: M, by rw [p2, m1] <;> rfl, fun q hq => ?_⟩
    rcases List.mem_cons.mp hq with e | hq
    · exact e ▸ p1
    · exact m2 q hq
theorem nodup_un {α β : Type} (f : α → β) {l : List α} (h : (l.map f).Nodup) : l.Nodup := List.Pairwise.of_map f (fun _ _ ne e => ne (congrArg f e)) h
theorem each_self {R : Value → Mb → Prop} : ∀ M : List Mb, (∀ p ∈ M, R (.ref p.1) p) → EachIs R (M.map fun p => Value.ref p.1) M
  | [], _ => .nil
  | p :: M, h => .cons (h p (List.mem_cons_self ..)) (each_self M fun q hq => h q (List.mem_cons_of_mem _ hq))
theorem each_refs : ∀ {out : List Value} {M : List Mb}, EachIs (fun v p => v = Value.ref p.1) out M → out = M.map fun p => Value.ref p.1
  | _, _, .nil => rfl
  | _, _, .cons h t => by rw [h, each_refs t] <;> rfl
section
variable {P : Program} {w : World} {A : Around} {E : Value → Shared → Prop} {s : Shared} {a : Addr} {L : List Mb} {es : Array (Int × Value)} {ep : Nat} {t : SetTable}
theorem sort_set (R : NSet w s.heap a L es ep t) (free : A.handled = none) (rd : ∀ p ∈ L, Reads s.heap (.ref p.1) p.2.data []) (al : AllAlike (L.map fun p => p.2.data)) (so : Sortable (L.map fun p => p.2.data)) (dp : ∀ p ∈ L, p.2.data.depth ≤ 8) (hu : A.units + 24 < cLine) {Q : Value → Shared → Prop}
    (q : ∀ s' b out c (M : List Mb), (∀ x o, s.heap.get? x = some o → s'.heap.get? x = some o) → s'.gens = s.gens → s'.os = s.os → s.heap.objs.size ≤ b → s'.heap.get? b = some (seqObj "list" out c) → M.Perm L →
      out.toList = (M.mergeSort (dataLe false fun p : Mb => p.2.data)).map (fun p => Value.ref p.1) → Q (.ref b) s') :
    wpAny (model P w) A (call (.builtin "sorted") [.ref a]) Q E s := by
  obtain ⟨o, ho, hex, hd⟩ := R.obj
  have sz := R.size
  have few := R.few
  refine Calls.call_function_entry kind_sorted plain_sorted entry_sorted (args_sorted1 _) ?_
  unfold Builtin.«sorted»
  refine wpAny_bind (m := checkCount "sorted" 1 1 _) (wpAny_pure ?_)
  refine wpAny_bind (collect_set (A := A.in1) free ⟨o, ho, hex.1, hd⟩ R.fits (by unfold scanBound; omega) R.tab.ris R.led fun s1 vs k1 z1 g1 o1 pm => ?_)
  have vals : es.toList.map (·.2) = L.map fun p => Value.ref p.1 := by
    rw [R.rows]
    unfold tabRows
    rw [List.map_map] <;> rfl
  rw [vals] at pm
  obtain ⟨M, m1, m2⟩ := as_members (L := L) vs fun v hv => by
    obtain ⟨p, p1, p2⟩ := List.mem_map.mp (pm.mem_iff.mp hv)
    exact ⟨p, p1, p2.symm⟩
  subst m1
  have one : ∀ p ∈ L, ∀ r ∈ L, p.1 = r.1 → p = r := fun p hp r hr e => by
    have f1 := (R.fit p hp).isk
    have f2 := (R.fit r hr).isk
    rw [e] at f1
    exact Prod.ext e (NestedIs.inj _ _ _ f1 f2)
  have pM : M.Perm L := by
    have nL : L.Nodup := nodup_un _ R.uniq
    have nR : (L.map fun p => Value.ref p.1).Nodup := by
      refine List.pairwise_map.mpr (List.Pairwise.imp_of_mem (fun {p r} hp hr ne e => ?_) nL)
      injection e with e
      exact ne (one p hp r hr e)
    have nM : M.Nodup := nodup_un _ (pm.nodup_iff.mpr nR)
    refine (List.perm_ext_iff_of_nodup nM nL).mpr fun p => ⟨m2 p, fun hp => ?_⟩
    obtain ⟨r, r1, r2⟩ := List.mem_map.mp (pm.mem_iff.mpr (List.mem_map.mpr ⟨p, hp, rfl⟩))
    injection r2 with r2
    rw [← one r (m2 r r1) p hp r2]
    exact r1
  have ml : M.length < 64 := by rw [pM.length_eq]; exact few
  refine wpAny_bind (wpAny_newList ?_ (by rw [List.length_map, sizeLine_eq]; omega))
  have atN : (s1.heap.push (seqObj "list" (M.map fun p => Value.ref p.1).toArray 0)).get? s1.heap.objs.size = some (seqObj "list" (M.map fun p => Value.ref p.1).toArray 0) := Heap.get?_push_size _ rfl
  have pick : ∀ d ∈ M.map (fun p => p.2.data), d ∈ L.map fun p => p.2.data := fun d hd => by
    obtain ⟨p, p1, p2⟩ := List.mem_map.mp hd
    exact List.mem_map.mpr ⟨p, m2 p p1, p2⟩
  refine wpAny_bind (wpAny_holding (list_sort_data (s := { s1 with heap := s1.heap.push (seqObj "list" (M.map fun p => Value.ref p.1).toArray 0) }) (bs := M) (enc := fun p => p.2.data) (R := fun v p => v = Value.ref p.1) atN
    (each_self M fun _ _ => rfl) (each_self M fun p hp => ⟨[], PyProof.Rows.Reads.keeps (fun b u e => Heap.get?_push_of_some _ (k1 b u e)) (rd p (m2 p hp)), by simp⟩)
    (fun d hd e he => al d (pick d hd) e (pick e he)) ?_ (by rw [sizeLine_eq]; omega) (fun p hp => ?_) fun out ol oe => ?_))
  · rcases so with z | z
    · exact .inl fun d hd => z d (pick d hd)
    · exact .inr fun d hd => z d (pick d hd)
  · have z := dp p (m2 p hp)
    show A.units + 1 + 1 + p.2.data.depth < cLine
    omega
  · obtain ⟨c, hc⟩ := sortedHeap_at (vs := M.map fun p => Value.ref p.1) (out := out.toArray) atN
    refine wpAny_pure ⟨_, rfl, q _ s1.heap.objs.size out.toArray c M (fun b u e => ?_) g1 o1 z1 hc pM (by rw [each_refs oe])⟩
    have e1 := k1 b u e
    have lt := Heap.lt_size e1
    show (sortedHeap (s1.heap.push (seqObj "list" (M.map fun p => Value.ref p.1).toArray 0)) s1.heap.objs.size (M.map fun p => Value.ref p.1) out.toArray).get? b = some u
    rw [sortedHeap_old (Nat.ne_of_lt lt) (by rw [size_push']; exact Nat.lt_succ_of_lt lt)]
    exact Heap.get?_push_of_some _ e1
end
end SL

set_option maxRecDepth 100000
set_option maxHeartbeats 3200000
/-! max(xs, default=d), min(xs, default=d), xs a list of ints. -/
namespace SL
open PySem PySem.Spec PyProof.Rows L2
set_option autoImplicit false

theorem args_max_d (a d : Value) : argsOk "max" ⟨[a], [(Str.ofString "default", d)]⟩ := by unfold argsOk; kernel_rfl
def best_max (m : Int) (r : List Int) : Int := r.foldl (fun a b => if b > a then b else a) m
section
variable {P : Program} {w : World} {A : Around} {E : Value → Shared → Prop} {s : Shared} {R : Result → Shared → Prop} {I : Addr} {fp wr : List Addr} {n : Nat} {V : Nat → Value → Prop} {St : Nat → Heap → Prop}
theorem loop_max (W : Walks P w A.in1 I fp wr n V St) (ns : List Int) (hn : n = ns.length) (hv : ∀ i v, V i v → ∃ t, v = .int (ns.getD i 0) t) (kw : List (Str × Value)) (S : Addr) (apart : S ∉ fp) :
    ∀ (k j : Nat) (s : Shared) (m : Int) (t : Tok) (c : Nat), n - j = k → j ≤ n → St j s.heap → s.heap.get? S = some { cls := .type "list", dict := none, data := .seq #[.int m t, .int m t] c, slots := #[] } →
    (∀ u h' tk, (∀ b o, b ∉ wr → b ≠ S → s.heap.get? b = some o → h'.get? b = some o) → R (.ok (.ret (.int (best_max m (ns.drop j)) u))) { s with heap := h', toks := tk }) →
    codeAny (model P w) A (.builtin "max.loop" ⟨[.ref I, .none, .ref S], kw⟩) R s := by
  have nw : S ∉ wr := fun z => apart (W.sub _ z)
  have nm : (toString "max" ++ toString ".loop" : String) = "max.loop" := by decide
  intro k
  induction k with
  | zero =>
    intro j s m t c hk hj st hS fin
    obtain rfl : j = n := by omega
    refine codeAny_builtin F.entry_max_loop ?_
    rw [Around.under_plainId F.plain_max_loop _]
    show wpAny _ A.in1 (seqItems? (.ref S) >>= _) _ _ s
    refine wpAny_bind (wpAny_seqItems hS rfl ?_)
    show wpAny _ A.in1 (tryCatch (pyNext (.ref I)) _ >>= _) _ _ s
    refine wpAny_bind (wpAny_tryCatch (W.done s _ _ st fun h' tk kp => ?_))
    show wpAny _ A.in1 (updateSeq S (fun _ => #[]) >>= _) _ _ _
    refine wpAny_bind ?_
    refine wpAny_updateSeq (kp S _ nw hS) rfl (wpAny_bind (wpAny_letGo (wpAny_pure ?_)))
    have e : best_max m (ns.drop j) = m := by
      rw [List.drop_eq_nil_of_le (by omega)] <;> rfl
    rw [← e]
    exact fin t _ tk fun b o hb hbS e => (Heap.get?_update_other _ _ (Ne.symm hbS)).trans (kp b o hb e)
  | succ k ih =>
    intro j s m t c hk hj st hS fin
    have lt : j < n := by omega
    refine codeAny_builtin F.entry_max_loop ?_
    rw [Around.under_plainId F.plain_max_loop _]
    show wpAny _ A.in1 (seqItems? (.ref S) >>= _) _ _ s
    refine wpAny_bind (wpAny_seqItems hS rfl ?_)
    show wpAny _ A.in1 (tryCatch (pyNext (.ref I)) _ >>= _) _ _ s
    refine wpAny_bind (wpAny_tryCatch (W.item j s _ _ lt st fun v h' tk hvj st' kp => ?_))
    obtain ⟨u, rfl⟩ := hv j v hvj
    have hS' := kp S _ nw hS
    have dr : ns.drop j = ns.getD j 0 :: ns.drop (j + 1) := by
      rw [List.drop_eq_getElem_cons (by omega), List.getD_eq_getElem?_getD, List.getElem?_eq_getElem (by omega)]
      rfl
    have cmp : CmpOf P w A.in1 .Gt (fun i v => ∃ t, v = .int (if i = 0 then ns.getD j 0 else m) t) (fun i k => decide ((if i = 0 then ns.getD j 0 else m) > (if k = 0 then ns.getD j 0 else m))) := CmpOf.ints_gt _ fun _ _ h => h
    show wpAny _ A.in1 (tryCatch (holding [.int (ns.getD j 0) u, .int (ns.getD j 0) u] (richCompare .Gt (.int (ns.getD j 0) u) (.int m t) >>= _)) _ >>= _) _ _ _
    refine wpAny_bind (wpAny_tryCatch (wpAny_holding (wpAny_bind (cmp 0 1 _ _ _ _ _ ⟨u, rfl⟩ ⟨t, rfl⟩ ?_))))
    refine wpAny_bind (wpAny_holding (wpAny_truthy_bool ?_))
    refine wpAny_bind (wpAny_letGo (wpAny_pure ?_))
    by_cases b : ns.getD j 0 > m
    · have bb : decide ((if (0 : Nat) = 0 then ns.getD j 0 else m) > (if (1 : Nat) = 0 then ns.getD j 0 else m)) = true := decide_eq_true b
      refine wp_if_pos bb ?_
      refine wpAny_bind ?_
      refine wpAny_updateSeq hS' rfl (wpAny_bind (wpAny_letGo ?_))
      rw [nm]
      refine wpAny_pure ⟨plainId_quiet F.plain_max_loop _, ih (j + 1) _ (ns.getD j 0) u _ (by omega) lt (W.frame _ _ _ st' fun b hb o e => ?_) (Heap.get?_update_self _ hS' rfl) fun u2 h2 tk2 kp2 => ?_⟩
      · exact (Heap.get?_update_other _ _ (fun h : S = b => apart (by rw [h]; exact hb))).trans e
      · have e : best_max m (ns.drop j) = best_max (ns.getD j 0) (ns.drop (j + 1)) := by
          rw [dr]
          unfold best_max
          rw [List.foldl_cons, if_pos b]
        rw [← e]
        exact fin u2 h2 tk2 fun b o hb hbS e => kp2 b o hb hbS ((Heap.get?_update_other _ _ (Ne.symm hbS)).trans (kp b o hb e))
    · have bb : decide ((if (0 : Nat) = 0 then ns.getD j 0 else m) > (if (1 : Nat) = 0 then ns.getD j 0 else m)) = false := decide_eq_false b
      refine wp_if_neg (fun z => Bool.false_ne_true (bb.symm.trans z)) ?_
      refine wpAny_bind (wpAny_letGo ?_)
      rw [nm]
      refine wpAny_pure ⟨plainId_quiet F.plain_max_loop _, ih (j + 1) _ m t c (by omega) lt st' hS' fun u2 h2 tk2 kp2 => ?_⟩
      have e : best_max m (ns.drop j) = best_max m (ns.drop (j + 1)) := by
        rw [dr]
        unfold best_max
        rw [List.foldl_cons, if_neg b]
      rw [← e]
      exact fin u2 h2 tk2 fun b o hb hbS e => kp2 b o hb hbS (kp b o hb e)
/-- the list's best item, or d -/
theorem call_max_d {l : Addr} {xs : Array (Int × Tok)} {d : Value} {Q : Value → Shared → Prop} (free : A.handled = none) (hl : s.heap.IsList l (intItems xs))
    (q0 : xs.toList = [] → ∀ h' tk, (∀ b o, s.heap.get? b = some o → h'.get? b = some o) → Q d { s with heap := h', toks := tk })
    (q1 : ∀ m r, xs.toList.map (·.1) = m :: r → ∀ u h' tk, (∀ b o, s.heap.get? b = some o → h'.get? b = some o) → Q (.int (best_max m r) u) { s with heap := h', toks := tk }) :
    wpAny (model P w) A (call (.builtin "max") [.ref l] [(Str.ofString "default", d)]) Q E s := by
  have nm : (toString "max" ++ toString ".loop" : String) = "max.loop" := by decide
  have sz : (intItems xs).size = xs.size := by simp [intItems]
  refine PyProof.Rows.kmk_tree F.kind_max F.plain_max F.entry_max (args_max_d _ _) ?_
  show wpAny _ A.in1 (Builtin.Builtins.bindParams "max" ["key", "default"] 0 ⟨[], [(Str.ofString "default", d)]⟩ >>= _) _ _ s
  refine wpAny_bind (wpAny_of_eq (show Builtin.Builtins.bindParams "max" ["key", "default"] 0 ⟨[], [(Str.ofString "default", d)]⟩ = pure [none, some d] from rfl) ?_)
  refine wpAny_bind (wpAny_pure ?_)
  refine wpAny_bind (iter_intList hl fun s2 e st inb apart => ?_)
  subst e
  refine wpAny_bind (wpAny_newObj_type ?_)
  rw [nm]
  have W := fun A' (h : A'.handled = none) => Walks.list (prog := P) (w := w) (A := A') h s.heap.objs.size l apart (intItems xs)
  generalize hh2 : s.heap.push { cls := .type "list_iterator", data := .fields #[.ref l, .int 0 0] } = H2 at st inb ⊢
  have old : ∀ b o, s.heap.get? b = some o → H2.get? b = some o := fun b o e => by rw [← hh2]; exact Heap.get?_push_of_some _ e
  have hz : H2.objs.size = s.heap.objs.size + 1 := by rw [← hh2]; exact Heap.size_push ..
  have nin : H2.objs.size ∉ [s.heap.objs.size, l] := fun z => Nat.lt_irrefl _ (inb _ z)
  have atS : (H2.push { cls := .type "list", data := .seq #[] 0 }).get? H2.objs.size = some { cls := .type "list", data := .seq #[] 0 } := Heap.get?_push_size _ rfl
  have st3 := (W A.in1 (by simp [free])).frame 0 H2 (H2.push { cls := .type "list", data := .seq #[] 0 }) st fun b _ o e => Heap.get?_push_of_some _ e
  have keep : ∀ (h' : Heap), (∀ b o, b ∉ [s.heap.objs.size] → b ≠ H2.objs.size → (H2.push { cls := .type "list", data := .seq #[] 0 }).get? b = some o → h'.get? b = some o) → ∀ b o, s.heap.get? b = some o → h'.get? b = some o := fun h' k b o e => by
    have lt := Heap.lt_size e
    refine k b o (fun z => ?_) (by rw [hz]; exact Nat.ne_of_lt (Nat.lt_succ_of_lt lt)) (Heap.get?_push_of_some _ (old b o e))
    rw [List.mem_singleton.mp z] at lt
    exact Nat.lt_irrefl _ lt
  have nw : H2.objs.size ∉ [s.heap.objs.size] := fun z => nin (by rw [List.mem_singleton.mp z]; exact List.mem_cons_self)
  refine wpAny_pure ⟨plainId_quiet F.plain_max_loop _, ?_⟩
  refine codeAny_builtin F.entry_max_loop ?_
  rw [Around.under_plainId F.plain_max_loop _]
  refine wpAny_bind (m := seqItems? (.ref H2.objs.size)) (wpAny_seqItems atS rfl ?_)
  cases hx : xs.toList with
  | nil =>
    have h0 : (intItems xs).size = 0 := by rw [sz, ← Array.length_toList, hx]; rfl
    show wpAny _ A.in1 (tryCatch (pyNext (.ref s.heap.objs.size)) _ >>= _) _ _ _
    refine wpAny_bind (wpAny_tryCatch ((W A.in1 (by simp [free])).done _ _ _ (h0 ▸ st3) fun h' tk kp => ?_))
    refine wpAny_bind (wpAny_rule ?_)
    exact wpAny_pure (q0 hx h' tk (keep h' fun b o h1 _ e => kp b o h1 e))
  | cons p ps =>
    have hpos : 0 < (intItems xs).size := by rw [sz, ← Array.length_toList, hx]; exact Nat.succ_pos _
    have hv : ∀ i v, (intItems xs)[i]? = some v → ∃ t, v = Value.int ((xs.toList.map (·.1)).getD i 0) t := fun i v e => by
      obtain ⟨t, e2⟩ := intItems_at e
      refine ⟨t, e2.trans ?_⟩
      unfold numAt
      rw [List.getD_eq_getElem?_getD, List.getElem?_map, Array.getElem?_toList]
    show wpAny _ A.in1 (tryCatch (pyNext (.ref s.heap.objs.size)) _ >>= _) _ _ _
    refine wpAny_bind (wpAny_tryCatch ((W A.in1 (by simp [free])).item 0 _ _ _ hpos st3 fun v h' tk hv0 st' kp => ?_))
    obtain ⟨u, rfl⟩ := hv 0 v hv0
    have atS' := kp _ _ nw atS
    have e0 : (xs.toList.map (·.1)).getD 0 0 = p.1 := by rw [hx]; rfl
    rw [e0]
    refine wpAny_bind (m := updateSeq H2.objs.size (fun _ => #[.int p.1 u, .int p.1 u])) ?_
    refine wpAny_updateSeq atS' rfl ?_
    rw [nm]
    refine wpAny_pure ⟨plainId_quiet F.plain_max_loop _, loop_max (W A.in1 (by simp [free])) (xs.toList.map (·.1)) (by rw [sz, List.length_map, Array.length_toList]) hv _ H2.objs.size nin _ 1 _ p.1 u _ rfl hpos ((W A.in1 (by simp [free])).frame _ _ _ st' fun b hb o e => ?_) (Heap.get?_update_self _ atS' rfl) fun u2 h2 tk2 kp2 => ?_⟩
    · exact (Heap.get?_update_other _ _ (fun h : H2.objs.size = b => nin (by rw [h]; exact hb))).trans e
    · have z := q1 p.1 (ps.map (·.1)) (by rw [hx] <;> rfl) u2 h2 tk2 (keep h2 fun b o h1 h2' e => kp2 b o h1 h2' ((Heap.get?_update_other _ _ (Ne.symm h2')).trans (kp b o h1 e)))
      rw [hx]
      exact z
end

theorem args_min_d (a d : Value) : argsOk "min" ⟨[a], [(Str.ofString "default", d)]⟩ := by unfold argsOk; kernel_rfl
def best_min (m : Int) (r : List Int) : Int := r.foldl (fun a b => if b < a then b else a) m
section
variable {P : Program} {w : World} {A : Around} {E : Value → Shared → Prop} {s : Shared} {R : Result → Shared → Prop} {I : Addr} {fp wr : List Addr} {n : Nat} {V : Nat → Value → Prop} {St : Nat → Heap → Prop}
theorem loop_min (W : Walks P w A.in1 I fp wr n V St) (ns : List Int) (hn : n = ns.length) (hv : ∀ i v, V i v → ∃ t, v = .int (ns.getD i 0) t) (kw : List (Str × Value)) (S : Addr) (apart : S ∉ fp) :
    ∀ (k j : Nat) (s : Shared) (m : Int) (t : Tok) (c : Nat), n - j = k → j ≤ n → St j s.heap → s.heap.get? S = some { cls := .type "list", dict := none, data := .seq #[.int m t, .int m t] c, slots := #[] } →
    (∀ u h' tk, (∀ b o, b ∉ wr → b ≠ S → s.heap.get? b = some o → h'.get? b = some o) → R (.ok (.ret (.int (best_min m (ns.drop j)) u))) { s with heap := h', toks := tk }) →
    codeAny (model P w) A (.builtin "min.loop" ⟨[.ref I, .none, .ref S], kw⟩) R s := by
  have nw : S ∉ wr := fun z => apart (W.sub _ z)
  have nm : (toString "min" ++ toString ".loop" : String) = "min.loop" := by decide
  intro k
  induction k with
  | zero =>
    intro j s m t c hk hj st hS fin
    obtain rfl : j = n := by omega
    refine codeAny_builtin F.entry_min_loop ?_
    rw [Around.under_plainId F.plain_min_loop _]
    show wpAny _ A.in1 (seqItems? (.ref S) >>= _) _ _ s
    refine wpAny_bind (wpAny_seqItems hS rfl ?_)
    show wpAny _ A.in1 (tryCatch (pyNext (.ref I)) _ >>= _) _ _ s
    refine wpAny_bind (wpAny_tryCatch (W.done s _ _ st fun h' tk kp => ?_))
    show wpAny _ A.in1 (updateSeq S (fun _ => #[]) >>= _) _ _ _
    refine wpAny_bind ?_
    refine wpAny_updateSeq (kp S _ nw hS) rfl (wpAny_bind (wpAny_letGo (wpAny_pure ?_)))
    have e : best_min m (ns.drop j) = m := by
      rw [List.drop_eq_nil_of_le (by omega)] <;> rfl
    rw [← e]
    exact fin t _ tk fun b o hb hbS e => (Heap.get?_update_other _ _ (Ne.symm hbS)).trans (kp b o hb e)
  | succ k ih =>
    intro j s m t c hk hj st hS fin
    have lt : j < n := by omega
    refine codeAny_builtin F.entry_min_loop ?_
    rw [Around.under_plainId F.plain_min_loop _]
    show wpAny _ A.in1 (seqItems? (.ref S) >>= _) _ _ s
    refine wpAny_bind (wpAny_seqItems hS rfl ?_)
    show wpAny _ A.in1 (tryCatch (pyNext (.ref I)) _ >>= _) _ _ s
    refine wpAny_bind (wpAny_tryCatch (W.item j s _ _ lt st fun v h' tk hvj st' kp => ?_))
    obtain ⟨u, rfl⟩ := hv j v hvj
    have hS' := kp S _ nw hS
    have dr : ns.drop j = ns.getD j 0 :: ns.drop (j + 1) := by
      rw [List.drop_eq_getElem_cons (by omega), List.getD_eq_getElem?_getD, List.getElem?_eq_getElem (by omega)]
      rfl
    have cmp : CmpOf P w A.in1 .Lt (fun i v => ∃ t, v = .int (if i = 0 then ns.getD j 0 else m) t) (fun i k => decide ((if i = 0 then ns.getD j 0 else m) < (if k = 0 then ns.getD j 0 else m))) := CmpOf.ints_lt _ fun _ _ h => h
    show wpAny _ A.in1 (tryCatch (holding [.int (ns.getD j 0) u, .int (ns.getD j 0) u] (richCompare .Lt (.int (ns.getD j 0) u) (.int m t) >>= _)) _ >>= _) _ _ _
    refine wpAny_bind (wpAny_tryCatch (wpAny_holding (wpAny_bind (cmp 0 1 _ _ _ _ _ ⟨u, rfl⟩ ⟨t, rfl⟩ ?_))))
    refine wpAny_bind (wpAny_holding (wpAny_truthy_bool ?_))
    refine wpAny_bind (wpAny_letGo (wpAny_pure ?_))
    by_cases b : ns.getD j 0 < m
    · have bb : decide ((if (0 : Nat) = 0 then ns.getD j 0 else m) < (if (1 : Nat) = 0 then ns.getD j 0 else m)) = true := decide_eq_true b
      refine wp_if_pos bb ?_
      refine wpAny_bind ?_
      refine wpAny_updateSeq hS' rfl (wpAny_bind (wpAny_letGo ?_))
      rw [nm]
      refine wpAny_pure ⟨plainId_quiet F.plain_min_loop _, ih (j + 1) _ (ns.getD j 0) u _ (by omega) lt (W.frame _ _ _ st' fun b hb o e => ?_) (Heap.get?_update_self _ hS' rfl) fun u2 h2 tk2 kp2 => ?_⟩
      · exact (Heap.get?_update_other _ _ (fun h : S = b => apart (by rw [h]; exact hb))).trans e
      · have e : best_min m (ns.drop j) = best_min (ns.getD j 0) (ns.drop (j + 1)) := by
          rw [dr]
          unfold best_min
          rw [List.foldl_cons, if_pos b]
        rw [← e]
        exact fin u2 h2 tk2 fun b o hb hbS e => kp2 b o hb hbS ((Heap.get?_update_other _ _ (Ne.symm hbS)).trans (kp b o hb e))
    · have bb : decide ((if (0 : Nat) = 0 then ns.getD j 0 else m) < (if (1 : Nat) = 0 then ns.getD j 0 else m)) = false := decide_eq_false b
      refine wp_if_neg (fun z => Bool.false_ne_true (bb.symm.trans z)) ?_
      refine wpAny_bind (wpAny_letGo ?_)
      rw [nm]
      refine wpAny_pure ⟨plainId_quiet F.plain_min_loop _, ih (j + 1) _ m t c (by omega) lt st' hS' fun u2 h2 tk2 kp2 => ?_⟩
      have e : best_min m (ns.drop j) = best_min m (ns.drop (j + 1)) := by
        rw [dr]
        unfold best_min
        rw [List.foldl_cons, if_neg b]
      rw [← e]
      exact fin u2 h2 tk2 fun b o hb hbS e => kp2 b o hb hbS (kp b o hb e)
/-- the list's best item, or d -/
theorem call_min_d {l : Addr} {xs : Array (Int × Tok)} {d : Value} {Q : Value → Shared → Prop} (free : A.handled = none) (hl : s.heap.IsList l (intItems xs))
    (q0 : xs.toList = [] → ∀ h' tk, (∀ b o, s.heap.get? b = some o → h'.get? b = some o) → Q d { s with heap := h', toks := tk })
    (q1 : ∀ m r, xs.toList.map (·.1) = m :: r → ∀ u h' tk, (∀ b o, s.heap.get? b = some o → h'.get? b = some o) → Q (.int (best_min m r) u) { s with heap := h', toks := tk }) :
    wpAny (model P w) A (call (.builtin "min") [.ref l] [(Str.ofString "default", d)]) Q E s := by
  have nm : (toString "min" ++ toString ".loop" : String) = "min.loop" := by decide
  have sz : (intItems xs).size = xs.size := by simp [intItems]
  refine PyProof.Rows.kmk_tree F.kind_min F.plain_min F.entry_min (args_min_d _ _) ?_
  show wpAny _ A.in1 (Builtin.Builtins.bindParams "min" ["key", "default"] 0 ⟨[], [(Str.ofString "default", d)]⟩ >>= _) _ _ s
  refine wpAny_bind (wpAny_of_eq (show Builtin.Builtins.bindParams "min" ["key", "default"] 0 ⟨[], [(Str.ofString "default", d)]⟩ = pure [none, some d] from rfl) ?_)
  refine wpAny_bind (wpAny_pure ?_)
  refine wpAny_bind (iter_intList hl fun s2 e st inb apart => ?_)
  subst e
  refine wpAny_bind (wpAny_newObj_type ?_)
  rw [nm]
  have W := fun A' (h : A'.handled = none) => Walks.list (prog := P) (w := w) (A := A') h s.heap.objs.size l apart (intItems xs)
  generalize hh2 : s.heap.push { cls := .type "list_iterator", data := .fields #[.ref l, .int 0 0] } = H2 at st inb ⊢
  have old : ∀ b o, s.heap.get? b = some o → H2.get? b = some o := fun b o e => by rw [← hh2]; exact Heap.get?_push_of_some _ e
  have hz : H2.objs.size = s.heap.objs.size + 1 := by rw [← hh2]; exact Heap.size_push ..
  have nin : H2.objs.size ∉ [s.heap.objs.size, l] := fun z => Nat.lt_irrefl _ (inb _ z)
  have atS : (H2.push { cls := .type "list", data := .seq #[] 0 }).get? H2.objs.size = some { cls := .type "list", data := .seq #[] 0 } := Heap.get?_push_size _ rfl
  have st3 := (W A.in1 (by simp [free])).frame 0 H2 (H2.push { cls := .type "list", data := .seq #[] 0 }) st fun b _ o e => Heap.get?_push_of_some _ e
  have keep : ∀ (h' : Heap), (∀ b o, b ∉ [s.heap.objs.size] → b ≠ H2.objs.size → (H2.push { cls := .type "list", data := .seq #[] 0 }).get? b = some o → h'.get? b = some o) → ∀ b o, s.heap.get? b = some o → h'.get? b = some o := fun h' k b o e => by
    have lt := Heap.lt_size e
    refine k b o (fun z => ?_) (by rw [hz]; exact Nat.ne_of_lt (Nat.lt_succ_of_lt lt)) (Heap.get?_push_of_some _ (old b o e))
    rw [List.mem_singleton.mp z] at lt
    exact Nat.lt_irrefl _ lt
  have nw : H2.objs.size ∉ [s.heap.objs.size] := fun z => nin (by rw [List.mem_singleton.mp z]; exact List.mem_cons_self)
  refine wpAny_pure ⟨plainId_quiet F.plain_min_loop _, ?_⟩
  refine codeAny_builtin F.entry_min_loop ?_
  rw [Around.under_plainId F.plain_min_loop _]
  refine wpAny_bind (m := seqItems? (.ref H2.objs.size)) (wpAny_seqItems atS rfl ?_)
  cases hx : xs.toList with
  | nil =>
    have h0 : (intItems xs).size = 0 := by rw [sz, ← Array.length_toList, hx]; rfl
    show wpAny _ A.in1 (tryCatch (pyNext (.ref s.heap.objs.size)) _ >>= _) _ _ _
    refine wpAny_bind (wpAny_tryCatch ((W A.in1 (by simp [free])).done _ _ _ (h0 ▸ st3) fun h' tk kp => ?_))
    refine wpAny_bind (wpAny_rule ?_)
    exact wpAny_pure (q0 hx h' tk (keep h' fun b o h1 _ e => kp b o h1 e))
  | cons p ps =>
    have hpos : 0 < (intItems xs).size := by rw [sz, ← Array.length_toList, hx]; exact Nat.succ_pos _
    have hv : ∀ i v, (intItems xs)[i]? = some v → ∃ t, v = Value.int ((xs.toList.map (·.1)).getD i 0) t := fun i v e => by
      obtain ⟨t, e2⟩ := intItems_at e
      refine ⟨t, e2.trans ?_⟩
      unfold numAt
      rw [List.getD_eq_getElem?_getD, List.getElem?_map, Array.getElem?_toList]
    show wpAny _ A.in1 (tryCatch (pyNext (.ref s.heap.objs.size)) _ >>= _) _ _ _
    refine wpAny_bind (wpAny_tryCatch ((W A.in1 (by simp [free])).item 0 _ _ _ hpos st3 fun v h' tk hv0 st' kp => ?_))
    obtain ⟨u, rfl⟩ := hv 0 v hv0
    have atS' := kp _ _ nw atS
    have e0 : (xs.toList.map (·.1)).getD 0 0 = p.1 := by rw [hx]; rfl
    rw [e0]
    refine wpAny_bind (m := updateSeq H2.objs.size (fun _ => #[.int p.1 u, .int p.1 u])) ?_
    refine wpAny_updateSeq atS' rfl ?_
    rw [nm]
    refine wpAny_pure ⟨plainId_quiet F.plain_min_loop _, loop_min (W A.in1 (by simp [free])) (xs.toList.map (·.1)) (by rw [sz, List.length_map, Array.length_toList]) hv _ H2.objs.size nin _ 1 _ p.1 u _ rfl hpos ((W A.in1 (by simp [free])).frame _ _ _ st' fun b hb o e => ?_) (Heap.get?_update_self _ atS' rfl) fun u2 h2 tk2 kp2 => ?_⟩
    · exact (Heap.get?_update_other _ _ (fun h : H2.objs.size = b => nin (by rw [h]; exact hb))).trans e
    · have z := q1 p.1 (ps.map (·.1)) (by rw [hx] <;> rfl) u2 h2 tk2 (keep h2 fun b o h1 h2' e => kp2 b o h1 h2' ((Heap.get?_update_other _ _ (Ne.symm h2')).trans (kp b o h1 e)))
      rw [hx]
      exact z
end
end SL

set_option maxRecDepth 100000
set_option maxHeartbeats 3200000
/-! set(xs), xs a list of ints. -/
namespace SL
open PySem PySem.Spec PyProof.Rows L2
set_option autoImplicit false
section
variable {P : Program} {w : World} {A : Around} {E : Value → Shared → Prop} {s : Shared}
/-- what set(xs) leaves -/
def LeftI (w : World) (ns : List Int) (s : Shared) (h' : Heap) : Prop := ∃ c, SetR w h' s.heap.objs.size (fun j => decide (j ∈ ns)) c ∧ c ≤ ns.length ∧ ∀ b o, s.heap.get? b = some o → h'.get? b = some o
theorem init_setI {l : Addr} {its : Array Value} (ns : List Int) {R : Result → Shared → Prop} (free : A.handled = none) (hl : s.heap.IsList l its) (eq : IntsAre its.toList ns) (few : ns.length + 1 < scanBound) (hu : A.units + 12 < cLine)
    (q : ∀ h' tk, LeftI w ns s h' → R (.ok (.ret .none)) { s with heap := h', toks := tk }) :
    codeAny (model P w) A (.call (.builtin "set.__init__") ⟨[.ref s.heap.objs.size, .ref l], []⟩) R { s with heap := s.heap.push (newSet w) } := by
  have nsz : its.size = ns.length := by rw [← Array.length_toList]; exact eq.length
  have atS : (s.heap.push (newSet w)).get? s.heap.objs.size = some (newSet w) := Heap.get?_push_size _ rfl
  have tyS : Shared.TypeIs { s with heap := s.heap.push (newSet w) } (.ref s.heap.objs.size) "set" := ⟨_, atS, rfl⟩
  have isL : (s.heap.push (newSet w)).IsList l its := hl.push _
  refine codeAny_call_builtin (R := R) F.called_set.init.plain F.entry_set_init (check_set_init_1 tyS ?_)
  obtain ⟨ol, g1, g2, nl, g3⟩ := id isL
  obtain ⟨oc, od, odt, osl⟩ := ol
  simp only at g2 g3
  subst g2; subst g3
  have s1 := F.sub_list_set
  have s2 := F.sub_list_frozenset
  have s3 : (Value.type "list" == Value.type "dict") = false := by decide
  unfold Builtin.«set.__init__» noKeywords Builtin.Frozenset.updateFrom
  generalize hI : pyIter = PI
  wp_walk
  subst hI
  refine wpAny_pyIter_list isL ?_
  refine wpAny_bind (wpAny_runValue ?_)
  have ll : l < s.heap.objs.size := by
    obtain ⟨o, ho, _⟩ := hl
    exact Heap.lt_size ho
  have sz : (s.heap.push (newSet w)).objs.size = s.heap.objs.size + 1 := Heap.size_push ..
  have w1 : l ≠ (s.heap.push (newSet w)).objs.size := by rw [sz]; exact Nat.ne_of_lt (Nat.lt_succ_of_lt ll)
  have w2 : s.heap.objs.size ∉ [(s.heap.push (newSet w)).objs.size, l] := by
    rw [sz]
    simp only [List.mem_cons, List.not_mem_nil, or_false, not_or]
    exact ⟨Nat.ne_of_lt (Nat.lt_succ_self _), Nat.ne_of_gt ll⟩
  refine set_update_ints ((Walks.list (by simp [free]) _ l w1 its).toS) s.heap.objs.size w2 ns nsz few (fun i v hv => ?_) (its.size - 0) 0 _ (by omega) (Nat.zero_le _) ⟨⟨_, Heap.get?_push_size _ rfl, rfl, rfl⟩, isL.push _⟩
    ⟨0, Nat.le_refl _, setR_new_at (ns := ns) (Heap.get?_push_of_some _ atS)⟩ fun s' c mv le R => ?_
  · obtain ⟨t, ht⟩ := eq.int_at i v (by rw [Array.getElem?_toList]; exact hv)
    have il : i < ns.length := by
      rw [← nsz]
      exact (Array.getElem?_eq_some_iff.mp hv).1
    exact ⟨ns.getD i 0, t, by rw [List.getD_eq_getElem?_getD, List.getElem?_eq_getElem il] <;> rfl, ht⟩
  · obtain ⟨h', g', d', tk', os'⟩ := s'
    have e1 : g' = s.gens := mv.gens
    have e2 : d' = s.drawn := mv.drawn
    have e3 : os' = s.os := mv.os
    subst e1 e2 e3
    refine wpAny_pure ?_
    refine wpAny_pure (q h' tk' ⟨c, R, by rw [← nsz]; exact le, fun b o e => mv.heap b o (fun z => ?_) (Heap.get?_push_of_some _ (Heap.get?_push_of_some _ e))⟩)
    have lt := Heap.lt_size e
    rcases List.mem_cons.mp z with z | z
    · rw [z] at lt; exact Nat.lt_irrefl _ lt
    · rw [List.mem_singleton.mp z, sz] at lt
      exact Nat.lt_irrefl _ (Nat.lt_of_succ_lt lt)
theorem make_setI {l : Addr} {its : Array Value} (ns : List Int) {Q : Value → Shared → Prop} (free : A.handled = none) (hl : s.heap.IsList l its) (eq : IntsAre its.toList ns) (few : ns.length + 1 < scanBound) (hu : A.units + 24 < cLine)
    (q : ∀ h' tk, LeftI w ns s h' → Q (.ref s.heap.objs.size) { s with heap := h', toks := tk }) : wpAny (model P w) A (call (.type "set") [.ref l]) Q E s := by
  obtain ⟨c, tl, mro⟩ := F.called_set.mro
  have made := F.called_set.made
  have subs := F.called_set.sub
  refine wpAny_call (codeAny_of_tree ?_)
  show wpAny _ _ (callAny (.type "set") _) _ _ s
  refine wpAny_pure ⟨Code.quiet_builtin _ (by decide +kernel), codeAny_builtin F.entry_type_call ?_⟩
  rw [Around.under_plain (weight_type_call_type "set" [.ref l] []) rfl]
  have c1 := F.called_set.notType
  have c2 := F.called_set.canCreate
  have c3 := F.typeCall_set_1 (.ref l)
  repeat (any_goals first | assumption | wp_step)
  refine codeAny_mono (code_set_led1 (.ref l) (E := E) (Q₁ := fun o s₁ => o = .ref s.heap.objs.size ∧ s₁ = { s with heap := s.heap.push (newSet w) }) ⟨rfl, rfl⟩) fun r s₁ hr => ?_
  cases r with
  | error e => exact hr
  | ok fl =>
    cases fl with
    | ret o =>
      obtain ⟨e1, e2⟩ := hr
      subst e1 e2
      have atS : (s.heap.push (newSet w)).get? s.heap.objs.size = some (newSet w) := Heap.get?_push_size _ rfl
      have tyS : Shared.TypeIs { s with heap := s.heap.push (newSet w) } (.ref s.heap.objs.size) "set" := ⟨_, atS, rfl⟩
      have look := F.called_set.init.lookup
      have bind := F.called_set.init.bind (.ref s.heap.objs.size)
      repeat (any_goals first | assumption | wp_step)
      refine codeAny_mono (init_setI (R := wants (fun r s₂ => r = .none ∧ ∃ h' tk, s₂ = { s with heap := h', toks := tk } ∧ LeftI w ns s h') E) ns (by simp [free]) hl eq few ?_ fun h' tk z => ⟨rfl, h', tk, rfl, z⟩) fun r2 s2 hr2 => ?_
      · show A.units + _ + 12 < cLine
        omega
      · cases r2 with
        | error e => exact hr2
        | ok fl2 =>
          cases fl2 with
          | ret r =>
            obtain ⟨e1, h', tk, e2, z⟩ := hr2
            subst e1 e2
            repeat (any_goals first | assumption | wp_step)
            exact q h' tk z
          | _ => exact hr2.elim
    | _ => exact hr.elim
end
end SL

set_option maxRecDepth 100000
/-! Values, cells and a plain evaluator for the given program's kind of Python. -/
namespace SL
open PySem

/-- a value: what never changes (frozen) is told whole, what may change is a cell's number -/
inductive Wv where
  | non | bl (b : Bool) | int (i : Int) | str (x : Str)
  | tup (ws : List Wv) | lst (ws : List Wv) | dic (kvs : List (Wv × Wv))
  | ins (c : Nat) (fs : List (Nat × Wv))
  | ref (k : Nat)
  | fn (f : Nat) | cls (c : Nat)
  deriving Inhabited

/-- what a cell holds -/
inductive Ob where
  | lst (ws : List Wv) | dic (kvs : List (Wv × Wv)) | ins (c : Nat) (fs : List (Nat × Wv))
  /-- a dict whose keys are tuples -/
  | dcn (kvs : List (Wv × Wv))
  /-- a lambda: what the dict of the cell k tells -/
  | fn (k : Nat)
  /-- a def's table of code objects -/
  | tab (t : Nat)
  deriving Inhabited

abbrev Hs := List Ob

/-- an outcome: a value, a refusal (its class, its value), or the evaluator does not tell -/
inductive Rz (α : Type) where
  | ok (a : α) (h : Hs)
  | exc (c : Nat) (w : Wv) (h : Hs)
  | bad

def Rz.bind {α β : Type} (r : Rz α) (k : α → Hs → Rz β) : Rz β :=
  match r with
  | .ok a h => k a h
  | .exc c w h => .exc c w h
  | .bad => .bad
@[simp] theorem Rz.bind_ok {α β : Type} (a : α) (h : Hs) (k : α → Hs → Rz β) : (Rz.ok a h).bind k = k a h := rfl
@[simp] theorem Rz.bind_exc {α β : Type} (c : Nat) (w : Wv) (h : Hs) (k : α → Hs → Rz β) : (Rz.exc c w h : Rz α).bind k = .exc c w h := rfl
@[simp] theorem Rz.bind_bad {α β : Type} (k : α → Hs → Rz β) : (Rz.bad : Rz α).bind k = .bad := rfl

inductive Op2 where
  | add | sub | mul | fdiv | mod | pow | shl | shr | band | bor
inductive Cm where
  | eq | ne | lt | le | gt | ge | isin | notin | isn | notn
inductive Bf where
  | len | list | tuple | int | str | sum | all | any | abs | min | max | sorted
  | sset | lset | maxd | mind
  /-- dict(xs), xs pairs with tuples as keys -/
  | dof
inductive Lm where
  | append | extend | pop | insert | clear | reverse | index | remove
/-- a type that isinstance asks for -/
inductive Ty where
  | int | bool | str | list | tuple | dict

/-- what is stored to by a for or an assignment -/
inductive Tg where
  | name (i : Nat)
  | tup (ts : List Tg)

mutual
inductive Ex where
  | var (i : Nat)
  | cst (w : Wv)
  | glo (g : Nat)
  | tup (es : List Ex)
  | lst (es : List Ex)
  | bin (o : Op2) (a b : Ex)
  | neg (a : Ex)
  | not (a : Ex)
  | and (a b : Ex)
  | or (a b : Ex)
  | ite (c a b : Ex)
  | cmp (c : Cm) (a b : Ex)
  | chn (c c' : Cm) (a b d : Ex)
  | sub (a i : Ex)
  | slc (a : Ex) (lo hi : Option Ex)
  | rvs (a : Ex)
  | att (a : Ex) (f : Nat)
  | call (f : Nat) (es : List Ex)
  | make (c : Nat) (es : List Ex)
  | meth (a : Ex) (m : Nat) (es : List Ex)
  | sup (c m : Nat) (es : List Ex)
  | blt (b : Bf) (es : List Ex)
  | lm (m : Lm) (a : Ex) (es : List Ex)
  | isi (a : Ex) (t : List Ty)
  | comp (elt : Ex) (own : List Nat) (tg : Tg) (it : Itr) (cd : Option Ex)
  | dsp (ks : List Str) (es : List Ex)
  | dup (a b : Ex)
  | lrg (es : List Ex)
  /-- isinstance(a, C), C a class of the text: the classes that are, those that are not -/
  | isc (a : Ex) (yes no : List Nat)
  /-- x(a), x a variable -/
  | app (i : Nat) (a : Ex)
  /-- a.m(es, lambda y: d[y]); t: the table -/
  | methL (a : Ex) (m : Nat) (es : List Ex) (d t : Nat)
inductive Itr where
  | seq (e : Ex)
  | rng (es : List Ex)
  | enm (e : Ex)
  | zip (es : List Ex)
  | rev (e : Ex)
end

/-- within an except suite: its exception's class c and value w are told -/
inductive Hx where
  | atv
  | var (j : Nat)
  | cst (w : Wv)
  | tup (xs : List Hx)
  | isx (yes no : List Nat)
  | not (a : Hx)
  | or (a b : Hx)
  | and (a b : Hx)
inductive Hm where
  | asg (j : Nat) (x : Hx)
  | ret (x : Hx)
  | ifs (c : Hx) (b : List Hm)

inductive Tgt where
  | tg (t : Tg)
  | sub (a i : Ex)
  | att (a : Ex) (f : Nat)

inductive Sm where
  | asg (t : Tgt) (e : Ex)
  | par (i j : Nat) (a b : Ex)
  | augn (i : Nat) (o : Op2) (e : Ex)
  | augf (a : Ex) (f : Nat) (o : Op2) (e : Ex)
  | exp (e : Ex)
  | ret (e : Ex)
  | retn
  | ifs (c : Ex) (a b : List Sm)
  | whl (c : Ex) (b : List Sm)
  | for (t : Tg) (it : Itr) (b : List Sm)
  | pass | brk | cont
  | rse (c : Nat) (x : Ex)
  | tryx (y : Sm) (i : Nat) (yes no : List Nat) (hs : List Hm)
  | never

/-! ### plain data -/
mutual
/-- as data: what == and an order look at -/
def Wv.toD : Wv → Option PyData
  | .non => some .none
  | .bl b => some (.bool b)
  | .int i => some (.int i)
  | .str x => some (.str x)
  | .tup ws => (toDs ws).map .tuple
  | .lst ws => (toDs ws).map .list
  | .dic _ => none
  | .ins _ _ => none
  | .ref _ => none
  | .fn _ => none
  | .cls _ => none
def toDs : List Wv → Option (List PyData)
  | [] => some []
  | w :: ws => match w.toD, toDs ws with
    | some d, some ds => some (d :: ds)
    | _, _ => none
end

mutual
/-- every cell in it taken for what it holds, by rec -/
def Wv.frz (rec : Nat → Option Wv) : Wv → Option Wv
  | .ref k => rec k
  | .tup ws => (frzs rec ws).map .tup
  | .lst ws => (frzs rec ws).map .lst
  | .dic kvs => (frzk rec kvs).map .dic
  | .ins c fs => (frzf rec fs).map (.ins c)
  | .non => some .non
  | .bl b => some (.bl b)
  | .int i => some (.int i)
  | .str x => some (.str x)
  | .fn f => some (.fn f)
  | .cls c => some (.cls c)
def frzs (rec : Nat → Option Wv) : List Wv → Option (List Wv)
  | [] => some []
  | w :: ws => match w.frz rec, frzs rec ws with
    | some d, some ds => some (d :: ds)
    | _, _ => none
def frzk (rec : Nat → Option Wv) : List (Wv × Wv) → Option (List (Wv × Wv))
  | [] => some []
  | (k, w) :: ws => match k.frz rec, w.frz rec, frzk rec ws with
    | some a, some d, some ds => some ((a, d) :: ds)
    | _, _, _ => none
def frzf (rec : Nat → Option Wv) : List (Nat × Wv) → Option (List (Nat × Wv))
  | [] => some []
  | (f, w) :: ws => match w.frz rec, frzf rec ws with
    | some d, some ds => some ((f, d) :: ds)
    | _, _ => none
end
/-- the cell's content as a frozen value; not the cells that no names -/
def frzC (h : Hs) (no : Nat → Bool) : Nat → Nat → Option Wv
  | 0, _ => none
  | n + 1, k => if no k = true then none else match h[k]? with
    | some (.lst ws) => (frzs (frzC h no n) ws).map .lst
    | some (.dic kvs) => (frzk (frzC h no n) kvs).map .dic
    | some (.ins c fs) => (frzf (frzC h no n) fs).map (.ins c)
    | some (.dcn _) => none
    | some (.fn _) => none
    | some (.tab _) => none
    | none => none
/-- how deep cells may stand within one another -/
def deepest : Nat := 12
def frzW (h : Hs) (no : Nat → Bool) (w : Wv) : Option Wv := w.frz (frzC h no deepest)
/-- as data, cells looked through -/
def datum (h : Hs) (w : Wv) : Option PyData := (frzW h (fun _ => false) w).bind Wv.toD
def shal (d : PyData) : Bool := decide (d.depth ≤ 60)
def data (h : Hs) : List Wv → Option (List PyData)
  | [] => some []
  | w :: ws => match datum h w, data h ws with
    | some d, some ds => some (d :: ds)
    | _, _ => none

/-! ### small readings -/
def getL (h : Hs) : Wv → Option (List Wv)
  | .lst ws => some ws
  | .ref k => match h[k]? with
    | some (.lst ws) => some ws
    | _ => none
  | _ => none
/-- a list's or a tuple's items -/
def getS (h : Hs) : Wv → Option (List Wv)
  | .tup ws => some ws
  | w => getL h w
def truth (h : Hs) : Wv → Option Bool
  | .bl b => some b
  | .non => some false
  | .int i => some (i != 0)
  | .str x => if x.length ≤ sizeLine then some ((x.length : Int) != 0) else none
  | .tup ws => some (!ws.isEmpty)
  | w => (getL h w).map fun ws => !ws.isEmpty
/-- the place that an index of any sign means -/
def ixAt (n : Nat) (i : Int) : Option Nat := if 0 ≤ i then (if i < n then some i.toNat else none) else if -(n : Int) ≤ i then some (i + n).toNat else none

def newL (ws : List Wv) (h : Hs) : Rz Wv := if ws.length ≤ sizeLine then .ok (.ref h.length) (h ++ [.lst ws]) else .bad

instance (i j : Int) : Decidable (L2.CMul i j) := by unfold L2.CMul; exact inferInstance
instance (i j : Int) : Decidable (L2.CDiv i j) := by unfold L2.CDiv; exact inferInstance
instance (i j : Int) : Decidable (L2.CPow i j) := by unfold L2.CPow; exact inferInstance
instance (i j : Int) : Decidable (L2.CMulW i j) := by unfold L2.CMulW; exact inferInstance
instance (i j : Int) : Decidable (L2.CDivW i j) := by unfold L2.CDivW; exact inferInstance
def binop (o : Op2) (x y : Wv) (h : Hs) : Rz Wv :=
  match o, x, y with
  | .add, .int i, .int j => .ok (.int (i + j)) h
  | .add, .str a, .str b => if a.length + b.length ≤ sizeLine then .ok (.str (a ++ b)) h else .bad
  | .add, .tup a, .tup b => if a.length + b.length ≤ sizeLine then .ok (.tup (a ++ b)) h else .bad
  | .add, .ref a, .ref b => match getL h (.ref a), getL h (.ref b) with
    | some xs, some ys => newL (xs ++ ys) h
    | _, _ => .bad
  | .sub, .int i, .int j => .ok (.int (i - j)) h
  | .mul, .int i, .int j => if L2.CMul i j ∨ L2.CMulW i j then .ok (.int (i * j)) h else .bad
  | .mul, .ref a, .int k => match getL h (.ref a) with
    | some ws => if -(2 ^ 63) ≤ k ∧ k < 2 ^ 63 ∧ ws.length * k.toNat ≤ sizeLine then newL (List.replicate k.toNat ws).flatten h else .bad
    | none => .bad
  | .mul, .tup ws, .int k => if k = 1 then .ok (.tup ws) h else if k ≤ 0 ∧ ws ≠ [] ∧ -(2 ^ 63) ≤ k then .ok (.tup []) h else if ws ≠ [] ∧ 2 ≤ k ∧ k ≤ 1000 ∧ ws.length ≤ 1000 then .ok (.tup (List.replicate k.toNat ws).flatten) h else .bad
  | .fdiv, .int i, .int j => if L2.CDivW i j then .ok (.int (i / j)) h else .bad
  | .mod, .int i, .int j => if 0 < j then .ok (.int (i % j)) h else .bad
  | .pow, .int i, .int j => if L2.CPow i j then .ok (.int (i ^ j.toNat)) h else .bad
  | .shl, .int i, .int j => if L2.CPow i j then .ok (.int (i * 2 ^ j.toNat)) h else .bad
  | .shr, .int i, .int j => if 0 ≤ j then .ok (.int (i / 2 ^ j.toNat)) h else .bad
  | .band, .int i, .int j => .ok (.int (Builtin.bitAnd i j)) h
  | .bor, .int i, .int j => .ok (.int (Builtin.bitOr i j)) h
  | _, _, _ => .bad
end SL

set_option maxRecDepth 100000
/-! The evaluator. -/
namespace SL
open PySem

mutual
def Wv.beq : Wv → Wv → Bool
  | .non, .non => true
  | .bl a, .bl b => a == b
  | .int a, .int b => a == b
  | .str a, .str b => decide (a = b)
  | .tup a, .tup b => beqs a b
  | .lst a, .lst b => beqs a b
  | .dic a, .dic b => beqk a b
  | .ins c a, .ins d b => c == d && beqf a b
  | .ref a, .ref b => a == b
  | .fn a, .fn b => a == b
  | .cls a, .cls b => a == b
  | _, _ => false
def beqs : List Wv → List Wv → Bool
  | [], [] => true
  | a :: as, b :: bs => a.beq b && beqs as bs
  | _, _ => false
def beqk : List (Wv × Wv) → List (Wv × Wv) → Bool
  | [], [] => true
  | (a, x) :: as, (b, y) :: bs => a.beq b && (x.beq y && beqk as bs)
  | _, _ => false
def beqf : List (Nat × Wv) → List (Nat × Wv) → Bool
  | [], [] => true
  | (a, x) :: as, (b, y) :: bs => a == b && (x.beq y && beqf as bs)
  | _, _ => false
end
mutual
theorem Wv.eq_of : ∀ a b : Wv, a.beq b = true → a = b
  | .non, b, h => by cases b <;> simp_all [Wv.beq]
  | .bl a, b, h => by cases b <;> simp_all [Wv.beq]
  | .int a, b, h => by cases b <;> simp_all [Wv.beq]
  | .str a, b, h => by cases b <;> simp_all [Wv.beq]
  | .tup a, b, h => by
    cases b <;> simp only [Wv.beq, Bool.false_eq_true] at h
    rw [eqs_of _ _ h]
  | .lst a, b, h => by
    cases b <;> simp only [Wv.beq, Bool.false_eq_true] at h
    rw [eqs_of _ _ h]
  | .dic a, b, h => by
    cases b <;> simp only [Wv.beq, Bool.false_eq_true] at h
    rw [eqk_of _ _ h]
  | .ins c a, b, h => by
    cases b <;> simp only [Wv.beq, Bool.false_eq_true, Bool.and_eq_true, beq_iff_eq] at h
    rw [h.1, eqf_of _ _ h.2]
  | .ref a, b, h => by cases b <;> simp_all [Wv.beq]
  | .fn a, b, h => by cases b <;> simp_all [Wv.beq]
  | .cls a, b, h => by cases b <;> simp_all [Wv.beq]
theorem eqs_of : ∀ a b : List Wv, beqs a b = true → a = b
  | [], [], _ => rfl
  | [], _ :: _, h => by simp [beqs] at h
  | _ :: _, [], h => by simp [beqs] at h
  | a :: as, b :: bs, h => by
    simp only [beqs, Bool.and_eq_true] at h
    rw [Wv.eq_of a b h.1, eqs_of as bs h.2]
theorem eqk_of : ∀ a b : List (Wv × Wv), beqk a b = true → a = b
  | [], [], _ => rfl
  | [], _ :: _, h => by simp [beqk] at h
  | _ :: _, [], h => by simp [beqk] at h
  | (a, x) :: as, (b, y) :: bs, h => by
    simp only [beqk, Bool.and_eq_true] at h
    rw [Wv.eq_of a b h.1, Wv.eq_of x y h.2.1, eqk_of as bs h.2.2]
theorem eqf_of : ∀ a b : List (Nat × Wv), beqf a b = true → a = b
  | [], [], _ => rfl
  | [], _ :: _, h => by simp [beqf] at h
  | _ :: _, [], h => by simp [beqf] at h
  | (a, x) :: as, (b, y) :: bs, h => by
    simp only [beqf, Bool.and_eq_true, beq_iff_eq] at h
    rw [h.1, Wv.eq_of x y h.2.1, eqf_of as bs h.2.2]
end
mutual
theorem Wv.beq_self : ∀ a : Wv, a.beq a = true
  | .non | .bl _ | .int _ | .str _ | .ref _ | .fn _ | .cls _ => by simp [Wv.beq]
  | .tup a => by rw [Wv.beq]; exact beqs_self a
  | .lst a => by rw [Wv.beq]; exact beqs_self a
  | .dic a => by rw [Wv.beq]; exact beqk_self a
  | .ins c a => by rw [Wv.beq, beqf_self a]; simp
theorem beqs_self : ∀ a : List Wv, beqs a a = true
  | [] => by rw [beqs]
  | a :: as => by rw [beqs, Wv.beq_self a, beqs_self as]; rfl
theorem beqk_self : ∀ a : List (Wv × Wv), beqk a a = true
  | [] => by rw [beqk]
  | (a, x) :: as => by rw [beqk, Wv.beq_self a, Wv.beq_self x, beqk_self as]; rfl
theorem beqf_self : ∀ a : List (Nat × Wv), beqf a a = true
  | [] => by rw [beqf]
  | (a, x) :: as => by rw [beqf, Wv.beq_self x, beqf_self as]; simp
end
instance : DecidableEq Wv := fun a b => if h : a.beq b = true then .isTrue (Wv.eq_of a b h) else .isFalse fun e => h (e ▸ Wv.beq_self a)
def Ob.beq : Ob → Ob → Bool
  | .lst a, .lst b => decide (a = b)
  | .dic a, .dic b => decide (a = b)
  | .ins c a, .ins d b => decide (c = d ∧ a = b)
  | .dcn a, .dcn b => decide (a = b)
  | .fn a, .fn b => decide (a = b)
  | .tab a, .tab b => decide (a = b)
  | _, _ => false
theorem Ob.eq_of : ∀ a b : Ob, a.beq b = true → a = b := fun a b h => by
  cases a <;> cases b <;> simp_all [Ob.beq]
theorem Ob.beq_self : ∀ a : Ob, a.beq a = true := fun a => by cases a <;> simp [Ob.beq]
instance : DecidableEq Ob := fun a b => if h : a.beq b = true then .isTrue (Ob.eq_of a b h) else .isFalse fun e => h (e ▸ Ob.beq_self a)

/-! ### comparisons -/
def anyEq (d : PyData) (ds : List PyData) : Bool := ds.any fun e => PyData.eqv e d
def eqVal (h : Hs) : Wv → Wv → Option Bool
  | .int i, .int j => some (decide (i = j))
  | .str a, .str b => some (decide (a = b))
  | .bl a, .bl b => some (decide (a = b))
  | x, y => match datum h x, datum h y with
    | some d, some e => if (shal d || shal e) = true then some (PyData.eqv d e) else none
    | _, _ => none
def keq : Wv → Wv → Bool
  | .int i, .int j => decide (i = j)
  | .str x, .str y => decide (x = y)
  | .tup a, .tup b => decide (a = b)
  | _, _ => false
def valW : List (Wv × Wv) → Wv → Option Wv
  | [], _ => none
  | p :: r, k => if keq p.1 k = true then some p.2 else valW r k
/-! order, sets, keys: told of ints and of tuples of such -/
mutual
def intsy : PyData → Bool
  | .int _ => true
  | .tuple ds => intsys ds
  | .none => false
  | .bool _ => false
  | .str _ => false
  | .list _ => false
  | .dict _ => false
def intsys : List PyData → Bool
  | [] => true
  | d :: ds => intsy d && intsys ds
end
/-- a tuple that may be a key -/
def keyOk (w : Wv) : Bool := match w with
  | .tup _ => match w.toD with
    | some d => intsy d && decide (d.depth ≤ 8)
    | none => false
  | _ => false
/-- within a dict -/
def inD (h : Hs) (x y : Wv) : Option Bool := match y with
  | .ref k => match h[k]? with
    | some (.dcn kvs) => if keyOk x = true then some (valW kvs x).isSome else none
    | some (.dic kvs) => match x with
      | .int _ => some (valW kvs x).isSome
      | .str _ => some (valW kvs x).isSome
      | _ => if keyOk x = true ∧ kvs.isEmpty = true then some false else none
    | _ => none
  | _ => none
def inVal (h : Hs) (x y : Wv) : Option Bool := match getS h y with
  | some ws => match datum h x, data h ws with
    | some d, some ds => if shal d = true then some (anyEq d ds) else none
    | _, _ => none
  | none => inD h x y
def Cm.run (c : Cm) (h : Hs) (x y : Wv) : Option Bool :=
  match c with
  | .eq => eqVal h x y
  | .ne => (eqVal h x y).map not
  | .isin => inVal h x y
  | .notin => (inVal h x y).map not
  | .isn => match y with | .non => some (decide (x = .non)) | _ => none
  | .notn => match y with | .non => some (!decide (x = .non)) | _ => none
  | .lt => match x, y with | .int i, .int j => some (decide (i < j)) | _, _ => none
  | .le => match x, y with | .int i, .int j => some (decide (i ≤ j)) | _, _ => none
  | .gt => match x, y with | .int i, .int j => some (decide (j < i)) | _, _ => none
  | .ge => match x, y with | .int i, .int j => some (decide (j ≤ i)) | _, _ => none
def cmpop (c : Cm) (x y : Wv) (h : Hs) : Rz Wv := match c.run h x y with
  | some b => .ok (.bl b) h
  | none => .bad

/-! ### dicts -/
def putW (ws : List (Wv × Wv)) (k w : Wv) : List (Wv × Wv) :=
  if (valW ws k).isSome = true then ws.map (fun p => if keq p.1 k = true then (p.1, w) else p) else ws ++ [(k, w)]
def mergeW (ws more : List (Wv × Wv)) : List (Wv × Wv) := more.foldl (fun acc p => putW acc p.1 p.2) ws
def getD (h : Hs) : Wv → Option (List (Wv × Wv))
  | .dic ws => some ws
  | .ref k => match h[k]? with
    | some (.dic ws) => some ws
    | _ => none
  | _ => none
def dupd (x y : Wv) (h : Hs) : Rz Wv := match x, y with
  | .ref k, .ref j => match h[k]?, h[j]? with
    | some (.dic ws), some (.dic us) => if k ≠ j ∧ ws.length + us.length ≤ sizeLine then .ok .non (h.set k (.dic (mergeW ws us))) else .bad
    | _, _ => .bad
  | _, _ => .bad
def isD (h : Hs) : Wv → Bool
  | .ref k => match h[k]? with
    | some (.dic _) => true
    | _ => false
  | _ => false

/-! ### subscripts -/
def subN (x q : Wv) (h : Hs) : Rz Wv := match x with
  | .ref k => match h[k]? with
    | some (.dcn kvs) => if keyOk q = true then (match valW kvs q with
      | some w => .ok w h
      | none => .bad) else .bad
    | _ => .bad
  | _ => .bad
def subsc (x i : Wv) (h : Hs) : Rz Wv := match i with
  | .int i => match x with
    | .str z => if z.length ≤ sizeLine then (match (ixAt z.length i).bind (z.cps.toList[·]?) with
      | some c => .ok (.str ⟨#[c]⟩) h
      | none => .bad) else .bad
    | x => match getS h x with
      | some ws => match (ixAt ws.length i).bind (ws[·]?) with
        | some w => .ok w h
        | none => .bad
      | none => .bad
  | .str z => match getD h x with
    | some ws => match valW ws (.str z) with
      | some w => .ok w h
      | none => .bad
    | none => .bad
  | .tup q => subN x (.tup q) h
  | _ => .bad
def cut {α : Type} (ws : List α) (lo hi : Option Int) : List α := (ws.drop (HT.sIx ws.length 0 lo)).take (HT.sIx ws.length ws.length hi - HT.sIx ws.length 0 lo)
def slice (x : Wv) (lo hi : Option Int) (h : Hs) : Rz Wv := match x with
  | .tup ws => .ok (.tup (cut ws lo hi)) h
  | x => match getL h x with
    | some ws => newL (cut ws lo hi) h
    | none => .bad
def storeSub (x i v : Wv) (h : Hs) : Rz Unit := match x with
  | .ref k => match h[k]? with
    | some (.lst ws) => match i with
      | .int i => match ixAt ws.length i with
        | some j => .ok () (h.set k (.lst (ws.set j v)))
        | none => .bad
      | _ => .bad
    | some (.dic kvs) => match i with
      | .int j => if kvs.length < sizeLine then .ok () (h.set k (.dic (putW kvs (.int j) v))) else .bad
      | .str z => if kvs.length < sizeLine then .ok () (h.set k (.dic (putW kvs (.str z) v))) else .bad
      | i => if keyOk i = true ∧ kvs.isEmpty = true then .ok () (h.set k (.dcn [(i, v)])) else .bad
    | some (.dcn kvs) => if keyOk i = true ∧ kvs.length < sizeLine then .ok () (h.set k (.dcn (putW kvs i v))) else .bad
    | _ => .bad
  | _ => .bad

/-! ### attributes -/
def fget (fs : List (Nat × Wv)) (f : Nat) : Option Wv := fs.lookup f
def fput (f : Nat) (v : Wv) : List (Nat × Wv) → List (Nat × Wv)
  | [] => [(f, v)]
  | (g, x) :: r => if g = f then (g, v) :: r else (g, x) :: fput f v r
def getI (h : Hs) : Wv → Option (Nat × List (Nat × Wv))
  | .ins c fs => some (c, fs)
  | .ref k => match h[k]? with
    | some (.ins c fs) => some (c, fs)
    | _ => none
  | _ => none

/-! ### built-in functions and methods -/
def intsOf : List Wv → Option (List Int)
  | [] => some []
  | .int i :: ws => (intsOf ws).map (i :: ·)
  | _ => none
def boolsOf : List Wv → Option (List Bool)
  | [] => some []
  | .bl i :: ws => (boolsOf ws).map (i :: ·)
  | _ => none
def fullTup : PyData → Bool
  | .tuple (_ :: _) => true
  | _ => false
def anInt : PyData → Bool
  | .int _ => true
  | _ => false
def alls (ds : List PyData) : Bool := ds.all fun d => ds.all fun e => PySem.W.alike d e
def srtOk (ds : List PyData) : Bool := alls ds && (ds.all fullTup || ds.all anInt) && ds.all fun d => decide (d.depth ≤ 8)
def dOf (w : Wv) : PyData := w.toD.getD .none
def leW : Wv → Wv → Bool := PySem.W.dataLe false dOf
def once : List Wv → List Wv
  | [] => []
  | w :: ws => if w ∈ ws then once ws else w :: once ws
/-- in order -/
def srtW (ws : List Wv) : Option (List Wv) := match toDs ws with
  | some ds => if srtOk ds = true then some (ws.mergeSort leW) else none
  | none => none
/-- each once -/
def setW (ws : List Wv) : Option (List Wv) := match toDs ws with
  | some ds => if (srtOk ds && intsys ds) = true ∧ ws.length < 4000 ∧ (once ws).length < 64 then some (once ws) else none
  | none => none
/-- pairs with tuples as keys -/
def pairsW : List Wv → Option (List (Wv × Wv))
  | [] => some []
  | .tup [k, v] :: r => if keyOk k = true then (pairsW r).map ((k, v) :: ·) else none
  | _ => none
def bestd (f : Int → List Int → Int) (d : Wv) : List Int → Wv
  | [] => d
  | m :: r => .int (f m r)
def blt (b : Bf) (xs : List Wv) (h : Hs) : Rz Wv :=
  match b, xs with
  | .len, [.str z] => if z.length ≤ sizeLine then .ok (.int z.length) h else .bad
  | .len, [x] => match getS h x with
    | some ws => .ok (.int ws.length) h
    | none => .bad
  | .list, [x] => match getS h x with
    | some ws => newL ws h
    | none => .bad
  | .tuple, [x] => match getS h x with
    | some ws => .ok (.tup ws) h
    | none => .bad
  | .int, [.int i] => .ok (.int i) h
  | .int, [.bl b] => .ok (.int (if b then 1 else 0)) h
  | .abs, [.int i] => .ok (.int (if i < 0 then -i else i)) h
  | .min, [.int i, .int j] => .ok (.int (if j < i then j else i)) h
  | .max, [.int i, .int j] => .ok (.int (if j > i then j else i)) h
  | .sum, [x] => match (getL h x).bind intsOf with
    | some ns => .ok (.int ns.sum) h
    | none => .bad
  | .all, [x] => match (getL h x).bind boolsOf with
    | some bs => .ok (.bl (bs.all id)) h
    | none => .bad
  | .any, [x] => match (getL h x).bind boolsOf with
    | some bs => .ok (.bl (bs.any id)) h
    | none => .bad
  | .sorted, [x] => match (getL h x).bind srtW with
    | some us => newL us h
    | none => .bad
  | .sset, [x] => match (getL h x).bind setW with
    | some us => newL (us.mergeSort leW) h
    | none => .bad
  | .lset, [x] => match (getL h x).bind setW with
    | some us => .ok (.int us.length) h
    | none => .bad
  | .maxd, [x, d] => match (getL h x).bind intsOf with
    | some ns => .ok (bestd best_max d ns) h
    | none => .bad
  | .mind, [x, d] => match (getL h x).bind intsOf with
    | some ns => .ok (bestd best_min d ns) h
    | none => .bad
  | .dof, [x] => match (getL h x).bind pairsW with
    | some ps => .ok (.ref h.length) (h ++ [if ps.isEmpty = true then .dic [] else .dcn (mergeW [] ps)])
    | none => .bad
  | _, _ => .bad
def lmop (m : Lm) (x : Wv) (xs : List Wv) (h : Hs) : Rz Wv :=
  match x with
  | .ref k => match h[k]? with
    | some (.lst ws) => match m, xs with
      | .append, [y] => if ws.length < sizeLine then .ok .non (h.set k (.lst (ws ++ [y]))) else .bad
      | .extend, [y] => match y with
        | .ref b => match h[b]? with
          | some (.lst ys) => if ws.length + ys.length ≤ sizeLine then .ok .non (h.set k (.lst (ws ++ ys))) else .bad
          | _ => .bad
        | _ => .bad
      | .pop, [] => match ws[ws.length - 1]? with
        | some y => .ok y (h.set k (.lst ws.dropLast))
        | none => .bad
      | .clear, [] => .ok .non (h.set k (.lst []))
      | .reverse, [] => .ok .non (h.set k (.lst ws.reverse))
      | _, _ => .bad
    | _ => .bad
  | _ => .bad
/-- the built-in type of a value -/
def tyOf (h : Hs) : Wv → Option String
  | .non => some "NoneType"
  | .bl _ => some "bool"
  | .int _ => some "int"
  | .str _ => some "str"
  | .tup _ => some "tuple"
  | .lst _ => some "list"
  | .ref k => match h[k]? with
    | some (.lst _) => some "list"
    | _ => none
  | _ => none
def Ty.name : Ty → String
  | .int => "int" | .bool => "bool" | .str => "str" | .list => "list" | .tuple => "tuple" | .dict => "dict"
def Ty.has (h : Hs) (w : Wv) (t : Ty) : Option Bool := (tyOf h w).map fun s => decide (s = t.name) || (decide (s = "bool") && decide (t.name = "int"))

/-! ### the evaluator -/
abbrev Ev := List (Option Wv)
inductive Fl where
  | nx (e : Ev) | brk (e : Ev) | cont (e : Ev) | ret (w : Wv)
/-- what a class is -/
structure Cl where
  init : Option Nat
  meth : List (Nat × Nat)
  cold : Bool
/-- the program's names: module constants, classes; what a call does -/
structure Wd where
  glo : Nat → Option Wv
  cls : Nat → Option Cl
  fld : Nat → Nat → Bool
  run : Nat → List Wv → Hs → Rz Wv
  turns : Nat

mutual
def Tg.bind : Tg → Wv → Ev → Option Ev
  | .name i, w, e => if i < e.length then some (e.set i (some w)) else none
  | .tup ts, .tup ws, e => binds ts ws e
  | .tup _, _, _ => none
def binds : List Tg → List Wv → Ev → Option Ev
  | [], [], e => some e
  | t :: ts, w :: ws, e => match t.bind w e with
    | some e' => binds ts ws e'
    | none => none
  | _, _, _ => none
end
def wipes (e : Ev) : List Nat → Ev
  | [] => e
  | v :: vs => (wipes e vs).set v none
/-- cells that a loop walks stay as they were -/
def stay (h : Hs) : List (Nat × List Wv) → Bool
  | [] => true
  | (k, ws) :: r => decide (h[k]? = some (.lst ws)) && stay h r
/-- what a walk goes through, and the cells that it reads -/
abbrev Src := List Wv × List (Nat × List Wv)
def srcOf (h : Hs) (x : Wv) : Option Src := match x with
  | .ref k => (getL h x).map fun ws => (ws, [(k, ws)])
  | x => (getS h x).map fun ws => (ws, [])
/-- a list, no tuple -/
def srcL (h : Hs) (x : Wv) : Option Src := match x with
  | .tup _ => none
  | x => srcOf h x
def enumd : Nat → List Wv → List Wv
  | _, [] => []
  | n, w :: ws => .tup [.int n, w] :: enumd (n + 1) ws
def zip2 : List Wv → List Wv → List Wv
  | x :: xs, y :: ys => .tup [x, y] :: zip2 xs ys
  | _, _ => []
def zip3 : List Wv → List Wv → List Wv → List Wv
  | x :: xs, y :: ys, z :: zs => .tup [x, y, z] :: zip3 xs ys zs
  | _, _, _ => []
def small62 (i : Int) : Bool := decide (-(2 ^ 62) ≤ i) && decide (i < 2 ^ 62)
def upTo (lo : Int) (n : Nat) : List Wv := (List.range n).map fun i => Wv.int (lo + (i : Nat))
def srcRange : List Wv → Option Src
  | [.int j] => if small62 j then some (upTo 0 j.toNat, []) else none
  | [.int i, .int j] => if small62 i && small62 j then some (upTo i (j - i).toNat, []) else none
  | _ => none
def srcZip (h : Hs) : List Wv → Option Src
  | [x, y] => match srcOf h x, srcOf h y with
    | some (a, p), some (b, q) => some (zip2 a b, p ++ q)
    | _, _ => none
  | [x, y, z] => match srcOf h x, srcOf h y, srcOf h z with
    | some (a, p), some (b, q), some (c, r) => some (zip3 a b c, p ++ (q ++ r))
    | _, _, _ => none
  | _ => none
def Rz.of {α : Type} (o : Option α) (h : Hs) : Rz α := match o with
  | some a => .ok a h
  | none => .bad
@[simp] theorem Rz.of_some {α : Type} (a : α) (h : Hs) : Rz.of (some a) h = .ok a h := rfl
@[simp] theorem Rz.of_none {α : Type} (h : Hs) : Rz.of (none : Option α) h = .bad := rfl
/-- no refusal leaves (within a comprehension) -/
def Rz.quiet {α : Type} : Rz α → Rz α
  | .exc _ _ _ => .bad
  | r => r
/-- a walk's turns, the items put to the list of the cell k -/
def compL (turn : Wv → Hs → Rz (Option Wv)) (ck : List (Nat × List Wv)) (k : Nat) : List Wv → Hs → Rz Wv
  | [], h => if stay h ck then .ok (.ref k) h else .bad
  | w :: ws, h => if stay h ck then (turn w h).quiet.bind fun o h' => match o with
      | some v => match h'[k]? with
        | some (.lst acc) => if acc.length < sizeLine then compL turn ck k ws (h'.set k (.lst (acc ++ [v]))) else .bad
        | _ => .bad
      | none => compL turn ck k ws h'
    else .bad

/-- how a def's end is told: as it is; frozen, its own cells let go; a new list of frozen things, the other own cells let go -/
inductive Md where
  | open | cold | fresh
mutual
/-- no cell from lo on is in it -/
def Wv.under (lo : Nat) : Wv → Bool
  | .ref k => decide (k < lo)
  | .tup ws => unders lo ws
  | .lst ws => unders lo ws
  | .dic kvs => underk lo kvs
  | .ins _ fs => underf lo fs
  | _ => true
def unders (lo : Nat) : List Wv → Bool
  | [] => true
  | w :: ws => w.under lo && unders lo ws
def underk (lo : Nat) : List (Wv × Wv) → Bool
  | [] => true
  | (k, w) :: ws => k.under lo && (w.under lo && underk lo ws)
def underf (lo : Nat) : List (Nat × Wv) → Bool
  | [] => true
  | (_, w) :: ws => w.under lo && underf lo ws
end
def Ob.under (lo : Nat) : Ob → Bool
  | .lst ws => unders lo ws
  | .dic kvs => underk lo kvs
  | .ins _ fs => underf lo fs
  | .dcn kvs => underk lo kvs
  | .fn _ => false
  | .tab _ => true
/-- the cells below lo are as they were, or hold nothing from lo on -/
def shut (lo : Nat) : Hs → Hs → Bool
  | [], _ => true
  | o :: os, [] => o.under lo && shut lo os []
  | o :: os, p :: ps => (decide (o = p) || o.under lo) && shut lo os ps
/-- a def's end -/
def ended (md : Md) (lo : Nat) (h0 : Hs) (w : Wv) (h : Hs) : Rz Wv := match md with
  | .open => .ok w h
  | .cold => match frzW h (fun k => decide (k < lo)) w with
    | some v => if lo ≤ h.length ∧ shut lo (h.take lo) h0 = true then .ok v (h.take lo) else .bad
    | none => .bad
  | .fresh => match w with
    | .ref k => if k < lo then .bad else match h[k]? with
      | some (.lst ws) => match frzs (frzC h (fun j => decide (j < lo) || decide (j = k)) deepest) ws with
        | some us => if lo ≤ h.length ∧ shut lo (h.take lo) h0 = true then .ok (.ref lo) (h.take lo ++ [.lst us]) else .bad
        | none => .bad
      | _ => .bad
    | _ => .bad
/-- a class is made: its cell, then its __init__; a cold class's instance is frozen -/
def make (P : Wd) (c : Nat) (xs : List Wv) (h : Hs) : Rz Wv := match P.cls c with
  | some cl => match cl.init with
    | some f => ((P.run f (.ref h.length :: xs) (h ++ [.ins c []])).bind fun v h' => match v with
        | .non => .ok (.ref h.length) h'
        | _ => .bad).bind fun w h' => ended (if cl.cold = true then .cold else .open) h.length h w h'
    | none => .bad
  | none => .bad
def methOf (P : Wd) (c m : Nat) : Option Nat := (P.cls c).bind fun cl => cl.meth.lookup m

/-- the receiver is a list now, whatever the arguments do -/
def isL (h : Hs) : Wv → Bool
  | .ref k => match h[k]? with
    | some (.lst _) => true
    | _ => false
  | _ => false
mutual
def ev (P : Wd) : Ex → Ev → Hs → Rz Wv
  | .var i, e, h => match e[i]? with
    | some (some w) => .ok w h
    | _ => .bad
  | .cst w, _, h => .ok w h
  | .glo g, _, h => Rz.of (P.glo g) h
  | .tup es, e, h => (evs P es e h).bind fun ws h1 => if ws.length ≤ sizeLine then .ok (.tup ws) h1 else .bad
  | .lst es, e, h => (evs P es e h).bind fun ws h1 => newL ws h1
  | .bin o a b, e, h => (ev P a e h).bind fun x h1 => (ev P b e h1).bind fun y h2 => binop o x y h2
  | .neg a, e, h => (ev P a e h).bind fun x h1 => match x with
    | .int i => .ok (.int (-i)) h1
    | _ => .bad
  | .not a, e, h => (ev P a e h).bind fun x h1 => (Rz.of (truth h1 x) h1).bind fun b h2 => .ok (.bl (!b)) h2
  | .and a b, e, h => (ev P a e h).bind fun x h1 => (Rz.of (truth h1 x) h1).bind fun t h2 => if t = true then ev P b e h2 else .ok x h2
  | .or a b, e, h => (ev P a e h).bind fun x h1 => (Rz.of (truth h1 x) h1).bind fun t h2 => if t = true then .ok x h2 else ev P b e h2
  | .ite c a b, e, h => (tst P c e h).bind fun t h1 => if t = true then ev P a e h1 else ev P b e h1
  | .cmp c a b, e, h => (ev P a e h).bind fun x h1 => (ev P b e h1).bind fun y h2 => cmpop c x y h2
  | .chn c c' a b d, e, h => (ev P a e h).bind fun x h1 => (ev P b e h1).bind fun y h2 => (Rz.of (c.run h2 x y) h2).bind fun t h3 =>
      if t = true then (ev P d e h3).bind fun z h4 => cmpop c' y z h4 else .ok (.bl false) h3
  | .sub a i, e, h => (ev P a e h).bind fun x h1 => (ev P i e h1).bind fun y h2 => subsc x y h2
  | .slc a lo hi, e, h => (ev P a e h).bind fun x h1 => (evo P lo e h1).bind fun l h2 => (evo P hi e h2).bind fun u h3 => slice x l u h3
  | .rvs a, e, h => (ev P a e h).bind fun x h1 => match getL h1 x with
    | some ws => newL ws.reverse h1
    | none => .bad
  | .att a f, e, h => (ev P a e h).bind fun x h1 => match getI h1 x with
    | some (c, fs) => if P.fld c f then Rz.of (fget fs f) h1 else .bad
    | none => .bad
  | .call f es, e, h => (evs P es e h).bind fun ws h1 => P.run f ws h1
  | .make c es, e, h => (evs P es e h).bind fun ws h1 => make P c ws h1
  | .meth a m es, e, h => (ev P a e h).bind fun x h1 => match getI h1 x with
    | some (c, fs) => match methOf P c m, fget fs m with
      | some f, none => (evs P es e h1).bind fun ws h2 => P.run f (x :: ws) h2
      | _, _ => .bad
    | none => .bad
  | .sup c m es, e, h => match methOf P c m with
    | some f => (evs P es e h).bind fun ws h1 => P.run f ws h1
    | none => .bad
  | .blt b es, e, h => (evs P es e h).bind fun ws h1 => blt b ws h1
  | .lm m a es, e, h => (ev P a e h).bind fun x h1 => if isL h1 x = true then (evs P es e h1).bind fun ws h2 => lmop m x ws h2 else .bad
  | .isi a t, e, h => (ev P a e h).bind fun x h1 => match t with
    | [t] => (Rz.of (t.has h1 x) h1).bind fun b h2 => .ok (.bl b) h2
    | _ => .bad
  | .comp elt own tg it cd, e, h => (evi P it e h).bind fun (src : Src) h1 =>
      compL (fun w h2 => (Rz.of (tg.bind w (wipes e own)) h2).bind fun e' h3 => match cd with
        | none => (ev P elt e' h3).bind fun v h4 => .ok (some v) h4
        | some c => (tst P c e' h3).bind fun t h4 => if t = true then (ev P elt e' h4).bind fun v h5 => .ok (some v) h5 else .ok none h4) src.2 h1.length src.1 (h1 ++ [.lst []])
  | .dsp ks es, e, h => (evs P es e (h ++ [.dic []])).bind fun ws h1 => match h1[h.length]? with
    | some (.dic []) => if ks.length = es.length ∧ ks.length ≤ 15 then .ok (.ref h.length) (h1.set h.length (.dic (mergeW [] ((ks.map Wv.str).zip ws)))) else .bad
    | _ => .bad
  | .dup a b, e, h => (ev P a e h).bind fun x h1 => if isD h1 x = true then (ev P b e h1).bind fun y h2 => dupd x y h2 else .bad
  | .lrg es, e, h => (evs P es e h).bind fun ws h1 => match srcRange ws with
    | some (us, _) => if us.length ≤ 2 ^ 24 then newL us h1 else .bad
    | none => .bad
  | .isc a yes no, e, h => (ev P a e h).bind fun x h1 => match getI h1 x with
    | some (c, _) => if yes.contains c = true then .ok (.bl true) h1 else if no.contains c = true then .ok (.bl false) h1 else .bad
    | none => .bad
  | .app i a, e, h => match e[i]? with
    | some (some (.ref kf)) => (ev P a e h).bind fun y h1 => match h1[kf]? with
      | some (.fn k) => subN (.ref k) y h1
      | _ => .bad
    | _ => .bad
  | .methL a m es d t, e, h => (ev P a e h).bind fun x h1 => match getI h1 x with
    | some (c, fs) => match methOf P c m, fget fs m with
      | some f, none => (evs P es e h1).bind fun ws h2 => match e[d]? with
        | some (some (.ref k)) => if h2[t]? = some (.tab t) then ((P.run f (x :: (ws ++ [.ref h2.length])) (h2 ++ [.fn k])).quiet.bind fun w h3 => ended .cold h2.length h2 w h3) else .bad
        | _ => .bad
      | _, _ => .bad
    | none => .bad
def evs (P : Wd) : List Ex → Ev → Hs → Rz (List Wv)
  | [], _, h => .ok [] h
  | x :: xs, e, h => (ev P x e h).bind fun w h1 => (evs P xs e h1).bind fun ws h2 => .ok (w :: ws) h2
def evo (P : Wd) : Option Ex → Ev → Hs → Rz (Option Int)
  | none, _, h => .ok none h
  | some x, e, h => (ev P x e h).bind fun w h1 => match w with
    | .int i => .ok (some i) h1
    | _ => .bad
def evi (P : Wd) : Itr → Ev → Hs → Rz Src
  | .seq x, e, h => (ev P x e h).bind fun w h1 => Rz.of (srcOf h1 w) h1
  | .rng es, e, h => (evs P es e h).bind fun ws h1 => Rz.of (srcRange ws) h1
  | .enm x, e, h => (ev P x e h).bind fun w h1 => Rz.of ((srcL h1 w).map fun s => (enumd 0 s.1, s.2)) h1
  | .zip es, e, h => (evs P es e h).bind fun ws h1 => Rz.of (srcZip h1 ws) h1
  | .rev x, e, h => (ev P x e h).bind fun w h1 => Rz.of ((srcOf h1 w).map fun s => (s.1.reverse, s.2)) h1
def tst (P : Wd) : Ex → Ev → Hs → Rz Bool
  | .not a, e, h => (tst P a e h).bind fun b h1 => .ok (!b) h1
  | .and a b, e, h => (tst P a e h).bind fun t h1 => if t = true then tst P b e h1 else .ok false h1
  | .or a b, e, h => (tst P a e h).bind fun t h1 => if t = true then .ok true h1 else tst P b e h1
  | .ite c a b, e, h => (tst P c e h).bind fun t h1 => if t = true then tst P a e h1 else tst P b e h1
  | x, e, h => (ev P x e h).bind fun w h1 => Rz.of (truth h1 w) h1
end

def forL (body : Ev → Hs → Rz Fl) (tg : Tg) (ck : List (Nat × List Wv)) : List Wv → Ev → Hs → Rz Fl
  | [], e, h => if stay h ck then .ok (.nx e) h else .bad
  | w :: ws, e, h => if stay h ck then (match tg.bind w e with
      | some e1 => (body e1 h).bind fun f h2 => match f with
        | .nx e2 => forL body tg ck ws e2 h2
        | .cont e2 => forL body tg ck ws e2 h2
        | .brk e2 => .ok (.nx e2) h2
        | .ret v => .ok (.ret v) h2
      | none => .bad) else .bad
def whlL (c : Ev → Hs → Rz Bool) (body : Ev → Hs → Rz Fl) : Nat → Ev → Hs → Rz Fl
  | 0, _, _ => .bad
  | n + 1, e, h => (c e h).bind fun t h1 => if t = true then (body e h1).bind fun f h2 => match f with
        | .nx e2 => whlL c body n e2 h2
        | .cont e2 => whlL c body n e2 h2
        | .brk e2 => .ok (.nx e2) h2
        | .ret v => .ok (.ret v) h2
      else .ok (.nx e) h1
def store (P : Wd) (t : Tgt) (v : Wv) (e : Ev) (h : Hs) : Rz Fl :=
  match t with
  | .tg t => match t.bind v e with
    | some e' => .ok (.nx e') h
    | none => .bad
  | .sub a i => (ev P a e h).bind fun x h1 => (ev P i e h1).bind fun y h2 => (storeSub x y v h2).bind fun _ h3 => .ok (.nx e) h3
  | .att a f => (ev P a e h).bind fun x h1 => match x with
    | .ref k => match h1[k]? with
      | some (.ins c fs) => if P.fld c f = true ∧ fs.length < 1000 then .ok (.nx e) (h1.set k (.ins c (fput f v fs))) else .bad
      | _ => .bad
    | _ => .bad
/-! within an except suite -/
mutual
def hev (c : Nat) (w : Wv) : Hx → Ev → Hs → Rz Wv
  | .atv, _, h => .ok w h
  | .var j, e, h => match e[j]? with
    | some (some v) => .ok v h
    | _ => .bad
  | .cst v, _, h => match v with
    | .non => .ok v h
    | .bl _ => .ok v h
    | .int _ => .ok v h
    | .str _ => .ok v h
    | _ => .bad
  | .tup xs, e, h => (hevs c w xs e h).bind fun ws h1 => if ws.length ≤ sizeLine then .ok (.tup ws) h1 else .bad
  | .isx yes no, _, h => if yes.contains c = true then .ok (.bl true) h else if no.contains c = true then .ok (.bl false) h else .bad
  | .not _, _, _ => .bad
  | .or _ _, _, _ => .bad
  | .and _ _, _, _ => .bad
def hevs (c : Nat) (w : Wv) : List Hx → Ev → Hs → Rz (List Wv)
  | [], _, h => .ok [] h
  | x :: xs, e, h => (hev c w x e h).bind fun v h1 => (hevs c w xs e h1).bind fun vs h2 => .ok (v :: vs) h2
end
def htst (c : Nat) (w : Wv) : Hx → Ev → Hs → Rz Bool
  | .not a, e, h => (htst c w a e h).bind fun t h1 => .ok (!t) h1
  | .or a b, e, h => (htst c w a e h).bind fun t h1 => if t = true then .ok true h1 else htst c w b e h1
  | .and a b, e, h => (htst c w a e h).bind fun t h1 => if t = true then htst c w b e h1 else .ok false h1
  | x, e, h => (hev c w x e h).bind fun v h1 => match v with
    | .bl t => .ok t h1
    | _ => .bad
mutual
def hex (i c : Nat) (w : Wv) : Hm → Ev → Hs → Rz Fl
  | .asg j x, e, h => (hev c w x e h).bind fun v h1 => if j = i ∨ e.length ≤ j then .bad else .ok (.nx (e.set j (some v))) h1
  | .ret x, e, h => (hev c w x e h).bind fun v h1 => .ok (.ret v) h1
  | .ifs t b, e, h => (htst c w t e h).bind fun r h1 => if r = true then hexs i c w b e h1 else .ok (.nx e) h1
def hexs (i c : Nat) (w : Wv) : List Hm → Ev → Hs → Rz Fl
  | [], e, h => .ok (.nx e) h
  | s :: ss, e, h => (hex i c w s e h).bind fun f h1 => match f with
    | .nx e1 => hexs i c w ss e1 h1
    | f => .ok f h1
end
mutual
def ex (P : Wd) : Sm → Ev → Hs → Rz Fl
  | .asg t x, e, h => (ev P x e h).bind fun v h1 => store P t v e h1
  | .par i j a b, e, h => (ev P a e h).bind fun x h1 => (ev P b e h1).bind fun y h2 => if i < e.length ∧ j < e.length then .ok (.nx ((e.set i (some x)).set j (some y))) h2 else .bad
  | .augn i o x, e, h => match e[i]? with
    | some (some v) => (ev P x e h).bind fun y h1 => match v, y with
      | .int _, .int _ => (binop o v y h1).bind fun z h2 => .ok (.nx (e.set i (some z))) h2
      | _, _ => .bad
    | _ => .bad
  | .augf a f o x, e, h => (ev P a e h).bind fun r h1 => match r with
    | .ref k => match h1[k]? with
      | some (.ins c fs) => if P.fld c f = true then (match fget fs f with
        | some v => (ev P x e h1).bind fun y h2 => match v, y with
          | .int _, .int _ => (binop o v y h2).bind fun z h3 => match h3[k]? with
            | some (.ins c' fs') => if c' = c ∧ fs'.length < 1000 then .ok (.nx e) (h3.set k (.ins c (fput f z fs'))) else .bad
            | _ => .bad
          | _, _ => .bad
        | none => .bad) else .bad
      | _ => .bad
    | _ => .bad
  | .exp x, e, h => (ev P x e h).bind fun _ h1 => .ok (.nx e) h1
  | .ret x, e, h => (ev P x e h).bind fun v h1 => .ok (.ret v) h1
  | .retn, _, h => .ok (.ret .non) h
  | .ifs c a b, e, h => (tst P c e h).bind fun t h1 => if t = true then exs P a e h1 else exs P b e h1
  | .whl c b, e, h => whlL (tst P c) (exs P b) P.turns e h
  | .for t it b, e, h => (evi P it e h).bind fun (src : Src) h1 => forL (exs P b) t src.2 src.1 e h1
  | .pass, e, h => .ok (.nx e) h
  | .brk, e, h => .ok (.brk e) h
  | .cont, e, h => .ok (.cont e) h
  | .rse c x, e, h => (ev P x e h).bind fun v h1 => .exc c v h1
  | .tryx y i yes no hs, e, h => match ex P y e h with
    | .exc c w h1 => if yes.contains c = true then (if i < e.length then (hexs i c w hs (e.set i none) h1).bind fun f h2 => match f with
        | .nx e2 => .ok (.nx (e2.set i none)) h2
        | .ret v => .ok (.ret v) h2
        | _ => .bad else .bad) else if no.contains c = true then .exc c w h1 else .bad
    | r => r
  | .never, _, _ => .bad
def exs (P : Wd) : List Sm → Ev → Hs → Rz Fl
  | [], e, h => .ok (.nx e) h
  | s :: ss, e, h => (ex P s e h).bind fun f h1 => match f with
    | .nx e1 => exs P ss e1 h1
    | f => .ok f h1
end

/-- a def: its parameters, its names, its body -/
structure Df where
  np : Nat
  ns : Nat
  body : List Sm
  md : Md
def start (n : Nat) (ws : List Wv) : Ev := ws.map some ++ List.replicate (n - ws.length) none
def bodyEnd (r : Rz Fl) : Rz Wv := r.bind fun f h => match f with
  | .nx _ => .ok .non h
  | .ret w => .ok w h
  | _ => .bad
def callD (D : Nat → Option Df) (glo : Nat → Option Wv) (cls : Nat → Option Cl) (fld : Nat → Nat → Bool) (turns : Nat) : Nat → Nat → List Wv → Hs → Rz Wv
  | 0, _, _, _ => .bad
  | n + 1, f, ws, h => match D f with
    | some d => if ws.length = d.np then
        (bodyEnd (exs ⟨glo, cls, fld, callD D glo cls fld turns n, turns⟩ d.body (start d.ns ws) h)).bind fun w h1 => ended d.md h.length h w h1
      else .bad
    | none => .bad
end SL

set_option maxRecDepth 100000
/-! Order and sets of ints and of tuples of such: plain words. -/
namespace SL
open PySem
set_option autoImplicit false

mutual
def wOfD : PyData → Wv
  | .int i => .int i
  | .tuple ds => .tup (wsOfD ds)
  | .none => .non
  | .bool _ => .non
  | .str _ => .non
  | .list _ => .non
  | .dict _ => .non
def wsOfD : List PyData → List Wv
  | [] => []
  | d :: ds => wOfD d :: wsOfD ds
end
mutual
def keyD : PyData → NestedKey
  | .int i => .num i
  | .tuple ds => .tup (keysD ds)
  | .none => .none
  | .bool _ => .none
  | .str _ => .none
  | .list _ => .none
  | .dict _ => .none
def keysD : List PyData → List NestedKey
  | [] => []
  | d :: ds => keyD d :: keysD ds
end
mutual
theorem back_w : ∀ (w : Wv) (d : PyData), w.toD = some d → intsy d = true → wOfD d = w
  | .non, d, h, g => by simp [Wv.toD] at h; subst h; simp [intsy] at g
  | .bl b, d, h, g => by simp [Wv.toD] at h; subst h; simp [intsy] at g
  | .int i, d, h, g => by simp [Wv.toD] at h; subst h; rfl
  | .str x, d, h, g => by simp [Wv.toD] at h; subst h; simp [intsy] at g
  | .tup ws, d, h, g => by
    simp only [Wv.toD, Option.map_eq_some_iff] at h
    obtain ⟨ds, h1, rfl⟩ := h
    rw [wOfD, back_ws ws ds h1 (by simpa [intsy] using g)]
  | .lst ws, d, h, g => by
    simp only [Wv.toD, Option.map_eq_some_iff] at h
    obtain ⟨ds, h1, rfl⟩ := h
    simp [intsy] at g
  | .dic _, d, h, g => by simp [Wv.toD] at h
  | .ins _ _, d, h, g => by simp [Wv.toD] at h
  | .ref _, d, h, g => by simp [Wv.toD] at h
  | .fn _, d, h, g => by simp [Wv.toD] at h
  | .cls _, d, h, g => by simp [Wv.toD] at h
theorem back_ws : ∀ (ws : List Wv) (ds : List PyData), toDs ws = some ds → intsys ds = true → wsOfD ds = ws
  | [], ds, h, g => by simp [toDs] at h; subst h; rfl
  | w :: ws, ds, h, g => by
    simp only [toDs] at h
    split at h
    · rename_i d es h1 h2
      cases h
      simp only [intsys, Bool.and_eq_true] at g
      rw [wsOfD, back_w w d h1 g.1, back_ws ws es h2 g.2]
    · cases h
end
mutual
theorem key_data : ∀ d : PyData, intsy d = true → (keyD d).data = d ∧ mute (keyD d) = true ∧ (keyD d).depth = d.depth
  | .int i, _ => ⟨rfl, rfl, rfl⟩
  | .tuple ds, g => by
    obtain ⟨h1, h2, h3⟩ := keys_data ds (by simpa [intsy] using g)
    refine ⟨by rw [keyD, NestedKey.data, h1], by rw [keyD, mute]; exact h2, by rw [keyD, NestedKey.depth, PyData.depth, h3]⟩
  | .none, g => by simp [intsy] at g
  | .bool _, g => by simp [intsy] at g
  | .str _, g => by simp [intsy] at g
  | .list _, g => by simp [intsy] at g
  | .dict _, g => by simp [intsy] at g
theorem keys_data : ∀ ds : List PyData, intsys ds = true → NestedKey.datas (keysD ds) = ds ∧ mutes (keysD ds) = true ∧ NestedKey.depthAll (keysD ds) = PyData.depthAll ds
  | [], _ => ⟨rfl, rfl, rfl⟩
  | d :: ds, g => by
    simp only [intsys, Bool.and_eq_true] at g
    obtain ⟨a1, a2, a3⟩ := key_data d g.1
    obtain ⟨b1, b2, b3⟩ := keys_data ds g.2
    refine ⟨by rw [keysD, NestedKey.datas, a1, b1], by rw [keysD, mutes, a2, b2]; rfl, by rw [keysD, NestedKey.depthAll, PyData.depthAll, a3, b3]⟩
end
mutual
theorem eqv_eq : ∀ d e : PyData, intsy d = true → intsy e = true → PyData.eqv d e = true → d = e
  | .int i, e, g, g', h => by
    cases e <;> simp [intsy] at g'
    · simpa [PyData.eqv] using h
    · simp [PyData.eqv] at h
  | .tuple ds, e, g, g', h => by
    cases e with
    | tuple es =>
      rw [eqvs_eq ds es (by simpa [intsy] using g) (by simpa [intsy] using g') (by simpa [PyData.eqv] using h)]
    | _ => simp [PyData.eqv] at h
  | .none, _, g, _, _ => by simp [intsy] at g
  | .bool _, _, g, _, _ => by simp [intsy] at g
  | .str _, _, g, _, _ => by simp [intsy] at g
  | .list _, _, g, _, _ => by simp [intsy] at g
  | .dict _, _, g, _, _ => by simp [intsy] at g
theorem eqvs_eq : ∀ ds es : List PyData, intsys ds = true → intsys es = true → PyData.eqvAll ds es = true → ds = es
  | [], es, _, _, h => by
    cases es with
    | nil => rfl
    | cons e es => simp [PyData.eqvAll] at h
  | d :: ds, es, g, g', h => by
    cases es with
    | nil => simp [PyData.eqvAll] at h
    | cons e es =>
      simp only [intsys, Bool.and_eq_true] at g g'
      rw [PySem.W.eqv_all_cons, Bool.and_eq_true] at h
      rw [eqv_eq d e g.1 g'.1 h.1, eqvs_eq ds es g.2 g'.2 h.2]
end
theorem toks_eq {d e : PyData} (al : PySem.W.alike d e = true) (g : intsy d = true) (g' : intsy e = true) (h : PySem.W.keyToks d = PySem.W.keyToks e) : d = e := by
  refine eqv_eq d e g g' ?_
  cases q : PyData.eqv d e with
  | true => rfl
  | false =>
    have z := (PySem.W.toks_eqv d e al).2 q
    have a := z [.inl 0] [.inl 1]
    have b := z [] []
    rw [h, PySem.W.lex_pre] at a b
    rw [← b] at a
    exact absurd a (by decide)
/-- members that can be laid in order -/
def Ranks (ws : List Wv) : Prop := (∀ w ∈ ws, ∃ d, w.toD = some d ∧ intsy d = true) ∧ ∀ w ∈ ws, ∀ u ∈ ws, PySem.W.alike (dOf w) (dOf u) = true
theorem leW_total : PySem.W.TotalLe leW := PySem.W.sortLe_total _ false _
theorem leW_anti {w u : Wv} {d e : PyData} (h1 : w.toD = some d) (h2 : u.toD = some e) (g1 : intsy d = true) (g2 : intsy e = true) (al : PySem.W.alike d e = true) (a : leW w u = true) (b : leW u w = true) : w = u := by
  have e1 : dOf w = d := by unfold dOf; rw [h1]; rfl
  have e2 : dOf u = e := by unfold dOf; rw [h2]; rfl
  unfold leW PySem.W.dataLe PySem.W.sortLe at a b
  simp only [cond_false, Bool.not_eq_true', e1, e2] at a b
  have t := (PyProof.Rows.listOrd PyProof.Rows.itemOrd).total _ _ b a
  have de := toks_eq al g1 g2 t
  rw [← back_w w d h1 g1, ← back_w u e h2 g2, de]
theorem sort_pw (ws : List Wv) : (ws.mergeSort leW).Pairwise fun a b => leW a b = true :=
  List.pairwise_mergeSort (le := leW) (fun a b c h h' => leW_total.trans a b c h h') (fun a b => by
    rcases leW_total.total a b with h | h <;> simp [h]) ws
/-- two rows of the same members in order are one -/
theorem order_one {l m : List Wv} (R : Ranks l) (p : l.Perm m) (a : l.Pairwise fun a b => leW a b = true) (b : m.Pairwise fun a b => leW a b = true) : l = m := by
  refine List.Perm.eq_of_pairwise (le := fun a b => leW a b = true) (fun x y hx hy h h' => ?_) a b p
  obtain ⟨d, d1, d2⟩ := R.1 x hx
  obtain ⟨e, e1, e2⟩ := R.1 y (p.mem_iff.mpr hy)
  have al := R.2 x hx y (p.mem_iff.mpr hy)
  unfold dOf at al
  rw [d1, e1] at al
  exact leW_anti d1 e1 d2 e2 al h h'
theorem Ranks.perm {l m : List Wv} (R : Ranks l) (p : l.Perm m) : Ranks m := ⟨fun w hw => R.1 w (p.mem_iff.mpr hw), fun w hw u hu => R.2 w (p.mem_iff.mpr hw) u (p.mem_iff.mpr hu)⟩
theorem sort_perm_eq {l m : List Wv} (R : Ranks l) (p : l.Perm m) : l.mergeSort leW = m.mergeSort leW :=
  order_one (R.perm (List.mergeSort_perm l leW).symm) ((List.mergeSort_perm l leW).trans (p.trans (List.mergeSort_perm m leW).symm)) (sort_pw l) (sort_pw m)

/-! ### each once -/
theorem mem_once {w : Wv} : ∀ {ws : List Wv}, w ∈ once ws ↔ w ∈ ws
  | [] => Iff.rfl
  | u :: ws => by
    unfold once
    split
    · rename_i h
      rw [mem_once, List.mem_cons]
      exact ⟨.inr, fun z => z.elim (fun e => e ▸ h) id⟩
    · rw [List.mem_cons, List.mem_cons, mem_once]
theorem nodup_once : ∀ ws : List Wv, (once ws).Nodup
  | [] => List.nodup_nil
  | u :: ws => by
    unfold once
    split
    · exact nodup_once ws
    · rename_i h
      exact List.nodup_cons.mpr ⟨fun z => h (mem_once.mp z), nodup_once ws⟩
theorem nodup_le {α : Type} : ∀ (l D : List α), l.Nodup → (∀ x ∈ l, x ∈ D) → l.length ≤ D.length
  | [], _, _, _ => Nat.zero_le _
  | x :: l, D, hn, hs => by
    obtain ⟨h1, h2⟩ := List.nodup_cons.mp hn
    obtain ⟨a, b, e⟩ := List.append_of_mem (hs x List.mem_cons_self)
    have ih := nodup_le l (a ++ b) h2 fun y hy => by
      have z := hs y (List.mem_cons_of_mem _ hy)
      rw [e] at z
      rcases List.mem_append.mp z with q | q
      · exact List.mem_append_left _ q
      · rcases List.mem_cons.mp q with q | q
        · exact absurd (q ▸ hy) h1
        · exact List.mem_append_right _ q
    rw [List.length_append] at ih
    rw [e, List.length_append, List.length_cons, List.length_cons]
    omega
theorem same_perm {α : Type} {l m : List α} (hl : l.Nodup) (hm : m.Nodup) (h : ∀ x, x ∈ l ↔ x ∈ m) : l.Perm m := (List.perm_ext_iff_of_nodup hl hm).mpr h
end SL

set_option maxRecDepth 100000
/-! How the evaluator's values lie in the abstract heap. -/
namespace SL
open PySem L2

/-- where classes and defs stand, what attributes are called -/
structure Nam where
  K : PySem.W.Frag
  cA : Nat → Addr
  xA : Nat → Addr
  nm : Nat → Str
  atF : Nat
  w : World
  inj : ∀ f g, nm f = nm g → f = g
  /-- the tables of code objects, the lambdas' names -/
  tA : Nat → Addr
  tQ : Nat → Str

def KTup (K : PySem.W.Frag) (a : Addr) (xs : List V) : Prop := ∃ (o : Obj) (its : Array Value) (n : Nat), K.lookup a = some o ∧ o.cls = .type "tuple" ∧ o.data = .seq its n ∧ its.size ≤ sizeLine ∧ Vals xs its.toList
def KLst (K : PySem.W.Frag) (a : Addr) (xs : List V) : Prop := ∃ (o : Obj) (its : Array Value) (n : Nat), K.lookup a = some o ∧ o.cls = .type "list" ∧ o.dict = none ∧ o.data = .seq its n ∧ its.size ≤ sizeLine ∧ Vals xs its.toList
def TupAt (K : PySem.W.Frag) (ι : List Addr) (H : Hp) (a : Addr) (xs : List V) : Prop := (Rd H a (.tup xs) ∧ a ∉ ι) ∨ KTup K a xs
def LstAt (K : PySem.W.Frag) (ι : List Addr) (H : Hp) (a : Addr) (xs : List V) : Prop := (Rd H a (.lst xs) ∧ a ∉ ι) ∨ KLst K a xs
theorem TupAt.seq {K : PySem.W.Frag} {ι : List Addr} {H : Hp} {a : Addr} {xs : List V} (h : TupAt K ι H a xs) : SqT K H a xs := h.imp (fun h => h.1) fun h => h
theorem LstAt.seq {K : PySem.W.Frag} {ι : List Addr} {H : Hp} {a : Addr} {xs : List V} (h : LstAt K ι H a xs) : SqL K H a xs := h.imp (fun h => h.1) fun h => h

/-- a key as a value -/
def kW : Key → Wv
  | .inl i => .int i
  | .inr x => .str x
mutual
inductive VR (n : Nam) (ι : List Addr) (H : Hp) : V → Wv → Prop
  | non : VR n ι H .non .non
  | bl (b : Bool) : VR n ι H (.bl b) (.bl b)
  | int (i : Int) : VR n ι H (.int i) (.int i)
  | str (x : Str) : VR n ι H (.str x) (.str x)
  | tup {a : Addr} {vs : List V} {ws : List Wv} : TupAt n.K ι H a vs → VRs n ι H vs ws → VR n ι H (.ref a) (.tup ws)
  | lst {a : Addr} {vs : List V} {ws : List Wv} : LstAt n.K ι H a vs → VRs n ι H vs ws → VR n ι H (.ref a) (.lst ws)
  | ins {a dx : Addr} {fs : List (Str × V)} {c : Nat} {ws : List (Nat × Wv)} : H a = some (.ins (n.cA c) dx fs) → a ∉ ι → VRf n ι H fs ws → VR n ι H (.ref a) (.ins c ws)
  | ref {k : Nat} {a : Addr} : ι[k]? = some a → VR n ι H (.ref a) (.ref k)
  | dic {a : Addr} {kvs : List (Key × V)} {ws : List (Wv × Wv)} : Rd H a (.dK kvs) → a ∉ ι → VRd n ι H kvs ws → VR n ι H (.ref a) (.dic ws)
inductive VRs (n : Nam) (ι : List Addr) (H : Hp) : List V → List Wv → Prop
  | nil : VRs n ι H [] []
  | cons {v : V} {w : Wv} {vs : List V} {ws : List Wv} : VR n ι H v w → VRs n ι H vs ws → VRs n ι H (v :: vs) (w :: ws)
inductive VRf (n : Nam) (ι : List Addr) (H : Hp) : List (Str × V) → List (Nat × Wv) → Prop
  | nil : VRf n ι H [] []
  | cons {f : Nat} {v : V} {w : Wv} {vs : List (Str × V)} {ws : List (Nat × Wv)} : VR n ι H v w → VRf n ι H vs ws → VRf n ι H ((n.nm f, v) :: vs) ((f, w) :: ws)
inductive VRd (n : Nam) (ι : List Addr) (H : Hp) : List (Key × V) → List (Wv × Wv) → Prop
  | nil : VRd n ι H [] []
  | cons {k : Key} {v : V} {w : Wv} {vs : List (Key × V)} {ws : List (Wv × Wv)} : VR n ι H v w → VRd n ι H vs ws → VRd n ι H ((k, v) :: vs) ((kW k, w) :: ws)
end

/-- a dict with tuples as keys: its own object -/
def entN (w : World) (x : NestedKey × Addr × Value) : DictEntry := ⟨x.1.hash w, .ref x.2.1, x.2.2⟩
def RawN (w : World) (a : Addr) (xs : List (NestedKey × Addr × Value)) (h : Heap) : Prop := xs.length ≤ sizeLine ∧ (a == sysModules) = false ∧ ∃ o es ep, h.get? a = some o ∧ o.ExactDict ∧ o.data = .dict es ep ∧ es.toList = xs.map (entN w) ∧ (xs.map (·.1)).Nodup
inductive VRn (n : Nam) (ι : List Addr) (H : Hp) : List (NestedKey × Addr × Value) → List (Wv × Wv) → Prop
  | nil : VRn n ι H [] []
  | cons {k : NestedKey} {b : Addr} {u : Value} {v : V} {d : PyData} {q w : Wv} {xs : List (NestedKey × Addr × Value)} {ws : List (Wv × Wv)} : VR n ι H (.ref b) q → q.toD = some d → intsy d = true → d.depth ≤ 8 → k = keyD d → VR n ι H v w → RelV v u → VRn n ι H xs ws → VRn n ι H ((k, b, u) :: xs) ((q, w) :: ws)
/-- a lambda: lambda y: d[y] -/
def LamSh (params : Arguments) (body : Expr) (scope : Scope) (d y : Str) : Prop :=
  ∃ q1 q2 q3 q4, params = ⟨[], [⟨y, none, q1⟩], none, [], [], none, []⟩ ∧ body = .Subscript (.Name d q2) (.Name y q3) q4 ∧ scope = ⟨.function, [(y, .local), (d, .free)], false, false, []⟩ ∧ d ≠ y ∧
    (d == ("__debug__" : Str)) = false ∧ (d == ("__classdict__" : Str)) = false ∧ (y == ("__debug__" : Str)) = false ∧ (y == ("__classdict__" : Str)) = false
/-- the mark of an object that is known whole -/
def LamU : HO := .ext fun _ => True
/-- what is known of a function object: its names lead to the dict of the cell k -/
def FnC (ι : List Addr) (H : Hp) (k : Nat) (fo : Obj) : Prop :=
  ∃ (q : Str) (params : Arguments) (body : Expr) (scope : Scope) (pm : Value) (c' : Addr) (ctv : Value) (d y : Str) (c a : Addr) (co : Obj),
    fo = PySem.W.kla_obj "<lambda>" q params body scope [(d, c)] pm c' ctv ∧ LamSh params body scope d y ∧ H c' = some (LamX.CodeO c' q) ∧ c' ∉ ι ∧ H c = some (.frz co LamU) ∧ c ∉ ι ∧ co.data = .cell (some (.ref a)) ∧ ι[k]? = some a
/-- what a cell's object is -/
inductive OR (n : Nam) (ι : List Addr) (H : Hp) (a : Addr) : HO → Ob → Prop
  | lst {vs : List V} {ws : List Wv} : VRs n ι H vs ws → OR n ι H a (.lst vs) (.lst ws)
  | ins {dx : Addr} {fs : List (Str × V)} {c : Nat} {ws : List (Nat × Wv)} : VRf n ι H fs ws → OR n ι H a (.ins (n.cA c) dx fs) (.ins c ws)
  | dic {vs : List (Key × V)} {ws : List (Wv × Wv)} : VRd n ι H vs ws → OR n ι H a (.dK vs) (.dic ws)
  | dcn {xs : List (NestedKey × Addr × Value)} {ws : List (Wv × Wv)} : VRn n ι H xs ws → OR n ι H a (.ext (RawN n.w a xs)) (.dcn ws)
  | fn {fo : Obj} {k : Nat} : FnC ι H k fo → OR n ι H a (.frz fo LamU) (.fn k)
  | tab {ps : Array Value} {t : Nat} : a = n.tA t → TriplesOk ps.toList → (∀ (pos : Pos) (cv : Value), codeAmong pos ps.toList = some cv → ∃ c, cv = .ref c ∧ H c = some (LamX.CodeO c (n.tQ t)) ∧ c ∉ ι) → OR n ι H a (.tbl ps) (.tab t)
structure HR (n : Nam) (ι : List Addr) (H : Hp) (hp : Hs) : Prop where
  len : ι.length = hp.length
  nd : ι.Nodup
  at_ : ∀ (k : Nat) (a : Addr) (o : Ob), ι[k]? = some a → hp[k]? = some o → ∃ ho, H a = some ho ∧ OR n ι H a ho o
/-- from the one state to the other: cells may change, new ones come, nothing else that is tracked changes -/
structure Fr (ι : List Addr) (H : Hp) (ι' : List Addr) (H' : Hp) : Prop where
  pre : ι <+: ι'
  new : ∀ a ∈ ι', a ∉ ι → H a = none
  keep : ∀ a o, H a = some o → a ∉ ι → H' a = some o
theorem Fr.refl (ι : List Addr) (H : Hp) : Fr ι H ι H := ⟨List.prefix_refl _, fun _ h h' => absurd h h', fun _ _ h _ => h⟩
theorem Fr.trans {ι ι1 ι2 : List Addr} {H H1 H2 : Hp} (a : Fr ι H ι1 H1) (b : Fr ι1 H1 ι2 H2) : Fr ι H ι2 H2 where
  pre := a.pre.trans b.pre
  new := fun x hx hn => by
    by_cases h1 : x ∈ ι1
    · exact a.new x h1 hn
    · have q := b.new x hx h1
      cases e : H x with
      | none => rfl
      | some o => rw [a.keep x o e hn] at q; cases q
  keep := fun x o e hn => by
    have q := a.keep x o e hn
    refine b.keep x o q fun h1 => ?_
    rw [a.new x h1 hn] at e; cases e
theorem Fr.notin {ι ι' : List Addr} {H H' : Hp} (F : Fr ι H ι' H') {a : Addr} {o : HO} (e : H a = some o) (hn : a ∉ ι) : a ∉ ι' := fun h => by
  rw [F.new a h hn] at e; cases e
theorem Fr.rd {ι ι' : List Addr} {H H' : Hp} (F : Fr ι H ι' H') {a : Addr} {u : HO} (e : Rd H a u) (hn : a ∉ ι) : Rd H' a u ∧ a ∉ ι' := by
  rcases e with e | ⟨o, e⟩
  · exact ⟨.inl (F.keep _ _ e hn), F.notin e hn⟩
  · exact ⟨.inr ⟨o, F.keep _ _ e hn⟩, F.notin e hn⟩
theorem Fr.tup {K : PySem.W.Frag} {ι ι' : List Addr} {H H' : Hp} (F : Fr ι H ι' H') {a : Addr} {xs : List V} (h : TupAt K ι H a xs) : TupAt K ι' H' a xs := h.imp (fun h => F.rd h.1 h.2) fun h => h
theorem Fr.lst {K : PySem.W.Frag} {ι ι' : List Addr} {H H' : Hp} (F : Fr ι H ι' H') {a : Addr} {xs : List V} (h : LstAt K ι H a xs) : LstAt K ι' H' a xs := h.imp (fun h => F.rd h.1 h.2) fun h => h
theorem pre_get {α : Type} {l l' : List α} (h : l <+: l') {k : Nat} {a : α} (e : l[k]? = some a) : l'[k]? = some a := by
  obtain ⟨t, rfl⟩ := h
  rw [List.getElem?_append_left (List.getElem?_eq_some_iff.mp e).1]; exact e

section
variable {n : Nam} {ι ι' : List Addr} {H H' : Hp}
mutual
theorem VR.mono (F : Fr ι H ι' H') : ∀ {v : V} {w : Wv}, VR n ι H v w → VR n ι' H' v w
  | _, _, .non => .non
  | _, _, .bl b => .bl b
  | _, _, .int i => .int i
  | _, _, .str x => .str x
  | _, _, .tup h hs => .tup (F.tup h) (VRs.mono F hs)
  | _, _, .lst h hs => .lst (F.lst h) (VRs.mono F hs)
  | _, _, .ins h hn hf => .ins (F.keep _ _ h hn) (F.notin h hn) (VRf.mono F hf)
  | _, _, .ref h => .ref (pre_get F.pre h)
  | _, _, .dic h hn hd => .dic (F.rd h hn).1 (F.rd h hn).2 (VRd.mono F hd)
theorem VRs.mono (F : Fr ι H ι' H') : ∀ {v : List V} {w : List Wv}, VRs n ι H v w → VRs n ι' H' v w
  | _, _, .nil => .nil
  | _, _, .cons h t => .cons (VR.mono F h) (VRs.mono F t)
theorem VRf.mono (F : Fr ι H ι' H') : ∀ {v : List (Str × V)} {w : List (Nat × Wv)}, VRf n ι H v w → VRf n ι' H' v w
  | _, _, .nil => .nil
  | _, _, .cons h t => .cons (VR.mono F h) (VRf.mono F t)
theorem VRd.mono (F : Fr ι H ι' H') : ∀ {v : List (Key × V)} {w : List (Wv × Wv)}, VRd n ι H v w → VRd n ι' H' v w
  | _, _, .nil => .nil
  | _, _, .cons h t => .cons (VR.mono F h) (VRd.mono F t)
end
theorem VRn.mono (F : Fr ι H ι' H') : ∀ {xs : List (NestedKey × Addr × Value)} {ws : List (Wv × Wv)}, VRn n ι H xs ws → VRn n ι' H' xs ws
  | _, _, .nil => .nil
  | _, _, .cons a b c d e f g t => .cons (a.mono F) b c d e (f.mono F) g (t.mono F)
theorem FnC.mono (F : Fr ι H ι' H') {k : Nat} {fo : Obj} (h : FnC ι H k fo) : FnC ι' H' k fo := by
  obtain ⟨q, params, body, scope, pm, c', ctv, d, y, c, a, co, h1, h2, h3, h4, h5, h6, h7, h8⟩ := h
  exact ⟨q, params, body, scope, pm, c', ctv, d, y, c, a, co, h1, h2, F.keep _ _ h3 h4, F.notin h3 h4, F.keep _ _ h5 h6, F.notin h5 h6, h7, pre_get F.pre h8⟩
theorem OR.mono (F : Fr ι H ι' H') {a : Addr} {ho : HO} {o : Ob} (h : OR n ι H a ho o) : OR n ι' H' a ho o := by
  cases h with
  | lst h => exact .lst (h.mono F)
  | ins h => exact .ins (h.mono F)
  | dic h => exact .dic (h.mono F)
  | dcn h => exact .dcn (h.mono F)
  | fn h => exact .fn (h.mono F)
  | tab h1 h2 h3 => exact .tab h1 h2 fun pos cv e => let ⟨c, g1, g2, g3⟩ := h3 pos cv e; ⟨c, g1, F.keep _ _ g2 g3, F.notin g2 g3⟩

theorem VRs.length : ∀ {vs : List V} {ws : List Wv}, VRs n ι H vs ws → vs.length = ws.length
  | _, _, .nil => rfl
  | _, _, .cons _ t => by rw [List.length_cons, List.length_cons, t.length]
theorem VRs.get : ∀ {vs : List V} {ws : List Wv}, VRs n ι H vs ws → ∀ {i : Nat} {w : Wv}, ws[i]? = some w → ∃ v, vs[i]? = some v ∧ VR n ι H v w
  | _, _, .nil, i, w, e => by simp at e
  | _, _, .cons h t, 0, w, e => by
    simp at e; subst e; exact ⟨_, rfl, h⟩
  | _, _, .cons h t, i + 1, w, e => by
    obtain ⟨v, h1, h2⟩ := t.get (i := i) (by simpa using e)
    exact ⟨v, by simpa using h1, h2⟩
theorem VRs.get' : ∀ {vs : List V} {ws : List Wv}, VRs n ι H vs ws → ∀ {i : Nat} {v : V}, vs[i]? = some v → ∃ w, ws[i]? = some w ∧ VR n ι H v w
  | _, _, .nil, i, w, e => by simp at e
  | _, _, .cons h t, 0, w, e => by
    simp at e; subst e; exact ⟨_, rfl, h⟩
  | _, _, .cons h t, i + 1, w, e => by
    obtain ⟨v, h1, h2⟩ := t.get' (i := i) (by simpa using e)
    exact ⟨v, by simpa using h1, h2⟩
theorem VRs.append : ∀ {vs us : List V} {ws xs : List Wv}, VRs n ι H vs ws → VRs n ι H us xs → VRs n ι H (vs ++ us) (ws ++ xs)
  | _, _, _, _, .nil, h => h
  | _, _, _, _, .cons h t, h' => .cons h (t.append h')
theorem VRs.set {v : V} {w : Wv} (r : VR n ι H v w) : ∀ {vs : List V} {ws : List Wv} (i : Nat), VRs n ι H vs ws → VRs n ι H (vs.set i v) (ws.set i w)
  | _, _, _, .nil => .nil
  | _, _, 0, .cons _ t => .cons r t
  | _, _, i + 1, .cons h t => .cons h (VRs.set r i t)
theorem VRs.take : ∀ {vs : List V} {ws : List Wv} (k : Nat), VRs n ι H vs ws → VRs n ι H (vs.take k) (ws.take k)
  | _, _, 0, _ => .nil
  | _, _, _ + 1, .nil => .nil
  | _, _, k + 1, .cons h t => .cons h (t.take k)
theorem VRs.drop : ∀ {vs : List V} {ws : List Wv} (k : Nat), VRs n ι H vs ws → VRs n ι H (vs.drop k) (ws.drop k)
  | _, _, 0, h => h
  | _, _, _ + 1, .nil => .nil
  | _, _, k + 1, .cons h t => t.drop k
theorem VRs.reverse {vs : List V} {ws : List Wv} (h : VRs n ι H vs ws) : VRs n ι H vs.reverse ws.reverse := by
  induction vs generalizing ws with
  | nil => cases h; exact .nil
  | cons v vs ih =>
    cases h with
    | cons h t =>
      rw [List.reverse_cons, List.reverse_cons]
      exact (ih t).append (.cons h .nil)
theorem VRs.dropLast {vs : List V} {ws : List Wv} (h : VRs n ι H vs ws) : VRs n ι H vs.dropLast ws.dropLast := by
  rw [List.dropLast_eq_take, List.dropLast_eq_take, h.length]; exact h.take _
theorem VRs.eraseIdx : ∀ {vs : List V} {ws : List Wv} (k : Nat), VRs n ι H vs ws → VRs n ι H (vs.eraseIdx k) (ws.eraseIdx k)
  | _, _, _, .nil => .nil
  | _, _, 0, .cons h t => t
  | _, _, k + 1, .cons h t => .cons h (t.eraseIdx k)

/-! ### reading lists -/
theorem HR.cell {hp : Hs} (R : HR n ι H hp) {k : Nat} {o : Ob} (e : hp[k]? = some o) : ∃ a ho, ι[k]? = some a ∧ H a = some ho ∧ OR n ι H a ho o := by
  have hl := (List.getElem?_eq_some_iff.mp e).1
  rw [← R.len] at hl
  obtain ⟨ho, h1, h2⟩ := R.at_ k _ o (List.getElem?_eq_getElem hl) e
  exact ⟨_, ho, List.getElem?_eq_getElem hl, h1, h2⟩
theorem HR.there {hp : Hs} (R : HR n ι H hp) {a : Addr} (h : a ∈ ι) : ∃ ho, H a = some ho := by
  obtain ⟨k, hk, e⟩ := List.getElem_of_mem h
  have hk' := hk
  rw [R.len] at hk'
  obtain ⟨ho, h1, _⟩ := R.at_ k a _ (by rw [List.getElem?_eq_getElem hk, e]) (List.getElem?_eq_getElem hk')
  exact ⟨ho, h1⟩
theorem HR.fresh {hp : Hs} (R : HR n ι H hp) {p : Addr} (e : H p = none) : p ∉ ι := fun h => by
  obtain ⟨o, q⟩ := R.there h
  rw [e] at q; cases q
/-- a list value's items -/
theorem getL_rel {hp : Hs} (R : HR n ι H hp) {v : V} {w : Wv} (h : VR n ι H v w) {ws : List Wv} (e : getL hp w = some ws) : ∃ a vs, v = .ref a ∧ SqL n.K H a vs ∧ VRs n ι H vs ws := by
  cases h with
  | lst h hs => simp only [getL, Option.some.injEq] at e; subst e; exact ⟨_, _, rfl, h.seq, hs⟩
  | @ref k a h =>
    simp only [getL] at e
    split at e
    · rename_i ws' q
      cases e
      obtain ⟨ho, h1, h2⟩ := R.at_ k a _ h q
      cases h2 with
      | lst h3 => exact ⟨a, _, rfl, SqL.of h1, h3⟩
    · cases e
  | _ => simp [getL] at e
theorem getS_rel {hp : Hs} (R : HR n ι H hp) {v : V} {w : Wv} (h : VR n ι H v w) {ws : List Wv} (e : getS hp w = some ws) : ∃ a vs, v = .ref a ∧ (SqL n.K H a vs ∨ SqT n.K H a vs) ∧ VRs n ι H vs ws := by
  cases h with
  | tup h hs => simp only [getS, Option.some.injEq] at e; subst e; exact ⟨_, _, rfl, .inr h.seq, hs⟩
  | lst h hs =>
    obtain ⟨a, vs, h1, h2, h3⟩ := getL_rel R (.lst h hs) (ws := ws) (by simpa [getS] using e)
    exact ⟨a, vs, h1, .inl h2, h3⟩
  | ref h =>
    obtain ⟨a, vs, h1, h2, h3⟩ := getL_rel R (.ref h) (ws := ws) (by simpa [getS] using e)
    exact ⟨a, vs, h1, .inl h2, h3⟩
  | _ => simp [getS, getL] at e

/-! ### outcomes -/
/-- what is wished of an outcome -/
def Af {α β : Type} (n : Nam) (Rel : List Addr → Hp → β → α → Prop) (ι : List Addr) (H : Hp) (r : Rz α) (Q : β → Hp → Prop) (E : Nat → Wv → Hs → List Addr → Hp → Prop) : Prop :=
  match r with
  | .ok a hp' => ∀ b ι' H', Fr ι H ι' H' → HR n ι' H' hp' → Rel ι' H' b a → Q b H'
  | .exc c w hp' => ∀ ι' H', Fr ι H ι' H' → HR n ι' H' hp' → E c w hp' ι' H'
  | .bad => False
variable {α β γ δ : Type} {Rel : List Addr → Hp → β → α → Prop} {Rel2 : List Addr → Hp → δ → γ → Prop} {E : Nat → Wv → Hs → List Addr → Hp → Prop}
theorem Af.mono {r : Rz α} {Q Q' : β → Hp → Prop} (h : Af n Rel ι H r Q E) (hq : ∀ b H', Q b H' → Q' b H') : Af n Rel ι H r Q' E := by
  cases r with
  | ok a hp' => exact fun b ι' H' F R V => hq _ _ (h b ι' H' F R V)
  | exc c w hp' => exact h
  | bad => exact h
theorem Af.here {a : α} {hp : Hs} {b : β} {Q : β → Hp → Prop} (h : Af n Rel ι H (.ok a hp) Q E) (R : HR n ι H hp) (V : Rel ι H b a) : Q b H := h b ι H (Fr.refl _ _) R V
/-- one after the other -/
theorem Af.bind {r : Rz α} {k : α → Hs → Rz γ} {Q : δ → Hp → Prop} (h : Af n Rel2 ι H (r.bind k) Q E) :
    Af n Rel ι H r (fun b H1 => ∃ ι1 hp1 a, Fr ι H ι1 H1 ∧ HR n ι1 H1 hp1 ∧ Rel ι1 H1 b a ∧ Af n Rel2 ι1 H1 (k a hp1) Q E) E := by
  cases r with
  | ok a hp1 =>
    rw [Rz.bind_ok] at h
    intro b ι1 H1 F R V
    refine ⟨ι1, hp1, a, F, R, V, ?_⟩
    cases q : k a hp1 with
    | ok c hp2 =>
      rw [q] at h
      exact fun b2 ι2 H2 F2 R2 V2 => h b2 ι2 H2 (F.trans F2) R2 V2
    | exc c w hp2 =>
      rw [q] at h
      exact fun ι2 H2 F2 R2 => h ι2 H2 (F.trans F2) R2
    | bad => rw [q] at h; exact h
  | exc c w hp1 => exact h
  | bad => exact h
/-- behind a change of the state -/
theorem Af.at {r : Rz α} {Q : β → Hp → Prop} (h : Af n Rel ι H r Q E) (F : Fr ι H ι' H') : Af n Rel ι' H' r Q E := by
  cases r with
  | ok a hp' => exact fun b ι2 H2 F2 R V => h b ι2 H2 (F.trans F2) R V
  | exc c w hp' => exact fun ι2 H2 F2 R => h ι2 H2 (F.trans F2) R
  | bad => exact h
end
/-- the rules' world is the names' own -/
structure KW (X : Cx) (n : Nam) : Prop where
  K : X.K = n.K
  w : X.w = n.w
end SL

set_option maxRecDepth 100000
set_option maxHeartbeats 4000000
/-! A tuple times 1. -/
namespace SL
open PySem L2 PySem.Spec PyProof.Rows
set_option autoImplicit false
theorem tuple_mul1 (l : Addr) (items : Array Value) (n : Nat) (x : Int) (u : Tok) (c0 : (decide (x < -(2 ^ 63)) || decide (x ≥ 2 ^ 63)) = false) (c1 : (items.isEmpty || x == 1) = true) :
    Meets (Builtin.«tuple.__mul__» ⟨[.ref l, .int x u], []⟩) (fun _ R s => (∃ dd sl, s.heap.get? l = some { cls := .type "tuple", dict := dd, data := .seq items n, slots := sl }) ∧
      R (.ok (.ret (Value.ref l))) s) :=
  .of_wp fun prog w A R s h => by
    obtain ⟨hp, g, d, tk, os⟩ := s
    obtain ⟨⟨dd, sl, hl⟩, h⟩ := h
    have f1 := AutoSeq1.idx_int
    wp_walk using wpAny_loadPart' hl
    repeat (first
      | (refine wpAny_ite_false (decide_eq_false (by rw [c0]; exact Bool.false_ne_true)) ?_; wp_walk using wpAny_loadPart' hl)
      | (refine wpAny_ite_true (decide_eq_true (by rw [c1])) ?_; wp_walk using wpAny_loadPart' hl))
    exact ⟨_, rfl, h⟩
def rRepT1 (K : PySem.W.Frag) : R2 := fun x y H Q => ∃ l xs, x = .ref l ∧ y = .int 1 ∧ SqT K H l xs ∧ Q (.ref l) H
section
variable {X : Cx}
theorem op_repT1 : OpR X (binaryOp .Mult) (rRepT1 X.K) := by
  intro pins s σ H x y v u Q I rx ry h
  obtain ⟨l, xs, rfl, rfl, hT, q⟩ := h
  cases rx
  obtain ⟨t, rfl⟩ := ry
  obtain ⟨its, r, ⟨⟨cls, dd, data, sl⟩, ho, hc, n, hd⟩, hs⟩ := I.tuple hT
  simp only at hc hd
  subst hc hd
  have c0 : (decide ((1 : Int) < -(2 ^ 63)) || decide ((1 : Int) ≥ 2 ^ 63)) = false := by decide
  have c1 : (its.toArray.isEmpty || (1 : Int) == 1) = true := by
    rw [show ((1 : Int) == 1) = true from rfl, Bool.or_true]
  exact wpAny_binaryOp_repeat_ref (T := "tuple") (U := "int") (by decide) ⟨_, ho, rfl⟩ (fun s' => typeIs_int s' 1 t) noFill_tuple_mul F.fills_int_mul F.slot_int_rmul repeat_tuple F.slot_int_index.lookup
    (call_meets F.slot_int_rmul (typeIs_int s 1 t) F.entry_int_rmul (F.args_int_rmul_2 _ _) (int_rmul_tuple 1 t l its.toArray n dd sl)
      ⟨ho, rfl, ⟨_, ho, rfl⟩, call_meets F.slot_tuple_mul ⟨_, ho, rfl⟩ F.entry_tuple_mul (F.args_tuple_mul_2 _ _) (tuple_mul1 l its.toArray n 1 t c0 c1) ⟨⟨dd, sl, ho⟩, .ref l, H, I, rfl, q⟩⟩)
end
theorem tuple_mul0 (l : Addr) (items : Array Value) (n : Nat) (x : Int) (u : Tok) (c0 : (decide (x < -(2 ^ 63)) || decide (x ≥ 2 ^ 63)) = false) (c1 : (items.isEmpty || x == 1) = false) (c2 : (decide (x ≤ 0) || items.isEmpty) = true) :
    Meets (Builtin.«tuple.__mul__» ⟨[.ref l, .int x u], []⟩) (fun _ R s => (∃ dd sl, s.heap.get? l = some { cls := .type "tuple", dict := dd, data := .seq items n, slots := sl }) ∧
      R (.ok (.ret (Value.ref s.heap.objs.size))) { s with heap := s.heap.push { cls := Value.type "tuple", data := Data.seq #[] }, toks := s.toks }) :=
  .of_wp fun prog w A R s h => by
    obtain ⟨hp, g, d, tk, os⟩ := s
    obtain ⟨⟨dd, sl, hl⟩, h⟩ := h
    have f1 := AutoSeq1.idx_int
    wp_walk using wpAny_loadPart' hl
    repeat (first
      | (refine wpAny_ite_false (decide_eq_false (by rw [c0]; exact Bool.false_ne_true)) ?_; wp_walk using wpAny_loadPart' hl)
      | (refine wpAny_ite_false (decide_eq_false (by rw [c1]; exact Bool.false_ne_true)) ?_; wp_walk using wpAny_loadPart' hl)
      | (refine wpAny_ite_true (decide_eq_true (by rw [c2])) ?_; wp_walk using wpAny_loadPart' hl))
    exact ⟨_, rfl, h⟩
def rRepT0 (K : PySem.W.Frag) : R2 := fun x y H Q => ∃ l k xs, x = .ref l ∧ y = .int k ∧ SqT K H l xs ∧ xs ≠ [] ∧ k ≤ 0 ∧ -(2 ^ 63) ≤ k ∧ ∀ p, H p = none → Q (.ref p) (upd H p (.tup []))
section
variable {X : Cx}
theorem op_repT0 : OpR X (binaryOp .Mult) (rRepT0 X.K) := by
  intro pins s σ H x y v u Q I rx ry h
  obtain ⟨l, k, xs, rfl, rfl, hT, hne, h1, h2, q⟩ := h
  cases rx
  obtain ⟨t, rfl⟩ := ry
  obtain ⟨its, r, ⟨⟨cls, dd, data, sl⟩, ho, hc, n, hd⟩, hs⟩ := I.tuple hT
  simp only at hc hd
  subst hc hd
  have hle : its.length = xs.length := r.length.symm
  have hn : its ≠ [] := fun e => hne (by
    rw [e] at hle
    exact List.eq_nil_of_length_eq_zero hle.symm)
  have hi : its.toArray.isEmpty = false := by
    cases its with
    | nil => exact absurd rfl hn
    | cons a b => rfl
  have c0 : (decide (k < -(2 ^ 63)) || decide (k ≥ 2 ^ 63)) = false := by
    rw [decide_eq_false (by omega), decide_eq_false (by omega)] <;> rfl
  have c1 : (its.toArray.isEmpty || k == 1) = false := by
    rw [hi, Bool.false_or]
    exact beq_eq_false_iff_ne.mpr (by omega)
  have c2 : (decide (k ≤ 0) || its.toArray.isEmpty) = true := by
    rw [decide_eq_true h1, Bool.true_or]
  refine wpAny_binaryOp_repeat_ref (T := "tuple") (U := "int") (by decide) ⟨_, ho, rfl⟩ (fun s' => typeIs_int s' k t) noFill_tuple_mul F.fills_int_mul F.slot_int_rmul repeat_tuple F.slot_int_index.lookup
    (call_meets F.slot_int_rmul (typeIs_int s k t) F.entry_int_rmul (F.args_int_rmul_2 _ _) (int_rmul_tuple k t l its.toArray n dd sl)
      ⟨ho, rfl, ⟨_, ho, rfl⟩, call_meets F.slot_tuple_mul ⟨_, ho, rfl⟩ F.entry_tuple_mul (F.args_tuple_mul_2 _ _) (tuple_mul0 l its.toArray n k t c0 c1 c2) ⟨⟨dd, sl, ho⟩, ?_⟩⟩)
  refine ⟨.ref s.heap.objs.size, _, I.laid (t' := s.toks) (o := .tup []) (fun b ob q => Heap.get?_push_of_some _ q) (Nat.le_refl _) ?_, rfl, q _ (I.hok.fresh (Nat.le_refl _))⟩
  exact ⟨Nat.zero_le _, [], .nil, IsTup.new _ _⟩
end
end SL

set_option maxRecDepth 100000
set_option maxHeartbeats 1000000
/-! Readings of expressions by the evaluator: operations by values. -/
namespace SL
open PySem L2 PyProof.Rows
set_option autoImplicit false

structure SR (n : Nam) (ι : List Addr) (H : Hp) (σ : L2.St) (e : Ev) (hp : Hs) : Prop where
  hr : HR n ι H hp
  len : σ.length = e.length
  at_ : ∀ (i : Nat) (w : Wv), e[i]? = some (some w) → ∃ v, σ[i]? = some (some v) ∧ VR n ι H v w
theorem SR.mono {n : Nam} {ι ι' : List Addr} {H H' : Hp} {σ : L2.St} {e : Ev} {hp hp' : Hs} (S : SR n ι H σ e hp) (F : Fr ι H ι' H') (R : HR n ι' H' hp') : SR n ι' H' σ e hp' :=
  ⟨R, S.len, fun i w h => let ⟨v, h1, h2⟩ := S.at_ i w h; ⟨v, h1, h2.mono F⟩⟩

/-- the wish about a refusal: at these slots, of this class and value, in this state -/
abbrev Wx := L2.St → Nat → Wv → Hs → List Addr → Hp → Prop
def rd (n : Nam) (W : Wx) (m : Ev → Hs → Rz Wv) : TE := fun σ H Q => ∃ ι e hp, SR n ι H σ e hp ∧ Af n (VR n) ι H (m e hp) Q (W σ)
def rdT (n : Nam) (W : Wx) (m : Ev → Hs → Rz Bool) : TT := fun σ H Q => ∃ ι e hp, SR n ι H σ e hp ∧ Af n (fun _ _ b a => b = a) ι H (m e hp) Q (W σ)
def rdA (n : Nam) (W : Wx) (m : Ev → Hs → Rz (List Wv)) : TA := fun σ H Q => ∃ ι e hp, SR n ι H σ e hp ∧ Af n (VRs n) ι H (m e hp) Q (W σ)

theorem pe_wk {X : Cx} {e : Expr} {t t' : TE} (h : PE X e t) (w : ∀ σ H Q, t' σ H Q → t σ H Q) : PE X e t' := ⟨fun pins s σ H Q I q => h.run pins s σ H Q I (w σ H Q q)⟩
theorem pt_wk {X : Cx} {e : Expr} {t t' : TT} (h : PT X e t) (w : ∀ σ H Q, t' σ H Q → t σ H Q) : PT X e t' := ⟨fun pins s σ H Q I q => h.run pins s σ H Q I (w σ H Q q)⟩
theorem pw_wk {X : Cx} {e : Expr} {t t' : TT} (h : PW X e t) (w : ∀ σ H Q, t' σ H Q → t σ H Q) : PW X e t' := ⟨fun wh pins s σ H Q I q => h.run wh pins s σ H Q I (w σ H Q q)⟩
theorem pa_wk {X : Cx} {e : List Expr} {t t' : TA} (h : PA X e t) (w : ∀ σ H Q, t' σ H Q → t σ H Q) : PA X e t' := ⟨fun pos pins s σ H Q I q => h.run pos pins s σ H Q I (w σ H Q q)⟩
theorem opr_wk {X : Cx} {f : Value → Value → Sem Value} {r r' : R2} (h : OpR X f r) (w : ∀ x y H Q, r' x y H Q → r x y H Q) : OpR X f r' := fun pins s σ H x y v u Q I rx ry q => h pins s σ H x y v u Q I rx ry (w x y H Q q)

section
variable {n : Nam} {ι : List Addr} {H : Hp} {hp : Hs} {E : Nat → Wv → Hs → List Addr → Hp → Prop}
/-- a new cell -/
theorem HR.push (R : HR n ι H hp) {p : Addr} (hn : H p = none) {ho : HO} {o : Ob} (h : ∀ {ι' : List Addr} {H' : Hp}, Fr ι H ι' H' → OR n ι' H' p ho o) : Fr ι H (ι ++ [p]) (upd H p ho) ∧ HR n (ι ++ [p]) (upd H p ho) (hp ++ [o]) := by
  have F : Fr ι H (ι ++ [p]) (upd H p ho) := by
    refine ⟨⟨[p], rfl⟩, fun a ha hna => ?_, fun a u e hna => ?_⟩
    · rcases List.mem_append.mp ha with q | q
      · exact absurd q hna
      · rw [List.mem_singleton.mp q]; exact hn
    · rw [upd_ne (ne_of_none e hn)]; exact e
  refine ⟨F, by simp [R.len], ?_, fun k a u e1 e2 => ?_⟩
  · rw [List.nodup_append]
    refine ⟨R.nd, by simp, fun a ha b hb => ?_⟩
    rw [List.mem_singleton.mp hb]
    exact fun e => R.fresh hn (e ▸ ha)
  · by_cases hk : k < ι.length
    · rw [List.getElem?_append_left hk] at e1
      rw [List.getElem?_append_left (by rw [← R.len]; exact hk)] at e2
      obtain ⟨ho', h1, h2⟩ := R.at_ k a u e1 e2
      have hne : a ≠ p := ne_of_none h1 hn
      exact ⟨ho', by rw [upd_ne hne]; exact h1, h2.mono F⟩
    · have e1' : k = ι.length := by
        have := (List.getElem?_eq_some_iff.mp e1).1
        simp at this; omega
      subst e1'
      rw [List.getElem?_append_right (Nat.le_refl _), Nat.sub_self] at e1
      rw [List.getElem?_append_right (by rw [R.len]; exact Nat.le_refl _), R.len, Nat.sub_self] at e2
      simp only [List.getElem?_cons_zero, Option.some.injEq] at e1 e2
      subst e1 e2
      exact ⟨ho, upd_same, h F⟩
/-- a cell is changed -/
theorem HR.set (R : HR n ι H hp) {k : Nat} {a : Addr} (ha : ι[k]? = some a) {ho : HO} {o : Ob} (h : ∀ {H' : Hp}, Fr ι H ι H' → OR n ι H' a ho o) : Fr ι H ι (upd H a ho) ∧ HR n ι (upd H a ho) (hp.set k o) := by
  have hm : a ∈ ι := List.mem_of_getElem? ha
  have F : Fr ι H ι (upd H a ho) := ⟨List.prefix_refl _, fun _ h h' => absurd h h', fun b u e hb => by rw [upd_ne (fun q : b = a => hb (by rw [q]; exact hm))]; exact e⟩
  refine ⟨F, by simp [R.len], R.nd, fun j b u e1 e2 => ?_⟩
  by_cases hj : j = k
  · subst hj
    rw [ha] at e1; cases e1
    have hl : j < hp.length := by rw [← R.len]; exact (List.getElem?_eq_some_iff.mp ha).1
    rw [List.getElem?_set_self hl] at e2; cases e2
    exact ⟨ho, upd_same, h F⟩
  · rw [List.getElem?_set_ne (Ne.symm hj)] at e2
    obtain ⟨ho', h1, h2⟩ := R.at_ j b u e1 e2
    have hne : b ≠ a := fun q => hj (by
      obtain ⟨l1, g1⟩ := List.getElem?_eq_some_iff.mp e1
      obtain ⟨l2, g2⟩ := List.getElem?_eq_some_iff.mp ha
      exact (List.getElem_inj R.nd).mp (g1.trans (q.trans g2.symm)))
    exact ⟨ho', by rw [upd_ne hne]; exact h1, h2.mono F⟩
/-- a new list -/
theorem newL_ok (R : HR n ι H hp) {vs : List V} {ws : List Wv} (h : VRs n ι H vs ws) {Q : VK} (A : Af n (VR n) ι H (newL ws hp) Q E) : vs.length ≤ sizeLine ∧ ∀ p, H p = none → Q (.ref p) (upd H p (.lst vs)) := by
  unfold newL at A
  split at A
  · rename_i hz
    refine ⟨by rw [h.length]; exact hz, fun p hn => ?_⟩
    obtain ⟨F, R'⟩ := R.push hn (ho := .lst vs) (o := .lst ws) fun F => .lst (h.mono F)
    refine A _ _ _ F R' (.ref ?_)
    rw [← R.len, List.getElem?_append_right (Nat.le_refl _), Nat.sub_self]; rfl
  · exact A.elim
/-- a new tuple -/
theorem newT_ok (R : HR n ι H hp) {vs : List V} {ws : List Wv} (h : VRs n ι H vs ws) {Q : VK} (A : Af n (VR n) ι H (.ok (.tup ws) hp) Q E) : ∀ p, H p = none → Q (.ref p) (upd H p (.tup vs)) := fun p hn => by
  have F : Fr ι H ι (upd H p (.tup vs)) := ⟨List.prefix_refl _, fun _ h h' => absurd h h', fun b u e hb => by rw [upd_ne (ne_of_none e hn)]; exact e⟩
  refine A _ ι _ F ⟨R.len, R.nd, fun k a o e1 e2 => ?_⟩ (.tup (.inl ⟨.inl upd_same, R.fresh hn⟩) (h.mono F))
  obtain ⟨ho, h1, h2⟩ := R.at_ k a o e1 e2
  exact ⟨ho, by rw [upd_ne (ne_of_none h1 hn)]; exact h1, h2.mono F⟩
/-- the cell's own list -/
theorem HR.lstAt (R : HR n ι H hp) {k : Nat} {a : Addr} (h : ι[k]? = some a) {ws : List Wv} (e : hp[k]? = some (.lst ws)) : ∃ vs, H a = some (.lst vs) ∧ VRs n ι H vs ws := by
  obtain ⟨ho, h1, h2⟩ := R.at_ k a _ h e
  cases h2 with
  | lst h3 => exact ⟨_, h1, h3⟩
theorem setL_ok (R : HR n ι H hp) {k : Nat} {a : Addr} (ha : ι[k]? = some a) {vs : List V} {ws : List Wv} (h : VRs n ι H vs ws) {v : V} {w : Wv} (hv : VR n ι H v w) {Q : VK}
    (A : Af n (VR n) ι H (.ok w (hp.set k (.lst ws))) Q E) : Q v (upd H a (.lst vs)) := by
  obtain ⟨F, R'⟩ := R.set ha (ho := .lst vs) (o := .lst ws) fun F => .lst (h.mono F)
  exact A _ _ _ F R' (hv.mono F)

theorem getL_ref {k : Nat} {ws : List Wv} : getL hp (.ref k) = some ws ↔ hp[k]? = some (.lst ws) := by
  unfold getL
  constructor
  · intro e
    dsimp only at e
    split at e
    · rename_i q; cases e; exact q
    · cases e
  · intro e; simp only [e]
/-! ### operators -/
variable {X : Cx}
theorem bin_add (hK : KW X n) : OpR X (binaryOp .Add) (fun x y H Q => ∃ ι hp a b E, HR n ι H hp ∧ VR n ι H x a ∧ VR n ι H y b ∧ Af n (VR n) ι H (binop .add a b hp) Q E) := by
  refine opr_wk (op_add.or (op_add_str.or (op_catA.or op_cat))) fun x y H Q ⟨ι, hp, a, b, E, R, va, vb, A⟩ => ?_
  cases va with
  | int i =>
    cases vb with
    | int j => exact .inl ⟨i, j, rfl, rfl, A.here R (.int _)⟩
    | _ => exact A.elim
  | str i =>
    cases vb with
    | str j =>
      simp only [binop] at A
      split at A
      · rename_i hz; exact .inr (.inl ⟨i, j, rfl, rfl, hz, A.here R (.str _)⟩)
      · exact A.elim
    | _ => exact A.elim
  | tup h hs =>
    cases vb with
    | tup h' hs' =>
      simp only [binop] at A
      split at A
      · rename_i hz
        refine .inr (.inr (.inl ⟨_, _, _, _, rfl, rfl, hK.K ▸ h.seq, hK.K ▸ h'.seq, by rw [hs.length, hs'.length]; exact hz, fun e => ?_, fun _ e => ?_, fun _ _ => ?_⟩))
        · subst e; cases hs; exact A.here R (.tup h' hs')
        · subst e; cases hs'; rw [List.append_nil] at A; exact A.here R (.tup h hs)
        · exact newT_ok R (hs.append hs') A
      · exact A.elim
    | _ => exact A.elim
  | @ref k p h =>
    cases vb with
    | @ref k' p' h' =>
      simp only [binop] at A
      split at A
      · rename_i xs ys q1 q2
        obtain ⟨vs, g1, g2⟩ := R.lstAt h (getL_ref.mp q1)
        obtain ⟨us, g3, g4⟩ := R.lstAt h' (getL_ref.mp q2)
        obtain ⟨hz, hn⟩ := newL_ok R (g2.append g4) A
        exact .inr (.inr (.inr ⟨p, p', vs, us, rfl, rfl, g1, g3, by simpa using hz, hn⟩))
      · exact A.elim
    | _ => exact A.elim
  | _ => exact A.elim
theorem bin_int {op : Operator} {o : Op2} {C : Int → Int → Prop} [∀ i j, Decidable (C i j)] {g : Int → Int → Int} (h : OpR X (binaryOp op) (rI C fun i j => .int (g i j)))
    (hb : ∀ (a b : Wv) hp, binop o a b hp = match a, b with | .int i, .int j => if C i j then .ok (.int (g i j)) hp else .bad | _, _ => .bad) :
    OpR X (binaryOp op) (fun x y H Q => ∃ ι hp a b E, HR n ι H hp ∧ VR n ι H x a ∧ VR n ι H y b ∧ Af n (VR n) ι H (binop o a b hp) Q E) := by
  refine opr_wk h fun x y H Q ⟨ι, hp, a, b, E, R, va, vb, A⟩ => ?_
  rw [hb] at A
  cases va <;> cases vb <;> try exact A.elim
  simp only at A
  split at A
  · rename_i hc; exact ⟨_, _, rfl, rfl, hc, A.here R (.int _)⟩
  · exact A.elim
theorem bin_int0 {op : Operator} {o : Op2} {g : Int → Int → Int} (h : OpR X (binaryOp op) (rI0 fun i j => .int (g i j)))
    (hb : ∀ (a b : Wv) hp, binop o a b hp = match a, b with | .int i, .int j => .ok (.int (g i j)) hp | _, _ => .bad) :
    OpR X (binaryOp op) (fun x y H Q => ∃ ι hp a b E, HR n ι H hp ∧ VR n ι H x a ∧ VR n ι H y b ∧ Af n (VR n) ι H (binop o a b hp) Q E) := by
  refine opr_wk h fun x y H Q ⟨ι, hp, a, b, E, R, va, vb, A⟩ => ?_
  rw [hb] at A
  cases va <;> cases vb <;> try exact A.elim
  exact ⟨_, _, rfl, rfl, A.here R (.int _)⟩
theorem VRs.rep {n : Nam} {ι : List Addr} {H : Hp} {vs : List V} {ws : List Wv} (h : VRs n ι H vs ws) : ∀ k : Nat, VRs n ι H (List.replicate k vs).flatten (List.replicate k ws).flatten
  | 0 => .nil
  | k + 1 => by
    rw [List.replicate_succ, List.replicate_succ, List.flatten_cons, List.flatten_cons]
    exact h.append (VRs.rep h k)
theorem bin_mul (hK : KW X n) : OpR X (binaryOp .Mult) (fun x y H Q => ∃ ι hp a b E, HR n ι H hp ∧ VR n ι H x a ∧ VR n ι H y b ∧ Af n (VR n) ι H (binop .mul a b hp) Q E) := by
  refine opr_wk (((op_mul.or op_mulW).or (op_repT1.or op_repT)).or (op_repT0.or op_rep)) fun x y H Q ⟨ι, hp, a, b, E, R, va, vb, A⟩ => ?_
  cases va with
  | int i =>
    cases vb with
    | int j =>
      simp only [binop] at A
      split at A
      · rename_i hc
        rcases hc with hc | hc
        · exact .inl (.inl (.inl ⟨i, j, rfl, rfl, hc, A.here R (.int _)⟩))
        · exact .inl (.inl (.inr ⟨i, j, rfl, rfl, hc, A.here R (.int _)⟩))
      · exact A.elim
    | _ => exact A.elim
  | tup h hs =>
    cases vb with
    | int k =>
      simp only [binop] at A
      split at A
      · rename_i hk
        subst hk
        exact .inl (.inr (.inl ⟨_, _, rfl, rfl, hK.K ▸ h.seq, A.here R (.tup h hs)⟩))
      · split at A
        · rename_i hc
          obtain ⟨h1, h2, h3⟩ := hc
          refine .inr (.inl ⟨_, k, _, rfl, rfl, hK.K ▸ h.seq, fun e => ?_, h1, h3, newT_ok R .nil A⟩)
          subst e
          cases hs
          exact h2 rfl
        split at A
        · rename_i hc
          obtain ⟨h1, h2, h3, h4⟩ := hc
          refine .inl (.inr (.inr ⟨_, k, _, rfl, rfl, hK.K ▸ h.seq, fun e => ?_, h2, h3, by rw [hs.length]; exact h4, newT_ok R (hs.rep _) A⟩))
          subst e
          cases hs
          exact h1 rfl
        · exact A.elim
    | _ => exact A.elim
  | @ref c p h =>
    cases vb with
    | int k =>
      simp only [binop] at A
      split at A
      · rename_i ws q
        split at A
        · rename_i hc
          obtain ⟨h1, h2, h3⟩ := hc
          obtain ⟨vs, g1, g2⟩ := R.lstAt h (getL_ref.mp q)
          exact .inr (.inr ⟨p, k, vs, rfl, rfl, g1, h1, h2, by rw [g2.length]; exact h3, (newL_ok R (g2.rep _) A).2⟩)
        · exact A.elim
      · exact A.elim
    | _ => exact A.elim
  | _ => exact A.elim
def opOf : Op2 → Operator
  | .add => .Add | .sub => .Sub | .mul => .Mult | .fdiv => .FloorDiv | .mod => .Mod | .pow => .Pow | .shl => .LShift | .shr => .RShift | .band => .BitAnd | .bor => .BitOr
theorem bin_ok (hK : KW X n) (o : Op2) : OpR X (binaryOp (opOf o)) (fun x y H Q => ∃ ι hp a b E, HR n ι H hp ∧ VR n ι H x a ∧ VR n ι H y b ∧ Af n (VR n) ι H (binop o a b hp) Q E) := by
  cases o with
  | add => exact bin_add hK
  | sub => exact bin_int0 op_sub fun a b hp => by cases a <;> cases b <;> rfl
  | mul => exact bin_mul hK
  | fdiv => exact bin_int op_fdivW fun a b hp => by cases a <;> cases b <;> rfl
  | mod => exact bin_int op_mod fun a b hp => by cases a <;> cases b <;> rfl
  | pow => exact bin_int op_pow fun a b hp => by cases a <;> cases b <;> rfl
  | shl => exact bin_int op_shl fun a b hp => by cases a <;> cases b <;> rfl
  | shr => exact bin_int op_shr fun a b hp => by cases a <;> cases b <;> rfl
  | band => exact bin_int0 op_and fun a b hp => by cases a <;> cases b <;> rfl
  | bor => exact bin_int0 op_or fun a b hp => by cases a <;> cases b <;> rfl
end
end SL

set_option maxRecDepth 100000
set_option maxHeartbeats 1000000
/-! What keys are; dicts with tuples as keys. -/
namespace SL
open PySem L2 PyProof.Rows PySem.W
set_option autoImplicit false
section
variable {n : Nam} {ι : List Addr} {H : Hp} {hp : Hs} {E : Nat → Wv → Hs → List Addr → Hp → Prop} {X : Cx} {pins : List (Addr × Obj)} {σ : L2.St} {s : Shared}
mutual
/-- a value's key, and its reading -/
theorem w_key (hK : KW X n) (I : Inv X pins σ H s) : ∀ (w : Wv) (v : V) (u : Value) (d : PyData), VR n ι H v w → RelV v u → w.toD = some d → intsy d = true → NestedIs s.heap (keyD d) u ∧ Reads s.heap u d []
  | .int i, v, u, d, h, r, e, g => by
    simp [Wv.toD] at e; subst e
    cases h
    obtain ⟨t, rfl⟩ := r
    exact ⟨.int i t, .int i t⟩
  | .tup ws, v, u, d, h, r, e, g => by
    simp only [Wv.toD, Option.map_eq_some_iff] at e
    obtain ⟨ds, e1, rfl⟩ := e
    cases h with
    | tup ha hs =>
      cases r
      obtain ⟨its, r2, ⟨o, ho, hc, m, hd⟩, _⟩ := I.tuple (hK.K ▸ ha.seq)
      obtain ⟨k1, k2⟩ := ws_key hK I ws _ its ds hs r2 e1 (by simpa [intsy] using g)
      exact ⟨.tup ho hc hd (by simpa using k1), .tuple ho hc hd (by simpa using k2)⟩
  | .non, _, _, d, _, _, e, g => by simp [Wv.toD] at e; subst e; simp [intsy] at g
  | .bl _, _, _, d, _, _, e, g => by simp [Wv.toD] at e; subst e; simp [intsy] at g
  | .str _, _, _, d, _, _, e, g => by simp [Wv.toD] at e; subst e; simp [intsy] at g
  | .lst ws, _, _, d, _, _, e, g => by
    simp only [Wv.toD, Option.map_eq_some_iff] at e
    obtain ⟨ds, e1, rfl⟩ := e
    simp [intsy] at g
  | .dic _, _, _, d, _, _, e, _ => by simp [Wv.toD] at e
  | .ins _ _, _, _, d, _, _, e, _ => by simp [Wv.toD] at e
  | .ref _, _, _, d, _, _, e, _ => by simp [Wv.toD] at e
  | .fn _, _, _, d, _, _, e, _ => by simp [Wv.toD] at e
  | .cls _, _, _, d, _, _, e, _ => by simp [Wv.toD] at e
theorem ws_key (hK : KW X n) (I : Inv X pins σ H s) : ∀ (ws : List Wv) (vs : List V) (us : List Value) (ds : List PyData), VRs n ι H vs ws → Vals vs us → toDs ws = some ds → intsys ds = true → NestedAll s.heap (keysD ds) us ∧ ReadsAll s.heap us ds []
  | [], _, _, ds, h, r, e, g => by
    simp [toDs] at e; subst e
    cases h
    cases r
    exact ⟨.nil, .nil⟩
  | w :: ws, _, _, ds, h, r, e, g => by
    simp only [toDs] at e
    split at e
    · rename_i d es e1 e2
      cases e
      simp only [intsys, Bool.and_eq_true] at g
      cases h with
      | cons h1 h2 =>
        cases r with
        | cons r1 r2 =>
          obtain ⟨a1, a2⟩ := w_key hK I w _ _ d h1 r1 e1 g.1
          obtain ⟨b1, b2⟩ := ws_key hK I ws _ _ es h2 r2 e2 g.2
          exact ⟨.cons a1 b1, .cons a2 b2⟩
    · cases e
end

/-! ### dicts with texts and ints as keys -/
theorem keq_kW (j k : Key) : keq (kW j) (kW k) = decide (j = k) := by
  cases j <;> cases k <;> simp [keq, kW]
theorem VRd.val : ∀ {vs : List (Key × V)} {ws : List (Wv × Wv)}, VRd n ι H vs ws → ∀ {k : Key} {w : Wv}, valW ws (kW k) = some w → ∃ v, valV vs k = some v ∧ VR n ι H v w
  | _, _, .nil, k, w, e => by simp [valW] at e
  | _, _, .cons (k := j) h t, k, w, e => by
    simp only [valW, keq_kW, decide_eq_true_eq] at e
    by_cases q : j = k
    · rw [if_pos q] at e; cases e
      exact ⟨_, valV_pos q, h⟩
    · rw [if_neg q] at e
      obtain ⟨v, h1, h2⟩ := t.val e
      exact ⟨v, by rw [valV_neg q]; exact h1, h2⟩
theorem VRd.some_iff : ∀ {vs : List (Key × V)} {ws : List (Wv × Wv)}, VRd n ι H vs ws → ∀ (k : Key), (valW ws (kW k)).isSome = (valV vs k).isSome
  | _, _, .nil, k => rfl
  | _, _, .cons (k := j) h t, k => by
    simp only [valW, keq_kW, decide_eq_true_eq]
    by_cases q : j = k
    · rw [if_pos q, valV_pos q]; rfl
    · rw [if_neg q, valV_neg q]; exact t.some_iff k
theorem VRd.repl {v : V} {w : Wv} (hv : VR n ι H v w) (k : Key) : ∀ {vs : List (Key × V)} {ws : List (Wv × Wv)}, VRd n ι H vs ws → VRd n ι H (vs.map fun kv => if kv.1 = k then (kv.1, v) else kv) (ws.map fun p => if keq p.1 (kW k) = true then (p.1, w) else p)
  | _, _, .nil => .nil
  | _, _, .cons (k := j) h t => by
    simp only [List.map_cons, keq_kW, decide_eq_true_eq]
    by_cases q : j = k
    · rw [if_pos q, if_pos q]; exact .cons hv (VRd.repl hv k t)
    · rw [if_neg q, if_neg q]; exact .cons h (VRd.repl hv k t)
theorem VRd.snoc {k : Key} {v : V} {w : Wv} (hv : VR n ι H v w) : ∀ {vs : List (Key × V)} {ws : List (Wv × Wv)}, VRd n ι H vs ws → VRd n ι H (vs ++ [(k, v)]) (ws ++ [(kW k, w)])
  | _, _, .nil => .cons hv .nil
  | _, _, .cons h t => .cons h (t.snoc hv)
theorem VRd.put {v : V} {w : Wv} (hv : VR n ι H v w) (k : Key) {vs : List (Key × V)} {ws : List (Wv × Wv)} (h : VRd n ι H vs ws) : VRd n ι H (putK vs k v) (putW ws (kW k) w) := by
  unfold putK putW
  rw [valV_any, h.some_iff k]
  by_cases q : (valV vs k).isSome = true
  · rw [if_pos q, if_pos q]; exact h.repl hv k
  · rw [if_neg q, if_neg q]; exact h.snoc hv
theorem VRd.merge : ∀ {more : List (Key × V)} {us : List (Wv × Wv)}, VRd n ι H more us → ∀ {vs : List (Key × V)} {ws : List (Wv × Wv)}, VRd n ι H vs ws → VRd n ι H (mergeK vs more) (mergeW ws us)
  | _, _, .nil, _, _, h => h
  | _, _, .cons (k := k) hv t, _, _, h => t.merge (h.put hv k)
theorem VRd.length : ∀ {vs : List (Key × V)} {ws : List (Wv × Wv)}, VRd n ι H vs ws → vs.length = ws.length
  | _, _, .nil => rfl
  | _, _, .cons _ t => by rw [List.length_cons, List.length_cons, t.length]
/-! ### dicts with tuples as keys -/
theorem keyOk_of {q : Wv} (h : keyOk q = true) : ∃ ws d, q = .tup ws ∧ q.toD = some d ∧ intsy d = true ∧ d.depth ≤ 8 := by
  unfold keyOk at h
  split at h
  · rename_i ws
    split at h
    · rename_i d e
      simp only [Bool.and_eq_true, decide_eq_true_eq] at h
      exact ⟨ws, d, rfl, e, h.1, h.2⟩
    · cases h
  · cases h
theorem ref_tup {b : Addr} {q : Wv} {d : PyData} (h : VR n ι H (.ref b) q) (e : q.toD = some d) (g : intsy d = true) : ∃ ws, q = .tup ws := by
  cases h with
  | tup _ _ => exact ⟨_, rfl⟩
  | lst _ _ =>
    simp only [Wv.toD, Option.map_eq_some_iff] at e
    obtain ⟨ds, _, rfl⟩ := e
    simp [intsy] at g
  | ins _ _ _ => simp [Wv.toD] at e
  | dic _ _ _ => simp [Wv.toD] at e
  | ref _ => simp [Wv.toD] at e
theorem keq_keys {q' q : Wv} {d' d : PyData} {ws' ws : List Wv} (t' : q' = .tup ws') (t : q = .tup ws) (e' : q'.toD = some d') (e : q.toD = some d) (g' : intsy d' = true) (g : intsy d = true) : keq q' q = decide (keyD d' = keyD d) := by
  have b' := back_w _ _ e' g'
  have b := back_w _ _ e g
  have k' := (key_data _ g').1
  have k := (key_data _ g).1
  have z : keq q' q = decide (q' = q) := by
    rw [t', t]
    simp [keq]
  rw [z, decide_eq_decide]
  constructor
  · intro h
    rw [h, e] at e'
    rw [Option.some.inj e']
  · intro h
    rw [← b', ← b, ← k', ← k, h]
theorem VRn.length : ∀ {xs : List (NestedKey × Addr × Value)} {ws : List (Wv × Wv)}, VRn n ι H xs ws → xs.length = ws.length
  | _, _, .nil => rfl
  | _, _, .cons _ _ _ _ _ _ _ t => by rw [List.length_cons, List.length_cons, t.length]
theorem atKey_cons {K : Type} [DecidableEq K] (k : K) (p : Addr × Value) (xs : List (K × Addr × Value)) (j : K) : atKey ((k, p) :: xs) j = if k = j then some p else atKey xs j := by
  unfold atKey
  by_cases c : k = j
  · rw [if_pos c, List.find?_cons_of_pos (by simpa using c)]; rfl
  · rw [if_neg c, List.find?_cons_of_neg (by simpa using c)]
theorem VRn.val {q : Wv} {d : PyData} {ws0 : List Wv} (ht : q = .tup ws0) (e : q.toD = some d) (g : intsy d = true) : ∀ {xs : List (NestedKey × Addr × Value)} {kvs : List (Wv × Wv)}, VRn n ι H xs kvs →
    (valW kvs q = none ∧ atKey xs (keyD d) = none) ∨ ∃ w b u v, valW kvs q = some w ∧ atKey xs (keyD d) = some (b, u) ∧ VR n ι H v w ∧ RelV v u
  | _, _, .nil => .inl ⟨rfl, rfl⟩
  | _, _, .cons (k := k) (b := b) (u := u) (q := q') (w := w) (d := d') a1 a2 a3 a4 a5 a6 a7 t => by
    obtain ⟨ws', t'⟩ := ref_tup a1 a2 a3
    have kq := keq_keys t' ht a2 e a3 g
    rw [atKey_cons, valW, kq, a5]
    by_cases c : keyD d' = keyD d
    · simp only [c, decide_true, if_true]
      exact .inr ⟨_, _, _, _, rfl, rfl, a6, a7⟩
    · simp only [c, decide_false, if_false, Bool.false_eq_true]
      exact VRn.val ht e g t
theorem VRn.repl {q : Wv} {d : PyData} {ws0 : List Wv} (ht : q = .tup ws0) (e : q.toD = some d) (g : intsy d = true) {v : V} {w : Wv} {u : Value} (hv : VR n ι H v w) (hu : RelV v u) : ∀ {xs : List (NestedKey × Addr × Value)} {kvs : List (Wv × Wv)}, VRn n ι H xs kvs →
    VRn n ι H (xs.map (putAt (keyD d) u)) (kvs.map fun p => if keq p.1 q = true then (p.1, w) else p)
  | _, _, .nil => .nil
  | _, _, .cons (k := k) (b := b) (u := u') (q := q') (w := w') (d := d') a1 a2 a3 a4 a5 a6 a7 t => by
    obtain ⟨ws', t'⟩ := ref_tup a1 a2 a3
    have kq := keq_keys t' ht a2 e a3 g
    rw [List.map_cons, List.map_cons, kq]
    unfold putAt
    simp only [a5]
    by_cases c : keyD d' = keyD d
    · simp only [c, decide_true, if_true]
      exact .cons a1 a2 a3 a4 c.symm hv hu (VRn.repl ht e g hv hu t)
    · simp only [c, decide_false, if_false, Bool.false_eq_true]
      exact .cons a1 a2 a3 a4 rfl a6 a7 (VRn.repl ht e g hv hu t)
theorem VRn.snoc {q w : Wv} {d : PyData} {b : Addr} {u : Value} {v : V} (a1 : VR n ι H (.ref b) q) (a2 : q.toD = some d) (a3 : intsy d = true) (a4 : d.depth ≤ 8) (a6 : VR n ι H v w) (a7 : RelV v u) : ∀ {xs : List (NestedKey × Addr × Value)} {kvs : List (Wv × Wv)}, VRn n ι H xs kvs → VRn n ι H (xs ++ [(keyD d, b, u)]) (kvs ++ [(q, w)])
  | _, _, .nil => .cons a1 a2 a3 a4 rfl a6 a7 .nil
  | _, _, .cons b1 b2 b3 b4 b5 b6 b7 t => .cons b1 b2 b3 b4 b5 b6 b7 (VRn.snoc a1 a2 a3 a4 a6 a7 t)
theorem VRn.put {q w : Wv} {d : PyData} {b : Addr} {u : Value} {v : V} (a1 : VR n ι H (.ref b) q) (a2 : q.toD = some d) (a3 : intsy d = true) (a4 : d.depth ≤ 8) (a6 : VR n ι H v w) (a7 : RelV v u) {xs : List (NestedKey × Addr × Value)} {kvs : List (Wv × Wv)} (h : VRn n ι H xs kvs) : VRn n ι H (storedH xs (keyD d) b u) (putW kvs q w) := by
  obtain ⟨ws, ht⟩ := ref_tup a1 a2 a3
  unfold storedH putW
  rcases h.val ht a2 a3 with ⟨e1, e2⟩ | ⟨w', b', u', v', e1, e2, _, _⟩
  · rw [e1, e2]
    exact h.snoc a1 a2 a3 a4 a6 a7
  · rw [e1, e2]
    exact h.repl ht a2 a3 a6 a7
/-- the key stands at its address -/
theorem n_key (hK : KW X n) (I : Inv X pins σ H s) {b : Addr} {q : Wv} {d : PyData} (a1 : VR n ι H (.ref b) q) (a2 : q.toD = some d) (a3 : intsy d = true) (a4 : d.depth ≤ 8) : (nestedKind X.prog X.w).is s.heap (keyD d) b :=
  ⟨(w_key hK I q (.ref b) (.ref b) d a1 rfl a2 a3).1, by rw [(key_data _ a3).2.2]; exact a4⟩
theorem VRn.isk (hK : KW X n) (I : Inv X pins σ H s) : ∀ {xs : List (NestedKey × Addr × Value)} {kvs : List (Wv × Wv)}, VRn n ι H xs kvs → ∀ x ∈ xs, (nestedKind X.prog X.w).is s.heap x.1 x.2.1
  | _, _, .nil, x, hx => by cases hx
  | _, _, .cons a1 a2 a3 a4 a5 a6 a7 t, x, hx => by
    rcases List.mem_cons.mp hx with rfl | hx
    · rw [a5]
      exact n_key hK I a1 a2 a3 a4
    · exact VRn.isk hK I t x hx
theorem n_dict (hK : KW X n) (I : Inv X pins σ H s) {a : Addr} {xs : List (NestedKey × Addr × Value)} {kvs : List (Wv × Wv)} (e : H a = some (.ext (RawN n.w a xs))) (hv : VRn n ι H xs kvs) : xs.length ≤ sizeLine ∧ (a == sysModules) = false ∧ s.heap.DictOfH (nestedKind X.prog X.w) a xs := by
  obtain ⟨⟨z, hd, o, es, ep, h1, h2, h3, h4, h5⟩, _, _⟩ := (show ObjOk X.prog X.w H s.heap a (.ext (RawN n.w a xs)) from I.hok a _ e)
  refine ⟨z, hd, o, es, ep, h1, h2, h3, ?_, hv.isk hK I, h5⟩
  rw [h4, ← hK.w]
  rfl
theorem n_new (hK : KW X n) {H' : Hp} {h' : Heap} {a : Addr} {xs : List (NestedKey × Addr × Value)} (z : xs.length ≤ sizeLine) (hd : (a == sysModules) = false) (dd : h'.DictOfH (nestedKind X.prog X.w) a xs) : ObjOk X.prog X.w H' h' a (.ext (RawN n.w a xs)) := by
  obtain ⟨o, es, ep, h1, h2, h3, h4, _, h5⟩ := dd
  refine ⟨⟨z, hd, o, es, ep, h1, h2, h3, ?_, h5⟩, ⟨o, h1⟩, fun g1 g2 ⟨z, hd, o, es, ep, h1, r⟩ k => ⟨z, hd, o, es, ep, k _ h1, r⟩⟩
  rw [h4, ← hK.w]
  rfl
theorem n_empty {a : Addr} (I : Inv X pins σ H s) (e : H a = some (.dK [])) : (a == sysModules) = false ∧ s.heap.DictOfH (nestedKind X.prog X.w) a [] := by
  obtain ⟨_, hd, vs, rel, o, es, ep, h1, h2, h3, _, h5, _⟩ := dk_of I.hok e
  cases rel
  have hl : es.toList = [] := by
    generalize es.toList = l at h5
    cases h5
    rfl
  exact ⟨hd, o, es, ep, h1, h2, h3, by rw [hl]; rfl, fun x hx => (by cases hx), List.nodup_nil⟩
end
end SL

set_option maxRecDepth 100000
set_option maxHeartbeats 1000000
/-! Comparisons, subscripts, built-in functions by values. -/
namespace SL
open PySem L2 PyProof.Rows
set_option autoImplicit false

section
variable {n : Nam} {ι : List Addr} {H : Hp} {hp : Hs} {E : Nat → Wv → Hs → List Addr → Hp → Prop}
/-! ### data -/
mutual
theorem toD_plain : ∀ (w : Wv) (d : PyData), w.toD = some d → d.plain = true
  | .non, d, h => by simp [Wv.toD] at h; subst h; rfl
  | .bl b, d, h => by simp [Wv.toD] at h; subst h; rfl
  | .int b, d, h => by simp [Wv.toD] at h; subst h; rfl
  | .str b, d, h => by simp [Wv.toD] at h; subst h; rfl
  | .tup ws, d, h => by
    simp only [Wv.toD, Option.map_eq_some_iff] at h
    obtain ⟨ds, h1, rfl⟩ := h
    simp only [PyData.plain]; exact toDs_plain ws ds h1
  | .lst ws, d, h => by
    simp only [Wv.toD, Option.map_eq_some_iff] at h
    obtain ⟨ds, h1, rfl⟩ := h
    simp only [PyData.plain]; exact toDs_plain ws ds h1
  | .dic _, d, h => by simp [Wv.toD] at h
  | .ins _ _, d, h => by simp [Wv.toD] at h
  | .ref _, d, h => by simp [Wv.toD] at h
  | .fn _, d, h => by simp [Wv.toD] at h
  | .cls _, d, h => by simp [Wv.toD] at h
theorem toDs_plain : ∀ (ws : List Wv) (ds : List PyData), toDs ws = some ds → PyData.plainAll ds = true
  | [], ds, h => by simp [toDs] at h; subst h; rfl
  | w :: ws, ds, h => by
    simp only [toDs] at h
    split at h
    · rename_i d es h1 h2
      cases h
      simp only [PyData.plainAll, Bool.and_eq_true]
      exact ⟨toD_plain w d h1, toDs_plain ws es h2⟩
    · cases h
end
theorem datum_plain {w : Wv} {d : PyData} (h : datum hp w = some d) : d.plain = true := by
  unfold datum at h
  obtain ⟨w', _, h2⟩ := Option.bind_eq_some_iff.mp h
  exact toD_plain _ _ h2
theorem data_plain : ∀ {ws : List Wv} {ds : List PyData}, data hp ws = some ds → PyData.plainAll ds = true
  | [], ds, h => by simp [data] at h; subst h; rfl
  | w :: ws, ds, h => by
    simp only [data] at h
    split at h
    · rename_i d es h1 h2
      cases h
      simp only [PyData.plainAll, Bool.and_eq_true]
      exact ⟨datum_plain h1, data_plain h2⟩
    · cases h
/-- a frozen look at a value reads the heap -/
def LooksAs (n : Nam) (H : Hp) (rec : Nat → Option Wv) (ι : List Addr) : Prop := ∀ k a w d, ι[k]? = some a → rec k = some w → w.toD = some d → Dp n.K H (.ref a) d
mutual
theorem frz_dp {rec : Nat → Option Wv} (hr : LooksAs n H rec ι) : ∀ {v : V} {w : Wv}, VR n ι H v w → ∀ w' d, w.frz rec = some w' → w'.toD = some d → Dp n.K H v d
  | _, _, .non, w', d, h, h' => by simp [Wv.frz] at h; subst h; simp [Wv.toD] at h'; subst h'; exact .non
  | _, _, .bl b, w', d, h, h' => by simp [Wv.frz] at h; subst h; simp [Wv.toD] at h'; subst h'; exact .bl b
  | _, _, .int b, w', d, h, h' => by simp [Wv.frz] at h; subst h; simp [Wv.toD] at h'; subst h'; exact .int b
  | _, _, .str b, w', d, h, h' => by simp [Wv.frz] at h; subst h; simp [Wv.toD] at h'; subst h'; exact .str b
  | _, _, .tup hs ht, w', d, h, h' => by
    simp only [Wv.frz, Option.map_eq_some_iff] at h
    obtain ⟨ws', h1, rfl⟩ := h
    simp only [Wv.toD, Option.map_eq_some_iff] at h'
    obtain ⟨ds, h2, rfl⟩ := h'
    exact .tup hs.seq (frzs_dp hr ht _ _ h1 h2)
  | _, _, .lst hs ht, w', d, h, h' => by
    simp only [Wv.frz, Option.map_eq_some_iff] at h
    obtain ⟨ws', h1, rfl⟩ := h
    simp only [Wv.toD, Option.map_eq_some_iff] at h'
    obtain ⟨ds, h2, rfl⟩ := h'
    exact .lst hs.seq (frzs_dp hr ht _ _ h1 h2)
  | _, _, .ins _ _ _, w', d, h, h' => by
    simp only [Wv.frz, Option.map_eq_some_iff] at h
    obtain ⟨ws', h1, rfl⟩ := h
    simp [Wv.toD] at h'
  | _, _, .dic _ _ _, w', d, h, h' => by
    simp only [Wv.frz, Option.map_eq_some_iff] at h
    obtain ⟨ws', h1, rfl⟩ := h
    simp [Wv.toD] at h'
  | _, _, .ref hk, w', d, h, h' => hr _ _ _ _ hk (by simpa [Wv.frz] using h) h'
theorem frzs_dp {rec : Nat → Option Wv} (hr : LooksAs n H rec ι) : ∀ {vs : List V} {ws : List Wv}, VRs n ι H vs ws → ∀ ws' ds, frzs rec ws = some ws' → toDs ws' = some ds → DpAll n.K H vs ds
  | _, _, .nil, ws', ds, h, h' => by simp [frzs] at h; subst h; simp [toDs] at h'; subst h'; exact .nil
  | _, _, .cons hv ht, ws', ds, h, h' => by
    simp only [frzs] at h
    split at h
    · rename_i w1 ws1 h1 h2
      cases h
      simp only [toDs] at h'
      split at h'
      · rename_i d1 ds1 g1 g2
        cases h'
        exact .cons (frz_dp hr hv _ _ h1 g1) (frzs_dp hr ht _ _ h2 g2)
      · cases h'
    · cases h
end
theorem frzC_dp (R : HR n ι H hp) : ∀ fuel, LooksAs n H (frzC hp (fun _ => false) fuel) ι
  | 0 => fun k a w d _ h => by simp [frzC] at h
  | m + 1 => fun k a w d hk h h' => by
    simp only [frzC, Bool.false_eq_true, if_false] at h
    split at h
    · rename_i ws q
      obtain ⟨ws', h1, rfl⟩ := Option.map_eq_some_iff.mp h
      simp only [Wv.toD, Option.map_eq_some_iff] at h'
      obtain ⟨ds, h2, rfl⟩ := h'
      obtain ⟨vs, g1, g2⟩ := R.lstAt hk q
      exact .lst (SqL.of g1) (frzs_dp (frzC_dp R m) g2 _ _ h1 h2)
    · obtain ⟨ws', h1, rfl⟩ := Option.map_eq_some_iff.mp h
      simp [Wv.toD] at h'
    · obtain ⟨ws', h1, rfl⟩ := Option.map_eq_some_iff.mp h
      simp [Wv.toD] at h'
    · cases h
    · cases h
    · cases h
    · cases h
theorem datum_dp (R : HR n ι H hp) {v : V} {w : Wv} (h : VR n ι H v w) {d : PyData} (e : datum hp w = some d) : Dp n.K H v d := by
  obtain ⟨w', h1, h2⟩ := Option.bind_eq_some_iff.mp e
  exact frz_dp (frzC_dp R _) h _ _ h1 h2
theorem data_dp (R : HR n ι H hp) : ∀ {vs : List V} {ws : List Wv}, VRs n ι H vs ws → ∀ {ds : List PyData}, data hp ws = some ds → DpAll n.K H vs ds
  | _, _, .nil, ds, h => by simp [data] at h; subst h; exact .nil
  | _, _, .cons hv ht, ds, h => by
    simp only [data] at h
    split at h
    · rename_i d es h1 h2
      cases h
      exact .cons (datum_dp R hv h1) (data_dp R ht h2)
    · cases h

/-! ### comparisons -/
variable {X : Cx}
theorem shal_room {A : Around} {d e : PyData} (h : (shal d || shal e) = true) (hu : A.units + 64 < cLine) : A.units + min d.depth e.depth < cLine := by
  simp only [shal, Bool.or_eq_true, decide_eq_true_eq] at h
  have h1 := Nat.min_le_left d.depth e.depth
  have h2 := Nat.min_le_right d.depth e.depth
  omega
def rDatEq (K : PySem.W.Frag) (g : Bool → Bool) : R2 := fun x y H Q => ∃ d e, Dp K H x d ∧ Dp K H y e ∧ d.plain = true ∧ e.plain = true ∧ (shal d || shal e) = true ∧ Q (.bl (g (PyData.eqv d e))) H
theorem op_datEq (hu : X.A.units + 64 < cLine) : OpR X (compareOp .Eq) (rDatEq X.K id) := by
  intro pins s σ H x y v u Q I rx ry ⟨d, e, hd, he, pd, pe, sh, q⟩
  obtain ⟨as, r1⟩ := Dp.reads I d x v hd rx
  obtain ⟨bs, r2⟩ := Dp.reads I e y u he ry
  exact SeqAt.eq_plain r1 r2 pd pe (shal_room sh hu) ⟨.bl _, H, I, rfl, q⟩
theorem op_datNe (hu : X.A.units + 64 < cLine) : OpR X (compareOp .NotEq) (rDatEq X.K not) := by
  intro pins s σ H x y v u Q I rx ry ⟨d, e, hd, he, pd, pe, sh, q⟩
  obtain ⟨as, r1⟩ := Dp.reads I d x v hd rx
  obtain ⟨bs, r2⟩ := Dp.reads I e y u he ry
  exact SeqAt.ne_plain r1 r2 pd pe (shal_room sh hu) ⟨.bl _, H, I, rfl, q⟩
def rDatIn (K : PySem.W.Frag) (g : Bool → Bool) : R2 := fun x y H Q => ∃ d ds, Dp K H x d ∧ (Dp K H y (.list ds) ∨ Dp K H y (.tuple ds)) ∧ d.plain = true ∧ PyData.plainAll ds = true ∧ shal d = true ∧ Q (.bl (g (anyEq d ds))) H
theorem in_room {A : Around} {d : PyData} {m : Nat} (h : shal d = true) (hu : A.units + 64 < cLine) : A.units + 1 + min m d.depth < cLine := by
  simp only [shal, decide_eq_true_eq] at h
  have h2 := Nat.min_le_right m d.depth
  omega
theorem op_datIn (hu : X.A.units + 64 < cLine) : OpR X (compareOp .In) (rDatIn X.K id) := by
  intro pins s σ H x y v u Q I rx ry ⟨d, ds, hd, he, pd, pe, sh, q⟩
  obtain ⟨as, r1⟩ := Dp.reads I d x v hd rx
  rcases he with he | he
  · obtain ⟨bs, r2⟩ := Dp.reads I _ y u he ry
    exact SeqAt.in_list_data r2 r1 pe pd (in_room sh hu) ⟨.bl _, H, I, rfl, q⟩
  · obtain ⟨bs, r2⟩ := Dp.reads I _ y u he ry
    exact SeqAt.in_tuple_data r2 r1 pe pd (in_room sh hu) ⟨.bl _, H, I, rfl, q⟩
theorem op_datNotIn (hu : X.A.units + 64 < cLine) : OpR X (compareOp .NotIn) (rDatIn X.K not) := by
  intro pins s σ H x y v u Q I rx ry ⟨d, ds, hd, he, pd, pe, sh, q⟩
  obtain ⟨as, r1⟩ := Dp.reads I d x v hd rx
  rcases he with he | he
  · obtain ⟨bs, r2⟩ := Dp.reads I _ y u he ry
    exact SeqAt.notIn_list_data r2 r1 pe pd (in_room sh hu) ⟨.bl _, H, I, rfl, q⟩
  · obtain ⟨bs, r2⟩ := Dp.reads I _ y u he ry
    exact SeqAt.notIn_tuple_data r2 r1 pe pd (in_room sh hu) ⟨.bl _, H, I, rfl, q⟩
/-- a scalar pair, or data -/
theorem eqVal_cases (R : HR n ι H hp) {x y : V} {a b : Wv} (va : VR n ι H x a) (vb : VR n ι H y b) {t : Bool} (e : eqVal hp a b = some t) :
    (scal x y = true ∧ t = decide (x = y)) ∨ ∃ d e, Dp n.K H x d ∧ Dp n.K H y e ∧ d.plain = true ∧ e.plain = true ∧ (shal d || shal e) = true ∧ t = PyData.eqv d e := by
  have gen : (match datum hp a, datum hp b with
      | some d, some e => if (shal d || shal e) = true then some (PyData.eqv d e) else none
      | _, _ => none) = some t → ∃ d e, Dp n.K H x d ∧ Dp n.K H y e ∧ d.plain = true ∧ e.plain = true ∧ (shal d || shal e) = true ∧ t = PyData.eqv d e := fun q => by
    split at q
    · rename_i d e h1 h2
      split at q
      · rename_i h3
        cases q
        exact ⟨_, _, datum_dp R va h1, datum_dp R vb h2, datum_plain h1, datum_plain h2, h3, rfl⟩
      · cases q
    · cases q
  cases va with
  | int i =>
    cases vb with
    | int j =>
      simp only [eqVal, Option.some.injEq] at e
      exact .inl ⟨rfl, by rw [← e]; simp⟩
    | _ => exact .inr (gen e)
  | str i =>
    cases vb with
    | str j =>
      simp only [eqVal, Option.some.injEq] at e
      exact .inl ⟨rfl, by rw [← e]; simp⟩
    | _ => exact .inr (gen e)
  | bl i =>
    cases vb with
    | bl j =>
      simp only [eqVal, Option.some.injEq] at e
      exact .inl ⟨rfl, by rw [← e]; simp⟩
    | _ => exact .inr (gen e)
  | _ => exact .inr (gen e)
theorem inVal_cases (R : HR n ι H hp) {x y : V} {a b : Wv} (va : VR n ι H x a) (vb : VR n ι H y b) {t : Bool} (e : inVal hp a b = some t) :
    (∃ d ds, Dp n.K H x d ∧ (Dp n.K H y (.list ds) ∨ Dp n.K H y (.tuple ds)) ∧ d.plain = true ∧ PyData.plainAll ds = true ∧ shal d = true ∧ t = anyEq d ds) ∨ inD hp a b = some t := by
  unfold inVal at e
  split at e
  · rename_i ws q
    obtain ⟨p, vs, rfl, h1, h2⟩ := getS_rel R vb q
    split at e
    · rename_i d ds g1 g2
      split at e
      · rename_i g3
        cases e
        refine .inl ⟨d, ds, datum_dp R va g1, ?_, datum_plain g1, data_plain g2, g3, rfl⟩
        rcases h1 with h1 | h1
        · exact .inl (.lst h1 (data_dp R h2 g2))
        · exact .inr (.tup h1 (data_dp R h2 g2))
      · cases e
    · cases e
  · exact .inr e
theorem kind_room {A : Around} (hu : A.units + 64 < cLine) : A.in1.units + 8 < cLine := by
  have h : A.in1.units = A.units + 1 := rfl
  omega
/-- within a dict: what is asked of the rules for `in` and `not in` -/
theorem inD_ok {prog : Program} {w : World} (hK : KW X n) (hu : X.A.units + 64 < cLine) {s : Shared} {σ : L2.St} {pins : List (Addr × Obj)} (I : Inv X pins σ H s) (R : HR n ι H hp) {x y : V} {a b : Wv} (va : VR n ι H x a) (vb : VR n ι H y b) {v u : Value} (rx : RelV x v) (ry : RelV y u) {t : Bool} (e : inD hp a b = some t) :
    (∃ p o, y = .ref p ∧ DGet H p x o ∧ o.isSome = t) ∨ ∃ p c xs k, u = .ref p ∧ v = .ref c ∧ (p == sysModules) = false ∧ s.heap.DictOfH (nestedKind X.prog X.w) p xs ∧ (nestedKind X.prog X.w).is s.heap k c ∧ (atKey xs k).isSome = t := by
  unfold inD at e
  cases vb with
  | @ref k p hk =>
    cases ry
    have tupc : ∀ {kvs : List (Wv × Wv)} {xs : List (NestedKey × Addr × Value)}, keyOk a = true → (p == sysModules) = false → s.heap.DictOfH (nestedKind X.prog X.w) p xs → VRn n ι H xs kvs → (valW kvs a).isSome = t →
        ∃ p' c xs k, (Value.ref p : Value) = .ref p' ∧ v = .ref c ∧ (p' == sysModules) = false ∧ s.heap.DictOfH (nestedKind X.prog X.w) p' xs ∧ (nestedKind X.prog X.w).is s.heap k c ∧ (atKey xs k).isSome = t := fun {kvs xs} ko hd dd hv ht => by
      obtain ⟨ws, d, rfl, e2, e3, e4⟩ := keyOk_of ko
      cases va with
      | @tup c _ _ h1 h2 =>
        cases rx
        refine ⟨p, c, xs, keyD d, rfl, rfl, hd, dd, n_key hK I (.tup h1 h2) e2 e3 e4, ?_⟩
        rcases hv.val rfl e2 e3 with ⟨z1, z2⟩ | ⟨_, _, _, _, z1, z2, _⟩
        · rw [z2, ← ht, z1]; rfl
        · rw [z2, ← ht, z1]; rfl
    simp only at e
    split at e
    · rename_i kvs q
      split at e
      · rename_i ko
        obtain ⟨ho, h1, h2⟩ := R.at_ k p _ hk q
        cases h2 with
        | dcn h3 =>
          obtain ⟨_, hd, dd⟩ := n_dict hK I h1 h3
          exact .inr (tupc ko hd dd h3 (Option.some.inj e))
      · cases e
    · rename_i kvs q
      obtain ⟨ho, h1, h2⟩ := R.at_ k p _ hk q
      cases h2 with
      | @dic vs _ h3 =>
        have emp : (if keyOk a = true ∧ kvs.isEmpty = true then some false else none) = some t → ∃ p' c xs k, (Value.ref p : Value) = .ref p' ∧ v = .ref c ∧ (p' == sysModules) = false ∧ s.heap.DictOfH (nestedKind X.prog X.w) p' xs ∧ (nestedKind X.prog X.w).is s.heap k c ∧ (atKey xs k).isSome = t := fun e' => by
          clear e
          split at e'
          · rename_i c
            have hn : kvs = [] := List.isEmpty_iff.mp c.2
            subst hn
            cases h3
            obtain ⟨hd, dd⟩ := n_empty I h1
            exact tupc (kvs := []) c.1 hd dd .nil (Option.some.inj e')
          · cases e'
        cases va with
        | int i => exact .inl ⟨p, _, rfl, DGet.k (k := .inl i) h1, by rw [← h3.some_iff (.inl i)]; exact Option.some.inj e⟩
        | str z => exact .inl ⟨p, _, rfl, DGet.k (k := .inr z) h1, by rw [← h3.some_iff (.inr z)]; exact Option.some.inj e⟩
        | _ => exact .inr (emp e)
    · cases e
  | _ => simp at e
def rDicIn (n : Nam) (g : Bool → Bool) : R2 := fun x y H Q => ∃ ι hp a b t, HR n ι H hp ∧ VR n ι H x a ∧ VR n ι H y b ∧ inD hp a b = some t ∧ Q (.bl (g t)) H
theorem op_dicIn (hK : KW X n) (hu : X.A.units + 64 < cLine) : OpR X (compareOp .In) (rDicIn n id) := by
  intro pins s σ H x y v u Q I rx ry ⟨ι, hp, a, b, t, R, va, vb, e, q⟩
  rcases inD_ok (prog := X.prog) (w := X.w) hK hu I R va vb rx ry e with ⟨p, o, rfl, g, ht⟩ | ⟨p, c, xs, k, rfl, rfl, hd, dd, hk, ht⟩
  · cases ry
    refine d_in (by omega) I g rx fun s' I' => ⟨.bl _, H, I', rfl, ?_⟩
    rw [ht]; exact q
  · refine wpAny_in_heap (kind_room hu) hk hd dd ⟨.bl _, H, I.tok _, rfl, ?_⟩
    rw [ht]; exact q
theorem op_dicNotIn (hK : KW X n) (hu : X.A.units + 64 < cLine) : OpR X (compareOp .NotIn) (rDicIn n not) := by
  intro pins s σ H x y v u Q I rx ry ⟨ι, hp, a, b, t, R, va, vb, e, q⟩
  rcases inD_ok (prog := X.prog) (w := X.w) hK hu I R va vb rx ry e with ⟨p, o, rfl, g, ht⟩ | ⟨p, c, xs, k, rfl, rfl, hd, dd, hk, ht⟩
  · cases ry
    refine d_notIn (by omega) I g rx fun s' I' => ⟨.bl _, H, I', rfl, ?_⟩
    rw [ht]; exact q
  · refine wpAny_notIn_heap (kind_room hu) hk hd dd ⟨.bl _, H, I.tok _, rfl, ?_⟩
    rw [ht]; exact q
def cmOf : Cm → CmpOp
  | .eq => .Eq | .ne => .NotEq | .lt => .Lt | .le => .LtE | .gt => .Gt | .ge => .GtE | .isin => .In | .notin => .NotIn | .isn => .Is | .notn => .IsNot
theorem VR.non_iff {v : V} {w : Wv} (h : VR n ι H v w) : decide (v = .non) = decide (w = .non) := by
  cases h <;> simp
/-- a comparison by values: its answer, nothing changed -/
theorem cm_ok (hK : KW X n) (hu : X.A.units + 64 < cLine) (c : Cm) : OpR X (compareOp (cmOf c)) (fun x y H Q => ∃ ι hp a b t, HR n ι H hp ∧ VR n ι H x a ∧ VR n ι H y b ∧ c.run hp a b = some t ∧ Q (.bl t) H) := by
  cases c with
  | eq =>
    refine opr_wk (op_eq.or (op_datEq hu)) fun x y H Q ⟨ι, hp, a, b, t, R, va, vb, e, q⟩ => ?_
    rcases eqVal_cases R va vb e with ⟨h1, rfl⟩ | ⟨d, d2, h1, h2, h3, h4, h5, rfl⟩
    · exact .inl ⟨h1, q⟩
    · exact .inr ⟨d, d2, hK.K ▸ h1, hK.K ▸ h2, h3, h4, h5, q⟩
  | ne =>
    refine opr_wk (op_ne.or (op_datNe hu)) fun x y H Q ⟨ι, hp, a, b, t, R, va, vb, e, q⟩ => ?_
    obtain ⟨t', e0, rfl⟩ := Option.map_eq_some_iff.mp (show (eqVal hp a b).map not = some t from e)
    rcases eqVal_cases R va vb e0 with ⟨h1, rfl⟩ | ⟨d, d2, h1, h2, h3, h4, h5, rfl⟩
    · exact .inl ⟨h1, q⟩
    · exact .inr ⟨d, d2, hK.K ▸ h1, hK.K ▸ h2, h3, h4, h5, q⟩
  | isin =>
    refine opr_wk ((op_datIn hu).or (op_dicIn hK hu)) fun x y H Q ⟨ι, hp, a, b, t, R, va, vb, e, q⟩ => ?_
    rcases inVal_cases R va vb e with ⟨d, ds, h1, h2, h3, h4, h5, rfl⟩ | e
    · exact .inl ⟨d, ds, hK.K ▸ h1, hK.K ▸ h2, h3, h4, h5, q⟩
    · exact .inr ⟨ι, hp, a, b, t, R, va, vb, e, q⟩
  | notin =>
    refine opr_wk ((op_datNotIn hu).or (op_dicNotIn hK hu)) fun x y H Q ⟨ι, hp, a, b, t, R, va, vb, e, q⟩ => ?_
    obtain ⟨t', e0, rfl⟩ := Option.map_eq_some_iff.mp (show (inVal hp a b).map not = some t from e)
    rcases inVal_cases R va vb e0 with ⟨d, ds, h1, h2, h3, h4, h5, rfl⟩ | e0
    · exact .inl ⟨d, ds, hK.K ▸ h1, hK.K ▸ h2, h3, h4, h5, q⟩
    · exact .inr ⟨ι, hp, a, b, t', R, va, vb, e0, q⟩
  | isn =>
    refine opr_wk op_isN fun x y H Q ⟨ι, hp, a, b, t, R, va, vb, e, q⟩ => ?_
    cases vb <;> simp only [Cm.run, reduceCtorEq, Option.some.injEq] at e
    subst e
    exact ⟨rfl, by rw [va.non_iff]; exact q⟩
  | notn =>
    refine opr_wk op_notN fun x y H Q ⟨ι, hp, a, b, t, R, va, vb, e, q⟩ => ?_
    cases vb <;> simp only [Cm.run, reduceCtorEq, Option.some.injEq] at e
    subst e
    exact ⟨rfl, by rw [va.non_iff]; exact q⟩
  | lt =>
    refine opr_wk op_lt fun x y H Q ⟨ι, hp, a, b, t, R, va, vb, e, q⟩ => ?_
    cases va <;> cases vb <;> simp only [Cm.run, reduceCtorEq, Option.some.injEq] at e
    subst e
    exact ⟨_, _, rfl, rfl, q⟩
  | le =>
    refine opr_wk op_le fun x y H Q ⟨ι, hp, a, b, t, R, va, vb, e, q⟩ => ?_
    cases va <;> cases vb <;> simp only [Cm.run, reduceCtorEq, Option.some.injEq] at e
    subst e
    exact ⟨_, _, rfl, rfl, q⟩
  | gt =>
    refine opr_wk op_gt fun x y H Q ⟨ι, hp, a, b, t, R, va, vb, e, q⟩ => ?_
    cases va <;> cases vb <;> simp only [Cm.run, reduceCtorEq, Option.some.injEq] at e
    subst e
    exact ⟨_, _, rfl, rfl, q⟩
  | ge =>
    refine opr_wk op_ge fun x y H Q ⟨ι, hp, a, b, t, R, va, vb, e, q⟩ => ?_
    cases va <;> cases vb <;> simp only [Cm.run, reduceCtorEq, Option.some.injEq] at e
    subst e
    exact ⟨_, _, rfl, rfl, q⟩
end
end SL

set_option maxRecDepth 100000
set_option maxHeartbeats 1000000
/-! Truth, subscripts, slices, stores, built-in functions and methods by values. -/
namespace SL
open PySem L2 PyProof.Rows
set_option autoImplicit false

section
variable {n : Nam} {ι : List Addr} {H : Hp} {hp : Hs} {E : Nat → Wv → Hs → List Addr → Hp → Prop}
theorem VRs.empty {vs : List V} {ws : List Wv} (h : VRs n ι H vs ws) : vs.isEmpty = ws.isEmpty := by cases h <;> rfl
theorem truth_ok (R : HR n ι H hp) {v : V} {w : Wv} (h : VR n ι H v w) {k : Bool} (e : truth hp w = some k) : TruV n.K v H k := by
  cases h with
  | non => simp [truth] at e; exact e
  | bl b => simp [truth] at e; exact e.symm
  | int i => simp only [truth, Option.some.injEq] at e; exact e.symm
  | str x =>
    simp only [truth] at e
    split at e
    · rename_i hz; cases e; exact ⟨hz, rfl⟩
    · cases e
  | tup h hs =>
    simp only [truth, Option.some.injEq] at e
    exact .inr (.inl ⟨_, h.seq, by rw [hs.empty]; exact e.symm⟩)
  | lst h hs =>
    simp only [truth, getL, Option.map_some, Option.some.injEq] at e
    exact .inl ⟨_, h.seq, by rw [hs.empty]; exact e.symm⟩
  | ins h h1 h2 => simp [truth, getL] at e
  | dic h h1 h2 => simp [truth, getL] at e
  | @ref k' a h =>
    simp only [truth, Option.map_eq_some_iff] at e
    obtain ⟨ws, h1, h2⟩ := e
    obtain ⟨a', vs, e', h3, h4⟩ := getL_rel R (.ref h) h1
    cases e'
    exact .inl ⟨_, h3, by rw [h4.empty]; exact h2.symm⟩

variable {X : Cx}
theorem ixAt_eq (m : Nat) (i : Int) : ixAt m i = ixN m i := rfl
theorem atI_of {α : Type} {xs : List α} {i : Int} {v : α} {j : Nat} (h : ixAt xs.length i = some j) (e : xs[j]? = some v) : atI xs i = some v := by
  unfold atI
  rw [← ixAt_eq, h]; exact e
theorem getD_rel (R : HR n ι H hp) {v : V} {w : Wv} (h : VR n ι H v w) {ws : List (Wv × Wv)} (e : getD hp w = some ws) : ∃ a vs, v = .ref a ∧ Rd H a (.dK vs) ∧ VRd n ι H vs ws := by
  cases h with
  | dic h hn hs => simp only [getD, Option.some.injEq] at e; subst e; exact ⟨_, _, rfl, h, hs⟩
  | @ref k a h =>
    simp only [getD] at e
    split at e
    · rename_i ws' q
      cases e
      obtain ⟨ho, h1, h2⟩ := R.at_ k a _ h q
      cases h2 with
      | dic h3 => exact ⟨a, _, rfl, .inl h1, h3⟩
    · cases e
  | _ => simp [getD] at e
theorem ix_dict (hu : X.A.units + 64 < cLine) : IxR X (fun x y H Q => ∃ p v, x = .ref p ∧ DGet H p y (some v) ∧ Q v H) := by
  intro value slice pins s σ H x y v u Q I rx ry ⟨p, w, ex, g, q⟩ hs
  subst ex
  cases rx
  exact tail_any (dict_typeIs I g) PySem.F.slot_dict_getitem.lookup (d_getItem (by omega) I g ry fun w' s3 I3 rw' => ⟨w, H, I3, rw', q⟩) hs
theorem kind_room2 {A : Around} (hu : A.units + 32 < cLine) : A.in1.units + 8 < cLine := by
  have h : A.in1.units = A.units + 1 := rfl
  omega
theorem ix_dicN (hK : KW X n) (hu : X.A.units + 64 < cLine) : IxR X (fun x y H Q => ∃ ι hp a b E, HR n ι H hp ∧ VR n ι H x a ∧ VR n ι H y b ∧ Af n (VR n) ι H (subN a b hp) Q E) := by
  intro value slice pins s σ H x y v u Q I rx ry ⟨ι, hp, a, b, E, R, va, vb, A⟩ hs
  cases va <;> try exact A.elim
  rename_i k p hk
  cases rx
  simp only [subN] at A
  split at A
  · rename_i kvs q
    split at A
    · rename_i ko
      obtain ⟨ws, d, rfl, e2, e3, e4⟩ := keyOk_of ko
      obtain ⟨ho, h1, h2⟩ := R.at_ k p _ hk q
      cases h2 with
      | dcn h3 =>
        obtain ⟨_, hd, dd⟩ := n_dict hK I h1 h3
        cases vb with
        | @tup c _ _ g1 g2 =>
          cases ry
          rcases h3.val rfl e2 e3 with ⟨z1, z2⟩ | ⟨w, b', u', v', z1, z2, z3, z4⟩
          · rw [z1] at A
            exact A.elim
          · rw [z1] at A
            exact tail_any dd.typeIs PySem.F.slot_dict_getitem.lookup (wpAny_getItem_heap (kind_room2 (by omega)) (n_key hK I (.tup g1 g2) e2 e3 e4) dd z2 ⟨v', H, I.tok _, z4, A.here R z3⟩) hs
    · exact A.elim
  · exact A.elim
theorem sub_ok (hK : KW X n) (hu : X.A.units + 64 < cLine) : IxR X (fun x y H Q => ∃ ι hp a b E, HR n ι H hp ∧ VR n ι H x a ∧ VR n ι H y b ∧ Af n (VR n) ι H (subsc a b hp) Q E) := by
  intro value slice pins s σ H x y v u Q I rx ry h hs
  refine (ix_seq.or ((ix_dict hu).or (ix_dicN hK hu))) value slice pins s σ H x y v u Q I rx ry ?_ hs
  obtain ⟨ι, hp, a, b, E, R, va, vb, A⟩ := h
  cases vb with
  | str z =>
    simp only [subsc] at A
    split at A
    · rename_i ws e
      split at A
      · rename_i w ew
        obtain ⟨p, vs, rfl, h1, h2⟩ := getD_rel R va e
        obtain ⟨v', g1, g2⟩ := h2.val (k := .inr z) ew
        exact .inr (.inl ⟨p, v', rfl, .inl ⟨vs, .inr z, h1, rfl, g1.symm⟩, A.here R g2⟩)
      · exact A.elim
    · exact A.elim
  | int i =>
    refine .inl ?_
    have gen : ∀ ws, getS hp a = some ws → ∀ w, (ixAt ws.length i).bind (ws[·]?) = some w → Q (.int 0) H ∨ True → (∀ v', VR n ι H v' w → Q v' H) → rIx X.K x (.int i) H Q := fun ws e w ew _ q => by
      obtain ⟨p, vs, rfl, h1, h2⟩ := getS_rel R va e
      obtain ⟨j, hj, hw⟩ := Option.bind_eq_some_iff.mp ew
      obtain ⟨v', g1, g2⟩ := h2.get hw
      rw [← h2.length] at hj
      rcases h1 with h1 | h1
      · exact .inl ⟨p, vs, i, v', rfl, rfl, hK.K ▸ h1, atI_of hj g1, q v' g2⟩
      · exact .inr (.inl ⟨p, vs, i, v', rfl, rfl, hK.K ▸ h1, atI_of hj g1, q v' g2⟩)
    have gen2 : Af n (VR n) ι H (match getS hp a with
      | some ws => match (ixAt ws.length i).bind (ws[·]?) with
        | some w => Rz.ok w hp
        | none => .bad
      | none => .bad) Q E → rIx X.K x (.int i) H Q := fun A => by
      split at A
      · rename_i ws e
        split at A
        · rename_i w ew
          exact gen ws e w ew (.inr trivial) fun v' hv => A.here R hv
        · exact A.elim
      · exact A.elim
    cases va with
    | str z =>
      simp only [subsc] at A
      split at A
      · rename_i hz
        split at A
        · rename_i c ec
          obtain ⟨j, hj, hw⟩ := Option.bind_eq_some_iff.mp ec
          exact .inr (.inr ⟨z, i, c, rfl, rfl, hz, atI_of (by rw [show z.cps.toList.length = z.length from by simp [Str.length]]; exact hj) hw, A.here R (.str _)⟩)
        · exact A.elim
      · exact A.elim
    | _ => exact gen2 A
  | tup g1 g2 => exact .inr (.inr ⟨ι, hp, a, _, E, R, va, .tup g1 g2, A⟩)
  | _ => exact (show False from by cases va <;> exact A).elim
theorem VRs.cut {vs : List V} {ws : List Wv} (h : VRs n ι H vs ws) (lo hi : Option Int) : VRs n ι H (cutV vs lo hi) (cut ws lo hi) := by
  unfold cutV SL.cut
  rw [h.length]
  exact (h.drop _).take _
theorem cut_whole {α : Type} (ws : List α) (lo hi : Option Int) (h : HT.sIx ws.length 0 lo = 0 ∧ HT.sIx ws.length ws.length hi = ws.length) : cut ws lo hi = ws := by
  unfold cut
  rw [h.1, h.2]; simp
theorem slc_ok (hK : KW X n) : SlR X (fun x lo hi H Q => ∃ ι hp a E, HR n ι H hp ∧ VR n ι H x a ∧ Af n (VR n) ι H (slice a lo hi hp) Q E) := by
  intro pins s σ H x v vl vu lo hi sl Q I rx hs pl pu ⟨ι, hp, a, E, R, va, A⟩
  have gen : Af n (VR n) ι H (match getL hp a with
    | some ws => newL (cut ws lo hi) hp
    | none => .bad) Q E → rSlL X.K x lo hi H Q := fun A => by
    split at A
    · rename_i ws e
      obtain ⟨p, vs, rfl, h1, h2⟩ := getL_rel R va e
      obtain ⟨_, hn⟩ := newL_ok R (h2.cut lo hi) A
      exact ⟨p, vs, rfl, hK.K ▸ h1, hn⟩
    · exact A.elim
  cases va with
  | tup h ht =>
    simp only [slice] at A
    refine sl_tupA pins s σ H _ v vl vu lo hi sl Q I rx hs pl pu ⟨_, _, rfl, hK.K ▸ h.seq, fun e => ?_, fun e => newT_ok R (ht.cut lo hi) A⟩
    rw [ht.length] at e
    rw [cut_whole _ _ _ e] at A
    exact A.here R (.tup h ht)
  | lst h ht => exact sl_list pins s σ H _ v vl vu lo hi sl Q I rx hs pl pu (gen A)
  | ref h => exact sl_list pins s σ H _ v vl vu lo hi sl Q I rx hs pl pu (gen A)
  | _ => exact A.elim
/-- xs[i] = v -/
theorem store_ok (hK : KW X n) (hu : X.A.units + 64 < cLine) (F : Unit → Prop := fun _ => True) : PSet X (fun o i v H Q => ∃ ι hp a b w E, HR n ι H hp ∧ VR n ι H o a ∧ VR n ι H i b ∧ VR n ι H v w ∧ Af n (fun _ _ _ _ => True) ι H (storeSub a b w hp) (fun (_ : Unit) H' => Q H') E) := by
  intro pins s σ H o i v ov iv u Q I ro ri rv ⟨ι, hp, a, b, w, E, R, va, vb, vw, A⟩
  cases va <;> try exact A.elim
  rename_i k p hk
  simp only [storeSub] at A
  split at A
  · rename_i ws e
    refine set_list pins s σ H _ i v ov iv u Q I ro ri rv ?_
    cases vb <;> try exact A.elim
    rename_i j
    simp only at A
    split at A
    · rename_i m em
      obtain ⟨vs, g1, g2⟩ := R.lstAt hk e
      rw [← g2.length] at em
      refine ⟨p, vs, j, m, rfl, rfl, g1, em, ?_⟩
      obtain ⟨F, R'⟩ := R.set hk (ho := .lst (vs.set m v)) (o := .lst (ws.set m w)) fun F => .lst ((g2.set vw m).mono F)
      exact A () _ _ F R' trivial
    · exact A.elim
  · rename_i kvs q
    obtain ⟨ho, h1, h2⟩ := R.at_ k p _ hk q
    cases h2 with
    | @dic vs _ h3 =>
      cases ro
      have put : ∀ kk : Key, i = kV kk → b = kW kk → kvs.length < sizeLine → Af n (fun _ _ _ _ => True) ι H (.ok () (hp.set k (.dic (putW kvs (kW kk) w)))) (fun (_ : Unit) H' => Q H') E → wpAny (model X.prog X.w) X.A (setItem (.ref p) iv u) (fun _ s' => ∃ H', Inv X pins σ H' s' ∧ Q H') X.xe s := fun kk ei eb hl A => by
        subst ei
        obtain ⟨F, R'⟩ := R.set hk (ho := .dK (putK vs kk v)) (o := .dic (putW kvs (kW kk) w)) fun F => .dic ((h3.put vw kk).mono F)
        exact d_setItem (by omega) I (DPut.k h1 (by rw [h3.length]; exact hl)) ri rv fun s' I' => ⟨_, I', A () _ _ F R' trivial⟩
      have emp : Af n (fun _ _ _ _ => True) ι H (if keyOk b = true ∧ kvs.isEmpty = true then .ok () (hp.set k (.dcn [(b, w)])) else .bad) (fun (_ : Unit) H' => Q H') E → wpAny (model X.prog X.w) X.A (setItem (.ref p) iv u) (fun _ s' => ∃ H', Inv X pins σ H' s' ∧ Q H') X.xe s := fun A' => by
        clear A
        split at A'
        · rename_i c
          have hn : kvs = [] := List.isEmpty_iff.mp c.2
          subst hn
          cases h3
          obtain ⟨hd, dd⟩ := n_empty I h1
          obtain ⟨ws, d, rfl, e2, e3, e4⟩ := keyOk_of c.1
          cases vb with
          | @tup b' _ _ g1 g2 =>
            cases ri
            have nk := n_key hK I (.tup g1 g2) e2 e3 e4
            refine wpAny_setItem_heap (hsz := by simp) (kind_room2 (by omega)) nk dd fun h' dd' hs => ?_
            obtain ⟨o', es', ep', ho', _⟩ := id dd'
            have new := n_new (X := X) hK (H' := upd H p (.ext (RawN n.w p [(keyD d, b', u)]))) (xs := [(keyD d, b', u)]) (by rw [List.length_singleton]; decide) hd dd'
            obtain ⟨F, R'⟩ := R.set hk (ho := .ext (RawN n.w p [(keyD d, b', u)])) (o := .dcn [(.tup ws, w)]) fun F => .dcn (.cons (VR.mono F (.tup g1 g2)) e2 e3 e4 rfl (vw.mono F) rv .nil)
            exact ⟨_, d_write I (by rw [h1]; exact True.intro) hs ⟨_, ho'⟩ new, A' () _ _ F R' trivial⟩
        · exact A'.elim
      cases vb with
      | int j =>
        simp only at A
        split at A
        · rename_i hl
          exact put (.inl j) rfl rfl hl A
        · exact A.elim
      | str z =>
        simp only at A
        split at A
        · rename_i hl
          exact put (.inr z) rfl rfl hl A
        · exact A.elim
      | _ => exact emp A
  · rename_i kvs q
    split at A
    · rename_i c
      obtain ⟨ho, h1, h2⟩ := R.at_ k p _ hk q
      cases h2 with
      | @dcn xs _ h3 =>
        cases ro
        obtain ⟨z, hd, dd⟩ := n_dict hK I h1 h3
        obtain ⟨ws, d, rfl, e2, e3, e4⟩ := keyOk_of c.1
        cases vb with
        | @tup b' _ _ g1 g2 =>
          cases ri
          have nk := n_key hK I (.tup g1 g2) e2 e3 e4
          have hl : (storedH xs (keyD d) b' u).length ≤ sizeLine := by
            have l := h3.length
            unfold storedH
            split
            · rw [List.length_map]; exact z
            · rw [List.length_append, List.length_singleton]; omega
          refine wpAny_setItem_heap (hsz := z) (kind_room2 (by omega)) nk dd fun h' dd' hs => ?_
          obtain ⟨o', es', ep', ho', _⟩ := id dd'
          have new := n_new (X := X) hK (H' := upd H p (.ext (RawN n.w p (storedH xs (keyD d) b' u)))) hl hd dd'
          obtain ⟨F, R'⟩ := R.set hk (ho := .ext (RawN n.w p (storedH xs (keyD d) b' u))) (o := .dcn (putW kvs (.tup ws) w)) fun F => .dcn ((h3.put (.tup g1 g2) e2 e3 e4 vw rv).mono F)
          exact ⟨_, d_write I (by rw [h1]; exact True.intro) hs ⟨_, ho'⟩ new, A () _ _ F R' trivial⟩
    · exact A.elim
  · exact A.elim

/-! ### built-in functions -/
theorem callr_wk {f : Value} {r r' : List V → Hp → VK → Prop} (h : CallR X f r) (w : ∀ xs H Q, r' xs H Q → r xs H Q) : CallR X f r' := fun pins s σ H xs us Q I rx q => h pins s σ H xs us Q I rx (w xs H Q q)
/-- the reading of a built-in function -/
def rB (n : Nam) (b : Bf) : List V → Hp → VK → Prop := fun xs H Q => ∃ ι hp ws E, HR n ι H hp ∧ VRs n ι H xs ws ∧ Af n (VR n) ι H (blt b ws hp) Q E
theorem vrs1 {xs : List V} {w : Wv} (h : VRs n ι H xs [w]) : ∃ v, xs = [v] ∧ VR n ι H v w := by
  cases h with
  | cons h t => cases t; exact ⟨_, rfl, h⟩
theorem vrs2 {xs : List V} {w w' : Wv} (h : VRs n ι H xs [w, w']) : ∃ v v', xs = [v, v'] ∧ VR n ι H v w ∧ VR n ι H v' w' := by
  cases h with
  | cons h t =>
    obtain ⟨v', rfl, h'⟩ := vrs1 t
    exact ⟨_, _, rfl, h, h'⟩
theorem intsOf_rel : ∀ {vs : List V} {ws : List Wv}, VRs n ι H vs ws → ∀ {ns : List Int}, intsOf ws = some ns → vs = ns.map V.int
  | _, _, .nil, ns, e => by simp [intsOf] at e; subst e; rfl
  | _, _, .cons h t, ns, e => by
    cases h with
    | int i =>
      simp only [intsOf, Option.map_eq_some_iff] at e
      obtain ⟨ms, h1, rfl⟩ := e
      rw [List.map_cons, intsOf_rel t h1]
    | _ => simp [intsOf] at e
theorem boolsOf_rel : ∀ {vs : List V} {ws : List Wv}, VRs n ι H vs ws → ∀ {ns : List Bool}, boolsOf ws = some ns → vs = ns.map V.bl
  | _, _, .nil, ns, e => by simp [boolsOf] at e; subst e; rfl
  | _, _, .cons h t, ns, e => by
    cases h with
    | bl i =>
      simp only [boolsOf, Option.map_eq_some_iff] at e
      obtain ⟨ms, h1, rfl⟩ := e
      rw [List.map_cons, boolsOf_rel t h1]
    | _ => simp [boolsOf] at e
theorem b_len (hK : KW X n) : CallR X (.builtin "len") (rB n .len) := by
  refine callr_wk (call_len_seq.or call_len_str) fun xs H Q ⟨ι, hp, ws, E, R, h, A⟩ => ?_
  unfold blt at A
  split at A <;> try contradiction
  · obtain ⟨v, rfl, hv⟩ := vrs1 h
    cases hv
    split at A
    · rename_i hz; exact .inr ⟨_, rfl, hz, A.here R (.int _)⟩
    · exact A.elim
  · obtain ⟨v, rfl, hv⟩ := vrs1 h
    split at A
    · rename_i ws e
      obtain ⟨p, vs, rfl, h1, h2⟩ := getS_rel R hv e
      refine .inl ⟨p, vs, rfl, hK.K ▸ h1, ?_⟩
      rw [h2.length]; exact A.here R (.int _)
    · exact A.elim
theorem b_list (hK : KW X n) : CallR X (.type "list") (rB n .list) := by
  refine callr_wk call_list_of fun xs H Q ⟨ι, hp, ws, E, R, h, A⟩ => ?_
  unfold blt at A
  split at A <;> try contradiction
  · obtain ⟨v, rfl, hv⟩ := vrs1 h
    split at A
    · rename_i ws e
      obtain ⟨p, vs, rfl, h1, h2⟩ := getS_rel R hv e
      exact ⟨p, vs, rfl, hK.K ▸ h1, (newL_ok R h2 A).2⟩
    · exact A.elim
theorem getS_ref_tup (R : HR n ι H hp) {v : V} {w : Wv} (h : VR n ι H v w) {ws : List Wv} (e : getS hp w = some ws) : (∃ a vs, v = .ref a ∧ SqL n.K H a vs ∧ VRs n ι H vs ws) ∨ ∃ a vs, v = .ref a ∧ TupAt n.K ι H a vs ∧ VRs n ι H vs ws ∧ w = .tup ws := by
  cases h with
  | tup h hs => simp only [getS, Option.some.injEq] at e; subst e; exact .inr ⟨_, _, rfl, h, hs, rfl⟩
  | lst h hs => exact .inl (getL_rel R (.lst h hs) (by simpa [getS] using e))
  | ref h => exact .inl (getL_rel R (.ref h) (by simpa [getS] using e))
  | _ => simp [getS, getL] at e
theorem b_tuple (hK : KW X n) : CallR X (.type "tuple") (rB n .tuple) := by
  refine callr_wk call_tuple_of fun xs H Q ⟨ι, hp, ws, E, R, h, A⟩ => ?_
  unfold blt at A
  split at A <;> try contradiction
  · obtain ⟨v, rfl, hv⟩ := vrs1 h
    split at A
    · rename_i ws e
      rcases getS_ref_tup R hv e with ⟨p, vs, rfl, h1, h2⟩ | ⟨p, vs, rfl, h1, h2, rfl⟩
      · exact ⟨p, vs, rfl, .inl ⟨hK.K ▸ h1, newT_ok R h2 A⟩⟩
      · exact ⟨p, vs, rfl, .inr ⟨hK.K ▸ h1.seq, A.here R (.tup h1 h2)⟩⟩
    · exact A.elim
theorem b_int : CallR X (.type "int") (rB n .int) := by
  refine callr_wk call_int1 fun xs H Q ⟨ι, hp, ws, E, R, h, A⟩ => ?_
  unfold blt at A
  split at A <;> try contradiction
  · obtain ⟨v, rfl, hv⟩ := vrs1 h
    cases hv
    exact .inl ⟨_, rfl, A.here R (.int _)⟩
  · obtain ⟨v, rfl, hv⟩ := vrs1 h
    cases hv
    exact .inr ⟨_, rfl, A.here R (.int _)⟩
theorem b_abs : CallR X (.builtin "abs") (rB n .abs) := by
  refine callr_wk call_abs fun xs H Q ⟨ι, hp, ws, E, R, h, A⟩ => ?_
  unfold blt at A
  split at A <;> try contradiction
  · obtain ⟨v, rfl, hv⟩ := vrs1 h
    cases hv
    exact ⟨_, rfl, A.here R (.int _)⟩
theorem b_min (hc : X.calm = true) : CallR X (.builtin "min") (rB n .min) := by
  refine callr_wk (call_min2 hc) fun xs H Q ⟨ι, hp, ws, E, R, h, A⟩ => ?_
  unfold blt at A
  split at A <;> try contradiction
  · obtain ⟨v, v', rfl, hv, hv'⟩ := vrs2 h
    cases hv
    cases hv'
    exact ⟨_, _, rfl, A.here R (.int _)⟩
theorem b_max (hc : X.calm = true) : CallR X (.builtin "max") (rB n .max) := by
  refine callr_wk (call_max2 hc) fun xs H Q ⟨ι, hp, ws, E, R, h, A⟩ => ?_
  unfold blt at A
  split at A <;> try contradiction
  · obtain ⟨v, v', rfl, hv, hv'⟩ := vrs2 h
    cases hv
    cases hv'
    exact ⟨_, _, rfl, A.here R (.int _)⟩
theorem b_sum (hK : KW X n) (hc : X.calm = true) : CallR X (.builtin "sum") (rB n .sum) := by
  refine callr_wk (cr_sum hc) fun xs H Q ⟨ι, hp, ws, E, R, h, A⟩ => ?_
  unfold blt at A
  split at A <;> try contradiction
  · obtain ⟨v, rfl, hv⟩ := vrs1 h
    split at A
    · rename_i ns e
      obtain ⟨ws, e1, e2⟩ := Option.bind_eq_some_iff.mp e
      obtain ⟨p, vs, rfl, h1, h2⟩ := getL_rel R hv e1
      exact ⟨p, ns, rfl, hK.K ▸ intsOf_rel h2 e2 ▸ h1, A.here R (.int _)⟩
    · exact A.elim
theorem b_all (hK : KW X n) (hc : X.calm = true) : CallR X (.builtin "all") (rB n .all) := by
  refine callr_wk (cr_all hc) fun xs H Q ⟨ι, hp, ws, E, R, h, A⟩ => ?_
  unfold blt at A
  split at A <;> try contradiction
  · obtain ⟨v, rfl, hv⟩ := vrs1 h
    split at A
    · rename_i ns e
      obtain ⟨ws, e1, e2⟩ := Option.bind_eq_some_iff.mp e
      obtain ⟨p, vs, rfl, h1, h2⟩ := getL_rel R hv e1
      exact ⟨p, ns, rfl, hK.K ▸ boolsOf_rel h2 e2 ▸ h1, A.here R (.bl _)⟩
    · exact A.elim
theorem b_any (hK : KW X n) (hc : X.calm = true) : CallR X (.builtin "any") (rB n .any) := by
  refine callr_wk (cr_any hc) fun xs H Q ⟨ι, hp, ws, E, R, h, A⟩ => ?_
  unfold blt at A
  split at A <;> try contradiction
  · obtain ⟨v, rfl, hv⟩ := vrs1 h
    split at A
    · rename_i ns e
      obtain ⟨ws, e1, e2⟩ := Option.bind_eq_some_iff.mp e
      obtain ⟨p, vs, rfl, h1, h2⟩ := getL_rel R hv e1
      exact ⟨p, ns, rfl, hK.K ▸ boolsOf_rel h2 e2 ▸ h1, A.here R (.bl _)⟩
    · exact A.elim

/-! ### methods of lists -/
def rL (n : Nam) (m : Lm) : V → List V → Hp → VK → Prop := fun x xs H Q => ∃ ι hp a ws E, HR n ι H hp ∧ VR n ι H x a ∧ VRs n ι H xs ws ∧ Af n (VR n) ι H (lmop m a ws hp) Q E
theorem mtr_wk {id : String} {r r' : V → List V → Hp → VK → Prop} (h : MtR X id r) (w : ∀ x xs H Q, r' x xs H Q → r x xs H Q) : MtR X id r' := fun pins s σ H x xs v us Q I rx rxs q => h pins s σ H x xs v us Q I rx rxs (w x xs H Q q)
/-- the receiver is a cell with a list -/
theorem lm_ref (R : HR n ι H hp) {x : V} {a : Wv} (h : VR n ι H x a) {m : Lm} {ws : List Wv} {Q : VK} (A : Af n (VR n) ι H (lmop m a ws hp) Q E) :
    ∃ k p vs us, a = .ref k ∧ x = .ref p ∧ ι[k]? = some p ∧ H p = some (.lst vs) ∧ hp[k]? = some (.lst us) ∧ VRs n ι H vs us := by
  cases h <;> try exact A.elim
  rename_i k p hk
  simp only [lmop] at A
  split at A
  · rename_i us e
    obtain ⟨vs, g1, g2⟩ := R.lstAt hk e
    exact ⟨k, p, vs, us, rfl, rfl, hk, g1, e, g2⟩
  · exact A.elim
theorem l_append : MtR X "list.append" (rL n .append) := by
  refine mtr_wk mt_append fun x xs H Q ⟨ι, hp, a, ws, E, R, h, hs, A⟩ => ?_
  obtain ⟨k, p, vs, us, rfl, rfl, hk, g1, e, g2⟩ := lm_ref R h A
  simp only [lmop, e] at A
  split at A <;> try contradiction
  · obtain ⟨v, rfl, hv⟩ := vrs1 hs
    split at A
    · rename_i hz
      exact ⟨p, vs, v, rfl, rfl, g1, by rw [g2.length]; exact hz, setL_ok R hk (g2.append (.cons hv .nil)) .non A⟩
    · exact A.elim
theorem l_extend : MtR X "list.extend" (rL n .extend) := by
  refine mtr_wk mt_extend fun x xs H Q ⟨ι, hp, a, ws, E, R, h, hs, A⟩ => ?_
  obtain ⟨k, p, vs, us, rfl, rfl, hk, g1, e, g2⟩ := lm_ref R h A
  simp only [lmop, e] at A
  split at A <;> try contradiction
  · obtain ⟨v, rfl, hv⟩ := vrs1 hs
    split at A
    · rename_i b
      cases hv with
      | @ref _ p' hk' =>
        split at A
        · rename_i ys e2
          obtain ⟨vs2, g3, g4⟩ := R.lstAt hk' e2
          split at A
          · rename_i hz
            exact ⟨p, p', vs, vs2, rfl, rfl, g1, g3, by rw [g2.length, g4.length]; exact hz, setL_ok R hk (g2.append g4) .non A⟩
          · exact A.elim
        · exact A.elim
    · exact A.elim
theorem l_pop : MtR X "list.pop" (rL n .pop) := by
  refine mtr_wk mt_pop fun x xs H Q ⟨ι, hp, a, ws, E, R, h, hs, A⟩ => ?_
  obtain ⟨k, p, vs, us, rfl, rfl, hk, g1, e, g2⟩ := lm_ref R h A
  simp only [lmop, e] at A
  split at A <;> try contradiction
  · cases hs
    split at A
    · rename_i y ey
      obtain ⟨v, g3, g4⟩ := g2.get ey
      refine ⟨p, vs, v, rfl, rfl, g1, by rw [g2.length]; exact g3, setL_ok R hk g2.dropLast g4 A⟩
    · exact A.elim
theorem l_clear : MtR X "list.clear" (rL n .clear) := by
  refine mtr_wk mt_clear fun x xs H Q ⟨ι, hp, a, ws, E, R, h, hs, A⟩ => ?_
  obtain ⟨k, p, vs, us, rfl, rfl, hk, g1, e, g2⟩ := lm_ref R h A
  simp only [lmop, e] at A
  split at A <;> try contradiction
  · cases hs
    exact ⟨p, vs, rfl, rfl, g1, setL_ok R hk .nil .non A⟩
theorem l_reverse : MtR X "list.reverse" (rL n .reverse) := by
  refine mtr_wk mt_reverse fun x xs H Q ⟨ι, hp, a, ws, E, R, h, hs, A⟩ => ?_
  obtain ⟨k, p, vs, us, rfl, rfl, hk, g1, e, g2⟩ := lm_ref R h A
  simp only [lmop, e] at A
  split at A <;> try contradiction
  · cases hs
    exact ⟨p, vs, rfl, rfl, g1, setL_ok R hk g2.reverse .non A⟩
end
end SL

set_option maxRecDepth 100000
set_option maxHeartbeats 1000000
/-! sorted(xs), and what keys are. -/
namespace SL
open PySem L2 PyProof.Rows PySem.W
set_option autoImplicit false
theorem toDs_map : ∀ {ws : List Wv} {ds : List PyData}, toDs ws = some ds → ws.map dOf = ds
  | [], ds, h => by simp [toDs] at h; subst h; rfl
  | w :: ws, ds, h => by
    simp only [toDs] at h
    split at h
    · rename_i d es h1 h2
      cases h
      rw [List.map_cons, toDs_map h2]
      unfold dOf
      rw [h1]
      rfl
    · cases h
theorem toDs_mem {w : Wv} : ∀ {ws : List Wv} {ds : List PyData}, toDs ws = some ds → w ∈ ws → ∃ d, w.toD = some d ∧ d ∈ ds
  | [], ds, h, hw => by cases hw
  | u :: ws, ds, h, hw => by
    simp only [toDs] at h
    split at h
    · rename_i d es h1 h2
      cases h
      rcases List.mem_cons.mp hw with e | hw
      · subst e; exact ⟨d, h1, List.mem_cons_self⟩
      · obtain ⟨d', q1, q2⟩ := toDs_mem h2 hw
        exact ⟨d', q1, List.mem_cons_of_mem _ q2⟩
    · cases h
theorem intsys_mem {d : PyData} : ∀ {ds : List PyData}, intsys ds = true → d ∈ ds → intsy d = true
  | [], _, h => by cases h
  | e :: ds, g, h => by
    simp only [intsys, Bool.and_eq_true] at g
    rcases List.mem_cons.mp h with q | h
    · exact q ▸ g.1
    · exact intsys_mem g.2 h
theorem alls_ok {ds : List PyData} (h : alls ds = true) : AllAlike ds := fun d hd e he => by
  unfold alls at h
  exact List.all_eq_true.mp (List.all_eq_true.mp h d hd) e he
structure SrtOk (ds : List PyData) : Prop where
  al : AllAlike ds
  so : Sortable ds
  cs : (∀ d ∈ ds, ∃ x r, d = .tuple (x :: r)) ∨ ∀ d ∈ ds, ∃ i, d = .int i
  dp : ∀ d ∈ ds, d.depth ≤ 8
theorem srtOk_ok {ds : List PyData} (h : srtOk ds = true) : SrtOk ds := by
  unfold srtOk at h
  simp only [Bool.and_eq_true, Bool.or_eq_true, List.all_eq_true, decide_eq_true_eq] at h
  obtain ⟨⟨h1, h2⟩, h3⟩ := h
  have cs : (∀ d ∈ ds, ∃ x r, d = .tuple (x :: r)) ∨ ∀ d ∈ ds, ∃ i, d = .int i := by
    rcases h2 with h2 | h2
    · refine .inl fun d hd => ?_
      have z := h2 d hd
      cases d with
      | tuple xs =>
        cases xs with
        | nil => cases z
        | cons x r => exact ⟨x, r, rfl⟩
      | _ => cases z
    · refine .inr fun d hd => ?_
      have z := h2 d hd
      cases d with
      | int i => exact ⟨i, rfl⟩
      | _ => cases z
  refine ⟨alls_ok h1, ?_, cs, h3⟩
  rcases cs with c | c
  · exact .inl c
  · refine .inr fun d hd => ?_
    obtain ⟨i, rfl⟩ := c d hd
    exact ⟨fun e => (by cases e), fun xs e => (by cases e)⟩
section
variable {n : Nam} {ι : List Addr} {H : Hp} {hp : Hs} {E : Nat → Wv → Hs → List Addr → Hp → Prop} {X : Cx} {pins : List (Addr × Obj)} {σ : L2.St} {s : Shared}
mutual
theorem toD_dp : ∀ {v : V} {w : Wv}, VR n ι H v w → ∀ d, w.toD = some d → Dp n.K H v d
  | _, _, .non, d, h => by simp [Wv.toD] at h; subst h; exact .non
  | _, _, .bl b, d, h => by simp [Wv.toD] at h; subst h; exact .bl b
  | _, _, .int b, d, h => by simp [Wv.toD] at h; subst h; exact .int b
  | _, _, .str b, d, h => by simp [Wv.toD] at h; subst h; exact .str b
  | _, _, .tup hs ht, d, h => by
    simp only [Wv.toD, Option.map_eq_some_iff] at h
    obtain ⟨ds, h1, rfl⟩ := h
    exact .tup hs.seq (toDs_dp ht _ h1)
  | _, _, .lst hs ht, d, h => by
    simp only [Wv.toD, Option.map_eq_some_iff] at h
    obtain ⟨ds, h1, rfl⟩ := h
    exact .lst hs.seq (toDs_dp ht _ h1)
  | _, _, .ins _ _ _, d, h => by simp [Wv.toD] at h
  | _, _, .dic _ _ _, d, h => by simp [Wv.toD] at h
  | _, _, .ref hk, d, h => by simp [Wv.toD] at h
theorem toDs_dp : ∀ {vs : List V} {ws : List Wv}, VRs n ι H vs ws → ∀ ds, toDs ws = some ds → DpAll n.K H vs ds
  | _, _, .nil, ds, h => by simp [toDs] at h; subst h; exact .nil
  | _, _, .cons hv ht, ds, h => by
    simp only [toDs] at h
    split at h
    · rename_i d es h1 h2
      cases h
      exact .cons (toD_dp hv _ h1) (toDs_dp ht _ h2)
    · cases h
end
/-- the three rows together -/
theorem each_three (hK : KW X n) (I : Inv X pins σ H s) : ∀ {vs : List V} {ws : List Wv} {us : List Value} {ds : List PyData}, VRs n ι H vs ws → Vals vs us → toDs ws = some ds →
    EachIs (fun u (b : V × Wv) => RelV b.1 u) us (vs.zip ws) ∧ EachIs (fun u (b : V × Wv) => ∃ as, Reads s.heap u (dOf b.2) as) us (vs.zip ws) ∧ ∀ b ∈ vs.zip ws, VR n ι H b.1 b.2
  | _, _, _, ds, .nil, r, e => by
    cases r
    exact ⟨.nil, .nil, fun b hb => by cases hb⟩
  | _, _, _, ds, .cons h t, r, e => by
    cases r with
    | cons r1 r2 =>
      simp only [toDs] at e
      split at e
      · rename_i d es e1 e2
        cases e
        obtain ⟨a, b, c⟩ := each_three hK I t r2 e2
        rw [List.zip_cons_cons]
        refine ⟨.cons r1 a, .cons ?_ b, fun x hx => ?_⟩
        · have z := Dp.reads I d _ _ (hK.K ▸ toD_dp h d e1) r1
          unfold dOf
          rw [e1]
          exact z
        · rcases List.mem_cons.mp hx with q | hx
          · subst q; exact h
          · exact c x hx
      · cases e
theorem vals_of_each : ∀ {us : List Value} {bs : List (V × Wv)}, EachIs (fun u (b : V × Wv) => RelV b.1 u) us bs → Vals (bs.map (·.1)) us
  | _, _, .nil => .nil
  | _, _, .cons h t => .cons h (vals_of_each t)
theorem vrs_of_pairs : ∀ {bs : List (V × Wv)}, (∀ b ∈ bs, VR n ι H b.1 b.2) → VRs n ι H (bs.map (·.1)) (bs.map (·.2))
  | [], _ => .nil
  | b :: bs, h => .cons (h b List.mem_cons_self) (vrs_of_pairs fun c hc => h c (List.mem_cons_of_mem _ hc))
theorem b_sorted (hK : KW X n) (hu : X.A.units + 64 < cLine) : CallR X (.builtin "sorted") (rB n .sorted) := by
  intro pins s σ H xs us Q I r ⟨ι, hp, ws, E, R, h, A⟩
  unfold blt at A
  split at A <;> try contradiction
  rename_i x
  obtain ⟨v, rfl, hv⟩ := vrs1 h
  split at A
  · rename_i zs e
    obtain ⟨ws, e1, e2⟩ := Option.bind_eq_some_iff.mp e
    obtain ⟨p, vs, rfl, h1, h2⟩ := getL_rel R hv e1
    unfold srtW at e2
    split at e2
    · rename_i ds e3
      split at e2
      · rename_i e4
        cases e2
        have ok := srtOk_ok e4
        obtain ⟨its, rv, hl, hz⟩ := I.list (hK.K ▸ h1)
        rw [Vals.ref1 r]
        obtain ⟨a1, a2, a3⟩ := each_three hK I h2 rv e3
        have em : (vs.zip ws).map (fun b => dOf b.2) = ds := by
          have z : (vs.zip ws).map (fun b => dOf b.2) = ((vs.zip ws).map Prod.snd).map dOf := by rw [List.map_map] <;> rfl
          rw [z, List.map_snd_zip (Nat.le_of_eq h2.length.symm), toDs_map e3]
        refine sorted_data (bs := vs.zip ws) (enc := fun b => dOf b.2) (R := fun u b => RelV b.1 u) hl.isList a1 a2 (by rw [em]; exact ok.al) (by rw [em]; exact ok.so) ?_ (fun b hb => ?_) fun out ol oe => ?_
        · rw [List.length_zip, h2.length, Nat.min_self, ← h2.length]
          exact hz
        · have z := ok.dp (dOf b.2) (by rw [← em]; exact List.mem_map.mpr ⟨b, hb, rfl⟩)
          omega
        · obtain ⟨ep, he'⟩ := PyProof.Rows.sortedAll_at s.heap its out.toArray
          have ew : ((vs.zip ws).mergeSort (dataLe false fun b => dOf b.2)).map Prod.snd = ws.mergeSort leW := by
            refine (sort_maps Prod.snd (s := leW) fun _ _ _ _ => rfl).trans ?_
            rw [List.map_snd_zip (Nat.le_of_eq h2.length.symm)]
          have hvr : VRs n ι H (((vs.zip ws).mergeSort (dataLe false fun b => dOf b.2)).map (·.1)) (ws.mergeSort leW) := by
            rw [← ew]
            exact vrs_of_pairs fun b hb => a3 b (List.mem_mergeSort.mp hb)
          obtain ⟨z1, z2⟩ := newL_ok R hvr A
          have hn : H (s.heap.objs.size + 1) = none := I.hok.fresh (Nat.le_succ _)
          exact ⟨.ref _, upd H (s.heap.objs.size + 1) (.lst _), I.laid (t' := s.toks) (fun _ _ => PyProof.Rows.sortedAll_old) (Nat.le_succ _) ⟨z1, out, ep, vals_of_each oe, he'⟩, rfl, z2 _ hn⟩
      · cases e2
    · cases e2
  · exact A.elim
end
end SL

set_option maxRecDepth 100000
set_option maxHeartbeats 1000000
/-! Expressions by the evaluator. -/
namespace SL
open PySem L2 PyProof.Rows
set_option autoImplicit false

/-- the exception's own dict, its value -/
def XR (n : Nam) (ι : List Addr) (H : Hp) (d : Option Addr) (w : Wv) : Prop := ∃ dd v, d = some dd ∧ H dd = some (.xd [(n.nm n.atF, v)]) ∧ dd ∉ ι ∧ VR n ι H v w
def ofE (n : Nam) (E : XK) : Nat → Wv → Hs → List Addr → Hp → Prop := fun c w _ ι H => ∀ d, XR n ι H d w → E (.ref (n.xA c)) d H
def ofW (n : Nam) (W : WX) : Wx := fun σ c w _ ι H => ∀ d, XR n ι H d w → W (.ref (n.xA c)) d σ H
theorem ofE_ofW (n : Nam) (W : WX) (σ : L2.St) : ofE n (WE W σ) = ofW n W σ := rfl
def spW (n : Nam) (P : Wd) (f : Nat) : Sp := fun vs H Q E => ∃ ι hp ws, HR n ι H hp ∧ VRs n ι H vs ws ∧ Af n (VR n) ι H (P.run f ws hp) Q (ofE n E)
structure FnIs (X : Cx) (n : Nam) (P : Wd) (k : Nat) (f : Nat) (a : Addr) : Prop where
  ok : ∃ fd ps, Binds X.K fd ps [] ∧ FnOk X.prog X.w X.K X.mg X.base (L2.CX X.prog X.w) k a fd ps (spW n P f)

section
variable {n : Nam} {ι : List Addr} {H : Hp} {hp : Hs} {W : Wx} {X : Cx} {P : Wd}
abbrev G (n : Nam) (W : Wx) (P : Wd) (x : Ex) : TE := rd n W (ev P x)
abbrev GT (n : Nam) (W : Wx) (P : Wd) (x : Ex) : TT := rdT n W (tst P x)
abbrev GA (n : Nam) (W : Wx) (P : Wd) (x : List Ex) : TA := rdA n W (evs P x)

theorem g_var {i : Nat} {x : Str} {pos : Pos} (hN : X.N[i]? = some x) (hv : Vis X.env.scope x) (hd : (x == ("__debug__" : Str)) = false) (hcd : (x == ("__classdict__" : Str)) = false) : PE X (.Name x pos) (G n W P (.var i)) := by
  refine pe_wk (pe_var hN hv hd hcd) fun σ H Q ⟨ι, e, hp, S, A⟩ => ?_
  simp only [ev] at A
  split at A
  · rename_i w h
    obtain ⟨v, h1, h2⟩ := S.at_ i w h
    exact ⟨v, h1, A.here S.hr h2⟩
  · exact A.elim
theorem g_non {j : Nat} {pos : Pos} : PE X (.Constant .none j pos) (G n W P (.cst .non)) := pe_wk pe_non fun σ H Q ⟨ι, e, hp, S, A⟩ => by
  simp only [ev] at A
  exact A.here S.hr VR.non
theorem g_bl {b : Bool} {j : Nat} {pos : Pos} : PE X (.Constant (.bool b) j pos) (G n W P (.cst (.bl b))) := pe_wk pe_bl fun σ H Q ⟨ι, e, hp, S, A⟩ => by
  simp only [ev] at A
  exact A.here S.hr (VR.bl b)
theorem g_int {b : Int} {j : Nat} {pos : Pos} : PE X (.Constant (.int b) j pos) (G n W P (.cst (.int b))) := pe_wk pe_int fun σ H Q ⟨ι, e, hp, S, A⟩ => by
  simp only [ev] at A
  exact A.here S.hr (VR.int b)
theorem g_str {b : Str} {j : Nat} {pos : Pos} : PE X (.Constant (.str b) j pos) (G n W P (.cst (.str b))) := pe_wk pe_str fun σ H Q ⟨ι, e, hp, S, A⟩ => by
  simp only [ev] at A
  exact A.here S.hr (VR.str b)
/-- a module's int -/
theorem g_glo {x : Str} {g : Nat} {w : Wv} {pos : Pos} (hg : Gl X x) (hw : P.glo g = some w) {v : V} {u : Value} (hm : X.mg x = some u) (r : RelV v u) (hv : ∀ ι H, VR n ι H v w) (hd : (x == ("__debug__" : Str)) = false) : PE X (.Name x pos) (G n W P (.glo g)) :=
  pe_wk (pe_glob hg hm r hd) fun σ H Q ⟨ι, e, hp, S, A⟩ => by
    simp only [ev, hw, Rz.of_some] at A
    exact A.here S.hr (hv _ _)
theorem a_nil : PA X [] (GA n W P []) := pa_wk pa_nil fun σ H Q ⟨ι, e, hp, S, A⟩ => by
  simp only [evs] at A
  exact A.here S.hr .nil
theorem a_cons {e : Expr} {es : List Expr} {x : Ex} {xs : List Ex} (ha : PE X e (G n W P x)) (hr : PA X es (GA n W P xs)) (hs : starEach (e :: es) X.env = (false, eval e X.env) :: starEach es X.env) : PA X (e :: es) (GA n W P (x :: xs)) := by
  refine pa_wk (pa_cons ha hr hs) fun σ H Q ⟨ι, e, hp, S, A⟩ => ?_
  simp only [evs] at A
  refine ⟨ι, e, hp, S, (Af.bind A).mono ?_⟩
  rintro v H1 ⟨ι1, hp1, a, F1, R1, V1, A1⟩
  refine ⟨ι1, e, hp1, S.mono F1 R1, (Af.bind A1).mono ?_⟩
  rintro vs H2 ⟨ι2, hp2, as, F2, R2, V2, A2⟩
  exact A2.here R2 (.cons (V1.mono F2) V2)
theorem g_tup {es : List Expr} {xs : List Ex} {x1 : Nat} {pos : Pos} (h : PA X es (GA n W P xs)) : PE X (.Tuple es x1 pos) (G n W P (.tup xs)) := by
  refine pe_wk (pe_tup h) fun σ H Q ⟨ι, e, hp, S, A⟩ => ?_
  simp only [ev] at A
  refine ⟨ι, e, hp, S, (Af.bind A).mono ?_⟩
  rintro vs H1 ⟨ι1, hp1, ws, F1, R1, V1, A1⟩
  split at A1
  · rename_i hz
    exact ⟨by rw [V1.length]; exact hz, newT_ok R1 V1 A1⟩
  · exact A1.elim
theorem g_lst {es : List Expr} {xs : List Ex} {pos : Pos} (h : PA X es (GA n W P xs)) : PE X (.List es pos) (G n W P (.lst xs)) := by
  refine pe_wk (pe_lst h) fun σ H Q ⟨ι, e, hp, S, A⟩ => ?_
  simp only [ev] at A
  refine ⟨ι, e, hp, S, (Af.bind A).mono ?_⟩
  rintro vs H1 ⟨ι1, hp1, ws, F1, R1, V1, A1⟩
  exact newL_ok R1 V1 A1
theorem g_bin {a b : Expr} {x y : Ex} {o : Op2} {pos : Pos} (hK : KW X n) (ha : PE X a (G n W P x)) (hb : PE X b (G n W P y)) : PE X (.BinOp a (opOf o) b pos) (G n W P (.bin o x y)) := by
  refine pe_wk (pe_op (bin_ok hK o) ha hb) fun σ H Q ⟨ι, e, hp, S, A⟩ => ?_
  simp only [ev] at A
  refine ⟨ι, e, hp, S, (Af.bind A).mono ?_⟩
  rintro v H1 ⟨ι1, hp1, w, F1, R1, V1, A1⟩
  refine ⟨ι1, e, hp1, S.mono F1 R1, (Af.bind A1).mono ?_⟩
  rintro u H2 ⟨ι2, hp2, w2, F2, R2, V2, A2⟩
  exact ⟨ι2, hp2, w, w2, _, R2, V1.mono F2, V2, A2⟩
theorem g_neg {a : Expr} {x : Ex} {pos : Pos} (ha : PE X a (G n W P x)) : PE X (.UnaryOp .USub a pos) (G n W P (.neg x)) := by
  refine pe_wk (pe_un un_neg ha) fun σ H Q ⟨ι, e, hp, S, A⟩ => ?_
  simp only [ev] at A
  refine ⟨ι, e, hp, S, (Af.bind A).mono ?_⟩
  rintro v H1 ⟨ι1, hp1, w, F1, R1, V1, A1⟩
  cases V1 <;> try exact A1.elim
  exact ⟨_, rfl, A1.here R1 (.int _)⟩
theorem g_not {a : Expr} {x : Ex} {pos : Pos} (hK : KW X n) (ha : PE X a (G n W P x)) : PE X (.UnaryOp .Not a pos) (G n W P (.not x)) := by
  refine pe_wk (pe_notT ha) fun σ H Q ⟨ι, e, hp, S, A⟩ => ?_
  simp only [ev] at A
  refine ⟨ι, e, hp, S, (Af.bind A).mono ?_⟩
  rintro v H1 ⟨ι1, hp1, w, F1, R1, V1, A1⟩
  cases ht : truth hp1 w with
  | none => rw [ht] at A1; exact A1.elim
  | some k =>
    rw [ht] at A1
    exact ⟨k, hK.K ▸ truth_ok R1 V1 ht, A1.here R1 (.bl _)⟩
theorem g_and {a b : Expr} {rest : List Expr} {x y : Ex} {pos : Pos} (hK : KW X n) (ha : PE X a (G n W P x)) (hb : PE X (.BoolOp .And (b :: rest) pos) (G n W P y)) : PE X (.BoolOp .And (a :: b :: rest) pos) (G n W P (.and x y)) := by
  refine pe_wk (pe_andT ha hb) fun σ H Q ⟨ι, e, hp, S, A⟩ => ?_
  simp only [ev] at A
  refine ⟨ι, e, hp, S, (Af.bind A).mono ?_⟩
  rintro v H1 ⟨ι1, hp1, w, F1, R1, V1, A1⟩
  cases ht : truth hp1 w with
  | none => rw [ht] at A1; exact A1.elim
  | some k =>
    rw [ht] at A1
    simp only [Rz.of_some, Rz.bind_ok] at A1
    refine ⟨k, hK.K ▸ truth_ok R1 V1 ht, ?_⟩
    cases k with
    | true => exact ⟨ι1, e, hp1, S.mono F1 R1, A1⟩
    | false => exact A1.here R1 V1
theorem g_or {a b : Expr} {rest : List Expr} {x y : Ex} {pos : Pos} (hK : KW X n) (ha : PE X a (G n W P x)) (hb : PE X (.BoolOp .Or (b :: rest) pos) (G n W P y)) : PE X (.BoolOp .Or (a :: b :: rest) pos) (G n W P (.or x y)) := by
  refine pe_wk (pe_orT ha hb) fun σ H Q ⟨ι, e, hp, S, A⟩ => ?_
  simp only [ev] at A
  refine ⟨ι, e, hp, S, (Af.bind A).mono ?_⟩
  rintro v H1 ⟨ι1, hp1, w, F1, R1, V1, A1⟩
  cases ht : truth hp1 w with
  | none => rw [ht] at A1; exact A1.elim
  | some k =>
    rw [ht] at A1
    simp only [Rz.of_some, Rz.bind_ok] at A1
    refine ⟨k, hK.K ▸ truth_ok R1 V1 ht, ?_⟩
    cases k with
    | false => exact ⟨ι1, e, hp1, S.mono F1 R1, A1⟩
    | true => exact A1.here R1 V1
theorem g_ite {c a b : Expr} {z x y : Ex} {pos : Pos} (hc : PT X c (GT n W P z)) (ha : PE X a (G n W P x)) (hb : PE X b (G n W P y)) : PE X (.IfExp c a b pos) (G n W P (.ite z x y)) := by
  refine pe_wk (pe_ifExp hc ha hb) fun σ H Q ⟨ι, e, hp, S, A⟩ => ?_
  simp only [ev] at A
  refine ⟨ι, e, hp, S, (Af.bind A).mono ?_⟩
  rintro t H1 ⟨ι1, hp1, k, F1, R1, rfl, A1⟩
  cases t with
  | true => exact ⟨ι1, e, hp1, S.mono F1 R1, A1⟩
  | false => exact ⟨ι1, e, hp1, S.mono F1 R1, A1⟩
theorem cmp_two {c : Cm} {x y : Ex} {σ : L2.St} {Q : VK} (h : G n W P (.cmp c x y) σ H Q) : tOp (fun x y H Q => ∃ ι hp a b t, HR n ι H hp ∧ VR n ι H x a ∧ VR n ι H y b ∧ c.run hp a b = some t ∧ Q (.bl t) H) (G n W P x) (G n W P y) σ H Q := by
  obtain ⟨ι, e, hp, S, A⟩ := h
  simp only [ev] at A
  refine ⟨ι, e, hp, S, (Af.bind A).mono ?_⟩
  rintro v H1 ⟨ι1, hp1, w, F1, R1, V1, A1⟩
  refine ⟨ι1, e, hp1, S.mono F1 R1, (Af.bind A1).mono ?_⟩
  rintro u H2 ⟨ι2, hp2, w2, F2, R2, V2, A2⟩
  simp only [cmpop] at A2
  cases ht : c.run hp2 w w2 with
  | none => rw [ht] at A2; exact A2.elim
  | some t =>
    rw [ht] at A2
    exact ⟨ι2, hp2, w, w2, t, R2, V1.mono F2, V2, ht, A2.here R2 (.bl _)⟩
theorem g_cmp {a b : Expr} {x y : Ex} {c : Cm} {pos : Pos} (hK : KW X n) (hu : X.A.units + 64 < cLine) (ha : PE X a (G n W P x)) (hb : PE X b (G n W P y)) (hm : behindInMarks (cmOf c) b = false) : PE X (.Compare a [cmOf c] [b] pos) (G n W P (.cmp c x y)) :=
  pe_wk (pe_cmpR (cm_ok hK hu c) ha hb hm) fun σ H Q h => cmp_two h
theorem g_chn {a b d : Expr} {x y z : Ex} {c c' : Cm} {pos : Pos} (hK : KW X n) (hu : X.A.units + 64 < cLine) (ha : PE X a (G n W P x)) (hb : PE X b (G n W P y)) (hd : PE X d (G n W P z)) (hm : lastMarks [cmOf c, cmOf c'] [b, d] = false) :
    PE X (.Compare a [cmOf c, cmOf c'] [b, d] pos) (G n W P (.chn c c' x y z)) := by
  refine pe_wk (pe_chain (cm_ok hK hu c) (cm_ok hK hu c') ha hb hd hm) fun σ H Q ⟨ι, e, hp, S, A⟩ => ?_
  simp only [ev] at A
  refine ⟨ι, e, hp, S, (Af.bind A).mono ?_⟩
  rintro v H1 ⟨ι1, hp1, w, F1, R1, V1, A1⟩
  refine ⟨ι1, e, hp1, S.mono F1 R1, (Af.bind A1).mono ?_⟩
  rintro u H2 ⟨ι2, hp2, w2, F2, R2, V2, A2⟩
  cases ht : c.run hp2 w w2 with
  | none => rw [ht] at A2; exact A2.elim
  | some t =>
    rw [ht] at A2
    refine ⟨ι2, hp2, w, w2, t, R2, V1.mono F2, V2, ht, t, rfl, ?_⟩
    cases t with
    | false => exact A2.here R2 (.bl _)
    | true =>
      simp only [Rz.of_some, Rz.bind_ok, if_true] at A2 ⊢
      refine ⟨ι2, e, hp2, (S.mono F1 R1).mono F2 R2, (Af.bind A2).mono ?_⟩
      rintro u3 H3 ⟨ι3, hp3, w3, F3, R3, V3, A3⟩
      simp only [cmpop] at A3
      cases ht3 : c'.run hp3 w2 w3 with
      | none => rw [ht3] at A3; exact A3.elim
      | some t3 =>
        rw [ht3] at A3
        exact ⟨ι3, hp3, w2, w3, t3, R3, V2.mono F3, V3, ht3, A3.here R3 (.bl _)⟩
theorem Rz.bind_assoc {α β γ : Type} (r : Rz α) (f : α → Hs → Rz β) (g : β → Hs → Rz γ) : (r.bind f).bind g = r.bind fun a h => (f a h).bind g := by cases r <;> rfl
/-! ### tests -/
theorem t_gen {a : Expr} {x : Ex} (hK : KW X n) (ha : PE X a (G n W P x)) (he : ∀ whole, isTrue a X.env whole = (do let v ← whole; standAt a.pos; holding [v] (truthy v)))
    (ht : ∀ e h, tst P x e h = (ev P x e h).bind fun w h1 => Rz.of (truth h1 w) h1) : PT X a (GT n W P x) := by
  refine pt_wk (pt_truth ha he) fun σ H Q ⟨ι, e, hp, S, A⟩ => ?_
  rw [ht] at A
  refine ⟨ι, e, hp, S, (Af.bind A).mono ?_⟩
  rintro v H1 ⟨ι1, hp1, w, F1, R1, V1, A1⟩
  cases hk : truth hp1 w with
  | none => rw [hk] at A1; exact A1.elim
  | some k =>
    rw [hk] at A1
    exact ⟨k, hK.K ▸ truth_ok R1 V1 hk, A1.here R1 rfl⟩
theorem t_cmp {a b : Expr} {x y : Ex} {c : Cm} {pos : Pos} (hK : KW X n) (hu : X.A.units + 64 < cLine) (ha : PE X a (G n W P x)) (hb : PE X b (G n W P y)) (hm : behindInMarks (cmOf c) b = false) : PT X (.Compare a [cmOf c] [b] pos) (GT n W P (.cmp c x y)) := by
  refine pt_wk (pt_cmpR (cm_ok hK hu c) ha hb hm) fun σ H Q ⟨ι, e, hp, S, A⟩ => ?_
  simp only [tst, ev, Rz.bind_assoc] at A
  refine ⟨ι, e, hp, S, (Af.bind A).mono ?_⟩
  rintro v H1 ⟨ι1, hp1, w, F1, R1, V1, A1⟩
  refine ⟨ι1, e, hp1, S.mono F1 R1, (Af.bind A1).mono ?_⟩
  rintro u H2 ⟨ι2, hp2, w2, F2, R2, V2, A2⟩
  simp only [cmpop] at A2
  cases ht : c.run hp2 w w2 with
  | none => rw [ht] at A2; exact A2.elim
  | some t =>
    rw [ht] at A2
    exact ⟨ι2, hp2, w, w2, t, R2, V1.mono F2, V2, ht, t, rfl, A2.here R2 rfl⟩
theorem t_chn {a b d : Expr} {x y z : Ex} {c c' : Cm} {pos : Pos} (hK : KW X n) (hu : X.A.units + 64 < cLine) (ha : PE X a (G n W P x)) (hb : PE X b (G n W P y)) (hd : PE X d (G n W P z)) (hm : lastMarks [cmOf c, cmOf c'] [b, d] = false) :
    PT X (.Compare a [cmOf c, cmOf c'] [b, d] pos) (GT n W P (.chn c c' x y z)) := by
  refine pt_wk (pt_chain (cm_ok hK hu c) (cm_ok hK hu c') ha hb hd hm) fun σ H Q ⟨ι, e, hp, S, A⟩ => ?_
  simp only [tst, ev, Rz.bind_assoc] at A
  refine ⟨ι, e, hp, S, (Af.bind A).mono ?_⟩
  rintro v H1 ⟨ι1, hp1, w, F1, R1, V1, A1⟩
  refine ⟨ι1, e, hp1, S.mono F1 R1, (Af.bind A1).mono ?_⟩
  rintro u H2 ⟨ι2, hp2, w2, F2, R2, V2, A2⟩
  cases ht : c.run hp2 w w2 with
  | none => rw [ht] at A2; exact A2.elim
  | some t =>
    rw [ht] at A2
    refine ⟨ι2, hp2, w, w2, t, R2, V1.mono F2, V2, ht, t, rfl, ?_⟩
    cases t with
    | false => exact ⟨false, rfl, A2.here R2 rfl⟩
    | true =>
      simp only [Rz.of_some, Rz.bind_ok, if_true, Rz.bind_assoc] at A2 ⊢
      refine ⟨ι2, e, hp2, (S.mono F1 R1).mono F2 R2, (Af.bind A2).mono ?_⟩
      rintro u3 H3 ⟨ι3, hp3, w3, F3, R3, V3, A3⟩
      simp only [cmpop] at A3
      cases ht3 : c'.run hp3 w2 w3 with
      | none => rw [ht3] at A3; exact A3.elim
      | some t3 =>
        rw [ht3] at A3
        exact ⟨ι3, hp3, w2, w3, t3, R3, V2.mono F3, V3, ht3, t3, rfl, A3.here R3 rfl⟩
theorem t_not {a : Expr} {x : Ex} {pos : Pos} (ha : PT X a (GT n W P x)) : PT X (.UnaryOp .Not a pos) (GT n W P (.not x)) := by
  refine pt_wk (pt_not ha) fun σ H Q ⟨ι, e, hp, S, A⟩ => ?_
  simp only [tst] at A
  refine ⟨ι, e, hp, S, (Af.bind A).mono ?_⟩
  rintro t H1 ⟨ι1, hp1, k, F1, R1, rfl, A1⟩
  exact A1.here R1 rfl
theorem w_and1 {a : Expr} {x : Ex} {pos : Pos} (ha : PT X a (GT n W P x)) : PW X (.BoolOp .And [a] pos) (GT n W P x) := pw_and1 ha
theorem w_or1 {a : Expr} {x : Ex} {pos : Pos} (ha : PT X a (GT n W P x)) : PW X (.BoolOp .Or [a] pos) (GT n W P x) := pw_or1 ha
theorem w_and {a b : Expr} {rest : List Expr} {x y : Ex} {pos : Pos} (ha : PT X a (GT n W P x)) (hb : PW X (.BoolOp .And (b :: rest) pos) (GT n W P y)) : PW X (.BoolOp .And (a :: b :: rest) pos) (GT n W P (.and x y)) := by
  refine pw_wk (pw_and ha hb) fun σ H Q ⟨ι, e, hp, S, A⟩ => ?_
  simp only [tst] at A
  refine ⟨ι, e, hp, S, (Af.bind A).mono ?_⟩
  rintro t H1 ⟨ι1, hp1, k, F1, R1, rfl, A1⟩
  cases t with
  | true => exact ⟨ι1, e, hp1, S.mono F1 R1, A1⟩
  | false => exact A1.here R1 rfl
theorem w_or {a b : Expr} {rest : List Expr} {x y : Ex} {pos : Pos} (ha : PT X a (GT n W P x)) (hb : PW X (.BoolOp .Or (b :: rest) pos) (GT n W P y)) : PW X (.BoolOp .Or (a :: b :: rest) pos) (GT n W P (.or x y)) := by
  refine pw_wk (pw_or ha hb) fun σ H Q ⟨ι, e, hp, S, A⟩ => ?_
  simp only [tst] at A
  refine ⟨ι, e, hp, S, (Af.bind A).mono ?_⟩
  rintro t H1 ⟨ι1, hp1, k, F1, R1, rfl, A1⟩
  cases t with
  | true => exact A1.here R1 rfl
  | false => exact ⟨ι1, e, hp1, S.mono F1 R1, A1⟩
end
end SL

set_option maxRecDepth 100000
set_option maxHeartbeats 1000000
/-! Expressions by the evaluator: parts of values, fields, calls. -/
namespace SL
open PySem L2 PyProof.Rows
set_option autoImplicit false

section
variable {n : Nam} {ι : List Addr} {H : Hp} {hp : Hs} {W : Wx} {V' : WX} {X : Cx} {P : Wd}
def noSlice : Expr → Bool
  | .Slice .. => false
  | _ => true
theorem plain_ix {b : Expr} (h : noSlice b = true) : PlainIx b := by
  intro o i
  cases b <;> first | rfl | cases h
theorem g_sub {a b : Expr} {x y : Ex} {pos : Pos} (hK : KW X n) (hu : X.A.units + 64 < cLine) (ha : PE X a (G n W P x)) (hb : PE X b (G n W P y)) (hs : noSlice b = true) : PE X (.Subscript a b pos) (G n W P (.sub x y)) := by
  refine pe_wk (pe_ix (sub_ok hK hu) ha hb (plain_ix hs)) fun σ H Q ⟨ι, e, hp, S, A⟩ => ?_
  simp only [ev] at A
  refine ⟨ι, e, hp, S, (Af.bind A).mono ?_⟩
  rintro v H1 ⟨ι1, hp1, w, F1, R1, V1, A1⟩
  refine ⟨ι1, e, hp1, S.mono F1 R1, (Af.bind A1).mono ?_⟩
  rintro u H2 ⟨ι2, hp2, w2, F2, R2, V2, A2⟩
  exact ⟨ι2, hp2, w, w2, _, R2, V1.mono F2, V2, A2⟩
/-- a slice's part -/
def GO (n : Nam) (W : Wx) (P : Wd) (x : Option Ex) : TO := fun σ H Q => ∃ ι e hp, SR n ι H σ e hp ∧ Af n (fun _ _ b a => b = a) ι H (evo P x e hp) Q (W σ)
theorem po_wk {e : Option Expr} {t t' : TO} (h : PO X e t) (w : ∀ σ H Q, t' σ H Q → t σ H Q) : PO X e t' := ⟨fun pins s σ H Q I q => h.run pins s σ H Q I (w σ H Q q)⟩
theorem o_none : PO X none (GO n W P none) := po_wk po_none fun σ H Q ⟨ι, e, hp, S, A⟩ => by
  simp only [evo] at A
  exact A.here S.hr rfl
theorem o_some {a : Expr} {x : Ex} (ha : PE X a (G n W P x)) : PO X (some a) (GO n W P (some x)) := po_wk (po_some ha) fun σ H Q ⟨ι, e, hp, S, A⟩ => by
  simp only [evo] at A
  refine ⟨ι, e, hp, S, (Af.bind A).mono ?_⟩
  rintro v H1 ⟨ι1, hp1, w, F1, R1, V1, A1⟩
  cases V1 <;> try exact A1.elim
  exact ⟨_, rfl, A1.here R1 rfl⟩
theorem g_slc {a : Expr} {x : Ex} {lo hi : Option Expr} {l u : Option Ex} {p2 pos : Pos} (hK : KW X n) (ha : PE X a (G n W P x)) (hl : PO X lo (GO n W P l)) (hu : PO X hi (GO n W P u)) : PE X (.Subscript a (.Slice lo hi none p2) pos) (G n W P (.slc x l u)) := by
  refine pe_wk (pe_slice (slc_ok hK) ha hl hu) fun σ H Q ⟨ι, e, hp, S, A⟩ => ?_
  simp only [ev] at A
  refine ⟨ι, e, hp, S, (Af.bind A).mono ?_⟩
  rintro v H1 ⟨ι1, hp1, w, F1, R1, V1, A1⟩
  refine ⟨ι1, e, hp1, S.mono F1 R1, (Af.bind A1).mono ?_⟩
  rintro l' H2 ⟨ι2, hp2, w2, F2, R2, rfl, A2⟩
  refine ⟨ι2, e, hp2, (S.mono F1 R1).mono F2 R2, (Af.bind A2).mono ?_⟩
  rintro u' H3 ⟨ι3, hp3, w3, F3, R3, rfl, A3⟩
  exact ⟨ι3, hp3, w, _, R3, (V1.mono F2).mono F3, A3⟩

/-! ### fields -/
theorem VRf.get : ∀ {fs : List (Str × V)} {ws : List (Nat × Wv)}, VRf n ι H fs ws → ∀ {f : Nat} {w : Wv}, ws.lookup f = some w → ∃ v, fs.lookup (n.nm f) = some v ∧ VR n ι H v w
  | _, _, .nil, f, w, e => by cases e
  | _, _, .cons (f := g) (vs := fs) (ws := ws) h t, f, w, e => by
    by_cases q : f = g
    · subst q
      rw [List.lookup_cons_self] at e; cases e
      exact ⟨_, List.lookup_cons_self, h⟩
    · have hb : (f == g) = false := beq_eq_false_iff_ne.mpr q
      have hb2 : (n.nm f == n.nm g) = false := beq_eq_false_iff_ne.mpr fun z => q (n.inj _ _ z)
      simp only [List.lookup, hb] at e
      obtain ⟨v, h1, h2⟩ := t.get e
      exact ⟨v, by simp only [List.lookup, hb2]; exact h1, h2⟩
theorem VRf.none : ∀ {fs : List (Str × V)} {ws : List (Nat × Wv)}, VRf n ι H fs ws → ∀ {f : Nat}, ws.lookup f = .none → fs.lookup (n.nm f) = .none
  | _, _, .nil, f, e => rfl
  | _, _, .cons (f := g) (vs := fs) (ws := ws) h t, f, e => by
    by_cases q : f = g
    · subst q
      rw [List.lookup_cons_self] at e; cases e
    · have hb : (f == g) = false := beq_eq_false_iff_ne.mpr q
      have hb2 : (n.nm f == n.nm g) = false := beq_eq_false_iff_ne.mpr fun z => q (n.inj _ _ z)
      simp only [List.lookup, hb] at e
      simp only [List.lookup, hb2]
      exact t.none e
theorem VRf.put {v : V} {w : Wv} (hv : VR n ι H v w) (f : Nat) : ∀ {fs : List (Str × V)} {ws : List (Nat × Wv)}, VRf n ι H fs ws → VRf n ι H (putF (n.nm f) v fs) (fput f w ws)
  | _, _, .nil => .cons hv .nil
  | _, _, .cons (f := g) h t => by
    unfold putF fput
    by_cases q : g = f
    · subst q
      rw [if_pos rfl, if_pos rfl]
      exact .cons hv t
    · rw [if_neg q, if_neg fun z => q (n.inj _ _ z)]
      exact .cons h (VRf.put hv f t)
theorem VRf.length : ∀ {fs : List (Str × V)} {ws : List (Nat × Wv)}, VRf n ι H fs ws → fs.length = ws.length
  | _, _, .nil => rfl
  | _, _, .cons _ t => by rw [List.length_cons, List.length_cons, t.length]
theorem getI_rel (R : HR n ι H hp) {v : V} {w : Wv} (h : VR n ι H v w) {c : Nat} {ws : List (Nat × Wv)} (e : getI hp w = some (c, ws)) : ∃ a dx fs, v = .ref a ∧ H a = some (.ins (n.cA c) dx fs) ∧ VRf n ι H fs ws := by
  cases h with
  | ins h h1 h2 => simp only [getI, Option.some.injEq, Prod.mk.injEq] at e; obtain ⟨rfl, rfl⟩ := e; exact ⟨_, _, _, rfl, h, h2⟩
  | @ref k a h =>
    simp only [getI] at e
    split at e
    · rename_i c' fs' q
      cases e
      obtain ⟨ho, h1, h2⟩ := R.at_ k a _ h q
      cases h2 with
      | ins h3 => exact ⟨a, _, _, rfl, h1, h3⟩
    · cases e
  | _ => simp [getI] at e
/-- what the class's text says of a field -/
def FldOk (n : Nam) (P : Wd) : Prop := ∀ c f, P.fld c f = true → Cls n.K (n.cA c) ∧ NoAttr n.K (n.cA c) (n.nm f)
theorem g_att {a : Expr} {x : Ex} {f : Nat} {pos : Pos} (hK : KW X n) (hf : FldOk n P) (ha : PE X a (G n W P x)) (hb : attributeBase a (n.nm f) X.env (eval a X.env) = eval a X.env) : PE X (.Attribute a (n.nm f) pos) (G n W P (.att x f)) := by
  refine pe_wk (pe_fld ha hb) fun σ H Q ⟨ι, e, hp, S, A⟩ => ?_
  simp only [ev] at A
  refine ⟨ι, e, hp, S, (Af.bind A).mono ?_⟩
  rintro v H1 ⟨ι1, hp1, w, F1, R1, V1, A1⟩
  split at A1
  · rename_i c ws q
    split at A1
    · rename_i q2
      cases q3 : fget ws f with
      | none => rw [q3] at A1; exact A1.elim
      | some y =>
        rw [q3] at A1
        obtain ⟨p, dx, fs, rfl, g1, g2⟩ := getI_rel R1 V1 q
        obtain ⟨y', g3, g4⟩ := g2.get q3
        obtain ⟨c1, c2⟩ := hf c f q2
        exact ⟨p, _, dx, fs, y', rfl, g1, hK.K ▸ c1, hK.K ▸ c2, g3, A1.here R1 g4⟩
    · exact A1.elim
  · exact A1.elim

/-! ### calls of defs -/
theorem run_w {k f : Nat} {a : Addr} (F : FnIs X n P k f a) (hr : Room k X.A) (tk : Takes X V') {pins : List (Addr × Obj)} {σ : L2.St} {s : Shared} {Q : VK} {us : List Value} {vs : List V} {ws : List Wv} (I : Inv X pins σ H s) (r : Vals vs us)
    (R : HR n ι H hp) (h : VRs n ι H vs ws) (A : Af n (VR n) ι H (P.run f ws hp) Q (ofW n V' σ)) : wpAny (model X.prog X.w) X.A (call (.ref a) us) (EP X pins σ Q) X.xe s := by
  obtain ⟨fd, ps, hb, ok⟩ := F.ok
  exact run_fnS (E := WE V') ok hr hb (passAt tk σ) I r ⟨ι, hp, ws, R, h, A⟩
/-- the def that a module's name stands for -/
structure GlobFn (X : Cx) (n : Nam) (P : Wd) (k : Nat) (x : Str) (f : Nat) : Prop where
  at_ : ∃ a, X.mg x = some (.ref a) ∧ PySem.W.keepIn X.K (.ref a) = true ∧ FnIs X n P k f a
theorem g_call {x : Str} {k f : Nat} {p pos : Pos} {e : Expr} {es : List Expr} {xs : List Ex} (hr : Room k X.A) (tk : Takes X V') (hg : Gl X x) (F : GlobFn X n P k x f) (ha : PA X (e :: es) (GA n (ofW n V') P xs)) (hdb : (x == ("__debug__" : Str)) = false)
    (he : starEach (e :: es) X.env = (false, eval e X.env) :: starEach es X.env) (hpl : (backTo pos (starEach es X.env)).any (·.1) = false) : PE X (.Call (.Name x p) (e :: es) [] pos) (G n (ofW n V') P (.call f xs)) := by
  obtain ⟨a, hm, hk, F⟩ := F.at_
  refine ⟨fun pins s σ H Q I ⟨ι, ee, hp, S, A⟩ => ?_⟩
  simp only [ev] at A
  refine wpAny_Call_Name_kw (ld_glob I hg hm ?_ hdb)
  refine PySem.W.callWith_K (h₀ := X.base) I.ok.mod.kin hk (thn (ha.run pos pins s σ H _ I ⟨ι, ee, hp, S, Af.bind A⟩) fun us s1 h1 => ?_) he hpl
  obtain ⟨vs, H1, I1, r, ι1, hp1, ws, F1, R1, V1, A1⟩ := h1
  exact ⟨I1.kIn, run_w F hr tk I1 r R1 V1 A1⟩
theorem g_call0 {x : Str} {k f : Nat} {p pos : Pos} (hr : Room k X.A) (tk : Takes X V') (hg : Gl X x) (F : GlobFn X n P k x f) (hdb : (x == ("__debug__" : Str)) = false) : PE X (.Call (.Name x p) [] [] pos) (G n (ofW n V') P (.call f [])) := by
  obtain ⟨a, hm, hk, F⟩ := F.at_
  refine ⟨fun pins s σ H Q I ⟨ι, ee, hp, S, A⟩ => ?_⟩
  simp only [ev, evs, Rz.bind_ok] at A
  exact wpAny_Call_Name_kw (ld_glob I hg hm (PySem.W.callWith_K0 I.kIn hk (run_w (us := []) F hr tk I .nil S.hr .nil A)) hdb)

/-- the def that is a class's method -/
structure MethFn (X : Cx) (n : Nam) (P : Wd) (k c m f : Nat) : Prop where
  cls : Cls n.K (n.cA c)
  at_ : ∃ a, Meth n.K (n.cA c) (n.nm m) a ∧ FnIs X n P k f a
def MethsOk (X : Cx) (n : Nam) (P : Wd) (k : Nat) : Prop := ∀ c m f, methOf P c m = some f → MethFn X n P k c m f
theorem g_meth {o e : Expr} {es : List Expr} {x : Ex} {xs : List Ex} {k m : Nat} {apos pos : Pos} {pl : Sem Bool} (hK : KW X n) (hr : Room k X.A) (tk : Takes X V') (M : MethsOk X n P k) (ho : PE X o (G n (ofW n V') P x)) (ha : PA X (e :: es) (GA n (ofW n V') P xs))
    (hst : starEach (e :: es) X.env = (false, eval e X.env) :: starEach es X.env) (hpl : (backTo pos (starEach es X.env)).any (·.1) = false)
    (ht : eval (.Call (.Attribute o (n.nm m) apos) (e :: es) [] pos) X.env = (do
      let ov ← eval o X.env
      standAt apos.atName
      let (f, first) ← holding [ov] (getMethod ov (n.nm m) pl)
      callWith pos f first (backTo pos (starEach (e :: es) X.env)) (backToKw pos (keywordEach [] X.env)))) :
    PE X (.Call (.Attribute o (n.nm m) apos) (e :: es) [] pos) (G n (ofW n V') P (.meth x m xs)) := by
  refine ⟨fun pins s σ H Q I ⟨ι, ee, hp, S, A⟩ => ?_⟩
  simp only [ev] at A
  refine PySem.W.methodCall_KW (pl := pl) (thn (ho.run pins s σ H _ I ⟨ι, ee, hp, S, Af.bind A⟩) fun u s1 h1 => ?_) ht
  obtain ⟨v, H1, I1, r, ι1, hp1, w, F1, R1, V1, A1⟩ := h1
  split at A1
  · rename_i c ws q
    split at A1
    · rename_i f q1 q2
      obtain ⟨cl, a, mt, F⟩ := M c m f q1
      obtain ⟨p, dx, fs, rfl, g1, g2⟩ := getI_rel R1 V1 q
      cases r
      refine getmeth_ok I1 g1 (hK.K ▸ cl) (hK.K ▸ mt) (g2.none q2) ?_
      refine PySem.W.callWith_K (first := [.ref p]) (h₀ := X.base) I1.ok.mod.kin (hK.K ▸ mt.kp) (thn (ha.run pos pins s1 σ H1 _ I1 ⟨ι1, ee, hp1, S.mono F1 R1, Af.bind A1⟩) fun us s2 h2 => ?_) hst hpl
      obtain ⟨vs, H2, I2, r2, ι2, hp2, ws2, F2, R2, V2, A2⟩ := h2
      exact ⟨I2.kIn, run_w (us := .ref p :: us) F hr tk I2 (Paired.cons (show RelV (.ref p) (.ref p) from rfl) r2) R2 (.cons (V1.mono F2) V2) A2⟩
    · exact A1.elim
  · exact A1.elim
theorem g_meth0 {o : Expr} {x : Ex} {k m : Nat} {apos pos : Pos} {pl : Sem Bool} (hK : KW X n) (hr : Room k X.A) (tk : Takes X V') (M : MethsOk X n P k) (ho : PE X o (G n (ofW n V') P x))
    (ht : eval (.Call (.Attribute o (n.nm m) apos) [] [] pos) X.env = (do
      let ov ← eval o X.env
      standAt apos.atName
      let (f, first) ← holding [ov] (getMethod ov (n.nm m) pl)
      callWith pos f first (backTo pos (starEach [] X.env)) (backToKw pos (keywordEach [] X.env)))) :
    PE X (.Call (.Attribute o (n.nm m) apos) [] [] pos) (G n (ofW n V') P (.meth x m [])) := by
  refine ⟨fun pins s σ H Q I ⟨ι, ee, hp, S, A⟩ => ?_⟩
  simp only [ev] at A
  refine PySem.W.methodCall_KW (pl := pl) (thn (ho.run pins s σ H _ I ⟨ι, ee, hp, S, Af.bind A⟩) fun u s1 h1 => ?_) ht
  obtain ⟨v, H1, I1, r, ι1, hp1, w, F1, R1, V1, A1⟩ := h1
  split at A1
  · rename_i c ws q
    split at A1
    · rename_i f q1 q2
      simp only [evs, Rz.bind_ok] at A1
      obtain ⟨cl, a, mt, F⟩ := M c m f q1
      obtain ⟨p, dx, fs, rfl, g1, g2⟩ := getI_rel R1 V1 q
      cases r
      refine getmeth_ok I1 g1 (hK.K ▸ cl) (hK.K ▸ mt) (g2.none q2) ?_
      exact PySem.W.callWith_K0 (first := [.ref p]) I1.kIn (hK.K ▸ mt.kp) (run_w (us := [.ref p]) F hr tk I1 (Paired.cons (show RelV (.ref p) (.ref p) from rfl) .nil) R1 (.cons V1 .nil) A1)
    · exact A1.elim
  · exact A1.elim
end
end SL

set_option maxRecDepth 100000
set_option maxHeartbeats 1000000
/-! What a def's end leaves; classes made; built-in functions. -/
namespace SL
open PySem L2 PyProof.Rows
set_option autoImplicit false

section
variable {n : Nam} {ι ι1 : List Addr} {H : Hp} {hp : Hs}
/-! ### freezing -/
/-- the addresses of ι1 that ι has not are the cells' that rec gives -/
def Frees (n : Nam) (H : Hp) (ι1 ι : List Addr) (rec : Nat → Option Wv) : Prop := (∀ a, a ∈ ι → a ∈ ι1) ∧ ∀ k a w, ι1[k]? = some a → rec k = some w → VR n ι H (.ref a) w
theorem frz_kW {rec : Nat → Option Wv} (k : Key) : (kW k).frz rec = some (kW k) := by cases k <;> simp [kW, Wv.frz]
theorem under_kW (lo : Nat) (k : Key) : (kW k).under lo = true := by cases k <;> simp [kW, Wv.under]
mutual
theorem frz_vr {rec : Nat → Option Wv} (hr : Frees n H ι1 ι rec) : ∀ {v : V} {w : Wv}, VR n ι1 H v w → ∀ w', w.frz rec = some w' → VR n ι H v w'
  | _, _, .non, w', h => by simp [Wv.frz] at h; subst h; exact .non
  | _, _, .bl b, w', h => by simp [Wv.frz] at h; subst h; exact .bl b
  | _, _, .int b, w', h => by simp [Wv.frz] at h; subst h; exact .int b
  | _, _, .str b, w', h => by simp [Wv.frz] at h; subst h; exact .str b
  | _, _, .tup hs ht, w', h => by
    simp only [Wv.frz, Option.map_eq_some_iff] at h
    obtain ⟨ws', h1, rfl⟩ := h
    exact .tup (hs.imp (fun q => ⟨q.1, fun z => q.2 (hr.1 _ z)⟩) fun q => q) (frzs_vr hr ht _ h1)
  | _, _, .lst hs ht, w', h => by
    simp only [Wv.frz, Option.map_eq_some_iff] at h
    obtain ⟨ws', h1, rfl⟩ := h
    exact .lst (hs.imp (fun q => ⟨q.1, fun z => q.2 (hr.1 _ z)⟩) fun q => q) (frzs_vr hr ht _ h1)
  | _, _, .ins h1 h2 h3, w', h => by
    simp only [Wv.frz, Option.map_eq_some_iff] at h
    obtain ⟨ws', g1, rfl⟩ := h
    exact .ins h1 (fun z => h2 (hr.1 _ z)) (frzf_vr hr h3 _ g1)
  | _, _, .dic h1 h2 h3, w', h => by
    simp only [Wv.frz, Option.map_eq_some_iff] at h
    obtain ⟨ws', g1, rfl⟩ := h
    exact .dic h1 (fun z => h2 (hr.1 _ z)) (frzd_vr hr h3 _ g1)
  | _, _, .ref hk, w', h => hr.2 _ _ _ hk (by simpa [Wv.frz] using h)
theorem frzs_vr {rec : Nat → Option Wv} (hr : Frees n H ι1 ι rec) : ∀ {v : List V} {w : List Wv}, VRs n ι1 H v w → ∀ w', frzs rec w = some w' → VRs n ι H v w'
  | _, _, .nil, w', h => by simp [frzs] at h; subst h; exact .nil
  | _, _, .cons hv ht, w', h => by
    simp only [frzs] at h
    split at h
    · rename_i a b h1 h2
      cases h
      exact .cons (frz_vr hr hv _ h1) (frzs_vr hr ht _ h2)
    · cases h
theorem frzf_vr {rec : Nat → Option Wv} (hr : Frees n H ι1 ι rec) : ∀ {v : List (Str × V)} {w : List (Nat × Wv)}, VRf n ι1 H v w → ∀ w', frzf rec w = some w' → VRf n ι H v w'
  | _, _, .nil, w', h => by simp [frzf] at h; subst h; exact .nil
  | _, _, .cons hv ht, w', h => by
    simp only [frzf] at h
    split at h
    · rename_i a b h1 h2
      cases h
      exact .cons (frz_vr hr hv _ h1) (frzf_vr hr ht _ h2)
    · cases h
theorem frzd_vr {rec : Nat → Option Wv} (hr : Frees n H ι1 ι rec) : ∀ {v : List (Key × V)} {w : List (Wv × Wv)}, VRd n ι1 H v w → ∀ w', frzk rec w = some w' → VRd n ι H v w'
  | _, _, .nil, w', h => by simp [frzk] at h; subst h; exact .nil
  | _, _, .cons (k := k) hv ht, w', h => by
    simp only [frzk, frz_kW] at h
    split at h
    · rename_i a b c h0 h1 h2
      cases h0
      cases h
      exact .cons (frz_vr hr hv _ h1) (frzd_vr hr ht _ h2)
    · cases h
end
theorem frzC_frees (R : HR n ι1 H hp) {no : Nat → Bool} (hs : ∀ a, a ∈ ι → a ∈ ι1) (hno : ∀ k a, ι1[k]? = some a → no k = false → a ∉ ι) : ∀ fuel, Frees n H ι1 ι (frzC hp no fuel)
  | 0 => ⟨hs, fun k a w _ h => by simp [frzC] at h⟩
  | m + 1 => ⟨hs, fun k a w hk h => by
    simp only [frzC] at h
    split at h
    · cases h
    · rename_i hn
      have hna := hno k a hk (by simpa using hn)
      split at h
      · rename_i ws q
        obtain ⟨ws', h1, rfl⟩ := Option.map_eq_some_iff.mp h
        obtain ⟨vs, g1, g2⟩ := R.lstAt hk q
        exact .lst (.inl ⟨.inl g1, hna⟩) (frzs_vr (frzC_frees R hs hno m) g2 _ h1)
      · rename_i kvs q
        obtain ⟨ws', h1, rfl⟩ := Option.map_eq_some_iff.mp h
        obtain ⟨ho, g1, g2⟩ := R.at_ k a _ hk q
        cases g2 with
        | dic g3 => exact .dic (.inl g1) hna (frzd_vr (frzC_frees R hs hno m) g3 _ h1)
      · rename_i c fs q
        obtain ⟨ws', h1, rfl⟩ := Option.map_eq_some_iff.mp h
        obtain ⟨ho, g1, g2⟩ := R.at_ k a _ hk q
        cases g2 with
        | ins g3 => exact .ins g1 hna (frzf_vr (frzC_frees R hs hno m) g3 _ h1)
      · cases h
      · cases h
      · cases h
      · cases h⟩
/-- the cells below lo stand in both, the second has no others than the first -/
structure Cut (lo : Nat) (ι1 ι : List Addr) : Prop where
  sub : ∀ a, a ∈ ι → a ∈ ι1
  low : ∀ (k : Nat) a, k < lo → ι1[k]? = some a → ι[k]? = some a
mutual
theorem VR.under {lo : Nat} (hl : Cut lo ι1 ι) : ∀ {v : V} {w : Wv}, VR n ι1 H v w → w.under lo = true → VR n ι H v w
  | _, _, .non, _ => .non
  | _, _, .bl b, _ => .bl b
  | _, _, .int b, _ => .int b
  | _, _, .str b, _ => .str b
  | _, _, .tup hs ht, h => .tup (hs.imp (fun q => ⟨q.1, fun z => q.2 (hl.sub _ z)⟩) fun q => q) (VRs.under hl ht (by simpa [Wv.under] using h))
  | _, _, .lst hs ht, h => .lst (hs.imp (fun q => ⟨q.1, fun z => q.2 (hl.sub _ z)⟩) fun q => q) (VRs.under hl ht (by simpa [Wv.under] using h))
  | _, _, .ins h1 h2 h3, h => .ins h1 (fun z => h2 (hl.sub _ z)) (VRf.under hl h3 (by simpa [Wv.under] using h))
  | _, _, .dic h1 h2 h3, h => .dic h1 (fun z => h2 (hl.sub _ z)) (VRd.under hl h3 (by simpa [Wv.under] using h))
  | _, _, .ref (k := k) hk, h => by
    simp only [Wv.under, decide_eq_true_eq] at h
    exact .ref (hl.low k _ h hk)
theorem VRs.under {lo : Nat} (hl : Cut lo ι1 ι) : ∀ {v : List V} {w : List Wv}, VRs n ι1 H v w → unders lo w = true → VRs n ι H v w
  | _, _, .nil, _ => .nil
  | _, _, .cons hv ht, h => by
    simp only [unders, Bool.and_eq_true] at h
    exact .cons (VR.under hl hv h.1) (VRs.under hl ht h.2)
theorem VRf.under {lo : Nat} (hl : Cut lo ι1 ι) : ∀ {v : List (Str × V)} {w : List (Nat × Wv)}, VRf n ι1 H v w → underf lo w = true → VRf n ι H v w
  | _, _, .nil, _ => .nil
  | _, _, .cons hv ht, h => by
    simp only [underf, Bool.and_eq_true] at h
    exact .cons (VR.under hl hv h.1) (VRf.under hl ht h.2)
theorem VRd.under {lo : Nat} (hl : Cut lo ι1 ι) : ∀ {v : List (Key × V)} {w : List (Wv × Wv)}, VRd n ι1 H v w → underk lo w = true → VRd n ι H v w
  | _, _, .nil, _ => .nil
  | _, _, .cons hv ht, h => by
    simp only [underk, Bool.and_eq_true] at h
    exact .cons (VR.under hl hv h.2.1) (VRd.under hl ht h.2.2)
end
theorem Cut.pre (hl : ι <+: ι1) : Cut ι.length ι1 ι := ⟨fun a h => hl.subset h, fun k a h e => by
  obtain ⟨t, rfl⟩ := hl
  rwa [List.getElem?_append_left h] at e⟩
mutual
theorem VR.is_under : ∀ {v : V} {w : Wv}, VR n ι H v w → w.under ι.length = true
  | _, _, .non => rfl
  | _, _, .bl b => rfl
  | _, _, .int b => rfl
  | _, _, .str b => rfl
  | _, _, .tup hs ht => by simp only [Wv.under]; exact VRs.is_under ht
  | _, _, .lst hs ht => by simp only [Wv.under]; exact VRs.is_under ht
  | _, _, .ins h1 h2 h3 => by simp only [Wv.under]; exact VRf.is_under h3
  | _, _, .dic h1 h2 h3 => by simp only [Wv.under]; exact VRd.is_under h3
  | _, _, .ref (k := k) hk => by
    simp only [Wv.under, decide_eq_true_eq]
    exact (List.getElem?_eq_some_iff.mp hk).1
theorem VRs.is_under : ∀ {v : List V} {w : List Wv}, VRs n ι H v w → unders ι.length w = true
  | _, _, .nil => rfl
  | _, _, .cons hv ht => by simp only [unders, Bool.and_eq_true]; exact ⟨VR.is_under hv, VRs.is_under ht⟩
theorem VRf.is_under : ∀ {v : List (Str × V)} {w : List (Nat × Wv)}, VRf n ι H v w → underf ι.length w = true
  | _, _, .nil => rfl
  | _, _, .cons hv ht => by simp only [underf, Bool.and_eq_true]; exact ⟨VR.is_under hv, VRf.is_under ht⟩
theorem VRd.is_under : ∀ {v : List (Key × V)} {w : List (Wv × Wv)}, VRd n ι H v w → underk ι.length w = true
  | _, _, .nil => rfl
  | _, _, .cons hv ht => by simp only [underk, Bool.and_eq_true]; exact ⟨under_kW _ _, VR.is_under hv, VRd.is_under ht⟩
end
theorem VRn.is_under : ∀ {xs : List (NestedKey × Addr × Value)} {ws : List (Wv × Wv)}, VRn n ι H xs ws → underk ι.length ws = true
  | _, _, .nil => rfl
  | _, _, .cons a _ _ _ _ f _ t => by simp only [underk, Bool.and_eq_true]; exact ⟨VR.is_under a, VR.is_under f, VRn.is_under t⟩
theorem VRn.under {lo : Nat} (hl : Cut lo ι1 ι) : ∀ {xs : List (NestedKey × Addr × Value)} {ws : List (Wv × Wv)}, VRn n ι1 H xs ws → underk lo ws = true → VRn n ι H xs ws
  | _, _, .nil, _ => .nil
  | _, _, .cons a b c d e f g t, h => by
    simp only [underk, Bool.and_eq_true] at h
    exact .cons (VR.under hl a h.1) b c d e (VR.under hl f h.2.1) g (VRn.under hl t h.2.2)
/-- no cell from lo on is in it; a lambda's dict, too -/
def Ob.und (lo : Nat) : Ob → Bool
  | .fn k => decide (k < lo)
  | o => o.under lo
theorem Ob.und_of {lo : Nat} {o : Ob} (h : o.under lo = true) : o.und lo = true := by
  cases o <;> first | exact h | (simp [Ob.under] at h)
theorem OR.is_under {a : Addr} {ho : HO} {o : Ob} (h : OR n ι H a ho o) : o.und ι.length = true := by
  cases h with
  | lst h => exact h.is_under
  | ins h => exact h.is_under
  | dic h => exact h.is_under
  | dcn h => exact h.is_under
  | fn h =>
    obtain ⟨q, params, body, scope, pm, c', ctv, d, y, c, a, co, h1, h2, h3, h4, h5, h6, h7, h8⟩ := h
    simp only [Ob.und, decide_eq_true_eq]
    exact (List.getElem?_eq_some_iff.mp h8).1
  | tab h1 h2 h3 => rfl
theorem OR.under {a : Addr} {ho : HO} {o : Ob} {lo : Nat} (hl : Cut lo ι1 ι) (h : OR n ι1 H a ho o) (u : o.und lo = true) : OR n ι H a ho o := by
  cases h with
  | lst h => exact .lst (h.under hl u)
  | ins h => exact .ins (h.under hl u)
  | dic h => exact .dic (h.under hl u)
  | dcn h => exact .dcn (h.under hl u)
  | fn h =>
    obtain ⟨q, params, body, scope, pm, c', ctv, d, y, c, a, co, h1, h2, h3, h4, h5, h6, h7, h8⟩ := h
    simp only [Ob.und, decide_eq_true_eq] at u
    exact .fn ⟨q, params, body, scope, pm, c', ctv, d, y, c, a, co, h1, h2, h3, fun z => h4 (hl.sub _ z), h5, fun z => h6 (hl.sub _ z), h7, hl.low _ _ u h8⟩
  | tab h1 h2 h3 => exact .tab h1 h2 fun pos cv e => let ⟨c, g1, g2, g3⟩ := h3 pos cv e; ⟨c, g1, g2, fun z => g3 (hl.sub _ z)⟩
theorem shut_at {lo : Nat} : ∀ {a b : Hs}, shut lo a b = true → ∀ {k : Nat} {o : Ob}, a[k]? = some o → b[k]? = some o ∨ o.under lo = true
  | [], _, _, k, o, e => by simp at e
  | o :: os, [], h, 0, _, e => by
    simp only [shut, Bool.and_eq_true] at h
    simp at e; subst e; exact .inr h.1
  | o :: os, [], h, k + 1, _, e => by
    simp only [shut, Bool.and_eq_true] at h
    rcases shut_at h.2 (k := k) (by simpa using e) with q | q
    · simp at q
    · exact .inr q
  | o :: os, p :: ps, h, 0, _, e => by
    simp only [shut, Bool.and_eq_true, Bool.or_eq_true, decide_eq_true_eq] at h
    simp at e; subst e
    rcases h.1 with q | q
    · exact .inl (by rw [q]; rfl)
    · exact .inr q
  | o :: os, p :: ps, h, k + 1, _, e => by
    simp only [shut, Bool.and_eq_true] at h
    exact (shut_at h.2 (k := k) (by simpa using e)).imp (fun q => by simpa using q) fun q => q
/-- an old cell, behind a def's end -/
theorem HR.old {ι2 : List Addr} {H1 : Hp} {hp1 : Hs} (R : HR n ι H hp) (R1 : HR n ι1 H1 hp1) (hl : ι <+: ι1) (hc : Cut hp.length ι1 ι2) (h : SL.shut hp.length (hp1.take hp.length) hp = true) {k : Nat} {a : Addr} {o : Ob} (e1 : ι[k]? = some a) (e2 : (hp1.take hp.length)[k]? = some o) :
    ∃ ho, H1 a = some ho ∧ OR n ι2 H1 a ho o := by
  have hk : k < hp.length := by rw [← R.len]; exact (List.getElem?_eq_some_iff.mp e1).1
  have e2' := e2
  rw [List.getElem?_take_of_lt hk] at e2
  obtain ⟨ho, h1, h2⟩ := R1.at_ k a o (pre_get hl e1) e2
  refine ⟨ho, h1, h2.under hc ?_⟩
  rcases shut_at h e2' with q | q
  · obtain ⟨ho', _, g2⟩ := R.at_ k a o e1 q
    rw [← R.len]; exact g2.is_under
  · exact Ob.und_of q
theorem HR.shut {H1 : Hp} {hp1 : Hs} (R : HR n ι H hp) (R1 : HR n ι1 H1 hp1) (hl : ι <+: ι1) (h : SL.shut hp.length (hp1.take hp.length) hp = true) (hz : hp.length ≤ hp1.length) : HR n ι H1 (hp1.take hp.length) :=
  ⟨by rw [List.length_take, R.len]; omega, R.nd, fun k a o e1 e2 => R.old R1 hl (R.len ▸ Cut.pre hl) h e1 e2⟩
theorem pre_new {k : Nat} {a : Addr} (hl : ι <+: ι1) (nd : ι1.Nodup) (e : ι1[k]? = some a) (hk : ι.length ≤ k) : a ∉ ι := fun hm => by
  obtain ⟨j, hj, q⟩ := List.getElem_of_mem hm
  have e1 : ι1[j]? = some a := pre_get hl (by rw [List.getElem?_eq_getElem hj, q])
  obtain ⟨l1, g1⟩ := List.getElem?_eq_some_iff.mp e1
  obtain ⟨l2, g2⟩ := List.getElem?_eq_some_iff.mp e
  have := (List.getElem_inj nd).mp (g1.trans g2.symm)
  omega
/-- the reading of a def's end -/
theorem Af.ended {E : Nat → Wv → Hs → List Addr → Hp → Prop} {md : Md} {r : Rz Wv} {Q : VK} (R : HR n ι H hp) (A : Af n (VR n) ι H (r.bind fun w h1 => ended md hp.length hp w h1) Q E) : Af n (VR n) ι H r Q E := by
  cases r with
  | bad => exact A
  | exc c w hp1 => exact A
  | ok w hp1 =>
    intro v ι1 H1 F1 R1 V1
    have F : Fr ι H ι H1 := ⟨List.prefix_refl _, fun _ h h' => absurd h h', F1.keep⟩
    cases md with
    | «open» => exact A v ι1 H1 F1 R1 V1
    | cold =>
      simp only [Rz.bind_ok, SL.ended] at A
      split at A
      · rename_i w' q
        split at A
        · rename_i hc
          refine A v ι H1 F (R.shut R1 F1.pre hc.2 hc.1) (frz_vr (frzC_frees R1 (fun a h => F1.pre.subset h) (fun k a e hk => pre_new F1.pre R1.nd e ?_) _) V1 _ q)
          rw [R.len]; simpa using hk
        · exact A.elim
      · exact A.elim
    | fresh =>
      simp only [Rz.bind_ok, SL.ended] at A
      split at A
      · rename_i k
        split at A
        · exact A.elim
        · rename_i hk
          split at A
          · rename_i ws e
            split at A
            · rename_i us q
              split at A
              · rename_i hc
                cases V1 with
                | @ref _ a ha =>
                  obtain ⟨vs, g1, g2⟩ := R1.lstAt ha e
                  have hna : a ∉ ι := pre_new F1.pre R1.nd ha (by rw [R.len]; omega)
                  have R2 := R.shut R1 F1.pre hc.2 hc.1
                  have fr : VRs n (ι ++ [a]) H1 vs us := frzs_vr (frzC_frees R1 (fun b h => by
                      rcases List.mem_append.mp h with z | z
                      · exact F1.pre.subset z
                      · rw [List.mem_singleton.mp z]; exact List.mem_of_getElem? ha) (fun j b eb hj => fun hm => by
                        simp only [Bool.or_eq_false_iff, decide_eq_false_iff_not] at hj
                        rcases List.mem_append.mp hm with z | z
                        · exact pre_new F1.pre R1.nd eb (by rw [R.len]; omega) z
                        · rw [List.mem_singleton.mp z] at eb
                          obtain ⟨l1, y1⟩ := List.getElem?_eq_some_iff.mp eb
                          obtain ⟨l2, y2⟩ := List.getElem?_eq_some_iff.mp ha
                          exact hj.2 ((List.getElem_inj R1.nd).mp (y1.trans y2.symm))) _) g2 _ q
                  have F2 : Fr ι H (ι ++ [a]) H1 := by
                    refine ⟨⟨[a], rfl⟩, fun b hb hn => ?_, F1.keep⟩
                    rcases List.mem_append.mp hb with z | z
                    · exact absurd z hn
                    · rw [List.mem_singleton.mp z]
                      exact F1.new a (List.mem_of_getElem? ha) hna
                  have hlen : (hp1.take hp.length).length = ι.length := by rw [List.length_take, R.len]; omega
                  have hcut : Cut hp.length ι1 (ι ++ [a]) := by
                    refine ⟨fun b h => ?_, fun j b hj eb => ?_⟩
                    · rcases List.mem_append.mp h with z | z
                      · exact F1.pre.subset z
                      · rw [List.mem_singleton.mp z]; exact List.mem_of_getElem? ha
                    · rw [← R.len] at hj
                      rw [List.getElem?_append_left hj]
                      exact (Cut.pre F1.pre).low j b hj eb
                  refine A (.ref a) (ι ++ [a]) H1 F2 ⟨by simp [hlen], ?_, fun j b o e1 e2 => ?_⟩ (.ref (by rw [← R.len, List.getElem?_append_right (Nat.le_refl _), Nat.sub_self]; rfl))
                  · rw [List.nodup_append]
                    refine ⟨R.nd, by simp, fun x hx y hy => ?_⟩
                    rw [List.mem_singleton.mp hy]
                    exact fun e => hna (e ▸ hx)
                  · by_cases hj : j < ι.length
                    · rw [List.getElem?_append_left hj] at e1
                      rw [List.getElem?_append_left (by rw [hlen]; exact hj)] at e2
                      exact R.old R1 F1.pre hcut hc.2 e1 e2
                    · have hj' : j = ι.length := by
                        have := (List.getElem?_eq_some_iff.mp e1).1
                        simp at this; omega
                      subst hj'
                      rw [List.getElem?_append_right (Nat.le_refl _), Nat.sub_self] at e1
                      rw [List.getElem?_append_right (by rw [hlen]; exact Nat.le_refl _), hlen, Nat.sub_self] at e2
                      simp only [List.getElem?_cons_zero, Option.some.injEq] at e1 e2
                      subst e1 e2
                      exact ⟨_, g1, .lst fr⟩
              · exact A.elim
            · exact A.elim
          · exact A.elim
      · exact A.elim
end
end SL

set_option maxRecDepth 100000
set_option maxHeartbeats 1000000
/-! Lambdas: x(a), x a lambda. -/
namespace SL
open PySem L2 PyProof.Rows
set_option autoImplicit false

/-- all is as it was but for objects that are known whole -/
def Kp (H H' : Hp) : Prop := ∀ a o, H a = some o → (∀ co, o ≠ .frz co LamU) → H' a = some o
theorem frz_ne {o : HO} (h : ∀ φ, o ≠ .ext φ) (u : Obj) : ∀ co, HO.frz u o ≠ .frz co LamU := fun co z => by
  injection z with _ z
  exact h _ z
section
variable {n : Nam} {ι : List Addr} {H H' : Hp} {hp : Hs} {X : Cx} {P : Wd} {W : Wx}
theorem Rd.kp (k : Kp H H') {a : Addr} {u : HO} (hu : ∀ φ, u ≠ .ext φ) (hf : ∀ co v, u ≠ .frz co v) (h : Rd H a u) : Rd H' a u := by
  rcases h with h | ⟨o, h⟩
  · exact .inl (k _ _ h fun co => hf co _)
  · exact .inr ⟨o, k _ _ h (frz_ne hu o)⟩
theorem Kp.tup (k : Kp H H') {a : Addr} {xs : List V} (h : TupAt n.K ι H a xs) : TupAt n.K ι H' a xs := h.imp (fun h => ⟨Rd.kp k (fun _ z => nomatch z) (fun _ _ z => nomatch z) h.1, h.2⟩) fun h => h
theorem Kp.lst (k : Kp H H') {a : Addr} {xs : List V} (h : LstAt n.K ι H a xs) : LstAt n.K ι H' a xs := h.imp (fun h => ⟨Rd.kp k (fun _ z => nomatch z) (fun _ _ z => nomatch z) h.1, h.2⟩) fun h => h
theorem Kp.ins (k : Kp H H') {a C dx : Addr} {fs : List (Str × V)} (h : H a = some (.ins C dx fs)) : H' a = some (.ins C dx fs) := k _ _ h fun _ z => nomatch z
theorem Kp.dic (k : Kp H H') {a : Addr} {kvs : List (Key × V)} (h : Rd H a (.dK kvs)) : Rd H' a (.dK kvs) := Rd.kp k (fun _ z => nomatch z) (fun _ _ z => nomatch z) h
theorem Kp.cod (k : Kp H H') {a : Addr} {q : Str} (h : H a = some (LamX.CodeO a q)) : H' a = some (LamX.CodeO a q) := k _ _ h fun _ z => nomatch z
mutual
theorem VR.kp (k : Kp H H') : ∀ {v : V} {w : Wv}, VR n ι H v w → VR n ι H' v w
  | _, _, .non => .non
  | _, _, .bl b => .bl b
  | _, _, .int i => .int i
  | _, _, .str x => .str x
  | _, _, .tup h hs => .tup (k.tup h) (VRs.kp k hs)
  | _, _, .lst h hs => .lst (k.lst h) (VRs.kp k hs)
  | _, _, .ins h hn hf => .ins (k.ins h) hn (VRf.kp k hf)
  | _, _, .ref h => .ref h
  | _, _, .dic h hn hd => .dic (k.dic h) hn (VRd.kp k hd)
theorem VRs.kp (k : Kp H H') : ∀ {v : List V} {w : List Wv}, VRs n ι H v w → VRs n ι H' v w
  | _, _, .nil => .nil
  | _, _, .cons h t => .cons (VR.kp k h) (VRs.kp k t)
theorem VRf.kp (k : Kp H H') : ∀ {v : List (Str × V)} {w : List (Nat × Wv)}, VRf n ι H v w → VRf n ι H' v w
  | _, _, .nil => .nil
  | _, _, .cons h t => .cons (VR.kp k h) (VRf.kp k t)
theorem VRd.kp (k : Kp H H') : ∀ {v : List (Key × V)} {w : List (Wv × Wv)}, VRd n ι H v w → VRd n ι H' v w
  | _, _, .nil => .nil
  | _, _, .cons h t => .cons (VR.kp k h) (VRd.kp k t)
end
theorem VRn.kp (k : Kp H H') : ∀ {xs : List (NestedKey × Addr × Value)} {ws : List (Wv × Wv)}, VRn n ι H xs ws → VRn n ι H' xs ws
  | _, _, .nil => .nil
  | _, _, .cons a b c d e f g t => .cons (VR.kp k a) b c d e (VR.kp k f) g (VRn.kp k t)
/-- a cell that holds no lambda -/
theorem OR.kp (k : Kp H H') {a : Addr} {ho : HO} {o : Ob} (h : OR n ι H a ho o) (no : ∀ j, o ≠ .fn j) : OR n ι H' a ho o := by
  cases h with
  | lst h => exact .lst (h.kp k)
  | ins h => exact .ins (h.kp k)
  | dic h => exact .dic (h.kp k)
  | dcn h => exact .dcn (h.kp k)
  | fn h => exact absurd rfl (no _)
  | tab h1 h2 h3 => exact .tab h1 h2 fun pos cv e => let ⟨c, g1, g2, g3⟩ := h3 pos cv e; ⟨c, g1, k.cod g2, g3⟩

/-! ### the lambda's own body -/
theorem lam_bind (y : Str) (q : Str) (q1 : Pos) (body : Expr) (scope : Scope) (cl : List (Str × Addr)) (pm cv ctv : Value) (u : Value) :
   bindArgs (PySem.W.kla_fn "<lambda>" q ⟨[], [⟨y, none, q1⟩], none, [], [], none, []⟩ body scope cl pm cv ctv) ⟨[u], []⟩ = pure [(y, u)] := by
  have h : (y == y) = true := beq_self_eq_true y
  unfold bindArgs
  simp [seqItems?]
  rfl
def ers (H : Hp) (c : Addr) : Hp := fun b => if b = c then none else H b
theorem ers_ne {H : Hp} {b c : Addr} (h : b ≠ c) : ers H c b = H b := by unfold ers; rw [if_neg h]
theorem ers_at {H : Hp} {c : Addr} : ers H c c = none := by unfold ers; rw [if_pos rfl]
theorem ers_kp {H : Hp} {c : Addr} {co : Obj} (h : H c = some (.frz co LamU)) : Kp H (ers H c) := fun a o e no => by
  rw [ers_ne fun z => by rw [z, h] at e; exact no co (Option.some.inj e).symm]
  exact e
theorem ers_none {H : Hp} {b c : Addr} (h : H b = none) : ers H c b = none := by
  by_cases e : b = c
  · rw [e, ers_at]
  · rw [ers_ne e]; exact h
theorem ers_some {H : Hp} {b c : Addr} {o : HO} (h : ers H c b = some o) : H b = some o ∧ b ≠ c := by
  by_cases e : b = c
  · rw [e, ers_at] at h; cases h
  · rw [ers_ne e] at h; exact ⟨h, e⟩
theorem ers_hok {P : Program} {w : World} {h : Heap} {c : Addr} {co : Obj} (hc : H c = some (.frz co LamU)) (x : HOk P w H h) : HOk P w (ers H c) h := fun b u e => by
  obtain ⟨e1, e2⟩ := ers_some e
  refine (x b u e1).stay (fun _ _ _ q => q) (fun d q => ?_) fun d xs q => ?_
  · exact ers_kp hc _ _ q fun _ z => nomatch z
  · exact ers_kp hc _ _ q fun _ z => nomatch z
/-- the context of the lambda's body, entered at s -/
def appCx (X : Cx) (A : Around) (outer : List Env) (s : Shared) (H : Hp) (q : Str) (scope : Scope) (d y : Str) (c f c' : Addr) : Cx where
  prog := X.prog
  w := X.w
  K := X.K
  mg := X.mg
  base := X.base
  A := A.deeper (PySem.W.envX q scope s.heap.objs.size f (.ref c') [(d, c)])
  N := [y, d]
  s_0 := s
  H_0 := H
  env := PySem.W.envX q scope s.heap.objs.size f (.ref c') [(d, c)]
  outer := outer
  stack := PySem.W.envX q scope s.heap.objs.size f (.ref c') [(d, c)] :: outer
  ex := []
  fn := fun _ => false
  calm := true
  pn := []
  xe := fun _ _ => False
theorem app_start {s : Shared} {A : Around} {outer : List Env} {q : Str} {params : Arguments} {body : Expr} {scope : Scope} {d y : Str} {c a f c' : Addr} {h₁ : Heap} {tk : Nat} {v : V} {u : Value}
    (L : LamSh params body scope d y) (e0 : Env0 X.prog X.w X.K X.mg X.base A outer s H) (hd : A.handled = none) (hc : s.heap.IsCell c (some (.ref a))) (hn : H c = none) (ru : RelV v u)
    (hns : h₁.Ns s.heap.objs.size fun x => ([(y, u)] : List (Str × Value)).reverse.lookup x) (kp : ∀ b o, s.heap.get? b = some o → h₁.get? b = some o) :
    Inv (appCx X A outer s H q scope d y c f c') [] [some v, some (.ref a)] H { s with heap := h₁, toks := tk } := by
  obtain ⟨q1, q2, q3, q4, rfl, rfl, rfl, hdy, -⟩ := L
  have noA : ∀ b : Addr, b ∉ (appCx X A outer s H q ⟨.function, [(y, .local), (d, .free)], false, false, []⟩ d y c f c').ex := fun b z => absurd (show b ∈ ([] : List Addr) from z) (by simp)
  have cl : ∀ {x c2}, ([(d, c)] : List (Str × Addr)).lookup x = some c2 → x = d ∧ c2 = c := fun {x c2} e => by
    by_cases h : x = d
    · subst h
      rw [List.lookup_cons_self] at e
      cases e
      exact ⟨rfl, rfl⟩
    · simp only [List.lookup, beq_eq_false_iff_ne.mpr h] at e
      cases e
  have kd : ([(y, NameKind.local), (d, .free)] : List (Str × NameKind)).lookup d = some .free := by
    simp only [List.lookup, beq_eq_false_iff_ne.mpr hdy, beq_self_eq_true]
  have ky : ([(y, NameKind.local), (d, .free)] : List (Str × NameKind)).lookup y = some .local := List.lookup_cons_self
  refine ⟨⟨e0.mod, rfl, rfl, rfl, Nat.le_refl _, fun x z c2 e1 e2 => (cl e1).1.trans (cl e2).1.symm, fun x hx => ?_, fun x c2 z _ => ?_, fun _ => hd, Around.frames_deeper e0.frames, .inr ⟨rfl, rfl⟩, fun b z => absurd z (noA b), e0.bs, e0.bsz, fun b _ _ => noA b,
      fun b z => absurd z (noA b), e0.funs, e0.frf⟩,
    rfl, e0.bare, Un.kept kp, ⟨_, hns, fun i x v' e1 e2 e3 => ?_⟩, fun x c2 e => ?_, e0.hok.fresh (Nat.le_refl _), fun x c2 e => ?_, fun q hq => absurd (show q ∈ ([] : List (Addr × Obj)) ++ [] from hq) (by simp), e0.hok.kept kp, rfl⟩
  · have hx : ([(y, NameKind.local), (d, .free)] : List (Str × NameKind)).lookup x = some .cell ∨ ([(y, NameKind.local), (d, .free)] : List (Str × NameKind)).lookup x = some .free := hx
    by_cases h1 : x = y
    · subst h1
      rw [ky] at hx
      rcases hx with z | z <;> cases z
    · by_cases h2 : x = d
      · subst h2
        exact ⟨c, List.lookup_cons_self⟩
      · simp only [List.lookup, beq_eq_false_iff_ne.mpr h1, beq_eq_false_iff_ne.mpr h2] at hx
        rcases hx with z | z <;> cases z
  · have z : false = true := z
    cases z
  · match i, e1, e2 with
    | 0, e1, e2 =>
      have e1 : some y = some x := e1
      have e2 : some (some v) = some (some v') := e2
      cases e1
      cases e2
      exact ⟨u, ru, .inl ⟨ky, by simp⟩⟩
    | 1, e1, e2 =>
      have e1 : some d = some x := e1
      have e2 : some (some (V.ref a)) = some (some v') := e2
      cases e1
      cases e2
      exact ⟨.ref a, rfl, .inr ⟨.inr kd, c, List.lookup_cons_self, hc.keeps kp⟩⟩
    | i + 2, e1, e2 =>
      have e1 : ([] : List Str)[i]? = some x := e1
      simp at e1
  · obtain ⟨-, rfl⟩ := cl e
    exact ⟨_, hc.keeps kp⟩
  · obtain ⟨-, rfl⟩ := cl e
    exact hn
/-- d[y] -/
theorem ix_fn {Y : Cx} (hK : KW Y n) (hu : Y.A.units + 64 < cLine) {a : Addr} {xs : List (NestedKey × Addr × Value)} {kvs : List (Wv × Wv)} {w0 : Wv} {b : Wv} :
    IxR Y (fun x y H1 Q => x = .ref a ∧ H1 a = some (.ext (RawN n.w a xs)) ∧ VRn n ι H1 xs kvs ∧ VR n ι H1 y b ∧ keyOk b = true ∧ valW kvs b = some w0 ∧ ∀ v', VR n ι H1 v' w0 → Q v' H1) := by
  intro value slice pins s σ H x y v u Q I rx ry ⟨ex, h1, h3, vb, ko, hv, q⟩ hs
  subst ex
  cases rx
  obtain ⟨ws, d, rfl, e2, e3, e4⟩ := keyOk_of ko
  obtain ⟨_, hd, dd⟩ := n_dict hK I h1 h3
  cases vb with
  | @tup c _ _ g1 g2 =>
    cases ry
    rcases h3.val rfl e2 e3 with ⟨z1, z2⟩ | ⟨w, b', u', v', z1, z2, z3, z4⟩
    · rw [z1] at hv; cases hv
    · rw [z1] at hv
      cases hv
      refine tail_any dd.typeIs PySem.F.slot_dict_getitem.lookup (wpAny_getItem_heap (kind_room2 (by omega)) (n_key hK I (.tup g1 g2) e2 e3 e4) dd z2 ⟨v', H, I.tok _, z4, q v' z3⟩) hs
/-- the lambda is called: u is its one argument -/
theorem app_run {pins : List (Addr × Obj)} {σ : L2.St} {s : Shared} {Q : VK} {E : Nat → Wv → Hs → List Addr → Hp → Prop} {f : Addr} {kf k : Nat} {v : V} {b : Wv} {u : Value} (hK : KW X n) (hc : X.calm = true) (hr : Room 1 X.A) (I : Inv X pins σ H s) (R : HR n ι H hp) (hf : ι[kf]? = some f) (ef : hp[kf]? = some (.fn k))
    (vb : VR n ι H v b) (ru : RelV v u) (A : Af n (VR n) ι H (subN (.ref k) b hp) Q E) : wpAny (model X.prog X.w) X.A (call (.ref f) [u]) (EP X pins σ Q) X.xe s := by
  obtain ⟨ho, e1, e2⟩ := R.at_ kf f _ hf ef
  cases e2 with
  | @fn fo _ F =>
    obtain ⟨q, params, body, scope, pm, c', ctv, d, y, c, a, co, rfl, L, g3, g4, g5, g6, g7, g8⟩ := F
    simp only [subN] at A
    split at A
    · rename_i kvs qd
      split at A
      · rename_i ko
        split at A
        · rename_i w0 hv
          obtain ⟨ho2, z1, z2⟩ := R.at_ k a _ g8 qd
          cases z2 with
          | @dcn xs _ h3 =>
            obtain ⟨of1, _⟩ := I.hok f _ e1
            obtain ⟨oc1, _⟩ := I.hok c _ g5
            obtain ⟨⟨oc, vs, t, hoc, hdc, hvc⟩, _, _⟩ := I.hok c' _ g3
            have e0 : Env0 X.prog X.w X.K X.mg X.base X.A X.stack s (ers H c) := ⟨I.env0.frames, I.env0.mod, fun b o e => ⟨(I.env0.bs b o e).1, ers_none (I.env0.bs b o e).2⟩, I.env0.bsz, I.env0.funs, fun b hb => ers_none (I.env0.frf b hb), ers_hok g5 I.hok, I.env0.bare⟩
            have ac : a ≠ c := fun z => by rw [z, g5] at z1; cases z1
            have kpE : Kp H (ers H c) := ers_kp g5
            have kpB : Kp (ers H c) H := fun b o e _ => (ers_some e).1
            have L' := L
            obtain ⟨q1, q2, q3, q4, rfl, rfl, rfl, hdy, l1, l2, l3, l4⟩ := L
            have kd : ([(y, NameKind.local), (d, .free)] : List (Str × NameKind)).lookup d = some .free := by
              simp only [List.lookup, beq_eq_false_iff_ne.mpr hdy, beq_self_eq_true]
            have ky : ([(y, NameKind.local), (d, .free)] : List (Str × NameKind)).lookup y = some .local := List.lookup_cons_self
            have rc : codeAny (model X.prog X.w) X.A (.call (.ref f) ⟨[u], []⟩) (CR (fun _ _ _ _ _ _ => False) X.stack X.prog X.w (ers H c) s (fun v' H2 => H2 = ers H c ∧ Q v' H) fun _ _ _ => False) s := by
              refine PySem.W.kla_callFunE hr.depth of1 rfl rfl rfl rfl ⟨c', oc, vs, t, rfl, hoc, hdc, hvc⟩ ?_
              refine wpAny_of_eq (a := [(y, u)]) (lam_bind _ _ _ _ _ _ _ _ _ _) ?_
              refine wpAny_newFunctionEnv (fun x hx => ?_) (fun x hx => ?_) (fun h₁ hns hsb => ⟨I.nolimit.fresh _ hsb, ?_⟩) rfl
              · simp only [List.mem_cons, List.not_mem_nil, or_false] at hx
                rcases hx with rfl | rfl <;> (intro z; cases z)
              · simp only [List.mem_cons, List.not_mem_nil, or_false] at hx
                subst hx
                exact ky
              have kp : ∀ b o, s.heap.get? b = some o → h₁.get? b = some o := fun b o e => hsb.extBut b o (Nat.ne_of_lt (Heap.lt_size e)) (Heap.get?_push_of_some _ e)
              have J := app_start (X := X) (q := q) (f := f) (c' := c') (tk := s.toks + ([(y, u)] : List (Str × Value)).length) L' e0 (I.ok.hd hc) ⟨co, oc1, g7⟩ ers_at ru hns kp
              have hKY : KW (appCx X X.A X.stack s (ers H c) q ⟨.function, [(y, .local), (d, .free)], false, false, []⟩ d y c f c') n := ⟨hK.K, hK.w⟩
              have hu : (appCx X X.A X.stack s (ers H c) q ⟨.function, [(y, .local), (d, .free)], false, false, []⟩ d y c f c').A.units + 64 < cLine := (hr.deeper (k := 0) _).units
              have B := pe_ix (pos := q4) (ix_fn (ι := ι) (xs := xs) (kvs := kvs) (w0 := w0) (b := b) (a := a) hKY hu) (pe_var (X := appCx X X.A X.stack s (ers H c) q ⟨.function, [(y, .local), (d, .free)], false, false, []⟩ d y c f c') (i := 1) (x := d) (pos := q2) rfl (.inr (.inr kd)) l1 l2)
                (pe_var (X := appCx X X.A X.stack s (ers H c) q ⟨.function, [(y, .local), (d, .free)], false, false, []⟩ d y c f c') (i := 0) (x := y) (pos := q3) rfl (.inl ky) l3 l4) (plain_ix rfl)
              refine PySem.W.kla_codeExpr (wpAny_mono (B.run [] _ _ (ers H c) (fun v' H2 => H2 = ers H c ∧ Q v' H) J ⟨.ref a, rfl, v, rfl, rfl, ?_, h3.kp kpE, vb.kp kpE, ko, hv, fun v' hv' => ⟨rfl, A.here R (hv'.kp kpB)⟩⟩) (fun v' s' hq => ?_) fun e s' hq => hq.elim)
              · rw [ers_ne ac]; exact z1
              · obtain ⟨w', H', J', rv, q⟩ := hq
                exact ⟨w', H', J'.os, J'.bare, J'.base, J'.hok, rv, q⟩
            refine wpAny_call (codeAny_mono rc fun r s' hq => ?_)
            cases r with
            | error e => exact False.elim hq
            | ok fl =>
              cases fl with
              | ret u' =>
                obtain ⟨v', H2, os, bare, un, hok, rv, rfl, q⟩ := hq
                have ncf : c ∉ frs X.stack := fun z => by rw [I.stkFree c z] at g5; cases g5
                have hc2 : s'.heap.get? c = some co := un.keep c co oc1 ers_at ncf (by simp)
                refine I.after ⟨v', H, os, bare, ⟨fun b o e nb hb hx => un.keep b o e (ers_none nb) hb hx, fun b o e nb hb hx => un.slot b o e (ers_none nb) hb hx, fun b o e nb hx => nb, un.there, fun b xs e => e, fun b o u e => e, fun b ps e => ⟨#[], by rw [e]; simp⟩⟩, fun b o e => ?_, rv, q⟩
                by_cases hb : b = c
                · subst hb
                  rw [g5] at e
                  cases e
                  exact ⟨hc2, trivial, ⟨co, hc2⟩, fun _ _ _ _ => trivial⟩
                · refine (hok b o (by rw [ers_ne hb]; exact e)).stay (fun _ _ _ q => q) (fun d q => (ers_some q).1) fun d xs q => (ers_some q).1
              | next => exact False.elim hq
              | brk => exact False.elim hq
              | cont => exact False.elim hq
        · exact A.elim
      · exact A.elim
    · exact A.elim
end
end SL

set_option maxRecDepth 100000
set_option maxHeartbeats 2000000
/-! Lambdas: x(a) in the text, o.m(.., lambda y: d[y]). -/
namespace SL
open PySem L2 PyProof.Rows
set_option autoImplicit false
section
variable {n : Nam} {ι : List Addr} {H : Hp} {hp : Hs} {X : Cx} {P : Wd} {W : Wx} {V' : WX}
theorem g_app {i : Nat} {x : Str} {a : Expr} {y : Ex} {p pos : Pos} (hK : KW X n) (hc : X.calm = true) (hr : Room 1 X.A) (hN : X.N[i]? = some x) (hv : Vis X.env.scope x) (hd : (x == ("__debug__" : Str)) = false) (hcd : (x == ("__classdict__" : Str)) = false) (ha : PE X a (G n W P y))
    (hs : starEach [a] X.env = [(false, eval a X.env)]) : PE X (.Call (.Name x p) [a] [] pos) (G n W P (.app i y)) := by
  refine ⟨fun pins s σ H Q I ⟨ι, e, hp, S, A⟩ => ?_⟩
  simp only [ev] at A
  split at A
  · rename_i kf h
    obtain ⟨v, h1, h2⟩ := S.at_ i _ h
    cases h2 with
    | @ref _ f hf =>
      refine wpAny_Call_Name_kw (thn ((pe_var (pos := p) (i := i) hN hv hd hcd).run pins s σ H (fun v H1 => v = .ref f ∧ H1 = H) I ⟨_, h1, rfl, rfl⟩) fun u s1 ⟨v, H1, I1, r1, q1⟩ => ?_)
      obtain ⟨ev, eH⟩ := q1
      subst ev eH
      obtain rfl : u = Value.ref f := r1
      rw [hs]
      show wpAny _ _ (callWith pos (.ref f) [] [(false, eval a X.env)] []) _ _ s1
      refine PySem.W.callWith_of (P := PySem.W.FnAt f) (by rfl) PySem.W.keeps_F (Calls.evalArgs_plain (Calls.spliced_cons (thn (ha.run pins s1 σ _ _ I1 ⟨ι, e, hp, S, Af.bind A⟩) fun u s2 ⟨w, H2, I2, r2, ι2, hp2, b, F2, R2, V2, A2⟩ => ?_)))
      refine Calls.spliced_nil ?_
      split at A2
      · rename_i k ek
        have hf2 := pre_get F2.pre hf
        obtain ⟨ho, e1, e2⟩ := R2.at_ kf f _ hf2 ek
        refine ⟨?_, app_run hK hc hr I2 R2 hf2 ek V2 r2 A2⟩
        cases e2 with
        | fn F =>
          obtain ⟨q, params, body, scope, pm, c', ctv, d, y, c, a, co, rfl, _⟩ := F
          obtain ⟨o1, _⟩ := I2.hok f _ e1
          exact ⟨_, _, _, _, o1⟩
      · exact A2.elim
  · exact A.elim

/-! ### the lambda is made -/
/-- one more thing is known -/
theorem HR.track (R : HR n ι H hp) {p : Addr} (hn : H p = none) (o : HO) : Fr ι H ι (upd H p o) ∧ HR n ι (upd H p o) hp := by
  have F : Fr ι H ι (upd H p o) := ⟨List.prefix_refl _, fun _ h h' => absurd h h', fun b u e hb => by rw [upd_ne (ne_of_none e hn)]; exact e⟩
  refine ⟨F, R.len, R.nd, fun k a o' e1 e2 => ?_⟩
  obtain ⟨ho, h1, h2⟩ := R.at_ k a o' e1 e2
  exact ⟨ho, by rw [upd_ne (ne_of_none h1 hn)]; exact h1, h2.mono F⟩
theorem lam_make3 {pins : List (Addr × Obj)} {σ : L2.St} {s : Shared} {c : Addr} {t : Nat} {params : Arguments} {body : Expr} {scope : Scope} {pos : Pos} {E : Value → Shared → Prop} {Q : Value → Shared → Prop} (I : Inv X pins σ H s) (R : HR n ι H hp) (TB : LamX.TabB X.base X.mg c (n.tA t)) (hcode : X.env.code = .ref c)
    (ht : hp[t]? = some (.tab t)) (hq : X.env.qual ++ "<lambda>" = n.tQ t) (hdef : defaultsOf params X.env = ([], [])) (hfree : ∀ y ∈ scope.names, y.2 = .free → ∃ c, X.env.cells.lookup y.1 = some c)
    (h : ∀ (f c' : Addr) (pm ctv : Value) (H1 : Hp) (s' : Shared), Inv X pins σ H1 s' → Fr ι H ι H1 → HR n ι H1 hp → s.heap.objs.size ≤ f →
      s'.heap.get? f = some (PySem.W.kla_obj "<lambda>" (n.tQ t) params body scope (cloFrom X.env.cells scope.names []) pm c' ctv) → H1 f = none → f ∉ frs X.stack → H1 c' = some (LamX.CodeO c' (n.tQ t)) → c' ∉ ι → Q (.ref f) s') :
    wpAny (model X.prog X.w) X.A (eval (.Lambda params body scope pos) X.env) Q E s := by
  obtain ⟨P, hP0⟩ : ∃ P, P = n.tA t := ⟨_, rfl⟩
  rw [← hP0] at TB
  have tl : t < ι.length := by rw [R.len]; exact (List.getElem?_eq_some_iff.mp ht).1
  obtain ⟨ho, e1, e2⟩ := R.at_ t _ _ (List.getElem?_eq_getElem tl) ht
  have em : ι[t] ∈ ι := List.getElem_mem tl
  have et : ι[t]? = some ι[t] := List.getElem?_eq_getElem tl
  generalize ι[t] = P' at e1 e2 em et
  cases e2 with
  | @tab ps _ hp1 htr ha =>
  rw [← hP0] at hp1
  subst hp1
  have hP : H P' = some (.tbl ps) := e1
  refine PySem.W.kla_eval hdef ?_
  have bP : s.heap.BuiltinsAt X.mg P' := TB.bm.keeps I.bk
  have hP' : s.heap.get? P' = some { cls := .none, data := .fields ps } := I.hok P' _ hP
  have nofr : ∀ f, s.heap.objs.size ≤ f → f ∉ frs X.stack := fun f hf z => by
    rcases List.mem_cons.mp (I.stkSub _ z) with e | e
    · have h1 := I.lt
      rw [← e] at h1
      exact Nat.lt_irrefl _ (Nat.lt_of_lt_of_le h1 hf)
    · exact I.nofs hf e
  rw [hq]
  cases hc : codeAmong pos ps.toList with
  | none =>
    refine PySem.W.kla_makeFunction (mg := X.mg) (c := c) (P := P') (ps := ps) (closure_ok hfree) I.ok.glob (I.mod.glob.keeps I.bk) hcode (TB.code.keeps I.bk) hP' htr hc TB.gP bP fun c' ctv h' tk hx hge hlt hrec htb => ?_
    obtain ⟨c2, oc, vs, tt, e2, hoc, hd, hv⟩ := hrec
    cases e2
    have hsz : s.heap.objs.size ≤ h'.objs.size := Nat.le_trans hge (Nat.le_of_lt hlt)
    have nC : H c' = none := I.hok.fresh hge
    have I1 := LamX.inv_table (t' := tk) (more := #[rawInt pos.line, rawInt pos.col, .ref c']) (h' := h'.push (PySem.W.kla_obj "<lambda>" (n.tQ t) params body scope (cloFrom X.env.cells scope.names []) ((X.mg "__name__").getD .none) c' ctv)) I hP
      (fun b o hb e => Heap.get?_push_of_some _ (hx b o hb e)) (Heap.get?_push_of_some _ htb) hge ⟨oc, vs, tt, Heap.get?_push_of_some _ hoc, hd, hv⟩
    have nP : P' ≠ c' := fun z => by rw [z, nC] at hP; cases hP
    have eL : (ps ++ #[rawInt pos.line, rawInt pos.col, .ref c']).toList = ps.toList ++ [rawInt pos.line, rawInt pos.col, .ref c'] := by simp
    obtain ⟨F0, R0⟩ := R.track nC (LamX.CodeO c' (n.tQ t))
    have nci : c' ∉ ι := R.fresh nC
    obtain ⟨F1, R1⟩ := R0.set et (ho := .tbl (ps ++ #[rawInt pos.line, rawInt pos.col, .ref c'])) (o := .tab t) fun F => OR.tab hP0 (by rw [eL]; exact PySem.TriplesOk_snoc _ _ _ _ htr) fun p' cv hcv => by
      rw [eL] at hcv
      rcases LamX.among_app _ htr hcv with z | z
      · obtain ⟨c0, g1, g2, g3⟩ := ha p' cv z
        exact ⟨c0, g1, F.keep _ _ (F0.keep _ _ g2 g3) g3, g3⟩
      · exact ⟨c', z, F.keep _ _ upd_same nci, nci⟩
    have eh : hp.set t (.tab t) = hp := by
      apply List.ext_getElem? fun k => ?_
      by_cases hk : k = t
      · subst hk
        rw [List.getElem?_set_self (List.getElem?_eq_some_iff.mp ht).1, ht]
      · rw [List.getElem?_set_ne (Ne.symm hk)]
    have eU : upd (upd H c' (LamX.CodeO c' (n.tQ t))) P' (.tbl (ps ++ #[rawInt pos.line, rawInt pos.col, .ref c'])) = upd (upd H P' (.tbl (ps ++ #[rawInt pos.line, rawInt pos.col, .ref c']))) c' (LamX.CodeO c' (n.tQ t)) := by
      funext b
      unfold upd
      by_cases h1 : b = P'
      · subst h1
        rw [if_pos rfl, if_neg nP, if_pos rfl]
      · rw [if_neg h1]
        split <;> rfl
    rw [eh, eU] at R1
    rw [eU] at F1
    refine h h'.objs.size c' ((X.mg "__name__").getD .none) ctv _ _ I1 (F0.trans F1) R1 hsz (Heap.get?_push_size _ rfl) ?_ (nofr _ hsz) upd_same nci
    have n1 : h'.objs.size ≠ c' := Nat.ne_of_gt hlt
    have n2 : h'.objs.size ≠ P' := Nat.ne_of_gt (Nat.lt_of_lt_of_le (Heap.lt_size hP') hsz)
    rw [upd_ne n1, upd_ne n2]
    exact I.hok.fresh hsz
  | some cv =>
    obtain ⟨c', e, hco, hci⟩ := ha pos cv hc
    subst e
    refine PySem.W.kla_makeFunctionHit (mg := X.mg) (c := c) (P := P') (ps := ps) (closure_ok hfree) I.ok.glob (I.mod.glob.keeps I.bk) hcode (TB.code.keeps I.bk) hP' htr hc bP fun ctv h' tk hx hsz => ?_
    have I1 : Inv X pins σ H { s with heap := h'.push (PySem.W.kla_obj "<lambda>" (n.tQ t) params body scope (cloFrom X.env.cells scope.names []) ((X.mg "__name__").getD .none) c' ctv), toks := tk } := I.kept fun b o e => Heap.get?_push_of_some _ (hx b o e)
    exact h h'.objs.size c' ((X.mg "__name__").getD .none) ctv H _ I1 (Fr.refl _ _) R hsz (Heap.get?_push_size _ rfl) (I.hok.fresh hsz) (nofr _ hsz) hco hci
/-- the method is called by the lambda, its own cells are let go -/
theorem lam_call {pins : List (Addr × Obj)} {σ : L2.St} {s : Shared} {e : Ev} {cc : Addr} {t d k fi kr : Nat} {fa : Addr} {params : Arguments} {body : Expr} {scope : Scope} {x y : Str} {pos : Pos} {Q : VK} {E : Nat → Wv → Hs → List Addr → Hp → Prop} {us : List Value} {vs : List V} {ws : List Wv}
    (F : FnIs X n P kr fi fa) (hr : Room kr X.A) (I : Inv X pins σ H s) (S : SR n ι H σ e hp) (TB : LamX.TabB X.base X.mg cc (n.tA t)) (hcode : X.env.code = .ref cc) (ht : hp[t]? = some (.tab t)) (hq : X.env.qual ++ "<lambda>" = n.tQ t)
    (L : LamSh params body scope x y) (hN : X.N[d]? = some x) (hx : X.env.scope.names.lookup x = some .cell) (hfn : X.fn x = true) (hd : e[d]? = some (some (.ref k))) (r : Vals vs us) (V : VRs n ι H vs ws)
    (A : Af n (VR n) ι H ((P.run fi (ws ++ [.ref hp.length]) (hp ++ [.fn k])).quiet.bind fun w h3 => ended .cold hp.length hp w h3) Q E) :
    wpAny (model X.prog X.w) X.A (eval (.Lambda params body scope pos) X.env) (fun v s' => X.K.In s'.heap ∧ wpAny (model X.prog X.w) X.A (call (.ref fa) (us ++ [v])) (EP X pins σ Q) X.xe s') X.xe s := by
  have L' := L
  obtain ⟨q1, q2, q3, q4, rfl, rfl, rfl, hdy, l1, l2, l3, l4⟩ := L
  have hk : X.env.kindOf x = some .cell := hx
  obtain ⟨c, hcl⟩ := I.ok.has x (.inl hk)
  refine lam_make3 I S.hr TB hcode ht hq rfl (fun z hz hzf => ?_) fun f c' pm ctv H1 s1 I1 F1 R1 hsz hfo hfn1 hfr hco hci => ⟨I1.kIn, ?_⟩
  · simp only [List.mem_cons, List.not_mem_nil, or_false] at hz
    rcases hz with rfl | rfl
    · cases hzf
    · exact ⟨c, hcl⟩
  have ecl : cloFrom X.env.cells [(y, NameKind.local), (x, .free)] [] = [(x, c)] := by
    simp [cloFrom, hcl]
  rw [ecl] at hfo
  -- the captured cell
  obtain ⟨v0, s0, w0⟩ := S.at_ d _ hd
  cases w0 with
  | @ref _ a ha =>
  obtain ⟨m, hn, hl⟩ := I1.loc
  obtain ⟨u0, ru0, lk⟩ := hl d x _ hN s0 (.inr (.inl hx))
  obtain rfl : u0 = Value.ref a := ru0
  rcases lk with ⟨z, _⟩ | ⟨_, c2, hc2, co, oc1, hcd⟩
  · rw [hk] at z; cases z
  rw [hcl] at hc2
  cases hc2
  have nc : H1 c = none := I1.freeC x c hcl
  have hcf : c ≠ f := fun z => by
    rw [z, hfo] at oc1
    cases oc1
    cases hcd
  have cge : X.s_0.heap.objs.size ≤ c := I1.ok.cab x c hfn hcl
  have nci : c ∉ ι := R1.fresh nc
  -- the callee's state
  obtain ⟨fo, hfoE⟩ : ∃ fo, fo = PySem.W.kla_obj "<lambda>" (n.tQ t) ⟨[], [⟨y, none, q1⟩], none, [], [], none, []⟩ (.Subscript (.Name x q2) (.Name y q3) q4) ⟨.function, [(y, .local), (x, .free)], false, false, []⟩ [(x, c)] pm c' ctv := ⟨_, rfl⟩
  rw [← hfoE] at hfo
  obtain ⟨Ft, Rt⟩ := R1.track nc (.frz co LamU)
  have nf2 : upd H1 c (.frz co LamU) f = none := by rw [upd_ne (Ne.symm hcf)]; exact hfn1
  have fc : FnC ι (upd H1 c (.frz co LamU)) k fo := ⟨n.tQ t, _, _, _, pm, c', ctv, x, y, c, a, co, hfoE, L', Ft.keep _ _ hco hci, hci, upd_same, nci, hcd, ha⟩
  obtain ⟨Fp, Rp⟩ := Rt.push nf2 (ho := .frz fo LamU) (o := .fn k) fun F => .fn (fc.mono F)
  obtain ⟨Hc, hHc⟩ : ∃ Hc, Hc = upd (upd H1 c (.frz co LamU)) f (.frz fo LamU) := ⟨_, rfl⟩
  rw [← hHc] at Fp Rp
  have Hcc : Hc c = some (.frz co LamU) := by rw [hHc, upd_ne hcf, upd_same]
  have Hcf : Hc f = some (.frz fo LamU) := by rw [hHc, upd_same]
  have Hne : ∀ b, b ≠ c → b ≠ f → Hc b = H1 b := fun b h1 h2 => by rw [hHc, upd_ne h2, upd_ne h1]
  have ncf : c ∉ frs X.stack := fun z => by
    rcases List.mem_cons.mp (I1.stkSub _ z) with e | e
    · exact I1.cne x c hcl e
    · obtain ⟨_, o, ho, _⟩ := I1.ok.funs.mem e
      exact Nat.lt_irrefl _ (Nat.lt_of_lt_of_le (Heap.lt_size ho) cge)
  have hokc : HOk X.prog X.w Hc s1.heap := fun b o e => by
    by_cases h1 : b = c
    · subst h1
      rw [Hcc] at e; cases e
      exact ⟨oc1, trivial, ⟨co, oc1⟩, fun _ _ _ _ => trivial⟩
    · by_cases h2 : b = f
      · subst h2
        rw [Hcf] at e; cases e
        exact ⟨hfo, trivial, ⟨fo, hfo⟩, fun _ _ _ _ => trivial⟩
      · rw [Hne b h1 h2] at e
        refine (I1.hok b o e).stay (fun _ _ _ q => q) (fun d q => ?_) fun d xs q => ?_
        · rw [Hne d (ne_of_none q nc) (ne_of_none q hfn1)]; exact q
        · rw [Hne d (ne_of_none q nc) (ne_of_none q hfn1)]; exact q
  have e0 : Env0 X.prog X.w X.K X.mg X.base X.A X.stack s1 Hc := by
    refine ⟨I1.env0.frames, I1.env0.mod, fun b o eb => ⟨(I1.env0.bs b o eb).1, ?_⟩, I1.env0.bsz, I1.env0.funs, fun b hb => ?_, hokc, I1.env0.bare⟩
    · have bl : b < X.s_0.heap.objs.size := Nat.lt_of_lt_of_le (Heap.lt_size eb) I1.ok.bsz
      have h1 : b ≠ c := fun z => by subst z; exact Nat.lt_irrefl _ (Nat.lt_of_lt_of_le bl cge)
      have h2 : b ≠ f := fun z => by subst z; exact Nat.lt_irrefl _ (Nat.lt_of_lt_of_le bl (Nat.le_trans I.sz hsz))
      rw [Hne b h1 h2]
      exact (I1.env0.bs b o eb).2
    · have h1 : b ≠ c := fun z => ncf (z ▸ hb)
      have h2 : b ≠ f := fun z => hfr (z ▸ hb)
      rw [Hne b h1 h2]
      exact I1.stkFree b hb
  -- what it tells
  cases hrun : P.run fi (ws ++ [.ref hp.length]) (hp ++ [.fn k]) with
  | bad => rw [hrun] at A; exact A.elim
  | exc _ _ _ => rw [hrun] at A; exact A.elim
  | ok w h3 =>
  rw [hrun] at A
  simp only [Rz.quiet, Rz.bind_ok, SL.ended] at A
  split at A
  · rename_i w' q
    split at A
    · rename_i hc
      obtain ⟨fd, ps, hb, ok⟩ := F.ok
      have rl : Vals (vs ++ [.ref f]) (us ++ [.ref f]) := Vals.append r (.cons rfl .nil)
      have VL : VRs n (ι ++ [f]) Hc (vs ++ [.ref f]) (ws ++ [.ref hp.length]) := (((V.mono F1).mono Ft).mono Fp).append (.cons (.ref (by rw [← R1.len, List.getElem?_append_right (Nat.le_refl _), Nat.sub_self]; rfl)) .nil)
      have sp : spW n P fi (vs ++ [.ref f]) Hc (fun v H2 => ∃ ι2, Fr (ι ++ [f]) Hc ι2 H2 ∧ HR n ι2 H2 h3 ∧ VR n ι2 H2 v w) (fun _ _ _ => False) := by
        refine ⟨ι ++ [f], hp ++ [.fn k], _, Rp, VL, ?_⟩
        rw [hrun]
        exact fun b ι2 H2 F2 R2 V2 => ⟨ι2, F2, R2, V2⟩
      have hl : (us ++ [Value.ref f]).length = ps.length := by rw [← rl.length]; exact ok.len _ _ _ _ sp
      have bnd := hb s1 (us ++ [.ref f]) I1.kIn (by rw [List.append_nil]; exact hl)
      rw [List.append_nil] at bnd
      refine wpAny_call (codeAny_mono (ok.run X.A X.stack s1 Hc ⟨us ++ [.ref f], []⟩ (us ++ [.ref f]) (vs ++ [.ref f]) _ _ hr e0 bnd rl sp) fun r2 s2 hq2 => ?_)
      cases r2 with
      | error ev =>
        obtain ⟨_, _, _, _, _, _, _, _, _, _, _, _, z⟩ := hq2
        exact z.elim
      | ok fl =>
        cases fl with
        | next => exact False.elim hq2
        | brk => exact False.elim hq2
        | cont => exact False.elim hq2
        | ret u =>
          obtain ⟨v, H2, os, bare, un, hok2, rv, ι2, F2, R2, V2⟩ := hq2
          have H2c : H2 c = some (.frz co LamU) := un.frzs c co _ Hcc
          have H2f : H2 f = some (.frz fo LamU) := un.frzs f fo _ Hcf
          obtain ⟨H3, hH3⟩ : ∃ H3, H3 = ers (ers H2 c) f := ⟨_, rfl⟩
          have H3ne : ∀ b, b ≠ c → b ≠ f → H3 b = H2 b := fun b h1 h2 => by rw [hH3, ers_ne h2, ers_ne h1]
          have H3c : H3 c = none := by rw [hH3]; exact ers_none ers_at
          have H3f : H3 f = none := by rw [hH3]; exact ers_at
          have H3s : ∀ {b o}, H3 b = some o → H2 b = some o ∧ b ≠ c ∧ b ≠ f := fun {b o} eb => by
            rw [hH3] at eb
            obtain ⟨g1, g2⟩ := ers_some eb
            obtain ⟨g3, g4⟩ := ers_some g1
            exact ⟨g3, g4, g2⟩
          have kp : Kp H2 H3 := fun b o eb no => by
            have h1 : b ≠ c := fun z => by rw [z, H2c] at eb; exact no co (Option.some.inj eb).symm
            have h2 : b ≠ f := fun z => by rw [z, H2f] at eb; exact no fo (Option.some.inj eb).symm
            rw [H3ne b h1 h2]; exact eb
          have n1 : ∀ {b o}, H1 b = some o → b ≠ c ∧ b ≠ f := fun {b o} eb => ⟨ne_of_none eb nc, ne_of_none eb hfn1⟩
          -- from H1 to H3
          have pre2 : ι <+: ι2 := (List.prefix_append ι [f]).trans F2.pre
          have F3 : Fr ι H1 ι H3 := ⟨List.prefix_refl _, fun _ h h' => absurd h h', fun b o eb hb => by
            obtain ⟨g1, g2⟩ := n1 eb
            rw [H3ne b g1 g2]
            refine F2.keep b o (by rw [Hne b g1 g2]; exact eb) fun z => ?_
            rcases List.mem_append.mp z with z | z
            · exact hb z
            · exact g2 (List.mem_singleton.mp z)⟩
          have un3 : Un (frs X.stack) [] H1 H3 s1.heap s2.heap := by
            have at_c : s2.heap.get? c = some co := (hok2 c _ H2c).1
            have at_f : s2.heap.get? f = some fo := (hok2 f _ H2f).1
            refine ⟨fun b o eb nb hb hx => ?_, fun b o eb nb hb hx => ?_, fun b o eb nb hx => ?_, un.there, fun b xs eb => ?_, fun b o u eb => ?_, fun b ps eb => ?_⟩
            · by_cases h1 : b = c
              · subst h1; rw [oc1] at eb; cases eb; exact at_c
              · by_cases h2 : b = f
                · subst h2; rw [hfo] at eb; cases eb; exact at_f
                · exact un.keep b o eb (by rw [Hne b h1 h2]; exact nb) hb hx
            · have h1 : b ≠ c := fun z => ncf (z ▸ hb)
              have h2 : b ≠ f := fun z => hfr (z ▸ hb)
              exact un.slot b o eb (by rw [Hne b h1 h2]; exact nb) hb hx
            · by_cases h1 : b = c
              · subst h1; exact H3c
              · by_cases h2 : b = f
                · subst h2; exact H3f
                · rw [H3ne b h1 h2]
                  exact un.free b o eb (by rw [Hne b h1 h2]; exact nb) hx
            · obtain ⟨g1, g2⟩ := n1 eb
              rw [H3ne b g1 g2]
              exact un.tups b xs (by rw [Hne b g1 g2]; exact eb)
            · obtain ⟨g1, g2⟩ := n1 eb
              rw [H3ne b g1 g2]
              exact un.frzs b o u (by rw [Hne b g1 g2]; exact eb)
            · obtain ⟨g1, g2⟩ := n1 eb
              rw [H3ne b g1 g2]
              exact un.tbls b ps (by rw [Hne b g1 g2]; exact eb)
          have hok3 : HOk X.prog X.w H3 s2.heap := by
            rw [hH3]
            refine ers_hok (co := fo) ?_ (ers_hok H2c hok2)
            rw [ers_ne (Ne.symm hcf)]; exact H2f
          have R3 : HR n ι H3 (h3.take hp.length) := by
            have R22 := R1.shut R2 pre2 hc.2 hc.1
            refine ⟨R22.len, R22.nd, fun j b o g1 g2 => ?_⟩
            have bi : b ∈ ι := List.mem_of_getElem? g1
            have hbc : b ≠ c := fun z => nci (z ▸ bi)
            have hbf : b ≠ f := fun z => (R1.fresh hfn1) (z ▸ bi)
            obtain ⟨ho, g3, g4⟩ := R22.at_ j b o g1 g2
            by_cases hfo2 : ∃ kk, o = .fn kk
            · obtain ⟨kk, rfl⟩ := hfo2
              have sm : hp[j]? = some (.fn kk) := by
                rcases shut_at hc.2 g2 with z | z
                · exact z
                · cases z
              obtain ⟨ho1, z1, z2⟩ := R1.at_ j b _ g1 sm
              cases z2 with
              | @fn fo1 _ z3 =>
                exact ⟨.frz fo1 LamU, by rw [H3ne b hbc hbf]; exact un.frzs b fo1 _ (by rw [Hne b hbc hbf]; exact z1), .fn (z3.mono F3)⟩
            · exact ⟨ho, by rw [H3ne b hbc hbf]; exact g3, g4.kp kp fun kk z => hfo2 ⟨kk, z⟩⟩
          have V3 : VR n ι H3 v w' := by
            refine VR.kp kp (frz_vr (frzC_frees R2 (fun a h => pre2.subset h) (fun k a e hk => pre_new pre2 R2.nd e ?_) _) V2 _ q)
            rw [R1.len]; simpa using hk
          exact I1.after ⟨v, H3, os, bare, un3, hok3, rv, A v ι H3 (F1.trans F3) R3 V3⟩
    · exact A.elim
  · exact A.elim
/-- what a def's own lambda asks of the def -/
structure LamCx (X : Cx) (n : Nam) (t : Nat) : Prop where
  ex : ∃ cc, LamX.TabB X.base X.mg cc (n.tA t) ∧ X.env.code = .ref cc
  q : X.env.qual ++ "<lambda>" = n.tQ t
theorem g_methL0 {o : Expr} {x : Ex} {k m d t : Nat} {apos pos lpos : Pos} {pl : Sem Bool} {params : Arguments} {body : Expr} {scope : Scope} {z y : Str} (hK : KW X n) (hr : Room k X.A) (M : MethsOk X n P k) (LC : LamCx X n t) (ho : PE X o (G n (ofW n V') P x))
    (L : LamSh params body scope z y) (hN : X.N[d]? = some z) (hx : X.env.scope.names.lookup z = some .cell) (hfn : X.fn z = true)
    (ht : eval (.Call (.Attribute o (n.nm m) apos) [.Lambda params body scope lpos] [] pos) X.env = (do
      let ov ← eval o X.env
      standAt apos.atName
      let (f, first) ← holding [ov] (getMethod ov (n.nm m) pl)
      callWith pos f first (backTo pos (starEach [.Lambda params body scope lpos] X.env)) (backToKw pos (keywordEach [] X.env)))) :
    PE X (.Call (.Attribute o (n.nm m) apos) [.Lambda params body scope lpos] [] pos) (G n (ofW n V') P (.methL x m [] d t)) := by
  obtain ⟨cc, TB, hcode⟩ := LC.ex
  refine ⟨fun pins s σ H Q I ⟨ι, ee, hp, S, A⟩ => ?_⟩
  simp only [ev] at A
  refine PySem.W.methodCall_KW (pl := pl) (thn (ho.run pins s σ H _ I ⟨ι, ee, hp, S, Af.bind A⟩) fun u s1 h1 => ?_) ht
  obtain ⟨v, H1, I1, r, ι1, hp1, w, F1, R1, V1, A1⟩ := h1
  split at A1
  · rename_i c ws q
    split at A1
    · rename_i f q1 q2
      simp only [evs, Rz.bind_ok] at A1
      split at A1
      · rename_i kd hd
        split at A1
        · rename_i ht2
          obtain ⟨cl, a, mt, F⟩ := M c m f q1
          obtain ⟨p, dx, fs, rfl, g1, g2⟩ := getI_rel R1 V1 q
          cases r
          refine getmeth_ok I1 g1 (hK.K ▸ cl) (hK.K ▸ mt) (g2.none q2) ?_
          refine PySem.W.callWith_K (first := [.ref p]) (h₀ := X.base) I1.ok.mod.kin (hK.K ▸ mt.kp) ?_ rfl rfl
          refine Calls.spliced_cons (wpAny_mono (lam_call (us := [.ref p]) (vs := [.ref p]) (ws := [w]) F hr I1 (S.mono F1 R1) TB hcode ht2 LC.q L hN hx hfn hd (Paired.cons (show RelV (.ref p) (.ref p) from rfl) .nil) (.cons V1 .nil) A1) (fun v s' hq => Calls.spliced_nil hq) fun _ _ x => x)
        · exact A1.elim
      · exact A1.elim
    · exact A1.elim
  · exact A1.elim
theorem g_methL1 {o e : Expr} {x x1 : Ex} {k m d t : Nat} {apos pos lpos : Pos} {pl : Sem Bool} {params : Arguments} {body : Expr} {scope : Scope} {z y : Str} (hK : KW X n) (hr : Room k X.A) (M : MethsOk X n P k) (LC : LamCx X n t) (ho : PE X o (G n (ofW n V') P x))
    (he : PE X e (G n (ofW n V') P x1)) (L : LamSh params body scope z y) (hN : X.N[d]? = some z) (hx : X.env.scope.names.lookup z = some .cell) (hfn : X.fn z = true)
    (hst : starEach [e, .Lambda params body scope lpos] X.env = (false, eval e X.env) :: starEach [.Lambda params body scope lpos] X.env)
    (ht : eval (.Call (.Attribute o (n.nm m) apos) [e, .Lambda params body scope lpos] [] pos) X.env = (do
      let ov ← eval o X.env
      standAt apos.atName
      let (f, first) ← holding [ov] (getMethod ov (n.nm m) pl)
      callWith pos f first (backTo pos (starEach [e, .Lambda params body scope lpos] X.env)) (backToKw pos (keywordEach [] X.env)))) :
    PE X (.Call (.Attribute o (n.nm m) apos) [e, .Lambda params body scope lpos] [] pos) (G n (ofW n V') P (.methL x m [x1] d t)) := by
  obtain ⟨cc, TB, hcode⟩ := LC.ex
  refine ⟨fun pins s σ H Q I ⟨ι, ee, hp, S, A⟩ => ?_⟩
  simp only [ev] at A
  refine PySem.W.methodCall_KW (pl := pl) (thn (ho.run pins s σ H _ I ⟨ι, ee, hp, S, Af.bind A⟩) fun u s1 h1 => ?_) ht
  obtain ⟨v, H1, I1, r, ι1, hp1, w, F1, R1, V1, A1⟩ := h1
  split at A1
  · rename_i c ws q
    split at A1
    · rename_i f q1 q2
      simp only [evs, Rz.bind_assoc, Rz.bind_ok] at A1
      obtain ⟨cl, a, mt, F⟩ := M c m f q1
      obtain ⟨p, dx, fs, rfl, g1, g2⟩ := getI_rel R1 V1 q
      cases r
      refine getmeth_ok I1 g1 (hK.K ▸ cl) (hK.K ▸ mt) (g2.none q2) ?_
      refine PySem.W.callWith_K (first := [.ref p]) (h₀ := X.base) I1.ok.mod.kin (hK.K ▸ mt.kp) ?_ hst rfl
      rw [hst]
      show wpAny _ _ (spliced ((false, eval e X.env) :: backTo pos (starEach [.Lambda params body scope lpos] X.env))) _ _ s1
      refine Calls.spliced_cons (thn (he.run pins s1 σ H1 _ I1 ⟨ι1, ee, hp1, S.mono F1 R1, Af.bind A1⟩) fun u2 s2 h2 => ?_)
      obtain ⟨v2, H2, I2, r2, ι2, hp2, w2, F2, R2, V2, A2⟩ := h2
      split at A2
      · rename_i kd hd
        split at A2
        · rename_i ht2
          refine Calls.spliced_cons (wpAny_mono (lam_call (us := [.ref p, u2]) (vs := [.ref p, v2]) (ws := [w, w2]) F hr I2 ((S.mono F1 R1).mono F2 R2) TB hcode ht2 LC.q L hN hx hfn hd (Paired.cons (show RelV (.ref p) (.ref p) from rfl) (.cons r2 .nil)) (.cons (V1.mono F2) (.cons V2 .nil)) A2) (fun v s' hq => Calls.spliced_nil hq) fun _ _ x => x)
        · exact A2.elim
      · exact A2.elim
    · exact A1.elim
  · exact A1.elim
end
end SL

set_option maxRecDepth 100000
set_option maxHeartbeats 1000000
/-! Classes made, built-in functions, methods of lists, isinstance. -/
namespace SL
open PySem L2 PyProof.Rows
set_option autoImplicit false

section
variable {n : Nam} {ι : List Addr} {H : Hp} {hp : Hs} {W : Wx} {V' : WX} {X : Cx} {P : Wd}
/-- what is tracked elsewhere does not matter -/
theorem HR.beside (R : HR n ι H hp) {p : Addr} (hn : H p = none) (ho : HO) : Fr ι H ι (upd H p ho) ∧ HR n ι (upd H p ho) hp := by
  have F : Fr ι H ι (upd H p ho) := ⟨List.prefix_refl _, fun _ h h' => absurd h h', fun b u e hb => by rw [upd_ne (ne_of_none e hn)]; exact e⟩
  refine ⟨F, R.len, R.nd, fun k a o e1 e2 => ?_⟩
  obtain ⟨ho', h1, h2⟩ := R.at_ k a o e1 e2
  exact ⟨ho', by rw [upd_ne (ne_of_none h1 hn)]; exact h1, h2.mono F⟩
structure ClsFn (X : Cx) (n : Nam) (P : Wd) (k : Nat) (x : Str) (c : Nat) : Prop where
  at_ : X.mg x = some (.ref (n.cA c))
  init : ∀ cl f, P.cls c = some cl → cl.init = some f → ∃ a, Mk X.K (n.cA c) a ∧ FnIs X n P k f a
theorem run_new {k : Nat} {x : Str} {c : Nat} (C : ClsFn X n P k x c) (hr : Room (k + 1) X.A) (tk : Takes X V') {pins : List (Addr × Obj)} {σ : L2.St} {s : Shared} {Q : VK} {us : List Value} {vs : List V} {ws : List Wv} (I : Inv X pins σ H s) (r : Vals vs us)
    (R : HR n ι H hp) (h : VRs n ι H vs ws) (A : Af n (VR n) ι H (make P c ws hp) Q (ofW n V' σ)) : wpAny (model X.prog X.w) X.A (call (.ref (n.cA c)) us) (EP X pins σ Q) X.xe s := by
  unfold make at A
  split at A
  · rename_i cl hcl
    split at A
    · rename_i f hf
      obtain ⟨a, M, fd, ps, hb, ok⟩ := C.init cl f hcl hf
      have A := Af.ended R A
      have x1 : H (s.heap.objs.size + 1) = none := I.hok.fresh (Nat.le_succ _)
      have x2 : H s.heap.objs.size = none := I.hok.fresh (Nat.le_refl _)
      have x3 : s.heap.objs.size + 1 ≠ s.heap.objs.size := Nat.succ_ne_self _
      obtain ⟨F1, R1⟩ := R.beside x2 (.own (s.heap.objs.size + 1))
      obtain ⟨F2, R2⟩ := R1.push (p := s.heap.objs.size + 1) (by rw [upd_ne x3]; exact x1) (ho := .ins (n.cA c) s.heap.objs.size []) (o := .ins c []) fun F => .ins .nil
      have hz : ι.length = hp.length := R.len
      have A2 : spW n P f (V.ref (s.heap.objs.size + 1) :: vs) (upd (upd H s.heap.objs.size (.own (s.heap.objs.size + 1))) (s.heap.objs.size + 1) (.ins (n.cA c) s.heap.objs.size [])) (fun v H2 => v = .non ∧ Q (.ref (s.heap.objs.size + 1)) H2) (WE V' σ) := by
        have vx : VR n (ι ++ [s.heap.objs.size + 1]) (upd (upd H s.heap.objs.size (.own (s.heap.objs.size + 1))) (s.heap.objs.size + 1) (.ins (n.cA c) s.heap.objs.size [])) (.ref (s.heap.objs.size + 1)) (.ref hp.length) :=
          .ref (by rw [← hz, List.getElem?_append_right (Nat.le_refl _), Nat.sub_self]; rfl)
        refine ⟨_, _, .ref hp.length :: ws, R2, .cons vx ((h.mono F1).mono F2), (Af.bind (A.at (F1.trans F2))).mono ?_⟩
        rintro v H2 ⟨ι2, hp2, w, F3, R3, V3, A3⟩
        cases V3 <;> try exact A3.elim
        exact ⟨rfl, A3.here R3 (vx.mono F3)⟩
      have I2 := Inv.made (C := n.cA c) I
      have r2 : Vals (V.ref (s.heap.objs.size + 1) :: vs) (Value.ref (s.heap.objs.size + 1) :: us) := Paired.cons (show RelV (.ref _) (.ref _) from rfl) r
      have hl : (Value.ref (s.heap.objs.size + 1) :: us ++ []).length = ps.length := by
        rw [List.append_nil, ← r2.length]; exact ok.len _ _ _ _ A2
      have bnd := hb _ (Value.ref (s.heap.objs.size + 1) :: us) I2.kIn hl
      rw [List.append_nil] at bnd
      have go := ok.run _ X.stack _ _ ⟨Value.ref (s.heap.objs.size + 1) :: us, []⟩ (Value.ref (s.heap.objs.size + 1) :: us) (V.ref (s.heap.objs.size + 1) :: vs) _ (WE V' σ) (hr.make (n.cA c) us []) (I2.env0.make (n.cA c) us []) bnd r2 A2
      refine wpAny_call (make_map (f := a) I.kIn M.makes M.init (beq_iff_eq.mp M.fn) (codeAny_mono go fun out s' hq => ?_))
      match out, hq with
      | .error e, hq => exact passAt tk σ pins _ _ e s' I2 hq
      | .ok (.ret u), hq =>
        obtain ⟨v, H', I3, rv, ev, q3⟩ := I2.after hq
        subst ev
        exact ⟨rv, V.ref (s.heap.objs.size + 1), H', I3, rfl, q3⟩
      | .ok .next, hq => exact False.elim hq
      | .ok .brk, hq => exact False.elim hq
      | .ok .cont, hq => exact False.elim hq
    · exact A.elim
  · exact A.elim
theorem g_make {x : Str} {k c : Nat} {p pos : Pos} {e : Expr} {es : List Expr} {xs : List Ex} (hr : Room (k + 1) X.A) (tk : Takes X V') (hg : Gl X x) (C : ClsFn X n P k x c) (hkp : PySem.W.keepIn X.K (.ref (n.cA c)) = true) (ha : PA X (e :: es) (GA n (ofW n V') P xs)) (hdb : (x == ("__debug__" : Str)) = false)
    (he : starEach (e :: es) X.env = (false, eval e X.env) :: starEach es X.env) (hpl : (backTo pos (starEach es X.env)).any (·.1) = false) : PE X (.Call (.Name x p) (e :: es) [] pos) (G n (ofW n V') P (.make c xs)) := by
  refine ⟨fun pins s σ H Q I ⟨ι, ee, hp, S, A⟩ => ?_⟩
  simp only [ev] at A
  refine wpAny_Call_Name_kw (ld_glob I hg C.at_ ?_ hdb)
  refine PySem.W.callWith_K (h₀ := X.base) I.ok.mod.kin hkp (thn (ha.run pos pins s σ H _ I ⟨ι, ee, hp, S, Af.bind A⟩) fun us s1 h1 => ?_) he hpl
  obtain ⟨vs, H1, I1, r, ι1, hp1, ws, F1, R1, V1, A1⟩ := h1
  exact ⟨I1.kIn, run_new C hr tk I1 r R1 V1 A1⟩
theorem g_make0 {x : Str} {k c : Nat} {p pos : Pos} (hr : Room (k + 1) X.A) (tk : Takes X V') (hg : Gl X x) (C : ClsFn X n P k x c) (hkp : PySem.W.keepIn X.K (.ref (n.cA c)) = true) (hdb : (x == ("__debug__" : Str)) = false) : PE X (.Call (.Name x p) [] [] pos) (G n (ofW n V') P (.make c [])) := by
  refine ⟨fun pins s σ H Q I ⟨ι, ee, hp, S, A⟩ => ?_⟩
  simp only [ev, evs, Rz.bind_ok] at A
  exact wpAny_Call_Name_kw (ld_glob I hg C.at_ (PySem.W.callWith_K0 I.kIn hkp (run_new (us := []) C hr tk I .nil S.hr .nil A)) hdb)

/-! ### built-in functions -/
theorem g_bltB {id : String} {x : Str} {b : Bf} {e : Expr} {es : List Expr} {xs : List Ex} {p pos : Pos} (hc : CallR X (.builtin id) (rB n b)) (hg : Gl X x) (hm : X.mg x = none) (hv : bootBuiltins x = some (.builtin id)) (ha : PA X (e :: es) (GA n W P xs)) (hn : x ≠ "__name__") (hdb : (x == ("__debug__" : Str)) = false)
    (he : starEach (e :: es) X.env = (false, eval e X.env) :: starEach es X.env) (hpl : (backTo pos (starEach es X.env)).any (·.1) = false) : PE X (.Call (.Name x p) (e :: es) [] pos) (G n W P (.blt b xs)) := by
  refine pe_wk (pe_callB hc hg hm hv ha hn hdb he hpl) fun σ H Q ⟨ι, ee, hp, S, A⟩ => ?_
  simp only [ev] at A
  refine ⟨ι, ee, hp, S, (Af.bind A).mono ?_⟩
  rintro vs H1 ⟨ι1, hp1, ws, F1, R1, V1, A1⟩
  exact ⟨ι1, hp1, ws, _, R1, V1, A1⟩
theorem g_bltT {id : String} {x : Str} {b : Bf} {e : Expr} {es : List Expr} {xs : List Ex} {p pos : Pos} (hc : CallR X (.type id) (rB n b)) (hg : Gl X x) (hm : X.mg x = none) (hv : bootBuiltins x = some (.type id)) (ha : PA X (e :: es) (GA n W P xs)) (hn : x ≠ "__name__") (hdb : (x == ("__debug__" : Str)) = false)
    (he : starEach (e :: es) X.env = (false, eval e X.env) :: starEach es X.env) (hpl : (backTo pos (starEach es X.env)).any (·.1) = false) : PE X (.Call (.Name x p) (e :: es) [] pos) (G n W P (.blt b xs)) := by
  refine pe_wk (pe_callTy hc hg hm hv ha hn hdb he hpl) fun σ H Q ⟨ι, ee, hp, S, A⟩ => ?_
  simp only [ev] at A
  refine ⟨ι, ee, hp, S, (Af.bind A).mono ?_⟩
  rintro vs H1 ⟨ι1, hp1, ws, F1, R1, V1, A1⟩
  exact ⟨ι1, hp1, ws, _, R1, V1, A1⟩
/-- the name of a built-in function, whether it is a type -/
def Bf.name : Bf → String × Bool
  | .len => ("len", false) | .list => ("list", true) | .tuple => ("tuple", true) | .int => ("int", true) | .str => ("str", true) | .sum => ("sum", false) | .all => ("all", false) | .any => ("any", false)
  | .abs => ("abs", false) | .min => ("min", false) | .max => ("max", false) | .sorted => ("sorted", false)
  | .sset => ("sorted", false) | .lset => ("len", false) | .maxd => ("max", false) | .mind => ("min", false) | .dof => ("dict", true)
/-- those that are told so far -/
def Bf.there : Bf → Bool
  | .str => false
  | .sset => false
  | .lset => false
  | .maxd => false
  | .mind => false
  | .dof => false
  | _ => true
theorem boot_all1 : bootBuiltins "all" = some (.builtin "all") := by decide +kernel
theorem g_blt {x : Str} {b : Bf} {e : Expr} {es : List Expr} {xs : List Ex} {p pos : Pos} (hK : KW X n) (hc : X.calm = true) (hu : X.A.units + 64 < cLine) (ht : b.there = true) (hx : x = Str.ofString b.name.1) (hg : Gl X x) (hm : X.mg x = none) (ha : PA X (e :: es) (GA n W P xs))
    (he : starEach (e :: es) X.env = (false, eval e X.env) :: starEach es X.env) (hpl : (backTo pos (starEach es X.env)).any (·.1) = false) : PE X (.Call (.Name x p) (e :: es) [] pos) (G n W P (.blt b xs)) := by
  subst hx
  cases b <;> try (cases ht; done)
  · exact g_bltB (b_len hK) hg hm (by decide +kernel) ha (by decide +kernel) (by decide +kernel) he hpl
  · exact g_bltT (b_list hK) hg hm (by decide +kernel) ha (by decide +kernel) (by decide +kernel) he hpl
  · exact g_bltT (b_tuple hK) hg hm (by decide +kernel) ha (by decide +kernel) (by decide +kernel) he hpl
  · exact g_bltT b_int hg hm (by decide +kernel) ha (by decide +kernel) (by decide +kernel) he hpl
  · exact g_bltB (b_sum hK hc) hg hm (by decide +kernel) ha (by decide +kernel) (by decide +kernel) he hpl
  · exact g_bltB (b_all hK hc) hg hm (by decide +kernel) ha (by decide +kernel) (by decide +kernel) he hpl
  · exact g_bltB (b_any hK hc) hg hm (by decide +kernel) ha (by decide +kernel) (by decide +kernel) he hpl
  · exact g_bltB b_abs hg hm (by decide +kernel) ha (by decide +kernel) (by decide +kernel) he hpl
  · exact g_bltB (b_min hc) hg hm (by decide +kernel) ha (by decide +kernel) (by decide +kernel) he hpl
  · exact g_bltB (b_max hc) hg hm (by decide +kernel) ha (by decide +kernel) (by decide +kernel) he hpl
  · exact g_bltB (b_sorted hK hu) hg hm (by decide +kernel) ha (by decide +kernel) (by decide +kernel) he hpl

/-! ### methods of lists -/
def Lm.name : Lm → String
  | .append => "append" | .extend => "extend" | .pop => "pop" | .insert => "insert" | .clear => "clear" | .reverse => "reverse" | .index => "index" | .remove => "remove"
theorem isL_typ {v : V} {a : Wv} (hK : KW X n) (R : HR n ι H hp) (h : VR n ι H v a) (e : isL hp a = true) : tyV X.K "list" v H := by
  cases h <;> try (simp [isL] at e; done)
  rename_i k p hk
  simp only [isL] at e
  split at e
  · rename_i ws q
    obtain ⟨vs, g1, _⟩ := R.lstAt hk q
    exact .inl ⟨rfl, vs, SqL.of g1⟩
  · cases e
/-- not the call of a name without arguments (super() might be meant) -/
def noSup : Expr → Bool
  | .Call (.Name _ _) [] [] _ => false
  | _ => true
theorem noSup_ok {o : Expr} {m : Str} {env : Env} (h : noSup o = true) : attributeBase o m env (eval o env) = eval o env := by
  cases o <;> try rfl
  rename_i f args kws pos
  cases f <;> try rfl
  cases args <;> try rfl
  cases kws <;> try rfl
  cases h
theorem mtr_of {m : Lm} {id : String} (h : MtR X id (rL n m)) : MtR X id (rL n m) := h
theorem g_lm {id : String} {m : Lm} {o e : Expr} {es : List Expr} {x : Ex} {xs : List Ex} {apos cpos : Pos} {name : Str} (hK : KW X n) (slot : Slot "list" name id) (hty : typeOf (.builtin id) = pure (.type "method_descriptor")) (hm : MtR X id (rL n m)) (ho : PE X o (G n W P x)) (ha : PA X (e :: es) (GA n W P xs))
    (hb : noSup o = true) (hfew : ((backTo cpos (starEach (e :: es) X.env)).all (fun x => !x.1) && (backToKw cpos (keywordEach [] X.env)).all (fun x => x.1.isSome)
      && decide ((e :: es).length + ([] : List Keyword).length + (if ([] : List Keyword).isEmpty then 0 else 1) < 30)) = true)
    (hline : (apos.endLine == cpos.line) = true) (hs : starEach (e :: es) X.env = (false, eval e X.env) :: starEach es X.env) (hpl : (backTo cpos (starEach es X.env)).any (·.1) = false) :
    PE X (.Call (.Attribute o name apos) (e :: es) [] cpos) (G n W P (.lm m x xs)) := by
  refine pe_wk (pe_bm PySem.F.plainAttrs_list slot hty hm ho ha (noSup_ok hb) hfew hline hs hpl) fun σ H Q ⟨ι, ee, hp, S, A⟩ => ?_
  simp only [ev] at A
  refine ⟨ι, ee, hp, S, (Af.bind A).mono ?_⟩
  rintro v H1 ⟨ι1, hp1, w, F1, R1, V1, A1⟩
  split at A1
  · rename_i hl
    refine ⟨isL_typ hK R1 V1 hl, ι1, ee, hp1, S.mono F1 R1, (Af.bind A1).mono ?_⟩
    rintro vs H2 ⟨ι2, hp2, ws, F2, R2, V2, A2⟩
    exact ⟨ι2, hp2, w, ws, _, R2, V1.mono F2, V2, A2⟩
  · exact A1.elim
theorem g_lm0 {id : String} {m : Lm} {o : Expr} {x : Ex} {apos cpos : Pos} {name : Str} (hK : KW X n) (slot : Slot "list" name id) (hty : typeOf (.builtin id) = pure (.type "method_descriptor")) (hm : MtR X id (rL n m)) (ho : PE X o (G n W P x))
    (hb : noSup o = true) (hline : (apos.endLine == cpos.line) = true) : PE X (.Call (.Attribute o name apos) [] [] cpos) (G n W P (.lm m x [])) := by
  refine pe_wk (pe_bm0 PySem.F.plainAttrs_list slot hty hm ho (noSup_ok hb) hline) fun σ H Q ⟨ι, ee, hp, S, A⟩ => ?_
  simp only [ev] at A
  refine ⟨ι, ee, hp, S, (Af.bind A).mono ?_⟩
  rintro v H1 ⟨ι1, hp1, w, F1, R1, V1, A1⟩
  split at A1
  · rename_i hl
    simp only [evs, Rz.bind_ok] at A1
    exact ⟨isL_typ hK R1 V1 hl, ι1, hp1, w, [], _, R1, V1, .nil, A1⟩
  · exact A1.elim
def Lm.there : Lm → Bool
  | .append | .extend | .pop | .clear | .reverse => true
  | _ => false
theorem l_slot (m : Lm) (h : m.there = true) : ∃ id, Slot "list" (Str.ofString m.name) id ∧ typeOf (.builtin id) = pure (.type "method_descriptor") ∧ MtR X id (rL n m) := by
  cases m <;> try (cases h; done)
  · exact ⟨_, PySem.F.slot_list_append, PySem.F.type_list_append, l_append⟩
  · exact ⟨_, PySem.F.slot_list_extend, PySem.F.type_list_extend, l_extend⟩
  · exact ⟨_, PySem.F.slot_list_pop, PySem.F.type_list_pop, l_pop⟩
  · exact ⟨_, PySem.F.slot_list_clear, PySem.F.type_list_clear, l_clear⟩
  · exact ⟨_, PySem.F.slot_list_reverse, PySem.F.type_list_reverse, l_reverse⟩

/-! ### isinstance -/
theorem boot_ty (t : Ty) : bootBuiltins (Str.ofString t.name) = some (.type t.name) := by cases t <;> decide +kernel
theorem lst_ty {K : PySem.W.Frag} {a : Addr} {vs : List V} (h : SqL K H a vs) : TyX K H (.ref a) (.type "list") := by
  rcases h with (h | ⟨o, h⟩) | ⟨o, its, m, h1, h2, _⟩
  · exact .base (.lst h)
  · exact .base (.frz h)
  · exact .kList h1 h2
theorem tup_ty {K : PySem.W.Frag} {a : Addr} {vs : List V} (h : SqT K H a vs) : TyX K H (.ref a) (.type "tuple") := by
  rcases h with (h | ⟨o, h⟩) | ⟨o, its, m, h1, h2, _⟩
  · exact .base (.tup h)
  · exact .fTuple h
  · exact .kTuple h1 h2
/-- what a value is, as the text says it -/
theorem has_ok {K : PySem.W.Frag} (hK : K = n.K) (R : HR n ι H hp) {v : V} {w : Wv} (h : VR n ι H v w) {t : Ty} {b : Bool} (e : t.has hp w = some b) : ∃ ty, TyX K H v ty ∧ PySem.W.kitOne K ty (.type t.name) = some b := by
  obtain ⟨T, h1, h2⟩ := Option.map_eq_some_iff.mp e
  have key : TyX K H v (.type T) := by
    cases h with
    | non => cases h1; exact .base .non
    | bl i => cases h1; exact .base (.bl i)
    | int i => cases h1; exact .base (.int i)
    | str i => cases h1; exact .base (.str i)
    | tup h hs => cases h1; exact tup_ty (hK ▸ h.seq)
    | lst h hs => cases h1; exact lst_ty (hK ▸ h.seq)
    | ins h h1' h2 => cases h1
    | dic h h1' h2 => cases h1
    | @ref k a h =>
      simp only [tyOf] at h1
      split at h1
      · rename_i ws q
        cases h1
        obtain ⟨vs, g1, g2⟩ := R.lstAt h q
        exact lst_ty (SqL.of g1)
      · cases h1
  have fin : ∀ T, T ∈ ["NoneType", "bool", "int", "str", "tuple", "list"] → kitB T t.name = some (decide (T = t.name) || (decide (T = "bool") && decide (t.name = "int"))) := by
    cases t <;> decide +kernel
  have hT : T ∈ ["NoneType", "bool", "int", "str", "tuple", "list"] := by
    cases w <;> simp only [tyOf, Option.some.injEq, reduceCtorEq] at h1 <;> (try subst h1) <;> (try decide)
    split at h1
    · cases h1; decide
    · cases h1
  exact ⟨_, key, kit_ty (h2 ▸ fin T hT)⟩
theorem g_isi {a : Expr} {x : Ex} {t : Ty} {p q pos : Pos} (hK : KW X n) (hg : Gl X "isinstance") (hm : X.mg "isinstance" = none) (hg2 : Gl X (Str.ofString t.name)) (hm2 : X.mg (Str.ofString t.name) = none) (ha : PE X a (G n W P x))
    (hs : starEach [a, .Name (Str.ofString t.name) q] X.env = (false, eval a X.env) :: starEach [.Name (Str.ofString t.name) q] X.env) :
    PE X (.Call (.Name "isinstance" p) [a, .Name (Str.ofString t.name) q] [] pos) (G n W P (.isi x [t])) := by
  have h2 : PE X (.Name (Str.ofString t.name) q) (tC (.ty t.name)) := pe_bltn hg2 hm2 (boot_ty t) rfl (by cases t <;> decide +kernel) (by cases t <;> decide +kernel)
  refine pe_wk (pe_callB call_isi hg hm PyProof.Rows.boot_isinstance (pa_cons ha (pa_cons h2 pa_nil rfl) hs) (by decide +kernel) (by decide +kernel) hs rfl) fun σ H Q ⟨ι, ee, hp, S, A⟩ => ?_
  simp only [ev] at A
  refine ⟨ι, ee, hp, S, (Af.bind A).mono ?_⟩
  rintro v H1 ⟨ι1, hp1, w, F1, R1, V1, A1⟩
  cases ht : t.has hp1 w with
  | none => rw [ht] at A1; exact A1.elim
  | some b =>
    rw [ht] at A1
    obtain ⟨ty, g1, g2⟩ := has_ok hK.K R1 V1 ht
    exact ⟨v, .ty t.name, ty, _, b, rfl, .ty _, g1, g2, A1.here R1 (.bl _)⟩
/-- what isinstance asks of a class of the text -/
structure InsK (K : PySem.W.Frag) (C : Addr) : Prop where
  cl : Cls K C
  ha : PySem.W.findIn K (.ref C) "__class__" = some (some (.builtin "object.__class__"))
  hn : PySem.W.specialIn K (.builtin "object.__class__") "__get__" = some (some (.builtin "getset_descriptor.__get__"))
  htk : PySem.W.takesIn K (.builtin "object.__class__") = some true
  hm : PySem.W.mroIn K C (.type "object") = some true
theorem g_isc {a : Expr} {x : Ex} {D : Str} {d : Nat} {yes no : List Nat} {p q pos : Pos} (hK : KW X n) (hg : Gl X "isinstance") (hm : X.mg "isinstance" = none) (hg2 : Gl X D) (hm2 : X.mg D = some (.ref (n.cA d))) (hd : (D == ("__debug__" : Str)) = false) (ha : PE X a (G n W P x))
    (hy : ∀ c, yes.contains c = true → InsK X.K (n.cA c) ∧ PySem.W.kitOne X.K (.ref (n.cA c)) (.ref (n.cA d)) = some true) (hn : ∀ c, no.contains c = true → InsK X.K (n.cA c) ∧ PySem.W.kitOne X.K (.ref (n.cA c)) (.ref (n.cA d)) = some false)
    (hs : starEach [a, .Name D q] X.env = (false, eval a X.env) :: starEach [.Name D q] X.env) :
    PE X (.Call (.Name "isinstance" p) [a, .Name D q] [] pos) (G n W P (.isc x yes no)) := by
  have h2 : PE X (.Name D q) (tC (.ref (n.cA d))) := pe_glob hg2 hm2 rfl hd
  refine pe_wk (pe_callB call_isi hg hm PyProof.Rows.boot_isinstance (pa_cons ha (pa_cons h2 pa_nil rfl) hs) (by decide +kernel) (by decide +kernel) hs rfl) fun σ H Q ⟨ι, ee, hp, S, A⟩ => ?_
  simp only [ev] at A
  refine ⟨ι, ee, hp, S, (Af.bind A).mono ?_⟩
  rintro v H1 ⟨ι1, hp1, w, F1, R1, V1, A1⟩
  split at A1
  · rename_i c ws e
    obtain ⟨p, dx, fs, rfl, g1, g2⟩ := getI_rel R1 V1 e
    split at A1
    · rename_i z
      obtain ⟨k1, k2⟩ := hy c z
      exact ⟨_, .ref (n.cA d), _, _, true, rfl, .own _, .base (.ins g1 k1.cl k1.ha k1.hn k1.htk k1.hm), k2, A1.here R1 (.bl _)⟩
    · split at A1
      · rename_i z
        obtain ⟨k1, k2⟩ := hn c z
        exact ⟨_, .ref (n.cA d), _, _, false, rfl, .own _, .base (.ins g1 k1.cl k1.ha k1.hn k1.htk k1.hm), k2, A1.here R1 (.bl _)⟩
      · exact A1.elim
  · exact A1.elim
end
end SL

set_option maxRecDepth 100000
set_option maxHeartbeats 1000000
/-! sorted(set(xs)), len(set(xs)), max(xs, default=d), min(xs, default=d). -/
namespace SL
open PySem L2 PyProof.Rows PySem.W
set_option autoImplicit false
/-- what setW tells -/
structure SetWs (ws us : List Wv) (ds : List PyData) : Prop where
  eds : toDs ws = some ds
  ok : SrtOk ds
  nums : intsys ds = true
  len : ws.length < 4000
  few : (once ws).length < 64
  eq : us = once ws
theorem setW_ok {ws us : List Wv} (h : setW ws = some us) : ∃ ds, SetWs ws us ds := by
  unfold setW at h
  split at h
  · rename_i ds e
    split at h
    · rename_i c
      cases h
      simp only [Bool.and_eq_true] at c
      exact ⟨ds, e, srtOk_ok c.1.1, c.1.2, c.2.1, c.2.2, rfl⟩
    · cases h
  · cases h
theorem SetWs.has {ws us : List Wv} {ds : List PyData} (S : SetWs ws us ds) {w : Wv} (h : w ∈ ws) : ∃ d, w.toD = some d ∧ d ∈ ds ∧ intsy d = true := by
  obtain ⟨d, d1, d2⟩ := toDs_mem S.eds h
  exact ⟨d, d1, d2, intsys_mem S.nums d2⟩
theorem SetWs.ranks {ws us : List Wv} {ds : List PyData} (S : SetWs ws us ds) : Ranks ws := by
  refine ⟨fun w hw => ?_, fun w hw u hu => ?_⟩
  · obtain ⟨d, d1, _, d3⟩ := S.has hw
    exact ⟨d, d1, d3⟩
  · obtain ⟨d, d1, d2, _⟩ := S.has hw
    obtain ⟨e, e1, e2, _⟩ := S.has hu
    unfold dOf
    rw [d1, e1]
    exact S.ok.al d d2 e e2
theorem Ranks.sub {l m : List Wv} (R : Ranks l) (h : ∀ w ∈ m, w ∈ l) : Ranks m := ⟨fun w hw => R.1 w (h w hw), fun w hw u hu => R.2 w (h w hw) u (h u hu)⟩
section
variable {n : Nam} {ι : List Addr} {H : Hp} {hp : Hs} {W : Wx} {X : Cx} {P : Wd} {pins : List (Addr × Obj)} {σ : L2.St} {s : Shared}
/-- members: (address, key) with value and word -/
structure Mem (n : Nam) (ι : List Addr) (H : Hp) (s : Shared) (ws : List Wv) (p : Mb) : Prop where
  vr : VR n ι H (.ref p.1) (wOfD p.2.data)
  fit : Fit s.heap p
  rd : Reads s.heap (.ref p.1) p.2.data []
  mem : wOfD p.2.data ∈ ws
  key : keyD p.2.data = p.2
  nums : intsy p.2.data = true
  toD : (wOfD p.2.data).toD = some p.2.data
theorem mems (hK : KW X n) (I : Inv X pins σ H s) : ∀ {vs : List V} {ws : List Wv} {us : List Value} {ds : List PyData}, VRs n ι H vs ws → Vals vs us → toDs ws = some ds → intsys ds = true → (∀ d ∈ ds, ∃ x r, d = .tuple (x :: r)) → (∀ d ∈ ds, d.depth ≤ 8) →
    ∃ ks : List Mb, us = ks.map (fun p => Value.ref p.1) ∧ ks.map (fun p => wOfD p.2.data) = ws ∧ ∀ p ∈ ks, Mem n ι H s ws p
  | _, _, _, ds, .nil, r, e, g, t, dp => by
    cases r
    exact ⟨[], rfl, rfl, fun p hp => by cases hp⟩
  | _, _, _, ds, .cons (v := v) (w := w) (ws := ws) h hs, r, e, g, t, dp => by
    cases r with
    | @cons _ u _ us r1 r2 =>
      simp only [toDs] at e
      split at e
      · rename_i d es e1 e2
        cases e
        simp only [intsys, Bool.and_eq_true] at g
        obtain ⟨ks, k1, k2, k3⟩ := mems hK I hs r2 e2 g.2 (fun d hd => t d (List.mem_cons_of_mem _ hd)) fun d hd => dp d (List.mem_cons_of_mem _ hd)
        obtain ⟨a1, a2⟩ := w_key hK I w v u d h r1 e1 g.1
        obtain ⟨x, rr, rfl⟩ := t d List.mem_cons_self
        obtain ⟨q1, q2, q3⟩ := key_data _ g.1
        have bw := back_w w _ e1 g.1
        obtain ⟨a, rfl⟩ : ∃ a, u = .ref a := by
          rw [keyD] at a1
          cases a1
          exact ⟨_, rfl⟩
        have va : v = .ref a := by
          cases h <;> try (simp [Wv.toD] at e1; done)
          · cases r1; rfl
        subst va
        refine ⟨(a, keyD (.tuple (x :: rr))) :: ks, by rw [List.map_cons, k1], by rw [List.map_cons, k2]; simp only; rw [q1, bw], fun p hp => ?_⟩
        rcases List.mem_cons.mp hp with q | hp
        · subst q
          refine ⟨?_, ⟨a1, ?_, q2⟩, ?_, ?_, ?_, ?_, ?_⟩
          · simp only; rw [q1, bw]; exact h
          · simp only; rw [q3]; exact dp _ List.mem_cons_self
          · simp only; rw [q1]; exact a2
          · simp only; rw [q1, bw]; exact List.mem_cons_self
          · simp only; rw [q1]
          · simp only; rw [q1]; exact g.1
          · simp only; rw [q1, bw]; exact e1
        · have z := k3 p hp
          exact { z with mem := List.mem_cons_of_mem _ z.mem }
      · cases e
/-- the members of a set made of ks, as words -/
theorem same_words {ws : List Wv} {ks L : List Mb} (hk : ks.map (fun p => wOfD p.2.data) = ws) (hm : ∀ p ∈ ks, Mem n ι H s ws p) (uq : (L.map (·.2)).Nodup) (g : Has ks ks.length L) : (L.map fun p => wOfD p.2.data).Perm (once ws) := by
  have sub : ∀ p ∈ L, p ∈ ks := fun p hp => List.mem_of_mem_take (g.sub p hp)
  have inj : ∀ p ∈ L, ∀ q ∈ L, wOfD p.2.data = wOfD q.2.data → p.2 = q.2 := fun p hp q hq e => by
    have a := hm p (sub p hp)
    have b := hm q (sub q hq)
    have z := a.toD
    rw [e, b.toD] at z
    rw [← a.key, ← b.key, Option.some.inj z]
  refine same_perm ?_ (nodup_once ws) fun w => ⟨fun h => ?_, fun h => ?_⟩
  · rw [List.Nodup, List.pairwise_map] at uq
    rw [List.Nodup, List.pairwise_map]
    exact List.Pairwise.imp_of_mem (fun {p q} hp hq ne e => ne (inj p hp q hq e)) uq
  · obtain ⟨p, p1, p2⟩ := List.mem_map.mp h
    exact mem_once.mpr (p2 ▸ (hm p (sub p p1)).mem)
  · have z := mem_once.mp h
    rw [← hk] at z
    obtain ⟨p, p1, p2⟩ := List.mem_map.mp z
    obtain ⟨q, q1, q2⟩ := List.mem_map.mp (g.all p (by rw [List.take_length]; exact p1))
    exact List.mem_map.mpr ⟨q, q1, by rw [← p2]; exact congrArg (fun k => wOfD (NestedKey.data k)) q2⟩
theorem few_of {ws : List Wv} {ks : List Mb} (hm : ∀ p ∈ ks, Mem n ι H s ws p) (few : (once ws).length < 64) : Few ks := fun L uq sub => by
  have z := nodup_le (L.map (·.2)) ((once ws).map fun w => keyD (dOf w)) uq fun k hk => by
    obtain ⟨p, p1, rfl⟩ := List.mem_map.mp hk
    have a := hm p (sub p p1)
    refine List.mem_map.mpr ⟨wOfD p.2.data, mem_once.mpr a.mem, ?_⟩
    unfold dOf
    rw [a.toD]
    exact a.key
  rw [List.length_map, List.length_map] at z
  omega
end
end SL

set_option maxRecDepth 100000
set_option maxHeartbeats 1000000
/-! sorted(set(xs)), len(set(xs)), max(xs, default=d), min(xs, default=d): the rules. -/
namespace SL
open PySem L2 PyProof.Rows PySem.W
set_option autoImplicit false
section
variable {n : Nam} {ι : List Addr} {H : Hp} {hp : Hs} {W : Wx} {X : Cx} {P : Wd} {pins : List (Addr × Obj)} {σ : L2.St} {s : Shared}
theorem blt1 (b : Bf) (x : Ex) (ee : Ev) (hp : Hs) : ev P (.blt b [x]) ee hp = (ev P x ee hp).bind fun w h1 => blt b [w] h1 := by
  simp only [ev, evs]
  cases ev P x ee hp <;> rfl
theorem state_is {s s' : Shared} (g : s'.gens = s.gens) (o : s'.os = s.os) : s' = { s with heap := s'.heap, gens := s'.gens, drawn := s'.drawn, toks := s'.toks } := by
  cases s'
  cases s
  cases o
  rfl
/-- a new list behind a call that leaves all else -/
theorem inv_new {s' : Shared} {b : Addr} {xs : List V} {out : Array Value} {c : Nat} (I : Inv X pins σ H s) (keep : ∀ x o, s.heap.get? x = some o → s'.heap.get? x = some o) (g : s'.gens = s.gens) (o : s'.os = s.os) (le : s.heap.objs.size ≤ b)
    (at_ : s'.heap.get? b = some (seqObj "list" out c)) (v : Vals xs out.toList) (z : xs.length ≤ sizeLine) : Inv X pins σ (upd H b (.lst xs)) s' := by
  have hn : H b = none := I.hok.fresh le
  have J : Inv X pins σ (upd H b (.lst xs)) { s with heap := s'.heap, gens := s'.gens, drawn := s'.drawn, toks := s'.toks } :=
    I.call (ch := []) (Un.laid keep le hn) (I.hok.laid keep le ⟨z, out.toList, c, v, at_⟩) (by rw [g]; exact I.bare) (fun _ z => nomatch z)
  rw [state_is g o]
  exact J
theorem vals_refs : ∀ ks : List Mb, Vals (ks.map fun p => V.ref p.1) (ks.map fun p => Value.ref p.1)
  | [] => .nil
  | p :: ks => .cons rfl (vals_refs ks)
theorem vrs_mems {ws : List Wv} : ∀ {M : List Mb}, (∀ p ∈ M, VR n ι H (.ref p.1) (wOfD p.2.data)) → VRs n ι H (M.map fun p => V.ref p.1) (M.map fun p => wOfD p.2.data)
  | [], _ => .nil
  | p :: M, h => .cons (h p List.mem_cons_self) (vrs_mems (ws := ws) fun q hq => h q (List.mem_cons_of_mem _ hq))
theorem ints_vals : ∀ {us : List Value} {ns : List Int}, IntsAre us ns → Vals (ns.map V.int) us
  | _, _, .nil => .nil
  | _, _, .cons i t h => .cons ⟨t, rfl⟩ (ints_vals h)
theorem vrs_ints : ∀ ns : List Int, VRs n ι H (ns.map V.int) (ns.map Wv.int)
  | [] => .nil
  | i :: ns => .cons (.int i) (vrs_ints ns)
/-- all ints: their row -/
theorem int_row : ∀ {vs : List V} {ws : List Wv} {us : List Value} {ds : List PyData}, VRs n ι H vs ws → Vals vs us → toDs ws = some ds → (∀ d ∈ ds, ∃ i, d = PyData.int i) → ∃ ns : List Int, IntsAre us ns ∧ ws = ns.map Wv.int
  | _, _, _, ds, .nil, r, e, t => by
    cases r
    exact ⟨[], .nil, rfl⟩
  | _, _, _, ds, .cons (w := w) h hs, r, e, t => by
    cases r with
    | cons r1 r2 =>
      simp only [toDs] at e
      split at e
      · rename_i d es e1 e2
        cases e
        obtain ⟨ns, n1, n2⟩ := int_row hs r2 e2 fun d hd => t d (List.mem_cons_of_mem _ hd)
        obtain ⟨i, rfl⟩ := t d List.mem_cons_self
        have ew : w = .int i := by
          cases w <;> simp [Wv.toD] at e1
          rw [e1]
        subst ew
        cases h
        obtain ⟨t, rfl⟩ := r1
        exact ⟨i :: ns, .cons i t n1, by rw [List.map_cons, n2]⟩
      · cases e
theorem once_ints {ns : List Int} {w : Wv} : w ∈ once (ns.map Wv.int) ↔ ∃ i ∈ ns, w = .int i := by
  rw [mem_once, List.mem_map]
  exact ⟨fun ⟨i, h, e⟩ => ⟨i, h, e.symm⟩, fun ⟨i, h, e⟩ => ⟨i, h, e.symm⟩⟩
theorem nodup_ints {ns : List Int} (h : ns.Nodup) : (ns.map Wv.int).Nodup := by
  rw [List.Nodup, List.pairwise_map]
  exact List.Pairwise.imp (fun ne e => ne (by injection e)) h
theorem leW_int {i j : Int} (h : i ≤ j) : leW (.int i) (.int j) = true := by
  have z := congrFun (congrFun (PySem.W.dataLe_int (fun i : Int => i)) i) j
  have y : leW (.int i) (.int j) = dataLe false (fun b : Int => PyData.int b) i j := rfl
  rw [y, z]
  exact decide_eq_true h
/-- how many unlike ints the set has -/
theorem setR_count {w : World} {h : Heap} {a : Addr} {ns : List Int} {c : Nat} (R : SetR w h a (fun j => decide (j ∈ ns)) c) : c = (once (ns.map Wv.int)).length := by
  obtain ⟨o, es, ep, t, ho, hex, hd, g, nd, hm, hb, hf, hn, hr, hl⟩ := R
  have pm : ((es.toList.map keyOf).map Wv.int).Perm (once (ns.map Wv.int)) := by
    refine same_perm (nodup_ints nd) (nodup_once _) fun w => ?_
    rw [once_ints, List.mem_map]
    constructor
    · rintro ⟨i, h1, rfl⟩
      exact ⟨i, by simpa using (hm i).mpr h1, rfl⟩
    · rintro ⟨i, h1, rfl⟩
      exact ⟨i, (hm i).mp (by simpa using h1), rfl⟩
  have z := pm.length_eq
  rw [List.length_map, List.length_map, Array.length_toList, hn] at z
  exact z
theorem g_sset {a : Expr} {x : Ex} {p p2 q pos : Pos} (hK : KW X n) (hc : X.calm = true) (hu : X.A.units + 64 < cLine) (hg : Gl X "sorted") (hm : X.mg "sorted" = none) (hg2 : Gl X "set") (hm2 : X.mg "set" = none) (ha : PE X a (G n W P x))
    (na : starEach [a] X.env = (false, eval a X.env) :: starEach [] X.env) : PE X (.Call (.Name "sorted" p) [.Call (.Name "set" p2) [a] [] q] [] pos) (G n W P (.blt .sset [x])) := by
  refine ⟨fun pins s σ H Q I ⟨ι, ee, hp, S, A⟩ => ?_⟩
  rw [blt1] at A
  refine Call_ (ld_blt I hg hm boot_sorted ?_)
  refine callWith_builtin1 (args_cons ?_ rfl) rfl rfl
  refine Call_ (ld_blt I hg2 hm2 boot_set ?_)
  refine callWith_type1 (args_cons (thn (ha.run pins s σ H _ I ⟨ι, ee, hp, S, Af.bind A⟩) fun v s1 h1 => args_nil ?_) na) na rfl
  obtain ⟨v1, H1, I1, r1, ι1, hp1, w1, F1, R1, V1, A1⟩ := h1
  simp only [blt] at A1
  split at A1
  · rename_i us e
    obtain ⟨ws, e1, e2⟩ := Option.bind_eq_some_iff.mp e
    obtain ⟨ds, T⟩ := setW_ok e2
    obtain ⟨l, vs, rfl, h1, h2⟩ := getL_rel R1 V1 e1
    obtain ⟨its, rv, hl, hz⟩ := I1.list (hK.K ▸ h1)
    cases r1
    have free := I1.ok.hd hc
    rcases T.ok.cs with cs | cs
    · obtain ⟨ks, k1, k2, k3⟩ := mems (n := n) hK I1 h2 rv T.eds T.nums cs T.ok.dp
      refine make_set (P := X.prog) (w := X.w) ks free hl.isList (by simpa using k1) (fun m hm => (k3 m hm).fit) (few_of k3 T.few) (by omega) fun h' tk ⟨L, es, ep, t, R, g, keep⟩ => args_nil ?_
      have sub : ∀ m ∈ L, m ∈ ks := fun m hm => List.mem_of_mem_take (g.sub m hm)
      have inds : ∀ m ∈ L, m.2.data ∈ ds := fun m hm => by
        obtain ⟨d, d1, d2, _⟩ := T.has (k3 m (sub m hm)).mem
        rw [(k3 m (sub m hm)).toD] at d1
        rw [Option.some.inj d1]
        exact d2
      have inds2 : ∀ d ∈ L.map (fun m : Mb => m.2.data), d ∈ ds := fun d hd => by
        obtain ⟨m, m1, m2⟩ := List.mem_map.mp hd
        exact m2 ▸ inds m m1
      refine sort_set (s := { s1 with heap := h', toks := tk }) R free (fun m hm => Reads.keeps keep (k3 m (sub m hm)).rd) (fun d hd e he => T.ok.al d (inds2 d hd) e (inds2 e he)) (.inl fun d hd => cs d (inds2 d hd)) (fun m hm => T.ok.dp _ (inds m hm)) (by omega)
        fun s2 b out c M k4 gn os le at_ pm oe => ?_
      have pw := (pm.map fun m => wOfD m.2.data).trans (same_words k2 k3 R.uniq g)
      have ew : (M.mergeSort (dataLe false fun m : Mb => m.2.data)).map (fun m => wOfD m.2.data) = us.mergeSort leW := by
        have z : (M.mergeSort (dataLe false fun m : Mb => m.2.data)).map (fun m => wOfD m.2.data) = (M.map fun m => wOfD m.2.data).mergeSort leW := by
          refine sort_maps (fun m : Mb => wOfD m.2.data) fun m hm m' hm' => ?_
          have d1 : dOf (wOfD m.2.data) = m.2.data := by unfold dOf; rw [(k3 m (sub m (pm.mem_iff.mp hm))).toD]; rfl
          have d2 : dOf (wOfD m'.2.data) = m'.2.data := by unfold dOf; rw [(k3 m' (sub m' (pm.mem_iff.mp hm'))).toD]; rfl
          show dataLe false (fun m : Mb => m.2.data) m m' = dataLe false dOf (wOfD m.2.data) (wOfD m'.2.data)
          unfold dataLe sortLe
          simp only [d1, d2]
        rw [z, T.eq]
        exact (sort_perm_eq (T.ranks.sub fun w hw => mem_once.mp hw) pw.symm).symm
      have hvr : VRs n ι1 H1 ((M.mergeSort (dataLe false fun m : Mb => m.2.data)).map fun m => V.ref m.1) (us.mergeSort leW) := by
        rw [← ew]
        exact vrs_mems (ws := ws) fun m hm => (k3 m (sub m (pm.mem_iff.mp (List.mem_mergeSort.mp hm)))).vr
      obtain ⟨z1, z2⟩ := newL_ok R1 hvr A1
      have keep2 : ∀ x o, s1.heap.get? x = some o → s2.heap.get? x = some o := fun x o e => k4 x o (keep x o e)
      have le2 : s1.heap.objs.size ≤ b := by
        refine Nat.le_trans ?_ le
        obtain ⟨o, ho, _⟩ := R.obj
        exact Nat.le_of_lt (Heap.lt_size ho)
      refine ⟨.ref b, _, inv_new I1 keep2 gn os le2 at_ ?_ z1, rfl, z2 b (I1.hok.fresh le2)⟩
      rw [oe]
      exact vals_refs _
    · obtain ⟨ns, n1, n2⟩ := int_row h2 rv T.eds cs
      have lenN : ns.length < 4000 := by
        have z := T.len
        rw [n2, List.length_map] at z
        exact z
      refine make_setI (P := X.prog) (w := X.w) ns free hl.isList (by simpa using n1) (by unfold scanBound; omega) (by omega) fun h' tk ⟨c, R, le0, keep⟩ => args_nil ?_
      have cc := setR_count R
      rw [← n2] at cc
      have few := T.few
      refine sorted_set (P := X.prog) (s := { s1 with heap := h', toks := tk }) R free (by omega) fun s2 b out c2 ms k4 gn os le at_ ia pw mem len => ?_
      have ew : ms.map Wv.int = us.mergeSort leW := by
        rw [T.eq]
        have nd : ms.Nodup := List.Pairwise.imp (fun {a b} (h : a < b) (e : a = b) => absurd h (by rw [e]; exact Int.lt_irrefl b)) pw
        have pm : (once ws).Perm (ms.map Wv.int) := by
          refine same_perm (nodup_once _) (nodup_ints nd) fun w => ?_
          rw [n2, once_ints, List.mem_map]
          constructor
          · rintro ⟨i, h1, rfl⟩
            exact ⟨i, (mem i).mpr (by simpa using h1), rfl⟩
          · rintro ⟨i, h1, rfl⟩
            exact ⟨i, by simpa using (mem i).mp h1, rfl⟩
        refine (order_one ((T.ranks.sub fun w hw => mem_once.mp hw).perm (List.mergeSort_perm _ leW).symm) ((List.mergeSort_perm _ leW).trans pm) (sort_pw _) ?_).symm
        rw [List.pairwise_map]
        exact List.Pairwise.imp (fun h => leW_int (Int.le_of_lt h)) pw
      have hvr : VRs n ι1 H1 (ms.map V.int) (us.mergeSort leW) := by
        rw [← ew]
        exact vrs_ints ms
      obtain ⟨z1, z2⟩ := newL_ok R1 hvr A1
      have keep2 : ∀ x o, s1.heap.get? x = some o → s2.heap.get? x = some o := fun x o e => k4 x o (keep x o e)
      have le2 : s1.heap.objs.size ≤ b := Nat.le_trans (Nat.le_of_lt R.lt) le
      exact ⟨.ref b, _, inv_new I1 keep2 gn os le2 at_ (ints_vals ia) z1, rfl, z2 b (I1.hok.fresh le2)⟩
  · exact A1.elim
theorem g_lset {a : Expr} {x : Ex} {p p2 q pos : Pos} (hK : KW X n) (hc : X.calm = true) (hu : X.A.units + 64 < cLine) (hg : Gl X "len") (hm : X.mg "len" = none) (hg2 : Gl X "set") (hm2 : X.mg "set" = none) (ha : PE X a (G n W P x))
    (na : starEach [a] X.env = (false, eval a X.env) :: starEach [] X.env) : PE X (.Call (.Name "len" p) [.Call (.Name "set" p2) [a] [] q] [] pos) (G n W P (.blt .lset [x])) := by
  refine ⟨fun pins s σ H Q I ⟨ι, ee, hp, S, A⟩ => ?_⟩
  rw [blt1] at A
  refine Call_ (ld_blt I hg hm PySem.boot_len ?_)
  refine callWith_builtin1 (args_cons ?_ rfl) rfl rfl
  refine Call_ (ld_blt I hg2 hm2 boot_set ?_)
  refine callWith_type1 (args_cons (thn (ha.run pins s σ H _ I ⟨ι, ee, hp, S, Af.bind A⟩) fun v s1 h1 => args_nil ?_) na) na rfl
  obtain ⟨v1, H1, I1, r1, ι1, hp1, w1, F1, R1, V1, A1⟩ := h1
  simp only [blt] at A1
  split at A1
  · rename_i us e
    obtain ⟨ws, e1, e2⟩ := Option.bind_eq_some_iff.mp e
    obtain ⟨ds, T⟩ := setW_ok e2
    obtain ⟨l, vs, rfl, h1, h2⟩ := getL_rel R1 V1 e1
    obtain ⟨its, rv, hl, hz⟩ := I1.list (hK.K ▸ h1)
    cases r1
    have free := I1.ok.hd hc
    have few := T.few
    have eu := T.eq
    subst eu
    rcases T.ok.cs with cs | cs
    · obtain ⟨ks, k1, k2, k3⟩ := mems (n := n) hK I1 h2 rv T.eds T.nums cs T.ok.dp
      refine make_set (P := X.prog) (w := X.w) ks free hl.isList (by simpa using k1) (fun m hm => (k3 m hm).fit) (few_of k3 T.few) (by omega) fun h' tk ⟨L, es, ep, t, R, g, keep⟩ => args_nil ?_
      have pw := same_words k2 k3 R.uniq g
      obtain ⟨o, ho, hex, hd⟩ := R.obj
      have I2 : Inv X pins σ H1 { s1 with heap := h', toks := tk } := I1.kept keep
      have sz := R.size
      have z := pw.length_eq
      rw [List.length_map] at z
      refine call_len_set ho hex hd R.fits (by rw [sz]; omega) ⟨.int (once ws).length, H1, I2.tok _, ⟨_, by rw [sz, z]⟩, A1.here R1 (.int _)⟩
    · obtain ⟨ns, n1, n2⟩ := int_row h2 rv T.eds cs
      have lenN : ns.length < 4000 := by
        have z := T.len
        rw [n2, List.length_map] at z
        exact z
      refine make_setI (P := X.prog) (w := X.w) ns free hl.isList (by simpa using n1) (by unfold scanBound; omega) (by omega) fun h' tk ⟨c, R, le0, keep⟩ => args_nil ?_
      have cc := setR_count R
      rw [← n2] at cc
      obtain ⟨o, es, ep, t, ho, hex, hd, g, nd, hm3, hb, hf, hn, hr, hl3⟩ := R
      have I2 : Inv X pins σ H1 { s1 with heap := h', toks := tk } := I1.kept keep
      refine call_len_set ho hex hd hf (by rw [hn]; omega) ⟨.int (once ws).length, H1, I2.tok _, ⟨_, by rw [hn, cc]⟩, A1.here R1 (.int _)⟩
  · exact A1.elim
end
end SL

set_option maxRecDepth 100000
set_option maxHeartbeats 1000000
/-! max(xs, default=d), min(xs, default=d): the rules. -/
namespace SL
open PySem L2 PyProof.Rows PySem.W
set_option autoImplicit false
section
variable {n : Nam} {ι : List Addr} {H : Hp} {hp : Hs} {W : Wx} {X : Cx} {P : Wd} {pins : List (Addr × Obj)} {σ : L2.St} {s : Shared}
theorem blt2 (b : Bf) (x y : Ex) (ee : Ev) (hp : Hs) : ev P (.blt b [x, y]) ee hp = (ev P x ee hp).bind fun w h1 => (ev P y ee h1).bind fun u h2 => blt b [w, u] h2 := by
  simp only [ev, evs]
  cases ev P x ee hp with
  | ok w h1 =>
    simp only [Rz.bind_ok]
    cases ev P y ee h1 <;> rfl
  | _ => rfl
def rMaxD (n : Nam) (b : Bf) : List V → List V → Hp → VK → Prop := fun xs zs H Q => ∃ ι hp w u E v z, HR n ι H hp ∧ xs = [v] ∧ zs = [z] ∧ VR n ι H v w ∧ VR n ι H z u ∧ Af n (VR n) ι H (blt b [w, u] hp) Q E
theorem cr_maxd (hK : KW X n) (hc : X.calm = true) : CallRK X (.builtin "max") [Str.ofString "default"] (rMaxD n .maxd) := by
  intro pins s σ H xs zs us ws Q I rx rz ⟨ι, hp, w, u, E, v, z, R, ex, ez, V1, V2, A⟩
  subst ex ez
  simp only [blt] at A
  split at A
  · rename_i ns e
    obtain ⟨ts, e1, e2⟩ := Option.bind_eq_some_iff.mp e
    obtain ⟨p, vs, rfl, h1, h2⟩ := getL_rel R V1 e1
    have ev := intsOf_rel h2 e2
    subst ev
    obtain ⟨its, rv, hl, hz⟩ := I.list (hK.K ▸ h1)
    have hi := rv.ints
    obtain ⟨xs, ex⟩ := hi.allInts.items
    have hn : numsOf (intItems xs).toList = ns := by rw [← ex]; exact hi.numsOf
    rw [nums_intItems] at hn
    have hl2 := hl.isList
    rw [ex] at hl2
    rw [Vals.ref1 rx]
    obtain ⟨d, rfl, rd⟩ : ∃ d, ws = [d] ∧ RelV z d := by
      cases rz with
      | cons a b => cases b; exact ⟨_, rfl, a⟩
    refine call_max_d (I.ok.hd hc) hl2 (fun h0 h' tk keep => ?_) fun m r h0 t h' tk keep => ?_
    · rw [h0] at hn
      subst hn
      exact ⟨z, H, I.kept keep, rd, A.here R V2⟩
    · rw [h0] at hn
      subst hn
      exact ⟨.int (best_max m r), H, I.kept keep, ⟨t, rfl⟩, A.here R (.int _)⟩
  · exact A.elim
theorem g_maxd {a d : Expr} {x y : Ex} {p kp pos : Pos} (hK : KW X n) (hc : X.calm = true) (hg : Gl X "max") (hm : X.mg "max" = none) (ha : PE X a (G n W P x)) (hd : PE X d (G n W P y)) (na : starEach [a] X.env = (false, eval a X.env) :: starEach [] X.env) :
    PE X (.Call (.Name "max" p) [a] [⟨some "default", d, kp⟩] pos) (G n W P (.blt .maxd [x, y])) := by
  refine pe_wk (pe_callBK (cr_maxd hK hc) hg hm (by decide +kernel) (pa_cons ha pa_nil na) (pk_cons hd pk_nil) (by decide +kernel) (by decide +kernel) (by rw [na] <;> rfl) (by rw [na] <;> rfl) rfl rfl rfl) fun σ H Q ⟨ι, ee, hp, S, A⟩ => ?_
  rw [blt2] at A
  refine ⟨ι, ee, hp, S, (Af.bind A).mono ?_⟩
  rintro v H1 ⟨ι1, hp1, w, F1, R1, V1, A1⟩
  refine ⟨ι1, ee, hp1, S.mono F1 R1, (Af.bind A1).mono ?_⟩
  rintro u H2 ⟨ι2, hp2, w2, F2, R2, V2, A2⟩
  exact ⟨ι2, hp2, w, w2, _, v, u, R2, rfl, rfl, V1.mono F2, V2, A2⟩
theorem cr_mind (hK : KW X n) (hc : X.calm = true) : CallRK X (.builtin "min") [Str.ofString "default"] (rMaxD n .mind) := by
  intro pins s σ H xs zs us ws Q I rx rz ⟨ι, hp, w, u, E, v, z, R, ex, ez, V1, V2, A⟩
  subst ex ez
  simp only [blt] at A
  split at A
  · rename_i ns e
    obtain ⟨ts, e1, e2⟩ := Option.bind_eq_some_iff.mp e
    obtain ⟨p, vs, rfl, h1, h2⟩ := getL_rel R V1 e1
    have ev := intsOf_rel h2 e2
    subst ev
    obtain ⟨its, rv, hl, hz⟩ := I.list (hK.K ▸ h1)
    have hi := rv.ints
    obtain ⟨xs, ex⟩ := hi.allInts.items
    have hn : numsOf (intItems xs).toList = ns := by rw [← ex]; exact hi.numsOf
    rw [nums_intItems] at hn
    have hl2 := hl.isList
    rw [ex] at hl2
    rw [Vals.ref1 rx]
    obtain ⟨d, rfl, rd⟩ : ∃ d, ws = [d] ∧ RelV z d := by
      cases rz with
      | cons a b => cases b; exact ⟨_, rfl, a⟩
    refine call_min_d (I.ok.hd hc) hl2 (fun h0 h' tk keep => ?_) fun m r h0 t h' tk keep => ?_
    · rw [h0] at hn
      subst hn
      exact ⟨z, H, I.kept keep, rd, A.here R V2⟩
    · rw [h0] at hn
      subst hn
      exact ⟨.int (best_min m r), H, I.kept keep, ⟨t, rfl⟩, A.here R (.int _)⟩
  · exact A.elim
theorem g_mind {a d : Expr} {x y : Ex} {p kp pos : Pos} (hK : KW X n) (hc : X.calm = true) (hg : Gl X "min") (hm : X.mg "min" = none) (ha : PE X a (G n W P x)) (hd : PE X d (G n W P y)) (na : starEach [a] X.env = (false, eval a X.env) :: starEach [] X.env) :
    PE X (.Call (.Name "min" p) [a] [⟨some "default", d, kp⟩] pos) (G n W P (.blt .mind [x, y])) := by
  refine pe_wk (pe_callBK (cr_mind hK hc) hg hm (by decide +kernel) (pa_cons ha pa_nil na) (pk_cons hd pk_nil) (by decide +kernel) (by decide +kernel) (by rw [na] <;> rfl) (by rw [na] <;> rfl) rfl rfl rfl) fun σ H Q ⟨ι, ee, hp, S, A⟩ => ?_
  rw [blt2] at A
  refine ⟨ι, ee, hp, S, (Af.bind A).mono ?_⟩
  rintro v H1 ⟨ι1, hp1, w, F1, R1, V1, A1⟩
  refine ⟨ι1, ee, hp1, S.mono F1 R1, (Af.bind A1).mono ?_⟩
  rintro u H2 ⟨ι2, hp2, w2, F2, R2, V2, A2⟩
  exact ⟨ι2, hp2, w, w2, _, v, u, R2, rfl, rfl, V1.mono F2, V2, A2⟩
end
end SL

set_option maxRecDepth 100000
set_option maxHeartbeats 1000000
/-! dict(xs) of pairs with tuples as keys. -/
namespace SL
open PySem L2 PyProof.Rows PySem.W
set_option autoImplicit false
section
variable {n : Nam} {ι : List Addr} {H : Hp} {hp : Hs} {W : Wx} {X : Cx} {P : Wd} {pins : List (Addr × Obj)} {σ : L2.St} {s : Shared}
theorem VRn.merge : ∀ {more : List (NestedKey × Addr × Value)} {us : List (Wv × Wv)}, VRn n ι H more us → ∀ {xs : List (NestedKey × Addr × Value)} {ws : List (Wv × Wv)}, VRn n ι H xs ws → VRn n ι H (storedAllH xs more) (mergeW ws us)
  | _, _, .nil, _, _, h => h
  | _, _, .cons a1 a2 a3 a4 a5 a6 a7 t, _, _, h => by
    subst a5
    exact t.merge (h.put a1 a2 a3 a4 a6 a7)
abbrev Prs : Type := Addr × NestedKey × Addr × Value
theorem prs (hK : KW X n) (I : Inv X pins σ H s) : ∀ {vs : List V} {ws : List Wv}, VRs n ι H vs ws → ∀ {us : List Value} {ps : List (Wv × Wv)}, Vals vs us → pairsW ws = some ps →
    ∃ L : List Prs, us = L.map (fun q => Value.ref q.1) ∧ VRn n ι H (L.map (·.2)) ps ∧ ∀ q ∈ L, PairAt s.heap q.1 (.ref q.2.2.1) q.2.2.2
  | _, _, .nil, us, ps, r, e => by
    cases r
    simp only [pairsW, Option.some.injEq] at e
    subst e
    exact ⟨[], rfl, .nil, fun q hq => by cases hq⟩
  | _, _, .cons (w := w) (ws := ws) h t, us, ps, r, e => by
    cases r with
    | @cons _ u _ us r1 r2 =>
      unfold pairsW at e
      split at e
      · cases ‹_ :: _ = []›
      · rename_i k v r' eq
        cases eq
        split at e
        · rename_i ko
          obtain ⟨qs, e2, rfl⟩ := Option.map_eq_some_iff.mp e
          obtain ⟨L, l1, l2, l3⟩ := prs hK I t r2 e2
          obtain ⟨kws, d, rfl, k2, k3, k4⟩ := keyOk_of ko
          cases h with
          | @tup a vs' _ ha hs =>
            cases r1
            cases hs with
            | @cons v1 _ _ _ g1 g2 =>
              cases g2 with
              | @cons v2 _ _ _ g3 g4 =>
                cases g4
                obtain ⟨its, rv, hT, _⟩ := I.tuple (hK.K ▸ ha.seq)
                cases rv with
                | @cons _ u1 _ _ y1 y2 =>
                  cases y2 with
                  | @cons _ u2 _ _ y3 y4 =>
                    cases y4
                    cases g1 with
                    | @tup b _ _ gb gs =>
                      cases y1
                      refine ⟨(a, keyD d, b, u2) :: L, by rw [List.map_cons, l1], ?_, fun q hq => ?_⟩
                      · rw [List.map_cons]
                        exact .cons (.tup gb gs) k2 k3 k4 rfl g3 y3 l2
                      · rcases List.mem_cons.mp hq with rfl | hq
                        · exact .inl hT
                        · exact l3 q hq
        · cases e
      · cases e
theorem dk_empty' {H' : Hp} {h' : Heap} {a : Addr} (hd : (a == sysModules) = false) (dd : h'.DictOfH (nestedKind X.prog X.w) a []) : ObjOk X.prog X.w H' h' a (.dK []) := by
  obtain ⟨o, es, ep, h1, h2, h3, h4, _, _⟩ := dd
  have hl : es.toList = [] := by rw [h4]; rfl
  refine ⟨by simp, hd, [], .nil, o, es, ep, h1, h2, h3, fun e he => ?_, by rw [hl]; exact .nil, List.nodup_nil⟩
  have : e ∈ es.toList := Array.mem_toList_iff.mpr he
  rw [hl] at this
  cases this
theorem g_dof {a : Expr} {x : Ex} {p pos : Pos} (hK : KW X n) (hc : X.calm = true) (hu : X.A.units + 64 < cLine) (hg : Gl X "dict") (hm : X.mg "dict" = none) (ha : PE X a (G n W P x))
    (na : starEach [a] X.env = (false, eval a X.env) :: starEach [] X.env) : PE X (.Call (.Name "dict" p) [a] [] pos) (G n W P (.blt .dof [x])) := by
  refine ⟨fun pins s σ H Q I ⟨ι, ee, hp, S, A⟩ => ?_⟩
  rw [blt1] at A
  refine Call_ (ld_blt I hg hm boot_dict ?_)
  refine callWith_type1 (args_cons (thn (ha.run pins s σ H _ I ⟨ι, ee, hp, S, Af.bind A⟩) fun v s1 h1 => args_nil ?_) na) na rfl
  obtain ⟨v1, H1, I1, r1, ι1, hp1, w1, F1, R1, V1, A1⟩ := h1
  simp only [blt] at A1
  split at A1
  · rename_i ps e
    obtain ⟨ws, e1, e2⟩ := Option.bind_eq_some_iff.mp e
    obtain ⟨l, vs, rfl, h1, h2⟩ := getL_rel R1 V1 e1
    obtain ⟨its, rv, hl, hz⟩ := I1.list (hK.K ▸ h1)
    cases r1
    have free := I1.ok.hd hc
    obtain ⟨L, l1, l2, l3⟩ := prs hK I1 h2 rv e2
    have len : L.length = vs.length := by
      have a1 := rv.length
      rw [l1, List.length_map] at a1
      omega
    have isk := l2.isk hK I1
    have hd : (s1.heap.objs.size == sysModules) = false := beq_eq_false_iff_ne.mpr (Ne.symm (Nat.ne_of_lt I1.big))
    obtain ⟨Ts, hTs⟩ : ∃ Ts : Nat → Addr, ∀ j q, L[j]? = some q → Ts j = q.1 := ⟨fun j => (L.map (·.1)).getD j 0, fun j q hq => by
      show (L.map (·.1)).getD j 0 = q.1
      rw [List.getD_eq_getElem?_getD, List.getElem?_map, hq]; rfl⟩
    have items : PairItems s1.heap its.toArray Ts (L.map fun q => (Value.ref q.2.2.1, q.2.2.2)) := by
      refine ⟨by rw [l1]; simp, fun j k v hj => ?_⟩
      rw [List.getElem?_map, Option.map_eq_some_iff] at hj
      obtain ⟨q, hq, e⟩ := hj
      cases e
      have gd := hTs j q hq
      refine ⟨?_, ?_⟩
      · rw [l1, List.getElem?_toArray, List.getElem?_map, hq, gd]; rfl
      · rw [gd]; exact l3 q (List.mem_of_getElem? hq)
    refine call_dict_pairsH (knd := nestedKind X.prog X.w) (ps := L.map (·.2)) (PairArg.list l its.toArray Ts (L.map fun q => (Value.ref q.2.2.1, q.2.2.2))) free ?_ ⟨?_, items⟩ ⟨by simp, fun i key v hr => ?_⟩ (fun h' hk x hx => ?_) (by rw [List.length_map, len]; exact hz) fun h' tk dd keep => ?_
    · have e1 : X.A.in1.in1.units = X.A.units + 2 := rfl
      show X.A.in1.in1.units + 8 < cLine
      omega
    · exact hl
    · have hr' : (L.map fun q => (Value.ref q.2.2.1, q.2.2.2))[i]? = some (key, v) := hr
      rw [List.getElem?_map, Option.map_eq_some_iff] at hr'
      obtain ⟨q, hq, e⟩ := hr'
      cases e
      exact ⟨q.2.1, q.2.2.1, by rw [List.getElem?_map, hq]; rfl, rfl⟩
    · obtain ⟨k1, k2⟩ := isk x hx
      refine ⟨NestedIs.at (fun b o vs m hb _ => hk b o (fun z => ?_) (by simp) hb) _ _ k1, k2⟩
      rw [z] at hb
      exact absurd (Heap.lt_size hb) (Nat.lt_irrefl _)
    · have nn : H1 s1.heap.objs.size = none := I1.hok.fresh (Nat.le_refl _)
      have hk : (ι1 ++ [s1.heap.objs.size])[hp1.length]? = some s1.heap.objs.size := by rw [← R1.len, List.getElem?_append_right (Nat.le_refl _), Nat.sub_self]; rfl
      by_cases c : ps.isEmpty = true
      · rw [if_pos c] at A1
        have hn : ps = [] := List.isEmpty_iff.mp c
        subst hn
        have hL : L = [] := by
          have := l2.length
          rw [List.length_map, List.length_nil] at this
          exact List.length_eq_zero_iff.mp this
        subst hL
        obtain ⟨F2, R2⟩ := R1.push nn (ho := .dK []) (o := .dic []) fun F => .dic .nil
        exact ⟨.ref s1.heap.objs.size, _, I1.laid (t' := tk) (fun b u q => keep b u (by simp) q) (Nat.le_refl _) (dk_empty' hd dd), rfl, A1 _ _ _ F2 R2 (.ref hk)⟩
      · rw [if_neg c] at A1
        obtain ⟨F2, R2⟩ := R1.push nn (ho := .ext (RawN n.w s1.heap.objs.size (storedAllH [] (L.map (·.2))))) (o := .dcn (mergeW [] ps)) fun F => .dcn ((VRn.merge l2 .nil).mono F)
        have hlen : (storedAllH ([] : List (NestedKey × Addr × Value)) (L.map (·.2))).length ≤ sizeLine := by
          have := storedAllH_length (L.map (·.2)) ([] : List (NestedKey × Addr × Value))
          rw [List.length_map, List.length_nil] at this
          omega
        exact ⟨.ref s1.heap.objs.size, _, I1.laid (t' := tk) (fun b u q => keep b u (by simp) q) (Nat.le_refl _) (n_new hK hlen hd dd), rfl, A1 _ _ _ F2 R2 (.ref hk)⟩
  · exact A1.elim
end
end SL

set_option maxRecDepth 100000
set_option maxHeartbeats 1000000
/-! What loops walk: lists and tuples, enumerate, zip. -/
namespace SL
open PySem L2 PyProof.Rows
set_option autoImplicit false

def SqB (K : PySem.W.Frag) (H : Hp) (b : Bool) (a : Addr) (xs : List V) : Prop := match b with | true => SqT K H a xs | false => SqL K H a xs
def ItB (h : Heap) (b : Bool) (it a : Addr) (i : Nat) : Prop := match b with | true => h.IsTupleIter it a i | false => h.IsListIter it a i
def IsB (h : Heap) (b : Bool) (a : Addr) (its : Array Value) : Prop := match b with | true => h.IsTuple a its | false => h.IsList a its
def obB (b : Bool) (a : Addr) : Obj := match b with | true => { cls := .type "tuple_iterator", data := .fields #[.ref a, .int 0 0] } | false => { cls := .type "list_iterator", data := .fields #[.ref a, .int 0 0] }
section
variable {X : Cx} {pins : List (Addr × Obj)} {σ : L2.St} {H : Hp} {s : Shared}
theorem seqB (I : Inv X pins σ H s) {b : Bool} {a : Addr} {xs : List V} (h : SqB X.K H b a xs) : ∃ its : List Value, Vals xs its ∧ IsB s.heap b a its.toArray ∧ a < s.heap.objs.size := by
  cases b with
  | true =>
    obtain ⟨its, rv, p, hz⟩ := I.tuple h
    obtain ⟨o, ho, _⟩ := id p
    exact ⟨its, rv, p, Heap.lt_size ho⟩
  | false =>
    obtain ⟨its, rv, p, hz⟩ := I.list h
    exact ⟨its, rv, p.isList, p.lt⟩
theorem seqB_inj (I : Inv X pins σ H s) {b : Bool} {a : Addr} {xs ys : List V} (h : SqB X.K H b a xs) (h' : SqB X.K H b a ys) : xs = ys := by
  cases b with
  | true => exact I.tuple_inj h h'
  | false => exact I.list_inj h h'
theorem ItB.keep {h h' : Heap} {b : Bool} {it a : Addr} {i : Nat} (x : ItB h b it a i) (k : ∀ o, h.get? it = some o → h'.get? it = some o) : ItB h' b it a i := by
  cases b with
  | true => exact Heap.IsTupleIter.at x k
  | false => exact Heap.IsListIter.at x k
theorem ItB.obj {h : Heap} {b : Bool} {it a : Addr} {i : Nat} (x : ItB h b it a i) : ∃ o, h.get? it = some o ∧ ∀ v, o.data ≠ .cell v := by
  cases b with
  | true =>
    obtain ⟨o, e, c, d⟩ := x
    exact ⟨o, e, fun v z => by rw [d] at z; cases z⟩
  | false =>
    obtain ⟨o, e, c, d⟩ := x
    exact ⟨o, e, fun v z => by rw [d] at z; cases z⟩
theorem itB_new {h : Heap} {b : Bool} {it a : Addr} (e : h.get? it = some (obB b a)) : ItB h b it a 0 := by
  cases b with
  | true => exact ⟨_, e, rfl, rfl⟩
  | false => exact ⟨_, e, rfl, rfl⟩
theorem drawsB {prog : Program} {w : World} {A : Around} (hh : A.handled = none) (b : Bool) (it a : Addr) (hne : a ≠ it) (items : Array Value) :
    Draws prog w A it [it, a] items.size (fun i v => items[i]? = some v) (fun i h => ItB h b it a i ∧ IsB h b a items) := by
  cases b with
  | true => exact Draws.tuple hh it a hne items
  | false => exact Draws.list hh it a hne items
theorem beginsB (b : Bool) (a : Addr) (items : Array Value) : Begins (.ref a) (obB b a) fun h => IsB h b a items := by
  cases b with
  | true => exact begins_tuple a items
  | false => exact begins_list a items
theorem obB_free (b : Bool) (a : Addr) : (obB b a).isFreed = false := by cases b <;> rfl

/-- an iterator of new tuples -/
theorem turn_goes {P : Program} {w : World} {K : PySem.W.Frag} {tg : Expr} {J : It} {own wr : List Addr} {it : Addr} {tn : Nat → Heap → Prop} (mem : it ∈ own) (sub : ∀ b ∈ wr, b ∈ own)
    (obj : ∀ i h, tn i h → ∀ b ∈ own, ∃ o, h.get? b = some o ∧ ∀ v, o.data ≠ .cell v) (keep : ∀ i h h', tn i h → (∀ b ∈ own, ∀ o, h.get? b = some o → h'.get? b = some o) → tn i h')
    (go : ∀ (X : Cx), X.prog = P → X.w = w → X.K = K → X.calm = true → ∀ (i : Nat) (pins : List (Addr × Obj)) (s : Shared) (σ : L2.St) (H : Hp), Inv X pins σ H s → tn i s.heap → J.go i H →
      ∃ (fp : List Addr) (n : Nat) (Y : Nat → Heap → Value → Heap → Prop) (St : Nat → Heap → Prop), GoesN P w X.A tg it fp wr n Y St ∧ St i s.heap ∧ i < n ∧
        ∀ v h', Y i s.heap v h' → St (i + 1) h' → tn (i + 1) h' ∧ ∃ (T : Addr) (xs : List V) (its : List Value), v = .ref T ∧ s.heap.objs.size ≤ T ∧ h'.IsTuple T its.toArray ∧ xs.length ≤ sizeLine ∧ Vals xs its ∧ (H T = none → J.yld i H (.ref T) (upd H T (.tup xs))))
    (stop : ∀ (X : Cx), X.prog = P → X.w = w → X.K = K → X.calm = true → ∀ (i : Nat) (pins : List (Addr × Obj)) (s : Shared) (σ : L2.St) (H : Hp), Inv X pins σ H s → tn i s.heap → J.stop i H →
      ∃ (fp : List Addr) (Y : Nat → Heap → Value → Heap → Prop) (St : Nat → Heap → Prop), GoesN P w X.A tg it fp wr i Y St ∧ St i s.heap)
    (self : ∀ (A : Around) (i : Nat) (s : Shared) (Q : Value → Shared → Prop) (E : Value → Shared → Prop), tn i s.heap → Q (.ref it) s → wpAny (model P w) A (pyIter (.ref it)) Q E s) : Turn P w K tg J own it tn where
  mem := mem
  obj := obj
  keep := keep
  item := by
    intro X hP hw hK hc i pins s σ H E I hf st hg
    obtain ⟨fp, n, Y, St, G, hst, hi, next⟩ := go X hP hw hK hc i pins s σ H I st hg
    subst hP hw hK
    refine G.goes i s _ E hi hst fun v h' tk hY hst' hk htk => ?_
    obtain ⟨st', T, xs, its, rfl, hT, hTt, hz, rv, y⟩ := next v h' hY hst'
    have hn : H T = none := I.hok.fresh hT
    have new : ObjOk X.prog X.w (upd H T (.tup xs)) h' T (.tup xs) := ⟨hz, its, rv, hTt⟩
    have I1 : Inv X pins σ (upd H T (.tup xs)) { s with heap := h', toks := tk } := I.turnedNew (ch := own) (fun b o hb e => hk b o (fun z => hb (sub b z)) e) hf hT new
    refine ⟨.ref T, _, I1, rfl, y hn, st', fun b hb => ?_⟩
    obtain ⟨o, ho, _⟩ := obj _ _ st b hb
    rw [upd_ne (Nat.ne_of_lt (Nat.lt_of_lt_of_le (Heap.lt_size ho) hT))]
    exact (hf b hb).1
  done := by
    intro X hP hw hK hc i pins s σ H E I hf st hg
    obtain ⟨fp, Y, St, G, hst⟩ := stop X hP hw hK hc i pins s σ H I st hg
    subst hP hw hK
    exact G.stops s _ E hst fun h' tk hk htk => I.turnedL (ch := own) (fun b o hb e => hk b o (fun z => hb (sub b z)) e) hf
  self := self
end
end SL

set_option maxRecDepth 100000
set_option maxHeartbeats 1000000
/-! enumerate and zip by walks; what the evaluator's sources are. -/
namespace SL
open PySem L2 PyProof.Rows
set_option autoImplicit false

def JS (K : PySem.W.Frag) (b : Bool) (a : Addr) : It :=
  ⟨fun i H => ∃ xs x, SqB K H b a xs ∧ xs[i]? = some x, fun i H x H' => H' = H ∧ ∀ xs, SqB K H b a xs → xs[i]? = some x, fun i H => ∃ xs, SqB K H b a xs ∧ xs.length ≤ i⟩
def JE (K : PySem.W.Frag) (b : Bool) (a : Addr) : It :=
  ⟨fun i H => ∃ (xs : List V) (x : V), SqB K H b a xs ∧ xs[i]? = some x, fun i H v H' => ∃ T x, v = .ref T ∧ H T = none ∧ H' = upd H T (.tup [.int (i : Nat), x]) ∧ ∀ xs, SqB K H b a xs → xs[i]? = some x, fun i H => ∃ xs : List V, SqB K H b a xs ∧ xs.length = i⟩
def JZ (K : PySem.W.Frag) (b : Bool) (a : Addr) (b' : Bool) (a' : Addr) : It :=
  ⟨fun i H => ∃ (xs ys : List V) (x y : V), SqB K H b a xs ∧ SqB K H b' a' ys ∧ xs[i]? = some x ∧ ys[i]? = some y,
    fun i H v H' => ∃ T x y, v = .ref T ∧ H T = none ∧ H' = upd H T (.tup [x, y]) ∧ (∀ xs, SqB K H b a xs → xs[i]? = some x) ∧ ∀ ys, SqB K H b' a' ys → ys[i]? = some y,
    fun i H => ∃ xs ys : List V, SqB K H b a xs ∧ SqB K H b' a' ys ∧ i = min xs.length ys.length⟩
def JZ3 (K : PySem.W.Frag) (b : Bool) (a : Addr) (b' : Bool) (a' : Addr) (b2 : Bool) (a2 : Addr) : It :=
  ⟨fun i H => ∃ (xs ys zs : List V) (x y z : V), SqB K H b a xs ∧ SqB K H b' a' ys ∧ SqB K H b2 a2 zs ∧ xs[i]? = some x ∧ ys[i]? = some y ∧ zs[i]? = some z,
    fun i H v H' => ∃ T x y z, v = .ref T ∧ H T = none ∧ H' = upd H T (.tup [x, y, z]) ∧ (∀ xs, SqB K H b a xs → xs[i]? = some x) ∧ (∀ ys, SqB K H b' a' ys → ys[i]? = some y) ∧ ∀ zs, SqB K H b2 a2 zs → zs[i]? = some z,
    fun i H => ∃ xs ys zs : List V, SqB K H b a xs ∧ SqB K H b' a' ys ∧ SqB K H b2 a2 zs ∧ i = min (min xs.length ys.length) zs.length⟩
theorem get_of {xs : List V} {its : List Value} (rv : Vals xs its) {i : Nat} {x : V} (hx : xs[i]? = some x) {u : Value} (hu : its.toArray[i]? = some u) : RelV x u := by
  obtain ⟨u', h1, h2⟩ := rv.get hx
  have : its.toArray[i]? = some u' := by simpa using h1
  rw [hu] at this; cases this; exact h2
theorem lt_of_get {α : Type} {l : List α} {i : Nat} {x : α} (h : l[i]? = some x) : i < l.length := (List.getElem?_eq_some_iff.mp h).1
theorem vlen {xs : List V} {its : List Value} (rv : Vals xs its) : its.toArray.size = xs.length := by rw [List.size_toArray, rv.length]
theorem two_line : 2 ≤ sizeLine := by decide
theorem three_line : 3 ≤ sizeLine := by decide

theorem turn_enumB {P : Program} {w : World} {K : PySem.W.Frag} {elts : List Expr} {kk : Nat} {tpos : Pos} (b : Bool) (a e it : Addr) (h1 : e ≠ it) (h2 : e ≠ a) (h3 : a ≠ it) :
    Turn P w K (.Tuple elts kk tpos) (JE K b a) [e, it] e (fun i h => (∃ old, IsEnum h e it (0 + (i : Int)) old) ∧ ItB h b it a i) := by
  refine turn_goes (wr := [e, it]) (by simp) (fun b hb => hb) (fun i h st c hc => ?_) (fun i h h' st k => ?_) (fun X hP hw hK hcalm i pins s σ H I st hg => ?_) (fun X hP hw hK hcalm i pins s σ H I st hg => ?_) fun A i s Q E st h => ?_
  · obtain ⟨⟨old, he⟩, hi⟩ := st
    have e' : c = e ∨ c = it := by simpa using hc
    rcases e' with z | z
    · rw [z]; exact ⟨_, he, fun v q => nomatch q⟩
    · rw [z]; exact hi.obj
  · obtain ⟨⟨old, he⟩, hi⟩ := st
    exact ⟨⟨old, k e (by simp) _ he⟩, hi.keep fun o q => k it (by simp) o q⟩
  · subst hP hw hK
    obtain ⟨xs, x, hq, hx⟩ := hg
    obtain ⟨its, rv, p, _⟩ := seqB I hq
    have D := drawsB (prog := X.prog) (w := X.w) (A := X.A.in1) (I.ok.hd hcalm) b it a h3 its.toArray
    refine ⟨_, _, _, _, GoesN.enumFrom 0 D e h1 (by simp [h1, h2]) (by simp), ⟨st.1, st.2, p⟩, by rw [vlen rv]; exact lt_of_get hx, fun v h' hY hst' => ⟨⟨hst'.1, hst'.2.1⟩, ?_⟩⟩
    obtain ⟨T, t, u, ev, hn, hu, hT⟩ := hY
    refine ⟨T, [.int (i : Nat), x], [.int (0 + (i : Int)) t, u], ev, hn, hT, two_line, .cons ⟨t, by simp⟩ (.cons (get_of rv hx hu) .nil), fun hnn => ⟨T, x, rfl, hnn, rfl, fun ys hy => ?_⟩⟩
    rw [seqB_inj I hy hq]; exact hx
  · subst hP hw hK
    obtain ⟨xs, hq, hx⟩ := hg
    obtain ⟨its, rv, p, _⟩ := seqB I hq
    have D := drawsB (prog := X.prog) (w := X.w) (A := X.A.in1) (I.ok.hd hcalm) b it a h3 its.toArray
    rw [vlen rv, hx] at D
    exact ⟨_, _, _, GoesN.enumFrom 0 D e h1 (by simp [h1, h2]) (by simp), st.1, st.2, p⟩
  · obtain ⟨⟨old, he⟩, hi⟩ := st
    exact wpAny_pyIter_enum he h
theorem sep2 {N a a' : Addr} (h1 : a < N) (h2 : a' < N) : ZipSep2 (N + 4) (N + 2) (N + 3) N (N + 1) [N, a] [N + 1, a'] := zip_sep2 (fp1 := [a]) (fp2 := [a']) (by simpa using h1) (by simpa using h2)
theorem sep3 {N a a' a2 : Addr} (h1 : a < N) (h2 : a' < N) (h3 : a2 < N) : ZipSep3 (N + 5) (N + 3) (N + 4) N (N + 1) (N + 2) [N, a] [N + 1, a'] [N + 2, a2] := zip_sep3 (fp1 := [a]) (fp2 := [a']) (fp3 := [a2]) (by simpa using h1) (by simpa using h2) (by simpa using h3)
theorem turn_zipB {P : Program} {w : World} {K : PySem.W.Frag} {elts : List Expr} {kk : Nat} {tpos : Pos} (b : Bool) (a : Addr) (b' : Bool) (a' : Addr) (N : Addr) (h1 : a < N) (h2 : a' < N) :
    Turn P w K (.Tuple elts kk tpos) (JZ K b a b' a') [N + 4, N + 2, N + 3, N, N + 1] (N + 4) (fun i h => IsZip h (N + 4) (N + 2) (N + 3) .none ∧ IsTupOf2 h (N + 2) (.ref N) (.ref (N + 1)) ∧ (∃ x y, IsTupOf2 h (N + 3) x y) ∧ ItB h b N a i ∧ ItB h b' (N + 1) a' i) := by
  have S := sep2 h1 h2
  refine turn_goes (wr := [N + 4, N + 3, N, N + 1]) (by simp) (fun b hb => by simp only [List.mem_cons, List.not_mem_nil, or_false] at hb; rcases hb with q | q | q | q <;> simp [q]) (fun i h st c hc => ?_) (fun i h h' st k => ?_) (fun X hP hw hK hcalm i pins s σ H I st hg => ?_) (fun X hP hw hK hcalm i pins s σ H I st hg => ?_) fun A i s Q E st h => wpAny_pyIter_zip st.1 h
  · obtain ⟨hz, hTI, ⟨x, y, hTO⟩, i1, i2⟩ := st
    simp only [List.mem_cons, List.not_mem_nil, or_false] at hc
    rcases hc with q | q | q | q | q <;> rw [q]
    · exact ⟨_, hz, fun v q => nomatch q⟩
    · exact ⟨_, hTI, fun v q => nomatch q⟩
    · exact ⟨_, hTO, fun v q => nomatch q⟩
    · exact i1.obj
    · exact i2.obj
  · obtain ⟨hz, hTI, ⟨x, y, hTO⟩, i1, i2⟩ := st
    exact ⟨k _ (by simp) _ hz, k _ (by simp) _ hTI, ⟨x, y, k _ (by simp) _ hTO⟩, i1.keep fun o q => k _ (by simp) o q, i2.keep fun o q => k _ (by simp) o q⟩
  · subst hP hw hK
    obtain ⟨xs, ys, x, y, hq, hq', hx, hy⟩ := hg
    obtain ⟨its, rv, p, _⟩ := seqB I hq
    obtain ⟨its', rv', p', _⟩ := seqB I hq'
    have D := drawsB (prog := X.prog) (w := X.w) (A := X.A.in1) (I.ok.hd hcalm) b N a (Nat.ne_of_lt h1) its.toArray
    have D' := drawsB (prog := X.prog) (w := X.w) (A := X.A.in1) (I.ok.hd hcalm) b' (N + 1) a' (Nat.ne_of_lt (Nat.lt_succ_of_lt h2)) its'.toArray
    refine ⟨_, _, _, _, GoesN.zip2 S D D', ⟨st.1, st.2.1, st.2.2.1, ⟨st.2.2.2.1, p⟩, st.2.2.2.2, p'⟩, ?_, fun v h' hY hst' => ⟨⟨hst'.1, hst'.2.1, hst'.2.2.1, hst'.2.2.2.1.1, hst'.2.2.2.2.1⟩, ?_⟩⟩
    · have := lt_of_get hx
      have := lt_of_get hy
      rw [vlen rv, vlen rv']; omega
    · obtain ⟨T, u, u', ev, hn, hu, hu', hT⟩ := hY
      refine ⟨T, [x, y], [u, u'], ev, hn, hT, two_line, .cons (get_of rv hx hu) (.cons (get_of rv' hy hu') .nil), fun hnn => ⟨T, x, y, rfl, hnn, rfl, fun l hl => ?_, fun l hl => ?_⟩⟩
      · rw [seqB_inj I hl hq]; exact hx
      · rw [seqB_inj I hl hq']; exact hy
  · subst hP hw hK
    obtain ⟨xs, ys, hq, hq', hi⟩ := hg
    obtain ⟨its, rv, p, _⟩ := seqB I hq
    obtain ⟨its', rv', p', _⟩ := seqB I hq'
    have D := drawsB (prog := X.prog) (w := X.w) (A := X.A.in1) (I.ok.hd hcalm) b N a (Nat.ne_of_lt h1) its.toArray
    have D' := drawsB (prog := X.prog) (w := X.w) (A := X.A.in1) (I.ok.hd hcalm) b' (N + 1) a' (Nat.ne_of_lt (Nat.lt_succ_of_lt h2)) its'.toArray
    have G := GoesN.zip2 (elts := elts) (x1 := kk) (pos := tpos) S D D'
    rw [vlen rv, vlen rv', ← hi] at G
    exact ⟨_, _, _, G, st.1, st.2.1, st.2.2.1, ⟨st.2.2.2.1, p⟩, st.2.2.2.2, p'⟩
theorem turn_zipB3 {P : Program} {w : World} {K : PySem.W.Frag} {elts : List Expr} {kk : Nat} {tpos : Pos} (b : Bool) (a : Addr) (b' : Bool) (a' : Addr) (b2 : Bool) (a2 : Addr) (N : Addr) (h1 : a < N) (h2 : a' < N) (h3 : a2 < N) :
    Turn P w K (.Tuple elts kk tpos) (JZ3 K b a b' a' b2 a2) [N + 5, N + 3, N + 4, N, N + 1, N + 2] (N + 5) (fun i h => IsZip h (N + 5) (N + 3) (N + 4) .none ∧ IsTupOf3 h (N + 3) (.ref N) (.ref (N + 1)) (.ref (N + 2)) ∧ (∃ x y z, IsTupOf3 h (N + 4) x y z) ∧ ItB h b N a i ∧ ItB h b' (N + 1) a' i ∧ ItB h b2 (N + 2) a2 i) := by
  have S := sep3 h1 h2 h3
  refine turn_goes (wr := [N + 5, N + 4, N, N + 1, N + 2]) (by simp) (fun b hb => by simp only [List.mem_cons, List.not_mem_nil, or_false] at hb; rcases hb with q | q | q | q | q <;> simp [q]) (fun i h st c hc => ?_) (fun i h h' st k => ?_) (fun X hP hw hK hcalm i pins s σ H I st hg => ?_) (fun X hP hw hK hcalm i pins s σ H I st hg => ?_) fun A i s Q E st h => wpAny_pyIter_zip st.1 h
  · obtain ⟨hz, hTI, ⟨x, y, z, hTO⟩, i1, i2, i3⟩ := st
    simp only [List.mem_cons, List.not_mem_nil, or_false] at hc
    rcases hc with q | q | q | q | q | q <;> rw [q]
    · exact ⟨_, hz, fun v q => nomatch q⟩
    · exact ⟨_, hTI, fun v q => nomatch q⟩
    · exact ⟨_, hTO, fun v q => nomatch q⟩
    · exact i1.obj
    · exact i2.obj
    · exact i3.obj
  · obtain ⟨hz, hTI, ⟨x, y, z, hTO⟩, i1, i2, i3⟩ := st
    exact ⟨k _ (by simp) _ hz, k _ (by simp) _ hTI, ⟨x, y, z, k _ (by simp) _ hTO⟩, i1.keep fun o q => k _ (by simp) o q, i2.keep fun o q => k _ (by simp) o q, i3.keep fun o q => k _ (by simp) o q⟩
  · subst hP hw hK
    obtain ⟨xs, ys, zs, x, y, z, hq, hq', hq2, hx, hy, hz⟩ := hg
    obtain ⟨its, rv, p, _⟩ := seqB I hq
    obtain ⟨its', rv', p', _⟩ := seqB I hq'
    obtain ⟨its2, rv2, p2, _⟩ := seqB I hq2
    have D := drawsB (prog := X.prog) (w := X.w) (A := X.A.in1) (I.ok.hd hcalm) b N a (Nat.ne_of_lt h1) its.toArray
    have D' := drawsB (prog := X.prog) (w := X.w) (A := X.A.in1) (I.ok.hd hcalm) b' (N + 1) a' (Nat.ne_of_lt (Nat.lt_succ_of_lt h2)) its'.toArray
    have D2 := drawsB (prog := X.prog) (w := X.w) (A := X.A.in1) (I.ok.hd hcalm) b2 (N + 2) a2 (Nat.ne_of_lt (Nat.lt_succ_of_lt (Nat.lt_succ_of_lt h3))) its2.toArray
    refine ⟨_, _, _, _, GoesN.zip3 S D D' D2, ⟨st.1, st.2.1, st.2.2.1, ⟨st.2.2.2.1, p⟩, ⟨st.2.2.2.2.1, p'⟩, st.2.2.2.2.2, p2⟩, ?_, fun v h' hY hst' => ⟨⟨hst'.1, hst'.2.1, hst'.2.2.1, hst'.2.2.2.1.1, hst'.2.2.2.2.1.1, hst'.2.2.2.2.2.1⟩, ?_⟩⟩
    · have := lt_of_get hx
      have := lt_of_get hy
      have := lt_of_get hz
      rw [vlen rv, vlen rv', vlen rv2]; omega
    · obtain ⟨T, u, u', u2, ev, hn, hu, hu', hu2, hT⟩ := hY
      refine ⟨T, [x, y, z], [u, u', u2], ev, hn, hT, three_line, .cons (get_of rv hx hu) (.cons (get_of rv' hy hu') (.cons (get_of rv2 hz hu2) .nil)), fun hnn => ⟨T, x, y, z, rfl, hnn, rfl, fun l hl => ?_, fun l hl => ?_, fun l hl => ?_⟩⟩
      · rw [seqB_inj I hl hq]; exact hx
      · rw [seqB_inj I hl hq']; exact hy
      · rw [seqB_inj I hl hq2]; exact hz
  · subst hP hw hK
    obtain ⟨xs, ys, zs, hq, hq', hq2, hi⟩ := hg
    obtain ⟨its, rv, p, _⟩ := seqB I hq
    obtain ⟨its', rv', p', _⟩ := seqB I hq'
    obtain ⟨its2, rv2, p2, _⟩ := seqB I hq2
    have D := drawsB (prog := X.prog) (w := X.w) (A := X.A.in1) (I.ok.hd hcalm) b N a (Nat.ne_of_lt h1) its.toArray
    have D' := drawsB (prog := X.prog) (w := X.w) (A := X.A.in1) (I.ok.hd hcalm) b' (N + 1) a' (Nat.ne_of_lt (Nat.lt_succ_of_lt h2)) its'.toArray
    have D2 := drawsB (prog := X.prog) (w := X.w) (A := X.A.in1) (I.ok.hd hcalm) b2 (N + 2) a2 (Nat.ne_of_lt (Nat.lt_succ_of_lt (Nat.lt_succ_of_lt h3))) its2.toArray
    have G := GoesN.zip3 (elts := elts) (x1 := kk) (pos := tpos) S D D' D2
    rw [vlen rv, vlen rv', vlen rv2, ← hi] at G
    exact ⟨_, _, _, G, st.1, st.2.1, st.2.2.1, ⟨st.2.2.2.1, p⟩, ⟨st.2.2.2.2.1, p'⟩, st.2.2.2.2.2, p2⟩

/-! ### the readings -/
section
variable {X : Cx} {tg : Expr}
def iSq (K : PySem.W.Frag) (te : TE) : TI := fun σ H R => te σ H fun x H1 => ∃ b a, x = .ref a ∧ (∃ xs, SqB K H1 b a xs) ∧ R (JS K b a) H1
theorem pi_sq {e : Expr} {te : TE} (he : PE X e te) : PI X tg e (iSq X.K te) := by
  refine ⟨fun pins s σ H R I h => ?_⟩
  refine thn (he.run pins s σ H _ I h) fun v s1 ⟨x, H1, I1, r1, q1⟩ => ?_
  obtain ⟨b, a, ex, ⟨xs, hq⟩, q⟩ := q1
  subst ex
  cases r1
  cases b with
  | false =>
    obtain ⟨its, rv, p, hz⟩ := I1.list hq
    exact wpAny_pyIter_list p.isList (pi_one (tk := s1.toks) I1 _ (turn_list a _) ⟨_, Heap.get?_push_size _ rfl, rfl, rfl⟩ q)
  | true =>
    obtain ⟨its, rv, p, hz⟩ := I1.tuple hq
    exact wpAny_pyIter_tuple (show s1.heap.IsTuple a its.toArray from p) (pi_one (tk := s1.toks) I1 _ (turn_tuple a _) ⟨_, Heap.get?_push_size _ rfl, rfl, rfl⟩ q)
theorem fresh_fp {pins : List (Addr × Obj)} {σ : L2.St} {H : Hp} {s : Shared} (I : Inv X pins σ H s) {c : Addr} (h : s.heap.objs.size ≤ c) : FpOk X pins H c := I.fpOk h (I.hok.fresh h)
def iEn (K : PySem.W.Frag) (ta : TA) : TI := fun σ H R => ta σ H fun vs H1 => ∃ a xs, vs = [.ref a] ∧ SqB K H1 false a xs ∧ R (JE K false a) H1
theorem pi_en {e : Expr} {ta : TA} {p pos tpos : Pos} {elts : List Expr} {kk : Nat} (hg : Gl X "enumerate") (hm : X.mg "enumerate" = none) (ha : PA X [e] ta) (hs : starEach [e] X.env = [(false, eval e X.env)]) :
    PI X (.Tuple elts kk tpos) (.Call (.Name "enumerate" p) [e] [] pos) (iEn X.K ta) := by
  refine ⟨fun pins s σ H R I h => ?_⟩
  refine Call_ (ld_blt I hg hm boot_enumerate (PyProof.Rows.callWith_type1 (thn (ha.run pos pins s σ H _ I h) fun us s1 ⟨vs, H1, I1, r1, q1⟩ => ?_) hs rfl))
  obtain ⟨a, xs, ex, hq, q⟩ := q1
  subst ex
  cases r1 with
  | cons r rr =>
    cases rr
    cases r
    obtain ⟨its, rv, p', hz⟩ := I1.list (show SqL X.K H1 a xs from hq)
    have la : a < s1.heap.objs.size := p'.lt
    refine call_enumerate_list p'.isList fun h' he hit hsz hk => wpAny_pyIter_enum he ?_
    have I2 : Inv X pins σ H1 { s1 with heap := h' } := I1.kept (t' := s1.toks) hk
    refine ⟨s1.heap.objs.size + 1, [s1.heap.objs.size + 1, s1.heap.objs.size], _, _, H1, rfl, I2, turn_enumB false a (s1.heap.objs.size + 1) s1.heap.objs.size (Nat.succ_ne_self _) (Nat.ne_of_gt (Nat.lt_succ_of_lt la)) (Nat.ne_of_lt la), ⟨⟨.none, he⟩, hit⟩, fun b hb => ?_, q⟩
    simp only [List.mem_cons, List.not_mem_nil, or_false] at hb
    rcases hb with z | z <;> rw [z] <;> exact fresh_fp I1 (by simp)
def iZp (K : PySem.W.Frag) (ta : TA) : TI := fun σ H R => ta σ H fun vs H1 => ∃ b a xs b' a' ys, vs = [.ref a, .ref a'] ∧ SqB K H1 b a xs ∧ SqB K H1 b' a' ys ∧ R (JZ K b a b' a') H1
theorem pi_zp {e e2 : Expr} {ta : TA} {p pos tpos : Pos} {elts : List Expr} {kk : Nat} (hg : Gl X "zip") (hm : X.mg "zip" = none) (ha : PA X [e, e2] ta)
    (hs : starEach [e, e2] X.env = (false, eval e X.env) :: starEach [e2] X.env) (hpl : (backTo pos (starEach [e2] X.env)).any (·.1) = false) :
    PI X (.Tuple elts kk tpos) (.Call (.Name "zip" p) [e, e2] [] pos) (iZp X.K ta) := by
  refine ⟨fun pins s σ H R I h => ?_⟩
  refine Call_ (ld_blt I hg hm PyProof.Rows.boot_zip (PyProof.Rows.callWith_type1 (thn (ha.run pos pins s σ H _ I h) fun us s1 ⟨vs, H1, I1, r1, q1⟩ => ?_) hs hpl))
  obtain ⟨b, a, xs, b', a', ys, ex, hq, hq', q⟩ := q1
  subst ex
  cases r1 with
  | cons r rr =>
    cases rr with
    | cons r' rr =>
      cases rr
      cases r
      cases r'
      obtain ⟨its, rv, p1, l1⟩ := seqB I1 hq
      obtain ⟨its', rv', p2, l2⟩ := seqB I1 hq'
      refine zip_begins2 (beginsB b a its.toArray) (beginsB b' a' its'.toArray) p1 p2 fun h' hz hTI hTO h1 h2 hsz hk => wpAny_pyIter_zip hz ?_
      have I2 : Inv X pins σ H1 { s1 with heap := h' } := I1.kept (t' := s1.toks) hk
      refine ⟨s1.heap.objs.size + 4, [s1.heap.objs.size + 4, s1.heap.objs.size + 2, s1.heap.objs.size + 3, s1.heap.objs.size, s1.heap.objs.size + 1], _, _, H1, rfl, I2, turn_zipB b a b' a' s1.heap.objs.size l1 l2, ⟨hz, hTI, ⟨_, _, hTO⟩, itB_new h1, itB_new h2⟩, fun c hc => ?_, q⟩
      simp only [List.mem_cons, List.not_mem_nil, or_false] at hc
      rcases hc with z | z | z | z | z <;> rw [z] <;> exact fresh_fp I1 (by simp)
def iZp3 (K : PySem.W.Frag) (ta : TA) : TI := fun σ H R => ta σ H fun vs H1 => ∃ b a xs b' a' ys b2 a2 zs, vs = [.ref a, .ref a', .ref a2] ∧ SqB K H1 b a xs ∧ SqB K H1 b' a' ys ∧ SqB K H1 b2 a2 zs ∧ R (JZ3 K b a b' a' b2 a2) H1
theorem pi_zp3 {e e2 e3 : Expr} {ta : TA} {p pos tpos : Pos} {elts : List Expr} {kk : Nat} (hg : Gl X "zip") (hm : X.mg "zip" = none) (ha : PA X [e, e2, e3] ta)
    (hs : starEach [e, e2, e3] X.env = (false, eval e X.env) :: starEach [e2, e3] X.env) (hpl : (backTo pos (starEach [e2, e3] X.env)).any (·.1) = false) :
    PI X (.Tuple elts kk tpos) (.Call (.Name "zip" p) [e, e2, e3] [] pos) (iZp3 X.K ta) := by
  refine ⟨fun pins s σ H R I h => ?_⟩
  refine Call_ (ld_blt I hg hm PyProof.Rows.boot_zip (PyProof.Rows.callWith_type1 (thn (ha.run pos pins s σ H _ I h) fun us s1 ⟨vs, H1, I1, r1, q1⟩ => ?_) hs hpl))
  obtain ⟨b, a, xs, b', a', ys, b2, a2, zs, ex, hq, hq', hq2, q⟩ := q1
  subst ex
  cases r1 with
  | cons r rr =>
    cases rr with
    | cons r' rr =>
      cases rr with
      | cons r2 rr =>
        cases rr
        cases r
        cases r'
        cases r2
        obtain ⟨its, rv, p1, l1⟩ := seqB I1 hq
        obtain ⟨its', rv', p2, l2⟩ := seqB I1 hq'
        obtain ⟨its2, rv2, p3, l3⟩ := seqB I1 hq2
        refine zip_begins3 (beginsB b a its.toArray) (beginsB b' a' its'.toArray) (beginsB b2 a2 its2.toArray) p1 p2 p3 fun h' hz hTI hTO h1 h2 h3 hsz hk => wpAny_pyIter_zip hz ?_
        have I2 : Inv X pins σ H1 { s1 with heap := h' } := I1.kept (t' := s1.toks) hk
        refine ⟨s1.heap.objs.size + 5, [s1.heap.objs.size + 5, s1.heap.objs.size + 3, s1.heap.objs.size + 4, s1.heap.objs.size, s1.heap.objs.size + 1, s1.heap.objs.size + 2], _, _, H1, rfl, I2, turn_zipB3 b a b' a' b2 a2 s1.heap.objs.size l1 l2 l3, ⟨hz, hTI, ⟨_, _, _, hTO⟩, itB_new h1, itB_new h2, itB_new h3⟩, fun c hc => ?_, q⟩
        simp only [List.mem_cons, List.not_mem_nil, or_false] at hc
        rcases hc with z | z | z | z | z | z <;> rw [z] <;> exact fresh_fp I1 (by simp)
end
end SL

set_option maxRecDepth 100000
set_option maxHeartbeats 1000000
/-! The evaluator's walks, targets, comprehensions. -/
namespace SL
open PySem L2 PyProof.Rows
set_option autoImplicit false

section
variable {n : Nam} {ι : List Addr} {H : Hp} {hp : Hs}
abbrev Ck := List (Nat × List Wv)
theorem stay_append {h : Hs} : ∀ {p q : Ck}, stay h (p ++ q) = true → stay h p = true ∧ stay h q = true
  | [], _, e => ⟨rfl, e⟩
  | (k, ws) :: p, q, e => by
    simp only [List.cons_append, stay, Bool.and_eq_true] at e ⊢
    obtain ⟨h1, h2⟩ := stay_append e.2
    exact ⟨⟨e.1, h1⟩, h2⟩
/-- the items there, as long as the cells stay -/
def El (n : Nam) (ι : List Addr) (H : Hp) (b : Bool) (a : Addr) (ws : List Wv) (ck : Ck) : Prop :=
  ∀ ι' H' hp', Fr ι H ι' H' → HR n ι' H' hp' → stay hp' ck = true → ∃ vs, SqB n.K H' b a vs ∧ VRs n ι' H' vs ws
theorem srcOf_el (R : HR n ι H hp) {v : V} {w : Wv} (h : VR n ι H v w) {ws : List Wv} {ck : Ck} (e : srcOf hp w = some (ws, ck)) : ∃ b a, v = .ref a ∧ El n ι H b a ws ck ∧ stay hp ck = true := by
  cases h with
  | tup h hs =>
    simp only [srcOf, getS, Option.map_some, Option.some.injEq, Prod.mk.injEq] at e
    obtain ⟨rfl, rfl⟩ := e
    exact ⟨true, _, rfl, fun ι' H' hp' F R' st => ⟨_, (F.tup h).seq, hs.mono F⟩, rfl⟩
  | lst h hs =>
    simp only [srcOf, getS, getL, Option.map_some, Option.some.injEq, Prod.mk.injEq] at e
    obtain ⟨rfl, rfl⟩ := e
    exact ⟨false, _, rfl, fun ι' H' hp' F R' st => ⟨_, (F.lst h).seq, hs.mono F⟩, rfl⟩
  | @ref k a h =>
    simp only [srcOf, Option.map_eq_some_iff, Prod.mk.injEq] at e
    obtain ⟨ws', e1, rfl, rfl⟩ := e
    have e2 := getL_ref.mp e1
    refine ⟨false, a, rfl, fun ι' H' hp' F R' st => ?_, by simp [stay, e2]⟩
    simp only [stay, Bool.and_true, decide_eq_true_eq] at st
    obtain ⟨vs, g1, g2⟩ := R'.lstAt (pre_get F.pre h) st
    exact ⟨vs, SqL.of g1, g2⟩
  | _ => simp [srcOf, getS, getL] at e
theorem srcL_el (R : HR n ι H hp) {v : V} {w : Wv} (h : VR n ι H v w) {ws : List Wv} {ck : Ck} (e : srcL hp w = some (ws, ck)) : ∃ a, v = .ref a ∧ El n ι H false a ws ck ∧ stay hp ck = true := by
  cases h with
  | tup h hs => simp [srcL] at e
  | lst h hs =>
    simp only [srcL, srcOf, getS, getL, Option.map_some, Option.some.injEq, Prod.mk.injEq] at e
    obtain ⟨rfl, rfl⟩ := e
    exact ⟨_, rfl, fun ι' H' hp' F R' st => ⟨_, (F.lst h).seq, hs.mono F⟩, rfl⟩
  | @ref k a h =>
    simp only [srcL, srcOf, Option.map_eq_some_iff, Prod.mk.injEq] at e
    obtain ⟨ws', e1, rfl, rfl⟩ := e
    have e2 := getL_ref.mp e1
    refine ⟨a, rfl, fun ι' H' hp' F R' st => ?_, by simp [stay, e2]⟩
    simp only [stay, Bool.and_true, decide_eq_true_eq] at st
    obtain ⟨vs, g1, g2⟩ := R'.lstAt (pre_get F.pre h) st
    exact ⟨vs, SqL.of g1, g2⟩
  | _ => simp [srcL, srcOf, getS, getL] at e
/-- the walk J gives these items -/
structure Wk (n : Nam) (ι : List Addr) (H : Hp) (J : It) (ws : List Wv) (ck : Ck) : Prop where
  go : ∀ ι' H' hp' i, Fr ι H ι' H' → HR n ι' H' hp' → stay hp' ck = true → i < ws.length → J.go i H'
  yld : ∀ ι' H' hp' i w, Fr ι H ι' H' → HR n ι' H' hp' → stay hp' ck = true → ws[i]? = some w → ∀ v H2, J.yld i H' v H2 → Fr ι' H' ι' H2 ∧ HR n ι' H2 hp' ∧ VR n ι' H2 v w
  stop : ∀ ι' H' hp', Fr ι H ι' H' → HR n ι' H' hp' → stay hp' ck = true → J.stop ws.length H'
theorem VRs.get1 {vs : List V} {ws : List Wv} (h : VRs n ι H vs ws) {i : Nat} (hi : i < ws.length) : ∃ v, vs[i]? = some v ∧ VR n ι H v ws[i] := h.get (List.getElem?_eq_getElem hi)
theorem VRs.both {vs : List V} {ws : List Wv} (h : VRs n ι H vs ws) {i : Nat} {v : V} {w : Wv} (hv : vs[i]? = some v) (hw : ws[i]? = some w) : VR n ι H v w := by
  obtain ⟨v', h1, h2⟩ := h.get hw
  rw [hv] at h1; cases h1; exact h2
theorem wk_seq {b : Bool} {a : Addr} {ws : List Wv} {ck : Ck} (E : El n ι H b a ws ck) : Wk n ι H (JS n.K b a) ws ck where
  go := fun ι' H' hp' i F R st hi => by
    obtain ⟨vs, h1, h2⟩ := E ι' H' hp' F R st
    obtain ⟨v, h3, _⟩ := h2.get1 hi
    exact ⟨vs, v, h1, h3⟩
  yld := fun ι' H' hp' i w F R st hw v H2 y => by
    obtain ⟨vs, h1, h2⟩ := E ι' H' hp' F R st
    obtain ⟨rfl, y⟩ := y
    exact ⟨Fr.refl _ _, R, h2.both (y vs h1) hw⟩
  stop := fun ι' H' hp' F R st => by
    obtain ⟨vs, h1, h2⟩ := E ι' H' hp' F R st
    exact ⟨vs, h1, Nat.le_of_eq h2.length⟩
/-- a new tuple beside -/
theorem HR.newT (R : HR n ι H hp) {T : Addr} (hn : H T = none) {vs : List V} {ws : List Wv} (h : VRs n ι H vs ws) : Fr ι H ι (upd H T (.tup vs)) ∧ HR n ι (upd H T (.tup vs)) hp ∧ VR n ι (upd H T (.tup vs)) (.ref T) (.tup ws) := by
  obtain ⟨F, R'⟩ := R.beside hn (.tup vs)
  exact ⟨F, R', .tup (.inl ⟨.inl upd_same, R.fresh hn⟩) (h.mono F)⟩
theorem enumd_length : ∀ (k : Nat) (ws : List Wv), (enumd k ws).length = ws.length
  | _, [] => rfl
  | k, w :: ws => by rw [enumd, List.length_cons, List.length_cons, enumd_length]
theorem enumd_get : ∀ (k : Nat) (ws : List Wv) (i : Nat), (enumd k ws)[i]? = ws[i]?.map fun w => Wv.tup [.int ((k + i : Nat) : Int), w]
  | _, [], i => by simp [enumd]
  | k, w :: ws, 0 => by simp [enumd]
  | k, w :: ws, i + 1 => by
    rw [enumd, List.getElem?_cons_succ, List.getElem?_cons_succ, enumd_get, show k + 1 + i = k + (i + 1) by omega]
theorem wk_enum {b : Bool} {a : Addr} {ws : List Wv} {ck : Ck} (E : El n ι H b a ws ck) : Wk n ι H (JE n.K b a) (enumd 0 ws) ck where
  go := fun ι' H' hp' i F R st hi => by
    obtain ⟨vs, h1, h2⟩ := E ι' H' hp' F R st
    obtain ⟨v, h3, _⟩ := h2.get1 (by rwa [enumd_length] at hi)
    exact ⟨vs, v, h1, h3⟩
  yld := fun ι' H' hp' i w F R st hw v H2 y => by
    obtain ⟨vs, h1, h2⟩ := E ι' H' hp' F R st
    obtain ⟨T, x, rfl, hn, rfl, y⟩ := y
    rw [enumd_get, Option.map_eq_some_iff] at hw
    obtain ⟨w', hw', rfl⟩ := hw
    exact R.newT hn (.cons (by rw [Nat.zero_add]; exact .int _) (.cons (h2.both (y vs h1) hw') .nil))
  stop := fun ι' H' hp' F R st => by
    obtain ⟨vs, h1, h2⟩ := E ι' H' hp' F R st
    exact ⟨vs, h1, by rw [enumd_length]; exact h2.length⟩
theorem zip2_length : ∀ (xs ys : List Wv), (zip2 xs ys).length = min xs.length ys.length
  | [], ys => by simp [zip2]
  | x :: xs, [] => by simp [zip2]
  | x :: xs, y :: ys => by rw [zip2, List.length_cons, List.length_cons, List.length_cons, zip2_length]; omega
theorem zip2_get : ∀ (xs ys : List Wv) (i : Nat) (w : Wv), (zip2 xs ys)[i]? = some w → ∃ x y, xs[i]? = some x ∧ ys[i]? = some y ∧ w = .tup [x, y]
  | [], ys, i, w, h => by simp [zip2] at h
  | x :: xs, [], i, w, h => by simp [zip2] at h
  | x :: xs, y :: ys, 0, w, h => by
    simp only [zip2, List.getElem?_cons_zero, Option.some.injEq] at h
    exact ⟨x, y, rfl, rfl, h.symm⟩
  | x :: xs, y :: ys, i + 1, w, h => by
    rw [zip2, List.getElem?_cons_succ] at h
    simpa using zip2_get xs ys i w h
theorem wk_zip {b : Bool} {a : Addr} {ws : List Wv} {ck : Ck} {b' : Bool} {a' : Addr} {ws' : List Wv} {ck' : Ck} (E : El n ι H b a ws ck) (E' : El n ι H b' a' ws' ck') : Wk n ι H (JZ n.K b a b' a') (zip2 ws ws') (ck ++ ck') where
  go := fun ι' H' hp' i F R st hi => by
    obtain ⟨s1, s2⟩ := stay_append st
    obtain ⟨vs, h1, h2⟩ := E ι' H' hp' F R s1
    obtain ⟨us, h1', h2'⟩ := E' ι' H' hp' F R s2
    rw [zip2_length] at hi
    obtain ⟨v, h3, _⟩ := h2.get1 (i := i) (by omega)
    obtain ⟨u, h3', _⟩ := h2'.get1 (i := i) (by omega)
    exact ⟨vs, us, v, u, h1, h1', h3, h3'⟩
  yld := fun ι' H' hp' i w F R st hw v H2 y => by
    obtain ⟨s1, s2⟩ := stay_append st
    obtain ⟨vs, h1, h2⟩ := E ι' H' hp' F R s1
    obtain ⟨us, h1', h2'⟩ := E' ι' H' hp' F R s2
    obtain ⟨T, x, x', rfl, hn, rfl, y, y'⟩ := y
    obtain ⟨p, q, g1, g2, rfl⟩ := zip2_get _ _ _ _ hw
    exact R.newT hn (.cons (h2.both (y vs h1) g1) (.cons (h2'.both (y' us h1') g2) .nil))
  stop := fun ι' H' hp' F R st => by
    obtain ⟨s1, s2⟩ := stay_append st
    obtain ⟨vs, h1, h2⟩ := E ι' H' hp' F R s1
    obtain ⟨us, h1', h2'⟩ := E' ι' H' hp' F R s2
    exact ⟨vs, us, h1, h1', by rw [zip2_length, h2.length, h2'.length]⟩
theorem zip3_length : ∀ (xs ys zs : List Wv), (zip3 xs ys zs).length = min (min xs.length ys.length) zs.length
  | [], ys, zs => by simp [zip3]
  | x :: xs, [], zs => by simp [zip3]
  | x :: xs, y :: ys, [] => by simp [zip3]
  | x :: xs, y :: ys, z :: zs => by rw [zip3, List.length_cons, List.length_cons, List.length_cons, List.length_cons, zip3_length]; omega
theorem zip3_get : ∀ (xs ys zs : List Wv) (i : Nat) (w : Wv), (zip3 xs ys zs)[i]? = some w → ∃ x y z, xs[i]? = some x ∧ ys[i]? = some y ∧ zs[i]? = some z ∧ w = .tup [x, y, z]
  | [], ys, zs, i, w, h => by simp [zip3] at h
  | x :: xs, [], zs, i, w, h => by simp [zip3] at h
  | x :: xs, y :: ys, [], i, w, h => by simp [zip3] at h
  | x :: xs, y :: ys, z :: zs, 0, w, h => by
    simp only [zip3, List.getElem?_cons_zero, Option.some.injEq] at h
    exact ⟨x, y, z, rfl, rfl, rfl, h.symm⟩
  | x :: xs, y :: ys, z :: zs, i + 1, w, h => by
    rw [zip3, List.getElem?_cons_succ] at h
    simpa using zip3_get xs ys zs i w h
theorem wk_zip3 {b : Bool} {a : Addr} {ws : List Wv} {ck : Ck} {b' : Bool} {a' : Addr} {ws' : List Wv} {ck' : Ck} {b2 : Bool} {a2 : Addr} {ws2 : List Wv} {ck2 : Ck} (E : El n ι H b a ws ck) (E' : El n ι H b' a' ws' ck') (E2 : El n ι H b2 a2 ws2 ck2) :
    Wk n ι H (JZ3 n.K b a b' a' b2 a2) (zip3 ws ws' ws2) (ck ++ (ck' ++ ck2)) where
  go := fun ι' H' hp' i F R st hi => by
    obtain ⟨s1, s23⟩ := stay_append st
    obtain ⟨s2, s3⟩ := stay_append s23
    obtain ⟨vs, h1, h2⟩ := E ι' H' hp' F R s1
    obtain ⟨us, h1', h2'⟩ := E' ι' H' hp' F R s2
    obtain ⟨ts, h12, h22⟩ := E2 ι' H' hp' F R s3
    rw [zip3_length] at hi
    obtain ⟨v, h3, _⟩ := h2.get1 (i := i) (by omega)
    obtain ⟨u, h3', _⟩ := h2'.get1 (i := i) (by omega)
    obtain ⟨t, h32, _⟩ := h22.get1 (i := i) (by omega)
    exact ⟨vs, us, ts, v, u, t, h1, h1', h12, h3, h3', h32⟩
  yld := fun ι' H' hp' i w F R st hw v H2 y => by
    obtain ⟨s1, s23⟩ := stay_append st
    obtain ⟨s2, s3⟩ := stay_append s23
    obtain ⟨vs, h1, h2⟩ := E ι' H' hp' F R s1
    obtain ⟨us, h1', h2'⟩ := E' ι' H' hp' F R s2
    obtain ⟨ts, h12, h22⟩ := E2 ι' H' hp' F R s3
    obtain ⟨T, x, x', x2, rfl, hn, rfl, y, y', y2⟩ := y
    obtain ⟨p, q, r, g1, g2, g3, rfl⟩ := zip3_get _ _ _ _ _ hw
    exact R.newT hn (.cons (h2.both (y vs h1) g1) (.cons (h2'.both (y' us h1') g2) (.cons (h22.both (y2 ts h12) g3) .nil)))
  stop := fun ι' H' hp' F R st => by
    obtain ⟨s1, s23⟩ := stay_append st
    obtain ⟨s2, s3⟩ := stay_append s23
    obtain ⟨vs, h1, h2⟩ := E ι' H' hp' F R s1
    obtain ⟨us, h1', h2'⟩ := E' ι' H' hp' F R s2
    obtain ⟨ts, h12, h22⟩ := E2 ι' H' hp' F R s3
    exact ⟨vs, us, ts, h1, h1', h12, by rw [zip3_length, h2.length, h2'.length, h22.length]⟩
theorem upTo_get {lo : Int} {m i : Nat} {w : Wv} (h : (upTo lo m)[i]? = some w) : w = .int (lo + (i : Nat)) := by
  unfold upTo at h
  rw [List.getElem?_map, Option.map_eq_some_iff] at h
  obtain ⟨j, h1, rfl⟩ := h
  have := List.getElem?_range (n := m) (i := i)
  rw [List.getElem?_eq_some_iff] at h1
  obtain ⟨h2, h3⟩ := h1
  rw [List.getElem_range] at h3
  rw [h3]
theorem upTo_length {lo : Int} {m : Nat} : (upTo lo m).length = m := by simp [upTo]
theorem wk_rng {lo : Int} {m : Nat} : Wk n ι H (L2.Itr lo m) (upTo lo m) [] where
  go := fun ι' H' hp' i F R st hi => by rwa [upTo_length] at hi
  yld := fun ι' H' hp' i w F R st hw v H2 y => by
    obtain ⟨rfl, rfl⟩ := y
    rw [upTo_get hw]
    exact ⟨Fr.refl _ _, R, .int _⟩
  stop := fun ι' H' hp' F R st => by rw [upTo_length]; exact Nat.le_refl m
theorem rev_get {α : Type} {l : List α} {i : Nat} {x : α} (h : l.reverse[i]? = some x) : l[l.length - 1 - i]? = some x := by
  have hi : i < l.length := by simpa using (List.getElem?_eq_some_iff.mp h).1
  rw [List.getElem?_reverse hi] at h; exact h
theorem wk_rev {b : Bool} {a : Addr} {ws : List Wv} {ck : Ck} (E : El n ι H b a ws ck) : Wk n ι H (match b with | true => RT.ItvT n.K a ws.length | false => L2.Itv n.K a ws.length) ws.reverse ck := by
  cases b with
  | true =>
    refine ⟨fun ι' H' hp' i F R st hi => ?_, fun ι' H' hp' i w F R st hw v H2 y => ?_, fun ι' H' hp' F R st => ?_⟩
    · obtain ⟨vs, h1, h2⟩ := E ι' H' hp' F R st
      rw [List.length_reverse] at hi
      obtain ⟨v, h3, _⟩ := h2.get1 (i := ws.length - 1 - i) (by omega)
      exact ⟨hi, vs, v, h1, h3⟩
    · obtain ⟨vs, h1, h2⟩ := E ι' H' hp' F R st
      obtain ⟨rfl, y⟩ := y
      exact ⟨Fr.refl _ _, R, h2.both (y vs h1) (rev_get hw)⟩
    · rw [List.length_reverse]; exact Nat.le_refl _
  | false =>
    refine ⟨fun ι' H' hp' i F R st hi => ?_, fun ι' H' hp' i w F R st hw v H2 y => ?_, fun ι' H' hp' F R st => ?_⟩
    · obtain ⟨vs, h1, h2⟩ := E ι' H' hp' F R st
      rw [List.length_reverse] at hi
      obtain ⟨v, h3, _⟩ := h2.get1 (i := ws.length - 1 - i) (by omega)
      exact ⟨hi, vs, v, h1, h3⟩
    · obtain ⟨vs, h1, h2⟩ := E ι' H' hp' F R st
      obtain ⟨rfl, y⟩ := y
      exact ⟨Fr.refl _ _, R, h2.both (y vs h1) (rev_get hw)⟩
    · rw [List.length_reverse]; exact Nat.le_refl _
end

/-! ### the readings of what is walked -/
section
variable {n : Nam} {ι : List Addr} {H : Hp} {hp : Hs} {W : Wx} {X : Cx} {P : Wd} {tg : Expr}
def GI (n : Nam) (W : Wx) (P : Wd) (it : Itr) : TI := fun σ H R => ∃ ι e hp, SR n ι H σ e hp ∧ Af n (fun ι H (J : It) (src : Src) => Wk n ι H J src.1 src.2) ι H (evi P it e hp) R (W σ)
theorem pi_wk {e : Expr} {t t' : TI} (h : PI X tg e t) (w : ∀ σ H R, t' σ H R → t σ H R) : PI X tg e t' := ⟨fun pins s σ H R I q => h.run pins s σ H R I (w σ H R q)⟩
theorem i_seq {a : Expr} {x : Ex} (hK : KW X n) (ha : PE X a (G n W P x)) : PI X tg a (GI n W P (.seq x)) := by
  refine pi_wk (pi_sq ha) fun σ H R ⟨ι, e, hp, S, A⟩ => ?_
  simp only [evi] at A
  refine ⟨ι, e, hp, S, (Af.bind A).mono ?_⟩
  rintro v H1 ⟨ι1, hp1, w, F1, R1, V1, A1⟩
  cases hs : srcOf hp1 w with
  | none => rw [hs] at A1; exact A1.elim
  | some src =>
    obtain ⟨ws, ck⟩ := src
    rw [hs] at A1
    obtain ⟨b, p, rfl, E, st⟩ := srcOf_el R1 V1 hs
    obtain ⟨vs, h1, h2⟩ := E ι1 H1 hp1 (Fr.refl _ _) R1 st
    exact ⟨b, p, rfl, ⟨vs, hK.K ▸ h1⟩, A1.here R1 (hK.K ▸ wk_seq E)⟩
theorem Rz.bind_congr {α β : Type} {r : Rz α} {f g : α → Hs → Rz β} (h : ∀ a h', r = .ok a h' → f a h' = g a h') : r.bind f = r.bind g := by
  cases r with
  | ok a h' => exact h a h' rfl
  | exc c w h' => rfl
  | bad => rfl
theorem evs_length : ∀ {xs : List Ex} {e : Ev} {h h' : Hs} {ws : List Wv}, evs P xs e h = .ok ws h' → ws.length = xs.length
  | [], e, h, h', ws, q => by
    simp only [evs] at q; cases q; rfl
  | x :: xs, e, h, h', ws, q => by
    simp only [evs] at q
    cases h1 : ev P x e h with
    | ok w k =>
      rw [h1, Rz.bind_ok] at q
      cases h2 : evs P xs e k with
      | ok us k2 =>
        rw [h2, Rz.bind_ok] at q
        cases q
        rw [List.length_cons, List.length_cons, evs_length h2]
      | exc c w2 k2 => rw [h2] at q; cases q
      | bad => rw [h2] at q; cases q
    | exc c w k => rw [h1] at q; cases q
    | bad => rw [h1] at q; cases q
/-- the values of so many expressions -/
theorem Af.evs {α β : Type} {Rel : List Addr → Hp → β → α → Prop} {xs : List Ex} {e : Ev} {k : List Wv → Hs → Rz α} {Q : β → Hp → Prop} {E : Nat → Wv → Hs → List Addr → Hp → Prop} (A : Af n Rel ι H ((evs P xs e hp).bind k) Q E) :
    Af n (VRs n) ι H (SL.evs P xs e hp) (fun vs H1 => ∃ ι1 hp1 ws, Fr ι H ι1 H1 ∧ HR n ι1 H1 hp1 ∧ VRs n ι1 H1 vs ws ∧ ws.length = xs.length ∧ Af n Rel ι1 H1 (k ws hp1) Q E) E := by
  have q : (SL.evs P xs e hp).bind k = (SL.evs P xs e hp).bind fun ws h1 => if ws.length = xs.length then k ws h1 else .bad := Rz.bind_congr fun a h' h => by rw [if_pos (evs_length h)]
  rw [q] at A
  refine (Af.bind A).mono ?_
  rintro vs H1 ⟨ι1, hp1, ws, F1, R1, V1, A1⟩
  split at A1
  · rename_i hl
    exact ⟨ι1, hp1, ws, F1, R1, V1, hl, A1⟩
  · exact A1.elim
theorem VRs.one {vs : List V} {ws : List Wv} (h : VRs n ι H vs ws) (hl : ws.length = 1) : ∃ v w, vs = [v] ∧ ws = [w] ∧ VR n ι H v w := by
  cases h with
  | nil => cases hl
  | cons h t =>
    cases t with
    | nil => exact ⟨_, _, rfl, rfl, h⟩
    | cons _ _ => simp at hl
theorem VRs.two {vs : List V} {ws : List Wv} (h : VRs n ι H vs ws) (hl : ws.length = 2) : ∃ v w v' w', vs = [v, v'] ∧ ws = [w, w'] ∧ VR n ι H v w ∧ VR n ι H v' w' := by
  cases h with
  | nil => cases hl
  | cons h t =>
    obtain ⟨v, w, rfl, rfl, h'⟩ := t.one (by simpa using hl)
    exact ⟨_, _, _, _, rfl, rfl, h, h'⟩
theorem VRs.three {vs : List V} {ws : List Wv} (h : VRs n ι H vs ws) (hl : ws.length = 3) : ∃ v w v' w' v2 w2, vs = [v, v', v2] ∧ ws = [w, w', w2] ∧ VR n ι H v w ∧ VR n ι H v' w' ∧ VR n ι H v2 w2 := by
  cases h with
  | nil => cases hl
  | cons h t =>
    obtain ⟨v, w, v', w', rfl, rfl, h', h2⟩ := t.two (by simpa using hl)
    exact ⟨_, _, _, _, _, _, rfl, rfl, h, h', h2⟩
theorem i_enm {a : Expr} {x : Ex} {p pos tpos : Pos} {elts : List Expr} {kk : Nat} (hK : KW X n) (hg : Gl X "enumerate") (hm : X.mg "enumerate" = none) (ha : PA X [a] (GA n W P [x])) (hs : starEach [a] X.env = [(false, eval a X.env)]) :
    PI X (.Tuple elts kk tpos) (.Call (.Name "enumerate" p) [a] [] pos) (GI n W P (.enm x)) := by
  refine pi_wk (pi_en hg hm ha hs) fun σ H R ⟨ι, e, hp, S, A⟩ => ?_
  simp only [evi] at A
  refine ⟨ι, e, hp, S, ?_⟩
  have A' : Af n (fun ι H (J : It) (src : Src) => Wk n ι H J src.1 src.2) ι H ((evs P [x] e hp).bind fun ws h1 => match ws with | [w] => Rz.of ((srcL h1 w).map fun s => (enumd 0 s.1, s.2)) h1 | _ => .bad) R (W σ) := by
    simp only [evs, Rz.bind_assoc, Rz.bind_ok]
    exact A
  refine (Af.evs A').mono ?_
  rintro v H1 ⟨ι1, hp1, ws, F1, R1, V1, hl, A1⟩
  obtain ⟨v, w, rfl, rfl, V2⟩ := V1.one hl
  simp only at A1
  cases hs : srcL hp1 w with
  | none => rw [hs] at A1; exact A1.elim
  | some src =>
    obtain ⟨ws, ck⟩ := src
    rw [hs] at A1
    obtain ⟨p, rfl, E, st⟩ := srcL_el R1 V2 hs
    obtain ⟨vs, h1, h2⟩ := E ι1 H1 hp1 (Fr.refl _ _) R1 st
    exact ⟨p, vs, rfl, hK.K ▸ h1, A1.here R1 (hK.K ▸ wk_enum E)⟩
theorem i_zip2 {a b : Expr} {x y : Ex} {p pos tpos : Pos} {elts : List Expr} {kk : Nat} (hK : KW X n) (hg : Gl X "zip") (hm : X.mg "zip" = none) (ha : PA X [a, b] (GA n W P [x, y]))
    (hs : starEach [a, b] X.env = (false, eval a X.env) :: starEach [b] X.env) (hpl : (backTo pos (starEach [b] X.env)).any (·.1) = false) :
    PI X (.Tuple elts kk tpos) (.Call (.Name "zip" p) [a, b] [] pos) (GI n W P (.zip [x, y])) := by
  refine pi_wk (pi_zp hg hm ha hs hpl) fun σ H R ⟨ι, e, hp, S, A⟩ => ?_
  simp only [evi] at A
  refine ⟨ι, e, hp, S, (Af.evs A).mono ?_⟩
  rintro vs H1 ⟨ι1, hp1, ws, F1, R1, V1, hl, A1⟩
  obtain ⟨v, w, v', w', rfl, rfl, V1, V2⟩ := V1.two hl
  simp only [srcZip] at A1
  split at A1
  · rename_i q1 q2
    · obtain ⟨b1, p1, rfl, E1, st1⟩ := srcOf_el R1 V1 q1
      obtain ⟨b2, p2, rfl, E2, st2⟩ := srcOf_el R1 V2 q2
      obtain ⟨vs1, h1, _⟩ := E1 ι1 H1 hp1 (Fr.refl _ _) R1 st1
      obtain ⟨vs2, h2, _⟩ := E2 ι1 H1 hp1 (Fr.refl _ _) R1 st2
      exact ⟨b1, p1, vs1, b2, p2, vs2, rfl, hK.K ▸ h1, hK.K ▸ h2, A1.here R1 (hK.K ▸ wk_zip E1 E2)⟩
  · exact A1.elim
theorem i_zip3 {a b d : Expr} {x y z : Ex} {p pos tpos : Pos} {elts : List Expr} {kk : Nat} (hK : KW X n) (hg : Gl X "zip") (hm : X.mg "zip" = none) (ha : PA X [a, b, d] (GA n W P [x, y, z]))
    (hs : starEach [a, b, d] X.env = (false, eval a X.env) :: starEach [b, d] X.env) (hpl : (backTo pos (starEach [b, d] X.env)).any (·.1) = false) :
    PI X (.Tuple elts kk tpos) (.Call (.Name "zip" p) [a, b, d] [] pos) (GI n W P (.zip [x, y, z])) := by
  refine pi_wk (pi_zp3 hg hm ha hs hpl) fun σ H R ⟨ι, e, hp, S, A⟩ => ?_
  simp only [evi] at A
  refine ⟨ι, e, hp, S, (Af.evs A).mono ?_⟩
  rintro vs H1 ⟨ι1, hp1, ws, F1, R1, V1, hl, A1⟩
  obtain ⟨v, w, v', w', v2, w2, rfl, rfl, V1, V2, V3⟩ := V1.three hl
  simp only [srcZip] at A1
  split at A1
  · rename_i q1 q2 q3
    · obtain ⟨b1, p1, rfl, E1, st1⟩ := srcOf_el R1 V1 q1
      obtain ⟨b2, p2, rfl, E2, st2⟩ := srcOf_el R1 V2 q2
      obtain ⟨b3, p3, rfl, E3, st3⟩ := srcOf_el R1 V3 q3
      obtain ⟨vs1, h1, _⟩ := E1 ι1 H1 hp1 (Fr.refl _ _) R1 st1
      obtain ⟨vs2, h2, _⟩ := E2 ι1 H1 hp1 (Fr.refl _ _) R1 st2
      obtain ⟨vs3, h3, _⟩ := E3 ι1 H1 hp1 (Fr.refl _ _) R1 st3
      exact ⟨b1, p1, vs1, b2, p2, vs2, b3, p3, vs3, rfl, hK.K ▸ h1, hK.K ▸ h2, hK.K ▸ h3, A1.here R1 (hK.K ▸ wk_zip3 E1 E2 E3)⟩
  · exact A1.elim
theorem small_of {j : Int} (h : small62 j = true) : -(2 ^ 62) ≤ j ∧ j < 2 ^ 62 := by
  unfold small62 at h
  simp only [Bool.and_eq_true, decide_eq_true_eq] at h
  exact h
theorem i_rng1 {a : Expr} {x : Ex} {p pos : Pos} (hg : Gl X "range") (hm : X.mg "range" = none) (ha : PA X [a] (GA n W P [x])) (hs : starEach [a] X.env = [(false, eval a X.env)]) : PI X tg (.Call (.Name "range" p) [a] [] pos) (GI n W P (.rng [x])) := by
  refine pi_wk (pi_range1 hg hm ha hs) fun σ H R ⟨ι, e, hp, S, A⟩ => ?_
  simp only [evi] at A
  refine ⟨ι, e, hp, S, (Af.evs A).mono ?_⟩
  rintro vs H1 ⟨ι1, hp1, ws, F1, R1, V1, hl, A1⟩
  obtain ⟨v, w, rfl, rfl, V⟩ := V1.one hl
  cases V with
  | int j =>
    simp only [srcRange] at A1
    split at A1
    · rename_i hj
      obtain ⟨q1, q2⟩ := small_of hj
      exact ⟨j, rfl, q1, q2, A1.here R1 wk_rng⟩
    · exact A1.elim
  | _ => exact A1.elim
theorem i_rng2 {a b : Expr} {x y : Ex} {p pos : Pos} (hg : Gl X "range") (hm : X.mg "range" = none) (ha : PA X [a, b] (GA n W P [x, y])) (hs : starEach [a, b] X.env = [(false, eval a X.env), (false, eval b X.env)]) (hs2 : starEach [b] X.env = [(false, eval b X.env)]) : PI X tg (.Call (.Name "range" p) [a, b] [] pos) (GI n W P (.rng [x, y])) := by
  refine pi_wk (pi_range2 hg hm ha hs hs2) fun σ H R ⟨ι, e, hp, S, A⟩ => ?_
  simp only [evi] at A
  refine ⟨ι, e, hp, S, (Af.evs A).mono ?_⟩
  rintro vs H1 ⟨ι1, hp1, ws, F1, R1, V1, hl, A1⟩
  obtain ⟨v, w, v', w', rfl, rfl, V, V'⟩ := V1.two hl
  cases V with
  | int i =>
    cases V' with
    | int j =>
      simp only [srcRange] at A1
      split at A1
      · rename_i hj
        simp only [Bool.and_eq_true] at hj
        obtain ⟨q1, q2⟩ := small_of hj.1
        obtain ⟨q3, q4⟩ := small_of hj.2
        exact ⟨i, j, rfl, ⟨q1, q2, q3, q4⟩, A1.here R1 wk_rng⟩
      · exact A1.elim
    | _ => exact A1.elim
  | _ => exact A1.elim
theorem i_rev {a : Expr} {x : Ex} {p pos : Pos} (hK : KW X n) (hg : Gl X "reversed") (hm : X.mg "reversed" = none) (ha : PE X a (G n W P x)) (hs : starEach [a] X.env = (false, eval a X.env) :: starEach [] X.env) : PI X tg (.Call (.Name "reversed" p) [a] [] pos) (GI n W P (.rev x)) := by
  refine pi_wk (RT.pi_revA hg hm ha hs) fun σ H R ⟨ι, e, hp, S, A⟩ => ?_
  simp only [evi] at A
  refine ⟨ι, e, hp, S, (Af.bind A).mono ?_⟩
  rintro v H1 ⟨ι1, hp1, w, F1, R1, V1, A1⟩
  cases hs : srcOf hp1 w with
  | none => rw [hs] at A1; exact A1.elim
  | some src =>
    obtain ⟨ws, ck⟩ := src
    rw [hs] at A1
    obtain ⟨b, p, rfl, E, st⟩ := srcOf_el R1 V1 hs
    obtain ⟨vs, h1, h2⟩ := E ι1 H1 hp1 (Fr.refl _ _) R1 st
    have K := wk_rev E
    rw [← h2.length] at K
    refine ⟨p, vs, rfl, ?_⟩
    cases b with
    | false => exact .inl ⟨hK.K ▸ h1, A1.here R1 (hK.K ▸ K)⟩
    | true => exact .inr ⟨hK.K ▸ h1, A1.here R1 (hK.K ▸ K)⟩
end
end SL

set_option maxRecDepth 100000
set_option maxHeartbeats 1000000
/-! Targets, comprehensions. -/
namespace SL
open PySem L2 PyProof.Rows
set_option autoImplicit false

section
variable {n : Nam} {ι : List Addr} {H : Hp} {hp : Hs} {σ σ' : L2.St} {e e' : Ev}
/-- names by their values -/
structure ER (n : Nam) (ι : List Addr) (H : Hp) (σ : L2.St) (e : Ev) : Prop where
  len : σ.length = e.length
  at_ : ∀ (i : Nat) (w : Wv), e[i]? = some (some w) → ∃ v, σ[i]? = some (some v) ∧ VR n ι H v w
theorem SR.er (S : SR n ι H σ e hp) : ER n ι H σ e := ⟨S.len, S.at_⟩
theorem ER.sr (S : ER n ι H σ e) (R : HR n ι H hp) : SR n ι H σ e hp := ⟨R, S.len, S.at_⟩
theorem ER.mono {ι' : List Addr} {H' : Hp} (S : ER n ι H σ e) (F : Fr ι H ι' H') : ER n ι' H' σ e := ⟨S.len, fun i w h => let ⟨v, h1, h2⟩ := S.at_ i w h; ⟨v, h1, h2.mono F⟩⟩
theorem ER.set (S : ER n ι H σ e) {v : V} {w : Wv} (h : VR n ι H v w) (i : Nat) : ER n ι H (σ.set i (some v)) (e.set i (some w)) where
  len := by rw [List.length_set, List.length_set, S.len]
  at_ := fun j u q => by
    by_cases hj : i = j
    · subst hj
      by_cases hl : i < e.length
      · rw [List.getElem?_set_self hl] at q
        cases q
        exact ⟨v, List.getElem?_set_self (by rw [S.len]; exact hl), h⟩
      · rw [List.getElem?_eq_none (by rw [List.length_set]; omega)] at q; cases q
    · rw [List.getElem?_set_ne hj] at q ⊢
      exact S.at_ j u q
theorem ER.unset (S : ER n ι H σ e) (i : Nat) : ER n ι H (σ.set i none) (e.set i none) where
  len := by rw [List.length_set, List.length_set, S.len]
  at_ := fun j u q => by
    by_cases hj : i = j
    · subst hj
      by_cases hl : i < e.length
      · rw [List.getElem?_set_self hl] at q; cases q
      · rw [List.getElem?_eq_none (by rw [List.length_set]; omega)] at q; cases q
    · rw [List.getElem?_set_ne hj] at q ⊢
      exact S.at_ j u q
theorem ER.wipe (S : ER n ι H σ e) : ∀ vs : List Nat, ER n ι H (L2.wipe σ vs) (wipes e vs)
  | [] => S
  | v :: vs => (S.wipe vs).unset v
mutual
def Tg.slots : Tg → List Nat
  | .name i => [i]
  | .tup ts => tgSlots ts
def tgSlots : List Tg → List Nat
  | [] => []
  | t :: ts => t.slots ++ tgSlots ts
end
/-- only these names were changed -/
structure Sm2 (vs : List Nat) (σ σ' : L2.St) : Prop where
  len : σ'.length = σ.length
  at_ : ∀ i, i ∉ vs → σ'[i]? = σ[i]?
theorem Sm2.refl (vs : List Nat) (σ : L2.St) : Sm2 vs σ σ := ⟨rfl, fun _ _ => rfl⟩
theorem Sm2.trans {vs vs' : List Nat} {σ2 : L2.St} (a : Sm2 vs σ σ') (b : Sm2 vs' σ' σ2) : Sm2 (vs ++ vs') σ σ2 := ⟨b.len.trans a.len, fun i h => by
  rw [List.mem_append, not_or] at h
  rw [b.at_ i h.2, a.at_ i h.1]⟩
theorem wipe_get (σ : L2.St) : ∀ (vs : List Nat) (i : Nat), (L2.wipe σ vs)[i]? = if i ∈ vs then (if i < σ.length then some none else none) else σ[i]?
  | [], i => by simp [L2.wipe]
  | v :: vs, i => by
    rw [L2.wipe, List.getElem?_set]
    by_cases h : v = i
    · subst h
      rw [if_pos rfl, wipe_length, if_pos List.mem_cons_self]
    · rw [if_neg h, wipe_get σ vs i]
      have : (i ∈ v :: vs) ↔ i ∈ vs := by simp only [List.mem_cons, Ne.symm h, false_or]
      simp only [this]
theorem Sm2.wipe {vs us : List Nat} (h : Sm2 us σ σ') (hs : ∀ i ∈ us, i ∈ vs) : L2.wipe σ' vs = L2.wipe σ vs := by
  apply List.ext_getElem?
  intro i
  rw [wipe_get, wipe_get, h.len]
  split
  · rfl
  · rename_i q
    exact h.at_ i fun z => q (hs i z)
theorem wipe_wipe (vs : List Nat) : L2.wipe (L2.wipe σ vs) vs = L2.wipe σ vs := by
  apply List.ext_getElem?
  intro i
  rw [wipe_get, wipe_length, wipe_get]
  split <;> rfl
/-- a target's reading -/
def gB (n : Nam) (t : Tg) : TG := fun v σ H Q => ∃ ι e hp w e', SR n ι H σ e hp ∧ VR n ι H v w ∧ t.bind w e = some e' ∧ ∀ σ', ER n ι H σ' e' → Sm2 t.slots σ σ' → Q σ' H
def gBs (n : Nam) (ts : List Tg) : TGs := fun vs σ H Q => ∃ ι e hp ws e', SR n ι H σ e hp ∧ VRs n ι H vs ws ∧ binds ts ws e = some e' ∧ ∀ σ', ER n ι H σ' e' → Sm2 (tgSlots ts) σ σ' → Q σ' H
variable {X : Cx}
theorem pg_wk {e : Expr} {t t' : TG} (h : PG X e t) (w : ∀ v σ H Q, t' v σ H Q → t v σ H Q) : PG X e t' := ⟨fun pins s σ H v u Q I r q => h.run pins s σ H v u Q I r (w v σ H Q q)⟩
theorem pgs_wk {e : List Expr} {t t' : TGs} (h : PGs X e t) (w : ∀ v σ H Q, t' v σ H Q → t v σ H Q) : PGs X e t' := ⟨fun pins s σ H v u Q I r q => h.run pins s σ H v u Q I r (w v σ H Q q)⟩
theorem tg_name {i : Nat} {x : Str} {pos : Pos} (hN : X.N.Nodup) (hi : X.N[i]? = some x) (hx : Loc X.env.scope x) (hf : X.fn x = true ∨ X.env.scope.names.lookup x = some .local) : PG X (.Name x pos) (gB n (.name i)) :=
  pg_wk (pg_name hN hi hx hf) fun v σ H Q ⟨ι, e, hp, w, e', S, V, b, q⟩ => by
    simp only [Tg.bind] at b
    split at b
    · cases b
      refine q _ (S.er.set V i) ⟨List.length_set .., fun j h => ?_⟩
      simp only [Tg.slots, List.mem_singleton] at h
      exact List.getElem?_set_ne (Ne.symm h)
    · cases b
theorem tgs_nil : PGs X [] (gBs n []) := pgs_wk pgs_nil fun vs σ H Q ⟨ι, e, hp, ws, e', S, V, b, q⟩ => by
  cases ws with
  | nil =>
    simp only [binds, Option.some.injEq] at b
    subst b
    cases V
    exact ⟨rfl, q _ S.er (Sm2.refl _ _)⟩
  | cons w ws => simp [binds] at b
theorem tgs_cons {a : Expr} {es : List Expr} {t : Tg} {ts : List Tg} (h1 : PG X a (gB n t)) (h2 : PGs X es (gBs n ts)) (hs : (assignEach (a :: es) X.env).map (·.2) = assign a X.env :: (assignEach es X.env).map (·.2)) : PGs X (a :: es) (gBs n (t :: ts)) :=
  pgs_wk (pgs_cons h1 h2 hs) fun vs σ H Q ⟨ι, e, hp, ws, e', S, V, b, q⟩ => by
    cases V with
    | nil => simp [binds] at b
    | cons V1 V2 =>
      simp only [binds] at b
      split at b
      · rename_i e1 b1
        exact ⟨_, _, rfl, ι, e, hp, _, e1, S, V1, b1, fun σ1 S1 m1 => ⟨ι, e1, hp, _, e', S1.sr S.hr, V2, b, fun σ2 S2 m2 => q σ2 S2 (m1.trans m2)⟩⟩
      · cases b
theorem binds_length : ∀ {ts : List Tg} {ws : List Wv} {e e' : Ev}, binds ts ws e = some e' → ws.length = ts.length
  | [], [], e, e', h => rfl
  | [], _ :: _, e, e', h => by simp [binds] at h
  | _ :: _, [], e, e', h => by simp [binds] at h
  | t :: ts, w :: ws, e, e', h => by
    simp only [binds] at h
    split at h
    · rw [List.length_cons, List.length_cons, binds_length h]
    · cases h
theorem tg_tup {es : List Expr} {k : Nat} {ts : List Tg} {pos : Pos} (hK : KW X n) (hc : X.calm = true) (h : PGs X es (gBs n ts)) (hn : (assignEach es X.env).length = ts.length) (hst : (assignEach es X.env).findIdx? (·.1) = none) : PG X (.Tuple es k pos) (gB n (.tup ts)) :=
  pg_wk (pg_tup hc h hn hst) fun v σ H Q ⟨ι, e, hp, w, e', S, V, b, q⟩ => by
    cases w <;> try (simp [Tg.bind] at b; done)
    rename_i ws
    simp only [Tg.bind] at b
    cases V with
    | tup h hs => exact ⟨_, _, rfl, hK.K ▸ h.seq, by rw [hs.length, binds_length b], ι, e, hp, ws, e', S, hs, b, fun σ' S' m => q σ' S' (by simpa [Tg.slots] using m)⟩

/-! ### comprehensions -/
variable {P : Wd} {W : Wx}
def noW : Wx := fun _ _ _ _ _ _ => False
theorem Af.quiet {α β : Type} {Rel : List Addr → Hp → β → α → Prop} {r : Rz α} {Q : β → Hp → Prop} {E E' : Nat → Wv → Hs → List Addr → Hp → Prop} (A : Af n Rel ι H r.quiet Q E) : Af n Rel ι H r Q E' := by
  cases r with
  | ok a h => exact A
  | exc c w h => exact A.elim
  | bad => exact A.elim
/-- an outcome's relation is what one takes -/
theorem Af.quietBind {α γ β δ : Type} {Rel2 : List Addr → Hp → δ → γ → Prop} {Rel : List Addr → Hp → β → α → Prop} {r : Rz α} {k : α → Hs → Rz γ} {Q : δ → Hp → Prop} {E E' : Nat → Wv → Hs → List Addr → Hp → Prop} (A : Af n Rel2 ι H (r.quiet.bind k) Q E) :
    Af n Rel ι H r (fun b H1 => ∃ ι1 hp1 a, Fr ι H ι1 H1 ∧ HR n ι1 H1 hp1 ∧ Rel ι1 H1 b a ∧ Af n Rel2 ι1 H1 (k a hp1) Q E) E' := (Af.bind A).quiet
/-- one turn of a walk -/
def turnC (P : Wd) (elt : Ex) (own : List Nat) (tg : Tg) (cd : Option Ex) (e : Ev) : Wv → Hs → Rz (Option Wv) := fun w h2 => (Rz.of (tg.bind w (wipes e own)) h2).bind fun e' h3 => match cd with
  | none => (ev P elt e' h3).bind fun v h4 => .ok (some v) h4
  | some c => (tst P c e' h3).bind fun t h4 => if t = true then (ev P elt e' h4).bind fun v h5 => .ok (some v) h5 else .ok none h4
theorem turnC_no {P : Wd} {elt : Ex} {own : List Nat} {tg : Tg} {cd : Option Ex} {e : Ev} {w : Wv} (h : tg.bind w (wipes e own) = none) (hp : Hs) : turnC P elt own tg cd e w hp = .bad := by simp only [turnC, h, Rz.of_none, Rz.bind_bad]
theorem turnC_none {P : Wd} {elt : Ex} {own : List Nat} {tg : Tg} {e e' : Ev} {w : Wv} (h : tg.bind w (wipes e own) = some e') (hp : Hs) : turnC P elt own tg none e w hp = (ev P elt e' hp).bind fun v h4 => .ok (some v) h4 := by simp only [turnC, h, Rz.of_some, Rz.bind_ok]
theorem turnC_some {P : Wd} {elt : Ex} {own : List Nat} {tg : Tg} {c : Ex} {e e' : Ev} {w : Wv} (h : tg.bind w (wipes e own) = some e') (hp : Hs) : turnC P elt own tg (some c) e w hp = (tst P c e' hp).bind fun t h4 => if t = true then (ev P elt e' h4).bind fun v h5 => .ok (some v) h5 else .ok none h4 := by simp only [turnC, h, Rz.of_some, Rz.bind_ok]
theorem ev_comp (elt : Ex) (own : List Nat) (tg : Tg) (it : Itr) (cd : Option Ex) (e : Ev) (h : Hs) : ev P (.comp elt own tg it cd) e h = (evi P it e h).bind fun (src : Src) h1 => compL (turnC P elt own tg cd e) src.2 h1.length src.1 (h1 ++ [.lst []]) := by
  rw [ev]; rfl
def GC (n : Nam) (P : Wd) : Option Ex → TT
  | none => tYes
  | some c => GT n noW P c
theorem compL_at {turn : Wv → Hs → Rz (Option Wv)} {ck : Ck} {k : Nat} {ws : List Wv} {i : Nat} {w : Wv} (h : ws[i]? = some w) (hp : Hs) : compL turn ck k (ws.drop i) hp = if stay hp ck then (turn w hp).quiet.bind fun o h' => match o with
      | some v => match h'[k]? with
        | some (.lst acc) => if acc.length < sizeLine then compL turn ck k (ws.drop (i + 1)) (h'.set k (.lst (acc ++ [v]))) else .bad
        | _ => .bad
      | none => compL turn ck k (ws.drop (i + 1)) h'
    else .bad := by
  obtain ⟨hl, e⟩ := List.getElem?_eq_some_iff.mp h
  rw [List.drop_eq_getElem_cons hl, e, compL]
  all_goals rfl
theorem quiet_bind {α β : Type} (r : Rz α) (f : α → Hs → Rz β) : (r.bind f).quiet = r.quiet.bind fun a h => (f a h).quiet := by cases r <;> rfl
theorem VRs.snoc {vs : List V} {ws : List Wv} (h : VRs n ι H vs ws) {v : V} {w : Wv} (hv : VR n ι H v w) : VRs n ι H (vs ++ [v]) (ws ++ [w]) := h.append (.cons hv .nil)
theorem comp_core {elt : Ex} {own : List Nat} {tg : Tg} {it : Itr} {cd : Option Ex} (hs : ∀ i ∈ tg.slots, i ∈ own) : ∀ σ H Q, G n W P (.comp elt own tg it cd) σ H Q → tLc (GI n W P it) (gB n tg) (GC n P cd) (G n noW P elt) own σ H Q := by
  rintro σ H Q ⟨ι, e, hp, S, A⟩
  rw [ev_comp] at A
  refine ⟨ι, e, hp, S, (Af.bind A).mono ?_⟩
  rintro J H1 ⟨ι1, hp1, ⟨ws, ck⟩, F1, R1, K, A1⟩ D hD
  have K : Wk n ι1 H1 J ws ck := K
  obtain ⟨F2, R2⟩ := R1.push hD (ho := .lst []) (o := .lst []) fun _ => .lst .nil
  have hk : (ι1 ++ [D])[hp1.length]? = some D := by rw [← R1.len, List.getElem?_append_right (Nat.le_refl _), Nat.sub_self]; rfl
  let Nx : Nat → Hp → Prop := fun i H' => ∃ ι' hp', Fr (ι1 ++ [D]) (upd H1 D (.lst [])) ι' H' ∧ HR n ι' H' hp' ∧ Af n (VR n) ι' H' (compL (turnC P elt own tg cd e) ck hp1.length (ws.drop i) hp') Q (W σ)
  refine ⟨fun i m H' => m = ws.length - i ∧ i ≤ ws.length ∧ Nx i H', ⟨ws.length, rfl, Nat.zero_le _, _, _, Fr.refl _ _, R2, A1.at F2⟩, ?_⟩
  rintro i m H' ⟨rfl, hi, ι', hp', F3, R3, A3⟩
  have F23 := F2.trans F3
  by_cases hlt : i < ws.length
  · have hw : ws[i]? = some ws[i] := List.getElem?_eq_getElem hlt
    rw [compL_at hw] at A3
    split at A3
    · rename_i st
      refine .inr ⟨K.go ι' H' hp' i F23 R3 st hlt, Nx (i + 1), fun H2 q => ⟨ws.length - (i + 1), by omega, rfl, hlt, q⟩, fun v H2 y => ?_⟩
      obtain ⟨F4, R4, V4⟩ := K.yld ι' H' hp' i _ F23 R3 st hw v H2 y
      have S4 := (((S.er.mono F1).mono F23).mono F4).wipe own
      have A4 := A3.at F4
      have F34 := F3.trans F4
      have hk' : ι'[hp1.length]? = some D := pre_get F3.pre hk
      -- a turn's end
      have fin : ∀ ι5 hp5 H5 (z : V) (w : Wv), Fr ι' H2 ι5 H5 → HR n ι5 H5 hp5 → VR n ι5 H5 z w → Af n (VR n) ι5 H5 (match hp5[hp1.length]? with
          | some (.lst acc) => if acc.length < sizeLine then compL (turnC P elt own tg cd e) ck hp1.length (ws.drop (i + 1)) (hp5.set hp1.length (.lst (acc ++ [w]))) else .bad
          | _ => .bad) Q (W σ) → ∃ acc, H5 D = some (.lst acc) ∧ acc.length < sizeLine ∧ Nx (i + 1) (upd H5 D (.lst (acc ++ [z]))) := by
        intro ι5 hp5 H5 z w F5 R5 V5 A5
        split at A5
        · rename_i acc q
          split at A5
          · rename_i hz
            have hk5 := pre_get F5.pre hk'
            obtain ⟨vs, g1, g2⟩ := R5.lstAt hk5 q
            obtain ⟨F6, R6⟩ := R5.set hk5 (ho := .lst (vs ++ [z])) (o := .lst (acc ++ [w])) fun F => .lst ((g2.mono F).snoc (V5.mono F))
            exact ⟨vs, g1, by rw [g2.length]; exact hz, ι5, _, (F34.trans F5).trans F6, R6, A5.at F6⟩
          · exact A5.elim
        · exact A5.elim
      cases hb : tg.bind ws[i] (wipes e own) with
      | none =>
        exfalso
        rw [turnC_no hb] at A4
        exact A4
      | some e' =>
        refine ⟨ι', wipes e own, hp', ws[i], e', S4.sr R4, V4, hb, fun σ2 S2 m2 => ⟨?_, ?_⟩⟩
        · rw [m2.wipe hs, wipe_wipe]
        · cases cd with
          | none =>
            unfold GC tYes
            simp only [if_true]
            rw [turnC_none hb, quiet_bind, Rz.bind_assoc] at A4
            refine ⟨ι', e', hp', S2.sr R4, A4.quietBind.mono ?_⟩
            rintro z H5 ⟨ι5, hp5, w, F5, R5, V5, A5⟩
            exact fin ι5 hp5 H5 z w F5 R5 V5 A5
          | some c =>
            rw [turnC_some hb, quiet_bind, Rz.bind_assoc] at A4
            refine ⟨ι', e', hp', S2.sr R4, A4.quietBind.mono ?_⟩
            rintro b H5 ⟨ι5, hp5, t, F5, R5, rfl, A5⟩
            cases b with
            | false =>
              simp only [Bool.false_eq_true, if_false] at A5 ⊢
              exact ⟨ι5, hp5, F34.trans F5, R5, A5⟩
            | true =>
              simp only [if_true] at A5 ⊢
              rw [quiet_bind, Rz.bind_assoc] at A5
              refine ⟨ι5, e', hp5, (S2.mono F5).sr R5, A5.quietBind.mono ?_⟩
              rintro z H6 ⟨ι6, hp6, w, F6, R6, V6, A6⟩
              exact fin ι6 hp6 H6 z w (F5.trans F6) R6 V6 A6
    · exact A3.elim
  · have e1 : i = ws.length := by omega
    subst e1
    rw [List.drop_length, compL] at A3
    split at A3
    · rename_i st
      exact .inl ⟨K.stop ι' H' hp' F23 R3 st, A3.here R3 (.ref (pre_get F3.pre hk))⟩
    · exact A3.elim
/-- a comprehension's parts, in the block's own context -/
structure CompOk (X : Cx) (n : Nam) (P : Wd) (elt tg : Expr) (ifs : List Expr) (scope : Scope) (x : Ex) (t : Tg) (cd : Option Ex) : Prop where
  tgt : ∀ (s : Shared) (H : Hp) (C : Addr) (cl : List (Str × Addr)) (fp : List Addr), PG (X.blk s H scope (compEnvC scope cl C X.env) fp) tg (gB n t)
  tst : ∀ (s : Shared) (H : Hp) (C : Addr) (cl : List (Str × Addr)) (fp : List Addr), PTs (X.blk s H scope (compEnvC scope cl C X.env) fp) ifs (GC n P cd)
  elt : ∀ (s : Shared) (H : Hp) (C : Addr) (cl : List (Str × Addr)) (fp : List Addr), PE (X.blk s H scope (compEnvC scope cl C X.env) fp) elt (G n noW P x)
theorem g_comp {elt tg iter : Expr} {ifs : List Expr} {scope : Scope} {own : List (Str × Nat)} {pos : Pos} {x : Ex} {t : Tg} {it : Itr} {cd : Option Ex} (hc : X.calm = true) (hN : X.N.Nodup) (hi : PI X tg iter (GI n W P it)) (ok : BlkOk X.N X.env.scope scope own) (C : CompOk X n P elt tg ifs scope x t cd)
    (hs : ∀ i ∈ t.slots, i ∈ own.map (·.2)) (hf : ∀ x, foldedSetIterable iter X.env x = pure x) : PE X (.ListComp elt [⟨tg, iter, ifs, 0⟩] scope pos) (G n W P (.comp x (own.map (·.2)) t it cd)) :=
  pe_wk (pe_lc hc hN hi ok C.tgt C.tst C.elt hf) (comp_core hs)
end
end SL

set_option maxRecDepth 100000
set_option maxHeartbeats 1000000
/-! Statements by the evaluator. -/
namespace SL
open PySem L2 PyProof.Rows
set_option autoImplicit false

/-- how a statement ends, by values -/
inductive FV where
  | nx (σ : L2.St) | bk (σ : L2.St) | ct (σ : L2.St) | rt (v : V)
def FR (n : Nam) (ι : List Addr) (H : Hp) : FV → Fl → Prop
  | .nx σ, .nx e => ER n ι H σ e
  | .bk σ, .brk e => ER n ι H σ e
  | .ct σ, .cont e => ER n ι H σ e
  | .rt v, .ret w => VR n ι H v w
  | _, _ => False
def qD (D : Ends) : FV → Hp → Prop
  | .nx σ, H => D.nx σ H
  | .bk σ, H => D.bk σ H
  | .ct σ, H => D.ct σ H
  | .rt v, H => D.rt v H
def GS (n : Nam) (W : Wx) (m : Ev → Hs → Rz Fl) : TS := fun D σ H => ∃ ι e hp, SR n ι H σ e hp ∧ Af n (FR n) ι H (m e hp) (qD D) (W σ)
section
variable {n : Nam} {ι : List Addr} {H : Hp} {hp : Hs} {σ σ' : L2.St} {e e' : Ev} {X : Cx} {W : Wx} {P : Wd} {D : Ends} {E : Nat → Wv → Hs → List Addr → Hp → Prop}
theorem ps_wk {st : Stmt} {t t' : TS} (h : PS X st t) (w : ∀ D σ H, t' D σ H → t D σ H) : PS X st t' := ⟨fun pins s σ H D I q => h.run pins s σ H D I (w D σ H q)⟩
theorem pss_wk {st : List Stmt} {t t' : TS} (h : PSs X st t) (w : ∀ D σ H, t' D σ H → t D σ H) : PSs X st t' := ⟨fun pins s σ H D I q => h.run pins s σ H D I (w D σ H q)⟩
theorem Af.nx (A : Af n (FR n) ι H (.ok (.nx e) hp) (qD D) E) (R : HR n ι H hp) (S : ER n ι H σ e) : D.nx σ H := Af.here (b := FV.nx σ) A R S
/-- what comes behind a block -/
theorem Af.flow {D' : Ends} {r : Rz Fl} {k : Fl → Hs → Rz Fl} (A : Af n (FR n) ι H (r.bind k) (qD D) E)
    (h1 : ∀ ι1 H1 hp1 σ e, Fr ι H ι1 H1 → HR n ι1 H1 hp1 → ER n ι1 H1 σ e → Af n (FR n) ι1 H1 (k (.nx e) hp1) (qD D) E → D'.nx σ H1)
    (h2 : ∀ ι1 H1 hp1 σ e, Fr ι H ι1 H1 → HR n ι1 H1 hp1 → ER n ι1 H1 σ e → Af n (FR n) ι1 H1 (k (.brk e) hp1) (qD D) E → D'.bk σ H1)
    (h3 : ∀ ι1 H1 hp1 σ e, Fr ι H ι1 H1 → HR n ι1 H1 hp1 → ER n ι1 H1 σ e → Af n (FR n) ι1 H1 (k (.cont e) hp1) (qD D) E → D'.ct σ H1)
    (h4 : ∀ ι1 H1 hp1 v w, Fr ι H ι1 H1 → HR n ι1 H1 hp1 → VR n ι1 H1 v w → Af n (FR n) ι1 H1 (k (.ret w) hp1) (qD D) E → D'.rt v H1) : Af n (FR n) ι H r (qD D') E := by
  refine (Af.bind (Rel := FR n) A).mono ?_
  rintro b H1 ⟨ι1, hp1, a, F, R, V, A1⟩
  cases b <;> cases a <;> first | exact V.elim | skip
  · exact h1 _ _ _ _ _ F R V A1
  · exact h2 _ _ _ _ _ F R V A1
  · exact h3 _ _ _ _ _ F R V A1
  · exact h4 _ _ _ _ _ F R V A1

/-! ### small statements -/
theorem bind_name {i : Nat} {w : Wv} {e e' : Ev} (h : (Tg.name i).bind w e = some e') : e' = e.set i (some w) := by
  simp only [Tg.bind] at h
  split at h
  · exact (Option.some.inj h).symm
  · cases h
theorem s_name {a : Expr} {x : Ex} {i : Nat} {y : Str} {p pos : Pos} (hN : X.N.Nodup) (hi : X.N[i]? = some y) (hx : Loc X.env.scope y) (hf : X.fn y = true ∨ X.env.scope.names.lookup y = some .local) (ha : PE X a (G n W P x)) (hs : swapsWith a (some (.Name y p)) pos.line X.env = pure false) :
    PS X (.Assign [.Name y p] a pos) (GS n W (ex P (.asg (.tg (.name i)) x))) := by
  refine ps_wk (ps_set hN hi hx ha hs hf) fun D σ H ⟨ι, e, hp, S, A⟩ => ?_
  simp only [ex] at A
  refine ⟨ι, e, hp, S, (Af.bind A).mono ?_⟩
  rintro v H1 ⟨ι1, hp1, w, F1, R1, V1, A1⟩
  simp only [store] at A1
  split at A1
  · rename_i e' b
    rw [bind_name b] at A1
    exact A1.nx R1 (((S.er.mono F1).set V1 i))
  · exact A1.elim
theorem s_nameLc {elt tg iter : Expr} {ifs : List Expr} {scope : Scope} {own : List (Str × Nat)} {cpos p pos : Pos} {x : Ex} {t : Tg} {it : Itr} {cd : Option Ex} {i : Nat} {y : Str} (hc : X.calm = true) (hN : X.N.Nodup) (hi : X.N[i]? = some y) (hyl : X.env.scope.names.lookup y = some .local)
    (hsw : swapsWith (.ListComp elt [⟨tg, iter, ifs, 0⟩] scope cpos) (some (.Name y p)) pos.line X.env = pure true) (hit : PI X tg iter (GI n W P it)) (ok : BlkOk X.N X.env.scope scope own) (C : CompOk X n P elt tg ifs scope x t cd)
    (hs : ∀ i ∈ t.slots, i ∈ own.map (·.2)) (hf : ∀ x, foldedSetIterable iter X.env x = pure x) :
    PS X (.Assign [.Name y p] (.ListComp elt [⟨tg, iter, ifs, 0⟩] scope cpos) pos) (GS n W (ex P (.asg (.tg (.name i)) (.comp x (own.map (·.2)) t it cd)))) := by
  refine ps_wk (ps_setLc hc hN hi hyl hsw hit ok C.tgt C.tst C.elt hf) fun D σ H ⟨ι, e, hp, S, A⟩ => ?_
  rw [ex] at A
  refine comp_core hs σ H _ ⟨ι, e, hp, S, (Af.bind A).mono ?_⟩
  rintro v H1 ⟨ι1, hp1, w, F1, R1, V1, A1⟩
  simp only [store] at A1
  split at A1
  · rename_i e' b
    rw [bind_name b] at A1
    exact A1.nx R1 (((S.er.mono F1).set V1 i))
  · exact A1.elim
theorem s_tg {a tg : Expr} {x : Ex} {t : Tg} {pos : Pos} (ha : PE X a (G n W P x)) (hg : PG X tg (gB n t)) (hs : swapsWithSole [tg] a pos.line X.env = pure false) (hw : swappedStores [tg] a X.env = pure none) (h1 : (assignEach [tg] X.env).map (·.2) = [assign tg X.env]) :
    PS X (.Assign [tg] a pos) (GS n W (ex P (.asg (.tg t) x))) := by
  refine ps_wk (ps_asg ha hg hs hw h1) fun D σ H ⟨ι, e, hp, S, A⟩ => ?_
  simp only [ex] at A
  refine ⟨ι, e, hp, S, (Af.bind A).mono ?_⟩
  rintro v H1 ⟨ι1, hp1, w, F1, R1, V1, A1⟩
  simp only [store] at A1
  split at A1
  · rename_i e' b
    exact ⟨ι1, e, hp1, w, e', S.mono F1 R1, V1, b, fun σ' S' m => A1.nx R1 S'⟩
  · exact A1.elim
theorem s_par {a b : Expr} {x y : Ex} {i j : Nat} {u v : Str} {px py pt pos : Pos} {kt k2 : Nat} {pt2 : Pos} (hc : X.calm = true) (hN : X.N.Nodup) (hi : X.N[i]? = some u) (hj : X.N[j]? = some v) (hij : i ≠ j) (hx : X.env.scope.names.lookup u = some .local) (hy : X.env.scope.names.lookup v = some .local) (ha : PA X [a, b] (GA n W P [x, y]))
    (hw : swappedStores [.Tuple [.Name u px, .Name v py] kt pt] (.Tuple [a, b] k2 pt2) X.env = pure (some [u, v])) (hs : swapsWithSole [.Tuple [.Name u px, .Name v py] kt pt] (.Tuple [a, b] k2 pt2) pos.line X.env = pure false) :
    PS X (.Assign [.Tuple [.Name u px, .Name v py] kt pt] (.Tuple [a, b] k2 pt2) pos) (GS n W (ex P (.par i j x y))) := by
  refine ps_wk (ps_par hc hN hi hj hij hx hy ha hw hs) fun D σ H ⟨ι, e, hp, S, A⟩ => ?_
  have A' : Af n (FR n) ι H ((evs P [x, y] e hp).bind fun ws h2 => match ws with | [w, w'] => if i < e.length ∧ j < e.length then .ok (.nx ((e.set i (some w)).set j (some w'))) h2 else .bad | _ => .bad) (qD D) (W σ) := by
    simp only [evs, Rz.bind_assoc, Rz.bind_ok]
    simpa only [ex] using A
  refine ⟨ι, e, hp, S, (Af.evs A').mono ?_⟩
  rintro vs H1 ⟨ι1, hp1, ws, F1, R1, V1, hl, A1⟩
  obtain ⟨v1, w1, v2, w2, rfl, rfl, V2, V3⟩ := V1.two hl
  simp only at A1
  split at A1
  · exact ⟨_, _, rfl, A1.nx R1 (((S.er.mono F1).set V2 i).set V3 j)⟩
  · exact A1.elim
theorem s_sub {a b c : Expr} {x y z : Ex} {tpos pos : Pos} (hK : KW X n) (hu : X.A.units + 64 < cLine) (ha : PE X a (G n W P x)) (hb : PE X b (G n W P y)) (hv : PE X c (G n W P z)) (hns : noSlice b = true) (hs : swapsWithSole [.Subscript a b tpos] c pos.line X.env = pure false) (hw : swappedStores [.Subscript a b tpos] c X.env = pure none) :
    PS X (.Assign [.Subscript a b tpos] c pos) (GS n W (ex P (.asg (.sub x y) z))) := by
  refine ps_wk (ps_asg hv (pg_sub (pos := tpos) ha hb (store_ok (n := n) hK hu) (by intro v; cases b <;> first | rfl | cases hns)) hs hw (by cases b <;> first | rfl | cases hns)) fun D σ H ⟨ι, e, hp, S, A⟩ => ?_
  simp only [ex] at A
  refine ⟨ι, e, hp, S, (Af.bind A).mono ?_⟩
  rintro v H1 ⟨ι1, hp1, w, F1, R1, V1, A1⟩
  simp only [store] at A1
  refine ⟨ι1, e, hp1, S.mono F1 R1, (Af.bind A1).mono ?_⟩
  rintro v2 H2 ⟨ι2, hp2, w2, F2, R2, V2, A2⟩
  refine ⟨ι2, e, hp2, (S.mono F1 R1).mono F2 R2, (Af.bind A2).mono ?_⟩
  rintro v3 H3 ⟨ι3, hp3, w3, F3, R3, V3, A3⟩
  refine ⟨ι3, hp3, w2, w3, w, _, R3, V2.mono F3, V3, (V1.mono F2).mono F3, (Af.bind A3).mono ?_⟩
  rintro _ H4 ⟨ι4, hp4, _, F4, R4, _, A4⟩
  exact A4.nx R4 ((((S.er.mono F1).mono F2).mono F3).mono F4)
theorem s_att {o a : Expr} {x y : Ex} {f : Nat} {p pos : Pos} (hK : KW X n) (hf : FldOk n P) (ho : PE X o (G n W P y)) (ha : PE X a (G n W P x)) (hs : swapsWith a (some (.Attribute o (n.nm f) p)) pos.line X.env = pure false) :
    PS X (.Assign [.Attribute o (n.nm f) p] a pos) (GS n W (ex P (.asg (.att y f) x))) := by
  refine ps_wk (ps_fld ho ha hs) fun D σ H ⟨ι, e, hp, S, A⟩ => ?_
  simp only [ex] at A
  refine ⟨ι, e, hp, S, (Af.bind A).mono ?_⟩
  rintro v H1 ⟨ι1, hp1, w, F1, R1, V1, A1⟩
  simp only [store] at A1
  refine ⟨ι1, e, hp1, S.mono F1 R1, (Af.bind A1).mono ?_⟩
  rintro u H2 ⟨ι2, hp2, w2, F2, R2, V2, A2⟩
  cases V2 <;> try exact A2.elim
  rename_i k a hk
  simp only at A2
  split at A2
  · rename_i c fs q
    split at A2
    · rename_i hc
      obtain ⟨ho, h1, h2⟩ := R2.at_ k a _ hk q
      cases h2 with
      | ins h3 =>
        rename_i dx vs
        obtain ⟨c1, c2⟩ := hf c f hc.1
        obtain ⟨F3, R3⟩ := R2.set hk (ho := .ins (n.cA c) dx (putF (n.nm f) v vs)) (o := .ins c (fput f w fs)) fun F => .ins (VRf.put ((V1.mono F2).mono F) f (h3.mono F))
        exact ⟨a, _, dx, vs, rfl, h1, hK.K ▸ c1, hK.K ▸ c2, by rw [h3.length]; exact hc.2, (A2.at F3).nx R3 (((S.er.mono F1).mono F2).mono F3)⟩
    · exact A2.elim
  · exact A2.elim
theorem s_augn {a : Expr} {x : Ex} {i : Nat} {y : Str} {p pos : Pos} (hK : KW X n) (hN : X.N.Nodup) (hi : X.N[i]? = some y) (hx : Loc X.env.scope y) (hf : X.fn y = true ∨ X.env.scope.names.lookup y = some .local) (ha : PE X a (G n W P x)) :
    PS X (.AugAssign (.Name y p) .Add a pos) (GS n W (ex P (.augn i .add x))) := by
  refine ps_wk (ps_aug hN hi hx ha ip_add hf) fun D σ H ⟨ι, e, hp, S, A⟩ => ?_
  simp only [ex] at A
  split at A
  · rename_i w0 q
    obtain ⟨v0, g1, g2⟩ := S.at_ i w0 q
    refine ⟨v0, g1, ι, e, hp, S, (Af.bind A).mono ?_⟩
    rintro v H1 ⟨ι1, hp1, w, F1, R1, V1, A1⟩
    split at A1
    · rename_i a1 b1
      cases g2
      cases V1
      exact ⟨_, _, rfl, rfl, A1.nx R1 ((S.er.mono F1).set (.int _) i)⟩
    · exact A1.elim
  · exact A.elim
theorem s_augf {o a : Expr} {x y : Ex} {f : Nat} {p pos : Pos} (hK : KW X n) (hf : FldOk n P) (ho : PE X o (G n W P y)) (ha : PE X a (G n W P x)) :
    PS X (.AugAssign (.Attribute o (n.nm f) p) .Add a pos) (GS n W (ex P (.augf y f .add x))) := by
  refine ps_wk (ps_fldaug ho ha ip_add) fun D σ H ⟨ι, e, hp, S, A⟩ => ?_
  simp only [ex] at A
  refine ⟨ι, e, hp, S, (Af.bind A).mono ?_⟩
  rintro u H1 ⟨ι1, hp1, w, F1, R1, V1, A1⟩
  cases V1 <;> try exact A1.elim
  rename_i k a hk
  simp only at A1
  split at A1
  · rename_i c fs q
    split at A1
    · rename_i hc
      split at A1
      · rename_i w0 q0
        obtain ⟨ho, h1, h2⟩ := R1.at_ k a _ hk q
        cases h2 with
        | ins h3 =>
          obtain ⟨v0, g1, g2⟩ := h3.get q0
          obtain ⟨c1, c2⟩ := hf c f hc
          refine ⟨a, _, _, _, v0, rfl, h1, hK.K ▸ c1, hK.K ▸ c2, g1, ι1, e, hp1, S.mono F1 R1, (Af.bind A1).mono ?_⟩
          rintro v H2 ⟨ι2, hp2, w2, F2, R2, V2, A2⟩
          split at A2
          · rename_i i1 j1
            cases V2
            have g3 := g2.mono F2
            cases g3
            refine ⟨_, _, rfl, rfl, ?_⟩
            simp only [binop, Rz.bind_ok] at A2
            split at A2
            · rename_i c' fs' q2
              split at A2
              · rename_i hcc
                obtain ⟨rfl, hl⟩ := hcc
                have hk2 := pre_get F2.pre hk
                obtain ⟨ho2, h12, h22⟩ := R2.at_ k a _ hk2 q2
                cases h22 with
                | ins h4 =>
                  rename_i dx2 vs2
                  obtain ⟨F3, R3⟩ := R2.set hk2 (ho := .ins (n.cA c') dx2 (putF (n.nm f) (.int (i1 + j1)) vs2)) (o := .ins c' (fput f (.int (i1 + j1)) fs')) fun F => .ins (VRf.put (.int _) f (h4.mono F))
                  exact ⟨dx2, vs2, h12, by rw [h4.length]; exact hl, (A2.at F3).nx R3 (((S.er.mono F1).mono F2).mono F3)⟩
              · exact A2.elim
            · exact A2.elim
          · exact A2.elim
      · exact A1.elim
    · exact A1.elim
  · exact A1.elim
theorem s_exp {a : Expr} {x : Ex} {pos : Pos} (ha : PE X a (G n W P x)) (hs : swapsWith a none pos.line X.env = pure false) : PS X (.Expr a pos) (GS n W (ex P (.exp x))) := by
  refine ps_wk (ps_expr ha hs) fun D σ H ⟨ι, e, hp, S, A⟩ => ?_
  simp only [ex] at A
  refine ⟨ι, e, hp, S, (Af.bind A).mono ?_⟩
  rintro v H1 ⟨ι1, hp1, w, F1, R1, V1, A1⟩
  exact A1.nx R1 (S.er.mono F1)
theorem s_doc {z : Str} {j : Nat} {p pos : Pos} : PS X (.Expr (.Constant (.str z) j p) pos) (GS n W (ex P .pass)) := ps_wk ps_doc fun D σ H ⟨ι, e, hp, S, A⟩ => by
  simp only [ex] at A
  exact A.nx S.hr S.er
theorem s_pass {pos : Pos} : PS X (.Pass pos) (GS n W (ex P .pass)) := ps_wk ps_pass fun D σ H ⟨ι, e, hp, S, A⟩ => by
  simp only [ex] at A
  exact A.nx S.hr S.er
theorem s_brk {pos : Pos} : PS X (.Break pos) (GS n W (ex P .brk)) := ps_wk ps_break fun D σ H ⟨ι, e, hp, S, A⟩ => by
  simp only [ex] at A
  exact Af.here (b := FV.bk σ) A S.hr S.er
theorem s_cont {pos : Pos} : PS X (.Continue pos) (GS n W (ex P .cont)) := ps_wk ps_continue fun D σ H ⟨ι, e, hp, S, A⟩ => by
  simp only [ex] at A
  exact Af.here (b := FV.ct σ) A S.hr S.er
theorem s_ret {a : Expr} {x : Ex} {pos : Pos} (ha : PE X a (G n W P x)) : PS X (.Return (some a) pos) (GS n W (ex P (.ret x))) := by
  refine ps_wk (ps_ret ha) fun D σ H ⟨ι, e, hp, S, A⟩ => ?_
  simp only [ex] at A
  refine ⟨ι, e, hp, S, (Af.bind A).mono ?_⟩
  rintro v H1 ⟨ι1, hp1, w, F1, R1, V1, A1⟩
  exact Af.here (b := FV.rt v) A1 R1 V1
theorem s_retn {pos : Pos} : PS X (.Return none pos) (GS n W (ex P .retn)) := ps_wk ps_retN fun D σ H ⟨ι, e, hp, S, A⟩ => by
  simp only [ex] at A
  exact Af.here (b := FV.rt .non) A S.hr VR.non
theorem s_never {st : Stmt} : PS X st (GS n W (ex P .never)) := ps_wk ps_never fun D σ H ⟨ι, e, hp, S, A⟩ => by
  simp only [ex] at A
  exact A.elim
/-! ### blocks -/
theorem ss_nil : PSs X [] (GS n W (exs P [])) := pss_wk pss_nil fun D σ H ⟨ι, e, hp, S, A⟩ => by
  simp only [exs] at A
  exact A.nx S.hr S.er
theorem ss_cons {st : Stmt} {rest : List Stmt} {y : Sm} {ys : List Sm} (hW : ∀ σ σ', W σ = W σ') (h1 : PS X st (GS n W (ex P y))) (h2 : PSs X rest (GS n W (exs P ys))) : PSs X (st :: rest) (GS n W (exs P (y :: ys))) := by
  refine pss_wk (pss_cons h1 h2) fun D σ H ⟨ι, e, hp, S, A⟩ => ?_
  simp only [exs] at A
  refine ⟨ι, e, hp, S, A.flow (fun ι1 H1 hp1 σ1 e1 F R S1 A1 => ⟨ι1, e1, hp1, S1.sr R, hW σ σ1 ▸ A1⟩) (fun ι1 H1 hp1 σ1 e1 F R S1 A1 => Af.here (b := FV.bk σ1) A1 R S1) (fun ι1 H1 hp1 σ1 e1 F R S1 A1 => Af.here (b := FV.ct σ1) A1 R S1) fun ι1 H1 hp1 v w F R V A1 => Af.here (b := FV.rt v) A1 R V⟩
theorem s_if {c : Expr} {a b : List Stmt} {x : Ex} {p q : List Sm} {pos : Pos} (hc : PT X c (GT n W P x)) (ha : PSs X a (GS n W (exs P p))) (hb : PSs X b (GS n W (exs P q))) : PS X (.If c a b pos) (GS n W (ex P (.ifs x p q))) := by
  refine ps_wk (ps_if hc ha hb) fun D σ H ⟨ι, e, hp, S, A⟩ => ?_
  simp only [ex] at A
  refine ⟨ι, e, hp, S, (Af.bind A).mono ?_⟩
  rintro t H1 ⟨ι1, hp1, k, F1, R1, rfl, A1⟩
  cases t with
  | true => exact ⟨ι1, e, hp1, S.mono F1 R1, A1⟩
  | false => exact ⟨ι1, e, hp1, S.mono F1 R1, A1⟩
theorem s_whl {c : Expr} {b : List Stmt} {x : Ex} {q : List Sm} {pos : Pos} (hW : ∀ σ σ', W σ = W σ') (hp : PassesOwn (model X.prog X.w) X.A X.env X.xe) (hc : PT X c (GT n W P x)) (hb : PSs X b (GS n W (exs P q))) : PS X (.While c b [] pos) (GS n W (ex P (.whl x q))) := by
  refine ps_wk (ps_while hp hc hb) fun D σ0 H0 ⟨ι0, e0, hp0, S0, A0⟩ => ?_
  simp only [ex] at A0
  refine ⟨fun m σ H => ∃ ι e hp, SR n ι H σ e hp ∧ Af n (FR n) ι H (whlL (tst P x) (exs P q) m e hp) (qD D) (W σ0), ⟨P.turns, ι0, e0, hp0, S0, A0⟩, ?_⟩
  rintro m σ H ⟨ι, e, hp, S, A⟩
  cases m with
  | zero => exact A.elim
  | succ m =>
    simp only [whlL] at A
    refine ⟨ι, e, hp, S, hW σ0 σ ▸ (Af.bind A).mono ?_⟩
    rintro t H1 ⟨ι1, hp1, k, F1, R1, rfl, A1⟩
    cases t with
    | false => exact A1.nx R1 (S.er.mono F1)
    | true =>
      simp only [if_true] at A1 ⊢
      refine ⟨fun σ' H' => ∃ ι e hp, SR n ι H' σ' e hp ∧ Af n (FR n) ι H' (whlL (tst P x) (exs P q) m e hp) (qD D) (W σ0), fun σ' H' h => ⟨m, Nat.lt_succ_self _, h⟩, ι1, e, hp1, S.mono F1 R1, hW σ0 σ ▸ ?_⟩
      exact A1.flow (fun ι1 H1 hp1 σ1 e1 F R S1 A1 => ⟨ι1, e1, hp1, S1.sr R, A1⟩) (fun ι1 H1 hp1 σ1 e1 F R S1 A1 => A1.nx R S1) (fun ι1 H1 hp1 σ1 e1 F R S1 A1 => ⟨ι1, e1, hp1, S1.sr R, A1⟩) fun ι1 H1 hp1 v w F R V A1 => Af.here (b := FV.rt v) A1 R V
theorem forL_at {body : Ev → Hs → Rz Fl} {tg : Tg} {ck : Ck} {ws : List Wv} {i : Nat} {w : Wv} (h : ws[i]? = some w) (e : Ev) (hp : Hs) : forL body tg ck (ws.drop i) e hp = if stay hp ck then (match tg.bind w e with
      | some e1 => (body e1 hp).bind fun f h2 => match f with
        | .nx e2 => forL body tg ck (ws.drop (i + 1)) e2 h2
        | .cont e2 => forL body tg ck (ws.drop (i + 1)) e2 h2
        | .brk e2 => .ok (.nx e2) h2
        | .ret v => .ok (.ret v) h2
      | none => .bad) else .bad := by
  obtain ⟨hl, e⟩ := List.getElem?_eq_some_iff.mp h
  rw [List.drop_eq_getElem_cons hl, e, forL]
  all_goals rfl
theorem s_for {tg iter : Expr} {b : List Stmt} {t : Tg} {it : Itr} {q : List Sm} {pos : Pos} (hW : ∀ σ σ', W σ = W σ') (hp : PassesOwn (model X.prog X.w) X.A X.env X.xe) (hc : X.calm = true) (hi : PI X tg iter (GI n W P it)) (hg : PG X tg (gB n t)) (hb : PSs X b (GS n W (exs P q)))
    (hs : ∀ x, foldedSetIterable iter X.env x = pure x) : PS X (.For tg iter b [] pos) (GS n W (ex P (.for t it q))) := by
  refine ps_wk (ps_for hp hc hi hg hb hs) fun D σ0 H0 ⟨ι0, e0, hp0, S0, A0⟩ => ?_
  simp only [ex] at A0
  refine ⟨ι0, e0, hp0, S0, (Af.bind A0).mono ?_⟩
  rintro J H1 ⟨ι1, hp1, ⟨ws, ck⟩, F1, R1, K, A1⟩
  have K : Wk n ι1 H1 J ws ck := K
  let Nx : Nat → L2.St → Hp → Prop := fun i σ H => ∃ ι e hp, Fr ι1 H1 ι H ∧ SR n ι H σ e hp ∧ Af n (FR n) ι H (forL (exs P q) t ck (ws.drop i) e hp) (qD D) (W σ0)
  refine ⟨fun i m σ H => m = ws.length - i ∧ i ≤ ws.length ∧ Nx i σ H, ⟨ws.length, rfl, Nat.zero_le _, ι1, e0, hp1, Fr.refl _ _, S0.mono F1 R1, A1⟩, ?_⟩
  rintro i m σ H ⟨rfl, hi, ι, e, hp, F, S, A⟩
  by_cases hlt : i < ws.length
  · have hw : ws[i]? = some ws[i] := List.getElem?_eq_getElem hlt
    rw [forL_at hw] at A
    split at A
    · rename_i st
      refine .inr ⟨K.go ι H hp i F S.hr st hlt, Nx (i + 1), fun σ' H' h => ⟨ws.length - (i + 1), by omega, rfl, hlt, h⟩, fun v H2 y => ?_⟩
      obtain ⟨F2, R2, V2⟩ := K.yld ι H hp i _ F S.hr st hw v H2 y
      split at A
      · rename_i e1 hb1
        refine ⟨ι, e, hp, ws[i], e1, S.mono F2 R2, V2, hb1, fun σ2 S2 m2 => ⟨ι, e1, hp, S2.sr R2, hW σ0 σ2 ▸ ?_⟩⟩
        have A2 := A.at F2
        have F12 := F.trans F2
        exact A2.flow (fun ι3 H3 hp3 σ3 e3 F3 R3 S3 A3 => ⟨ι3, e3, hp3, F12.trans F3, S3.sr R3, A3⟩) (fun ι3 H3 hp3 σ3 e3 F3 R3 S3 A3 => A3.nx R3 S3) (fun ι3 H3 hp3 σ3 e3 F3 R3 S3 A3 => ⟨ι3, e3, hp3, F12.trans F3, S3.sr R3, A3⟩) fun ι3 H3 hp3 v w F3 R3 V3 A3 => Af.here (b := FV.rt v) A3 R3 V3
      · exact A.elim
    · exact A.elim
  · have e1 : i = ws.length := by omega
    subst e1
    rw [List.drop_length, forL] at A
    split at A
    · rename_i st
      exact .inl ⟨K.stop ι H hp F S.hr st, A.nx S.hr S.er⟩
    · exact A.elim
end
end SL

set_option maxRecDepth 100000
set_option maxHeartbeats 1000000
/-! A base class's method; a list turned; small words for the program's forms. -/
namespace SL
open PySem L2 PyProof.Rows
set_option autoImplicit false
section
variable {n : Nam} {ι : List Addr} {H : Hp} {hp : Hs} {W : Wx} {V' : WX} {X : Cx} {P : Wd}
/-- a class by its name, its methods -/
structure SupFn (X : Cx) (n : Nam) (P : Wd) (k : Nat) (x : Str) (c : Nat) : Prop where
  at_ : X.mg x = some (.ref (n.cA c))
  get : PySem.W.specialIn X.K (.ref (n.cA c)) "__getattribute__" = some (some (.builtin "type.__getattribute__"))
  rds : PySem.W.readsIn X.K (n.cA c) (.type "type") = true
  meth : ∀ m f, methOf P c m = some f → ∃ a, PySem.W.findCls X.K (.ref (n.cA c)) (.type "type") (n.nm m) = some (.val (.ref a)) ∧ PySem.W.handedIn (.ref a) = true ∧ PySem.W.keepIn X.K (.ref a) = true ∧ FnIs X n P k f a
theorem g_sup {x : Str} {k c m : Nat} {p1 p2 pos : Pos} {e : Expr} {es : List Expr} {xs : List Ex} {pl : Sem Bool} (hr : Room k X.A) (tk : Takes X V') (hg : Gl X x) (S : SupFn X n P k x c) (ha : PA X (e :: es) (GA n (ofW n V') P xs)) (hdb : (x == ("__debug__" : Str)) = false)
    (he : starEach (e :: es) X.env = (false, eval e X.env) :: starEach es X.env) (hpl : (backTo pos (starEach es X.env)).any (·.1) = false)
    (ht : eval (.Call (.Attribute (.Name x p1) (n.nm m) p2) (e :: es) [] pos) X.env = (do
      let ov ← eval (.Name x p1) X.env
      standAt p2.atName
      let (f, first) ← holding [ov] (getMethod ov (n.nm m) pl)
      callWith pos f first (backTo pos (starEach (e :: es) X.env)) (backToKw pos (keywordEach [] X.env)))) :
    PE X (.Call (.Attribute (.Name x p1) (n.nm m) p2) (e :: es) [] pos) (G n (ofW n V') P (.sup c m xs)) := by
  refine ⟨fun pins s σ H Q I ⟨ι, ee, hp, S', A⟩ => ?_⟩
  simp only [ev] at A
  split at A
  · rename_i f q
    obtain ⟨a, h1, h2, h3, F⟩ := S.meth m f q
    refine PySem.W.methodCall_KW (pl := pl) (ld_glob I hg S.at_ ?_ hdb) ht
    refine PySem.W.method_cls I.kIn S.get (PySem.W.cls_value I.kIn S.rds h1 h2 ?_)
    refine PySem.W.callWith_K (first := []) (h₀ := X.base) I.ok.mod.kin h3 (thn (ha.run pos pins _ σ H _ (I.tok _) ⟨ι, ee, hp, S', Af.bind A⟩) fun us s1 h1 => ?_) he hpl
    obtain ⟨vs, H1, I1, r, ι1, hp1, ws, F1, R1, V1, A1⟩ := h1
    exact ⟨I1.kIn, run_w F hr tk I1 r R1 V1 A1⟩
  · exact A.elim
theorem g_rvs {a : Expr} {x : Ex} {k : Nat} {p1 p2 p3 pos : Pos} (hK : KW X n) (ha : PE X a (G n W P x)) : PE X (.Subscript a (.Slice none none (some (.UnaryOp .USub (.Constant (.int 1) k p1) p2)) p3) pos) (G n W P (.rvs x)) := by
  refine pe_wk (pe_revL ha) fun σ H Q ⟨ι, e, hp, S, A⟩ => ?_
  simp only [ev] at A
  refine ⟨ι, e, hp, S, (Af.bind A).mono ?_⟩
  rintro v H1 ⟨ι1, hp1, w, F1, R1, V1, A1⟩
  split at A1
  · rename_i ws q
    obtain ⟨p, vs, rfl, h1, h2⟩ := getL_rel R1 V1 q
    exact ⟨p, vs, rfl, hK.K ▸ h1, (newL_ok R1 h2.reverse A1).2⟩
  · exact A1.elim

/-! ### the program's forms -/
def noStar : Expr → Bool
  | .Starred .. => false
  | _ => true
theorem star_cons {a : Expr} {es : List Expr} {env : Env} (h : noStar a = true) : starEach (a :: es) env = (false, eval a env) :: starEach es env := by
  cases a <;> first | rfl | cases h
theorem star_any {env : Env} {pos : Pos} : ∀ {es : List Expr}, es.all noStar = true → (backTo pos (starEach es env)).any (·.1) = false
  | [], _ => rfl
  | a :: es, h => by
    rw [List.all_cons, Bool.and_eq_true] at h
    rw [star_cons h.1]
    have := star_any (env := env) (pos := pos) h.2
    simp only [backTo, List.map_cons, List.any_cons, Bool.false_or] at this ⊢
    exact this
theorem star_all {env : Env} {pos : Pos} : ∀ {es : List Expr}, es.all noStar = true → (backTo pos (starEach es env)).all (fun x => !x.1) = true
  | [], _ => rfl
  | a :: es, h => by
    rw [List.all_cons, Bool.and_eq_true] at h
    rw [star_cons h.1]
    have := star_all (env := env) (pos := pos) h.2
    simp only [backTo, List.map_cons, List.all_cons, Bool.not_false, Bool.true_and] at this ⊢
    exact this
theorem asg_cons {a : Expr} {es : List Expr} {env : Env} (h : noStar a = true) : assignEach (a :: es) env = (false, assign a env) :: assignEach es env := by
  cases a <;> first | rfl | cases h
theorem asg_length {env : Env} : ∀ es : List Expr, (assignEach es env).length = es.length
  | [] => rfl
  | a :: es => by
    have := asg_length (env := env) es
    cases a <;> (show (_ :: assignEach es env).length = _; rw [List.length_cons, List.length_cons, this])
theorem asg_none {env : Env} : ∀ {es : List Expr}, es.all noStar = true → (assignEach es env).findIdx? (·.1) = none
  | [], _ => rfl
  | a :: es, h => by
    rw [List.all_cons, Bool.and_eq_true] at h
    rw [asg_cons h.1, List.findIdx?_cons]
    simp [asg_none (env := env) h.2]
def noSet : Expr → Bool
  | .Set .. => false
  | _ => true
theorem set_pure {a : Expr} {env : Env} (h : noSet a = true) (x : Value) : foldedSetIterable a env x = pure x := by
  cases a <;> first | rfl | cases h
theorem marks_of {op : CmpOp} {a : Expr} (h : noSet a = true) : behindInMarks op a = false := by
  cases a <;> first | rfl | cases h
/-- no comprehension -/
def noComp : Expr → Bool
  | .ListComp .. => false
  | .SetComp .. => false
  | .DictComp .. => false
  | _ => true
theorem sw_no {a : Expr} {t : Option Expr} {l : Nat} {env : Env} (h : noComp a = true) : swapsWith a t l env = pure false := by
  cases a <;> first | rfl | cases h
def noTup : Expr → Bool
  | .Tuple .. => false
  | .List .. => false
  | _ => true
theorem sws_no {a t : Expr} {env : Env} (h : noTup a = true) : swappedStores [t] a env = pure none := by
  cases a <;> first | (cases t <;> rfl) | cases h
theorem sws_no2 {a t : Expr} {env : Env} (h : noTup t = true) : swappedStores [t] a env = pure none := by
  cases t <;> first | (cases a <;> rfl) | cases h
end
end SL

set_option maxRecDepth 100000
set_option maxHeartbeats 1000000
/-! Dicts: displays, update; list(range(..)). -/
namespace SL
open PySem PySem.Spec L2 PyProof.Rows
set_option autoImplicit false

section
variable {n : Nam} {ι : List Addr} {H : Hp} {hp : Hs} {W : Wx} {X : Cx} {P : Wd}
/-! ### displays -/
def trsOf (n : Nam) (W : Wx) (P : Wd) : List Str → List Ex → List (TE × TE)
  | k :: ks, x :: xs => (fun _ H Q => Q (.str k) H, G n W P x) :: trsOf n W P ks xs
  | _, _ => []
theorem pairs_ok : ∀ {ks : List Str} {xs : List Ex} (hl : ks.length = xs.length) {ι : List Addr} {H : Hp} {σ : L2.St} {e : Ev} {hp : Hs} {K : List (V × V) → Hp → Prop}, SR n ι H σ e hp →
    Af n (VRs n) ι H (evs P xs e hp) (fun vs H' => K ((ks.map V.str).zip vs) H') (W σ) → tPairs (trsOf n W P ks xs) σ H K
  | [], [], _, ι, H, σ, e, hp, K, S, A => by
    simp only [evs] at A
    exact A.here S.hr .nil
  | [], _ :: _, hl, _, _, _, _, _, _, _, _ => by simp at hl
  | _ :: _, [], hl, _, _, _, _, _, _, _, _ => by simp at hl
  | k :: ks, x :: xs, hl, ι, H, σ, e, hp, K, S, A => by
    simp only [evs] at A
    show G n W P x σ H fun y H2 => tPairs (trsOf n W P ks xs) σ H2 fun ps H3 => K ((V.str k, y) :: ps) H3
    refine ⟨ι, e, hp, S, (Af.bind A).mono ?_⟩
    rintro v H1 ⟨ι1, hp1, w, F1, R1, V1, A1⟩
    refine pairs_ok (by simpa using hl) (S.mono F1 R1) ((Af.bind A1).mono ?_)
    rintro vs H2 ⟨ι2, hp2, ws, F2, R2, V2, A2⟩
    exact A2.here R2 (.cons (V1.mono F2) V2)
theorem zip_keys : ∀ (ks : List Str) (vs : List V), (ks.map V.str).zip vs = (((ks.map (fun k => (Sum.inr k : Key))).zip vs)).map fun kv => (kV kv.1, kv.2)
  | [], vs => rfl
  | k :: ks, [] => rfl
  | k :: ks, v :: vs => by
    show (V.str k, v) :: (ks.map V.str).zip vs = (kV (Sum.inr k), v) :: ((((ks.map (fun k => (Sum.inr k : Key))).zip vs)).map fun kv => (kV kv.1, kv.2))
    rw [zip_keys ks vs]; rfl
theorem zip_vrd : ∀ (ks : List Str) {vs : List V} {ws : List Wv}, VRs n ι H vs ws → VRd n ι H ((ks.map (fun k => (Sum.inr k : Key))).zip vs) ((ks.map Wv.str).zip ws)
  | [], _, _, _ => .nil
  | _ :: _, _, _, .nil => .nil
  | k :: ks, _, _, .cons h t => VRd.cons (k := Sum.inr k) h (zip_vrd ks t)
theorem HR.dicAt (R : HR n ι H hp) {k : Nat} {a : Addr} (h : ι[k]? = some a) {ws : List (Wv × Wv)} (e : hp[k]? = some (.dic ws)) : ∃ vs, H a = some (.dK vs) ∧ VRd n ι H vs ws := by
  obtain ⟨ho, h1, h2⟩ := R.at_ k a _ h e
  cases h2 with
  | dic h3 => exact ⟨_, h1, h3⟩
theorem g_dsp {keys : List (Option Expr)} {values : List Expr} {ks : List Str} {xs : List Ex} {pos : Pos} (h : PPs X pos keys values (trsOf n W P ks xs)) (hall : keys.all (·.isSome) = true) (hl : keys.length = values.length) (h0 : keys ≠ []) (h15 : keys.length ≤ 15)
    (c : ks.length = xs.length ∧ ks.length ≤ 15) : PE X (.Dict keys values pos) (G n W P (.dsp ks xs)) := by
  refine pe_wk (pe_disp h hall hl h0 h15) fun σ H Q ⟨ι, e, hp, S, A⟩ => ?_
  simp only [ev] at A
  intro p hn
  obtain ⟨F1, R1⟩ := S.hr.push hn (ho := .dK []) (o := .dic []) fun F => .dic .nil
  have hz : ι.length = hp.length := S.hr.len
  have hk : (ι ++ [p])[hp.length]? = some p := by rw [← hz, List.getElem?_append_right (Nat.le_refl _), Nat.sub_self]; rfl
  refine pairs_ok c.1 (S.mono F1 R1) ((Af.bind (A.at F1)).mono ?_)
  rintro vs H2 ⟨ι2, hp2, ws, F2, R2, V2, A2⟩
  split at A2
  · rename_i e2
    rw [if_pos c] at A2
    have hk2 := pre_get F2.pre hk
    obtain ⟨kvs, g1, g2⟩ := R2.dicAt hk2 e2
    cases g2
    obtain ⟨F3, R3⟩ := R2.set hk2 (ho := .dK (mergeK [] ((ks.map (fun k => (Sum.inr k : Key))).zip vs))) (o := .dic (mergeW [] ((ks.map Wv.str).zip ws))) fun F => .dic ((VRd.merge (zip_vrd ks V2) .nil).mono F)
    refine ⟨g1, _, zip_keys ks vs, ?_, A2 _ _ _ F3 R3 (.ref hk2)⟩
    rw [List.length_zip, List.length_map]
    exact Nat.le_trans (Nat.min_le_left _ _) c.2
  · exact A2.elim
theorem g_dnew {pos : Pos} : PE X (.Dict [] [] pos) (G n W P (.dsp [] [])) := by
  refine pe_wk pe_dnewK fun σ H Q ⟨ι, e, hp, S, A⟩ => ?_
  intro p hn
  obtain ⟨F1, R1⟩ := S.hr.push hn (ho := .dK []) (o := .dic []) fun F => .dic .nil
  have hz : ι.length = hp.length := S.hr.len
  have hk : (ι ++ [p])[hp.length]? = some p := by rw [← hz, List.getElem?_append_right (Nat.le_refl _), Nat.sub_self]; rfl
  have e1 : (hp ++ [Ob.dic []])[hp.length]? = some (.dic []) := by rw [List.getElem?_append_right (Nat.le_refl _), Nat.sub_self]; rfl
  have e2 : ev P (.dsp [] []) e hp = .ok (.ref hp.length) (hp ++ [.dic []]) := by
    simp only [ev, evs, Rz.bind_ok, e1]
    rw [if_pos ⟨rfl, by decide⟩]
    show Rz.ok _ ((hp ++ [Ob.dic []]).set hp.length (.dic [])) = _
    congr 1
    simp
  rw [e2] at A
  exact A _ _ _ F1 R1 (.ref hk)

/-! ### update -/
theorem mt_update : MtR X "dict.update" (fun x xs H Q => ∃ p q kvs more, x = .ref p ∧ xs = [.ref q] ∧ p ≠ q ∧ H p = some (.dK kvs) ∧ H q = some (.dK more) ∧ kvs.length + more.length ≤ sizeLine ∧ Q .non (upd H p (.dK (mergeK kvs more)))) := by
  intro pins s σ H x xs v us Q I rx rxs ⟨p, q, kvs, more, ex, exs, hne, hp, hq, hl, q0⟩
  subst ex exs
  cases rx
  obtain ⟨u, rfl, ru⟩ := rxs.one
  cases ru
  obtain ⟨z, hd, vs, rel, dd⟩ := dk_of I.hok hp
  obtain ⟨z2, hd2, vs2, rel2, dd2⟩ := dk_of I.hok hq
  refine call_meetsIn PySem.F.slot_dict_update dd.typeIs PySem.F.entry_dict_update (PySem.F.args_dict_update_2 _ _) (meets_dict_update (mixKind X.prog X.w) p q hne hd2)
    ⟨vs, vs2, dd, dd2, by rw [← rel.length, ← rel2.length]; exact hl, fun h' dd' _ hs => ?_⟩
  have he : ∃ q, h'.get? p = some q := let ⟨q, _, _, hq, _⟩ := dd'; ⟨q, hq⟩
  exact ⟨.non, _, d_write (t' := s.toks) I (by rw [hp]; exact True.intro) hs he (dk_new (Nat.le_trans (length_mergeK more kvs) hl) hd (rel2.merge rel) dd'), rfl, q0⟩
theorem isD_typ {v : V} {a : Wv} (R : HR n ι H hp) (h : VR n ι H v a) (e : isD hp a = true) : tyV X.K "dict" v H := by
  cases h <;> try (simp [isD] at e; done)
  rename_i k p hk
  simp only [isD] at e
  split at e
  · rename_i ws q
    obtain ⟨vs, g1, _⟩ := R.dicAt hk q
    exact .inr (.inr (.inl ⟨rfl, .inl ⟨vs, g1⟩⟩))
  · cases e
theorem g_dup {o e : Expr} {x y : Ex} {apos cpos : Pos} (ho : PE X o (G n W P x)) (ha : PE X e (G n W P y)) (hb : noSup o = true) (hn : noStar e = true) (hline : (apos.endLine == cpos.line) = true) :
    PE X (.Call (.Attribute o "update" apos) [e] [] cpos) (G n W P (.dup x y)) := by
  have hs : starEach [e] X.env = (false, eval e X.env) :: starEach [] X.env := star_cons hn
  have hfew : ((backTo cpos (starEach [e] X.env)).all (fun x => !x.1) && (backToKw cpos (keywordEach [] X.env)).all (fun x => x.1.isSome)
      && decide (([e] : List Expr).length + ([] : List Keyword).length + (if ([] : List Keyword).isEmpty then 0 else 1) < 30)) = true := by
    rw [star_all (by simpa using hn)]
    have : (backToKw cpos (keywordEach [] X.env)) = [] := rfl
    rw [this]
    simp
  refine pe_wk (pe_bm PySem.F.plainAttrs_dict PySem.F.slot_dict_update PySem.F.type_dict_update mt_update ho (a_cons ha a_nil hs) (noSup_ok hb) hfew hline hs rfl) fun σ H Q ⟨ι, ee, hp, S, A⟩ => ?_
  simp only [ev] at A
  refine ⟨ι, ee, hp, S, (Af.bind A).mono ?_⟩
  rintro v H1 ⟨ι1, hp1, w, F1, R1, V1, A1⟩
  split at A1
  · rename_i hd
    refine ⟨isD_typ R1 V1 hd, ι1, ee, hp1, S.mono F1 R1, ?_⟩
    simp only [evs, Rz.bind_ok]
    have A1' := Af.bind (Rel := VR n) A1
    cases hr : ev P y ee hp1 with
    | bad => rw [hr] at A1'; exact A1'
    | exc c w2 h2 => rw [hr] at A1'; exact A1'
    | ok w2 h2 =>
      rw [hr] at A1'
      intro vs ι2 H2 F2 R2 V2
      obtain ⟨v2, rfl, V2'⟩ := vrs1 V2
      obtain ⟨ι3, hp3, w3, F3, R3, V3, A3⟩ := A1' v2 ι2 H2 F2 R2 V2'
      have V4 := V1.mono F3
      unfold dupd at A3
      split at A3 <;> try contradiction
      · rename_i k j
        split at A3
        · rename_i ws us e1 e2
          split at A3
          · rename_i c
            cases V4 with
            | @ref _ p hp =>
              cases V3 with
              | @ref _ q hq =>
                obtain ⟨kvs, g1, g2⟩ := R3.dicAt hp e1
                obtain ⟨more, g3, g4⟩ := R3.dicAt hq e2
                have hne : p ≠ q := fun e => by
                  subst e
                  obtain ⟨l1, y1⟩ := List.getElem?_eq_some_iff.mp hp
                  obtain ⟨l2, y2⟩ := List.getElem?_eq_some_iff.mp hq
                  exact c.1 ((List.getElem_inj R3.nd).mp (y1.trans y2.symm))
                obtain ⟨F5, R5⟩ := R3.set hp (ho := .dK (mergeK kvs more)) (o := .dic (mergeW ws us)) fun F => .dic ((VRd.merge g4 g2).mono F)
                exact ⟨p, q, kvs, more, rfl, rfl, hne, g1, g3, by rw [g2.length, g4.length]; exact c.2, A3 _ _ _ F5 R5 .non⟩
          · exact A3.elim
        · exact A3.elim
  · exact A1.elim

/-! ### list(range(..)) -/
theorem upTo_vrs (lo : Int) (m : Nat) : VRs n ι H ((List.range m).map fun i => V.int (lo + (i : Nat))) (upTo lo m) := by
  unfold upTo
  induction List.range m with
  | nil => exact .nil
  | cons i r ih => exact .cons (.int _) ih
theorem small_rg {a b : Int} (h1 : small62 a = true) (h2 : small62 b = true) (h3 : (b - a).toNat ≤ 2 ^ 24) : RgOk a b := by
  simp only [small62, Bool.and_eq_true, decide_eq_true_eq] at h1 h2
  exact ⟨h1.1, h1.2, h2.1, h2.2, h3⟩
theorem upTo_len (lo : Int) (m : Nat) : (upTo lo m).length = m := by unfold upTo; rw [List.length_map, List.length_range]
theorem lrg_end {a b : Int} {Q : VK} {E : Nat → Wv → Hs → List Addr → Hp → Prop} (R : HR n ι H hp) (h1 : small62 a = true) (h2 : small62 b = true) (A : Af n (VR n) ι H (if (upTo a (b - a).toNat).length ≤ 2 ^ 24 then newL (upTo a (b - a).toNat) hp else .bad) Q E) :
    RgOk a b ∧ ∀ q, H q = none → Q (.ref q) (upd H q (.lst (rgV a b))) := by
  split at A
  · rename_i c
    rw [upTo_len] at c
    exact ⟨small_rg h1 h2 c, (newL_ok R (upTo_vrs a (b - a).toNat) A).2⟩
  · exact A.elim
theorem g_lrg1 {a : Expr} {x : Ex} {p p2 pos pos2 : Pos} (hc : X.calm = true) (hg : Gl X "list") (hm : X.mg "list" = none) (hg2 : Gl X "range") (hm2 : X.mg "range" = none) (ha : PE X a (G n W P x)) (hs : noStar a = true) :
    PE X (.Call (.Name "list" p) [.Call (.Name "range" p2) [a] [] pos2] [] pos) (G n W P (.lrg [x])) := by
  refine pe_wk (pe_listRg hc hg hm (prg_1 hg2 hm2 ha (star_cons hs))) fun σ H Q ⟨ι, e, hp, S, A⟩ => ?_
  simp only [ev, evs, Rz.bind_assoc, Rz.bind_ok] at A
  refine ⟨ι, e, hp, S, (Af.bind A).mono ?_⟩
  rintro v H1 ⟨ι1, hp1, w, F1, R1, V1, A1⟩
  cases V1 <;> try exact A1.elim
  rename_i i
  simp only [srcRange] at A1
  by_cases c : small62 i = true
  · rw [if_pos c] at A1
    refine ⟨i, rfl, lrg_end (E := W σ) R1 (by decide) c ?_⟩
    rw [Int.sub_zero]; exact A1
  · rw [if_neg c] at A1; exact A1.elim
theorem g_lrg2 {a b : Expr} {x y : Ex} {p p2 pos pos2 : Pos} (hc : X.calm = true) (hg : Gl X "list") (hm : X.mg "list" = none) (hg2 : Gl X "range") (hm2 : X.mg "range" = none) (ha : PE X a (G n W P x)) (hb : PE X b (G n W P y)) (hs : noStar a = true) (hs2 : noStar b = true) :
    PE X (.Call (.Name "list" p) [.Call (.Name "range" p2) [a, b] [] pos2] [] pos) (G n W P (.lrg [x, y])) := by
  refine pe_wk (pe_listRg hc hg hm (prg_2 hg2 hm2 ha hb (star_cons hs) (star_cons hs2) (star_any (by simpa using hs2)))) fun σ H Q ⟨ι, e, hp, S, A⟩ => ?_
  simp only [ev, evs, Rz.bind_assoc, Rz.bind_ok] at A
  refine ⟨ι, e, hp, S, (Af.bind A).mono ?_⟩
  rintro v H1 ⟨ι1, hp1, w, F1, R1, V1, A1⟩
  refine ⟨ι1, e, hp1, S.mono F1 R1, (Af.bind A1).mono ?_⟩
  rintro u H2 ⟨ι2, hp2, w2, F2, R2, V2, A2⟩
  have V3 := V1.mono F2
  cases V3 <;> try exact A2.elim
  rename_i i
  cases V2 <;> try exact A2.elim
  rename_i j
  simp only [srcRange] at A2
  by_cases c : (small62 i && small62 j) = true
  · rw [if_pos c] at A2
    rw [Bool.and_eq_true] at c
    exact ⟨i, j, rfl, rfl, lrg_end R2 c.1 c.2 A2⟩
  · rw [if_neg c] at A2; exact A2.elim
end
end SL

set_option maxRecDepth 100000
set_option maxHeartbeats 1000000
/-! From the program's text to the evaluator's. -/
namespace SL
open PySem L2 PyProof.Rows
set_option autoImplicit false

/-- the module's names -/
structure Tb where
  fns : List (Str × Nat)
  cls : List (Str × Nat)
  con : List (Str × Nat)
  att : List Str
  xcs : List (Str × List Str)
  /-- for each class the names of all that it is (empty: not asked) -/
  cup : List (List Str)
  atN : Str
/-- a refusal's class by its name -/
def xix (tb : Tb) (t : Str) : Option Nat := (tb.xcs.findIdx? fun q => decide (q.1 = t))
def okT (tb : Tb) (t : Str) : Bool := decide (t = ("ValueError" : Str)) || (xix tb t).isSome
def yesOf (tb : Tb) (ts : List Str) : List Nat := (List.range tb.xcs.length).filter fun c => match tb.xcs[c]? with
  | some q => ts.any fun t => q.2.contains t
  | none => false
def noOf (tb : Tb) (ts : List Str) : List Nat := (List.range tb.xcs.length).filter fun c => match tb.xcs[c]? with
  | some q => !(ts.any fun t => q.2.contains t)
  | none => false
/-- a def's names; those that may be stored -/
structure Sc where
  N : List Str
  sc : Scope
  st : Str → Bool
  /-- the place of the def's table of code objects -/
  tab : Option Nat
def ixS : List Str → Str → Nat → Option Nat
  | [], _, _ => none
  | y :: ys, x, i => if y = x then some i else ixS ys x (i + 1)
theorem ixS_get : ∀ {N : List Str} {x : Str} {i j : Nat}, ixS N x i = some j → ∃ k, j = i + k ∧ N[k]? = some x
  | [], x, i, j, h => by simp [ixS] at h
  | y :: ys, x, i, j, h => by
    simp only [ixS] at h
    split at h
    · rename_i e
      cases h
      exact ⟨0, rfl, by rw [e]; rfl⟩
    · obtain ⟨k, h1, h2⟩ := ixS_get h
      exact ⟨k + 1, by omega, by simpa using h2⟩
theorem ixS_get0 {N : List Str} {x : Str} {j : Nat} (h : ixS N x 0 = some j) : N[j]? = some x := by
  obtain ⟨k, h1, h2⟩ := ixS_get h
  rw [h1, Nat.zero_add]; exact h2
def isVis (s : Sc) (x : Str) : Bool := match s.sc.names.lookup x with
  | some .local => true
  | some .cell => true
  | some .free => true
  | _ => false
def isLoc (s : Sc) (x : Str) : Bool := match s.sc.names.lookup x with
  | some .local => true
  | some .cell => true
  | _ => false
def isGl (s : Sc) (x : Str) : Bool := match s.sc.names.lookup x with
  | some .globalImplicit => true
  | _ => false
def okName (x : Str) : Bool := !(x == ("__debug__" : Str)) && !(x == ("__classdict__" : Str))
theorem isVis_ok {s : Sc} {x : Str} (h : isVis s x = true) : Vis s.sc x := by
  unfold isVis at h
  split at h
  · exact .inl (by assumption)
  · exact .inr (.inl (by assumption))
  · exact .inr (.inr (by assumption))
  · cases h
theorem isLoc_ok {s : Sc} {x : Str} (h : isLoc s x = true) : Loc s.sc x := by
  unfold isLoc at h
  split at h
  · exact .inl (by assumption)
  · exact .inr (by assumption)
  · cases h
theorem isGl_ok {s : Sc} {x : Str} (h : isGl s x = true) : s.sc.names.lookup x = some .globalImplicit := by
  unfold isGl at h
  split at h
  · assumption
  · cases h
theorem okName_ok {x : Str} (h : okName x = true) : (x == ("__debug__" : Str)) = false ∧ (x == ("__classdict__" : Str)) = false := by
  unfold okName at h
  simpa [Bool.and_eq_true, Bool.not_eq_true'] using h

def op2 : Operator → Option Op2
  | .Add => some .add
  | .Sub => some .sub
  | .Mult => some .mul
  | .FloorDiv => some .fdiv
  | .Mod => some .mod
  | .Pow => some .pow
  | .LShift => some .shl
  | .RShift => some .shr
  | .BitAnd => some .band
  | .BitOr => some .bor
  | _ => none
theorem op2_ok {o : Operator} {p : Op2} (h : op2 o = some p) : o = opOf p := by cases o <;> simp [op2] at h <;> subst h <;> rfl
def cm2 : CmpOp → Cm
  | .Eq => .eq
  | .NotEq => .ne
  | .Lt => .lt
  | .LtE => .le
  | .Gt => .gt
  | .GtE => .ge
  | .Is => .isn
  | .IsNot => .notn
  | .In => .isin
  | .NotIn => .notin
theorem cm2_ok (o : CmpOp) : cmOf (cm2 o) = o := by cases o <;> rfl
def cst2 : Const → Option Wv
  | .none => some .non
  | .bool b => some (.bl b)
  | .int i => some (.int i)
  | .str x => some (.str x)
  | _ => none
def bfs : List Bf := [.len, .list, .tuple, .int, .str, .sum, .all, .any, .abs, .min, .max, .sorted]
def bfOf (x : Str) : Option Bf := bfs.find? fun b => decide (x = Str.ofString b.name.1)
theorem bfOf_ok {x : Str} {b : Bf} (h : bfOf x = some b) : x = Str.ofString b.name.1 := by
  have := List.find?_some h
  simpa using this
def lms : List Lm := [.append, .extend, .pop, .insert, .clear, .reverse, .index, .remove]
def lmOf (x : Str) : Option Lm := lms.find? fun b => decide (x = Str.ofString b.name)
theorem lmOf_ok {x : Str} {b : Lm} (h : lmOf x = some b) : x = Str.ofString b.name := by
  have := List.find?_some h
  simpa using this
def tys : List Ty := [.int, .bool, .str, .list, .tuple, .dict]
def tyOf2 (x : Str) : Option Ty := tys.find? fun b => decide (x = Str.ofString b.name)
theorem tyOf2_ok {x : Str} {b : Ty} (h : tyOf2 x = some b) : x = Str.ofString b.name := by
  have := List.find?_some h
  simpa using this
/-- the built-in names that are asked -/
def bltNames : List Str := (bfs.map fun b => Str.ofString b.name.1) ++ (tys.map fun t => Str.ofString t.name) ++ (["range", "enumerate", "zip", "reversed", "isinstance", "ValueError", "set"] : List Str)

def erL (f : Expr → Option Ex) : List Expr → Option (List Ex)
  | [] => some []
  | a :: as => if noStar a = true then (match f a, erL f as with
    | some x, some xs => some (x :: xs)
    | _, _ => none) else none
def erB (isAnd : Bool) (f : Expr → Option Ex) : List Expr → Option Ex
  | [] => none
  | [a] => f a
  | a :: b :: as => match f a, erB isAnd f (b :: as) with
    | some x, some y => some (if isAnd = true then .and x y else .or x y)
    | _, _ => none
def erO (f : Expr → Option Ex) : Option Expr → Option (Option Ex)
  | none => some none
  | some a => (f a).map some
def erTl (f : Expr → Option Tg) : List Expr → Option (List Tg)
  | [] => some []
  | a :: as => if noStar a = true then (match f a, erTl f as with
    | some x, some xs => some (x :: xs)
    | _, _ => none) else none
def erT (s : Sc) : Nat → Expr → Option Tg
  | 0, _ => none
  | k + 1, .Name x _ => if (s.st x && isLoc s x) = true then (ixS s.N x 0).map .name else none
  | k + 1, .Tuple es _ _ => (erTl (erT s k) es).map .tup
  | _ + 1, _ => none
/-- a comprehension's own names, with their places -/
def ownOf (N : List Str) (scope : Scope) : List (Str × Nat) := scope.names.filterMap fun y => match y.2 with
  | .local => (ixS N y.1 0).map fun i => (y.1, i)
  | .cell => (ixS N y.1 0).map fun i => (y.1, i)
  | _ => none
def blkS (s : Sc) (scope : Scope) : Sc := ⟨s.N, relS scope s.sc, fun x => scope.names.lookup x == some .cell || (relS scope s.sc).names.lookup x == some .local, none⟩
def isTup : Expr → Bool
  | .Tuple .. => true
  | _ => false

/-- sorted(set(a)), len(set(a)) -/
def erS2 (s : Sc) (f : Expr → Option Ex) (x : Str) : List Expr → Option Ex
  | [.Call (.Name y _) [a] [] _] => if (decide (y = "set") && isGl s y && noStar a) = true then (if x = "sorted" then (f a).map fun v => .blt .sset [v] else if x = "len" then (f a).map fun v => .blt .lset [v] else none) else none
  | _ => none
/-- max(a, default=d), min(a, default=d) -/
def erX2 (s : Sc) (f : Expr → Option Ex) (x : Str) (args : List Expr) (kw : Keyword) : Option Ex := match args with
  | [a] => if (isGl s x && noStar a && decide (kw.arg = some "default")) = true then (match f a, f kw.value with
    | some u, some v => if x = "max" then some (.blt .maxd [u, v]) else if x = "min" then some (.blt .mind [u, v]) else none
    | _, _ => none) else none
  | _ => none
/-- list(range(..)) -/
def erR2 (s : Sc) (f : Expr → Option Ex) (x : Str) : List Expr → Option Ex
  | [.Call (.Name y _) as [] _] => if (decide (x = "list") && decide (y = "range") && isGl s y) = true then (match as with
    | [a] => if noStar a = true then (f a).map fun v => .lrg [v] else none
    | [a, b] => if (noStar a && noStar b) = true then (match f a, f b with
      | some v, some w => some (.lrg [v, w])
      | _, _ => none) else none
    | _ => none) else none
  | _ => none
/-- dict(a) -/
def erD2 (f : Expr → Option Ex) (x : Str) : List Expr → Option Ex
  | [a] => if (decide (x = "dict") && noStar a) = true then (f a).map fun v => .blt .dof [v] else none
  | _ => none
/-- a display's keys, all texts -/
def keysOf : List (Option Expr) → Option (List Str)
  | [] => some []
  | some (.Constant (.str x) _ _) :: r => (keysOf r).map (x :: ·)
  | _ => none
def erDi (f : Expr → Option Ex) (keys : List (Option Expr)) (values : List Expr) : Option Ex := match keysOf keys, erL f values with
  | some ks, some xs => if ks.length = xs.length ∧ ks.length ≤ 15 then some (.dsp ks xs) else none
  | _, _ => none
/-- isinstance(a, C), C a class of the text -/
def erI2 (tb : Tb) (s : Sc) (f : Expr → Option Ex) : List Expr → Option Ex
  | [a, .Name D _] => if (noStar a && isGl s D && okName D && (tb.cls.lookup D).isSome) = true then (f a).map fun v => .isc v ((List.range tb.cup.length).filter fun c => (tb.cup.getD c []).contains D) ((List.range tb.cup.length).filter fun c => !(tb.cup.getD c []).contains D) else none
  | _ => none
/-- f(args), f a module's name -/
def erC (tb : Tb) (s : Sc) (f : Expr → Option Ex) (x : Str) (args : List Expr) : Option Ex :=
  if (isGl s x && okName x) = true then (match tb.fns.lookup x with
    | some g => (erL f args).map (.call g)
    | none => match tb.cls.lookup x with
      | some c => (erL f args).map (.make c)
      | none => if x = "isinstance" then (match args with
          | [a, .Name t _] => if (noStar a && isGl s t) = true then (match f a, tyOf2 t with
            | some v, some T => some (.isi v [T])
            | _, _ => erI2 tb s f args) else none
          | _ => none)
        else match erS2 s f x args with
        | some y => some y
        | none => match erR2 s f x args with
        | some y => some y
        | none => match erD2 f x args with
        | some y => some y
        | none => match bfOf x, args with
          | some b, a :: as => if b.there = true then (erL f (a :: as)).map (.blt b) else none
          | _, _ => none)
  else none
/-- o.m(args) -/
def erM (tb : Tb) (f : Expr → Option Ex) (o : Expr) (m : Str) (apos pos : Pos) (args : List Expr) : Option Ex :=
  if (noSup o && (apos.endLine == pos.line) && decide (args.length < 30)) = true then (match lmOf m with
    | some l => if l.there = true then (match f o, erL f args with
      | some x, some xs => some (.lm l x xs)
      | _, _ => none) else none
    | none => if m = "update" then (match args with
      | [a] => if noStar a = true then (match f o, f a with
        | some x, some y => some (.dup x y)
        | _, _ => none) else none
      | _ => none) else match ixS tb.att m 0, f o, erL f args with
      | some i, some x, some xs => some (.meth x i xs)
      | _, _, _ => none)
  else none
/-- C.m(args), C a class's name -/
def erU (tb : Tb) (s : Sc) (f : Expr → Option Ex) (x m : Str) (apos pos : Pos) (args : List Expr) : Option Ex :=
  if (okName x && (apos.endLine == pos.line) && decide (args.length < 30)) = true then (match args with
    | [] => none
    | a :: as => match tb.cls.lookup x, ixS tb.att m 0, erL f (a :: as) with
      | some c, some i, some xs => some (.sup c i xs)
      | _, _, _ => none)
  else none
/-- what is walked; tt: the target is a tuple -/
def erIt (tb : Tb) (s : Sc) (f : Expr → Option Ex) (tt : Bool) : Expr → Option Itr
  | .Call (.Name x p) args [] pos => if (isGl s x && (tb.fns.lookup x).isNone) = true then (
      if x = "range" then (match args with
        | [a] => if noStar a = true then (f a).map fun v => .rng [v] else none
        | [a, b] => if (noStar a && noStar b) = true then (match f a, f b with | some v, some w => some (.rng [v, w]) | _, _ => none) else none
        | _ => none)
      else if x = "enumerate" then (match args with
        | [a] => if (noStar a && tt) = true then (f a).map .enm else none
        | _ => none)
      else if x = "zip" then (match args with
        | [a, b] => if (noStar a && noStar b && tt) = true then (match f a, f b with | some v, some w => some (.zip [v, w]) | _, _ => none) else none
        | [a, b, c] => if (noStar a && noStar b && noStar c && tt) = true then (match f a, f b, f c with | some v, some w, some u => some (.zip [v, w, u]) | _, _, _ => none) else none
        | _ => none)
      else if x = "reversed" then (match args with
        | [a] => if noStar a = true then (f a).map .rev else none
        | _ => none)
      else (f (.Call (.Name x p) args [] pos)).map .seq)
    else (f (.Call (.Name x p) args [] pos)).map .seq
  | a => (f a).map .seq
def erK (tb : Tb) (s : Sc) (k : Nat) (f : Sc → Expr → Option Ex) (elt : Expr) (tg iter : Expr) (ifs : List Expr) (scope : Scope) : Option (Ex × List Nat × Tg × Itr × Option Ex) :=
  if (blkC s.N s.sc scope (ownOf s.N scope) && noSet iter) = true then (match erT (blkS s scope) k tg, erIt tb s (f s) (isTup tg) iter, f (blkS s scope) elt with
    | some t, some it, some x => if t.slots.all (fun i => ((ownOf s.N scope).map (·.2)).contains i) = true then (match ifs with
      | [] => some (x, (ownOf s.N scope).map (·.2), t, it, none)
      | [c] => (f (blkS s scope) c).map fun z => (x, (ownOf s.N scope).map (·.2), t, it, some z)
      | _ => none) else none
    | _, _, _ => none)
  else none
def erN (tb : Tb) (s : Sc) (x : Str) : Option Ex := if isVis s x = true then (if okName x = true then (ixS s.N x 0).map .var else none) else if (isGl s x && okName x) = true then (tb.con.lookup x).map .glo else none
def erUn (f : Expr → Option Ex) (o : UnaryOp) (a : Expr) : Option Ex := match o with
  | .USub => (f a).map .neg
  | .Not => (f a).map .not
  | _ => none
def erBi (f : Expr → Option Ex) (o : Operator) (a b : Expr) : Option Ex := match op2 o, f a, f b with
  | some p, some x, some y => some (.bin p x y)
  | _, _, _ => none
def erBo (f : Expr → Option Ex) (o : BoolOp) (es : List Expr) : Option Ex := match o with
  | .And => erB true f es
  | .Or => erB false f es
def erIf (f : Expr → Option Ex) (c a b : Expr) : Option Ex := match f c, f a, f b with
  | some z, some x, some y => some (.ite z x y)
  | _, _, _ => none
def erCm (f : Expr → Option Ex) (a : Expr) (os : List CmpOp) (bs : List Expr) : Option Ex := match os, bs with
  | [o], [b] => if noSet b = true then (match f a, f b with
    | some x, some y => some (.cmp (cm2 o) x y)
    | _, _ => none) else none
  | [o, o'], [b, d] => if noSet d = true then (match f a, f b, f d with
    | some x, some y, some z => some (.chn (cm2 o) (cm2 o') x y z)
    | _, _, _ => none) else none
  | _, _ => none
/-- the slice's step is -1, written so -/
def isRev : Expr → Bool
  | .Slice none none (some (.UnaryOp .USub (.Constant (.int 1) _ _) _)) _ => true
  | _ => false
def erSb (f : Expr → Option Ex) (a i : Expr) : Option Ex := if isRev i = true then (f a).map .rvs else match i with
  | .Slice lo hi none _ => (match f a, erO f lo, erO f hi with
    | some x, some l, some u => some (.slc x l u)
    | _, _, _ => none)
  | b => if noSlice b = true then (match f a, f b with
    | some x, some y => some (.sub x y)
    | _, _ => none) else none
def erAt (tb : Tb) (f : Expr → Option Ex) (a : Expr) (g : Str) : Option Ex := if noSup a = true then (match f a, ixS tb.att g 0 with
    | some x, some i => some (.att x i)
    | _, _ => none) else none
def glName (s : Sc) : Expr → Bool
  | .Name x _ => isGl s x
  | _ => false
/-- x(a), x a variable -/
def erV (s : Sc) (f : Expr → Option Ex) (x : Str) : List Expr → Option Ex
  | [a] => if (noStar a && okName x) = true then (match ixS s.N x 0, f a with
    | some i, some v => some (.app i v)
    | _, _ => none) else none
  | _ => none
/-- lambda y: d[y]; tells d -/
def lamOf (params : Arguments) (body : Expr) (scope : Scope) : Option Str := match params, body, scope with
  | ⟨[], [⟨y, none, _⟩], none, [], [], none, []⟩, .Subscript (.Name d _) (.Name y' _) _, ⟨.function, [(y1, .local), (d1, .free)], false, false, []⟩ =>
    if (decide (y' = y) && decide (y1 = y) && decide (d1 = d) && decide (d ≠ y) && okName d && okName y) = true then some d else none
  | _, _, _ => none
theorem lamOf_ok {params : Arguments} {body : Expr} {scope : Scope} {d : Str} (h : lamOf params body scope = some d) : ∃ y, LamSh params body scope d y := by
  unfold lamOf at h
  split at h
  · split at h
    · rename_i c
      cases h
      simp only [Bool.and_eq_true, decide_eq_true_eq] at c
      obtain ⟨⟨⟨⟨⟨rfl, rfl⟩, rfl⟩, c4⟩, c5⟩, c6⟩ := c
      exact ⟨_, _, _, _, _, rfl, rfl, rfl, c4, (okName_ok c5).1, (okName_ok c5).2, (okName_ok c6).1, (okName_ok c6).2⟩
    · cases h
  · cases h
/-- the last argument is such a lambda: those ahead of it, the dict's name -/
def lastLam : List Expr → Option (Option Expr × Str)
  | [.Lambda params body scope _] => (lamOf params body scope).map fun d => (none, d)
  | [a, .Lambda params body scope _] => (lamOf params body scope).map fun d => (some a, d)
  | _ => none
/-- o.m(.., lambda y: d[y]) -/
def erLam (tb : Tb) (s : Sc) (f : Expr → Option Ex) (o : Expr) (m : Str) (apos pos : Pos) (args : List Expr) : Option Ex := match s.tab, lastLam args with
  | some t, some (a, d) => if (noSup o && (apos.endLine == pos.line) && args.all noStar && s.st d && (s.sc.names.lookup d == some .cell)) = true then (match ixS tb.att m 0, f o, ixS s.N d 0, a with
    | some i, some x, some j, none => some (.methL x i [] j t)
    | some i, some x, some j, some a => (f a).map fun v => .methL x i [v] j t
    | _, _, _, _ => none) else none
  | _, _ => none
def erCa (tb : Tb) (s : Sc) (f : Expr → Option Ex) (g : Expr) (args : List Expr) (kws : List Keyword) (pos : Pos) : Option Ex := match kws with
  | [] => (match g with
    | .Name x _ => if isVis s x = true then erV s f x args else erC tb s f x args
    | .Attribute o m apos => if glName s o = true then (match o with
        | .Name x _ => erU tb s f x m apos pos args
        | _ => none) else (match erLam tb s f o m apos pos args with
        | some y => some y
        | none => erM tb f o m apos pos args)
    | _ => none)
  | [kw] => (match g with
    | .Name x _ => erX2 s f x args kw
    | _ => none)
  | _ => none
def erLc (tb : Tb) (s : Sc) (k : Nat) (f : Sc → Expr → Option Ex) (elt : Expr) (gens : List Comprehension) (scope : Scope) : Option Ex := match gens with
  | [⟨tg, iter, ifs, ia⟩] => if ia = 0 then (erK tb s k f elt tg iter ifs scope).map fun q => .comp q.1 q.2.1 q.2.2.1 q.2.2.2.1 q.2.2.2.2 else none
  | _ => none
def erE (tb : Tb) : Nat → Sc → Expr → Option Ex
  | 0, _, _ => none
  | k + 1, s, e => match e with
    | .Name x _ => erN tb s x
    | .Constant c _ _ => (cst2 c).map .cst
    | .Tuple es _ _ => (erL (erE tb k s) es).map .tup
    | .List es _ => (erL (erE tb k s) es).map .lst
    | .BinOp a o b _ => erBi (erE tb k s) o a b
    | .UnaryOp o a _ => erUn (erE tb k s) o a
    | .BoolOp o es _ => erBo (erE tb k s) o es
    | .IfExp c a b _ => erIf (erE tb k s) c a b
    | .Compare a os bs _ => erCm (erE tb k s) a os bs
    | .Subscript a i _ => erSb (erE tb k s) a i
    | .Attribute a f _ => erAt tb (erE tb k s) a f
    | .Call g args kws pos => erCa tb s (erE tb k s) g args kws pos
    | .Dict keys values _ => erDi (erE tb k s) keys values
    | .ListComp elt gens scope _ => erLc tb s k (erE tb k) elt gens scope
    | _ => none

/-! ### the method call's form -/
theorem meth_eq {o : Expr} {m : Str} {apos pos : Pos} {args : List Expr} {env : Env} (h1 : noSup o = true) (h2 : (apos.endLine == pos.line) = true) (h3 : args.length < 30) (h4 : args.all noStar = true) :
    eval (.Call (.Attribute o m apos) args [] pos) env = (do
      let ov ← eval o env
      standAt apos.atName
      let (f, first) ← holding [ov] (getMethod ov m (do return (← importBound o env).getD true))
      callWith pos f first (backTo pos (starEach args env)) (backToKw pos (keywordEach [] env))) := by
  have q : eval (.Call (.Attribute o m apos) args [] pos) env = (do
      let ov ← attributeBase o m env (eval o env)
      standAt apos.atName
      methodCall o m apos pos env ov (args.length + ([] : List Keyword).length) (backTo pos (starEach args env)) (backToKw pos (keywordEach [] env))) := rfl
  have f : methodCallForm (args.length + ([] : List Keyword).length) (backTo pos (starEach args env)) (backToKw pos (keywordEach [] env)) = true := by
    unfold methodCallForm
    rw [star_all h4]
    have : (backToKw pos (keywordEach [] env)) = [] := rfl
    rw [this]
    simpa using h3
  rw [q, noSup_ok h1]
  unfold methodCall
  rw [f]
  unfold calleeOf methodCallPos
  simp only [if_true, Bool.not_true, Bool.false_or, h2, pure_bind]
end SL

set_option maxRecDepth 100000
set_option maxHeartbeats 1000000
/-! Refusals by the evaluator: raise, try .. except .. as. -/
namespace SL
open PySem L2 PyProof.Rows
set_option autoImplicit false

/-! ### the class's text -/
def oexB (K : PySem.W.Frag) (C : Addr) : Bool :=
  (match K.lookup C with
    | some ⟨.type "type", _, .cls cc, ss⟩ => (match cc.mro, ss.toList with
      | .ref C2 :: rest, [_, _, _, _, some (.builtin nw), _] => C2 == C && (nw == "ValueError.__new__" && (!cc.hasDel && (cc.hasDict && PySem.HandSPX.refsVE rest)))
      | _, _ => false)
    | _ => false) &&
  (decide (PySem.W.findIn K (.ref C) "__setattr__" = some (some (.builtin "object.__setattr__"))) && (decide (PySem.W.subIn K (.ref C) (.type "BaseException") = some true) && (decide (PySem.W.typeIn K (.ref C) = some (.type "type")) && PySem.W.keepIn K (.ref C))))
theorem oexB_ok {K : PySem.W.Frag} {C : Addr} (h : oexB K C = true) : OexC K C := by
  unfold oexB at h
  simp only [Bool.and_eq_true, decide_eq_true_eq] at h
  obtain ⟨h0, h1, h2, h3, h4⟩ := h
  refine ⟨?_, h1, h2, h3, h4⟩
  split at h0
  · rename_i dd cc ss ho
    split at h0
    · rename_i C2 rest k0 k1 k2 k3 nw k5 hm hs
      simp only [Bool.and_eq_true, beq_iff_eq, Bool.not_eq_true'] at h0
      obtain ⟨rfl, rfl, hdel, hdict, hr⟩ := h0
      obtain ⟨nm, bs, mro, ns, qn, hd, sn, sub, ab, col, del⟩ := cc
      dsimp only at hm hdel hdict
      subst hm hdel hdict
      have hsl : ss = #[k0, k1, k2, k3, some (.builtin "ValueError.__new__"), k5] := by
        obtain ⟨l⟩ := ss
        simp only at hs
        rw [hs]
      subst hsl
      exact ⟨nm, qn, ns, bs, rest, sn, sub, ab, col, dd, k0, k1, k2, k3, k5, ho, hr⟩
    · cases h0
  · cases h0
/-- what isinstance wants of it -/
structure IsC (K : PySem.W.Frag) (C : Addr) : Prop where
  cl : (PySem.W.clsIn K C).isSome = true
  ga : PySem.W.findIn K (.ref C) "__getattribute__" = some (some (.builtin "BaseException.__getattribute__"))
  gt : PySem.W.findIn K (.ref C) "__getattr__" = some none
  sb : PySem.W.subIn K (.ref C) (.type "BaseException") = some true
  ca : PySem.W.findIn K (.ref C) "__class__" = some (some (.builtin "object.__class__"))
  sp : PySem.W.specialIn K (.builtin "object.__class__") "__get__" = some (some (.builtin "getset_descriptor.__get__"))
  tk : PySem.W.takesIn K (.builtin "object.__class__") = some true
  mr : PySem.W.mroIn K C (.type "object") = some true
  hd : PySem.W.hasDictIn K C = true
def isB (K : PySem.W.Frag) (C : Addr) : Bool := (PySem.W.clsIn K C).isSome && (decide (PySem.W.findIn K (.ref C) "__getattribute__" = some (some (.builtin "BaseException.__getattribute__"))) && (decide (PySem.W.findIn K (.ref C) "__getattr__" = some none) &&
  (decide (PySem.W.subIn K (.ref C) (.type "BaseException") = some true) && (decide (PySem.W.findIn K (.ref C) "__class__" = some (some (.builtin "object.__class__"))) && (decide (PySem.W.specialIn K (.builtin "object.__class__") "__get__" = some (some (.builtin "getset_descriptor.__get__"))) &&
    (decide (PySem.W.takesIn K (.builtin "object.__class__") = some true) && (decide (PySem.W.mroIn K C (.type "object") = some true) && PySem.W.hasDictIn K C)))))))
theorem isB_ok {K : PySem.W.Frag} {C : Addr} (h : isB K C = true) : IsC K C := by
  unfold isB at h
  simp only [Bool.and_eq_true, decide_eq_true_eq] at h
  obtain ⟨h1, h2, h3, h4, h5, h6, h7, h8, h9⟩ := h
  exact ⟨h1, h2, h3, h4, h5, h6, h7, h8, h9⟩
theorem IsC.kit {K : PySem.W.Frag} {C : Addr} (T : IsC K C) (x : Addr) (ox : Obj) (od : Option Obj) : PySem.W.KitX K (.ref x) (.ref C) (fun h => PySem.W.InstAt h x ox C od) :=
  PySem.W.kitx_exc T.cl T.ga T.gt T.sb T.ca T.sp T.tk T.mr
theorem IsC.xf {K : PySem.W.Frag} {C : Addr} (T : IsC K C) : XfC K C := ⟨T.ga, T.gt, T.sb, T.hd⟩

/-! ### raise -/
/-- __init__(self, at): ValueError.__init__(self, ..); self.at = at -/
def spI (K : PySem.W.Frag) (f : Str) : Sp := fun vs H Q _ => ∃ (a C : Addr) (v : V), vs = [.ref a, v] ∧ OexC K C ∧ PySem.W.findIn K (.ref C) f = some none ∧ H a = some (exo a C none) ∧
  ∀ dx, H dx = none → dx ≠ a → Q .non (upd (upd H dx (exd dx [(f, v)])) a (exo a C (some dx)))
/-- what is known of a refusal's class; ups: the names of the classes that it is -/
structure XcOk (X : Cx) (n : Nam) (k : Nat) (x : Str) (a : Addr) : Prop where
  mg : X.mg x = some (.ref a)
  ox : OexC X.K a
  is : IsC X.K a
  no : PySem.W.findIn X.K (.ref a) (n.nm n.atF) = some none
  ini : ∃ fI fd ps, PySem.W.findIn X.K (.ref a) "__init__" = some (some (.ref fI)) ∧ PySem.W.typeIn X.K (.ref fI) = some (.type "function") ∧ Binds X.K fd ps [] ∧ FnOk X.prog X.w X.K X.mg X.base (L2.CX X.prog X.w) k fI fd ps (spI X.K (n.nm n.atF))
section
variable {n : Nam} {ι : List Addr} {H : Hp} {hp : Hs} {σ : L2.St} {e : Ev} {X : Cx} {W : Wx} {V' : WX} {P : Wd} {D : Ends} {E : Nat → Wv → Hs → List Addr → Hp → Prop}
theorem XR.mono {ι' : List Addr} {H' : Hp} {d : Option Addr} {w : Wv} (h : XR n ι H d w) (F : Fr ι H ι' H') : XR n ι' H' d w := by
  obtain ⟨dd, v, rfl, h1, h2, h3⟩ := h
  exact ⟨dd, v, rfl, F.keep _ _ h1 h2, F.notin h1 h2, h3.mono F⟩
theorem s_rse {x : Str} {c k : Nat} {a : Expr} {y : Ex} {p pos pos' : Pos} (hc : X.calm = true) (tk : Takes X V') (F : XcOk X n k x (n.xA c)) (hr : Room (k + 1) X.A) (hg : Gl X x) (ha : PA X [a] (GA n (ofW n V') P [y])) (hdb : (x == ("__debug__" : Str)) = false)
    (he : starEach [a] X.env = (false, eval a X.env) :: starEach [] X.env) :
    PS X (.Raise (some (.Call (.Name x p) [a] [] pos)) none pos') (GS n (ofW n V') (ex P (.rse c y))) := by
  obtain ⟨fI, fd, ps, i1, i2, i3, i4⟩ := F.ini
  refine ps_wk (ps_raise hc tk (pmk_oex F.ox i1 i2 i4 hr i3 .nil passL hg F.mg ha hdb he rfl)) fun D σ H ⟨ι, e, hp, S, A⟩ => ?_
  have A' : Af n (FR n) ι H ((evs P [y] e hp).bind fun ws h1 => match ws with
      | [v] => .exc c v h1
      | _ => .bad) (qD D) (ofW n V' σ) := by
    simp only [evs, Rz.bind_assoc, Rz.bind_ok]
    simpa only [ex] using A
  refine ⟨ι, e, hp, S, (Af.evs A').mono ?_⟩
  rintro vs H1 ⟨ι1, hp1, ws, F1, R1, V1, hl, A1⟩
  obtain ⟨v, rfl⟩ : ∃ v, ws = [v] := by
    match ws, hl with
    | [v], _ => exact ⟨v, rfl⟩
  cases V1 with
  | cons V2 V3 =>
    cases V3
    rename_i v0
    refine ⟨by simp, fun aa hn => ⟨aa, n.xA c, v0, rfl, F.ox, F.no, upd_same, fun dx hd hne => ⟨rfl, dx, [(n.nm n.atF, v0)], upd_same, ?_, ?_, ?_⟩⟩⟩
    · rw [upd_ne hne, upd_same]
    · rw [upd_ne hne] at hd; exact hd
    · rw [upd_ne hne] at hd
      have e1 : upd (del (upd (upd (upd H1 aa (exo aa (n.xA c) none)) dx (exd dx [(n.nm n.atF, v0)])) aa (exo aa (n.xA c) (some dx))) aa) dx (.xd [(n.nm n.atF, v0)]) = upd H1 dx (.xd [(n.nm n.atF, v0)]) := by
        funext b
        by_cases hb : b = dx
        · subst hb; rw [upd_same, upd_same]
        · rw [upd_ne hb, upd_ne hb]
          by_cases hb2 : b = aa
          · subst hb2; rw [del_same, hn]
          · rw [del_ne hb2, upd_ne hb2, upd_ne hb, upd_ne hb2]
      rw [e1]
      have hni : dx ∉ ι1 := R1.fresh hd
      have F2 : Fr ι1 H1 ι1 (upd H1 dx (.xd [(n.nm n.atF, v0)])) := ⟨List.prefix_refl _, fun _ h h' => absurd h h', fun b o hb hn' => by
        rw [upd_ne (ne_of_none hb hd)]; exact hb⟩
      have R2 : HR n ι1 (upd H1 dx (.xd [(n.nm n.atF, v0)])) hp1 := ⟨R1.len, R1.nd, fun k a o h1 h2 => by
        obtain ⟨ho, g1, g2⟩ := R1.at_ k a o h1 h2
        exact ⟨ho, by rw [upd_ne (ne_of_none g1 hd)]; exact g1, g2.mono F2⟩⟩
      exact A1 ι1 _ F2 R2 (some dx) ⟨dx, v0, rfl, upd_same, hni, V2.mono F2⟩
end
end SL

set_option maxRecDepth 100000
set_option maxHeartbeats 1000000
/-! Except suites by the evaluator. -/
namespace SL
open PySem L2 PyProof.Rows
set_option autoImplicit false

/-- the state within a suite: slot i holds the refusal at a, its own dict d, its value w -/
structure HSt (n : Nam) (ι : List Addr) (H : Hp) (σ : L2.St) (e : Ev) (hp : Hs) (a : Addr) (d : Option Addr) (w : Wv) (i : Nat) : Prop where
  sr : SR n ι H σ e hp
  xr : XR n ι H d w
  sl : σ[i]? = some (some (.ref a))
def noX : Nat → Wv → Hs → List Addr → Hp → Prop := fun _ _ _ _ _ => False
section
variable {n : Nam} {ι ι' : List Addr} {H H' : Hp} {hp hp' : Hs} {σ : L2.St} {e : Ev} {X : Cx} {a : Addr} {d : Option Addr} {c : Nat} {w : Wv} {i : Nat}
theorem HSt.mono (S : HSt n ι H σ e hp a d w i) (F : Fr ι H ι' H') (R : HR n ι' H' hp') : HSt n ι' H' σ e hp' a d w i := ⟨S.sr.mono F R, S.xr.mono F, S.sl⟩
def gH (n : Nam) (a : Addr) (d : Option Addr) (w : Wv) (i : Nat) (m : Ev → Hs → Rz Wv) : TE := fun σ H Q => ∃ ι e hp, HSt n ι H σ e hp a d w i ∧ Af n (VR n) ι H (m e hp) Q noX
def aH (n : Nam) (a : Addr) (d : Option Addr) (w : Wv) (i : Nat) (m : Ev → Hs → Rz (List Wv)) : TA := fun σ H Q => ∃ ι e hp, HSt n ι H σ e hp a d w i ∧ Af n (VRs n) ι H (m e hp) Q noX
def tH (n : Nam) (a : Addr) (d : Option Addr) (w : Wv) (i : Nat) (m : Ev → Hs → Rz Bool) : TT := fun σ H Q => ∃ ι e hp, HSt n ι H σ e hp a d w i ∧ Af n (fun _ _ b a => b = a) ι H (m e hp) Q noX
theorem h_var {j : Nat} {x : Str} {pos : Pos} (hN : X.N[j]? = some x) (hv : Vis X.env.scope x) (hd : (x == ("__debug__" : Str)) = false) (hcd : (x == ("__classdict__" : Str)) = false) : PE X (.Name x pos) (gH n a d w i (hev c w (.var j))) := by
  refine pe_wk (pe_var hN hv hd hcd) fun σ H Q ⟨ι, e, hp, S, A⟩ => ?_
  simp only [hev] at A
  split at A
  · rename_i v h
    obtain ⟨u, h1, h2⟩ := S.sr.at_ j v h
    exact ⟨u, h1, A.here S.sr.hr h2⟩
  · exact A.elim
theorem h_cst {k : Const} {j : Nat} {pos : Pos} {v : Wv} (h : cst2 k = some v) : PE X (.Constant k j pos) (gH n a d w i (hev c w (.cst v))) := by
  cases k <;> simp only [cst2, Option.some.injEq, reduceCtorEq] at h <;> subst h
  · exact pe_wk pe_non fun σ H Q ⟨ι, e, hp, S, A⟩ => by
      simp only [hev] at A
      exact A.here S.sr.hr VR.non
  · exact pe_wk pe_bl fun σ H Q ⟨ι, e, hp, S, A⟩ => by
      simp only [hev] at A
      exact A.here S.sr.hr (VR.bl _)
  · exact pe_wk pe_int fun σ H Q ⟨ι, e, hp, S, A⟩ => by
      simp only [hev] at A
      exact A.here S.sr.hr (VR.int _)
  · exact pe_wk pe_str fun σ H Q ⟨ι, e, hp, S, A⟩ => by
      simp only [hev] at A
      exact A.here S.sr.hr (VR.str _)
theorem ha_nil : PA X [] (aH n a d w i (hevs c w [])) := pa_wk pa_nil fun σ H Q ⟨ι, e, hp, S, A⟩ => by
  simp only [hevs] at A
  exact A.here S.sr.hr .nil
theorem ha_cons {e : Expr} {es : List Expr} {x : Hx} {xs : List Hx} (h1 : PE X e (gH n a d w i (hev c w x))) (hr : PA X es (aH n a d w i (hevs c w xs))) (hs : starEach (e :: es) X.env = (false, eval e X.env) :: starEach es X.env) : PA X (e :: es) (aH n a d w i (hevs c w (x :: xs))) := by
  refine pa_wk (pa_cons h1 hr hs) fun σ H Q ⟨ι, e, hp, S, A⟩ => ?_
  simp only [hevs] at A
  refine ⟨ι, e, hp, S, (Af.bind A).mono ?_⟩
  rintro v H1 ⟨ι1, hp1, b, F1, R1, V1, A1⟩
  refine ⟨ι1, e, hp1, S.mono F1 R1, (Af.bind A1).mono ?_⟩
  rintro vs H2 ⟨ι2, hp2, as, F2, R2, V2, A2⟩
  exact A2.here R2 (.cons (V1.mono F2) V2)
theorem h_tup {es : List Expr} {xs : List Hx} {x1 : Nat} {pos : Pos} (h : PA X es (aH n a d w i (hevs c w xs))) : PE X (.Tuple es x1 pos) (gH n a d w i (hev c w (.tup xs))) := by
  refine pe_wk (pe_tup h) fun σ H Q ⟨ι, e, hp, S, A⟩ => ?_
  simp only [hev] at A
  refine ⟨ι, e, hp, S, (Af.bind A).mono ?_⟩
  rintro vs H1 ⟨ι1, hp1, ws, F1, R1, V1, A1⟩
  split at A1
  · rename_i hz
    exact ⟨by rw [V1.length]; exact hz, newT_ok R1 V1 A1⟩
  · exact A1.elim
theorem ht_val {b : Expr} {x : Hx} (h : PE X b (gH n a d w i (hev c w x))) (he : ∀ whole, isTrue b X.env whole = (do let v ← whole; standAt b.pos; holding [v] (truthy v)))
    (ht : ∀ e h, htst c w x e h = (hev c w x e h).bind fun v h1 => match v with | .bl t => .ok t h1 | _ => .bad) : PT X b (tH n a d w i (htst c w x)) := by
  refine pt_wk (pt_val h he) fun σ H Q ⟨ι, e, hp, S, A⟩ => ?_
  rw [ht] at A
  refine ⟨ι, e, hp, S, (Af.bind A).mono ?_⟩
  rintro v H1 ⟨ι1, hp1, u, F1, R1, V1, A1⟩
  cases V1 <;> try exact A1.elim
  exact ⟨_, rfl, A1.here R1 rfl⟩
theorem ht_not {b : Expr} {x : Hx} {pos : Pos} (h : PT X b (tH n a d w i (htst c w x))) : PT X (.UnaryOp .Not b pos) (tH n a d w i (htst c w (.not x))) := by
  refine pt_wk (pt_not h) fun σ H Q ⟨ι, e, hp, S, A⟩ => ?_
  simp only [htst] at A
  refine ⟨ι, e, hp, S, (Af.bind A).mono ?_⟩
  rintro t H1 ⟨ι1, hp1, k, F1, R1, rfl, A1⟩
  exact A1.here R1 rfl
theorem hw_or {b : Expr} {b2 : Expr} {rest : List Expr} {x y : Hx} {pos : Pos} (h1 : PT X b (tH n a d w i (htst c w x))) (h2 : PW X (.BoolOp .Or (b2 :: rest) pos) (tH n a d w i (htst c w y))) : PW X (.BoolOp .Or (b :: b2 :: rest) pos) (tH n a d w i (htst c w (.or x y))) := by
  refine pw_wk (pw_or h1 h2) fun σ H Q ⟨ι, e, hp, S, A⟩ => ?_
  simp only [htst] at A
  refine ⟨ι, e, hp, S, (Af.bind A).mono ?_⟩
  rintro t H1 ⟨ι1, hp1, k, F1, R1, rfl, A1⟩
  cases t with
  | true => exact A1.here R1 rfl
  | false => exact ⟨ι1, e, hp1, S.mono F1 R1, A1⟩
theorem hw_and {b : Expr} {b2 : Expr} {rest : List Expr} {x y : Hx} {pos : Pos} (h1 : PT X b (tH n a d w i (htst c w x))) (h2 : PW X (.BoolOp .And (b2 :: rest) pos) (tH n a d w i (htst c w y))) : PW X (.BoolOp .And (b :: b2 :: rest) pos) (tH n a d w i (htst c w (.and x y))) := by
  refine pw_wk (pw_and h1 h2) fun σ H Q ⟨ι, e, hp, S, A⟩ => ?_
  simp only [htst] at A
  refine ⟨ι, e, hp, S, (Af.bind A).mono ?_⟩
  rintro t H1 ⟨ι1, hp1, k, F1, R1, rfl, A1⟩
  cases t with
  | true => exact ⟨ι1, e, hp1, S.mono F1 R1, A1⟩
  | false => exact A1.here R1 rfl

/-! ### the refusal's own value, its class -/
theorem h_atv {oe : Obj} {pn : List (Addr × Obj)} {x : Str} {p pos : Pos} (T : IsC X.K (n.xA c)) (hno : PySem.W.findIn X.K (.ref (n.xA c)) (n.nm n.atF) = some none) (hz : Zc (.ref (n.xA c)) d oe) (hf : ∃ vs, oe.data = .fields vs)
    (hN : X.N[i]? = some x) (hv : Vis X.env.scope x) (hd : (x == ("__debug__" : Str)) = false) (hcd : (x == ("__classdict__" : Str)) = false) :
    PE (X.suite a ((a, oe) :: pn)) (.Attribute (.Name x p) (n.nm n.atF) pos) (gH n a d w i (hev c w .atv)) := by
  have he : PE (X.suite a ((a, oe) :: pn)) (.Name x p) (tVar i) := pe_var hN hv hd hcd
  refine pe_wk (pe_xf T.xf hno hz hf he rfl) fun σ H Q ⟨ι, e, hp, S, A⟩ => ?_
  simp only [hev] at A
  obtain ⟨dd, v, rfl, g1, g2, g3⟩ := S.xr
  exact ⟨_, S.sl, rfl, rfl, dd, _, v, rfl, g1, by simp, A.here S.sr.hr g3⟩
/-- isinstance(e, T), isinstance(e, (T, ..)) -/
def rIsX (K : PySem.W.Frag) (D a : Addr) (d : Option Addr) : List V → Hp → VK → Prop := fun xs H Q => ∃ (dd : Addr) (fs : List (Str × V)) (t : V) (b : Bool), d = some dd ∧ H dd = some (.xd fs) ∧ xs = [.ref a, t] ∧ Q (.bl b) H ∧
  ((∃ cv, (∀ u, RelV t u → u = cv) ∧ PySem.W.kitOne K (.ref D) cv = some b) ∨ ∃ (tp : Addr) (vs : List V), t = .ref tp ∧ H tp = some (.tup vs) ∧ ∀ us, Vals vs us → PySem.W.kitAny K (.ref D) us = some b)
theorem call_isX {D : Addr} {oe : Obj} {pn : List (Addr × Obj)} (T : IsC X.K D) (hz : Zc (.ref D) d oe) (hf : ∃ vs, oe.data = .fields vs) : CallR (X.suite a ((a, oe) :: pn)) (.builtin "isinstance") (rIsX X.K D a d) := by
  intro pins s σ H xs us Q I r h
  obtain ⟨dd, fs, t, b, rfl, hdd, rfl, q, hk⟩ := h
  cases r with
  | cons rx rr =>
    cases rr with
    | cons rt rr =>
      cases rr
      cases rx
      rename_i ut
      obtain ⟨hget, _⟩ := I.pin (a, oe) (List.mem_append.mpr (.inl List.mem_cons_self))
      obtain ⟨vs0, hv0⟩ := hf
      have hx : ObjOk X.prog X.w H s.heap dd (.xd fs) := I.hok dd _ hdd
      obtain ⟨mA, hns, hr⟩ := hx
      obtain ⟨od, ho, hl⟩ := lookIn_ns hns
      have J : PySem.W.InstAt s.heap a oe D (some od) := by
        refine ⟨hget, hz.1, ?_, ?_⟩
        · unfold PySem.W.notCls; rw [hv0] <;> rfl
        · rw [hz.2]; exact ho
      rcases hk with ⟨cv, hcv, e⟩ | ⟨tp, ts, rfl, hT, e⟩
      · have ec := hcv _ rt
        subst ec
        exact PySem.W.kia_one (T.kit a oe (some od)) I.kIn J e (fun z => nomatch z) fun tk => ⟨.bl b, H, I.kept (t' := tk) fun _ _ z => z, rfl, q⟩
      · obtain rfl : ut = Value.ref tp := rt
        have ht : ObjOk X.prog X.w H s.heap tp (.tup ts) := I.hok tp _ hT
        obtain ⟨_, its, rv, ob, hob, hcls, nn, hdat⟩ := ht
        obtain ⟨oc, odd, oda, osl⟩ := ob
        dsimp only at hcls hdat
        subst hcls hdat
        exact PySem.W.kia_tup (T.kit a oe (some od)) I.kIn J hob (e its rv) (fun z => nomatch z) fun tk => ⟨.bl b, H, I.kept (t' := tk) fun _ _ z => z, rfl, q⟩
/-- a class that isinstance is asked for -/
structure ClsV (X : Cx) (t : Expr) (v : V) (u : Value) : Prop where
  pe : PE X t (tC v)
  rel : ∀ u', RelV v u' → u' = u
theorem h_is1 {oe : Obj} {pn : List (Addr × Obj)} {x : Str} {p p2 pos : Pos} {t : Expr} {v : V} {u : Value} {b : Bool} {yes no : List Nat} (T : IsC X.K (n.xA c)) (hz : Zc (.ref (n.xA c)) d oe) (hf : ∃ vs, oe.data = .fields vs)
    (hN : X.N[i]? = some x) (hv : Vis X.env.scope x) (hd : (x == ("__debug__" : Str)) = false) (hcd : (x == ("__classdict__" : Str)) = false) (hg : Gl X "isinstance") (hm : X.mg "isinstance" = none)
    (ht : ClsV (X.suite a ((a, oe) :: pn)) t v u) (hs : starEach [t] X.env = (false, eval t X.env) :: starEach [] X.env) (hs2 : starEach [.Name x p2, t] X.env = (false, eval (.Name x p2) X.env) :: starEach [t] X.env) (hpl : (backTo pos (starEach [t] X.env)).any (·.1) = false) (hk : PySem.W.kitOne X.K (.ref (n.xA c)) u = some b)
    (hy : yes.contains c = true → b = true) (hn : no.contains c = true → yes.contains c = false → b = false) :
    PE (X.suite a ((a, oe) :: pn)) (.Call (.Name "isinstance" p) [.Name x p2, t] [] pos) (gH n a d w i (hev c w (.isx yes no))) := by
  have he : PE (X.suite a ((a, oe) :: pn)) (.Name x p2) (tVar i) := pe_var hN hv hd hcd
  refine pe_wk (pe_callB (call_isX T hz hf) hg hm PyProof.Rows.boot_isinstance (pa_cons he (pa_cons ht.pe pa_nil hs) hs2) (by decide) (by decide) hs2 hpl) fun σ H Q ⟨ι, e, hp, S, A⟩ => ?_
  obtain ⟨dd, v0, rfl, g1, g2, g3⟩ := S.xr
  have key : Q (.bl b) H := by
    simp only [hev] at A
    split at A
    · rename_i h1
      rw [hy h1]
      exact A.here S.sr.hr (VR.bl _)
    · rename_i h1
      split at A
      · rename_i h2
        rw [hn h2 (by simpa using h1)]
        exact A.here S.sr.hr (VR.bl _)
      · exact A.elim
  exact ⟨_, S.sl, dd, _, v, b, rfl, g1, rfl, key, .inl ⟨u, ht.rel, hk⟩⟩
/-- many of them -/
inductive ClsVs (X : Cx) : List Expr → List V → List Value → Prop
  | nil : ClsVs X [] [] []
  | cons {t : Expr} {v : V} {u : Value} {ts : List Expr} {vs : List V} {us : List Value} : ClsV X t v u → starEach (t :: ts) X.env = (false, eval t X.env) :: starEach ts X.env → ClsVs X ts vs us → ClsVs X (t :: ts) (v :: vs) (u :: us)
def tCs (vs : List V) : TA := fun _ H Q => Q vs H
theorem ClsVs.pa {X : Cx} {ts : List Expr} {vs : List V} {us : List Value} (h : ClsVs X ts vs us) : PA X ts (tCs vs) := by
  induction h with
  | nil => exact pa_wk pa_nil fun σ H Q q => q
  | cons h1 hs h2 ih => exact pa_wk (pa_cons h1.pe ih hs) fun σ H Q q => q
theorem ClsVs.rel {X : Cx} {ts : List Expr} {vs : List V} {us : List Value} (h : ClsVs X ts vs us) : ∀ {us'}, Vals vs us' → us' = us := by
  induction h with
  | nil => intro us' r; cases r; rfl
  | cons h1 hs h2 ih =>
    intro us' r
    cases r with
    | cons r1 r2 => rw [h1.rel _ r1, ih r2]
theorem h_isN {oe : Obj} {pn : List (Addr × Obj)} {x : Str} {p p2 p3 pos : Pos} {k : Nat} {ts : List Expr} {vs : List V} {us : List Value} {b : Bool} {yes no : List Nat} (T : IsC X.K (n.xA c)) (hz : Zc (.ref (n.xA c)) d oe) (hf : ∃ vs, oe.data = .fields vs)
    (hN : X.N[i]? = some x) (hv : Vis X.env.scope x) (hd : (x == ("__debug__" : Str)) = false) (hcd : (x == ("__classdict__" : Str)) = false) (hg : Gl X "isinstance") (hm : X.mg "isinstance" = none)
    (ht : ClsVs (X.suite a ((a, oe) :: pn)) ts vs us) (hl : vs.length ≤ sizeLine) (hs : starEach [.Tuple ts k p3] X.env = (false, eval (.Tuple ts k p3) X.env) :: starEach [] X.env) (hs2 : starEach [.Name x p2, .Tuple ts k p3] X.env = (false, eval (.Name x p2) X.env) :: starEach [.Tuple ts k p3] X.env)
    (hpl : (backTo pos (starEach [.Tuple ts k p3] X.env)).any (·.1) = false) (hk : PySem.W.kitAny X.K (.ref (n.xA c)) us = some b)
    (hy : yes.contains c = true → b = true) (hn : no.contains c = true → yes.contains c = false → b = false) :
    PE (X.suite a ((a, oe) :: pn)) (.Call (.Name "isinstance" p) [.Name x p2, .Tuple ts k p3] [] pos) (gH n a d w i (hev c w (.isx yes no))) := by
  have he : PE (X.suite a ((a, oe) :: pn)) (.Name x p2) (tVar i) := pe_var hN hv hd hcd
  refine pe_wk (pe_callB (call_isX T hz hf) hg hm PyProof.Rows.boot_isinstance (pa_cons he (pa_cons (pe_tup ht.pa) pa_nil hs) hs2) (by decide) (by decide) hs2 hpl) fun σ H Q ⟨ι, e, hp, S, A⟩ => ?_
  have key : ∀ tp, H tp = none → Q (.bl b) (upd H tp (.tup vs)) := fun tp hn0 => by
    have F : Fr ι H ι (upd H tp (.tup vs)) := ⟨List.prefix_refl _, fun _ h h' => absurd h h', fun b o hb hn' => by
      rw [upd_ne (ne_of_none hb hn0)]; exact hb⟩
    have R : HR n ι (upd H tp (.tup vs)) hp := ⟨S.sr.hr.len, S.sr.hr.nd, fun k a o h1 h2 => by
      obtain ⟨ho, g1, g2⟩ := S.sr.hr.at_ k a o h1 h2
      exact ⟨ho, by rw [upd_ne (ne_of_none g1 hn0)]; exact g1, g2.mono F⟩⟩
    simp only [hev] at A
    split at A
    · rename_i h1
      rw [hy h1]
      exact A (.bl true) ι _ F R (VR.bl _)
    · rename_i h1
      split at A
      · rename_i h2
        rw [hn h2 (by simpa using h1)]
        exact A (.bl false) ι _ F R (VR.bl _)
      · exact A.elim
  obtain ⟨dd, v0, rfl, g1, g2, g3⟩ := S.xr
  refine ⟨_, S.sl, ?_⟩
  exact ⟨hl, fun tp hn0 => ⟨dd, _, .ref tp, b, rfl, by rw [upd_ne (ne_of_none g1 hn0)]; exact g1, rfl, key tp hn0, .inr ⟨tp, vs, rfl, upd_same, fun us' r => by rw [ht.rel r]; exact hk⟩⟩⟩

/-! ### a suite's statements -/
def FRH (n : Nam) (a : Addr) (i : Nat) (ι : List Addr) (H : Hp) : FV → Fl → Prop
  | .nx σ, .nx e => ER n ι H σ e ∧ σ[i]? = some (some (.ref a))
  | .rt v, .ret w => VR n ι H v w
  | _, _ => False
def mH (n : Nam) (a : Addr) (d : Option Addr) (w : Wv) (i : Nat) (m : Ev → Hs → Rz Fl) : TS := fun D σ H => ∃ ι e hp, HSt n ι H σ e hp a d w i ∧ Af n (FRH n a i) ι H (m e hp) (qD D) noX
theorem m_asg {b : Expr} {x : Hx} {j : Nat} {y : Str} {p pos : Pos} (hN : X.N.Nodup) (hi : X.N[j]? = some y) (hx : Loc X.env.scope y) (hf : X.fn y = true ∨ X.env.scope.names.lookup y = some .local) (hb : PE X b (gH n a d w i (hev c w x))) (hs : swapsWith b (some (.Name y p)) pos.line X.env = pure false) :
    PS X (.Assign [.Name y p] b pos) (mH n a d w i (hex i c w (.asg j x))) := by
  refine ps_wk (ps_set hN hi hx hb hs hf) fun D σ H ⟨ι, e, hp, S, A⟩ => ?_
  simp only [hex] at A
  refine ⟨ι, e, hp, S, (Af.bind A).mono ?_⟩
  rintro v H1 ⟨ι1, hp1, u, F1, R1, V1, A1⟩
  split at A1
  · exact A1.elim
  · rename_i hne
    exact Af.here (b := FV.nx (σ.set j (some v))) A1 R1 ⟨(S.sr.er.mono F1).set V1 j, by rw [List.getElem?_set_ne (fun q => hne (.inl q))]; exact S.sl⟩
theorem m_ret {b : Expr} {x : Hx} {pos : Pos} (hb : PE X b (gH n a d w i (hev c w x))) : PS X (.Return (some b) pos) (mH n a d w i (hex i c w (.ret x))) := by
  refine ps_wk (ps_ret hb) fun D σ H ⟨ι, e, hp, S, A⟩ => ?_
  simp only [hex] at A
  refine ⟨ι, e, hp, S, (Af.bind A).mono ?_⟩
  rintro v H1 ⟨ι1, hp1, u, F1, R1, V1, A1⟩
  exact Af.here (b := FV.rt v) A1 R1 V1
theorem ms_nil : PSs X [] (mH n a d w i (hexs i c w [])) := pss_wk pss_nil fun D σ H ⟨ι, e, hp, S, A⟩ => by
  simp only [hexs] at A
  exact Af.here (b := FV.nx σ) A S.sr.hr ⟨S.sr.er, S.sl⟩
theorem ms_cons {st : Stmt} {rest : List Stmt} {y : Hm} {ys : List Hm} (h1 : PS X st (mH n a d w i (hex i c w y))) (h2 : PSs X rest (mH n a d w i (hexs i c w ys))) : PSs X (st :: rest) (mH n a d w i (hexs i c w (y :: ys))) := by
  refine pss_wk (pss_cons h1 h2) fun D σ H ⟨ι, e, hp, S, A⟩ => ?_
  simp only [hexs] at A
  refine ⟨ι, e, hp, S, (Af.bind (Rel := FRH n a i) A).mono ?_⟩
  rintro b H1 ⟨ι1, hp1, f, F1, R1, V1, A1⟩
  cases b <;> cases f <;> first | exact V1.elim | skip
  · exact ⟨ι1, _, hp1, ⟨V1.1.sr R1, S.xr.mono F1, V1.2⟩, A1⟩
  · rename_i v u
    have A2 : Af n (FRH n a i) ι1 H1 (.ok (.ret u) hp1) (qD D) noX := A1
    have q : qD D (FV.rt v) H1 := Af.here (b := FV.rt v) A2 R1 V1
    exact q
theorem m_ifs {t : Expr} {b : List Stmt} {x : Hx} {ys : List Hm} {pos : Pos} (h1 : PT X t (tH n a d w i (htst c w x))) (h2 : PSs X b (mH n a d w i (hexs i c w ys))) : PS X (.If t b [] pos) (mH n a d w i (hex i c w (.ifs x ys))) := by
  refine ps_wk (ps_if h1 h2 pss_nil) fun D σ H ⟨ι, e, hp, S, A⟩ => ?_
  simp only [hex] at A
  refine ⟨ι, e, hp, S, (Af.bind A).mono ?_⟩
  rintro r H1 ⟨ι1, hp1, k, F1, R1, rfl, A1⟩
  cases r with
  | true => exact ⟨ι1, e, hp1, S.mono F1 R1, A1⟩
  | false => exact Af.here (b := FV.nx σ) A1 R1 ⟨S.sr.er.mono F1, S.sl⟩
end
end SL

set_option maxRecDepth 100000
set_option maxHeartbeats 1000000
/-! The text's expressions keep what the evaluator says. -/
namespace SL
open PySem L2 PyProof.Rows
set_option autoImplicit false

/-- a class as isinstance is handed it -/
def clsVal (n : Nam) (tb : Tb) (t : Str) : Value := match xix tb t with
  | some c => .ref (n.xA c)
  | none => .type "ValueError"
/-- a context that the tables tell -/
structure Good (n : Nam) (P : Wd) (tb : Tb) (k : Nat) (X : Cx) (s : Sc) (V' : WX) : Prop where
  hK : KW X n
  calm : X.calm = true
  kind : X.env.scope.kind = .function
  scp : X.env.scope = s.sc
  nN : X.N = s.N
  nd : s.N.Nodup
  stk : ∀ x, s.st x = true → X.fn x = true ∨ X.env.scope.names.lookup x = some .local
  hr : Room (k + 1) X.A
  tk : Takes X V'
  fld : FldOk n P
  meths : MethsOk X n P k
  fns : ∀ x f, tb.fns.lookup x = some f → GlobFn X n P k x f
  cls : ∀ x c, tb.cls.lookup x = some c → ClsFn X n P k x c ∧ PySem.W.keepIn X.K (.ref (n.cA c)) = true ∧ SupFn X n P k x c
  con : ∀ x g, tb.con.lookup x = some g → ∃ w v u, P.glo g = some w ∧ X.mg x = some u ∧ RelV v u ∧ ∀ ι H, VR n ι H v w
  att : ∀ i a, tb.att[i]? = some a → n.nm i = a
  blt : ∀ x, bltNames.contains x = true → X.mg x = none
  k1 : 1 ≤ k
  atn : n.nm n.atF = tb.atN
  lam : ∀ t, s.tab = some t → LamCx X n t
  isc : ∀ c u, tb.cup[c]? = some u → InsK X.K (n.cA c) ∧ ∀ D d, tb.cls.lookup D = some d → PySem.W.kitOne X.K (.ref (n.cA c)) (.ref (n.cA d)) = some (u.contains D)
  xc : ∀ c q, tb.xcs[c]? = some q → XcOk X n 1 q.1 (n.xA c) ∧ (∀ t, okT tb t = true → PySem.W.kitOne X.K (.ref (n.xA c)) (clsVal n tb t) = some (q.2.contains t)) ∧ ∀ t c', xix tb t = some c' → PySem.W.exmOne X.K (.ref (n.xA c)) (.ref (n.xA c')) = some (q.2.contains t)
section
variable {n : Nam} {P : Wd} {tb : Tb} {k : Nat} {X : Cx} {s : Sc} {V' : WX}
abbrev GE (n : Nam) (V' : WX) (P : Wd) (x : Ex) : TE := G n (ofW n V') P x
theorem Good.vis (g : Good n P tb k X s V') {x : Str} (h : isVis s x = true) : Vis X.env.scope x := g.scp ▸ isVis_ok h
theorem Good.loc (g : Good n P tb k X s V') {x : Str} (h : isLoc s x = true) : Loc X.env.scope x := g.scp ▸ isLoc_ok h
theorem Good.gl (g : Good n P tb k X s V') {x : Str} (h : isGl s x = true) : Gl X x := by
  show X.env.scope.names.lookup x = some .globalImplicit
  rw [g.scp]; exact isGl_ok h
theorem Good.ix (g : Good n P tb k X s V') {x : Str} {i : Nat} (h : ixS s.N x 0 = some i) : X.N[i]? = some x := by rw [g.nN]; exact ixS_get0 h
theorem Good.ndx (g : Good n P tb k X s V') : X.N.Nodup := g.nN ▸ g.nd
theorem Good.nmx (g : Good n P tb k X s V') {m : Str} {i : Nat} (h : ixS tb.att m 0 = some i) : n.nm i = m := g.att _ _ (ixS_get0 h)
theorem Good.room (g : Good n P tb k X s V') : Room k X.A := g.hr.mono (Nat.le_succ k)
theorem takes_bot (X : Cx) : Takes X (fun _ _ _ _ => False) := fun u s' ⟨a, B, sI, pins, σ, H, cls, d, e, I, nb, up, sky, na, os, ag, w⟩ => w.elim
/-- the block's context -/
theorem Good.blk (g : Good n P tb k X s V') {scope : Scope} (hk : scope.kind = .function) (sh : Shared) (H : Hp) (C : Addr) (cl : List (Str × Addr)) (fp : List Addr) : Good n P tb k (X.blk sh H scope (compEnvC scope cl C X.env) fp) (blkS s scope) (fun _ _ _ _ => False) where
  hK := ⟨g.hK.K, g.hK.w⟩
  calm := g.calm
  kind := hk
  scp := by
    show relS scope X.env.scope = relS scope s.sc
    rw [g.scp]
  nN := g.nN
  nd := g.nd
  stk := fun x h => by
    have h : (scope.names.lookup x == some .cell || (relS scope s.sc).names.lookup x == some .local) = true := h
    rw [Bool.or_eq_true] at h
    rcases h with h | h
    · exact .inl h
    · refine .inr ?_
      show (relS scope X.env.scope).names.lookup x = some .local
      rw [g.scp]
      simpa using h
  hr := g.hr
  tk := takes_bot _
  fld := g.fld
  meths := fun c m f h => let M := g.meths c m f h; ⟨M.cls, M.at_.imp fun a q => ⟨q.1, ⟨q.2.ok⟩⟩⟩
  fns := fun x f h => ⟨(g.fns x f h).at_.imp fun a q => ⟨q.1, q.2.1, ⟨q.2.2.ok⟩⟩⟩
  cls := fun x c h => let q := g.cls x c h; ⟨⟨q.1.at_, fun cl f h1 h2 => (q.1.init cl f h1 h2).imp fun a z => ⟨z.1, ⟨z.2.ok⟩⟩⟩, q.2.1, ⟨q.2.2.at_, q.2.2.get, q.2.2.rds, fun m f h => (q.2.2.meth m f h).imp fun a z => ⟨z.1, z.2.1, z.2.2.1, ⟨z.2.2.2.ok⟩⟩⟩⟩
  con := g.con
  att := g.att
  blt := g.blt
  k1 := g.k1
  atn := g.atn
  lam := fun t h => nomatch h
  isc := g.isc
  xc := fun c q h => let z := g.xc c q h; ⟨⟨z.1.mg, z.1.ox, z.1.is, z.1.no, z.1.ini⟩, z.2⟩
/-- within the body of a try -/
theorem Good.tr (g : Good n P tb k X s V') {W' : WX} {pn : List (Addr × Obj)} {xe : Value → Shared → Prop} (tk : Takes (X.tr pn xe) W') : Good n P tb k (X.tr pn xe) s W' where
  hK := ⟨g.hK.K, g.hK.w⟩
  calm := g.calm
  kind := g.kind
  scp := g.scp
  nN := g.nN
  nd := g.nd
  stk := g.stk
  hr := g.hr
  tk := tk
  fld := g.fld
  meths := fun c m f h => let M := g.meths c m f h; ⟨M.cls, M.at_.imp fun a q => ⟨q.1, ⟨q.2.ok⟩⟩⟩
  fns := fun x f h => ⟨(g.fns x f h).at_.imp fun a q => ⟨q.1, q.2.1, ⟨q.2.2.ok⟩⟩⟩
  cls := fun x c h => let q := g.cls x c h; ⟨⟨q.1.at_, fun cl f h1 h2 => (q.1.init cl f h1 h2).imp fun a z => ⟨z.1, ⟨z.2.ok⟩⟩⟩, q.2.1, ⟨q.2.2.at_, q.2.2.get, q.2.2.rds, fun m f h => (q.2.2.meth m f h).imp fun a z => ⟨z.1, z.2.1, z.2.2.1, ⟨z.2.2.2.ok⟩⟩⟩⟩
  con := g.con
  att := g.att
  blt := g.blt
  k1 := g.k1
  atn := g.atn
  lam := fun t h => let q := g.lam t h; ⟨q.ex, q.q⟩
  isc := g.isc
  xc := fun c q h => let z := g.xc c q h; ⟨⟨z.1.mg, z.1.ox, z.1.is, z.1.no, z.1.ini⟩, z.2⟩

/-- a reading for each expression that f takes -/
def Snd (n : Nam) (P : Wd) (tb : Tb) (k : Nat) (f : Sc → Expr → Option Ex) : Prop := ∀ (X : Cx) (s : Sc) (V' : WX), Good n P tb k X s V' → ∀ e x, f s e = some x → PE X e (GE n V' P x) ∧ PT X e (GT n (ofW n V') P x)
/-- the same within one context -/
abbrev Snd1 (n : Nam) (P : Wd) (X : Cx) (V' : WX) (f : Expr → Option Ex) : Prop := ∀ e x, f e = some x → PE X e (GE n V' P x) ∧ PT X e (GT n (ofW n V') P x)
theorem erL_ok {f : Expr → Option Ex} (F : Snd1 n P X V' f) : ∀ {es : List Expr} {xs : List Ex}, erL f es = some xs → PA X es (GA n (ofW n V') P xs) ∧ es.all noStar = true
  | [], xs, h => by
    simp only [erL, Option.some.injEq] at h
    subst h
    exact ⟨a_nil, rfl⟩
  | a :: as, xs, h => by
    simp only [erL] at h
    split at h
    · rename_i hs
      split at h
      · rename_i y ys h1 h2
        cases h
        obtain ⟨h3, h4⟩ := erL_ok F h2
        exact ⟨a_cons (F a y h1).1 h3 (star_cons hs), by rw [List.all_cons, hs, h4]; rfl⟩
      · cases h
    · cases h
theorem erO_ok {f : Expr → Option Ex} (F : Snd1 n P X V' f) {o : Option Expr} {x : Option Ex} (h : erO f o = some x) : PO X o (GO n (ofW n V') P x) := by
  cases o with
  | none =>
    simp only [erO, Option.some.injEq] at h
    subst h
    exact o_none
  | some a =>
    simp only [erO, Option.map_eq_some_iff] at h
    obtain ⟨y, h1, rfl⟩ := h
    exact o_some (F a y h1).1
/-- truth by the value -/
theorem t_plain {a : Expr} {x : Ex} (hK : KW X n) (ha : PE X a (GE n V' P x)) (he : ∀ whole, isTrue a X.env whole = (do let v ← whole; standAt a.pos; holding [v] (truthy v)))
    (ht : ∀ e h, tst P x e h = (ev P x e h).bind fun w h1 => Rz.of (truth h1 w) h1) : PE X a (GE n V' P x) ∧ PT X a (GT n (ofW n V') P x) := ⟨ha, t_gen hK ha he ht⟩
theorem erB_and {f : Expr → Option Ex} (F : Snd1 n P X V' f) (hK : KW X n) {pos : Pos} : ∀ {es : List Expr} {x : Ex}, erB true f es = some x → PE X (.BoolOp .And es pos) (GE n V' P x) ∧ PW X (.BoolOp .And es pos) (GT n (ofW n V') P x)
  | [], x, h => by simp [erB] at h
  | [a], x, h => by
    simp only [erB] at h
    exact ⟨pe_one (F a x h).1, w_and1 (F a x h).2⟩
  | a :: b :: es, x, h => by
    simp only [erB] at h
    split at h
    · rename_i y z h1 h2
      simp only [if_true, Option.some.injEq] at h
      subst h
      obtain ⟨h3, h4⟩ := erB_and F hK (pos := pos) h2
      exact ⟨g_and hK (F a y h1).1 h3, w_and (F a y h1).2 h4⟩
    · cases h
theorem erB_or {f : Expr → Option Ex} (F : Snd1 n P X V' f) (hK : KW X n) {pos : Pos} : ∀ {es : List Expr} {x : Ex}, erB false f es = some x → PE X (.BoolOp .Or es pos) (GE n V' P x) ∧ PW X (.BoolOp .Or es pos) (GT n (ofW n V') P x)
  | [], x, h => by simp [erB] at h
  | [a], x, h => by
    simp only [erB] at h
    exact ⟨pe_one (F a x h).1, w_or1 (F a x h).2⟩
  | a :: b :: es, x, h => by
    simp only [erB] at h
    split at h
    · rename_i y z h1 h2
      simp only [Bool.false_eq_true, if_false, Option.some.injEq] at h
      subst h
      obtain ⟨h3, h4⟩ := erB_or F hK (pos := pos) h2
      exact ⟨g_or hK (F a y h1).1 h3, w_or (F a y h1).2 h4⟩
    · cases h
theorem t_ite {c a b : Expr} {z x y : Ex} {pos : Pos} {W : Wx} (hc : PT X c (GT n W P z)) (ha : PT X a (GT n W P x)) (hb : PT X b (GT n W P y)) : PT X (.IfExp c a b pos) (GT n W P (.ite z x y)) := by
  refine ⟨fun pins s σ H Q I ⟨ι, e, hp, S, A⟩ => ?_⟩
  simp only [tst] at A
  show wpAny _ _ (do if ← isTrue c X.env (eval c X.env) then isTrue a X.env (eval a X.env) else isTrue b X.env (eval b X.env)) _ _ _
  refine wpAny_bind (thn (hc.run pins s σ H _ I ⟨ι, e, hp, S, Af.bind A⟩) fun t s1 ⟨H1, I1, q⟩ => ?_)
  obtain ⟨ι1, hp1, t', F1, R1, rfl, A1⟩ := q
  cases t with
  | true => exact ha.run pins s1 σ H1 _ I1 ⟨ι1, e, hp1, S.mono F1 R1, A1⟩
  | false => exact hb.run pins s1 σ H1 _ I1 ⟨ι1, e, hp1, S.mono F1 R1, A1⟩
theorem Good.bn (g : Good n P tb k X s V') {x : Str} (h : x ∈ bltNames) : X.mg x = none := g.blt x (List.contains_iff_mem.mpr h)
theorem bf_mem (b : Bf) : Str.ofString b.name.1 ∈ bltNames := by cases b <;> decide +kernel
theorem ty_mem (b : Ty) : Str.ofString b.name ∈ bltNames := by cases b <;> decide +kernel
theorem erS2_ok {f : Expr → Option Ex} (g : Good n P tb k X s V') (F : Snd1 n P X V' f) {x : Str} {args : List Expr} {y : Ex} {p pos : Pos} (hg : Gl X x) (h : erS2 s f x args = some y) : PE X (.Call (.Name x p) args [] pos) (GE n V' P y) := by
  unfold erS2 at h
  split at h
  · rename_i y' p2 a q
    split at h
    · rename_i c
      simp only [Bool.and_eq_true, decide_eq_true_eq] at c
      obtain ⟨⟨c1, c2⟩, c3⟩ := c
      subst c1
      split at h
      · rename_i ex
        subst ex
        obtain ⟨v, h1, rfl⟩ := Option.map_eq_some_iff.mp h
        exact g_sset g.hK g.calm g.hr.units hg (g.bn (by decide +kernel)) (g.gl c2) (g.bn (by decide +kernel)) (F a v h1).1 (star_cons c3)
      · split at h
        · rename_i ex
          subst ex
          obtain ⟨v, h1, rfl⟩ := Option.map_eq_some_iff.mp h
          exact g_lset g.hK g.calm g.hr.units hg (g.bn (by decide +kernel)) (g.gl c2) (g.bn (by decide +kernel)) (F a v h1).1 (star_cons c3)
        · cases h
    · cases h
  · cases h
theorem erX2_ok {f : Expr → Option Ex} (g : Good n P tb k X s V') (F : Snd1 n P X V' f) {x : Str} {args : List Expr} {kw : Keyword} {y : Ex} {p pos : Pos} (h : erX2 s f x args kw = some y) : PE X (.Call (.Name x p) args [kw] pos) (GE n V' P y) := by
  unfold erX2 at h
  split at h
  · rename_i a
    split at h
    · rename_i c
      simp only [Bool.and_eq_true, decide_eq_true_eq] at c
      obtain ⟨⟨c1, c2⟩, c3⟩ := c
      obtain ⟨ka, kv, kp⟩ := kw
      simp only at c3
      subst c3
      split at h
      · rename_i u v h1 h2
        split at h
        · rename_i ex
          subst ex
          cases h
          exact g_maxd g.hK g.calm (g.gl c1) (g.bn (by decide +kernel)) (F a u h1).1 (F kv v h2).1 (star_cons c2)
        · split at h
          · rename_i ex
            subst ex
            cases h
            exact g_mind g.hK g.calm (g.gl c1) (g.bn (by decide +kernel)) (F a u h1).1 (F kv v h2).1 (star_cons c2)
          · cases h
      · cases h
    · cases h
  · cases h
theorem erR2_ok {f : Expr → Option Ex} (g : Good n P tb k X s V') (F : Snd1 n P X V' f) {x : Str} {args : List Expr} {y : Ex} {p pos : Pos} (hg : Gl X x) (h : erR2 s f x args = some y) : PE X (.Call (.Name x p) args [] pos) (GE n V' P y) := by
  unfold erR2 at h
  split at h
  · rename_i y' p2 as q
    split at h
    · rename_i c
      simp only [Bool.and_eq_true, decide_eq_true_eq] at c
      obtain ⟨⟨c1, c2⟩, c3⟩ := c
      subst c1 c2
      split at h
      · rename_i a
        split at h
        · rename_i c4
          obtain ⟨v, h1, rfl⟩ := Option.map_eq_some_iff.mp h
          exact g_lrg1 g.calm hg (g.bn (by decide +kernel)) (g.gl c3) (g.bn (by decide +kernel)) (F a v h1).1 c4
        · cases h
      · rename_i a b
        split at h
        · rename_i c4
          simp only [Bool.and_eq_true] at c4
          split at h
          · rename_i v w h1 h2
            cases h
            exact g_lrg2 g.calm hg (g.bn (by decide +kernel)) (g.gl c3) (g.bn (by decide +kernel)) (F a v h1).1 (F b w h2).1 c4.1 c4.2
          · cases h
        · cases h
      · cases h
    · cases h
  · cases h
theorem keysOf_ok : ∀ {keys : List (Option Expr)} {ks : List Str}, keysOf keys = some ks → keys.all (·.isSome) = true ∧ keys.length = ks.length
  | [], ks, h => by simp [keysOf] at h; subst h; exact ⟨rfl, rfl⟩
  | none :: r, ks, h => by simp [keysOf] at h
  | some e :: r, ks, h => by
    unfold keysOf at h
    split at h
    · rename_i e'; cases e'
    · rename_i x j p r' e'
      cases e'
      obtain ⟨ks', h1, rfl⟩ := Option.map_eq_some_iff.mp h
      obtain ⟨h2, h3⟩ := keysOf_ok h1
      exact ⟨by rw [List.all_cons, h2]; rfl, by rw [List.length_cons, List.length_cons, h3]⟩
    · cases h
theorem erL_len {f : Expr → Option Ex} : ∀ {es : List Expr} {xs : List Ex}, erL f es = some xs → es.length = xs.length
  | [], xs, h => by simp [erL] at h; subst h; rfl
  | a :: as, xs, h => by
    simp only [erL] at h
    split at h
    · split at h
      · rename_i y ys h1 h2
        cases h
        rw [List.length_cons, List.length_cons, erL_len h2]
      · cases h
    · cases h
theorem pps_ok {f : Expr → Option Ex} (F : Snd1 n P X V' f) {pos : Pos} : ∀ {keys : List (Option Expr)} {values : List Expr} {ks : List Str} {xs : List Ex}, keysOf keys = some ks → erL f values = some xs → ks.length = xs.length → PPs X pos keys values (trsOf n (ofW n V') P ks xs)
  | [], values, ks, xs, h, h', hl => by
    simp [keysOf] at h; subst h
    have : xs = [] := List.length_eq_zero_iff.mp hl.symm
    subst this
    have := erL_len h'
    have : values = [] := List.length_eq_zero_iff.mp this
    subst this
    exact pps_nil
  | none :: r, values, ks, xs, h, h', hl => by simp [keysOf] at h
  | some e :: r, values, ks, xs, h, h', hl => by
    unfold keysOf at h
    split at h
    · rename_i e'; cases e'
    · rename_i x j p r' e'
      cases e'
      obtain ⟨ks', h1, rfl⟩ := Option.map_eq_some_iff.mp h
      cases values with
      | nil => simp [erL] at h'; subst h'; simp at hl
      | cons a as =>
        simp only [erL] at h'
        split at h'
        · split at h'
          · rename_i y ys q1 q2
            cases h'
            exact pps_cons pe_str (F a y q1).1 (pps_ok F h1 q2 (by simpa using hl))
          · cases h'
        · cases h'
    · cases h
theorem erDi_ok {f : Expr → Option Ex} (F : Snd1 n P X V' f) {keys : List (Option Expr)} {values : List Expr} {y : Ex} {pos : Pos} (h : erDi f keys values = some y) : PE X (.Dict keys values pos) (GE n V' P y) ∧ ∃ ks xs, y = .dsp ks xs := by
  unfold erDi at h
  split at h
  · rename_i ks xs h1 h2
    split at h
    · rename_i c
      cases h
      refine ⟨?_, _, _, rfl⟩
      obtain ⟨q1, q2⟩ := keysOf_ok h1
      have q3 := erL_len h2
      cases keys with
      | nil =>
        simp [keysOf] at h1; subst h1
        have : xs = [] := List.length_eq_zero_iff.mp c.1.symm
        subst this
        have : values = [] := List.length_eq_zero_iff.mp q3
        subst this
        exact g_dnew
      | cons k0 kr => exact g_dsp (pps_ok F h1 h2 c.1) q1 (by rw [q2, q3]; exact c.1) (by simp) (by rw [q2]; exact c.2) c
    · cases h
  · cases h
theorem erBf_ok {f : Expr → Option Ex} (g : Good n P tb k X s V') (F : Snd1 n P X V' f) {x : Str} {args : List Expr} {y : Ex} {p pos : Pos} (hg : Gl X x) (h : (match bfOf x, args with
          | some b, a :: as => if b.there = true then (erL f (a :: as)).map (.blt b) else none
          | _, _ => none) = some y) : PE X (.Call (.Name x p) args [] pos) (GE n V' P y) := by
  split at h
  · rename_i b a as h1
    split at h
    · rename_i ht
      obtain ⟨ys, h2, rfl⟩ := Option.map_eq_some_iff.mp h
      obtain ⟨h3, h4⟩ := erL_ok F h2
      have e := bfOf_ok h1
      rw [List.all_cons, Bool.and_eq_true] at h4
      exact g_blt g.hK g.calm g.hr.units ht e hg (e ▸ g.bn (bf_mem b)) h3 (star_cons h4.1) (star_any h4.2)
    · cases h
  · cases h
theorem erD2_ok {f : Expr → Option Ex} (g : Good n P tb k X s V') (F : Snd1 n P X V' f) {x : Str} {args : List Expr} {y : Ex} {p pos : Pos} (hg : Gl X x) (h : erD2 f x args = some y) : PE X (.Call (.Name x p) args [] pos) (GE n V' P y) := by
  unfold erD2 at h
  split at h
  · rename_i a
    split at h
    · rename_i c
      simp only [Bool.and_eq_true, decide_eq_true_eq] at c
      obtain ⟨c1, c2⟩ := c
      subst c1
      obtain ⟨v, h1, rfl⟩ := Option.map_eq_some_iff.mp h
      exact g_dof g.hK g.calm g.hr.units hg (g.bn (by decide +kernel)) (F a v h1).1 (star_cons c2)
    · cases h
  · cases h
theorem erI2_ok {f : Expr → Option Ex} (g : Good n P tb k X s V') (F : Snd1 n P X V' f) {args : List Expr} {y : Ex} {p pos : Pos} (hg : Gl X "isinstance") (h : erI2 tb s f args = some y) : PE X (.Call (.Name "isinstance" p) args [] pos) (GE n V' P y) := by
  unfold erI2 at h
  split at h
  · rename_i a D q
    split at h
    · rename_i hc
      simp only [Bool.and_eq_true] at hc
      obtain ⟨⟨⟨c1, c2⟩, c3⟩, c4⟩ := hc
      obtain ⟨d, hd⟩ := Option.isSome_iff_exists.mp c4
      obtain ⟨v, h1, rfl⟩ := Option.map_eq_some_iff.mp h
      have key : ∀ c, c < tb.cup.length → InsK X.K (n.cA c) ∧ PySem.W.kitOne X.K (.ref (n.cA c)) (.ref (n.cA d)) = some ((tb.cup.getD c []).contains D) := fun c hc => by
        obtain ⟨z1, z2⟩ := g.isc c _ (List.getElem?_eq_getElem hc)
        refine ⟨z1, ?_⟩
        rw [z2 D d hd, List.getD_eq_getElem?_getD, List.getElem?_eq_getElem hc]
        rfl
      refine g_isc g.hK hg (g.bn (by decide +kernel)) (g.gl c2) (g.cls D d hd).1.at_ (okName_ok c3).1 (F a v h1).1 (fun c hc => ?_) (fun c hc => ?_) (star_cons c1)
      · obtain ⟨m1, m2⟩ := List.mem_filter.mp (List.contains_iff_mem.mp hc)
        obtain ⟨z1, z2⟩ := key c (List.mem_range.mp m1)
        rw [m2] at z2
        exact ⟨z1, z2⟩
      · obtain ⟨m1, m2⟩ := List.mem_filter.mp (List.contains_iff_mem.mp hc)
        obtain ⟨z1, z2⟩ := key c (List.mem_range.mp m1)
        rw [show (tb.cup.getD c []).contains D = false by simpa using m2] at z2
        exact ⟨z1, z2⟩
    · cases h
  · cases h
theorem erC_ok {f : Expr → Option Ex} (g : Good n P tb k X s V') (F : Snd1 n P X V' f) {x : Str} {args : List Expr} {y : Ex} {p pos : Pos} (h : erC tb s f x args = some y) : PE X (.Call (.Name x p) args [] pos) (GE n V' P y) := by
  unfold erC at h
  split at h
  · rename_i hx
    simp only [Bool.and_eq_true] at hx
    have hg := g.gl hx.1
    have hd := (okName_ok hx.2).1
    split at h
    · rename_i fi q
      obtain ⟨ys, h1, rfl⟩ := Option.map_eq_some_iff.mp h
      obtain ⟨h2, h3⟩ := erL_ok F h1
      cases args with
      | nil =>
        simp only [erL, Option.some.injEq] at h1
        subst h1
        exact g_call0 g.room g.tk hg (g.fns x fi q) hd
      | cons a as =>
        rw [List.all_cons, Bool.and_eq_true] at h3
        exact g_call g.room g.tk hg (g.fns x fi q) h2 hd (star_cons h3.1) (star_any h3.2)
    · split at h
      · rename_i c q
        obtain ⟨ys, h1, rfl⟩ := Option.map_eq_some_iff.mp h
        obtain ⟨h2, h3⟩ := erL_ok F h1
        obtain ⟨c1, c2, c3⟩ := g.cls x c q
        cases args with
        | nil =>
          simp only [erL, Option.some.injEq] at h1
          subst h1
          exact g_make0 g.hr g.tk hg c1 c2 hd
        | cons a as =>
          rw [List.all_cons, Bool.and_eq_true] at h3
          exact g_make g.hr g.tk hg c1 c2 h2 hd (star_cons h3.1) (star_any h3.2)
      · split at h
        · rename_i hx2
          subst hx2
          split at h
          · rename_i a t tp
            split at h
            · rename_i hs
              simp only [Bool.and_eq_true] at hs
              split at h
              · rename_i v T h1 h2
                cases h
                have e := tyOf2_ok h2
                subst e
                exact g_isi g.hK hg (g.bn (by decide +kernel)) (g.gl hs.2) (g.bn (ty_mem T)) (F a v h1).1 (star_cons hs.1)
              · exact erI2_ok g F hg h
            · cases h
          · cases h
        · split at h
          · rename_i y2 h1
            cases h
            exact erS2_ok g F hg h1
          · split at h
            · rename_i y2 h1
              cases h
              exact erR2_ok g F hg h1
            · split at h
              · rename_i y2 h1
                cases h
                exact erD2_ok g F hg h1
              · exact erBf_ok g F hg h
  · cases h
theorem erV_ok {f : Expr → Option Ex} (g : Good n P tb k X s V') (F : Snd1 n P X V' f) {x : Str} {args : List Expr} {y : Ex} {p pos : Pos} (hv : isVis s x = true) (h : erV s f x args = some y) : PE X (.Call (.Name x p) args [] pos) (GE n V' P y) := by
  unfold erV at h
  split at h
  · rename_i a
    split at h
    · rename_i hc
      simp only [Bool.and_eq_true] at hc
      split at h
      · rename_i i v h1 h2
        cases h
        exact g_app g.hK g.calm (g.room.mono g.k1) (g.ix h1) (g.vis hv) (okName_ok hc.2).1 (okName_ok hc.2).2 (F a v h2).1 (star_cons hc.1)
      · cases h
    · cases h
  · cases h
theorem erLam_ok {f : Expr → Option Ex} (g : Good n P tb k X s V') (F : Snd1 n P X V' f) {o : Expr} {m : Str} {apos pos : Pos} {args : List Expr} {y : Ex} (h : erLam tb s f o m apos pos args = some y) : PE X (.Call (.Attribute o m apos) args [] pos) (GE n V' P y) := by
  unfold erLam at h
  split at h
  · rename_i t a d ht hl
    split at h
    · rename_i hc
      simp only [Bool.and_eq_true, beq_iff_eq] at hc
      obtain ⟨⟨⟨⟨c1, c2⟩, c3⟩, c4⟩, c5⟩ := hc
      have c2 : (apos.endLine == pos.line) = true := by simpa using c2
      have kx : X.env.scope.names.lookup d = some .cell := by rw [g.scp]; exact c5
      have fx : X.fn d = true := by
        rcases g.stk d c4 with z | z
        · exact z
        · rw [kx] at z; cases z
      unfold lastLam at hl
      split at hl
      · rename_i params body scope lp
        obtain ⟨d', e1, e2⟩ := Option.map_eq_some_iff.mp hl
        cases e2
        obtain ⟨yy, L⟩ := lamOf_ok e1
        split at h
        · rename_i i x j h0 h1 h2 _
          cases h
          have e := g.nmx h0
          subst e
          exact g_methL0 g.hK g.room g.meths (g.lam t ht) (F o x h1).1 L (g.ix h2) kx fx (meth_eq c1 c2 (by simp) c3)
        · rename_i hz
          cases hz
        · cases h
      · rename_i a0 params body scope lp
        obtain ⟨d', e1, e2⟩ := Option.map_eq_some_iff.mp hl
        cases e2
        obtain ⟨yy, L⟩ := lamOf_ok e1
        split at h
        · rename_i hz
          cases hz
        · rename_i i x j a1 h0 h1 h2 h3
          cases h3
          obtain ⟨v, h4, rfl⟩ := Option.map_eq_some_iff.mp h
          have e := g.nmx h0
          subst e
          have c6 := c3
          rw [List.all_cons, Bool.and_eq_true] at c6
          exact g_methL1 g.hK g.room g.meths (g.lam t ht) (F o x h1).1 (F _ v h4).1 L (g.ix h2) kx fx (star_cons c6.1) (meth_eq c1 c2 (by simp) c3)
        · cases h
      · cases hl
    · cases h
  · cases h
theorem erM_ok {f : Expr → Option Ex} (g : Good n P tb k X s V') (F : Snd1 n P X V' f) {o : Expr} {m : Str} {apos pos : Pos} {args : List Expr} {y : Ex} (h : erM tb f o m apos pos args = some y) : PE X (.Call (.Attribute o m apos) args [] pos) (GE n V' P y) := by
  unfold erM at h
  split at h
  · rename_i hc
    simp only [Bool.and_eq_true, decide_eq_true_eq] at hc
    obtain ⟨⟨c1, c2⟩, c3⟩ := hc
    split at h
    · rename_i l hl
      split at h
      · rename_i ht
        split at h
        · rename_i x xs h1 h2
          cases h
          obtain ⟨h3, h4⟩ := erL_ok F h2
          obtain ⟨id, s1, s2, s3⟩ := l_slot (X := X) (n := n) l ht
          have e := lmOf_ok hl
          subst e
          cases args with
          | nil =>
            simp only [erL, Option.some.injEq] at h2
            subst h2
            exact g_lm0 g.hK s1 s2 s3 (F o x h1).1 c1 c2
          | cons a as =>
            have h5 := h4
            rw [List.all_cons, Bool.and_eq_true] at h5
            refine g_lm g.hK s1 s2 s3 (F o x h1).1 h3 c1 ?_ c2 (star_cons h5.1) (star_any h5.2)
            rw [star_all h4]
            have : (backToKw pos (keywordEach [] X.env)) = [] := rfl
            rw [this]
            simpa using c3
        · cases h
      · cases h
    · split at h
      · rename_i em
        subst em
        split at h
        · rename_i a
          split at h
          · rename_i hs
            split at h
            · rename_i x y h1 h2
              cases h
              exact g_dup (F o x h1).1 (F a y h2).1 c1 hs c2
            · cases h
          · cases h
        · cases h
      split at h
      · rename_i i x xs h0 h1 h2
        cases h
        obtain ⟨h3, h4⟩ := erL_ok F h2
        have e := g.nmx h0
        subst e
        cases args with
        | nil =>
          simp only [erL, Option.some.injEq] at h2
          subst h2
          exact g_meth0 g.hK g.room g.tk g.meths (F o x h1).1 (meth_eq c1 c2 c3 h4)
        | cons a as =>
          have h5 := h4
          rw [List.all_cons, Bool.and_eq_true] at h5
          exact g_meth g.hK g.room g.tk g.meths (F o x h1).1 h3 (star_cons h5.1) (star_any h5.2) (meth_eq c1 c2 c3 h4)
      · cases h
  · cases h
theorem erU_ok {f : Expr → Option Ex} (g : Good n P tb k X s V') (F : Snd1 n P X V' f) {x m : Str} {p apos pos : Pos} {args : List Expr} {y : Ex} (hx : isGl s x = true) (h : erU tb s f x m apos pos args = some y) : PE X (.Call (.Attribute (.Name x p) m apos) args [] pos) (GE n V' P y) := by
  unfold erU at h
  split at h
  · rename_i hc
    simp only [Bool.and_eq_true, decide_eq_true_eq] at hc
    obtain ⟨⟨c1, c2⟩, c3⟩ := hc
    split at h
    · cases h
    · rename_i a as
      split at h
      · rename_i c i xs h0 h1 h2
        cases h
        obtain ⟨h3, h4⟩ := erL_ok F h2
        have h5 := h4
        rw [List.all_cons, Bool.and_eq_true] at h5
        have e := g.nmx h1
        subst e
        exact g_sup g.room g.tk (g.gl hx) (g.cls x c h0).2.2 h3 (okName_ok c1).1 (star_cons h5.1) (star_any h5.2) (meth_eq rfl c2 c3 h4)
      · cases h
  · cases h
theorem erIt_ok {f : Expr → Option Ex} (g : Good n P tb k X s V') (F : Snd1 n P X V' f) {tg e : Expr} {it : SL.Itr} (h : erIt tb s f (isTup tg) e = some it) : PI X tg e (GI n (ofW n V') P it) := by
  have seq : ∀ {e : Expr} {it : SL.Itr}, (f e).map Itr.seq = some it → PI X tg e (GI n (ofW n V') P it) := fun {e it} h => by
    obtain ⟨x, h1, rfl⟩ := Option.map_eq_some_iff.mp h
    exact i_seq g.hK (F e x h1).1
  have tup : isTup tg = true → ∃ es k p, tg = .Tuple es k p := fun h => by
    cases tg <;> first | exact ⟨_, _, _, rfl⟩ | cases h
  have one : ∀ {a : Expr} {v : Ex}, f a = some v → noStar a = true → PA X [a] (GA n (ofW n V') P [v]) := fun {a v} h hs => a_cons (F a v h).1 a_nil (star_cons hs)
  have two : ∀ {a b : Expr} {v w : Ex}, f a = some v → f b = some w → noStar a = true → noStar b = true → PA X [a, b] (GA n (ofW n V') P [v, w]) := fun {a b v w} h h' hs hs' => a_cons (F a v h).1 (one h' hs') (star_cons hs)
  have se1 : ∀ {a : Expr}, noStar a = true → starEach [a] X.env = [(false, eval a X.env)] := fun {a} h => star_cons h
  unfold erIt at h
  split at h
  · rename_i x p args pos
    split at h
    · rename_i hx
      simp only [Bool.and_eq_true] at hx
      have hg := g.gl hx.1
      split at h
      · rename_i ex
        subst ex
        split at h
        · rename_i a
          split at h
          · rename_i hs
            obtain ⟨v, h1, rfl⟩ := Option.map_eq_some_iff.mp h
            exact i_rng1 hg (g.bn (by decide +kernel)) (one h1 hs) (se1 hs)
          · cases h
        · rename_i a b
          split at h
          · rename_i hs
            simp only [Bool.and_eq_true] at hs
            split at h
            · rename_i v w h1 h2
              cases h
              exact i_rng2 hg (g.bn (by decide +kernel)) (two h1 h2 hs.1 hs.2) (by rw [star_cons hs.1, star_cons hs.2]; rfl) (se1 hs.2)
            · cases h
          · cases h
        · cases h
      · split at h
        · rename_i ex
          subst ex
          split at h
          · rename_i a
            split at h
            · rename_i hs
              simp only [Bool.and_eq_true] at hs
              obtain ⟨v, h1, rfl⟩ := Option.map_eq_some_iff.mp h
              obtain ⟨es, kk, tp, rfl⟩ := tup hs.2
              exact i_enm g.hK hg (g.bn (by decide +kernel)) (one h1 hs.1) (se1 hs.1)
            · cases h
          · cases h
        · split at h
          · rename_i ex
            subst ex
            split at h
            · rename_i a b
              split at h
              · rename_i hs
                simp only [Bool.and_eq_true] at hs
                split at h
                · rename_i v w h1 h2
                  cases h
                  obtain ⟨es, kk, tp, rfl⟩ := tup hs.2
                  exact i_zip2 g.hK hg (g.bn (by decide +kernel)) (two h1 h2 hs.1.1 hs.1.2) (star_cons hs.1.1) (star_any (by rw [List.all_cons, hs.1.2]; rfl))
                · cases h
              · cases h
            · rename_i a b c
              split at h
              · rename_i hs
                simp only [Bool.and_eq_true] at hs
                split at h
                · rename_i v w u h1 h2 h3
                  cases h
                  obtain ⟨es, kk, tp, rfl⟩ := tup hs.2
                  exact i_zip3 g.hK hg (g.bn (by decide +kernel)) (a_cons (F a v h1).1 (two h2 h3 hs.1.1.2 hs.1.2) (star_cons hs.1.1.1)) (star_cons hs.1.1.1) (star_any (by rw [List.all_cons, List.all_cons, hs.1.1.2, hs.1.2]; rfl))
                · cases h
              · cases h
            · cases h
          · split at h
            · rename_i ex
              subst ex
              split at h
              · rename_i a
                split at h
                · rename_i hs
                  obtain ⟨v, h1, rfl⟩ := Option.map_eq_some_iff.mp h
                  exact i_rev g.hK hg (g.bn (by decide +kernel)) (F a v h1).1 (star_cons hs)
                · cases h
              · cases h
            · exact seq h
    · exact seq h
  · exact seq h
theorem erT_ok (g : Good n P tb k X s V') : ∀ (j : Nat) {e : Expr} {t : Tg}, erT s j e = some t → PG X e (gB n t)
  | 0, e, t, h => by simp [erT] at h
  | j + 1, e, t, h => by
    have lst : ∀ {es : List Expr} {ts : List Tg}, erTl (erT s j) es = some ts → PGs X es (gBs n ts) ∧ es.all noStar = true ∧ es.length = ts.length := by
      intro es
      induction es with
      | nil =>
        intro ts h
        simp only [erTl, Option.some.injEq] at h
        subst h
        exact ⟨tgs_nil, rfl, rfl⟩
      | cons a as ih =>
        intro ts h
        simp only [erTl] at h
        split at h
        · rename_i hs
          split at h
          · rename_i x xs h1 h2
            cases h
            obtain ⟨h3, h4, h5⟩ := ih h2
            exact ⟨tgs_cons (erT_ok g j h1) h3 (by rw [asg_cons hs]; rfl), by rw [List.all_cons, hs, h4]; rfl, by rw [List.length_cons, List.length_cons, h5]⟩
          · cases h
        · cases h
    cases e with
    | Name x p =>
      simp only [erT] at h
      split at h
      · rename_i hx
        simp only [Bool.and_eq_true] at hx
        obtain ⟨i, h1, rfl⟩ := Option.map_eq_some_iff.mp h
        exact tg_name g.ndx (g.ix h1) (g.loc hx.2) (g.stk _ hx.1)
      · cases h
    | Tuple es kk p =>
      simp only [erT] at h
      obtain ⟨ts, h1, rfl⟩ := Option.map_eq_some_iff.mp h
      obtain ⟨h3, h4, h5⟩ := lst h1
      exact tg_tup g.hK g.calm h3 (by rw [asg_length, h5]) (asg_none h4)
    | _ => simp [erT] at h
theorem Af.noE {α β : Type} {Rel : List Addr → Hp → β → α → Prop} {ι : List Addr} {H : Hp} {r : Rz α} {Q : β → Hp → Prop} {E E' : Nat → Wv → Hs → List Addr → Hp → Prop} (hE : ∀ c w h ι H, E c w h ι H → False) (A : Af n Rel ι H r Q E) : Af n Rel ι H r Q E' := by
  cases r with
  | ok a h => exact A
  | exc c w h => exact fun ι' H' F R => (hE _ _ _ _ _ (A ι' H' F R)).elim
  | bad => exact A
theorem noW_pe {X : Cx} {e : Expr} {x : Ex} (h : PE X e (GE n V' P x)) : PE X e (G n noW P x) := pe_wk h fun σ H Q ⟨ι, ee, hp, S, A⟩ => ⟨ι, ee, hp, S, A.noE fun _ _ _ _ _ z => z⟩
theorem noW_pt {X : Cx} {e : Expr} {x : Ex} (h : PT X e (GT n (ofW n V') P x)) : PT X e (GT n noW P x) := pt_wk h fun σ H Q ⟨ι, ee, hp, S, A⟩ => ⟨ι, ee, hp, S, A.noE fun _ _ _ _ _ z => z⟩
def plainX : Ex → Bool
  | .not _ => false
  | .and _ _ => false
  | .or _ _ => false
  | .ite _ _ _ => false
  | _ => true
theorem tst_plain {x : Ex} (h : plainX x = true) (e : Ev) (hs : Hs) : tst P x e hs = (ev P x e hs).bind fun w h1 => Rz.of (truth h1 w) h1 := by
  cases x <;> first | (cases h; done) | (rw [tst] <;> simp)
theorem plain_s2 {f : Expr → Option Ex} {x : Str} {args : List Expr} {y : Ex} (h : erS2 s f x args = some y) : plainX y = true := by
  simp only [erS2] at h
  (repeat' split at h) <;> first | (obtain ⟨_, _, rfl⟩ := Option.map_eq_some_iff.mp h; rfl) | (cases h; rfl) | (cases h; done)
theorem plain_r2 {f : Expr → Option Ex} {x : Str} {args : List Expr} {y : Ex} (h : erR2 s f x args = some y) : plainX y = true := by
  simp only [erR2] at h
  (repeat' split at h) <;> first | (obtain ⟨_, _, rfl⟩ := Option.map_eq_some_iff.mp h; rfl) | (cases h; rfl) | (cases h; done)
theorem plain_d2 {f : Expr → Option Ex} {x : Str} {args : List Expr} {y : Ex} (h : erD2 f x args = some y) : plainX y = true := by
  simp only [erD2] at h
  (repeat' split at h) <;> first | (obtain ⟨_, _, rfl⟩ := Option.map_eq_some_iff.mp h; rfl) | (cases h; rfl) | (cases h; done)
theorem plain_x2 {f : Expr → Option Ex} {x : Str} {args : List Expr} {kw : Keyword} {y : Ex} (h : erX2 s f x args kw = some y) : plainX y = true := by
  simp only [erX2] at h
  (repeat' split at h) <;> first | (obtain ⟨_, _, rfl⟩ := Option.map_eq_some_iff.mp h; rfl) | (cases h; rfl) | (cases h; done)
theorem plain_v {f : Expr → Option Ex} {x : Str} {args : List Expr} {y : Ex} (h : erV s f x args = some y) : plainX y = true := by
  simp only [erV] at h
  (repeat' split at h) <;> first | (obtain ⟨_, _, rfl⟩ := Option.map_eq_some_iff.mp h; rfl) | (cases h; rfl) | (cases h; done)
theorem plain_lam {f : Expr → Option Ex} {o : Expr} {m : Str} {apos pos : Pos} {args : List Expr} {y : Ex} (h : erLam tb s f o m apos pos args = some y) : plainX y = true := by
  unfold erLam at h
  (repeat' split at h) <;> first | (obtain ⟨_, _, rfl⟩ := Option.map_eq_some_iff.mp h; rfl) | (cases h; rfl) | (cases h; done)
theorem plain_i2 {f : Expr → Option Ex} {args : List Expr} {y : Ex} (h : erI2 tb s f args = some y) : plainX y = true := by
  simp only [erI2] at h
  (repeat' split at h) <;> first | (obtain ⟨_, _, rfl⟩ := Option.map_eq_some_iff.mp h; rfl) | (cases h; rfl) | (cases h; done)
theorem plain_ca {f : Expr → Option Ex} {c : Expr} {args : List Expr} {kws : List Keyword} {p : Pos} {x : Ex} (h : erCa tb s f c args kws p = some x) : plainX x = true := by
  simp only [erCa, erC, erM, erU] at h
  (repeat' split at h) <;> first | exact plain_x2 h | exact plain_v h | exact plain_i2 h | (cases h; exact plain_lam (by assumption)) | (cases h; exact plain_s2 (by assumption)) | (cases h; exact plain_r2 (by assumption)) | (cases h; exact plain_d2 (by assumption)) | (obtain ⟨_, _, rfl⟩ := Option.map_eq_some_iff.mp h; rfl) | (cases h; rfl) | (cases h; done)
theorem own_ix {N : List Str} {scope : Scope} : ∀ p ∈ ownOf N scope, N[p.2]? = some p.1 := fun p hp => by
  unfold ownOf at hp
  obtain ⟨y, h1, h2⟩ := List.mem_filterMap.mp hp
  split at h2
  · obtain ⟨i, h3, rfl⟩ := Option.map_eq_some_iff.mp h2
    exact ixS_get0 h3
  · obtain ⟨i, h3, rfl⟩ := Option.map_eq_some_iff.mp h2
    exact ixS_get0 h3
  · cases h2
theorem erK_ok {f : Sc → Expr → Option Ex} (g : Good n P tb k X s V') (F : Snd n P tb k f) {j : Nat} {elt tg iter : Expr} {ifs : List Expr} {scope : Scope} {q : Ex × List Nat × Tg × SL.Itr × Option Ex} (h : erK tb s j f elt tg iter ifs scope = some q) :
    PI X tg iter (GI n (ofW n V') P q.2.2.2.1) ∧ BlkOk X.N X.env.scope scope (ownOf s.N scope) ∧ q.2.1 = (ownOf s.N scope).map (·.2) ∧ CompOk X n P elt tg ifs scope q.1 q.2.2.1 q.2.2.2.2 ∧ (∀ i ∈ q.2.2.1.slots, i ∈ (ownOf s.N scope).map (·.2)) ∧ noSet iter = true := by
  unfold erK at h
  split at h
  · rename_i hc
    simp only [Bool.and_eq_true] at hc
    have B : BlkOk X.N X.env.scope scope (ownOf s.N scope) := by
      rw [g.nN, g.scp]; exact blkOk_by hc.1
    split at h
    · rename_i t it x h1 h2 h3
      split at h
      · rename_i hs
        have hs' : ∀ i ∈ t.slots, i ∈ (ownOf s.N scope).map (·.2) := fun i hi => by
          have := List.all_eq_true.mp hs i hi
          exact List.contains_iff_mem.mp this
        have hi := erIt_ok (tg := tg) g (F X s V' g) h2
        split at h
        · cases h
          exact ⟨hi, B, rfl, ⟨fun sh H C cl fp => erT_ok (g.blk B.kind sh H C cl fp) j h1, fun sh H C cl fp => pts_nil, fun sh H C cl fp => noW_pe (F _ _ _ (g.blk B.kind sh H C cl fp) elt x h3).1⟩, hs', hc.2⟩
        · rename_i c
          obtain ⟨z, h4, rfl⟩ := Option.map_eq_some_iff.mp h
          exact ⟨hi, B, rfl, ⟨fun sh H C cl fp => erT_ok (g.blk B.kind sh H C cl fp) j h1, fun sh H C cl fp => pts_one (noW_pt (F _ _ _ (g.blk B.kind sh H C cl fp) c z h4).2), fun sh H C cl fp => noW_pe (F _ _ _ (g.blk B.kind sh H C cl fp) elt x h3).1⟩, hs', hc.2⟩
        · cases h
      · cases h
    · cases h
  · cases h
theorem cst_ok {c : Const} {w : Wv} {j : Nat} {pos : Pos} (h : cst2 c = some w) : PE X (.Constant c j pos) (GE n V' P (.cst w)) := by
  cases c <;> simp only [cst2, Option.some.injEq, reduceCtorEq] at h <;> subst h
  · exact g_non
  · exact g_bl
  · exact g_int
  · exact g_str
/-- THE READING of an expression -/
theorem er_ok : ∀ j, Snd n P tb k (erE tb j)
  | 0 => fun X s V' g e x h => by simp [erE] at h
  | j + 1 => fun X s V' g e x h => by
    have IH := er_ok j
    have F : Snd1 n P X V' (erE tb j s) := IH X s V' g
    have hu := g.hr.units
    cases e with
    | Name y p =>
      simp only [erE, erN] at h
      split at h
      · rename_i hv
        split at h
        · rename_i hn
          obtain ⟨i, h1, rfl⟩ := Option.map_eq_some_iff.mp h
          exact t_plain g.hK (g_var (g.ix h1) (g.vis hv) (okName_ok hn).1 (okName_ok hn).2) (fun _ => rfl) fun _ _ => by rw [tst] <;> simp
        · cases h
      · split at h
        · rename_i hn
          simp only [Bool.and_eq_true] at hn
          obtain ⟨i, h1, rfl⟩ := Option.map_eq_some_iff.mp h
          obtain ⟨w, v, u, c1, c2, c3, c4⟩ := g.con y i h1
          exact t_plain g.hK (g_glo (g.gl hn.1) c1 c2 c3 c4 (okName_ok hn.2).1) (fun _ => rfl) fun _ _ => by rw [tst] <;> simp
        · cases h
    | Constant c j p =>
      simp only [erE] at h
      obtain ⟨w, h1, rfl⟩ := Option.map_eq_some_iff.mp h
      exact t_plain g.hK (cst_ok h1) (fun _ => rfl) fun _ _ => by rw [tst] <;> simp
    | Tuple es kk p =>
      simp only [erE] at h
      obtain ⟨w, h1, rfl⟩ := Option.map_eq_some_iff.mp h
      exact t_plain g.hK (g_tup (erL_ok F h1).1) (fun _ => rfl) fun _ _ => by rw [tst] <;> simp
    | List es p =>
      simp only [erE] at h
      obtain ⟨w, h1, rfl⟩ := Option.map_eq_some_iff.mp h
      exact t_plain g.hK (g_lst (erL_ok F h1).1) (fun _ => rfl) fun _ _ => by rw [tst] <;> simp
    | BinOp a o b p =>
      simp only [erE, erBi] at h
      split at h
      · rename_i q y z h0 h1 h2
        cases h
        have e := op2_ok h0
        subst e
        exact t_plain g.hK (g_bin g.hK (F a y h1).1 (F b z h2).1) (fun _ => rfl) fun _ _ => by rw [tst] <;> simp
      · cases h
    | UnaryOp o a p =>
      simp only [erE, erUn] at h
      split at h
      · obtain ⟨w, h1, rfl⟩ := Option.map_eq_some_iff.mp h
        exact t_plain g.hK (g_neg (F a w h1).1) (fun _ => rfl) fun _ _ => by rw [tst] <;> simp
      · obtain ⟨w, h1, rfl⟩ := Option.map_eq_some_iff.mp h
        exact ⟨g_not g.hK (F a w h1).1, t_not (F a w h1).2⟩
      · cases h
    | BoolOp o es p =>
      simp only [erE, erBo] at h
      split at h
      · obtain ⟨h1, h2⟩ := erB_and F g.hK (pos := p) h
        exact ⟨h1, h2.pt⟩
      · obtain ⟨h1, h2⟩ := erB_or F g.hK (pos := p) h
        exact ⟨h1, h2.pt⟩
    | IfExp c a b p =>
      simp only [erE, erIf] at h
      split at h
      · rename_i z y w h0 h1 h2
        cases h
        exact ⟨g_ite (F c z h0).2 (F a y h1).1 (F b w h2).1, t_ite (F c z h0).2 (F a y h1).2 (F b w h2).2⟩
      · cases h
    | Compare a os bs p =>
      simp only [erE, erCm] at h
      split at h
      · rename_i o b
        split at h
        · rename_i hb
          split at h
          · rename_i y z h1 h2
            cases h
            have e := cm2_ok o
            rw [← e]
            exact ⟨by simpa only [e] using g_cmp (c := cm2 o) g.hK hu (F a y h1).1 (F b z h2).1 (marks_of hb), by simpa only [e] using t_cmp (c := cm2 o) g.hK hu (F a y h1).1 (F b z h2).1 (marks_of hb)⟩
          · cases h
        · cases h
      · rename_i o o' b d
        split at h
        · rename_i hb
          split at h
          · rename_i y z w h1 h2 h3
            cases h
            have e := cm2_ok o
            have e' := cm2_ok o'
            have hm : lastMarks [cmOf (cm2 o), cmOf (cm2 o')] [b, d] = false := marks_of hb
            rw [← e, ← e']
            exact ⟨by simpa only [e, e'] using g_chn (c := cm2 o) (c' := cm2 o') g.hK hu (F a y h1).1 (F b z h2).1 (F d w h3).1 hm, by simpa only [e, e'] using t_chn (c := cm2 o) (c' := cm2 o') g.hK hu (F a y h1).1 (F b z h2).1 (F d w h3).1 hm⟩
          · cases h
        · cases h
      · cases h
    | Subscript a i p =>
      simp only [erE, erSb] at h
      split at h
      · rename_i hr
        obtain ⟨w, h1, rfl⟩ := Option.map_eq_some_iff.mp h
        unfold isRev at hr
        split at hr
        · exact t_plain g.hK (g_rvs g.hK (F a w h1).1) (fun _ => rfl) fun _ _ => by rw [tst] <;> simp
        · cases hr
      · split at h
        · rename_i lo hi p2
          split at h
          · rename_i y l u h1 h2 h3
            cases h
            exact t_plain g.hK (g_slc g.hK (F a y h1).1 (erO_ok F h2) (erO_ok F h3)) (fun _ => rfl) fun _ _ => by rw [tst] <;> simp
          · cases h
        · split at h
          · rename_i hs
            split at h
            · rename_i y z h1 h2
              cases h
              exact t_plain g.hK (g_sub g.hK hu (F a y h1).1 (F i z h2).1 hs) (fun _ => rfl) fun _ _ => by rw [tst] <;> simp
            · cases h
          · cases h
    | Attribute a f p =>
      simp only [erE, erAt] at h
      split at h
      · rename_i hs
        split at h
        · rename_i y i h1 h2
          cases h
          have e := g.nmx h2
          subst e
          exact t_plain g.hK (g_att g.hK g.fld (F a y h1).1 (noSup_ok hs)) (fun _ => rfl) fun _ _ => by rw [tst] <;> simp
        · cases h
      · cases h
    | Call c args kws p =>
      have tp : ∀ {x : Ex}, PE X (.Call c args kws p) (GE n V' P x) → (∀ e h, tst P x e h = (ev P x e h).bind fun w h1 => Rz.of (truth h1 w) h1) → PE X (.Call c args kws p) (GE n V' P x) ∧ PT X (.Call c args kws p) (GT n (ofW n V') P x) := fun h1 h2 => t_plain g.hK h1 (fun _ => rfl) h2
      simp only [erE] at h
      refine tp ?_ (tst_plain (plain_ca h))
      unfold erCa at h
      split at h
      · split at h
        · split at h
          · rename_i hv
            exact erV_ok g F hv h
          · exact erC_ok g F h
        · rename_i o m apos
          split at h
          · rename_i hg
            split at h
            · exact erU_ok g F hg h
            · cases h
          · split at h
            · rename_i y0 hy
              cases h
              exact erLam_ok g F hy
            · exact erM_ok g F h
        · cases h
      · split at h
        · exact erX2_ok g F h
        · cases h
      · cases h
    | Dict keys values p =>
      simp only [erE] at h
      obtain ⟨h1, ks, xs, rfl⟩ := erDi_ok (pos := p) F h
      exact t_plain g.hK h1 (fun _ => rfl) fun _ _ => by rw [tst] <;> simp
    | ListComp elt gens scope p =>
      simp only [erE, erLc] at h
      split at h
      · rename_i tg iter ifs ia
        split at h
        · rename_i hia
          subst hia
          obtain ⟨q, h1, rfl⟩ := Option.map_eq_some_iff.mp h
          obtain ⟨k1, k2, k3, k4, k5, k6⟩ := erK_ok g IH h1
          rw [k3]
          exact t_plain g.hK (g_comp g.calm g.ndx k1 k2 k4 k5 (set_pure k6)) (fun _ => rfl) fun _ _ => by rw [tst] <;> simp
        · cases h
      · cases h
    | _ => simp [erE] at h
end
end SL

set_option maxRecDepth 100000
set_option maxHeartbeats 1000000
/-! try .. except .. as, from the text. -/
namespace SL
open PySem L2 PyProof.Rows
set_option autoImplicit false
mutual
theorem hev_quiet (c : Nat) (w : Wv) : ∀ (x : Hx) (e : Ev) (h : Hs) (c' : Nat) (w' : Wv) (h' : Hs), hev c w x e h ≠ .exc c' w' h'
  | .atv, e, h, c', w', h' => by rw [hev]; intro q; cases q
  | .var j, e, h, c', w', h' => by
    rw [hev]
    split
    · intro q; cases q
    · intro q; cases q
  | .cst v, e, h, c', w', h' => by
    cases v <;> rw [hev] <;> first | (intro q; cases q; done) | simp
  | .tup xs, e, h, c', w', h' => by
    rw [hev]
    cases q : hevs c w xs e h with
    | ok ws h1 =>
      rw [Rz.bind_ok]
      split
      · intro z; cases z
      · intro z; cases z
    | exc a b d => exact absurd q (hevs_quiet c w xs e h a b d)
    | bad => intro z; cases z
  | .isx yes no, e, h, c', w', h' => by
    rw [hev]
    split
    · intro q; cases q
    · split
      · intro q; cases q
      · intro q; cases q
  | .not a, e, h, c', w', h' => by rw [hev]; intro q; cases q
  | .or a b, e, h, c', w', h' => by rw [hev]; intro q; cases q
  | .and a b, e, h, c', w', h' => by rw [hev]; intro q; cases q
theorem hevs_quiet (c : Nat) (w : Wv) : ∀ (xs : List Hx) (e : Ev) (h : Hs) (c' : Nat) (w' : Wv) (h' : Hs), hevs c w xs e h ≠ .exc c' w' h'
  | [], e, h, c', w', h' => by rw [hevs]; intro q; cases q
  | x :: xs, e, h, c', w', h' => by
    rw [hevs]
    cases q : hev c w x e h with
    | ok v h1 =>
      rw [Rz.bind_ok]
      cases q2 : hevs c w xs e h1 with
      | ok vs h2 => intro z; cases z
      | exc a b d => exact absurd q2 (hevs_quiet c w xs e h1 a b d)
      | bad => intro z; cases z
    | exc a b d => exact absurd q (hev_quiet c w x e h a b d)
    | bad => intro z; cases z
end
theorem hval_quiet (c : Nat) (w : Wv) (x : Hx) (e : Ev) (h : Hs) (c' : Nat) (w' : Wv) (h' : Hs) : ((hev c w x e h).bind fun v h1 => match v with | .bl t => (Rz.ok t h1 : Rz Bool) | _ => .bad) ≠ .exc c' w' h' := by
  cases q : hev c w x e h with
  | ok v h1 =>
    rw [Rz.bind_ok]
    split
    · intro z; cases z
    · intro z; cases z
  | exc a b d => exact absurd q (hev_quiet c w x e h a b d)
  | bad => intro z; cases z
theorem htst_quiet (c : Nat) (w : Wv) : ∀ (x : Hx) (e : Ev) (h : Hs) (c' : Nat) (w' : Wv) (h' : Hs), htst c w x e h ≠ .exc c' w' h'
  | .not a, e, h, c', w', h' => by
    rw [htst]
    cases q : htst c w a e h with
    | ok v h1 => intro z; cases z
    | exc a' b d => exact absurd q (htst_quiet c w a e h a' b d)
    | bad => intro z; cases z
  | .or a b, e, h, c', w', h' => by
    rw [htst]
    cases q : htst c w a e h with
    | ok v h1 =>
      rw [Rz.bind_ok]
      split
      · intro z; cases z
      · exact htst_quiet c w b e h1 c' w' h'
    | exc a' b d => exact absurd q (htst_quiet c w a e h a' b d)
    | bad => intro z; cases z
  | .and a b, e, h, c', w', h' => by
    rw [htst]
    cases q : htst c w a e h with
    | ok v h1 =>
      rw [Rz.bind_ok]
      split
      · exact htst_quiet c w b e h1 c' w' h'
      · intro z; cases z
    | exc a' b d => exact absurd q (htst_quiet c w a e h a' b d)
    | bad => intro z; cases z
  | .atv, e, h, c', w', h' => by rw [htst]; exact hval_quiet c w .atv e h c' w' h'; all_goals simp
  | .var j, e, h, c', w', h' => by rw [htst]; exact hval_quiet c w (.var j) e h c' w' h'; all_goals simp
  | .cst v, e, h, c', w', h' => by rw [htst]; exact hval_quiet c w (.cst v) e h c' w' h'; all_goals simp
  | .tup xs, e, h, c', w', h' => by rw [htst]; exact hval_quiet c w (.tup xs) e h c' w' h'; all_goals simp
  | .isx yes no, e, h, c', w', h' => by rw [htst]; exact hval_quiet c w (.isx yes no) e h c' w' h'; all_goals simp
mutual
theorem hex_quiet (i c : Nat) (w : Wv) : ∀ (s : Hm) (e : Ev) (h : Hs) (c' : Nat) (w' : Wv) (h' : Hs), hex i c w s e h ≠ .exc c' w' h'
  | .asg j x, e, h, c', w', h' => by
    rw [hex]
    cases q : hev c w x e h with
    | ok v h1 =>
      rw [Rz.bind_ok]
      split
      · intro z; cases z
      · intro z; cases z
    | exc a b d => exact absurd q (hev_quiet c w x e h a b d)
    | bad => intro z; cases z
  | .ret x, e, h, c', w', h' => by
    rw [hex]
    cases q : hev c w x e h with
    | ok v h1 => intro z; cases z
    | exc a b d => exact absurd q (hev_quiet c w x e h a b d)
    | bad => intro z; cases z
  | .ifs t b, e, h, c', w', h' => by
    rw [hex]
    cases q : htst c w t e h with
    | ok v h1 =>
      rw [Rz.bind_ok]
      split
      · exact hexs_quiet i c w b e h1 c' w' h'
      · intro z; cases z
    | exc a b d => exact absurd q (htst_quiet c w t e h a b d)
    | bad => intro z; cases z
theorem hexs_quiet (i c : Nat) (w : Wv) : ∀ (ss : List Hm) (e : Ev) (h : Hs) (c' : Nat) (w' : Wv) (h' : Hs), hexs i c w ss e h ≠ .exc c' w' h'
  | [], e, h, c', w', h' => by rw [hexs]; intro q; cases q
  | s :: ss, e, h, c', w', h' => by
    rw [hexs]
    cases q : hex i c w s e h with
    | ok f h1 =>
      rw [Rz.bind_ok]
      cases f with
      | nx e1 => exact hexs_quiet i c w ss e1 h1 c' w' h'
      | brk e1 => intro z; cases z
      | cont e1 => intro z; cases z
      | ret v => intro z; cases z
    | exc a b d => exact absurd q (hex_quiet i c w s e h a b d)
    | bad => intro z; cases z
end
section
variable {n : Nam} {P : Wd} {tb : Tb} {k : Nat} {X : Cx} {s : Sc} {V' : WX} {ι : List Addr} {H : Hp}
theorem Af.swapE {α β : Type} {Rel : List Addr → Hp → β → α → Prop} {r : Rz α} {Q : β → Hp → Prop} {E E' : Nat → Wv → Hs → List Addr → Hp → Prop} (hr : ∀ c w h, r ≠ .exc c w h) (A : Af n Rel ι H r Q E) : Af n Rel ι H r Q E' := by
  cases r with
  | ok a h => exact A
  | exc c w h => exact absurd rfl (hr c w h)
  | bad => exact A
/-- try: one statement; except C as e: a suite -/
theorem s_try {x en : Str} {cV : Value} {i : Nat} {st b0 : Stmt} {suite : List Stmt} {np pos pos' : Pos} {y : Sm} {yes no : List Nat} {hs : List Hm} (hst : X.stack = X.env :: X.outer) (hfr : X.env.frame = some X.env.locals) (hN : X.N.Nodup) (hi : X.N[i]? = some en) (hln : X.env.kindOf en = some .local)
    (hc : Names X x cV) (tk : Takes X V') (hb : ∀ (W' : WX) (pn : List (Addr × Obj)) (xe : Value → Shared → Prop), Takes (X.tr pn xe) W' → PS (X.tr pn xe) st (GS n (ofW n W') (ex P y)))
    (hsu : ∀ (a : Addr) (oe : Obj) (d : Option Addr) (pn : List (Addr × Obj)) (c : Nat) (w : Wv), yes.contains c = true → Zc (.ref (n.xA c)) d oe → (∃ vs, oe.data = .fields vs) → PSs (X.suite a ((a, oe) :: pn)) (b0 :: suite) (mH n a d w i (hexs i c w hs)))
    (hx : ∀ c, yes.contains c = true ∨ no.contains c = true → PySem.W.exmOne X.K (.ref (n.xA c)) cV = some (yes.contains c)) :
    PS X (.Try [st] [.ExceptHandler (some (.Name x np)) (some en) (b0 :: suite) pos'] [] [] pos) (GS n (ofW n V') (ex P (.tryx y i yes no hs))) := by
  refine ps_wk (ps_try_as (tb := fun W' => GS n (ofW n W') (ex P y)) (ts := fun a cls d D σ H => ∃ c w ι e hp, cls = .ref (n.xA c) ∧ yes.contains c = true ∧ HSt n ι H σ e hp a d w i ∧ Af n (FRH n a i) ι H (hexs i c w hs e hp) (qD D) noX)
    hst hfr hN hi hln hc tk (fun W' pn xe tkw _ => pss_one (hb W' pn xe tkw)) fun a oe cls d pn hz hf => ⟨fun pins s σ H D I ⟨c, w, ι, e, hp, hcl, hy, S, A⟩ => ?_⟩) fun D σ H ⟨ι, e, hp, S, A⟩ => ?_
  · subst hcl
    exact (hsu a oe d pn c w hy hz hf).run pins s σ H D I ⟨ι, e, hp, S, A⟩
  · refine ⟨ι, e, hp, S, ?_⟩
    simp only [ex] at A
    cases q : ex P y e hp with
    | ok f h1 =>
      rw [q] at A
      exact A
    | bad =>
      rw [q] at A
      exact A.elim
    | exc c w h1 =>
      rw [q] at A
      simp only at A
      intro ι1 H1 F R d xr
      by_cases hy : yes.contains c = true
      · rw [if_pos hy] at A
        split at A
        · rename_i hlt
          refine ⟨true, by rw [hx c (.inl hy), hy], fun _ a ha => ⟨c, w, ι1, e.set i none, h1, rfl, hy, ⟨?_, xr, ?_⟩, ?_⟩, fun z => absurd z (by decide)⟩
          · have E1 := S.er.mono F
            refine ⟨R, by rw [List.length_set, List.length_set]; exact E1.len, fun j v hj => ?_⟩
            by_cases hij : i = j
            · subst hij
              rw [List.getElem?_set_self hlt] at hj
              cases hj
            · rw [List.getElem?_set_ne hij] at hj
              rw [List.getElem?_set_ne hij]
              exact E1.at_ j v hj
          · rw [List.getElem?_set_self (by rw [S.len]; exact hlt)]
          · have A1 := A.at F
            refine (Af.swapE (hexs_quiet i c w hs _ _) (Af.bind (Rel := FRH n a i) A1)).mono ?_
            rintro b H2 ⟨ι2, hp2, f, F2, R2, V2, A2⟩
            cases b <;> cases f <;> first | exact V2.elim | skip
            · rename_i σ2 e2
              have A3 : Af n (FR n) ι2 H2 (.ok (.nx (e2.set i none)) hp2) (qD D) (ofW n V' σ) := A2
              have q2 : qD D (FV.nx (σ2.set i none)) H2 := Af.here (b := FV.nx (σ2.set i none)) A3 R2 (by
                refine ⟨by rw [List.length_set, List.length_set]; exact V2.1.len, fun j v hj => ?_⟩
                by_cases hij : i = j
                · subst hij
                  by_cases hl2 : i < e2.length
                  · rw [List.getElem?_set_self hl2] at hj
                    cases hj
                  · rw [List.getElem?_eq_none (by rw [List.length_set]; omega)] at hj
                    cases hj
                · rw [List.getElem?_set_ne hij] at hj
                  rw [List.getElem?_set_ne hij]
                  exact V2.1.at_ j v hj)
              exact q2
            · rename_i v u
              have A3 : Af n (FR n) ι2 H2 (.ok (.ret u) hp2) (qD D) (ofW n V' σ) := A2
              have q2 : qD D (FV.rt v) H2 := Af.here (b := FV.rt v) A3 R2 V2
              exact q2
        · exact A.elim
      · rw [if_neg hy] at A
        split at A
        · rename_i hno
          refine ⟨false, by rw [hx c (.inr hno)]; simpa using hy, fun z => absurd z (by decide), fun _ => A ι1 H1 F R d xr⟩
        · exact A.elim
end
end SL

set_option maxRecDepth 100000
set_option maxHeartbeats 1000000
/-! Assignments, except suites, from the text. -/
namespace SL
open PySem L2 PyProof.Rows
set_option autoImplicit false
def erNm (s : Sc) (y : Str) : Option Nat := if (s.st y && isLoc s y) = true then ixS s.N y 0 else none
def erAsg (tb : Tb) (s : Sc) (j : Nat) (t e : Expr) : Option Sm := match t with
  | .Name y _ => (match e with
    | .ListComp elt [⟨tg, iter, ifs, ia⟩] scope _ => if ia = 0 then (match erNm s y, erK tb s j (erE tb j) elt tg iter ifs scope with
      | some i, some q => some (.asg (.tg (.name i)) (.comp q.1 q.2.1 q.2.2.1 q.2.2.2.1 q.2.2.2.2))
      | _, _ => none) else none
    | e => if noComp e = true then (match erNm s y, erE tb j s e with
      | some i, some x => some (.asg (.tg (.name i)) x)
      | _, _ => none) else none)
  | .Tuple es k p => if noTup e = true then (match erT s j (.Tuple es k p), erE tb j s e with
      | some t, some x => some (.asg (.tg t) x)
      | _, _ => none) else none
  | .Subscript a b _ => if noSlice b = true then (match erE tb j s a, erE tb j s b, erE tb j s e with
      | some x, some y, some z => some (.asg (.sub x y) z)
      | _, _, _ => none) else none
  | .Attribute o f _ => (match ixS tb.att f 0, erE tb j s o, erE tb j s e with
      | some i, some x, some z => some (.asg (.att x i) z)
      | _, _, _ => none)
  | _ => none
def erAug (tb : Tb) (s : Sc) (j : Nat) (t : Expr) (o : Operator) (e : Expr) : Option Sm := match o with
  | .Add => (match t with
    | .Name y _ => (match erNm s y, erE tb j s e with
      | some i, some x => some (.augn i .add x)
      | _, _ => none)
    | .Attribute a f _ => (match ixS tb.att f 0, erE tb j s a, erE tb j s e with
      | some i, some x, some z => some (.augf x i .add z)
      | _, _, _ => none)
    | _ => none)
  | _ => none
def isDoc : Expr → Bool
  | .Constant (.str _) _ _ => true
  | _ => false
section
variable {n : Nam} {P : Wd} {tb : Tb} {k : Nat} {X : Cx} {s : Sc} {V' : WX}
theorem sw_other {e t : Expr} {l : Nat} {env : Env} (h : (match t with | .Name .. => false | _ => true) = true) : swapsWith e (some t) l env = pure false := by
  cases t <;> first | (cases h; done) | (cases e <;> rfl)
theorem sw_lc {elt : Expr} {gs : List Comprehension} {scope : Scope} {pos py : Pos} {y : Str} {l : Nat} {env : Env} (hk : env.scope.kind = .function) :
    swapsWith (.ListComp elt gs scope pos) (some (.Name y py)) l env = pure (env.kindOf y == some .local && py.line == pos.line && !(scope.names.any fun (n, k) => n == y && (k == .local || k == .cell))) := by
  have hb : env.blockKind = .function := by unfold Env.blockKind; rw [hk]; rfl
  unfold swapsWith
  simp only [hb, Expr.pos]
  rfl
theorem erNm_ok (g : Good n P tb k X s V') {y : Str} {i : Nat} (h : erNm s y = some i) : X.N[i]? = some y ∧ Loc X.env.scope y ∧ (X.fn y = true ∨ X.env.scope.names.lookup y = some .local) := by
  unfold erNm at h
  split at h
  · rename_i hc
    simp only [Bool.and_eq_true] at hc
    exact ⟨g.ix h, g.loc hc.2, g.stk _ hc.1⟩
  · cases h
theorem erAsg_ok (g : Good n P tb k X s V') {j : Nat} {t e : Expr} {y : Sm} {pos : Pos} (h : erAsg tb s j t e = some y) : PS X (.Assign [t] e pos) (GS n (ofW n V') (ex P y)) := by
  have F : Snd1 n P X V' (erE tb j s) := er_ok j X s V' g
  cases t with
  | Name x py =>
    simp only [erAsg] at h
    split at h
    · rename_i elt tg iter ifs ia scope cpos
      split at h
      · rename_i hia
        subst hia
        split at h
        · rename_i i q h1 h2
          cases h
          obtain ⟨n1, n2, n3⟩ := erNm_ok g h1
          obtain ⟨k1, k2, k3, k4, k5, k6⟩ := erK_ok g (er_ok j) h2
          rw [k3]
          have sw := sw_lc (elt := elt) (gs := [⟨tg, iter, ifs, 0⟩]) (scope := scope) (pos := cpos) (py := py) (y := x) (l := pos.line) g.kind
          cases hb : (X.env.kindOf x == some .local && py.line == cpos.line && !(scope.names.any fun (n, k) => n == x && (k == .local || k == .cell))) with
          | true =>
            have hl : X.env.scope.names.lookup x = some .local := by
              simp only [Bool.and_eq_true, beq_iff_eq] at hb
              exact hb.1.1
            rw [hb] at sw
            exact s_nameLc g.calm g.ndx n1 hl sw k1 k2 k4 k5 (set_pure k6)
          | false =>
            rw [hb] at sw
            exact s_name g.ndx n1 n2 n3 (g_comp g.calm g.ndx k1 k2 k4 k5 (set_pure k6)) sw
        · cases h
      · cases h
    · split at h
      · rename_i hn
        split at h
        · rename_i i z h1 h2
          cases h
          obtain ⟨n1, n2, n3⟩ := erNm_ok g h1
          exact s_name g.ndx n1 n2 n3 (F e z h2).1 (sw_no hn)
        · cases h
      · cases h
  | Tuple es kk p =>
    simp only [erAsg] at h
    split at h
    · rename_i hn
      split at h
      · rename_i t z h1 h2
        cases h
        exact s_tg (F e z h2).1 (erT_ok g j h1) (show swapsWith e (some (.Tuple es kk p)) pos.line X.env = pure false from sw_other rfl) (sws_no hn) rfl
      · cases h
    · cases h
  | Subscript a b p =>
    simp only [erAsg] at h
    split at h
    · rename_i hn
      split at h
      · rename_i x z w h1 h2 h3
        cases h
        exact s_sub g.hK g.hr.units (F a x h1).1 (F b z h2).1 (F e w h3).1 hn (show swapsWith e (some (.Subscript a b p)) pos.line X.env = pure false from sw_other rfl) (sws_no2 rfl)
      · cases h
    · cases h
  | Attribute o f p =>
    simp only [erAsg] at h
    split at h
    · rename_i i x z h0 h1 h2
      cases h
      have e1 := g.nmx h0
      subst e1
      exact s_att g.hK g.fld (F o x h1).1 (F e z h2).1 (sw_other rfl)
    · cases h
  | _ => simp [erAsg] at h
theorem erAug_ok (g : Good n P tb k X s V') {j : Nat} {t e : Expr} {o : Operator} {y : Sm} {pos : Pos} (h : erAug tb s j t o e = some y) : PS X (.AugAssign t o e pos) (GS n (ofW n V') (ex P y)) := by
  have F : Snd1 n P X V' (erE tb j s) := er_ok j X s V' g
  cases o with
  | Add =>
    cases t with
    | Name x p =>
      simp only [erAug] at h
      split at h
      · rename_i i z h1 h2
        cases h
        obtain ⟨n1, n2, n3⟩ := erNm_ok g h1
        exact s_augn g.hK g.ndx n1 n2 n3 (F e z h2).1
      · cases h
    | Attribute a f p =>
      simp only [erAug] at h
      split at h
      · rename_i i x z h0 h1 h2
        cases h
        have e1 := g.nmx h0
        subst e1
        exact s_augf g.hK g.fld (F a x h1).1 (F e z h2).1
      · cases h
    | _ => simp [erAug] at h
  | _ => simp [erAug] at h
end

/-! ### except suites -/
def erHl (f : Expr → Option Hx) : List Expr → Option (List Hx)
  | [] => some []
  | a :: as => if noStar a = true then (match f a, erHl f as with
    | some x, some xs => some (x :: xs)
    | _, _ => none) else none
def erHb (isAnd : Bool) (f : Expr → Option Hx) : List Expr → Option Hx
  | [] => none
  | [a] => f a
  | a :: b :: as => match f a, erHb isAnd f (b :: as) with
    | some x, some y => some (if isAnd = true then .and x y else .or x y)
    | _, _ => none
def clsNm (tb : Tb) (s : Sc) : Expr → Option Str
  | .Name t _ => if (isGl s t && (okName t && okT tb t)) = true then some t else none
  | _ => none
def clsNms (tb : Tb) (s : Sc) : List Expr → Option (List Str)
  | [] => some []
  | a :: as => match clsNm tb s a, clsNms tb s as with
    | some x, some xs => some (x :: xs)
    | _, _ => none
def erHc (tb : Tb) (s : Sc) (en : Str) (c : Expr) (args : List Expr) (kws : List Keyword) : Option Hx := match c, args, kws with
  | .Name z _, [.Name x _, t], [] => if (decide (z = ("isinstance" : Str)) && (isGl s z && (decide (x = en) && (isVis s x && okName x)))) = true then (match t with
      | .Tuple ts _ _ => (clsNms tb s ts).bind fun l => if l.length ≤ 100 then some (.isx (yesOf tb l) (noOf tb l)) else none
      | t => (clsNm tb s t).map fun l => .isx (yesOf tb [l]) (noOf tb [l])) else none
  | _, _, _ => none
def erHx (tb : Tb) (s : Sc) (en : Str) : Nat → Expr → Option Hx
  | 0, _ => none
  | m + 1, e => match e with
    | .Name x _ => if (isVis s x && okName x) = true then (ixS s.N x 0).map .var else none
    | .Constant c _ _ => (cst2 c).map .cst
    | .Attribute o f _ => (match o with
      | .Name x _ => if (decide (x = en) && (isVis s x && (okName x && decide (f = tb.atN)))) = true then some .atv else none
      | _ => none)
    | .Tuple es _ _ => (erHl (erHx tb s en m) es).map .tup
    | .Call c args kws _ => erHc tb s en c args kws
    | .UnaryOp o a _ => (match o with
      | .Not => (erHx tb s en m a).map .not
      | _ => none)
    | .BoolOp o es _ => if 2 ≤ es.length then (match o with
      | .And => erHb true (erHx tb s en m) es
      | .Or => erHb false (erHx tb s en m) es) else none
    | _ => none
def erMs (f : Stmt → Option Hm) : List Stmt → Option (List Hm)
  | [] => some []
  | a :: as => match f a, erMs f as with
    | some x, some xs => some (x :: xs)
    | _, _ => none
def erHm (tb : Tb) (s : Sc) (en : Str) (j : Nat) : Nat → Stmt → Option Hm
  | 0, _ => none
  | m + 1, st => match st with
    | .Assign ts e _ => (match ts with
      | [.Name y _] => if noComp e = true then (match erNm s y, erHx tb s en j e with
        | some i, some x => some (.asg i x)
        | _, _ => none) else none
      | _ => none)
    | .Return o _ => (match o with
      | some e => (erHx tb s en j e).map .ret
      | none => none)
    | .If t b o _ => (match o with
      | [] => (match erHx tb s en j t, erMs (erHm tb s en j m) b with
        | some x, some ys => some (.ifs x ys)
        | _, _ => none)
      | _ => none)
    | _ => none
section
variable {n : Nam} {P : Wd} {tb : Tb} {k : Nat} {X : Cx} {s : Sc} {V' : WX}
theorem xix_get {t : Str} {c : Nat} (h : xix tb t = some c) : ∃ q, tb.xcs[c]? = some q ∧ q.1 = t := by
  unfold xix at h
  rw [List.findIdx?_eq_some_iff_getElem] at h
  obtain ⟨hl, h1, _⟩ := h
  exact ⟨_, List.getElem?_eq_getElem hl, of_decide_eq_true h1⟩
theorem yes_of {ts : List Str} {c : Nat} (h : (yesOf tb ts).contains c = true) : ∃ q, tb.xcs[c]? = some q ∧ (ts.any fun t => q.2.contains t) = true := by
  have h := List.contains_iff_mem.mp h
  obtain ⟨h1, h2⟩ := List.mem_filter.mp h
  split at h2
  · exact ⟨_, by assumption, h2⟩
  · cases h2
theorem no_of {ts : List Str} {c : Nat} (h : (noOf tb ts).contains c = true) : ∃ q, tb.xcs[c]? = some q ∧ (ts.any fun t => q.2.contains t) = false := by
  have h := List.contains_iff_mem.mp h
  obtain ⟨h1, h2⟩ := List.mem_filter.mp h
  split at h2
  · exact ⟨_, by assumption, by simpa using h2⟩
  · cases h2
theorem clsV_ok (g : Good n P tb k X s V') {t : Expr} {x : Str} (h : clsNm tb s t = some x) (a : Addr) (pn : List (Addr × Obj)) : okT tb x = true ∧ noStar t = true ∧ ∃ v, ClsV (X.suite a pn) t v (clsVal n tb x) := by
  unfold clsNm at h
  split at h
  · split at h
    · rename_i t' p hc
      cases h
      simp only [Bool.and_eq_true] at hc
      obtain ⟨c1, c2, c3⟩ := hc
      refine ⟨c3, rfl, ?_⟩
      cases hx : xix tb x with
      | some c =>
        obtain ⟨q, q1, q2⟩ := xix_get hx
        have m := (g.xc c q q1).1.mg
        rw [q2] at m
        have ev : clsVal n tb x = .ref (n.xA c) := by unfold clsVal; rw [hx]
        rw [ev]
        exact ⟨.ref (n.xA c), ⟨pe_glob (X := X.suite a pn) (g.gl c1) m rfl (okName_ok c2).1, fun u' r => r⟩⟩
      | none =>
        unfold okT at c3
        rw [hx] at c3
        simp only [Option.isSome_none, Bool.or_false, decide_eq_true_eq] at c3
        have ev : clsVal n tb x = .type "ValueError" := by unfold clsVal; rw [hx]
        rw [ev]
        subst c3
        exact ⟨.ty "ValueError", ⟨pe_bltn (X := X.suite a pn) (g.gl c1) (g.bn (by decide +kernel)) PyProof.Rows.Boot.«ValueError» rfl (by decide +kernel) (by decide +kernel), fun u' r => r⟩⟩
    · cases h
  · cases h
theorem clsVs_ok (g : Good n P tb k X s V') (a : Addr) (pn : List (Addr × Obj)) : ∀ {ts : List Expr} {l : List Str}, clsNms tb s ts = some l → (∀ x ∈ l, okT tb x = true) ∧ ts.all noStar = true ∧ ∃ vs, vs.length = l.length ∧ ClsVs (X.suite a pn) ts vs (l.map (clsVal n tb))
  | [], l, h => by
    simp only [clsNms, Option.some.injEq] at h
    subst h
    exact ⟨fun _ h => (by cases h), rfl, [], rfl, ClsVs.nil⟩
  | t :: ts, l, h => by
    simp only [clsNms] at h
    split at h
    · rename_i x xs h1 h2
      cases h
      obtain ⟨k1, k2, v, k3⟩ := clsV_ok g h1 a pn
      obtain ⟨m1, m2, vs, m3, m4⟩ := clsVs_ok g a pn h2
      exact ⟨fun y hy => (List.mem_cons.mp hy).elim (fun e => e ▸ k1) (m1 y), by rw [List.all_cons, k2, m2]; rfl, v :: vs, by simp [m3], .cons k3 (star_cons k2) m4⟩
    · cases h
theorem kits_ok (g : Good n P tb k X s V') {c : Nat} {q : Str × List Str} (hq : tb.xcs[c]? = some q) : ∀ {l : List Str}, (∀ x ∈ l, okT tb x = true) → PySem.W.kitAny X.K (.ref (n.xA c)) (l.map (clsVal n tb)) = some (l.any fun t => q.2.contains t)
  | [], _ => rfl
  | t :: l, h => by
    rw [List.map_cons, PySem.W.kitAny, (g.xc c q hq).2.1 t (h t List.mem_cons_self), List.any_cons]
    have ih := kits_ok g hq (l := l) fun x hx => h x (List.mem_cons_of_mem _ hx)
    cases q.2.contains t with
    | true => rfl
    | false => exact ih
theorem pe_no {e : Expr} {t : TE} (h : ∀ σ H Q, t σ H Q → False) : PE X e t := ⟨fun pins s σ H Q I q => (h σ H Q q).elim⟩
section
variable {a : Addr} {oe : Obj} {d : Option Addr} {pn : List (Addr × Obj)} {c i : Nat} {w : Wv} {en : Str} {q : Str × List Str}
theorem erHb_two {isAnd : Bool} {f : Expr → Option Hx} : ∀ {es : List Expr} {x : Hx}, 2 ≤ es.length → erHb isAnd f es = some x → ∃ y z, x = if isAnd = true then .and y z else .or y z
  | [], x, hl, h => by simp at hl
  | [e], x, hl, h => by simp at hl
  | e :: e2 :: es, x, hl, h => by
    simp only [erHb] at h
    split at h
    · cases h
      exact ⟨_, _, rfl⟩
    · cases h
theorem erHb_ok {Y : Cx} {isAnd : Bool} {f : Expr → Option Hx} (F : ∀ e x, f e = some x → PT Y e (tH n a d w i (htst c w x))) {pos : Pos} : ∀ {es : List Expr} {x : Hx}, erHb isAnd f es = some x → PW Y (.BoolOp (if isAnd = true then .And else .Or) es pos) (tH n a d w i (htst c w x))
  | [], x, h => by simp [erHb] at h
  | [e], x, h => by
    simp only [erHb] at h
    cases isAnd with
    | true => exact pw_and1 (F e x h)
    | false => exact pw_or1 (F e x h)
  | e :: e2 :: es, x, h => by
    simp only [erHb] at h
    split at h
    · rename_i y z h1 h2
      cases h
      have ih := erHb_ok F (pos := pos) h2
      cases isAnd with
      | true => exact hw_and (F e y h1) ih
      | false => exact hw_or (F e y h1) ih
    · cases h
theorem erHl_ok {Y : Cx} {f : Expr → Option Hx} (F : ∀ e x, f e = some x → PE Y e (gH n a d w i (hev c w x))) : ∀ {es : List Expr} {xs : List Hx}, erHl f es = some xs → PA Y es (aH n a d w i (hevs c w xs))
  | [], xs, h => by
    simp only [erHl, Option.some.injEq] at h
    subst h
    exact ha_nil
  | e :: es, xs, h => by
    simp only [erHl] at h
    split at h
    · rename_i hs
      split at h
      · rename_i y ys h1 h2
        cases h
        exact ha_cons (F e y h1) (erHl_ok F h2) (star_cons hs)
      · cases h
    · cases h
theorem erHx_ok (g : Good n P tb k X s V') (hi : X.N[i]? = some en) (hq : tb.xcs[c]? = some q) (hz : Zc (.ref (n.xA c)) d oe) (hf : ∃ vs, oe.data = .fields vs) : ∀ (m : Nat) (e : Expr) (x : Hx), erHx tb s en m e = some x →
    PE (X.suite a ((a, oe) :: pn)) e (gH n a d w i (hev c w x)) ∧ PT (X.suite a ((a, oe) :: pn)) e (tH n a d w i (htst c w x))
  | 0, e, x, h => by simp [erHx] at h
  | m + 1, e, x, h => by
    have IH := fun e x h => erHx_ok g hi hq hz hf m e x h
    cases e with
    | Name y p =>
      simp only [erHx] at h
      split at h
      · rename_i hv
        simp only [Bool.and_eq_true] at hv
        obtain ⟨j, h1, rfl⟩ := Option.map_eq_some_iff.mp h
        have r : PE (X.suite a ((a, oe) :: pn)) (.Name y p) (gH n a d w i (hev c w (.var j))) := h_var (X := X.suite a ((a, oe) :: pn)) (g.ix h1) (g.vis hv.1) (okName_ok hv.2).1 (okName_ok hv.2).2
        exact ⟨r, ht_val r (fun _ => rfl) fun _ _ => by rw [htst]; all_goals first | rfl | (intro _ h; cases h; done) | (intro _ _ h; cases h; done)⟩
      · cases h
    | Constant k0 j p =>
      simp only [erHx] at h
      obtain ⟨v, h1, rfl⟩ := Option.map_eq_some_iff.mp h
      have r : PE (X.suite a ((a, oe) :: pn)) (.Constant k0 j p) (gH n a d w i (hev c w (.cst v))) := h_cst h1
      exact ⟨r, ht_val r (fun _ => rfl) fun _ _ => by rw [htst]; all_goals first | rfl | (intro _ h; cases h; done) | (intro _ _ h; cases h; done)⟩
    | Attribute o f p =>
      simp only [erHx] at h
      split at h
      · rename_i y p2
        split at h
        · rename_i hv
          simp only [Bool.and_eq_true, decide_eq_true_eq] at hv
          obtain ⟨rfl, h1, h2, rfl⟩ := hv
          cases h
          have T := (g.xc c q hq).1
          have r : PE (X.suite a ((a, oe) :: pn)) (.Attribute (.Name y p2) (n.nm n.atF) p) (gH n a d w i (hev c w .atv)) := h_atv T.is T.no hz hf hi (g.vis h1) (okName_ok h2).1 (okName_ok h2).2
          rw [g.atn] at r
          exact ⟨r, ht_val r (fun _ => rfl) fun _ _ => by rw [htst]; all_goals first | rfl | (intro _ h; cases h; done) | (intro _ _ h; cases h; done)⟩
        · cases h
      · cases h
    | Tuple es kk p =>
      simp only [erHx] at h
      obtain ⟨xs, h1, rfl⟩ := Option.map_eq_some_iff.mp h
      have r : PE (X.suite a ((a, oe) :: pn)) (.Tuple es kk p) (gH n a d w i (hev c w (.tup xs))) := h_tup (erHl_ok (fun e x h => (IH e x h).1) h1)
      exact ⟨r, ht_val r (fun _ => rfl) fun _ _ => by rw [htst]; all_goals first | rfl | (intro _ h; cases h; done) | (intro _ _ h; cases h; done)⟩
    | Call cc args kws p =>
      simp only [erHx] at h
      unfold erHc at h
      split at h
      · rename_i z pz y py t
        split at h
        · rename_i hv
          simp only [Bool.and_eq_true, decide_eq_true_eq] at hv
          obtain ⟨rfl, h1, rfl, h2, h3⟩ := hv
          have T := (g.xc c q hq).1
          have r : PE (X.suite a ((a, oe) :: pn)) (.Call (.Name "isinstance" pz) [.Name y py, t] [] p) (gH n a d w i (hev c w x)) ∧ ∀ e h, htst c w x e h = (hev c w x e h).bind fun v h1 => match v with | .bl t => .ok t h1 | _ => .bad := by
            split at h
            · rename_i ts kk pt
              rw [Option.bind_eq_some_iff] at h
              obtain ⟨l, h4, h5⟩ := h
              split at h5
              · rename_i hl
                cases h5
                obtain ⟨m1, m2, vs, m3, m4⟩ := clsVs_ok g a ((a, oe) :: pn) h4
                have zl : 100 ≤ sizeLine := by decide
                refine ⟨h_isN T.is hz hf hi (g.vis h2) (okName_ok h3).1 (okName_ok h3).2 (g.gl h1) (g.bn (by decide +kernel)) m4 (by rw [m3]; omega) rfl rfl rfl (kits_ok g hq m1) (fun hy => ?_) (fun hn _ => ?_), fun _ _ => by rw [htst]; all_goals first | rfl | (intro _ h; cases h; done) | (intro _ _ h; cases h; done)⟩
                · obtain ⟨q', e1, e2⟩ := yes_of hy
                  rw [hq] at e1; cases e1; exact e2
                · obtain ⟨q', e1, e2⟩ := no_of hn
                  rw [hq] at e1; cases e1; exact e2
              · cases h5
            · obtain ⟨l, h4, rfl⟩ := Option.map_eq_some_iff.mp h
              obtain ⟨m1, m2, v, m3⟩ := clsV_ok g h4 a ((a, oe) :: pn)
              refine ⟨h_is1 T.is hz hf hi (g.vis h2) (okName_ok h3).1 (okName_ok h3).2 (g.gl h1) (g.bn (by decide +kernel)) m3 (star_cons m2) (star_cons rfl) (star_any (by rw [List.all_cons, m2]; rfl)) ((g.xc c q hq).2.1 l m1) (fun hy => ?_) (fun hn _ => ?_), fun _ _ => by rw [htst]; all_goals first | rfl | (intro _ h; cases h; done) | (intro _ _ h; cases h; done)⟩
              · obtain ⟨q', e1, e2⟩ := yes_of hy
                rw [hq] at e1; cases e1; simpa using e2
              · obtain ⟨q', e1, e2⟩ := no_of hn
                rw [hq] at e1; cases e1; simpa using e2
          exact ⟨r.1, ht_val r.1 (fun _ => rfl) r.2⟩
        · cases h
      · cases h
    | UnaryOp o b p =>
      simp only [erHx] at h
      split at h
      · obtain ⟨y, h1, rfl⟩ := Option.map_eq_some_iff.mp h
        exact ⟨pe_no fun σ H Q ⟨ι, e, hp, S, A⟩ => by simp only [hev] at A; exact A, ht_not (IH b y h1).2⟩
      · cases h
    | BoolOp o es p =>
      simp only [erHx] at h
      split at h
      · rename_i hl
        split at h
        · refine ⟨pe_no fun σ H Q ⟨ι, e, hp, S, A⟩ => ?_, (erHb_ok (isAnd := true) (fun e x h => (IH e x h).2) h).pt⟩
          obtain ⟨y, z, rfl⟩ := erHb_two hl h
          simp only [if_true, hev] at A
          exact A
        · refine ⟨pe_no fun σ H Q ⟨ι, e, hp, S, A⟩ => ?_, (erHb_ok (isAnd := false) (fun e x h => (IH e x h).2) h).pt⟩
          obtain ⟨y, z, rfl⟩ := erHb_two hl h
          simp only [Bool.false_eq_true, if_false, hev] at A
          exact A
      · cases h
    | _ => simp [erHx] at h
theorem erMs_ok {Y : Cx} {f : Stmt → Option Hm} (F : ∀ st y, f st = some y → PS Y st (mH n a d w i (hex i c w y))) : ∀ {ss : List Stmt} {ys : List Hm}, erMs f ss = some ys → PSs Y ss (mH n a d w i (hexs i c w ys))
  | [], ys, h => by
    simp only [erMs, Option.some.injEq] at h
    subst h
    exact ms_nil
  | st :: ss, ys, h => by
    simp only [erMs] at h
    split at h
    · rename_i x xs h1 h2
      cases h
      exact ms_cons (F st x h1) (erMs_ok F h2)
    · cases h
theorem erHm_ok (g : Good n P tb k X s V') (hi : X.N[i]? = some en) (hq : tb.xcs[c]? = some q) (hz : Zc (.ref (n.xA c)) d oe) (hf : ∃ vs, oe.data = .fields vs) (j : Nat) : ∀ (m : Nat) (st : Stmt) (y : Hm), erHm tb s en j m st = some y →
    PS (X.suite a ((a, oe) :: pn)) st (mH n a d w i (hex i c w y))
  | 0, st, y, h => by simp [erHm] at h
  | m + 1, st, y, h => by
    have F := fun e x h => erHx_ok g hi hq hz hf (w := w) (pn := pn) (a := a) j e x h
    cases st with
    | Assign ts e pos =>
      simp only [erHm] at h
      split at h
      · rename_i z pz
        split at h
        · rename_i hn
          split at h
          · rename_i i2 x h1 h2
            cases h
            obtain ⟨n1, n2, n3⟩ := erNm_ok g h1
            exact m_asg (X := X.suite a ((a, oe) :: pn)) g.ndx n1 n2 n3 (F e x h2).1 (sw_no hn)
          · cases h
        · cases h
      · cases h
    | Return o pos =>
      simp only [erHm] at h
      split at h
      · obtain ⟨x, h1, rfl⟩ := Option.map_eq_some_iff.mp h
        exact m_ret (F _ x h1).1
      · cases h
    | If t b o pos =>
      simp only [erHm] at h
      split at h
      · split at h
        · rename_i x ys h1 h2
          cases h
          exact m_ifs (F t x h1).2 (erMs_ok (fun st y h => erHm_ok g hi hq hz hf j m st y h) h2)
        · cases h
      · cases h
    | _ => simp [erHm] at h
end
/-! ### raise, try -/
def erRs (tb : Tb) (s : Sc) (j : Nat) (x : Str) (a : Expr) : Option Sm := if (isGl s x && (okName x && noStar a)) = true then (match xix tb x, erE tb j s a with
    | some c, some v => some (.rse c v)
    | _, _ => none) else none
theorem erRs_ok (g : Good n P tb k X s V') {j : Nat} {x : Str} {a : Expr} {y : Sm} {p pos pos' : Pos} (h : erRs tb s j x a = some y) : PS X (.Raise (some (.Call (.Name x p) [a] [] pos)) none pos') (GS n (ofW n V') (ex P y)) := by
  unfold erRs at h
  split at h
  · rename_i hc
    simp only [Bool.and_eq_true] at hc
    obtain ⟨c1, c2, c3⟩ := hc
    split at h
    · rename_i c v h1 h2
      cases h
      obtain ⟨q, q1, q2⟩ := xix_get h1
      have T := (g.xc c q q1).1
      rw [q2] at T
      exact s_rse g.calm g.tk T (g.hr.mono (by have := g.k1; omega)) (g.gl c1) (a_cons (er_ok j X s V' g a v h2).1 a_nil (star_cons c3)) (okName_ok c2).1 (star_cons c3)
    · cases h
  · cases h
def erBd (tb : Tb) (s : Sc) (j : Nat) : Stmt → Option Sm
  | .Assign ts e _ => (match ts with
    | [t] => erAsg tb s j t e
    | _ => none)
  | .Expr e _ => if noComp e = true then (erE tb j s e).map .exp else none
  | _ => none
theorem erBd_ok (g : Good n P tb k X s V') {j : Nat} {st : Stmt} {y : Sm} (h : erBd tb s j st = some y) : PS X st (GS n (ofW n V') (ex P y)) := by
  cases st with
  | Assign ts e pos =>
    simp only [erBd] at h
    split at h
    · exact erAsg_ok g h
    · cases h
  | Expr e pos =>
    simp only [erBd] at h
    split at h
    · rename_i hn
      obtain ⟨x, h1, rfl⟩ := Option.map_eq_some_iff.mp h
      exact s_exp (er_ok j X s V' g e x h1).1 (sw_no hn)
    · cases h
  | _ => simp [erBd] at h
def erTr (tb : Tb) (s : Sc) (j : Nat) (body : List Stmt) (hs : List ExceptHandler) (o fin : List Stmt) : Option Sm := match body, hs, o, fin with
  | [st], [.ExceptHandler (some (.Name x _)) (some en) (b0 :: suite) _], [], [] => if (isGl s x && (okName x && (s.sc.names.lookup en == some .local))) = true then (match erBd tb s j st, ixS s.N en 0, xix tb x, erMs (erHm tb s en j 20) (b0 :: suite) with
      | some y, some i, some _, some ys => some (.tryx y i (yesOf tb [x]) (noOf tb [x]) ys)
      | _, _, _, _ => none) else none
  | _, _, _, _ => none
theorem erTr_ok (g : Good n P tb k X s V') (hst : X.stack = X.env :: X.outer) (hfr : X.env.frame = some X.env.locals) {j : Nat} {body : List Stmt} {hs : List ExceptHandler} {o fin : List Stmt} {y : Sm} {pos : Pos} (h : erTr tb s j body hs o fin = some y) : PS X (.Try body hs o fin pos) (GS n (ofW n V') (ex P y)) := by
  unfold erTr at h
  split at h
  · rename_i st x px en b0 suite ph
    split at h
    · rename_i hc
      simp only [Bool.and_eq_true, beq_iff_eq] at hc
      obtain ⟨c1, c2, c3⟩ := hc
      split at h
      · rename_i y0 i c0 ys h1 h2 h3 h4
        cases h
        obtain ⟨q0, q1, q2⟩ := xix_get h3
        have T := (g.xc c0 q0 q1).1
        rw [q2] at T
        refine s_try hst hfr g.ndx (g.ix h2) (show X.env.scope.names.lookup en = some .local by rw [g.scp]; exact c3) ⟨g.gl c1, (okName_ok c2).1, .inl T.mg⟩ g.tk (fun W' pn xe tk => erBd_ok (g.tr tk) h1) (fun a oe d pn c w hy hz hf => ?_) (fun c hc => ?_)
        · obtain ⟨q, e1, e2⟩ := yes_of hy
          exact erMs_ok (fun st y h => erHm_ok g (g.ix h2) e1 hz hf j 20 st y h) h4
        · by_cases hy : (yesOf tb [x]).contains c = true
          · obtain ⟨q, e1, e2⟩ := yes_of hy
            rw [(g.xc c q e1).2.2 x c0 h3, hy]
            simpa using e2
          · rcases hc with hc | hc
            · exact absurd hc hy
            · obtain ⟨q, e1, e2⟩ := no_of hc
              rw [(g.xc c q e1).2.2 x c0 h3]
              have hy' : (yesOf tb [x]).contains c = false := by simpa using hy
              rw [hy']
              simpa using e2
      · cases h
    · cases h
  · cases h
end
end SL

set_option maxRecDepth 100000
set_option maxHeartbeats 1000000
/-! Statements from the text. -/
namespace SL
open PySem L2 PyProof.Rows
set_option autoImplicit false
/-- expressions by fuel j, blocks by the first -/
def erS (tb : Tb) (j : Nat) : Nat → Sc → Stmt → Sm
  | 0, _, _ => .never
  | m + 1, s, st => match st with
    | .Assign ts e _ => (match ts with
      | [t] => (erAsg tb s j t e).getD .never
      | _ => .never)
    | .AugAssign t o e _ => (erAug tb s j t o e).getD .never
    | .Expr e _ => if isDoc e = true then .pass else if noComp e = true then ((erE tb j s e).map Sm.exp).getD .never else .never
    | .Return o _ => (match o with
      | none => .retn
      | some e => ((erE tb j s e).map Sm.ret).getD .never)
    | .If c a b _ => (match erE tb j s c with
      | some x => .ifs x (a.map (erS tb j m s)) (b.map (erS tb j m s))
      | none => .never)
    | .While c b o _ => (match erE tb j s c, o with
      | some x, [] => .whl x (b.map (erS tb j m s))
      | _, _ => .never)
    | .For tg it b o _ => if noSet it = true then (match erT s j tg, erIt tb s (erE tb j s) (isTup tg) it, o with
      | some t, some i, [] => .for t i (b.map (erS tb j m s))
      | _, _, _ => .never) else .never
    | .Pass _ => .pass
    | .Break _ => .brk
    | .Continue _ => .cont
    | .Raise e f _ => (match e, f with
      | some (.Call (.Name x _) [a] [] _), none => (erRs tb s j x a).getD .never
      | _, _ => .never)
    | .Try b hs o f _ => (erTr tb s j b hs o f).getD .never
    | _ => .never
section
variable {n : Nam} {P : Wd} {tb : Tb} {k : Nat} {X : Cx} {s : Sc} {V' : WX}
theorem block_ok {f : Stmt → Sm} (hW : ∀ σ σ', ofW n V' σ = ofW n V' σ') (F : ∀ st, PS X st (GS n (ofW n V') (ex P (f st)))) : ∀ ss : List Stmt, PSs X ss (GS n (ofW n V') (exs P (ss.map f)))
  | [] => ss_nil
  | st :: ss => ss_cons hW (F st) (block_ok hW F ss)
/-- THE READING of a statement -/
theorem erS_ok (g : Good n P tb k X s V') (hW : ∀ σ σ', ofW n V' σ = ofW n V' σ') (hp : PassesOwn (model X.prog X.w) X.A X.env X.xe) (hst : X.stack = X.env :: X.outer) (hfr : X.env.frame = some X.env.locals) (j : Nat) : ∀ m st, PS X st (GS n (ofW n V') (ex P (erS tb j m s st)))
  | 0, st => s_never
  | m + 1, st => by
    have F : Snd1 n P X V' (erE tb j s) := er_ok j X s V' g
    have IH := block_ok hW (erS_ok g hW hp hst hfr j m)
    have opt : ∀ {o : Option Sm}, (∀ y, o = some y → PS X st (GS n (ofW n V') (ex P y))) → PS X st (GS n (ofW n V') (ex P (o.getD .never))) := fun {o} h => by
      cases o with
      | none => exact s_never
      | some y => exact h y rfl
    cases st with
    | Assign ts e pos =>
      simp only [erS]
      split
      · exact opt fun y h => erAsg_ok g h
      · exact s_never
    | AugAssign t o e pos =>
      simp only [erS]
      exact opt fun y h => erAug_ok g h
    | Expr e pos =>
      simp only [erS]
      split
      · rename_i hd
        unfold isDoc at hd
        split at hd
        · exact s_doc
        · cases hd
      · split
        · rename_i hn
          refine opt fun y h => ?_
          obtain ⟨x, h1, rfl⟩ := Option.map_eq_some_iff.mp h
          exact s_exp (F e x h1).1 (sw_no hn)
        · exact s_never
    | Return o pos =>
      simp only [erS]
      split
      · exact s_retn
      · rename_i e
        refine opt fun y h => ?_
        obtain ⟨x, h1, rfl⟩ := Option.map_eq_some_iff.mp h
        exact s_ret (F e x h1).1
    | If c a b pos =>
      simp only [erS]
      split
      · rename_i x h1
        exact s_if (F c x h1).2 (IH a) (IH b)
      · exact s_never
    | While c b o pos =>
      simp only [erS]
      split
      · rename_i x h1
        exact s_whl hW hp (F c x h1).2 (IH b)
      · exact s_never
    | For tg it b o pos =>
      simp only [erS]
      split
      · rename_i hn
        split
        · rename_i t i h1 h2
          exact s_for hW hp g.calm (erIt_ok g F h2) (erT_ok g j h1) (IH b) (set_pure hn)
        · exact s_never
      · exact s_never
    | Pass pos => exact s_pass
    | Break pos => exact s_brk
    | Continue pos => exact s_cont
    | Raise e f pos =>
      simp only [erS]
      split
      · exact opt fun y h => erRs_ok g h
      · exact s_never
    | Try b hs o f pos =>
      simp only [erS]
      exact opt fun y h => erTr_ok g hst hfr h
    | _ => exact s_never
end
end SL

set_option maxRecDepth 100000
set_option maxHeartbeats 1000000
/-! The defs, by the depth of their calls. -/
namespace SL
open PySem L2 PyProof.Rows
set_option autoImplicit false

/-- one def of the text -/
structure DD where
  at_ : Str × Option Str
  name : Str
  qual : Str
  params : Arguments
  body : List Stmt
  scope : Scope
  N : List Str
  ps : List Str
  md : Md
  /-- its table of code objects: the place among the tables -/
  tab : Option Nat := none
def DD.d (d : DD) : He.DefD := ⟨d.at_, d.name, d.qual, d.params, d.body, d.scope, [], []⟩
def DD.bindOk (d : DD) : Prop := ∀ (kV doc pm : Value) (an : Option Addr) (cdv ct : Value) (us : List Value), us.length = d.ps.length → bindArgs (PySem.W.fnOf d.name d.qual d.params d.body d.scope .none kV doc pm an cdv ct) ⟨us, []⟩ = pure (d.ps.zip us)
/-- one class: its name, __init__, methods, fields, whether its instances stay as they are -/
structure CD where
  name : Str
  init : Option Nat
  meth : List (Nat × Nat)
  fld : List Nat
  cold : Bool
/-- a refusal's class: its name, the names of all that it is -/
structure XC where
  name : Str
  ups : List Str
/-- the program as the proof sees it; xini: the def that is the refusals' __init__, atF: what it stores -/
structure Pg where
  dds : List DD
  cds : List CD
  con : List (Str × Nat × Int)
  att : List Str
  turns : Nat
  xcs : List XC := []
  xini : Nat := 0
  atF : Nat := 0
  /-- the defs that make lambdas: where they stand, their whole names -/
  tfs : List ((Str × Option Str) × Str) := []
  /-- for each class the names of all that it is (empty: not asked) -/
  cup : List (List Str) := []
def numbered {α : Type} (i : Nat) : List α → List (α × Nat)
  | [] => []
  | a :: as => (a, i) :: numbered (i + 1) as
theorem numbered_get {α : Type} : ∀ {l : List α} {i : Nat} {p : α × Nat}, p ∈ numbered i l → ∃ k, p.2 = i + k ∧ l[k]? = some p.1
  | [], i, p, h => by simp [numbered] at h
  | a :: as, i, p, h => by
    rcases List.mem_cons.mp h with rfl | h
    · exact ⟨0, rfl, rfl⟩
    · obtain ⟨k, h1, h2⟩ := numbered_get h
      exact ⟨k + 1, by omega, by simpa using h2⟩
def odd (i : Nat) : Str := ⟨#[1114112 + i]⟩
def nmOf (att : List Str) (i : Nat) : Str := (att[i]?).getD (odd i)
def Pg.tb (p : Pg) : Tb where
  fns := (numbered 0 p.dds).filterMap fun q => match q.1.at_.2 with
    | none => some (q.1.at_.1, q.2)
    | some _ => none
  cls := (numbered 0 p.cds).map fun q => (q.1.name, q.2)
  con := p.con.map fun q => (q.1, q.2.1)
  att := p.att
  xcs := p.xcs.map fun q => (q.name, q.ups)
  atN := nmOf p.att p.atF
  cup := p.cup
def DD.df (tb : Tb) (d : DD) : Df := ⟨d.ps.length, d.N.length, d.body.map (erS tb 40 40 ⟨d.N, d.scope, fun _ => true, d.tab⟩), d.md⟩
def Pg.D (p : Pg) (f : Nat) : Option Df := (p.dds[f]?).map (DD.df p.tb)
def Pg.glo (p : Pg) (g : Nat) : Option Wv := (p.con.map (·.2)).lookup g |>.map .int
def Pg.cls (p : Pg) (c : Nat) : Option Cl := (p.cds[c]?).map fun d => ⟨d.init, d.meth, d.cold⟩
def Pg.fld (p : Pg) (c f : Nat) : Bool := match p.cds[c]? with
  | some d => d.fld.contains f
  | none => false
def Pg.W (p : Pg) (D : Nat → Option Df) (j : Nat) : Wd := ⟨p.glo, p.cls, p.fld, callD D p.glo p.cls p.fld p.turns j, p.turns⟩
/-! ### names -/
def attOk (att : List Str) : Bool := decide att.Nodup && att.all fun a => decide (a.cps.size ≠ 1)
theorem nm_inj {att : List Str} (h : attOk att = true) : ∀ f g, nmOf att f = nmOf att g → f = g := by
  unfold attOk at h
  simp only [Bool.and_eq_true, decide_eq_true_eq, List.all_eq_true] at h
  obtain ⟨hn, ho⟩ := h
  have key : ∀ f g, f < att.length → ¬ g < att.length → nmOf att f = nmOf att g → False := fun f g hf hg e => by
    unfold nmOf at e
    rw [List.getElem?_eq_getElem hf, List.getElem?_eq_none (by omega)] at e
    have := ho _ (List.getElem_mem hf)
    simp only [Option.getD_some, Option.getD_none] at e
    rw [e] at this
    exact this rfl
  intro f g e
  by_cases hf : f < att.length <;> by_cases hg : g < att.length
  · unfold nmOf at e
    rw [List.getElem?_eq_getElem hf, List.getElem?_eq_getElem hg] at e
    exact (List.getElem_inj hn).mp (by simpa using e)
  · exact (key f g hf hg e).elim
  · exact (key g f hg hf e.symm).elim
  · unfold nmOf at e
    rw [List.getElem?_eq_none (by omega), List.getElem?_eq_none (by omega)] at e
    simp only [Option.getD_none, odd] at e
    have e2 : (#[1114112 + f] : Array Nat) = #[1114112 + g] := congrArg Str.cps e
    have e3 := congrArg (fun a : Array Nat => a[0]?) e2
    simp at e3
    exact e3
/-- the names at K; atF: the number of an exception's own field -/
def Pg.n (p : Pg) (h : attOk p.att = true) (K : PySem.W.Frag) (atF : Nat) (w : World) : Nam := ⟨K, fun c => He.ga K ((p.cds[c]?.map CD.name).getD Str.empty), fun c => He.ga K ((p.xcs[c]?.map XC.name).getD Str.empty), nmOf p.att, atF, w, nm_inj h, fun t => (He.cT K ((p.tfs[t]?.map (·.1)).getD (Str.empty, none))).2, fun t => (((p.tfs[t]?.map (·.2)).getD Str.empty) ++ ".<locals>.") ++ "<lambda>"⟩
/-! ### what the heap behind the top is to hold -/
def fnA (p : Pg) (K : PySem.W.Frag) (f : Nat) : Addr := He.fAd K ((p.dds[f]?.map DD.at_).getD (Str.empty, none))
def valIs (K : PySem.W.Frag) (C : Addr) (m : Str) (a : Addr) : Bool := match PySem.W.findCls K (.ref C) (.type "type") m with
  | some (.val (.ref b)) => decide (b = a)
  | _ => false
theorem valIs_ok {K : PySem.W.Frag} {C : Addr} {m : Str} {a : Addr} (h : valIs K C m a = true) : PySem.W.findCls K (.ref C) (.type "type") m = some (.val (.ref a)) := by
  unfold valIs at h
  split at h
  · rename_i b q
    rw [q, of_decide_eq_true h]
  · cases h
def glB (K : PySem.W.Frag) (x : Str) : Bool := He.eqO (PySem.W.nsIn K mainGlobals x) (some (some (.ref (He.ga K x))))
def clB (p : Pg) (K : PySem.W.Frag) (c : CD) : Bool :=
  glB K c.name && (He.Fa.cls c.name).ok K && PySem.W.keepIn K (.ref (He.ga K c.name)) && He.eqO (PySem.W.specialIn K (.ref (He.ga K c.name)) "__getattribute__") (some (some (.builtin "type.__getattribute__"))) &&
    PySem.W.readsIn K (He.ga K c.name) (.type "type") &&
    (match c.init with
      | some f => PySem.W.makesIn K (He.ga K c.name) && He.eqO (PySem.W.findIn K (.ref (He.ga K c.name)) "__init__") (some (some (.ref (fnA p K f)))) && PySem.W.isFn K (.ref (fnA p K f))
      | none => true) &&
    (c.meth.all fun q => decide (q.1 < p.att.length) && He.eqO (PySem.W.findIn K (.ref (He.ga K c.name)) (nmOf p.att q.1)) (some (some (.ref (fnA p K q.2)))) && PySem.W.isFn K (.ref (fnA p K q.2)) && valIs K (He.ga K c.name) (nmOf p.att q.1) (fnA p K q.2)) &&
    (c.fld.all fun f => He.eqO (PySem.W.findIn K (.ref (He.ga K c.name)) (nmOf p.att f)) (some none))
def coB (K : PySem.W.Frag) (q : Str × Nat × Int) : Bool := match PySem.W.nsIn K mainGlobals q.1 with
  | some (some (.int j _)) => decide (j = q.2.2)
  | _ => false
/-- __init__(self, v): ValueError.__init__(self, ..); self.at = v -/
def iniB (d : DD) (f : Str) : Bool := match d.body with
  | [.Expr (.Call (.Attribute (.Name ve _) ini p2) [.Name s1 _, .Constant (.str _) _ _] [] pos) _, .Assign [.Attribute (.Name s2 _) g _] (.Name v _) _] =>
    decide (ve = ("ValueError" : Str)) && (decide (ini = ("__init__" : Str)) && ((p2.endLine == pos.line) && (decide (s1 = s2) && (decide (g = f) && (decide (d.N = [s1, v]) && (decide (d.ps = [s1, v]) &&
      (decide (d.scope.names.lookup ("ValueError" : Str) = some .globalImplicit) && (decide (d.scope.names.lookup s1 = some .local) && (decide (d.scope.names.lookup v = some .local) && (okName s1 && okName v))))))))))
  | _ => false
def xcB (p : Pg) (K : PySem.W.Frag) (f : Str) (c : XC) : Bool :=
  glB K c.name && (oexB K (He.ga K c.name) && (isB K (He.ga K c.name) && (He.eqO (PySem.W.findIn K (.ref (He.ga K c.name)) f) (some none) && (He.eqO (PySem.W.findIn K (.ref (He.ga K c.name)) "__init__") (some (some (.ref (fnA p K p.xini)))) &&
    (decide (PySem.W.typeIn K (.ref (fnA p K p.xini)) = some (.type "function")) && (decide (PySem.W.kitOne K (.ref (He.ga K c.name)) (.type "ValueError") = some (c.ups.contains "ValueError")) &&
      p.xcs.all fun d => decide (PySem.W.kitOne K (.ref (He.ga K c.name)) (.ref (He.ga K d.name)) = some (c.ups.contains d.name)) && decide (PySem.W.exmOne K (.ref (He.ga K c.name)) (.ref (He.ga K d.name)) = some (c.ups.contains d.name))))))))
def veB (K : PySem.W.Frag) : Bool := match PySem.W.findCls K (.type "ValueError") (.type "type") "__init__" with
  | some (.val v) => decide (v = .builtin "ValueError.__init__")
  | _ => false
theorem veB_ok {K : PySem.W.Frag} (h : veB K = true) : PySem.W.findCls K (.type "ValueError") (.type "type") "__init__" = some (.val (.builtin "ValueError.__init__")) := by
  unfold veB at h
  split at h
  · rename_i v q
    rw [q, of_decide_eq_true h]
  · cases h
def insB (K : PySem.W.Frag) (C : Addr) : Bool :=
  (He.eqO (PySem.W.findIn K (.ref C) "__class__") (some (some (.builtin "object.__class__"))) && (He.eqO (PySem.W.specialIn K (.builtin "object.__class__") "__get__") (some (some (.builtin "getset_descriptor.__get__"))) &&
    (decide (PySem.W.takesIn K (.builtin "object.__class__") = some true) && decide (PySem.W.mroIn K C (.type "object") = some true))))
/-- what isinstance asks of the text's classes -/
def Pg.iscB (p : Pg) (K : PySem.W.Frag) : Bool := (List.range p.cup.length).all fun c => match p.cds[c]? with
  | some d => insB K (He.ga K d.name) && p.cds.all fun e => decide (PySem.W.kitOne K (.ref (He.ga K d.name)) (.ref (He.ga K e.name)) = some ((p.cup.getD c []).contains e.name))
  | none => false
def Pg.facts0 (p : Pg) (K : PySem.W.Frag) : Bool := (p.xcs.isEmpty || (veB K && p.xcs.all (xcB p K (nmOf p.att p.atF)))) && (
  (p.dds.all fun d => match d.at_.2 with
    | none => glB K d.at_.1
    | some _ => true) && p.cds.all (clB p K) && p.con.all (coB K) && bltNames.all fun x => He.eqO (PySem.W.nsIn K mainGlobals x) (some none))
def Pg.facts (p : Pg) (K : PySem.W.Frag) : Bool := p.facts0 K && p.iscB K
/-- the scopes -/
def scC (N P : List Str) (sc : Scope) : Bool := (match sc.kind with | .function => true | _ => false) && !sc.isCoroutine && !sc.isGenerator && decide N.Nodup && decide (N.take P.length = P) &&
  (P.all fun x => decide (sc.names.lookup x = some .local) || decide (sc.names.lookup x = some .cell)) && sc.names.all fun y => decide (y.2 ≠ .free)
theorem scC_ok {N P : List Str} {sc : Scope} (h : scC N P sc = true) : FnScope N P sc := by
  unfold scC at h
  simp only [Bool.and_eq_true, List.all_eq_true, decide_eq_true_eq, Bool.or_eq_true, Bool.not_eq_true'] at h
  obtain ⟨⟨⟨⟨⟨⟨h1, h2⟩, h3⟩, h4⟩, h5⟩, h6⟩, h7⟩ := h
  refine ⟨?_, h2, h3, h4, h5, h6, h7⟩
  split at h1
  · assumption
  · cases h1
/-- what is asked of the program's tables -/
structure Pg.Ok (p : Pg) : Prop where
  tb : (p.dds.all fun d => match d.tab with
    | none => true
    | some t => decide (p.tfs[t]? = some (d.at_, d.qual))) = true
  att : attOk p.att = true
  sc : (p.dds.all fun d => scC d.N d.ps d.scope) = true
  bind : ∀ d ∈ p.dds, d.bindOk
  con : (p.con.map (·.2.1)).Nodup
  iN : (p.cds.all fun c => c.meth.all fun q => decide (q.2 < p.dds.length)) = true
  mF : ∀ c ∈ p.cds, ∀ f, c.init = some f → f < p.dds.length
  xI : p.xcs ≠ [] → ∃ d, p.dds[p.xini]? = some d ∧ iniB d (nmOf p.att p.atF) = true ∧ p.xcs.all (fun c => decide (c.name ≠ ("ValueError" : Str))) = true
end SL

set_option maxRecDepth 100000
set_option maxHeartbeats 1000000
/-! Each def keeps what the evaluator says of it. -/
namespace SL
open PySem L2 PyProof.Rows
set_option autoImplicit false

theorem lookup_nd {α : Type} : ∀ {l : List (Nat × α)} {k : Nat} {v : α}, (l.map (·.1)).Nodup → (k, v) ∈ l → l.lookup k = some v
  | [], k, v, _, h => by simp at h
  | (a, b) :: l, k, v, hn, h => by
    rw [List.map_cons, List.nodup_cons] at hn
    rcases List.mem_cons.mp h with e | h
    · cases e; exact List.lookup_cons_self
    · have : k ≠ a := fun e => hn.1 (List.mem_map.mpr ⟨(k, v), h, e⟩)
      simp only [List.lookup, beq_eq_false_iff_ne.mpr this]
      exact lookup_nd hn.2 h
theorem mem_lookN {α : Type} : ∀ {l : List (Nat × α)} {k : Nat} {v : α}, l.lookup k = some v → (k, v) ∈ l
  | [], k, v, h => by cases h
  | (a, b) :: l, k, v, h => by
    by_cases e : k = a
    · subst e
      rw [List.lookup_cons_self] at h
      cases h
      exact List.mem_cons_self
    · simp only [List.lookup, beq_eq_false_iff_ne.mpr e] at h
      exact List.mem_cons_of_mem _ (mem_lookN h)
theorem start_sr {n : Nam} {ι : List Addr} {H : Hp} {N : List Str} {vs : List V} {ws : List Wv} (h : VRs n ι H vs ws) (m : Nat) (hm : m = N.length) : ER n ι H (L2.start N vs) (SL.start m ws) := by
  subst hm
  unfold L2.start SL.start
  refine ⟨by simp [h.length], fun i w e => ?_⟩
  by_cases hi : i < ws.length
  · rw [List.getElem?_append_left (by simpa using hi), List.getElem?_map, Option.map_eq_some_iff] at e
    obtain ⟨w', e1, e2⟩ := e
    cases e2
    obtain ⟨v, h1, h2⟩ := h.get e1
    refine ⟨v, ?_, h2⟩
    rw [List.getElem?_append_left (by rw [List.length_map, h.length]; exact hi), List.getElem?_map, h1]
    rfl
  · rw [List.getElem?_append_right (by simpa using hi)] at e
    have := List.mem_of_getElem? e
    rw [List.mem_replicate] at this
    cases this.2
section
variable {p : Pg} {prog : Program} {w : World} {K : PySem.W.Frag} {mg : Str → Option Value} {h : Heap}
/-- what is known of the heap behind the top -/
structure Kn (p : Pg) (K : PySem.W.Frag) (mg : Str → Option Value) (h : Heap) : Prop where
  ok : p.Ok
  kin : K.In h
  ns : h.Ns mainGlobals mg
  facts : p.facts K = true
  fn : ∀ d ∈ p.dds, ∃ fd, FunD K d.name d.qual d.params d.body d.scope [] [] (He.fAd K d.at_) fd
theorem Kn.f0 (k : Kn p K mg h) : p.facts0 K = true := (Bool.and_eq_true_iff.mp k.facts).1
theorem Kn.parts (k : Kn p K mg h) : (∀ d ∈ p.dds, d.at_.2 = none → glB K d.at_.1 = true) ∧ (∀ c ∈ p.cds, clB p K c = true) ∧ (∀ q ∈ p.con, coB K q = true) ∧ ∀ x ∈ bltNames, He.eqO (PySem.W.nsIn K mainGlobals x) (some none) = true := by
  have f := k.f0
  unfold Pg.facts0 at f
  simp only [Bool.and_eq_true, List.all_eq_true] at f
  obtain ⟨_, ⟨⟨f1, f2⟩, f3⟩, f4⟩ := f
  refine ⟨fun d hd e => ?_, f2, f3, f4⟩
  have := f1 d hd
  rw [e] at this
  exact this
theorem Kn.glo (k : Kn p K mg h) {x : Str} (c : glB K x = true) : mg x = some (.ref (He.ga K x)) := PySem.W.mg_of k.kin k.ns (He.eqO_ok c)
structure ClsK (p : Pg) (K : PySem.W.Frag) (c : CD) : Prop where
  gl : glB K c.name = true
  cls : Cls K (He.ga K c.name)
  kp : PySem.W.keepIn K (.ref (He.ga K c.name)) = true
  get : PySem.W.specialIn K (.ref (He.ga K c.name)) "__getattribute__" = some (some (.builtin "type.__getattribute__"))
  rds : PySem.W.readsIn K (He.ga K c.name) (.type "type") = true
  init : ∀ f, c.init = some f → PySem.W.makesIn K (He.ga K c.name) = true ∧ PySem.W.findIn K (.ref (He.ga K c.name)) "__init__" = some (some (.ref (fnA p K f))) ∧ PySem.W.isFn K (.ref (fnA p K f)) = true
  meth : ∀ q ∈ c.meth, PySem.W.findIn K (.ref (He.ga K c.name)) (nmOf p.att q.1) = some (some (.ref (fnA p K q.2))) ∧ PySem.W.isFn K (.ref (fnA p K q.2)) = true ∧ PySem.W.findCls K (.ref (He.ga K c.name)) (.type "type") (nmOf p.att q.1) = some (.val (.ref (fnA p K q.2)))
  fld : ∀ f ∈ c.fld, PySem.W.findIn K (.ref (He.ga K c.name)) (nmOf p.att f) = some none
theorem clB_ok {c : CD} (h : clB p K c = true) : ClsK p K c := by
  unfold clB at h
  simp only [Bool.and_eq_true, List.all_eq_true, decide_eq_true_eq] at h
  obtain ⟨⟨⟨⟨⟨⟨⟨h1, h2⟩, h3⟩, h4⟩, h5⟩, h6⟩, h7⟩, h8⟩ := h
  refine ⟨h1, He.cls_ok h2, h3, He.eqO_ok h4, h5, fun f hf => ?_, fun q hq => ?_, fun f hf => He.eqO_ok (h8 f hf)⟩
  · rw [hf] at h6
    simp only [Bool.and_eq_true] at h6
    exact ⟨h6.1.1, He.eqO_ok h6.1.2, h6.2⟩
  · obtain ⟨⟨⟨g1, g2⟩, g3⟩, g4⟩ := h7 q hq
    exact ⟨He.eqO_ok g2, g3, valIs_ok g4⟩
theorem Kn.cd (k : Kn p K mg h) {c : Nat} {d : CD} (e : p.cds[c]? = some d) : ClsK p K d := clB_ok (k.parts.2.1 d (List.mem_of_getElem? e))
theorem Kn.at_ (k : Kn p K mg h) {f : Nat} {d : DD} (e : p.dds[f]? = some d) : fnA p K f = He.fAd K d.at_ := by unfold fnA; rw [e]; rfl
theorem Kn.cA (k : Kn p K mg h) {c : Nat} {d : CD} (e : p.cds[c]? = some d) : (p.n k.ok.att K p.atF w).cA c = He.ga K d.name := by
  show He.ga K _ = _
  rw [e]; rfl
theorem Kn.xcs (k : Kn p K mg h) (hx : p.xcs ≠ []) : veB K = true ∧ ∀ c ∈ p.xcs, xcB p K (nmOf p.att p.atF) c = true := by
  have f := k.f0
  unfold Pg.facts0 at f
  rw [Bool.and_eq_true] at f
  have f := f.1
  rw [Bool.or_eq_true] at f
  rcases f with f | f
  · exact absurd (List.isEmpty_iff.mp f) hx
  · rw [Bool.and_eq_true, List.all_eq_true] at f
    exact f
/-- the refusals' __init__ -/
theorem ini_ok {d : DD} {f : Str} {a : Addr} {fd : FuncData} {base : Heap} (F : FunD K d.name d.qual d.params d.body d.scope [] [] a fd) (S : FnScope d.N d.ps d.scope) (hB : iniB d f = true) (hm : mg "ValueError" = none) (hv : veB K = true) :
    FnOk prog w K mg base (L2.CX prog w) 1 a fd d.ps (spI K f) := by
  unfold iniB at hB
  split at hB
  · rename_i ve pv1 ini p2 s1 q1 zz jj q2 pos pe s2 q3 gg q4 v q5 pe2 hbody
    simp only [Bool.and_eq_true, decide_eq_true_eq, beq_iff_eq] at hB
    obtain ⟨rfl, rfl, h1, rfl, rfl, h2, h3, h4, h5, h6, h7, h8⟩ := hB
    refine F.ok S (fun vs H Q E ⟨aa, C, v0, e, _⟩ => by rw [e, h3]; rfl) (fun cdv A outer s H vs Q E hr ⟨aa, C, v0, e, T, no, ha, q⟩ => ?_)
    subst e
    rw [hbody]
    have hN : d.N.Nodup := S.nd
    have N0 : d.N[0]? = some s1 := by rw [h2]; rfl
    have N1 : d.N[1]? = some v := by rw [h2]; rfl
    have V0 : Vis d.scope s1 := .inl h5
    have V1 : Vis d.scope v := .inl h6
    refine ⟨_, pss_cons (ps_expr (pe_veinit (X := cxOf (L2.CX prog w) prog w K mg base d.N d.qual d.scope a cdv A outer s H E) h4 hm (veB_ok hv) (pa_cons (pe_var N0 V0 (okName_ok h7).1 (okName_ok h7).2) (pa_cons pe_str pa_nil)) (meth_eq rfl (by simpa using h1) (by simp) rfl)) rfl)
      (pss_one (ps_ost (pe_var N0 V0 (okName_ok h7).1 (okName_ok h7).2) (pe_var N1 V1 (okName_ok h8).1 (okName_ok h8).2) (sw_other rfl))), ?_⟩
    have e0 : (L2.start d.N [.ref aa, v0])[0]? = some (some (.ref aa)) := by rw [h2]; rfl
    have e1 : (L2.start d.N [.ref aa, v0])[1]? = some (some v0) := by rw [h2]; rfl
    refine ⟨.ref aa, e0, aa, C, [.str zz], rfl, by simp, T, ha, ?_⟩
    exact ⟨v0, e1, .ref aa, e0, aa, C, rfl, T, no, .inl ⟨ha, fun dx hd hne => q dx hd hne⟩⟩
  · cases hB
/-- FunD.ok, the def's code object told -/
theorem fund_ok {CX : CXT} {P : Program} {w : World} {K : PySem.W.Frag} {mg : Str → Option Value} {base : Heap} {x qual : Str} {params : Arguments} {body : List Stmt} {scope : Scope} {at_ : Str × Option Str} {fd : FuncData} {N ps : List Str} {k : Nat} {sp : Sp}
    (F : FunD K x qual params body scope [] [] (He.fAd K at_) fd) (S : FnScope N ps scope) (len : ∀ vs H Q E, sp vs H Q E → vs.length = ps.length)
    (hbody : ∀ (cdv : Value) (A : Around) (outer : List Env) (s : Shared) (H : Hp) (vs : List V) (Q : VK) (E : XK), cdv = .ref (He.codeOf K at_) → Room k (A.deeper (envOfC qual scope s.heap.objs.size (He.fAd K at_) cdv)) → sp vs H Q E →
      ∃ t, PSs (cxOf CX P w K mg base N qual scope (He.fAd K at_) cdv A outer s H E) body t ∧ t { nx := fun _ H' => Q .non H', rt := Q } (L2.start N vs) H) : FnOk P w K mg base CX (k + 1) (He.fAd K at_) fd ps sp := by
  obtain ⟨oc, od, dV, kV, doc, pm, an, cdv, ct, osl, rfl, lk, hcd, _, _⟩ := F.ex
  obtain ⟨c, hc⟩ := He.codeIn_ref hcd
  have e := He.codeOf_eq lk (c := c) hc
  exact fn_of lk hcd S len fun A outer s H vs Q E hr hsp => hbody cdv A outer s H vs Q E (by rw [hc, e]) hr hsp
/-- the defs' tables, at the base -/
def TabsB (p : Pg) (K : PySem.W.Frag) (mg : Str → Option Value) (base : Heap) : Prop := ∀ q ∈ p.tfs, LamX.TabB base mg (He.cT K q.1).1 (He.cT K q.1).2
/-- every def at one depth -/
def AllFn (p : Pg) (prog : Program) (w : World) (K : PySem.W.Frag) (mg : Str → Option Value) (base : Heap) (n : Nam) (j : Nat) : Prop :=
  ∀ f d, p.dds[f]? = some d → ∀ fd, FunD K d.name d.qual d.params d.body d.scope [] [] (He.fAd K d.at_) fd → Binds K fd d.ps [] ∧ FnOk prog w K mg base (L2.CX prog w) (2 * j + 2) (He.fAd K d.at_) fd d.ps (spW n (p.W p.D j) f)
theorem Kn.fnIs (k : Kn p K mg h) {base : Heap} {j : Nat} (A : AllFn p prog w K mg base (p.n k.ok.att K p.atF w) j) {X : Cx} (h1 : X.prog = prog) (h2 : X.w = w) (h3 : X.K = K) (h4 : X.mg = mg) (h5 : X.base = base) {f : Nat} (hf : f < p.dds.length) :
    FnIs X (p.n k.ok.att K p.atF w) (p.W p.D j) (2 * j + 2) f (fnA p K f) ∧ PySem.W.keepIn X.K (.ref (fnA p K f)) = true := by
  have e : p.dds[f]? = some p.dds[f] := List.getElem?_eq_getElem hf
  obtain ⟨fd, F⟩ := k.fn _ (List.mem_of_getElem? e)
  obtain ⟨b, o⟩ := A f _ e fd F
  subst h1 h2 h3 h4 h5
  rw [k.at_ e]
  exact ⟨⟨fd, _, b, o⟩, F.kp⟩
theorem Kn.good (k : Kn p K mg h) {base : Heap} {j : Nat} (A : AllFn p prog w K mg base (p.n k.ok.att K p.atF w) j) {X : Cx} {s : Sc} {V' : WX} (h1 : X.prog = prog) (h2 : X.w = w) (h3 : X.K = K) (h4 : X.mg = mg) (h5 : X.base = base)
    (calm : X.calm = true) (kind : X.env.scope.kind = .function) (scp : X.env.scope = s.sc) (nN : X.N = s.N) (nd : s.N.Nodup) (stk : ∀ x, s.st x = true → X.fn x = true ∨ X.env.scope.names.lookup x = some .local) (hr : Room (2 * j + 3) X.A) (tk : Takes X V') (lam : ∀ t, s.tab = some t → LamCx X (p.n k.ok.att K p.atF w) t) :
    Good (p.n k.ok.att K p.atF w) (p.W p.D j) p.tb (2 * j + 2) X s V' where
  hK := ⟨h3, h2⟩
  calm := calm
  kind := kind
  scp := scp
  nN := nN
  nd := nd
  stk := stk
  hr := hr
  tk := tk
  fld := fun c f hf => by
    have hf : p.fld c f = true := hf
    unfold Pg.fld at hf
    split at hf
    · rename_i d e
      have C := k.cd e
      have hm : f ∈ d.fld := List.contains_iff_mem.mp hf
      rw [k.cA e]
      exact ⟨C.cls, C.fld f hm⟩
    · cases hf
  meths := fun c m f hm => by
    have hm : (p.cls c).bind (fun cl => cl.meth.lookup m) = some f := hm
    unfold Pg.cls at hm
    cases e : p.cds[c]? with
    | none => rw [e] at hm; cases hm
    | some d =>
      rw [e] at hm
      have hm : d.meth.lookup m = some f := hm
      have q := mem_lookN hm
      have C := k.cd e
      have i := k.ok.iN
      simp only [List.all_eq_true, decide_eq_true_eq] at i
      have hf := i d (List.mem_of_getElem? e) _ q
      obtain ⟨I, kp⟩ := k.fnIs A h1 h2 h3 h4 h5 hf
      refine ⟨?_, fnA p K f, ⟨?_, ?_, ?_⟩, I⟩
      · rw [k.cA e]; exact C.cls
      · rw [k.cA e]; exact (C.meth _ q).1
      · exact (C.meth _ q).2.1
      · exact h3 ▸ kp
  fns := fun x f hx => by
    have q := PySem.mem_of_lookup hx
    obtain ⟨r, h6, h7⟩ := List.mem_filterMap.mp q
    obtain ⟨i, h8, h9⟩ := numbered_get h6
    rw [Nat.zero_add] at h8
    split at h7
    · rename_i hn
      cases h7
      rw [← h8] at h9
      have hf := (List.getElem?_eq_some_iff.mp h9).1
      obtain ⟨I, kp⟩ := k.fnIs A h1 h2 h3 h4 h5 hf
      have e : fnA p K r.2 = He.ga K r.1.at_.1 := by
        rw [k.at_ h9]
        show He.fAd K r.1.at_ = _
        unfold He.fAd
        rw [hn]
      refine ⟨fnA p K r.2, ?_, kp, I⟩
      rw [h4, e]
      exact k.glo (k.parts.1 r.1 (List.mem_of_getElem? h9) hn)
    · cases h7
  cls := fun x c hx => by
    have q := PySem.mem_of_lookup hx
    obtain ⟨r, h6, h7⟩ := List.mem_map.mp q
    obtain ⟨i, h8, h9⟩ := numbered_get h6
    rw [Nat.zero_add] at h8
    rw [← h8] at h9
    cases h7
    have C := k.cd h9
    have mgx : X.mg r.1.name = some (.ref ((p.n k.ok.att K p.atF w).cA r.2)) := by
      rw [h4, k.cA h9]
      exact k.glo C.gl
    have pc : p.cls r.2 = some ⟨r.1.init, r.1.meth, r.1.cold⟩ := by
      unfold Pg.cls
      rw [h9]; rfl
    refine ⟨⟨mgx, fun cl f hc hi => ?_⟩, by rw [k.cA h9, h3]; exact C.kp, mgx, by rw [k.cA h9, h3]; exact C.get, by rw [k.cA h9, h3]; exact C.rds, fun m f hm => ?_⟩
    · have hc : p.cls r.2 = some cl := hc
      rw [pc] at hc
      cases hc
      have hi : r.1.init = some f := hi
      have hf := k.ok.mF _ (List.mem_of_getElem? h9) f hi
      obtain ⟨I, kp⟩ := k.fnIs A h1 h2 h3 h4 h5 hf
      obtain ⟨i1, i2, i3⟩ := C.init f hi
      refine ⟨fnA p K f, ⟨?_, ?_, ?_, ?_⟩, I⟩
      · rw [k.cA h9, h3]; exact i1
      · rw [k.cA h9, h3]; exact i2
      · rw [h3]; exact i3
      · rw [k.cA h9, h3]; exact C.kp
    · have hm : (p.cls r.2).bind (fun cl => cl.meth.lookup m) = some f := hm
      rw [pc] at hm
      have hm : r.1.meth.lookup m = some f := hm
      have q := mem_lookN hm
      have i := k.ok.iN
      simp only [List.all_eq_true, decide_eq_true_eq] at i
      have hf := i _ (List.mem_of_getElem? h9) _ q
      obtain ⟨I, kp⟩ := k.fnIs A h1 h2 h3 h4 h5 hf
      exact ⟨fnA p K f, by rw [k.cA h9, h3]; exact (C.meth _ q).2.2, rfl, kp, I⟩
  con := fun x g hx => by
    have q := PySem.mem_of_lookup hx
    obtain ⟨r, h6, h7⟩ := List.mem_map.mp q
    cases h7
    have c := k.parts.2.2.1 r h6
    unfold coB at c
    split at c
    · rename_i j t e
      have ej := of_decide_eq_true c
      subst ej
      refine ⟨.int r.2.2, .int r.2.2, .int r.2.2 t, ?_, ?_, ⟨t, rfl⟩, fun _ _ => .int _⟩
      · show p.glo r.2.1 = _
        unfold Pg.glo
        rw [lookup_nd (l := p.con.map (·.2)) (k := r.2.1) (v := r.2.2) (by rw [List.map_map]; exact k.ok.con) (List.mem_map.mpr ⟨r, h6, rfl⟩)]
        rfl
      · rw [h4]; exact PySem.W.mg_of k.kin k.ns e
    · cases c
  att := fun i a h => by
    show nmOf p.att i = a
    unfold nmOf
    rw [show p.att[i]? = some a from h]
    rfl
  blt := fun x hx => by
    rw [h4]
    exact PySem.W.mg_none_of k.kin k.ns (He.eqO_ok (k.parts.2.2.2 x (List.contains_iff_mem.mp hx)))
  k1 := by omega
  atn := rfl
  lam := lam
  isc := fun c u hu => by
    have hu : p.cup[c]? = some u := hu
    have f := (Bool.and_eq_true_iff.mp k.facts).2
    unfold Pg.iscB at f
    rw [List.all_eq_true] at f
    have hl := (List.getElem?_eq_some_iff.mp hu).1
    have f := f c (List.mem_range.mpr hl)
    split at f
    · rename_i d e
      rw [Bool.and_eq_true, List.all_eq_true] at f
      obtain ⟨f1, f2⟩ := f
      unfold insB at f1
      simp only [Bool.and_eq_true, decide_eq_true_eq] at f1
      obtain ⟨g1, g2, g3, g4⟩ := f1
      have C := k.cd e
      have eu : p.cup.getD c [] = u := by rw [List.getD_eq_getElem?_getD, hu]; rfl
      rw [k.cA e, h3]
      refine ⟨⟨C.cls, He.eqO_ok g1, He.eqO_ok g2, g3, g4⟩, fun D d' hD => ?_⟩
      have q := PySem.mem_of_lookup hD
      obtain ⟨r, h6, h7⟩ := List.mem_map.mp q
      obtain ⟨i, h8, h9⟩ := numbered_get h6
      rw [Nat.zero_add] at h8
      rw [← h8] at h9
      cases h7
      have z := of_decide_eq_true (f2 r.1 (List.mem_of_getElem? h9))
      rw [k.cA h9, z, eu]
    · cases f
  xc := fun c q hq => by
    have hq : (p.xcs.map fun q => (q.name, q.ups))[c]? = some q := hq
    rw [List.getElem?_map, Option.map_eq_some_iff] at hq
    obtain ⟨x, hx, rfl⟩ := hq
    have hmem := List.mem_of_getElem? hx
    have hne : p.xcs ≠ [] := fun z => by rw [z] at hmem; cases hmem
    obtain ⟨v1, v2⟩ := k.xcs hne
    obtain ⟨d, d1, d2, d3⟩ := k.ok.xI hne
    have hd := List.mem_of_getElem? d1
    have b := v2 x hmem
    unfold xcB at b
    simp only [Bool.and_eq_true, decide_eq_true_eq, List.all_eq_true] at b
    obtain ⟨b1, b2, b3, b4, b5, b6, b7, b8⟩ := b
    have eA : (p.n k.ok.att K p.atF w).xA c = He.ga K x.name := by
      show He.ga K _ = _
      rw [hx]; rfl
    obtain ⟨fd, F⟩ := k.fn d hd
    have hs := scC_ok (List.all_eq_true.mp k.ok.sc d hd)
    have hm : mg "ValueError" = none := PySem.W.mg_none_of k.kin k.ns (He.eqO_ok (k.parts.2.2.2 _ (by decide +kernel)))
    have nx : ∀ (t : Str) (c' : Nat), xix p.tb t = some c' → ∃ y, y ∈ p.xcs ∧ y.name = t ∧ (p.n k.ok.att K p.atF w).xA c' = He.ga K t := fun t c' h => by
      obtain ⟨q', e1, e2⟩ := xix_get h
      have e1 : (p.xcs.map fun q => (q.name, q.ups))[c']? = some q' := e1
      rw [List.getElem?_map, Option.map_eq_some_iff] at e1
      obtain ⟨y, hy, rfl⟩ := e1
      refine ⟨y, List.mem_of_getElem? hy, e2, ?_⟩
      show He.ga K _ = _
      rw [hy]
      exact congrArg (He.ga K) e2
    subst h1 h2 h3 h4 h5
    rw [eA]
    refine ⟨⟨k.glo b1, oexB_ok b2, isB_ok b3, He.eqO_ok b4, fnA p X.K p.xini, fd, d.ps, He.eqO_ok b5, b6, F.bindsN (k.ok.bind d hd), ?_⟩, fun t ht => ?_, fun t c' h => ?_⟩
    · rw [k.at_ d1]
      exact ini_ok F hs d2 hm v1
    · unfold clsVal
      cases e : xix p.tb t with
      | some c' =>
        obtain ⟨y, y1, y2, y3⟩ := nx t c' e
        simp only
        rw [y3, ← y2]
        exact (b8 y y1).1
      | none =>
        unfold okT at ht
        rw [e] at ht
        simp only [Option.isSome_none, Bool.or_false, decide_eq_true_eq] at ht
        subst ht
        exact b7
    · obtain ⟨y, y1, y2, y3⟩ := nx t c' h
      rw [y3, ← y2]
      exact (b8 y y1).2
/-- EVERY DEF, by the depth of its calls -/
theorem Kn.all (k : Kn p K mg h) {base : Heap} (TB : TabsB p K mg base) : ∀ j, AllFn p prog w K mg base (p.n k.ok.att K p.atF w) j
  | 0 => fun f d e fd F => by
    refine ⟨F.bindsN (k.ok.bind d (List.mem_of_getElem? e)), ⟨fun vs H Q E ⟨ι, hp, ws, R, V, A⟩ => A.elim, fun A outer s H args us vs Q E hr he hb hv ⟨ι, hp, ws, R, V, A'⟩ => A'.elim⟩⟩
  | j + 1 => fun f d e fd F => by
    have IH := k.all TB j
    have hd := List.mem_of_getElem? e
    have hs := scC_ok (List.all_eq_true.mp k.ok.sc d hd)
    have hD : p.D f = some (d.df p.tb) := by unfold Pg.D; rw [e]; rfl
    have run : ∀ ws hp, (p.W p.D (j + 1)).run f ws hp = if ws.length = d.ps.length then
        (bodyEnd (exs (p.W p.D j) (d.df p.tb).body (SL.start d.N.length ws) hp)).bind fun w h1 => ended d.md hp.length hp w h1 else .bad := fun ws hp => by
      show callD p.D p.glo p.cls p.fld p.turns (j + 1) f ws hp = _
      rw [callD, hD]
      rfl
    refine ⟨F.bindsN (k.ok.bind d hd), ?_⟩
    have key : FnOk prog w K mg base (L2.CX prog w) (2 * j + 3 + 1) (He.fAd K d.at_) fd d.ps (spW (p.n k.ok.att K p.atF w) (p.W p.D (j + 1)) f) := by
      refine fund_ok F hs (fun vs H Q E ⟨ι, hp, ws, R, V, A⟩ => ?_) (fun cdv A outer s H vs Q E hcdv hr ⟨ι, hp, ws, R, V, A'⟩ => ?_)
      · rw [run] at A
        split at A
        · rename_i hl
          rw [V.length, hl]
        · exact A.elim
      · rw [run] at A'
        split at A'
        · have A2 := Af.ended R A'
          have tk : Takes (cxOf (L2.CX prog w) prog w K mg base d.N d.qual d.scope (He.fAd K d.at_) cdv A outer s H E) (fun cls dd _ H => E cls dd H) := takes_of rfl rfl rfl rfl
          have po : PassesOwn (model prog w) (cxOf (L2.CX prog w) prog w K mg base d.N d.qual d.scope (He.fAd K d.at_) cdv A outer s H E).A (cxOf (L2.CX prog w) prog w K mg base d.N d.qual d.scope (He.fAd K d.at_) cdv A outer s H E).env (cxOf (L2.CX prog w) prog w K mg base d.N d.qual d.scope (He.fAd K d.at_) cdv A outer s H E).xe := passes_of rfl
          have g := k.good (X := cxOf (L2.CX prog w) prog w K mg base d.N d.qual d.scope (He.fAd K d.at_) cdv A outer s H E) (s := ⟨d.N, d.scope, fun _ => true, d.tab⟩) IH rfl rfl rfl rfl rfl rfl hs.kind rfl rfl hs.nd (fun x _ => .inl rfl) hr tk (fun t ht => by
            have z := List.all_eq_true.mp k.ok.tb d hd
            have ht : d.tab = some t := ht
            rw [ht] at z
            have z := of_decide_eq_true z
            refine ⟨⟨He.codeOf K d.at_, ?_, hcdv⟩, ?_⟩
            · have y := TB _ (List.mem_of_getElem? z)
              show LamX.TabB base mg (He.codeOf K d.at_) (He.cT K ((p.tfs[t]?.map (·.1)).getD (Str.empty, none))).2
              rw [z]
              exact y
            · show (d.qual ++ ".<locals>.") ++ "<lambda>" = (((p.tfs[t]?.map (·.2)).getD Str.empty) ++ ".<locals>.") ++ "<lambda>"
              rw [z]
              rfl)
          refine ⟨_, block_ok (fun _ _ => rfl) (erS_ok g (fun _ _ => rfl) po rfl rfl 40 40) d.body, ι, _, hp, (start_sr (N := d.N) V d.N.length rfl).sr R, ?_⟩
          unfold bodyEnd at A2
          refine (Af.bind (Rel := FR (p.n k.ok.att K p.atF w)) A2).mono ?_
          rintro b H1 ⟨ι1, hp1, a, F1, R1, V1, A1⟩
          cases b <;> cases a <;> first | exact V1.elim | exact A1.elim | skip
          · exact Af.here (b := L2.V.non) A1 R1 .non
          · rename_i v u
            exact Af.here (b := v) A1 R1 V1
        · exact A'.elim
    exact key
end
end SL

set_option maxRecDepth 100000
set_option maxHeartbeats 1000000
/-! The law's call. -/
namespace SL
open PySem L2 PyProof.Rows
set_option autoImplicit false
theorem drop_exc {P : Program} {w : World} {K : PySem.W.Frag} {mg : Str → Option Value} {base : Heap} {k : Nat} {f : Addr} {fd : FuncData} {ps : List Str} {sp : Sp} (F : FnOk P w K mg base (L2.CX P w) k f fd ps sp) :
    FnOk P w K mg base CX0 k f fd ps (fun vs H Q _ => sp vs H Q fun _ _ _ => False) := ⟨fun vs H Q E q => F.len _ _ _ _ q, fun A outer s H args us vs Q E hr he hb hv hs => codeAny_mono (F.run A outer s H args us vs Q _ hr he hb hv hs) fun out s' hq => by
  match out, hq with
  | .error e, ⟨a, B, H', cls, d, _, _, _, _, _, _, _, z⟩ => exact z.elim
  | .ok (.ret u), hq => exact hq
  | .ok .next, hq => exact hq
  | .ok .brk, hq => exact hq
  | .ok .cont, hq => exact hq⟩
/-- what the heap behind the top tells -/
abbrev AlS : Type := He.AlD × Bool
/-- those not met yet; sn tells those met, bit by bit -/
def newAs : List Addr → Nat → List Addr → Nat × List Addr
  | [], sn, acc => (sn, acc)
  | a :: as, sn, acc => match Nat.beq (Nat.land (Nat.shiftRight sn a) 1) 1 with
    | true => newAs as sn acc
    | false => newAs as (Nat.lor sn (Nat.shiftLeft 1 a)) (a :: acc)
def asQ (g : Addr → Option Obj) : Nat → List Addr → Nat → List Addr → List Addr
  | 0, _, _, all => all
  | n + 1, fr, sn, all => match newAs (fr.flatMap fun a => match g a with
      | some o => He.refsD o
      | none => []) sn [] with
    | (sn', nw) => asQ g n nw sn' (all ++ nw)
def frS (nn : Nat) (g : Addr → Option Obj) : PySem.W.Frag := He.frT g (asQ g nn [mainGlobals] (Nat.shiftLeft 1 mainGlobals) [mainGlobals] ++ [cStatics])
/-- the tables: empty, none twice -/
def tabB (p : Pg) (g : Addr → Option Obj) (K : PySem.W.Frag) : Bool := He.tabsB g (p.tfs.map (·.1)) K && decide ((p.tfs.map fun q => (He.cT K q.1).2).Nodup)
def obsS (nn : Nat) (p : Pg) (g : Addr → Option Obj) : AlS := (He.obsD [] (p.dds.map DD.d) (frS nn g), p.facts (frS nn g) && tabB p g (frS nn g))
/-- what the heap behind the top tells -/
structure SaysS (p : Pg) (h : Heap) (K : PySem.W.Frag) : Prop where
  d : He.SaysD [] (p.dds.map DD.d) K
  facts : p.facts K = true
  hd : ∀ q ∈ p.tfs, PySem.W.codeHdIn K (He.cT K q.1).1 (He.cT K q.1).2 = true
  out : ∀ q ∈ p.tfs, K.lookup (He.cT K q.1).2 = none
  empty : ∀ q ∈ p.tfs, h.get? (He.cT K q.1).2 = some { cls := .none, data := .fields #[] }
  nd : (p.tfs.map fun q => (He.cT K q.1).2).Nodup
theorem saysS_of {nn : Nat} {p : Pg} {h : Heap} (e : obsS nn p h.get? = (He.valD (p.dds.map DD.d), true)) : SaysS p h (frS nn h.get?) := by
  have e1 : He.obsD [] (p.dds.map DD.d) (frS nn h.get?) = He.valD (p.dds.map DD.d) := congrArg (fun z : AlS => z.1) e
  have e2 : (p.facts (frS nn h.get?) && tabB p h.get? (frS nn h.get?)) = true := congrArg (fun z : AlS => z.2) e
  rw [Bool.and_eq_true] at e2
  obtain ⟨h1, h2⟩ := e2
  unfold tabB He.tabsB at h2
  rw [Bool.and_eq_true, List.all_eq_true, decide_eq_true_eq] at h2
  obtain ⟨h2, h5⟩ := h2
  have key : ∀ q ∈ p.tfs, PySem.W.codeHdIn (frS nn h.get?) (He.cT (frS nn h.get?) q.1).1 (He.cT (frS nn h.get?) q.1).2 = true ∧ ∃ o, h.get? (He.cT (frS nn h.get?) q.1).2 = some o ∧ He.emptyTab o = true := fun q hq => by
    have h3 := h2 q.1 (List.mem_map.mpr ⟨q, hq, rfl⟩)
    rw [Bool.and_eq_true] at h3
    refine ⟨h3.1, ?_⟩
    have h4 := h3.2
    cases z : h.get? (He.cT (frS nn h.get?) q.1).2 with
    | none => rw [z] at h4; cases h4
    | some o => rw [z] at h4; exact ⟨o, rfl, h4⟩
  exact ⟨e1, h1, fun q hq => (key q hq).1, fun q hq => by
    obtain ⟨_, o, z, y⟩ := key q hq
    exact He.frT_none z y, fun q hq => by
    obtain ⟨_, o, z, y⟩ := key q hq
    rw [z, He.emptyTab_eq y], h5⟩
def hookS (nn : Nat) (p : Pg) : PySem.W.Hook where
  α := AlS
  obs := fun s => obsS nn p s.heap.get?
  val := fun _ => (He.valD (p.dds.map DD.d), true)
  says := fun _ h => ∃ K : PySem.W.Frag, K.In h ∧ SaysS p h K
  of := fun _ _ e => ⟨_, He.frT_in, saysS_of e⟩
  keeps := fun _ _ _ ⟨K, hK, c⟩ k => ⟨K, PySem.W.Frag.In.keeps hK k, ⟨c.d, c.facts, c.hd, c.out, fun q hq => k _ _ (c.empty q hq), c.nd⟩⟩
theorem obsS_eq {nn : Nat} {p : Pg} {g : Addr → Option Obj} {s : Shared} (h : ∀ a, g a = s.heap.get? a) : obsS nn p g = (hookS nn p).obs s := by
  have e : g = s.heap.get? := funext h
  rw [e] <;> rfl
/-- the law's first cells: the tables -/
def Pg.tabs (p : Pg) : Hs := (List.range p.tfs.length).map Ob.tab
theorem walk_law {l : PySem.W.OpenLaw} {q : Program} {loose : List Str} {XP : (Str → Option Value) → Heap → Prop} {d : DefRec} (p : Pg) (ok : p.Ok) (nn fL : Nat) (dL : DD) (j : Nat) {x : Str} (hdL : p.dds[fL]? = some dL) (hat : dL.at_ = (d.name, none)) (hps : dL.ps = [x])
    (hn : l.most = some 63) (hdf : d.params.defaults = []) (hr : Room (2 * j + 2) callerA)
    (plain : ∀ ns : List Int, ns.length ≤ 63 → ∃ h', callD p.D p.glo p.cls p.fld p.turns j fL [.lst (ns.map Wv.int)] p.tabs = .ok (.bl true) h') :
    PySem.W.WalkO q loose XP (hookS nn p).says l.row.toRowW d [] (fun f vs => PySem.call f vs) := by
  refine LamX.walk_ofTsE (l := l) (n := 63) (k := 2 * j + 2) (x := x) (CX := fun _ => L2.CX0) hn (by decide) hdf hr ?_ (fun _ _ _ _ _ z => z)
  intro w mg fa h Y G hmg
  obtain ⟨K, KX, c⟩ := Y
  have k : Kn p K mg h := ⟨ok, KX, G, c.facts, fun d hd => He.SaysD.defs (d := d.d) c.d (List.mem_map.mpr ⟨d, hd, rfl⟩)⟩
  have hd := List.mem_of_getElem? hdL
  obtain ⟨fd, F⟩ := k.fn dL hd
  have ea : He.fAd K dL.at_ = fa := by
    have e1 := k.glo (k.parts.1 dL hd (by rw [hat]))
    rw [hat] at e1 ⊢
    have e2 : mg d.name = some (.ref (He.ga K d.name)) := e1
    rw [hmg] at e2
    show He.ga K d.name = fa
    cases e2
    rfl
  refine ⟨K, KX, fd, p.tfs.map fun q => He.cT K q.1, (fun vs H Q _ => spW (p.n k.ok.att K p.atF w) (p.W p.D j) fL vs H Q fun _ _ _ => False), fun q hq => ?_, fun q hq => ?_, fun q hq => ?_, fun s u => ?_, ?_, fun base hb hG TB => ?_⟩
  · obtain ⟨r, hr, rfl⟩ := List.mem_map.mp hq
    exact c.empty r hr
  · obtain ⟨r, hr, rfl⟩ := List.mem_map.mp hq
    exact c.out r hr
  · obtain ⟨r, hr, rfl⟩ := List.mem_map.mp hq
    exact PySem.W.codeHd_of_K KX (c.hd r hr)
  · have := FunD.bindsA F (ps := [x]) (hps ▸ k.ok.bind dL hd) s [u] rfl
    exact this
  · intro H a ns hl hbits hT hS
    obtain ⟨h', e⟩ := plain ns hl
    have hA : ∀ b ∈ p.tfs.map (fun q => (He.cT K q.1).2), H b = some (.tbl #[]) := fun b hb => by
      obtain ⟨r, hr, rfl⟩ := List.mem_map.mp hb
      exact hT _ (List.mem_map.mpr ⟨r, hr, rfl⟩)
    refine ⟨p.tfs.map fun q => (He.cT K q.1).2, p.tabs, [.lst (ns.map Wv.int)], ⟨by simp [Pg.tabs], c.nd, fun i b o e1 e2 => ?_⟩, .cons (.lst (hS.imp (fun z => ⟨z, fun hm => ?_⟩) fun z => z) ?_) .nil, ?_⟩
    · refine ⟨.tbl #[], hA b (List.mem_of_getElem? e1), ?_⟩
      have hi : i < p.tfs.length := by
        have := (List.getElem?_eq_some_iff.mp e1).1
        simpa using this
      have eo : o = .tab i := by
        unfold Pg.tabs at e2
        rw [List.getElem?_map, List.getElem?_range hi] at e2
        cases e2
        rfl
      subst eo
      refine .tab ?_ True.intro fun pos cv hc => ?_
      · rw [List.getElem?_map, List.getElem?_eq_getElem hi] at e1
        show b = (He.cT K ((p.tfs[i]?.map (·.1)).getD (Str.empty, none))).2
        rw [List.getElem?_eq_getElem hi]
        exact (Option.some.inj e1).symm
      · have z : codeAmong pos [] = some cv := hc
        simp [codeAmong] at z
    · have y := hA a hm
      rcases z with z | ⟨_, z⟩ <;> (rw [y] at z; cases z)
    · clear hl hbits e hS
      induction ns with
      | nil => exact .nil
      | cons i is ih => exact .cons (.int i) ih
    · show Af _ _ _ _ (callD p.D p.glo p.cls p.fld p.turns j fL _ _) _ _
      rw [e]
      intro b ι' H' F R V
      cases V
      rfl
  · have o := (k.all (prog := l.prog) (w := w) (base := base) (fun q hq => TB _ (List.mem_map.mpr ⟨q, hq, rfl⟩)) j fL dL hdL fd F).2
    rw [ea, hps] at o
    exact drop_exc o
end SL

set_option maxRecDepth 100000
set_option maxHeartbeats 1000000
/-! Plain words over the evaluator. -/
namespace SL
open PySem
set_option autoImplicit false
section
variable {D : Nat → Option Df} {glo : Nat → Option Wv} {cls : Nat → Option Cl} {fld : Nat → Nat → Bool} {turns : Nat}
theorem run_end {j f : Nat} {ws : List Wv} {h : Hs} {d : Df} (hD : D f = some d) (hl : ws.length = d.np) : callD D glo cls fld turns (j + 1) f ws h =
    (bodyEnd (exs ⟨glo, cls, fld, callD D glo cls fld turns j, turns⟩ d.body (start d.ns ws) h)).bind fun w h1 => ended d.md h.length h w h1 := by
  rw [callD, hD]
  simp only [hl, if_true]
theorem bind_self {α : Type} (r : Rz α) : (r.bind fun w h1 => .ok w h1) = r := by cases r <;> rfl
theorem run_open {j f : Nat} {ws : List Wv} {h : Hs} {d : Df} (hD : D f = some d) (hl : ws.length = d.np) (hm : d.md = .open) : callD D glo cls fld turns (j + 1) f ws h =
    bodyEnd (exs ⟨glo, cls, fld, callD D glo cls fld turns j, turns⟩ d.body (start d.ns ws) h) := by
  rw [run_end hD hl, hm]
  exact bind_self _
end
theorem shut_of {lo : Nat} : ∀ {a b : Hs}, (∀ (i : Nat) (o : Ob), a[i]? = some o → b[i]? = some o ∨ o.under lo = true) → shut lo a b = true
  | [], _, _ => by simp [shut]
  | o :: os, [], h => by
    simp only [shut, Bool.and_eq_true]
    refine ⟨?_, shut_of fun i p e => ?_⟩
    · rcases h 0 o rfl with q | q
      · simp at q
      · exact q
    · exact (h (i + 1) p (by simpa using e)).imp (fun q => by simp at q) fun q => q
  | o :: os, p :: ps, h => by
    simp only [shut, Bool.and_eq_true, Bool.or_eq_true, decide_eq_true_eq]
    refine ⟨?_, shut_of fun i q e => ?_⟩
    · rcases h 0 o rfl with q | q
      · simp at q; exact .inl q.symm
      · exact .inr q
    · exact (h (i + 1) q (by simpa using e)).imp (fun q => by simpa using q) fun q => q
theorem shut_refl (lo : Nat) (h : Hs) : shut lo h h = true := shut_of fun i o e => .inl e
theorem shut_set {lo k : Nat} {h : Hs} {o : Ob} (hu : o.under lo = true) : shut lo (h.set k o) h = true := shut_of fun i p e => by
  by_cases q : k = i
  · subst q
    by_cases hl : k < h.length
    · rw [List.getElem?_set_self hl] at e; cases e; exact .inr hu
    · rw [List.getElem?_eq_none (by rw [List.length_set]; omega)] at e; cases e
  · rw [List.getElem?_set_ne q] at e; exact .inl e
mutual
/-- no cells, nothing but plain data -/
def Wv.pure : Wv → Bool
  | .non => true
  | .bl _ => true
  | .int _ => true
  | .str _ => true
  | .tup ws => pures ws
  | .lst ws => pures ws
  | _ => false
def pures : List Wv → Bool
  | [] => true
  | w :: ws => w.pure && pures ws
end
mutual
theorem pure_frz (rec : Nat → Option Wv) : ∀ {w : Wv}, w.pure = true → w.frz rec = some w
  | .non, _ | .bl _, _ | .int _, _ | .str _, _ => by simp [Wv.frz]
  | .tup ws, h => by rw [Wv.frz, pures_frz rec (by simpa [Wv.pure] using h)]; rfl
  | .lst ws, h => by rw [Wv.frz, pures_frz rec (by simpa [Wv.pure] using h)]; rfl
  | .dic _, h | .ins _ _, h | .ref _, h | .fn _, h | .cls _, h => by simp [Wv.pure] at h
theorem pures_frz (rec : Nat → Option Wv) : ∀ {ws : List Wv}, pures ws = true → frzs rec ws = some ws
  | [], _ => rfl
  | w :: ws, h => by
    simp only [pures, Bool.and_eq_true] at h
    rw [frzs, pure_frz rec h.1, pures_frz rec h.2]
end
mutual
theorem pure_under (lo : Nat) : ∀ {w : Wv}, w.pure = true → w.under lo = true
  | .non, _ | .bl _, _ | .int _, _ | .str _, _ => by simp [Wv.under]
  | .tup ws, h => by rw [Wv.under]; exact pures_under lo (by simpa [Wv.pure] using h)
  | .lst ws, h => by rw [Wv.under]; exact pures_under lo (by simpa [Wv.pure] using h)
  | .dic _, h | .ins _ _, h | .ref _, h | .fn _, h | .cls _, h => by simp [Wv.pure] at h
theorem pures_under (lo : Nat) : ∀ {ws : List Wv}, pures ws = true → unders lo ws = true
  | [], _ => rfl
  | w :: ws, h => by
    simp only [pures, Bool.and_eq_true] at h
    rw [unders, pure_under lo h.1, pures_under lo h.2]; rfl
end
theorem pures_of {ws : List Wv} (h : ∀ w ∈ ws, w.pure = true) : pures ws = true := by
  induction ws with
  | nil => rfl
  | cons w ws ih => rw [pures, h w List.mem_cons_self, ih fun x hx => h x (List.mem_cons_of_mem _ hx)]; rfl
theorem pures_mem {ws : List Wv} (h : pures ws = true) : ∀ w ∈ ws, w.pure = true := by
  induction ws with
  | nil => intro w hw; cases hw
  | cons a ws ih =>
    simp only [pures, Bool.and_eq_true] at h
    intro w hw
    rcases List.mem_cons.mp hw with rfl | hw
    · exact h.1
    · exact ih h.2 w hw
mutual
theorem pure_datum : ∀ {w : Wv}, w.pure = true → ∃ d, w.toD = some d
  | .non, _ | .bl _, _ | .int _, _ | .str _, _ => by simp [Wv.toD]
  | .tup ws, h => by
    obtain ⟨d, e⟩ := pures_datum (ws := ws) (by simpa [Wv.pure] using h)
    exact ⟨.tuple d, by rw [Wv.toD, e]; rfl⟩
  | .lst ws, h => by
    obtain ⟨d, e⟩ := pures_datum (ws := ws) (by simpa [Wv.pure] using h)
    exact ⟨.list d, by rw [Wv.toD, e]; rfl⟩
  | .dic _, h | .ins _ _, h | .ref _, h | .fn _, h | .cls _, h => by simp [Wv.pure] at h
theorem pures_datum : ∀ {ws : List Wv}, pures ws = true → ∃ d, toDs ws = some d
  | [], _ => ⟨[], rfl⟩
  | w :: ws, h => by
    simp only [pures, Bool.and_eq_true] at h
    obtain ⟨d, e⟩ := pure_datum h.1
    obtain ⟨ds, es⟩ := pures_datum h.2
    exact ⟨d :: ds, by rw [toDs, e, es]⟩
end
/-- a def's end where nothing but the told value leaves, the old cells as they are -/
theorem end_cold {h h' : Hs} {w : Wv} (hw : w.pure = true) (hl : h.length ≤ h'.length) (hs : shut h.length (h'.take h.length) h = true) : ended .cold h.length h w h' = .ok w (h'.take h.length) := by
  unfold ended
  simp only [frzW, pure_frz _ hw, hl, hs, and_self, if_true]
theorem end_fresh {h h' : Hs} {ws us : List Wv} {k : Nat} (hk : h.length ≤ k) (e : h'[k]? = some (.lst ws)) (hf : frzs (frzC h' (fun j => decide (j < h.length) || decide (j = k)) deepest) ws = some us) (hs : shut h.length (h'.take h.length) h = true) :
    ended .fresh h.length h (.ref k) h' = .ok (.ref h.length) (h'.take h.length ++ [.lst us]) := by
  have hl : h.length ≤ h'.length := by
    have := (List.getElem?_eq_some_iff.mp e).1
    omega
  unfold ended
  simp only [show ¬ k < h.length by omega, if_false, e, hf, hl, hs, and_self, if_true]
end SL

set_option maxRecDepth 100000
set_option maxHeartbeats 2000000
/-! Plain words that no program is in. -/
namespace SL
open PySem
set_option autoImplicit false
theorem tst_cmp (P : Wd) (c : Cm) (a b : Ex) (e : Ev) (h : Hs) : tst P (.cmp c a b) e h = (ev P (.cmp c a b) e h).bind fun w h1 => Rz.of (truth h1 w) h1 := tst_plain rfl e h
theorem tst_chn (P : Wd) (c c' : Cm) (a b d : Ex) (e : Ev) (h : Hs) : tst P (.chn c c' a b d) e h = (ev P (.chn c c' a b d) e h).bind fun w h1 => Rz.of (truth h1 w) h1 := tst_plain rfl e h
theorem tst_isi (P : Wd) (a : Ex) (t : List Ty) (e : Ev) (h : Hs) : tst P (.isi a t) e h = (ev P (.isi a t) e h).bind fun w h1 => Rz.of (truth h1 w) h1 := tst_plain rfl e h
theorem tst_call (P : Wd) (f : Nat) (es : List Ex) (e : Ev) (h : Hs) : tst P (.call f es) e h = (ev P (.call f es) e h).bind fun w h1 => Rz.of (truth h1 w) h1 := tst_plain rfl e h
theorem tst_meth (P : Wd) (a : Ex) (m : Nat) (es : List Ex) (e : Ev) (h : Hs) : tst P (.meth a m es) e h = (ev P (.meth a m es) e h).bind fun w h1 => Rz.of (truth h1 w) h1 := tst_plain rfl e h
theorem tst_blt (P : Wd) (b : Bf) (es : List Ex) (e : Ev) (h : Hs) : tst P (.blt b es) e h = (ev P (.blt b es) e h).bind fun w h1 => Rz.of (truth h1 w) h1 := tst_plain rfl e h
theorem tst_var (P : Wd) (i : Nat) (e : Ev) (h : Hs) : tst P (.var i) e h = (ev P (.var i) e h).bind fun w h1 => Rz.of (truth h1 w) h1 := tst_plain rfl e h
theorem tst_not (P : Wd) (a : Ex) (e : Ev) (h : Hs) : tst P (.not a) e h = (tst P a e h).bind fun b h1 => .ok (!b) h1 := by rw [tst]
theorem tst_and (P : Wd) (a b : Ex) (e : Ev) (h : Hs) : tst P (.and a b) e h = (tst P a e h).bind fun t h1 => if t = true then tst P b e h1 else .ok false h1 := by rw [tst]
theorem tst_or (P : Wd) (a b : Ex) (e : Ev) (h : Hs) : tst P (.or a b) e h = (tst P a e h).bind fun t h1 => if t = true then .ok true h1 else tst P b e h1 := by rw [tst]
theorem badd (i j : Int) (h : Hs) : binop .add (.int i) (.int j) h = .ok (.int (i + j)) h := rfl
theorem bsub (i j : Int) (h : Hs) : binop .sub (.int i) (.int j) h = .ok (.int (i - j)) h := rfl
theorem bmod {i j : Int} (h : Hs) (hj : 0 < j) : binop .mod (.int i) (.int j) h = .ok (.int (i % j)) h := by simp only [binop, hj, if_true]
theorem bdiv {i j : Int} (h : Hs) (hj : 0 < j) (hj2 : j < 2 ^ 60) : binop .fdiv (.int i) (.int j) h = .ok (.int (i / j)) h := by
  have : L2.CDivW i j := ⟨hj, Nat.lt_of_lt_of_le (PySem.Flt.log2_lt_of (by decide) (show j.natAbs < 2 ^ 60 by omega)) (by decide)⟩
  simp only [binop, this, if_true]
theorem bmul_l {i j : Int} (h : Hs) (h1 : -(2 ^ 64) < i) (h2 : i < 2 ^ 64) : binop .mul (.int i) (.int j) h = .ok (.int (i * j)) h := by
  have : L2.CMul i j := .inl ⟨h1, h2⟩
  simp only [binop, this, true_or, if_true]
theorem bmul_r {i j : Int} (h : Hs) (h1 : -(2 ^ 64) < j) (h2 : j < 2 ^ 64) : binop .mul (.int i) (.int j) h = .ok (.int (i * j)) h := by
  have : L2.CMul i j := .inr ⟨h1, h2⟩
  simp only [binop, this, true_or, if_true]
theorem btup {a b : List Wv} (h : Hs) (hz : a.length + b.length ≤ sizeLine) : binop .add (.tup a) (.tup b) h = .ok (.tup (a ++ b)) h := by simp only [binop, hz, if_true]
theorem pow18 (h : Hs) : binop .pow (.int 10) (.int 18) h = .ok (.int 1000000000000000000) h := by kernel_rfl
theorem pow9 (h : Hs) : binop .pow (.int 10) (.int 9) h = .ok (.int 1000000000) h := by kernel_rfl
theorem get_set {h : Hs} {k : Nat} {o p : Ob} (e : h[k]? = some o) : (h.set k p)[k]? = some p := List.getElem?_set_self (List.getElem?_eq_some_iff.mp e).1
/-- neither a cell nor anything strange -/
def Wv.pl : Wv → Bool
  | .non => true
  | .bl _ => true
  | .int _ => true
  | .str _ => true
  | .tup _ => true
  | .lst _ => true
  | _ => false
def isI : Wv → Bool
  | .int _ => true
  | _ => false
def btw (w : Wv) (lo hi : Int) : Bool := match w with
  | .int i => decide (lo ≤ i) && decide (i ≤ hi)
  | _ => false
def lc1 (a c : Int) : Int := (a + 7919 * c + 1) * 48271 % 2147483647
def lc2 (a c : Int) : Int := lc1 a c * (lc1 a c / 1009 + 69621) % 2147483647
def lc3 (a c : Int) : Int := lc2 a c * (lc2 a c / 2003 + 40692) % 2147483399
def lcg (a c : Int) : Int := lc3 a c * 48271 + lc3 a c / 7
theorem line1000 : 1000 < sizeLine := by decide
theorem exs_nx {P : Wd} {s : Sm} {ss : List Sm} {e e1 : Ev} {h h1 : Hs} (q : ex P s e h = .ok (.nx e1) h1) : exs P (s :: ss) e h = exs P ss e1 h1 := by
  rw [exs, q]; rfl
theorem exs_ret {P : Wd} {s : Sm} {ss : List Sm} {e : Ev} {w : Wv} {h h1 : Hs} (q : ex P s e h = .ok (.ret w) h1) : exs P (s :: ss) e h = .ok (.ret w) h1 := by
  rw [exs, q]; rfl
theorem forL_nx {body : Ev → Hs → Rz Fl} {tg : Tg} {ck : Ck} {w : Wv} {ws : List Wv} {e e1 e2 : Ev} {h h2 : Hs} (s : stay h ck = true) (b : tg.bind w e = some e1) (r : body e1 h = .ok (.nx e2) h2) : forL body tg ck (w :: ws) e h = forL body tg ck ws e2 h2 := by
  rw [forL, if_pos s, b]
  simp only [r, Rz.bind_ok]
theorem compL_so {turn : Wv → Hs → Rz (Option Wv)} {ck : Ck} {k : Nat} {w v : Wv} {ws acc : List Wv} {h h' : Hs} (s : stay h ck = true) (r : turn w h = .ok (some v) h') (e : h'[k]? = some (.lst acc)) (hz : acc.length < sizeLine) :
    compL turn ck k (w :: ws) h = compL turn ck k ws (h'.set k (.lst (acc ++ [v]))) := by
  rw [compL, if_pos s, r]
  simp only [Rz.quiet, Rz.bind_ok, e, hz, if_true]
theorem compL_nil {turn : Wv → Hs → Rz (Option Wv)} {ck : Ck} {k : Nat} {h : Hs} (s : stay h ck = true) : compL turn ck k [] h = .ok (.ref k) h := by rw [compL, if_pos s]
/-- sizes that may be -/
structure SzOk (sz : List Int) : Prop where
  one : ∀ s ∈ sz, 1 ≤ s ∧ s ≤ 9
def prd : List Int → Int
  | [] => 1
  | s :: r => s * prd r
theorem prd_append (a b : List Int) : prd (a ++ b) = prd a * prd b := by
  induction a with
  | nil => simp [prd]
  | cons x xs ih => simp [prd, ih, Int.mul_assoc]
theorem prd_pos {sz : List Int} (h : SzOk sz) : 1 ≤ prd sz := by
  induction sz with
  | nil => decide
  | cons x xs ih =>
    have h1 := (h.one x List.mem_cons_self).1
    have h2 := ih ⟨fun s hs => h.one s (List.mem_cons_of_mem _ hs)⟩
    show 1 ≤ x * prd xs
    calc (1 : Int) = 1 * 1 := rfl
      _ ≤ x * prd xs := Int.mul_le_mul h1 h2 (by decide) (by omega)
theorem take_app (h : Hs) (t : Hs) : (h ++ t).take h.length = h := by simp
theorem datum_pure {h : Hs} {w : Wv} (hw : w.pure = true) : datum h w = w.toD := by
  unfold datum frzW
  rw [pure_frz _ hw]; rfl
def eqP (a b : Wv) : Option Bool := match a.toD, b.toD with
  | some d, some e => if (shal d || shal e) = true then some (PyData.eqv d e) else none
  | _, _ => none
theorem eqTup (h : Hs) {a b : List Wv} (ha : pures a = true) (hb : pures b = true) : eqVal h (.tup a) (.tup b) = eqP (.tup a) (.tup b) := by
  show (match datum h (.tup a), datum h (.tup b) with
    | some d, some e => if (shal d || shal e) = true then some (PyData.eqv d e) else none
    | _, _ => none) = _
  rw [datum_pure (by simpa [Wv.pure] using ha), datum_pure (by simpa [Wv.pure] using hb)]
  rfl
theorem eq_str (h : Hs) (a b : Str) : eqVal h (.str a) (.str b) = some (decide (a = b)) := rfl
theorem eq_int (h : Hs) (a b : Int) : eqVal h (.int a) (.int b) = some (decide (a = b)) := rfl
theorem ne_mf : (Str.ofString "mirror" = Str.ofString "fixed") = False := by simp only [eq_iff_iff, iff_false]; decide +kernel
theorem ne_rf : (Str.ofString "round" = Str.ofString "fixed") = False := by simp only [eq_iff_iff, iff_false]; decide +kernel
theorem ne_rm : (Str.ofString "round" = Str.ofString "mirror") = False := by simp only [eq_iff_iff, iff_false]; decide +kernel
theorem ne_fm : (Str.ofString "fixed" = Str.ofString "mirror") = False := by simp only [eq_iff_iff, iff_false]; decide +kernel
theorem ne_fr : (Str.ofString "fixed" = Str.ofString "round") = False := by simp only [eq_iff_iff, iff_false]; decide +kernel
theorem eq_mm (h : Hs) : eqVal h (.tup [.str (Str.ofString "mirror")]) (.tup [.str (Str.ofString "mirror")]) = some true := by
  rw [eqTup h rfl rfl]; decide +kernel
theorem eq_rm (h : Hs) : eqVal h (.tup [.str (Str.ofString "round")]) (.tup [.str (Str.ofString "mirror")]) = some false := by
  rw [eqTup h rfl rfl]; decide +kernel
theorem eq_rr (h : Hs) : eqVal h (.tup [.str (Str.ofString "round")]) (.tup [.str (Str.ofString "round")]) = some true := by
  rw [eqTup h rfl rfl]; decide +kernel
inductive Rimm : Wv → Prop
  | mirror : Rimm (.tup [.str (Str.ofString "mirror")])
  | round : Rimm (.tup [.str (Str.ofString "round")])
  | fixed (n : Int) (h0 : 0 ≤ n) (h1 : n ≤ 1000000000) : Rimm (.tup [.str (Str.ofString "fixed"), .int n])
theorem Rimm.pure {r : Wv} (h : Rimm r) : r.pure = true := by cases h <;> rfl
/-- what a rim becomes -/
def edge (s : Int) : Wv → Wv
  | .tup [_, .int n] => .ins 2 [(2, .int s), (3, .int n)]
  | .tup [.str x] => if x = Str.ofString "mirror" then .ins 1 [(2, .int s)] else .ins 0 [(2, .int s)]
  | _ => .non
theorem set_last (h : Hs) (o p : Ob) : (h ++ [o]).set h.length p = h ++ [p] := by
  rw [List.set_append_right _ _ (Nat.le_refl _), Nat.sub_self]; rfl
theorem get_last (h : Hs) (o : Ob) : (h ++ [o])[h.length]? = some o := by
  rw [List.getElem?_append_right (Nat.le_refl _), Nat.sub_self]; rfl
/-- a cold instance, its fields plain -/
theorem make_cold {P : Wd} {c f : Nat} {cl : Cl} {xs : List Wv} {h : Hs} {fs : List (Nat × Wv)} (hc : P.cls c = some cl) (hi : cl.init = some f) (hcd : cl.cold = true) (hr : P.run f (.ref h.length :: xs) (h ++ [.ins c []]) = .ok .non (h ++ [.ins c fs]))
    (hp : ∀ rec : Nat → Option Wv, frzf rec fs = some fs) : make P c xs h = .ok (.ins c fs) h := by
  unfold make
  simp only [hc, hi, hr, Rz.bind_ok, hcd, if_true]
  unfold ended
  have e : frzW (h ++ [.ins c fs]) (fun k => decide (k < h.length)) (.ref h.length) = some (.ins c fs) := by
    unfold frzW
    rw [Wv.frz, deepest, frzC]
    simp only [Nat.lt_irrefl, decide_false, Bool.false_eq_true, if_false, get_last, hp]
    rfl
  simp only [e, take_app, shut_refl, List.length_append, and_true, if_true, Nat.le_add_right]
theorem upTo_succ (lo : Int) (m : Nat) : upTo lo (m + 1) = .int lo :: upTo (lo + 1) m := by
  simp only [upTo, List.range_succ_eq_map, List.map_cons, List.map_map]
  congr 1
  · simp
  · apply List.map_congr_left
    intro i _
    simp only [Function.comp]
    congr 1
    omega
theorem ixAt_nat {n i : Nat} (h : i < n) : ixAt n (i : Int) = some i := by
  unfold ixAt
  simp [h]
theorem comp_map {turn : Wv → Hs → Rz (Option Wv)} {ck : Ck} {h : Hs} (f : Wv → Wv) (hs : ∀ acc, stay (h ++ [.lst acc]) ck = true) : ∀ (ws acc : List Wv), (∀ w ∈ ws, ∀ acc', turn w (h ++ [.lst acc']) = .ok (some (f w)) (h ++ [.lst acc'])) → acc.length + ws.length ≤ sizeLine →
    compL turn ck h.length ws (h ++ [.lst acc]) = .ok (.ref h.length) (h ++ [.lst (acc ++ ws.map f)])
  | [], acc, _, _ => by rw [compL_nil (hs acc)]; simp
  | w :: ws, acc, ht, hz => by
    have hl : acc.length < sizeLine := by simp at hz; omega
    rw [compL_so (hs acc) (ht w List.mem_cons_self acc) (get_last _ _) hl, set_last, comp_map f hs ws (acc ++ [f w]) (fun x hx => ht x (List.mem_cons_of_mem _ hx)) (by simp at hz ⊢; omega)]
    simp
theorem prd_drop {sz : List Int} {i : Nat} (h : i < sz.length) : prd (sz.drop i) = sz[i] * prd (sz.drop (i + 1)) := by
  rw [List.drop_eq_getElem_cons h]; rfl
theorem zip2_mem : ∀ {xs ys : List Wv} {w : Wv}, w ∈ zip2 xs ys → ∃ x y, x ∈ xs ∧ y ∈ ys ∧ w = .tup [x, y]
  | [], ys, w, h => by simp [zip2] at h
  | x :: xs, [], w, h => by simp [zip2] at h
  | x :: xs, y :: ys, w, h => by
    rw [zip2] at h
    rcases List.mem_cons.mp h with rfl | h
    · exact ⟨x, y, List.mem_cons_self, List.mem_cons_self, rfl⟩
    · obtain ⟨a, b, h1, h2, h3⟩ := zip2_mem h
      exact ⟨a, b, List.mem_cons_of_mem _ h1, List.mem_cons_of_mem _ h2, h3⟩
theorem frzs_id {rec : Nat → Option Wv} : ∀ {ws : List Wv}, (∀ w ∈ ws, w.frz rec = some w) → frzs rec ws = some ws
  | [], _ => rfl
  | w :: ws, h => by rw [frzs, h w List.mem_cons_self, frzs_id fun x hx => h x (List.mem_cons_of_mem _ hx)]
theorem edge_frz {r : Wv} (h : Rimm r) (s : Int) (rec : Nat → Option Wv) : (edge s r).frz rec = some (edge s r) := by cases h <;> rfl
theorem line4 : 3 < sizeLine := by decide
def okP : List Wv → List Int → Bool
  | w :: ws, s :: ss => btw w 0 (s - 1) && okP ws ss
  | _, _ => true
def isPl (sz : List Int) : Wv → Bool
  | .tup ws => decide (ws.length = sz.length) && okP ws sz
  | _ => false
/-- a thing that the law draws -/
def plT : Wv → Bool
  | .tup ws => ws.all Wv.pl
  | w => w.pl
def bt2 : Wv → Wv
  | .tup [x, .int s] => .bl (btw x 0 (s - 1))
  | _ => .non
theorem all_zip : ∀ (ws : List Wv) (sz : List Int), ∃ bs, boolsOf ((zip2 ws (sz.map Wv.int)).map bt2) = some bs ∧ bs.all id = okP ws sz
  | [], sz => ⟨[], rfl, by simp [okP]⟩
  | w :: ws, [] => ⟨[], rfl, by simp [okP]⟩
  | w :: ws, s :: sz => by
    obtain ⟨bs, h1, h2⟩ := all_zip ws sz
    refine ⟨btw w 0 (s - 1) :: bs, ?_, ?_⟩
    · rw [List.map_cons, zip2, List.map_cons, bt2, boolsOf, h1]; rfl
    · rw [List.all_cons, h2, okP]; rfl
theorem tupTy (h : Hs) (ws : List Wv) : Ty.has h (.tup ws) .tuple = some true := by simp [Ty.has, tyOf, Ty.name]
theorem notTup (h : Hs) {w : Wv} (hw : w.pl = true) (hn : ∀ ws, w ≠ .tup ws) : Ty.has h w .tuple = some false := by
  cases w <;> first | (cases hw; done) | (exact absurd rfl (hn _)) | (simp [Ty.has, tyOf, Ty.name])
theorem cold_end {h : Hs} {w : Wv} (hw : w.pure = true) (t : Hs) : ended .cold h.length h w (h ++ t) = .ok w h := by
  have := end_cold (h := h) (h' := h ++ t) hw (by simp) (by rw [take_app]; exact shut_refl _ _)
  rw [take_app] at this
  exact this
def tp (p : List Int) : Wv := .tup (p.map Wv.int)
def plE (p : List Int) (m : Nat) : List (List Int) := (List.range m).map fun (i : Nat) => p ++ [(i : Int)]
def plF (acc : List (List Int)) (s : Int) : List (List Int) := acc.flatMap fun p => plE p s.toNat
def plc (sz : List Int) : List (List Int) := sz.foldl plF [[]]
def addI (p : List Int) : Wv → Wv
  | .int i => .tup (p.map Wv.int ++ [.int i])
  | _ => .non
theorem addI_upTo (p : List Int) (m : Nat) : (upTo 0 m).map (addI p) = (plE p m).map tp := by
  simp [upTo, plE, addI, tp, Function.comp_def]
theorem small9 {s : Int} (h : 1 ≤ s ∧ s ≤ 9) : small62 s = true := by
  have : s = 1 ∨ s = 2 ∨ s = 3 ∨ s = 4 ∨ s = 5 ∨ s = 6 ∨ s = 7 ∨ s = 8 ∨ s = 9 := by omega
  rcases this with h | h | h | h | h | h | h | h | h <;> rw [h] <;> decide +kernel
theorem line60 : 60 < sizeLine := by decide
theorem pre_set {h g : Hs} {b : Nat} {o : Ob} (hp : h <+: g) (hb : h.length ≤ b) : h <+: g.set b o := by
  obtain ⟨t, rfl⟩ := hp
  exact ⟨t.set (b - h.length) o, by rw [List.set_append_right _ _ hb]⟩
theorem pre_app {h g : Hs} (hp : h <+: g) (t : Hs) : h <+: g ++ t := hp.trans (List.prefix_append _ _)
theorem get_app {g : Hs} {a : Nat} {o : Ob} (h : g[a]? = some o) (t : Hs) : (g ++ t)[a]? = some o := by
  rw [List.getElem?_append_left (List.getElem?_eq_some_iff.mp h).1]; exact h
theorem plE_length (p : List Int) (m : Nat) : (plE p m).length = m := by simp [plE]
theorem plF_length (acc : List (List Int)) (s : Int) : (plF acc s).length = acc.length * s.toNat := by
  induction acc with
  | nil => simp [plF]
  | cons p ps ih =>
    have : plF (p :: ps) s = plE p s.toNat ++ plF ps s := rfl
    rw [this, List.length_append, plE_length, ih, List.length_cons, Nat.succ_mul]; omega
theorem plF_mem {acc : List (List Int)} {s : Int} {q : List Int} (h : q ∈ plF acc s) : ∃ p ∈ acc, q.length = p.length + 1 := by
  obtain ⟨p, hp, hq⟩ := List.mem_flatMap.mp h
  obtain ⟨i, _, rfl⟩ := List.mem_map.mp hq
  exact ⟨p, hp, by simp⟩
theorem tp_pure (p : List Int) : (tp p).pure = true := by
  show pures (p.map Wv.int) = true
  exact pures_of fun w hw => by
    obtain ⟨i, _, rfl⟩ := List.mem_map.mp hw
    rfl
theorem tps_pure (ps : List (List Int)) : pures (ps.map tp) = true := pures_of fun w hw => by
  obtain ⟨p, _, rfl⟩ := List.mem_map.mp hw
  exact tp_pure p
theorem pre_take {h g : Hs} (hp : h <+: g) : g.take h.length = h := by
  obtain ⟨t, rfl⟩ := hp
  simp
theorem fresh_end {h g : Hs} {k : Nat} {ws : List Wv} (hk : h.length ≤ k) (e : g[k]? = some (.lst ws)) (hw : pures ws = true) (hp : h <+: g) : ended .fresh h.length h (.ref k) g = .ok (.ref h.length) (h ++ [.lst ws]) := by
  have := end_fresh (h := h) hk e (pures_frz _ hw) (by rw [pre_take hp]; exact shut_refl _ _)
  rw [pre_take hp] at this
  exact this
def dgr : List Int → Int → List Int → List Int
  | [], _, pl => pl
  | s :: r, n, pl => dgr r (n / s) (n % s :: pl)
theorem pre_get2 {h g : Hs} (hp : h <+: g) {k : Nat} {o : Ob} (e : h[k]? = some o) : g[k]? = some o := by
  obtain ⟨t, rfl⟩ := hp
  exact get_app e t
theorem rng_cons (f : Int → List Int) (lo : Int) (m : Nat) : ((List.range (m + 1)).map fun (i : Nat) => f (lo + (i : Int))) = f lo :: (List.range m).map fun (i : Nat) => f (lo + 1 + (i : Int)) := by
  rw [List.range_succ_eq_map, List.map_cons, List.map_map]
  congr 1
  · simp
  · apply List.map_congr_left
    intro i _
    show f (lo + ((i + 1 : Nat) : Int)) = f (lo + 1 + (i : Int))
    congr 1
    omega
theorem dgr_app : ∀ (r : List Int) (n : Int) (a pl : List Int), dgr r n (a ++ pl) = dgr r n a ++ pl
  | [], _, _, _ => rfl
  | s :: r, n, a, pl => by
    rw [dgr, dgr, ← dgr_app r (n / s) (n % s :: a) pl]; rfl
theorem range_mul {α : Type} (f : Nat → α) (S : Nat) : ∀ M : Nat, (List.range (M * S)).map f = (List.range M).flatMap fun q => (List.range S).map fun i => f (q * S + i)
  | 0 => by simp
  | M + 1 => by
    rw [Nat.succ_mul, List.range_add, List.map_append, range_mul f S M, List.range_succ, List.flatMap_append]
    simp [Function.comp_def]
theorem plc_eq : ∀ r : List Int, SzOk r → plc r.reverse = (List.range (prd r.reverse).toNat).map fun (i : Nat) => dgr r (0 + (i : Int)) []
  | [], _ => by simp [plc, prd, dgr]
  | s :: r, hs => by
    have hs1 := hs.one s List.mem_cons_self
    have hs2 : SzOk r := ⟨fun t ht => hs.one t (List.mem_cons_of_mem _ ht)⟩
    have hr : SzOk r.reverse := ⟨fun t ht => hs2.one t (List.mem_reverse.mp ht)⟩
    have pp := prd_pos hr
    have e1 : plc (s :: r).reverse = plF (plc r.reverse) s := by
      rw [List.reverse_cons]
      unfold plc
      rw [List.foldl_append]
      rfl
    have e2 : prd (s :: r).reverse = prd r.reverse * s := by
      rw [List.reverse_cons, prd_append]
      simp [prd]
    have e3 : (prd (s :: r).reverse).toNat = (prd r.reverse).toNat * s.toNat := by
      rw [e2, Int.toNat_mul (by omega) (by omega)]
    rw [e1, plc_eq r hs2, e3, range_mul]
    unfold plF
    rw [List.flatMap_map]
    congr 1
    funext q
    unfold plE
    apply List.map_congr_left
    intro i hi
    have hi' := List.mem_range.mp hi
    rw [dgr, show ([] : List Int) = [] ++ [] from rfl]
    have z : ((q * s.toNat + i : Nat) : Int) = s * q + i := by
      rw [Int.natCast_add, Int.natCast_mul, Int.toNat_of_nonneg (by omega), Int.mul_comm]
    have hd : (0 + ((q * s.toNat + i : Nat) : Int)) / s = q := by
      rw [Int.zero_add, z, Int.add_comm, Int.add_mul_ediv_left _ _ (by omega), Int.ediv_eq_zero_of_lt (by omega) (by omega), Int.zero_add]
    have hm : (0 + ((q * s.toNat + i : Nat) : Int)) % s = i := by
      rw [Int.zero_add, z, Int.add_comm, Int.add_mul_emod_self_left, Int.emod_eq_of_lt (by omega) (by omega)]
    rw [hd, hm, Int.zero_add]
    exact (dgr_app r q [] [(i : Int)]).symm
theorem places_due {sz : List Int} (hs : SzOk sz) : plc sz = (List.range (prd sz).toNat).map fun (i : Nat) => dgr sz.reverse (0 + (i : Int)) [] := by
  have := plc_eq sz.reverse ⟨fun t ht => hs.one t (List.mem_reverse.mp ht)⟩
  rwa [List.reverse_reverse] at this
/-- each is a place -/
theorem okP_app : ∀ (p : List Int) (sz : List Int) (x s : Int), p.length = sz.length → okP (p.map Wv.int) sz = true → btw (.int x) 0 (s - 1) = true → okP ((p ++ [x]).map Wv.int) (sz ++ [s]) = true
  | [], [], x, s, _, _, h => by simp [okP, h]
  | [], _ :: _, _, _, h, _, _ => by simp at h
  | _ :: _, [], _, _, h, _, _ => by simp at h
  | a :: p, b :: sz, x, s, h, h1, h2 => by
    simp only [List.map_cons, okP, Bool.and_eq_true] at h1
    simp only [List.cons_append, List.map_cons, okP, Bool.and_eq_true]
    exact ⟨h1.1, okP_app p sz x s (by simpa using h) h1.2 h2⟩
theorem plc_ok : ∀ r : List Int, SzOk r → ∀ p ∈ plc r.reverse, p.length = r.reverse.length ∧ okP (p.map Wv.int) r.reverse = true
  | [], _, p, hp => by
    have : p = [] := by simpa [plc] using hp
    subst this
    exact ⟨rfl, rfl⟩
  | s :: r, hs, p, hp => by
    have hs1 := hs.one s List.mem_cons_self
    have hs2 : SzOk r := ⟨fun t ht => hs.one t (List.mem_cons_of_mem _ ht)⟩
    have e1 : plc (s :: r).reverse = plF (plc r.reverse) s := by
      rw [List.reverse_cons]
      unfold plc
      rw [List.foldl_append]
      rfl
    rw [e1] at hp
    obtain ⟨q, hq, hq2⟩ := List.mem_flatMap.mp hp
    obtain ⟨i, hi, rfl⟩ := List.mem_map.mp hq2
    have hi' := List.mem_range.mp hi
    obtain ⟨l1, l2⟩ := plc_ok r hs2 q hq
    rw [List.reverse_cons]
    exact ⟨by rw [List.length_append, List.length_append, l1]; rfl, okP_app q r.reverse i s l1 l2 (by simp [btw]; omega)⟩
theorem place_ok {sz : List Int} (hs : SzOk sz) {p : List Int} (hp : p ∈ plc sz) : isPl sz (tp p) = true ∧ p.length = sz.length := by
  have h2 := plc_ok sz.reverse ⟨fun t ht => hs.one t (List.mem_reverse.mp ht)⟩ p (by rwa [List.reverse_reverse])
  rw [List.reverse_reverse] at h2
  simp [isPl, tp, h2.1, h2.2]
theorem plc_length {sz : List Int} (hs : SzOk sz) : (plc sz).length = (prd sz).toNat := by
  rw [places_due hs]; simp
theorem cut_mem {α : Type} {ws : List α} {lo hi : Option Int} {w : α} (h : w ∈ cut ws lo hi) : w ∈ ws := by
  unfold cut at h
  exact List.mem_of_mem_drop (List.mem_of_mem_take h)
theorem cut_len {α : Type} (ws : List α) (lo hi : Option Int) : (cut ws lo hi).length ≤ ws.length := by
  unfold cut
  rw [List.length_take, List.length_drop]
  omega
theorem frzs_app {rec : Nat → Option Wv} : ∀ {a b x y : List Wv}, frzs rec a = some x → frzs rec b = some y → frzs rec (a ++ b) = some (x ++ y)
  | [], b, x, y, h1, h2 => by
    simp only [frzs, Option.some.injEq] at h1
    subst h1
    exact h2
  | w :: a, b, x, y, h1, h2 => by
    simp only [frzs] at h1
    split at h1
    · rename_i d ds e1 e2
      cases h1
      rw [List.cons_append, frzs, e1, frzs_app e2 h2]
      rfl
    · cases h1
theorem line10 : 10 < sizeLine := by decide
theorem ints_pl (p : List Int) : ∀ w ∈ p.map Wv.int, w.pl = true := fun w hw => by
  obtain ⟨i, _, rfl⟩ := List.mem_map.mp hw
  rfl
theorem tp_plT (p : List Int) : plT (tp p) = true := List.all_eq_true.mpr (ints_pl p)
theorem ints_pure (p : List Int) : ∀ w ∈ p.map Wv.int, w.pure = true := fun w hw => by
  obtain ⟨i, _, rfl⟩ := List.mem_map.mp hw
  rfl
theorem frzC_at {h : Hs} {no : Nat → Bool} {m k : Nat} {ws : List Wv} (hn : no k = false) (e : h[k]? = some (.lst ws)) (hw : pures ws = true) : frzC h no (m + 1) k = some (.lst ws) := by
  rw [frzC]
  simp only [hn, Bool.false_eq_true, if_false, e, pures_frz _ hw, Option.map_some]
theorem toDs_ints : ∀ p : List Int, toDs (p.map Wv.int) = some (p.map PyData.int)
  | [] => rfl
  | i :: p => by rw [List.map_cons, toDs, toDs_ints p]; rfl
theorem toDs_tps : ∀ ps : List (List Int), toDs (ps.map tp) = some (ps.map fun p => PyData.tuple (p.map PyData.int))
  | [] => rfl
  | p :: ps => by
    rw [List.map_cons, toDs, toDs_tps ps]
    simp only [tp, Wv.toD, toDs_ints, Option.map_some, List.map_cons]
theorem dp_ints : ∀ p : List Int, PyData.depthAll (p.map PyData.int) = 0
  | [] => rfl
  | i :: p => by rw [List.map_cons, PyData.depthAll, dp_ints p]; rfl
theorem dp_tps : ∀ ps : List (List Int), PyData.depthAll (ps.map fun p => PyData.tuple (p.map PyData.int)) ≤ 1
  | [] => Nat.zero_le _
  | p :: ps => by
    have := dp_tps ps
    rw [List.map_cons, PyData.depthAll, PyData.depth, dp_ints]
    omega
theorem pn_ints : ∀ p : List Int, PyData.plainAll (p.map PyData.int) = true
  | [] => rfl
  | i :: p => by rw [List.map_cons, PyData.plainAll, pn_ints p]; rfl
theorem pn_tps : ∀ ps : List (List Int), PyData.plainAll (ps.map fun p => PyData.tuple (p.map PyData.int)) = true
  | [] => rfl
  | p :: ps => by rw [List.map_cons, PyData.plainAll, pn_tps ps, PyData.plain, pn_ints]; rfl
theorem datum_ref {h : Hs} {k : Nat} {ws : List Wv} (e : h[k]? = some (.lst ws)) (hw : pures ws = true) : datum h (.ref k) = (Wv.lst ws).toD := by
  unfold datum frzW
  rw [Wv.frz, deepest, frzC_at (h := h) (no := fun _ => false) rfl e hw]
  rfl
theorem eq_lists {h : Hs} {k k' : Nat} {ps : List (List Int)} (e : h[k]? = some (.lst (ps.map tp))) (e' : h[k']? = some (.lst (ps.map tp))) : eqVal h (.ref k) (.ref k') = some true := by
  show (match datum h (.ref k), datum h (.ref k') with
    | some d, some e => if (shal d || shal e) = true then some (PyData.eqv d e) else none
    | _, _ => none) = _
  rw [datum_ref e (tps_pure ps), datum_ref e' (tps_pure ps)]
  simp only [Wv.toD, toDs_tps, Option.map_some]
  have hd : shal (PyData.list (ps.map fun p => PyData.tuple (p.map PyData.int))) = true := by
    have := dp_tps ps
    unfold shal
    rw [PyData.depth]
    exact decide_eq_true (by omega)
  rw [hd]
  simp only [Bool.true_or, if_true]
  congr 1
  exact PySem.SeqAt.eqv_refl_plain _ (by rw [PyData.plain]; exact pn_tps ps)
theorem isi_eq (P : Wd) (a : Ex) (t : Ty) (e : Ev) (h : Hs) : ev P (.isi a [t]) e h = (ev P a e h).bind fun x h1 => (Rz.of (t.has h1 x) h1).bind fun b h2 => .ok (.bl b) h2 := by rw [ev]
theorem cmp_eq (P : Wd) (c : Cm) (a b : Ex) (e : Ev) (h : Hs) : ev P (.cmp c a b) e h = (ev P a e h).bind fun x h1 => (ev P b e h1).bind fun y h2 => cmpop c x y h2 := by rw [ev]
theorem ifs_no {P : Wd} {c : Ex} {a : List Sm} {e : Ev} {h h1 : Hs} (q : tst P c e h = .ok false h1) : ex P (.ifs c a []) e h = .ok (.nx e) h1 := by
  rw [ex, q, Rz.bind_ok, if_neg (by decide), exs]
theorem boolTy (h : Hs) (b : Bool) : Ty.has h (.bl b) .bool = some true := by simp [Ty.has, tyOf, Ty.name]
theorem listTy {h : Hs} {k : Nat} {ws : List Wv} (e : h[k]? = some (.lst ws)) : Ty.has h (.ref k) .list = some true := by simp [Ty.has, tyOf, e, Ty.name]
theorem all_true {sz : List Int} : ∀ l : List Wv, (∀ w ∈ l, isPl sz w = true) → ∃ bs, boolsOf (l.map fun w => Wv.bl (isPl sz w)) = some bs ∧ bs.all id = true
  | [], _ => ⟨[], rfl, rfl⟩
  | w :: l, h => by
    obtain ⟨bs, h1, h2⟩ := all_true l (fun x hx => h x (List.mem_cons_of_mem _ hx))
    refine ⟨true :: bs, ?_, by simpa using h2⟩
    rw [List.map_cons, h w List.mem_cons_self, boolsOf, h1]
    rfl
end SL

set_option maxRecDepth 100000
set_option maxHeartbeats 2000000
/-! Values without truths within: what is alike is the same. -/
namespace SL
open PySem
set_option autoImplicit false
mutual
/-- plain, no truth within, not too deep -/
def Wv.nb : Wv → Nat → Bool
  | .non, _ => true
  | .int _, _ => true
  | .str _, _ => true
  | .tup ws, n + 1 => nbs ws n
  | .lst ws, n + 1 => nbs ws n
  | _, _ => false
def nbs : List Wv → Nat → Bool
  | [], _ => true
  | w :: ws, n => w.nb n && nbs ws n
end
theorem nbs_of {ws : List Wv} {n : Nat} (h : ∀ w ∈ ws, w.nb n = true) : nbs ws n = true := by
  induction ws with
  | nil => rfl
  | cons w ws ih => rw [nbs, h w List.mem_cons_self, ih fun x hx => h x (List.mem_cons_of_mem _ hx)]; rfl
theorem nbs_mem {ws : List Wv} {n : Nat} (h : nbs ws n = true) : ∀ w ∈ ws, w.nb n = true := by
  induction ws with
  | nil => intro w hw; cases hw
  | cons a ws ih =>
    simp only [nbs, Bool.and_eq_true] at h
    intro w hw
    rcases List.mem_cons.mp hw with rfl | hw
    · exact h.1
    · exact ih h.2 w hw
mutual
theorem nb_pure : ∀ {w : Wv} {n : Nat}, w.nb n = true → w.pure = true
  | .non, _, _ | .int _, _, _ | .str _, _, _ => rfl
  | .tup ws, n + 1, h => by rw [Wv.pure]; exact nbs_pure (by simpa [Wv.nb] using h)
  | .lst ws, n + 1, h => by rw [Wv.pure]; exact nbs_pure (by simpa [Wv.nb] using h)
  | .tup ws, 0, h | .lst ws, 0, h => by simp [Wv.nb] at h
  | .bl _, n, h | .dic _, n, h | .ins _ _, n, h | .ref _, n, h | .fn _, n, h | .cls _, n, h => by simp [Wv.nb] at h
theorem nbs_pure : ∀ {ws : List Wv} {n : Nat}, nbs ws n = true → pures ws = true
  | [], _, _ => rfl
  | w :: ws, n, h => by
    simp only [nbs, Bool.and_eq_true] at h
    rw [pures, nb_pure h.1, nbs_pure h.2]; rfl
end
mutual
theorem nb_toD : ∀ {w : Wv} {n : Nat}, w.nb n = true → ∃ d, w.toD = some d ∧ d.depth ≤ n ∧ d.plain = true
  | .non, n, _ => ⟨.none, rfl, by simp [PyData.depth], rfl⟩
  | .int i, n, _ => ⟨.int i, rfl, by simp [PyData.depth], rfl⟩
  | .str x, n, _ => ⟨.str x, rfl, by simp [PyData.depth], rfl⟩
  | .tup ws, n + 1, h => by
    obtain ⟨ds, e, hd, hp⟩ := nbs_toD (ws := ws) (n := n) (by simpa [Wv.nb] using h)
    exact ⟨.tuple ds, by rw [Wv.toD, e]; rfl, by rw [PyData.depth]; omega, by rw [PyData.plain]; exact hp⟩
  | .lst ws, n + 1, h => by
    obtain ⟨ds, e, hd, hp⟩ := nbs_toD (ws := ws) (n := n) (by simpa [Wv.nb] using h)
    exact ⟨.list ds, by rw [Wv.toD, e]; rfl, by rw [PyData.depth]; omega, by rw [PyData.plain]; exact hp⟩
  | .tup ws, 0, h | .lst ws, 0, h => by simp [Wv.nb] at h
  | .bl _, n, h | .dic _, n, h | .ins _ _, n, h | .ref _, n, h | .fn _, n, h | .cls _, n, h => by simp [Wv.nb] at h
theorem nbs_toD : ∀ {ws : List Wv} {n : Nat}, nbs ws n = true → ∃ ds, toDs ws = some ds ∧ PyData.depthAll ds ≤ n ∧ PyData.plainAll ds = true
  | [], n, _ => ⟨[], rfl, by simp [PyData.depthAll], rfl⟩
  | w :: ws, n, h => by
    simp only [nbs, Bool.and_eq_true] at h
    obtain ⟨d, e, hd, hp⟩ := nb_toD h.1
    obtain ⟨ds, es, hds, hps⟩ := nbs_toD h.2
    exact ⟨d :: ds, by rw [toDs, e, es], by rw [PyData.depthAll]; omega, by rw [PyData.plainAll, hp, hps]; rfl⟩
end
mutual
theorem nb_eqv : ∀ {a b : Wv} {n m : Nat}, a.nb n = true → b.nb m = true → ∀ {d e : PyData}, a.toD = some d → b.toD = some e → PyData.eqv d e = decide (a = b)
  | .tup ws, .tup us, n + 1, m + 1, ha, hb, d, e, hd, he => by
    rw [Wv.nb] at ha hb
    rw [Wv.toD] at hd he
    obtain ⟨ds, q1, rfl⟩ := Option.map_eq_some_iff.mp hd
    obtain ⟨es, q2, rfl⟩ := Option.map_eq_some_iff.mp he
    rw [PyData.eqv, nbs_eqv ha hb q1 q2]
    simp
  | .lst ws, .lst us, n + 1, m + 1, ha, hb, d, e, hd, he => by
    rw [Wv.nb] at ha hb
    rw [Wv.toD] at hd he
    obtain ⟨ds, q1, rfl⟩ := Option.map_eq_some_iff.mp hd
    obtain ⟨es, q2, rfl⟩ := Option.map_eq_some_iff.mp he
    rw [PyData.eqv, nbs_eqv ha hb q1 q2]
    simp
  | .non, b, n, m, ha, hb, d, e, hd, he => by
    rw [Wv.toD] at hd; cases hd
    cases b <;> simp [Wv.toD, Wv.nb] at he hb <;> first | (subst he; simp [PyData.eqv]; done) | (subst he; simp [PyData.eqv]; first | rfl | (rw [Bool.eq_iff_iff]; simp; done)) | (obtain ⟨x, _, rfl⟩ := he; simp [PyData.eqv])
  | .int i, b, n, m, ha, hb, d, e, hd, he => by
    rw [Wv.toD] at hd; cases hd
    cases b <;> simp [Wv.toD, Wv.nb] at he hb <;> first | (subst he; simp [PyData.eqv]; done) | (subst he; simp [PyData.eqv]; first | rfl | (rw [Bool.eq_iff_iff]; simp; done)) | (obtain ⟨x, _, rfl⟩ := he; simp [PyData.eqv])
  | .str x, b, n, m, ha, hb, d, e, hd, he => by
    rw [Wv.toD] at hd; cases hd
    cases b <;> simp [Wv.toD, Wv.nb] at he hb <;> first | (subst he; simp [PyData.eqv]; done) | (subst he; simp [PyData.eqv]; first | rfl | (rw [Bool.eq_iff_iff]; simp; done)) | (obtain ⟨x, _, rfl⟩ := he; simp [PyData.eqv])
  | .tup ws, .non, n, m, ha, hb, d, e, hd, he | .tup ws, .int _, n, m, ha, hb, d, e, hd, he | .tup ws, .str _, n, m, ha, hb, d, e, hd, he | .tup ws, .lst _, n, m, ha, hb, d, e, hd, he => by
    simp only [Wv.toD] at hd he
    obtain ⟨ds, q1, rfl⟩ := Option.map_eq_some_iff.mp hd
    first | (cases he; simp [PyData.eqv]; done) | (obtain ⟨x, _, rfl⟩ := Option.map_eq_some_iff.mp he; simp [PyData.eqv])
  | .lst ws, .non, n, m, ha, hb, d, e, hd, he | .lst ws, .int _, n, m, ha, hb, d, e, hd, he | .lst ws, .str _, n, m, ha, hb, d, e, hd, he | .lst ws, .tup _, n, m, ha, hb, d, e, hd, he => by
    simp only [Wv.toD] at hd he
    obtain ⟨ds, q1, rfl⟩ := Option.map_eq_some_iff.mp hd
    first | (cases he; simp [PyData.eqv]; done) | (obtain ⟨x, _, rfl⟩ := Option.map_eq_some_iff.mp he; simp [PyData.eqv])
  | .tup _, .tup _, 0, _, ha, hb, d, e, hd, he | .lst _, .lst _, 0, _, ha, hb, d, e, hd, he => by simp [Wv.nb] at ha
  | .tup _, .tup _, _ + 1, 0, ha, hb, d, e, hd, he | .lst _, .lst _, _ + 1, 0, ha, hb, d, e, hd, he => by simp [Wv.nb] at hb
  | .bl _, _, n, m, ha, hb, d, e, hd, he | .dic _, _, n, m, ha, hb, d, e, hd, he | .ins _ _, _, n, m, ha, hb, d, e, hd, he | .ref _, _, n, m, ha, hb, d, e, hd, he | .fn _, _, n, m, ha, hb, d, e, hd, he | .cls _, _, n, m, ha, hb, d, e, hd, he => by simp [Wv.nb] at ha
  | .tup _, .bl _, n, m, ha, hb, d, e, hd, he | .tup _, .dic _, n, m, ha, hb, d, e, hd, he | .tup _, .ins _ _, n, m, ha, hb, d, e, hd, he | .tup _, .ref _, n, m, ha, hb, d, e, hd, he | .tup _, .fn _, n, m, ha, hb, d, e, hd, he | .tup _, .cls _, n, m, ha, hb, d, e, hd, he => by simp [Wv.nb] at hb
  | .lst _, .bl _, n, m, ha, hb, d, e, hd, he | .lst _, .dic _, n, m, ha, hb, d, e, hd, he | .lst _, .ins _ _, n, m, ha, hb, d, e, hd, he | .lst _, .ref _, n, m, ha, hb, d, e, hd, he | .lst _, .fn _, n, m, ha, hb, d, e, hd, he | .lst _, .cls _, n, m, ha, hb, d, e, hd, he => by simp [Wv.nb] at hb
theorem nbs_eqv : ∀ {a b : List Wv} {n m : Nat}, nbs a n = true → nbs b m = true → ∀ {d e : List PyData}, toDs a = some d → toDs b = some e → PyData.eqvAll d e = decide (a = b)
  | [], [], n, m, ha, hb, d, e, hd, he => by cases hd; cases he; simp [PyData.eqvAll]
  | [], y :: ys, n, m, ha, hb, d, e, hd, he => by
    cases hd
    simp only [nbs, Bool.and_eq_true] at hb
    obtain ⟨d1, q1, _, _⟩ := nb_toD hb.1
    obtain ⟨d2, q2, _, _⟩ := nbs_toD hb.2
    rw [toDs, q1, q2] at he; cases he
    simp [PyData.eqvAll]
  | x :: xs, [], n, m, ha, hb, d, e, hd, he => by
    cases he
    simp only [nbs, Bool.and_eq_true] at ha
    obtain ⟨d1, q1, _, _⟩ := nb_toD ha.1
    obtain ⟨d2, q2, _, _⟩ := nbs_toD ha.2
    rw [toDs, q1, q2] at hd; cases hd
    simp [PyData.eqvAll]
  | x :: xs, y :: ys, n, m, ha, hb, d, e, hd, he => by
    simp only [nbs, Bool.and_eq_true] at ha hb
    obtain ⟨d1, q1, _, _⟩ := nb_toD ha.1
    obtain ⟨d2, q2, _, _⟩ := nbs_toD ha.2
    rw [toDs, q1, q2] at hd; cases hd
    obtain ⟨e1, r1, _, _⟩ := nb_toD hb.1
    obtain ⟨e2, r2, _, _⟩ := nbs_toD hb.2
    rw [toDs, r1, r2] at he; cases he
    rw [PyData.eqvAll, nb_eqv ha.1 hb.1 q1 r1, nbs_eqv ha.2 hb.2 q2 r2]
    simp
end
/-- the cells looked through, it is X -/
def Fz (h : Hs) (w X : Wv) : Prop := frzW h (fun _ => false) w = some X
theorem Fz.pure {h : Hs} {w : Wv} (hw : w.pure = true) : Fz h w w := by
  unfold Fz frzW
  exact pure_frz _ hw
theorem Fz.nb {h : Hs} {w : Wv} {n : Nat} (hw : w.nb n = true) : Fz h w w := .pure (nb_pure hw)
theorem Fz.cell {h : Hs} {k : Nat} {ws : List Wv} (e : h[k]? = some (.lst ws)) (hw : pures ws = true) : Fz h (.ref k) (.lst ws) := by
  unfold Fz frzW
  rw [Wv.frz, deepest, frzC]
  simp only [Bool.false_eq_true, if_false, e, pures_frz _ hw]
  rfl
theorem Fz.datum {h : Hs} {w X : Wv} (f : Fz h w X) : datum h w = X.toD := by
  unfold SL.datum
  rw [f]; rfl
theorem nb_shal {w : Wv} {n : Nat} (hw : w.nb n = true) (hn : n ≤ 60) {d : PyData} (e : w.toD = some d) : shal d = true := by
  obtain ⟨d', e', hd, _⟩ := nb_toD hw
  rw [e] at e'; cases e'
  exact decide_eq_true (by omega)
theorem eqVal_nb {h : Hs} {x y X Y : Wv} {n m : Nat} (fx : Fz h x X) (fy : Fz h y Y) (hx : X.nb n = true) (hy : Y.nb m = true) (hn : n ≤ 60) : eqVal h x y = some (decide (X = Y)) := by
  have key : (match datum h x, datum h y with
      | some d, some e => if (shal d || shal e) = true then some (PyData.eqv d e) else none
      | _, _ => none) = some (decide (X = Y)) := by
    obtain ⟨d, ed, _, _⟩ := nb_toD hx
    obtain ⟨e, ee, _, _⟩ := nb_toD hy
    rw [fx.datum, fy.datum, ed, ee]
    simp only [nb_shal hx hn ed, Bool.true_or, if_true, nb_eqv hx hy ed ee]
  unfold eqVal
  split
  · unfold Fz frzW at fx fy
    rw [Wv.frz] at fx fy; cases fx; cases fy; simp
  · unfold Fz frzW at fx fy
    rw [Wv.frz] at fx fy; cases fx; cases fy; simp
  · unfold Fz frzW at fx fy
    rw [Wv.frz] at fx fy; cases fx; cases fy; simp
  · exact key
theorem data_nb {h : Hs} : ∀ {ws : List Wv} {n : Nat}, nbs ws n = true → data h ws = toDs ws
  | [], _, _ => rfl
  | w :: ws, n, hw => by
    simp only [nbs, Bool.and_eq_true] at hw
    rw [data, (Fz.nb hw.1).datum, data_nb hw.2, toDs]
theorem anyEq_nb : ∀ {ws : List Wv} {X : Wv} {n m : Nat}, X.nb n = true → nbs ws m = true → ∀ {d : PyData} {ds : List PyData}, X.toD = some d → toDs ws = some ds → anyEq d ds = decide (X ∈ ws)
  | [], X, n, m, hx, hw, d, ds, ed, es => by cases es; simp [anyEq]
  | w :: ws, X, n, m, hx, hw, d, ds, ed, es => by
    simp only [nbs, Bool.and_eq_true] at hw
    obtain ⟨d1, q1, _, _⟩ := nb_toD hw.1
    obtain ⟨d2, q2, _, _⟩ := nbs_toD hw.2
    rw [toDs, q1, q2] at es; cases es
    have ih := anyEq_nb hx hw.2 ed q2
    unfold anyEq at ih ⊢
    rw [List.any_cons, nb_eqv hw.1 hx q1 ed, ih]
    by_cases c : w = X
    · subst c; simp
    · have c' : ¬ X = w := fun q => c q.symm
      simp [c, c']
theorem inVal_nb {h : Hs} {x y X : Wv} {ws : List Wv} {n m : Nat} (fx : Fz h x X) (gy : getS h y = some ws) (hx : X.nb n = true) (hw : nbs ws m = true) (hn : n ≤ 60) : inVal h x y = some (decide (X ∈ ws)) := by
  obtain ⟨d, ed, _, _⟩ := nb_toD hx
  obtain ⟨ds, es, _, _⟩ := nbs_toD hw
  unfold inVal
  rw [gy]
  simp only [fx.datum, ed, data_nb hw, es, nb_shal hx hn ed, if_true, anyEq_nb hx hw ed es]
theorem nb_ints (p : List Int) (n : Nat) : nbs (p.map Wv.int) n = true := nbs_of fun w hw => by
  obtain ⟨i, _, rfl⟩ := List.mem_map.mp hw
  rfl
theorem nb_tp (p : List Int) (n : Nat) : (tp p).nb (n + 1) = true := nb_ints p n
theorem nb_tps (ps : List (List Int)) (n : Nat) : nbs (ps.map tp) (n + 1) = true := nbs_of fun w hw => by
  obtain ⟨p, _, rfl⟩ := List.mem_map.mp hw
  exact nb_tp p n
theorem Rimm.nb {r : Wv} (h : Rimm r) (n : Nat) : r.nb (n + 1) = true := by cases h <;> rfl
theorem map_inj {α β : Type} {f : α → β} (hf : ∀ x y, f x = f y → x = y) : ∀ {a b : List α}, a.map f = b.map f → a = b
  | [], [], _ => rfl
  | [], _ :: _, h => by simp at h
  | _ :: _, [], h => by simp at h
  | x :: xs, y :: ys, h => by
    simp only [List.map_cons, List.cons.injEq] at h
    rw [hf x y h.1, map_inj hf h.2]
theorem tp_inj {a b : List Int} (h : tp a = tp b) : a = b := by
  unfold tp at h
  injection h with h
  exact map_inj (fun x y e => by injection e) h
theorem ints_inj {a b : List Int} (h : a.map Wv.int = b.map Wv.int) : a = b := map_inj (fun x y e => by injection e) h
theorem subsc_tup {ws : List Wv} {i : Nat} (hi : i < ws.length) (h : Hs) : subsc (.tup ws) (.int i) h = .ok ws[i] h := by
  unfold subsc
  simp only [getS, ixAt_nat hi, Option.bind_some, List.getElem?_eq_getElem hi]
theorem subsc_ref {k : Nat} {ws : List Wv} {h : Hs} (e : h[k]? = some (.lst ws)) {i : Nat} (hi : i < ws.length) : subsc (.ref k) (.int i) h = .ok ws[i] h := by
  unfold subsc
  simp only [getS, getL, e, ixAt_nat hi, Option.bind_some, List.getElem?_eq_getElem hi]
theorem subsc_tp {p : List Int} {i : Nat} (hi : i < p.length) (h : Hs) : subsc (tp p) (.int i) h = .ok (.int p[i]) h := by
  unfold tp
  rw [subsc_tup (by rw [List.length_map]; exact hi)]
  simp
theorem subsc_t0 (a : Wv) (ws : List Wv) (h : Hs) : subsc (.tup (a :: ws)) (.int 0) h = .ok a h := subsc_tup (ws := a :: ws) (i := 0) (by simp) h
theorem subsc_t1 (a b : Wv) (ws : List Wv) (h : Hs) : subsc (.tup (a :: b :: ws)) (.int 1) h = .ok b h := subsc_tup (ws := a :: b :: ws) (i := 1) (by simp) h
theorem small_wide {i : Int} (h : -1000000 ≤ i ∧ i ≤ 1000000) : small62 i = true := by
  unfold small62
  simp only [Bool.and_eq_true, decide_eq_true_eq]
  omega
theorem range1 {i : Int} (h : -1000000 ≤ i ∧ i ≤ 1000000) : srcRange [.int i] = some (upTo 0 i.toNat, []) := by rw [srcRange, if_pos (small_wide h)]
theorem range2 {i k : Int} (h : -1000000 ≤ i ∧ i ≤ 1000000) (h2 : -1000000 ≤ k ∧ k ≤ 1000000) : srcRange [.int i, .int k] = some (upTo i (k - i).toNat, []) := by
  rw [srcRange, if_pos]
  rw [small_wide h, small_wide h2]; rfl
/-! ### walks -/
theorem forL_ret {body : Ev → Hs → Rz Fl} {tg : Tg} {ck : Ck} {w v : Wv} {ws : List Wv} {e e1 : Ev} {h h2 : Hs} (s : stay h ck = true) (b : tg.bind w e = some e1) (r : body e1 h = .ok (.ret v) h2) : forL body tg ck (w :: ws) e h = .ok (.ret v) h2 := by
  rw [forL, if_pos s, b]
  simp only [r, Rz.bind_ok]
theorem forL_end {body : Ev → Hs → Rz Fl} {tg : Tg} {ck : Ck} {e : Ev} {h : Hs} (s : stay h ck = true) : forL body tg ck [] e h = .ok (.nx e) h := by
  rw [forL, if_pos s]
theorem meth_ins {P : Wd} {a : Ex} {c m f : Nat} {fs : List (Nat × Wv)} {es : List Ex} {e : Ev} {h h0 h1 : Hs} {ws : List Wv} (ha : ev P a e h = .ok (.ins c fs) h0) (hm : methOf P c m = some f) (hf : fget fs m = none) (hw : evs P es e h0 = .ok ws h1) : ev P (.meth a m es) e h = P.run f (.ins c fs :: ws) h1 := by
  rw [ev, ha, Rz.bind_ok]
  simp only [getI, hm, hf, hw, Rz.bind_ok]
theorem ifs_nx {P : Wd} {c : Ex} {a b : List Sm} {e : Ev} {h h1 : Hs} (q : tst P c e h = .ok false h1) : ex P (.ifs c a b) e h = exs P b e h1 := by
  rw [ex, q, Rz.bind_ok, if_neg (by decide)]
theorem ifs_yes {P : Wd} {c : Ex} {a b : List Sm} {e : Ev} {h h1 : Hs} (q : tst P c e h = .ok true h1) : ex P (.ifs c a b) e h = exs P a e h1 := by
  rw [ex, q, Rz.bind_ok, if_pos rfl]
end SL

set_option maxRecDepth 100000
set_option maxHeartbeats 2000000
/-! Walks that draw from a well. -/
namespace SL
open PySem
set_option autoImplicit false
/-- a well: three numbers -/
def isWl (o : Ob) : Prop := ∃ a b c : Int, o = .lst [.int a, .int b, .int c]
theorem isWl.under {o : Ob} (h : isWl o) (lo : Nat) : o.under lo = true := by
  obtain ⟨a, b, c, rfl⟩ := h
  simp [Ob.under, unders, Wv.under]
theorem set_same {g : Hs} {k : Nat} {o : Ob} (e : g[k]? = some o) : g.set k o = g := by
  obtain ⟨h, rfl⟩ := List.getElem?_eq_some_iff.mp e
  exact List.set_getElem_self h
theorem ltg {g : Hs} {k : Nat} {o : Ob} (e : g[k]? = some o) : k < g.length := (List.getElem?_eq_some_iff.mp e).1
theorem get_wl {g : Hs} {k : Nat} (hk : k < g.length) (o : Ob) (t : Hs) : (g.set k o ++ t)[k]? = some o := by
  rw [List.getElem?_append_left (by rw [List.length_set]; exact hk), List.getElem?_set_self hk]
theorem set_wl {g : Hs} {k : Nat} (hk : k < g.length) (o o' : Ob) (t : Hs) : (g.set k o ++ t).set k o' = g.set k o' ++ t := by
  rw [List.set_append_left _ _ (by rw [List.length_set]; exact hk), List.set_set]
theorem get_wl_ne {g : Hs} {k i : Nat} (hi : i ≠ k) {p : Ob} (e : g[i]? = some p) (o : Ob) (t : Hs) : (g.set k o ++ t)[i]? = some p := by
  rw [List.getElem?_append_left (by rw [List.length_set]; exact ltg e), List.getElem?_set_ne (Ne.symm hi)]; exact e
theorem get_wl_last {g : Hs} {k : Nat} (o p : Ob) (t : Hs) : (g.set k o ++ p :: t)[g.length]? = some p := by
  rw [List.getElem?_append_right (by rw [List.length_set]; exact Nat.le_refl _), List.length_set, Nat.sub_self]; rfl
theorem set_wl_last {g : Hs} {k : Nat} (o p q : Ob) (t : Hs) : (g.set k o ++ p :: t).set g.length q = g.set k o ++ q :: t := by
  rw [List.set_append_right _ _ (by rw [List.length_set]; exact Nat.le_refl _), List.length_set, Nat.sub_self]; rfl
/-- pairwise -/
def Zp (R : Wv → Wv → Prop) : List Wv → List Wv → Prop
  | [], [] => True
  | a :: as, b :: bs => R a b ∧ Zp R as bs
  | _, _ => False
theorem Zp.len {R : Wv → Wv → Prop} : ∀ {as bs : List Wv}, Zp R as bs → as.length = bs.length
  | [], [], _ => rfl
  | a :: as, b :: bs, h => by rw [List.length_cons, List.length_cons, Zp.len h.2]
  | [], _ :: _, h => h.elim
  | _ :: _, [], h => h.elim
theorem Zp.right {R : Wv → Wv → Prop} {Q : Wv → Prop} (hq : ∀ a b, R a b → Q b) : ∀ {as bs : List Wv}, Zp R as bs → ∀ b ∈ bs, Q b
  | [], [], _, b, hb => by cases hb
  | a :: as, c :: bs, h, b, hb => by
    rcases List.mem_cons.mp hb with rfl | hb
    · exact hq _ _ h.1
    · exact Zp.right hq h.2 b hb
  | [], _ :: _, h, _, _ => h.elim
  | _ :: _, [], h, _, _ => h.elim
/-- a comprehension that draws -/
theorem comp_wl {turn : Wv → Hs → Rz (Option Wv)} {ck : Ck} {k : Nat} {g : Hs} {R : Wv → Wv → Prop} (st : ∀ o acc, isWl o → stay (g.set k o ++ [.lst acc]) ck = true) : ∀ (ws acc : List Wv) (o : Ob), isWl o →
    (∀ w ∈ ws, ∀ o, isWl o → ∃ v o', isWl o' ∧ R w v ∧ ∀ acc, turn w (g.set k o ++ [.lst acc]) = .ok (some v) (g.set k o' ++ [.lst acc])) → acc.length + ws.length ≤ sizeLine →
    ∃ vs o', isWl o' ∧ Zp R ws vs ∧ compL turn ck g.length ws (g.set k o ++ [.lst acc]) = .ok (.ref g.length) (g.set k o' ++ [.lst (acc ++ vs)])
  | [], acc, o, ho, _, _ => ⟨[], o, ho, trivial, by rw [compL_nil (st o acc ho), List.append_nil]⟩
  | w :: ws, acc, o, ho, ht, hz => by
    obtain ⟨v, o1, ho1, hr, e⟩ := ht w List.mem_cons_self o ho
    obtain ⟨vs, o', ho', hz', ih⟩ := comp_wl st ws (acc ++ [v]) o1 ho1 (fun x hx => ht x (List.mem_cons_of_mem _ hx)) (by simp at hz ⊢; omega)
    refine ⟨v :: vs, o', ho', ⟨hr, hz'⟩, ?_⟩
    rw [compL_so (st o acc ho) (e acc) (get_wl_last _ _ _) (by simp at hz; omega), set_wl_last, ih]
    simp
/-- a walk that keeps J -/
theorem forL_inv {body : Ev → Hs → Rz Fl} {tg : Tg} {ck : Ck} (J : Ev → Hs → Prop) (st : ∀ e h, J e h → stay h ck = true) : ∀ (ws : List Wv), (∀ w ∈ ws, ∀ e h, J e h → ∃ e1 e2 h2, tg.bind w e = some e1 ∧ body e1 h = .ok (.nx e2) h2 ∧ J e2 h2) → ∀ e h, J e h →
    ∃ e' h', forL body tg ck ws e h = .ok (.nx e') h' ∧ J e' h'
  | [], _, e, h, hj => ⟨e, h, by rw [forL_end (st e h hj)], hj⟩
  | w :: ws, ht, e, h, hj => by
    obtain ⟨e1, e2, h2, b, r, hj2⟩ := ht w List.mem_cons_self e h hj
    obtain ⟨e', h', f, hj'⟩ := forL_inv J st ws (fun x hx => ht x (List.mem_cons_of_mem _ hx)) e2 h2 hj2
    exact ⟨e', h', by rw [forL_nx (st e h hj) b r, f], hj'⟩
end SL

set_option maxRecDepth 100000
set_option maxHeartbeats 2000000
/-! Plain values, truths too; what is the same is alike; refusals on the way. -/
namespace SL
open PySem
set_option autoImplicit false
mutual
/-- plain, not too deep -/
def Wv.pb : Wv → Nat → Bool
  | .non, _ => true
  | .bl _, _ => true
  | .int _, _ => true
  | .str _, _ => true
  | .tup ws, n + 1 => pbs ws n
  | .lst ws, n + 1 => pbs ws n
  | _, _ => false
def pbs : List Wv → Nat → Bool
  | [], _ => true
  | w :: ws, n => w.pb n && pbs ws n
end
theorem pbs_of {ws : List Wv} {n : Nat} (h : ∀ w ∈ ws, w.pb n = true) : pbs ws n = true := by
  induction ws with
  | nil => rfl
  | cons w ws ih => rw [pbs, h w List.mem_cons_self, ih fun x hx => h x (List.mem_cons_of_mem _ hx)]; rfl
mutual
theorem pb_pure : ∀ {w : Wv} {n : Nat}, w.pb n = true → w.pure = true
  | .non, _, _ | .bl _, _, _ | .int _, _, _ | .str _, _, _ => rfl
  | .tup ws, n + 1, h => by rw [Wv.pure]; exact pbs_pure (by simpa [Wv.pb] using h)
  | .lst ws, n + 1, h => by rw [Wv.pure]; exact pbs_pure (by simpa [Wv.pb] using h)
  | .tup ws, 0, h | .lst ws, 0, h => by simp [Wv.pb] at h
  | .dic _, n, h | .ins _ _, n, h | .ref _, n, h | .fn _, n, h | .cls _, n, h => by simp [Wv.pb] at h
theorem pbs_pure : ∀ {ws : List Wv} {n : Nat}, pbs ws n = true → pures ws = true
  | [], _, _ => rfl
  | w :: ws, n, h => by
    simp only [pbs, Bool.and_eq_true] at h
    rw [pures, pb_pure h.1, pbs_pure h.2]; rfl
end
mutual
theorem pb_toD : ∀ {w : Wv} {n : Nat}, w.pb n = true → ∃ d, w.toD = some d ∧ d.depth ≤ n ∧ d.plain = true
  | .non, n, _ => ⟨.none, rfl, by simp [PyData.depth], rfl⟩
  | .bl b, n, _ => ⟨.bool b, rfl, by simp [PyData.depth], rfl⟩
  | .int i, n, _ => ⟨.int i, rfl, by simp [PyData.depth], rfl⟩
  | .str x, n, _ => ⟨.str x, rfl, by simp [PyData.depth], rfl⟩
  | .tup ws, n + 1, h => by
    obtain ⟨ds, e, hd, hp⟩ := pbs_toD (ws := ws) (n := n) (by simpa [Wv.pb] using h)
    exact ⟨.tuple ds, by rw [Wv.toD, e]; rfl, by rw [PyData.depth]; omega, by rw [PyData.plain]; exact hp⟩
  | .lst ws, n + 1, h => by
    obtain ⟨ds, e, hd, hp⟩ := pbs_toD (ws := ws) (n := n) (by simpa [Wv.pb] using h)
    exact ⟨.list ds, by rw [Wv.toD, e]; rfl, by rw [PyData.depth]; omega, by rw [PyData.plain]; exact hp⟩
  | .tup ws, 0, h | .lst ws, 0, h => by simp [Wv.pb] at h
  | .dic _, n, h | .ins _ _, n, h | .ref _, n, h | .fn _, n, h | .cls _, n, h => by simp [Wv.pb] at h
theorem pbs_toD : ∀ {ws : List Wv} {n : Nat}, pbs ws n = true → ∃ ds, toDs ws = some ds ∧ PyData.depthAll ds ≤ n ∧ PyData.plainAll ds = true
  | [], n, _ => ⟨[], rfl, by simp [PyData.depthAll], rfl⟩
  | w :: ws, n, h => by
    simp only [pbs, Bool.and_eq_true] at h
    obtain ⟨d, e, hd, hp⟩ := pb_toD h.1
    obtain ⟨ds, es, hds, hps⟩ := pbs_toD h.2
    exact ⟨d :: ds, by rw [toDs, e, es], by rw [PyData.depthAll]; omega, by rw [PyData.plainAll, hp, hps]; rfl⟩
end
theorem pb_shal {w : Wv} {n : Nat} (hw : w.pb n = true) (hn : n ≤ 60) {d : PyData} (e : w.toD = some d) : shal d = true := by
  obtain ⟨d', e', hd, _⟩ := pb_toD hw
  rw [e] at e'; cases e'
  exact decide_eq_true (by omega)
theorem eqVal_same {h : Hs} {x y X : Wv} {n : Nat} (fx : Fz h x X) (fy : Fz h y X) (hX : X.pb n = true) (hn : n ≤ 60) : eqVal h x y = some true := by
  have key : (match datum h x, datum h y with
      | some d, some e => if (shal d || shal e) = true then some (PyData.eqv d e) else none
      | _, _ => none) = some true := by
    obtain ⟨d, ed, _, hp⟩ := pb_toD hX
    rw [fx.datum, fy.datum, ed]
    simp only [pb_shal hX hn ed, Bool.true_or, if_true]
    rw [PySem.SeqAt.eqv_refl_plain _ hp]
  unfold eqVal
  split
  · unfold Fz frzW at fx fy
    rw [Wv.frz] at fx fy; cases fx; cases fy; simp
  · unfold Fz frzW at fx fy
    rw [Wv.frz] at fx fy; cases fx; cases fy; simp
  · unfold Fz frzW at fx fy
    rw [Wv.frz] at fx fy; cases fx; cases fy; simp
  · exact key
/-- a list with nothing in it -/
theorem eq_nil {h : Hs} {k k' : Nat} {ws : List Wv} {n : Nat} (e : h[k]? = some (.lst ws)) (e' : h[k']? = some (.lst [])) (hw : pbs ws n = true) : eqVal h (.ref k) (.ref k') = some (decide (ws = [])) := by
  show (match datum h (.ref k), datum h (.ref k') with
      | some d, some e => if (shal d || shal e) = true then some (PyData.eqv d e) else none
      | _, _ => none) = _
  rw [(Fz.cell e (pbs_pure hw)).datum, (Fz.cell e' rfl).datum]
  obtain ⟨ds, es, _, _⟩ := pbs_toD hw
  have e2 : (Wv.lst []).toD = some (.list []) := rfl
  rw [Wv.toD, es, e2]
  simp only [Option.map_some]
  have sh : shal (PyData.list []) = true := by decide +kernel
  rw [sh]
  simp only [Bool.or_true, if_true]
  rw [PyData.eqv]
  cases ws with
  | nil => cases es; simp [PyData.eqvAll]
  | cons w ws =>
    simp only [pbs, Bool.and_eq_true] at hw
    obtain ⟨d1, q1, _, _⟩ := pb_toD hw.1
    obtain ⟨d2, q2, _, _⟩ := pbs_toD hw.2
    rw [toDs, q1, q2] at es; cases es
    simp [PyData.eqvAll]
/-- many of them looked through -/
def Fzs (h : Hs) : List Wv → List Wv → Prop
  | [], [] => True
  | a :: as, b :: bs => Fz h a b ∧ Fzs h as bs
  | _, _ => False
theorem Fzs.frzs {h : Hs} : ∀ {as bs : List Wv}, Fzs h as bs → frzs (frzC h (fun _ => false) deepest) as = some bs
  | [], [], _ => rfl
  | a :: as, b :: bs, f => by
    have f1 : a.frz (frzC h (fun _ => false) deepest) = some b := f.1
    rw [SL.frzs, f1, Fzs.frzs f.2]
  | [], _ :: _, f => f.elim
  | _ :: _, [], f => f.elim
theorem Fz.tup {h : Hs} {as bs : List Wv} (f : Fzs h as bs) : Fz h (.tup as) (.tup bs) := by
  unfold Fz frzW
  rw [Wv.frz, f.frzs]; rfl
theorem forL_exc {body : Ev → Hs → Rz Fl} {tg : Tg} {ck : Ck} {w v : Wv} {c : Nat} {ws : List Wv} {e e1 : Ev} {h h2 : Hs} (s : stay h ck = true) (b : tg.bind w e = some e1) (r : body e1 h = .exc c v h2) : forL body tg ck (w :: ws) e h = .exc c v h2 := by
  rw [forL, if_pos s, b]
  simp only [r, Rz.bind_exc]
theorem exs_exc {P : Wd} {s : Sm} {ss : List Sm} {e : Ev} {c : Nat} {v : Wv} {h h1 : Hs} (q : ex P s e h = .exc c v h1) : exs P (s :: ss) e h = .exc c v h1 := by
  rw [exs, q]; rfl
/-- a def's end, told frozen, behind draws -/
theorem cold_wlF {g : Hs} {k : Nat} (hk : k < g.length) {o o' : Ob} (ho' : isWl o') {w v : Wv} (t u : Hs) (hf : frzW (g.set k o' ++ (t ++ u)) (fun i => decide (i < (g.set k o ++ t).length)) w = some v) : ended .cold (g.set k o ++ t).length (g.set k o ++ t) w (g.set k o' ++ (t ++ u)) = .ok v (g.set k o' ++ t) := by
  have e : (g.set k o' ++ (t ++ u)).take (g.set k o ++ t).length = g.set k o' ++ t := by
    rw [← List.append_assoc, List.take_append_of_le_length (by simp), List.take_of_length_le (by simp)]
  unfold ended
  simp only [hf, e]
  rw [if_pos]
  refine ⟨by simp, ?_⟩
  rw [← set_wl hk o o' t]
  exact shut_set (ho'.under _)
theorem nb_pb : ∀ {w : Wv} {n : Nat}, w.nb n = true → w.pb n = true
  | .non, _, _ | .int _, _, _ | .str _, _, _ => rfl
  | .tup ws, n + 1, h => by
    rw [Wv.pb]; rw [Wv.nb] at h
    exact pbs_of fun w hw => nb_pb (nbs_mem h w hw)
  | .lst ws, n + 1, h => by
    rw [Wv.pb]; rw [Wv.nb] at h
    exact pbs_of fun w hw => nb_pb (nbs_mem h w hw)
  | .tup ws, 0, h | .lst ws, 0, h => by simp [Wv.nb] at h
  | .bl _, n, h | .dic _, n, h | .ins _ _, n, h | .ref _, n, h | .fn _, n, h | .cls _, n, h => by simp [Wv.nb] at h
  decreasing_by all_goals (simp_wf; have := List.sizeOf_lt_of_mem hw; omega)
end SL

set_option maxRecDepth 100000
set_option maxHeartbeats 0
/-! The tables of k11_values_of_terms. -/
namespace SL
open PySem L2 PyProof.Rows
set_option autoImplicit false
def top (i : Nat) : Stmt := PySem.Challenge.pw_slanttiles_k11_values_of_terms.main.body.getD i (.Pass ⟨0, 0, 0, 0⟩)
def inC (i j : Nat) : Stmt := match top i with
  | .ClassDef _ _ _ body _ _ _ _ _ _ _ => body.getD j (.Pass ⟨0, 0, 0, 0⟩)
  | _ => .Pass ⟨0, 0, 0, 0⟩
/-- a def's names: as the scope has them, then its comprehensions' -/
def nmsOf (sc : Scope) : List Str :=
  (sc.names.filterMap fun y => match y.2 with | .local => some y.1 | .cell => some y.1 | _ => none) ++
    (sc.more.filterMap fun q => match q.2 with
      | .str x => if q.1 = "fast" ∧ (match sc.names.lookup x with | some .local => false | some .cell => false | _ => true) = true then some x else none
      | _ => none)
def mkD (a : Str × Option Str) (name qual : Str) (st : Stmt) (md : Md) (tab : Option Nat := none) : DD := ⟨a, name, qual, defArgs st, defBody st, defScope st, nmsOf (defScope st), (defArgs st).args.map (·.arg), md, tab⟩
def d0 : DD := mkD ("_wall", none) "_wall" "_wall" (top 0) .open
def d1 : DD := mkD ("Term", some "below") "below" "Term.below" (inC 2 0) .open
def d2 : DD := mkD ("Term", some "value_by") "value_by" "Term.value_by" (inC 2 1) .cold
def d3 : DD := mkD ("Term", some "shown") "shown" "Term.shown" (inC 2 2) .open
def d4 : DD := mkD ("Term", some "own_take") "own_take" "Term.own_take" (inC 2 3) .open
def d5 : DD := mkD ("Term", some "own_wrong") "own_wrong" "Term.own_wrong" (inC 2 4) .open
def d6 : DD := mkD ("Term", some "first_wrong") "first_wrong" "Term.first_wrong" (inC 2 5) .open
def d7 : DD := mkD ("Term", some "takes") "takes" "Term.takes" (inC 2 6) .open
def d8 : DD := mkD ("Term", some "depth") "depth" "Term.depth" (inC 2 7) .open
def d9 : DD := mkD ("Term", some "parts") "parts" "Term.parts" (inC 2 8) .open
def d10 : DD := mkD ("Number", some "__init__") "__init__" "Number.__init__" (inC 3 0) .open
def d11 : DD := mkD ("Number", some "value_by") "value_by" "Number.value_by" (inC 3 1) .cold
def d12 : DD := mkD ("Number", some "shown") "shown" "Number.shown" (inC 3 2) .open
def d13 : DD := mkD ("Number", some "own_wrong") "own_wrong" "Number.own_wrong" (inC 3 3) .open
def d14 : DD := mkD ("Take", some "__init__") "__init__" "Take.__init__" (inC 4 0) .open
def d15 : DD := mkD ("Take", some "value_by") "value_by" "Take.value_by" (inC 4 1) .cold
def d16 : DD := mkD ("Take", some "shown") "shown" "Take.shown" (inC 4 2) .open
def d17 : DD := mkD ("Take", some "own_take") "own_take" "Take.own_take" (inC 4 3) .open
def d18 : DD := mkD ("Take", some "own_wrong") "own_wrong" "Take.own_wrong" (inC 4 4) .open
def d19 : DD := mkD ("Paired", some "__init__") "__init__" "Paired.__init__" (inC 5 0) .open
def d20 : DD := mkD ("Paired", some "below") "below" "Paired.below" (inC 5 1) .open
def d21 : DD := mkD ("Paired", some "word") "word" "Paired.word" (inC 5 2) .open
def d22 : DD := mkD ("Paired", some "shown") "shown" "Paired.shown" (inC 5 3) .open
def d23 : DD := mkD ("Added", some "value_by") "value_by" "Added.value_by" (inC 6 0) .cold
def d24 : DD := mkD ("Lessened", some "word") "word" "Lessened.word" (inC 7 0) .open
def d25 : DD := mkD ("Lessened", some "value_by") "value_by" "Lessened.value_by" (inC 7 1) .cold
def d26 : DD := mkD ("Multiplied", some "word") "word" "Multiplied.word" (inC 8 0) .open
def d27 : DD := mkD ("Multiplied", some "value_by") "value_by" "Multiplied.value_by" (inC 8 1) .cold
def d28 : DD := mkD ("Least", some "word") "word" "Least.word" (inC 9 0) .open
def d29 : DD := mkD ("Least", some "value_by") "value_by" "Least.value_by" (inC 9 1) .cold
def d30 : DD := mkD ("Most", some "word") "word" "Most.word" (inC 10 0) .open
def d31 : DD := mkD ("Most", some "value_by") "value_by" "Most.value_by" (inC 10 1) .cold
def d32 : DD := mkD ("Rest", some "__init__") "__init__" "Rest.__init__" (inC 11 0) .open
def d33 : DD := mkD ("Rest", some "below") "below" "Rest.below" (inC 11 1) .open
def d34 : DD := mkD ("Rest", some "value_by") "value_by" "Rest.value_by" (inC 11 2) .cold
def d35 : DD := mkD ("Rest", some "shown") "shown" "Rest.shown" (inC 11 3) .open
def d36 : DD := mkD ("Rest", some "own_wrong") "own_wrong" "Rest.own_wrong" (inC 11 4) .open
def d37 : DD := mkD ("Chosen", some "__init__") "__init__" "Chosen.__init__" (inC 12 0) .open
def d38 : DD := mkD ("Chosen", some "below") "below" "Chosen.below" (inC 12 1) .open
def d39 : DD := mkD ("Chosen", some "value_by") "value_by" "Chosen.value_by" (inC 12 2) .cold
def d40 : DD := mkD ("Chosen", some "shown") "shown" "Chosen.shown" (inC 12 3) .open
def d41 : DD := mkD ("_law_cell_at", none) "_law_cell_at" "_law_cell_at" (top 14) .open
def d42 : DD := mkD ("_law_well", none) "_law_well" "_law_well" (top 15) .fresh
def d43 : DD := mkD ("_law_draw", none) "_law_draw" "_law_draw" (top 16) .open
def d44 : DD := mkD ("_law_steps", none) "_law_steps" "_law_steps" (top 17) .cold
def d45 : DD := mkD ("_law_some_takes", none) "_law_some_takes" "_law_some_takes" (top 18) .fresh
def d46 : DD := mkD ("_law_number", none) "_law_number" "_law_number" (top 19) .cold
def d47 : DD := mkD ("_law_told", none) "_law_told" "_law_told" (top 20) .cold
def d48 : DD := mkD ("_law_made", none) "_law_made" "_law_made" (top 21) .cold
def d49 : DD := mkD ("_law_value", none) "_law_value" "_law_value" (top 22) .cold
def d50 : DD := mkD ("_law_worths", none) "_law_worths" "_law_worths" (top 23) .open
def d51 : DD := mkD ("_law_fields", none) "_law_fields" "_law_fields" (top 24) .cold
def d52 : DD := mkD ("_law_right", none) "_law_right" "_law_right" (top 25) .cold (some 0)
def d53 : DD := mkD ("law", none) "law" "law" (top 26) .open
def dds : List DD := [d0, d1, d2, d3, d4, d5, d6, d7, d8, d9, d10, d11, d12, d13, d14, d15, d16, d17, d18, d19, d20, d21, d22, d23, d24, d25, d26, d27, d28, d29, d30, d31, d32, d33, d34, d35, d36, d37, d38, d39, d40, d41, d42, d43, d44, d45, d46, d47, d48, d49, d50, d51, d52, d53]
def c0 : CD := ⟨"Term", none, [(0, 1), (1, 2), (2, 3), (3, 4), (4, 5), (5, 6), (6, 7), (7, 8), (8, 9)], [], true⟩
def c1 : CD := ⟨"Number", some 10, [(0, 1), (1, 11), (2, 12), (3, 4), (4, 13), (5, 6), (6, 7), (7, 8), (8, 9), (9, 10)], [10], true⟩
def c2 : CD := ⟨"Take", some 14, [(0, 1), (1, 15), (2, 16), (3, 17), (4, 18), (5, 6), (6, 7), (7, 8), (8, 9), (9, 14)], [11, 12], true⟩
def c3 : CD := ⟨"Paired", some 19, [(0, 20), (1, 2), (2, 22), (3, 4), (4, 5), (5, 6), (6, 7), (7, 8), (8, 9), (9, 19), (13, 21)], [14, 15], true⟩
def c4 : CD := ⟨"Added", some 19, [(0, 20), (1, 23), (2, 22), (3, 4), (4, 5), (5, 6), (6, 7), (7, 8), (8, 9), (9, 19), (13, 21)], [14, 15], true⟩
def c5 : CD := ⟨"Lessened", some 19, [(0, 20), (1, 25), (2, 22), (3, 4), (4, 5), (5, 6), (6, 7), (7, 8), (8, 9), (9, 19), (13, 24)], [14, 15], true⟩
def c6 : CD := ⟨"Multiplied", some 19, [(0, 20), (1, 27), (2, 22), (3, 4), (4, 5), (5, 6), (6, 7), (7, 8), (8, 9), (9, 19), (13, 26)], [14, 15], true⟩
def c7 : CD := ⟨"Least", some 19, [(0, 20), (1, 29), (2, 22), (3, 4), (4, 5), (5, 6), (6, 7), (7, 8), (8, 9), (9, 19), (13, 28)], [14, 15], true⟩
def c8 : CD := ⟨"Most", some 19, [(0, 20), (1, 31), (2, 22), (3, 4), (4, 5), (5, 6), (6, 7), (7, 8), (8, 9), (9, 19), (13, 30)], [14, 15], true⟩
def c9 : CD := ⟨"Rest", some 32, [(0, 33), (1, 34), (2, 35), (3, 4), (4, 36), (5, 6), (6, 7), (7, 8), (8, 9), (9, 32)], [14, 16], true⟩
def c10 : CD := ⟨"Chosen", some 37, [(0, 38), (1, 39), (2, 40), (3, 4), (4, 5), (5, 6), (6, 7), (7, 8), (8, 9), (9, 37)], [17, 14, 15], true⟩
def pg : Pg where
  dds := dds
  cds := [c0, c1, c2, c3, c4, c5, c6, c7, c8, c9, c10]
  con := []
  att := [Str.ofString "below", Str.ofString "value_by", Str.ofString "shown", Str.ofString "own_take", Str.ofString "own_wrong", Str.ofString "first_wrong", Str.ofString "takes", Str.ofString "depth", Str.ofString "parts", Str.ofString "__init__", Str.ofString "value", Str.ofString "back", Str.ofString "steps", Str.ofString "word", Str.ofString "one", Str.ofString "other", Str.ofString "by", Str.ofString "test", Str.ofString "update"]
  turns := 1000
  tfs := [(("_law_right", none), "_law_right")]
  cup := [["Term"], ["Number", "Term"], ["Take", "Term"], ["Paired", "Term"], ["Added", "Paired", "Term"], ["Lessened", "Paired", "Term"], ["Multiplied", "Paired", "Term"], ["Least", "Paired", "Term"], ["Most", "Paired", "Term"], ["Rest", "Term"], ["Chosen", "Term"]]
theorem cls0 : pg.cls 0 = some ⟨none, [(0, 1), (1, 2), (2, 3), (3, 4), (4, 5), (5, 6), (6, 7), (7, 8), (8, 9)], true⟩ := by kernel_rfl
theorem me0_0 (r : Nat → List Wv → Hs → Rz Wv) (t : Nat) : methOf ⟨pg.glo, pg.cls, pg.fld, r, t⟩ 0 0 = some 1 := by
  show (pg.cls 0).bind _ = _
  rw [cls0]; rfl
theorem me0_1 (r : Nat → List Wv → Hs → Rz Wv) (t : Nat) : methOf ⟨pg.glo, pg.cls, pg.fld, r, t⟩ 0 1 = some 2 := by
  show (pg.cls 0).bind _ = _
  rw [cls0]; rfl
theorem me0_2 (r : Nat → List Wv → Hs → Rz Wv) (t : Nat) : methOf ⟨pg.glo, pg.cls, pg.fld, r, t⟩ 0 2 = some 3 := by
  show (pg.cls 0).bind _ = _
  rw [cls0]; rfl
theorem me0_3 (r : Nat → List Wv → Hs → Rz Wv) (t : Nat) : methOf ⟨pg.glo, pg.cls, pg.fld, r, t⟩ 0 3 = some 4 := by
  show (pg.cls 0).bind _ = _
  rw [cls0]; rfl
theorem me0_4 (r : Nat → List Wv → Hs → Rz Wv) (t : Nat) : methOf ⟨pg.glo, pg.cls, pg.fld, r, t⟩ 0 4 = some 5 := by
  show (pg.cls 0).bind _ = _
  rw [cls0]; rfl
theorem me0_5 (r : Nat → List Wv → Hs → Rz Wv) (t : Nat) : methOf ⟨pg.glo, pg.cls, pg.fld, r, t⟩ 0 5 = some 6 := by
  show (pg.cls 0).bind _ = _
  rw [cls0]; rfl
theorem me0_6 (r : Nat → List Wv → Hs → Rz Wv) (t : Nat) : methOf ⟨pg.glo, pg.cls, pg.fld, r, t⟩ 0 6 = some 7 := by
  show (pg.cls 0).bind _ = _
  rw [cls0]; rfl
theorem me0_7 (r : Nat → List Wv → Hs → Rz Wv) (t : Nat) : methOf ⟨pg.glo, pg.cls, pg.fld, r, t⟩ 0 7 = some 8 := by
  show (pg.cls 0).bind _ = _
  rw [cls0]; rfl
theorem me0_8 (r : Nat → List Wv → Hs → Rz Wv) (t : Nat) : methOf ⟨pg.glo, pg.cls, pg.fld, r, t⟩ 0 8 = some 9 := by
  show (pg.cls 0).bind _ = _
  rw [cls0]; rfl
theorem cls1 : pg.cls 1 = some ⟨some 10, [(0, 1), (1, 11), (2, 12), (3, 4), (4, 13), (5, 6), (6, 7), (7, 8), (8, 9), (9, 10)], true⟩ := by kernel_rfl
theorem me1_0 (r : Nat → List Wv → Hs → Rz Wv) (t : Nat) : methOf ⟨pg.glo, pg.cls, pg.fld, r, t⟩ 1 0 = some 1 := by
  show (pg.cls 1).bind _ = _
  rw [cls1]; rfl
theorem me1_1 (r : Nat → List Wv → Hs → Rz Wv) (t : Nat) : methOf ⟨pg.glo, pg.cls, pg.fld, r, t⟩ 1 1 = some 11 := by
  show (pg.cls 1).bind _ = _
  rw [cls1]; rfl
theorem me1_2 (r : Nat → List Wv → Hs → Rz Wv) (t : Nat) : methOf ⟨pg.glo, pg.cls, pg.fld, r, t⟩ 1 2 = some 12 := by
  show (pg.cls 1).bind _ = _
  rw [cls1]; rfl
theorem me1_3 (r : Nat → List Wv → Hs → Rz Wv) (t : Nat) : methOf ⟨pg.glo, pg.cls, pg.fld, r, t⟩ 1 3 = some 4 := by
  show (pg.cls 1).bind _ = _
  rw [cls1]; rfl
theorem me1_4 (r : Nat → List Wv → Hs → Rz Wv) (t : Nat) : methOf ⟨pg.glo, pg.cls, pg.fld, r, t⟩ 1 4 = some 13 := by
  show (pg.cls 1).bind _ = _
  rw [cls1]; rfl
theorem me1_5 (r : Nat → List Wv → Hs → Rz Wv) (t : Nat) : methOf ⟨pg.glo, pg.cls, pg.fld, r, t⟩ 1 5 = some 6 := by
  show (pg.cls 1).bind _ = _
  rw [cls1]; rfl
theorem me1_6 (r : Nat → List Wv → Hs → Rz Wv) (t : Nat) : methOf ⟨pg.glo, pg.cls, pg.fld, r, t⟩ 1 6 = some 7 := by
  show (pg.cls 1).bind _ = _
  rw [cls1]; rfl
theorem me1_7 (r : Nat → List Wv → Hs → Rz Wv) (t : Nat) : methOf ⟨pg.glo, pg.cls, pg.fld, r, t⟩ 1 7 = some 8 := by
  show (pg.cls 1).bind _ = _
  rw [cls1]; rfl
theorem me1_8 (r : Nat → List Wv → Hs → Rz Wv) (t : Nat) : methOf ⟨pg.glo, pg.cls, pg.fld, r, t⟩ 1 8 = some 9 := by
  show (pg.cls 1).bind _ = _
  rw [cls1]; rfl
theorem me1_9 (r : Nat → List Wv → Hs → Rz Wv) (t : Nat) : methOf ⟨pg.glo, pg.cls, pg.fld, r, t⟩ 1 9 = some 10 := by
  show (pg.cls 1).bind _ = _
  rw [cls1]; rfl
theorem fl110 : pg.fld 1 10 = true := by kernel_rfl
theorem cls2 : pg.cls 2 = some ⟨some 14, [(0, 1), (1, 15), (2, 16), (3, 17), (4, 18), (5, 6), (6, 7), (7, 8), (8, 9), (9, 14)], true⟩ := by kernel_rfl
theorem me2_0 (r : Nat → List Wv → Hs → Rz Wv) (t : Nat) : methOf ⟨pg.glo, pg.cls, pg.fld, r, t⟩ 2 0 = some 1 := by
  show (pg.cls 2).bind _ = _
  rw [cls2]; rfl
theorem me2_1 (r : Nat → List Wv → Hs → Rz Wv) (t : Nat) : methOf ⟨pg.glo, pg.cls, pg.fld, r, t⟩ 2 1 = some 15 := by
  show (pg.cls 2).bind _ = _
  rw [cls2]; rfl
theorem me2_2 (r : Nat → List Wv → Hs → Rz Wv) (t : Nat) : methOf ⟨pg.glo, pg.cls, pg.fld, r, t⟩ 2 2 = some 16 := by
  show (pg.cls 2).bind _ = _
  rw [cls2]; rfl
theorem me2_3 (r : Nat → List Wv → Hs → Rz Wv) (t : Nat) : methOf ⟨pg.glo, pg.cls, pg.fld, r, t⟩ 2 3 = some 17 := by
  show (pg.cls 2).bind _ = _
  rw [cls2]; rfl
theorem me2_4 (r : Nat → List Wv → Hs → Rz Wv) (t : Nat) : methOf ⟨pg.glo, pg.cls, pg.fld, r, t⟩ 2 4 = some 18 := by
  show (pg.cls 2).bind _ = _
  rw [cls2]; rfl
theorem me2_5 (r : Nat → List Wv → Hs → Rz Wv) (t : Nat) : methOf ⟨pg.glo, pg.cls, pg.fld, r, t⟩ 2 5 = some 6 := by
  show (pg.cls 2).bind _ = _
  rw [cls2]; rfl
theorem me2_6 (r : Nat → List Wv → Hs → Rz Wv) (t : Nat) : methOf ⟨pg.glo, pg.cls, pg.fld, r, t⟩ 2 6 = some 7 := by
  show (pg.cls 2).bind _ = _
  rw [cls2]; rfl
theorem me2_7 (r : Nat → List Wv → Hs → Rz Wv) (t : Nat) : methOf ⟨pg.glo, pg.cls, pg.fld, r, t⟩ 2 7 = some 8 := by
  show (pg.cls 2).bind _ = _
  rw [cls2]; rfl
theorem me2_8 (r : Nat → List Wv → Hs → Rz Wv) (t : Nat) : methOf ⟨pg.glo, pg.cls, pg.fld, r, t⟩ 2 8 = some 9 := by
  show (pg.cls 2).bind _ = _
  rw [cls2]; rfl
theorem me2_9 (r : Nat → List Wv → Hs → Rz Wv) (t : Nat) : methOf ⟨pg.glo, pg.cls, pg.fld, r, t⟩ 2 9 = some 14 := by
  show (pg.cls 2).bind _ = _
  rw [cls2]; rfl
theorem fl211 : pg.fld 2 11 = true := by kernel_rfl
theorem fl212 : pg.fld 2 12 = true := by kernel_rfl
theorem cls3 : pg.cls 3 = some ⟨some 19, [(0, 20), (1, 2), (2, 22), (3, 4), (4, 5), (5, 6), (6, 7), (7, 8), (8, 9), (9, 19), (13, 21)], true⟩ := by kernel_rfl
theorem me3_0 (r : Nat → List Wv → Hs → Rz Wv) (t : Nat) : methOf ⟨pg.glo, pg.cls, pg.fld, r, t⟩ 3 0 = some 20 := by
  show (pg.cls 3).bind _ = _
  rw [cls3]; rfl
theorem me3_1 (r : Nat → List Wv → Hs → Rz Wv) (t : Nat) : methOf ⟨pg.glo, pg.cls, pg.fld, r, t⟩ 3 1 = some 2 := by
  show (pg.cls 3).bind _ = _
  rw [cls3]; rfl
theorem me3_2 (r : Nat → List Wv → Hs → Rz Wv) (t : Nat) : methOf ⟨pg.glo, pg.cls, pg.fld, r, t⟩ 3 2 = some 22 := by
  show (pg.cls 3).bind _ = _
  rw [cls3]; rfl
theorem me3_3 (r : Nat → List Wv → Hs → Rz Wv) (t : Nat) : methOf ⟨pg.glo, pg.cls, pg.fld, r, t⟩ 3 3 = some 4 := by
  show (pg.cls 3).bind _ = _
  rw [cls3]; rfl
theorem me3_4 (r : Nat → List Wv → Hs → Rz Wv) (t : Nat) : methOf ⟨pg.glo, pg.cls, pg.fld, r, t⟩ 3 4 = some 5 := by
  show (pg.cls 3).bind _ = _
  rw [cls3]; rfl
theorem me3_5 (r : Nat → List Wv → Hs → Rz Wv) (t : Nat) : methOf ⟨pg.glo, pg.cls, pg.fld, r, t⟩ 3 5 = some 6 := by
  show (pg.cls 3).bind _ = _
  rw [cls3]; rfl
theorem me3_6 (r : Nat → List Wv → Hs → Rz Wv) (t : Nat) : methOf ⟨pg.glo, pg.cls, pg.fld, r, t⟩ 3 6 = some 7 := by
  show (pg.cls 3).bind _ = _
  rw [cls3]; rfl
theorem me3_7 (r : Nat → List Wv → Hs → Rz Wv) (t : Nat) : methOf ⟨pg.glo, pg.cls, pg.fld, r, t⟩ 3 7 = some 8 := by
  show (pg.cls 3).bind _ = _
  rw [cls3]; rfl
theorem me3_8 (r : Nat → List Wv → Hs → Rz Wv) (t : Nat) : methOf ⟨pg.glo, pg.cls, pg.fld, r, t⟩ 3 8 = some 9 := by
  show (pg.cls 3).bind _ = _
  rw [cls3]; rfl
theorem me3_9 (r : Nat → List Wv → Hs → Rz Wv) (t : Nat) : methOf ⟨pg.glo, pg.cls, pg.fld, r, t⟩ 3 9 = some 19 := by
  show (pg.cls 3).bind _ = _
  rw [cls3]; rfl
theorem me3_13 (r : Nat → List Wv → Hs → Rz Wv) (t : Nat) : methOf ⟨pg.glo, pg.cls, pg.fld, r, t⟩ 3 13 = some 21 := by
  show (pg.cls 3).bind _ = _
  rw [cls3]; rfl
theorem fl314 : pg.fld 3 14 = true := by kernel_rfl
theorem fl315 : pg.fld 3 15 = true := by kernel_rfl
theorem cls4 : pg.cls 4 = some ⟨some 19, [(0, 20), (1, 23), (2, 22), (3, 4), (4, 5), (5, 6), (6, 7), (7, 8), (8, 9), (9, 19), (13, 21)], true⟩ := by kernel_rfl
theorem me4_0 (r : Nat → List Wv → Hs → Rz Wv) (t : Nat) : methOf ⟨pg.glo, pg.cls, pg.fld, r, t⟩ 4 0 = some 20 := by
  show (pg.cls 4).bind _ = _
  rw [cls4]; rfl
theorem me4_1 (r : Nat → List Wv → Hs → Rz Wv) (t : Nat) : methOf ⟨pg.glo, pg.cls, pg.fld, r, t⟩ 4 1 = some 23 := by
  show (pg.cls 4).bind _ = _
  rw [cls4]; rfl
theorem me4_2 (r : Nat → List Wv → Hs → Rz Wv) (t : Nat) : methOf ⟨pg.glo, pg.cls, pg.fld, r, t⟩ 4 2 = some 22 := by
  show (pg.cls 4).bind _ = _
  rw [cls4]; rfl
theorem me4_3 (r : Nat → List Wv → Hs → Rz Wv) (t : Nat) : methOf ⟨pg.glo, pg.cls, pg.fld, r, t⟩ 4 3 = some 4 := by
  show (pg.cls 4).bind _ = _
  rw [cls4]; rfl
theorem me4_4 (r : Nat → List Wv → Hs → Rz Wv) (t : Nat) : methOf ⟨pg.glo, pg.cls, pg.fld, r, t⟩ 4 4 = some 5 := by
  show (pg.cls 4).bind _ = _
  rw [cls4]; rfl
theorem me4_5 (r : Nat → List Wv → Hs → Rz Wv) (t : Nat) : methOf ⟨pg.glo, pg.cls, pg.fld, r, t⟩ 4 5 = some 6 := by
  show (pg.cls 4).bind _ = _
  rw [cls4]; rfl
theorem me4_6 (r : Nat → List Wv → Hs → Rz Wv) (t : Nat) : methOf ⟨pg.glo, pg.cls, pg.fld, r, t⟩ 4 6 = some 7 := by
  show (pg.cls 4).bind _ = _
  rw [cls4]; rfl
theorem me4_7 (r : Nat → List Wv → Hs → Rz Wv) (t : Nat) : methOf ⟨pg.glo, pg.cls, pg.fld, r, t⟩ 4 7 = some 8 := by
  show (pg.cls 4).bind _ = _
  rw [cls4]; rfl
theorem me4_8 (r : Nat → List Wv → Hs → Rz Wv) (t : Nat) : methOf ⟨pg.glo, pg.cls, pg.fld, r, t⟩ 4 8 = some 9 := by
  show (pg.cls 4).bind _ = _
  rw [cls4]; rfl
theorem me4_9 (r : Nat → List Wv → Hs → Rz Wv) (t : Nat) : methOf ⟨pg.glo, pg.cls, pg.fld, r, t⟩ 4 9 = some 19 := by
  show (pg.cls 4).bind _ = _
  rw [cls4]; rfl
theorem me4_13 (r : Nat → List Wv → Hs → Rz Wv) (t : Nat) : methOf ⟨pg.glo, pg.cls, pg.fld, r, t⟩ 4 13 = some 21 := by
  show (pg.cls 4).bind _ = _
  rw [cls4]; rfl
theorem fl414 : pg.fld 4 14 = true := by kernel_rfl
theorem fl415 : pg.fld 4 15 = true := by kernel_rfl
theorem cls5 : pg.cls 5 = some ⟨some 19, [(0, 20), (1, 25), (2, 22), (3, 4), (4, 5), (5, 6), (6, 7), (7, 8), (8, 9), (9, 19), (13, 24)], true⟩ := by kernel_rfl
theorem me5_0 (r : Nat → List Wv → Hs → Rz Wv) (t : Nat) : methOf ⟨pg.glo, pg.cls, pg.fld, r, t⟩ 5 0 = some 20 := by
  show (pg.cls 5).bind _ = _
  rw [cls5]; rfl
theorem me5_1 (r : Nat → List Wv → Hs → Rz Wv) (t : Nat) : methOf ⟨pg.glo, pg.cls, pg.fld, r, t⟩ 5 1 = some 25 := by
  show (pg.cls 5).bind _ = _
  rw [cls5]; rfl
theorem me5_2 (r : Nat → List Wv → Hs → Rz Wv) (t : Nat) : methOf ⟨pg.glo, pg.cls, pg.fld, r, t⟩ 5 2 = some 22 := by
  show (pg.cls 5).bind _ = _
  rw [cls5]; rfl
theorem me5_3 (r : Nat → List Wv → Hs → Rz Wv) (t : Nat) : methOf ⟨pg.glo, pg.cls, pg.fld, r, t⟩ 5 3 = some 4 := by
  show (pg.cls 5).bind _ = _
  rw [cls5]; rfl
theorem me5_4 (r : Nat → List Wv → Hs → Rz Wv) (t : Nat) : methOf ⟨pg.glo, pg.cls, pg.fld, r, t⟩ 5 4 = some 5 := by
  show (pg.cls 5).bind _ = _
  rw [cls5]; rfl
theorem me5_5 (r : Nat → List Wv → Hs → Rz Wv) (t : Nat) : methOf ⟨pg.glo, pg.cls, pg.fld, r, t⟩ 5 5 = some 6 := by
  show (pg.cls 5).bind _ = _
  rw [cls5]; rfl
theorem me5_6 (r : Nat → List Wv → Hs → Rz Wv) (t : Nat) : methOf ⟨pg.glo, pg.cls, pg.fld, r, t⟩ 5 6 = some 7 := by
  show (pg.cls 5).bind _ = _
  rw [cls5]; rfl
theorem me5_7 (r : Nat → List Wv → Hs → Rz Wv) (t : Nat) : methOf ⟨pg.glo, pg.cls, pg.fld, r, t⟩ 5 7 = some 8 := by
  show (pg.cls 5).bind _ = _
  rw [cls5]; rfl
theorem me5_8 (r : Nat → List Wv → Hs → Rz Wv) (t : Nat) : methOf ⟨pg.glo, pg.cls, pg.fld, r, t⟩ 5 8 = some 9 := by
  show (pg.cls 5).bind _ = _
  rw [cls5]; rfl
theorem me5_9 (r : Nat → List Wv → Hs → Rz Wv) (t : Nat) : methOf ⟨pg.glo, pg.cls, pg.fld, r, t⟩ 5 9 = some 19 := by
  show (pg.cls 5).bind _ = _
  rw [cls5]; rfl
theorem me5_13 (r : Nat → List Wv → Hs → Rz Wv) (t : Nat) : methOf ⟨pg.glo, pg.cls, pg.fld, r, t⟩ 5 13 = some 24 := by
  show (pg.cls 5).bind _ = _
  rw [cls5]; rfl
theorem fl514 : pg.fld 5 14 = true := by kernel_rfl
theorem fl515 : pg.fld 5 15 = true := by kernel_rfl
theorem cls6 : pg.cls 6 = some ⟨some 19, [(0, 20), (1, 27), (2, 22), (3, 4), (4, 5), (5, 6), (6, 7), (7, 8), (8, 9), (9, 19), (13, 26)], true⟩ := by kernel_rfl
theorem me6_0 (r : Nat → List Wv → Hs → Rz Wv) (t : Nat) : methOf ⟨pg.glo, pg.cls, pg.fld, r, t⟩ 6 0 = some 20 := by
  show (pg.cls 6).bind _ = _
  rw [cls6]; rfl
theorem me6_1 (r : Nat → List Wv → Hs → Rz Wv) (t : Nat) : methOf ⟨pg.glo, pg.cls, pg.fld, r, t⟩ 6 1 = some 27 := by
  show (pg.cls 6).bind _ = _
  rw [cls6]; rfl
theorem me6_2 (r : Nat → List Wv → Hs → Rz Wv) (t : Nat) : methOf ⟨pg.glo, pg.cls, pg.fld, r, t⟩ 6 2 = some 22 := by
  show (pg.cls 6).bind _ = _
  rw [cls6]; rfl
theorem me6_3 (r : Nat → List Wv → Hs → Rz Wv) (t : Nat) : methOf ⟨pg.glo, pg.cls, pg.fld, r, t⟩ 6 3 = some 4 := by
  show (pg.cls 6).bind _ = _
  rw [cls6]; rfl
theorem me6_4 (r : Nat → List Wv → Hs → Rz Wv) (t : Nat) : methOf ⟨pg.glo, pg.cls, pg.fld, r, t⟩ 6 4 = some 5 := by
  show (pg.cls 6).bind _ = _
  rw [cls6]; rfl
theorem me6_5 (r : Nat → List Wv → Hs → Rz Wv) (t : Nat) : methOf ⟨pg.glo, pg.cls, pg.fld, r, t⟩ 6 5 = some 6 := by
  show (pg.cls 6).bind _ = _
  rw [cls6]; rfl
theorem me6_6 (r : Nat → List Wv → Hs → Rz Wv) (t : Nat) : methOf ⟨pg.glo, pg.cls, pg.fld, r, t⟩ 6 6 = some 7 := by
  show (pg.cls 6).bind _ = _
  rw [cls6]; rfl
theorem me6_7 (r : Nat → List Wv → Hs → Rz Wv) (t : Nat) : methOf ⟨pg.glo, pg.cls, pg.fld, r, t⟩ 6 7 = some 8 := by
  show (pg.cls 6).bind _ = _
  rw [cls6]; rfl
theorem me6_8 (r : Nat → List Wv → Hs → Rz Wv) (t : Nat) : methOf ⟨pg.glo, pg.cls, pg.fld, r, t⟩ 6 8 = some 9 := by
  show (pg.cls 6).bind _ = _
  rw [cls6]; rfl
theorem me6_9 (r : Nat → List Wv → Hs → Rz Wv) (t : Nat) : methOf ⟨pg.glo, pg.cls, pg.fld, r, t⟩ 6 9 = some 19 := by
  show (pg.cls 6).bind _ = _
  rw [cls6]; rfl
theorem me6_13 (r : Nat → List Wv → Hs → Rz Wv) (t : Nat) : methOf ⟨pg.glo, pg.cls, pg.fld, r, t⟩ 6 13 = some 26 := by
  show (pg.cls 6).bind _ = _
  rw [cls6]; rfl
theorem fl614 : pg.fld 6 14 = true := by kernel_rfl
theorem fl615 : pg.fld 6 15 = true := by kernel_rfl
theorem cls7 : pg.cls 7 = some ⟨some 19, [(0, 20), (1, 29), (2, 22), (3, 4), (4, 5), (5, 6), (6, 7), (7, 8), (8, 9), (9, 19), (13, 28)], true⟩ := by kernel_rfl
theorem me7_0 (r : Nat → List Wv → Hs → Rz Wv) (t : Nat) : methOf ⟨pg.glo, pg.cls, pg.fld, r, t⟩ 7 0 = some 20 := by
  show (pg.cls 7).bind _ = _
  rw [cls7]; rfl
theorem me7_1 (r : Nat → List Wv → Hs → Rz Wv) (t : Nat) : methOf ⟨pg.glo, pg.cls, pg.fld, r, t⟩ 7 1 = some 29 := by
  show (pg.cls 7).bind _ = _
  rw [cls7]; rfl
theorem me7_2 (r : Nat → List Wv → Hs → Rz Wv) (t : Nat) : methOf ⟨pg.glo, pg.cls, pg.fld, r, t⟩ 7 2 = some 22 := by
  show (pg.cls 7).bind _ = _
  rw [cls7]; rfl
theorem me7_3 (r : Nat → List Wv → Hs → Rz Wv) (t : Nat) : methOf ⟨pg.glo, pg.cls, pg.fld, r, t⟩ 7 3 = some 4 := by
  show (pg.cls 7).bind _ = _
  rw [cls7]; rfl
theorem me7_4 (r : Nat → List Wv → Hs → Rz Wv) (t : Nat) : methOf ⟨pg.glo, pg.cls, pg.fld, r, t⟩ 7 4 = some 5 := by
  show (pg.cls 7).bind _ = _
  rw [cls7]; rfl
theorem me7_5 (r : Nat → List Wv → Hs → Rz Wv) (t : Nat) : methOf ⟨pg.glo, pg.cls, pg.fld, r, t⟩ 7 5 = some 6 := by
  show (pg.cls 7).bind _ = _
  rw [cls7]; rfl
theorem me7_6 (r : Nat → List Wv → Hs → Rz Wv) (t : Nat) : methOf ⟨pg.glo, pg.cls, pg.fld, r, t⟩ 7 6 = some 7 := by
  show (pg.cls 7).bind _ = _
  rw [cls7]; rfl
theorem me7_7 (r : Nat → List Wv → Hs → Rz Wv) (t : Nat) : methOf ⟨pg.glo, pg.cls, pg.fld, r, t⟩ 7 7 = some 8 := by
  show (pg.cls 7).bind _ = _
  rw [cls7]; rfl
theorem me7_8 (r : Nat → List Wv → Hs → Rz Wv) (t : Nat) : methOf ⟨pg.glo, pg.cls, pg.fld, r, t⟩ 7 8 = some 9 := by
  show (pg.cls 7).bind _ = _
  rw [cls7]; rfl
theorem me7_9 (r : Nat → List Wv → Hs → Rz Wv) (t : Nat) : methOf ⟨pg.glo, pg.cls, pg.fld, r, t⟩ 7 9 = some 19 := by
  show (pg.cls 7).bind _ = _
  rw [cls7]; rfl
theorem me7_13 (r : Nat → List Wv → Hs → Rz Wv) (t : Nat) : methOf ⟨pg.glo, pg.cls, pg.fld, r, t⟩ 7 13 = some 28 := by
  show (pg.cls 7).bind _ = _
  rw [cls7]; rfl
theorem fl714 : pg.fld 7 14 = true := by kernel_rfl
theorem fl715 : pg.fld 7 15 = true := by kernel_rfl
theorem cls8 : pg.cls 8 = some ⟨some 19, [(0, 20), (1, 31), (2, 22), (3, 4), (4, 5), (5, 6), (6, 7), (7, 8), (8, 9), (9, 19), (13, 30)], true⟩ := by kernel_rfl
theorem me8_0 (r : Nat → List Wv → Hs → Rz Wv) (t : Nat) : methOf ⟨pg.glo, pg.cls, pg.fld, r, t⟩ 8 0 = some 20 := by
  show (pg.cls 8).bind _ = _
  rw [cls8]; rfl
theorem me8_1 (r : Nat → List Wv → Hs → Rz Wv) (t : Nat) : methOf ⟨pg.glo, pg.cls, pg.fld, r, t⟩ 8 1 = some 31 := by
  show (pg.cls 8).bind _ = _
  rw [cls8]; rfl
theorem me8_2 (r : Nat → List Wv → Hs → Rz Wv) (t : Nat) : methOf ⟨pg.glo, pg.cls, pg.fld, r, t⟩ 8 2 = some 22 := by
  show (pg.cls 8).bind _ = _
  rw [cls8]; rfl
theorem me8_3 (r : Nat → List Wv → Hs → Rz Wv) (t : Nat) : methOf ⟨pg.glo, pg.cls, pg.fld, r, t⟩ 8 3 = some 4 := by
  show (pg.cls 8).bind _ = _
  rw [cls8]; rfl
theorem me8_4 (r : Nat → List Wv → Hs → Rz Wv) (t : Nat) : methOf ⟨pg.glo, pg.cls, pg.fld, r, t⟩ 8 4 = some 5 := by
  show (pg.cls 8).bind _ = _
  rw [cls8]; rfl
theorem me8_5 (r : Nat → List Wv → Hs → Rz Wv) (t : Nat) : methOf ⟨pg.glo, pg.cls, pg.fld, r, t⟩ 8 5 = some 6 := by
  show (pg.cls 8).bind _ = _
  rw [cls8]; rfl
theorem me8_6 (r : Nat → List Wv → Hs → Rz Wv) (t : Nat) : methOf ⟨pg.glo, pg.cls, pg.fld, r, t⟩ 8 6 = some 7 := by
  show (pg.cls 8).bind _ = _
  rw [cls8]; rfl
theorem me8_7 (r : Nat → List Wv → Hs → Rz Wv) (t : Nat) : methOf ⟨pg.glo, pg.cls, pg.fld, r, t⟩ 8 7 = some 8 := by
  show (pg.cls 8).bind _ = _
  rw [cls8]; rfl
theorem me8_8 (r : Nat → List Wv → Hs → Rz Wv) (t : Nat) : methOf ⟨pg.glo, pg.cls, pg.fld, r, t⟩ 8 8 = some 9 := by
  show (pg.cls 8).bind _ = _
  rw [cls8]; rfl
theorem me8_9 (r : Nat → List Wv → Hs → Rz Wv) (t : Nat) : methOf ⟨pg.glo, pg.cls, pg.fld, r, t⟩ 8 9 = some 19 := by
  show (pg.cls 8).bind _ = _
  rw [cls8]; rfl
theorem me8_13 (r : Nat → List Wv → Hs → Rz Wv) (t : Nat) : methOf ⟨pg.glo, pg.cls, pg.fld, r, t⟩ 8 13 = some 30 := by
  show (pg.cls 8).bind _ = _
  rw [cls8]; rfl
theorem fl814 : pg.fld 8 14 = true := by kernel_rfl
theorem fl815 : pg.fld 8 15 = true := by kernel_rfl
theorem cls9 : pg.cls 9 = some ⟨some 32, [(0, 33), (1, 34), (2, 35), (3, 4), (4, 36), (5, 6), (6, 7), (7, 8), (8, 9), (9, 32)], true⟩ := by kernel_rfl
theorem me9_0 (r : Nat → List Wv → Hs → Rz Wv) (t : Nat) : methOf ⟨pg.glo, pg.cls, pg.fld, r, t⟩ 9 0 = some 33 := by
  show (pg.cls 9).bind _ = _
  rw [cls9]; rfl
theorem me9_1 (r : Nat → List Wv → Hs → Rz Wv) (t : Nat) : methOf ⟨pg.glo, pg.cls, pg.fld, r, t⟩ 9 1 = some 34 := by
  show (pg.cls 9).bind _ = _
  rw [cls9]; rfl
theorem me9_2 (r : Nat → List Wv → Hs → Rz Wv) (t : Nat) : methOf ⟨pg.glo, pg.cls, pg.fld, r, t⟩ 9 2 = some 35 := by
  show (pg.cls 9).bind _ = _
  rw [cls9]; rfl
theorem me9_3 (r : Nat → List Wv → Hs → Rz Wv) (t : Nat) : methOf ⟨pg.glo, pg.cls, pg.fld, r, t⟩ 9 3 = some 4 := by
  show (pg.cls 9).bind _ = _
  rw [cls9]; rfl
theorem me9_4 (r : Nat → List Wv → Hs → Rz Wv) (t : Nat) : methOf ⟨pg.glo, pg.cls, pg.fld, r, t⟩ 9 4 = some 36 := by
  show (pg.cls 9).bind _ = _
  rw [cls9]; rfl
theorem me9_5 (r : Nat → List Wv → Hs → Rz Wv) (t : Nat) : methOf ⟨pg.glo, pg.cls, pg.fld, r, t⟩ 9 5 = some 6 := by
  show (pg.cls 9).bind _ = _
  rw [cls9]; rfl
theorem me9_6 (r : Nat → List Wv → Hs → Rz Wv) (t : Nat) : methOf ⟨pg.glo, pg.cls, pg.fld, r, t⟩ 9 6 = some 7 := by
  show (pg.cls 9).bind _ = _
  rw [cls9]; rfl
theorem me9_7 (r : Nat → List Wv → Hs → Rz Wv) (t : Nat) : methOf ⟨pg.glo, pg.cls, pg.fld, r, t⟩ 9 7 = some 8 := by
  show (pg.cls 9).bind _ = _
  rw [cls9]; rfl
theorem me9_8 (r : Nat → List Wv → Hs → Rz Wv) (t : Nat) : methOf ⟨pg.glo, pg.cls, pg.fld, r, t⟩ 9 8 = some 9 := by
  show (pg.cls 9).bind _ = _
  rw [cls9]; rfl
theorem me9_9 (r : Nat → List Wv → Hs → Rz Wv) (t : Nat) : methOf ⟨pg.glo, pg.cls, pg.fld, r, t⟩ 9 9 = some 32 := by
  show (pg.cls 9).bind _ = _
  rw [cls9]; rfl
theorem fl914 : pg.fld 9 14 = true := by kernel_rfl
theorem fl916 : pg.fld 9 16 = true := by kernel_rfl
theorem cls10 : pg.cls 10 = some ⟨some 37, [(0, 38), (1, 39), (2, 40), (3, 4), (4, 5), (5, 6), (6, 7), (7, 8), (8, 9), (9, 37)], true⟩ := by kernel_rfl
theorem me10_0 (r : Nat → List Wv → Hs → Rz Wv) (t : Nat) : methOf ⟨pg.glo, pg.cls, pg.fld, r, t⟩ 10 0 = some 38 := by
  show (pg.cls 10).bind _ = _
  rw [cls10]; rfl
theorem me10_1 (r : Nat → List Wv → Hs → Rz Wv) (t : Nat) : methOf ⟨pg.glo, pg.cls, pg.fld, r, t⟩ 10 1 = some 39 := by
  show (pg.cls 10).bind _ = _
  rw [cls10]; rfl
theorem me10_2 (r : Nat → List Wv → Hs → Rz Wv) (t : Nat) : methOf ⟨pg.glo, pg.cls, pg.fld, r, t⟩ 10 2 = some 40 := by
  show (pg.cls 10).bind _ = _
  rw [cls10]; rfl
theorem me10_3 (r : Nat → List Wv → Hs → Rz Wv) (t : Nat) : methOf ⟨pg.glo, pg.cls, pg.fld, r, t⟩ 10 3 = some 4 := by
  show (pg.cls 10).bind _ = _
  rw [cls10]; rfl
theorem me10_4 (r : Nat → List Wv → Hs → Rz Wv) (t : Nat) : methOf ⟨pg.glo, pg.cls, pg.fld, r, t⟩ 10 4 = some 5 := by
  show (pg.cls 10).bind _ = _
  rw [cls10]; rfl
theorem me10_5 (r : Nat → List Wv → Hs → Rz Wv) (t : Nat) : methOf ⟨pg.glo, pg.cls, pg.fld, r, t⟩ 10 5 = some 6 := by
  show (pg.cls 10).bind _ = _
  rw [cls10]; rfl
theorem me10_6 (r : Nat → List Wv → Hs → Rz Wv) (t : Nat) : methOf ⟨pg.glo, pg.cls, pg.fld, r, t⟩ 10 6 = some 7 := by
  show (pg.cls 10).bind _ = _
  rw [cls10]; rfl
theorem me10_7 (r : Nat → List Wv → Hs → Rz Wv) (t : Nat) : methOf ⟨pg.glo, pg.cls, pg.fld, r, t⟩ 10 7 = some 8 := by
  show (pg.cls 10).bind _ = _
  rw [cls10]; rfl
theorem me10_8 (r : Nat → List Wv → Hs → Rz Wv) (t : Nat) : methOf ⟨pg.glo, pg.cls, pg.fld, r, t⟩ 10 8 = some 9 := by
  show (pg.cls 10).bind _ = _
  rw [cls10]; rfl
theorem me10_9 (r : Nat → List Wv → Hs → Rz Wv) (t : Nat) : methOf ⟨pg.glo, pg.cls, pg.fld, r, t⟩ 10 9 = some 37 := by
  show (pg.cls 10).bind _ = _
  rw [cls10]; rfl
theorem fl1017 : pg.fld 10 17 = true := by kernel_rfl
theorem fl1014 : pg.fld 10 14 = true := by kernel_rfl
theorem fl1015 : pg.fld 10 15 = true := by kernel_rfl
/-- _wall -/
-- 0: k
def l0_0 : List Sm := [.pass]
def s0_0 : Sm := .whl (.cst (.bl true)) l0_0
def b0 : Df := ⟨1, 1, [s0_0], .open⟩
theorem bo0 : d0.bindOk := fun _ _ _ _ _ _ us hl => match us, hl with | [_], _ => rfl
theorem db0 : pg.D 0 = some b0 := by kernel_rfl
/-- Term.below -/
-- 0: self
def s1_0 : Sm := .ret (.lst [])
def b1 : Df := ⟨1, 1, [s1_0], .open⟩
theorem bo1 : d1.bindOk := fun _ _ _ _ _ _ us hl => match us, hl with | [_], _ => rfl
theorem db1 : pg.D 1 = some b1 := by kernel_rfl
/-- Term.value_by -/
-- 0: self, 1: see
def s2_0 : Sm := .ret (.cst (.int 0))
def b2 : Df := ⟨2, 2, [s2_0], .cold⟩
theorem bo2 : d2.bindOk := fun _ _ _ _ _ _ us hl => match us, hl with | [_, _], _ => rfl
theorem db2 : pg.D 2 = some b2 := by kernel_rfl
/-- Term.shown -/
-- 0: self
def s3_0 : Sm := .exp (.call 0 [(.cst (.int 0))])
def b3 : Df := ⟨1, 1, [s3_0], .open⟩
theorem bo3 : d3.bindOk := fun _ _ _ _ _ _ us hl => match us, hl with | [_], _ => rfl
theorem db3 : pg.D 3 = some b3 := by kernel_rfl
/-- Term.own_take -/
-- 0: self
def s4_0 : Sm := .ret (.lst [])
def b4 : Df := ⟨1, 1, [s4_0], .open⟩
theorem bo4 : d4.bindOk := fun _ _ _ _ _ _ us hl => match us, hl with | [_], _ => rfl
theorem db4 : pg.D 4 = some b4 := by kernel_rfl
/-- Term.own_wrong -/
-- 0: self
def s5_0 : Sm := .exp (.call 0 [(.cst (.int 1))])
def b5 : Df := ⟨1, 1, [s5_0], .open⟩
theorem bo5 : d5.bindOk := fun _ _ _ _ _ _ us hl => match us, hl with | [_], _ => rfl
theorem db5 : pg.D 5 = some b5 := by kernel_rfl
/-- Term.first_wrong -/
-- 0: self
def s6_0 : Sm := .exp (.call 0 [(.cst (.int 2))])
def b6 : Df := ⟨1, 1, [s6_0], .open⟩
theorem bo6 : d6.bindOk := fun _ _ _ _ _ _ us hl => match us, hl with | [_], _ => rfl
theorem db6 : pg.D 6 = some b6 := by kernel_rfl
/-- Term.takes -/
-- 0: self, 1: found, 2: one, 3: take
def s7_0 : Sm := .asg (.tg (.name 1)) (.meth (.var 0) 3 [])
def c7_0 : Ex := (.comp (.var 3) [3] (.name 3) (.seq (.meth (.var 2) 6 [])) (some (.cmp .notin (.var 3) (.var 1))))
def l7_0 : List Sm := [.exp (.lm .extend (.var 1) [c7_0])]
def s7_1 : Sm := .for (.name 2) (.seq (.meth (.var 0) 0 [])) l7_0
def s7_2 : Sm := .ret (.blt .sorted [(.var 1)])
def b7 : Df := ⟨1, 4, [s7_0, s7_1, s7_2], .open⟩
theorem bo7 : d7.bindOk := fun _ _ _ _ _ _ us hl => match us, hl with | [_], _ => rfl
theorem db7 : pg.D 7 = some b7 := by kernel_rfl
/-- Term.depth -/
-- 0: self
def s8_0 : Sm := .exp (.call 0 [(.cst (.int 3))])
def b8 : Df := ⟨1, 1, [s8_0], .open⟩
theorem bo8 : d8.bindOk := fun _ _ _ _ _ _ us hl => match us, hl with | [_], _ => rfl
theorem db8 : pg.D 8 = some b8 := by kernel_rfl
/-- Term.parts -/
-- 0: self
def s9_0 : Sm := .exp (.call 0 [(.cst (.int 4))])
def b9 : Df := ⟨1, 1, [s9_0], .open⟩
theorem bo9 : d9.bindOk := fun _ _ _ _ _ _ us hl => match us, hl with | [_], _ => rfl
theorem db9 : pg.D 9 = some b9 := by kernel_rfl
/-- Number.__init__ -/
-- 0: self, 1: value
def s10_0 : Sm := .asg (.att (.var 0) 10) (.var 1)
def b10 : Df := ⟨2, 2, [s10_0], .open⟩
theorem bo10 : d10.bindOk := fun _ _ _ _ _ _ us hl => match us, hl with | [_, _], _ => rfl
theorem db10 : pg.D 10 = some b10 := by kernel_rfl
/-- Number.value_by -/
-- 0: self, 1: see
def s11_0 : Sm := .ret (.att (.var 0) 10)
def b11 : Df := ⟨2, 2, [s11_0], .cold⟩
theorem bo11 : d11.bindOk := fun _ _ _ _ _ _ us hl => match us, hl with | [_, _], _ => rfl
theorem db11 : pg.D 11 = some b11 := by kernel_rfl
/-- Number.shown -/
-- 0: self
def s12_0 : Sm := .exp (.call 0 [(.cst (.int 5))])
def b12 : Df := ⟨1, 1, [s12_0], .open⟩
theorem bo12 : d12.bindOk := fun _ _ _ _ _ _ us hl => match us, hl with | [_], _ => rfl
theorem db12 : pg.D 12 = some b12 := by kernel_rfl
/-- Number.own_wrong -/
-- 0: self
def s13_0 : Sm := .exp (.call 0 [(.cst (.int 6))])
def b13 : Df := ⟨1, 1, [s13_0], .open⟩
theorem bo13 : d13.bindOk := fun _ _ _ _ _ _ us hl => match us, hl with | [_], _ => rfl
theorem db13 : pg.D 13 = some b13 := by kernel_rfl
/-- Take.__init__ -/
-- 0: self, 1: back, 2: steps
def s14_0 : Sm := .asg (.att (.var 0) 11) (.var 1)
def s14_1 : Sm := .asg (.att (.var 0) 12) (.var 2)
def b14 : Df := ⟨3, 3, [s14_0, s14_1], .open⟩
theorem bo14 : d14.bindOk := fun _ _ _ _ _ _ us hl => match us, hl with | [_, _, _], _ => rfl
theorem db14 : pg.D 14 = some b14 := by kernel_rfl
/-- Take.value_by -/
-- 0: self, 1: see
def s15_0 : Sm := .ret (.app 1 (.tup [(.att (.var 0) 11), (.att (.var 0) 12)]))
def b15 : Df := ⟨2, 2, [s15_0], .cold⟩
theorem bo15 : d15.bindOk := fun _ _ _ _ _ _ us hl => match us, hl with | [_, _], _ => rfl
theorem db15 : pg.D 15 = some b15 := by kernel_rfl
/-- Take.shown -/
-- 0: self
def s16_0 : Sm := .exp (.call 0 [(.cst (.int 7))])
def b16 : Df := ⟨1, 1, [s16_0], .open⟩
theorem bo16 : d16.bindOk := fun _ _ _ _ _ _ us hl => match us, hl with | [_], _ => rfl
theorem db16 : pg.D 16 = some b16 := by kernel_rfl
/-- Take.own_take -/
-- 0: self
def s17_0 : Sm := .ret (.lst [(.tup [(.att (.var 0) 11), (.att (.var 0) 12)])])
def b17 : Df := ⟨1, 1, [s17_0], .open⟩
theorem bo17 : d17.bindOk := fun _ _ _ _ _ _ us hl => match us, hl with | [_], _ => rfl
theorem db17 : pg.D 17 = some b17 := by kernel_rfl
/-- Take.own_wrong -/
-- 0: self
def s18_0 : Sm := .exp (.call 0 [(.cst (.int 8))])
def b18 : Df := ⟨1, 1, [s18_0], .open⟩
theorem bo18 : d18.bindOk := fun _ _ _ _ _ _ us hl => match us, hl with | [_], _ => rfl
theorem db18 : pg.D 18 = some b18 := by kernel_rfl
/-- Paired.__init__ -/
-- 0: self, 1: one, 2: other
def s19_0 : Sm := .asg (.att (.var 0) 14) (.var 1)
def s19_1 : Sm := .asg (.att (.var 0) 15) (.var 2)
def b19 : Df := ⟨3, 3, [s19_0, s19_1], .open⟩
theorem bo19 : d19.bindOk := fun _ _ _ _ _ _ us hl => match us, hl with | [_, _, _], _ => rfl
theorem db19 : pg.D 19 = some b19 := by kernel_rfl
/-- Paired.below -/
-- 0: self
def s20_0 : Sm := .ret (.lst [(.att (.var 0) 14), (.att (.var 0) 15)])
def b20 : Df := ⟨1, 1, [s20_0], .open⟩
theorem bo20 : d20.bindOk := fun _ _ _ _ _ _ us hl => match us, hl with | [_], _ => rfl
theorem db20 : pg.D 20 = some b20 := by kernel_rfl
/-- Paired.word -/
-- 0: self
def s21_0 : Sm := .exp (.call 0 [(.cst (.int 9))])
def b21 : Df := ⟨1, 1, [s21_0], .open⟩
theorem bo21 : d21.bindOk := fun _ _ _ _ _ _ us hl => match us, hl with | [_], _ => rfl
theorem db21 : pg.D 21 = some b21 := by kernel_rfl
/-- Paired.shown -/
-- 0: self
def s22_0 : Sm := .exp (.call 0 [(.cst (.int 10))])
def b22 : Df := ⟨1, 1, [s22_0], .open⟩
theorem bo22 : d22.bindOk := fun _ _ _ _ _ _ us hl => match us, hl with | [_], _ => rfl
theorem db22 : pg.D 22 = some b22 := by kernel_rfl
/-- Added.value_by -/
-- 0: self, 1: see
def s23_0 : Sm := .ret (.bin .add (.meth (.att (.var 0) 14) 1 [(.var 1)]) (.meth (.att (.var 0) 15) 1 [(.var 1)]))
def b23 : Df := ⟨2, 2, [s23_0], .cold⟩
theorem bo23 : d23.bindOk := fun _ _ _ _ _ _ us hl => match us, hl with | [_, _], _ => rfl
theorem db23 : pg.D 23 = some b23 := by kernel_rfl
/-- Lessened.word -/
-- 0: self
def s24_0 : Sm := .exp (.call 0 [(.cst (.int 11))])
def b24 : Df := ⟨1, 1, [s24_0], .open⟩
theorem bo24 : d24.bindOk := fun _ _ _ _ _ _ us hl => match us, hl with | [_], _ => rfl
theorem db24 : pg.D 24 = some b24 := by kernel_rfl
/-- Lessened.value_by -/
-- 0: self, 1: see
def s25_0 : Sm := .ret (.bin .sub (.meth (.att (.var 0) 14) 1 [(.var 1)]) (.meth (.att (.var 0) 15) 1 [(.var 1)]))
def b25 : Df := ⟨2, 2, [s25_0], .cold⟩
theorem bo25 : d25.bindOk := fun _ _ _ _ _ _ us hl => match us, hl with | [_, _], _ => rfl
theorem db25 : pg.D 25 = some b25 := by kernel_rfl
/-- Multiplied.word -/
-- 0: self
def s26_0 : Sm := .exp (.call 0 [(.cst (.int 12))])
def b26 : Df := ⟨1, 1, [s26_0], .open⟩
theorem bo26 : d26.bindOk := fun _ _ _ _ _ _ us hl => match us, hl with | [_], _ => rfl
theorem db26 : pg.D 26 = some b26 := by kernel_rfl
/-- Multiplied.value_by -/
-- 0: self, 1: see
def s27_0 : Sm := .ret (.bin .mul (.meth (.att (.var 0) 14) 1 [(.var 1)]) (.meth (.att (.var 0) 15) 1 [(.var 1)]))
def b27 : Df := ⟨2, 2, [s27_0], .cold⟩
theorem bo27 : d27.bindOk := fun _ _ _ _ _ _ us hl => match us, hl with | [_, _], _ => rfl
theorem db27 : pg.D 27 = some b27 := by kernel_rfl
/-- Least.word -/
-- 0: self
def s28_0 : Sm := .exp (.call 0 [(.cst (.int 13))])
def b28 : Df := ⟨1, 1, [s28_0], .open⟩
theorem bo28 : d28.bindOk := fun _ _ _ _ _ _ us hl => match us, hl with | [_], _ => rfl
theorem db28 : pg.D 28 = some b28 := by kernel_rfl
/-- Least.value_by -/
-- 0: self, 1: see
def s29_0 : Sm := .ret (.blt .min [(.meth (.att (.var 0) 14) 1 [(.var 1)]), (.meth (.att (.var 0) 15) 1 [(.var 1)])])
def b29 : Df := ⟨2, 2, [s29_0], .cold⟩
theorem bo29 : d29.bindOk := fun _ _ _ _ _ _ us hl => match us, hl with | [_, _], _ => rfl
theorem db29 : pg.D 29 = some b29 := by kernel_rfl
/-- Most.word -/
-- 0: self
def s30_0 : Sm := .exp (.call 0 [(.cst (.int 14))])
def b30 : Df := ⟨1, 1, [s30_0], .open⟩
theorem bo30 : d30.bindOk := fun _ _ _ _ _ _ us hl => match us, hl with | [_], _ => rfl
theorem db30 : pg.D 30 = some b30 := by kernel_rfl
/-- Most.value_by -/
-- 0: self, 1: see
def s31_0 : Sm := .ret (.blt .max [(.meth (.att (.var 0) 14) 1 [(.var 1)]), (.meth (.att (.var 0) 15) 1 [(.var 1)])])
def b31 : Df := ⟨2, 2, [s31_0], .cold⟩
theorem bo31 : d31.bindOk := fun _ _ _ _ _ _ us hl => match us, hl with | [_, _], _ => rfl
theorem db31 : pg.D 31 = some b31 := by kernel_rfl
/-- Rest.__init__ -/
-- 0: self, 1: one, 2: by
def s32_0 : Sm := .asg (.att (.var 0) 14) (.var 1)
def s32_1 : Sm := .asg (.att (.var 0) 16) (.var 2)
def b32 : Df := ⟨3, 3, [s32_0, s32_1], .open⟩
theorem bo32 : d32.bindOk := fun _ _ _ _ _ _ us hl => match us, hl with | [_, _, _], _ => rfl
theorem db32 : pg.D 32 = some b32 := by kernel_rfl
/-- Rest.below -/
-- 0: self
def s33_0 : Sm := .ret (.lst [(.att (.var 0) 14)])
def b33 : Df := ⟨1, 1, [s33_0], .open⟩
theorem bo33 : d33.bindOk := fun _ _ _ _ _ _ us hl => match us, hl with | [_], _ => rfl
theorem db33 : pg.D 33 = some b33 := by kernel_rfl
/-- Rest.value_by -/
-- 0: self, 1: see
def s34_0 : Sm := .ret (.bin .mod (.meth (.att (.var 0) 14) 1 [(.var 1)]) (.att (.var 0) 16))
def b34 : Df := ⟨2, 2, [s34_0], .cold⟩
theorem bo34 : d34.bindOk := fun _ _ _ _ _ _ us hl => match us, hl with | [_, _], _ => rfl
theorem db34 : pg.D 34 = some b34 := by kernel_rfl
/-- Rest.shown -/
-- 0: self
def s35_0 : Sm := .exp (.call 0 [(.cst (.int 15))])
def b35 : Df := ⟨1, 1, [s35_0], .open⟩
theorem bo35 : d35.bindOk := fun _ _ _ _ _ _ us hl => match us, hl with | [_], _ => rfl
theorem db35 : pg.D 35 = some b35 := by kernel_rfl
/-- Rest.own_wrong -/
-- 0: self
def s36_0 : Sm := .exp (.call 0 [(.cst (.int 16))])
def b36 : Df := ⟨1, 1, [s36_0], .open⟩
theorem bo36 : d36.bindOk := fun _ _ _ _ _ _ us hl => match us, hl with | [_], _ => rfl
theorem db36 : pg.D 36 = some b36 := by kernel_rfl
/-- Chosen.__init__ -/
-- 0: self, 1: test, 2: one, 3: other
def s37_0 : Sm := .asg (.att (.var 0) 17) (.var 1)
def s37_1 : Sm := .asg (.att (.var 0) 14) (.var 2)
def s37_2 : Sm := .asg (.att (.var 0) 15) (.var 3)
def b37 : Df := ⟨4, 4, [s37_0, s37_1, s37_2], .open⟩
theorem bo37 : d37.bindOk := fun _ _ _ _ _ _ us hl => match us, hl with | [_, _, _, _], _ => rfl
theorem db37 : pg.D 37 = some b37 := by kernel_rfl
/-- Chosen.below -/
-- 0: self
def s38_0 : Sm := .ret (.lst [(.att (.var 0) 17), (.att (.var 0) 14), (.att (.var 0) 15)])
def b38 : Df := ⟨1, 1, [s38_0], .open⟩
theorem bo38 : d38.bindOk := fun _ _ _ _ _ _ us hl => match us, hl with | [_], _ => rfl
theorem db38 : pg.D 38 = some b38 := by kernel_rfl
/-- Chosen.value_by -/
-- 0: self, 1: see
def s39_0 : Sm := .ifs (.cmp .gt (.meth (.att (.var 0) 17) 1 [(.var 1)]) (.cst (.int 0))) [.ret (.meth (.att (.var 0) 14) 1 [(.var 1)])] []
def s39_1 : Sm := .ret (.meth (.att (.var 0) 15) 1 [(.var 1)])
def b39 : Df := ⟨2, 2, [s39_0, s39_1], .cold⟩
theorem bo39 : d39.bindOk := fun _ _ _ _ _ _ us hl => match us, hl with | [_, _], _ => rfl
theorem db39 : pg.D 39 = some b39 := by kernel_rfl
/-- Chosen.shown -/
-- 0: self
def s40_0 : Sm := .exp (.call 0 [(.cst (.int 17))])
def b40 : Df := ⟨1, 1, [s40_0], .open⟩
theorem bo40 : d40.bindOk := fun _ _ _ _ _ _ us hl => match us, hl with | [_], _ => rfl
theorem db40 : pg.D 40 = some b40 := by kernel_rfl
/-- _law_cell_at -/
-- 0: _law_script, 1: _law_k
def s41_0 : Sm := .ifs (.cmp .lt (.var 1) (.blt .len [(.var 0)])) [.ret (.sub (.var 0) (.var 1))] []
def s41_1 : Sm := .ret (.cst (.int 0))
def b41 : Df := ⟨2, 2, [s41_0, s41_1], .open⟩
theorem bo41 : d41.bindOk := fun _ _ _ _ _ _ us hl => match us, hl with | [_, _], _ => rfl
theorem db41 : pg.D 41 = some b41 := by kernel_rfl
/-- _law_well -/
-- 0: _law_script, 1: _law_k, 2: _law_cell
def s42_0 : Sm := .asg (.tg (.name 2)) (.call 41 [(.var 0), (.var 1)])
def s42_1 : Sm := .ret (.lst [(.bin .add (.bin .mod (.var 2) (.cst (.int 2147483647))) (.var 1)), (.sub (.lst [(.cst (.int 0)), (.var 2)]) (.blt .int [(.cmp .ge (.var 2) (.bin .pow (.cst (.int 10)) (.cst (.int 18))))])), (.cst (.int 0))])
def b42 : Df := ⟨2, 3, [s42_0, s42_1], .fresh⟩
theorem bo42 : d42.bindOk := fun _ _ _ _ _ _ us hl => match us, hl with | [_, _], _ => rfl
theorem db42 : pg.D 42 = some b42 := by kernel_rfl
/-- _law_draw -/
-- 0: _law_well_here, 1: _law_most, 2: _law_number_here
def s43_0 : Sm := .ifs (.cmp .gt (.sub (.var 0) (.cst (.int 1))) (.cst (.int 0))) [.asg (.tg (.name 2)) (.bin .mod (.sub (.var 0) (.cst (.int 1))) (.var 1)), .asg (.sub (.var 0) (.cst (.int 1))) (.bin .fdiv (.sub (.var 0) (.cst (.int 1))) (.var 1)), .ret (.var 2)] []
def s43_1 : Sm := .asg (.sub (.var 0) (.cst (.int 2))) (.bin .add (.sub (.var 0) (.cst (.int 2))) (.cst (.int 1)))
def s43_2 : Sm := .asg (.tg (.name 2)) (.bin .mod (.bin .mul (.bin .add (.bin .add (.sub (.var 0) (.cst (.int 0))) (.bin .mul (.cst (.int 7919)) (.sub (.var 0) (.cst (.int 2))))) (.cst (.int 1))) (.cst (.int 48271))) (.cst (.int 2147483647)))
def s43_3 : Sm := .asg (.tg (.name 2)) (.bin .mod (.bin .mul (.var 2) (.bin .add (.bin .fdiv (.var 2) (.cst (.int 1009))) (.cst (.int 69621)))) (.cst (.int 2147483647)))
def s43_4 : Sm := .asg (.tg (.name 2)) (.bin .mod (.bin .mul (.var 2) (.bin .add (.bin .fdiv (.var 2) (.cst (.int 2003))) (.cst (.int 40692)))) (.cst (.int 2147483399)))
def s43_5 : Sm := .ret (.bin .mod (.bin .add (.bin .mul (.var 2) (.cst (.int 48271))) (.bin .fdiv (.var 2) (.cst (.int 7)))) (.var 1))
def b43 : Df := ⟨2, 3, [s43_0, s43_1, s43_2, s43_3, s43_4, s43_5], .open⟩
theorem bo43 : d43.bindOk := fun _ _ _ _ _ _ us hl => match us, hl with | [_, _], _ => rfl
theorem db43 : pg.D 43 = some b43 := by kernel_rfl
/-- _law_steps -/
-- 0: _law_well_here, 1: _law_lines, 2: _law_wide, 3: _law_k
def s44_0 : Sm := .asg (.tg (.name 2)) (.sub (.lst [(.cst (.int 3)), (.cst (.int 3)), (.cst (.int 5)), (.cst (.int 19))]) (.call 43 [(.var 0), (.cst (.int 4))]))
def c44_0 : Ex := (.comp (.bin .sub (.call 43 [(.var 0), (.var 2)]) (.bin .fdiv (.var 2) (.cst (.int 2)))) [3] (.name 3) (.rng [(.var 1)]) none)
def s44_1 : Sm := .ret (.blt .tuple [c44_0])
def b44 : Df := ⟨2, 4, [s44_0, s44_1], .cold⟩
theorem bo44 : d44.bindOk := fun _ _ _ _ _ _ us hl => match us, hl with | [_, _], _ => rfl
theorem db44 : pg.D 44 = some b44 := by kernel_rfl
/-- _law_some_takes -/
-- 0: _law_well_here, 1: _law_lines, 2: _law_k
def c45_0 : Ex := (.comp (.tup [(.bin .add (.cst (.int 1)) (.call 43 [(.var 0), (.cst (.int 3))])), (.call 44 [(.var 0), (.var 1)])]) [2] (.name 2) (.rng [(.call 43 [(.var 0), (.cst (.int 5))])]) none)
def s45_0 : Sm := .ret c45_0
def b45 : Df := ⟨2, 3, [s45_0], .fresh⟩
theorem bo45 : d45.bindOk := fun _ _ _ _ _ _ us hl => match us, hl with | [_, _], _ => rfl
theorem db45 : pg.D 45 = some b45 := by kernel_rfl
/-- _law_number -/
-- 0: _law_well_here, 1: _law_far
def s46_0 : Sm := .asg (.tg (.name 1)) (.sub (.lst [(.cst (.int 7)), (.cst (.int 201)), (.bin .add (.bin .mul (.cst (.int 2)) (.bin .pow (.cst (.int 10)) (.cst (.int 12)))) (.cst (.int 1)))]) (.call 43 [(.var 0), (.cst (.int 3))]))
def s46_1 : Sm := .ret (.tup [(.cst (.str (Str.ofString "number"))), (.bin .sub (.call 43 [(.var 0), (.var 1)]) (.bin .fdiv (.var 1) (.cst (.int 2))))])
def b46 : Df := ⟨1, 2, [s46_0, s46_1], .cold⟩
theorem bo46 : d46.bindOk := fun _ _ _ _ _ _ us hl => match us, hl with | [_], _ => rfl
theorem db46 : pg.D 46 = some b46 := by kernel_rfl
/-- _law_told -/
-- 0: _law_well_here, 1: _law_some, 2: _law_deep, 3: _law_way, 4: _law_one, 5: _law_other
def s47_0 : Sm := .asg (.tg (.name 3)) (.call 43 [(.var 0), (.cst (.int 13))])
def s47_1 : Sm := .ifs (.or (.cmp .eq (.var 2) (.cst (.int 0))) (.cmp .lt (.var 3) (.cst (.int 4)))) [.ifs (.or (.cmp .eq (.var 1) (.lst [])) (.cmp .eq (.call 43 [(.var 0), (.cst (.int 3))]) (.cst (.int 0)))) [.ret (.call 46 [(.var 0)])] [], .ret (.bin .add (.tup [(.cst (.str (Str.ofString "take")))]) (.sub (.var 1) (.call 43 [(.var 0), (.blt .len [(.var 1)])])))] []
def s47_2 : Sm := .asg (.tg (.name 4)) (.call 47 [(.var 0), (.var 1), (.bin .sub (.var 2) (.cst (.int 1)))])
def s47_3 : Sm := .ifs (.cmp .eq (.var 3) (.cst (.int 4))) [.ret (.tup [(.cst (.str (Str.ofString "rest"))), (.var 4), (.bin .add (.cst (.int 1)) (.call 43 [(.var 0), (.sub (.lst [(.cst (.int 9)), (.bin .pow (.cst (.int 10)) (.cst (.int 9)))]) (.call 43 [(.var 0), (.cst (.int 2))]))]))])] []
def s47_4 : Sm := .asg (.tg (.name 5)) (.call 47 [(.var 0), (.var 1), (.bin .sub (.var 2) (.cst (.int 1)))])
def s47_5 : Sm := .ifs (.cmp .eq (.var 3) (.cst (.int 5))) [.ret (.tup [(.cst (.str (Str.ofString "?"))), (.var 4), (.var 5), (.call 47 [(.var 0), (.var 1), (.bin .sub (.var 2) (.cst (.int 1)))])])] []
def s47_6 : Sm := .ret (.tup [(.sub (.lst [(.cst (.str (Str.ofString "+"))), (.cst (.str (Str.ofString "-"))), (.cst (.str (Str.ofString "*"))), (.cst (.str (Str.ofString "min"))), (.cst (.str (Str.ofString "max")))]) (.call 43 [(.var 0), (.cst (.int 5))])), (.var 4), (.var 5)])
def b47 : Df := ⟨3, 6, [s47_0, s47_1, s47_2, s47_3, s47_4, s47_5, s47_6], .cold⟩
theorem bo47 : d47.bindOk := fun _ _ _ _ _ _ us hl => match us, hl with | [_, _, _], _ => rfl
theorem db47 : pg.D 47 = some b47 := by kernel_rfl
/-- _law_made -/
-- 0: _law_told_here, 1: _law_one, 2: _law_other
def s48_0 : Sm := .ifs (.cmp .eq (.sub (.var 0) (.cst (.int 0))) (.cst (.str (Str.ofString "number")))) [.ret (.make 1 [(.sub (.var 0) (.cst (.int 1)))])] []
def s48_1 : Sm := .ifs (.cmp .eq (.sub (.var 0) (.cst (.int 0))) (.cst (.str (Str.ofString "take")))) [.ret (.make 2 [(.sub (.var 0) (.cst (.int 1))), (.sub (.var 0) (.cst (.int 2)))])] []
def s48_2 : Sm := .asg (.tg (.name 1)) (.call 48 [(.sub (.var 0) (.cst (.int 1)))])
def s48_3 : Sm := .ifs (.cmp .eq (.sub (.var 0) (.cst (.int 0))) (.cst (.str (Str.ofString "rest")))) [.ret (.make 9 [(.var 1), (.sub (.var 0) (.cst (.int 2)))])] []
def s48_4 : Sm := .asg (.tg (.name 2)) (.call 48 [(.sub (.var 0) (.cst (.int 2)))])
def s48_5 : Sm := .ifs (.cmp .eq (.sub (.var 0) (.cst (.int 0))) (.cst (.str (Str.ofString "?")))) [.ret (.make 10 [(.var 1), (.var 2), (.call 48 [(.sub (.var 0) (.cst (.int 3)))])])] []
def s48_6 : Sm := .ifs (.cmp .eq (.sub (.var 0) (.cst (.int 0))) (.cst (.str (Str.ofString "+")))) [.ret (.make 4 [(.var 1), (.var 2)])] []
def s48_7 : Sm := .ifs (.cmp .eq (.sub (.var 0) (.cst (.int 0))) (.cst (.str (Str.ofString "-")))) [.ret (.make 5 [(.var 1), (.var 2)])] []
def s48_8 : Sm := .ifs (.cmp .eq (.sub (.var 0) (.cst (.int 0))) (.cst (.str (Str.ofString "*")))) [.ret (.make 6 [(.var 1), (.var 2)])] []
def s48_9 : Sm := .ifs (.cmp .eq (.sub (.var 0) (.cst (.int 0))) (.cst (.str (Str.ofString "min")))) [.ret (.make 7 [(.var 1), (.var 2)])] []
def s48_10 : Sm := .ret (.make 8 [(.var 1), (.var 2)])
def b48 : Df := ⟨1, 3, [s48_0, s48_1, s48_2, s48_3, s48_4, s48_5, s48_6, s48_7, s48_8, s48_9, s48_10], .cold⟩
theorem bo48 : d48.bindOk := fun _ _ _ _ _ _ us hl => match us, hl with | [_], _ => rfl
theorem db48 : pg.D 48 = some b48 := by kernel_rfl
/-- _law_value -/
-- 0: _law_told_here, 1: _law_worths_here, 2: _law_one, 3: _law_other, 4: _law_some
def s49_0 : Sm := .ifs (.cmp .eq (.sub (.var 0) (.cst (.int 0))) (.cst (.str (Str.ofString "number")))) [.ret (.sub (.var 0) (.cst (.int 1)))] []
def s49_1 : Sm := .ifs (.cmp .eq (.sub (.var 0) (.cst (.int 0))) (.cst (.str (Str.ofString "take")))) [.ret (.sub (.var 1) (.slc (.var 0) (some (.cst (.int 1))) none))] []
def s49_2 : Sm := .asg (.tg (.name 2)) (.call 49 [(.sub (.var 0) (.cst (.int 1))), (.var 1)])
def s49_3 : Sm := .ifs (.cmp .eq (.sub (.var 0) (.cst (.int 0))) (.cst (.str (Str.ofString "rest")))) [.ret (.bin .sub (.var 2) (.bin .mul (.sub (.var 0) (.cst (.int 2))) (.bin .fdiv (.var 2) (.sub (.var 0) (.cst (.int 2))))))] []
def s49_4 : Sm := .ifs (.cmp .eq (.sub (.var 0) (.cst (.int 0))) (.cst (.str (Str.ofString "?")))) [.ret (.call 49 [(.sub (.var 0) (.bin .add (.cst (.int 2)) (.blt .int [(.cmp .le (.var 2) (.cst (.int 0)))]))), (.var 1)])] []
def s49_5 : Sm := .asg (.tg (.name 3)) (.call 49 [(.sub (.var 0) (.cst (.int 2))), (.var 1)])
def s49_6 : Sm := .asg (.tg (.name 4)) (.dsp [(Str.ofString "+"), (Str.ofString "-"), (Str.ofString "*")] [(.bin .add (.var 2) (.var 3)), (.bin .sub (.var 2) (.var 3)), (.bin .mul (.var 2) (.var 3))])
def s49_7 : Sm := .exp (.dup (.var 4) (.dsp [(Str.ofString "min"), (Str.ofString "max")] [(.sub (.blt .sorted [(.lst [(.var 2), (.var 3)])]) (.cst (.int 0))), (.sub (.blt .sorted [(.lst [(.var 2), (.var 3)])]) (.cst (.int 1)))]))
def s49_8 : Sm := .ret (.sub (.var 4) (.sub (.var 0) (.cst (.int 0))))
def b49 : Df := ⟨2, 5, [s49_0, s49_1, s49_2, s49_3, s49_4, s49_5, s49_6, s49_7, s49_8], .cold⟩
theorem bo49 : d49.bindOk := fun _ _ _ _ _ _ us hl => match us, hl with | [_, _], _ => rfl
theorem db49 : pg.D 49 = some b49 := by kernel_rfl
/-- _law_worths -/
-- 0: _law_well_here, 1: _law_some, 2: _law_take
def c50_0 : Ex := (.comp (.tup [(.var 2), (.call 43 [(.var 0), (.sub (.lst [(.cst (.int 3)), (.bin .add (.bin .pow (.cst (.int 10)) (.cst (.int 9))) (.cst (.int 1)))]) (.call 43 [(.var 0), (.cst (.int 2))]))])]) [2] (.name 2) (.seq (.var 1)) none)
def s50_0 : Sm := .ret (.blt .dof [c50_0])
def b50 : Df := ⟨2, 3, [s50_0], .open⟩
theorem bo50 : d50.bindOk := fun _ _ _ _ _ _ us hl => match us, hl with | [_, _], _ => rfl
theorem db50 : pg.D 50 = some b50 := by kernel_rfl
/-- _law_fields -/
-- 0: _law_term, 1: _law_told_here
def s51_0 : Sm := .ifs (.cmp .eq (.sub (.var 1) (.cst (.int 0))) (.cst (.str (Str.ofString "number")))) [.ret (.and (.isc (.var 0) [1] [0, 2, 3, 4, 5, 6, 7, 8, 9, 10]) (.cmp .eq (.att (.var 0) 10) (.sub (.var 1) (.cst (.int 1)))))] []
def s51_1 : Sm := .ifs (.cmp .eq (.sub (.var 1) (.cst (.int 0))) (.cst (.str (Str.ofString "take")))) [.ret (.and (.isc (.var 0) [2] [0, 1, 3, 4, 5, 6, 7, 8, 9, 10]) (.cmp .eq (.tup [(.att (.var 0) 11), (.att (.var 0) 12)]) (.slc (.var 1) (some (.cst (.int 1))) none)))] []
def s51_2 : Sm := .ifs (.cmp .eq (.sub (.var 1) (.cst (.int 0))) (.cst (.str (Str.ofString "rest")))) [.ret (.and (.isc (.var 0) [9] [0, 1, 2, 3, 4, 5, 6, 7, 8, 10]) (.and (.cmp .eq (.att (.var 0) 16) (.sub (.var 1) (.cst (.int 2)))) (.call 51 [(.att (.var 0) 14), (.sub (.var 1) (.cst (.int 1)))])))] []
def s51_3 : Sm := .ifs (.cmp .eq (.sub (.var 1) (.cst (.int 0))) (.cst (.str (Str.ofString "?")))) [.ifs (.or (.not (.isc (.var 0) [10] [0, 1, 2, 3, 4, 5, 6, 7, 8, 9])) (.not (.call 51 [(.att (.var 0) 17), (.sub (.var 1) (.cst (.int 1)))]))) [.ret (.cst (.bl false))] [], .ret (.and (.call 51 [(.att (.var 0) 14), (.sub (.var 1) (.cst (.int 2)))]) (.call 51 [(.att (.var 0) 15), (.sub (.var 1) (.cst (.int 3)))]))] []
def s51_4 : Sm := .ret (.and (.call 51 [(.att (.var 0) 14), (.sub (.var 1) (.cst (.int 1)))]) (.call 51 [(.att (.var 0) 15), (.sub (.var 1) (.cst (.int 2)))]))
def b51 : Df := ⟨2, 2, [s51_0, s51_1, s51_2, s51_3, s51_4], .cold⟩
theorem bo51 : d51.bindOk := fun _ _ _ _ _ _ us hl => match us, hl with | [_, _], _ => rfl
theorem db51 : pg.D 51 = some b51 := by kernel_rfl
/-- _law_right -/
-- 0: _law_term, 1: _law_told_here, 2: _law_worths_here, 3: _law_found
def s52_0 : Sm := .asg (.tg (.name 3)) (.methL (.var 0) 1 [] 2 0)
def s52_1 : Sm := .ifs (.or (.not (.isi (.var 3) [.int])) (.isi (.var 3) [.bool])) [.ret (.cst (.bl false))] []
def s52_2 : Sm := .ret (.cmp .eq (.var 3) (.call 49 [(.var 1), (.var 2)]))
def b52 : Df := ⟨3, 4, [s52_0, s52_1, s52_2], .cold⟩
theorem bo52 : d52.bindOk := fun _ _ _ _ _ _ us hl => match us, hl with | [_, _, _], _ => rfl
theorem db52 : pg.D 52 = some b52 := by kernel_rfl
/-- law -/
-- 0: _law_script, 1: _law_well_here, 2: _law_some, 3: _law_told_here, 4: _law_term, 5: _law_first, 6: _law_worths_here
def s53_0 : Sm := .asg (.tg (.name 1)) (.call 42 [(.var 0), (.cst (.int 0))])
def s53_1 : Sm := .asg (.tg (.name 2)) (.call 45 [(.var 1), (.bin .add (.cst (.int 1)) (.call 43 [(.var 1), (.cst (.int 3))]))])
def s53_2 : Sm := .asg (.tg (.name 3)) (.call 47 [(.var 1), (.var 2), (.cst (.int 3))])
def s53_3 : Sm := .ifs (.cmp .eq (.call 43 [(.var 1), (.cst (.int 3))]) (.cst (.int 0))) [.asg (.tg (.name 3)) (.tup [(.sub (.lst [(.cst (.str (Str.ofString "+"))), (.cst (.str (Str.ofString "-"))), (.cst (.str (Str.ofString "*"))), (.cst (.str (Str.ofString "min"))), (.cst (.str (Str.ofString "max")))]) (.call 43 [(.var 1), (.cst (.int 5))])), (.var 3), (.call 47 [(.var 1), (.var 2), (.cst (.int 1))])])] []
def s53_4 : Sm := .asg (.tg (.name 4)) (.call 48 [(.var 3)])
def s53_5 : Sm := .ifs (.or (.not (.isc (.var 4) [0, 1, 2, 3, 4, 5, 6, 7, 8, 9, 10] [])) (.not (.call 51 [(.var 4), (.var 3)]))) [.ret (.cst (.bl false))] []
def s53_6 : Sm := .asg (.tg (.name 1)) (.call 42 [(.var 0), (.cst (.int 1))])
def s53_7 : Sm := .asg (.tg (.name 5)) (.call 50 [(.var 1), (.var 2)])
def l53_0 : List Sm := [.ifs (.not (.call 52 [(.var 4), (.var 3), (.var 6)])) [.ret (.cst (.bl false))] []]
def s53_8 : Sm := .for (.name 6) (.seq (.lst [(.var 5), (.call 50 [(.var 1), (.var 2)]), (.var 5)])) l53_0
def s53_9 : Sm := .ret (.call 51 [(.var 4), (.var 3)])
def b53 : Df := ⟨1, 7, [s53_0, s53_1, s53_2, s53_3, s53_4, s53_5, s53_6, s53_7, s53_8, s53_9], .open⟩
theorem bo53 : d53.bindOk := fun _ _ _ _ _ _ us hl => match us, hl with | [_], _ => rfl
theorem db53 : pg.D 53 = some b53 := by kernel_rfl
theorem dal {d : DD} {l : List DD} (h : d.bindOk) (t : ∀ x ∈ l, x.bindOk) : ∀ x ∈ d :: l, x.bindOk := fun x hx => (List.mem_cons.mp hx).elim (fun e => e ▸ h) (t x)
theorem pgOk : pg.Ok where
  tb := by decide +kernel
  att := by decide +kernel
  sc := by decide +kernel
  bind := (dal bo0 (dal bo1 (dal bo2 (dal bo3 (dal bo4 (dal bo5 (dal bo6 (dal bo7 (dal bo8 (dal bo9 (dal bo10 (dal bo11 (dal bo12 (dal bo13 (dal bo14 (dal bo15 (dal bo16 (dal bo17 (dal bo18 (dal bo19 (dal bo20 (dal bo21 (dal bo22 (dal bo23 (dal bo24 (dal bo25 (dal bo26 (dal bo27 (dal bo28 (dal bo29 (dal bo30 (dal bo31 (dal bo32 (dal bo33 (dal bo34 (dal bo35 (dal bo36 (dal bo37 (dal bo38 (dal bo39 (dal bo40 (dal bo41 (dal bo42 (dal bo43 (dal bo44 (dal bo45 (dal bo46 (dal bo47 (dal bo48 (dal bo49 (dal bo50 (dal bo51 (dal bo52 (dal bo53 (fun x hx => by cases hx)))))))))))))))))))))))))))))))))))))))))))))))))))))))
  con := by decide +kernel
  iN := by decide +kernel
  mF := by decide +kernel
  xI := fun h => absurd rfl h
end SL

set_option maxRecDepth 100000
set_option maxHeartbeats 0
/-! The head of k11_values_of_terms, its facts in parts. -/
namespace SL
open PySem L2 PyProof.Rows
set_option autoImplicit false
abbrev R : PySem.W.OpenRow := PySem.W.OpenLaw.row PySem.Challenge.rw_slanttiles_k11_values_of_terms
abbrev hk : PySem.W.Hook := hookS 5 pg
def ob (s : PySem.W.SharedT) : AlS := obsS 5 pg (HandSHeadRun.getT s)
theorem ob_eq (s : PySem.W.SharedT) : ob s = hk.obs s.abs := obsS_eq (HandSHeadRun.getT_eq s)
def loose0 : List Str := [Str.ofString "_wall", Str.ofString "Term", Str.ofString "Number", Str.ofString "Take", Str.ofString "Paired", Str.ofString "Added", Str.ofString "Lessened", Str.ofString "Multiplied", Str.ofString "Least", Str.ofString "Most", Str.ofString "Rest", Str.ofString "Chosen", Str.ofString "_law_cell_at", Str.ofString "_law_well", Str.ofString "_law_draw", Str.ofString "_law_steps", Str.ofString "_law_some_takes", Str.ofString "_law_number", Str.ofString "_law_told", Str.ofString "_law_made", Str.ofString "_law_value", Str.ofString "_law_worths", Str.ofString "_law_fields", Str.ofString "_law_right"]
def loose : List Str := loose0
noncomputable abbrev fin (w : World) (os : OsState) : Option PySem.W.SharedT := HandSHeadRun.endF (HandSHeadRun.stepQ (HandSHeadRun.denQ HandSHeadRun.tabQ) R.prog w) 12000 R.prog w os
abbrev frT (s : PySem.W.SharedT) : PySem.W.Frag := frS 5 (HandSHeadRun.getT s)
theorem glue {β : Type} {x : Option PySem.W.SharedT} {l : PySem.W.SharedT → Bool} {q : PySem.W.SharedT → β} {b : β} {D : PySem.W.SharedT → He.AlD} {d : He.AlD} {F : PySem.W.SharedT → Bool}
    (h0 : x.map (fun s => (l s, q s, ())) = some (true, b, ())) (hD : x.map D = some d) (hF : x.map F = some true) : x.map (fun s => (l s, q s, (D s, F s))) = some (true, b, (d, true)) := by
  cases x with
  | none => cases hD
  | some s =>
    simp only [Option.map_some, Option.some.injEq, Prod.mk.injEq, and_true] at h0 hD hF ⊢
    exact ⟨h0.1, h0.2, hD, hF⟩
theorem run0 (w : World) : HandSHeadRun.RunEq R (PySem.W.view R.prog [26]) PySem.W.Hook.none (fun _ => ()) 12000 loose w := by
  intro os
  kernel_rfl
theorem runD (w : World) (os : OsState) : (fin w os).map (fun s => He.obsD [] (pg.dds.map DD.d) (frT s)) = some (He.valD (pg.dds.map DD.d)) := by
  kernel_rfl
theorem runF (w : World) (os : OsState) : (fin w os).map (fun s => pg.facts (frT s) && tabB pg (HandSHeadRun.getT s) (frT s)) = some true := by
  kernel_rfl
theorem run (w : World) : HandSHeadRun.RunEq R (PySem.W.view R.prog [26]) hk ob 12000 loose w := fun os => glue (run0 w os) (runD w os) (runF w os)
end SL

set_option maxRecDepth 100000
set_option maxHeartbeats 2000000
/-! Terms and their takes: plain words. -/
namespace SL
open PySem
set_option autoImplicit false
inductive Tm where
  | num (v : Int)
  | take (b : Int) (st : List Int)
  | rest (t : Tm) (m : Int)
  | cho (a b c : Tm)
  | op (o : Nat) (a b : Tm)
def opS : Nat → Str
  | 0 => "+"
  | 1 => "-"
  | 2 => "*"
  | 3 => "min"
  | _ => "max"
/-- as it is told -/
def encT : Tm → Wv
  | .num v => .tup [.str "number", .int v]
  | .take b st => .tup [.str "take", .int b, tp st]
  | .rest t m => .tup [.str "rest", encT t, .int m]
  | .cho a b c => .tup [.str "?", encT a, encT b, encT c]
  | .op o a b => .tup [.str (opS o), encT a, encT b]
/-- a take -/
def pw (b : Int) (st : List Int) : Wv := .tup [.int b, tp st]
def dep : Tm → Int
  | .num _ => 1
  | .take _ _ => 1
  | .rest t _ => 1 + dep t
  | .cho a b c => 1 + best_max (dep a) [dep b, dep c]
  | .op _ a b => 1 + best_max (dep a) [dep b]
def prts : Tm → Int
  | .num _ => 1
  | .take _ _ => 1
  | .rest t _ => 1 + prts t
  | .cho a b c => 1 + (prts a + (prts b + prts c))
  | .op _ a b => 1 + (prts a + prts b)
def hgt : Tm → Nat
  | .num _ => 0
  | .take _ _ => 0
  | .rest t _ => hgt t + 1
  | .cho a b c => max (hgt a) (max (hgt b) (hgt c)) + 1
  | .op _ a b => max (hgt a) (hgt b) + 1
/-- laid together, in order, each once -/
def joint (ps : List (List Wv)) : List Wv := (once ps.flatten).mergeSort leW
def tks : Tm → List Wv
  | .num _ => []
  | .take b st => [pw b st]
  | .rest t _ => joint [tks t]
  | .cho a b c => joint [tks a, tks b, tks c]
  | .op _ a b => joint [tks a, tks b]
/-- all takes are among S -/
def Amid (S : List Wv) : Tm → Prop
  | .num _ => True
  | .take b st => pw b st ∈ S
  | .rest t _ => Amid S t
  | .cho a b c => Amid S a ∧ Amid S b ∧ Amid S c
  | .op _ a b => Amid S a ∧ Amid S b
def IsPw (w : Wv) : Prop := ∃ b st, w = pw b st
theorem pw_toD (b : Int) (st : List Int) : (pw b st).toD = some (.tuple [.int b, .tuple (st.map PyData.int)]) := by
  unfold pw tp
  simp only [Wv.toD, toDs, toDs_ints, Option.map_some]
theorem alikes_ints : ∀ xs ys : List Int, PySem.W.alikeAll (xs.map PyData.int) (ys.map PyData.int) = true := PySem.W.alike_ints
theorem pw_alike (b b' : Int) (st st' : List Int) : PySem.W.alike (.tuple [.int b, .tuple (st.map PyData.int)]) (.tuple [.int b', .tuple (st'.map PyData.int)]) = true := by
  simp only [PySem.W.alike, PySem.W.alikeAll, alikes_ints, Bool.and_self, Bool.and_true]
theorem intsys_ints : ∀ xs : List Int, intsys (xs.map PyData.int) = true
  | [] => rfl
  | x :: xs => by rw [List.map_cons, intsys, intsys_ints xs]; rfl
theorem pws_toDs : ∀ {ws : List Wv}, (∀ w ∈ ws, IsPw w) → ∃ ds, toDs ws = some ds ∧ ∀ d ∈ ds, ∃ (b : Int) (st : List Int), d = .tuple [.int b, .tuple (st.map PyData.int)]
  | [], _ => ⟨[], rfl, fun d h => by cases h⟩
  | w :: ws, h => by
    obtain ⟨b, st, rfl⟩ := h w List.mem_cons_self
    obtain ⟨ds, e, f⟩ := pws_toDs fun x hx => h x (List.mem_cons_of_mem _ hx)
    refine ⟨_ :: ds, by rw [toDs, pw_toD, e], fun d hd => ?_⟩
    rcases List.mem_cons.mp hd with rfl | hd
    · exact ⟨b, st, rfl⟩
    · exact f d hd
theorem dep_pw (b : Int) (st : List Int) : (PyData.tuple [.int b, .tuple (st.map PyData.int)]).depth = 2 := by
  simp [PyData.depth, PyData.depthAll, dp_ints]
theorem pws_ok {ds : List PyData} (h : ∀ d ∈ ds, ∃ (b : Int) (st : List Int), d = .tuple [.int b, .tuple (st.map PyData.int)]) : srtOk ds = true ∧ intsys ds = true := by
  have a : srtOk ds = true := by
    unfold srtOk alls
    simp only [Bool.and_eq_true, Bool.or_eq_true, List.all_eq_true, decide_eq_true_eq]
    refine ⟨⟨fun d hd e he => ?_, .inl fun d hd => ?_⟩, fun d hd => ?_⟩
    · obtain ⟨b, st, rfl⟩ := h d hd
      obtain ⟨b', st', rfl⟩ := h e he
      exact pw_alike b b' st st'
    · obtain ⟨b, st, rfl⟩ := h d hd
      rfl
    · obtain ⟨b, st, rfl⟩ := h d hd
      rw [dep_pw]
      decide
  refine ⟨a, ?_⟩
  clear a
  induction ds with
  | nil => rfl
  | cons d ds ih =>
    obtain ⟨b, st, rfl⟩ := h d List.mem_cons_self
    rw [intsys, ih fun e he => h e (List.mem_cons_of_mem _ he), intsy, intsys, intsys, intsys, intsy, intsy, intsys_ints]
    rfl
theorem srtW_pw {ws : List Wv} (h : ∀ w ∈ ws, IsPw w) : srtW ws = some (ws.mergeSort leW) := by
  obtain ⟨ds, e, f⟩ := pws_toDs h
  unfold srtW
  rw [e]
  simp only [(pws_ok f).1, if_true]
theorem setW_pw {ws : List Wv} (h : ∀ w ∈ ws, IsPw w) (l1 : ws.length < 4000) (l2 : (once ws).length < 64) : setW ws = some (once ws) := by
  obtain ⟨ds, e, f⟩ := pws_toDs h
  unfold setW
  rw [e]
  simp only [(pws_ok f).1, (pws_ok f).2, l1, l2, Bool.and_self, and_self, if_true]
theorem ranks_pw {ws : List Wv} (h : ∀ w ∈ ws, IsPw w) : Ranks ws := by
  refine ⟨fun w hw => ?_, fun w hw u hu => ?_⟩
  · obtain ⟨b, st, rfl⟩ := h w hw
    refine ⟨_, pw_toD b st, ?_⟩
    rw [intsy, intsys, intsys, intsys, intsy, intsy, intsys_ints]
    rfl
  · obtain ⟨b, st, rfl⟩ := h w hw
    obtain ⟨b', st', rfl⟩ := h u hu
    unfold dOf
    rw [pw_toD, pw_toD]
    exact pw_alike b b' st st'
theorem once_id : ∀ {ws : List Wv}, ws.Nodup → once ws = ws
  | [], _ => rfl
  | w :: ws, h => by
    obtain ⟨h1, h2⟩ := List.nodup_cons.mp h
    unfold once
    rw [if_neg h1, once_id h2]
theorem joint_mem {w : Wv} {ps : List (List Wv)} : w ∈ joint ps ↔ ∃ p ∈ ps, w ∈ p := by
  unfold joint
  rw [List.mem_mergeSort, mem_once, List.mem_flatten]
theorem joint_nodup (ps : List (List Wv)) : (joint ps).Nodup := by
  unfold joint
  exact (List.mergeSort_perm _ leW).nodup_iff.mpr (nodup_once _)
/-- what the program adds -/
def addT (f xs : List Wv) : List Wv := f ++ xs.filter fun w => decide (w ∉ f)
theorem addT_mem {w : Wv} {f xs : List Wv} : w ∈ addT f xs ↔ w ∈ f ∨ w ∈ xs := by
  unfold addT
  rw [List.mem_append, List.mem_filter, decide_eq_true_eq]
  constructor
  · rintro (h | h)
    · exact .inl h
    · exact .inr h.1
  · rintro (h | h)
    · exact .inl h
    · by_cases c : w ∈ f
      · exact .inl c
      · exact .inr ⟨h, c⟩
theorem addT_nodup {f xs : List Wv} (hf : f.Nodup) (hx : xs.Nodup) : (addT f xs).Nodup := by
  unfold addT
  refine List.nodup_append.mpr ⟨hf, hx.filter _, fun a ha b hb e => ?_⟩
  rw [List.mem_filter, decide_eq_true_eq] at hb
  exact hb.2 (e ▸ ha)
def sumT (f : List Wv) (ps : List (List Wv)) : List Wv := ps.foldl addT f
theorem sumT_mem {w : Wv} : ∀ {ps : List (List Wv)} {f : List Wv}, w ∈ sumT f ps ↔ w ∈ f ∨ ∃ p ∈ ps, w ∈ p
  | [], f => by simp [sumT]
  | p :: ps, f => by
    have e : sumT f (p :: ps) = sumT (addT f p) ps := rfl
    rw [e, sumT_mem, addT_mem]
    simp only [List.mem_cons, exists_eq_or_imp, or_assoc]
theorem sumT_nodup : ∀ {ps : List (List Wv)} {f : List Wv}, f.Nodup → (∀ p ∈ ps, p.Nodup) → (sumT f ps).Nodup
  | [], f, hf, _ => hf
  | p :: ps, f, hf, h => by
    have e : sumT f (p :: ps) = sumT (addT f p) ps := rfl
    rw [e]
    exact sumT_nodup (addT_nodup hf (h p List.mem_cons_self)) fun q hq => h q (List.mem_cons_of_mem _ hq)
theorem sum_joint {ps : List (List Wv)} (h : ∀ p ∈ ps, p.Nodup) (hp : ∀ p ∈ ps, ∀ w ∈ p, IsPw w) : (sumT [] ps).mergeSort leW = joint ps := by
  refine sort_perm_eq (ranks_pw fun w hw => ?_) (same_perm (sumT_nodup List.nodup_nil h) (nodup_once _) fun w => ?_)
  · rcases sumT_mem.mp hw with h | ⟨p, h1, h2⟩
    · cases h
    · exact hp p h1 w h2
  · rw [sumT_mem, mem_once, List.mem_flatten]
    simp
theorem tks_ok {S : List Wv} (hS : ∀ w ∈ S, IsPw w) : ∀ t : Tm, Amid S t → (tks t).Nodup ∧ ∀ w ∈ tks t, w ∈ S
  | .num _, _ => ⟨List.nodup_nil, fun w h => by cases h⟩
  | .take b st, h => ⟨by simp [tks], fun w hw => by rw [tks, List.mem_singleton] at hw; rw [hw]; exact h⟩
  | .rest t _, h => ⟨joint_nodup _, fun w hw => by
      rw [tks, joint_mem] at hw
      obtain ⟨p, p1, p2⟩ := hw
      rw [List.mem_singleton] at p1
      exact (tks_ok hS t h).2 w (p1 ▸ p2)⟩
  | .cho a b c, h => ⟨joint_nodup _, fun w hw => by
      rw [tks, joint_mem] at hw
      obtain ⟨p, p1, p2⟩ := hw
      simp only [List.mem_cons, List.not_mem_nil, or_false] at p1
      rcases p1 with e | e | e
      · exact (tks_ok hS a h.1).2 w (e ▸ p2)
      · exact (tks_ok hS b h.2.1).2 w (e ▸ p2)
      · exact (tks_ok hS c h.2.2).2 w (e ▸ p2)⟩
  | .op _ a b, h => ⟨joint_nodup _, fun w hw => by
      rw [tks, joint_mem] at hw
      obtain ⟨p, p1, p2⟩ := hw
      simp only [List.mem_cons, List.not_mem_nil, or_false] at p1
      rcases p1 with e | e
      · exact (tks_ok hS a h.1).2 w (e ▸ p2)
      · exact (tks_ok hS b h.2).2 w (e ▸ p2)⟩
theorem tks_len {S : List Wv} (hS : ∀ w ∈ S, IsPw w) {t : Tm} (h : Amid S t) : (tks t).length ≤ S.length := nodup_le _ _ (tks_ok hS t h).1 (tks_ok hS t h).2
theorem tks_pw {S : List Wv} (hS : ∀ w ∈ S, IsPw w) {t : Tm} (h : Amid S t) : ∀ w ∈ tks t, IsPw w := fun w hw => hS w ((tks_ok hS t h).2 w hw)
theorem pw_nb (b : Int) (st : List Int) (n : Nat) : (pw b st).nb (n + 2) = true := by
  unfold pw
  rw [Wv.nb, nbs, nbs, nbs, nb_tp]
  rfl
theorem pws_nb {ws : List Wv} (h : ∀ w ∈ ws, IsPw w) (n : Nat) : nbs ws (n + 2) = true := nbs_of fun w hw => by
  obtain ⟨b, st, rfl⟩ := h w hw
  exact pw_nb b st n
/-- a told term is plain and not deep -/
theorem encT_nb : ∀ (t : Tm) (n : Nat), (encT t).nb (hgt t + 2 + n) = true
  | .num v, n => by
    show (Wv.tup _).nb (hgt (.num v) + 2 + n) = true
    rw [show hgt (.num v) + 2 + n = (n + 1) + 1 by simp [hgt]; omega, Wv.nb]
    rfl
  | .take b st, n => by
    show (Wv.tup _).nb (hgt (.take b st) + 2 + n) = true
    rw [show hgt (.take b st) + 2 + n = (n + 1) + 1 by simp [hgt]; omega, Wv.nb, nbs, nbs, nbs, nb_tp, nbs]
    rfl
  | .rest t m, n => by
    have z := encT_nb t n
    show (Wv.tup _).nb (hgt (.rest t m) + 2 + n) = true
    rw [show hgt (.rest t m) + 2 + n = (hgt t + 2 + n) + 1 by simp [hgt]; omega, Wv.nb, nbs, nbs, nbs, z, nbs]
    rfl
  | .cho a b c, n => by
    have za := encT_nb a (max (hgt a) (max (hgt b) (hgt c)) - hgt a + n)
    have zb := encT_nb b (max (hgt a) (max (hgt b) (hgt c)) - hgt b + n)
    have zc := encT_nb c (max (hgt a) (max (hgt b) (hgt c)) - hgt c + n)
    have e1 : hgt a + 2 + (max (hgt a) (max (hgt b) (hgt c)) - hgt a + n) = max (hgt a) (max (hgt b) (hgt c)) + 2 + n := by omega
    have e2 : hgt b + 2 + (max (hgt a) (max (hgt b) (hgt c)) - hgt b + n) = max (hgt a) (max (hgt b) (hgt c)) + 2 + n := by omega
    have e3 : hgt c + 2 + (max (hgt a) (max (hgt b) (hgt c)) - hgt c + n) = max (hgt a) (max (hgt b) (hgt c)) + 2 + n := by omega
    rw [e1] at za
    rw [e2] at zb
    rw [e3] at zc
    show (Wv.tup _).nb (hgt (.cho a b c) + 2 + n) = true
    rw [show hgt (.cho a b c) + 2 + n = (max (hgt a) (max (hgt b) (hgt c)) + 2 + n) + 1 by simp [hgt]; omega, Wv.nb, nbs, nbs, nbs, nbs, za, zb, zc, nbs]
    rfl
  | .op o a b, n => by
    have za := encT_nb a (max (hgt a) (hgt b) - hgt a + n)
    have zb := encT_nb b (max (hgt a) (hgt b) - hgt b + n)
    have e1 : hgt a + 2 + (max (hgt a) (hgt b) - hgt a + n) = max (hgt a) (hgt b) + 2 + n := by omega
    have e2 : hgt b + 2 + (max (hgt a) (hgt b) - hgt b + n) = max (hgt a) (hgt b) + 2 + n := by omega
    rw [e1] at za
    rw [e2] at zb
    show (Wv.tup _).nb (hgt (.op o a b) + 2 + n) = true
    rw [show hgt (.op o a b) + 2 + n = (max (hgt a) (hgt b) + 2 + n) + 1 by simp [hgt]; omega, Wv.nb, nbs, nbs, nbs, za, zb, nbs]
    rfl
theorem encT_pure (t : Tm) : (encT t).pure = true := nb_pure (encT_nb t 0)
theorem encT_tup (t : Tm) : ∃ ws, encT t = .tup ws := by cases t <;> exact ⟨_, rfl⟩
/-- a take of m lines, within its bounds -/
def GoodPw (m : Nat) (w : Wv) : Prop := ∃ b st, w = pw b st ∧ 1 ≤ b ∧ b ≤ 3 ∧ st.length = m ∧ ∀ s ∈ st, -9 ≤ s ∧ s ≤ 9
theorem GoodPw.is {m : Nat} {w : Wv} (h : GoodPw m w) : IsPw w := let ⟨b, st, e, _⟩ := h; ⟨b, st, e⟩
/-- numbers within their bounds -/
def Fine : Tm → Prop
  | .num v => -1000000000000 ≤ v ∧ v ≤ 1000000000000
  | .take _ _ => True
  | .rest t m => Fine t ∧ 1 ≤ m ∧ m ≤ 1000000000
  | .cho a b c => Fine a ∧ Fine b ∧ Fine c
  | .op _ a b => Fine a ∧ Fine b
def capP : Nat → Int
  | 0 => 1
  | n + 1 => 1 + 3 * capP n
theorem capP_pos : ∀ n, 1 ≤ capP n
  | 0 => by decide
  | n + 1 => by have := capP_pos n; rw [capP]; omega
theorem capP_mono : ∀ {m n : Nat}, m ≤ n → capP m ≤ capP n
  | 0, n, _ => capP_pos n
  | m + 1, 0, h => by omega
  | m + 1, n + 1, h => by have := capP_mono (m := m) (n := n) (by omega); rw [capP, capP]; omega
theorem prts_cap : ∀ t : Tm, prts t ≤ capP (hgt t)
  | .num _ => Int.le_refl _
  | .take _ _ => Int.le_refl _
  | .rest t m => by
    have := prts_cap t
    have := capP_pos (hgt t)
    rw [prts, hgt, capP]; omega
  | .cho a b c => by
    have a1 := prts_cap a
    have b1 := prts_cap b
    have c1 := prts_cap c
    have a2 : capP (hgt a) ≤ capP (max (hgt a) (max (hgt b) (hgt c))) := capP_mono (by omega)
    have b2 : capP (hgt b) ≤ capP (max (hgt a) (max (hgt b) (hgt c))) := capP_mono (by omega)
    have c2 : capP (hgt c) ≤ capP (max (hgt a) (max (hgt b) (hgt c))) := capP_mono (by omega)
    rw [prts, hgt, capP]; omega
  | .op _ a b => by
    have a1 := prts_cap a
    have b1 := prts_cap b
    have a2 : capP (hgt a) ≤ capP (max (hgt a) (hgt b)) := capP_mono (by omega)
    have b2 : capP (hgt b) ≤ capP (max (hgt a) (hgt b)) := capP_mono (by omega)
    have := capP_pos (max (hgt a) (hgt b))
    rw [prts, hgt, capP]; omega
theorem best_le {n : Int} : ∀ (r : List Int) (m : Int), m ≤ n → (∀ x ∈ r, x ≤ n) → best_max m r ≤ n
  | [], m, h, _ => h
  | x :: r, m, h, hr => by
    have e : best_max m (x :: r) = best_max (if x > m then x else m) r := rfl
    rw [e]
    refine best_le r _ ?_ fun y hy => hr y (List.mem_cons_of_mem _ hy)
    have := hr x List.mem_cons_self
    split <;> omega
theorem best_mem : ∀ (r : List Int) (m : Int), best_max m r = m ∨ best_max m r ∈ r
  | [], m => .inl rfl
  | x :: r, m => by
    have e : best_max m (x :: r) = best_max (if x > m then x else m) r := rfl
    rw [e]
    rcases best_mem r (if x > m then x else m) with h | h
    · rw [h]
      split
      · exact .inr List.mem_cons_self
      · exact .inl rfl
    · exact .inr (List.mem_cons_of_mem _ h)
theorem dep_cap : ∀ t : Tm, dep t ≤ (hgt t : Int) + 1
  | .num _ => by simp [dep, hgt]
  | .take _ _ => by simp [dep, hgt]
  | .rest t m => by
    have := dep_cap t
    rw [dep, hgt]; omega
  | .cho a b c => by
    have a1 := dep_cap a
    have b1 := dep_cap b
    have c1 := dep_cap c
    have := best_le (n := (max (hgt a) (max (hgt b) (hgt c)) : Nat) + 1) [dep b, dep c] (dep a) (by omega) (fun x hx => by
      simp only [List.mem_cons, List.not_mem_nil, or_false] at hx
      rcases hx with rfl | rfl <;> omega)
    rw [dep, hgt]; omega
  | .op _ a b => by
    have a1 := dep_cap a
    have b1 := dep_cap b
    have := best_le (n := (max (hgt a) (hgt b) : Nat) + 1) [dep b] (dep a) (by omega) (fun x hx => by
      simp only [List.mem_cons, List.not_mem_nil, or_false] at hx
      rcases hx with rfl; omega)
    rw [dep, hgt]; omega
end SL

set_option maxRecDepth 100000
set_option maxHeartbeats 2000000
/-! Places: what the defs compute. -/
namespace SL
open PySem
set_option autoImplicit false
abbrev C (j f : Nat) (ws : List Wv) (h : Hs) : Rz Wv := callD pg.D pg.glo pg.cls pg.fld pg.turns j f ws h
abbrev Wj (j : Nat) : Wd := ⟨pg.glo, pg.cls, pg.fld, callD pg.D pg.glo pg.cls pg.fld pg.turns j, pg.turns⟩
/-- the draws -/
theorem drawO (j : Nat) {o : Ob} (ho : isWl o) {m : Int} (hm : 0 < m) (hm2 : m < 2 ^ 60) : ∃ (v : Int) (o' : Ob), isWl o' ∧ 0 ≤ v ∧ v < m ∧ ∀ (h : Hs) (k : Nat), h[k]? = some o → C (j + 1) 43 [.ref k, .int m] h = .ok (.int v) (h.set k o') := by
  obtain ⟨a, b, c, rfl⟩ := ho
  by_cases hb : 0 < b
  · refine ⟨b % m, .lst [.int a, .int (b / m), .int c], ⟨_, _, _, rfl⟩, Int.emod_nonneg _ (by omega), Int.emod_lt_of_pos _ hm, fun h k hk => ?_⟩
    rw [C, run_open db43 rfl rfl]
    simp (disch := omega) [b43, s43_0, s43_1, s43_2, s43_3, s43_4, s43_5, List.getElem?_cons_zero, List.getElem?_cons_succ, List.set_cons_zero, List.set_cons_succ, List.length_cons, List.length_nil, exs, ex, ev, evs, evo, evi, tst_cmp, tst_chn, tst_isi, tst_call, tst_meth, tst_blt, tst_var, tst_not, tst_and, tst_or, start, bodyEnd, store, Tg.bind, binds, Rz.bind_ok, Rz.bind_bad, Rz.bind_exc, Rz.of, truth, cmpop, Cm.run, subsc, getS, getL, blt, isL, lmop, hk, hb, ixAt, storeSub, bmod, bdiv]
  · refine ⟨lcg a (c + 1) % m, .lst [.int a, .int b, .int (c + 1)], ⟨_, _, _, rfl⟩, Int.emod_nonneg _ (by omega), Int.emod_lt_of_pos _ hm, fun h k hk => ?_⟩
    rw [C, run_open db43 rfl rfl]
    simp (disch := omega) [b43, s43_0, s43_1, s43_2, s43_3, s43_4, s43_5, List.getElem?_cons_zero, List.getElem?_cons_succ, List.set_cons_zero, List.set_cons_succ, List.length_cons, List.length_nil, exs, ex, ev, evs, evo, evi, tst_cmp, tst_chn, tst_isi, tst_call, tst_meth, tst_blt, tst_var, tst_not, tst_and, tst_or, start, bodyEnd, store, Tg.bind, binds, Rz.bind_ok, Rz.bind_bad, Rz.bind_exc, Rz.of, truth, cmpop, Cm.run, subsc, getS, getL, blt, isL, lmop, hk, hb, ixAt, storeSub, badd, bmul_l, bmul_r, bmod, bdiv, get_set hk]
    all_goals rfl
/-- a draw from the well k of g -/
theorem drawW (j : Nat) {g : Hs} {k : Nat} (hk : k < g.length) {o : Ob} (ho : isWl o) {m : Int} (hm : 0 < m) (hm2 : m < 2 ^ 60) : ∃ (v : Int) (o' : Ob), isWl o' ∧ 0 ≤ v ∧ v < m ∧ ∀ t : Hs, callD pg.D pg.glo pg.cls pg.fld pg.turns (j + 1) 43 [.ref k, .int m] (g.set k o ++ t) = .ok (.int v) (g.set k o' ++ t) := by
  obtain ⟨v, o', h1, h2, h3, e⟩ := drawO j ho hm hm2
  exact ⟨v, o', h1, h2, h3, fun t => by rw [← set_wl hk o o' t]; exact e _ k (get_wl hk o t)⟩
end SL

set_option maxRecDepth 100000
set_option maxHeartbeats 2000000
/-! Terms: the well, steps, takes, numbers drawn. -/
namespace SL
open PySem
set_option autoImplicit false
theorem cellAt (j : Nat) (ns : List Int) (k : Nat) : ∃ v : Int, ∀ h, C (j + 1) 41 [.lst (ns.map Wv.int), .int k] h = .ok (.int v) h := by
  by_cases hk : k < ns.length
  · refine ⟨ns[k], fun h => ?_⟩
    rw [C, run_open db41 rfl rfl]
    have x := ixAt_nat hk
    simp [b41, s41_0, s41_1, List.getElem?_cons_zero, List.getElem?_cons_succ, List.set_cons_zero, List.set_cons_succ, List.length_cons, List.length_nil, exs, ex, ev, evs, evo, evi, tst_cmp, tst_chn, tst_isi, tst_call, tst_meth, tst_blt, tst_var, tst_not, tst_and, tst_or, start, bodyEnd, store, Tg.bind, binds, Rz.bind_ok, Rz.bind_bad, Rz.bind_exc, Rz.of, truth, cmpop, Cm.run, subsc, getS, getL, blt, isL, lmop, x, hk]
  · refine ⟨0, fun h => ?_⟩
    rw [C, run_open db41 rfl rfl]
    simp [b41, s41_0, s41_1, List.getElem?_cons_zero, List.getElem?_cons_succ, List.set_cons_zero, List.set_cons_succ, List.length_cons, List.length_nil, exs, ex, ev, evs, evo, evi, tst_cmp, tst_chn, tst_isi, tst_call, tst_meth, tst_blt, tst_var, tst_not, tst_and, tst_or, start, bodyEnd, store, Tg.bind, binds, Rz.bind_ok, Rz.bind_bad, Rz.bind_exc, Rz.of, truth, cmpop, Cm.run, subsc, getS, getL, blt, isL, lmop, hk]
theorem set_last2 (h : Hs) (o p : Ob) (t : Hs) : (h ++ o :: t).set h.length p = h ++ p :: t := by
  rw [List.set_append_right _ _ (Nat.le_refl _), Nat.sub_self]; rfl
theorem get_last2 (h : Hs) (o : Ob) (t : Hs) : (h ++ o :: t)[h.length]? = some o := by
  rw [List.getElem?_append_right (Nat.le_refl _), Nat.sub_self]; rfl
theorem get_last3 (h : Hs) (o p : Ob) (t : Hs) : (h ++ o :: p :: t)[h.length + 1]? = some p := by
  rw [List.getElem?_append_right (by omega), Nat.add_sub_cancel_left]; rfl
theorem well (j : Nat) (ns : List Int) (k : Nat) : ∃ a b : Int, ∀ h, C (j + 2) 42 [.lst (ns.map Wv.int), .int k] h = .ok (.ref h.length) (h ++ [.lst [.int a, .int b, .int 0]]) := by
  obtain ⟨v, hv⟩ := cellAt j ns k
  simp only [C] at hv
  have hb : ∃ b : Int, (if 1000000000000000000 ≤ v then b = v else b = 0) := by
    by_cases q : 1000000000000000000 ≤ v
    · exact ⟨v, by rw [if_pos q]⟩
    · exact ⟨0, by rw [if_neg q]⟩
  obtain ⟨b, hb⟩ := hb
  refine ⟨v % 2147483647 + k, b, fun h => ?_⟩
  rw [C, run_end db42 rfl]
  have e : bodyEnd (exs (Wj (j + 1)) b42.body (start b42.ns [.lst (ns.map Wv.int), .int k]) h) = .ok (.ref (h.length + 1)) (h ++ [.lst [.int 0, .int v], .lst [.int (v % 2147483647 + k), .int b, .int 0]]) := by
    by_cases q : 1000000000000000000 ≤ v
    · rw [if_pos q] at hb; subst hb
      simp (disch := omega) [b42, s42_0, s42_1, List.getElem?_cons_zero, List.getElem?_cons_succ, List.set_cons_zero, List.set_cons_succ, List.length_cons, List.length_nil, exs, ex, ev, evs, evo, evi, tst_cmp, tst_chn, tst_isi, tst_call, tst_meth, tst_blt, tst_var, tst_not, tst_and, tst_or, start, bodyEnd, store, Tg.bind, binds, Rz.bind_ok, Rz.bind_bad, Rz.bind_exc, Rz.of, truth, cmpop, Cm.run, subsc, getS, getL, blt, isL, lmop, hv, ixAt, bmod, badd, pow18, q, newL, get_last, show 2 ≤ sizeLine by decide, show 3 ≤ sizeLine by decide]
    · rw [if_neg q] at hb; subst hb
      simp (disch := omega) [b42, s42_0, s42_1, List.getElem?_cons_zero, List.getElem?_cons_succ, List.set_cons_zero, List.set_cons_succ, List.length_cons, List.length_nil, exs, ex, ev, evs, evo, evi, tst_cmp, tst_chn, tst_isi, tst_call, tst_meth, tst_blt, tst_var, tst_not, tst_and, tst_or, start, bodyEnd, store, Tg.bind, binds, Rz.bind_ok, Rz.bind_bad, Rz.bind_exc, Rz.of, truth, cmpop, Cm.run, subsc, getS, getL, blt, isL, lmop, hv, ixAt, bmod, badd, pow18, q, newL, get_last, show 2 ≤ sizeLine by decide, show 3 ≤ sizeLine by decide]
  simp only [Wj] at e
  rw [e, Rz.bind_ok]
  exact fresh_end (by omega) (by rw [get_last3]) (by rfl) (List.prefix_append _ _)

theorem cold_O {h : Hs} {k : Nat} {o' : Ob} (ho' : isWl o') {w : Wv} (hw : w.pure = true) (t : Hs) : ended .cold h.length h w (h.set k o' ++ t) = .ok w (h.set k o') := by
  have e : (h.set k o' ++ t).take h.length = h.set k o' := by
    rw [List.take_append_of_le_length (by simp), List.take_of_length_le (by simp)]
  have := end_cold (h := h) (h' := h.set k o' ++ t) hw (by simp) (by rw [e]; exact shut_set (ho'.under _))
  rw [e] at this
  exact this
theorem fresh_O {h : Hs} {k : Nat} {o' : Ob} (ho' : isWl o') {ws : List Wv} (hw : pures ws = true) (t : Hs) {i : Nat} (hi : h.length ≤ i) (e : (h.set k o' ++ t)[i]? = some (.lst ws)) : ended .fresh h.length h (.ref i) (h.set k o' ++ t) = .ok (.ref h.length) (h.set k o' ++ [.lst ws]) := by
  have e2 : (h.set k o' ++ t).take h.length = h.set k o' := by
    rw [List.take_append_of_le_length (by simp), List.take_of_length_le (by simp)]
  have := end_fresh (h := h) hi e (pures_frz _ hw) (by rw [e2]; exact shut_set (ho'.under _))
  rw [e2] at this
  exact this
theorem get_ext {h : Hs} {k : Nat} {o : Ob} (e : h[k]? = some o) (t : Hs) : (h ++ t)[k]? = some o := get_app e t
theorem set_ext {h : Hs} {k : Nat} {o : Ob} (e : h[k]? = some o) (p : Ob) (t : Hs) : (h ++ t).set k p = h.set k p ++ t := by
  rw [List.set_append_left _ _ (ltg e)]
theorem get_ne {h : Hs} {k i : Nat} {o : Ob} (e : h[i]? = some o) (hi : i ≠ k) (p : Ob) : (h.set k p)[i]? = some o := by
  rw [List.getElem?_set_ne (Ne.symm hi)]; exact e
theorem get_end (h : Hs) (k : Nat) (p q : Ob) (t : Hs) : (h.set k p ++ q :: t)[h.length]? = some q := by
  rw [List.getElem?_append_right (by simp), List.length_set, Nat.sub_self]; rfl
/-- a comprehension that draws -/
theorem comp_O {turn : Nat → Wv → Hs → Rz (Option Wv)} {R : Wv → Wv → Prop} : ∀ (ws acc : List Wv) (o : Ob), isWl o →
    (∀ w ∈ ws, ∀ o, isWl o → ∃ v o', isWl o' ∧ R w v ∧ ∀ (h : Hs) (k : Nat), h[k]? = some o → turn k w h = .ok (some v) (h.set k o')) → acc.length + ws.length ≤ sizeLine →
    ∃ vs o', isWl o' ∧ Zp R ws vs ∧ ∀ (h : Hs) (k kc : Nat), h[k]? = some o → h[kc]? = some (.lst acc) → kc ≠ k → compL (turn k) [] kc ws h = .ok (.ref kc) ((h.set k o').set kc (.lst (acc ++ vs)))
  | [], acc, o, ho, _, _ => ⟨[], o, ho, trivial, fun h k kc hk hc ne => by
      rw [compL_nil rfl, set_same hk, List.append_nil, set_same hc]⟩
  | w :: ws, acc, o, ho, ht, hz => by
    obtain ⟨v, o1, ho1, hr, e⟩ := ht w List.mem_cons_self o ho
    obtain ⟨vs, o', ho', hz', ih⟩ := comp_O ws (acc ++ [v]) o1 ho1 (fun x hx => ht x (List.mem_cons_of_mem _ hx)) (by simp at hz ⊢; omega)
    refine ⟨v :: vs, o', ho', ⟨hr, hz'⟩, fun h k kc hk hc ne => ?_⟩
    have c1 : (h.set k o1)[kc]? = some (.lst acc) := get_ne hc ne o1
    have k1 : ((h.set k o1).set kc (.lst (acc ++ [v])))[k]? = some o1 := get_ne (get_set hk) (Ne.symm ne) _
    rw [compL_so rfl (e h k hk) c1 (by simp at hz; omega), ih _ k kc k1 (get_set c1) ne]
    rw [List.set_comm _ _ (Ne.symm ne), List.set_set, List.set_comm _ _ ne, List.set_set, List.append_assoc]
    rfl
theorem stepsO (j : Nat) {o : Ob} (ho : isWl o) {m : Int} (h0 : 0 ≤ m) (h1 : m ≤ 100) : ∃ (st : List Int) (o' : Ob), isWl o' ∧ (st.length = m.toNat ∧ ∀ s ∈ st, -9 ≤ s ∧ s ≤ 9) ∧ ∀ (h : Hs) (k : Nat), h[k]? = some o → C (j + 2) 44 [.ref k, .int m] h = .ok (tp st) (h.set k o') := by
  obtain ⟨v, o1, ho1, v1, v2, hd⟩ := drawO j ho (m := 4) (by decide) (by decide)
  have hx : ∃ x : Int, ([3, 3, 5, 19] : List Int)[v.toNat]? = some x ∧ 0 < x ∧ x < 20 := by
    have : v = 0 ∨ v = 1 ∨ v = 2 ∨ v = 3 := by omega
    rcases this with r | r | r | r <;> subst r <;> exact ⟨_, rfl, by decide, by decide⟩
  obtain ⟨x, x1, x2, x3⟩ := hx
  have ht : ∀ w ∈ upTo 0 m.toNat, ∀ o, isWl o → ∃ u o', isWl o' ∧ (∃ i : Int, u = .int i ∧ -9 ≤ i ∧ i ≤ 9) ∧ ∀ (h : Hs) (k : Nat), h[k]? = some o →
      (fun (k : Nat) (w : Wv) (h2 : Hs) => (Rz.of ((Tg.name 3).bind w (wipes [some (.ref k), some (.int m), some (.int x), none] [3])) h2).bind fun e' h3 => (ev (Wj (j + 1)) (.bin .sub (.call 43 [(.var 0), (.var 2)]) (.bin .fdiv (.var 2) (.cst (.int 2)))) e' h3).bind fun v h4 => (.ok (some v) h4 : Rz (Option Wv))) k w h = .ok (some u) (h.set k o') := by
    intro w hw o ho
    obtain ⟨y, o', ho', y1, y2, hy⟩ := drawO j ho (m := x) x2 (by omega)
    refine ⟨.int (y - x / 2), o', ho', ⟨_, rfl, by omega, by omega⟩, fun h k hk => ?_⟩
    have e := hy h k hk
    simp only [C] at e
    simp (disch := omega) [wipes, List.getElem?_cons_zero, List.getElem?_cons_succ, List.set_cons_zero, List.set_cons_succ, List.length_cons, List.length_nil, exs, ex, ev.eq_1, ev.eq_2, ev.eq_3, ev.eq_4, ev.eq_5, ev.eq_6, ev.eq_7, ev.eq_8, ev.eq_9, ev.eq_10, ev.eq_11, ev.eq_12, ev.eq_13, ev.eq_14, ev.eq_15, ev.eq_16, ev.eq_17, ev.eq_18, ev.eq_19, ev.eq_21, ev.eq_22, ev.eq_23, ev.eq_24, evs, evo, evi, tst_cmp, tst_chn, tst_isi, tst_call, tst_meth, tst_blt, tst_var, tst_not, tst_and, tst_or, start, bodyEnd, store, Tg.bind, binds, Rz.bind_ok, Rz.bind_bad, Rz.bind_exc, Rz.of, truth, cmpop, Cm.run, getS, getL, blt, isL, lmop, e, bsub, bdiv]
  obtain ⟨vs, o', ho', zz, hc⟩ := comp_O (upTo 0 m.toNat) [] o1 ho1 ht (by
    have : (upTo 0 m.toNat).length = m.toNat := by simp [upTo]
    rw [this, List.length_nil, sizeLine_eq]; omega)
  have vi : ∃ st : List Int, vs = st.map Wv.int ∧ ∀ s ∈ st, -9 ≤ s ∧ s ≤ 9 := by
    have al := Zp.right (Q := fun v => ∃ i : Int, v = .int i ∧ -9 ≤ i ∧ i ≤ 9) (fun a b h => h) zz
    clear zz hc
    induction vs with
    | nil => exact ⟨[], rfl, fun s h => by cases h⟩
    | cons v vs ih =>
      obtain ⟨st, e, eb⟩ := ih fun b hb => al b (List.mem_cons_of_mem _ hb)
      obtain ⟨i, e2, e3⟩ := al v List.mem_cons_self
      exact ⟨i :: st, by rw [List.map_cons, e, e2], fun s hs => (List.mem_cons.mp hs).elim (fun q => q ▸ e3) (eb s)⟩
  obtain ⟨st, rfl, stb⟩ := vi
  refine ⟨st, o', ho', ⟨by have := Zp.len zz; simp [upTo] at this; omega, stb⟩, fun h k hk => ?_⟩
  have e1 := hd (h ++ [.lst [.int 3, .int 3, .int 5, .int 19]]) k (get_app hk _)
  rw [set_ext hk] at e1
  have h2k : (h.set k o1 ++ [Ob.lst [.int 3, .int 3, .int 5, .int 19], .lst []])[k]? = some o1 := get_app (get_set hk) _
  have hlt := ltg hk
  have h2c : (h.set k o1 ++ [Ob.lst [.int 3, .int 3, .int 5, .int 19], .lst []])[h.length + 1]? = some (.lst []) := by
    rw [List.getElem?_append_right (by simp), List.length_set, Nat.add_sub_cancel_left]; rfl
  have e2 := hc _ k (h.length + 1) h2k h2c (by omega)
  rw [C, run_end db44 rfl]
  simp only [C] at e1
  have sub : subsc (.ref h.length) (.int v) (h.set k o1 ++ [Ob.lst [.int 3, .int 3, .int 5, .int 19]]) = .ok (.int x) (h.set k o1 ++ [Ob.lst [.int 3, .int 3, .int 5, .int 19]]) := by
    have : v = 0 ∨ v = 1 ∨ v = 2 ∨ v = 3 := by omega
    rcases this with r | r | r | r <;> subst r <;> (simp at x1; subst x1) <;> simp [subsc, getS, getL, get_end, ixAt]
  have q0 : ex (Wj (j + 1)) s44_0 [some (.ref k), some (.int m), none, none] h = .ok (.nx [some (.ref k), some (.int m), some (.int x), none]) (h.set k o1 ++ [.lst [.int 3, .int 3, .int 5, .int 19]]) := by
    simp [s44_0, List.getElem?_cons_zero, List.getElem?_cons_succ, List.set_cons_zero, List.set_cons_succ, List.length_cons, List.length_nil, exs, ex, ev.eq_1, ev.eq_2, ev.eq_3, ev.eq_4, ev.eq_5, ev.eq_6, ev.eq_7, ev.eq_8, ev.eq_9, ev.eq_10, ev.eq_11, ev.eq_12, ev.eq_13, ev.eq_14, ev.eq_15, ev.eq_16, ev.eq_17, ev.eq_18, ev.eq_19, ev.eq_21, ev.eq_22, ev.eq_23, ev.eq_24, evs, evo, evi, tst_cmp, tst_chn, tst_isi, tst_call, tst_meth, tst_blt, tst_var, tst_not, tst_and, tst_or, start, bodyEnd, store, Tg.bind, binds, Rz.bind_ok, Rz.bind_bad, Rz.bind_exc, Rz.of, truth, cmpop, Cm.run, getS, getL, blt, isL, lmop, newL, show 4 ≤ sizeLine by decide, e1, sub]
  have q1 : ex (Wj (j + 1)) s44_1 [some (.ref k), some (.int m), some (.int x), none] (h.set k o1 ++ [.lst [.int 3, .int 3, .int 5, .int 19]]) = .ok (.ret (tp st)) (h.set k o' ++ [.lst [.int 3, .int 3, .int 5, .int 19], .lst (st.map Wv.int)]) := by
    have ec : ev (Wj (j + 1)) c44_0 [some (.ref k), some (.int m), some (.int x), none] (h.set k o1 ++ [.lst [.int 3, .int 3, .int 5, .int 19]]) = .ok (.ref (h.length + 1)) (h.set k o' ++ [.lst [.int 3, .int 3, .int 5, .int 19], .lst (st.map Wv.int)]) := by
      rw [c44_0, ev]
      have ei : evi (Wj (j + 1)) (.rng [(.var 1)]) [some (.ref k), some (.int m), some (.int x), none] (h.set k o1 ++ [Ob.lst [.int 3, .int 3, .int 5, .int 19]]) = .ok (upTo 0 m.toNat, []) (h.set k o1 ++ [Ob.lst [.int 3, .int 3, .int 5, .int 19]]) := by
        rw [evi]
        simp only [evs, ev, List.getElem?_cons_zero, List.getElem?_cons_succ, Rz.bind_ok]
        rw [range1 (by omega), Rz.of_some]
      rw [ei, Rz.bind_ok]
      have len : (h.set k o1 ++ [Ob.lst [.int 3, .int 3, .int 5, .int 19]]).length = h.length + 1 := by simp
      simp only [len]
      rw [List.append_assoc, List.cons_append, List.nil_append]
      refine (e2).trans ?_
      rw [List.set_append_left _ _ (by simp; exact hlt), List.set_set, List.set_append_right _ _ (by simp), List.length_set, Nat.add_sub_cancel_left]
      rfl
    have g1 : (h.set k o' ++ [Ob.lst [.int 3, .int 3, .int 5, .int 19], .lst (st.map Wv.int)])[h.length + 1]? = some (.lst (st.map Wv.int)) := by
      rw [List.getElem?_append_right (by simp), List.length_set, Nat.add_sub_cancel_left]; rfl
    rw [s44_1, ex, blt1, ec, Rz.bind_ok]
    simp only [blt, getS, getL, g1, Rz.bind_ok]
    rfl
  have key : bodyEnd (exs (Wj (j + 1)) [s44_0, s44_1] [some (.ref k), some (.int m), none, none] h) = .ok (tp st) (h.set k o' ++ [.lst [.int 3, .int 3, .int 5, .int 19], .lst (st.map Wv.int)]) := by
    rw [exs_nx q0, exs_ret q1]
    rfl
  refine (congrArg (fun r => Rz.bind r fun w h1 => ended .cold h.length h w h1) key).trans ?_
  rw [Rz.bind_ok]
  exact cold_O ho' (tp_pure st) _
end SL

set_option maxRecDepth 100000
set_option maxHeartbeats 2000000
/-! Terms: takes, numbers drawn. -/
namespace SL
open PySem
set_option autoImplicit false
theorem someO (j : Nat) {o : Ob} (ho : isWl o) {m : Int} (h0 : 0 ≤ m) (h1 : m ≤ 100) : ∃ (S : List Wv) (o' : Ob), isWl o' ∧ (∀ w ∈ S, GoodPw m.toNat w) ∧ S.length ≤ 4 ∧ ∀ (h : Hs) (k : Nat), h[k]? = some o → C (j + 3) 45 [.ref k, .int m] h = .ok (.ref h.length) (h.set k o' ++ [.lst S]) := by
  obtain ⟨v, o1, ho1, v1, v2, hd⟩ := drawO (j + 1) ho (m := 5) (by decide) (by decide)
  have ht : ∀ w ∈ upTo 0 v.toNat, ∀ o, isWl o → ∃ u o', isWl o' ∧ GoodPw m.toNat u ∧ ∀ (h : Hs) (k : Nat), h[k]? = some o →
      (fun (k : Nat) (w : Wv) (h2 : Hs) => (Rz.of ((Tg.name 2).bind w (wipes [some (.ref k), some (.int m), none] [2])) h2).bind fun e' h3 => (ev (Wj (j + 2)) (.tup [(.bin .add (.cst (.int 1)) (.call 43 [(.var 0), (.cst (.int 3))])), (.call 44 [(.var 0), (.var 1)])]) e' h3).bind fun v h4 => (.ok (some v) h4 : Rz (Option Wv))) k w h = .ok (some u) (h.set k o') := by
    intro w hw o ho
    obtain ⟨y, o1, ho1, y1, y2, hy⟩ := drawO (j + 1) ho (m := 3) (by decide) (by decide)
    obtain ⟨st, o2, ho2, ⟨sl, sb⟩, hs⟩ := stepsO j ho1 h0 h1
    refine ⟨pw (1 + y) st, o2, ho2, ⟨_, _, rfl, by omega, by omega, sl, sb⟩, fun h k hk => ?_⟩
    have e := hy h k hk
    have e2 := hs (h.set k o1) k (get_set hk)
    rw [List.set_set] at e2
    simp only [C] at e e2
    simp [wipes, List.getElem?_cons_zero, List.getElem?_cons_succ, List.set_cons_zero, List.set_cons_succ, List.length_cons, List.length_nil, exs, ex, ev.eq_1, ev.eq_2, ev.eq_3, ev.eq_4, ev.eq_5, ev.eq_6, ev.eq_7, ev.eq_8, ev.eq_9, ev.eq_10, ev.eq_11, ev.eq_12, ev.eq_13, ev.eq_14, ev.eq_15, ev.eq_16, ev.eq_17, ev.eq_18, ev.eq_19, ev.eq_21, ev.eq_22, ev.eq_23, ev.eq_24, evs, evo, evi, tst_cmp, tst_chn, tst_isi, tst_call, tst_meth, tst_blt, tst_var, tst_not, tst_and, tst_or, start, bodyEnd, store, Tg.bind, binds, Rz.bind_ok, Rz.bind_bad, Rz.bind_exc, Rz.of, truth, cmpop, Cm.run, getS, getL, blt, isL, lmop, e, e2, badd, pw, show 2 ≤ sizeLine by decide]
  obtain ⟨vs, o', ho', zz, hc⟩ := comp_O (upTo 0 v.toNat) [] o1 ho1 ht (by
    have : (upTo 0 v.toNat).length = v.toNat := by simp [upTo]
    rw [this, List.length_nil, sizeLine_eq]; omega)
  have al := Zp.right (Q := GoodPw m.toNat) (fun a b h => h) zz
  have ln := Zp.len zz
  refine ⟨vs, o', ho', al, by simp [upTo] at ln; omega, fun h k hk => ?_⟩
  have e1 := hd h k hk
  have hlt := ltg hk
  simp only [C] at e1
  have k2 : (h.set k o1 ++ [Ob.lst []])[k]? = some o1 := get_app (get_set hk) _
  have c2 : (h.set k o1 ++ [Ob.lst []])[h.length]? = some (.lst []) := get_end h k o1 _ _
  have e2 := hc _ k h.length k2 c2 (by omega)
  rw [List.set_append_left _ _ (by simp; exact hlt), List.set_set, List.set_append_right _ _ (by simp), List.length_set, Nat.sub_self] at e2
  have q0 : ex (Wj (j + 2)) s45_0 [some (.ref k), some (.int m), none] h = .ok (.ret (.ref h.length)) (h.set k o' ++ [.lst vs]) := by
    rw [s45_0, ex, c45_0, ev]
    have ei : evi (Wj (j + 2)) (.rng [(.call 43 [(.var 0), (.cst (.int 5))])]) [some (.ref k), some (.int m), none] h = .ok (upTo 0 v.toNat, []) (h.set k o1) := by
      rw [evi]
      have z : evs (Wj (j + 2)) [(.call 43 [(.var 0), (.cst (.int 5))])] [some (.ref k), some (.int m), none] h = .ok [.int v] (h.set k o1) := by
        simp [List.getElem?_cons_zero, List.getElem?_cons_succ, List.set_cons_zero, List.set_cons_succ, List.length_cons, List.length_nil, exs, ex, ev.eq_1, ev.eq_2, ev.eq_3, ev.eq_4, ev.eq_5, ev.eq_6, ev.eq_7, ev.eq_8, ev.eq_9, ev.eq_10, ev.eq_11, ev.eq_12, ev.eq_13, ev.eq_14, ev.eq_15, ev.eq_16, ev.eq_17, ev.eq_18, ev.eq_19, ev.eq_21, ev.eq_22, ev.eq_23, ev.eq_24, evs, evo, evi, tst_cmp, tst_chn, tst_isi, tst_call, tst_meth, tst_blt, tst_var, tst_not, tst_and, tst_or, start, bodyEnd, store, Tg.bind, binds, Rz.bind_ok, Rz.bind_bad, Rz.bind_exc, Rz.of, truth, cmpop, Cm.run, getS, getL, blt, isL, lmop, e1]
      rw [z, Rz.bind_ok, range1 (by omega), Rz.of_some]
    rw [ei, Rz.bind_ok]
    have len : (h.set k o1).length = h.length := List.length_set
    simp only [len]
    refine (congrArg (fun r => Rz.bind r fun v h1 => Rz.ok (Fl.ret v) h1) e2).trans ?_
    rfl
  rw [C, run_end db45 rfl]
  have key : bodyEnd (exs (Wj (j + 2)) [s45_0] [some (.ref k), some (.int m), none] h) = .ok (.ref h.length) (h.set k o' ++ [.lst vs]) := by
    rw [exs_ret q0]
    rfl
  refine (congrArg (fun r => Rz.bind r fun w h1 => ended .fresh h.length h w h1) key).trans ?_
  rw [Rz.bind_ok]
  exact fresh_O ho' (nbs_pure (pws_nb (fun w hw => (al w hw).is) 0)) _ (Nat.le_refl _) (get_end h k o' _ _)
theorem pow12 (h : Hs) : binop .pow (.int 10) (.int 12) h = .ok (.int 1000000000000) h := by kernel_rfl
theorem numO (j : Nat) {o : Ob} (ho : isWl o) : ∃ (v : Int) (o' : Ob), isWl o' ∧ (-1000000000000 ≤ v ∧ v ≤ 1000000000000) ∧ ∀ (h : Hs) (k : Nat), h[k]? = some o → C (j + 2) 46 [.ref k] h = .ok (encT (.num v)) (h.set k o') := by
  obtain ⟨v, o1, ho1, v1, v2, hd⟩ := drawO j ho (m := 3) (by decide) (by decide)
  have hx : ∃ x : Int, ([7, 201, 2000000000001] : List Int)[v.toNat]? = some x ∧ 0 < x ∧ x ≤ 2000000000001 := by
    have : v = 0 ∨ v = 1 ∨ v = 2 := by omega
    rcases this with r | r | r <;> subst r <;> exact ⟨_, rfl, by decide, by decide⟩
  obtain ⟨x, x1, x2, x3⟩ := hx
  obtain ⟨y, o', ho', y1, y2, hy⟩ := drawO j ho1 (m := x) x2 (by omega)
  refine ⟨y - x / 2, o', ho', ⟨by omega, by omega⟩, fun h k hk => ?_⟩
  have e1 := hd (h ++ [.lst [.int 7, .int 201, .int 2000000000001]]) k (get_app hk _)
  rw [set_ext hk] at e1
  have e2 := hy (h.set k o1 ++ [.lst [.int 7, .int 201, .int 2000000000001]]) k (get_app (get_set hk) _)
  rw [set_ext (get_set hk), List.set_set] at e2
  have sub : subsc (.ref h.length) (.int v) (h.set k o1 ++ [Ob.lst [.int 7, .int 201, .int 2000000000001]]) = .ok (.int x) (h.set k o1 ++ [Ob.lst [.int 7, .int 201, .int 2000000000001]]) := by
    have : v = 0 ∨ v = 1 ∨ v = 2 := by omega
    rcases this with r | r | r <;> subst r <;> (simp at x1; subst x1) <;> simp [subsc, getS, getL, get_end, ixAt]
  simp only [C] at e1 e2
  rw [C, run_end db46 rfl]
  have q0 : ex (Wj (j + 1)) s46_0 [some (.ref k), none] h = .ok (.nx [some (.ref k), some (.int x)]) (h.set k o1 ++ [.lst [.int 7, .int 201, .int 2000000000001]]) := by
    simp (disch := omega) [s46_0, List.getElem?_cons_zero, List.getElem?_cons_succ, List.set_cons_zero, List.set_cons_succ, List.length_cons, List.length_nil, exs, ex, ev.eq_1, ev.eq_2, ev.eq_3, ev.eq_4, ev.eq_5, ev.eq_6, ev.eq_7, ev.eq_8, ev.eq_9, ev.eq_10, ev.eq_11, ev.eq_12, ev.eq_13, ev.eq_14, ev.eq_15, ev.eq_16, ev.eq_17, ev.eq_18, ev.eq_19, ev.eq_21, ev.eq_22, ev.eq_23, ev.eq_24, evs, evo, evi, tst_cmp, tst_chn, tst_isi, tst_call, tst_meth, tst_blt, tst_var, tst_not, tst_and, tst_or, start, bodyEnd, store, Tg.bind, binds, Rz.bind_ok, Rz.bind_bad, Rz.bind_exc, Rz.of, truth, cmpop, Cm.run, getS, getL, blt, isL, lmop, newL, show 3 ≤ sizeLine by decide, e1, sub, pow12, badd, bmul_l]
  have q1 : ex (Wj (j + 1)) s46_1 [some (.ref k), some (.int x)] (h.set k o1 ++ [.lst [.int 7, .int 201, .int 2000000000001]]) = .ok (.ret (encT (.num (y - x / 2)))) (h.set k o' ++ [.lst [.int 7, .int 201, .int 2000000000001]]) := by
    simp (disch := omega) [s46_1, List.getElem?_cons_zero, List.getElem?_cons_succ, List.set_cons_zero, List.set_cons_succ, List.length_cons, List.length_nil, exs, ex, ev.eq_1, ev.eq_2, ev.eq_3, ev.eq_4, ev.eq_5, ev.eq_6, ev.eq_7, ev.eq_8, ev.eq_9, ev.eq_10, ev.eq_11, ev.eq_12, ev.eq_13, ev.eq_14, ev.eq_15, ev.eq_16, ev.eq_17, ev.eq_18, ev.eq_19, ev.eq_21, ev.eq_22, ev.eq_23, ev.eq_24, evs, evo, evi, tst_cmp, tst_chn, tst_isi, tst_call, tst_meth, tst_blt, tst_var, tst_not, tst_and, tst_or, start, bodyEnd, store, Tg.bind, binds, Rz.bind_ok, Rz.bind_bad, Rz.bind_exc, Rz.of, truth, cmpop, Cm.run, getS, getL, blt, isL, lmop, e2, bsub, bdiv, encT, show 2 ≤ sizeLine by decide]
  have key : bodyEnd (exs (Wj (j + 1)) [s46_0, s46_1] [some (.ref k), none] h) = .ok (encT (.num (y - x / 2))) (h.set k o' ++ [.lst [.int 7, .int 201, .int 2000000000001]]) := by
    rw [exs_nx q0, exs_ret q1]
    rfl
  refine (congrArg (fun r => Rz.bind r fun w h1 => ended .cold h.length h w h1) key).trans ?_
  rw [Rz.bind_ok]
  exact cold_O ho' (encT_pure _) _
end SL

set_option maxRecDepth 100000
set_option maxHeartbeats 2000000
/-! Terms drawn. -/
namespace SL
open PySem
set_option autoImplicit false
theorem pws_pb {S : List Wv} (hS : ∀ w ∈ S, IsPw w) : pbs S 2 = true := pbs_of fun w hw => by
  obtain ⟨b, st, rfl⟩ := hS w hw
  exact nb_pb (pw_nb b st 0)
/-- what is told of a leaf: a number, a take -/
theorem leafO (j : Nat) {S : List Wv} (hS : ∀ w ∈ S, IsPw w) (hl : S.length ≤ 8) (d v : Int) {o : Ob} (ho : isWl o) (c : d = 0 ∨ v < 4) : ∃ (t : Tm) (o' : Ob), isWl o' ∧ (Amid S t ∧ Fine t) ∧ hgt t = 0 ∧ ∀ (h : Hs) (k a : Nat), h[k]? = some o → h[a]? = some (.lst S) → a ≠ k →
    ∃ X, ex (Wj (j + 2)) s47_1 [some (.ref k), some (.ref a), some (.int d), some (.int v), none, none] h = .ok (.ret (encT t)) (h.set k o' ++ X) := by
  have T : ∀ (h : Hs) (k a : Nat), tst (Wj (j + 2)) (.or (.cmp .eq (.var 2) (.cst (.int 0))) (.cmp .lt (.var 3) (.cst (.int 4)))) [some (.ref k), some (.ref a), some (.int d), some (.int v), none, none] h = .ok true h := fun h k a => by
    by_cases c1 : d = 0
    · simp [List.getElem?_cons_zero, List.getElem?_cons_succ, List.set_cons_zero, List.set_cons_succ, List.length_cons, List.length_nil, exs, ex, ev, evs, evo, evi, tst_cmp, tst_chn, tst_isi, tst_call, tst_meth, tst_blt, tst_var, tst_not, tst_and, tst_or, start, bodyEnd, store, Tg.bind, binds, Rz.bind_ok, Rz.bind_bad, Rz.bind_exc, Rz.of, truth, cmpop, Cm.run, subsc, getS, getL, blt, isL, lmop, eq_int, c1]
    · have c2 : v < 4 := by omega
      simp [List.getElem?_cons_zero, List.getElem?_cons_succ, List.set_cons_zero, List.set_cons_succ, List.length_cons, List.length_nil, exs, ex, ev, evs, evo, evi, tst_cmp, tst_chn, tst_isi, tst_call, tst_meth, tst_blt, tst_var, tst_not, tst_and, tst_or, start, bodyEnd, store, Tg.bind, binds, Rz.bind_ok, Rz.bind_bad, Rz.bind_exc, Rz.of, truth, cmpop, Cm.run, subsc, getS, getL, blt, isL, lmop, eq_int, c1, c2]
  have E0 : ∀ (h : Hs) (k a : Nat), h[a]? = some (.lst S) → ev (Wj (j + 2)) (.cmp .eq (.var 1) (.lst [])) [some (.ref k), some (.ref a), some (.int d), some (.int v), none, none] h = .ok (.bl (decide (S = []))) (h ++ [.lst []]) := fun h k a ha => by
    have z : eqVal (h ++ [Ob.lst []]) (.ref a) (.ref h.length) = some (decide (S = [])) := eq_nil (get_app ha _) (get_last h _) (pws_pb hS)
    simp [List.getElem?_cons_zero, List.getElem?_cons_succ, List.set_cons_zero, List.set_cons_succ, List.length_cons, List.length_nil, exs, ex, ev.eq_1, ev.eq_2, ev.eq_3, ev.eq_4, ev.eq_5, ev.eq_6, ev.eq_7, ev.eq_8, ev.eq_9, ev.eq_10, ev.eq_11, ev.eq_12, ev.eq_13, ev.eq_14, ev.eq_15, ev.eq_16, ev.eq_17, ev.eq_18, ev.eq_19, ev.eq_21, ev.eq_22, ev.eq_23, ev.eq_24, evs, evo, evi, tst_cmp, tst_chn, tst_isi, tst_call, tst_meth, tst_blt, tst_var, tst_not, tst_and, tst_or, start, bodyEnd, store, Tg.bind, binds, Rz.bind_ok, Rz.bind_bad, Rz.bind_exc, Rz.of, truth, cmpop, Cm.run, getS, getL, blt, isL, lmop, newL, show 0 ≤ sizeLine by decide, z]
  by_cases n : S = []
  · obtain ⟨x, o', ho', xb, e⟩ := numO j ho
    refine ⟨.num x, o', ho', ⟨trivial, xb⟩, rfl, fun h k a hk ha ne => ⟨[.lst []], ?_⟩⟩
    have e1 := e (h ++ [.lst []]) k (get_app hk _)
    rw [set_ext hk] at e1
    simp only [C] at e1
    have T2 : tst (Wj (j + 2)) (.or (.cmp .eq (.var 1) (.lst [])) (.cmp .eq (.call 43 [(.var 0), (.cst (.int 3))]) (.cst (.int 0)))) [some (.ref k), some (.ref a), some (.int d), some (.int v), none, none] h = .ok true (h ++ [.lst []]) := by
      rw [tst_or, tst_cmp, E0 h k a ha, n]
      simp [truth, Rz.of]
    rw [s47_1, ifs_yes (T h k a), exs, ifs_yes T2, exs, ex, ev, evs, ev]
    simp only [List.getElem?_cons_zero, Rz.bind_ok, evs, e1]
  · obtain ⟨u, o1, ho1, u1, u2, hu⟩ := drawO (j + 1) ho (m := 3) (by decide) (by decide)
    by_cases u0 : u = 0
    · obtain ⟨x, o', ho', xb, e⟩ := numO j ho1
      refine ⟨.num x, o', ho', ⟨trivial, xb⟩, rfl, fun h k a hk ha ne => ⟨[.lst []], ?_⟩⟩
      have e0 := hu (h ++ [.lst []]) k (get_app hk _)
      rw [set_ext hk] at e0
      have e1 := e (h.set k o1 ++ [.lst []]) k (get_app (get_set hk) _)
      rw [set_ext (get_set hk), List.set_set] at e1
      simp only [C] at e0 e1
      have T2 : tst (Wj (j + 2)) (.or (.cmp .eq (.var 1) (.lst [])) (.cmp .eq (.call 43 [(.var 0), (.cst (.int 3))]) (.cst (.int 0)))) [some (.ref k), some (.ref a), some (.int d), some (.int v), none, none] h = .ok true (h.set k o1 ++ [.lst []]) := by
        rw [tst_or, tst_cmp, E0 h k a ha]
        simp [List.getElem?_cons_zero, List.getElem?_cons_succ, List.set_cons_zero, List.set_cons_succ, List.length_cons, List.length_nil, exs, ex, ev, evs, evo, evi, tst_cmp, tst_chn, tst_isi, tst_call, tst_meth, tst_blt, tst_var, tst_not, tst_and, tst_or, start, bodyEnd, store, Tg.bind, binds, Rz.bind_ok, Rz.bind_bad, Rz.bind_exc, Rz.of, truth, cmpop, Cm.run, subsc, getS, getL, blt, isL, lmop, n, e0, eq_int, u0]
      rw [s47_1, ifs_yes (T h k a), exs, ifs_yes T2, exs, ex, ev, evs, ev]
      simp only [List.getElem?_cons_zero, Rz.bind_ok, evs, e1]
    · have pos : 0 < S.length := by
        cases S with
        | nil => exact absurd rfl n
        | cons => simp
      obtain ⟨i, o2, ho2, i1, i2, hi⟩ := drawO (j + 1) ho1 (m := S.length) (by omega) (by omega)
      have il : i.toNat < S.length := by omega
      obtain ⟨b, st, ew⟩ := hS S[i.toNat] (List.getElem_mem il)
      refine ⟨.take b st, o2, ho2, ⟨by rw [Amid, ← ew]; exact List.getElem_mem il, trivial⟩, rfl, fun h k a hk ha ne => ⟨[.lst []], ?_⟩⟩
      have e0 := hu (h ++ [.lst []]) k (get_app hk _)
      rw [set_ext hk] at e0
      have e1 := hi (h.set k o1 ++ [.lst []]) k (get_app (get_set hk) _)
      rw [set_ext (get_set hk), List.set_set] at e1
      simp only [C] at e0 e1
      have a1 : (h.set k o1 ++ [Ob.lst []])[a]? = some (.lst S) := get_app (get_ne ha ne _) _
      have a2 : (h.set k o2 ++ [Ob.lst []])[a]? = some (.lst S) := get_app (get_ne ha ne _) _
      have sb : subsc (.ref a) (.int i) (h.set k o2 ++ [Ob.lst []]) = .ok (pw b st) (h.set k o2 ++ [Ob.lst []]) := by
        have z := subsc_ref a2 il
        rw [ew, Int.toNat_of_nonneg i1] at z
        exact z
      have T2 : tst (Wj (j + 2)) (.or (.cmp .eq (.var 1) (.lst [])) (.cmp .eq (.call 43 [(.var 0), (.cst (.int 3))]) (.cst (.int 0)))) [some (.ref k), some (.ref a), some (.int d), some (.int v), none, none] h = .ok false (h.set k o1 ++ [.lst []]) := by
        rw [tst_or, tst_cmp, E0 h k a ha]
        simp [List.getElem?_cons_zero, List.getElem?_cons_succ, List.set_cons_zero, List.set_cons_succ, List.length_cons, List.length_nil, exs, ex, ev, evs, evo, evi, tst_cmp, tst_chn, tst_isi, tst_call, tst_meth, tst_blt, tst_var, tst_not, tst_and, tst_or, start, bodyEnd, store, Tg.bind, binds, Rz.bind_ok, Rz.bind_bad, Rz.bind_exc, Rz.of, truth, cmpop, Cm.run, subsc, getS, getL, blt, isL, lmop, n, e0, eq_int, u0]
      rw [s47_1, ifs_yes (T h k a), exs_nx (ifs_no T2), exs, ex]
      have z : ev (Wj (j + 2)) (.bin .add (.tup [(.cst (.str (Str.ofString "take")))]) (.sub (.var 1) (.call 43 [(.var 0), (.blt .len [(.var 1)])]))) [some (.ref k), some (.ref a), some (.int d), some (.int v), none, none] (h.set k o1 ++ [.lst []]) = .ok (encT (.take b st)) (h.set k o2 ++ [.lst []]) := by
        have l1 : 1 ≤ sizeLine := by decide
        have l3 : 1 + 2 ≤ sizeLine := by decide
        simp [List.getElem?_cons_zero, List.getElem?_cons_succ, List.set_cons_zero, List.set_cons_succ, List.length_cons, List.length_nil, exs, ex, ev.eq_1, ev.eq_2, ev.eq_3, ev.eq_4, ev.eq_5, ev.eq_6, ev.eq_7, ev.eq_8, ev.eq_9, ev.eq_10, ev.eq_11, ev.eq_12, ev.eq_13, ev.eq_14, ev.eq_15, ev.eq_16, ev.eq_17, ev.eq_18, ev.eq_19, ev.eq_21, ev.eq_22, ev.eq_23, ev.eq_24, evs, evo, evi, tst_cmp, tst_chn, tst_isi, tst_call, tst_meth, tst_blt, tst_var, tst_not, tst_and, tst_or, start, bodyEnd, store, Tg.bind, binds, Rz.bind_ok, Rz.bind_bad, Rz.bind_exc, Rz.of, truth, cmpop, Cm.run, getS, getL, blt, isL, lmop, l1, a1, e1, sb]
        simp [pw, binop, l3, encT]
      rw [z]
      simp only [Rz.bind_ok]
theorem pow9' (h : Hs) : binop .pow (.int 10) (.int 9) h = .ok (.int 1000000000) h := by kernel_rfl
theorem toldO {S : List Wv} (hS : ∀ w ∈ S, IsPw w) (hl : S.length ≤ 8) (i : Nat) : ∀ (D : Nat) (o : Ob), isWl o → ∃ (t : Tm) (o' : Ob), isWl o' ∧ (Amid S t ∧ Fine t) ∧ hgt t ≤ D ∧ ∀ (h : Hs) (k a : Nat), h[k]? = some o → h[a]? = some (.lst S) → a ≠ k → C (i + D + 3) 47 [.ref k, .ref a, .int D] h = .ok (encT t) (h.set k o') := by
  intro D
  induction D with
  | zero =>
    intro o ho
    obtain ⟨v, o1, ho1, v1, v2, hd⟩ := drawO (i + 1) ho (m := 13) (by decide) (by decide)
    obtain ⟨t, o', ho', at_, hh, e⟩ := leafO i hS hl 0 v ho1 (.inl rfl)
    refine ⟨t, o', ho', at_, by omega, fun h k a hk ha ne => ?_⟩
    have e1 := hd h k hk
    simp only [C] at e1
    obtain ⟨X, q1⟩ := e (h.set k o1) k a (get_set hk) (get_ne ha ne _) ne
    rw [List.set_set] at q1
    have q0 : ex (Wj (i + 2)) s47_0 [some (.ref k), some (.ref a), some (.int 0), none, none, none] h = .ok (.nx [some (.ref k), some (.ref a), some (.int 0), some (.int v), none, none]) (h.set k o1) := by
      simp [s47_0, List.getElem?_cons_zero, List.getElem?_cons_succ, List.set_cons_zero, List.set_cons_succ, List.length_cons, List.length_nil, exs, ex, ev.eq_1, ev.eq_2, ev.eq_3, ev.eq_4, ev.eq_5, ev.eq_6, ev.eq_7, ev.eq_8, ev.eq_9, ev.eq_10, ev.eq_11, ev.eq_12, ev.eq_13, ev.eq_14, ev.eq_15, ev.eq_16, ev.eq_17, ev.eq_18, ev.eq_19, ev.eq_21, ev.eq_22, ev.eq_23, ev.eq_24, evs, evo, evi, tst_cmp, tst_chn, tst_isi, tst_call, tst_meth, tst_blt, tst_var, tst_not, tst_and, tst_or, start, bodyEnd, store, Tg.bind, binds, Rz.bind_ok, Rz.bind_bad, Rz.bind_exc, Rz.of, truth, cmpop, Cm.run, getS, getL, blt, isL, lmop, e1]
    rw [C, run_end db47 rfl]
    have key : bodyEnd (exs (Wj (i + 2)) [s47_0, s47_1, s47_2, s47_3, s47_4, s47_5, s47_6] [some (.ref k), some (.ref a), some (.int 0), none, none, none] h) = .ok (encT t) (h.set k o' ++ X) := by
      rw [exs_nx q0, exs_ret q1]
      rfl
    refine (congrArg (fun r => Rz.bind r fun w h1 => ended .cold h.length h w h1) key).trans ?_
    rw [Rz.bind_ok]
    exact cold_O ho' (encT_pure _) _
  | succ D ih =>
    intro o ho
    obtain ⟨v, o1, ho1, v1, v2, hd⟩ := drawO (i + D + 2) ho (m := 13) (by decide) (by decide)
    have D1 : ((D + 1 : Nat) : Int) - 1 = (D : Int) := by omega
    have D0 : ((D + 1 : Nat) : Int) ≠ 0 := by omega
    generalize hDD : ((D + 1 : Nat) : Int) = DD at D1 D0
    -- the end, of whatever the body tells
    have fin : ∀ (t : Tm) (o' : Ob), isWl o' → ∀ (h : Hs) (k a : Nat) (X : Hs), exs (Wj (i + D + 3)) [s47_0, s47_1, s47_2, s47_3, s47_4, s47_5, s47_6] [some (.ref k), some (.ref a), some (.int DD), none, none, none] h = .ok (.ret (encT t)) (h.set k o' ++ X) →
        C (i + D + 1 + 3) 47 [.ref k, .ref a, .int DD] h = .ok (encT t) (h.set k o') := fun t o' ho' h k a X e => by
      rw [C, run_end db47 rfl]
      have key : bodyEnd (exs (Wj (i + D + 3)) [s47_0, s47_1, s47_2, s47_3, s47_4, s47_5, s47_6] [some (.ref k), some (.ref a), some (.int DD), none, none, none] h) = .ok (encT t) (h.set k o' ++ X) := by
        rw [e]
        rfl
      refine (congrArg (fun r => Rz.bind r fun w h1 => ended .cold h.length h w h1) key).trans ?_
      rw [Rz.bind_ok]
      exact cold_O ho' (encT_pure _) _
    have q0 : ∀ (h : Hs) (k a : Nat), h[k]? = some o → ex (Wj (i + D + 3)) s47_0 [some (.ref k), some (.ref a), some (.int DD), none, none, none] h = .ok (.nx [some (.ref k), some (.ref a), some (.int DD), some (.int v), none, none]) (h.set k o1) := fun h k a hk => by
      have e1 := hd h k hk
      simp only [C] at e1
      simp [s47_0, List.getElem?_cons_zero, List.getElem?_cons_succ, List.set_cons_zero, List.set_cons_succ, List.length_cons, List.length_nil, exs, ex, ev.eq_1, ev.eq_2, ev.eq_3, ev.eq_4, ev.eq_5, ev.eq_6, ev.eq_7, ev.eq_8, ev.eq_9, ev.eq_10, ev.eq_11, ev.eq_12, ev.eq_13, ev.eq_14, ev.eq_15, ev.eq_16, ev.eq_17, ev.eq_18, ev.eq_19, ev.eq_21, ev.eq_22, ev.eq_23, ev.eq_24, evs, evo, evi, tst_cmp, tst_chn, tst_isi, tst_call, tst_meth, tst_blt, tst_var, tst_not, tst_and, tst_or, start, bodyEnd, store, Tg.bind, binds, Rz.bind_ok, Rz.bind_bad, Rz.bind_exc, Rz.of, truth, cmpop, Cm.run, getS, getL, blt, isL, lmop, e1]
    by_cases c : v < 4
    · obtain ⟨t, o', ho', at_, hh, e⟩ := leafO (i + D + 1) hS hl DD v ho1 (.inr c)
      refine ⟨t, o', ho', at_, by omega, fun h k a hk ha ne => ?_⟩
      obtain ⟨X, q1⟩ := e (h.set k o1) k a (get_set hk) (get_ne ha ne _) ne
      rw [List.set_set] at q1
      refine fin t o' ho' h k a X ?_
      rw [exs_nx (q0 h k a hk), exs_ret q1]
    · have q1 : ∀ (h : Hs) (k a : Nat), ex (Wj (i + D + 3)) s47_1 [some (.ref k), some (.ref a), some (.int DD), some (.int v), none, none] h = .ok (.nx [some (.ref k), some (.ref a), some (.int DD), some (.int v), none, none]) h := fun h k a => by
        have T : tst (Wj (i + D + 3)) (.or (.cmp .eq (.var 2) (.cst (.int 0))) (.cmp .lt (.var 3) (.cst (.int 4)))) [some (.ref k), some (.ref a), some (.int DD), some (.int v), none, none] h = .ok false h := by
          simp [List.getElem?_cons_zero, List.getElem?_cons_succ, List.set_cons_zero, List.set_cons_succ, List.length_cons, List.length_nil, exs, ex, ev, evs, evo, evi, tst_cmp, tst_chn, tst_isi, tst_call, tst_meth, tst_blt, tst_var, tst_not, tst_and, tst_or, start, bodyEnd, store, Tg.bind, binds, Rz.bind_ok, Rz.bind_bad, Rz.bind_exc, Rz.of, truth, cmpop, Cm.run, subsc, getS, getL, blt, isL, lmop, eq_int, D0, c]
        rw [s47_1, ifs_no T]
      obtain ⟨t1, o2, ho2, at1, hh1, e2⟩ := ih o1 ho1
      have q2 : ∀ (h : Hs) (k a : Nat), h[k]? = some o1 → h[a]? = some (.lst S) → a ≠ k → ex (Wj (i + D + 3)) s47_2 [some (.ref k), some (.ref a), some (.int DD), some (.int v), none, none] h = .ok (.nx [some (.ref k), some (.ref a), some (.int DD), some (.int v), some (encT t1), none]) (h.set k o2) := fun h k a hk ha ne => by
        have z := e2 h k a hk ha ne
        simp only [C] at z
        simp [s47_2, List.getElem?_cons_zero, List.getElem?_cons_succ, List.set_cons_zero, List.set_cons_succ, List.length_cons, List.length_nil, exs, ex, ev.eq_1, ev.eq_2, ev.eq_3, ev.eq_4, ev.eq_5, ev.eq_6, ev.eq_7, ev.eq_8, ev.eq_9, ev.eq_10, ev.eq_11, ev.eq_12, ev.eq_13, ev.eq_14, ev.eq_15, ev.eq_16, ev.eq_17, ev.eq_18, ev.eq_19, ev.eq_21, ev.eq_22, ev.eq_23, ev.eq_24, evs, evo, evi, tst_cmp, tst_chn, tst_isi, tst_call, tst_meth, tst_blt, tst_var, tst_not, tst_and, tst_or, start, bodyEnd, store, Tg.bind, binds, Rz.bind_ok, Rz.bind_bad, Rz.bind_exc, Rz.of, truth, cmpop, Cm.run, getS, getL, blt, isL, lmop, bsub, D1, z]
      by_cases c4 : v = 4
      · obtain ⟨r, o3, ho3, r1, r2, hr⟩ := drawO (i + D + 2) ho2 (m := 2) (by decide) (by decide)
        have hx : ∃ x : Int, ([9, 1000000000] : List Int)[r.toNat]? = some x ∧ 0 < x ∧ x ≤ 1000000000 := by
          have : r = 0 ∨ r = 1 := by omega
          rcases this with z | z <;> subst z <;> exact ⟨_, rfl, by decide, by decide⟩
        obtain ⟨x, x1, x2, x3⟩ := hx
        obtain ⟨y, o4, ho4, y1, y2, hy⟩ := drawO (i + D + 2) ho3 (m := x) x2 (by omega)
        refine ⟨.rest t1 (1 + y), o4, ho4, ⟨at1.1, at1.2, by omega, by omega⟩, by rw [hgt]; omega, fun h k a hk ha ne => ?_⟩
        have k1 := get_set (p := o1) hk
        have a1 := get_ne ha ne o1
        have k2 := get_set (p := o2) hk
        have Q2 := q2 (h.set k o1) k a k1 a1 ne
        rw [List.set_set] at Q2
        have e3 := hr (h.set k o2 ++ [.lst [.int 9, .int 1000000000]]) k (get_app k2 _)
        rw [set_ext k2, List.set_set] at e3
        have k3 := get_set (p := o3) hk
        have e4 := hy (h.set k o3 ++ [.lst [.int 9, .int 1000000000]]) k (get_app k3 _)
        rw [set_ext k3, List.set_set] at e4
        simp only [C] at e3 e4
        have sub : subsc (.ref h.length) (.int r) (h.set k o3 ++ [Ob.lst [.int 9, .int 1000000000]]) = .ok (.int x) (h.set k o3 ++ [Ob.lst [.int 9, .int 1000000000]]) := by
          have : r = 0 ∨ r = 1 := by omega
          rcases this with z | z <;> subst z <;> (simp at x1; subst x1) <;> simp [subsc, getS, getL, get_end, ixAt]
        have q3 : ex (Wj (i + D + 3)) s47_3 [some (.ref k), some (.ref a), some (.int DD), some (.int v), some (encT t1), none] (h.set k o2) = .ok (.ret (encT (.rest t1 (1 + y)))) (h.set k o4 ++ [.lst [.int 9, .int 1000000000]]) := by
          have T : tst (Wj (i + D + 3)) (.cmp .eq (.var 3) (.cst (.int 4))) [some (.ref k), some (.ref a), some (.int DD), some (.int v), some (encT t1), none] (h.set k o2) = .ok true (h.set k o2) := by
            simp [List.getElem?_cons_zero, List.getElem?_cons_succ, List.set_cons_zero, List.set_cons_succ, List.length_cons, List.length_nil, exs, ex, ev, evs, evo, evi, tst_cmp, tst_chn, tst_isi, tst_call, tst_meth, tst_blt, tst_var, tst_not, tst_and, tst_or, start, bodyEnd, store, Tg.bind, binds, Rz.bind_ok, Rz.bind_bad, Rz.bind_exc, Rz.of, truth, cmpop, Cm.run, subsc, getS, getL, blt, isL, lmop, eq_int, c4]
          rw [s47_3, ifs_yes T]
          simp [List.getElem?_cons_zero, List.getElem?_cons_succ, List.set_cons_zero, List.set_cons_succ, List.length_cons, List.length_nil, exs, ex, ev.eq_1, ev.eq_2, ev.eq_3, ev.eq_4, ev.eq_5, ev.eq_6, ev.eq_7, ev.eq_8, ev.eq_9, ev.eq_10, ev.eq_11, ev.eq_12, ev.eq_13, ev.eq_14, ev.eq_15, ev.eq_16, ev.eq_17, ev.eq_18, ev.eq_19, ev.eq_21, ev.eq_22, ev.eq_23, ev.eq_24, evs, evo, evi, tst_cmp, tst_chn, tst_isi, tst_call, tst_meth, tst_blt, tst_var, tst_not, tst_and, tst_or, start, bodyEnd, store, Tg.bind, binds, Rz.bind_ok, Rz.bind_bad, Rz.bind_exc, Rz.of, truth, cmpop, Cm.run, getS, getL, blt, isL, lmop, pow9', newL, show 2 ≤ sizeLine by decide, show 3 ≤ sizeLine by decide, e3, sub, e4, badd, encT]
        refine fin _ o4 ho4 h k a [.lst [.int 9, .int 1000000000]] ?_
        rw [exs_nx (q0 h k a hk), exs_nx (q1 _ k a), exs_nx Q2, exs_ret q3]
      · have q3 : ∀ (h : Hs) (k a : Nat), ex (Wj (i + D + 3)) s47_3 [some (.ref k), some (.ref a), some (.int DD), some (.int v), some (encT t1), none] h = .ok (.nx [some (.ref k), some (.ref a), some (.int DD), some (.int v), some (encT t1), none]) h := fun h k a => by
          have T : tst (Wj (i + D + 3)) (.cmp .eq (.var 3) (.cst (.int 4))) [some (.ref k), some (.ref a), some (.int DD), some (.int v), some (encT t1), none] h = .ok false h := by
            simp [List.getElem?_cons_zero, List.getElem?_cons_succ, List.set_cons_zero, List.set_cons_succ, List.length_cons, List.length_nil, exs, ex, ev, evs, evo, evi, tst_cmp, tst_chn, tst_isi, tst_call, tst_meth, tst_blt, tst_var, tst_not, tst_and, tst_or, start, bodyEnd, store, Tg.bind, binds, Rz.bind_ok, Rz.bind_bad, Rz.bind_exc, Rz.of, truth, cmpop, Cm.run, subsc, getS, getL, blt, isL, lmop, eq_int, c4]
          rw [s47_3, ifs_no T]
        obtain ⟨t2, o3, ho3, at2, hh2, e3⟩ := ih o2 ho2
        have q4 : ∀ (h : Hs) (k a : Nat), h[k]? = some o2 → h[a]? = some (.lst S) → a ≠ k → ex (Wj (i + D + 3)) s47_4 [some (.ref k), some (.ref a), some (.int DD), some (.int v), some (encT t1), none] h = .ok (.nx [some (.ref k), some (.ref a), some (.int DD), some (.int v), some (encT t1), some (encT t2)]) (h.set k o3) := fun h k a hk ha ne => by
          have z := e3 h k a hk ha ne
          simp only [C] at z
          simp [s47_4, List.getElem?_cons_zero, List.getElem?_cons_succ, List.set_cons_zero, List.set_cons_succ, List.length_cons, List.length_nil, exs, ex, ev.eq_1, ev.eq_2, ev.eq_3, ev.eq_4, ev.eq_5, ev.eq_6, ev.eq_7, ev.eq_8, ev.eq_9, ev.eq_10, ev.eq_11, ev.eq_12, ev.eq_13, ev.eq_14, ev.eq_15, ev.eq_16, ev.eq_17, ev.eq_18, ev.eq_19, ev.eq_21, ev.eq_22, ev.eq_23, ev.eq_24, evs, evo, evi, tst_cmp, tst_chn, tst_isi, tst_call, tst_meth, tst_blt, tst_var, tst_not, tst_and, tst_or, start, bodyEnd, store, Tg.bind, binds, Rz.bind_ok, Rz.bind_bad, Rz.bind_exc, Rz.of, truth, cmpop, Cm.run, getS, getL, blt, isL, lmop, bsub, D1, z]
        by_cases c5 : v = 5
        · obtain ⟨t3, o4, ho4, at3, hh3, e4⟩ := ih o3 ho3
          refine ⟨.cho t1 t2 t3, o4, ho4, ⟨⟨at1.1, at2.1, at3.1⟩, at1.2, at2.2, at3.2⟩, by rw [hgt]; omega, fun h k a hk ha ne => ?_⟩
          have Q2 := q2 (h.set k o1) k a (get_set hk) (get_ne ha ne _) ne
          rw [List.set_set] at Q2
          have Q4 := q4 (h.set k o2) k a (get_set hk) (get_ne ha ne _) ne
          rw [List.set_set] at Q4
          have z := e4 (h.set k o3) k a (get_set hk) (get_ne ha ne _) ne
          rw [List.set_set] at z
          simp only [C] at z
          have q5 : ex (Wj (i + D + 3)) s47_5 [some (.ref k), some (.ref a), some (.int DD), some (.int v), some (encT t1), some (encT t2)] (h.set k o3) = .ok (.ret (encT (.cho t1 t2 t3))) (h.set k o4 ++ []) := by
            have T : tst (Wj (i + D + 3)) (.cmp .eq (.var 3) (.cst (.int 5))) [some (.ref k), some (.ref a), some (.int DD), some (.int v), some (encT t1), some (encT t2)] (h.set k o3) = .ok true (h.set k o3) := by
              simp [List.getElem?_cons_zero, List.getElem?_cons_succ, List.set_cons_zero, List.set_cons_succ, List.length_cons, List.length_nil, exs, ex, ev, evs, evo, evi, tst_cmp, tst_chn, tst_isi, tst_call, tst_meth, tst_blt, tst_var, tst_not, tst_and, tst_or, start, bodyEnd, store, Tg.bind, binds, Rz.bind_ok, Rz.bind_bad, Rz.bind_exc, Rz.of, truth, cmpop, Cm.run, subsc, getS, getL, blt, isL, lmop, eq_int, c5]
            rw [s47_5, ifs_yes T]
            simp [List.getElem?_cons_zero, List.getElem?_cons_succ, List.set_cons_zero, List.set_cons_succ, List.length_cons, List.length_nil, exs, ex, ev.eq_1, ev.eq_2, ev.eq_3, ev.eq_4, ev.eq_5, ev.eq_6, ev.eq_7, ev.eq_8, ev.eq_9, ev.eq_10, ev.eq_11, ev.eq_12, ev.eq_13, ev.eq_14, ev.eq_15, ev.eq_16, ev.eq_17, ev.eq_18, ev.eq_19, ev.eq_21, ev.eq_22, ev.eq_23, ev.eq_24, evs, evo, evi, tst_cmp, tst_chn, tst_isi, tst_call, tst_meth, tst_blt, tst_var, tst_not, tst_and, tst_or, start, bodyEnd, store, Tg.bind, binds, Rz.bind_ok, Rz.bind_bad, Rz.bind_exc, Rz.of, truth, cmpop, Cm.run, getS, getL, blt, isL, lmop, show 4 ≤ sizeLine by decide, bsub, D1, z, encT]
          refine fin _ o4 ho4 h k a [] ?_
          rw [exs_nx (q0 h k a hk), exs_nx (q1 _ k a), exs_nx Q2, exs_nx (q3 _ k a), exs_nx Q4, exs_ret q5]
        · obtain ⟨r, o4, ho4, r1, r2, hr⟩ := drawO (i + D + 2) ho3 (m := 5) (by decide) (by decide)
          refine ⟨.op r.toNat t1 t2, o4, ho4, ⟨⟨at1.1, at2.1⟩, at1.2, at2.2⟩, by rw [hgt]; omega, fun h k a hk ha ne => ?_⟩
          have Q2 := q2 (h.set k o1) k a (get_set hk) (get_ne ha ne _) ne
          rw [List.set_set] at Q2
          have Q4 := q4 (h.set k o2) k a (get_set hk) (get_ne ha ne _) ne
          rw [List.set_set] at Q4
          have q5 : ex (Wj (i + D + 3)) s47_5 [some (.ref k), some (.ref a), some (.int DD), some (.int v), some (encT t1), some (encT t2)] (h.set k o3) = .ok (.nx [some (.ref k), some (.ref a), some (.int DD), some (.int v), some (encT t1), some (encT t2)]) (h.set k o3) := by
            have T : tst (Wj (i + D + 3)) (.cmp .eq (.var 3) (.cst (.int 5))) [some (.ref k), some (.ref a), some (.int DD), some (.int v), some (encT t1), some (encT t2)] (h.set k o3) = .ok false (h.set k o3) := by
              simp [List.getElem?_cons_zero, List.getElem?_cons_succ, List.set_cons_zero, List.set_cons_succ, List.length_cons, List.length_nil, exs, ex, ev, evs, evo, evi, tst_cmp, tst_chn, tst_isi, tst_call, tst_meth, tst_blt, tst_var, tst_not, tst_and, tst_or, start, bodyEnd, store, Tg.bind, binds, Rz.bind_ok, Rz.bind_bad, Rz.bind_exc, Rz.of, truth, cmpop, Cm.run, subsc, getS, getL, blt, isL, lmop, eq_int, c5]
            rw [s47_5, ifs_no T]
          have k3 := get_set (p := o3) hk
          have z := hr (h.set k o3 ++ [.lst [.str (Str.ofString "+"), .str (Str.ofString "-"), .str (Str.ofString "*"), .str (Str.ofString "min"), .str (Str.ofString "max")]]) k (get_app k3 _)
          rw [set_ext k3, List.set_set] at z
          simp only [C] at z
          have sub : subsc (.ref h.length) (.int r) (h.set k o4 ++ [Ob.lst [.str (Str.ofString "+"), .str (Str.ofString "-"), .str (Str.ofString "*"), .str (Str.ofString "min"), .str (Str.ofString "max")]]) = .ok (.str (opS r.toNat)) (h.set k o4 ++ [Ob.lst [.str (Str.ofString "+"), .str (Str.ofString "-"), .str (Str.ofString "*"), .str (Str.ofString "min"), .str (Str.ofString "max")]]) := by
            have : r = 0 ∨ r = 1 ∨ r = 2 ∨ r = 3 ∨ r = 4 := by omega
            rcases this with z | z | z | z | z <;> subst z <;> simp [subsc, getS, getL, get_end, ixAt] <;> rfl
          have q6 : ex (Wj (i + D + 3)) s47_6 [some (.ref k), some (.ref a), some (.int DD), some (.int v), some (encT t1), some (encT t2)] (h.set k o3) = .ok (.ret (encT (.op r.toNat t1 t2))) (h.set k o4 ++ [.lst [.str (Str.ofString "+"), .str (Str.ofString "-"), .str (Str.ofString "*"), .str (Str.ofString "min"), .str (Str.ofString "max")]]) := by
            simp [s47_6, List.getElem?_cons_zero, List.getElem?_cons_succ, List.set_cons_zero, List.set_cons_succ, List.length_cons, List.length_nil, exs, ex, ev.eq_1, ev.eq_2, ev.eq_3, ev.eq_4, ev.eq_5, ev.eq_6, ev.eq_7, ev.eq_8, ev.eq_9, ev.eq_10, ev.eq_11, ev.eq_12, ev.eq_13, ev.eq_14, ev.eq_15, ev.eq_16, ev.eq_17, ev.eq_18, ev.eq_19, ev.eq_21, ev.eq_22, ev.eq_23, ev.eq_24, evs, evo, evi, tst_cmp, tst_chn, tst_isi, tst_call, tst_meth, tst_blt, tst_var, tst_not, tst_and, tst_or, start, bodyEnd, store, Tg.bind, binds, Rz.bind_ok, Rz.bind_bad, Rz.bind_exc, Rz.of, truth, cmpop, Cm.run, getS, getL, blt, isL, lmop, newL, show 5 ≤ sizeLine by decide, show 3 ≤ sizeLine by decide, z, sub, encT]
          refine fin _ o4 ho4 h k a [.lst [.str (Str.ofString "+"), .str (Str.ofString "-"), .str (Str.ofString "*"), .str (Str.ofString "min"), .str (Str.ofString "max")]] ?_
          rw [exs_nx (q0 h k a hk), exs_nx (q1 _ k a), exs_nx Q2, exs_nx (q3 _ k a), exs_nx Q4, exs_nx q5, exs_ret q6]
end SL

set_option maxRecDepth 100000
set_option maxHeartbeats 2000000
/-! Terms made; what is below. -/
namespace SL
open PySem
set_option autoImplicit false
def opC : Nat → Nat
  | 0 => 4
  | 1 => 5
  | 2 => 6
  | 3 => 7
  | _ => 8
def cO : Tm → Nat
  | .num _ => 1
  | .take _ _ => 2
  | .rest _ _ => 9
  | .cho _ _ _ => 10
  | .op o _ _ => opC o
/-- as it is made -/
def encO : Tm → Wv
  | .num v => .ins 1 [(10, .int v)]
  | .take b st => .ins 2 [(11, .int b), (12, tp st)]
  | .rest t m => .ins 9 [(14, encO t), (16, .int m)]
  | .cho a b c => .ins 10 [(17, encO a), (14, encO b), (15, encO c)]
  | .op o a b => .ins (opC o) [(14, encO a), (15, encO b)]
def fO : Tm → List (Nat × Wv)
  | .num v => [(10, .int v)]
  | .take b st => [(11, .int b), (12, tp st)]
  | .rest t m => [(14, encO t), (16, .int m)]
  | .cho a b c => [(17, encO a), (14, encO b), (15, encO c)]
  | .op o a b => [(14, encO a), (15, encO b)]
theorem encO_eq (t : Tm) : encO t = .ins (cO t) (fO t) := by cases t <;> rfl
theorem tp_frz (p : List Int) (rec : Nat → Option Wv) : (tp p).frz rec = some (tp p) := pure_frz rec (tp_pure p)
theorem encO_frz (rec : Nat → Option Wv) : ∀ t : Tm, (encO t).frz rec = some (encO t)
  | .num v => by simp [encO, Wv.frz, frzf]
  | .take b st => by simp [encO, Wv.frz, frzf, tp_frz]
  | .rest t m => by simp [encO, Wv.frz, frzf, encO_frz rec t]
  | .cho a b c => by simp [encO, Wv.frz, frzf, encO_frz rec a, encO_frz rec b, encO_frz rec c]
  | .op o a b => by simp [encO, Wv.frz, frzf, encO_frz rec a, encO_frz rec b]
theorem fO_frz (rec : Nat → Option Wv) (t : Tm) : frzf rec (fO t) = some (fO t) := by
  have := encO_frz rec t
  rw [encO_eq, Wv.frz] at this
  cases h : frzf rec (fO t) with
  | none => rw [h] at this; cases this
  | some x => rw [h] at this; simpa using this
/-- a def's end, told frozen -/
theorem coldF {h : Hs} {w v : Wv} (t : Hs) (hf : frzW (h ++ t) (fun k => decide (k < h.length)) w = some v) : ended .cold h.length h w (h ++ t) = .ok v h := by
  unfold ended
  simp only [hf, take_app, shut_refl, List.length_append, Nat.le_add_right, and_self, if_true]
theorem makeF {j c f : Nat} {ms : List (Nat × Nat)} {xs : List Wv} {fs : List (Nat × Wv)} {h : Hs} (hc : pg.cls c = some ⟨some f, ms, true⟩) (hr : callD pg.D pg.glo pg.cls pg.fld pg.turns j f (.ref h.length :: xs) (h ++ [.ins c []]) = .ok .non (h ++ [.ins c fs])) (hf : ∀ rec, frzf rec fs = some fs) :
    make (Wj j) c xs h = .ok (.ins c fs) h := by
  unfold make
  simp only [hc, hr, Rz.bind_ok, if_true]
  refine coldF _ ?_
  unfold frzW
  rw [Wv.frz, deepest, frzC]
  have g : (h ++ [Ob.ins c fs])[h.length]? = some (.ins c fs) := get_last h _
  simp only [Nat.lt_irrefl, decide_false, Bool.false_eq_true, if_false, g, hf, Option.map_some]
theorem set_lastI (h : Hs) (o p : Ob) : (h ++ [o]).set h.length p = h ++ [p] := set_last h o p
theorem initPair (j c : Nat) (h1 : pg.fld c 14 = true) (h2 : pg.fld c 15 = true) (a b : Wv) (h : Hs) : callD pg.D pg.glo pg.cls pg.fld pg.turns (j + 1) 19 [.ref h.length, a, b] (h ++ [.ins c []]) = .ok .non (h ++ [.ins c [(14, a), (15, b)]]) := by
  rw [run_open db19 rfl rfl]
  simp [b19, s19_0, s19_1, List.getElem?_cons_zero, List.getElem?_cons_succ, List.set_cons_zero, List.set_cons_succ, List.length_cons, List.length_nil, exs, ex, ev, evs, evo, evi, tst_cmp, tst_chn, tst_isi, tst_call, tst_meth, tst_blt, tst_var, tst_not, tst_and, tst_or, start, bodyEnd, store, Tg.bind, binds, Rz.bind_ok, Rz.bind_bad, Rz.bind_exc, Rz.of, truth, cmpop, Cm.run, subsc, getS, getL, blt, isL, lmop, get_last, h1, h2, set_lastI, fput]
theorem makePair (j : Nat) (a b : Tm) (h : Hs) : ∀ o : Nat, make (Wj (j + 1)) (opC o) [encO a, encO b] h = .ok (encO (.op o a b)) h
  | 0 => makeF cls4 (initPair j _ fl414 fl415 _ _ h) (fun rec => fO_frz rec (.op 0 a b))
  | 1 => makeF cls5 (initPair j _ fl514 fl515 _ _ h) (fun rec => fO_frz rec (.op 1 a b))
  | 2 => makeF cls6 (initPair j _ fl614 fl615 _ _ h) (fun rec => fO_frz rec (.op 2 a b))
  | 3 => makeF cls7 (initPair j _ fl714 fl715 _ _ h) (fun rec => fO_frz rec (.op 3 a b))
  | o + 4 => makeF cls8 (initPair j _ fl814 fl815 _ _ h) (fun rec => fO_frz rec (.op (o + 4) a b))
theorem makeNum (j : Nat) (v : Int) (h : Hs) : make (Wj (j + 1)) 1 [.int v] h = .ok (encO (.num v)) h := by
  refine makeF cls1 ?_ (fun rec => fO_frz rec (.num v))
  rw [run_open db10 rfl rfl]
  simp [b10, s10_0, List.getElem?_cons_zero, List.getElem?_cons_succ, List.set_cons_zero, List.set_cons_succ, List.length_cons, List.length_nil, exs, ex, ev, evs, evo, evi, tst_cmp, tst_chn, tst_isi, tst_call, tst_meth, tst_blt, tst_var, tst_not, tst_and, tst_or, start, bodyEnd, store, Tg.bind, binds, Rz.bind_ok, Rz.bind_bad, Rz.bind_exc, Rz.of, truth, cmpop, Cm.run, subsc, getS, getL, blt, isL, lmop, get_last, fl110, set_lastI, fput]
theorem makeTake (j : Nat) (b : Int) (st : List Int) (h : Hs) : make (Wj (j + 1)) 2 [.int b, tp st] h = .ok (encO (.take b st)) h := by
  refine makeF cls2 ?_ (fun rec => fO_frz rec (.take b st))
  rw [run_open db14 rfl rfl]
  simp [b14, s14_0, s14_1, List.getElem?_cons_zero, List.getElem?_cons_succ, List.set_cons_zero, List.set_cons_succ, List.length_cons, List.length_nil, exs, ex, ev, evs, evo, evi, tst_cmp, tst_chn, tst_isi, tst_call, tst_meth, tst_blt, tst_var, tst_not, tst_and, tst_or, start, bodyEnd, store, Tg.bind, binds, Rz.bind_ok, Rz.bind_bad, Rz.bind_exc, Rz.of, truth, cmpop, Cm.run, subsc, getS, getL, blt, isL, lmop, get_last, fl211, fl212, set_lastI, fput]
theorem makeRest (j : Nat) (t : Tm) (m : Int) (h : Hs) : make (Wj (j + 1)) 9 [encO t, .int m] h = .ok (encO (.rest t m)) h := by
  refine makeF cls9 ?_ (fun rec => fO_frz rec (.rest t m))
  rw [run_open db32 rfl rfl]
  simp [b32, s32_0, s32_1, List.getElem?_cons_zero, List.getElem?_cons_succ, List.set_cons_zero, List.set_cons_succ, List.length_cons, List.length_nil, exs, ex, ev, evs, evo, evi, tst_cmp, tst_chn, tst_isi, tst_call, tst_meth, tst_blt, tst_var, tst_not, tst_and, tst_or, start, bodyEnd, store, Tg.bind, binds, Rz.bind_ok, Rz.bind_bad, Rz.bind_exc, Rz.of, truth, cmpop, Cm.run, subsc, getS, getL, blt, isL, lmop, get_last, fl914, fl916, set_lastI, fput]
theorem makeCho (j : Nat) (a b c : Tm) (h : Hs) : make (Wj (j + 1)) 10 [encO a, encO b, encO c] h = .ok (encO (.cho a b c)) h := by
  refine makeF cls10 ?_ (fun rec => fO_frz rec (.cho a b c))
  rw [run_open db37 rfl rfl]
  simp [b37, s37_0, s37_1, s37_2, List.getElem?_cons_zero, List.getElem?_cons_succ, List.set_cons_zero, List.set_cons_succ, List.length_cons, List.length_nil, exs, ex, ev, evs, evo, evi, tst_cmp, tst_chn, tst_isi, tst_call, tst_meth, tst_blt, tst_var, tst_not, tst_and, tst_or, start, bodyEnd, store, Tg.bind, binds, Rz.bind_ok, Rz.bind_bad, Rz.bind_exc, Rz.of, truth, cmpop, Cm.run, subsc, getS, getL, blt, isL, lmop, get_last, fl1017, fl1014, fl1015, set_lastI, fput]
def tag : Tm → Str
  | .num _ => "number"
  | .take _ _ => "take"
  | .rest _ _ => "rest"
  | .cho _ _ _ => "?"
  | .op o _ _ => opS o
def targs : Tm → List Wv
  | .num v => [.int v]
  | .take b st => [.int b, tp st]
  | .rest t m => [encT t, .int m]
  | .cho a b c => [encT a, encT b, encT c]
  | .op _ a b => [encT a, encT b]
theorem encT_eq (t : Tm) : encT t = .tup (.str (tag t) :: targs t) := by cases t <;> rfl
abbrev Qx (x : Str) : Ex := .cmp .eq (.sub (.var 0) (.cst (.int 0))) (.cst (.str x))
theorem tag_tst (P : Wd) (x : Str) (t : Tm) (e : Ev) (h : Hs) : tst P (Qx x) (some (encT t) :: e) h = .ok (decide (tag t = x)) h := by
  rw [tst_cmp, encT_eq]
  simp [List.getElem?_cons_zero, List.getElem?_cons_succ, List.set_cons_zero, List.set_cons_succ, List.length_cons, List.length_nil, exs, ex, ev.eq_1, ev.eq_2, ev.eq_3, ev.eq_4, ev.eq_5, ev.eq_6, ev.eq_7, ev.eq_8, ev.eq_9, ev.eq_10, ev.eq_11, ev.eq_12, ev.eq_13, ev.eq_14, ev.eq_15, ev.eq_16, ev.eq_17, ev.eq_18, ev.eq_19, ev.eq_21, ev.eq_22, ev.eq_23, ev.eq_24, evs, evo, evi, tst_cmp, tst_chn, tst_isi, tst_call, tst_meth, tst_blt, tst_var, tst_not, tst_and, tst_or, start, bodyEnd, store, Tg.bind, binds, Rz.bind_ok, Rz.bind_bad, Rz.bind_exc, Rz.of, truth, cmpop, Cm.run, getS, getL, blt, isL, lmop, subsc_t0, eq_str]
theorem tag_no {P : Wd} {x : Str} {t : Tm} (n : tag t ≠ x) {b : List Sm} {e : Ev} {h : Hs} {ss : List Sm} : exs P (.ifs (Qx x) b [] :: ss) (some (encT t) :: e) h = exs P ss (some (encT t) :: e) h :=
  exs_nx (ifs_no (by rw [tag_tst, decide_eq_false n]))
theorem tag_yes {P : Wd} {x : Str} {t : Tm} (n : tag t = x) {b : List Sm} {e : Ev} {h h' : Hs} {ss : List Sm} {w : Wv} (q : exs P b (some (encT t) :: e) h = .ok (.ret w) h') : exs P (.ifs (Qx x) b [] :: ss) (some (encT t) :: e) h = .ok (.ret w) h' :=
  exs_ret (by rw [ifs_yes (by rw [tag_tst, decide_eq_true n]), q])
theorem madeO : ∀ (t : Tm) (j : Nat), hgt t ≤ j → ∀ h : Hs, C (j + 2) 48 [encT t] h = .ok (encO t) h := by
  -- the end
  have fin : ∀ (t : Tm) (j : Nat) (h : Hs), exs (Wj (j + 1)) b48.body [some (encT t), none, none] h = .ok (.ret (encO t)) h → C (j + 2) 48 [encT t] h = .ok (encO t) h := fun t j h e => by
    rw [C, run_end db48 rfl]
    have key : bodyEnd (exs (Wj (j + 1)) b48.body [some (encT t), none, none] h) = .ok (encO t) h := by
      rw [e]
      rfl
    refine (congrArg (fun r => Rz.bind r fun w h1 => ended .cold h.length h w h1) key).trans ?_
    rw [Rz.bind_ok]
    have z := coldF (h := h) (w := encO t) (v := encO t) [] (encO_frz _ t)
    rw [List.append_nil] at z
    exact z
  intro t
  induction t with
  | num v =>
    intro j hj h
    refine fin _ j h ?_
    refine tag_yes (x := Str.ofString "number") rfl ?_
    have m := makeNum j v h
    simp [List.getElem?_cons_zero, List.getElem?_cons_succ, List.set_cons_zero, List.set_cons_succ, List.length_cons, List.length_nil, exs, ex, ev.eq_1, ev.eq_2, ev.eq_3, ev.eq_4, ev.eq_5, ev.eq_6, ev.eq_7, ev.eq_8, ev.eq_9, ev.eq_10, ev.eq_11, ev.eq_12, ev.eq_13, ev.eq_14, ev.eq_15, ev.eq_16, ev.eq_17, ev.eq_18, ev.eq_19, ev.eq_21, ev.eq_22, ev.eq_23, ev.eq_24, evs, evo, evi, tst_cmp, tst_chn, tst_isi, tst_call, tst_meth, tst_blt, tst_var, tst_not, tst_and, tst_or, start, bodyEnd, store, Tg.bind, binds, Rz.bind_ok, Rz.bind_bad, Rz.bind_exc, Rz.of, truth, cmpop, Cm.run, getS, getL, blt, isL, lmop, encT, subsc_t1, m]
  | take b st =>
    intro j hj h
    refine fin _ j h ?_
    refine (tag_no (x := Str.ofString "number") (by simp only [tag]; decide +kernel)).trans (tag_yes (x := Str.ofString "take") rfl ?_)
    have m := makeTake j b st h
    have s2 : subsc (.tup [.str (Str.ofString "take"), .int b, tp st]) (.int 2) h = .ok (tp st) h := subsc_tup (ws := [.str (Str.ofString "take"), .int b, tp st]) (i := 2) (by simp) h
    simp [List.getElem?_cons_zero, List.getElem?_cons_succ, List.set_cons_zero, List.set_cons_succ, List.length_cons, List.length_nil, exs, ex, ev.eq_1, ev.eq_2, ev.eq_3, ev.eq_4, ev.eq_5, ev.eq_6, ev.eq_7, ev.eq_8, ev.eq_9, ev.eq_10, ev.eq_11, ev.eq_12, ev.eq_13, ev.eq_14, ev.eq_15, ev.eq_16, ev.eq_17, ev.eq_18, ev.eq_19, ev.eq_21, ev.eq_22, ev.eq_23, ev.eq_24, evs, evo, evi, tst_cmp, tst_chn, tst_isi, tst_call, tst_meth, tst_blt, tst_var, tst_not, tst_and, tst_or, start, bodyEnd, store, Tg.bind, binds, Rz.bind_ok, Rz.bind_bad, Rz.bind_exc, Rz.of, truth, cmpop, Cm.run, getS, getL, blt, isL, lmop, encT, subsc_t1, s2, m]
  | rest t m ih =>
    intro j hj h
    refine fin _ j h ?_
    obtain ⟨i, rfl⟩ : ∃ i, j = i + 1 := ⟨j - 1, by rw [hgt] at hj; omega⟩
    refine (tag_no (x := Str.ofString "number") (by simp only [tag]; decide +kernel)).trans ((tag_no (x := Str.ofString "take") (by simp only [tag]; decide +kernel)).trans ?_)
    have e1 := ih i (by rw [hgt] at hj; omega) h
    have mk := makeRest (i + 1) t m h
    simp only [C] at e1
    have s1 : subsc (encT (.rest t m)) (.int 1) h = .ok (encT t) h := subsc_t1 _ _ _ _
    have s2 : subsc (encT (.rest t m)) (.int 2) h = .ok (.int m) h := subsc_tup (ws := [.str (Str.ofString "rest"), encT t, .int m]) (i := 2) (by simp) h
    have q2 : ex (Wj (i + 1 + 1)) s48_2 [some (encT (.rest t m)), none, none] h = .ok (.nx [some (encT (.rest t m)), some (encO t), none]) h := by
      simp [s48_2, List.getElem?_cons_zero, List.getElem?_cons_succ, List.set_cons_zero, List.set_cons_succ, List.length_cons, List.length_nil, exs, ex, ev.eq_1, ev.eq_2, ev.eq_3, ev.eq_4, ev.eq_5, ev.eq_6, ev.eq_7, ev.eq_8, ev.eq_9, ev.eq_10, ev.eq_11, ev.eq_12, ev.eq_13, ev.eq_14, ev.eq_15, ev.eq_16, ev.eq_17, ev.eq_18, ev.eq_19, ev.eq_21, ev.eq_22, ev.eq_23, ev.eq_24, evs, evo, evi, tst_cmp, tst_chn, tst_isi, tst_call, tst_meth, tst_blt, tst_var, tst_not, tst_and, tst_or, start, bodyEnd, store, Tg.bind, binds, Rz.bind_ok, Rz.bind_bad, Rz.bind_exc, Rz.of, truth, cmpop, Cm.run, getS, getL, blt, isL, lmop, s1, e1]
    rw [exs_nx q2]
    refine tag_yes (x := Str.ofString "rest") rfl ?_
    simp [List.getElem?_cons_zero, List.getElem?_cons_succ, List.set_cons_zero, List.set_cons_succ, List.length_cons, List.length_nil, exs, ex, ev.eq_1, ev.eq_2, ev.eq_3, ev.eq_4, ev.eq_5, ev.eq_6, ev.eq_7, ev.eq_8, ev.eq_9, ev.eq_10, ev.eq_11, ev.eq_12, ev.eq_13, ev.eq_14, ev.eq_15, ev.eq_16, ev.eq_17, ev.eq_18, ev.eq_19, ev.eq_21, ev.eq_22, ev.eq_23, ev.eq_24, evs, evo, evi, tst_cmp, tst_chn, tst_isi, tst_call, tst_meth, tst_blt, tst_var, tst_not, tst_and, tst_or, start, bodyEnd, store, Tg.bind, binds, Rz.bind_ok, Rz.bind_bad, Rz.bind_exc, Rz.of, truth, cmpop, Cm.run, getS, getL, blt, isL, lmop, s2, mk]
  | cho a b c iha ihb ihc =>
    intro j hj h
    refine fin _ j h ?_
    obtain ⟨i, rfl⟩ : ∃ i, j = i + 1 := ⟨j - 1, by rw [hgt] at hj; omega⟩
    refine (tag_no (x := Str.ofString "number") (by simp only [tag]; decide +kernel)).trans ((tag_no (x := Str.ofString "take") (by simp only [tag]; decide +kernel)).trans ?_)
    have e1 := iha i (by rw [hgt] at hj; omega) h
    have e2 := ihb i (by rw [hgt] at hj; omega) h
    have e3 := ihc i (by rw [hgt] at hj; omega) h
    have mk := makeCho (i + 1) a b c h
    simp only [C] at e1 e2 e3
    have s1 : subsc (encT (.cho a b c)) (.int 1) h = .ok (encT a) h := subsc_t1 _ _ _ _
    have s2 : subsc (encT (.cho a b c)) (.int 2) h = .ok (encT b) h := subsc_tup (ws := [.str (Str.ofString "?"), encT a, encT b, encT c]) (i := 2) (by simp) h
    have s3 : subsc (encT (.cho a b c)) (.int 3) h = .ok (encT c) h := subsc_tup (ws := [.str (Str.ofString "?"), encT a, encT b, encT c]) (i := 3) (by simp) h
    have q2 : ex (Wj (i + 1 + 1)) s48_2 [some (encT (.cho a b c)), none, none] h = .ok (.nx [some (encT (.cho a b c)), some (encO a), none]) h := by
      simp [s48_2, List.getElem?_cons_zero, List.getElem?_cons_succ, List.set_cons_zero, List.set_cons_succ, List.length_cons, List.length_nil, exs, ex, ev.eq_1, ev.eq_2, ev.eq_3, ev.eq_4, ev.eq_5, ev.eq_6, ev.eq_7, ev.eq_8, ev.eq_9, ev.eq_10, ev.eq_11, ev.eq_12, ev.eq_13, ev.eq_14, ev.eq_15, ev.eq_16, ev.eq_17, ev.eq_18, ev.eq_19, ev.eq_21, ev.eq_22, ev.eq_23, ev.eq_24, evs, evo, evi, tst_cmp, tst_chn, tst_isi, tst_call, tst_meth, tst_blt, tst_var, tst_not, tst_and, tst_or, start, bodyEnd, store, Tg.bind, binds, Rz.bind_ok, Rz.bind_bad, Rz.bind_exc, Rz.of, truth, cmpop, Cm.run, getS, getL, blt, isL, lmop, s1, e1]
    rw [exs_nx q2]
    refine (tag_no (x := Str.ofString "rest") (by simp only [tag]; decide +kernel)).trans ?_
    have q4 : ex (Wj (i + 1 + 1)) s48_4 [some (encT (.cho a b c)), some (encO a), none] h = .ok (.nx [some (encT (.cho a b c)), some (encO a), some (encO b)]) h := by
      simp [s48_4, List.getElem?_cons_zero, List.getElem?_cons_succ, List.set_cons_zero, List.set_cons_succ, List.length_cons, List.length_nil, exs, ex, ev.eq_1, ev.eq_2, ev.eq_3, ev.eq_4, ev.eq_5, ev.eq_6, ev.eq_7, ev.eq_8, ev.eq_9, ev.eq_10, ev.eq_11, ev.eq_12, ev.eq_13, ev.eq_14, ev.eq_15, ev.eq_16, ev.eq_17, ev.eq_18, ev.eq_19, ev.eq_21, ev.eq_22, ev.eq_23, ev.eq_24, evs, evo, evi, tst_cmp, tst_chn, tst_isi, tst_call, tst_meth, tst_blt, tst_var, tst_not, tst_and, tst_or, start, bodyEnd, store, Tg.bind, binds, Rz.bind_ok, Rz.bind_bad, Rz.bind_exc, Rz.of, truth, cmpop, Cm.run, getS, getL, blt, isL, lmop, s2, e2]
    rw [exs_nx q4]
    refine tag_yes (x := Str.ofString "?") rfl ?_
    simp [List.getElem?_cons_zero, List.getElem?_cons_succ, List.set_cons_zero, List.set_cons_succ, List.length_cons, List.length_nil, exs, ex, ev.eq_1, ev.eq_2, ev.eq_3, ev.eq_4, ev.eq_5, ev.eq_6, ev.eq_7, ev.eq_8, ev.eq_9, ev.eq_10, ev.eq_11, ev.eq_12, ev.eq_13, ev.eq_14, ev.eq_15, ev.eq_16, ev.eq_17, ev.eq_18, ev.eq_19, ev.eq_21, ev.eq_22, ev.eq_23, ev.eq_24, evs, evo, evi, tst_cmp, tst_chn, tst_isi, tst_call, tst_meth, tst_blt, tst_var, tst_not, tst_and, tst_or, start, bodyEnd, store, Tg.bind, binds, Rz.bind_ok, Rz.bind_bad, Rz.bind_exc, Rz.of, truth, cmpop, Cm.run, getS, getL, blt, isL, lmop, s3, e3, mk]
  | op o a b iha ihb =>
    intro j hj h
    refine fin _ j h ?_
    obtain ⟨i, rfl⟩ : ∃ i, j = i + 1 := ⟨j - 1, by rw [hgt] at hj; omega⟩
    have ne : ∀ x : Str, x ∈ ([Str.ofString "number", Str.ofString "take", Str.ofString "rest", Str.ofString "?"] : List Str) → opS o ≠ x := by
      have z : ∀ y ∈ ([Str.ofString "+", Str.ofString "-", Str.ofString "*", Str.ofString "min", Str.ofString "max"] : List Str), ∀ x ∈ ([Str.ofString "number", Str.ofString "take", Str.ofString "rest", Str.ofString "?"] : List Str), y ≠ x := by decide +kernel
      intro x hx
      refine z _ ?_ x hx
      match o with
      | 0 => exact List.mem_cons_self
      | 1 => exact List.mem_cons_of_mem _ List.mem_cons_self
      | 2 => exact List.mem_cons_of_mem _ (List.mem_cons_of_mem _ List.mem_cons_self)
      | 3 => exact List.mem_cons_of_mem _ (List.mem_cons_of_mem _ (List.mem_cons_of_mem _ List.mem_cons_self))
      | _ + 4 => exact List.mem_cons_of_mem _ (List.mem_cons_of_mem _ (List.mem_cons_of_mem _ (List.mem_cons_of_mem _ List.mem_cons_self)))
    refine (tag_no (x := Str.ofString "number") (t := .op o a b) (ne (Str.ofString "number") (by simp))).trans ((tag_no (x := Str.ofString "take") (t := .op o a b) (ne (Str.ofString "take") (by simp))).trans ?_)
    have e1 := iha i (by rw [hgt] at hj; omega) h
    have e2 := ihb i (by rw [hgt] at hj; omega) h
    have mk := makePair (i + 1) a b h
    simp only [C] at e1 e2
    have s1 : subsc (encT (.op o a b)) (.int 1) h = .ok (encT a) h := subsc_t1 _ _ _ _
    have s2 : subsc (encT (.op o a b)) (.int 2) h = .ok (encT b) h := subsc_tup (ws := [.str (opS o), encT a, encT b]) (i := 2) (by simp) h
    have q2 : ex (Wj (i + 1 + 1)) s48_2 [some (encT (.op o a b)), none, none] h = .ok (.nx [some (encT (.op o a b)), some (encO a), none]) h := by
      simp [s48_2, List.getElem?_cons_zero, List.getElem?_cons_succ, List.set_cons_zero, List.set_cons_succ, List.length_cons, List.length_nil, exs, ex, ev.eq_1, ev.eq_2, ev.eq_3, ev.eq_4, ev.eq_5, ev.eq_6, ev.eq_7, ev.eq_8, ev.eq_9, ev.eq_10, ev.eq_11, ev.eq_12, ev.eq_13, ev.eq_14, ev.eq_15, ev.eq_16, ev.eq_17, ev.eq_18, ev.eq_19, ev.eq_21, ev.eq_22, ev.eq_23, ev.eq_24, evs, evo, evi, tst_cmp, tst_chn, tst_isi, tst_call, tst_meth, tst_blt, tst_var, tst_not, tst_and, tst_or, start, bodyEnd, store, Tg.bind, binds, Rz.bind_ok, Rz.bind_bad, Rz.bind_exc, Rz.of, truth, cmpop, Cm.run, getS, getL, blt, isL, lmop, s1, e1]
    rw [exs_nx q2]
    refine (tag_no (x := Str.ofString "rest") (t := .op o a b) (ne (Str.ofString "rest") (by simp))).trans ?_
    have q4 : ex (Wj (i + 1 + 1)) s48_4 [some (encT (.op o a b)), some (encO a), none] h = .ok (.nx [some (encT (.op o a b)), some (encO a), some (encO b)]) h := by
      simp [s48_4, List.getElem?_cons_zero, List.getElem?_cons_succ, List.set_cons_zero, List.set_cons_succ, List.length_cons, List.length_nil, exs, ex, ev.eq_1, ev.eq_2, ev.eq_3, ev.eq_4, ev.eq_5, ev.eq_6, ev.eq_7, ev.eq_8, ev.eq_9, ev.eq_10, ev.eq_11, ev.eq_12, ev.eq_13, ev.eq_14, ev.eq_15, ev.eq_16, ev.eq_17, ev.eq_18, ev.eq_19, ev.eq_21, ev.eq_22, ev.eq_23, ev.eq_24, evs, evo, evi, tst_cmp, tst_chn, tst_isi, tst_call, tst_meth, tst_blt, tst_var, tst_not, tst_and, tst_or, start, bodyEnd, store, Tg.bind, binds, Rz.bind_ok, Rz.bind_bad, Rz.bind_exc, Rz.of, truth, cmpop, Cm.run, getS, getL, blt, isL, lmop, s2, e2]
    rw [exs_nx q4]
    refine (tag_no (x := Str.ofString "?") (t := .op o a b) (ne (Str.ofString "?") (by simp))).trans ?_
    have mv : ∀ c : Nat, make (Wj (i + 1 + 1)) c [encO a, encO b] h = .ok (encO (.op o a b)) h → exs (Wj (i + 1 + 1)) [.ret (.make c [(.var 1), (.var 2)])] [some (encT (.op o a b)), some (encO a), some (encO b)] h = .ok (.ret (encO (.op o a b))) h := fun c m => by
      simp [List.getElem?_cons_zero, List.getElem?_cons_succ, List.set_cons_zero, List.set_cons_succ, List.length_cons, List.length_nil, exs, ex, ev.eq_1, ev.eq_2, ev.eq_3, ev.eq_4, ev.eq_5, ev.eq_6, ev.eq_7, ev.eq_8, ev.eq_9, ev.eq_10, ev.eq_11, ev.eq_12, ev.eq_13, ev.eq_14, ev.eq_15, ev.eq_16, ev.eq_17, ev.eq_18, ev.eq_19, ev.eq_21, ev.eq_22, ev.eq_23, ev.eq_24, evs, evo, evi, tst_cmp, tst_chn, tst_isi, tst_call, tst_meth, tst_blt, tst_var, tst_not, tst_and, tst_or, start, bodyEnd, store, Tg.bind, binds, Rz.bind_ok, Rz.bind_bad, Rz.bind_exc, Rz.of, truth, cmpop, Cm.run, getS, getL, blt, isL, lmop, m]
    match o, ne, mk, mv with
    | 0, ne, mk, mv => exact tag_yes (x := Str.ofString "+") rfl (mv _ (mk 0))
    | 1, ne, mk, mv => exact (tag_no (x := Str.ofString "+") (by simp only [tag, opS]; decide +kernel)).trans (tag_yes (x := Str.ofString "-") rfl (mv _ (mk 1)))
    | 2, ne, mk, mv => exact (tag_no (x := Str.ofString "+") (by simp only [tag, opS]; decide +kernel)).trans ((tag_no (x := Str.ofString "-") (by simp only [tag, opS]; decide +kernel)).trans (tag_yes (x := Str.ofString "*") rfl (mv _ (mk 2))))
    | 3, ne, mk, mv => exact (tag_no (x := Str.ofString "+") (by simp only [tag, opS]; decide +kernel)).trans ((tag_no (x := Str.ofString "-") (by simp only [tag, opS]; decide +kernel)).trans ((tag_no (x := Str.ofString "*") (by simp only [tag, opS]; decide +kernel)).trans (tag_yes (x := Str.ofString "min") rfl (mv _ (mk 3)))))
    | o + 4, ne, mk, mv =>
      have d : ∀ x ∈ ([Str.ofString "+", Str.ofString "-", Str.ofString "*", Str.ofString "min"] : List Str), Str.ofString "max" ≠ x := by decide +kernel
      exact (tag_no (x := Str.ofString "+") (t := .op (o + 4) a b) (d (Str.ofString "+") (by simp))).trans ((tag_no (x := Str.ofString "-") (t := .op (o + 4) a b) (d (Str.ofString "-") (by simp))).trans ((tag_no (x := Str.ofString "*") (t := .op (o + 4) a b) (d (Str.ofString "*") (by simp))).trans ((tag_no (x := Str.ofString "min") (t := .op (o + 4) a b) (d (Str.ofString "min") (by simp))).trans (mv _ (mk (o + 4))))))
end SL

set_option maxRecDepth 100000
set_option maxHeartbeats 2000000
/-! Terms: their values. -/
namespace SL
open PySem
set_option autoImplicit false
/-- the value by the worths f -/
def val (f : Wv → Int) : Tm → Int
  | .num v => v
  | .take b st => f (pw b st)
  | .rest t m => val f t % m
  | .cho a b c => if 0 < val f a then val f b else val f c
  | .op 0 a b => val f a + val f b
  | .op 1 a b => val f a - val f b
  | .op 2 a b => val f a * val f b
  | .op 3 a b => best_min (val f a) [val f b]
  | .op _ a b => best_max (val f a) [val f b]
def capV : Nat → Nat
  | 0 => 2 ^ 64
  | n + 1 => capV n * capV n
theorem capV_pos : ∀ n, 2 ^ 64 ≤ capV n
  | 0 => Nat.le_refl _
  | n + 1 => by
    have := capV_pos n
    rw [capV]
    calc 2 ^ 64 ≤ capV n * 1 := by omega
      _ ≤ capV n * capV n := Nat.mul_le_mul_left _ (by omega)
theorem capV_step (n : Nat) : capV n ≤ capV (n + 1) := by
  have := capV_pos n
  rw [capV]
  calc capV n = capV n * 1 := (Nat.mul_one _).symm
    _ ≤ capV n * capV n := Nat.mul_le_mul_left _ (by omega)
theorem capV_mono {m n : Nat} (h : m ≤ n) : capV m ≤ capV n := by
  induction n with
  | zero => rw [Nat.le_zero.mp h]; exact Nat.le_refl _
  | succ n ih =>
    by_cases e : m = n + 1
    · rw [e]; exact Nat.le_refl _
    · exact Nat.le_trans (ih (by omega)) (capV_step n)
theorem capV_add (n : Nat) : capV n + capV n ≤ capV (n + 1) := by
  have := capV_pos n
  rw [capV]
  calc capV n + capV n = capV n * 2 := by omega
    _ ≤ capV n * capV n := Nat.mul_le_mul_left _ (by omega)
theorem best_min2 (a b : Int) : best_min a [b] = if b < a then b else a := rfl
theorem best_max2 (a b : Int) : best_max a [b] = if b > a then b else a := rfl
theorem val_cap {S : List Wv} {f : Wv → Int} (hf : ∀ w ∈ S, (f w).natAbs < 2 ^ 64) : ∀ t : Tm, Amid S t → Fine t → (val f t).natAbs < capV (hgt t)
  | .num v, _, h => by
    simp only [Fine] at h
    simp only [val, hgt, capV]; omega
  | .take b st, h, _ => hf _ h
  | .rest t m, h, hf2 => by
    simp only [Fine] at hf2
    have p := capV_pos (hgt t + 1)
    have e1 := Int.emod_nonneg (val f t) (b := m) (by omega)
    have e2 := Int.emod_lt_of_pos (val f t) (b := m) (by omega)
    simp only [val, hgt]; omega
  | .cho a b c, h, hf2 => by
    have b1 := val_cap hf b h.2.1 hf2.2.1
    have c1 := val_cap hf c h.2.2 hf2.2.2
    have m1 : capV (hgt b) ≤ capV (hgt (.cho a b c)) := capV_mono (by rw [hgt]; omega)
    have m2 : capV (hgt c) ≤ capV (hgt (.cho a b c)) := capV_mono (by rw [hgt]; omega)
    simp only [val]
    split <;> omega
  | .op o a b, h, hf2 => by
    have a1 := val_cap hf a h.1 hf2.1
    have b1 := val_cap hf b h.2 hf2.2
    have m1 : capV (hgt a) ≤ capV (max (hgt a) (hgt b)) := capV_mono (by omega)
    have m2 : capV (hgt b) ≤ capV (max (hgt a) (hgt b)) := capV_mono (by omega)
    have s := capV_add (max (hgt a) (hgt b))
    have st := capV_step (max (hgt a) (hgt b))
    rw [hgt]
    match o with
    | 0 => simp only [val]; omega
    | 1 => simp only [val]; omega
    | 2 =>
      simp only [val]
      rw [Int.natAbs_mul, capV]
      exact Nat.mul_lt_mul'' (by omega) (by omega)
    | 3 => simp only [val, best_min2]; split <;> omega
    | _ + 4 => simp only [val, best_max2]; split <;> omega
theorem log_cap {n x : Nat} (h : x < capV n) (hn : n ≤ 12) : x.log2 < 300000 := by
  have e : ∀ n, capV n = 2 ^ (64 * 2 ^ n) := by
    intro n
    induction n with
    | zero => rfl
    | succ n ih => rw [capV, ih, ← Nat.pow_add, show 64 * 2 ^ n + 64 * 2 ^ n = 64 * 2 ^ (n + 1) by rw [Nat.pow_succ]; omega]
  rw [e] at h
  by_cases z : x = 0
  · subst z; simp
  · have l := (Nat.log2_lt z).mpr h
    have p : 2 ^ n ≤ 2 ^ 12 := Nat.pow_le_pow_right (by decide) hn
    have q : (2 : Nat) ^ 12 = 4096 := by decide
    omega
theorem bmul_cap {i j : Int} {n : Nat} (hi : i.natAbs < capV n) (hj : j.natAbs < capV n) (hn : n ≤ 12) (h : Hs) : binop .mul (.int i) (.int j) h = .ok (.int (i * j)) h := by
  have c : L2.CMulW i j := by
    have := log_cap hi hn
    have := log_cap hj hn
    unfold L2.CMulW
    omega
  simp only [binop, c, or_true, if_true]
/-! ### the program's -/
def vbF : Tm → Nat
  | .num _ => 11
  | .take _ _ => 15
  | .rest _ _ => 34
  | .cho _ _ _ => 39
  | .op 0 _ _ => 23
  | .op 1 _ _ => 25
  | .op 2 _ _ => 27
  | .op 3 _ _ => 29
  | .op _ _ _ => 31
theorem m_val (j : Nat) (t : Tm) : methOf (Wj j) (cO t) 1 = some (vbF t) := by
  match t with
  | .num _ => exact me1_1 _ _
  | .take _ _ => exact me2_1 _ _
  | .rest _ _ => exact me9_1 _ _
  | .cho _ _ _ => exact me10_1 _ _
  | .op 0 _ _ => exact me4_1 _ _
  | .op 1 _ _ => exact me5_1 _ _
  | .op 2 _ _ => exact me6_1 _ _
  | .op 3 _ _ => exact me7_1 _ _
  | .op (_ + 4) _ _ => exact me8_1 _ _
theorem no_val (t : Tm) : fget (fO t) 1 = none := by cases t <;> rfl
/-- the lambda at kf tells the worths f of S -/
def Sees (S : List Wv) (f : Wv → Int) (kf : Nat) (h : Hs) : Prop := ∃ k, h[kf]? = some (.fn k) ∧ ∀ w ∈ S, subN (.ref k) w h = .ok (.int (f w)) h
/-- value_by called -/
theorem callV {j kf : Nat} {a : Ex} {t : Tm} {e : Ev} {h : Hs} (ha : ev (Wj j) a e h = .ok (encO t) h) (he : e[1]? = some (some (.ref kf))) : ev (Wj j) (.meth a 1 [(.var 1)]) e h = callD pg.D pg.glo pg.cls pg.fld pg.turns j (vbF t) [encO t, .ref kf] h := by
  rw [encO_eq] at ha
  have z := meth_ins (es := [(.var 1)]) (ws := [.ref kf]) (h1 := h) ha (m_val j t) (no_val t) (by simp only [evs, ev, he, Rz.bind_ok])
  rw [← encO_eq] at z
  exact z
theorem vbO {S : List Wv} {f : Wv → Int} {kf : Nat} {h : Hs} (hS : Sees S f kf h) (hf : ∀ w ∈ S, (f w).natAbs < 2 ^ 64) : ∀ (t : Tm) (j : Nat), hgt t ≤ j → hgt t ≤ 12 → Amid S t → Fine t → callD pg.D pg.glo pg.cls pg.fld pg.turns (j + 1) (vbF t) [encO t, .ref kf] h = .ok (.int (val f t)) h := by
  have fin : ∀ (t : Tm) (g : Nat) (d : Df) (j : Nat) (x : Int), pg.D g = some d → d.md = .cold → 2 = d.np → exs (Wj j) d.body (start d.ns [encO t, .ref kf]) h = .ok (.ret (.int x)) h → callD pg.D pg.glo pg.cls pg.fld pg.turns (j + 1) g [encO t, .ref kf] h = .ok (.int x) h := fun t g d j x hd hm hn he => by
    rw [run_end (ws := [encO t, .ref kf]) hd hn]
    have key : bodyEnd (exs (Wj j) d.body (start d.ns [encO t, .ref kf]) h) = .ok (.int x) h := by
      rw [he]
      rfl
    refine (congrArg (fun r => Rz.bind r fun w h1 => ended d.md h.length h w h1) key).trans ?_
    rw [Rz.bind_ok, hm]
    have z := cold_end (h := h) (w := .int x) rfl []
    rw [List.append_nil] at z
    exact z
  have at_ : ∀ (j : Nat) (t u : Tm) (g : Nat), pg.fld (cO t) g = true → fget (fO t) g = some (encO u) → ev (Wj j) (.att (.var 0) g) [some (encO t), some (.ref kf)] h = .ok (encO u) h := fun j t u g h1 h2 => by
    simp only [ev, List.getElem?_cons_zero, Rz.bind_ok, encO_eq t, getI, h1, h2, if_true, Rz.of_some]
  have one : ∀ (j : Nat) (t u : Tm) (g : Nat), pg.fld (cO t) g = true → fget (fO t) g = some (encO u) → callD pg.D pg.glo pg.cls pg.fld pg.turns j (vbF u) [encO u, .ref kf] h = .ok (.int (val f u)) h → ev (Wj j) (.meth (.att (.var 0) g) 1 [(.var 1)]) [some (encO t), some (.ref kf)] h = .ok (.int (val f u)) h := fun j t u g h1 h2 h3 => by
    rw [callV (at_ j t u g h1 h2) rfl, h3]
  intro t
  induction t with
  | num v =>
    intro j _ _ _ _
    refine fin _ _ _ j v db11 rfl rfl ?_
    simp [b11, s11_0, List.getElem?_cons_zero, List.getElem?_cons_succ, List.set_cons_zero, List.set_cons_succ, List.length_cons, List.length_nil, exs, ex, ev.eq_1, ev.eq_2, ev.eq_3, ev.eq_4, ev.eq_5, ev.eq_6, ev.eq_7, ev.eq_8, ev.eq_9, ev.eq_10, ev.eq_11, ev.eq_12, ev.eq_13, ev.eq_14, ev.eq_15, ev.eq_16, ev.eq_17, ev.eq_18, ev.eq_19, ev.eq_21, ev.eq_22, ev.eq_23, ev.eq_24, evs, evo, evi, tst_cmp, tst_chn, tst_isi, tst_call, tst_meth, tst_blt, tst_var, tst_not, tst_and, tst_or, start, bodyEnd, store, Tg.bind, binds, Rz.bind_ok, Rz.bind_bad, Rz.bind_exc, Rz.of, truth, cmpop, Cm.run, getS, getL, blt, isL, lmop, encO, getI, fl110, fget]
  | take b st =>
    intro j _ _ ha _
    refine fin _ _ _ j _ db15 rfl rfl ?_
    obtain ⟨k, g1, g2⟩ := hS
    have q : ev (Wj j) (.tup [(.att (.var 0) 11), (.att (.var 0) 12)]) [some (encO (.take b st)), some (.ref kf)] h = .ok (pw b st) h := by
      simp [List.getElem?_cons_zero, List.getElem?_cons_succ, List.set_cons_zero, List.set_cons_succ, List.length_cons, List.length_nil, exs, ex, ev.eq_1, ev.eq_2, ev.eq_3, ev.eq_4, ev.eq_5, ev.eq_6, ev.eq_7, ev.eq_8, ev.eq_9, ev.eq_10, ev.eq_11, ev.eq_12, ev.eq_13, ev.eq_14, ev.eq_15, ev.eq_16, ev.eq_17, ev.eq_18, ev.eq_19, ev.eq_21, ev.eq_22, ev.eq_23, ev.eq_24, evs, evo, evi, tst_cmp, tst_chn, tst_isi, tst_call, tst_meth, tst_blt, tst_var, tst_not, tst_and, tst_or, start, bodyEnd, store, Tg.bind, binds, Rz.bind_ok, Rz.bind_bad, Rz.bind_exc, Rz.of, truth, cmpop, Cm.run, getS, getL, blt, isL, lmop, encO, getI, fl211, fl212, fget, List.lookup, pw, show 2 ≤ sizeLine by decide]
    have q2 : ev (Wj j) (.app 1 (.tup [(.att (.var 0) 11), (.att (.var 0) 12)])) [some (encO (.take b st)), some (.ref kf)] h = .ok (.int (f (pw b st))) h := by
      rw [ev]
      show ((ev (Wj j) (.tup [(.att (.var 0) 11), (.att (.var 0) 12)]) [some (encO (.take b st)), some (.ref kf)] h).bind _) = _
      rw [q, Rz.bind_ok]
      simp only [g1]
      exact g2 _ ha
    show exs (Wj j) [s15_0] [some (encO (.take b st)), some (.ref kf)] h = _
    rw [s15_0, exs, ex, q2]
    rfl
  | rest t m ih =>
    intro j hj h12 ha hfi
    simp only [hgt] at hj h12
    obtain ⟨i, rfl⟩ : ∃ i, j = i + 1 := ⟨j - 1, by omega⟩
    refine fin _ _ _ (i + 1) _ db34 rfl rfl ?_
    have e1 := one (i + 1) (.rest t m) t 14 fl914 rfl (ih i (by omega) (by omega) ha hfi.1)
    have q : ev (Wj (i + 1)) (.att (.var 0) 16) [some (encO (.rest t m)), some (.ref kf)] h = .ok (.int m) h := by
      simp [List.getElem?_cons_zero, List.getElem?_cons_succ, List.set_cons_zero, List.set_cons_succ, List.length_cons, List.length_nil, exs, ex, ev.eq_1, ev.eq_2, ev.eq_3, ev.eq_4, ev.eq_5, ev.eq_6, ev.eq_7, ev.eq_8, ev.eq_9, ev.eq_10, ev.eq_11, ev.eq_12, ev.eq_13, ev.eq_14, ev.eq_15, ev.eq_16, ev.eq_17, ev.eq_18, ev.eq_19, ev.eq_21, ev.eq_22, ev.eq_23, ev.eq_24, evs, evo, evi, tst_cmp, tst_chn, tst_isi, tst_call, tst_meth, tst_blt, tst_var, tst_not, tst_and, tst_or, start, bodyEnd, store, Tg.bind, binds, Rz.bind_ok, Rz.bind_bad, Rz.bind_exc, Rz.of, truth, cmpop, Cm.run, getS, getL, blt, isL, lmop, encO, getI, fl916, fget, List.lookup]
    have mp : 0 < m := by have := hfi.2.1; omega
    show exs (Wj (i + 1)) [s34_0] [some (encO (.rest t m)), some (.ref kf)] h = _
    rw [s34_0, exs, ex, ev, e1, Rz.bind_ok, q, Rz.bind_ok, bmod h mp]
    rfl
  | cho a b c iha ihb ihc =>
    intro j hj h12 ha hfi
    simp only [hgt] at hj h12
    obtain ⟨i, rfl⟩ : ∃ i, j = i + 1 := ⟨j - 1, by omega⟩
    refine fin _ _ _ (i + 1) _ db39 rfl rfl ?_
    have e1 := one (i + 1) (.cho a b c) a 17 fl1017 rfl (iha i (by omega) (by omega) ha.1 hfi.1)
    have e2 := one (i + 1) (.cho a b c) b 14 fl1014 rfl (ihb i (by omega) (by omega) ha.2.1 hfi.2.1)
    have e3 := one (i + 1) (.cho a b c) c 15 fl1015 rfl (ihc i (by omega) (by omega) ha.2.2 hfi.2.2)
    have T : tst (Wj (i + 1)) (.cmp .gt (.meth (.att (.var 0) 17) 1 [(.var 1)]) (.cst (.int 0))) [some (encO (.cho a b c)), some (.ref kf)] h = .ok (decide (0 < val f a)) h := by
      rw [tst_cmp, cmp_eq, e1, Rz.bind_ok, ev, Rz.bind_ok]
      simp [cmpop, Cm.run, truth]
    show exs (Wj (i + 1)) [s39_0, s39_1] [some (encO (.cho a b c)), some (.ref kf)] h = _
    by_cases z : 0 < val f a
    · rw [decide_eq_true z] at T
      rw [val, if_pos z]
      refine exs_ret ?_
      rw [s39_0, ifs_yes T, exs, ex, e2]
      rfl
    · rw [decide_eq_false z] at T
      rw [val, if_neg z]
      refine (exs_nx (by rw [s39_0, ifs_no T])).trans ?_
      rw [s39_1, exs, ex, e3]
      rfl
  | op o a b iha ihb =>
    intro j hj h12 ha hfi
    simp only [hgt] at hj h12
    obtain ⟨i, rfl⟩ : ∃ i, j = i + 1 := ⟨j - 1, by omega⟩
    have f1 : ∀ o : Nat, pg.fld (opC o) 14 = true := fun o => match o with
      | 0 => fl414
      | 1 => fl514
      | 2 => fl614
      | 3 => fl714
      | _ + 4 => fl814
    have f2 : ∀ o : Nat, pg.fld (opC o) 15 = true := fun o => match o with
      | 0 => fl415
      | 1 => fl515
      | 2 => fl615
      | 3 => fl715
      | _ + 4 => fl815
    have e1 := one (i + 1) (.op o a b) a 14 (f1 o) rfl (iha i (by omega) (by omega) ha.1 hfi.1)
    have e2 := one (i + 1) (.op o a b) b 15 (f2 o) rfl (ihb i (by omega) (by omega) ha.2 hfi.2)
    have c1 := val_cap hf a ha.1 hfi.1
    have c2 := val_cap hf b ha.2 hfi.2
    have m1 : capV (hgt a) ≤ capV (max (hgt a) (hgt b)) := capV_mono (by omega)
    have m2 : capV (hgt b) ≤ capV (max (hgt a) (hgt b)) := capV_mono (by omega)
    have es : evs (Wj (i + 1)) [(.meth (.att (.var 0) 14) 1 [(.var 1)]), (.meth (.att (.var 0) 15) 1 [(.var 1)])] [some (encO (.op o a b)), some (.ref kf)] h = .ok [.int (val f a), .int (val f b)] h := by
      simp only [evs, e1, e2, Rz.bind_ok]
    match o, e1, e2, es with
    | 0, e1, e2, es =>
      refine fin _ _ _ (i + 1) _ db23 rfl rfl ?_
      show exs (Wj (i + 1)) [s23_0] [some (encO (.op 0 a b)), some (.ref kf)] h = _
      rw [s23_0, exs, ex, ev, e1, Rz.bind_ok, e2, Rz.bind_ok, badd]
      rfl
    | 1, e1, e2, es =>
      refine fin _ _ _ (i + 1) _ db25 rfl rfl ?_
      show exs (Wj (i + 1)) [s25_0] [some (encO (.op 1 a b)), some (.ref kf)] h = _
      rw [s25_0, exs, ex, ev, e1, Rz.bind_ok, e2, Rz.bind_ok, bsub]
      rfl
    | 2, e1, e2, es =>
      refine fin _ _ _ (i + 1) _ db27 rfl rfl ?_
      show exs (Wj (i + 1)) [s27_0] [some (encO (.op 2 a b)), some (.ref kf)] h = _
      rw [s27_0, exs, ex, ev, e1, Rz.bind_ok, e2, Rz.bind_ok, bmul_cap (n := max (hgt a) (hgt b)) (by omega) (by omega) (by omega)]
      rfl
    | 3, e1, e2, es =>
      refine fin _ _ _ (i + 1) _ db29 rfl rfl ?_
      show exs (Wj (i + 1)) [s29_0] [some (encO (.op 3 a b)), some (.ref kf)] h = _
      rw [s29_0, exs, ex, ev, es, Rz.bind_ok]
      simp [blt, val, intsOf, exs]
      exact (best_min2 _ _).symm
    | o + 4, e1, e2, es =>
      refine fin _ _ _ (i + 1) _ db31 rfl rfl ?_
      show exs (Wj (i + 1)) [s31_0] [some (encO (.op (o + 4) a b)), some (.ref kf)] h = _
      rw [s31_0, exs, ex, ev, es, Rz.bind_ok]
      simp [blt, val, intsOf, exs]
      exact (best_max2 _ _).symm
end SL

set_option maxRecDepth 100000
set_option maxHeartbeats 2000000
/-! Terms: their values as the law reckons them. -/
namespace SL
open PySem
set_option autoImplicit false
theorem cutA {α : Type} (a : α) (ws : List α) : cut (a :: ws) (some 1) none = ws := by
  unfold cut
  have e : HT.sIx (a :: ws).length 0 (some 1) = 1 := by simp [HT.sIx]
  have e2 : HT.sIx (a :: ws).length (a :: ws).length none = (a :: ws).length := rfl
  rw [e, e2]
  simp
theorem slcA (t : Tm) (h : Hs) : slice (encT t) (some 1) none h = .ok (.tup (targs t)) h := by
  rw [encT_eq]
  unfold slice
  simp only [cutA]
theorem ranks2 (x y : Int) : Ranks [.int x, .int y] := by
  refine ⟨fun w hw => ?_, fun w hw u hu => ?_⟩
  · simp only [List.mem_cons, List.not_mem_nil, or_false] at hw
    rcases hw with rfl | rfl <;> exact ⟨_, rfl, rfl⟩
  · simp only [List.mem_cons, List.not_mem_nil, or_false] at hw hu
    rcases hw with rfl | rfl <;> rcases hu with rfl | rfl <;> rfl
theorem sort2 (x y : Int) : srtW [.int x, .int y] = some [.int (best_min x [y]), .int (best_max x [y])] := by
  have e : ([.int x, .int y] : List Wv).mergeSort leW = [.int (best_min x [y]), .int (best_max x [y])] := by
    refine order_one ((ranks2 x y).perm (List.mergeSort_perm _ leW).symm) ((List.mergeSort_perm _ leW).trans ?_) (sort_pw _) ?_
    · rw [best_min2, best_max2]
      by_cases h1 : y < x
      · rw [if_pos h1, if_neg (by omega)]
        exact List.Perm.swap _ _ _
      · rw [if_neg h1]
        by_cases h2 : y > x
        · rw [if_pos h2]
        · rw [if_neg h2, show y = x by omega]
    · refine .cons (fun w hw => ?_) (.cons (fun w hw => by cases hw) .nil)
      simp only [List.mem_cons, List.not_mem_nil, or_false] at hw
      subst hw
      refine leW_int ?_
      rw [best_min2, best_max2]
      split <;> split <;> omega
  unfold srtW
  have s : srtOk [.int x, .int y] = true := by
    unfold srtOk alls
    simp [PySem.W.alike, PyData.depth]
    exact .inr ⟨rfl, rfl⟩
  simp only [toDs, Wv.toD, s, if_true, e]
/-- sorted([a, b])[0], [1] -/
theorem srt_at (P : Wd) {a b : Ex} {E : Ev} {x y : Int} (G : Hs) (h1 : ∀ G, ev P a E G = .ok (.int x) G) (h2 : ∀ G, ev P b E G = .ok (.int y) G) (i : Nat) (hi : i < 2) : ∃ T : Hs, ev P (.sub (.blt .sorted [(.lst [a, b])]) (.cst (.int i))) E G = .ok (.int (if i = 0 then best_min x [y] else best_max x [y])) (G ++ T) := by
  refine ⟨[.lst [.int x, .int y], .lst [.int (best_min x [y]), .int (best_max x [y])]], ?_⟩
  have z2 : 2 ≤ sizeLine := by decide
  have e1 : ev P (.lst [a, b]) E G = .ok (.ref G.length) (G ++ [.lst [.int x, .int y]]) := by
    simp [ev, evs, h1, h2, newL, z2]
  have g := get_last G (.lst [.int x, .int y])
  have e2 : ev P (.blt .sorted [(.lst [a, b])]) E G = .ok (.ref (G.length + 1)) (G ++ [.lst [.int x, .int y], .lst [.int (best_min x [y]), .int (best_max x [y])]]) := by
    rw [ev, evs, e1, Rz.bind_ok, evs, Rz.bind_ok, Rz.bind_ok]
    simp [blt, getS, getL, g, sort2, newL, z2]
  have g2 : (G ++ [Ob.lst [.int x, .int y], .lst [.int (best_min x [y]), .int (best_max x [y])]])[G.length + 1]? = some (.lst [.int (best_min x [y]), .int (best_max x [y])]) := by
    rw [List.getElem?_append_right (by omega)]; simp
  rw [ev, e2, Rz.bind_ok, ev, Rz.bind_ok, subsc_ref g2 (by simpa using hi)]
  match i, hi with
  | 0, _ => rfl
  | 1, _ => rfl
/-- the dict of the five -/
def k5 (x y z mn mx : Int) : List (Wv × Wv) := [(.str (Str.ofString "+"), .int x), (.str (Str.ofString "-"), .int y), (.str (Str.ofString "*"), .int z), (.str (Str.ofString "min"), .int mn), (.str (Str.ofString "max"), .int mx)]
theorem k5_at (f : Wv → Int) (a b : Tm) : ∀ o : Nat, valW (k5 (val f a + val f b) (val f a - val f b) (val f a * val f b) (best_min (val f a) [val f b]) (best_max (val f a) [val f b])) (.str (opS o)) = some (.int (val f (.op o a b)))
  | 0 => by simp only [val]; kernel_rfl
  | 1 => by simp only [val]; kernel_rfl
  | 2 => by simp only [val]; kernel_rfl
  | 3 => by simp only [val]; kernel_rfl
  | _ + 4 => by simp only [val]; kernel_rfl
theorem lvO {S : List Wv} {f : Wv → Int} {k : Nat} {h : Hs} (hS : ∀ w ∈ S, subN (.ref k) w h = .ok (.int (f w)) h) (hf : ∀ w ∈ S, (f w).natAbs < 2 ^ 64) : ∀ (t : Tm) (j : Nat), hgt t ≤ j → hgt t ≤ 12 → Amid S t → Fine t → callD pg.D pg.glo pg.cls pg.fld pg.turns (j + 1) 49 [encT t, .ref k] h = .ok (.int (val f t)) h := by
  have fin : ∀ (t : Tm) (j : Nat) (x : Int) (T : Hs), exs (Wj j) [s49_0, s49_1, s49_2, s49_3, s49_4, s49_5, s49_6, s49_7, s49_8] [some (encT t), some (.ref k), none, none, none] h = .ok (.ret (.int x)) (h ++ T) → callD pg.D pg.glo pg.cls pg.fld pg.turns (j + 1) 49 [encT t, .ref k] h = .ok (.int x) h := fun t j x T he => by
    rw [run_end db49 rfl]
    have key : bodyEnd (exs (Wj j) b49.body [some (encT t), some (.ref k), none, none, none] h) = .ok (.int x) (h ++ T) := by
      rw [show b49.body = [s49_0, s49_1, s49_2, s49_3, s49_4, s49_5, s49_6, s49_7, s49_8] from rfl, he]
      rfl
    refine (congrArg (fun r => Rz.bind r fun w h1 => ended .cold h.length h w h1) key).trans ?_
    rw [Rz.bind_ok]
    exact cold_end rfl _
  have fin0 : ∀ (t : Tm) (j : Nat) (x : Int), exs (Wj j) [s49_0, s49_1, s49_2, s49_3, s49_4, s49_5, s49_6, s49_7, s49_8] [some (encT t), some (.ref k), none, none, none] h = .ok (.ret (.int x)) h → callD pg.D pg.glo pg.cls pg.fld pg.turns (j + 1) 49 [encT t, .ref k] h = .ok (.int x) h := fun t j x he => fin t j x [] (by rw [List.append_nil]; exact he)
  intro t
  induction t with
  | num v =>
    intro j _ _ _ _
    refine fin0 _ j v ?_
    refine tag_yes (x := Str.ofString "number") rfl ?_
    simp [List.getElem?_cons_zero, List.getElem?_cons_succ, List.set_cons_zero, List.set_cons_succ, List.length_cons, List.length_nil, exs, ex, ev.eq_1, ev.eq_2, ev.eq_3, ev.eq_4, ev.eq_5, ev.eq_6, ev.eq_7, ev.eq_8, ev.eq_9, ev.eq_10, ev.eq_11, ev.eq_12, ev.eq_13, ev.eq_14, ev.eq_15, ev.eq_16, ev.eq_17, ev.eq_18, ev.eq_19, ev.eq_21, ev.eq_22, ev.eq_23, ev.eq_24, evs, evo, evi, tst_cmp, tst_chn, tst_isi, tst_call, tst_meth, tst_blt, tst_var, tst_not, tst_and, tst_or, start, bodyEnd, store, Tg.bind, binds, Rz.bind_ok, Rz.bind_bad, Rz.bind_exc, Rz.of, truth, cmpop, Cm.run, getS, getL, blt, isL, lmop, encT, subsc_t1]
  | take b st =>
    intro j _ _ ha _
    refine fin0 _ j _ ?_
    refine (tag_no (x := Str.ofString "number") (by simp only [tag]; decide +kernel)).trans (tag_yes (x := Str.ofString "take") rfl ?_)
    have q : ev (Wj j) (.slc (.var 0) (some (.cst (.int 1))) none) [some (encT (.take b st)), some (.ref k), none, none, none] h = .ok (pw b st) h := by
      simp only [ev, evo, List.getElem?_cons_zero, Rz.bind_ok, slcA]
      rfl
    have q2 : ev (Wj j) (.sub (.var 1) (.slc (.var 0) (some (.cst (.int 1))) none)) [some (encT (.take b st)), some (.ref k), none, none, none] h = .ok (.int (f (pw b st))) h := by
      rw [ev, ev]
      simp only [List.getElem?_cons_succ, List.getElem?_cons_zero, Rz.bind_ok]
      rw [q, Rz.bind_ok]
      exact hS _ ha
    rw [exs, ex, q2]
    rfl
  | rest t m ih =>
    intro j hj h12 ha hfi
    simp only [hgt] at hj h12
    obtain ⟨i, rfl⟩ : ∃ i, j = i + 1 := ⟨j - 1, by omega⟩
    refine fin0 _ (i + 1) _ ?_
    have e1 := ih i (by omega) (by omega) ha hfi.1
    have s1 : subsc (encT (.rest t m)) (.int 1) h = .ok (encT t) h := subsc_t1 _ _ _ _
    have s2 : subsc (encT (.rest t m)) (.int 2) h = .ok (.int m) h := subsc_tup (ws := [.str (Str.ofString "rest"), encT t, .int m]) (i := 2) (by simp) h
    have mp : 0 < m ∧ m ≤ 1000000000 := by have := hfi.2; omega
    refine (tag_no (x := Str.ofString "number") (by simp only [tag]; decide +kernel)).trans ((tag_no (x := Str.ofString "take") (by simp only [tag]; decide +kernel)).trans ?_)
    have q2 : ex (Wj (i + 1)) s49_2 [some (encT (.rest t m)), some (.ref k), none, none, none] h = .ok (.nx [some (encT (.rest t m)), some (.ref k), some (.int (val f t)), none, none]) h := by
      simp [s49_2, List.getElem?_cons_zero, List.getElem?_cons_succ, List.set_cons_zero, List.set_cons_succ, List.length_cons, List.length_nil, exs, ex, ev.eq_1, ev.eq_2, ev.eq_3, ev.eq_4, ev.eq_5, ev.eq_6, ev.eq_7, ev.eq_8, ev.eq_9, ev.eq_10, ev.eq_11, ev.eq_12, ev.eq_13, ev.eq_14, ev.eq_15, ev.eq_16, ev.eq_17, ev.eq_18, ev.eq_19, ev.eq_21, ev.eq_22, ev.eq_23, ev.eq_24, evs, evo, evi, tst_cmp, tst_chn, tst_isi, tst_call, tst_meth, tst_blt, tst_var, tst_not, tst_and, tst_or, start, bodyEnd, store, Tg.bind, binds, Rz.bind_ok, Rz.bind_bad, Rz.bind_exc, Rz.of, truth, cmpop, Cm.run, getS, getL, blt, isL, lmop, s1, e1]
    rw [exs_nx q2]
    refine tag_yes (x := Str.ofString "rest") rfl ?_
    have vv : val f t - m * (val f t / m) = val f t % m := by rw [Int.emod_def]
    have bd : binop .fdiv (.int (val f t)) (.int m) h = .ok (.int (val f t / m)) h := bdiv h mp.1 (by omega)
    have bm : binop .mul (.int m) (.int (val f t / m)) h = .ok (.int (m * (val f t / m))) h := bmul_l h (by omega) (by omega)
    simp [List.getElem?_cons_zero, List.getElem?_cons_succ, List.set_cons_zero, List.set_cons_succ, List.length_cons, List.length_nil, exs, ex, ev.eq_1, ev.eq_2, ev.eq_3, ev.eq_4, ev.eq_5, ev.eq_6, ev.eq_7, ev.eq_8, ev.eq_9, ev.eq_10, ev.eq_11, ev.eq_12, ev.eq_13, ev.eq_14, ev.eq_15, ev.eq_16, ev.eq_17, ev.eq_18, ev.eq_19, ev.eq_21, ev.eq_22, ev.eq_23, ev.eq_24, evs, evo, evi, tst_cmp, tst_chn, tst_isi, tst_call, tst_meth, tst_blt, tst_var, tst_not, tst_and, tst_or, start, bodyEnd, store, Tg.bind, binds, Rz.bind_ok, Rz.bind_bad, Rz.bind_exc, Rz.of, truth, cmpop, Cm.run, getS, getL, blt, isL, lmop, s2, bd, bm, bsub, vv, val]
  | cho a b c iha ihb ihc =>
    intro j hj h12 ha hfi
    simp only [hgt] at hj h12
    obtain ⟨i, rfl⟩ : ∃ i, j = i + 1 := ⟨j - 1, by omega⟩
    refine fin0 _ (i + 1) _ ?_
    have e1 := iha i (by omega) (by omega) ha.1 hfi.1
    have e2 := ihb i (by omega) (by omega) ha.2.1 hfi.2.1
    have e3 := ihc i (by omega) (by omega) ha.2.2 hfi.2.2
    have s1 : subsc (encT (.cho a b c)) (.int 1) h = .ok (encT a) h := subsc_t1 _ _ _ _
    have s2 : subsc (encT (.cho a b c)) (.int 2) h = .ok (encT b) h := subsc_tup (ws := [.str (Str.ofString "?"), encT a, encT b, encT c]) (i := 2) (by simp) h
    have s3 : subsc (encT (.cho a b c)) (.int 3) h = .ok (encT c) h := subsc_tup (ws := [.str (Str.ofString "?"), encT a, encT b, encT c]) (i := 3) (by simp) h
    refine (tag_no (x := Str.ofString "number") (by simp only [tag]; decide +kernel)).trans ((tag_no (x := Str.ofString "take") (by simp only [tag]; decide +kernel)).trans ?_)
    have q2 : ex (Wj (i + 1)) s49_2 [some (encT (.cho a b c)), some (.ref k), none, none, none] h = .ok (.nx [some (encT (.cho a b c)), some (.ref k), some (.int (val f a)), none, none]) h := by
      simp [s49_2, List.getElem?_cons_zero, List.getElem?_cons_succ, List.set_cons_zero, List.set_cons_succ, List.length_cons, List.length_nil, exs, ex, ev.eq_1, ev.eq_2, ev.eq_3, ev.eq_4, ev.eq_5, ev.eq_6, ev.eq_7, ev.eq_8, ev.eq_9, ev.eq_10, ev.eq_11, ev.eq_12, ev.eq_13, ev.eq_14, ev.eq_15, ev.eq_16, ev.eq_17, ev.eq_18, ev.eq_19, ev.eq_21, ev.eq_22, ev.eq_23, ev.eq_24, evs, evo, evi, tst_cmp, tst_chn, tst_isi, tst_call, tst_meth, tst_blt, tst_var, tst_not, tst_and, tst_or, start, bodyEnd, store, Tg.bind, binds, Rz.bind_ok, Rz.bind_bad, Rz.bind_exc, Rz.of, truth, cmpop, Cm.run, getS, getL, blt, isL, lmop, s1, e1]
    rw [exs_nx q2]
    refine (tag_no (x := Str.ofString "rest") (by simp only [tag]; decide +kernel)).trans ?_
    refine tag_yes (x := Str.ofString "?") rfl ?_
    by_cases z : 0 < val f a
    · have z' : ¬ val f a ≤ 0 := by omega
      simp [List.getElem?_cons_zero, List.getElem?_cons_succ, List.set_cons_zero, List.set_cons_succ, List.length_cons, List.length_nil, exs, ex, ev.eq_1, ev.eq_2, ev.eq_3, ev.eq_4, ev.eq_5, ev.eq_6, ev.eq_7, ev.eq_8, ev.eq_9, ev.eq_10, ev.eq_11, ev.eq_12, ev.eq_13, ev.eq_14, ev.eq_15, ev.eq_16, ev.eq_17, ev.eq_18, ev.eq_19, ev.eq_21, ev.eq_22, ev.eq_23, ev.eq_24, evs, evo, evi, tst_cmp, tst_chn, tst_isi, tst_call, tst_meth, tst_blt, tst_var, tst_not, tst_and, tst_or, start, bodyEnd, store, Tg.bind, binds, Rz.bind_ok, Rz.bind_bad, Rz.bind_exc, Rz.of, truth, cmpop, Cm.run, getS, getL, blt, isL, lmop, badd, s2, e2, val, z, z', Cm.run]
    · have z' : val f a ≤ 0 := by omega
      simp [List.getElem?_cons_zero, List.getElem?_cons_succ, List.set_cons_zero, List.set_cons_succ, List.length_cons, List.length_nil, exs, ex, ev.eq_1, ev.eq_2, ev.eq_3, ev.eq_4, ev.eq_5, ev.eq_6, ev.eq_7, ev.eq_8, ev.eq_9, ev.eq_10, ev.eq_11, ev.eq_12, ev.eq_13, ev.eq_14, ev.eq_15, ev.eq_16, ev.eq_17, ev.eq_18, ev.eq_19, ev.eq_21, ev.eq_22, ev.eq_23, ev.eq_24, evs, evo, evi, tst_cmp, tst_chn, tst_isi, tst_call, tst_meth, tst_blt, tst_var, tst_not, tst_and, tst_or, start, bodyEnd, store, Tg.bind, binds, Rz.bind_ok, Rz.bind_bad, Rz.bind_exc, Rz.of, truth, cmpop, Cm.run, getS, getL, blt, isL, lmop, badd, s3, e3, val, z, z', Cm.run]
  | op o a b iha ihb =>
    intro j hj h12 ha hfi
    simp only [hgt] at hj h12
    obtain ⟨i, rfl⟩ : ∃ i, j = i + 1 := ⟨j - 1, by omega⟩
    have e1 := iha i (by omega) (by omega) ha.1 hfi.1
    have e2 := ihb i (by omega) (by omega) ha.2 hfi.2
    have s1 : subsc (encT (.op o a b)) (.int 1) h = .ok (encT a) h := subsc_t1 _ _ _ _
    have s2 : subsc (encT (.op o a b)) (.int 2) h = .ok (encT b) h := subsc_tup (ws := [.str (opS o), encT a, encT b]) (i := 2) (by simp) h
    have ne : ∀ x : Str, x ∈ ([Str.ofString "number", Str.ofString "take", Str.ofString "rest", Str.ofString "?"] : List Str) → opS o ≠ x := by
      have z : ∀ y ∈ ([Str.ofString "+", Str.ofString "-", Str.ofString "*", Str.ofString "min", Str.ofString "max"] : List Str), ∀ x ∈ ([Str.ofString "number", Str.ofString "take", Str.ofString "rest", Str.ofString "?"] : List Str), y ≠ x := by decide +kernel
      intro x hx
      refine z _ ?_ x hx
      match o with
      | 0 => exact List.mem_cons_self
      | 1 => exact List.mem_cons_of_mem _ List.mem_cons_self
      | 2 => exact List.mem_cons_of_mem _ (List.mem_cons_of_mem _ List.mem_cons_self)
      | 3 => exact List.mem_cons_of_mem _ (List.mem_cons_of_mem _ (List.mem_cons_of_mem _ List.mem_cons_self))
      | _ + 4 => exact List.mem_cons_of_mem _ (List.mem_cons_of_mem _ (List.mem_cons_of_mem _ (List.mem_cons_of_mem _ List.mem_cons_self)))
    have c1 := val_cap hf a ha.1 hfi.1
    have c2 := val_cap hf b ha.2 hfi.2
    have m1 : capV (hgt a) ≤ capV (max (hgt a) (hgt b)) := capV_mono (by omega)
    have m2 : capV (hgt b) ≤ capV (max (hgt a) (hgt b)) := capV_mono (by omega)
    have bm : ∀ h, binop .mul (.int (val f a)) (.int (val f b)) h = .ok (.int (val f a * val f b)) h := fun h => bmul_cap (n := max (hgt a) (hgt b)) (by omega) (by omega) (by omega) h
    have vo := k5_at f a b o
    generalize hT : val f (.op o a b) = vt at vo
    generalize val f a = x at e1 bm vo
    generalize val f b = y at e2 bm vo
    generalize hE : (some (encT (.op o a b)) : Option Wv) = X
    let k3 : List (Wv × Wv) := [(.str (Str.ofString "+"), .int (x + y)), (.str (Str.ofString "-"), .int (x - y)), (.str (Str.ofString "*"), .int (x * y))]
    let k2 : List (Wv × Wv) := [(.str (Str.ofString "min"), .int (best_min x [y])), (.str (Str.ofString "max"), .int (best_max x [y]))]
    have q2 : ex (Wj (i + 1)) s49_2 [X, some (.ref k), none, none, none] h = .ok (.nx [X, some (.ref k), some (.int x), none, none]) h := by
      subst hE
      simp [s49_2, List.getElem?_cons_zero, List.getElem?_cons_succ, List.set_cons_zero, List.set_cons_succ, List.length_cons, List.length_nil, exs, ex, ev.eq_1, ev.eq_2, ev.eq_3, ev.eq_4, ev.eq_5, ev.eq_6, ev.eq_7, ev.eq_8, ev.eq_9, ev.eq_10, ev.eq_11, ev.eq_12, ev.eq_13, ev.eq_14, ev.eq_15, ev.eq_16, ev.eq_17, ev.eq_18, ev.eq_19, ev.eq_21, ev.eq_22, ev.eq_23, ev.eq_24, evs, evo, evi, tst_cmp, tst_chn, tst_isi, tst_call, tst_meth, tst_blt, tst_var, tst_not, tst_and, tst_or, start, bodyEnd, store, Tg.bind, binds, Rz.bind_ok, Rz.bind_bad, Rz.bind_exc, Rz.of, truth, cmpop, Cm.run, getS, getL, blt, isL, lmop, s1, e1]
    have q5 : ex (Wj (i + 1)) s49_5 [X, some (.ref k), some (.int x), none, none] h = .ok (.nx [X, some (.ref k), some (.int x), some (.int y), none]) h := by
      subst hE
      simp [s49_5, List.getElem?_cons_zero, List.getElem?_cons_succ, List.set_cons_zero, List.set_cons_succ, List.length_cons, List.length_nil, exs, ex, ev.eq_1, ev.eq_2, ev.eq_3, ev.eq_4, ev.eq_5, ev.eq_6, ev.eq_7, ev.eq_8, ev.eq_9, ev.eq_10, ev.eq_11, ev.eq_12, ev.eq_13, ev.eq_14, ev.eq_15, ev.eq_16, ev.eq_17, ev.eq_18, ev.eq_19, ev.eq_21, ev.eq_22, ev.eq_23, ev.eq_24, evs, evo, evi, tst_cmp, tst_chn, tst_isi, tst_call, tst_meth, tst_blt, tst_var, tst_not, tst_and, tst_or, start, bodyEnd, store, Tg.bind, binds, Rz.bind_ok, Rz.bind_bad, Rz.bind_exc, Rz.of, truth, cmpop, Cm.run, getS, getL, blt, isL, lmop, s2, e2]
    have q6 : ex (Wj (i + 1)) s49_6 [X, some (.ref k), some (.int x), some (.int y), none] h = .ok (.nx [X, some (.ref k), some (.int x), some (.int y), some (.ref h.length)]) (h ++ [.dic k3]) := by
      have m3 : mergeW [] (([Str.ofString "+", Str.ofString "-", Str.ofString "*"].map Wv.str).zip [.int (x + y), .int (x - y), .int (x * y)]) = k3 := by kernel_rfl
      have es : evs (Wj (i + 1)) [(.bin .add (.var 2) (.var 3)), (.bin .sub (.var 2) (.var 3)), (.bin .mul (.var 2) (.var 3))] [X, some (.ref k), some (.int x), some (.int y), none] (h ++ [Ob.dic []]) = .ok [.int (x + y), .int (x - y), .int (x * y)] (h ++ [Ob.dic []]) := by
        simp [evs, ev, badd, bsub, bm]
      have g := get_last h (.dic [])
      rw [s49_6, ex, ev, es, Rz.bind_ok]
      simp only [g, m3, set_last]
      rw [if_pos ⟨rfl, by decide⟩, Rz.bind_ok]
      rfl
    have q7 : ∃ T : Hs, ex (Wj (i + 1)) s49_7 [X, some (.ref k), some (.int x), some (.int y), some (.ref h.length)] (h ++ [.dic k3]) = .ok (.nx [X, some (.ref k), some (.int x), some (.int y), some (.ref h.length)]) (h ++ .dic (k5 (x + y) (x - y) (x * y) (best_min x [y]) (best_max x [y])) :: T) := by
      have v2 : ∀ G, ev (Wj (i + 1)) (.var 2) [X, some (.ref k), some (.int x), some (.int y), some (.ref h.length)] G = .ok (.int x) G := fun G => by simp [ev]
      have v3 : ∀ G, ev (Wj (i + 1)) (.var 3) [X, some (.ref k), some (.int x), some (.int y), some (.ref h.length)] G = .ok (.int y) G := fun G => by simp [ev]
      obtain ⟨T1, t1⟩ := srt_at (Wj (i + 1)) (h ++ [.dic k3] ++ [.dic []]) v2 v3 0 (by decide)
      obtain ⟨T2, t2⟩ := srt_at (Wj (i + 1)) (h ++ [.dic k3] ++ [.dic []] ++ T1) v2 v3 1 (by decide)
      refine ⟨[.dic k2] ++ (T1 ++ T2), ?_⟩
      have mm : mergeW [] (([Str.ofString "min", Str.ofString "max"].map Wv.str).zip [.int (best_min x [y]), .int (best_max x [y])]) = k2 := by kernel_rfl
      have m6 : mergeW k3 k2 = k5 (x + y) (x - y) (x * y) (best_min x [y]) (best_max x [y]) := by kernel_rfl
      have es : evs (Wj (i + 1)) [(.sub (.blt .sorted [(.lst [(.var 2), (.var 3)])]) (.cst (.int 0))), (.sub (.blt .sorted [(.lst [(.var 2), (.var 3)])]) (.cst (.int 1)))] [X, some (.ref k), some (.int x), some (.int y), some (.ref h.length)] (h ++ [.dic k3] ++ [.dic []]) = .ok [.int (best_min x [y]), .int (best_max x [y])] (h ++ [.dic k3] ++ [.dic []] ++ T1 ++ T2) := by
        have t1' : ev (Wj (i + 1)) (.sub (.blt .sorted [(.lst [(.var 2), (.var 3)])]) (.cst (.int 0))) [X, some (.ref k), some (.int x), some (.int y), some (.ref h.length)] (h ++ [.dic k3] ++ [.dic []]) = _ := t1
        have t2' : ev (Wj (i + 1)) (.sub (.blt .sorted [(.lst [(.var 2), (.var 3)])]) (.cst (.int 1))) [X, some (.ref k), some (.int x), some (.int y), some (.ref h.length)] (h ++ [.dic k3] ++ [.dic []] ++ T1) = _ := t2
        rw [evs, t1', Rz.bind_ok, evs, t2', Rz.bind_ok, evs, Rz.bind_ok, Rz.bind_ok]
        rfl
      have g : (h ++ [Ob.dic k3] ++ [Ob.dic []] ++ T1 ++ T2)[(h ++ [Ob.dic k3]).length]? = some (.dic []) := get_app (get_app (get_last (h ++ [Ob.dic k3]) _) _) _
      have st : (h ++ [Ob.dic k3] ++ [Ob.dic []] ++ T1 ++ T2).set (h ++ [Ob.dic k3]).length (.dic k2) = h ++ .dic k3 :: ([.dic k2] ++ (T1 ++ T2)) := by
        rw [List.append_assoc, List.append_assoc, List.set_append_right _ _ (Nat.le_refl _), Nat.sub_self]
        simp
      have dd : ev (Wj (i + 1)) (.dsp [(Str.ofString "min"), (Str.ofString "max")] [(.sub (.blt .sorted [(.lst [(.var 2), (.var 3)])]) (.cst (.int 0))), (.sub (.blt .sorted [(.lst [(.var 2), (.var 3)])]) (.cst (.int 1)))]) [X, some (.ref k), some (.int x), some (.int y), some (.ref h.length)] (h ++ [.dic k3]) = .ok (.ref (h ++ [Ob.dic k3]).length) (h ++ .dic k3 :: ([.dic k2] ++ (T1 ++ T2))) := by
        rw [ev, es, Rz.bind_ok]
        simp only [g, mm]
        rw [if_pos ⟨rfl, by decide⟩, st]
      have v4 : ev (Wj (i + 1)) (.var 4) [X, some (.ref k), some (.int x), some (.int y), some (.ref h.length)] (h ++ [.dic k3]) = .ok (.ref h.length) (h ++ [.dic k3]) := by simp [ev]
      have g1 : (h ++ [Ob.dic k3])[h.length]? = some (.dic k3) := get_last h _
      have g2 : (h ++ .dic k3 :: ([.dic k2] ++ (T1 ++ T2)))[h.length]? = some (.dic k3) := get_last2 h _ _
      have g3 : (h ++ .dic k3 :: ([.dic k2] ++ (T1 ++ T2)))[(h ++ [Ob.dic k3]).length]? = some (.dic k2) := by
        rw [List.getElem?_append_right (by simp)]; simp
      have isd : isD (h ++ [Ob.dic k3]) (.ref h.length) = true := by simp only [isD, g1]
      have nl : h.length ≠ (h ++ [Ob.dic k3]).length ∧ k3.length + k2.length ≤ sizeLine := ⟨by simp, by simp [k3, k2, sizeLine_eq]⟩
      rw [s49_7, ex, ev, v4, Rz.bind_ok, if_pos isd, dd, Rz.bind_ok]
      simp only [dupd, g2, g3, m6]
      rw [if_pos nl, Rz.bind_ok, List.set_append_right _ _ (Nat.le_refl _), Nat.sub_self]
      rfl
    obtain ⟨T, q7⟩ := q7
    refine fin (.op o a b) (i + 1) _ (.dic (k5 (x + y) (x - y) (x * y) (best_min x [y]) (best_max x [y])) :: T) ?_
    refine (tag_no (x := Str.ofString "number") (t := .op o a b) (ne (Str.ofString "number") (by simp))).trans ((tag_no (x := Str.ofString "take") (t := .op o a b) (ne (Str.ofString "take") (by simp))).trans ?_)
    rw [hE, exs_nx q2, ← hE]
    refine (tag_no (x := Str.ofString "rest") (t := .op o a b) (ne (Str.ofString "rest") (by simp))).trans ((tag_no (x := Str.ofString "?") (t := .op o a b) (ne (Str.ofString "?") (by simp))).trans ?_)
    rw [hE, exs_nx q5, exs_nx q6, exs_nx q7]
    have g9 : (h ++ .dic (k5 (x + y) (x - y) (x * y) (best_min x [y]) (best_max x [y])) :: T)[h.length]? = some (.dic (k5 (x + y) (x - y) (x * y) (best_min x [y]) (best_max x [y]))) := get_last2 h _ _
    generalize (h ++ .dic (k5 (x + y) (x - y) (x * y) (best_min x [y]) (best_max x [y])) :: T) = H9 at g9
    have t0 : subsc (encT (.op o a b)) (.int 0) H9 = .ok (.str (opS o)) H9 := subsc_t0 _ _ _
    subst hE
    have q8 : ex (Wj (i + 1)) s49_8 [some (encT (.op o a b)), some (.ref k), some (.int x), some (.int y), some (.ref h.length)] H9 = .ok (.ret (.int vt)) H9 := by
      have ei : ev (Wj (i + 1)) (.sub (.var 0) (.cst (.int 0))) [some (encT (.op o a b)), some (.ref k), some (.int x), some (.int y), some (.ref h.length)] H9 = .ok (.str (opS o)) H9 := by
        simp [List.getElem?_cons_zero, List.getElem?_cons_succ, List.set_cons_zero, List.set_cons_succ, List.length_cons, List.length_nil, exs, ex, ev.eq_1, ev.eq_2, ev.eq_3, ev.eq_4, ev.eq_5, ev.eq_6, ev.eq_7, ev.eq_8, ev.eq_9, ev.eq_10, ev.eq_11, ev.eq_12, ev.eq_13, ev.eq_14, ev.eq_15, ev.eq_16, ev.eq_17, ev.eq_18, ev.eq_19, ev.eq_21, ev.eq_22, ev.eq_23, ev.eq_24, evs, evo, evi, tst_cmp, tst_chn, tst_isi, tst_call, tst_meth, tst_blt, tst_var, tst_not, tst_and, tst_or, start, bodyEnd, store, Tg.bind, binds, Rz.bind_ok, Rz.bind_bad, Rz.bind_exc, Rz.of, truth, cmpop, Cm.run, getS, getL, blt, isL, lmop, t0]
      have e4 : ev (Wj (i + 1)) (.var 4) [some (encT (.op o a b)), some (.ref k), some (.int x), some (.int y), some (.ref h.length)] H9 = .ok (.ref h.length) H9 := by
        simp [ev]
      rw [s49_8, ex, ev, e4, Rz.bind_ok, ei, Rz.bind_ok]
      simp only [subsc, getD, g9, vo, Rz.bind_ok]
    exact exs_ret q8
end SL

set_option maxRecDepth 100000
set_option maxHeartbeats 2000000
/-! Terms: their fields; the worths. -/
namespace SL
open PySem
set_option autoImplicit false
abbrev Qy (x : Str) : Ex := .cmp .eq (.sub (.var 1) (.cst (.int 0))) (.cst (.str x))
theorem tagy_tst (P : Wd) (x : Str) (t : Tm) (X : Option Wv) (e : Ev) (h : Hs) : tst P (Qy x) (X :: some (encT t) :: e) h = .ok (decide (tag t = x)) h := by
  rw [tst_cmp, encT_eq]
  simp [List.getElem?_cons_zero, List.getElem?_cons_succ, List.set_cons_zero, List.set_cons_succ, List.length_cons, List.length_nil, exs, ex, ev.eq_1, ev.eq_2, ev.eq_3, ev.eq_4, ev.eq_5, ev.eq_6, ev.eq_7, ev.eq_8, ev.eq_9, ev.eq_10, ev.eq_11, ev.eq_12, ev.eq_13, ev.eq_14, ev.eq_15, ev.eq_16, ev.eq_17, ev.eq_18, ev.eq_19, ev.eq_21, ev.eq_22, ev.eq_23, ev.eq_24, evs, evo, evi, tst_cmp, tst_chn, tst_isi, tst_call, tst_meth, tst_blt, tst_var, tst_not, tst_and, tst_or, start, bodyEnd, store, Tg.bind, binds, Rz.bind_ok, Rz.bind_bad, Rz.bind_exc, Rz.of, truth, cmpop, Cm.run, getS, getL, blt, isL, lmop, subsc_t0, eq_str]
theorem tagy_no {P : Wd} {x : Str} {t : Tm} (n : tag t ≠ x) {b : List Sm} {X : Option Wv} {e : Ev} {h : Hs} {ss : List Sm} : exs P (.ifs (Qy x) b [] :: ss) (X :: some (encT t) :: e) h = exs P ss (X :: some (encT t) :: e) h :=
  exs_nx (ifs_no (by rw [tagy_tst, decide_eq_false n]))
theorem tagy_yes {P : Wd} {x : Str} {t : Tm} (n : tag t = x) {b : List Sm} {X : Option Wv} {e : Ev} {h h' : Hs} {ss : List Sm} {w : Wv} (q : exs P b (X :: some (encT t) :: e) h = .ok (.ret w) h') : exs P (.ifs (Qy x) b [] :: ss) (X :: some (encT t) :: e) h = .ok (.ret w) h' :=
  exs_ret (by rw [ifs_yes (by rw [tagy_tst, decide_eq_true n]), q])
theorem isc_yes {P : Wd} {a : Ex} {t : Tm} {yes no : List Nat} {e : Ev} {h : Hs} (ha : ev P a e h = .ok (encO t) h) (hy : yes.contains (cO t) = true) : ev P (.isc a yes no) e h = .ok (.bl true) h := by
  rw [ev, ha, Rz.bind_ok, encO_eq]
  simp only [getI, hy, if_true]
theorem and_tt {P : Wd} {a b : Ex} {e : Ev} {h : Hs} {w : Wv} (ha : ev P a e h = .ok (.bl true) h) (hb : ev P b e h = .ok w h) : ev P (.and a b) e h = .ok w h := by
  rw [ev, ha, Rz.bind_ok]
  simp only [truth, Rz.of_some, Rz.bind_ok, if_true, hb]
theorem ret_of {P : Wd} {x : Ex} {e : Ev} {h h' : Hs} {w : Wv} (q : ev P x e h = .ok w h') : ex P (.ret x) e h = .ok (.ret w) h' := by
  rw [ex, q, Rz.bind_ok]
theorem eq_pw (h : Hs) (b : Int) (st : List Int) : eqVal h (pw b st) (pw b st) = some true := by
  have n := nbs_mem (pws_nb (ws := [pw b st]) (fun w hw => by rw [List.mem_singleton.mp hw]; exact ⟨b, st, rfl⟩) 0) (pw b st) List.mem_cons_self
  rw [eqVal_nb (Fz.nb n) (Fz.nb n) n n (by decide)]
  simp
theorem fldO : ∀ (t : Tm) (j : Nat), hgt t ≤ j → ∀ h : Hs, callD pg.D pg.glo pg.cls pg.fld pg.turns (j + 1) 51 [encO t, encT t] h = .ok (.bl true) h := by
  have fin : ∀ (t : Tm) (j : Nat) (h : Hs), exs (Wj j) [s51_0, s51_1, s51_2, s51_3, s51_4] [some (encO t), some (encT t)] h = .ok (.ret (.bl true)) h → callD pg.D pg.glo pg.cls pg.fld pg.turns (j + 1) 51 [encO t, encT t] h = .ok (.bl true) h := fun t j h he => by
    rw [run_end db51 rfl]
    have key : bodyEnd (exs (Wj j) b51.body [some (encO t), some (encT t)] h) = .ok (.bl true) h := by
      rw [show b51.body = [s51_0, s51_1, s51_2, s51_3, s51_4] from rfl, he]
      rfl
    refine (congrArg (fun r => Rz.bind r fun w h1 => ended .cold h.length h w h1) key).trans ?_
    rw [Rz.bind_ok]
    have z := cold_end (h := h) (w := .bl true) rfl []
    rw [List.append_nil] at z
    exact z
  have at_ : ∀ (j : Nat) (t : Tm) (w : Wv) (g : Nat) (h : Hs), pg.fld (cO t) g = true → fget (fO t) g = some w → ev (Wj j) (.att (.var 0) g) [some (encO t), some (encT t)] h = .ok w h := fun j t w g h h1 h2 => by
    simp only [ev, List.getElem?_cons_zero, Rz.bind_ok, encO_eq t, getI, h1, h2, if_true, Rz.of_some]
  have sb : ∀ (j : Nat) (t : Tm) (z : Int) (i : Nat) (w : Wv) (h : Hs), z = i → (Wv.str (tag t) :: targs t)[i]? = some w → ev (Wj j) (.sub (.var 1) (.cst (.int z))) [some (encO t), some (encT t)] h = .ok w h := fun j t z i w h hz e => by
    subst hz
    obtain ⟨hi, e⟩ := List.getElem?_eq_some_iff.mp e
    simp only [ev, List.getElem?_cons_succ, List.getElem?_cons_zero, Rz.bind_ok]
    rw [encT_eq, subsc_tup hi, e]
  have v0 : ∀ (j : Nat) (t : Tm) (h : Hs), ev (Wj j) (.var 0) [some (encO t), some (encT t)] h = .ok (encO t) h := fun j t h => by simp [ev]
  have cl : ∀ (j : Nat) (t u : Tm) (g : Nat) (z : Int) (i : Nat) (h : Hs), z = i → pg.fld (cO t) g = true → fget (fO t) g = some (encO u) → (Wv.str (tag t) :: targs t)[i]? = some (encT u) → callD pg.D pg.glo pg.cls pg.fld pg.turns j 51 [encO u, encT u] h = .ok (.bl true) h →
      ev (Wj j) (.call 51 [(.att (.var 0) g), (.sub (.var 1) (.cst (.int z)))]) [some (encO t), some (encT t)] h = .ok (.bl true) h := fun j t u g z i h hz h1 h2 h3 h4 => by
    rw [ev, evs, at_ j t _ g h h1 h2, Rz.bind_ok, evs, sb j t z i _ h hz h3, Rz.bind_ok, evs, Rz.bind_ok, Rz.bind_ok, Rz.bind_ok]
    exact h4
  have eqi : ∀ (j : Nat) (t : Tm) (g : Nat) (z : Int) (i : Nat) (x : Int) (h : Hs), z = i → pg.fld (cO t) g = true → fget (fO t) g = some (.int x) → (Wv.str (tag t) :: targs t)[i]? = some (.int x) → ev (Wj j) (.cmp .eq (.att (.var 0) g) (.sub (.var 1) (.cst (.int z)))) [some (encO t), some (encT t)] h = .ok (.bl true) h := fun j t g z i x h hz h1 h2 h3 => by
    rw [cmp_eq, at_ j t _ g h h1 h2, Rz.bind_ok, sb j t z i _ h hz h3, Rz.bind_ok]
    simp [cmpop, Cm.run, eq_int]
  intro t
  induction t with
  | num v =>
    intro j _ h
    refine fin _ j h ?_
    refine tagy_yes (x := Str.ofString "number") rfl ?_
    refine exs_ret ?_
    exact ret_of (and_tt (isc_yes (v0 j _ h) rfl) (eqi j (.num v) 10 1 1 v h rfl fl110 rfl rfl))
  | take b st =>
    intro j _ h
    refine fin _ j h ?_
    refine (tagy_no (x := Str.ofString "number") (by simp only [tag]; decide +kernel)).trans (tagy_yes (x := Str.ofString "take") rfl ?_)
    have e1 : ev (Wj j) (.tup [(.att (.var 0) 11), (.att (.var 0) 12)]) [some (encO (.take b st)), some (encT (.take b st))] h = .ok (pw b st) h := by
      rw [ev, evs, at_ j (.take b st) (.int b) 11 h fl211 rfl, Rz.bind_ok, evs, at_ j (.take b st) (tp st) 12 h fl212 rfl, Rz.bind_ok, evs, Rz.bind_ok, Rz.bind_ok, Rz.bind_ok]
      rw [if_pos (by show 2 ≤ sizeLine; decide)]
      rfl
    have e2 : ev (Wj j) (.slc (.var 1) (some (.cst (.int 1))) none) [some (encO (.take b st)), some (encT (.take b st))] h = .ok (pw b st) h := by
      simp only [ev, evo, List.getElem?_cons_succ, List.getElem?_cons_zero, Rz.bind_ok, slcA]
      rfl
    have e3 : ev (Wj j) (.cmp .eq (.tup [(.att (.var 0) 11), (.att (.var 0) 12)]) (.slc (.var 1) (some (.cst (.int 1))) none)) [some (encO (.take b st)), some (encT (.take b st))] h = .ok (.bl true) h := by
      rw [cmp_eq, e1, Rz.bind_ok, e2, Rz.bind_ok]
      simp only [cmpop, Cm.run, eq_pw, Rz.of_some, Rz.bind_ok]
    refine exs_ret ?_
    exact ret_of (and_tt (isc_yes (v0 j _ h) rfl) e3)
  | rest t m ih =>
    intro j hj h
    simp only [hgt] at hj
    obtain ⟨i, rfl⟩ : ∃ i, j = i + 1 := ⟨j - 1, by omega⟩
    refine fin _ (i + 1) h ?_
    refine (tagy_no (x := Str.ofString "number") (by simp only [tag]; decide +kernel)).trans ((tagy_no (x := Str.ofString "take") (by simp only [tag]; decide +kernel)).trans (tagy_yes (x := Str.ofString "rest") rfl ?_))
    refine exs_ret ?_
    exact ret_of (and_tt (isc_yes (v0 (i + 1) _ h) rfl) (and_tt (eqi (i + 1) (.rest t m) 16 2 2 m h rfl fl916 rfl rfl) (cl (i + 1) (.rest t m) t 14 1 1 h rfl fl914 rfl rfl (ih i (by omega) h))))
  | cho a b c iha ihb ihc =>
    intro j hj h
    simp only [hgt] at hj
    obtain ⟨i, rfl⟩ : ∃ i, j = i + 1 := ⟨j - 1, by omega⟩
    refine fin _ (i + 1) h ?_
    refine (tagy_no (x := Str.ofString "number") (by simp only [tag]; decide +kernel)).trans ((tagy_no (x := Str.ofString "take") (by simp only [tag]; decide +kernel)).trans ((tagy_no (x := Str.ofString "rest") (by simp only [tag]; decide +kernel)).trans (tagy_yes (x := Str.ofString "?") rfl ?_)))
    have e1 := cl (i + 1) (.cho a b c) a 17 1 1 h rfl fl1017 rfl rfl (iha i (by omega) h)
    have e2 := cl (i + 1) (.cho a b c) b 14 2 2 h rfl fl1014 rfl rfl (ihb i (by omega) h)
    have e3 := cl (i + 1) (.cho a b c) c 15 3 3 h rfl fl1015 rfl rfl (ihc i (by omega) h)
    refine (exs_nx (ifs_no (h1 := h) ?_)).trans (exs_ret (h1 := h) ?_)
    · have i1 := isc_yes (P := Wj (i + 1)) (a := .var 0) (t := .cho a b c) (yes := [10]) (no := [0, 1, 2, 3, 4, 5, 6, 7, 8, 9]) (e := [some (encO (.cho a b c)), some (encT (.cho a b c))]) (h := h) (v0 (i + 1) _ h) rfl
      rw [tst_or, tst_not, tst_plain rfl, i1]
      simp only [Rz.bind_ok, truth, Rz.of_some, Bool.not_true, Bool.false_eq_true, if_false]
      rw [tst_not, tst_call, e1]
      simp [truth]
    · exact ret_of (and_tt e2 e3)
  | op o a b iha ihb =>
    intro j hj h
    simp only [hgt] at hj
    obtain ⟨i, rfl⟩ : ∃ i, j = i + 1 := ⟨j - 1, by omega⟩
    refine fin _ (i + 1) h ?_
    have ne : ∀ x : Str, x ∈ ([Str.ofString "number", Str.ofString "take", Str.ofString "rest", Str.ofString "?"] : List Str) → opS o ≠ x := by
      have z : ∀ y ∈ ([Str.ofString "+", Str.ofString "-", Str.ofString "*", Str.ofString "min", Str.ofString "max"] : List Str), ∀ x ∈ ([Str.ofString "number", Str.ofString "take", Str.ofString "rest", Str.ofString "?"] : List Str), y ≠ x := by decide +kernel
      intro x hx
      refine z _ ?_ x hx
      match o with
      | 0 => exact List.mem_cons_self
      | 1 => exact List.mem_cons_of_mem _ List.mem_cons_self
      | 2 => exact List.mem_cons_of_mem _ (List.mem_cons_of_mem _ List.mem_cons_self)
      | 3 => exact List.mem_cons_of_mem _ (List.mem_cons_of_mem _ (List.mem_cons_of_mem _ List.mem_cons_self))
      | _ + 4 => exact List.mem_cons_of_mem _ (List.mem_cons_of_mem _ (List.mem_cons_of_mem _ (List.mem_cons_of_mem _ List.mem_cons_self)))
    have f1 : ∀ o : Nat, pg.fld (opC o) 14 = true := fun o => match o with
      | 0 => fl414
      | 1 => fl514
      | 2 => fl614
      | 3 => fl714
      | _ + 4 => fl814
    have f2 : ∀ o : Nat, pg.fld (opC o) 15 = true := fun o => match o with
      | 0 => fl415
      | 1 => fl515
      | 2 => fl615
      | 3 => fl715
      | _ + 4 => fl815
    refine (tagy_no (x := Str.ofString "number") (t := .op o a b) (ne (Str.ofString "number") (by simp))).trans ((tagy_no (x := Str.ofString "take") (t := .op o a b) (ne (Str.ofString "take") (by simp))).trans ((tagy_no (x := Str.ofString "rest") (t := .op o a b) (ne (Str.ofString "rest") (by simp))).trans ((tagy_no (x := Str.ofString "?") (t := .op o a b) (ne (Str.ofString "?") (by simp))).trans ?_)))
    have e1 := cl (i + 1) (.op o a b) a 14 1 1 h rfl (f1 o) rfl rfl (iha i (by omega) h)
    have e2 := cl (i + 1) (.op o a b) b 15 2 2 h rfl (f2 o) rfl rfl (ihb i (by omega) h)
    refine exs_ret ?_
    exact ret_of (and_tt e1 e2)
end SL

set_option maxRecDepth 100000
set_option maxHeartbeats 2000000
/-! The worths of takes, drawn. -/
namespace SL
open PySem
set_option autoImplicit false
/-- a comprehension that draws and lays cells -/
theorem comp_gr {turn : Wv → Hs → Rz (Option Wv)} {ck : Ck} {k : Nat} {g : Hs} {R : Wv → Wv → Prop} (st : ∀ o acc T, isWl o → stay (g.set k o ++ .lst acc :: T) ck = true) : ∀ (ws acc : List Wv) (o : Ob) (T : Hs), isWl o →
    (∀ w ∈ ws, ∀ o, isWl o → ∃ v o', isWl o' ∧ R w v ∧ ∀ acc T, ∃ T', turn w (g.set k o ++ .lst acc :: T) = .ok (some v) (g.set k o' ++ .lst acc :: T')) → acc.length + ws.length ≤ sizeLine →
    ∃ vs o' T', isWl o' ∧ Zp R ws vs ∧ compL turn ck g.length ws (g.set k o ++ .lst acc :: T) = .ok (.ref g.length) (g.set k o' ++ .lst (acc ++ vs) :: T')
  | [], acc, o, T, ho, _, _ => ⟨[], o, T, ho, trivial, by rw [compL_nil (st o acc T ho), List.append_nil]⟩
  | w :: ws, acc, o, T, ho, ht, hz => by
    obtain ⟨v, o1, ho1, hr, e⟩ := ht w List.mem_cons_self o ho
    obtain ⟨T1, e⟩ := e acc T
    obtain ⟨vs, o', T', ho', hz', ih⟩ := comp_gr st ws (acc ++ [v]) o1 T1 ho1 (fun x hx => ht x (List.mem_cons_of_mem _ hx)) (by simp at hz ⊢; omega)
    refine ⟨v :: vs, o', T', ho', ⟨hr, hz'⟩, ?_⟩
    rw [compL_so (st o acc T ho) e (get_wl_last _ _ _) (by simp at hz; omega), set_wl_last, ih]
    simp
/-! dicts with tuples as keys -/
theorem keq_pw {a b : Wv} (ha : IsPw a) (hb : IsPw b) : keq a b = decide (a = b) := by
  obtain ⟨x, xs, rfl⟩ := ha
  obtain ⟨y, ys, rfl⟩ := hb
  unfold pw keq
  simp
theorem keyOk_pw {a : Wv} (ha : IsPw a) : keyOk a = true := by
  obtain ⟨x, xs, rfl⟩ := ha
  have e := pw_toD x xs
  unfold pw at e ⊢
  unfold keyOk
  simp only [e]
  rw [dep_pw]
  have z := (ranks_pw (ws := [pw x xs]) (fun w hw => by rw [List.mem_singleton.mp hw]; exact ⟨x, xs, rfl⟩)).1 (pw x xs) List.mem_cons_self
  obtain ⟨d, z1, z2⟩ := z
  rw [pw_toD] at z1
  cases z1
  rw [z2]
  decide
theorem valW_mem : ∀ {kvs : List (Wv × Wv)} {k v : Wv}, valW kvs k = some v → ∃ p ∈ kvs, p.2 = v
  | [], _, _, h => by cases h
  | p :: r, k, v, h => by
    unfold valW at h
    split at h
    · exact ⟨p, List.mem_cons_self, Option.some.inj h⟩
    · obtain ⟨q, h1, h2⟩ := valW_mem h
      exact ⟨q, List.mem_cons_of_mem _ h1, h2⟩
theorem valW_map {k v : Wv} : ∀ (kvs : List (Wv × Wv)) (k' : Wv), (valW (kvs.map fun p => if keq p.1 k = true then (p.1, v) else p) k').isSome = (valW kvs k').isSome
  | [], _ => rfl
  | p :: r, k' => by
    have ih := valW_map (k := k) (v := v) r k'
    rw [List.map_cons, valW, valW]
    have e : (if keq p.1 k = true then (p.1, v) else p).1 = p.1 := by split <;> rfl
    rw [e]
    split
    · rfl
    · exact ih
theorem valW_app {k v : Wv} : ∀ (kvs : List (Wv × Wv)) (k' : Wv), (valW (kvs ++ [(k, v)]) k').isSome = ((valW kvs k').isSome || keq k k')
  | [], k' => by
    show (valW [(k, v)] k').isSome = _
    unfold valW valW
    split <;> simp_all [valW]
  | p :: r, k' => by
    have ih := valW_app (k := k) (v := v) r k'
    rw [List.cons_append, valW, valW]
    split
    · rfl
    · exact ih
theorem put_some {kvs : List (Wv × Wv)} {k v : Wv} (hk : IsPw k) : (valW (putW kvs k v) k).isSome = true := by
  unfold putW
  split
  · rename_i h
    rw [valW_map, h]
  · rw [valW_app, keq_pw hk hk]; simp
theorem put_keeps {kvs : List (Wv × Wv)} {k v k' : Wv} (h : (valW kvs k').isSome = true) : (valW (putW kvs k v) k').isSome = true := by
  unfold putW
  split
  · rw [valW_map, h]
  · rw [valW_app, h]; rfl
theorem put_all {Q : Wv → Prop} {kvs : List (Wv × Wv)} {k v : Wv} (h : ∀ p ∈ kvs, Q p.2) (hv : Q v) : ∀ p ∈ putW kvs k v, Q p.2 := by
  unfold putW
  split
  · intro p hp
    obtain ⟨q, hq, rfl⟩ := List.mem_map.mp hp
    split
    · exact hv
    · exact h q hq
  · intro p hp
    rcases List.mem_append.mp hp with hp | hp
    · exact h p hp
    · rw [List.mem_singleton.mp hp]; exact hv
theorem merge_all {Q : Wv → Prop} : ∀ (ps kvs : List (Wv × Wv)), (∀ p ∈ ps, IsPw p.1 ∧ Q p.2) → (∀ p ∈ kvs, Q p.2) → (∀ p ∈ mergeW kvs ps, Q p.2) ∧ (∀ k, (valW kvs k).isSome = true → (valW (mergeW kvs ps) k).isSome = true) ∧ ∀ p ∈ ps, (valW (mergeW kvs ps) p.1).isSome = true
  | [], kvs, _, h => ⟨h, fun k hk => hk, fun p hp => by cases hp⟩
  | p :: ps, kvs, hp, h => by
    have e : mergeW kvs (p :: ps) = mergeW (putW kvs p.1 p.2) ps := rfl
    rw [e]
    have h1 := hp p List.mem_cons_self
    obtain ⟨a, b, c⟩ := merge_all ps (putW kvs p.1 p.2) (fun q hq => hp q (List.mem_cons_of_mem _ hq)) (put_all h h1.2)
    refine ⟨a, fun k hk => b k (put_keeps hk), fun q hq => ?_⟩
    rcases List.mem_cons.mp hq with rfl | hq
    · exact b _ (put_some h1.1)
    · exact c q hq
/-- a worth -/
def Wor (v : Wv) : Prop := ∃ x : Int, v = .int x ∧ 0 ≤ x ∧ x ≤ 1000000000
/-- the cell D tells the worths f of S -/
def Dct (S : List Wv) (f : Wv → Int) (D : Nat) (h : Hs) : Prop := (∀ w ∈ S, 0 ≤ f w ∧ f w ≤ 1000000000) ∧ (S = [] ∨ ∃ kvs, h[D]? = some (.dcn kvs) ∧ ∀ w ∈ S, keyOk w = true ∧ valW kvs w = some (.int (f w)))
theorem Dct.app {S : List Wv} {f : Wv → Int} {D : Nat} {h : Hs} (d : Dct S f D h) (t : Hs) : Dct S f D (h ++ t) := ⟨d.1, d.2.imp (fun z => z) fun ⟨kvs, e, z⟩ => ⟨kvs, get_app e t, z⟩⟩
theorem Dct.set {S : List Wv} {f : Wv → Int} {D k : Nat} {h : Hs} (d : Dct S f D h) (hk : D ≠ k) (p : Ob) : Dct S f D (h.set k p) := ⟨d.1, d.2.imp (fun z => z) fun ⟨kvs, e, z⟩ => ⟨kvs, get_ne e hk p, z⟩⟩
theorem Dct.sub {S : List Wv} {f : Wv → Int} {D : Nat} {h : Hs} (d : Dct S f D h) : ∀ w ∈ S, subN (.ref D) w h = .ok (.int (f w)) h := fun w hw => by
  rcases d.2 with e | ⟨kvs, e, z⟩
  · rw [e] at hw; cases hw
  · obtain ⟨z1, z2⟩ := z w hw
    simp only [subN, e, z1, z2, if_true]
theorem Dct.cap {S : List Wv} {f : Wv → Int} {D : Nat} {h : Hs} (d : Dct S f D h) : ∀ w ∈ S, (f w).natAbs < 2 ^ 64 := fun w hw => by
  have := d.1 w hw
  omega
theorem pairs_of : ∀ {S vs : List Wv}, Zp (fun w v => ∃ u, v = .tup [w, u] ∧ Wor u) S vs → (∀ w ∈ S, IsPw w) → ∃ ps : List (Wv × Wv), pairsW vs = some ps ∧ (∀ p ∈ ps, IsPw p.1 ∧ Wor p.2) ∧ (∀ w ∈ S, ∃ p ∈ ps, p.1 = w) ∧ ps.length = S.length
  | [], [], _, _ => ⟨[], rfl, (fun p hp => by cases hp), (fun w hw => by cases hw), rfl⟩
  | w :: S, v :: vs, z, h => by
    obtain ⟨⟨u, rfl, hu⟩, zz⟩ := z
    obtain ⟨ps, e, p1, p2, p3⟩ := pairs_of zz fun x hx => h x (List.mem_cons_of_mem _ hx)
    have hw := h w List.mem_cons_self
    refine ⟨(w, u) :: ps, by rw [pairsW, if_pos (keyOk_pw hw), e]; rfl, fun p hp => ?_, fun x hx => ?_, by rw [List.length_cons, List.length_cons, p3]⟩
    · rcases List.mem_cons.mp hp with rfl | hp
      · exact ⟨hw, hu⟩
      · exact p1 p hp
    · rcases List.mem_cons.mp hx with rfl | hx
      · exact ⟨_, List.mem_cons_self, rfl⟩
      · obtain ⟨p, q1, q2⟩ := p2 x hx
        exact ⟨p, List.mem_cons_of_mem _ q1, q2⟩
  | [], _ :: _, z, _ => z.elim
  | _ :: _, [], z, _ => z.elim
def fOf (kvs : List (Wv × Wv)) (w : Wv) : Int := match valW kvs w with
  | some (.int x) => x
  | _ => 0
theorem dict_of {S vs : List Wv} (z : Zp (fun w v => ∃ u, v = .tup [w, u] ∧ Wor u) S vs) (hS : ∀ w ∈ S, IsPw w) {k : Nat} {h : Hs} (e : h[k]? = some (.lst vs)) : ∃ (o : Ob) (f : Wv → Int), blt .dof [.ref k] h = .ok (.ref h.length) (h ++ [o]) ∧ Dct S f h.length (h ++ [o]) := by
  obtain ⟨ps, e1, p1, p2, p3⟩ := pairs_of z hS
  by_cases hs : S = []
  · subst hs
    have : ps = [] := List.length_eq_zero_iff.mp p3
    subst this
    refine ⟨.dic [], fun _ => 0, ?_, (fun w hw => by cases hw), .inl rfl⟩
    simp only [blt, getL, e, Option.bind_some, e1]
    rfl
  · have hp : ps.isEmpty = false := by
      cases ps with
      | nil => exact absurd (List.length_eq_zero_iff.mp p3.symm) hs
      | cons _ _ => rfl
    obtain ⟨a, b, c⟩ := merge_all (Q := Wor) ps [] p1 (fun p hp => by cases hp)
    have key : ∀ w ∈ S, ∃ x : Int, valW (mergeW [] ps) w = some (.int x) ∧ 0 ≤ x ∧ x ≤ 1000000000 := fun w hw => by
      obtain ⟨p, q1, q2⟩ := p2 w hw
      have s := c p q1
      rw [q2] at s
      obtain ⟨v, hv⟩ := Option.isSome_iff_exists.mp s
      obtain ⟨q, r1, r2⟩ := valW_mem hv
      obtain ⟨x, t1, t2⟩ := a q r1
      exact ⟨x, by rw [hv, ← r2, t1], t2⟩
    refine ⟨.dcn (mergeW [] ps), fOf (mergeW [] ps), ?_, fun w hw => ?_, .inr ⟨mergeW [] ps, get_last h _, fun w hw => ⟨keyOk_pw (hS w hw), ?_⟩⟩⟩
    · simp only [blt, getL, e, Option.bind_some, e1, hp, Bool.false_eq_true, if_false]
    · obtain ⟨x, hx, t⟩ := key w hw
      unfold fOf
      rw [hx]
      exact t
    · obtain ⟨x, hx, t⟩ := key w hw
      unfold fOf
      rw [hx]
theorem worthsO {S : List Wv} (hS : ∀ w ∈ S, IsPw w) (lS : S.length ≤ 8) (j : Nat) {h : Hs} {k a : Nat} {o : Ob} (ho : isWl o) (hk : h[k]? = some o) (ha : h[a]? = some (.lst S)) (ne : a ≠ k) :
    ∃ (o' : Ob) (D : Nat) (T : Hs) (f : Wv → Int), isWl o' ∧ C (j + 2) 50 [.ref k, .ref a] h = .ok (.ref D) (h.set k o' ++ T) ∧ Dct S f D (h.set k o' ++ T) ∧ h.length ≤ D := by
  have z2 : 2 ≤ sizeLine := by decide
  have kl := ltg hk
  have al := ltg ha
  let E : Ev := [some (.ref k), some (.ref a), none]
  have stc : ∀ o acc T, isWl o → stay (h.set k o ++ .lst acc :: T) [(a, S)] = true := fun o acc T _ => by
    have g : (h.set k o ++ Ob.lst acc :: T)[a]? = some (.lst S) := get_wl_ne ne ha o _
    simp only [stay, g, decide_true, Bool.and_self]
  obtain ⟨vs, o', T', ho', zz, hc⟩ := comp_gr (turn := fun w h2 => (Rz.of ((Tg.name 2).bind w (wipes E [2])) h2).bind fun e' h3 => (ev (Wj (j + 1)) (.tup [(.var 2), (.call 43 [(.var 0), (.sub (.lst [(.cst (.int 3)), (.bin .add (.bin .pow (.cst (.int 10)) (.cst (.int 9))) (.cst (.int 1)))]) (.call 43 [(.var 0), (.cst (.int 2))]))])]) e' h3).bind fun v h4 => (.ok (some v) h4 : Rz (Option Wv))) (ck := [(a, S)]) (k := k) (g := h) (R := fun w v => ∃ u, v = .tup [w, u] ∧ Wor u) stc S [] o [] ho (fun w hw o ho => by
      obtain ⟨v, o1, ho1, v1, v2, hd⟩ := drawO j ho (m := 2) (by decide) (by decide)
      have hx : ∃ x : Int, ([3, 1000000001] : List Int)[v.toNat]? = some x ∧ 0 < x ∧ x ≤ 1000000001 := by
        have : v = 0 ∨ v = 1 := by omega
        rcases this with r | r <;> subst r <;> exact ⟨_, rfl, by decide, by decide⟩
      obtain ⟨x, x1, x2, x3⟩ := hx
      obtain ⟨y, o2, ho2, y1, y2, hd2⟩ := drawO j ho1 (m := x) x2 (by omega)
      refine ⟨.tup [w, .int y], o2, ho2, ⟨_, rfl, y, rfl, y1, by omega⟩, fun acc T => ⟨T ++ [.lst [.int 3, .int 1000000001]], ?_⟩⟩
      have G : h.set k o ++ Ob.lst acc :: (T ++ [Ob.lst [.int 3, .int 1000000001]]) = (h.set k o ++ Ob.lst acc :: T) ++ [Ob.lst [.int 3, .int 1000000001]] := by simp
      have e1 := hd (h.set k o ++ .lst acc :: (T ++ [.lst [.int 3, .int 1000000001]])) k (get_wl kl _ _)
      rw [set_wl kl] at e1
      have e2 := hd2 (h.set k o1 ++ .lst acc :: (T ++ [.lst [.int 3, .int 1000000001]])) k (get_wl kl _ _)
      rw [set_wl kl] at e2
      simp only [C] at e1 e2
      have gl : (h.set k o1 ++ Ob.lst acc :: (T ++ [Ob.lst [.int 3, .int 1000000001]]))[(h.set k o ++ Ob.lst acc :: T).length]? = some (.lst [.int 3, .int 1000000001]) := by
        rw [show h.set k o1 ++ Ob.lst acc :: (T ++ [Ob.lst [.int 3, .int 1000000001]]) = (h.set k o1 ++ Ob.lst acc :: T) ++ [Ob.lst [.int 3, .int 1000000001]] by simp, show (h.set k o ++ Ob.lst acc :: T).length = (h.set k o1 ++ Ob.lst acc :: T).length by simp]
        exact get_last _ _
      have sx : subsc (.ref (h.set k o ++ Ob.lst acc :: T).length) (.int v) (h.set k o1 ++ .lst acc :: (T ++ [.lst [.int 3, .int 1000000001]])) = .ok (.int x) (h.set k o1 ++ .lst acc :: (T ++ [.lst [.int 3, .int 1000000001]])) := by
        obtain ⟨i, rfl⟩ := Int.eq_ofNat_of_zero_le v1
        have il : i < 2 := by omega
        have z := subsc_ref gl (i := i) (by simpa using il)
        refine z.trans ?_
        have : i = 0 ∨ i = 1 := by omega
        rcases this with r | r <;> subst r <;> (simp at x1; subst x1; rfl)
      have p9 := pow9 (h.set k o ++ .lst acc :: T)
      have el : ev (Wj (j + 1)) (.lst [(.cst (.int 3)), (.bin .add (.bin .pow (.cst (.int 10)) (.cst (.int 9))) (.cst (.int 1)))]) [some (.ref k), some (.ref a), some w] (h.set k o ++ .lst acc :: T) = .ok (.ref (h.set k o ++ Ob.lst acc :: T).length) (h.set k o ++ .lst acc :: (T ++ [.lst [.int 3, .int 1000000001]])) := by
        rw [ev, evs, ev, Rz.bind_ok, evs, ev, ev, ev, Rz.bind_ok, ev, Rz.bind_ok, p9, Rz.bind_ok, ev, Rz.bind_ok, badd, Rz.bind_ok, evs, Rz.bind_ok, Rz.bind_ok, Rz.bind_ok]
        unfold newL
        rw [if_pos (by show 2 ≤ sizeLine; decide), G]
        rfl
      have es : ev (Wj (j + 1)) (.sub (.lst [(.cst (.int 3)), (.bin .add (.bin .pow (.cst (.int 10)) (.cst (.int 9))) (.cst (.int 1)))]) (.call 43 [(.var 0), (.cst (.int 2))])) [some (.ref k), some (.ref a), some w] (h.set k o ++ .lst acc :: T) = .ok (.int x) (h.set k o1 ++ .lst acc :: (T ++ [.lst [.int 3, .int 1000000001]])) := by
        rw [ev, el, Rz.bind_ok]
        have ed : ev (Wj (j + 1)) (.call 43 [(.var 0), (.cst (.int 2))]) [some (.ref k), some (.ref a), some w] (h.set k o ++ .lst acc :: (T ++ [.lst [.int 3, .int 1000000001]])) = .ok (.int v) (h.set k o1 ++ .lst acc :: (T ++ [.lst [.int 3, .int 1000000001]])) := by
          simp only [ev, evs, List.getElem?_cons_zero, Rz.bind_ok, e1]
        rw [ed, Rz.bind_ok, sx]
      have ed2 : ev (Wj (j + 1)) (.call 43 [(.var 0), (.sub (.lst [(.cst (.int 3)), (.bin .add (.bin .pow (.cst (.int 10)) (.cst (.int 9))) (.cst (.int 1)))]) (.call 43 [(.var 0), (.cst (.int 2))]))]) [some (.ref k), some (.ref a), some w] (h.set k o ++ .lst acc :: T) = .ok (.int y) (h.set k o2 ++ .lst acc :: (T ++ [.lst [.int 3, .int 1000000001]])) := by
        have v0 : ev (Wj (j + 1)) (.var 0) [some (.ref k), some (.ref a), some w] (h.set k o ++ .lst acc :: T) = .ok (.ref k) (h.set k o ++ .lst acc :: T) := by simp only [ev, List.getElem?_cons_zero]
        rw [ev, evs, v0, Rz.bind_ok, evs, es, Rz.bind_ok, evs, Rz.bind_ok, Rz.bind_ok, Rz.bind_ok]
        exact e2
      have v2' : ev (Wj (j + 1)) (.var 2) [some (.ref k), some (.ref a), some w] (h.set k o ++ .lst acc :: T) = .ok w (h.set k o ++ .lst acc :: T) := by simp only [ev, List.getElem?_cons_succ, List.getElem?_cons_zero]
      show ((Rz.of ((Tg.name 2).bind w (wipes E [2])) (h.set k o ++ .lst acc :: T)).bind _) = _
      have tb : (Tg.name 2).bind w (wipes E [2]) = some [some (.ref k), some (.ref a), some w] := rfl
      rw [tb, Rz.of_some, Rz.bind_ok, ev, evs, v2', Rz.bind_ok, evs, ed2, Rz.bind_ok, evs, Rz.bind_ok, Rz.bind_ok, Rz.bind_ok, if_pos (by show 2 ≤ sizeLine; decide), Rz.bind_ok]) (by rw [List.length_nil, sizeLine_eq]; omega)
  rw [List.nil_append] at hc
  have h0 : h.set k o = h := set_same hk
  rw [h0] at hc
  have gv : (h.set k o' ++ .lst vs :: T')[h.length]? = some (.lst vs) := get_end h k o' _ _
  obtain ⟨od, f, eb, dc⟩ := dict_of zz hS gv
  refine ⟨o', (h.set k o' ++ .lst vs :: T').length, .lst vs :: T' ++ [od], f, ho', ?_, ?_, ?_⟩
  · rw [C, run_open db50 rfl rfl]
    have q0 : ex (Wj (j + 1)) s50_0 E h = .ok (.ret (.ref (h.set k o' ++ .lst vs :: T').length)) (h.set k o' ++ (.lst vs :: T' ++ [od])) := by
      have ec : ev (Wj (j + 1)) c50_0 E h = .ok (.ref h.length) (h.set k o' ++ .lst vs :: T') := by
        rw [c50_0, ev]
        have ei : evi (Wj (j + 1)) (.seq (.var 1)) E h = .ok (S, [(a, S)]) h := by
          simp only [evi, ev, E, List.getElem?_cons_succ, List.getElem?_cons_zero, Rz.bind_ok, srcOf, getL, ha, Option.map_some, Rz.of_some]
        rw [ei, Rz.bind_ok]
        exact hc
      rw [s50_0, ex, ev, evs, ec, Rz.bind_ok, evs, Rz.bind_ok, Rz.bind_ok, eb, Rz.bind_ok, List.append_assoc]
    show bodyEnd (exs (Wj (j + 1)) [s50_0] E h) = _
    rw [exs_ret q0]
    rfl
  · rw [← List.append_assoc]; exact dc
  · simp
end SL

set_option maxRecDepth 100000
set_option maxHeartbeats 2000000
/-! Values of terms: what is right. -/
namespace SL
open PySem
set_option autoImplicit false
theorem intTy (h : Hs) (i : Int) : Ty.has h (.int i) .int = some true := by simp [Ty.has, tyOf, Ty.name]
theorem intTyb (h : Hs) (i : Int) : Ty.has h (.int i) .bool = some false := by simp [Ty.has, tyOf, Ty.name]
theorem rightO {S : List Wv} {f : Wv → Int} {D : Nat} {h : Hs} (tb : h[0]? = some (.tab 0)) (dc : Dct S f D h) (t : Tm) (j : Nat) (hj : hgt t ≤ j) (h12 : hgt t ≤ 12) (am : Amid S t) (fi : Fine t) : callD pg.D pg.glo pg.cls pg.fld pg.turns (j + 2) 52 [encO t, encT t, .ref D] h = .ok (.bl true) h := by
  rw [run_end db52 rfl]
  have q0 : ex (Wj (j + 1)) s52_0 [some (encO t), some (encT t), some (.ref D), none] h = .ok (.nx [some (encO t), some (encT t), some (.ref D), some (.int (val f t))]) h := by
    have z := vbO (S := S) (f := f) (kf := h.length) (h := h ++ [.fn D]) ⟨D, get_last h _, (dc.app [.fn D]).sub⟩ dc.cap t j hj h12 am fi
    have e0 : ev (Wj (j + 1)) (.var 0) [some (encO t), some (encT t), some (.ref D), none] h = .ok (.ins (cO t) (fO t)) h := by
      rw [← encO_eq]; simp [ev]
    have c := cold_end (h := h) (w := .int (val f t)) rfl [.fn D]
    have e : ev (Wj (j + 1)) (.methL (.var 0) 1 [] 2 0) [some (encO t), some (encT t), some (.ref D), none] h = .ok (.int (val f t)) h := by
      rw [ev, e0, Rz.bind_ok]
      simp only [getI, m_val, no_val, evs, Rz.bind_ok, List.getElem?_cons_succ, List.getElem?_cons_zero, tb, if_true, List.nil_append]
      rw [← encO_eq, z]
      exact c
    rw [s52_0, ex, e]
    rfl
  have q1 : ex (Wj (j + 1)) s52_1 [some (encO t), some (encT t), some (.ref D), some (.int (val f t))] h = .ok (.nx [some (encO t), some (encT t), some (.ref D), some (.int (val f t))]) h := by
    rw [s52_1]
    refine ifs_no ?_
    have t1 : tst (Wj (j + 1)) (.isi (.var 3) [.int]) [some (encO t), some (encT t), some (.ref D), some (.int (val f t))] h = .ok true h := by
      rw [tst_isi, isi_eq]
      simp [ev, intTy, truth]
    have t2 : tst (Wj (j + 1)) (.isi (.var 3) [.bool]) [some (encO t), some (encT t), some (.ref D), some (.int (val f t))] h = .ok false h := by
      rw [tst_isi, isi_eq]
      simp [ev, intTyb, truth]
    rw [tst_or, tst_not, t1, Rz.bind_ok, Rz.bind_ok, if_neg (by decide), t2]
  have q2 : ex (Wj (j + 1)) s52_2 [some (encO t), some (encT t), some (.ref D), some (.int (val f t))] h = .ok (.ret (.bl true)) h := by
    have z := lvO dc.sub dc.cap t j hj h12 am fi
    have e : ev (Wj (j + 1)) (.call 49 [(.var 1), (.var 2)]) [some (encO t), some (encT t), some (.ref D), some (.int (val f t))] h = .ok (.int (val f t)) h := by
      simp [ev, evs, z]
    have v3 : ev (Wj (j + 1)) (.var 3) [some (encO t), some (encT t), some (.ref D), some (.int (val f t))] h = .ok (.int (val f t)) h := by simp [ev]
    rw [s52_2, ex, cmp_eq, v3, Rz.bind_ok, e]
    simp [cmpop, Cm.run, eq_int]
  have key : bodyEnd (exs (Wj (j + 1)) [s52_0, s52_1, s52_2] [some (encO t), some (encT t), some (.ref D), none] h) = .ok (.bl true) h := by
    rw [exs_nx q0, exs_nx q1, exs_ret q2]
    rfl
  refine (congrArg (fun r => Rz.bind r fun w h1 => ended .cold h.length h w h1) key).trans ?_
  rw [Rz.bind_ok]
  have z := cold_end (h := h) (w := .bl true) rfl []
  rw [List.append_nil] at z
  exact z
end SL

set_option maxRecDepth 100000
set_option maxHeartbeats 2000000
/-! Values of terms: the law. -/
namespace SL
open PySem
set_option autoImplicit false
theorem plain (ns : List Int) (hn : ns.length ≤ 63) : ∃ h', callD pg.D pg.glo pg.cls pg.fld pg.turns 20 53 [.lst (ns.map Wv.int)] pg.tabs = .ok (.bl true) h' := by
  rw [run_open db53 rfl rfl]
  have z2 : 2 ≤ sizeLine := by decide
  have z1 : 1 ≤ sizeLine := by decide
  have z3 : 3 ≤ sizeLine := by decide
  have z5 : 5 ≤ sizeLine := by decide
  have tb : pg.tabs = [.tab 0] := by kernel_rfl
  rw [tb]
  generalize hX : (some (.lst (ns.map Wv.int)) : Option Wv) = X
  obtain ⟨a, b, hw⟩ := well 17 ns 0
  have w0 : isWl (.lst [.int a, .int b, .int 0]) := ⟨_, _, _, rfl⟩
  have q0 : ex (Wj 19) s53_0 [X, none, none, none, none, none, none] [.tab 0] = .ok (.nx [X, some (.ref 1), none, none, none, none, none]) [.tab 0, .lst [.int a, .int b, .int 0]] := by
    subst hX
    have hw := hw [.tab 0]
    simp only [C] at hw
    simp [s53_0, List.getElem?_cons_zero, List.getElem?_cons_succ, List.set_cons_zero, List.set_cons_succ, List.length_cons, List.length_nil, exs, ex, ev, evs, evo, evi, tst_cmp, tst_chn, tst_isi, tst_call, tst_meth, tst_blt, tst_var, tst_not, tst_and, tst_or, start, bodyEnd, store, Tg.bind, binds, Rz.bind_ok, Rz.bind_bad, Rz.bind_exc, Rz.of, truth, cmpop, Cm.run, subsc, getS, getL, blt, isL, lmop]
    simp at hw
    simp [hw]
  generalize (Ob.lst [.int a, .int b, .int 0]) = o0 at q0 w0
  obtain ⟨u, o1, ho1, u1, u2, hu⟩ := drawO 18 w0 (m := 3) (by decide) (by decide)
  have hu := hu [.tab 0, o0] 1 rfl
  obtain ⟨S, o2, ho2, hG, lS, e2⟩ := someO 16 ho1 (m := 1 + u) (by omega) (by omega)
  have hS : ∀ w ∈ S, IsPw w := fun w hw => (hG w hw).is
  have e2 := e2 [.tab 0, o1] 1 rfl
  simp only [C] at hu e2
  have q1 : ex (Wj 19) s53_1 [X, some (.ref 1), none, none, none, none, none] [.tab 0, o0] = .ok (.nx [X, some (.ref 1), some (.ref 2), none, none, none, none]) [.tab 0, o2, .lst S] := by
    simp [s53_1, List.getElem?_cons_zero, List.getElem?_cons_succ, List.set_cons_zero, List.set_cons_succ, List.length_cons, List.length_nil, exs, ex, ev, evs, evo, evi, tst_cmp, tst_chn, tst_isi, tst_call, tst_meth, tst_blt, tst_var, tst_not, tst_and, tst_or, start, bodyEnd, store, Tg.bind, binds, Rz.bind_ok, Rz.bind_bad, Rz.bind_exc, Rz.of, truth, cmpop, Cm.run, subsc, getS, getL, blt, isL, lmop, hu, badd, e2]
  obtain ⟨t0, o3, ho3, ⟨at0, fi0⟩, hh0, e3⟩ := toldO hS (by omega) 13 3 o2 ho2
  have e3 := e3 [.tab 0, o2, .lst S] 1 2 rfl rfl (by decide)
  simp only [C] at e3
  have q2 : ex (Wj 19) s53_2 [X, some (.ref 1), some (.ref 2), none, none, none, none] [.tab 0, o2, .lst S] = .ok (.nx [X, some (.ref 1), some (.ref 2), some (encT t0), none, none, none]) [.tab 0, o3, .lst S] := by
    have e3' : callD pg.D pg.glo pg.cls pg.fld pg.turns 19 47 [.ref 1, .ref 2, .int 3] [.tab 0, o2, .lst S] = .ok (encT t0) [.tab 0, o3, .lst S] := e3
    simp [s53_2, List.getElem?_cons_zero, List.getElem?_cons_succ, List.set_cons_zero, List.set_cons_succ, List.length_cons, List.length_nil, exs, ex, ev.eq_1, ev.eq_2, ev.eq_3, ev.eq_4, ev.eq_5, ev.eq_6, ev.eq_7, ev.eq_8, ev.eq_9, ev.eq_10, ev.eq_11, ev.eq_12, ev.eq_13, ev.eq_14, ev.eq_15, ev.eq_16, ev.eq_17, ev.eq_18, ev.eq_19, ev.eq_21, ev.eq_22, ev.eq_23, ev.eq_24, evs, evo, evi, tst_cmp, tst_chn, tst_isi, tst_call, tst_meth, tst_blt, tst_var, tst_not, tst_and, tst_or, start, bodyEnd, store, Tg.bind, binds, Rz.bind_ok, Rz.bind_bad, Rz.bind_exc, Rz.of, truth, cmpop, Cm.run, getS, getL, blt, isL, lmop, e3']
  have step3 : ∃ (t : Tm) (o : Ob) (T : Hs), isWl o ∧ Amid S t ∧ Fine t ∧ hgt t ≤ 4 ∧
      ex (Wj 19) s53_3 [X, some (.ref 1), some (.ref 2), some (encT t0), none, none, none] [.tab 0, o3, .lst S] = .ok (.nx [X, some (.ref 1), some (.ref 2), some (encT t), none, none, none]) (.tab 0 :: o :: .lst S :: T) := by
    obtain ⟨v, o4, ho4, v1, v2, hv⟩ := drawO 18 ho3 (m := 3) (by decide) (by decide)
    have hv := hv [.tab 0, o3, .lst S] 1 rfl
    simp only [C] at hv
    by_cases c : v = 0
    · obtain ⟨r, o5, ho5, r1, r2, hr⟩ := drawO 18 ho4 (m := 5) (by decide) (by decide)
      obtain ⟨t2, o6, ho6, ⟨at2, fi2⟩, hh2, e6⟩ := toldO hS (by omega) 15 1 o5 ho5
      let L : Ob := .lst [.str (Str.ofString "+"), .str (Str.ofString "-"), .str (Str.ofString "*"), .str (Str.ofString "min"), .str (Str.ofString "max")]
      have hr := hr [.tab 0, o4, .lst S, L] 1 rfl
      have e6 := e6 [.tab 0, o5, .lst S, L] 1 2 rfl rfl (by decide)
      simp only [C] at hr e6
      have e6' : callD pg.D pg.glo pg.cls pg.fld pg.turns 19 47 [.ref 1, .ref 2, .int 1] [.tab 0, o5, .lst S, L] = .ok (encT t2) [.tab 0, o6, .lst S, L] := e6
      have hr' : callD pg.D pg.glo pg.cls pg.fld pg.turns 19 43 [.ref 1, .int 5] [.tab 0, o4, .lst S, L] = .ok (.int r) [.tab 0, o5, .lst S, L] := hr
      have T : tst (Wj 19) (.cmp .eq (.call 43 [(.var 1), (.cst (.int 3))]) (.cst (.int 0))) [X, some (.ref 1), some (.ref 2), some (encT t0), none, none, none] [.tab 0, o3, .lst S] = .ok true [.tab 0, o4, .lst S] := by
        simp [List.getElem?_cons_zero, List.getElem?_cons_succ, List.set_cons_zero, List.set_cons_succ, List.length_cons, List.length_nil, exs, ex, ev, evs, evo, evi, tst_cmp, tst_chn, tst_isi, tst_call, tst_meth, tst_blt, tst_var, tst_not, tst_and, tst_or, start, bodyEnd, store, Tg.bind, binds, Rz.bind_ok, Rz.bind_bad, Rz.bind_exc, Rz.of, truth, cmpop, Cm.run, subsc, getS, getL, blt, isL, lmop, hv, eq_int, c]
      have sb : subsc (.ref 3) (.int r) [.tab 0, o5, .lst S, L] = .ok (.str (opS r.toNat)) [.tab 0, o5, .lst S, L] := by
        have : r = 0 ∨ r = 1 ∨ r = 2 ∨ r = 3 ∨ r = 4 := by omega
        rcases this with e | e | e | e | e <;> subst e <;> rfl
      refine ⟨.op r.toNat t0 t2, o6, [L], ho6, ⟨at0, at2⟩, ⟨fi0, fi2⟩, by rw [hgt]; omega, ?_⟩
      rw [s53_3, ifs_yes T]
      have el : ev (Wj 19) (.lst [(.cst (.str (Str.ofString "+"))), (.cst (.str (Str.ofString "-"))), (.cst (.str (Str.ofString "*"))), (.cst (.str (Str.ofString "min"))), (.cst (.str (Str.ofString "max")))]) [X, some (.ref 1), some (.ref 2), some (encT t0), none, none, none] [.tab 0, o4, .lst S] = .ok (.ref 3) [.tab 0, o4, .lst S, L] := by
        simp [ev, evs, newL, z5, L]
      have ed : ev (Wj 19) (.call 43 [(.var 1), (.cst (.int 5))]) [X, some (.ref 1), some (.ref 2), some (encT t0), none, none, none] [.tab 0, o4, .lst S, L] = .ok (.int r) [.tab 0, o5, .lst S, L] := by
        simp [ev, evs, hr']
      have et : ev (Wj 19) (.call 47 [(.var 1), (.var 2), (.cst (.int 1))]) [X, some (.ref 1), some (.ref 2), some (encT t0), none, none, none] [.tab 0, o5, .lst S, L] = .ok (encT t2) [.tab 0, o6, .lst S, L] := by
        simp [ev, evs, e6']
      have v3 : ev (Wj 19) (.var 3) [X, some (.ref 1), some (.ref 2), some (encT t0), none, none, none] [.tab 0, o5, .lst S, L] = .ok (encT t0) [.tab 0, o5, .lst S, L] := by
        simp [ev]
      rw [exs, ex, ev, evs, ev, el, Rz.bind_ok, ed, Rz.bind_ok, sb, Rz.bind_ok, evs, v3, Rz.bind_ok, evs, et, Rz.bind_ok, evs, Rz.bind_ok, Rz.bind_ok, Rz.bind_ok, Rz.bind_ok, if_pos (by show 3 ≤ sizeLine; decide), Rz.bind_ok]
      rfl
    · refine ⟨t0, o4, [], ho4, at0, fi0, by omega, ?_⟩
      have T : tst (Wj 19) (.cmp .eq (.call 43 [(.var 1), (.cst (.int 3))]) (.cst (.int 0))) [X, some (.ref 1), some (.ref 2), some (encT t0), none, none, none] [.tab 0, o3, .lst S] = .ok false [.tab 0, o4, .lst S] := by
        simp [List.getElem?_cons_zero, List.getElem?_cons_succ, List.set_cons_zero, List.set_cons_succ, List.length_cons, List.length_nil, exs, ex, ev, evs, evo, evi, tst_cmp, tst_chn, tst_isi, tst_call, tst_meth, tst_blt, tst_var, tst_not, tst_and, tst_or, start, bodyEnd, store, Tg.bind, binds, Rz.bind_ok, Rz.bind_bad, Rz.bind_exc, Rz.of, truth, cmpop, Cm.run, subsc, getS, getL, blt, isL, lmop, hv, eq_int, c]
      rw [s53_3, ifs_no T]
  obtain ⟨t, o4, T4, ho4, am, fi, ht, q3⟩ := step3
  have g0 : (Ob.tab 0 :: o4 :: .lst S :: T4)[0]? = some (.tab 0) := rfl
  have g2 : (Ob.tab 0 :: o4 :: .lst S :: T4)[2]? = some (.lst S) := rfl
  have lg : 2 < (Ob.tab 0 :: o4 :: .lst S :: T4).length := by simp
  generalize (Ob.tab 0 :: o4 :: .lst S :: T4) = H at q3 g0 g2 lg
  have e4 := madeO t 17 (by omega) H
  simp only [C] at e4
  have q4 : ex (Wj 19) s53_4 [X, some (.ref 1), some (.ref 2), some (encT t), none, none, none] H = .ok (.nx [X, some (.ref 1), some (.ref 2), some (encT t), some (encO t), none, none]) H := by
    simp [s53_4, List.getElem?_cons_zero, List.getElem?_cons_succ, List.set_cons_zero, List.set_cons_succ, List.length_cons, List.length_nil, exs, ex, ev.eq_1, ev.eq_2, ev.eq_3, ev.eq_4, ev.eq_5, ev.eq_6, ev.eq_7, ev.eq_8, ev.eq_9, ev.eq_10, ev.eq_11, ev.eq_12, ev.eq_13, ev.eq_14, ev.eq_15, ev.eq_16, ev.eq_17, ev.eq_18, ev.eq_19, ev.eq_21, ev.eq_22, ev.eq_23, ev.eq_24, evs, evo, evi, tst_cmp, tst_chn, tst_isi, tst_call, tst_meth, tst_blt, tst_var, tst_not, tst_and, tst_or, start, bodyEnd, store, Tg.bind, binds, Rz.bind_ok, Rz.bind_bad, Rz.bind_exc, Rz.of, truth, cmpop, Cm.run, getS, getL, blt, isL, lmop, e4]
  have fl : ∀ (E : Ev) (h : Hs), E[4]? = some (some (encO t)) → E[3]? = some (some (encT t)) → ev (Wj 19) (.call 51 [(.var 4), (.var 3)]) E h = .ok (.bl true) h := fun E h h4 h3 => by
    have z := fldO t 18 (by omega) h
    simp only [ev, evs, h4, h3, Rz.bind_ok, z]
  have q5 : ex (Wj 19) s53_5 [X, some (.ref 1), some (.ref 2), some (encT t), some (encO t), none, none] H = .ok (.nx [X, some (.ref 1), some (.ref 2), some (encT t), some (encO t), none, none]) H := by
    rw [s53_5]
    refine ifs_no ?_
    have ic : ∀ t : Tm, ([0, 1, 2, 3, 4, 5, 6, 7, 8, 9, 10] : List Nat).contains (cO t) = true := fun t => match t with
      | .num _ => rfl
      | .take _ _ => rfl
      | .rest _ _ => rfl
      | .cho _ _ _ => rfl
      | .op 0 _ _ => rfl
      | .op 1 _ _ => rfl
      | .op 2 _ _ => rfl
      | .op 3 _ _ => rfl
      | .op (_ + 4) _ _ => rfl
    have i1 := isc_yes (P := Wj 19) (a := .var 4) (t := t) (yes := [0, 1, 2, 3, 4, 5, 6, 7, 8, 9, 10]) (no := []) (e := [X, some (.ref 1), some (.ref 2), some (encT t), some (encO t), none, none]) (h := H) (by simp [ev]) (ic t)
    rw [tst_or, tst_not, tst_plain rfl, i1]
    simp only [Rz.bind_ok, truth, Rz.of_some, Bool.not_true, Bool.false_eq_true, if_false]
    rw [tst_not, tst_call, fl _ _ rfl rfl]
    simp [truth]
  obtain ⟨a', b', hw'⟩ := well 17 ns 1
  have hw' := hw' H
  have w1 : isWl (.lst [.int a', .int b', .int 0]) := ⟨_, _, _, rfl⟩
  generalize (Ob.lst [.int a', .int b', .int 0]) = o5 at hw' w1
  simp only [C] at hw'
  have q6 : ex (Wj 19) s53_6 [X, some (.ref 1), some (.ref 2), some (encT t), some (encO t), none, none] H = .ok (.nx [X, some (.ref H.length), some (.ref 2), some (encT t), some (encO t), none, none]) (H ++ [o5]) := by
    subst hX
    have hw2 : callD pg.D pg.glo pg.cls pg.fld pg.turns 19 42 [.lst (ns.map Wv.int), .int 1] H = .ok (.ref H.length) (H ++ [o5]) := hw'
    simp [s53_6, List.getElem?_cons_zero, List.getElem?_cons_succ, List.set_cons_zero, List.set_cons_succ, List.length_cons, List.length_nil, exs, ex, ev.eq_1, ev.eq_2, ev.eq_3, ev.eq_4, ev.eq_5, ev.eq_6, ev.eq_7, ev.eq_8, ev.eq_9, ev.eq_10, ev.eq_11, ev.eq_12, ev.eq_13, ev.eq_14, ev.eq_15, ev.eq_16, ev.eq_17, ev.eq_18, ev.eq_19, ev.eq_21, ev.eq_22, ev.eq_23, ev.eq_24, evs, evo, evi, tst_cmp, tst_chn, tst_isi, tst_call, tst_meth, tst_blt, tst_var, tst_not, tst_and, tst_or, start, bodyEnd, store, Tg.bind, binds, Rz.bind_ok, Rz.bind_bad, Rz.bind_exc, Rz.of, truth, cmpop, Cm.run, getS, getL, blt, isL, lmop, hw2]
  have k5 : (H ++ [o5])[H.length]? = some o5 := get_last H _
  have g5 : (H ++ [o5])[0]? = some (.tab 0) := get_app g0 _
  have s5 : (H ++ [o5])[2]? = some (.lst S) := get_app g2 _
  have n5 : 2 ≠ H.length := by omega
  have m5 : 0 ≠ H.length := by omega
  generalize H.length = k at q6 k5 n5 m5
  generalize H ++ [o5] = H5 at q6 k5 g5 s5
  obtain ⟨o6, D1, T6, f1, ho6, e6, d1, l1⟩ := worthsO hS (by omega) 17 w1 k5 s5 n5
  simp only [C] at e6
  have q7 : ex (Wj 19) s53_7 [X, some (.ref k), some (.ref 2), some (encT t), some (encO t), none, none] H5 = .ok (.nx [X, some (.ref k), some (.ref 2), some (encT t), some (encO t), some (.ref D1), none]) (H5.set k o6 ++ T6) := by
    simp [s53_7, List.getElem?_cons_zero, List.getElem?_cons_succ, List.set_cons_zero, List.set_cons_succ, List.length_cons, List.length_nil, exs, ex, ev.eq_1, ev.eq_2, ev.eq_3, ev.eq_4, ev.eq_5, ev.eq_6, ev.eq_7, ev.eq_8, ev.eq_9, ev.eq_10, ev.eq_11, ev.eq_12, ev.eq_13, ev.eq_14, ev.eq_15, ev.eq_16, ev.eq_17, ev.eq_18, ev.eq_19, ev.eq_21, ev.eq_22, ev.eq_23, ev.eq_24, evs, evo, evi, tst_cmp, tst_chn, tst_isi, tst_call, tst_meth, tst_blt, tst_var, tst_not, tst_and, tst_or, start, bodyEnd, store, Tg.bind, binds, Rz.bind_ok, Rz.bind_bad, Rz.bind_exc, Rz.of, truth, cmpop, Cm.run, getS, getL, blt, isL, lmop, e6]
  have k6 : (H5.set k o6 ++ T6)[k]? = some o6 := get_app (get_set k5) _
  have g6 : (H5.set k o6 ++ T6)[0]? = some (.tab 0) := get_app (get_ne g5 m5 _) _
  have s6 : (H5.set k o6 ++ T6)[2]? = some (.lst S) := get_app (get_ne s5 n5 _) _
  have kd : D1 ≠ k := by
    have := ltg k5
    omega
  generalize H5.set k o6 ++ T6 = H6 at q7 k6 g6 s6 d1
  obtain ⟨o7, D2, T7, f2, ho7, e7, d2, l2⟩ := worthsO hS (by omega) 17 ho6 k6 s6 n5
  simp only [C] at e7
  have d1' : Dct S f1 D1 (H6.set k o7 ++ T7) := (d1.set kd _).app _
  have g7 : (H6.set k o7 ++ T7)[0]? = some (.tab 0) := get_app (get_ne g6 m5 _) _
  generalize H6.set k o7 ++ T7 = H7 at e7 d1' d2 g7
  let E8 : Ev := [X, some (.ref k), some (.ref 2), some (encT t), some (encO t), some (.ref D1), none]
  have q8 : ex (Wj 19) s53_8 E8 H6 = .ok (.nx [X, some (.ref k), some (.ref 2), some (encT t), some (encO t), some (.ref D1), some (.ref D1)]) (H7 ++ [.lst [.ref D1, .ref D2, .ref D1]]) := by
    have gl : (H7 ++ [Ob.lst [.ref D1, .ref D2, .ref D1]])[H7.length]? = some (.lst [.ref D1, .ref D2, .ref D1]) := get_last H7 _
    have ew : ev (Wj 19) (.call 50 [(.var 1), (.var 2)]) E8 H6 = .ok (.ref D2) H7 := by
      simp [ev, evs, E8, e7]
    have ei : evi (Wj 19) (.seq (.lst [(.var 5), (.call 50 [(.var 1), (.var 2)]), (.var 5)])) E8 H6 = .ok ([.ref D1, .ref D2, .ref D1], [(H7.length, [.ref D1, .ref D2, .ref D1])]) (H7 ++ [.lst [.ref D1, .ref D2, .ref D1]]) := by
      have v5 : ∀ G, ev (Wj 19) (.var 5) E8 G = .ok (.ref D1) G := fun G => by simp [ev, E8]
      rw [evi, ev, evs, v5, Rz.bind_ok, evs, ew, Rz.bind_ok, evs, v5, Rz.bind_ok, evs, Rz.bind_ok, Rz.bind_ok, Rz.bind_ok, Rz.bind_ok]
      simp [newL, z3, srcOf, getL]
    have dA := d1'.app [.lst [.ref D1, .ref D2, .ref D1]]
    have dB := d2.app [.lst [.ref D1, .ref D2, .ref D1]]
    have gA : (H7 ++ [Ob.lst [.ref D1, .ref D2, .ref D1]])[0]? = some (.tab 0) := get_app g7 _
    generalize H7 ++ [Ob.lst [.ref D1, .ref D2, .ref D1]] = H8 at gl ei dA dB gA
    have st : stay H8 [(H7.length, [.ref D1, .ref D2, .ref D1])] = true := by simp [stay, gl]
    have bd : ∀ (f : Wv → Int) (D : Nat), Dct S f D H8 → exs (Wj 19) l53_0 [X, some (.ref k), some (.ref 2), some (encT t), some (encO t), some (.ref D1), some (.ref D)] H8 = .ok (.nx [X, some (.ref k), some (.ref 2), some (encT t), some (encO t), some (.ref D1), some (.ref D)]) H8 := fun f D dc => by
      have z := rightO gA dc t 17 (by omega) (by omega) am fi
      rw [l53_0, exs_nx (ifs_no ?_), exs]
      rw [tst_not, tst_call]
      simp [ev, evs, z, truth]
    rw [s53_8, ex, ei, Rz.bind_ok]
    rw [forL_nx st rfl (bd _ _ dA), forL_nx st rfl (bd _ _ dB), forL_nx st rfl (bd _ _ dA), forL, if_pos st]
  have q9 : ex (Wj 19) s53_9 [X, some (.ref k), some (.ref 2), some (encT t), some (encO t), some (.ref D1), some (.ref D1)] (H7 ++ [.lst [.ref D1, .ref D2, .ref D1]]) = .ok (.ret (.bl true)) (H7 ++ [.lst [.ref D1, .ref D2, .ref D1]]) := by
    rw [s53_9, ex, fl _ _ rfl rfl]
    rfl
  refine ⟨H7 ++ [.lst [.ref D1, .ref D2, .ref D1]], ?_⟩
  subst hX
  show bodyEnd (exs (Wj 19) [s53_0, s53_1, s53_2, s53_3, s53_4, s53_5, s53_6, s53_7, s53_8, s53_9] [some (.lst (ns.map Wv.int)), none, none, none, none, none, none] [.tab 0]) = _
  rw [exs_nx q0, exs_nx q1, exs_nx q2, exs_nx q3, exs_nx q4, exs_nx q5, exs_nx q6, exs_nx q7, exs_nx q8, exs_ret q9]
  rfl
end SL

set_option maxRecDepth 100000
set_option maxHeartbeats 0
open PySem PySem.W PySem.Calls PyProof.Rows
theorem PySem.Challenge.cw_slanttiles_k11_values_of_terms_holds : PySem.Challenge.rw_slanttiles_k11_values_of_terms.Holds := by
  w_on; o_law
  refine HandSHeadRun.head_any (r := OpenLaw.row PySem.Challenge.rw_slanttiles_k11_values_of_terms) (q := view (OpenLaw.row PySem.Challenge.rw_slanttiles_k11_values_of_terms).prog [26]) (H := SL.hk) (ob := SL.ob) (M := 12000) (loose := SL.loose) (d := HandSHeadRun.topDef (OpenLaw.row PySem.Challenge.rw_slanttiles_k11_values_of_terms).prog 26) (kwd := []) SL.ob_eq
    (by kernel_rfl) (fun s => by kernel_rfl) SL.run (by kernel_rfl) (by kernel_rfl) (by kernel_rfl) (by rfl) (by first | assumption | decide +kernel) (by decide +kernel) ⟨rfl, rfl, rfl, rfl, rfl, by decide +kernel⟩ ?hw ?hc
  case hw => w_witness2
  case hc => exact SL.walk_law (x := PySem.Str.ofString "_law_script") SL.pg SL.pgOk 5 53 SL.d53 20 (by kernel_rfl) (by kernel_rfl) (by kernel_rfl) rfl (by kernel_rfl) ⟨rfl, by decide, by decide⟩ SL.plain

