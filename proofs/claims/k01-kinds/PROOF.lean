import PyProof.Rows.All
import Wide.All
import OpenK.AllK
import Wide.FinOn
import HandS.TupSets
import KE.KeyNested
import KE.KDictKeyed
import HandS.SortOrd
import HandS.ForMost
import HandS.ForExc
import HandS.Flow
import HandS.Deep
import HandS.Lambda
import HandS.Star
import HandS.IsInst
import HandS.TupAny
import HandS.TupMul
import HandS.Conv
import HandS.SetFor
import HandS.Steps
import HandS.Text
import KE.KRevSl
import HandS.Zip
import HandS.Defaults
import KE.KExcSuper
import KE.KSuper
import HandS.ExcInit
import HandS.Style
import HandS.Small
import KE.KExcIs
import HandS.ExcIs
import HandS.ExcField
import HandS.HotCalls
import HandS.EndTab
import HandS.HeadHook4
import HandS.Head0
import HandS.Head1
import HandS.Head2
import KE.KIntText
import PySem.Challenge.RW_roomsback_k01_kinds_told
import KE.KStateDown
set_option Elab.async false
set_option linter.all false
set_option maxRecDepth 100000
set_option maxHeartbeats 8000000
set_option autoImplicit false
/-! RS1: sets of nested tuples (of texts, numbers, None): a search, one put in. -/
namespace RB
open PySem PySem.Spec PyProof.Rows L2
abbrev NK := NestedKey
/-- the tuple at a is the key k -/
abbrev KAt (h : Heap) (k : NK) (a : Addr) : Prop := NestedIs h k (.ref a) ∧ k.depth ≤ 8
section
variable {P : Program} {w : World}
/-! ### of no class statement; by value or not -/
def NoCls (P : Program) (w : World) (n : Nat) (s : Shared) (v : Value) : Prop := ∀ (A : Around) (E : Value → Shared → Prop) (Q : Bool → Shared → Prop), Q false s → wpAny (model P w) A (ofAClassStatement n v) Q E s
theorem NoCls.tup {n : Nat} {s : Shared} {a : Addr} {o : Obj} {vs : Array Value} {m : Nat} (ho : s.heap.get? a = some o) (hc : o.cls = .type "tuple") (hd : o.data = .seq vs m) (hv : ∀ v ∈ vs.toList, NoCls P w n s v) : NoCls P w (n + 1) s (.ref a) := by
  intro A E Q hq
  unfold ofAClassStatement
  refine wpAny_bind (wpAny_typeOf (show s.TypeIs (.ref a) "tuple" from ⟨o, ho, hc⟩) ?_)
  have tt : (("tuple" : String) == "tuple") = true := by decide
  simp only [tt, if_true, Bool.not_true, Bool.false_eq_true, if_false]
  try refine wpAny_bind (wpAny_pure ?_)
  try simp only [Bool.not_true, Bool.false_eq_true, if_false]
  refine wpAny_bind (m := seqItems? (.ref a)) (wpAny_seqItems ho hd ?_)
  refine wpAny_bind (m := forIn vs _ _) ?_
  rw [← Array.forIn_toList]
  refine wpAny_forIn_list _ (fun left r z => (r.1 = none ∧ z = s) ∧ ∀ v ∈ left, NoCls P w n s v) _ ?_ ?_ _ _ ⟨⟨rfl, rfl⟩, hv⟩
  · rintro v left r z ⟨⟨_, rfl⟩, hall⟩
    refine wpAny_bind (hall v List.mem_cons_self _ _ _ ?_)
    simp only [Bool.false_eq_true, if_false]
    exact wpAny_pure ⟨⟨rfl, rfl⟩, fun u hu => hall u (List.mem_cons_of_mem _ hu)⟩
  · rintro ⟨r1, r2⟩ z ⟨⟨e, rfl⟩, _⟩
    have e' : r1 = none := e
    subst e'
    exact wpAny_pure hq
theorem noCls_val {n : Nat} {s : Shared} {v : Value} (h : ∀ a, v ≠ .ref a) : NoCls P w n s v := fun A E Q hq => by
  cases v with
  | ref a => exact absurd rfl (h a)
  | _ => cases n <;> exact wpAny_pure hq
mutual
theorem noCls_key : ∀ (k : NK) (v : Value) (n : Nat) (s : Shared), NestedIs s.heap k v → k.depth ≤ n → NoCls P w n s v
  | .none, _, n, s, x, _ => by cases x; exact noCls_val fun _ => nofun
  | .num i, _, n, s, x, _ => by cases x <;> exact noCls_val fun _ => nofun
  | .text y, _, n, s, x, _ => by cases x; exact noCls_val fun _ => nofun
  | .tup ks, _, n, s, x, hn => by
    cases x with
    | tup hg hc hd hk =>
      rw [NestedKey.depth] at hn
      match n, hn with
      | m + 1, hn => exact .tup hg hc hd (noCls_keys ks _ m s hk (by omega))
theorem noCls_keys : ∀ (ks : List NK) (vs : List Value) (n : Nat) (s : Shared), NestedAll s.heap ks vs → NestedKey.depthAll ks ≤ n → ∀ v ∈ vs, NoCls P w n s v
  | [], _, n, s, x, _, v, hv => by cases x; cases hv
  | k :: ks, _, n, s, x, hn, v, hv => by
    cases x with
    | cons x1 x2 =>
      rw [NestedKey.depthAll] at hn
      rcases List.mem_cons.mp hv with e | hv
      · rw [e]; exact noCls_key k _ n s x1 (by omega)
      · exact noCls_keys ks _ n s x2 (by omega) v hv
end
def HashV (P : Program) (w : World) (n : Nat) (s : Shared) (v : Value) : Prop := ∀ (A : Around) (E : Value → Shared → Prop) (Q : Bool → Shared → Prop), (∀ b, Q b s) → wpAny (model P w) A (hashByValue n v) Q E s
theorem HashV.tup {n : Nat} {s : Shared} {a : Addr} {o : Obj} {vs : Array Value} {m : Nat} (ho : s.heap.get? a = some o) (hc : o.cls = .type "tuple") (hd : o.data = .seq vs m) (hv : ∀ v ∈ vs.toList, HashV P w n s v) : HashV P w (n + 1) s (.ref a) := by
  intro A E Q hq
  unfold hashByValue
  refine wpAny_bind (wpAny_specialOf (show s.TypeIs (.ref a) "tuple" from ⟨o, ho, hc⟩) F.slot_tuple_hash.lookup ?_)
  refine wpAny_bind (m := seqItems? (.ref a)) (wpAny_seqItems ho hd ?_)
  refine wpAny_bind (m := forIn vs _ _) ?_
  rw [← Array.forIn_toList]
  refine wpAny_forIn_list _ (fun left r z => z = s ∧ ∀ v ∈ left, HashV P w n s v) _ ?_ ?_ _ _ ⟨rfl, hv⟩
  · rintro v left r z ⟨rfl, hall⟩
    refine wpAny_bind (hall v List.mem_cons_self _ _ _ fun b => ?_)
    cases b
    · simp only [Bool.not_false, if_true]
      exact wpAny_pure (wpAny_pure (hq _))
    · simp only [Bool.not_true, Bool.false_eq_true, if_false]
      exact wpAny_pure ⟨rfl, fun u hu => hall u (List.mem_cons_of_mem _ hu)⟩
  · rintro ⟨r1, r2⟩ z ⟨rfl, _⟩
    cases r1 with
    | none => exact wpAny_pure (hq _)
    | some b => exact wpAny_pure (hq _)
mutual
theorem hashV_key : ∀ (k : NK) (v : Value) (n : Nat) (s : Shared), NestedIs s.heap k v → HashV P w n s v
  | .none, _, n, s, x => by cases x; exact fun A E Q hq => by cases n <;> exact wpAny_pure (hq _)
  | .num i, _, n, s, x => by cases x <;> exact fun A E Q hq => by cases n <;> exact wpAny_pure (hq _)
  | .text y, _, n, s, x => by cases x; exact fun A E Q hq => by cases n <;> exact wpAny_pure (hq _)
  | .tup ks, _, n, s, x => by
    cases x with
    | tup hg hc hd hk =>
      cases n with
      | zero => exact fun A E Q hq => wpAny_pure (hq _)
      | succ m => exact .tup hg hc hd (hashV_keys ks _ m s hk)
theorem hashV_keys : ∀ (ks : List NK) (vs : List Value) (n : Nat) (s : Shared), NestedAll s.heap ks vs → ∀ v ∈ vs, HashV P w n s v
  | [], _, n, s, x, v, hv => by cases x; cases hv
  | k :: ks, _, n, s, x, v, hv => by
    cases x with
    | cons x1 x2 =>
      rcases List.mem_cons.mp hv with e | hv
      · rw [e]; exact hashV_key k _ n s x1
      · exact hashV_keys ks _ n s x2 v hv
end
variable {A : Around} {E : Value → Shared → Prop} {s : Shared}
/-- a search among such keys shows nothing -/
theorem seen_key {k : NK} {b : Addr} {Q : Bool → Shared → Prop} (hk : KAt s.heap k b) {ys : List Value} (hy : ∀ y ∈ ys, ∃ k' c, y = Value.ref c ∧ KAt s.heap k' c) (hq : Q false s) : wpAny (model P w) A (searchCouldBeSeen (.ref b) ys) Q E s := by
  unfold searchCouldBeSeen
  refine wpAny_bind ?_
  refine wpAny_forIn_list _ (fun left r z => (r.1 = none ∧ z = s) ∧ ∀ y ∈ left, ∃ k' c, y = Value.ref c ∧ KAt s.heap k' c) _ ?_ ?_ _ _ ⟨⟨rfl, rfl⟩, hy⟩
  · rintro v left r z ⟨⟨_, rfl⟩, hall⟩
    obtain ⟨k', c, rfl, hc⟩ := hall v List.mem_cons_self
    have next : ∀ y ∈ left, ∃ k' c, y = Value.ref c ∧ KAt z.heap k' c := fun u hu => hall u (List.mem_cons_of_mem _ hu)
    dsimp only
    by_cases hv : (b == c || (carriedByValue (.ref b) && carriedByValue (.ref c))) = true
    · exact wp_if_pos hv (wpAny_pure ⟨⟨rfl, rfl⟩, next⟩)
    · refine wp_if_neg hv (wpAny_bind (quiet_key k _ 8 z hk.1 hk.2 _ _ _ ?_))
      simp only [Bool.not_true, Bool.false_eq_true, if_false]
      refine wpAny_bind (quiet_key k' _ 8 z hc.1 hc.2 _ _ _ ?_)
      simp only [Bool.not_true, Bool.false_eq_true, if_false]
      refine wpAny_bind (noCls_key k _ 8 z hk.1 hk.2 _ _ _ ?_)
      simp only [Bool.false_eq_true, if_false]
      refine wpAny_bind (noCls_key k' _ 8 z hc.1 hc.2 _ _ _ ?_)
      simp only [Bool.false_eq_true, if_false]
      exact wpAny_pure ⟨⟨rfl, rfl⟩, next⟩
  · rintro ⟨r1, r2⟩ z ⟨⟨e, rfl⟩, _⟩
    have e' : r1 = none := e
    subst e'
    exact wpAny_pure hq
end
end RB
/-! RS2: sets of nested tuples: the search, one put in. -/
namespace RB
open PySem PySem.Spec PyProof.Rows L2
abbrev Row := Addr × NK
def rowsN (w : World) (L : List Row) : List (Int × Value) := L.map fun p => (p.2.hash w, Value.ref p.1)
def keysN (L : List Row) : List NK := L.map (·.2)
def hashN (w : World) (L : List Row) : List Int := L.map fun p => p.2.hash w
structure SetN (w : World) (h : Heap) (a : Addr) (L : List Row) (es : Array (Int × Value)) (ep : Nat) (t : SetTable) : Prop where
  ob : ∃ o, h.get? a = some o ∧ o.ExactSet ∧ o.data = .set es ep t
  rows : es.toList = rowsN w L
  tab : TabOk t (hashN w L)
  nd : (keysN L).Nodup
  key : ∀ p ∈ L, KAt h p.2 p.1
  led : w.params.followText "set-order" = true ∨ t.led = true
  room : L.length * 5 < t.mask * 3
  few : L.length < 64
section
variable {P : Program} {w : World} {A : Around} {E : Value → Shared → Prop} {s : Shared} {a : Addr} {L : List Row} {es : Array (Int × Value)} {ep : Nat} {t : SetTable}
theorem rowsN_len {L : List Row} {es : Array (Int × Value)} (h : es.toList = rowsN w L) : es.size = L.length := by
  rw [← Array.length_toList, h]
  exact List.length_map ..
theorem hashN_len (L : List Row) : (hashN w L).length = L.length := List.length_map ..
theorem fits_of {n m : Nat} (h1 : t.place.size = n) (h2 : t.dummies = #[]) (h3 : n ≤ t.mask) : t.fits n = true := by
  have h4 : t.fill = n := by
    show t.place.size + t.dummies.size = n
    rw [h1, h2]
    rfl
  unfold SetTable.fits
  rw [h1, h4, Bool.and_eq_true]
  exact ⟨beq_self_eq_true n, decide_eq_true h3⟩
theorem SetN.size (R : SetN w s.heap a L es ep t) : es.size = L.length := rowsN_len R.rows
theorem SetN.plen (R : SetN w s.heap a L es ep t) : t.place.toList.length = L.length := by
  rw [Array.length_toList, R.tab.sz]
  exact hashN_len L
theorem SetN.fits (R : SetN w s.heap a L es ep t) : t.fits es.size = true := by
  have := R.room
  refine fits_of (m := 0) ?_ R.tab.dm ?_
  · rw [R.size, R.tab.sz]
    exact hashN_len L
  · rw [R.size]
    omega
theorem SetN.row (R : SetN w s.heap a L es ep t) {i : Nat} {p : Row} (h : L[i]? = some p) : es[i]? = some (p.2.hash w, Value.ref p.1) := by
  rw [← Array.getElem?_toList, R.rows, rowsN, List.getElem?_map, h]
  rfl
theorem SetN.alive (R : SetN w s.heap a L es ep t) : ¬ t.gaveWay = true := by
  unfold SetTable.gaveWay
  rw [mask_odd R.tab.mok]
  decide
/-- the search from the c-th step on -/
theorem look_from (R : SetN w s.heap a L es ep t) {x : Addr} {k : NK} (hx : KAt s.heap k x) (hu : A.units + 8 < cLine) {K : Nat} (hKf : K < 10 * SetTable.turns t.mask)
    (hK : way t.mask (k.hash w) K ∉ t.place.toList) (hKb : ∀ c, c < K → way t.mask (k.hash w) c ∈ t.place.toList) {Q : SetFound → Shared → Prop}
    (hin : k ∈ keysN L → Q (.there none) s) (hout : k ∉ keysN L → Q (.free (way t.mask (k.hash w) K) false) s) : ∀ (f c : Nat) (stand : Option SetTable.Probe),
      stand.getD (t.probeStart (k.hash w)) = nth t.mask (t.probeStart (k.hash w)) c → c ≤ K → K - c < f →
      (∀ (i : Nat) (p : Row), L[i]? = some p → p.2 = k → ∃ c', c ≤ c' ∧ c' < K ∧ t.place.toList[i]? = some (way t.mask (k.hash w) c')) → wpAny (model P w) A (setSearchFrom a (.ref x) (k.hash w) true f stand) Q E s := by
  intro f
  induction f with
  | zero => intro c stand _ _ hf; exact absurd hf (Nat.not_lt_zero _)
  | succ f ih =>
  intro c stand hst hc hf hre
  obtain ⟨o, ho, hex, hd⟩ := R.ob
  generalize hp0 : t.probeStart (k.hash w) = p0 at hst ih
  have wj : ∀ q, (nth t.mask p0 q).j = way t.mask (k.hash w) q := fun q => by rw [← hp0]; rfl
  have dn : ∀ q, (nth t.mask p0 q).dummy = none := by
    have one : ∀ (n : Nat) (p : SetTable.Probe), p.dummy = none → (nth t.mask p n).dummy = none := by
      intro n
      induction n with
      | zero => exact fun p h => h
      | succ n ih =>
        intro p h
        refine ih (adv t.mask p) ?_
        unfold adv
        split <;> exact h
    exact fun q => one q p0 (by rw [← hp0]; rfl)
  have jj : ∀ q, (nth t.mask (nth t.mask p0 c) q).j = way t.mask (k.hash w) (c + q) := fun q => by rw [← nth_add, wj]
  have hA : ∀ (i : Nat) (p : Row), L[i]? = some p → (es[i]?.map (·.1)).getD 0 = p.2.hash w := fun i p hp => by rw [R.row hp]; rfl
  rw [setSearchFrom_succ]
  refine wpAny_bind (wpAny_setState_of ho hd R.fits ?_)
  dsimp only
  refine wp_if_neg R.alive ?_
  try refine wpAny_bind (wpAny_pure ?_)
  rw [hp0, hst]
  have spec := go_spec t R.tab.ris R.tab.dm (fun i => (es[i]?.map (·.1)).getD 0) (k.hash w) (10 * SetTable.turns t.mask) (K - c) (nth t.mask p0 c) (dn c) (by omega) (fun q hq => by rw [jj]; exact hKb _ (by omega)) (by rw [jj, Nat.add_sub_cancel' hc]; exact hK)
  rcases spec with ⟨q, i, hq, hi, hh, hno, hpr⟩ | ⟨hno, hpr⟩
  · rw [show t.probe (fun i => (es[i]?.map (·.1)).getD 0) (k.hash w) (nth t.mask p0 c) = _ from hpr]
    dsimp only
    rw [jj] at hi ⊢
    have hil : i < L.length := by
      rw [← R.plen]
      exact (List.getElem?_eq_some_iff.mp hi).1
    obtain ⟨p, hp⟩ : ∃ p, L[i]? = some p := ⟨_, List.getElem?_eq_getElem hil⟩
    have hpm : p ∈ L := List.mem_of_getElem? hp
    have hsl : t.slot (way t.mask (k.hash w) (c + q)) = .live i := slot_live R.tab.ris hi
    have tail : wpAny (model P w) A (searchRest a (.ref x) (k.hash w) true f es t (way t.mask (k.hash w) (c + q)) i (nth t.mask (nth t.mask p0 c) (q + 1))) Q E s := by
      unfold searchRest
      rw [R.row hp]
      dsimp only
      refine wpAny_bind (wpAny_holding ((nestedKind P w).eqBool (A := A) hu (R.key p hpm) hx ?_))
      refine wpAny_bind (wpAny_setState_of ho hd R.fits ?_)
      dsimp only
      by_cases e : p.2 = k
      · exact wp_if_pos (by simp [e]) (wpAny_pure (hin (List.mem_map.mpr ⟨p, hpm, e⟩)))
      · refine wp_if_neg (by simp [e]) ?_
        try refine wpAny_bind (wpAny_pure ?_)
        rw [sameMem]
        dsimp only
        simp only [if_true, hsl, R.row hp]
        refine wpAny_bind (wpAny_isSame_ref_self (wpAny_bind (wpAny_pure ?_)))
        simp only [if_true]
        refine wp_if_neg (by simp [e]) ?_
        refine ih (c + (q + 1)) _ (nth_add t.mask c p0 (q + 1)).symm (by omega) (by omega) fun i0 p1 h0 hk0 => ?_
        obtain ⟨c', a1, a2, a3⟩ := hre i0 p1 h0 hk0
        refine ⟨c', ?_, a2, a3⟩
        rcases Nat.lt_trichotomy c' (c + q) with z | z | z
        · refine absurd ?_ (hno (c' - c) i0 (by omega) (by rw [jj, Nat.add_sub_cancel' a1]; exact a3))
          show (es[i0]?.map (·.1)).getD 0 = _
          rw [hA i0 p1 h0, hk0]
        · rw [z] at a3
          have s0 := slot_live R.tab.ris a3
          rw [hsl] at s0
          injection s0 with s0
          rw [← s0, hp] at h0
          cases h0
          exact absurd hk0 e
        · omega
    by_cases hl : t.led = true
    · refine wp_if_neg (by simp [hl]) ?_
      try refine wpAny_bind (wpAny_pure ?_)
      exact tail
    · refine wp_if_pos (by simp [hl]) (wpAny_bind (seen_key hx (fun y hy => ?_) ?_))
      · obtain ⟨r, hr, ee⟩ := List.mem_map.mp hy
        have hr1 : r ∈ es.toList := by
          have hr2 : r ∈ es ∧ r.1 = k.hash w := by simpa using hr
          simpa using hr2.1
        rw [R.rows] at hr1
        obtain ⟨p2, m2, e2⟩ := List.mem_map.mp hr1
        exact ⟨p2.2, p2.1, by rw [← ee, ← e2], R.key p2 m2⟩
      · refine wp_if_neg (by decide) ?_
        try refine wpAny_bind (wpAny_pure ?_)
        exact tail
  · rw [show t.probe (fun i => (es[i]?.map (·.1)).getD 0) (k.hash w) (nth t.mask p0 c) = _ from hpr]
    dsimp only
    rw [jj, Nat.add_sub_cancel' hc]
    refine wpAny_pure (hout fun hm => ?_)
    obtain ⟨p1, m1, e1⟩ := List.mem_map.mp hm
    obtain ⟨i1, l1, z1⟩ := List.getElem_of_mem m1
    have g1 : L[i1]? = some p1 := by rw [List.getElem?_eq_getElem l1, z1]
    obtain ⟨c', a1, a2, a3⟩ := hre i1 p1 g1 e1
    refine hno (c' - c) i1 (by omega) (by rw [jj, Nat.add_sub_cancel' a1]; exact a3) ?_
    show (es[i1]?.map (·.1)).getD 0 = _
    rw [hA i1 p1 g1, e1]
/-- the search as adding asks for it -/
theorem look (R : SetN w s.heap a L es ep t) {x : Addr} {k : NK} (hx : KAt s.heap k x) (hu : A.units + 8 < cLine) {Q : SetFound → Shared → Prop} (hin : k ∈ keysN L → Q (.there none) s)
    (hout : ∀ K, k ∉ keysN L → way t.mask (k.hash w) K ∉ t.place.toList → (∀ c, c < K → way t.mask (k.hash w) c ∈ t.place.toList) → Q (.free (way t.mask (k.hash w) K) false) s) : wpAny (model P w) A (setSearch a (.ref x) (k.hash w) true) Q E s := by
  have hroom := R.room
  obtain ⟨K, hKf, hK, hKb⟩ := R.tab.first (by rw [hashN_len]; omega) (k.hash w)
  have big : 10 * SetTable.turns t.mask ≤ 1420 := by
    unfold SetTable.turns
    rcases R.tab.mok with e | e | e <;> omega
  refine look_from R hx hu hKf hK hKb hin (fun hn => hout K hn hK hKb) 100000 0 none rfl (Nat.zero_le _) (by omega) fun i p hp e => ?_
  have hil : i < t.place.toList.length := by
    rw [R.plen]
    exact (List.getElem?_eq_some_iff.mp hp).1
  obtain ⟨j, hj⟩ : ∃ j, t.place.toList[i]? = some j := ⟨_, List.getElem?_eq_getElem hil⟩
  obtain ⟨c, hc, z⟩ := R.tab.before hK (show (hashN w L)[i]? = some (k.hash w) by rw [hashN, List.getElem?_map, hp, ← e]; rfl) hj
  exact ⟨c, Nat.zero_le _, hc, by rw [hj, z]⟩
end
end RB
/-! RS3: sets of nested tuples: one put in. -/
namespace RB
open PySem PySem.Spec PyProof.Rows L2
section
variable {P : Program} {w : World} {A : Around} {E : Value → Shared → Prop} {s : Shared} {a : Addr} {L : List Row} {es : Array (Int × Value)} {ep : Nat} {t : SetTable}
/-- a key isn't the set -/
theorem KAt.stay {h h' : Heap} {k : NK} {b : Addr} (x : KAt h k b) (st : ∀ c o vs n, h.get? c = some o → o.data = .seq vs n → h'.get? c = some o) : KAt h' k b := ⟨NestedIs.at st _ _ x.1, x.2⟩
theorem KAt.keep {h h' : Heap} {k : NK} {b : Addr} (x : KAt h k b) (st : ∀ c o, h.get? c = some o → h'.get? c = some o) : KAt h' k b := x.stay fun c o _ _ e _ => st c o e
theorem KAt.but {h h' : Heap} {k : NK} {b : Addr} {o : Obj} (x : KAt h k b) (ho : h.get? a = some o) (hd : o.data = .set es ep t) (sb : Heap.SameBut a h h') : KAt h' k b := by
  refine x.stay fun c u vs n e ed => (sb.2 c fun z => ?_).trans e
  rw [z, ho] at e
  cases e
  rw [hd] at ed
  cases ed
/-- rows in another order -/
theorem rows_order (order : Array Nat) (hr : es.toList = rowsN w L) (hp : order.toList.Perm (List.range L.length)) :
    ∃ L2, (order.filterMap (es[·]?)).toList = rowsN w L2 ∧ L2.Perm L ∧ hashN w L2 = order.toList.map fun i => (es.map (·.1)).getD i 0 := by
  have ent : ∀ i (p : Row), L[i]? = some p → es[i]? = some (p.2.hash w, Value.ref p.1) := fun i p e => by
    rw [← Array.getElem?_toList, hr, rowsN, List.getElem?_map, e]
    rfl
  have go : ∀ l : List Nat, (∀ i ∈ l, i < L.length) → l.filterMap (fun i => es[i]?) = rowsN w (l.filterMap fun i => L[i]?) ∧ hashN w (l.filterMap fun i => L[i]?) = l.map fun i => (es.map (·.1)).getD i 0 := by
    intro l
    induction l with
    | nil => exact fun _ => ⟨rfl, rfl⟩
    | cons i l ih =>
      intro hl
      obtain ⟨p, hi⟩ : ∃ p, L[i]? = some p := ⟨_, List.getElem?_eq_getElem (hl i List.mem_cons_self)⟩
      obtain ⟨e1, e2⟩ := ih fun j hj => hl j (List.mem_cons_of_mem _ hj)
      have e3 : (es.map (·.1)).getD i 0 = p.2.hash w := by
        rw [Array.getD_eq_getD_getElem?, Array.getElem?_map, ent i p hi]
        rfl
      rw [List.filterMap_cons_some (ent i p hi), List.filterMap_cons_some hi, e1, List.map_cons, e3]
      refine ⟨rfl, ?_⟩
      rw [← e2]
      rfl
  have all : (List.range L.length).filterMap (fun i => L[i]?) = L := by
    have upto : ∀ n, n ≤ L.length → (List.range n).filterMap (fun i => L[i]?) = L.take n := by
      intro n
      induction n with
      | zero => exact fun _ => rfl
      | succ n ih =>
        intro hn
        have e : L[n]? = some L[n] := List.getElem?_eq_getElem hn
        rw [List.range_succ, List.filterMap_append, ih (Nat.le_of_succ_le hn), List.take_succ, List.filterMap_cons_some e, e]
        rfl
    rw [upto _ (Nat.le_refl _), List.take_length]
  obtain ⟨e1, e2⟩ := go order.toList fun i hi => List.mem_range.mp (hp.mem_iff.mp hi)
  refine ⟨_, ?_, ?_, e2⟩
  · first | (rw [Array.toList_filterMap]; exact e1) | simpa using e1
  · have pm : (order.toList.filterMap fun i => L[i]?).Perm ((List.range L.length).filterMap fun i => L[i]?) := hp.filterMap _
    rw [all] at pm
    exact pm
/-- the table laid anew -/
theorem lay_anew {o : Obj} (ho : s.heap.get? a = some o) (hex : o.ExactSet) (hd : o.data = .set es ep t) (hr : es.toList = rowsN w L) (hsz : t.place.size = es.size) (hdm : t.dummies = #[]) (hfl : es.size ≤ t.mask)
    (nd : (keysN L).Nodup) (key : ∀ p ∈ L, KAt s.heap p.2 p.1) (ld : w.params.followText "set-order" = true ∨ t.led = true) (few : L.length < 64) {wanted M : Nat} (hw : SetTable.sizeAbove wanted = M + 1) (hM : MaskOk M) (hn : L.length * 5 < M * 3) {Q : Unit → Shared → Prop}
    (hQ : ∀ h' L' es' ep' t', Heap.SameBut a s.heap h' → SetN w h' a L' es' ep' t' → L'.Perm L → Q () { s with heap := h' }) : wpAny (model P w) A (setRelay a wanted) Q E s := by
  have hsl : es.size = L.length := rowsN_len hr
  obtain ⟨t', order, e, hp, T, em, el, _, _⟩ := relaid_ok t (hs := es.map (·.1)) (wanted := wanted) (M := M) (by omega) hM (by rw [Array.size_map, hsl]; omega)
  rw [Array.size_map, hsl] at hp
  obtain ⟨L2, r1, r2, r3⟩ := rows_order order hr hp
  rw [← r3] at T
  have hs2 : (order.filterMap (es[·]?)).size = es.size := by rw [rowsN_len r1, r2.length_eq, hsl]
  have hM2 : M ≤ 127 := by rcases hM with e | e | e <;> omega
  rw [setRelay_eq]
  refine wpAny_bind (wpAny_setState_of ho hd (fits_of (m := 0) hsz hdm hfl) ?_)
  dsimp only
  refine wp_if_neg (by rw [sizeLine_eq, hw]; omega) ?_
  try refine wpAny_bind (wpAny_pure ?_)
  rw [e]
  dsimp only
  refine wpAny_bind (wp_if_neg (by rw [hs2]; simp) ?_)
  try refine wpAny_bind (wpAny_pure ?_)
  refine wpAny_pure ?_
  dsimp only
  refine wpAny_storeSet_of ho hd ?_ (by rw [hs2, hsl, sizeLine_eq]; omega)
  have sb : Heap.SameBut a s.heap (s.heap.update a (Obj.putSet (order.filterMap (es[·]?)) t')) := Heap.SameBut.update ..
  refine hQ _ L2 (order.filterMap (es[·]?)) (ep + 1) t' sb ?_ r2
  exact {
    ob := ⟨_, store_at ho hd, ⟨hex.1, hex.2.1, hex.2.2⟩, rfl⟩
    rows := r1
    tab := T
    nd := (r2.map (fun q : Row => q.2)).nodup_iff.mpr nd
    key := fun p hm => (key p (r2.mem_iff.mp hm)).but ho hd sb
    led := by rw [el]; exact ld
    room := by rw [r2.length_eq, em]; exact hn
    few := by rw [r2.length_eq]; exact few }
theorem grow5 : SetTable.sizeAbove (SetTable.grown 5) = 31 + 1 := by decide +kernel
theorem grow19 : SetTable.sizeAbove (SetTable.grown 19) = 127 + 1 := by decide +kernel
/-- what comes behind the place is found -/
def behindPut (a : Addr) (es1 : Array (Int × Value)) (t2 : SetTable) (n : Nat) : Sem Bool := do
  storeSet a es1 t2
  if !false && t2.tooFull then setRelay a (SetTable.grown n)
  return true
/-- one more is put in -/
theorem put_in (R : SetN w s.heap a L es ep t) {x : Addr} {k : NK} (hx : KAt s.heap k x) (hu : A.units + 8 < cLine) (hfew : L.length + 1 < 64) {Q : Bool → Shared → Prop}
    (hQ : ∀ b h' L' es' ep' t', Heap.SameBut a s.heap h' → SetN w h' a L' es' ep' t' → (k ∈ keysN L → L' = L) → (k ∉ keysN L → L'.Perm ((x, k) :: L)) → Q b { s with heap := h' }) : wpAny (model P w) A (setAddHashed a (.ref x) (k.hash w)) Q E s := by
  obtain ⟨o, ho, hex, hd⟩ := R.ob
  have hsl := R.size
  have hroom := R.room
  unfold setAddHashed
  refine wpAny_holding ?_
  rw [show (100000 : Nat) = 99999 + 1 from rfl, setAddHashedIn_succ]
  refine wpAny_bind (wpAny_setState_of ho hd R.fits ?_)
  dsimp only
  refine wp_if_neg (by simp [byScan, Value.scannable]) ?_
  try refine wpAny_bind (wpAny_pure ?_)
  refine wpAny_bind (look R hx hu (fun hm => ?_) fun K hm hK hb => ?_)
  · exact wpAny_pure (hQ false s.heap L es ep t (Heap.SameBut.refl a s.heap) R (fun _ => rfl) fun z => absurd hm z)
  dsimp only
  refine wpAny_bind (wpAny_setState_of ho hd R.fits ?_)
  dsimp only
  obtain ⟨q1, q2, q3, q4, q5, q6, q7, q8, q9⟩ := R.tab.put hK hb
  generalize hpt : t.put (way t.mask (k.hash w) K) = pt at q1 q3 q4 q5 q6 q7 q8 q9 ⊢
  obtain ⟨t1, p⟩ := pt
  dsimp only at q1 q3 q4 q5 q6 q7 q8 q9 ⊢
  rw [← q1] at q2 q3
  rw [hashN_len] at q2 q9
  have pm : (L.take p ++ (x, k) :: L.drop p).Perm ((x, k) :: L) := put_perm L p (x, k)
  have hin : (SetTable.insertAt es p (k.hash w, Value.ref x)).toList = rowsN w (L.take p ++ (x, k) :: L.drop p) := by
    rw [SetTable.toList_insertAt, R.rows]
    unfold rowsN
    rw [List.map_append, List.map_cons, List.map_take, List.map_drop]
  have hhs : hashN w (L.take p ++ (x, k) :: L.drop p) = (hashN w L).take p ++ k.hash w :: (hashN w L).drop p := by
    unfold hashN
    rw [List.map_append, List.map_cons, List.map_take, List.map_drop]
  rw [← hhs] at q3
  generalize SetTable.insertAt es p (k.hash w, Value.ref x) = es1 at hin ⊢
  generalize L.take p ++ (x, k) :: L.drop p = L1 at pm hin q3 hhs
  have hlen : L1.length = L.length + 1 := pm.length_eq
  have hes : es1.size = L.length + 1 := (rowsN_len hin).trans hlen
  have nd1 : (keysN L1).Nodup := (pm.map (fun q : Row => q.2)).nodup_iff.mpr (List.nodup_cons.mpr ⟨hm, R.nd⟩)
  -- the flag of plainness is of no matter
  have rest : ∀ t2 : SetTable, t2.mask = t1.mask → t2.led = t1.led → t2.tooFull = t1.tooFull → t2.place = t1.place → t2.dummies = t1.dummies → TabOk t2 (hashN w L1) →
      wpAny (model P w) A (behindPut a es1 t2 (es.size + 1)) Q E s := by
    intro t2 z1 z2 z3 z4 z5 T2
    have ld2 : w.params.followText "set-order" = true ∨ t2.led = true := by rw [z2, q5]; exact R.led
    unfold behindPut
    refine wpAny_bind (wpAny_storeSet_of ho hd ?_ (by rw [hes, sizeLine_eq]; omega))
    have sb : Heap.SameBut a s.heap (s.heap.update a (Obj.putSet es1 t2)) := Heap.SameBut.update ..
    have ho1 := store_at (es' := es1) (t' := t2) ho hd
    generalize s.heap.update a (Obj.putSet es1 t2) = h1 at sb ho1 ⊢
    have key1 : ∀ p ∈ L1, KAt h1 p.2 p.1 := fun p hp => by
      rcases List.mem_cons.mp (pm.mem_iff.mp hp) with e | hp
      · rw [e]; exact hx.but ho hd sb
      · exact (R.key p hp).but ho hd sb
    have hfull : t1.tooFull = decide ((L.length + 1) * 5 ≥ t1.mask * 3) := by
      unfold SetTable.tooFull
      rw [q9]
    have hex1 : Obj.ExactSet _ := (show Obj.ExactSet { o with data := .set es1 (ep + 1) t2 } from ⟨hex.1, hex.2.1, hex.2.2⟩)
    by_cases hf : t2.tooFull = true
    · have hf1 : (L.length + 1) * 5 ≥ t.mask * 3 := by
        rw [z3, hfull, decide_eq_true_eq, q4] at hf
        exact hf
      have cs : (t.mask = 7 ∧ L.length = 4) ∨ (t.mask = 31 ∧ L.length = 18) := by
        rcases R.tab.mok with e | e | e
        · exact .inl ⟨e, by omega⟩
        · exact .inr ⟨e, by omega⟩
        · omega
      have go : ∀ M, SetTable.sizeAbove (SetTable.grown (L.length + 1)) = M + 1 → MaskOk M → (L.length + 1) * 5 < M * 3 → wpAny (model P w) A (setRelay a (SetTable.grown (L.length + 1))) (fun _ z => wpAny (model P w) A (pure true) Q E z) E { s with heap := h1 } := fun M m1 m2 m3 =>
        lay_anew (s := { s with heap := h1 }) ho1 hex1 rfl hin (by rw [z4, ← z4, T2.sz, hashN_len, hes, hlen]) T2.dm (by rw [hes, z1, q4]; rcases cs with ⟨e, e2⟩ | ⟨e, e2⟩ <;> omega) nd1 key1 ld2 (by omega) m1 m2 (by rw [hlen]; exact m3)
          fun h2 L2 es2 ep2 t3 sb2 R2 pm2 => wpAny_pure (hQ true h2 L2 es2 ep2 t3 (sb.trans sb2) R2 (fun z => absurd z hm) fun _ => pm2.trans pm)
      have fin : wpAny (model P w) A (setRelay a (SetTable.grown (es.size + 1))) (fun _ z => wpAny (model P w) A (pure true) Q E z) E { s with heap := h1 } := by
        rw [hsl]
        rcases cs with ⟨_, e⟩ | ⟨_, e⟩
        · exact go 31 (by rw [e]; exact grow5) (.inr (.inl rfl)) (by omega)
        · exact go 127 (by rw [e]; exact grow19) (.inr (.inr rfl)) (by omega)
      first
        | exact wpAny_bind (wp_if_pos (by simp [hf]) fin)
        | exact wp_if_pos (by simp [hf]) (wpAny_bind fin)
    · have fin : wpAny (model P w) A (pure true) Q E { s with heap := h1 } := by
        refine wpAny_pure (hQ true h1 L1 es1 (ep + 1) t2 sb ?_ (fun z => absurd z hm) fun _ => pm)
        exact { ob := ⟨_, ho1, hex1, rfl⟩, rows := hin, tab := T2, nd := nd1, key := key1, led := ld2, few := by omega
                room := by
                  rw [z3, hfull, decide_eq_true_eq, q4] at hf
                  rw [hlen, z1, q4]
                  omega }
      first
        | exact wp_if_neg (by simp [hf]) fin
        | exact wpAny_bind (wp_if_neg (by simp [hf]) (wpAny_pure fin))
  have T3 : TabOk { t1 with plain := false } (hashN w L1) := ⟨q3.ris, q3.dm, q3.sz, q3.mok, q3.bd, q3.reach⟩
  have two : ∀ b : Bool, wpAny (model P w) A (behindPut a es1 (if b = true then t1 else { t1 with plain := false }) (es.size + 1)) Q E s := fun b => by
    cases b
    · exact rest { t1 with plain := false } rfl rfl rfl rfl rfl T3
    · exact rest t1 rfl rfl rfl rfl rfl q3
  by_cases hp1 : t1.plain = true
  · first
      | (refine wpAny_bind (wp_if_pos hp1 ?_); exact hashV_key k _ 8 s hx.1 _ _ _ two)
      | exact wp_if_pos hp1 (wpAny_bind (hashV_key k _ 8 s hx.1 _ _ _ two))
  · first
      | (refine wpAny_bind (wp_if_neg hp1 ?_); exact wpAny_pure (two true))
      | exact wp_if_neg hp1 (wpAny_bind (wpAny_pure (two true)))
      | exact wp_if_neg hp1 (two true)
end
end RB
/-! RS4: set(xs), xs a list or a tuple, whatever the items: what is kept while they are put in. -/
namespace RB
open PySem PySem.Spec PyProof.Rows L2
abbrev newSet (w : World) : Obj := { cls := .type "set", dict := none, data := .set #[] 0 (.fresh 0 0 (!w.params.followText "set-order")) }
section
variable {P : Program} {w : World} {A : Around} {E : Value → Shared → Prop} {s : Shared}
/-- what is kept while items are put into S: J i behind i of them; h0 stays -/
structure Fills (P : Program) (w : World) (A : Around) (S : Addr) (h0 : Heap) (n : Nat) (Pv : Nat → Value → Prop) (J : Nat → Heap → Prop) : Prop where
  keep : ∀ i h h', J i h → (∀ o, h.get? S = some o → h'.get? S = some o) → (∀ b o, h0.get? b = some o → h'.get? b = some o) → J i h'
  step : ∀ i v (s : Shared) (Q : Bool → Shared → Prop) (E : Value → Shared → Prop), i < n → Pv i v → J i s.heap → (∀ b o, h0.get? b = some o → s.heap.get? b = some o) →
    (∀ b h' tk, s.toks ≤ tk → Heap.SameBut S s.heap h' → J (i + 1) h' → Q b { s with heap := h', toks := tk }) → wpAny (model P w) A (setAdd S v) Q E s
theorem fill_loop {I : Addr} {fp wr : List Addr} {G : Array GenState → Array GenState → Prop} {n : Nat} {Pv : Nat → Value → Prop} {St : Nat → Shared → Prop} {R : Result → Shared → Prop} {S : Addr} {h0 : Heap} {J : Nat → Heap → Prop}
    (W : WalksS P w A.in1 I fp wr G n Pv St) (hSf : S ∉ fp) (hS0 : h0.get? S = none) (hw0 : ∀ b ∈ wr, h0.get? b = none) (F1 : Fills P w A.in1 S h0 n Pv J) :
    ∀ (k i : Nat) (s : Shared), n - i = k → i ≤ n → St i s → (∀ b o, h0.get? b = some o → s.heap.get? b = some o) → J i s.heap →
      (∀ s', Moved (S :: wr) G s s' → J n s'.heap → (∀ b o, h0.get? b = some o → s'.heap.get? b = some o) → R (.ok (.ret .none)) s') → codeAny (model P w) A (.builtin "set.update.loop" ⟨[.ref S, .ref I], []⟩) R s := by
  have out : S ∉ wr := fun z => hSf (W.sub _ z)
  have more : ∀ b ∈ wr, b ∈ S :: wr := fun b hb => List.mem_cons_of_mem _ hb
  have old : ∀ {s s' : Shared}, Moved wr G s s' → (∀ b o, h0.get? b = some o → s.heap.get? b = some o) → ∀ b o, h0.get? b = some o → s'.heap.get? b = some o := fun {s s'} m k b o e => by
    refine m.heap b o (fun z => ?_) (k b o e)
    rw [hw0 b z] at e
    cases e
  intro k
  induction k with
  | zero =>
    intro i s hk hi st kp j hR
    obtain rfl : i = n := by omega
    refine codeAny_builtin F.entry_set_update_loop ?_
    rw [Around.under_plainId F.plain_set_update_loop _]
    refine wpAny_bind (m := pyNext (.ref I)) (W.done s _ _ st fun s' m => ?_)
    have kp' := old m kp
    exact wpAny_pure (hR s' (m.mono more) (F1.keep _ _ _ j (fun o e => m.heap S o out e) kp') kp')
  | succ k ih =>
    intro i s hk hi st kp j hR
    have lt : i < n := by omega
    refine codeAny_builtin F.entry_set_update_loop ?_
    rw [Around.under_plainId F.plain_set_update_loop _]
    refine wpAny_bind (m := pyNext (.ref I)) (W.item i s _ _ lt st fun v s' pv st' m => ?_)
    have kp' := old m kp
    have j' := F1.keep _ _ _ j (fun o e => m.heap S o out e) kp'
    refine wpAny_bind (m := holding [v] (setAdd S v)) (wpAny_holding (F1.step i v s' _ _ lt pv j' kp' fun b h2 tk ht sb j2 => ?_))
    have kp2 : ∀ b o, h0.get? b = some o → h2.get? b = some o := fun b o e => (sb.2 b fun z => by rw [z, hS0] at e; cases e).trans (kp' b o e)
    refine wpAny_pure ⟨plainId_quiet F.plain_set_update_loop _, ih (i + 1) _ (by omega) lt (W.frame _ s' _ _ st' ht fun b hb o e => ?_) kp2 j2 fun s'' m2 jn kn => hR s'' (Moved.trans W.gtrans ((m.mono more).then_heap ht fun b o hb e => ?_) m2) jn kn⟩
    · exact (sb.2 b fun z => hSf (z ▸ hb)).trans e
    · exact (sb.2 b fun z => hb (by rw [z]; exact List.mem_cons_self)).trans e
end
section
variable {P : Program} {w : World} {A : Around} {E : Value → Shared → Prop} {s : Shared}
/-- set(xs) -/
theorem call_set_walk {T it : String} {l : Addr} {od : Option Addr} {osl : Array (Option Value)} {nl : Nat} {items : Array Value} {J : Nat → Heap → Prop} {Q : Value → Shared → Prop} (hh : A.handled = none) (hol : s.heap.get? l = some { cls := .type T, dict := od, data := .seq items nl, slots := osl })
    (hsls : isSubtype (.type T) (.type "set") = pure false) (hslf : isSubtype (.type T) (.type "frozenset") = pure false) (hne : (Value.type T == Value.type "dict") = false)
    (iter : ∀ (A' : Around) (E' : Value → Shared → Prop) (Q' : Value → Shared → Prop) (z : Shared), z.heap.get? l = some { cls := .type T, dict := od, data := .seq items nl, slots := osl } →
      Q' (.ref z.heap.objs.size) { z with heap := z.heap.push { cls := .type it, data := .fields #[.ref l, .int 0 0] } } → wpAny (model P w) A' (pyIter (.ref l)) Q' E' z)
    (walk : ∀ (A' : Around) (h : Heap), A'.handled = none → h.get? l = some { cls := .type T, dict := od, data := .seq items nl, slots := osl } → ∃ St : Nat → Heap → Prop, Walks P w A' h.objs.size [h.objs.size, l] [h.objs.size] items.size (fun i v => items[i]? = some v) St ∧
      St 0 (h.push { cls := .type it, data := .fields #[.ref l, .int 0 0] }))
    (F1 : Fills P w A.in1.in1.in1 s.heap.objs.size s.heap items.size (fun i v => items[i]? = some v) J) (j0 : ∀ h, h.get? s.heap.objs.size = some (newSet w) → (∀ b o, s.heap.get? b = some o → h.get? b = some o) → J 0 h)
    (h : ∀ (h' : Heap) (tk : Nat), J items.size h' → (∀ b o, s.heap.get? b = some o → h'.get? b = some o) → Q (.ref s.heap.objs.size) { s with heap := h', toks := tk }) : wpAny (model P w) A (call (.type "set") [.ref l]) Q E s := by
  obtain ⟨c, tl, hmro⟩ := F.called_set.mro
  have hmade := F.called_set.made
  have hsub := F.called_set.sub
  refine wpAny_call (codeAny_of_tree ?_)
  show wpAny _ _ (callAny (.type "set") _) _ _ _
  refine wpAny_pure ⟨Code.quiet_builtin _ (by decide +kernel), codeAny_builtin F.entry_type_call ?_⟩
  rw [Around.under_plain (weight_type_call_type "set" [.ref l] []) rfl]
  have h1 := F.called_set.notType
  have h2 := F.called_set.canCreate
  have hct := F.typeCall_set_1 (.ref l)
  repeat (any_goals (first | assumption | wp_step))
  refine codeAny_mono (code_set_led1 (.ref l) (E := E) (Q₁ := fun obj z => obj = .ref s.heap.objs.size ∧ z = { s with heap := s.heap.push (newSet w) }) ⟨rfl, rfl⟩) fun r z hr => ?_
  cases r with
  | error e => exact hr
  | ok fl =>
  cases fl with
  | ret obj =>
    obtain ⟨rfl, rfl⟩ := hr
    have hS : (s.heap.push (newSet w)).get? s.heap.objs.size = some (newSet w) := Heap.get?_push_size _ rfl
    have hT : Shared.TypeIs { s with heap := s.heap.push (newSet w) } (.ref s.heap.objs.size) "set" := ⟨_, hS, rfl⟩
    have hli := F.called_set.init.lookup
    have hbi := F.called_set.init.bind (.ref s.heap.objs.size)
    repeat (any_goals (first | assumption | wp_step))
    refine codeAny_mono (codeAny_call_builtin (R := wants (fun r z => r = .none ∧ ∃ h' tk, z = { s with heap := h', toks := tk } ∧ J items.size h' ∧ ∀ b o, s.heap.get? b = some o → h'.get? b = some o) E) F.called_set.init.plain F.entry_set_init (check_set_init_1 hT ?_)) fun r₂ z hr₂ => ?_
    · have hol' : (s.heap.push (newSet w)).get? l = some { cls := .type T, dict := od, data := .seq items nl, slots := osl } := Heap.get?_push_of_some _ hol
      have hlS : l < s.heap.objs.size := Heap.lt_size hol
      have hz1 : (s.heap.push (newSet w)).objs.size = s.heap.objs.size + 1 := Heap.size_push ..
      obtain ⟨St, W, st0⟩ := walk A.in1.in1.in1 (s.heap.push (newSet w)) (by simp [hh]) hol'
      have free : ∀ b, s.heap.objs.size ≤ b → s.heap.get? b = none := fun b hb => by
        cases q : s.heap.get? b with
        | none => rfl
        | some o => exact absurd (Nat.lt_of_lt_of_le (Heap.lt_size q) hb) (Nat.lt_irrefl _)
      unfold Builtin.«set.__init__» noKeywords Builtin.Frozenset.updateFrom
      generalize hPI : pyIter = PI
      wp_walk
      subst hPI
      refine iter _ _ _ _ hol' ?_
      refine wpAny_bind (wpAny_runValue ?_)
      refine fill_loop W.toS ?_ (free _ (Nat.le_refl _)) (fun b hb => free b (by rw [List.mem_singleton.mp hb, hz1]; exact Nat.le_succ _)) F1 (items.size - 0) 0 _ (by omega) (Nat.zero_le _) st0 (fun b o e => Heap.get?_push_of_some _ (Heap.get?_push_of_some _ e))
        (j0 _ (Heap.get?_push_of_some _ hS) fun b o e => Heap.get?_push_of_some _ (Heap.get?_push_of_some _ e)) fun s' m jn kn => ?_
      · rw [hz1]
        simp only [List.mem_cons, List.mem_singleton, List.not_mem_nil, or_false, not_or]
        exact ⟨Nat.ne_of_lt (Nat.lt_succ_self _), Nat.ne_of_gt hlS⟩
      · obtain ⟨h', g2, d', tk', os'⟩ := s'
        have eg : g2 = s.gens := m.gens
        have ed : d' = s.drawn := m.drawn
        have eo : os' = s.os := m.os
        subst eg; subst ed; subst eo
        refine wpAny_pure ?_
        exact wpAny_pure ⟨rfl, h', tk', rfl, jn, kn⟩
    · cases r₂ with
      | error e => exact hr₂
      | ok fl₂ =>
      cases fl₂ with
      | ret r =>
        obtain ⟨rfl, h', tk, rfl, jn, kn⟩ := hr₂
        repeat (any_goals (first | assumption | wp_step))
        exact h _ _ jn kn
      | _ => exact hr₂.elim
  | _ => exact hr.elim
end
end RB
/-! RS5: sets of texts: one put in; both kinds of sets filled. -/
namespace RB
open PySem PySem.Spec PyProof.Rows L2
abbrev Tx := Str × Tok
def rowT (w : World) (p : Tx) : Int × Value := (hashStr w p.1, Value.str p.1 p.2)
def unT (e : Int × Value) : Tx := match e.2 with
  | .str x t => (x, t)
  | _ => ("", 0)
theorem unT_row {w : World} (p : Tx) : unT (rowT w p) = p := rfl
theorem rows_of_perm {w : World} {l : List (Int × Value)} {L : List Tx} (h : l.Perm (L.map (rowT w))) : ∃ L1 : List Tx, L1.Perm L ∧ l = L1.map (rowT w) := by
  refine ⟨l.map unT, ?_, ?_⟩
  · have p := h.map unT
    rw [List.map_map, show unT ∘ rowT w = id from rfl, List.map_id] at p
    exact p
  · rw [List.map_map]
    have e : ∀ x ∈ l, (rowT w ∘ unT) x = x := fun x hx => by
      obtain ⟨p, _, rfl⟩ := List.mem_map.mp (h.mem_iff.mp hx)
      rfl
    rw [List.map_congr_left e, List.map_id']
structure SetS (w : World) (h : Heap) (a : Addr) (L : List Tx) : Prop where
  nd : (L.map (·.1)).Nodup
  few : L.length < scanBound
  ex : ∃ es ep t, (∃ o, h.get? a = some o ∧ o.ExactSet ∧ o.data = .set es ep t) ∧ es.toList = L.map (rowT w) ∧ t.fits es.size = true ∧ Ris t.place.toList ∧ (w.params.followText "set-order" = true ∨ t.led = true)
section
variable {P : Program} {w : World} {A : Around} {E : Value → Shared → Prop} {s : Shared} {a : Addr} {L : List Tx}
theorem SetS.at_ {h h' : Heap} (R : SetS w h a L) (k : ∀ o, h.get? a = some o → h'.get? a = some o) : SetS w h' a L := by
  obtain ⟨es, ep, t, ⟨o, ho, r⟩, q⟩ := R.ex
  exact ⟨R.nd, R.few, es, ep, t, ⟨o, k o ho, r⟩, q⟩
theorem rowT_len {es : Array (Int × Value)} (h : es.toList = L.map (rowT w)) : es.size = L.length := by
  rw [← Array.length_toList, h]
  exact List.length_map ..
theorem elemsT {es : Array (Int × Value)} (h : es.toList = L.map (rowT w)) : ElemsOf (strKind P w) es.toList := fun e he => by
  rw [h] at he
  obtain ⟨p, _, rfl⟩ := List.mem_map.mp he
  exact ⟨⟨p.1, strKind_is P w p.1 p.2, rfl⟩, rfl⟩
theorem isT_iff (x : Str) (p : Tx) : (strKind P w).is x (rowT w p).2 = true ↔ p.1 = x := by
  constructor
  · intro h
    obtain ⟨t, e⟩ := Value.isStrOf_shape (show Value.isStrOf x (Value.str p.1 p.2) = true from h)
    have e' : Value.str p.1 p.2 = Value.str x t := e
    injection e'
  · rintro rfl
    exact strKind_is P w p.1 p.2
def behindS (g : Bool → Sem Unit) (a : Addr) (es1 : Array (Int × Value)) (t2 : SetTable) (wasDummy : Bool) : Sem (Option Bool) := do
  storeSet a es1 t2
  if (!wasDummy && t2.tooFull) = true then do
    g (relayAll t2 es1 (SetTable.grown es1.size)).2.2
    storeSet a (relayAll t2 es1 (SetTable.grown es1.size)).1 (relayAll t2 es1 (SetTable.grown es1.size)).2.1
    pure (some true)
  else pure (some true)
theorem tail_str {g : Bool → Sem Unit} (hg : ∀ (b : Bool) (z : Shared) (Q' : Unit → Shared → Prop), Q' () z → wpAny (model P w) A (g b) Q' E z) {o : Obj} {es es1 : Array (Int × Value)} {ep : Nat} {t t2 : SetTable} {wd : Bool}
    (ho : s.heap.get? a = some o) (hex : o.ExactSet) (hd : o.data = .set es ep t) (hr : es1.toList = L.map (rowT w)) (nd : (L.map (·.1)).Nodup) (few : L.length < scanBound) (hf : t2.fits es1.size = true) (ri : Ris t2.place.toList)
    (ld : w.params.followText "set-order" = true ∨ t2.led = true) {Q : Option Bool → Shared → Prop} (hQ : ∀ h' L', Heap.SameBut a s.heap h' → SetS w h' a L' → L'.Perm L → Q (some true) { s with heap := h' }) : wpAny (model P w) A (behindS g a es1 t2 wd) Q E s := by
  have hsz := rowT_len hr
  have hb1 : es1.size < scanBound := by rw [hsz]; exact few
  unfold behindS
  refine wpAny_bind (wpAny_storeSet_of ho hd ?_ (fits_of_scanBound hb1))
  have ho1 := store_at (es' := es1) (t' := t2) ho hd
  have sb1 := Heap.SameBut.update s.heap a (Obj.putSet es1 t2)
  split
  · have pm := relayAll_perm t2 es1 (SetTable.grown es1.size)
    have f3 := relayAll_fits t2 es1 (SetTable.grown es1.size)
    have r3 := relayAll_ris t2 es1 (SetTable.grown es1.size)
    have l3 := relayAll_led t2 es1 (SetTable.grown es1.size)
    generalize relayAll t2 es1 (SetTable.grown es1.size) = Z at pm f3 r3 l3 ⊢
    obtain ⟨es2, t3, gave⟩ := Z
    dsimp only at pm f3 r3 l3 ⊢
    rw [hr] at pm
    obtain ⟨L1, p1, e1⟩ := rows_of_perm pm
    have hb2 : es2.size < scanBound := by rw [rowT_len e1, p1.length_eq]; exact few
    refine wpAny_bind (hg _ _ _ (wpAny_bind (wpAny_storeSet_of ho1 rfl ?_ (fits_of_scanBound hb2))))
    have ho2 := store_at (es' := es2) (t' := t3) ho1 rfl
    refine wpAny_pure (hQ _ L1 (sb1.trans (Heap.SameBut.update _ a _)) ⟨(p1.map _).nodup_iff.mpr nd, by rw [p1.length_eq]; exact few, es2, _, t3, ⟨_, ho2, hex, rfl⟩, e1, f3, r3, ld.imp id fun z => by rw [l3]; exact z⟩ p1)
  · exact wpAny_pure (hQ _ L sb1 ⟨nd, few, es1, _, t2, ⟨_, ho1, hex, rfl⟩, hr, hf, ri, ld⟩ (List.Perm.refl _))
theorem put_str (R : SetS w s.heap a L) (x : Str) (tk : Tok) (room : L.length + 1 < scanBound) {Q : Bool → Shared → Prop}
    (hQ : ∀ b h' L', Heap.SameBut a s.heap h' → SetS w h' a L' → (x ∈ L.map (·.1) → L' = L) → (x ∉ L.map (·.1) → L'.Perm ((x, tk) :: L)) → Q b { s with heap := h' }) : wpAny (model P w) A (setAddHashed a (.str x tk) (hashStr w x)) Q E s := by
  obtain ⟨es, ep, t, ⟨o, ho, hex, hd⟩, hr, hf, ri, ld⟩ := R.ex
  have hsz := rowT_len hr
  have hel : ElemsOf (strKind P w) es.toList := elemsT hr
  have hb : es.size < scanBound := by rw [hsz]; exact R.few
  have hsc : (Value.str x tk).scannable = true := rfl
  unfold setAddHashed setAddHashedIn
  refine wpAny_holding (wpAny_bind (wpAny_setState_of ho hd hf ?_))
  dsimp only
  rw [byScan_of hsc hb hel]
  simp only [↓reduceIte]
  unfold setAddByScan
  refine wpAny_bind (wpAny_bind (wpAny_rule (wpAny_bind (wpAny_setScan_of (knd := strKind P w) (k := x) (strKind_is P w x tk) ho hd hf hel ?_))))
  cases hfi : List.findIdx? (fun e => (strKind P w).is x e.2) es.toList with
  | some j =>
    obtain ⟨hj, pj, _⟩ := List.findIdx?_eq_some_iff_getElem.mp hfi
    have hm : x ∈ L.map (·.1) := by
      have z := List.getElem_mem hj
      generalize es.toList[j] = e at z pj
      rw [hr] at z
      obtain ⟨p, hp, rfl⟩ := List.mem_map.mp z
      exact List.mem_map.mpr ⟨p, hp, (isT_iff x p).1 pj⟩
    exact wpAny_pure (wpAny_pure (hQ false s.heap L (Heap.SameBut.refl a s.heap) R (fun _ => rfl) fun z => absurd hm z))
  | none =>
    have hn : x ∉ L.map (·.1) := fun z => by
      obtain ⟨p, hp, e⟩ := List.mem_map.mp z
      have c := List.findIdx?_eq_none_iff.mp hfi (rowT w p) (by rw [hr]; exact List.mem_map.mpr ⟨p, hp, rfl⟩)
      rw [(isT_iff x p).2 e] at c
      cases c
    dsimp only
    have gw : ∀ (b : Bool) {z : Shared} {Q' : Unit → Shared → Prop}, Q' () z → wpAny (model P w) A (match b with | true => rule "set.scan.the-table-gave-way" | false => pure ()) Q' E z := fun b z Q' q => by cases b <;> first | exact wpAny_pure q | exact wpAny_rule q
    have pm := layNew_perm t es (hashStr w x) (.str x tk)
    have f1 := layNew_fits t es (hashStr w x) (.str x tk)
    have r1 := layNew_ris t es (hashStr w x) (.str x tk) ri
    have l1 := layNew_led t es (hashStr w x) (.str x tk)
    generalize layNew t es (hashStr w x) (.str x tk) = Z at pm f1 r1 l1 ⊢
    obtain ⟨es1, t1, wd, gave⟩ := Z
    dsimp only at pm f1 r1 l1 ⊢
    rw [Array.toList_push, hr] at pm
    obtain ⟨L1, p1, e1⟩ := rows_of_perm (L := (x, tk) :: L) (pm.trans (List.perm_append_singleton _ _))
    have nd1 : (L1.map (·.1)).Nodup := (p1.map (fun q : Tx => q.1)).nodup_iff.mpr (List.nodup_cons.mpr ⟨hn, R.nd⟩)
    have few1 : L1.length < scanBound := by rw [p1.length_eq]; exact room
    have ld1 : w.params.followText "set-order" = true ∨ t1.led = true := ld.imp id fun z => by rw [l1]; exact z
    have fin : ∀ h' L', Heap.SameBut a s.heap h' → SetS w h' a L' → L'.Perm L1 → Q true { s with heap := h' } := fun h' L' sb r pp => hQ true h' L' sb r (fun z => absurd z hn) fun _ => pp.trans p1
    refine wpAny_bind (gw _ ?_)
    split
    · refine wpAny_bind ?_
      rw [hashByValue_scannable 8 hsc]
      refine wpAny_pure ?_
      refine tail_str (L := L1) (t2 := _) ?_ ho hex hd e1 nd1 few1 ?_ ?_ ?_ ?_
      · intro b z Q' q; cases b <;> first | exact wpAny_pure q | exact wpAny_rule q
      · first | (split <;> first | exact f1 | exact SetTable.fits_plain_off f1) | exact f1
      · first | (split <;> exact r1) | exact r1
      · first | (split <;> exact ld1) | exact ld1
      · intro h' L' sb r pp; dsimp only; exact wpAny_pure (fin h' L' sb r pp)
    · refine wpAny_bind (wpAny_pure ?_)
      simp only [↓reduceIte]
      refine tail_str (L := L1) (t2 := _) ?_ ho hex hd e1 nd1 few1 f1 r1 ld1 ?_
      · intro b z Q' q; cases b <;> first | exact wpAny_pure q | exact wpAny_rule q
      · intro h' L' sb r pp; dsimp only; exact wpAny_pure (fin h' L' sb r pp)
end
end RB
/-! RS6: both kinds of sets, filled. -/
namespace RB
open PySem PySem.Spec PyProof.Rows L2
/-- what a set has got of the first i things, by their keys -/
structure GotK {α κ : Type} (key : α → κ) (ks : List α) (i : Nat) (L : List α) : Prop where
  sub : ∀ p ∈ L, p ∈ ks.take i
  all : ∀ p ∈ ks.take i, key p ∈ L.map key
  len : L.length ≤ i
section
variable {α κ : Type} {key : α → κ} {ks L L' : List α} {i : Nat} {x : α}
theorem gotK_none : GotK key ks 0 [] := ⟨fun p h => absurd h List.not_mem_nil, fun p h => absurd h (by simp), Nat.le_refl _⟩
theorem take_more (h : ks[i]? = some x) : ks.take (i + 1) = ks.take i ++ [x] := by
  rw [List.take_add_one, h]
  rfl
theorem GotK.old (g : GotK key ks i L) (h : ks[i]? = some x) (hm : key x ∈ L.map key) : GotK key ks (i + 1) L := by
  refine ⟨fun p hp => ?_, fun p hp => ?_, Nat.le_succ_of_le g.len⟩
  · rw [take_more h]
    exact List.mem_append_left _ (g.sub p hp)
  · rw [take_more h] at hp
    rcases List.mem_append.mp hp with z | z
    · exact g.all p z
    · rw [List.mem_singleton.mp z]
      exact hm
theorem GotK.new (g : GotK key ks i L) (h : ks[i]? = some x) (pm : L'.Perm (x :: L)) : GotK key ks (i + 1) L' := by
  refine ⟨fun p hp => ?_, fun p hp => (pm.map key).mem_iff.mpr ?_, ?_⟩
  · rw [take_more h]
    rcases List.mem_cons.mp (pm.mem_iff.mp hp) with e | z
    · exact List.mem_append_right _ (List.mem_singleton.mpr e)
    · exact List.mem_append_left _ (g.sub p z)
  · rw [take_more h] at hp
    rcases List.mem_append.mp hp with z | z
    · exact List.mem_cons_of_mem _ (g.all p z)
    · rw [List.mem_singleton.mp z]
      exact List.mem_cons_self
  · have e := pm.length_eq
    rw [List.length_cons] at e
    have := g.len
    omega
end
/-- a set that can be walked: its values -/
def Walked (w : World) (h : Heap) (a : Addr) (vs : List Value) : Prop := ∃ es ep t, SetAt h a es ep t ∧ t.fits es.size = true ∧ es.size < scanBound ∧ Ris t.place.toList ∧ (w.params.followText "set-order" = true ∨ t.led = true) ∧ es.toList.map (·.2) = vs
section
variable {P : Program} {w : World} {A : Around} {S : Addr} {h0 : Heap} {items : Array Value}
theorem fills_rows (ks : List Row) (hit : items.toList = ks.map fun p => Value.ref p.1) (hk : ∀ p ∈ ks, KAt h0 p.2 p.1) (few : ks.length < 64) (hu : A.units + 8 < cLine) :
    Fills P w A S h0 items.size (fun i v => items[i]? = some v) (fun i h => ∃ L es ep t, SetN w h S L es ep t ∧ GotK (fun p : Row => p.2) ks i L) where
  keep := fun i h h' ⟨L, es, ep, t, R, g⟩ k1 k2 => by
    obtain ⟨o, ho, r⟩ := R.ob
    exact ⟨L, es, ep, t, ⟨⟨o, k1 o ho, r⟩, R.rows, R.tab, R.nd, fun p hp => (hk p (List.mem_of_mem_take (g.sub p hp))).keep k2, R.led, R.room, R.few⟩, g⟩
  step := fun i v s Q E hi hv ⟨L, es, ep, t, R, g⟩ k2 hQ => by
    have hv' : items.toList[i]? = some v := by rw [Array.getElem?_toList]; exact hv
    rw [hit, List.getElem?_map] at hv'
    cases hp : ks[i]? with
    | none =>
      rw [hp] at hv'
      cases hv'
    | some p =>
      rw [hp] at hv'
      have ev : Value.ref p.1 = v := Option.some.inj hv'
      subst ev
      have hx : KAt s.heap p.2 p.1 := (hk p (List.mem_of_getElem? hp)).keep k2
      have hlt : i < ks.length := (List.getElem?_eq_some_iff.mp hp).1
      have := g.len
      unfold setAdd
      refine wpAny_holding (wpAny_bind ((nestedKind P w).pyHash (A := A) hu hx ?_))
      refine put_in (s := { s with toks := s.toks + p.2.draws }) R hx hu (by omega) fun b h' L' es' ep' t' sb R' c1 c2 => ?_
      refine hQ b h' _ (Nat.le_add_right _ _) sb ⟨L', es', ep', t', R', ?_⟩
      rcases Classical.em (p.2 ∈ keysN L) with c | c
      · rw [c1 c]
        exact g.old hp c
      · exact g.new hp (c2 c)
theorem SetN.walked {h : Heap} {a : Addr} {L : List Row} {es : Array (Int × Value)} {ep : Nat} {t : SetTable} (R : SetN w h a L es ep t) : Walked w h a (L.map fun p => Value.ref p.1) := by
  obtain ⟨o, ho, hex, hd⟩ := R.ob
  have hz := rowsN_len R.rows
  have hf := R.few
  refine ⟨es, ep, t, ⟨o, ho, hex.1, hd⟩, ?_, by rw [hz]; unfold scanBound; omega, R.tab.ris, R.led, ?_⟩
  · have := R.room
    refine fits_of (m := 0) ?_ R.tab.dm ?_
    · rw [hz, R.tab.sz]
      exact hashN_len L
    · rw [hz]
      omega
  · rw [R.rows, rowsN, List.map_map]
    rfl
theorem fills_strs (ks : List Tx) (hit : items.toList = ks.map fun p => Value.str p.1 p.2) (few : ks.length + 1 < scanBound) :
    Fills P w A S h0 items.size (fun i v => items[i]? = some v) (fun i h => ∃ L, SetS w h S L ∧ GotK (fun p : Tx => p.1) ks i L) where
  keep := fun i h h' ⟨L, R, g⟩ k1 k2 => ⟨L, R.at_ k1, g⟩
  step := fun i v s Q E hi hv ⟨L, R, g⟩ k2 hQ => by
    have hv' : items.toList[i]? = some v := by rw [Array.getElem?_toList]; exact hv
    rw [hit, List.getElem?_map] at hv'
    cases hp : ks[i]? with
    | none =>
      rw [hp] at hv'
      cases hv'
    | some p =>
      rw [hp] at hv'
      have ev : Value.str p.1 p.2 = v := Option.some.inj hv'
      subst ev
      have hlt : i < ks.length := (List.getElem?_eq_some_iff.mp hp).1
      have := g.len
      unfold setAdd
      refine wpAny_holding (wpAny_bind ((strKind P w).pyHash (strKind_is P w p.1 p.2) ?_))
      refine put_str (s := { s with toks := s.toks + 1 }) R p.1 p.2 (by omega) fun b h' L' sb R' c1 c2 => ?_
      refine hQ b h' _ (Nat.le_succ _) sb ⟨L', R', ?_⟩
      rcases Classical.em (p.1 ∈ L.map (·.1)) with c | c
      · rw [c1 c]
        exact g.old hp c
      · exact g.new hp (c2 c)
theorem SetS.walked {h : Heap} {a : Addr} {L : List Tx} (R : SetS w h a L) : Walked w h a (L.map fun p => Value.str p.1 p.2) := by
  obtain ⟨es, ep, t, ⟨o, ho, hex, hd⟩, hr, hf, ri, ld⟩ := R.ex
  refine ⟨es, ep, t, ⟨o, ho, hex.1, hd⟩, hf, by rw [rowT_len hr]; exact R.few, ri, ld, ?_⟩
  rw [hr, List.map_map]
  rfl
/-- a new set, empty -/
theorem new_rows {h : Heap} {ks : List Row} (ho : h.get? S = some (newSet w)) : ∃ L es ep t, SetN w h S L es ep t ∧ GotK (fun p : Row => p.2) ks 0 L := by
  refine ⟨[], #[], 0, _, ⟨⟨_, ho, ⟨rfl, rfl, rfl⟩, rfl⟩, rfl, ⟨List.Pairwise.nil, rfl, rfl, .inl rfl, fun x hx => absurd hx List.not_mem_nil, fun i h j hi => by cases hi⟩, List.nodup_nil, fun p hp => absurd hp List.not_mem_nil, ?_, ?_, ?_⟩, gotK_none⟩
  · show _ ∨ (!w.params.followText "set-order") = true
    cases w.params.followText "set-order"
    · exact .inr rfl
    · exact .inl rfl
  · show 0 * 5 < 7 * 3
    decide
  · show 0 < 64
    decide
theorem new_strs {h : Heap} {ks : List Tx} (ho : h.get? S = some (newSet w)) : ∃ L, SetS w h S L ∧ GotK (fun p : Tx => p.1) ks 0 L := by
  refine ⟨[], ⟨List.nodup_nil, by show 0 < 4096; decide, #[], 0, _, ⟨_, ho, ⟨rfl, rfl, rfl⟩, rfl⟩, rfl, rfl, List.Pairwise.nil, ?_⟩, gotK_none⟩
  show _ ∨ (!w.params.followText "set-order") = true
  cases w.params.followText "set-order"
  · exact .inr rfl
  · exact .inl rfl
end
end RB
/-! RS7: set(list), set(tuple); sorted of what can be walked. -/
namespace RB
open PySem PySem.Spec PyProof.Rows L2
section
variable {P : Program} {w : World} {A : Around} {E : Value → Shared → Prop} {s : Shared} {l : Addr} {items : Array Value} {J : Nat → Heap → Prop} {Q : Value → Shared → Prop}
theorem set_list (hh : A.handled = none) (hl : s.heap.IsList l items) (F1 : Fills P w A.in1.in1.in1 s.heap.objs.size s.heap items.size (fun i v => items[i]? = some v) J)
    (j0 : ∀ h, h.get? s.heap.objs.size = some (newSet w) → (∀ b o, s.heap.get? b = some o → h.get? b = some o) → J 0 h)
    (h : ∀ (h' : Heap) (tk : Nat), J items.size h' → (∀ b o, s.heap.get? b = some o → h'.get? b = some o) → Q (.ref s.heap.objs.size) { s with heap := h', toks := tk }) : wpAny (model P w) A (call (.type "set") [.ref l]) Q E s := by
  obtain ⟨⟨oc, od, odt, osl⟩, ho, hc, n, hd⟩ := hl
  simp only at hc hd
  subst hc
  subst hd
  refine call_set_walk (T := "list") (it := "list_iterator") (J := J) hh ho F.sub_list_set F.sub_list_frozenset (by decide) (fun A' E' Q' z e q => wpAny_pyIter_list ⟨_, e, rfl, n, rfl⟩ q) (fun A' g hA e => ?_) F1 j0 h
  have ne : l ≠ g.objs.size := Nat.ne_of_lt (Heap.lt_size e)
  have isl : g.IsList l items := ⟨_, e, rfl, n, rfl⟩
  exact ⟨_, Walks.list hA _ l ne items, ⟨_, Heap.get?_push_size _ rfl, rfl, rfl⟩, isl.push _⟩
theorem set_tuple (hh : A.handled = none) (hl : s.heap.IsTuple l items) (F1 : Fills P w A.in1.in1.in1 s.heap.objs.size s.heap items.size (fun i v => items[i]? = some v) J)
    (j0 : ∀ h, h.get? s.heap.objs.size = some (newSet w) → (∀ b o, s.heap.get? b = some o → h.get? b = some o) → J 0 h)
    (h : ∀ (h' : Heap) (tk : Nat), J items.size h' → (∀ b o, s.heap.get? b = some o → h'.get? b = some o) → Q (.ref s.heap.objs.size) { s with heap := h', toks := tk }) : wpAny (model P w) A (call (.type "set") [.ref l]) Q E s := by
  obtain ⟨⟨oc, od, odt, osl⟩, ho, hc, n, hd⟩ := hl
  simp only at hc hd
  subst hc
  subst hd
  refine call_set_walk (T := "tuple") (it := "tuple_iterator") (J := J) hh ho F.sub_tuple_set F.sub_tuple_frozenset (by decide) (fun A' E' Q' z e q => wpAny_pyIter_tuple ⟨_, e, rfl, n, rfl⟩ q) (fun A' g hA e => ?_) F1 j0 h
  have ne : l ≠ g.objs.size := Nat.ne_of_lt (Heap.lt_size e)
  have ist : g.IsTuple l items := ⟨_, e, rfl, n, rfl⟩
  exact ⟨_, Walks.tuple hA _ l ne items, ⟨_, Heap.get?_push_size _ rfl, rfl, rfl⟩, ist.push _⟩
/-- sorted(a), a a set that can be walked -/
theorem sorted_walked {a : Addr} {vs : List Value} {ltv : Value → Value → Bool} (hh : A.handled = none) (W : Walked w s.heap a vs) (O : SrtO.Swo ltv)
    (hS : ∀ (z : Shared) (b : Addr) (us : List Value), us.Perm vs → 2 ≤ us.length → (∀ c o, s.heap.get? c = some o → c ≠ b ∧ z.heap.get? c = some o) → SrtO.SortableO P w A.in1.in1 z b us ltv)
    (h : ∀ (s' : Shared) (p : Addr) (out : List Value) (n : Nat), (∀ b o, s.heap.get? b = some o → s'.heap.get? b = some o) → s'.gens = s.gens → s'.os = s.os → s.heap.objs.size ≤ p → s'.heap.get? p = some (seqObj "list" out.toArray n) → out.Perm vs → SrtO.Srtd ltv out → Q (.ref p) s') :
    wpAny (model P w) A (call (.builtin "sorted") [.ref a]) Q E s := by
  obtain ⟨es, ep, t, ha, hf, hb, ri, ld, ev⟩ := W
  refine Calls.call_function_entry kind_sorted plain_sorted entry_sorted (args_sorted1 _) ?_
  unfold Builtin.«sorted»
  refine wpAny_bind (m := checkCount "sorted" 1 1 _) (wpAny_pure ?_)
  refine wpAny_bind (collect_set (A := A.in1) hh ha hf hb ri ld fun s1 us k1 hz g1 o1 pm => ?_)
  rw [ev] at pm
  have hl : us.length ≤ sizeLine := by
    have e : vs.length = es.size := by rw [← ev, List.length_map, Array.length_toList]
    rw [pm.length_eq, e]
    exact fits_of_scanBound hb
  refine wpAny_bind (wpAny_newList ?_ hl)
  have hoL : (s1.heap.push (seqObj "list" us.toArray 0)).get? s1.heap.objs.size = some (seqObj "list" us.toArray 0) := Heap.get?_push_size _ rfl
  have kp : ∀ c o, s.heap.get? c = some o → c ≠ s1.heap.objs.size ∧ (s1.heap.push (seqObj "list" us.toArray 0)).get? c = some o := fun c o e => ⟨Nat.ne_of_lt (Heap.lt_size (k1 c o e)), Heap.get?_push_of_some _ (k1 c o e)⟩
  refine wpAny_bind (wpAny_holding (wpAny_call_entry slot_list_sort ⟨_, hoL, rfl⟩ entry_list_sort (SrtO.list_sort_ord (s := { s1 with heap := s1.heap.push (seqObj "list" us.toArray 0) }) O hoL hl (fun h2 => hS _ _ us pm h2 kp) fun out hs hb2 => ⟨_, rfl, ?_⟩) (args_list_sort _)))
  obtain ⟨c, hc⟩ := sortedHeap_at (vs := us) (out := out.toArray) hoL
  refine wpAny_pure ⟨_, rfl, h _ s1.heap.objs.size out c (fun b o e => ?_) g1 o1 hz hc (hb2.perm.trans pm) hs⟩
  have q := k1 b o e
  show (sortedHeap (s1.heap.push (seqObj "list" us.toArray 0)) s1.heap.objs.size us out.toArray).get? b = some o
  rw [sortedHeap_old (Nat.ne_of_lt (Heap.lt_size q)) (by rw [size_push']; exact Nat.lt_succ_of_lt (Heap.lt_size q))]
  exact Heap.get?_push_of_some _ q
end
end RB
/-! RB1: the plain semantics (values, heap, results) and how plain states stand to the hand layer's heaps. -/
namespace RB
open PySem PySem.Spec L2
/-! ### plain values -/
/-- data (lists in it never change), or a place of the plain heap -/
inductive U where
  | d (x : PyData)
  | r (n : Nat)
  | x (a dd : Addr) (fs : List (Str × PyData))
/-- what may change: a list of data, a dict with text keys -/
inductive O where
  | lst (xs : List PyData)
  | dct (kvs : List (Str × PyData))
abbrev AH := List O
abbrev Lc := List (Option U)
inductive R (α : Type) where
  | ok (a : α) (h : AH)
  | exc (c : Str) (fs : List (Str × PyData)) (h : AH)
  | stuck
def R.bind {α β : Type} (r : R α) (k : α → AH → R β) : R β := match r with
  | .ok a h => k a h
  | .exc c fs h => .exc c fs h
  | .stuck => .stuck
/-- an option as a result that leaves the heap -/
def R.of {α : Type} (o : Option α) (h : AH) : R α := match o with
  | some a => .ok a h
  | none => .stuck
theorem R.bind_ok {α β : Type} (a : α) (h : AH) (k : α → AH → R β) : (R.ok a h).bind k = k a h := rfl
theorem R.bind_exc {α β : Type} (c : Str) (fs : List (Str × PyData)) (h : AH) (k : α → AH → R β) : (R.exc c fs h).bind k = .exc c fs h := rfl
theorem R.bind_stuck {α β : Type} (k : α → AH → R β) : (R.stuck).bind k = .stuck := rfl
/-! ### data in the hand layer's heap -/
/-- a list that never changes any more -/
def SL (H : Hp) (a : Addr) (xs : List V) : Prop := ∃ o, H a = some (.frz o (.lst xs))
theorem SL.sq {K : PySem.W.Frag} {H : Hp} {a : Addr} {xs : List V} (h : SL H a xs) : SqL K H a xs := .inl (.inr h)
mutual
inductive Rp (K : PySem.W.Frag) (H : Hp) : V → PyData → Prop
  | non : Rp K H .non .none
  | bl (b : Bool) : Rp K H (.bl b) (.bool b)
  | int (i : Int) : Rp K H (.int i) (.int i)
  | str (x : Str) : Rp K H (.str x) (.str x)
  | lst {a : Addr} {xs : List V} {ds : List PyData} : SL H a xs → RpA K H xs ds → Rp K H (.ref a) (.list ds)
  | tup {a : Addr} {xs : List V} {ds : List PyData} : SqT K H a xs → RpA K H xs ds → Rp K H (.ref a) (.tuple ds)
inductive RpA (K : PySem.W.Frag) (H : Hp) : List V → List PyData → Prop
  | nil : RpA K H [] []
  | cons {v : V} {vs : List V} {d : PyData} {ds : List PyData} : Rp K H v d → RpA K H vs ds → RpA K H (v :: vs) (d :: ds)
end
/-- what never changes stays -/
structure Keep (H H' : Hp) : Prop where
  tup : ∀ b xs, H b = some (.tup xs) → H' b = some (.tup xs)
  frz : ∀ b o u, H b = some (.frz o u) → H' b = some (.frz o u)
theorem Keep.refl (H : Hp) : Keep H H := ⟨fun _ _ h => h, fun _ _ _ h => h⟩
theorem Keep.trans {H H1 H2 : Hp} (a : Keep H H1) (b : Keep H1 H2) : Keep H H2 := ⟨fun c xs h => b.tup c xs (a.tup c xs h), fun c o u h => b.frz c o u (a.frz c o u h)⟩
theorem Keep.same {H H' : Hp} (s : Same H H') : Keep H H' := ⟨fun b xs h => s b _ h, fun b o u h => s b _ h⟩
theorem Keep.sqT {K : PySem.W.Frag} {H H' : Hp} {a : Addr} {xs : List V} (k : Keep H H') (h : SqT K H a xs) : SqT K H' a xs := by
  rcases h with (h | ⟨o, h⟩) | h
  · exact .inl (.inl (k.tup _ _ h))
  · exact .inl (.inr ⟨o, k.frz _ _ _ h⟩)
  · exact .inr h
theorem Keep.sl {H H' : Hp} {a : Addr} {xs : List V} (k : Keep H H') (h : SL H a xs) : SL H' a xs := by
  obtain ⟨o, h⟩ := h
  exact ⟨o, k.frz _ _ _ h⟩
mutual
theorem Rp.keep {K : PySem.W.Frag} {H H' : Hp} (k : Keep H H') : ∀ (d : PyData) (v : V), Rp K H v d → Rp K H' v d
  | .none, _, h => by cases h; exact .non
  | .bool b, _, h => by cases h; exact .bl b
  | .int i, _, h => by cases h; exact .int i
  | .str x, _, h => by cases h; exact .str x
  | .list ds, _, h => by
    cases h with
    | lst hs ha => exact .lst (k.sl hs) (RpA.keep k ds _ ha)
  | .tuple ds, _, h => by
    cases h with
    | tup hs ha => exact .tup (k.sqT hs) (RpA.keep k ds _ ha)
  | .dict _, _, h => by cases h
theorem RpA.keep {K : PySem.W.Frag} {H H' : Hp} (k : Keep H H') : ∀ (ds : List PyData) (vs : List V), RpA K H vs ds → RpA K H' vs ds
  | [], _, h => by cases h; exact .nil
  | d :: ds, _, h => by
    cases h with
    | cons h1 h2 => exact .cons (Rp.keep k d _ h1) (RpA.keep k ds _ h2)
end
theorem Rp.kp {K : PySem.W.Frag} {H H' : Hp} {v : V} {d : PyData} (h : Rp K H v d) (k : Keep H H') : Rp K H' v d := Rp.keep k d v h
theorem RpA.kp {K : PySem.W.Frag} {H H' : Hp} {vs : List V} {ds : List PyData} (h : RpA K H vs ds) (k : Keep H H') : RpA K H' vs ds := RpA.keep k ds vs h
mutual
theorem Rp.dpR {K : PySem.W.Frag} {H : Hp} : ∀ (d : PyData) (v : V), Rp K H v d → Dp K H v d
  | .none, _, h => by cases h; exact .non
  | .bool b, _, h => by cases h; exact .bl b
  | .int i, _, h => by cases h; exact .int i
  | .str x, _, h => by cases h; exact .str x
  | .list ds, _, h => by
    cases h with
    | lst hs ha => exact .lst hs.sq (RpA.dpR ds _ ha)
  | .tuple ds, _, h => by
    cases h with
    | tup hs ha => exact .tup hs (RpA.dpR ds _ ha)
  | .dict _, _, h => by cases h
theorem RpA.dpR {K : PySem.W.Frag} {H : Hp} : ∀ (ds : List PyData) (vs : List V), RpA K H vs ds → DpAll K H vs ds
  | [], _, h => by cases h; exact .nil
  | d :: ds, _, h => by
    cases h with
    | cons h1 h2 => exact .cons (Rp.dpR d _ h1) (RpA.dpR ds _ h2)
end
theorem Rp.dp {K : PySem.W.Frag} {H : Hp} {v : V} {d : PyData} (h : Rp K H v d) : Dp K H v d := Rp.dpR d v h
theorem RpA.length {K : PySem.W.Frag} {H : Hp} : ∀ {ds : List PyData} {vs : List V}, RpA K H vs ds → vs.length = ds.length
  | [], _, h => by cases h; rfl
  | d :: ds, _, h => by
    cases h with
    | cons h1 h2 => exact congrArg (· + 1) (RpA.length h2)
theorem RpA.get {K : PySem.W.Frag} {H : Hp} : ∀ {ds : List PyData} {vs : List V} {i : Nat} {d : PyData}, RpA K H vs ds → ds[i]? = some d → ∃ v, vs[i]? = some v ∧ Rp K H v d
  | [], _, i, d, h, e => by simp at e
  | x :: ds, _, 0, d, h, e => by
    cases h with
    | cons h1 h2 =>
      have e' : x = d := by simpa using e
      subst e'
      exact ⟨_, rfl, h1⟩
  | x :: ds, _, i + 1, d, h, e => by
    cases h with
    | cons h1 h2 =>
      obtain ⟨v, e1, r⟩ := RpA.get (i := i) (d := d) h2 (by simpa using e)
      exact ⟨v, by simpa using e1, r⟩
theorem RpA.getV {K : PySem.W.Frag} {H : Hp} : ∀ {ds : List PyData} {vs : List V} {i : Nat} {v : V}, RpA K H vs ds → vs[i]? = some v → ∃ d, ds[i]? = some d ∧ Rp K H v d
  | [], _, i, v, h, e => by cases h; simp at e
  | x :: ds, _, 0, v, h, e => by
    cases h with
    | cons h1 h2 =>
      rename_i w ws
      have e' : w = v := by simpa using e
      subst e'
      exact ⟨_, rfl, h1⟩
  | x :: ds, _, i + 1, v, h, e => by
    cases h with
    | cons h1 h2 =>
      obtain ⟨d, e1, r⟩ := RpA.getV (i := i) (v := v) h2 (by simpa using e)
      exact ⟨d, by simpa using e1, r⟩
theorem RpA.app {K : PySem.W.Frag} {H : Hp} : ∀ {ds es : List PyData} {vs ws : List V}, RpA K H vs ds → RpA K H ws es → RpA K H (vs ++ ws) (ds ++ es)
  | [], _, _, _, h, g => by cases h; exact g
  | d :: ds, _, _, _, h, g => by
    cases h with
    | cons h1 h2 => exact .cons h1 (RpA.app h2 g)
theorem RpA.take {K : PySem.W.Frag} {H : Hp} : ∀ {ds : List PyData} {vs : List V} (n : Nat), RpA K H vs ds → RpA K H (vs.take n) (ds.take n)
  | _, _, 0, _ => by simp only [List.take_zero]; exact .nil
  | [], _, n + 1, h => by cases h; exact .nil
  | d :: ds, _, n + 1, h => by
    cases h with
    | cons h1 h2 => exact .cons h1 (RpA.take n h2)
theorem RpA.drop {K : PySem.W.Frag} {H : Hp} : ∀ {ds : List PyData} {vs : List V} (n : Nat), RpA K H vs ds → RpA K H (vs.drop n) (ds.drop n)
  | _, _, 0, h => h
  | [], _, n + 1, h => by cases h; exact .nil
  | d :: ds, _, n + 1, h => by
    cases h with
    | cons h1 h2 => exact RpA.drop n h2
theorem RpA.snoc {K : PySem.W.Frag} {H : Hp} {ds : List PyData} {vs : List V} {d : PyData} {v : V} (h : RpA K H vs ds) (g : Rp K H v d) : RpA K H (vs ++ [v]) (ds ++ [d]) := h.app (.cons g .nil)
theorem RpA.rev {K : PySem.W.Frag} {H : Hp} : ∀ {ds : List PyData} {vs : List V}, RpA K H vs ds → RpA K H vs.reverse ds.reverse
  | [], _, h => by cases h; exact .nil
  | d :: ds, _, h => by
    cases h with
    | cons h1 h2 =>
      rw [List.reverse_cons, List.reverse_cons]
      exact (RpA.rev h2).snoc h1
/-! ### plain states in the hand layer's heap -/
/-- what a whole law is over: the written part, the tables of code objects, the module's names -/
structure Gb where
  K : PySem.W.Frag
  T : List (Addr × Str)
  mg : Str → Option Value
def RpK (K : PySem.W.Frag) (H : Hp) (p : Key × V) (q : Str × PyData) : Prop := p.1 = Sum.inr q.1 ∧ Rp K H p.2 q.2
def OR (K : PySem.W.Frag) (H : Hp) (a : Addr) : O → Prop
  | .lst ds => ∃ vs, H a = some (.lst vs) ∧ RpA K H vs ds
  | .dct kvs => ∃ ws : List (Key × V), H a = some (.dK ws) ∧ Paired (RpK K H) ws kvs
structure Sim (G : Gb) (ρ : Nat → Addr) (h : AH) (H : Hp) : Prop where
  obj : ∀ (n : Nat) (o : O), h[n]? = some o → OR G.K H (ρ n) o
  inj : ∀ n m, n < h.length → m < h.length → ρ n = ρ m → n = m
  tab : LamX.Tabs G.T H
/-- nothing tracked, or a table of code objects -/
def Fr : Option HO → Prop
  | none => True
  | some (.tbl _) => True
  | _ => False
theorem Fr.stay {o : Option HO} {o' : Option HO} (h : ∀ u, o = some u → (∀ ps, u ≠ .tbl ps) → o' = some u) (q : Fr o') : Fr o := by
  cases o with
  | none => exact True.intro
  | some u =>
    by_cases z : ∀ ps, u ≠ .tbl ps
    · have e := h u rfl z
      rw [e] at q
      exact q
    · cases u <;> first | exact True.intro | exact absurd (fun ps y => by cases y) z
/-- from one state to a later one: what never changes stays, places stay, what is not a place (and no table) stays, new places were free -/
structure Ext (ρ : Nat → Addr) (h : AH) (H : Hp) (ρ' : Nat → Addr) (h' : AH) (H' : Hp) : Prop where
  keep : Keep H H'
  len : h.length ≤ h'.length
  same : ∀ n, n < h.length → ρ' n = ρ n
  frame : ∀ b o, H b = some o → (∀ n, n < h.length → ρ n ≠ b) → (∀ ps, o ≠ .tbl ps) → H' b = some o
  new : ∀ n, h.length ≤ n → n < h'.length → Fr (H (ρ' n))
  there : ∀ b, Fr (H' b) → Fr (H b)
theorem Ext.refl (ρ : Nat → Addr) (h : AH) (H : Hp) : Ext ρ h H ρ h H := ⟨.refl H, Nat.le_refl _, fun _ _ => rfl, fun _ _ e _ _ => e, fun _ h1 h2 => absurd h1 (Nat.not_le_of_lt h2), fun _ e => e⟩
theorem Ext.trans {ρ ρ1 ρ2 : Nat → Addr} {h h1 h2 : AH} {H H1 H2 : Hp} (a : Ext ρ h H ρ1 h1 H1) (b : Ext ρ1 h1 H1 ρ2 h2 H2) : Ext ρ h H ρ2 h2 H2 where
  keep := a.keep.trans b.keep
  len := Nat.le_trans a.len b.len
  same := fun n hn => (b.same n (Nat.lt_of_lt_of_le hn a.len)).trans (a.same n hn)
  frame := fun c o e hn ht => by
    refine b.frame c o (a.frame c o e hn ht) (fun n hn1 z => ?_) ht
    by_cases hl : n < h.length
    · exact hn n hl ((a.same n hl).symm.trans z)
    · have q := a.new n (by omega) hn1
      rw [z, e] at q
      cases o <;> first | exact q.elim | exact absurd rfl (ht _)
  new := fun n h1' h2' => by
    by_cases hl : n < h1.length
    · rw [b.same n hl]
      exact a.new n h1' hl
    · exact a.there _ (b.new n (by omega) h2')
  there := fun c e => a.there c (b.there c e)
theorem Ext.grow {ρ : Nat → Addr} {h : AH} {H H' : Hp} (s : Same H H') : Ext ρ h H ρ h H' := ⟨.same s, Nat.le_refl _, fun _ _ => rfl, fun b o e _ _ => s b o e, fun _ h1 h2 => absurd h1 (Nat.not_le_of_lt h2), fun b e => Fr.stay (fun u q _ => s b u q) e⟩
theorem pairK {K : PySem.W.Frag} {H H' : Hp} (k : Keep H H') : ∀ {ws : List (Key × V)} {kvs : List (Str × PyData)}, Paired (RpK K H) ws kvs → Paired (RpK K H') ws kvs
  | _, _, .nil => .nil
  | _, _, .cons r t => .cons ⟨r.1, r.2.kp k⟩ (pairK k t)
theorem OR.same {K : PySem.W.Frag} {H H' : Hp} {a : Addr} {o : O} (s : Same H H') (h : OR K H a o) : OR K H' a o := by
  cases o with
  | lst ds => obtain ⟨vs, e, r⟩ := h; exact ⟨vs, s _ _ e, r.kp (.same s)⟩
  | dct kvs => obtain ⟨ws, e, r⟩ := h; exact ⟨ws, s _ _ e, pairK (.same s) r⟩
theorem Sim.grow {G : Gb} {ρ : Nat → Addr} {h : AH} {H H' : Hp} (m : Sim G ρ h H) (s : Same H H') : Sim G ρ h H' := ⟨fun n o e => (m.obj n o e).same s, m.inj, m.tab.ext s⟩
theorem OR.some {K : PySem.W.Frag} {H : Hp} {a : Addr} {o : O} (h : OR K H a o) : ∃ u, H a = some u ∧ Mut (some u) := by
  cases o with
  | lst ds => obtain ⟨vs, e, r⟩ := h; exact ⟨_, e, True.intro⟩
  | dct kvs => obtain ⟨ws, e, r⟩ := h; exact ⟨_, e, True.intro⟩
def XD (K : PySem.W.Frag) (H : Hp) (dd : Addr) (fs : List (Str × PyData)) : Prop := ∃ vfs : List (Str × V), H dd = some (.xd vfs) ∧ Paired (fun (p : Str × V) (q : Str × PyData) => p.1 = q.1 ∧ Rp K H p.2 q.2) vfs fs
theorem pairX {K : PySem.W.Frag} {H H' : Hp} (k : Keep H H') : ∀ {vfs : List (Str × V)} {fs : List (Str × PyData)}, Paired (fun (p : Str × V) (q : Str × PyData) => p.1 = q.1 ∧ Rp K H p.2 q.2) vfs fs → Paired (fun (p : Str × V) (q : Str × PyData) => p.1 = q.1 ∧ Rp K H' p.2 q.2) vfs fs
  | _, _, .nil => .nil
  | _, _, .cons r t => .cons ⟨r.1, r.2.kp k⟩ (pairX k t)
def RU (K : PySem.W.Frag) (H : Hp) (ρ : Nat → Addr) (h : AH) (v : V) : U → Prop
  | .d x => Rp K H v x
  | .r n => n < h.length ∧ v = .ref (ρ n)
  | .x a dd fs => v = .ref a ∧ XD K H dd fs ∧ ∀ n, n < h.length → ρ n ≠ dd
theorem RU.ext {K : PySem.W.Frag} {H H' : Hp} {ρ ρ' : Nat → Addr} {h h' : AH} {v : V} {u : U} (r : RU K H ρ h v u) (e : Ext ρ h H ρ' h' H') : RU K H' ρ' h' v u := by
  cases u with
  | d x => exact Rp.kp (show Rp K H v x from r) e.keep
  | r n => exact ⟨Nat.lt_of_lt_of_le r.1 e.len, r.2.trans (by rw [e.same n r.1])⟩
  | x a dd fs =>
    obtain ⟨r1, ⟨vfs, r2, r3⟩, r4⟩ := r
    refine ⟨r1, ⟨vfs, e.frame dd _ r2 r4 (fun ps z => nomatch z), pairX e.keep r3⟩, fun n hn z => ?_⟩
    by_cases hl : n < h.length
    · rw [e.same n hl] at z
      exact r4 n hl z
    · have q := e.new n (by omega) hn
      rw [z, r2] at q
      cases q
abbrev RUs (K : PySem.W.Frag) (H : Hp) (ρ : Nat → Addr) (h : AH) : List V → List U → Prop := Paired (RU K H ρ h)
theorem RUs.ext {K : PySem.W.Frag} {H H' : Hp} {ρ ρ' : Nat → Addr} {h h' : AH} (e : Ext ρ h H ρ' h' H') : ∀ {vs : List V} {us : List U}, RUs K H ρ h vs us → RUs K H' ρ' h' vs us
  | _, _, .nil => .nil
  | _, _, .cons r t => .cons (RU.ext r e) (RUs.ext e t)
/-- the slots -/
structure Sl (K : PySem.W.Frag) (H : Hp) (ρ : Nat → Addr) (h : AH) (σ : St) (l : Lc) : Prop where
  len : l.length = σ.length
  at_ : ∀ (i : Nat) (u : U), l[i]? = some (some u) → ∃ v, σ[i]? = some (some v) ∧ RU K H ρ h v u
theorem Sl.ext {K : PySem.W.Frag} {H H' : Hp} {ρ ρ' : Nat → Addr} {h h' : AH} {σ : St} {l : Lc} (s : Sl K H ρ h σ l) (e : Ext ρ h H ρ' h' H') : Sl K H' ρ' h' σ l :=
  ⟨s.len, fun i u q => let ⟨v, q1, q2⟩ := s.at_ i u q; ⟨v, q1, q2.ext e⟩⟩
theorem Sl.set {K : PySem.W.Frag} {H : Hp} {ρ : Nat → Addr} {h : AH} {σ : St} {l : Lc} (s : Sl K H ρ h σ l) {v : V} {u : U} (r : RU K H ρ h v u) (i : Nat) : Sl K H ρ h (σ.set i (some v)) (l.set i (some u)) := by
  refine ⟨by rw [List.length_set, List.length_set]; exact s.len, fun j w q => ?_⟩
  by_cases e : i = j
  · subst e
    by_cases hi : i < l.length
    · rw [List.getElem?_set_self hi] at q
      cases q
      exact ⟨v, List.getElem?_set_self (by rw [← s.len]; exact hi), r⟩
    · rw [List.getElem?_eq_none (by rw [List.length_set]; omega)] at q
      cases q
  · rw [List.getElem?_set_ne e] at q
    rw [List.getElem?_set_ne e]
    exact s.at_ j w q
/-! ### results in the hand layer -/
def Rn {α β : Type} (G : Gb) (Rel : Hp → (Nat → Addr) → AH → β → α → Prop) (E : XK) (r : R α) (ρ : Nat → Addr) (h : AH) (H : Hp) (Q : β → Hp → Prop) : Prop := match r with
  | .ok a h' => ∀ ρ' H' b, Ext ρ h H ρ' h' H' → Sim G ρ' h' H' → Rel H' ρ' h' b a → Q b H'
  | .exc c fs h' => ∀ ρ' H' C dd, Ext ρ h H ρ' h' H' → Sim G ρ' h' H' → G.mg c = some (.ref C) → XD G.K H' dd fs → E (.ref C) (some dd) H'
  | .stuck => False
section
variable {α β γ δ : Type} {G : Gb} {Rel : Hp → (Nat → Addr) → AH → β → α → Prop} {Rel2 : Hp → (Nat → Addr) → AH → δ → γ → Prop} {E : XK} {ρ ρ' : Nat → Addr} {h h' : AH} {H H' : Hp}
theorem Rn.ext {r : R α} {Q : β → Hp → Prop} (x : Rn G Rel E r ρ h H Q) (e : Ext ρ h H ρ' h' H') : Rn G Rel E r ρ' h' H' Q := by
  cases r with
  | ok a h2 => exact fun ρ2 H2 b e2 s r => x ρ2 H2 b (e.trans e2) s r
  | exc c fs h2 => exact fun ρ2 H2 C dd e2 s m d => x ρ2 H2 C dd (e.trans e2) s m d
  | stuck => exact x
theorem Rn.mono {r : R α} {Q Q' : β → Hp → Prop} (x : Rn G Rel E r ρ h H Q) (f : ∀ b H', Q b H' → Q' b H') : Rn G Rel E r ρ h H Q' := by
  cases r with
  | ok a h2 => exact fun ρ2 H2 b e2 s r => f _ _ (x ρ2 H2 b e2 s r)
  | exc c fs h2 => exact x
  | stuck => exact x
theorem Rn.bind {r : R α} {k : α → AH → R γ} {Q : δ → Hp → Prop} (x : Rn G Rel2 E (r.bind k) ρ h H Q) :
    Rn G Rel E r ρ h H (fun b H1 => ∃ ρ1 h1 a, Ext ρ h H ρ1 h1 H1 ∧ Sim G ρ1 h1 H1 ∧ Rel H1 ρ1 h1 b a ∧ r = .ok a h1 ∧ Rn G Rel2 E (k a h1) ρ1 h1 H1 Q) := by
  cases r with
  | ok a h2 => exact fun ρ2 H2 b e2 s r => ⟨ρ2, h2, a, e2, s, r, rfl, x.ext e2⟩
  | exc c fs h2 => exact x
  | stuck => exact x
theorem Rn.here {a : α} {b : β} {Q : β → Hp → Prop} (x : Rn G Rel E (.ok a h) ρ h H Q) (s : Sim G ρ h H) (r : Rel H ρ h b a) : Q b H := x ρ H b (.refl _ _ _) s r
theorem Rn.at_ {a : α} {b : β} {Q : β → Hp → Prop} (x : Rn G Rel E (.ok a h') ρ h H Q) (e : Ext ρ h H ρ' h' H') (s : Sim G ρ' h' H') (r : Rel H' ρ' h' b a) : Q b H' := x ρ' H' b e s r
end
abbrev RelU (G : Gb) : Hp → (Nat → Addr) → AH → V → U → Prop := fun H ρ h v u => RU G.K H ρ h v u
abbrev RelUs (G : Gb) : Hp → (Nat → Addr) → AH → List V → List U → Prop := fun H ρ h vs us => RUs G.K H ρ h vs us
abbrev RelB : Hp → (Nat → Addr) → AH → Bool → Bool → Prop := fun _ _ _ b a => b = a
abbrev FE := Lc → AH → R U
abbrev FT := Lc → AH → R Bool
abbrev FA := Lc → AH → R (List U)
def tF (G : Gb) (E : XK) (g : FE) : TE := fun σ H Q => ∃ ρ l h, Sim G ρ h H ∧ Sl G.K H ρ h σ l ∧ Rn G (RelU G) E (g l h) ρ h H Q
def tFT (G : Gb) (E : XK) (g : FT) : TT := fun σ H Q => ∃ ρ l h, Sim G ρ h H ∧ Sl G.K H ρ h σ l ∧ Rn G RelB E (g l h) ρ h H Q
def tFA (G : Gb) (E : XK) (g : FA) : TA := fun σ H Q => ∃ ρ l h, Sim G ρ h H ∧ Sl G.K H ρ h σ l ∧ Rn G (RelUs G) E (g l h) ρ h H Q
/-- where a statement leads -/
inductive Fl where
  | nx (l : Lc)
  | rt (u : U)
  | bk (l : Lc)
  | ct (l : Lc)
inductive Cf where
  | nx (σ : St)
  | rt (v : V)
  | bk (σ : St)
  | ct (σ : St)
def RelF (G : Gb) (H : Hp) (ρ : Nat → Addr) (h : AH) : Cf → Fl → Prop
  | .nx σ, .nx l => Sl G.K H ρ h σ l
  | .rt v, .rt u => RU G.K H ρ h v u
  | .bk σ, .bk l => Sl G.K H ρ h σ l
  | .ct σ, .ct l => Sl G.K H ρ h σ l
  | _, _ => False
def endsQ (D : Ends) : Cf → Hp → Prop
  | .nx σ, H => D.nx σ H
  | .rt v, H => D.rt v H
  | .bk σ, H => D.bk σ H
  | .ct σ, H => D.ct σ H
abbrev FS := Lc → AH → R Fl
def tFS (G : Gb) (E : XK) (g : FS) : TS := fun D σ H => ∃ ρ l h, Sim G ρ h H ∧ Sl G.K H ρ h σ l ∧ Rn G (RelF G) E (g l h) ρ h H (endsQ D)
/-! ### weaker readings -/
section
variable {X : Cx}
theorem PE.imp {e : Expr} {t t' : TE} (p : PE X e t) (f : ∀ σ H Q, t' σ H Q → t σ H Q) : PE X e t' := ⟨fun pins s σ H Q I q => p.run pins s σ H Q I (f σ H Q q)⟩
theorem PT.imp {e : Expr} {t t' : TT} (p : PT X e t) (f : ∀ σ H Q, t' σ H Q → t σ H Q) : PT X e t' := ⟨fun pins s σ H Q I q => p.run pins s σ H Q I (f σ H Q q)⟩
theorem PA.imp {e : List Expr} {t t' : TA} (p : PA X e t) (f : ∀ σ H Q, t' σ H Q → t σ H Q) : PA X e t' := ⟨fun pos pins s σ H Q I q => p.run pos pins s σ H Q I (f σ H Q q)⟩
theorem PS.imp {e : Stmt} {t t' : TS} (p : PS X e t) (f : ∀ D σ H, t' D σ H → t D σ H) : PS X e t' := ⟨fun pins s σ H D I q => p.run pins s σ H D I (f D σ H q)⟩
theorem PSs.imp {e : List Stmt} {t t' : TS} (p : PSs X e t) (f : ∀ D σ H, t' D σ H → t D σ H) : PSs X e t' := ⟨fun pins s σ H D I q => p.run pins s σ H D I (f D σ H q)⟩
end
end RB
/-! RB2: rules of expressions in plain form. -/
namespace RB
open PySem PySem.Spec L2
/-! ### plain forms -/
def fVar (i : Nat) : FE := fun l h => match l[i]? with
  | some (some u) => .ok u h
  | _ => .stuck
def fC (x : PyData) : FE := fun _ h => .ok (.d x) h
def asD : U → Option PyData
  | .d x => some x
  | .r _ => none
  | .x _ _ _ => none
def allD : List U → Option (List PyData)
  | [] => some []
  | u :: r => match asD u, allD r with
    | some x, some xs => some (x :: xs)
    | _, _ => none
def fNil : FA := fun _ h => .ok [] h
def fCons (a : FE) (r : FA) : FA := fun l h => (a l h).bind fun x h1 => (r l h1).bind fun xs h2 => .ok (x :: xs) h2
def itemsOf : PyData → Option (List PyData)
  | .list xs => some xs
  | .tuple xs => some xs
  | _ => none
def seqU (h : AH) : U → Option (List PyData)
  | .d x => itemsOf x
  | .r n => match h[n]? with
    | some (.lst xs) => some xs
    | _ => none
  | .x _ _ _ => none
def fStar (a : FE) (r : FA) : FA := fun l h => (a l h).bind fun x h1 => match seqU h1 x with
  | some xs => (r l h1).bind fun ys h2 => .ok (xs.map U.d ++ ys) h2
  | none => .stuck
def mkTup (us : List U) : Option U := (allD us).bind fun xs => if xs.length ≤ sizeLine then some (.d (.tuple xs)) else none
def mkLst (us : List U) : Option U := (allD us).bind fun xs => if xs.length ≤ sizeLine then some (.d (.list xs)) else none
def fTup (a : FA) : FE := fun l h => (a l h).bind fun us h1 => R.of (mkTup us) h1
def fLst (a : FA) : FE := fun l h => (a l h).bind fun us h1 => R.of (mkLst us) h1
/-- a list that is changed later: a place of the heap -/
def fMls (a : FA) : FE := fun l h => (a l h).bind fun us h1 => match mkLst us with
  | some (.d (.list xs)) => .ok (.r h1.length) (h1 ++ [.lst xs])
  | _ => .stuck
/-- what a value is worth now -/
def datU (h : AH) : U → Option PyData
  | .d x => some x
  | .r n => match h[n]? with
    | some (.lst xs) => some (.list xs)
    | _ => none
  | .x _ _ _ => none
def opU (op : PyData → PyData → Option PyData) (h : AH) (x y : U) : Option U := (datU h x).bind fun d => (datU h y).bind fun e => (op d e).map U.d
def unU (op : PyData → Option PyData) (h : AH) (x : U) : Option U := (datU h x).bind fun d => (op d).map U.d
/-- an operation on data -/
def fOp (op : PyData → PyData → Option PyData) (a b : FE) : FE := fun l h => (a l h).bind fun x h1 => (b l h1).bind fun y h2 => R.of (opU op h2 x y) h2
def fUn (op : PyData → Option PyData) (a : FE) : FE := fun l h => (a l h).bind fun x h1 => R.of (unU op h1 x) h1
def asB : U → Option Bool
  | .d (.bool b) => some b
  | _ => none
def fTe (a : FE) : FT := fun l h => (a l h).bind fun x h1 => R.of (asB x) h1
def fAnd (a b : FE) : FE := fun l h => (a l h).bind fun x h1 => match asB x with
  | some true => b l h1
  | some false => .ok (.d (.bool false)) h1
  | none => .stuck
def fOr (a b : FE) : FE := fun l h => (a l h).bind fun x h1 => match asB x with
  | some false => b l h1
  | some true => .ok (.d (.bool true)) h1
  | none => .stuck
def fIf (c : FT) (a b : FE) : FE := fun l h => (c l h).bind fun x h1 => match x with
  | true => a l h1
  | false => b l h1
def datUs (h : AH) : List U → Option (List PyData)
  | [] => some []
  | u :: r => match datU h u, datUs h r with
    | some x, some xs => some (x :: xs)
    | _, _ => none
/-- a built-in of data -/
def fCB (op : List PyData → Option PyData) (a : FA) : FE := fun l h => (a l h).bind fun us h1 => R.of ((datUs h1 us).bind fun xs => (op xs).map U.d) h1
/-! ### data operations -/
def addD : PyData → PyData → Option PyData
  | .int i, .int j => some (.int (i + j))
  | .str x, .str y => if x.length + y.length ≤ sizeLine then some (.str (x ++ y)) else none
  | .tuple xs, .tuple ys => if xs.length + ys.length ≤ sizeLine then some (.tuple (xs ++ ys)) else none
  | .list xs, .list ys => if xs.length + ys.length ≤ sizeLine then some (.list (xs ++ ys)) else none
  | _, _ => none
def subD : PyData → PyData → Option PyData
  | .int i, .int j => some (.int (i - j))
  | _, _ => none
def mulD : PyData → PyData → Option PyData
  | .int i, .int j => if (-(2 ^ 64) < i ∧ i < 2 ^ 64) ∨ (-(2 ^ 64) < j ∧ j < 2 ^ 64) then some (.int (i * j)) else none
  | .list xs, .int k => if 0 ≤ k ∧ k ≤ 1000 ∧ xs.length ≤ 1000 then some (.list (List.replicate k.toNat xs).flatten) else none
  | _, _ => none
def fdivD : PyData → PyData → Option PyData
  | .int i, .int j => if 0 < j ∧ j < 1073741824 then some (.int (i / j)) else none
  | _, _ => none
def modD : PyData → PyData → Option PyData
  | .int i, .int j => if 0 < j then some (.int (i % j)) else none
  | _, _ => none
def powD : PyData → PyData → Option PyData
  | .int i, .int j => if 0 ≤ j ∧ j ≤ 1000000 ∧ i.natAbs < 2 ^ 64 then some (.int (i ^ j.toNat)) else none
  | _, _ => none
def negD : PyData → Option PyData
  | .int i => some (.int (-i))
  | _ => none
def notD : PyData → Option PyData
  | .bool b => some (.bool (!b))
  | _ => none
def eqD (x y : PyData) : Option PyData := if SeqAt.shaped x && SeqAt.shaped y then some (.bool (PyData.eqv x y)) else none
def neD (x y : PyData) : Option PyData := if SeqAt.shaped x && SeqAt.shaped y then some (.bool (!PyData.eqv x y)) else none
def isNone : PyData → Bool
  | .none => true
  | _ => false
def isBl : PyData → Bool → Bool
  | .bool b, c => b == c
  | _, _ => false
def isD (x : PyData) : PyData → Option PyData
  | .none => some (.bool (isNone x))
  | .bool c => some (.bool (isBl x c))
  | _ => none
def isNotD (x : PyData) : PyData → Option PyData
  | .none => some (.bool (!isNone x))
  | .bool c => some (.bool (!isBl x c))
  | _ => none
/-! ### small facts -/
section
variable {G : Gb} {E : XK} {X : Cx}
theorem allD_rp {K : PySem.W.Frag} {H : Hp} {ρ : Nat → Addr} {h : AH} : ∀ {vs : List V} {us : List U} {xs : List PyData}, RUs K H ρ h vs us → allD us = some xs → RpA K H vs xs
  | [], [], xs, .nil, e => by cases (show some [] = some xs from e); exact .nil
  | _ :: _, .r n :: us, xs, .cons _ _, e => nomatch e
  | _ :: _, .x _ _ _ :: us, xs, .cons _ _, e => nomatch e
  | v :: vs, .d x :: us, xs, .cons r t, e => by
    unfold allD at e
    cases q : allD us with
    | none => rw [q] at e; exact nomatch e
    | some ys =>
      rw [q] at e
      cases e
      exact .cons r (allD_rp t q)
theorem same_new {H : Hp} {p : Addr} {o : HO} (h : H p = none) : Same H (upd H p o) := fun b x e => by
  rw [upd_ne (ne_of_none e h)]
  exact e
theorem same_new2 {H : Hp} {p : Addr} {o u : HO} (h : H p = none) : Same H (upd (upd H p o) p u) := fun b x e => by
  rw [upd_upd, upd_ne (ne_of_none e h)]
  exact e
/-- data at its top perhaps a list that may change -/
def Rq (K : PySem.W.Frag) (H : Hp) (v : V) (d : PyData) : Prop := Rp K H v d ∨ ∃ a vs ds, v = .ref a ∧ d = .list ds ∧ H a = some (.lst vs) ∧ RpA K H vs ds
theorem Rq.dp {K : PySem.W.Frag} {H : Hp} {v : V} {d : PyData} (h : Rq K H v d) : Dp K H v d := by
  rcases h with h | ⟨a, vs, ds, rfl, rfl, e, r⟩
  · exact h.dp
  · exact .lst (SqL.of e) (RpA.dpR _ _ r)
theorem Rq.list {K : PySem.W.Frag} {H : Hp} {v : V} {ds : List PyData} (h : Rq K H v (.list ds)) : ∃ a vs, v = .ref a ∧ SqL K H a vs ∧ RpA K H vs ds := by
  rcases h with h | ⟨a, vs, ds', rfl, e1, e, r⟩
  · cases h with
    | lst hs ha => exact ⟨_, _, rfl, hs.sq, ha⟩
  · cases e1
    exact ⟨a, vs, rfl, SqL.of e, r⟩
theorem Rq.tup {K : PySem.W.Frag} {H : Hp} {v : V} {ds : List PyData} (h : Rq K H v (.tuple ds)) : ∃ a vs, v = .ref a ∧ SqT K H a vs ∧ RpA K H vs ds := by
  rcases h with h | ⟨a, vs, ds', rfl, e1, e, r⟩
  · cases h with
    | tup hs ha => exact ⟨_, _, rfl, hs, ha⟩
  · cases e1
theorem Rq.int {K : PySem.W.Frag} {H : Hp} {v : V} {i : Int} (h : Rq K H v (.int i)) : v = .int i := by
  rcases h with h | ⟨a, vs, ds', rfl, e1, e, r⟩
  · cases h; rfl
  · cases e1
theorem Rq.str {K : PySem.W.Frag} {H : Hp} {v : V} {x : Str} (h : Rq K H v (.str x)) : v = .str x := by
  rcases h with h | ⟨a, vs, ds', rfl, e1, e, r⟩
  · cases h; rfl
  · cases e1
theorem Rq.bool {K : PySem.W.Frag} {H : Hp} {v : V} {x : Bool} (h : Rq K H v (.bool x)) : v = .bl x := by
  rcases h with h | ⟨a, vs, ds', rfl, e1, e, r⟩
  · cases h; rfl
  · cases e1
theorem Rq.none {K : PySem.W.Frag} {H : Hp} {v : V} (h : Rq K H v .none) : v = .non := by
  rcases h with h | ⟨a, vs, ds', rfl, e1, e, r⟩
  · cases h; rfl
  · cases e1
theorem datU_rq {ρ : Nat → Addr} {h : AH} {H : Hp} {v : V} {u : U} {d : PyData} (sm : Sim G ρ h H) (r : RU G.K H ρ h v u) (e : datU h u = some d) : Rq G.K H v d := by
  cases u with
  | x _ _ _ => exact nomatch e
  | d x =>
    cases (show some x = some d from e)
    exact .inl r
  | r n =>
    obtain ⟨hn, rfl⟩ := r
    have e' : (match h[n]? with | some (.lst xs) => some (.list xs) | _ => none) = some d := e
    cases q : h[n]? with
    | none => rw [q] at e'; exact nomatch e'
    | some o =>
      rw [q] at e'
      cases o with
      | dct _ => exact nomatch e'
      | lst ys =>
        cases (show some (PyData.list ys) = some d from e')
        obtain ⟨vs, e1, r1⟩ := sm.obj n _ q
        exact .inr ⟨_, vs, ys, rfl, rfl, e1, r1⟩
inductive RqA (K : PySem.W.Frag) (H : Hp) : List V → List PyData → Prop
  | nil : RqA K H [] []
  | cons {v : V} {vs : List V} {d : PyData} {ds : List PyData} : Rq K H v d → RqA K H vs ds → RqA K H (v :: vs) (d :: ds)
theorem datUs_rq {ρ : Nat → Addr} {h : AH} {H : Hp} (sm : Sim G ρ h H) : ∀ {vs : List V} {us : List U} {ds : List PyData}, RUs G.K H ρ h vs us → datUs h us = some ds → RqA G.K H vs ds
  | [], [], ds, .nil, e => by cases (show some [] = some ds from e); exact .nil
  | v :: vs, u :: us, ds, .cons r t, e => by
    unfold datUs at e
    cases q : datU h u with
    | none => rw [q] at e; exact nomatch e
    | some x =>
      cases q2 : datUs h us with
      | none => rw [q, q2] at e; exact nomatch e
      | some ys =>
        rw [q, q2] at e
        cases e
        exact .cons (datU_rq sm r q) (datUs_rq sm t q2)
/-- what an operation on data asks of the hand layer -/
def rD (K : PySem.W.Frag) (op : PyData → PyData → Option PyData) : R2 := fun x y H Q => ∃ d e z, Rq K H x d ∧ Rq K H y e ∧ op d e = some z ∧ ∀ v H', Same H H' → Rp K H' v z → Q v H'
def rD1 (K : PySem.W.Frag) (op : PyData → Option PyData) : V → Hp → VK → Prop := fun x H Q => ∃ d z, Rq K H x d ∧ op d = some z ∧ ∀ v H', Same H H' → Rp K H' v z → Q v H'
def rDn (K : PySem.W.Frag) (op : List PyData → Option PyData) : List V → Hp → VK → Prop := fun xs H Q => ∃ ds z, RqA K H xs ds ∧ op ds = some z ∧ ∀ v H', Same H H' → Rp K H' v z → Q v H'
theorem opU_some {op : PyData → PyData → Option PyData} {h : AH} {x y z : U} (e : opU op h x y = some z) : ∃ d c w, datU h x = some d ∧ datU h y = some c ∧ op d c = some w ∧ z = .d w := by
  unfold opU at e
  cases q1 : datU h x with
  | none => rw [q1] at e; exact nomatch e
  | some d =>
    cases q2 : datU h y with
    | none => rw [q1, q2] at e; exact nomatch e
    | some c =>
      rw [q1, q2] at e
      have e2 : (op d c).map U.d = some z := e
      cases q3 : op d c with
      | none => rw [q3] at e2; exact nomatch e2
      | some w =>
        rw [q3] at e2
        exact ⟨d, c, w, rfl, rfl, q3, (Option.some.inj e2).symm⟩
theorem unU_some {op : PyData → Option PyData} {h : AH} {x z : U} (e : unU op h x = some z) : ∃ d w, datU h x = some d ∧ op d = some w ∧ z = .d w := by
  unfold unU at e
  cases q1 : datU h x with
  | none => rw [q1] at e; exact nomatch e
  | some d =>
    rw [q1] at e
    have e2 : (op d).map U.d = some z := e
    cases q3 : op d with
    | none => rw [q3] at e2; exact nomatch e2
    | some w =>
      rw [q3] at e2
      exact ⟨d, w, rfl, q3, (Option.some.inj e2).symm⟩
/-- lock the new list -/
theorem EP.lock {pins : List (Addr × Obj)} {σ : St} {H : Hp} {Q : VK} {u : Value} {s' : Shared} (h : EP X pins σ (fun v H' => ∃ p vs, v = .ref p ∧ H p = none ∧ H' = upd H p (.lst vs) ∧ ∀ o, Q (.ref p) (upd (upd H p (.lst vs)) p (.frz o (.lst vs)))) u s') : EP X pins σ Q u s' := by
  obtain ⟨v, H', I, r, p, vs, rfl, hp, rfl, q⟩ := h
  obtain ⟨o, I2⟩ := I.lock upd_same True.intro
  exact ⟨_, _, I2, r, q o⟩
theorem rp_lst {K : PySem.W.Frag} {H : Hp} {p : Addr} {vs : List V} {ds : List PyData} (hp : H p = none) (r : RpA K H vs ds) (o : Obj) : Rp K (upd (upd H p (.lst vs)) p (.frz o (.lst vs))) (.ref p) (.list ds) :=
  .lst ⟨o, upd_same⟩ (r.kp (.same (same_new2 hp)))
theorem rp_tup {K : PySem.W.Frag} {H : Hp} {p : Addr} {vs : List V} {ds : List PyData} (hp : H p = none) (r : RpA K H vs ds) : Rp K (upd H p (.tup vs)) (.ref p) (.tuple ds) :=
  .tup (SqT.of upd_same) (r.kp (.same (same_new hp)))
/-! ### names, constants -/
theorem pf_var {i : Nat} {x : Str} {pos : Pos} (hN : X.N[i]? = some x) (hv : Vis X.env.scope x) (hd : (x == ("__debug__" : Str)) = false) (hcd : (x == ("__classdict__" : Str)) = false) : PE X (.Name x pos) (tF G E (fVar i)) := by
  refine PE.imp (pe_var hN hv hd hcd) fun σ H Q ⟨ρ, l, h, sm, sl, rn⟩ => ?_
  unfold fVar at rn
  cases e : l[i]? with
  | none => rw [e] at rn; exact rn.elim
  | some o =>
    rw [e] at rn
    cases o with
    | none => exact rn.elim
    | some u =>
      obtain ⟨v, e1, r⟩ := sl.at_ i u e
      exact ⟨v, e1, rn.here sm r⟩
theorem pf_c {e : Expr} {v : V} {x : PyData} (p : PE X e (tC v)) (r : ∀ H, Rp G.K H v x) : PE X e (tF G E (fC x)) :=
  PE.imp p fun _ H _ ⟨_, _, _, sm, _, rn⟩ => rn.here sm (r H)
/-! ### arguments and displays -/
theorem pf_nil : PA X [] (tFA G E fNil) := PA.imp pa_nil fun _ _ _ ⟨_, _, _, sm, _, rn⟩ => rn.here sm .nil
theorem pf_cons {e : Expr} {es : List Expr} {a : FE} {r : FA} (ha : PE X e (tF G E a)) (hr : PA X es (tFA G E r)) (hs : starEach (e :: es) X.env = (false, eval e X.env) :: starEach es X.env) : PA X (e :: es) (tFA G E (fCons a r)) := by
  refine PA.imp (pa_cons ha hr hs) fun σ H Q ⟨ρ, l, h, sm, sl, rn⟩ => ⟨ρ, l, h, sm, sl, rn.bind.mono ?_⟩
  rintro x H1 ⟨ρ1, h1, u, e1, s1, r1, _, n1⟩
  refine ⟨ρ1, l, h1, s1, sl.ext e1, n1.bind.mono ?_⟩
  rintro xs H2 ⟨ρ2, h2, us, e2, s2, r2, _, n2⟩
  exact n2.here s2 (.cons (RU.ext r1 e2) r2)
theorem rus_d {K : PySem.W.Frag} {H : Hp} {ρ : Nat → Addr} {h : AH} : ∀ {vs : List V} {xs : List PyData}, RpA K H vs xs → RUs K H ρ h vs (xs.map U.d)
  | _, [], r => by cases r; exact .nil
  | _, x :: xs, r => by
    cases r with
    | cons r1 r2 => exact .cons r1 (rus_d r2)
theorem rus_app {K : PySem.W.Frag} {H : Hp} {ρ : Nat → Addr} {h : AH} : ∀ {vs ws : List V} {us zs : List U}, RUs K H ρ h vs us → RUs K H ρ h ws zs → RUs K H ρ h (vs ++ ws) (us ++ zs)
  | _, _, _, _, .nil, t => t
  | _, _, _, _, .cons r s, t => .cons r (rus_app s t)
/-- a sequence as it stands -/
theorem seqU_at {K : PySem.W.Frag} {H : Hp} {ρ : Nat → Addr} {h : AH} {v : V} {u : U} {xs : List PyData} (sm : Sim G ρ h H) (r : RU G.K H ρ h v u) (e : seqU h u = some xs) :
    ∃ p vs, v = .ref p ∧ (SqT G.K H p vs ∨ SqL G.K H p vs) ∧ RpA G.K H vs xs := by
  cases u with
  | x _ _ _ => exact nomatch e
  | d x =>
    cases x with
    | list ys =>
      cases (show some ys = some xs from e)
      cases (show Rp G.K H v (.list xs) from r) with
      | lst hs ha => exact ⟨_, _, rfl, .inr hs.sq, ha⟩
    | tuple ys =>
      cases (show some ys = some xs from e)
      cases (show Rp G.K H v (.tuple xs) from r) with
      | tup hs ha => exact ⟨_, _, rfl, .inl hs, ha⟩
    | _ => exact nomatch e
  | r n =>
    obtain ⟨hn, rfl⟩ := r
    have e' : (match h[n]? with | some (.lst xs) => some xs | _ => none) = some xs := e
    cases q : h[n]? with
    | none => rw [q] at e'; exact nomatch e'
    | some o =>
      rw [q] at e'
      cases o with
      | dct _ => exact nomatch e'
      | lst ys =>
        cases (show some ys = some xs from e')
        obtain ⟨vs, e1, r1⟩ := sm.obj n _ q
        exact ⟨_, vs, rfl, .inr (SqL.of e1), r1⟩
theorem pf_star {e : Expr} {es : List Expr} {p : Pos} {a : FE} {r : FA} (hK : X.K = G.K) (ha : PE X e (tF G E a)) (hr : PA X es (tFA G E r)) (hs : starEach (.Starred e p :: es) X.env = (true, eval e X.env) :: starEach es X.env) : PA X (.Starred e p :: es) (tFA G E (fStar a r)) := by
  refine PA.imp (StX.pa_star ha hr hs) fun σ H Q ⟨ρ, l, h, sm, sl, rn⟩ => ⟨ρ, l, h, sm, sl, rn.bind.mono ?_⟩
  rintro x H1 ⟨ρ1, h1, u, e1, s1, r1, _, n1⟩
  cases q : seqU h1 u with
  | none => rw [q] at n1; exact n1.elim
  | some xs =>
    rw [q] at n1
    obtain ⟨p, vs, rfl, hsq, hrp⟩ := seqU_at (K := G.K) s1 r1 q
    rw [hK]
    refine ⟨p, vs, rfl, hsq, ρ1, l, h1, s1, sl.ext e1, n1.bind.mono ?_⟩
    rintro ys H2 ⟨ρ2, h2, us, e2, s2, r2, _, n2⟩
    exact n2.here s2 (rus_app (rus_d (hrp.kp e2.keep)) r2)
theorem mkTup_some {us : List U} {u : U} (e : mkTup us = some u) : ∃ xs, allD us = some xs ∧ xs.length ≤ sizeLine ∧ u = .d (.tuple xs) := by
  unfold mkTup at e
  cases q : allD us with
  | none => rw [q] at e; exact nomatch e
  | some xs =>
    rw [q] at e
    by_cases hl : xs.length ≤ sizeLine
    · have e2 : (if xs.length ≤ sizeLine then some (U.d (.tuple xs)) else none) = some u := e
      rw [if_pos hl] at e2
      exact ⟨xs, rfl, hl, (Option.some.inj e2).symm⟩
    · have e2 : (if xs.length ≤ sizeLine then some (U.d (.tuple xs)) else none) = some u := e
      rw [if_neg hl] at e2
      exact nomatch e2
theorem mkLst_some {us : List U} {u : U} (e : mkLst us = some u) : ∃ xs, allD us = some xs ∧ xs.length ≤ sizeLine ∧ u = .d (.list xs) := by
  unfold mkLst at e
  cases q : allD us with
  | none => rw [q] at e; exact nomatch e
  | some xs =>
    rw [q] at e
    by_cases hl : xs.length ≤ sizeLine
    · have e2 : (if xs.length ≤ sizeLine then some (U.d (.list xs)) else none) = some u := e
      rw [if_pos hl] at e2
      exact ⟨xs, rfl, hl, (Option.some.inj e2).symm⟩
    · have e2 : (if xs.length ≤ sizeLine then some (U.d (.list xs)) else none) = some u := e
      rw [if_neg hl] at e2
      exact nomatch e2
theorem pf_tup {es : List Expr} {k : Nat} {pos : Pos} {a : FA} (ha : PA X es (tFA G E a)) : PE X (.Tuple es k pos) (tF G E (fTup a)) := by
  refine PE.imp (pe_tup ha) fun σ H Q ⟨ρ, l, h, sm, sl, rn⟩ => ⟨ρ, l, h, sm, sl, rn.bind.mono ?_⟩
  rintro vs H1 ⟨ρ1, h1, us, e1, s1, r1, _, n1⟩
  cases q : mkTup us with
  | none => rw [q] at n1; exact n1.elim
  | some u =>
    rw [q] at n1
    obtain ⟨xs, hx, hl, rfl⟩ := mkTup_some q
    have ra := allD_rp r1 hx
    refine ⟨by rw [ra.length]; exact hl, fun p hp => ?_⟩
    exact Rn.at_ n1 (.grow (same_new hp)) (s1.grow (same_new hp)) (rp_tup hp ra)
theorem pe_lockNew {e : Expr} {t : TE} (h : PE X e t) : PE X e (fun σ H Q => t σ H fun v H' => ∃ p vs, v = .ref p ∧ H' p = some (.lst vs) ∧ ∀ o, Q (.ref p) (upd H' p (.frz o (.lst vs)))) := by
  refine ⟨fun pins s σ H Q I q => ?_⟩
  refine thn (h.run pins s σ H _ I q) fun u s1 hu => ?_
  obtain ⟨v, H', I1, r, p, vs, rfl, hp, q1⟩ := hu
  obtain ⟨o, I2⟩ := I1.lock hp True.intro
  exact ⟨_, _, I2, r, q1 o⟩
theorem pf_lst {es : List Expr} {pos : Pos} {a : FA} (ha : PA X es (tFA G E a)) : PE X (.List es pos) (tF G E (fLst a)) := by
  refine PE.imp (pe_lockNew (pe_lst ha)) fun σ H Q ⟨ρ, l, h, sm, sl, rn⟩ => ⟨ρ, l, h, sm, sl, rn.bind.mono ?_⟩
  rintro vs H1 ⟨ρ1, h1, us, e1, s1, r1, _, n1⟩
  cases q : mkLst us with
  | none => rw [q] at n1; exact n1.elim
  | some u =>
    rw [q] at n1
    obtain ⟨xs, hx, hl, rfl⟩ := mkLst_some q
    have ra := allD_rp r1 hx
    refine ⟨by rw [ra.length]; exact hl, fun p hp => ⟨p, vs, rfl, upd_same, fun o => ?_⟩⟩
    exact Rn.at_ n1 (.grow (same_new2 hp)) (s1.grow (same_new2 hp)) (rp_lst hp ra o)
/-- a new place of the plain heap -/
theorem Sim.push {ρ : Nat → Addr} {h : AH} {H : Hp} {p : Addr} {u : HO} {o : O} (sm : Sim G ρ h H) (hp : H p = none) (ho : OR G.K (upd H p u) p o) :
    ∃ ρ', Ext ρ h H ρ' (h ++ [o]) (upd H p u) ∧ Sim G ρ' (h ++ [o]) (upd H p u) ∧ ρ' h.length = p := by
  refine ⟨fun n => if n = h.length then p else ρ n, ⟨.same (same_new hp), by simp, fun n hn => if_neg (Nat.ne_of_lt hn), fun b o e _ _ => same_new hp b o e, fun n h1 h2 => ?_, fun b e => Fr.stay (fun u q _ => same_new hp b u q) e⟩, ⟨fun n o' e => ?_, fun n m hn hm e => ?_, sm.tab.ext (same_new hp)⟩, if_pos rfl⟩
  · have hn : n = h.length := by
      rw [List.length_append] at h2
      have : ([o] : List O).length = 1 := rfl
      omega
    show Fr (H (if n = h.length then p else ρ n))
    rw [if_pos hn, hp]
    exact True.intro
  · by_cases hn : n = h.length
    · subst hn
      rw [List.getElem?_append_right (Nat.le_refl _), Nat.sub_self] at e
      cases e
      show OR G.K _ (if h.length = h.length then p else ρ h.length) o
      rw [if_pos rfl]
      exact ho
    · have hn2 : n < h.length := by
        have z := List.getElem?_eq_some_iff.mp e
        obtain ⟨z, _⟩ := z
        rw [List.length_append] at z
        have : ([o] : List O).length = 1 := rfl
        omega
      rw [List.getElem?_append_left hn2] at e
      show OR G.K _ (if n = h.length then p else ρ n) o'
      rw [if_neg hn]
      exact (sm.obj n o' e).same (same_new hp)
  · have hl : (h ++ [o]).length = h.length + 1 := by simp
    have key : ∀ n, n < h.length → ρ n ≠ p := fun n hn z => by
      obtain ⟨u', e', _⟩ := (sm.obj n h[n] (List.getElem?_eq_getElem hn)).some
      rw [z, hp] at e'
      cases e'
    have e' : (if n = h.length then p else ρ n) = (if m = h.length then p else ρ m) := e
    by_cases h1 : n = h.length
    · by_cases h2 : m = h.length
      · rw [h1, h2]
      · rw [if_pos h1, if_neg h2] at e'
        exact absurd e'.symm (key m (by omega))
    · by_cases h2 : m = h.length
      · rw [if_neg h1, if_pos h2] at e'
        exact absurd e' (key n (by omega))
      · rw [if_neg h1, if_neg h2] at e'
        exact sm.inj n m (by omega) (by omega) e'
theorem pf_mls {es : List Expr} {pos : Pos} {a : FA} (ha : PA X es (tFA G E a)) : PE X (.List es pos) (tF G E (fMls a)) := by
  refine PE.imp (pe_lst ha) fun σ H Q ⟨ρ, l, h, sm, sl, rn⟩ => ⟨ρ, l, h, sm, sl, rn.bind.mono ?_⟩
  rintro vs H1 ⟨ρ1, h1, us, e1, s1, r1, _, n1⟩
  cases q : mkLst us with
  | none => rw [q] at n1; exact n1.elim
  | some u =>
    rw [q] at n1
    obtain ⟨xs, hx, hl, rfl⟩ := mkLst_some q
    have ra := allD_rp r1 hx
    refine ⟨by rw [ra.length]; exact hl, fun p hp => ?_⟩
    obtain ⟨ρ2, e2, s2, ep⟩ := s1.push (u := .lst vs) (o := .lst xs) hp ⟨vs, upd_same, ra.kp (.same (same_new hp))⟩
    exact Rn.at_ n1 e2 s2 (show RU G.K _ ρ2 _ (.ref p) (.r h1.length) from ⟨by simp, by rw [ep]⟩)
/-! ### operations -/
theorem op_end {op : PyData → PyData → Option PyData} {ρ : Nat → Addr} {h : AH} {H : Hp} {x y : V} {u w : U} {Q : VK} (sm : Sim G ρ h H) (r1 : RU G.K H ρ h x u) (r2 : RU G.K H ρ h y w) (n : Rn G (RelU G) E (R.of (opU op h u w) h) ρ h H Q) : rD G.K op x y H Q := by
  cases q : opU op h u w with
  | none => rw [q] at n; exact n.elim
  | some z =>
    rw [q] at n
    obtain ⟨d, c, z', e1, e2, e3, rfl⟩ := opU_some q
    exact ⟨d, c, z', datU_rq sm r1 e1, datU_rq sm r2 e2, e3, fun v H' sa rv => Rn.at_ n (.grow sa) (sm.grow sa) rv⟩
theorem pf_op {a b : Expr} {o : Operator} {pos : Pos} {op : PyData → PyData → Option PyData} {ga gb : FE} (hK : X.K = G.K) (ho : OpR X (binaryOp o) (rD X.K op)) (ha : PE X a (tF G E ga)) (hb : PE X b (tF G E gb)) : PE X (.BinOp a o b pos) (tF G E (fOp op ga gb)) := by
  refine PE.imp (pe_op ho ha hb) fun σ H Q ⟨ρ, l, h, sm, sl, rn⟩ => ⟨ρ, l, h, sm, sl, rn.bind.mono ?_⟩
  rintro x H1 ⟨ρ1, h1, u, e1, s1, r1, _, n1⟩
  refine ⟨ρ1, l, h1, s1, sl.ext e1, n1.bind.mono ?_⟩
  rintro y H2 ⟨ρ2, h2, w, e2, s2, r2, _, n2⟩
  rw [hK]
  exact op_end s2 (RU.ext r1 e2) r2 n2
theorem pf_cmp {a b : Expr} {o : CmpOp} {pos : Pos} {op : PyData → PyData → Option PyData} {ga gb : FE} (hK : X.K = G.K) (ho : OpR X (compareOp o) (rD X.K op)) (ha : PE X a (tF G E ga)) (hb : PE X b (tF G E gb)) (hm : behindInMarks o b = false) : PE X (.Compare a [o] [b] pos) (tF G E (fOp op ga gb)) := by
  refine PE.imp (pe_cmpR ho ha hb hm) fun σ H Q ⟨ρ, l, h, sm, sl, rn⟩ => ⟨ρ, l, h, sm, sl, rn.bind.mono ?_⟩
  rintro x H1 ⟨ρ1, h1, u, e1, s1, r1, _, n1⟩
  refine ⟨ρ1, l, h1, s1, sl.ext e1, n1.bind.mono ?_⟩
  rintro y H2 ⟨ρ2, h2, w, e2, s2, r2, _, n2⟩
  rw [hK]
  exact op_end s2 (RU.ext r1 e2) r2 n2
theorem asB_rel {K : PySem.W.Frag} {H : Hp} {ρ : Nat → Addr} {h : AH} {v : V} {u : U} {b : Bool} (r : RU K H ρ h v u) (e : asB u = some b) : v = .bl b := by
  cases u with
  | r n => exact nomatch e
  | x _ _ _ => exact nomatch e
  | d x =>
    cases x with
    | bool c =>
      cases (show some c = some b from e)
      cases (show Rp K H v (.bool b) from r)
      rfl
    | _ => exact nomatch e
theorem R.bind_assoc {α β γ : Type} (r : R α) (f : α → AH → R β) (g : β → AH → R γ) : (r.bind f).bind g = r.bind fun a h => (f a h).bind g := by
  cases r <;> rfl
theorem pf_tcmp {a b : Expr} {o : CmpOp} {pos : Pos} {op : PyData → PyData → Option PyData} {ga gb : FE} (hK : X.K = G.K) (ho : OpR X (compareOp o) (rD X.K op)) (ha : PE X a (tF G E ga)) (hb : PE X b (tF G E gb)) (hm : behindInMarks o b = false) : PT X (.Compare a [o] [b] pos) (tFT G E (fTe (fOp op ga gb))) := by
  refine PT.imp (pt_cmpR ho ha hb hm) fun σ H Q ⟨ρ, l, h, sm, sl, rn⟩ => ?_
  have rn' : Rn G RelB E ((ga l h).bind fun x h1 => ((gb l h1).bind fun y h2 => R.of (opU op h2 x y) h2).bind fun z h3 => R.of (asB z) h3) ρ h H Q := by
    rw [← R.bind_assoc]
    exact rn
  refine ⟨ρ, l, h, sm, sl, rn'.bind.mono ?_⟩
  rintro x H1 ⟨ρ1, h1, u, e1, s1, r1, _, n1⟩
  rw [R.bind_assoc] at n1
  refine ⟨ρ1, l, h1, s1, sl.ext e1, n1.bind.mono ?_⟩
  rintro y H2 ⟨ρ2, h2, w, e2, s2, r2, _, n2⟩
  rw [hK]
  refine op_end (E := E) s2 (RU.ext r1 e2) r2 ?_
  refine n2.bind.mono ?_
  rintro v H3 ⟨ρ3, h3, z, e3, s3, r3, _, n3⟩
  cases qb : asB z with
  | none => rw [qb] at n3; exact n3.elim
  | some c =>
    rw [qb] at n3
    exact ⟨c, asB_rel r3 qb, n3.here s3 rfl⟩
/-- a value as a test -/
theorem pf_tval {e : Expr} {g : FE} (h : PE X e (tF G E g)) (he : ∀ whole, isTrue e X.env whole = (do let v ← whole; standAt e.pos; holding [v] (truthy v))) : PT X e (tFT G E (fTe g)) := by
  refine PT.imp (pt_val h he) fun σ H Q ⟨ρ, l, h, sm, sl, rn⟩ => ⟨ρ, l, h, sm, sl, rn.bind.mono ?_⟩
  rintro x H1 ⟨ρ1, h1, u, e1, s1, r1, _, n1⟩
  cases q : asB u with
  | none => rw [q] at n1; exact n1.elim
  | some b =>
    rw [q] at n1
    exact ⟨b, asB_rel r1 q, n1.here s1 rfl⟩
theorem pf_not {a : Expr} {pos : Pos} {g : FE} (ha : PE X a (tF G E g)) : PE X (.UnaryOp .Not a pos) (tF G E (fUn notD g)) := by
  refine PE.imp (pe_not ha) fun σ H Q ⟨ρ, l, h, sm, sl, rn⟩ => ⟨ρ, l, h, sm, sl, rn.bind.mono ?_⟩
  rintro x H1 ⟨ρ1, h1, u, e1, s1, r1, _, n1⟩
  cases q : unU notD h1 u with
  | none => rw [q] at n1; exact n1.elim
  | some z =>
    rw [q] at n1
    obtain ⟨d, w, q1, q2, rfl⟩ := unU_some q
    cases d with
    | bool c =>
      cases (show some (PyData.bool (!c)) = some w from q2)
      exact ⟨c, (datU_rq s1 r1 q1).bool, Rn.here n1 s1 (Rp.bl (!c))⟩
    | _ => exact nomatch q2
theorem pf_neg {a : Expr} {pos : Pos} {g : FE} (ha : PE X a (tF G E g)) : PE X (.UnaryOp .USub a pos) (tF G E (fUn negD g)) := by
  refine PE.imp (pe_un un_neg ha) fun σ H Q ⟨ρ, l, h, sm, sl, rn⟩ => ⟨ρ, l, h, sm, sl, rn.bind.mono ?_⟩
  rintro x H1 ⟨ρ1, h1, u, e1, s1, r1, _, n1⟩
  cases q : unU negD h1 u with
  | none => rw [q] at n1; exact n1.elim
  | some z =>
    rw [q] at n1
    obtain ⟨d, w, q1, q2, rfl⟩ := unU_some q
    cases d with
    | int i =>
      cases (show some (PyData.int (-i)) = some w from q2)
      exact ⟨i, (datU_rq s1 r1 q1).int, Rn.here n1 s1 (Rp.int (-i))⟩
    | _ => exact nomatch q2
theorem pf_and {a b : Expr} {rest : List Expr} {pos : Pos} {ga gb : FE} (ha : PE X a (tF G E ga)) (hb : PE X (.BoolOp .And (b :: rest) pos) (tF G E gb)) : PE X (.BoolOp .And (a :: b :: rest) pos) (tF G E (fAnd ga gb)) := by
  refine PE.imp (pe_and ha hb) fun σ H Q ⟨ρ, l, h, sm, sl, rn⟩ => ⟨ρ, l, h, sm, sl, rn.bind.mono ?_⟩
  rintro x H1 ⟨ρ1, h1, u, e1, s1, r1, _, n1⟩
  cases q : asB u with
  | none => rw [q] at n1; exact n1.elim
  | some c =>
    rw [q] at n1
    refine ⟨c, asB_rel r1 q, ?_⟩
    cases c with
    | true =>
      rw [if_pos rfl]
      exact ⟨ρ1, l, h1, s1, sl.ext e1, n1⟩
    | false =>
      rw [if_neg Bool.false_ne_true]
      exact n1.here s1 (Rp.bl false)
theorem pf_or {a b : Expr} {rest : List Expr} {pos : Pos} {ga gb : FE} (ha : PE X a (tF G E ga)) (hb : PE X (.BoolOp .Or (b :: rest) pos) (tF G E gb)) : PE X (.BoolOp .Or (a :: b :: rest) pos) (tF G E (fOr ga gb)) := by
  refine PE.imp (pe_or ha hb) fun σ H Q ⟨ρ, l, h, sm, sl, rn⟩ => ⟨ρ, l, h, sm, sl, rn.bind.mono ?_⟩
  rintro x H1 ⟨ρ1, h1, u, e1, s1, r1, _, n1⟩
  cases q : asB u with
  | none => rw [q] at n1; exact n1.elim
  | some c =>
    rw [q] at n1
    refine ⟨c, asB_rel r1 q, ?_⟩
    cases c with
    | true =>
      rw [if_pos rfl]
      exact n1.here s1 (Rp.bl true)
    | false =>
      rw [if_neg Bool.false_ne_true]
      exact ⟨ρ1, l, h1, s1, sl.ext e1, n1⟩
theorem pf_callB {x : Str} {id : String} {e : Expr} {es : List Expr} {p pos : Pos} {op : List PyData → Option PyData} {ga : FA} (hK : X.K = G.K) (hc : CallR X (.builtin id) (rDn X.K op)) (hg : Gl X x) (hm : X.mg x = none) (hv : bootBuiltins x = some (.builtin id)) (ha : PA X (e :: es) (tFA G E ga))
    (hn : x ≠ "__name__") (hd : (x == ("__debug__" : Str)) = false) (he : starEach (e :: es) X.env = (false, eval e X.env) :: starEach es X.env) (hpl : (backTo pos (starEach es X.env)).any (·.1) = false) : PE X (.Call (.Name x p) (e :: es) [] pos) (tF G E (fCB op ga)) := by
  refine PE.imp (pe_callB hc hg hm hv ha hn hd he hpl) fun σ H Q ⟨ρ, l, h, sm, sl, rn⟩ => ⟨ρ, l, h, sm, sl, rn.bind.mono ?_⟩
  rintro vs H1 ⟨ρ1, h1, us, e1, s1, r1, _, n1⟩
  cases q : datUs h1 us with
  | none => rw [q] at n1; exact n1.elim
  | some ds =>
    rw [q] at n1
    have n2 : Rn G (RelU G) E (R.of ((op ds).map U.d) h1) ρ1 h1 H1 Q := n1
    cases q2 : op ds with
    | none => rw [q2] at n2; exact n2.elim
    | some z =>
      rw [q2] at n2
      rw [hK]
      exact ⟨ds, z, datUs_rq s1 r1 q, q2, fun v H' sa rv => Rn.at_ n2 (.grow sa) (s1.grow sa) rv⟩
theorem pf_if {c a b : Expr} {pos : Pos} {gc : FT} {ga gb : FE} (hc : PT X c (tFT G E gc)) (ha : PE X a (tF G E ga)) (hb : PE X b (tF G E gb)) : PE X (.IfExp c a b pos) (tF G E (fIf gc ga gb)) := by
  refine PE.imp (pe_ifExp hc ha hb) fun σ H Q ⟨ρ, l, h, sm, sl, rn⟩ => ⟨ρ, l, h, sm, sl, rn.bind.mono ?_⟩
  rintro x H1 ⟨ρ1, h1, u, e1, s1, r1, _, n1⟩
  cases (show x = u from r1)
  cases x with
  | true =>
    rw [if_pos rfl]
    exact ⟨ρ1, l, h1, s1, sl.ext e1, n1⟩
  | false =>
    rw [if_neg Bool.false_ne_true]
    exact ⟨ρ1, l, h1, s1, sl.ext e1, n1⟩
end
end RB
/-! RB3: the operations on data hold in the hand layer. -/
namespace RB
open PySem PySem.Spec L2
section
variable {X : Cx}
/-- a locked list as it stands -/
theorem lst_at {pins : List (Addr × Obj)} {σ : L2.St} {H : Hp} {s : Shared} {a : Addr} {vs : List V} (I : Inv X pins σ H s) (h : SqL X.K H a vs) (nk : ∀ o, X.K.lookup a ≠ some o ∨ True) :
    ∃ (its : List Value), Vals vs its ∧ vs.length ≤ sizeLine ∧ PlainL s.heap a its.toArray := by
  obtain ⟨its, r, p, z⟩ := I.list h
  exact ⟨its, r, z, p⟩
theorem Rq.rd {K : PySem.W.Frag} {H : Hp} {v : V} {ds : List PyData} (h : Rq K H v (.list ds)) : ∃ a vs, v = .ref a ∧ Rd H a (.lst vs) ∧ RpA K H vs ds := by
  rcases h with h | ⟨a, vs, ds', rfl, e1, e, r⟩
  · cases h with
    | lst hs ha => exact ⟨_, _, rfl, .inr hs, ha⟩
  · cases e1
    exact ⟨a, vs, rfl, .inl e, r⟩
/-- the new value of a list operation, not locked -/
def rLn (K : PySem.W.Frag) (op : PyData → PyData → Option PyData) : R2 := fun x y H Q => ∃ d e zs, Rq K H x d ∧ Rq K H y e ∧ op d e = some (.list zs) ∧ ∀ p vs, H p = none → RpA K H vs zs → Q (.ref p) (upd H p (.lst vs))
theorem op_catR : OpR X (binaryOp .Add) (fun x y H Q => ∃ ds es, Rq X.K H x (.list ds) ∧ Rq X.K H y (.list es) ∧ ds.length + es.length ≤ sizeLine ∧ ∀ p vs, H p = none → RpA X.K H vs (ds ++ es) → Q (.ref p) (upd H p (.lst vs))) := by
  intro pins s σ H x y v u Q I rx ry hq
  obtain ⟨ds, es, hx, hy, hl, q⟩ := hq
  obtain ⟨a, vs, rfl, ra, pa⟩ := hx.rd
  obtain ⟨b, ws, rfl, rb, pb⟩ := hy.rd
  cases rx
  cases ry
  obtain ⟨za, its, na, va, ea⟩ := (show ObjOk X.prog X.w H s.heap a (.lst vs) from ra.ok I.hok)
  obtain ⟨zb, its2, nb, vb, eb⟩ := (show ObjOk X.prog X.w H s.heap b (.lst ws) from rb.ok I.hok)
  have la := va.length
  have lb := vb.length
  have l1 := pa.length
  have l2 := pb.length
  refine PySem.P.add_list ea eb ?_ (by rw [List.size_toArray, List.size_toArray]; omega)
  have eq : its.toArray ++ its2.toArray = (its ++ its2).toArray := by simp
  rw [eq]
  exact ⟨V.ref _, _, I.lnew (t' := s.toks) (va.append vb) (by rw [List.length_append]; omega), rfl, q _ _ I.fresh (pa.app pb)⟩
/-- a new list, then locked -/
theorem opLock {f : Value → Value → Sem Value} {r : V → V → Hp → (Addr → List V → Prop) → Prop} (ho : OpR X f (fun x y H Q => r x y H fun p vs => H p = none → Q (.ref p) (upd H p (.lst vs)))) :
    OpR X f (fun x y H Q => r x y H fun p vs => H p = none → ∀ o, Q (.ref p) (upd (upd H p (.lst vs)) p (.frz o (.lst vs)))) → True := fun _ => True.intro
theorem op_catL : OpR X (binaryOp .Add) (fun x y H Q => ∃ ds es, Rq X.K H x (.list ds) ∧ Rq X.K H y (.list es) ∧ ds.length + es.length ≤ sizeLine ∧ ∀ v H', Same H H' → Rp X.K H' v (.list (ds ++ es)) → Q v H') := by
  intro pins s σ H x y v u Q I rx ry hq
  obtain ⟨ds, es, hx, hy, hl, q⟩ := hq
  refine thn (op_catR pins s σ H x y v u (fun v H' => ∃ p vs, v = .ref p ∧ H p = none ∧ H' = upd H p (.lst vs) ∧ ∀ o, Q (.ref p) (upd (upd H p (.lst vs)) p (.frz o (.lst vs)))) I rx ry
    ⟨ds, es, hx, hy, hl, fun p vs hp ra => ⟨p, vs, rfl, hp, rfl, fun o => q _ _ (same_new2 hp) (rp_lst hp ra o)⟩⟩) fun u s' hu => EP.lock hu
theorem op_addD : OpR X (binaryOp .Add) (rD X.K addD) := by
  intro pins s σ H x y v u Q I rx ry hq
  obtain ⟨d, e, z, hd, he, hz, q⟩ := hq
  cases d with
  | int i =>
    cases e with
    | int j =>
      cases (show some (PyData.int (i + j)) = some z from hz)
      exact op_add pins s σ H x y v u Q I rx ry ⟨i, j, hd.int, he.int, q _ _ (Same.refl H) (.int _)⟩
    | _ => exact nomatch hz
  | str a =>
    cases e with
    | str b =>
      have hz' : (if a.length + b.length ≤ sizeLine then some (PyData.str (a ++ b)) else none) = some z := hz
      by_cases hl : a.length + b.length ≤ sizeLine
      · rw [if_pos hl] at hz'
        cases hz'
        exact op_add_str pins s σ H x y v u Q I rx ry ⟨a, b, hd.str, he.str, hl, q _ _ (Same.refl H) (.str _)⟩
      · rw [if_neg hl] at hz'
        cases hz'
    | _ => exact nomatch hz
  | tuple ds =>
    cases e with
    | tuple es =>
      have hz' : (if ds.length + es.length ≤ sizeLine then some (PyData.tuple (ds ++ es)) else none) = some z := hz
      by_cases hl : ds.length + es.length ≤ sizeLine
      · rw [if_pos hl] at hz'
        cases hz'
        obtain ⟨a, vs, rfl, sa, ra⟩ := hd.tup
        obtain ⟨b, ws, rfl, sb, rb⟩ := he.tup
        have l1 := ra.length
        have l2 := rb.length
        refine op_catA pins s σ H _ _ v u Q I rx ry ⟨a, b, vs, ws, rfl, rfl, sa, sb, by omega, fun e0 => ?_, fun _ e0 => ?_, fun _ _ p hp => ?_⟩
        · subst e0
          have e1 : ds = [] := List.length_eq_zero_iff.mp (by rw [← l1]; rfl)
          subst e1
          exact q _ _ (Same.refl H) (.tup sb rb)
        · subst e0
          have e1 : es = [] := List.length_eq_zero_iff.mp (by rw [← l2]; rfl)
          subst e1
          rw [List.append_nil] at q
          exact q _ _ (Same.refl H) (.tup sa ra)
        · exact q _ _ (same_new hp) (rp_tup hp (ra.app rb))
      · rw [if_neg hl] at hz'
        cases hz'
    | _ => exact nomatch hz
  | list ds =>
    cases e with
    | list es =>
      have hz' : (if ds.length + es.length ≤ sizeLine then some (PyData.list (ds ++ es)) else none) = some z := hz
      by_cases hl : ds.length + es.length ≤ sizeLine
      · rw [if_pos hl] at hz'
        cases hz'
        exact op_catL pins s σ H x y v u Q I rx ry ⟨ds, es, hd, he, hl, q⟩
      · rw [if_neg hl] at hz'
        cases hz'
    | _ => exact nomatch hz
  | _ => exact nomatch hz
theorem op_subD : OpR X (binaryOp .Sub) (rD X.K subD) := by
  intro pins s σ H x y v u Q I rx ry hq
  obtain ⟨d, e, z, hd, he, hz, q⟩ := hq
  cases d with
  | int i =>
    cases e with
    | int j =>
      cases (show some (PyData.int (i - j)) = some z from hz)
      exact op_sub pins s σ H x y v u Q I rx ry ⟨i, j, hd.int, he.int, q _ _ (Same.refl H) (.int _)⟩
    | _ => exact nomatch hz
  | _ => exact nomatch hz
theorem op_fdivD : OpR X (binaryOp .FloorDiv) (rD X.K fdivD) := by
  intro pins s σ H x y v u Q I rx ry hq
  obtain ⟨d, e, z, hd, he, hz, q⟩ := hq
  cases d with
  | int i =>
    cases e with
    | int j =>
      have hz' : (if 0 < j ∧ j < 1073741824 then some (PyData.int (i / j)) else none) = some z := hz
      by_cases hl : 0 < j ∧ j < 1073741824
      · rw [if_pos hl] at hz'
        cases hz'
        exact op_fdiv pins s σ H x y v u Q I rx ry ⟨i, j, hd.int, he.int, hl, q _ _ (Same.refl H) (.int _)⟩
      · rw [if_neg hl] at hz'
        cases hz'
    | _ => exact nomatch hz
  | _ => exact nomatch hz
theorem op_modD : OpR X (binaryOp .Mod) (rD X.K modD) := by
  intro pins s σ H x y v u Q I rx ry hq
  obtain ⟨d, e, z, hd, he, hz, q⟩ := hq
  cases d with
  | int i =>
    cases e with
    | int j =>
      have hz' : (if 0 < j then some (PyData.int (i % j)) else none) = some z := hz
      by_cases hl : 0 < j
      · rw [if_pos hl] at hz'
        cases hz'
        exact op_mod pins s σ H x y v u Q I rx ry ⟨i, j, hd.int, he.int, hl, q _ _ (Same.refl H) (.int _)⟩
      · rw [if_neg hl] at hz'
        cases hz'
    | _ => exact nomatch hz
  | _ => exact nomatch hz
theorem op_powD : OpR X (binaryOp .Pow) (rD X.K powD) := by
  intro pins s σ H x y v u Q I rx ry hq
  obtain ⟨d, e, z, hd, he, hz, q⟩ := hq
  cases d with
  | int i =>
    cases e with
    | int j =>
      have hz' : (if 0 ≤ j ∧ j ≤ 1000000 ∧ i.natAbs < 2 ^ 64 then some (PyData.int (i ^ j.toNat)) else none) = some z := hz
      by_cases hl : 0 ≤ j ∧ j ≤ 1000000 ∧ i.natAbs < 2 ^ 64
      · rw [if_pos hl] at hz'
        cases hz'
        exact op_pow pins s σ H x y v u Q I rx ry ⟨i, j, hd.int, he.int, hl, q _ _ (Same.refl H) (.int _)⟩
      · rw [if_neg hl] at hz'
        cases hz'
    | _ => exact nomatch hz
  | _ => exact nomatch hz
theorem op_mulI : OpR X (binaryOp .Mult) (rD X.K fun x y => match x, y with | .int i, .int j => mulD (.int i) (.int j) | _, _ => none) := by
  intro pins s σ H x y v u Q I rx ry hq
  obtain ⟨d, e, z, hd, he, hz, q⟩ := hq
  cases d with
  | int i =>
    cases e with
    | int j =>
      have hz' : (if (-(2 ^ 64) < i ∧ i < 2 ^ 64) ∨ (-(2 ^ 64) < j ∧ j < 2 ^ 64) then some (PyData.int (i * j)) else none) = some z := hz
      by_cases hl : (-(2 ^ 64) < i ∧ i < 2 ^ 64) ∨ (-(2 ^ 64) < j ∧ j < 2 ^ 64)
      · rw [if_pos hl] at hz'
        cases hz'
        exact op_mul pins s σ H x y v u Q I rx ry ⟨i, j, hd.int, he.int, hl, q _ _ (Same.refl H) (.int _)⟩
      · rw [if_neg hl] at hz'
        cases hz'
    | _ => exact nomatch hz
  | _ => exact nomatch hz
theorem op_eqDD (hu : X.A.units + 64 < cLine) : OpR X (compareOp .Eq) (rD X.K eqD) := by
  intro pins s σ H x y v u Q I rx ry hq
  obtain ⟨d, e, z, hd, he, hz, q⟩ := hq
  have hz' : (if SeqAt.shaped d && SeqAt.shaped e then some (PyData.bool (PyData.eqv d e)) else none) = some z := hz
  by_cases hl : (SeqAt.shaped d && SeqAt.shaped e) = true
  · rw [if_pos hl] at hz'
    cases hz'
    obtain ⟨h1, h2⟩ := Bool.and_eq_true_iff.mp hl
    exact op_eqD hu pins s σ H x y v u Q I rx ry ⟨d, e, hd.dp, he.dp, h1, h2, q _ _ (Same.refl H) (.bl _)⟩
  · rw [if_neg hl] at hz'
    cases hz'
theorem op_neDD (hu : X.A.units + 64 < cLine) : OpR X (compareOp .NotEq) (rD X.K neD) := by
  intro pins s σ H x y v u Q I rx ry hq
  obtain ⟨d, e, z, hd, he, hz, q⟩ := hq
  have hz' : (if SeqAt.shaped d && SeqAt.shaped e then some (PyData.bool (!PyData.eqv d e)) else none) = some z := hz
  by_cases hl : (SeqAt.shaped d && SeqAt.shaped e) = true
  · rw [if_pos hl] at hz'
    cases hz'
    obtain ⟨h1, h2⟩ := Bool.and_eq_true_iff.mp hl
    exact op_neD hu pins s σ H x y v u Q I rx ry ⟨d, e, hd.dp, he.dp, h1, h2, q _ _ (Same.refl H) (.bl _)⟩
  · rw [if_neg hl] at hz'
    cases hz'
theorem Rq.non {K : PySem.W.Frag} {H : Hp} {v : V} {d : PyData} (h : Rq K H v d) : decide (v = .non) = isNone d := by
  cases d with
  | none => rw [h.none]; rfl
  | bool b => rw [h.bool]; rfl
  | int b => rw [h.int]; rfl
  | str b => rw [h.str]; rfl
  | list b => obtain ⟨a, vs, rfl, _⟩ := h.list; rfl
  | tuple b => obtain ⟨a, vs, rfl, _⟩ := h.tup; rfl
  | dict b =>
    rcases h with h | ⟨a, vs, ds', rfl, e1, e, r⟩
    · cases h
    · cases e1
theorem rq_plain {K : PySem.W.Frag} {H : Hp} {x : V} {d : PyData} {v : Value} {c : Bool} (hd : Rq K H x d) (rx : RelV x v) : PySem.plainIs v (.bool c) = true ∧ (v == Value.bool c) = isBl d c := by
  rcases hd with hd | ⟨a, vs, ds, rfl, rfl, _, _⟩
  · cases hd with
    | non => cases rx; exact ⟨rfl, rfl⟩
    | bl b =>
      cases rx
      refine ⟨rfl, ?_⟩
      show (Value.bool b == Value.bool c) = (b == c)
      by_cases e : b = c
      · subst e
        rw [beq_self_eq_true, beq_self_eq_true]
      · rw [beq_eq_false_iff_ne.mpr e, beq_eq_false_iff_ne.mpr fun z => e (Value.bool.inj z)]
    | int i => obtain ⟨t, rfl⟩ := rx; exact ⟨rfl, rfl⟩
    | str i => obtain ⟨t, rfl⟩ := rx; exact ⟨rfl, rfl⟩
    | lst _ _ => cases rx; exact ⟨rfl, rfl⟩
    | tup _ _ => cases rx; exact ⟨rfl, rfl⟩
  · cases rx
    exact ⟨rfl, rfl⟩
theorem op_isDD : OpR X (compareOp .Is) (rD X.K isD) := by
  intro pins s σ H x y v u Q I rx ry hq
  obtain ⟨d, e, z, hd, he, hz, q⟩ := hq
  cases e with
  | none =>
    cases (show some (PyData.bool (isNone d)) = some z from hz)
    refine op_isN pins s σ H x y v u Q I rx ry ⟨he.none, ?_⟩
    rw [hd.non]
    exact q _ _ (Same.refl H) (.bl _)
  | bool c =>
    cases (show some (PyData.bool (isBl d c)) = some z from hz)
    rcases he with he | ⟨_, _, _, _, he, _⟩
    · cases he
      cases ry
      obtain ⟨p1, p2⟩ := rq_plain (c := c) hd rx
      exact PySem.wpAny_is_plain p1 (by rw [p2]; exact ⟨.bl _, H, I, rfl, q _ _ (Same.refl H) (.bl _)⟩)
    · cases he
  | _ => exact nomatch hz
theorem op_isNotDD : OpR X (compareOp .IsNot) (rD X.K isNotD) := by
  intro pins s σ H x y v u Q I rx ry hq
  obtain ⟨d, e, z, hd, he, hz, q⟩ := hq
  cases e with
  | none =>
    cases (show some (PyData.bool (!isNone d)) = some z from hz)
    refine op_notN pins s σ H x y v u Q I rx ry ⟨he.none, ?_⟩
    rw [hd.non]
    exact q _ _ (Same.refl H) (.bl _)
  | bool c =>
    cases (show some (PyData.bool (!isBl d c)) = some z from hz)
    rcases he with he | ⟨_, _, _, _, he, _⟩
    · cases he
      cases ry
      obtain ⟨p1, p2⟩ := rq_plain (c := c) hd rx
      exact PySem.wpAny_isNot_plain p1 (by rw [p2]; exact ⟨.bl _, H, I, rfl, q _ _ (Same.refl H) (.bl _)⟩)
    · cases he
  | _ => exact nomatch hz
/-! ### in -/
/-- one sign -/
def oneSign (x : Str) : Option Nat := match x.cps.toList with
  | [c] => some c
  | _ => none
def inD (neg : Bool) (x y : PyData) : Option PyData := match y with
  | .list ys => if SeqAt.shaped x && SeqAt.shaped (.list ys) then some (.bool (neg != ys.any fun z => PyData.eqv z x)) else none
  | .tuple ys => if SeqAt.shaped x && SeqAt.shaped (.tuple ys) then some (.bool (neg != ys.any fun z => PyData.eqv z x)) else none
  | .str t => match x with
    | .str a => (oneSign a).map fun c => .bool (neg != decide (c ∈ t.cps.toList))
    | _ => none
  | _ => none
theorem oneSign_eq {x : Str} {c : Nat} (h : oneSign x = some c) : x = ⟨#[c]⟩ := by
  unfold oneSign at h
  obtain ⟨⟨l⟩⟩ := x
  match l, h with
  | [c'], h => cases h; rfl
end
end RB
/-! RB4: in, order, built-ins, subscripts of data. -/
namespace RB
open PySem PySem.Spec L2
section
variable {X : Cx}
theorem room1 {k : Nat} {A : Around} {ds : List PyData} {d : PyData} (sd : SeqAt.shaped d = true) (hu : A.units + 65 < cLine) : A.units + 1 + min (PyData.depthAll ds) d.depth < cLine := by
  have h1 := SeqAt.depth_of_shaped sd
  have h2 : min (PyData.depthAll ds) d.depth ≤ d.depth := Nat.min_le_right _ _
  omega
theorem xor_false' (b : Bool) : (false != b) = b := by cases b <;> rfl
theorem xor_true' (b : Bool) : (true != b) = !b := by cases b <;> rfl
theorem op_inDD (hu : X.A.units + 65 < cLine) : OpR X (compareOp .In) (rD X.K (inD false)) := by
  intro pins s σ H x y v u Q I rx ry hq
  obtain ⟨d, e, z, hd, he, hz, q⟩ := hq
  cases e with
  | list ys =>
    have hz' : (if SeqAt.shaped d && SeqAt.shaped (.list ys) then some (PyData.bool (false != ys.any fun z => PyData.eqv z d)) else none) = some z := hz
    by_cases hl : (SeqAt.shaped d && SeqAt.shaped (.list ys)) = true
    · rw [if_pos hl, xor_false'] at hz'
      cases hz'
      obtain ⟨h1, h2⟩ := Bool.and_eq_true_iff.mp hl
      obtain ⟨as, r1⟩ := Dp.reads I d x v hd.dp rx
      obtain ⟨bs, r2⟩ := Dp.reads I (.list ys) y u he.dp ry
      exact SeqAt.in_list_reads r2 r1 (SeqAt.canLay_of_shaped h2) (SeqAt.canLay_of_shaped h1) (room1 (k := 0) h1 hu) ⟨V.bl _, H, I, rfl, q _ _ (Same.refl H) (.bl _)⟩
    · rw [if_neg hl] at hz'
      cases hz'
  | tuple ys =>
    have hz' : (if SeqAt.shaped d && SeqAt.shaped (.tuple ys) then some (PyData.bool (false != ys.any fun z => PyData.eqv z d)) else none) = some z := hz
    by_cases hl : (SeqAt.shaped d && SeqAt.shaped (.tuple ys)) = true
    · rw [if_pos hl, xor_false'] at hz'
      cases hz'
      obtain ⟨h1, h2⟩ := Bool.and_eq_true_iff.mp hl
      obtain ⟨as, r1⟩ := Dp.reads I d x v hd.dp rx
      obtain ⟨bs, r2⟩ := Dp.reads I (.tuple ys) y u he.dp ry
      exact SeqAt.in_tuple_reads r2 r1 (SeqAt.canLay_of_shaped h2) (SeqAt.canLay_of_shaped h1) (room1 (k := 0) h1 hu) ⟨V.bl _, H, I, rfl, q _ _ (Same.refl H) (.bl _)⟩
    · rw [if_neg hl] at hz'
      cases hz'
  | str t =>
    cases d with
    | str a =>
      have hz' : ((oneSign a).map fun c => PyData.bool (false != decide (c ∈ t.cps.toList))) = some z := hz
      cases hc : oneSign a with
      | none => rw [hc] at hz'; cases hz'
      | some c =>
        rw [hc] at hz'
        have ez : z = .bool (decide (c ∈ t.cps.toList)) := by
          have ez := Option.some.inj hz'
          rw [← ez]
          exact congrArg PyData.bool (xor_false' _)
        subst ez
        refine op_inS pins s σ H x y v u Q I rx ry ⟨c, t, ?_, he.str, q _ _ (Same.refl H) (.bl _)⟩
        rw [hd.str, oneSign_eq hc]
    | _ => exact nomatch hz
  | _ => exact nomatch hz
theorem op_notInDD (hu : X.A.units + 65 < cLine) : OpR X (compareOp .NotIn) (rD X.K (inD true)) := by
  intro pins s σ H x y v u Q I rx ry hq
  obtain ⟨d, e, z, hd, he, hz, q⟩ := hq
  cases e with
  | list ys =>
    have hz' : (if SeqAt.shaped d && SeqAt.shaped (.list ys) then some (PyData.bool (true != ys.any fun z => PyData.eqv z d)) else none) = some z := hz
    by_cases hl : (SeqAt.shaped d && SeqAt.shaped (.list ys)) = true
    · rw [if_pos hl, xor_true'] at hz'
      cases hz'
      obtain ⟨h1, h2⟩ := Bool.and_eq_true_iff.mp hl
      obtain ⟨as, r1⟩ := Dp.reads I d x v hd.dp rx
      obtain ⟨bs, r2⟩ := Dp.reads I (.list ys) y u he.dp ry
      exact SeqAt.notIn_list_reads r2 r1 (SeqAt.canLay_of_shaped h2) (SeqAt.canLay_of_shaped h1) (room1 (k := 0) h1 hu) ⟨V.bl _, H, I, rfl, q _ _ (Same.refl H) (.bl _)⟩
    · rw [if_neg hl] at hz'
      cases hz'
  | tuple ys =>
    have hz' : (if SeqAt.shaped d && SeqAt.shaped (.tuple ys) then some (PyData.bool (true != ys.any fun z => PyData.eqv z d)) else none) = some z := hz
    by_cases hl : (SeqAt.shaped d && SeqAt.shaped (.tuple ys)) = true
    · rw [if_pos hl, xor_true'] at hz'
      cases hz'
      obtain ⟨h1, h2⟩ := Bool.and_eq_true_iff.mp hl
      obtain ⟨as, r1⟩ := Dp.reads I d x v hd.dp rx
      obtain ⟨bs, r2⟩ := Dp.reads I (.tuple ys) y u he.dp ry
      exact SeqAt.notIn_tuple_reads r2 r1 (SeqAt.canLay_of_shaped h2) (SeqAt.canLay_of_shaped h1) (room1 (k := 0) h1 hu) ⟨V.bl _, H, I, rfl, q _ _ (Same.refl H) (.bl _)⟩
    · rw [if_neg hl] at hz'
      cases hz'
  | str t =>
    cases d with
    | str a =>
      have hz' : ((oneSign a).map fun c => PyData.bool (true != decide (c ∈ t.cps.toList))) = some z := hz
      cases hc : oneSign a with
      | none => rw [hc] at hz'; cases hz'
      | some c =>
        rw [hc] at hz'
        have ez : z = .bool (!decide (c ∈ t.cps.toList)) := by
          have ez := Option.some.inj hz'
          rw [← ez]
          exact congrArg PyData.bool (xor_true' _)
        subst ez
        refine op_notInS pins s σ H x y v u Q I rx ry ⟨c, t, ?_, he.str, q _ _ (Same.refl H) (.bl _)⟩
        rw [hd.str, oneSign_eq hc]
    | _ => exact nomatch hz
  | _ => exact nomatch hz
/-! ### order -/
mutual
def ltD : PyData → PyData → Option Bool
  | .int i, .int j => some (decide (i < j))
  | .str x, .str y => some (decide (x.cps.toList < y.cps.toList))
  | .tuple xs, .tuple ys => ltL xs ys
  | _, _ => none
def ltL : List PyData → List PyData → Option Bool
  | [], [] => some false
  | [], _ :: _ => some true
  | _ :: _, [] => some false
  | x :: xs, y :: ys => if PyData.eqv x y then ltL xs ys else ltD x y
end
/-- < of two values gives b -/
def LtAt (A : Around) (s : Shared) (y x : Value) (b : Bool) : Prop := ∀ (prog : Program) (w : World) (E : Value → Shared → Prop) (Q : Value → Shared → Prop), Q (.bool b) s → wpAny (model prog w) A (richCompare .Lt y x) Q E s
/-- the same of two rows of values -/
inductive LtRow (A : Around) (s : Shared) : List Value → List Value → Bool → Prop
  | nn : LtRow A s [] [] false
  | nc {y : Value} {ys : List Value} : LtRow A s [] (y :: ys) true
  | cn {x : Value} {xs : List Value} : LtRow A s (x :: xs) [] false
  | eq {x y : Value} {xs ys : List Value} {b : Bool} : SeqAt.EqAt A s x y true → LtRow A s xs ys b → LtRow A s (x :: xs) (y :: ys) b
  | ne {x y : Value} {xs ys : List Value} {b : Bool} : SeqAt.EqAt A s x y false → LtAt A s x y b → LtRow A s (x :: xs) (y :: ys) b
section
open PySem.SeqAt
open PySem.AutoSeq1 (wpAny_loadPart')
open PySem.MeetsSeq PySem.MeetsSeq2 PySem.MeetsSeq3
theorem tuple_lt_rows (p q : Addr) (us ws : Array Value) (n m : Nat) (d1 d2 : Option Addr) (sl1 sl2 : Array (Option Value)) (b0 : Bool) :
    Meets (Builtin.«tuple.__lt__» ⟨[.ref p, .ref q], []⟩)
      (fun A R s => s.heap.get? p = some { cls := .type "tuple", dict := d1, data := .seq us n, slots := sl1 } ∧ s.heap.get? q = some { cls := .type "tuple", dict := d2, data := .seq ws m, slots := sl2 } ∧
        LtRow A.in1 s us.toList ws.toList b0 ∧ R (.ok (.ret (.bool b0))) s) :=
  .of_wp fun prog w A R s hs => by
    obtain ⟨hp, g, d, tk, os⟩ := s; obtain ⟨h1, h2, hrow, hR⟩ := hs
    have f2 := AutoSeq1.sub_tuple_tuple
    wp_walk using wpAny_loadPart' h1, wpAny_loadPart' h2, wpAny_forIn_list _ (fun rest c s' => c.1 = none ∧ s' = ⟨hp, g, d, tk, os⟩ ∧ ∃ (vs zs : List Value), rest = vs.zip zs ∧
      LtRow A.in1 ⟨hp, g, d, tk, os⟩ vs zs b0 ∧ vs.length + ws.size = zs.length + us.size) _
    case turn =>
      rintro ⟨y, x⟩ rest c s' ⟨hc, rfl, vs, zs, hz, hlt, hlen⟩
      cases hlt with
      | nn => cases hz
      | nc => rw [List.zip_nil_left] at hz; cases hz
      | cn => rw [List.zip_nil_right] at hz; cases hz
      | eq he ht =>
        rw [List.zip_cons_cons] at hz
        injection hz with hyx hrest
        injection hyx with e1 e2
        subst e1 e2
        simp only [List.length_cons] at hlen
        refine wpAny_bind (he prog w _ _ ?_)
        wp_walk
        exact ⟨rfl, rfl, _, _, hrest, ht, by omega⟩
      | ne he hl =>
        rw [List.zip_cons_cons] at hz
        injection hz with hyx hrest
        injection hyx with e1 e2
        subst e1 e2
        refine wpAny_bind (he prog w _ _ ?_)
        have hl' := hl prog w
        wp_walk using hl'
        exact ⟨_, rfl, by simpa using hR⟩
    case fin =>
      rintro ⟨c1, c2⟩ s' ⟨hc, rfl, vs, zs, hz, hlt, hlen⟩
      simp only at hc
      subst hc
      have hv : b0 = decide (us.size < ws.size) := by
        cases hlt with
        | nn =>
          simp only [List.length_nil] at hlen
          exact (decide_eq_false (by omega)).symm
        | nc =>
          simp only [List.length_nil, List.length_cons] at hlen
          exact (decide_eq_true (by omega)).symm
        | cn =>
          simp only [List.length_nil, List.length_cons] at hlen
          exact (decide_eq_false (by omega)).symm
        | eq he ht => rw [List.zip_cons_cons] at hz; cases hz
        | ne he hl => rw [List.zip_cons_cons] at hz; cases hz
      rw [hv] at hR
      wp_walk
      exact ⟨_, rfl, by simpa [Builtin.Tuple.tupleCompareSizes] using hR⟩
    case h =>
      exact ⟨rfl, rfl, us.toList, ws.toList, rfl, hrow, by simp only [Array.length_toList]; omega⟩
end
theorem readsT {h : Heap} {v : Value} {ds : List PyData} {as : List Addr} (r : Reads h v (.tuple ds) as) : ∃ (a : Addr) (o : Obj) (vs : Array Value) (n : Nat), v = .ref a ∧ h.get? a = some o ∧ o.cls = .type "tuple" ∧ o.data = .seq vs n ∧ ReadsAll h vs.toList ds as := by
  cases r with
  | tuple h1 h2 h3 h4 => exact ⟨_, _, _, _, rfl, h1, h2, h3, h4⟩
mutual
theorem lt_reads : ∀ (d e : PyData) (A : Around) (s : Shared) (v u : Value) (as bs : List Addr) (b : Bool), Reads s.heap v d as → Reads s.heap u e bs → d.canLay0 = true → e.canLay0 = true → A.units + d.depth + 1 < cLine → ltD d e = some b → LtAt A s v u b
  | .int i, .int j, A, s, v, u, as, bs, b, r1, r2, _, _, _, hb => by
    cases (show some (decide (i < j)) = some b from by rw [ltD] at hb; exact hb)
    cases r1
    cases r2
    exact fun prog w E Q q => (PyProof.Rows.lt_int q : wpAny (model prog w) A (compareOp .Lt (.int i _) (.int j _)) Q E s)
  | .str x, .str y, A, s, v, u, as, bs, b, r1, r2, _, _, _, hb => by
    cases (show some (decide (x.cps.toList < y.cps.toList)) = some b from by rw [ltD] at hb; exact hb)
    cases r1
    cases r2
    exact fun prog w E Q q => (PyProof.Rows.lt_str q : wpAny (model prog w) A (compareOp .Lt (.str x _) (.str y _)) Q E s)
  | .tuple xs, .tuple ys, A, s, v, u, as, bs, b, r1, r2, c1, c2, hu, hb => by
    obtain ⟨p, ⟨cl1, d1, dt1, sl1⟩, vs, n, rfl, o1, k1, t1, ra⟩ := readsT r1
    obtain ⟨q, ⟨cl2, d2, dt2, sl2⟩, ws, m, rfl, o2, k2, t2, rb⟩ := readsT r2
    simp only at k1 t1 k2 t2
    subst k1 t1 k2 t2
    have hb' : ltL xs ys = some b := by rw [ltD] at hb; exact hb
    have hd : (PyData.tuple xs).depth = PyData.depthAll xs + 1 := by rw [PyData.depth]
    have row := lt_rows xs ys A.in1 s vs.toList ws.toList _ _ b ra rb (by rw [PyData.canLay0] at c1; exact c1) (by rw [PyData.canLay0] at c2; exact c2) (by show A.units + 1 + PyData.depthAll xs + 1 < cLine; omega) hb'
    exact fun prog w E Q hQ => richCompare_meets_room (op := .Lt) ⟨_, o1, rfl⟩ ⟨_, o2, rfl⟩ PySem.F.slot_tuple_lt PySem.F.entry_tuple_lt (PySem.F.args_tuple_lt_2 _ _) (tuple_lt_rows p q vs ws n m d1 d2 sl1 sl2 b)
      ⟨o1, o2, row, show Value.bool b ≠ Value.notImplemented ∧ Q (.bool b) s from ⟨(fun z => nomatch z), hQ⟩⟩ (by omega)
  | .none, _, _, _, _, _, _, _, _, _, _, _, _, _, hb => by rw [ltD] at hb <;> first | exact nomatch hb | (intros; exact nomatch ‹_›)
  | .bool _, _, _, _, _, _, _, _, _, _, _, _, _, _, hb => by rw [ltD] at hb <;> first | exact nomatch hb | (intros; exact nomatch ‹_›)
  | .list _, _, _, _, _, _, _, _, _, _, _, _, _, _, hb => by rw [ltD] at hb <;> first | exact nomatch hb | (intros; exact nomatch ‹_›)
  | .dict _, _, _, _, _, _, _, _, _, _, _, _, _, _, hb => by rw [ltD] at hb <;> first | exact nomatch hb | (intros; exact nomatch ‹_›)
  | .int _, .none, _, _, _, _, _, _, _, _, _, _, _, _, hb => by rw [ltD] at hb <;> first | exact nomatch hb | (intros; exact nomatch ‹_›)
  | .int _, .bool _, _, _, _, _, _, _, _, _, _, _, _, _, hb => by rw [ltD] at hb <;> first | exact nomatch hb | (intros; exact nomatch ‹_›)
  | .int _, .str _, _, _, _, _, _, _, _, _, _, _, _, _, hb => by rw [ltD] at hb <;> first | exact nomatch hb | (intros; exact nomatch ‹_›)
  | .int _, .list _, _, _, _, _, _, _, _, _, _, _, _, _, hb => by rw [ltD] at hb <;> first | exact nomatch hb | (intros; exact nomatch ‹_›)
  | .int _, .tuple _, _, _, _, _, _, _, _, _, _, _, _, _, hb => by rw [ltD] at hb <;> first | exact nomatch hb | (intros; exact nomatch ‹_›)
  | .int _, .dict _, _, _, _, _, _, _, _, _, _, _, _, _, hb => by rw [ltD] at hb <;> first | exact nomatch hb | (intros; exact nomatch ‹_›)
  | .str _, .none, _, _, _, _, _, _, _, _, _, _, _, _, hb => by rw [ltD] at hb <;> first | exact nomatch hb | (intros; exact nomatch ‹_›)
  | .str _, .bool _, _, _, _, _, _, _, _, _, _, _, _, _, hb => by rw [ltD] at hb <;> first | exact nomatch hb | (intros; exact nomatch ‹_›)
  | .str _, .int _, _, _, _, _, _, _, _, _, _, _, _, _, hb => by rw [ltD] at hb <;> first | exact nomatch hb | (intros; exact nomatch ‹_›)
  | .str _, .list _, _, _, _, _, _, _, _, _, _, _, _, _, hb => by rw [ltD] at hb <;> first | exact nomatch hb | (intros; exact nomatch ‹_›)
  | .str _, .tuple _, _, _, _, _, _, _, _, _, _, _, _, _, hb => by rw [ltD] at hb <;> first | exact nomatch hb | (intros; exact nomatch ‹_›)
  | .str _, .dict _, _, _, _, _, _, _, _, _, _, _, _, _, hb => by rw [ltD] at hb <;> first | exact nomatch hb | (intros; exact nomatch ‹_›)
  | .tuple _, .none, _, _, _, _, _, _, _, _, _, _, _, _, hb => by rw [ltD] at hb <;> first | exact nomatch hb | (intros; exact nomatch ‹_›)
  | .tuple _, .bool _, _, _, _, _, _, _, _, _, _, _, _, _, hb => by rw [ltD] at hb <;> first | exact nomatch hb | (intros; exact nomatch ‹_›)
  | .tuple _, .int _, _, _, _, _, _, _, _, _, _, _, _, _, hb => by rw [ltD] at hb <;> first | exact nomatch hb | (intros; exact nomatch ‹_›)
  | .tuple _, .str _, _, _, _, _, _, _, _, _, _, _, _, _, hb => by rw [ltD] at hb <;> first | exact nomatch hb | (intros; exact nomatch ‹_›)
  | .tuple _, .list _, _, _, _, _, _, _, _, _, _, _, _, _, hb => by rw [ltD] at hb <;> first | exact nomatch hb | (intros; exact nomatch ‹_›)
  | .tuple _, .dict _, _, _, _, _, _, _, _, _, _, _, _, _, hb => by rw [ltD] at hb <;> first | exact nomatch hb | (intros; exact nomatch ‹_›)
theorem lt_rows : ∀ (ds es : List PyData) (A : Around) (s : Shared) (vs us : List Value) (as bs : List Addr) (b : Bool), ReadsAll s.heap vs ds as → ReadsAll s.heap us es bs → PyData.canLayAll0 ds = true → PyData.canLayAll0 es = true → A.units + PyData.depthAll ds + 1 < cLine → ltL ds es = some b → LtRow A s vs us b
  | [], [], A, s, vs, us, as, bs, b, r1, r2, _, _, _, hb => by
    cases r1
    cases r2
    cases (show some false = some b from by rw [ltL] at hb; exact hb)
    exact .nn
  | [], _ :: _, A, s, vs, us, as, bs, b, r1, r2, _, _, _, hb => by
    cases r1
    cases r2
    cases (show some true = some b from by rw [ltL] at hb; exact hb)
    exact .nc
  | _ :: _, [], A, s, vs, us, as, bs, b, r1, r2, _, _, _, hb => by
    cases r1
    cases r2
    cases (show some false = some b from by rw [ltL] at hb; exact hb)
    exact .cn
  | x :: xs, y :: ys, A, s, vs, us, as, bs, b, r1, r2, c1, c2, hu, hb => by
    have hb' : (if PyData.eqv x y then ltL xs ys else ltD x y) = some b := by rw [ltL] at hb; exact hb
    have hd : PyData.depthAll (x :: xs) = max x.depth (PyData.depthAll xs) := by rw [PyData.depthAll]
    have c1' : (x.canLay0 && PyData.canLayAll0 xs) = true := by rw [PyData.canLayAll0] at c1; exact c1
    have c2' : (y.canLay0 && PyData.canLayAll0 ys) = true := by rw [PyData.canLayAll0] at c2; exact c2
    obtain ⟨cx, cxs⟩ := Bool.and_eq_true_iff.mp c1'
    obtain ⟨cy, cys⟩ := Bool.and_eq_true_iff.mp c2'
    cases r1 with
    | cons ra1 ra2 =>
      cases r2 with
      | cons rb1 rb2 =>
        have eqA := SeqAt.eqAt_reads x y A s _ _ _ _ ra1 rb1 cx cy (by omega)
        by_cases he : PyData.eqv x y = true
        · rw [if_pos he] at hb'
          rw [he] at eqA
          exact .eq eqA (lt_rows xs ys A s _ _ _ _ b ra2 rb2 cxs cys (by omega) hb')
        · rw [if_neg he] at hb'
          rw [Bool.not_eq_true _ |>.mp he] at eqA
          exact .ne eqA (lt_reads x y A s _ _ _ _ b ra1 rb1 cx cy (by omega) hb')
end
def ltDD (x y : PyData) : Option PyData := if SeqAt.shaped x && SeqAt.shaped y then (ltD x y).map PyData.bool else none
theorem op_ltDD (hu : X.A.units + 66 < cLine) : OpR X (compareOp .Lt) (rD X.K ltDD) := by
  intro pins s σ H x y v u Q I rx ry hq
  obtain ⟨d, e, z, hd, he, hz, q⟩ := hq
  have hz' : (if SeqAt.shaped d && SeqAt.shaped e then (ltD d e).map PyData.bool else none) = some z := hz
  by_cases hl : (SeqAt.shaped d && SeqAt.shaped e) = true
  · rw [if_pos hl] at hz'
    obtain ⟨h1, h2⟩ := Bool.and_eq_true_iff.mp hl
    cases hb : ltD d e with
    | none => rw [hb] at hz'; cases hz'
    | some b =>
      rw [hb] at hz'
      have ez : PyData.bool b = z := Option.some.inj hz'
      subst ez
      obtain ⟨as, r1⟩ := Dp.reads I d x v hd.dp rx
      obtain ⟨bs, r2⟩ := Dp.reads I e y u he.dp ry
      have hdp := SeqAt.depth_of_shaped h1
      exact lt_reads d e X.A s v u as bs b r1 r2 (SeqAt.canLay_of_shaped h1) (SeqAt.canLay_of_shaped h2) (by omega) hb X.prog X.w X.xe _ ⟨V.bl b, H, I, rfl, q _ _ (Same.refl H) (.bl _)⟩
  · rw [if_neg hl] at hz'
    cases hz'
def gtDD : PyData → PyData → Option PyData
  | .int i, .int j => some (.bool (decide (j < i)))
  | .str a, .str b => some (.bool (decide (b.cps.toList < a.cps.toList)))
  | _, _ => none
def leDD : PyData → PyData → Option PyData
  | .int i, .int j => some (.bool (decide (i ≤ j)))
  | _, _ => none
def geDD : PyData → PyData → Option PyData
  | .int i, .int j => some (.bool (decide (j ≤ i)))
  | _, _ => none
theorem op_gtDD : OpR X (compareOp .Gt) (rD X.K gtDD) := by
  intro pins s σ H x y v u Q I rx ry hq
  obtain ⟨d, e, z, hd, he, hz, q⟩ := hq
  cases d with
  | int i =>
    cases e with
    | int j =>
      cases (show some (PyData.bool (decide (j < i))) = some z from hz)
      exact op_gt pins s σ H x y v u Q I rx ry ⟨i, j, hd.int, he.int, q _ _ (Same.refl H) (.bl _)⟩
    | _ => exact nomatch hz
  | str a =>
    cases e with
    | str b =>
      cases (show some (PyData.bool (decide (b.cps.toList < a.cps.toList))) = some z from hz)
      exact op_gt_str pins s σ H x y v u Q I rx ry ⟨a, b, hd.str, he.str, q _ _ (Same.refl H) (.bl _)⟩
    | _ => exact nomatch hz
  | _ => exact nomatch hz
theorem op_leDD : OpR X (compareOp .LtE) (rD X.K leDD) := by
  intro pins s σ H x y v u Q I rx ry hq
  obtain ⟨d, e, z, hd, he, hz, q⟩ := hq
  cases d with
  | int i =>
    cases e with
    | int j =>
      cases (show some (PyData.bool (decide (i ≤ j))) = some z from hz)
      exact op_le pins s σ H x y v u Q I rx ry ⟨i, j, hd.int, he.int, q _ _ (Same.refl H) (.bl _)⟩
    | _ => exact nomatch hz
  | _ => exact nomatch hz
theorem op_geDD : OpR X (compareOp .GtE) (rD X.K geDD) := by
  intro pins s σ H x y v u Q I rx ry hq
  obtain ⟨d, e, z, hd, he, hz, q⟩ := hq
  cases d with
  | int i =>
    cases e with
    | int j =>
      cases (show some (PyData.bool (decide (j ≤ i))) = some z from hz)
      exact op_ge pins s σ H x y v u Q I rx ry ⟨i, j, hd.int, he.int, q _ _ (Same.refl H) (.bl _)⟩
    | _ => exact nomatch hz
  | _ => exact nomatch hz
end
end RB
/-! RB5: built-ins and subscripts of data. -/
namespace RB
open PySem PySem.Spec L2
section
variable {X : Cx} {G : Gb} {E : XK}
/-! ### len, all, any, tuple, list, int, str -/
def lenD : List PyData → Option PyData
  | [.list xs] => some (.int xs.length)
  | [.tuple xs] => some (.int xs.length)
  | [.str x] => if x.length ≤ sizeLine then some (.int x.length) else none
  | _ => none
theorem RqA.one {K : PySem.W.Frag} {H : Hp} {vs : List V} {d : PyData} (h : RqA K H vs [d]) : ∃ v, vs = [v] ∧ Rq K H v d := by
  cases h with
  | cons r t => cases t; exact ⟨_, rfl, r⟩
theorem cr_len : CallR X (.builtin "len") (rDn X.K lenD) := by
  intro pins s σ H xs us Q I r hq
  obtain ⟨ds, z, hr, hz, q⟩ := hq
  match ds, hz with
  | [.list ys], hz =>
    cases (show some (PyData.int ys.length) = some z from hz)
    obtain ⟨v, rfl, hv⟩ := hr.one
    obtain ⟨a, vs, rfl, sa, ra⟩ := hv.list
    have el := ra.length
    exact call_len pins s σ H _ us Q I r ⟨_, vs.length, rfl, .inl ⟨vs, sa, rfl⟩, q _ _ (Same.refl H) (by rw [el]; exact .int _)⟩
  | [.tuple ys], hz =>
    cases (show some (PyData.int ys.length) = some z from hz)
    obtain ⟨v, rfl, hv⟩ := hr.one
    obtain ⟨a, vs, rfl, sa, ra⟩ := hv.tup
    have el := ra.length
    exact call_len pins s σ H _ us Q I r ⟨_, vs.length, rfl, .inr ⟨vs, sa, rfl⟩, q _ _ (Same.refl H) (by rw [el]; exact .int _)⟩
  | [.str y], hz =>
    have hz' : (if y.length ≤ sizeLine then some (PyData.int y.length) else none) = some z := hz
    by_cases hl : y.length ≤ sizeLine
    · rw [if_pos hl] at hz'
      cases hz'
      obtain ⟨v, rfl, hv⟩ := hr.one
      cases hv.str
      exact call_len pins s σ H _ us Q I r ⟨_, y.length, rfl, ⟨hl, rfl⟩, q _ _ (Same.refl H) (.int _)⟩
    · rw [if_neg hl] at hz'
      cases hz'
def boolsOf : List PyData → Option (List Bool)
  | [] => some []
  | .bool b :: r => (boolsOf r).map (b :: ·)
  | _ :: _ => none
theorem boolsOf_rp {K : PySem.W.Frag} {H : Hp} : ∀ {ds : List PyData} {vs : List V} {bs : List Bool}, RpA K H vs ds → boolsOf ds = some bs → vs = bs.map V.bl
  | [], _, bs, r, e => by cases r; cases (show some [] = some bs from e); rfl
  | .bool b :: ds, _, bs, r, e => by
    cases r with
    | cons r1 r2 =>
      have e' : (boolsOf ds).map (b :: ·) = some bs := e
      cases q : boolsOf ds with
      | none => rw [q] at e'; cases e'
      | some cs =>
        rw [q] at e'
        cases e'
        cases r1
        rw [boolsOf_rp r2 q]
        rfl
  | .none :: _, _, _, _, e => nomatch e
  | .int _ :: _, _, _, _, e => nomatch e
  | .str _ :: _, _, _, _, e => nomatch e
  | .list _ :: _, _, _, _, e => nomatch e
  | .tuple _ :: _, _, _, _, e => nomatch e
  | .dict _ :: _, _, _, _, e => nomatch e
def allB : List PyData → Option PyData
  | [.list xs] => (boolsOf xs).map fun bs => .bool (bs.all id)
  | _ => none
def anyB : List PyData → Option PyData
  | [.list xs] => (boolsOf xs).map fun bs => .bool (bs.any id)
  | _ => none
theorem cr_allB (hc : X.calm = true) : CallR X (.builtin "all") (rDn X.K allB) := by
  intro pins s σ H xs us Q I r hq
  obtain ⟨ds, z, hr, hz, q⟩ := hq
  match ds, hz with
  | [.list ys], hz =>
    have hz' : ((boolsOf ys).map fun bs => PyData.bool (bs.all id)) = some z := hz
    cases e : boolsOf ys with
    | none => rw [e] at hz'; cases hz'
    | some bs =>
      rw [e] at hz'
      cases hz'
      obtain ⟨v, rfl, hv⟩ := hr.one
      obtain ⟨a, vs, rfl, sa, ra⟩ := hv.list
      cases boolsOf_rp ra e
      exact cr_all hc pins s σ H _ us Q I r ⟨a, bs, rfl, sa, q _ _ (Same.refl H) (.bl _)⟩
theorem cr_anyB (hc : X.calm = true) : CallR X (.builtin "any") (rDn X.K anyB) := by
  intro pins s σ H xs us Q I r hq
  obtain ⟨ds, z, hr, hz, q⟩ := hq
  match ds, hz with
  | [.list ys], hz =>
    have hz' : ((boolsOf ys).map fun bs => PyData.bool (bs.any id)) = some z := hz
    cases e : boolsOf ys with
    | none => rw [e] at hz'; cases hz'
    | some bs =>
      rw [e] at hz'
      cases hz'
      obtain ⟨v, rfl, hv⟩ := hr.one
      obtain ⟨a, vs, rfl, sa, ra⟩ := hv.list
      cases boolsOf_rp ra e
      exact cr_any hc pins s σ H _ us Q I r ⟨a, bs, rfl, sa, q _ _ (Same.refl H) (.bl _)⟩
def tupleB : List PyData → Option PyData
  | [.list xs] => some (.tuple xs)
  | [.tuple xs] => some (.tuple xs)
  | _ => none
theorem cr_tupleB : CallR X (.type "tuple") (rDn X.K tupleB) := by
  intro pins s σ H xs us Q I r hq
  obtain ⟨ds, z, hr, hz, q⟩ := hq
  match ds, hz with
  | [.list ys], hz =>
    cases (show some (PyData.tuple ys) = some z from hz)
    obtain ⟨v, rfl, hv⟩ := hr.one
    obtain ⟨a, vs, rfl, sa, ra⟩ := hv.list
    exact call_tuple_of pins s σ H _ us Q I r ⟨a, vs, rfl, .inl ⟨sa, fun p hp => q _ _ (same_new hp) (rp_tup hp ra)⟩⟩
  | [.tuple ys], hz =>
    cases (show some (PyData.tuple ys) = some z from hz)
    obtain ⟨v, rfl, hv⟩ := hr.one
    obtain ⟨a, vs, rfl, sa, ra⟩ := hv.tup
    exact call_tuple_of pins s σ H _ us Q I r ⟨a, vs, rfl, .inr ⟨sa, q _ _ (Same.refl H) (.tup sa ra)⟩⟩
def listB : List PyData → Option PyData
  | [.list xs] => some (.list xs)
  | [.tuple xs] => some (.list xs)
  | _ => none
theorem cr_listB : CallR X (.type "list") (rDn X.K listB) := by
  intro pins s σ H xs us Q I r hq
  obtain ⟨ds, z, hr, hz, q⟩ := hq
  have main : ∀ (a : Addr) (vs : List V) (ys : List PyData), xs = [.ref a] → (SqL X.K H a vs ∨ SqT X.K H a vs) → RpA X.K H vs ys → (∀ v H', Same H H' → Rp X.K H' v (.list ys) → Q v H') → wpAny (model X.prog X.w) X.A (call (.type "list") us) (EP X pins σ Q) X.xe s := by
    intro a vs ys ex sa ra q
    refine thn (call_list_of pins s σ H xs us (fun v H' => ∃ p vs, v = .ref p ∧ H p = none ∧ H' = upd H p (.lst vs) ∧ ∀ o, Q (.ref p) (upd (upd H p (.lst vs)) p (.frz o (.lst vs)))) I r
      ⟨a, vs, ex, sa, fun p hp => ⟨p, vs, rfl, hp, rfl, fun o => q _ _ (same_new2 hp) (rp_lst hp ra o)⟩⟩) fun u s' hu => EP.lock hu
  match ds, hz with
  | [.list ys], hz =>
    cases (show some (PyData.list ys) = some z from hz)
    obtain ⟨v, rfl, hv⟩ := hr.one
    obtain ⟨a, vs, rfl, sa, ra⟩ := hv.list
    exact main a vs ys rfl (.inl sa) ra q
  | [.tuple ys], hz =>
    cases (show some (PyData.list ys) = some z from hz)
    obtain ⟨v, rfl, hv⟩ := hr.one
    obtain ⟨a, vs, rfl, sa, ra⟩ := hv.tup
    exact main a vs ys rfl (.inr sa) ra q
def intB : List PyData → Option PyData
  | [.int i] => some (.int i)
  | [.bool b] => some (.int (if b then 1 else 0))
  | _ => none
theorem cr_intB : CallR X (.type "int") (rDn X.K intB) := by
  intro pins s σ H xs us Q I r hq
  obtain ⟨ds, z, hr, hz, q⟩ := hq
  match ds, hz with
  | [.int i], hz =>
    cases (show some (PyData.int i) = some z from hz)
    obtain ⟨v, rfl, hv⟩ := hr.one
    cases hv.int
    exact call_int1 pins s σ H _ us Q I r (.inl ⟨i, rfl, q _ _ (Same.refl H) (.int _)⟩)
  | [.bool b], hz =>
    cases (show some (PyData.int (if b then 1 else 0)) = some z from hz)
    obtain ⟨v, rfl, hv⟩ := hr.one
    cases hv.bool
    refine call_int1 pins s σ H _ us Q I r (.inr ⟨b, rfl, ?_⟩)
    cases b
    · exact q _ _ (Same.refl H) (.int 0)
    · exact q _ _ (Same.refl H) (.int 1)
def strB : List PyData → Option PyData
  | [.int i] => if i.natAbs.log2 < 1920 then some (.str (toString i)) else none
  | _ => none
theorem cr_strB : CallR X (.type "str") (rDn X.K strB) := by
  intro pins s σ H xs us Q I r hq
  obtain ⟨ds, z, hr, hz, q⟩ := hq
  match ds, hz with
  | [.int i], hz =>
    have hz' : (if i.natAbs.log2 < 1920 then some (PyData.str (toString i)) else none) = some z := hz
    by_cases hl : i.natAbs.log2 < 1920
    · rw [if_pos hl] at hz'
      cases hz'
      obtain ⟨v, rfl, hv⟩ := hr.one
      cases hv.int
      exact call_str_int pins s σ H _ us Q I r ⟨i, rfl, hl, q _ _ (Same.refl H) (.str _)⟩
    · rw [if_neg hl] at hz'
      cases hz'
/-! ### repr -/
def isSeqD : PyData → Bool
  | .list _ => true
  | .tuple _ => true
  | _ => false
def reprB : List PyData → Option PyData
  | [d] => if SeqAt.shaped d && (d.showable && decide (d.shown.length ≤ sizeLine)) then some (.str d.shown) else none
  | _ => none
mutual
theorem noDict : ∀ d : PyData, d.canLay0 = true → d.hasDict = false
  | .none, _ => rfl
  | .bool _, _ => rfl
  | .int _, _ => rfl
  | .str _, _ => rfl
  | .list xs, h => by
    have h' : PyData.canLayAll0 xs = true := by rw [PyData.canLay0] at h; exact h
    rw [PyData.hasDict]
    exact noDictA xs h'
  | .tuple xs, h => by
    have h' : PyData.canLayAll0 xs = true := by rw [PyData.canLay0] at h; exact h
    rw [PyData.hasDict]
    exact noDictA xs h'
  | .dict _, h => by rw [PyData.canLay0] at h; cases h
theorem noDictA : ∀ ds : List PyData, PyData.canLayAll0 ds = true → PyData.hasDictAll ds = false
  | [], _ => by rw [PyData.hasDictAll]
  | x :: xs, h => by
    have h' : (x.canLay0 && PyData.canLayAll0 xs) = true := by rw [PyData.canLayAll0] at h; exact h
    obtain ⟨h1, h2⟩ := Bool.and_eq_true_iff.mp h'
    rw [PyData.hasDictAll, noDict x h1, noDictA xs h2]
    rfl
end
theorem cr_reprB (hg : X.A.guards = some []) (hu : X.A.units + 66 < cLine) : CallR X (.builtin "repr") (rDn X.K reprB) := by
  intro pins s σ H xs us Q I r hq
  obtain ⟨ds, z, hr, hz, q⟩ := hq
  match ds, hz with
  | [d], hz =>
    have hz' : (if SeqAt.shaped d && (d.showable && decide (d.shown.length ≤ sizeLine)) then some (PyData.str d.shown) else none) = some z := hz
    by_cases hl : (SeqAt.shaped d && (d.showable && decide (d.shown.length ≤ sizeLine))) = true
    · rw [if_pos hl] at hz'
      cases hz'
      obtain ⟨h1, hl2⟩ := Bool.and_eq_true_iff.mp hl
      obtain ⟨h2, hl3⟩ := Bool.and_eq_true_iff.mp hl2
      obtain ⟨v, rfl, hv⟩ := hr.one
      obtain ⟨u, rfl, ru⟩ := r.one
      have fin : ∀ (tk : Nat), EP X pins σ Q (.str d.shown s.toks) { s with toks := tk } := fun tk => ⟨V.str d.shown, H, I.tok _, ⟨_, rfl⟩, q _ _ (Same.refl H) (.str _)⟩
      have hlen := of_decide_eq_true hl3
      cases hs : isSeqD d with
      | true =>
        obtain ⟨as, rd⟩ := Dp.reads I d v u hv.dp ru
        have ex : ∃ a, u = .ref a := by
          cases d with
          | list ys => cases rd; exact ⟨_, rfl⟩
          | tuple ys => cases rd; exact ⟨_, rfl⟩
          | _ => cases hs
        obtain ⟨a, rfl⟩ := ex
        have hdp := SeqAt.depth_of_shaped h1
        refine repr_of_reads' rd h2 (fun z => ?_) hg (by omega) (fun b o e => e) (fun h' u tk kp => ?_) hlen
        · rw [noDict d (SeqAt.canLay_of_shaped h1)] at z
          cases z
        · exact ⟨V.str d.shown, H, I.kept (h' := h') (t' := tk) kp, ⟨u, rfl⟩, q _ _ (Same.refl H) (.str _)⟩
      | false =>
        cases d with
        | none =>
          cases hv.dp
          cases ru
          exact PySem.P.repr_of_none (fin _)
        | bool b =>
          cases hv.dp
          cases ru
          exact PySem.P.repr_of_bool (fin _)
        | int i =>
          cases hv.dp
          obtain ⟨t, rfl⟩ := ru
          exact PySem.P.repr_of_int (by simpa [PyData.showable] using h2) (fin _)
        | str x =>
          cases hv.dp
          obtain ⟨t, rfl⟩ := ru
          exact PySem.P.repr_of_str (fin _) hlen
        | list ys => cases hs
        | tuple ys => cases hs
        | dict ys => rw [SeqAt.shaped] at h1; cases h1
    · rw [if_neg hl] at hz'
      cases hz'
/-! ### x[i] -/
def ixD : PyData → PyData → Option PyData
  | .list xs, .int i => atI xs i
  | .tuple xs, .int i => atI xs i
  | .str x, .int i => if x.length ≤ sizeLine then (atI x.cps.toList i).map fun c => .str ⟨#[c]⟩ else none
  | _, _ => none
theorem atI_rp {K : PySem.W.Frag} {H : Hp} {vs : List V} {ds : List PyData} {i : Int} {d : PyData} (r : RpA K H vs ds) (e : atI ds i = some d) : ∃ v, atI vs i = some v ∧ Rp K H v d := by
  unfold atI at e ⊢
  rw [r.length]
  cases q : ixN ds.length i with
  | none => rw [q] at e; cases e
  | some j =>
    rw [q] at e
    exact r.get (show ds[j]? = some d from e)
theorem ix_D : IxR X (rD X.K ixD) := by
  intro ve se pins s σ H x y v u Q I rx ry hq hs
  obtain ⟨d, e, z, hd, he, hz, q⟩ := hq
  cases e with
  | int i =>
    cases d with
    | list ys =>
      obtain ⟨a, vs, rfl, sa, ra⟩ := hd.list
      obtain ⟨w, e1, r1⟩ := atI_rp ra (show atI ys i = some z from hz)
      exact ix_list ve se pins s σ H _ y v u Q I rx ry ⟨a, vs, i, w, rfl, he.int, sa, e1, q _ _ (Same.refl H) r1⟩ hs
    | tuple ys =>
      obtain ⟨a, vs, rfl, sa, ra⟩ := hd.tup
      obtain ⟨w, e1, r1⟩ := atI_rp ra (show atI ys i = some z from hz)
      exact ix_tup ve se pins s σ H _ y v u Q I rx ry ⟨a, vs, i, w, rfl, he.int, sa, e1, q _ _ (Same.refl H) r1⟩ hs
    | str t =>
      have hz' : (if t.length ≤ sizeLine then (atI t.cps.toList i).map fun c => PyData.str ⟨#[c]⟩ else none) = some z := hz
      by_cases hl : t.length ≤ sizeLine
      · rw [if_pos hl] at hz'
        cases e2 : atI t.cps.toList i with
        | none => rw [e2] at hz'; cases hz'
        | some c =>
          rw [e2] at hz'
          cases hz'
          exact ix_str ve se pins s σ H _ y v u Q I rx ry ⟨t, i, c, hd.str, he.int, hl, e2, q _ _ (Same.refl H) (.str _)⟩ hs
      · rw [if_neg hl] at hz'
        cases hz'
    | _ => exact nomatch hz
  | _ => cases d <;> exact nomatch hz
theorem pf_ix {a b : Expr} {pos : Pos} {ga gb : FE} (hK : X.K = G.K) (hs : PlainIx b) (ha : PE X a (tF G E ga)) (hb : PE X b (tF G E gb)) : PE X (.Subscript a b pos) (tF G E (fOp ixD ga gb)) := by
  refine PE.imp (pe_ix ix_D ha hb hs) fun σ H Q ⟨ρ, l, h, sm, sl, rn⟩ => ⟨ρ, l, h, sm, sl, rn.bind.mono ?_⟩
  rintro x H1 ⟨ρ1, h1, u, e1, s1, r1, _, n1⟩
  refine ⟨ρ1, l, h1, s1, sl.ext e1, n1.bind.mono ?_⟩
  rintro y H2 ⟨ρ2, h2, w, e2, s2, r2, _, n2⟩
  rw [hK]
  exact op_end s2 (RU.ext r1 e2) r2 n2
/-! ### x[a:b] -/
def cutD (xs : List PyData) (lo hi : Option Int) : List PyData := (xs.drop (HT.sIx xs.length 0 lo)).take (HT.sIx xs.length xs.length hi - HT.sIx xs.length 0 lo)
theorem cut_rp {K : PySem.W.Frag} {H : Hp} {vs : List V} {ds : List PyData} {lo hi : Option Int} (r : RpA K H vs ds) : RpA K H (cutV vs lo hi) (cutD ds lo hi) := by
  unfold cutV cutD
  rw [r.length]
  exact (r.drop _).take _
def slD (lo hi : Option Int) : PyData → Option PyData
  | .list xs => some (.list (cutD xs lo hi))
  | .tuple xs => some (.tuple (cutD xs lo hi))
  | .str x => if x.length ≤ sizeLine then some (.str (cutS x lo hi)) else none
  | _ => none
def rSlD (K : PySem.W.Frag) : V → Option Int → Option Int → Hp → VK → Prop := fun x lo hi H Q => ∃ d z, Rq K H x d ∧ slD lo hi d = some z ∧ ∀ v H', Same H H' → Rp K H' v z → Q v H'
theorem sl_D : SlR X (rSlD X.K) := by
  intro pins s σ H x v vl vu lo hi sl Q I rx hs pl pu hq
  obtain ⟨d, z, hd, hz, q⟩ := hq
  cases d with
  | list ys =>
    cases (show some (PyData.list (cutD ys lo hi)) = some z from hz)
    obtain ⟨a, vs, rfl, sa, ra⟩ := hd.list
    obtain ⟨T, id, h1, h2, h3⟩ := sl_list pins s σ H _ v vl vu lo hi sl (fun v H' => ∃ p vs, v = .ref p ∧ H p = none ∧ H' = upd H p (.lst vs) ∧ ∀ o, Q (.ref p) (upd (upd H p (.lst vs)) p (.frz o (.lst vs)))) I rx hs pl pu
      ⟨a, vs, rfl, sa, fun p hp => ⟨p, _, rfl, hp, rfl, fun o => q _ _ (same_new2 hp) (rp_lst hp (cut_rp ra) o)⟩⟩
    exact ⟨T, id, h1, h2, thn h3 fun u s' hu => EP.lock hu⟩
  | tuple ys =>
    cases (show some (PyData.tuple (cutD ys lo hi)) = some z from hz)
    obtain ⟨a, vs, rfl, sa, ra⟩ := hd.tup
    refine sl_tupA pins s σ H _ v vl vu lo hi sl Q I rx hs pl pu ⟨a, vs, rfl, sa, fun hw => ?_, fun _ p hp => q _ _ (same_new hp) (rp_tup hp (cut_rp ra))⟩
    have e : cutD ys lo hi = ys := by
      unfold cutD
      rw [ra.length] at hw
      rw [hw.1, hw.2, Nat.sub_zero, List.drop_zero, List.take_length]
    rw [e] at q
    exact q _ _ (Same.refl H) (.tup sa ra)
  | str t =>
    have hz' : (if t.length ≤ sizeLine then some (PyData.str (cutS t lo hi)) else none) = some z := hz
    by_cases hl : t.length ≤ sizeLine
    · rw [if_pos hl] at hz'
      cases hz'
      exact sl_str pins s σ H _ v vl vu lo hi sl Q I rx hs pl pu ⟨t, hd.str, hl, q _ _ (Same.refl H) (.str _)⟩
    · rw [if_neg hl] at hz'
      cases hz'
  | _ => exact nomatch hz
abbrev FO := Lc → AH → R (Option Int)
def fNo : FO := fun _ h => .ok none h
def asI : U → Option Int
  | .d (.int i) => some i
  | _ => none
def fSo (a : FE) : FO := fun l h => (a l h).bind fun x h1 => R.of ((asI x).map some) h1
abbrev RelO' : Hp → (Nat → Addr) → AH → Option Int → Option Int → Prop := fun _ _ _ b a => b = a
def tFO (G : Gb) (E : XK) (g : FO) : TO := fun σ H Q => ∃ ρ l h, Sim G ρ h H ∧ Sl G.K H ρ h σ l ∧ Rn G RelO' E (g l h) ρ h H Q
theorem PO.imp {e : Option Expr} {t t' : TO} (p : PO X e t) (f : ∀ σ H Q, t' σ H Q → t σ H Q) : PO X e t' := ⟨fun pins s σ H Q I q => p.run pins s σ H Q I (f σ H Q q)⟩
theorem pf_no : PO X none (tFO G E fNo) := PO.imp po_none fun σ H Q ⟨ρ, l, h, sm, sl, rn⟩ => rn.here sm rfl
theorem asI_rel {K : PySem.W.Frag} {H : Hp} {ρ : Nat → Addr} {h : AH} {v : V} {u : U} {i : Int} (r : RU K H ρ h v u) (e : asI u = some i) : v = .int i := by
  cases u with
  | r n => exact nomatch e
  | x _ _ _ => exact nomatch e
  | d x =>
    cases x with
    | int j =>
      cases (show some j = some i from e)
      cases (show Rp K H v (.int i) from r)
      rfl
    | _ => exact nomatch e
theorem pf_so {e : Expr} {g : FE} (ha : PE X e (tF G E g)) : PO X (some e) (tFO G E (fSo g)) := by
  refine PO.imp (po_some ha) fun σ H Q ⟨ρ, l, h, sm, sl, rn⟩ => ⟨ρ, l, h, sm, sl, rn.bind.mono ?_⟩
  rintro x H1 ⟨ρ1, h1, u, e1, s1, r1, _, n1⟩
  cases q : asI u with
  | none => rw [q] at n1; exact n1.elim
  | some i =>
    rw [q] at n1
    exact ⟨i, asI_rel r1 q, n1.here s1 rfl⟩
def slU (h : AH) (lo hi : Option Int) (x : U) : Option U := (datU h x).bind fun d => (slD lo hi d).map U.d
def fSl (a : FE) (lo hi : FO) : FE := fun l h => (a l h).bind fun x h1 => (lo l h1).bind fun i h2 => (hi l h2).bind fun j h3 => R.of (slU h3 i j x) h3
theorem pf_sl {e : Expr} {lo hi : Option Expr} {p pos : Pos} {ga : FE} {gl gh : FO} (hK : X.K = G.K) (ha : PE X e (tF G E ga)) (hl : PO X lo (tFO G E gl)) (hh : PO X hi (tFO G E gh)) : PE X (.Subscript e (.Slice lo hi none p) pos) (tF G E (fSl ga gl gh)) := by
  refine PE.imp (pe_slice sl_D ha hl hh) fun σ H Q ⟨ρ, l, h, sm, sl, rn⟩ => ⟨ρ, l, h, sm, sl, rn.bind.mono ?_⟩
  rintro x H1 ⟨ρ1, h1, u, e1, s1, r1, _, n1⟩
  refine ⟨ρ1, l, h1, s1, sl.ext e1, n1.bind.mono ?_⟩
  rintro i H2 ⟨ρ2, h2, i', e2, s2, r2, _, n2⟩
  cases (show i = i' from r2)
  refine ⟨ρ2, l, h2, s2, (sl.ext e1).ext e2, n2.bind.mono ?_⟩
  rintro j H3 ⟨ρ3, h3, j', e3, s3, r3, _, n3⟩
  cases (show j = j' from r3)
  cases q : slU h3 i j u with
  | none => rw [q] at n3; exact n3.elim
  | some z =>
    rw [q] at n3
    unfold slU at q
    cases q1 : datU h3 u with
    | none => rw [q1] at q; cases q
    | some d =>
      rw [q1] at q
      have q' : (slD i j d).map U.d = some z := q
      cases q2 : slD i j d with
      | none => rw [q2] at q'; cases q'
      | some w =>
        rw [q2] at q'
        cases q'
        rw [hK]
        exact ⟨d, w, datU_rq s3 (RU.ext (RU.ext r1 e2) e3) q1, q2, fun v H' sa rv => Rn.at_ n3 (.grow sa) (s3.grow sa) rv⟩
end
end RB
/-! RB6: isinstance, calls of types, chains, tests, reversed slices. -/
namespace RB
open PySem PySem.Spec L2
section
variable {X : Cx} {G : Gb} {E : XK}
theorem pf_callTy {x : Str} {T : String} {e : Expr} {es : List Expr} {p pos : Pos} {op : List PyData → Option PyData} {ga : FA} (hK : X.K = G.K) (hc : CallR X (.type T) (rDn X.K op)) (hg : Gl X x) (hm : X.mg x = none) (hv : bootBuiltins x = some (.type T)) (ha : PA X (e :: es) (tFA G E ga))
    (hn : x ≠ "__name__") (hd : (x == ("__debug__" : Str)) = false) (he : starEach (e :: es) X.env = (false, eval e X.env) :: starEach es X.env) (hpl : (backTo pos (starEach es X.env)).any (·.1) = false) : PE X (.Call (.Name x p) (e :: es) [] pos) (tF G E (fCB op ga)) := by
  refine PE.imp (pe_callTy hc hg hm hv ha hn hd he hpl) fun σ H Q ⟨ρ, l, h, sm, sl, rn⟩ => ⟨ρ, l, h, sm, sl, rn.bind.mono ?_⟩
  rintro vs H1 ⟨ρ1, h1, us, e1, s1, r1, _, n1⟩
  cases q : datUs h1 us with
  | none => rw [q] at n1; exact n1.elim
  | some ds =>
    rw [q] at n1
    have n2 : Rn G (RelU G) E (R.of ((op ds).map U.d) h1) ρ1 h1 H1 Q := n1
    cases q2 : op ds with
    | none => rw [q2] at n2; exact n2.elim
    | some z =>
      rw [q2] at n2
      rw [hK]
      exact ⟨ds, z, datUs_rq s1 r1 q, q2, fun v H' sa rv => Rn.at_ n2 (.grow sa) (s1.grow sa) rv⟩
/-! ### isinstance of data and a built-in type -/
def tyD : PyData → String
  | .none => "NoneType"
  | .bool _ => "bool"
  | .int _ => "int"
  | .str _ => "str"
  | .list _ => "list"
  | .tuple _ => "tuple"
  | .dict _ => "dict"
def isiD (T : String) (d : PyData) : Option PyData := (kitB (tyD d) T).map PyData.bool
theorem ty_of {K : PySem.W.Frag} {H : Hp} {v : V} {d : PyData} (h : Rq K H v d) : TyX K H v (.type (tyD d)) := by
  cases d with
  | none => rw [h.none]; exact .base .non
  | bool b => rw [h.bool]; exact .base (.bl b)
  | int b => rw [h.int]; exact .base (.int b)
  | str b => rw [h.str]; exact .base (.str b)
  | list ds =>
    obtain ⟨a, vs, rfl, (e | ⟨o, e⟩), r⟩ := h.rd
    · exact .base (.lst e)
    · exact .base (.frz e)
  | tuple ds =>
    obtain ⟨a, vs, rfl, (e | ⟨o, e⟩) | ⟨o, its, n, e, c, _⟩, r⟩ := h.tup
    · exact .base (.tup e)
    · exact .fTuple e
    · exact .kTuple e c
  | dict b =>
    rcases h with h | ⟨a, vs, ds', rfl, e1, e, r⟩
    · cases h
    · cases e1
theorem pf_isi {e : Expr} {T : Str} {Tn : String} {p pT pos : Pos} {g : FE} (hK : X.K = G.K) (hg : Gl X "isinstance") (hm : X.mg "isinstance" = none) (hgT : Gl X T) (hmT : X.mg T = none) (hT : bootBuiltins T = some (.type Tn)) (hnT : T ≠ "__name__") (hdT : (T == ("__debug__" : Str)) = false)
    (ha : PE X e (tF G E g)) (he : starEach [e, .Name T pT] X.env = (false, eval e X.env) :: starEach [.Name T pT] X.env) : PE X (.Call (.Name "isinstance" p) [e, .Name T pT] [] pos) (tF G E (fUn (isiD Tn) g)) := by
  have hT1 : PE X (.Name T pT) (tC (.ty Tn)) := pe_bltn hgT hmT hT rfl hnT hdT
  refine PE.imp (pe_callB call_isi hg hm (by decide +kernel) (pa_cons ha (pa_cons hT1 pa_nil rfl) he) (by decide) (by decide) he rfl) fun σ H Q ⟨ρ, l, h, sm, sl, rn⟩ => ⟨ρ, l, h, sm, sl, rn.bind.mono ?_⟩
  rintro x H1 ⟨ρ1, h1, u, e1, s1, r1, _, n1⟩
  show rIsi X.K [x, .ty Tn] H1 Q
  cases q : unU (isiD Tn) h1 u with
  | none => rw [q] at n1; exact n1.elim
  | some z =>
    rw [q] at n1
    obtain ⟨d, w, q1, q2, rfl⟩ := unU_some q
    have q2' : (kitB (tyD d) Tn).map PyData.bool = some w := q2
    cases q3 : kitB (tyD d) Tn with
    | none => rw [q3] at q2'; cases q2'
    | some b =>
      rw [q3] at q2'
      cases q2'
      rw [hK]
      exact ⟨x, .ty Tn, _, _, b, rfl, .ty Tn, ty_of (datU_rq s1 r1 q1), kit_ty q3, Rn.here n1 s1 (Rp.bl b)⟩
/-! ### a op b op' c -/
def fChain (op op' : PyData → PyData → Option PyData) (a b c : FE) : FE := fun l h => (a l h).bind fun x h1 => (b l h1).bind fun y h2 => (R.of ((opU op h2 x y).bind asB) h2).bind fun k h3 => match k with
  | true => (c l h3).bind fun z h4 => R.of (opU op' h4 y z) h4
  | false => .ok (.d (.bool false)) h3
theorem chain_end {op op' : PyData → PyData → Option PyData} {σ : L2.St} {gc : FE} {l : Lc} {Q : VK} {x y : V} {H2 : Hp} {ρ2 : Nat → Addr} {h2 : AH} {u w : U} (hK : X.K = G.K) (s2 : Sim G ρ2 h2 H2) (sl : Sl G.K H2 ρ2 h2 σ l) (r1 : RU G.K H2 ρ2 h2 x u) (r2 : RU G.K H2 ρ2 h2 y w)
    (n2 : Rn G (RelU G) E ((R.of ((opU op h2 u w).bind asB) h2).bind fun k h3 => match k with
      | true => (gc l h3).bind fun z h4 => R.of (opU op' h4 w z) h4
      | false => .ok (.d (.bool false)) h3) ρ2 h2 H2 Q) :
    rD X.K op x y H2 fun z H3 => ∃ k, z = .bl k ∧ (if k = true then tF G E gc σ H3 fun w' H4 => rD X.K op' y w' H4 Q else Q (.bl false) H3) := by
  rw [hK]
  cases q : opU op h2 u w with
  | none => rw [q] at n2; exact n2.elim
  | some z =>
    rw [q] at n2
    cases qb : asB z with
    | none =>
      have n3 : Rn G (RelU G) E ((R.of (asB z) h2).bind fun k h3 => match k with
        | true => (gc l h3).bind fun z h4 => R.of (opU op' h4 w z) h4
        | false => .ok (.d (.bool false)) h3) ρ2 h2 H2 Q := n2
      rw [qb] at n3
      exact n3.elim
    | some k =>
      have n3 : Rn G (RelU G) E ((R.of (asB z) h2).bind fun k h3 => match k with
        | true => (gc l h3).bind fun z h4 => R.of (opU op' h4 w z) h4
        | false => .ok (.d (.bool false)) h3) ρ2 h2 H2 Q := n2
      rw [qb] at n3
      obtain ⟨d, c, z', e1, e2, e3, rfl⟩ := opU_some q
      refine ⟨d, c, z', datU_rq s2 r1 e1, datU_rq s2 r2 e2, e3, fun v H' sa rv => ⟨k, asB_rel (u := .d z') (ρ := ρ2) (h := h2) rv qb, ?_⟩⟩
      cases k with
      | true =>
        rw [if_pos rfl]
        have n4 : Rn G (RelU G) E ((gc l h2).bind fun z h4 => R.of (opU op' h4 w z) h4) ρ2 h2 H2 Q := n3
        refine ⟨ρ2, l, h2, s2.grow sa, sl.ext (.grow sa), (n4.ext (.grow sa)).bind.mono ?_⟩
        rintro w' H4 ⟨ρ4, h4, t, e4, s4, r4, _, n5⟩
        exact op_end s4 ((r2.ext (.grow sa)).ext e4) r4 n5
      | false =>
        rw [if_neg Bool.false_ne_true]
        exact Rn.at_ n3 (.grow sa) (s2.grow sa) (Rp.bl false)
theorem pf_chain {a b c : Expr} {o o' : CmpOp} {pos : Pos} {op op' : PyData → PyData → Option PyData} {ga gb gc : FE} (hK : X.K = G.K) (ho : OpR X (compareOp o) (rD X.K op)) (ho' : OpR X (compareOp o') (rD X.K op')) (ha : PE X a (tF G E ga)) (hb : PE X b (tF G E gb)) (hc : PE X c (tF G E gc)) (hm : lastMarks [o, o'] [b, c] = false) :
    PE X (.Compare a [o, o'] [b, c] pos) (tF G E (fChain op op' ga gb gc)) := by
  refine PE.imp (pe_chain ho ho' ha hb hc hm) fun σ H Q ⟨ρ, l, h, sm, sl, rn⟩ => ⟨ρ, l, h, sm, sl, rn.bind.mono ?_⟩
  rintro x H1 ⟨ρ1, h1, u, e1, s1, r1, _, n1⟩
  refine ⟨ρ1, l, h1, s1, sl.ext e1, n1.bind.mono ?_⟩
  rintro y H2 ⟨ρ2, h2, w, e2, s2, r2, _, n2⟩
  exact chain_end hK s2 ((sl.ext e1).ext e2) (RU.ext r1 e2) r2 n2
/-- the value of an expression as a test, where the reading of the test is that of the value -/
theorem tTest_of {t : TE} {g : FE} (p : ∀ σ H Q, tF G E g σ H Q → t σ H Q) : ∀ σ H Q, tFT G E (fTe g) σ H Q → tTest t σ H Q := by
  rintro σ H Q ⟨ρ, l, h, sm, sl, rn⟩
  refine p σ H _ ⟨ρ, l, h, sm, sl, rn.bind.mono ?_⟩
  rintro x H1 ⟨ρ1, h1, u, e1, s1, r1, _, n1⟩
  cases q : asB u with
  | none => rw [q] at n1; exact n1.elim
  | some b =>
    rw [q] at n1
    exact ⟨b, asB_rel r1 q, n1.here s1 rfl⟩
theorem pf_tchain {a b c : Expr} {o o' : CmpOp} {pos : Pos} {op op' : PyData → PyData → Option PyData} {ga gb gc : FE} (hK : X.K = G.K) (ho : OpR X (compareOp o) (rD X.K op)) (ho' : OpR X (compareOp o') (rD X.K op')) (ha : PE X a (tF G E ga)) (hb : PE X b (tF G E gb)) (hc : PE X c (tF G E gc)) (hm : lastMarks [o, o'] [b, c] = false) :
    PT X (.Compare a [o, o'] [b, c] pos) (tFT G E (fTe (fChain op op' ga gb gc))) := by
  refine PT.imp (pt_chain ho ho' ha hb hc hm) (tTest_of fun σ H Q ⟨ρ, l, h, sm, sl, rn⟩ => ⟨ρ, l, h, sm, sl, rn.bind.mono ?_⟩)
  rintro x H1 ⟨ρ1, h1, u, e1, s1, r1, _, n1⟩
  refine ⟨ρ1, l, h1, s1, sl.ext e1, n1.bind.mono ?_⟩
  rintro y H2 ⟨ρ2, h2, w, e2, s2, r2, _, n2⟩
  exact chain_end hK s2 ((sl.ext e1).ext e2) (RU.ext r1 e2) r2 n2
/-! ### and, or, not as tests -/
theorem PW.imp {e : Expr} {t t' : TT} (p : PW X e t) (f : ∀ σ H Q, t' σ H Q → t σ H Q) : PW X e t' := ⟨fun wh pins s σ H Q I q => p.run wh pins s σ H Q I (f σ H Q q)⟩
theorem pw_one_and {a : Expr} {pos : Pos} {g : FE} (ha : PT X a (tFT G E (fTe g))) : PW X (.BoolOp .And [a] pos) (tFT G E (fTe g)) := pw_and1 ha
theorem pw_one_or {a : Expr} {pos : Pos} {g : FE} (ha : PT X a (tFT G E (fTe g))) : PW X (.BoolOp .Or [a] pos) (tFT G E (fTe g)) := pw_or1 ha
theorem fAnd_te (ga gb : FE) (l : Lc) (h : AH) : fTe (fAnd ga gb) l h = (fTe ga l h).bind fun c h1 => match c with | true => fTe gb l h1 | false => .ok false h1 := by
  unfold fTe fAnd
  rw [R.bind_assoc, R.bind_assoc]
  congr
  funext x h1
  cases q : asB x with
  | none => rfl
  | some b => cases b <;> rfl
theorem fOr_te (ga gb : FE) (l : Lc) (h : AH) : fTe (fOr ga gb) l h = (fTe ga l h).bind fun c h1 => match c with | true => .ok true h1 | false => fTe gb l h1 := by
  unfold fTe fOr
  rw [R.bind_assoc, R.bind_assoc]
  congr
  funext x h1
  cases q : asB x with
  | none => rfl
  | some b => cases b <;> rfl
theorem pf_wand {a b : Expr} {rest : List Expr} {pos : Pos} {ga gb : FE} (ha : PT X a (tFT G E (fTe ga))) (hb : PW X (.BoolOp .And (b :: rest) pos) (tFT G E (fTe gb))) : PW X (.BoolOp .And (a :: b :: rest) pos) (tFT G E (fTe (fAnd ga gb))) := by
  refine PW.imp (pw_and ha hb) fun σ H Q ⟨ρ, l, h, sm, sl, rn⟩ => ?_
  rw [fAnd_te] at rn
  refine ⟨ρ, l, h, sm, sl, rn.bind.mono ?_⟩
  rintro x H1 ⟨ρ1, h1, u, e1, s1, r1, _, n1⟩
  cases (show x = u from r1)
  cases x with
  | true =>
    rw [if_pos rfl]
    exact ⟨ρ1, l, h1, s1, sl.ext e1, n1⟩
  | false =>
    rw [if_neg Bool.false_ne_true]
    exact n1.here s1 rfl
theorem pf_wor {a b : Expr} {rest : List Expr} {pos : Pos} {ga gb : FE} (ha : PT X a (tFT G E (fTe ga))) (hb : PW X (.BoolOp .Or (b :: rest) pos) (tFT G E (fTe gb))) : PW X (.BoolOp .Or (a :: b :: rest) pos) (tFT G E (fTe (fOr ga gb))) := by
  refine PW.imp (pw_or ha hb) fun σ H Q ⟨ρ, l, h, sm, sl, rn⟩ => ?_
  rw [fOr_te] at rn
  refine ⟨ρ, l, h, sm, sl, rn.bind.mono ?_⟩
  rintro x H1 ⟨ρ1, h1, u, e1, s1, r1, _, n1⟩
  cases (show x = u from r1)
  cases x with
  | true =>
    rw [if_pos rfl]
    exact n1.here s1 rfl
  | false =>
    rw [if_neg Bool.false_ne_true]
    exact ⟨ρ1, l, h1, s1, sl.ext e1, n1⟩
theorem pf_tnot {a : Expr} {pos : Pos} {g : FE} (ha : PT X a (tFT G E (fTe g))) : PT X (.UnaryOp .Not a pos) (tFT G E (fTe (fUn notD g))) := by
  refine PT.imp (pt_not ha) fun σ H Q ⟨ρ, l, h, sm, sl, rn⟩ => ?_
  have e : fTe (fUn notD g) l h = (fTe g l h).bind fun c h1 => .ok (!c) h1 := by
    unfold fTe fUn
    rw [R.bind_assoc, R.bind_assoc]
    congr
    funext x h1
    cases x with
    | d x =>
      cases x <;> rfl
    | x _ _ _ => rfl
    | r n =>
      have e0 : ∀ o : Option O, (match o with | some (.lst xs) => some (PyData.list xs) | _ => none).bind (fun d => (notD d).map U.d) = none := fun o => by
        cases o with
        | none => rfl
        | some o => cases o <;> rfl
      have e1 : unU notD h1 (.r n) = none := e0 (h1[n]?)
      rw [e1]
      rfl
  rw [e] at rn
  refine ⟨ρ, l, h, sm, sl, rn.bind.mono ?_⟩
  rintro x H1 ⟨ρ1, h1, u, e1, s1, r1, _, n1⟩
  cases (show x = u from r1)
  exact n1.here s1 rfl
end
end RB
/-! RB7: what is walked; list comprehensions; for. -/
namespace RB
open PySem PySem.Spec L2
/-- what is walked: the items, the place that is walked (if it may change) -/
structure Src where
  items : List PyData
  place : Option Nat
abbrev FI := Lc → AH → R Src
/-- the walk's items may still be read in H -/
def Stb (G : Gb) (ρ : Nat → Addr) (H0 : Hp) (s : Src) (H : Hp) : Prop := Keep H0 H ∧ ∀ n, s.place = some n → ∃ vs, H (ρ n) = some (.lst vs) ∧ RpA G.K H vs s.items
structure ItOk (G : Gb) (ρ : Nat → Addr) (h : AH) (H0 : Hp) (J : It) (s : Src) : Prop where
  at_ : ∀ n, s.place = some n → n < h.length ∧ h[n]? = some (.lst s.items)
  go : ∀ i H, Stb G ρ H0 s H → i < s.items.length → J.go i H
  yld : ∀ i H x H', Stb G ρ H0 s H → i < s.items.length → J.yld i H x H' → Same H H' ∧ ∃ d, s.items[i]? = some d ∧ Rp G.K H' x d
  stop : ∀ i H, Stb G ρ H0 s H → s.items.length ≤ i → J.stop i H
abbrev RelI (G : Gb) : Hp → (Nat → Addr) → AH → It → Src → Prop := fun H ρ h J s => ItOk G ρ h H J s
def tFI (G : Gb) (E : XK) (g : FI) : TI := fun σ H R => ∃ ρ l h, Sim G ρ h H ∧ Sl G.K H ρ h σ l ∧ Rn G (RelI G) E (g l h) ρ h H R
section
variable {X : Cx} {G : Gb} {E : XK}
theorem PI.imp {tg it : Expr} {t t' : TI} (p : PI X tg it t) (f : ∀ σ H R, t' σ H R → t σ H R) : PI X tg it t' := ⟨fun pins s σ H R I q => p.run pins s σ H R I (f σ H R q)⟩
theorem PI.or {tg it : Expr} {t t' : TI} (p : PI X tg it t) (p' : PI X tg it t') : PI X tg it (fun σ H R => t σ H R ∨ t' σ H R) := ⟨fun pins s σ H R I q => by
  rcases q with q | q
  · exact p.run pins s σ H R I q
  · exact p'.run pins s σ H R I q⟩
/-- the signs of a text, each a text -/
def signs (x : Str) : List PyData := x.cps.toList.map fun c => .str ⟨#[c]⟩
def srcOf (h : AH) : U → Option Src
  | .d (.list xs) => some ⟨xs, none⟩
  | .d (.tuple xs) => some ⟨xs, none⟩
  | .d (.str x) => some ⟨signs x, none⟩
  | .d _ => none
  | .r n => match h[n]? with
    | some (.lst xs) => some ⟨xs, some n⟩
    | _ => none
  | .x _ _ _ => none
def fWalk (a : FE) : FI := fun l h => (a l h).bind fun x h1 => R.of (srcOf h1 x) h1
theorem it_tup {ρ : Nat → Addr} {h : AH} {H : Hp} {a : Addr} {vs : List V} {ds : List PyData} (s : SqT G.K H a vs) (r : RpA G.K H vs ds) : ItOk G ρ h H (Itt G.K a) ⟨ds, none⟩ where
  at_ := fun n e => nomatch e
  go := fun i H' st hi => by
    obtain ⟨v, e, _⟩ := (r.kp st.1).get (List.getElem?_eq_getElem hi)
    exact ⟨vs, v, st.1.sqT s, e⟩
  yld := fun i H' x H'' st hi hy => by
    obtain ⟨rfl, hx⟩ := hy
    refine ⟨Same.refl _, ?_⟩
    exact (r.kp st.1).getV (hx vs (st.1.sqT s))
  stop := fun i H' st hi => ⟨vs, st.1.sqT s, by rw [r.length]; exact hi⟩
theorem it_lst {ρ : Nat → Addr} {h : AH} {H : Hp} {a : Addr} {vs : List V} {ds : List PyData} (s : SL H a vs) (r : RpA G.K H vs ds) : ItOk G ρ h H (Itl G.K a) ⟨ds, none⟩ where
  at_ := fun n e => nomatch e
  go := fun i H' st hi => by
    obtain ⟨v, e, _⟩ := (r.kp st.1).get (List.getElem?_eq_getElem hi)
    exact ⟨vs, v, (st.1.sl s).sq, e⟩
  yld := fun i H' x H'' st hi hy => by
    obtain ⟨rfl, hx⟩ := hy
    exact ⟨Same.refl _, (r.kp st.1).getV (hx vs (st.1.sl s).sq)⟩
  stop := fun i H' st hi => ⟨vs, (st.1.sl s).sq, by rw [r.length]; exact hi⟩
theorem it_ref {ρ : Nat → Addr} {h : AH} {H : Hp} {n : Nat} {ds : List PyData} (hn : n < h.length) (e : h[n]? = some (.lst ds)) : ItOk G ρ h H (Itl G.K (ρ n)) ⟨ds, some n⟩ where
  at_ := fun m q => by cases q; exact ⟨hn, e⟩
  go := fun i H' st hi => by
    obtain ⟨vs, e1, r⟩ := st.2 n rfl
    obtain ⟨v, e2, _⟩ := r.get (List.getElem?_eq_getElem hi)
    exact ⟨vs, v, SqL.of e1, e2⟩
  yld := fun i H' x H'' st hi hy => by
    obtain ⟨rfl, hx⟩ := hy
    obtain ⟨vs, e1, r⟩ := st.2 n rfl
    exact ⟨Same.refl _, r.getV (hx vs (SqL.of e1))⟩
  stop := fun i H' st hi => by
    obtain ⟨vs, e1, r⟩ := st.2 n rfl
    exact ⟨vs, SqL.of e1, by rw [r.length]; exact hi⟩
theorem it_str {ρ : Nat → Addr} {h : AH} {H : Hp} {x : Str} : ItOk G ρ h H (Its x) ⟨signs x, none⟩ where
  at_ := fun n e => nomatch e
  go := fun i H' st hi => by
    have hi' : i < (signs x).length := hi
    unfold signs at hi'
    rw [List.length_map] at hi'
    exact (show i < x.cps.size by simpa using hi')
  yld := fun i H' v H'' st hi hy => by
    obtain ⟨rfl, c, hc, rfl⟩ := hy
    refine ⟨Same.refl _, .str ⟨#[c]⟩, ?_, .str _⟩
    show (signs x)[i]? = _
    unfold signs
    rw [List.getElem?_map]
    have hc' : x.cps.toList[i]? = some c := by simpa using hc
    rw [hc']
    rfl
  stop := fun i H' st hi => by
    have hi' : (signs x).length ≤ i := hi
    unfold signs at hi'
    rw [List.length_map] at hi'
    exact (show x.cps.size ≤ i by simpa using hi')
/-- a walk over the value of an expression: a list, a tuple, a text -/
theorem pf_walk {tg e : Expr} {g : FE} (hK : X.K = G.K) (ha : PE X e (tF G E g)) : PI X tg e (tFI G E (fWalk g)) := by
  refine PI.imp (PI.or (PI.or (pi_list ha) (pi_tup ha)) (pi_str ha)) ?_
  rintro σ H R ⟨ρ, l, h, sm, sl, rn⟩
  have rn' := rn
  unfold fWalk at rn'
  cases eg : g l h with
  | stuck => rw [eg] at rn'; exact rn'.elim
  | exc c fs h1 =>
    rw [eg] at rn'
    refine .inl (.inl ⟨ρ, l, h, sm, sl, ?_⟩)
    rw [eg]
    exact rn'
  | ok u h1 =>
    rw [eg] at rn'
    have rn2 : Rn G (RelI G) E (RB.R.of (srcOf h1 u) h1) ρ h H R := rn'
    cases q : srcOf h1 u with
    | none => rw [q] at rn2; exact rn2.elim
    | some s =>
      rw [q] at rn2
      cases u with
      | x _ _ _ => cases q
      | r n =>
        refine .inl (.inl ⟨ρ, l, h, sm, sl, ?_⟩)
        rw [eg]
        intro ρ1 H1 v e1 s1 r1
        obtain ⟨hn, rfl⟩ := r1
        have q' : (match h1[n]? with | some (.lst xs) => some (Src.mk xs (some n)) | _ => none) = some s := q
        cases q2 : h1[n]? with
        | none => rw [q2] at q'; cases q'
        | some o =>
          rw [q2] at q'
          cases o with
          | dct _ => cases q'
          | lst xs =>
            cases (show some (Src.mk xs (some n)) = some s from q')
            obtain ⟨vs, e2, _⟩ := s1.obj n _ q2
            rw [hK]
            exact ⟨ρ1 n, rfl, ⟨vs, SqL.of e2⟩, rn2 ρ1 H1 _ e1 s1 (it_ref hn q2)⟩
      | d x =>
        cases x with
        | list xs =>
          cases (show some (Src.mk xs none) = some s from q)
          refine .inl (.inl ⟨ρ, l, h, sm, sl, ?_⟩)
          rw [eg]
          intro ρ1 H1 v e1 s1 r1
          cases (show Rp G.K H1 v (.list xs) from r1) with
          | lst hs hr =>
            rw [hK]
            exact ⟨_, rfl, ⟨_, hs.sq⟩, rn2 ρ1 H1 _ e1 s1 (it_lst hs hr)⟩
        | tuple xs =>
          cases (show some (Src.mk xs none) = some s from q)
          refine .inl (.inr ⟨ρ, l, h, sm, sl, ?_⟩)
          rw [eg]
          intro ρ1 H1 v e1 s1 r1
          cases (show Rp G.K H1 v (.tuple xs) from r1) with
          | tup hs hr =>
            rw [hK]
            exact ⟨_, rfl, ⟨_, hs⟩, rn2 ρ1 H1 _ e1 s1 (it_tup hs hr)⟩
        | str x =>
          cases (show some (Src.mk (signs x) none) = some s from q)
          refine .inr ⟨ρ, l, h, sm, sl, ?_⟩
          rw [eg]
          intro ρ1 H1 v e1 s1 r1
          cases (show Rp G.K H1 v (.str x) from r1)
          exact ⟨x, rfl, rn2 ρ1 H1 _ e1 s1 it_str⟩
        | _ => exact nomatch q
/-- range(n) -/
def rangeOf (us : List U) : Option Src := match us with
  | [.d (.int n)] => if -(2 ^ 62) ≤ n ∧ n < 2 ^ 62 then some ⟨(List.range n.toNat).map fun (k : Nat) => .int (k : Int), none⟩ else none
  | _ => none
def fRange (a : FA) : FI := fun l h => (a l h).bind fun us h1 => R.of (rangeOf us) h1
theorem it_rng {ρ : Nat → Addr} {h : AH} {H : Hp} {n : Nat} : ItOk G ρ h H (Itr 0 n) ⟨(List.range n).map fun (k : Nat) => .int (k : Int), none⟩ where
  at_ := fun n e => nomatch e
  go := fun i H' st hi => by
    have hi' : i < ((List.range n).map fun (k : Nat) => PyData.int (k : Int)).length := hi
    rw [List.length_map, List.length_range] at hi'
    exact hi'
  yld := fun i H' v H'' st hi hy => by
    obtain ⟨rfl, rfl⟩ := hy
    have hi' : i < ((List.range n).map fun (k : Nat) => PyData.int (k : Int)).length := hi
    rw [List.length_map, List.length_range] at hi'
    refine ⟨Same.refl _, .int i, ?_, ?_⟩
    · show ((List.range n).map fun (k : Nat) => PyData.int (k : Int))[i]? = _
      rw [List.getElem?_map, List.getElem?_range hi']
      rfl
    · rw [Int.zero_add]
      exact .int _
  stop := fun i H' st hi => by
    have hi' : ((List.range n).map fun (k : Nat) => PyData.int (k : Int)).length ≤ i := hi
    rw [List.length_map, List.length_range] at hi'
    exact hi'
theorem pf_range {tg a : Expr} {p pos : Pos} {g : FA} (hg : Gl X "range") (hm : X.mg "range" = none) (ha : PA X [a] (tFA G E g)) (hs : starEach [a] X.env = [(false, eval a X.env)]) : PI X tg (.Call (.Name "range" p) [a] [] pos) (tFI G E (fRange g)) := by
  refine PI.imp (pi_range1 hg hm ha hs) fun σ H R ⟨ρ, l, h, sm, sl, rn⟩ => ⟨ρ, l, h, sm, sl, rn.bind.mono ?_⟩
  rintro vs H1 ⟨ρ1, h1, us, e1, s1, r1, _, n1⟩
  cases q : rangeOf us with
  | none => rw [q] at n1; exact n1.elim
  | some s =>
    rw [q] at n1
    match us, r1, q with
    | [.d (.int n)], .cons r0 .nil, q =>
      have q' : (if -(2 ^ 62) ≤ n ∧ n < 2 ^ 62 then some (Src.mk ((List.range n.toNat).map fun (k : Nat) => .int (k : Int)) none) else none) = some s := q
      by_cases hn : -(2 ^ 62) ≤ n ∧ n < 2 ^ 62
      · rw [if_pos hn] at q'
        cases q'
        cases (show Rp G.K H1 _ (.int n) from r0)
        exact ⟨n, rfl, hn.1, hn.2, n1.here s1 it_rng⟩
      · rw [if_neg hn] at q'
        cases q'
end
end RB
/-! RB8: targets, comprehensions, for. -/
namespace RB
open PySem PySem.Spec L2
/-! ### equal data, decided -/
mutual
def beqD : PyData → PyData → Bool
  | .none, .none => true
  | .bool a, .bool b => a == b
  | .int a, .int b => a == b
  | .str a, .str b => a == b
  | .list xs, .list ys => beqL xs ys
  | .tuple xs, .tuple ys => beqL xs ys
  | _, _ => false
def beqL : List PyData → List PyData → Bool
  | [], [] => true
  | x :: xs, y :: ys => beqD x y && beqL xs ys
  | _, _ => false
end
mutual
theorem beqD_eq : ∀ (x y : PyData), beqD x y = true → x = y
  | .none, y, h => by cases y <;> first | rfl | (rw [beqD] at h <;> first | exact nomatch h | (intros; exact nomatch ‹_›))
  | .bool a, y, h => by cases y <;> first | (rw [beqD] at h; rw [eq_of_beq h]) | (rw [beqD] at h <;> first | exact nomatch h | (intros; exact nomatch ‹_›))
  | .int a, y, h => by cases y <;> first | (rw [beqD] at h; rw [eq_of_beq h]) | (rw [beqD] at h <;> first | exact nomatch h | (intros; exact nomatch ‹_›))
  | .str a, y, h => by cases y <;> first | (rw [beqD] at h; rw [eq_of_beq h]) | (rw [beqD] at h <;> first | exact nomatch h | (intros; exact nomatch ‹_›))
  | .list xs, y, h => by cases y <;> first | (rw [beqD] at h; rw [beqL_eq _ _ h]) | (rw [beqD] at h <;> first | exact nomatch h | (intros; exact nomatch ‹_›))
  | .tuple xs, y, h => by cases y <;> first | (rw [beqD] at h; rw [beqL_eq _ _ h]) | (rw [beqD] at h <;> first | exact nomatch h | (intros; exact nomatch ‹_›))
  | .dict _, y, h => by cases y <;> (rw [beqD] at h <;> first | exact nomatch h | (intros; exact nomatch ‹_›))
theorem beqL_eq : ∀ (xs ys : List PyData), beqL xs ys = true → xs = ys
  | [], [], _ => rfl
  | x :: xs, y :: ys, h => by
    rw [beqL] at h
    obtain ⟨h1, h2⟩ := Bool.and_eq_true_iff.mp h
    rw [beqD_eq x y h1, beqL_eq xs ys h2]
  | [], _ :: _, h => by rw [beqL] at h <;> first | exact nomatch h | (intros; exact nomatch ‹_›)
  | _ :: _, [], h => by rw [beqL] at h <;> first | exact nomatch h | (intros; exact nomatch ‹_›)
end
def walkOk (s : Src) (h : AH) : Bool := match s.place with
  | none => true
  | some n => match h[n]? with
    | some (.lst xs) => beqL xs s.items
    | _ => false
/-! ### targets -/
inductive Tg where
  | v (i : Nat)
  | t (is : List Nat)
def setAll : List Nat → List PyData → Lc → Option Lc
  | [], [], l => some l
  | i :: is, x :: xs, l => setAll is xs (l.set i (some (.d x)))
  | _, _, _ => none
def Tg.put : Tg → U → Lc → Option Lc
  | .v i, u, l => some (l.set i (some u))
  | .t is, .d (.tuple xs), l => setAll is xs l
  | .t _, _, _ => none
def Tg.slots : Tg → List Nat
  | .v i => [i]
  | .t is => is
/-- σ' is σ but at these slots -/
def But (vs : List Nat) (σ σ' : L2.St) : Prop := σ'.length = σ.length ∧ ∀ j, j ∉ vs → σ'[j]? = σ[j]?
theorem But.refl (vs : List Nat) (σ : L2.St) : But vs σ σ := ⟨rfl, fun _ _ => rfl⟩
theorem But.set {vs : List Nat} {σ σ' : L2.St} {i : Nat} {x : Option V} (b : But vs (σ.set i x) σ') : But (i :: vs) σ σ' :=
  ⟨by rw [b.1, List.length_set], fun j hj => by
    rw [b.2 j (fun z => hj (List.mem_cons_of_mem _ z)), List.getElem?_set_ne (fun z => hj (by rw [z]; exact List.mem_cons_self))]⟩
theorem wipe_get {σ : L2.St} {j : Nat} : ∀ {vs : List Nat}, j ∉ vs → (wipe σ vs)[j]? = σ[j]?
  | [], _ => rfl
  | v :: vs, h => by
    unfold wipe
    rw [List.getElem?_set_ne (fun z => h (by rw [z]; exact List.mem_cons_self))]
    exact wipe_get fun z => h (List.mem_cons_of_mem _ z)
theorem wipe_in {σ : L2.St} {j : Nat} (hj : j < σ.length) : ∀ {vs : List Nat}, j ∈ vs → (wipe σ vs)[j]? = some none
  | [], h => nomatch h
  | v :: vs, h => by
    unfold wipe
    by_cases e : v = j
    · subst e
      rw [List.getElem?_set_self (by rw [wipe_length]; exact hj)]
    · rw [List.getElem?_set_ne e]
      exact wipe_in hj (by
        rcases List.mem_cons.mp h with z | z
        · exact absurd z.symm e
        · exact z)
theorem But.wipe {vs ws : List Nat} {σ σ' : L2.St} (b : But ws (L2.wipe σ vs) σ') (hs : ∀ i ∈ ws, i ∈ vs) : L2.wipe σ' vs = L2.wipe σ vs := by
  refine List.ext_getElem? fun j => ?_
  have hl : σ'.length = σ.length := by rw [b.1, wipe_length]
  by_cases hv : j ∈ vs
  · by_cases hj : j < σ.length
    · rw [wipe_in (by rw [hl]; exact hj) hv, wipe_in hj hv]
    · rw [List.getElem?_eq_none (by rw [wipe_length, hl]; omega), List.getElem?_eq_none (by rw [wipe_length]; omega)]
  · rw [wipe_get hv, b.2 j fun z => hv (hs j z)]
/-- the hand layer's target does what the plain one does -/
structure GOk (K : PySem.W.Frag) (g : TG) (tg : Tg) : Prop where
  run : ∀ (H : Hp) (ρ : Nat → Addr) (h : AH) (x : V) (u : U) (σ : L2.St) (l l2 : Lc) (Q : L2.St → Hp → Prop), RU K H ρ h x u → Sl K H ρ h σ l → tg.put u l = some l2 → (∀ σ2, Sl K H ρ h σ2 l2 → But tg.slots σ σ2 → Q σ2 H) → g x σ H Q
theorem gok_v {K : PySem.W.Frag} (i : Nat) : GOk K (gName i) (.v i) := ⟨fun H ρ h x u σ l l2 Q r s e q => by
  cases (show some (l.set i (some u)) = some l2 from e)
  exact q _ (s.set r i) ((But.refl [] _).set)⟩
/-- names in a row -/
inductive GRow : TGs → List Nat → Prop
  | nil : GRow gNil []
  | cons {u : TGs} {i : Nat} {is : List Nat} : GRow u is → GRow (gCons (gName i) u) (i :: is)
theorem grow_run {K : PySem.W.Frag} {H : Hp} {ρ : Nat → Addr} {h : AH} : ∀ {t : TGs} {is : List Nat} {vs : List V} {xs : List PyData} {σ : L2.St} {l l2 : Lc} {Q : L2.St → Hp → Prop}, GRow t is → RpA K H vs xs → Sl K H ρ h σ l → setAll is xs l = some l2 → (∀ σ2, Sl K H ρ h σ2 l2 → But is σ σ2 → Q σ2 H) → t vs σ H Q
  | _, [], vs, [], σ, l, l2, Q, .nil, r, s, e, q => by
    cases r
    cases (show some l = some l2 from e)
    exact ⟨rfl, q σ s (But.refl _ _)⟩
  | _, [], vs, _ :: _, σ, l, l2, Q, .nil, r, s, e, q => nomatch e
  | _, i :: is, vs, [], σ, l, l2, Q, .cons g, r, s, e, q => nomatch e
  | _, i :: is, vs, x :: xs, σ, l, l2, Q, .cons g, r, s, e, q => by
    cases r with
    | cons r1 r2 =>
      refine ⟨_, _, rfl, ?_⟩
      exact grow_run g r2 (s.set (u := .d x) r1 i) (show setAll is xs (l.set i (some (.d x))) = some l2 from e) fun σ2 s2 b2 => q σ2 s2 b2.set
theorem gok_t {K : PySem.W.Frag} {t : TGs} {is : List Nat} (g : GRow t is) : GOk K (gTup K is.length t) (.t is) := ⟨fun H ρ h x u σ l l2 Q r s e q => by
  match u, r, e with
  | .d (.tuple xs), r, e =>
    have e' : setAll is xs l = some l2 := e
    have hlen : ∀ {is : List Nat} {xs : List PyData} {l : Lc}, setAll is xs l = some l2 → xs.length = is.length := by
      intro is
      induction is with
      | nil =>
        intro xs l e
        cases xs with
        | nil => rfl
        | cons _ _ => exact nomatch e
      | cons i is ih =>
        intro xs l e
        cases xs with
        | nil => exact nomatch e
        | cons x xs => exact congrArg (· + 1) (ih (show setAll is xs (l.set i (some (.d x))) = some l2 from e))
    cases (show Rp K H x (.tuple xs) from r) with
    | tup hs hr => exact ⟨_, _, rfl, hs, by rw [hr.length]; exact hlen e', grow_run g hr s e' q⟩⟩
/-! ### plain heaps: a list that is no place changes -/
section
variable {X : Cx} {G : Gb} {E : XK}
theorem keep_put {H : Hp} {D : Addr} {vs : List V} {o : HO} (e : H D = some (.lst vs)) : Keep H (upd H D o) := by
  refine ⟨fun b xs q => ?_, fun b ob u q => ?_⟩
  · rw [upd_ne (fun z => by rw [z, e] at q; cases q)]; exact q
  · rw [upd_ne (fun z => by rw [z, e] at q; cases q)]; exact q
theorem Sim.put {ρ : Nat → Addr} {h : AH} {H : Hp} {D : Addr} {vs : List V} {o : HO} (sm : Sim G ρ h H) (e : H D = some (.lst vs)) (hn : ∀ n, n < h.length → ρ n ≠ D) : Sim G ρ h (upd H D o) := by
  refine ⟨fun n ob q => ?_, sm.inj, fun p hp => ?_⟩
  · have hl : n < h.length := (List.getElem?_eq_some_iff.mp q).1
    have hx := sm.obj n ob q
    cases ob with
    | lst ds => obtain ⟨ws, e1, r⟩ := hx; exact ⟨ws, by rw [upd_ne (hn n hl)]; exact e1, r.kp (keep_put e)⟩
    | dct kvs => obtain ⟨ws, e1, r⟩ := hx; exact ⟨ws, by rw [upd_ne (hn n hl)]; exact e1, pairK (keep_put e) r⟩
  · obtain ⟨ps, e1, t, hc⟩ := sm.tab p hp
    refine ⟨ps, ?_, t, fun pos cv q => ?_⟩
    · rw [upd_ne (fun z => by rw [z, e] at e1; cases e1)]; exact e1
    · obtain ⟨c, e2, e3⟩ := hc pos cv q
      refine ⟨c, e2, ?_⟩
      rw [upd_ne (fun z => by rw [z, e] at e3; cases e3)]
      exact e3
theorem Ext.put {ρ ρ' : Nat → Addr} {h h' : AH} {H H' : Hp} {D : Addr} {o : HO} (x : Ext ρ h H ρ' h' H') (e : H D = none) : Ext ρ h H ρ' h' (upd H' D o) := by
  refine ⟨⟨fun b xs q => ?_, fun b ob u q => ?_⟩, x.len, x.same, fun b ob q hn ht => ?_, x.new, fun b q => ?_⟩
  · rw [upd_ne (fun z => by rw [z, e] at q; cases q)]; exact x.keep.tup b xs q
  · rw [upd_ne (fun z => by rw [z, e] at q; cases q)]; exact x.keep.frz b ob u q
  · rw [upd_ne (fun z => by rw [z, e] at q; cases q)]; exact x.frame b ob q hn ht
  · by_cases z : b = D
    · rw [z, e]; exact True.intro
    · rw [upd_ne z] at q; exact x.there b q
/-! ### results that raise nothing -/
def noX {α : Type} : R α → R α
  | .exc _ _ _ => .stuck
  | r => r
abbrev F0 : XK := fun _ _ _ => False
theorem Rn.bindX {α β γ δ : Type} {Rel : Hp → (Nat → Addr) → AH → β → α → Prop} {Rel2 : Hp → (Nat → Addr) → AH → δ → γ → Prop} {ρ : Nat → Addr} {h : AH} {H : Hp} {r : R α} {k : α → AH → R γ} {Q : δ → Hp → Prop} (x : Rn G Rel2 E ((noX r).bind k) ρ h H Q) :
    Rn G Rel F0 r ρ h H (fun b H1 => ∃ ρ1 h1 a, Ext ρ h H ρ1 h1 H1 ∧ Sim G ρ1 h1 H1 ∧ Rel H1 ρ1 h1 b a ∧ r = .ok a h1) := by
  cases r with
  | ok a h2 => exact fun ρ2 H2 b e2 s r => ⟨ρ2, h2, a, e2, s, r, rfl⟩
  | exc c fs h2 => exact x.elim
  | stuck => exact x.elim
/-! ### [e for t in it if c] -/
def wipeL (l : Lc) : List Nat → Lc
  | [] => l
  | v :: vs => (wipeL l vs).set v none
theorem Sl.wipe {K : PySem.W.Frag} {H : Hp} {ρ : Nat → Addr} {h : AH} {σ : L2.St} {l : Lc} (s : Sl K H ρ h σ l) : ∀ vs : List Nat, Sl K H ρ h (L2.wipe σ vs) (wipeL l vs)
  | [] => s
  | v :: vs => by
    have ih := Sl.wipe s vs
    refine ⟨?_, fun j u q => ?_⟩
    · show ((wipeL l vs).set v none).length = _
      unfold L2.wipe
      rw [List.length_set, List.length_set]
      exact ih.len
    · have q' : ((wipeL l vs).set v none)[j]? = some (some u) := q
      unfold L2.wipe
      by_cases e : v = j
      · subst e
        by_cases hj : v < (wipeL l vs).length
        · rw [List.getElem?_set_self hj] at q'; cases q'
        · rw [List.getElem?_eq_none (by rw [List.length_set]; omega)] at q'; cases q'
      · rw [List.getElem?_set_ne e] at q' ⊢
        exact ih.at_ j u q'
def compGo (s : Src) (tg : Tg) (lw : Lc) (t : FT) (e : FE) : List PyData → List PyData → AH → R (List PyData)
  | [], acc, h => if walkOk s h then .ok acc h else .stuck
  | x :: xs, acc, h => if walkOk s h then match tg.put (.d x) lw with
      | none => .stuck
      | some l2 => (noX (t l2 h)).bind fun b h1 => match b with
        | true => (noX (e l2 h1)).bind fun y h2 => match asD y with
          | some d => if acc.length < sizeLine then compGo s tg lw t e xs (acc ++ [d]) h2 else .stuck
          | none => .stuck
        | false => compGo s tg lw t e xs acc h1
    else .stuck
def fComp (it : FI) (tg : Tg) (own : List Nat) (t : FT) (e : FE) : FE := fun l h => (it l h).bind fun s h1 => (compGo s tg (wipeL l own) t e s.items [] h1).bind fun ys h2 => .ok (.d (.list ys)) h2
def fYes : FT := fun _ h => .ok true h
theorem walk_stb {ρ1 ρc : Nat → Addr} {h1 hc : AH} {H1 Hc : Hp} {J : It} {s : Src} (ok : ItOk G ρ1 h1 H1 J s) (x : Ext ρ1 h1 H1 ρc hc Hc) (sm : Sim G ρc hc Hc) (w : walkOk s hc = true) : Stb G ρ1 H1 s Hc := by
  refine ⟨x.keep, fun n e => ?_⟩
  unfold walkOk at w
  rw [e] at w
  have w' : (match hc[n]? with | some (.lst xs) => beqL xs s.items | _ => false) = true := w
  cases q : hc[n]? with
  | none => rw [q] at w'; cases w'
  | some o =>
    rw [q] at w'
    cases o with
    | dct _ => cases w'
    | lst xs =>
      have ex : xs = s.items := beqL_eq _ _ w'
      obtain ⟨vs, e1, r⟩ := sm.obj n _ q
      rw [x.same n (ok.at_ n e).1] at e1
      rw [ex] at r
      exact ⟨vs, e1, r⟩
theorem asD_some {u : U} {d : PyData} (e : asD u = some d) : u = .d d := by
  cases u with
  | d x => cases (show some x = some d from e); rfl
  | r n => exact nomatch e
  | x _ _ _ => exact nomatch e
/-- the comprehension's turns -/
theorem comp_turns {σ : L2.St} {l : Lc} {Q0 : VK} {J : It} {H1 : Hp} {ρ1 : Nat → Addr} {h1 : AH} {s : Src} {g : TG} {tg : Tg} {own : List Nat} {t : FT} {e : FE} {fin : List PyData → AH → R U} (sl : Sl G.K H1 ρ1 h1 σ l) (s1 : Sim G ρ1 h1 H1) (ok : ItOk G ρ1 h1 H1 J s) (hg : GOk G.K g tg) (hs : ∀ i ∈ tg.slots, i ∈ own)
    (n1 : Rn G (RelU G) E ((compGo s tg (wipeL l own) t e s.items [] h1).bind fin) ρ1 h1 H1 Q0)
    (D : Addr) (hD : H1 D = none) (QD : V → Hp → Prop)
    (hfin : ∀ ρc hc Hc accV acc, Ext ρ1 h1 H1 ρc hc Hc → Sim G ρc hc Hc → Hc D = some (.lst accV) → (∀ n, n < hc.length → ρc n ≠ D) → RpA G.K Hc accV acc → Rn G (RelU G) E (fin acc hc) ρ1 h1 H1 Q0 → QD (.ref D) Hc) :
    ∃ W : Nat → Nat → Hp → Prop, (∃ m, W 0 m (upd H1 D (.lst []))) ∧ ∀ i m H, W i m H →
      (J.stop i H ∧ QD (.ref D) H) ∨ (J.go i H ∧ ∃ Nx : Hp → Prop, (∀ H', Nx H' → ∃ m', m' < m ∧ W (i + 1) m' H') ∧ ∀ x H', J.yld i H x H' → g x (L2.wipe σ own) H' fun σ2 H2 => L2.wipe σ2 own = L2.wipe σ own ∧ tFT G F0 t σ2 H2 fun b H3 =>
        if b = true then tF G F0 e σ2 H3 fun y H4 => ∃ acc, H4 D = some (.lst acc) ∧ acc.length < sizeLine ∧ Nx (upd H4 D (.lst (acc ++ [y]))) else Nx H3) := by
  refine ⟨fun i m Hc => ∃ ρc hc accV acc, Ext ρ1 h1 H1 ρc hc Hc ∧ Sim G ρc hc Hc ∧ Hc D = some (.lst accV) ∧ (∀ n, n < hc.length → ρc n ≠ D) ∧ RpA G.K Hc accV acc ∧ i ≤ s.items.length ∧ m = s.items.length - i ∧
    Rn G (RelU G) E ((compGo s tg (wipeL l own) t e (s.items.drop i) acc hc).bind fin) ρ1 h1 H1 Q0, ⟨s.items.length, ρ1, h1, [], [], (Ext.refl ρ1 h1 H1).put hD, s1.grow (same_new hD), upd_same, fun n hn z => ?_, .nil, Nat.zero_le _, (Nat.sub_zero _).symm, by rw [List.drop_zero]; exact n1⟩, ?_⟩
  · obtain ⟨u, e1, _⟩ := (s1.obj n h1[n] (List.getElem?_eq_getElem hn)).some
    rw [z, hD] at e1
    cases e1
  rintro i m Hc ⟨ρc, hc, accV, acc, x, sm, eD, nD, rA, hi, rfl, rn⟩
  by_cases hlt : i < s.items.length
  · rw [List.drop_eq_getElem_cons hlt] at rn
    have rn0 := rn
    unfold compGo at rn
    cases hw : walkOk s hc with
    | false => rw [hw] at rn; exact rn.elim
    | true =>
      rw [hw] at rn
      have st := walk_stb ok x sm hw
      have rn1 : Rn G (RelU G) E ((match tg.put (.d s.items[i]) (wipeL l own) with
        | none => .stuck
        | some l2 => (noX (t l2 hc)).bind fun b h1 => match b with
          | true => (noX (e l2 h1)).bind fun y h2 => match asD y with
            | some d => if acc.length < sizeLine then compGo s tg (wipeL l own) t e (s.items.drop (i + 1)) (acc ++ [d]) h2 else .stuck
            | none => .stuck
          | false => compGo s tg (wipeL l own) t e (s.items.drop (i + 1)) acc h1 : R (List PyData)).bind fin) ρ1 h1 H1 Q0 := rn
      cases hp : tg.put (.d s.items[i]) (wipeL l own) with
      | none => rw [hp] at rn1; exact rn1.elim
      | some l2 =>
        rw [hp] at rn1
        refine .inr ⟨ok.go i Hc st hlt, fun H' => ∃ ρc hc accV acc, Ext ρ1 h1 H1 ρc hc H' ∧ Sim G ρc hc H' ∧ H' D = some (.lst accV) ∧ (∀ n, n < hc.length → ρc n ≠ D) ∧ RpA G.K H' accV acc ∧
          Rn G (RelU G) E ((compGo s tg (wipeL l own) t e (s.items.drop (i + 1)) acc hc).bind fin) ρ1 h1 H1 Q0, fun H' hN => ?_, fun v H' hy => ?_⟩
        · obtain ⟨ρ', h', aV, a', x', sm', e', n', r', q'⟩ := hN
          exact ⟨s.items.length - (i + 1), by omega, ρ', h', aV, a', x', sm', e', n', r', by omega, rfl, q'⟩
        · obtain ⟨sa, d, ed, rd⟩ := ok.yld i Hc v H' st hlt hy
          have ed' : s.items[i] = d := by
            rw [List.getElem?_eq_getElem hlt] at ed
            exact Option.some.inj ed
          subst ed'
          have x2 : Ext ρ1 h1 H1 ρc hc H' := x.trans (.grow sa)
          have sm2 := sm.grow sa
          have sl2 : Sl G.K H' ρc hc (L2.wipe σ own) (wipeL l own) := (sl.ext x2).wipe own
          refine hg.run H' ρc hc v (.d s.items[i]) _ _ l2 _ rd sl2 hp fun σ2 sl3 bt => ⟨bt.wipe hs, ?_⟩
          have rn2 : Rn G (RelU G) E ((noX (t l2 hc)).bind fun b h1 => ((match b with
            | true => (noX (e l2 h1)).bind fun y h2 => match asD y with
              | some d => if acc.length < sizeLine then compGo s tg (wipeL l own) t e (s.items.drop (i + 1)) (acc ++ [d]) h2 else .stuck
              | none => .stuck
            | false => compGo s tg (wipeL l own) t e (s.items.drop (i + 1)) acc h1 : R (List PyData)).bind fin)) ρ1 h1 H1 Q0 := by
            rw [← R.bind_assoc]
            exact rn1
          refine ⟨ρc, l2, hc, sm2, sl3, ((rn2.ext x2).bindX (Rel := RelB)).mono ?_⟩
          rintro b H3 ⟨ρ3, h3, b', x3, sm3, rb, et⟩
          cases (show b = b' from rb)
          rw [et] at rn2
          have eD' : H' D = some (.lst accV) := sa _ _ eD
          have eD3 : H3 D = some (.lst accV) := x3.frame D _ eD' nD (fun ps z => nomatch z)
          have nD3 : ∀ n, n < h3.length → ρ3 n ≠ D := fun n hn z => by
            by_cases hl : n < hc.length
            · exact nD n hl ((x3.same n hl).symm.trans z)
            · have q := x3.new n (by omega) hn
              rw [z, eD'] at q
              cases q
          have x13 : Ext ρ1 h1 H1 ρ3 h3 H3 := x2.trans x3
          have rA3 : RpA G.K H3 accV acc := (rA.kp (.same sa)).kp x3.keep
          cases b with
          | false =>
            rw [if_neg Bool.false_ne_true]
            exact ⟨ρ3, h3, accV, acc, x13, sm3, eD3, nD3, rA3, rn2⟩
          | true =>
            rw [if_pos rfl]
            have rn3 : Rn G (RelU G) E ((noX (e l2 h3)).bind fun y h2 => ((match asD y with
              | some d => if acc.length < sizeLine then compGo s tg (wipeL l own) t e (s.items.drop (i + 1)) (acc ++ [d]) h2 else .stuck
              | none => .stuck : R (List PyData)).bind fin)) ρ1 h1 H1 Q0 := by
              rw [← R.bind_assoc]
              exact rn2
            refine ⟨ρ3, l2, h3, sm3, sl3.ext x3, ((rn3.ext x13).bindX (Rel := RelU G)).mono ?_⟩
            rintro y H4 ⟨ρ4, h4, u, x4, sm4, ru, ee⟩
            rw [ee] at rn3
            cases qa : asD u with
            | none =>
              have rn4 : Rn G (RelU G) E ((match asD u with
                | some d => if acc.length < sizeLine then compGo s tg (wipeL l own) t e (s.items.drop (i + 1)) (acc ++ [d]) h4 else .stuck
                | none => .stuck : R (List PyData)).bind fin) ρ1 h1 H1 Q0 := rn3
              rw [qa] at rn4
              exact rn4.elim
            | some d =>
              have rn4 : Rn G (RelU G) E ((match asD u with
                | some d => if acc.length < sizeLine then compGo s tg (wipeL l own) t e (s.items.drop (i + 1)) (acc ++ [d]) h4 else .stuck
                | none => .stuck : R (List PyData)).bind fin) ρ1 h1 H1 Q0 := rn3
              rw [qa] at rn4
              cases asD_some qa
              by_cases hsz : acc.length < sizeLine
              · have rn5 : Rn G (RelU G) E ((if acc.length < sizeLine then compGo s tg (wipeL l own) t e (s.items.drop (i + 1)) (acc ++ [d]) h4 else .stuck : R (List PyData)).bind fin) ρ1 h1 H1 Q0 := rn4
                rw [if_pos hsz] at rn5
                have eD4 : H4 D = some (.lst accV) := x4.frame D _ eD3 nD3 (fun ps z => nomatch z)
                have nD4 : ∀ n, n < h4.length → ρ4 n ≠ D := fun n hn z => by
                  by_cases hl : n < h3.length
                  · exact nD3 n hl ((x4.same n hl).symm.trans z)
                  · have q := x4.new n (by omega) hn
                    rw [z, eD3] at q
                    cases q
                have rA4 := rA3.kp x4.keep
                refine ⟨accV, eD4, by rw [rA4.length]; exact hsz, ρ4, h4, accV ++ [y], acc ++ [d], (x13.trans x4).put hD, sm4.put eD4 nD4, upd_same, nD4, (rA4.snoc ru).kp (keep_put eD4), rn5⟩
              · have rn5 : Rn G (RelU G) E ((if acc.length < sizeLine then compGo s tg (wipeL l own) t e (s.items.drop (i + 1)) (acc ++ [d]) h4 else .stuck : R (List PyData)).bind fin) ρ1 h1 H1 Q0 := rn4
                rw [if_neg hsz] at rn5
                exact rn5.elim
  · have ei : s.items.drop i = [] := List.drop_eq_nil_of_le (by omega)
    rw [ei] at rn
    unfold compGo at rn
    cases hw : walkOk s hc with
    | false => rw [hw] at rn; exact rn.elim
    | true =>
      rw [hw] at rn
      exact .inl ⟨ok.stop i Hc (walk_stb ok x sm hw) (by omega), hfin ρc hc Hc accV acc x sm eD nD rA rn⟩
end
end RB
/-! RB9: comprehensions as expressions, for, statements, places that change. -/
namespace RB
open PySem PySem.Spec L2
section
variable {X : Cx} {G : Gb} {E : XK}
abbrev blkP (X : Cx) (scope : Scope) (P : Cx → Prop) : Prop := ∀ (s : Shared) (H : Hp) (C : Addr) (cl : List (Str × Addr)) (fp : List Addr), P (X.blk s H scope (compEnvC scope cl C X.env) fp)
theorem pf_comp {elt tge iter : Expr} {ifs : List Expr} {scope : Scope} {own : List (Str × Nat)} {pos : Pos} {gi : FI} {g : TG} {tg : Tg} {gt : FT} {ge : FE} (hK : X.K = G.K) (hc : X.calm = true) (hN : X.N.Nodup) (hi : PI X tge iter (tFI G E gi)) (ok : BlkOk X.N X.env.scope scope own) (hg : GOk G.K g tg) (hs : ∀ i ∈ tg.slots, i ∈ own.map (·.2))
    (pg : blkP X scope fun Y => PG Y tge g) (pt : blkP X scope fun Y => PTs Y ifs (tFT G F0 gt)) (pe : blkP X scope fun Y => PE Y elt (tF G F0 ge)) (hf : ∀ x, foldedSetIterable iter X.env x = pure x) :
    PE X (.ListComp elt [⟨tge, iter, ifs, 0⟩] scope pos) (tF G E (fComp gi tg (own.map (·.2)) gt ge)) := by
  refine PE.imp (pe_lockNew (pe_lc hc hN hi ok pg pt pe hf)) fun σ H Q ⟨ρ, l, h, sm, sl, rn⟩ => ⟨ρ, l, h, sm, sl, rn.bind.mono ?_⟩
  rintro J H1 ⟨ρ1, h1, s, e1, s1, iok, _, n1⟩
  intro D hD
  refine comp_turns (E := E) (Q0 := Q) (fin := fun ys h2 => .ok (.d (.list ys)) h2) (sl.ext e1) s1 iok hg hs n1 D hD (fun v H' => ∃ p vs, v = .ref p ∧ H' p = some (.lst vs) ∧ ∀ o, Q (.ref p) (upd H' p (.frz o (.lst vs)))) ?_
  intro ρc hc' Hc accV acc x sm' eD nD rA q
  refine ⟨D, accV, rfl, eD, fun o => ?_⟩
  exact Rn.at_ q (x.put hD) (sm'.put eD nD) (show Rp G.K _ (.ref D) (.list acc) from .lst ⟨o, upd_same⟩ (rA.kp (keep_put eD)))
/-- lock a list behind a statement -/
theorem ps_lockNew {st : Stmt} {t : TS} (h : PS X st t) : PS X st (fun D σ H => t { D with nx := fun σ' H' => ∃ p vs, H' p = some (.lst vs) ∧ ∀ o, D.nx σ' (upd H' p (.frz o (.lst vs))) } σ H) := by
  refine ⟨fun pins s σ H D I q => ?_⟩
  refine thn (h.run pins s σ H _ I q) fun f s1 hu => ?_
  cases f with
  | next =>
    obtain ⟨σ', H', I1, p, vs, hp, q1⟩ := hu
    obtain ⟨o, I2⟩ := I1.lock hp True.intro
    exact ⟨σ', _, I2, q1 o⟩
  | brk => exact hu
  | cont => exact hu
  | ret u => exact hu
/-! ### statements -/
def fAsg (e : FE) (tg : Tg) : FS := fun l h => (e l h).bind fun u h1 => match tg.put u l with
  | some l2 => .ok (.nx l2) h1
  | none => .stuck
def fExpr (e : FE) : FS := fun l h => (e l h).bind fun _ h1 => .ok (.nx l) h1
def fRet (e : FE) : FS := fun l h => (e l h).bind fun u h1 => .ok (.rt u) h1
def fRetN : FS := fun _ h => .ok (.rt (.d .none)) h
def fPass : FS := fun l h => .ok (.nx l) h
def fIte (c : FT) (a b : FS) : FS := fun l h => (c l h).bind fun x h1 => match x with
  | true => a l h1
  | false => b l h1
def fSeq (a b : FS) : FS := fun l h => (a l h).bind fun fl h1 => match fl with
  | .nx l1 => b l1 h1
  | o => .ok o h1
theorem pf_asg {tge e : Expr} {pos : Pos} {ge : FE} {g : TG} {tg : Tg} (he : PE X e (tF G E ge)) (pg : PG X tge g) (hg : GOk G.K g tg) (hs : swapsWithSole [tge] e pos.line X.env = pure false) (hw : swappedStores [tge] e X.env = pure none) (h1 : (assignEach [tge] X.env).map (·.2) = [assign tge X.env]) :
    PS X (.Assign [tge] e pos) (tFS G E (fAsg ge tg)) := by
  refine PS.imp (ps_asg he pg hs hw h1) fun D σ H ⟨ρ, l, h, sm, sl, rn⟩ => ⟨ρ, l, h, sm, sl, rn.bind.mono ?_⟩
  rintro x H1 ⟨ρ1, h1, u, e1, s1, r1, _, n1⟩
  cases q : tg.put u l with
  | none => rw [q] at n1; exact n1.elim
  | some l2 =>
    rw [q] at n1
    exact hg.run H1 ρ1 h1 x u σ l l2 _ r1 (sl.ext e1) q fun σ2 sl2 _ => n1.here (b := Cf.nx σ2) s1 sl2
theorem pf_set {i : Nat} {x : Str} {e : Expr} {pos pos' : Pos} {ge : FE} (hN : X.N.Nodup) (hi : X.N[i]? = some x) (hx : Loc X.env.scope x) (he : PE X e (tF G E ge)) (hs : swapsWith e (some (.Name x pos')) pos.line X.env = pure false) (hf : X.fn x = true ∨ X.env.scope.names.lookup x = some .local) :
    PS X (.Assign [.Name x pos'] e pos) (tFS G E (fAsg ge (.v i))) := by
  refine PS.imp (ps_set hN hi hx he hs hf) fun D σ H ⟨ρ, l, h, sm, sl, rn⟩ => ⟨ρ, l, h, sm, sl, rn.bind.mono ?_⟩
  rintro v H1 ⟨ρ1, h1, u, e1, s1, r1, _, n1⟩
  have n2 : Rn G (RelF G) E (.ok (.nx (l.set i (some u))) h1) ρ1 h1 H1 (endsQ D) := n1
  exact n2.here (b := Cf.nx _) s1 ((sl.ext e1).set r1 i)
theorem pf_setLc {i : Nat} {y : Str} {py spos : Pos} {elt tge iter : Expr} {ifs : List Expr} {scope : Scope} {own : List (Str × Nat)} {pos : Pos} {gi : FI} {g : TG} {tg : Tg} {gt : FT} {ge : FE} (hK : X.K = G.K) (hc : X.calm = true) (hN : X.N.Nodup) (hy : X.N[i]? = some y) (hyl : X.env.scope.names.lookup y = some .local)
    (hsw : swapsWith (.ListComp elt [⟨tge, iter, ifs, 0⟩] scope pos) (some (.Name y py)) spos.line X.env = pure true) (hi : PI X tge iter (tFI G E gi)) (ok : BlkOk X.N X.env.scope scope own) (hg : GOk G.K g tg) (hs : ∀ i ∈ tg.slots, i ∈ own.map (·.2))
    (pg : blkP X scope fun Y => PG Y tge g) (pt : blkP X scope fun Y => PTs Y ifs (tFT G F0 gt)) (pe : blkP X scope fun Y => PE Y elt (tF G F0 ge)) (hf : ∀ x, foldedSetIterable iter X.env x = pure x) :
    PS X (.Assign [.Name y py] (.ListComp elt [⟨tge, iter, ifs, 0⟩] scope pos) spos) (tFS G E (fAsg (fComp gi tg (own.map (·.2)) gt ge) (.v i))) := by
  refine PS.imp (ps_lockNew (ps_setLc hc hN hy hyl hsw hi ok pg pt pe hf)) fun D σ H ⟨ρ, l, h, sm, sl, rn⟩ => ?_
  have rn0 : Rn G (RelF G) E ((gi l h).bind fun s h1 => ((compGo s tg (wipeL l (own.map (·.2))) gt ge s.items [] h1).bind fun ys h2 => .ok (.d (.list ys)) h2 : R U).bind fun u h2 => .ok (.nx (l.set i (some u))) h2) ρ h H (endsQ D) := by
    rw [← R.bind_assoc]
    exact rn
  refine ⟨ρ, l, h, sm, sl, rn0.bind.mono ?_⟩
  rintro J H1 ⟨ρ1, h1, s, e1, s1, iok, _, n1⟩
  intro A hA
  rw [R.bind_assoc] at n1
  -- the same turns, towards a statement's end
  have key := comp_turns (E := E) (Q0 := fun v H' => endsQ D (.nx (σ.set i (some v))) H') (fin := fun ys h2 => .ok (.d (.list ys)) h2) (sl.ext e1) s1 iok hg hs (t := gt) (e := ge) (own := own.map (·.2))
    (by
      cases q : compGo s tg (wipeL l (own.map (·.2))) gt ge s.items [] h1 with
      | stuck => rw [q] at n1; exact n1.elim
      | exc c fs h2 => rw [q] at n1; exact n1
      | ok ys h2 =>
        rw [q] at n1
        intro ρ' H' v x' s' r'
        exact Rn.at_ (a := Fl.nx (l.set i (some (.d (.list ys))))) (b := Cf.nx (σ.set i (some v))) n1 x' s' (((sl.ext e1).ext x').set r' i)) A hA
    (fun v H' => (∃ p vs, H' p = some (.lst vs) ∧ ∀ o, D.nx (σ.set i (some v)) (upd H' p (.frz o (.lst vs)))))
    (fun ρc hc' Hc accV acc x sm' eD nD rA q => ⟨A, accV, eD, fun o => (show Rn G (RelU G) E (.ok (.d (.list acc)) hc') ρ1 h1 H1 (fun v H' => D.nx (σ.set i (some v)) H') from q) ρc _ (.ref A) (x.put hA) (sm'.put eD nD) (show Rp G.K _ (.ref A) (.list acc) from .lst ⟨o, upd_same⟩ (rA.kp (keep_put eD)))⟩)
  exact key
theorem pf_expr {e : Expr} {pos : Pos} {ge : FE} (he : PE X e (tF G E ge)) (hs : swapsWith e none pos.line X.env = pure false) : PS X (.Expr e pos) (tFS G E (fExpr ge)) := by
  refine PS.imp (ps_expr he hs) fun D σ H ⟨ρ, l, h, sm, sl, rn⟩ => ⟨ρ, l, h, sm, sl, rn.bind.mono ?_⟩
  rintro v H1 ⟨ρ1, h1, u, e1, s1, r1, _, n1⟩
  exact n1.here (b := Cf.nx σ) s1 (sl.ext e1)
theorem pf_ret {e : Expr} {pos : Pos} {ge : FE} (he : PE X e (tF G E ge)) : PS X (.Return (some e) pos) (tFS G E (fRet ge)) := by
  refine PS.imp (ps_ret he) fun D σ H ⟨ρ, l, h, sm, sl, rn⟩ => ⟨ρ, l, h, sm, sl, rn.bind.mono ?_⟩
  rintro v H1 ⟨ρ1, h1, u, e1, s1, r1, _, n1⟩
  exact n1.here (b := Cf.rt v) s1 r1
theorem pf_retN {pos : Pos} : PS X (.Return none pos) (tFS G E fRetN) :=
  PS.imp ps_retN fun D σ H ⟨ρ, l, h, sm, sl, rn⟩ => rn.here (b := Cf.rt .non) sm (show RU G.K H ρ h .non (.d .none) from Rp.non)
theorem pf_pass {pos : Pos} : PS X (.Pass pos) (tFS G E fPass) :=
  PS.imp ps_pass fun D σ H ⟨ρ, l, h, sm, sl, rn⟩ => rn.here (b := Cf.nx σ) sm sl
theorem pf_ite {c : Expr} {a b : List Stmt} {pos : Pos} {gc : FT} {ga gb : FS} (hc : PT X c (tFT G E gc)) (ha : PSs X a (tFS G E ga)) (hb : PSs X b (tFS G E gb)) : PS X (.If c a b pos) (tFS G E (fIte gc ga gb)) := by
  refine PS.imp (ps_if hc ha hb) fun D σ H ⟨ρ, l, h, sm, sl, rn⟩ => ⟨ρ, l, h, sm, sl, rn.bind.mono ?_⟩
  rintro x H1 ⟨ρ1, h1, u, e1, s1, r1, _, n1⟩
  cases (show x = u from r1)
  cases x with
  | true =>
    rw [if_pos rfl]
    exact ⟨ρ1, l, h1, s1, sl.ext e1, n1⟩
  | false =>
    rw [if_neg Bool.false_ne_true]
    exact ⟨ρ1, l, h1, s1, sl.ext e1, n1⟩
theorem pf_snil : PSs X [] (tFS G E fPass) :=
  PSs.imp pss_nil fun D σ H ⟨ρ, l, h, sm, sl, rn⟩ => rn.here (b := Cf.nx σ) sm sl
theorem pf_scons {st : Stmt} {rest : List Stmt} {ga gb : FS} (ha : PS X st (tFS G E ga)) (hb : PSs X rest (tFS G E gb)) : PSs X (st :: rest) (tFS G E (fSeq ga gb)) := by
  refine PSs.imp (pss_cons ha hb) fun D σ H ⟨ρ, l, h, sm, sl, rn⟩ => ⟨ρ, l, h, sm, sl, rn.bind.mono ?_⟩
  rintro cf H1 ⟨ρ1, h1, fl, e1, s1, r1, _, n1⟩
  match cf, fl, r1, n1 with
  | .nx σ1, .nx l1, r1, n1 => exact ⟨ρ1, l1, h1, s1, r1, n1⟩
  | .rt v, .rt u, r1, n1 => exact n1.here (b := Cf.rt v) s1 r1
  | .bk σ1, .bk l1, r1, n1 => exact n1.here (b := Cf.bk σ1) s1 r1
  | .ct σ1, .ct l1, r1, n1 => exact n1.here (b := Cf.ct σ1) s1 r1
/-! ### for -/
def forGo (s : Src) (tg : Tg) (b : FS) : List PyData → Lc → AH → R Fl
  | [], l, h => if walkOk s h then .ok (.nx l) h else .stuck
  | x :: xs, l, h => if walkOk s h then match tg.put (.d x) l with
      | none => .stuck
      | some l2 => (b l2 h).bind fun fl h1 => match fl with
        | .nx l3 => forGo s tg b xs l3 h1
        | .ct l3 => forGo s tg b xs l3 h1
        | .bk l3 => .ok (.nx l3) h1
        | .rt u => .ok (.rt u) h1
    else .stuck
def fFor (it : FI) (tg : Tg) (b : FS) : FS := fun l h => (it l h).bind fun s h1 => forGo s tg b s.items l h1
theorem pf_for {tge iter : Expr} {body : List Stmt} {pos : Pos} {gi : FI} {g : TG} {tg : Tg} {gb : FS} (hp : PassesOwn (model X.prog X.w) X.A X.env X.xe) (hc : X.calm = true) (hi : PI X tge iter (tFI G E gi)) (pg : PG X tge g) (hg : GOk G.K g tg) (hb : PSs X body (tFS G E gb)) (hs : ∀ x, foldedSetIterable iter X.env x = pure x) :
    PS X (.For tge iter body [] pos) (tFS G E (fFor gi tg gb)) := by
  refine PS.imp (ps_for hp hc hi pg hb hs) fun D σ H ⟨ρ, l, h, sm, sl, rn⟩ => ⟨ρ, l, h, sm, sl, rn.bind.mono ?_⟩
  rintro J H1 ⟨ρ1, h1, s, e1, s1, iok, _, n1⟩
  refine ⟨fun i m σc Hc => ∃ ρc hc lc, Ext ρ1 h1 H1 ρc hc Hc ∧ Sim G ρc hc Hc ∧ Sl G.K Hc ρc hc σc lc ∧ i ≤ s.items.length ∧ m = s.items.length - i ∧ Rn G (RelF G) E (forGo s tg gb (s.items.drop i) lc hc) ρ1 h1 H1 (endsQ D),
    ⟨s.items.length, ρ1, h1, l, .refl _ _ _, s1, sl.ext e1, Nat.zero_le _, (Nat.sub_zero _).symm, by rw [List.drop_zero]; exact n1⟩, ?_⟩
  rintro i m σc Hc ⟨ρc, hc, lc, x, sm', slc, hi', rfl, rn'⟩
  by_cases hlt : i < s.items.length
  · rw [List.drop_eq_getElem_cons hlt] at rn'
    unfold forGo at rn'
    cases hw : walkOk s hc with
    | false => rw [hw] at rn'; exact rn'.elim
    | true =>
      rw [hw] at rn'
      have st := walk_stb iok x sm' hw
      cases hput : tg.put (.d s.items[i]) lc with
      | none => rw [hput] at rn'; exact rn'.elim
      | some l2 =>
        rw [hput] at rn'
        refine .inr ⟨iok.go i Hc st hlt, fun σ' H' => ∃ ρc hc lc, Ext ρ1 h1 H1 ρc hc H' ∧ Sim G ρc hc H' ∧ Sl G.K H' ρc hc σ' lc ∧ Rn G (RelF G) E (forGo s tg gb (s.items.drop (i + 1)) lc hc) ρ1 h1 H1 (endsQ D), fun σ' H' hN => ?_, fun v H' hy => ?_⟩
        · obtain ⟨ρ', h', l', x', s', sl', q'⟩ := hN
          exact ⟨s.items.length - (i + 1), by omega, ρ', h', l', x', s', sl', by omega, rfl, q'⟩
        · obtain ⟨sa, d, ed, rd⟩ := iok.yld i Hc v H' st hlt hy
          have ed' : s.items[i] = d := by
            rw [List.getElem?_eq_getElem hlt] at ed
            exact Option.some.inj ed
          subst ed'
          have x2 : Ext ρ1 h1 H1 ρc hc H' := x.trans (.grow sa)
          refine hg.run H' ρc hc v (.d s.items[i]) σc lc l2 _ rd (slc.ext (.grow sa)) hput fun σ2 sl3 _ => ?_
          have rn2 : Rn G (RelF G) E ((gb l2 hc).bind fun fl h1 => match fl with
            | .nx l3 => forGo s tg gb (s.items.drop (i + 1)) l3 h1
            | .ct l3 => forGo s tg gb (s.items.drop (i + 1)) l3 h1
            | .bk l3 => .ok (.nx l3) h1
            | .rt u => .ok (.rt u) h1) ρ1 h1 H1 (endsQ D) := rn'
          refine ⟨ρc, l2, hc, sm'.grow sa, sl3, ((rn2.ext x2).bind (Rel := RelF G)).mono ?_⟩
          rintro cf H3 ⟨ρ3, h3, fl, x3, s3, rf, eb, n3⟩
          rw [eb] at rn2
          match cf, fl, rf, n3, rn2 with
          | .nx σ3, .nx l3, rf, n3, rn2 => exact ⟨ρ3, h3, l3, x2.trans x3, s3, rf, rn2⟩
          | .ct σ3, .ct l3, rf, n3, rn2 => exact ⟨ρ3, h3, l3, x2.trans x3, s3, rf, rn2⟩
          | .bk σ3, .bk l3, rf, n3, rn2 => exact n3.here (b := Cf.nx σ3) s3 rf
          | .rt v3, .rt u3, rf, n3, rn2 => exact n3.here (b := Cf.rt v3) s3 rf
  · have ei : s.items.drop i = [] := List.drop_eq_nil_of_le (by omega)
    rw [ei] at rn'
    unfold forGo at rn'
    cases hw : walkOk s hc with
    | false => rw [hw] at rn'; exact rn'.elim
    | true =>
      rw [hw] at rn'
      exact .inl ⟨iok.stop i Hc (walk_stb iok x sm' hw) (by omega), Rn.at_ (a := Fl.nx lc) (b := Cf.nx σc) rn' x sm' slc⟩
end
end RB
/-! RB9b: comprehensions of two clauses; a list times an int. -/
namespace RB
open PySem PySem.Spec L2
section
variable {X : Cx} {G : Gb} {E : XK}
/-- the comprehension's turns, from a list that holds something -/
theorem comp_turnsA {σ : L2.St} {l : Lc} {Q0 : VK} {J : It} {H1 : Hp} {ρ1 : Nat → Addr} {h1 : AH} {H0 : Hp} {ρ0 : Nat → Addr} {h0 : AH} (x01 : Ext ρ0 h0 H0 ρ1 h1 H1) {accV0 : List V} {acc0 : List PyData} {s : Src} {g : TG} {tg : Tg} {own : List Nat} {t : FT} {e : FE} {fin : List PyData → AH → R U} (sl : Sl G.K H1 ρ1 h1 σ l) (s1 : Sim G ρ1 h1 H1) (ok : ItOk G ρ1 h1 H1 J s) (hg : GOk G.K g tg) (hs : ∀ i ∈ tg.slots, i ∈ own)
    (n1 : Rn G (RelU G) E ((compGo s tg (wipeL l own) t e s.items acc0 h1).bind fin) ρ0 h0 H0 Q0)
    (D : Addr) (hD : H1 D = none) (rA0 : RpA G.K (upd H1 D (.lst accV0)) accV0 acc0) (QD : V → Hp → Prop)
    (hfin : ∀ ρc hc Hc accV acc, Ext ρ1 h1 H1 ρc hc Hc → Sim G ρc hc Hc → Hc D = some (.lst accV) → (∀ n, n < hc.length → ρc n ≠ D) → RpA G.K Hc accV acc → Rn G (RelU G) E (fin acc hc) ρ0 h0 H0 Q0 → QD (.ref D) Hc) :
    ∃ W : Nat → Nat → Hp → Prop, (∃ m, W 0 m (upd H1 D (.lst accV0))) ∧ ∀ i m H, W i m H →
      (J.stop i H ∧ QD (.ref D) H) ∨ (J.go i H ∧ ∃ Nx : Hp → Prop, (∀ H', Nx H' → ∃ m', m' < m ∧ W (i + 1) m' H') ∧ ∀ x H', J.yld i H x H' → g x (L2.wipe σ own) H' fun σ2 H2 => L2.wipe σ2 own = L2.wipe σ own ∧ tFT G F0 t σ2 H2 fun b H3 =>
        if b = true then tF G F0 e σ2 H3 fun y H4 => ∃ acc, H4 D = some (.lst acc) ∧ acc.length < sizeLine ∧ Nx (upd H4 D (.lst (acc ++ [y]))) else Nx H3) := by
  refine ⟨fun i m Hc => ∃ ρc hc accV acc, Ext ρ1 h1 H1 ρc hc Hc ∧ Sim G ρc hc Hc ∧ Hc D = some (.lst accV) ∧ (∀ n, n < hc.length → ρc n ≠ D) ∧ RpA G.K Hc accV acc ∧ i ≤ s.items.length ∧ m = s.items.length - i ∧
    Rn G (RelU G) E ((compGo s tg (wipeL l own) t e (s.items.drop i) acc hc).bind fin) ρ0 h0 H0 Q0, ⟨s.items.length, ρ1, h1, accV0, acc0, (Ext.refl ρ1 h1 H1).put hD, s1.grow (same_new hD), upd_same, fun n hn z => ?_, rA0, Nat.zero_le _, (Nat.sub_zero _).symm, by rw [List.drop_zero]; exact n1⟩, ?_⟩
  · obtain ⟨u, e1, _⟩ := (s1.obj n h1[n] (List.getElem?_eq_getElem hn)).some
    rw [z, hD] at e1
    cases e1
  rintro i m Hc ⟨ρc, hc, accV, acc, x, sm, eD, nD, rA, hi, rfl, rn⟩
  by_cases hlt : i < s.items.length
  · rw [List.drop_eq_getElem_cons hlt] at rn
    have rn0 := rn
    unfold compGo at rn
    cases hw : walkOk s hc with
    | false => rw [hw] at rn; exact rn.elim
    | true =>
      rw [hw] at rn
      have st := walk_stb ok x sm hw
      have rn1 : Rn G (RelU G) E ((match tg.put (.d s.items[i]) (wipeL l own) with
        | none => .stuck
        | some l2 => (noX (t l2 hc)).bind fun b h1 => match b with
          | true => (noX (e l2 h1)).bind fun y h2 => match asD y with
            | some d => if acc.length < sizeLine then compGo s tg (wipeL l own) t e (s.items.drop (i + 1)) (acc ++ [d]) h2 else .stuck
            | none => .stuck
          | false => compGo s tg (wipeL l own) t e (s.items.drop (i + 1)) acc h1 : R (List PyData)).bind fin) ρ0 h0 H0 Q0 := rn
      cases hp : tg.put (.d s.items[i]) (wipeL l own) with
      | none => rw [hp] at rn1; exact rn1.elim
      | some l2 =>
        rw [hp] at rn1
        refine .inr ⟨ok.go i Hc st hlt, fun H' => ∃ ρc hc accV acc, Ext ρ1 h1 H1 ρc hc H' ∧ Sim G ρc hc H' ∧ H' D = some (.lst accV) ∧ (∀ n, n < hc.length → ρc n ≠ D) ∧ RpA G.K H' accV acc ∧
          Rn G (RelU G) E ((compGo s tg (wipeL l own) t e (s.items.drop (i + 1)) acc hc).bind fin) ρ0 h0 H0 Q0, fun H' hN => ?_, fun v H' hy => ?_⟩
        · obtain ⟨ρ', h', aV, a', x', sm', e', n', r', q'⟩ := hN
          exact ⟨s.items.length - (i + 1), by omega, ρ', h', aV, a', x', sm', e', n', r', by omega, rfl, q'⟩
        · obtain ⟨sa, d, ed, rd⟩ := ok.yld i Hc v H' st hlt hy
          have ed' : s.items[i] = d := by
            rw [List.getElem?_eq_getElem hlt] at ed
            exact Option.some.inj ed
          subst ed'
          have x2 : Ext ρ1 h1 H1 ρc hc H' := x.trans (.grow sa)
          have sm2 := sm.grow sa
          have sl2 : Sl G.K H' ρc hc (L2.wipe σ own) (wipeL l own) := (sl.ext x2).wipe own
          refine hg.run H' ρc hc v (.d s.items[i]) _ _ l2 _ rd sl2 hp fun σ2 sl3 bt => ⟨bt.wipe hs, ?_⟩
          have rn2 : Rn G (RelU G) E ((noX (t l2 hc)).bind fun b h1 => ((match b with
            | true => (noX (e l2 h1)).bind fun y h2 => match asD y with
              | some d => if acc.length < sizeLine then compGo s tg (wipeL l own) t e (s.items.drop (i + 1)) (acc ++ [d]) h2 else .stuck
              | none => .stuck
            | false => compGo s tg (wipeL l own) t e (s.items.drop (i + 1)) acc h1 : R (List PyData)).bind fin)) ρ0 h0 H0 Q0 := by
            rw [← R.bind_assoc]
            exact rn1
          refine ⟨ρc, l2, hc, sm2, sl3, ((rn2.ext (x01.trans x2)).bindX (Rel := RelB)).mono ?_⟩
          rintro b H3 ⟨ρ3, h3, b', x3, sm3, rb, et⟩
          cases (show b = b' from rb)
          rw [et] at rn2
          have eD' : H' D = some (.lst accV) := sa _ _ eD
          have eD3 : H3 D = some (.lst accV) := x3.frame D _ eD' nD (fun ps z => nomatch z)
          have nD3 : ∀ n, n < h3.length → ρ3 n ≠ D := fun n hn z => by
            by_cases hl : n < hc.length
            · exact nD n hl ((x3.same n hl).symm.trans z)
            · have q := x3.new n (by omega) hn
              rw [z, eD'] at q
              cases q
          have x13 : Ext ρ1 h1 H1 ρ3 h3 H3 := x2.trans x3
          have rA3 : RpA G.K H3 accV acc := (rA.kp (.same sa)).kp x3.keep
          cases b with
          | false =>
            rw [if_neg Bool.false_ne_true]
            exact ⟨ρ3, h3, accV, acc, x13, sm3, eD3, nD3, rA3, rn2⟩
          | true =>
            rw [if_pos rfl]
            have rn3 : Rn G (RelU G) E ((noX (e l2 h3)).bind fun y h2 => ((match asD y with
              | some d => if acc.length < sizeLine then compGo s tg (wipeL l own) t e (s.items.drop (i + 1)) (acc ++ [d]) h2 else .stuck
              | none => .stuck : R (List PyData)).bind fin)) ρ0 h0 H0 Q0 := by
              rw [← R.bind_assoc]
              exact rn2
            refine ⟨ρ3, l2, h3, sm3, sl3.ext x3, ((rn3.ext (x01.trans x13)).bindX (Rel := RelU G)).mono ?_⟩
            rintro y H4 ⟨ρ4, h4, u, x4, sm4, ru, ee⟩
            rw [ee] at rn3
            cases qa : asD u with
            | none =>
              have rn4 : Rn G (RelU G) E ((match asD u with
                | some d => if acc.length < sizeLine then compGo s tg (wipeL l own) t e (s.items.drop (i + 1)) (acc ++ [d]) h4 else .stuck
                | none => .stuck : R (List PyData)).bind fin) ρ0 h0 H0 Q0 := rn3
              rw [qa] at rn4
              exact rn4.elim
            | some d =>
              have rn4 : Rn G (RelU G) E ((match asD u with
                | some d => if acc.length < sizeLine then compGo s tg (wipeL l own) t e (s.items.drop (i + 1)) (acc ++ [d]) h4 else .stuck
                | none => .stuck : R (List PyData)).bind fin) ρ0 h0 H0 Q0 := rn3
              rw [qa] at rn4
              cases asD_some qa
              by_cases hsz : acc.length < sizeLine
              · have rn5 : Rn G (RelU G) E ((if acc.length < sizeLine then compGo s tg (wipeL l own) t e (s.items.drop (i + 1)) (acc ++ [d]) h4 else .stuck : R (List PyData)).bind fin) ρ0 h0 H0 Q0 := rn4
                rw [if_pos hsz] at rn5
                have eD4 : H4 D = some (.lst accV) := x4.frame D _ eD3 nD3 (fun ps z => nomatch z)
                have nD4 : ∀ n, n < h4.length → ρ4 n ≠ D := fun n hn z => by
                  by_cases hl : n < h3.length
                  · exact nD3 n hl ((x4.same n hl).symm.trans z)
                  · have q := x4.new n (by omega) hn
                    rw [z, eD3] at q
                    cases q
                have rA4 := rA3.kp x4.keep
                refine ⟨accV, eD4, by rw [rA4.length]; exact hsz, ρ4, h4, accV ++ [y], acc ++ [d], (x13.trans x4).put hD, sm4.put eD4 nD4, upd_same, nD4, (rA4.snoc ru).kp (keep_put eD4), rn5⟩
              · have rn5 : Rn G (RelU G) E ((if acc.length < sizeLine then compGo s tg (wipeL l own) t e (s.items.drop (i + 1)) (acc ++ [d]) h4 else .stuck : R (List PyData)).bind fin) ρ0 h0 H0 Q0 := rn4
                rw [if_neg hsz] at rn5
                exact rn5.elim
  · have ei : s.items.drop i = [] := List.drop_eq_nil_of_le (by omega)
    rw [ei] at rn
    unfold compGo at rn
    cases hw : walkOk s hc with
    | false => rw [hw] at rn; exact rn.elim
    | true =>
      rw [hw] at rn
      exact .inl ⟨ok.stop i Hc (walk_stb ok x sm hw) (by omega), hfin ρc hc Hc accV acc x sm eD nD rA rn⟩
/-! ### a list put aside -/
def era (H : Hp) (D : Addr) : Hp := fun b => if b = D then none else H b
theorem era_self {H : Hp} {D : Addr} : era H D D = none := if_pos rfl
theorem era_ne {H : Hp} {D b : Addr} (h : b ≠ D) : era H D b = H b := if_neg h
theorem era_back {H : Hp} {D : Addr} {vs : List V} (e : H D = some (.lst vs)) : upd (era H D) D (.lst vs) = H := by
  funext b
  by_cases h : b = D
  · subst h; rw [upd_same, e]
  · rw [upd_ne h, era_ne h]
theorem keep_era {H : Hp} {D : Addr} {vs : List V} (e : H D = some (.lst vs)) : Keep H (era H D) :=
  ⟨fun b xs q => by rw [era_ne (fun z => by rw [z, e] at q; cases q)]; exact q, fun b o u q => by rw [era_ne (fun z => by rw [z, e] at q; cases q)]; exact q⟩
theorem Sim.era {ρ : Nat → Addr} {h : AH} {H : Hp} {D : Addr} {vs : List V} (sm : Sim G ρ h H) (e : H D = some (.lst vs)) (hn : ∀ n, n < h.length → ρ n ≠ D) : Sim G ρ h (RB.era H D) := by
  refine ⟨fun n ob q => ?_, sm.inj, fun p hp => ?_⟩
  · have hl : n < h.length := (List.getElem?_eq_some_iff.mp q).1
    have hx := sm.obj n ob q
    cases ob with
    | lst ds => obtain ⟨ws, e1, r⟩ := hx; exact ⟨ws, by rw [era_ne (hn n hl)]; exact e1, r.kp (keep_era e)⟩
    | dct kvs => obtain ⟨ws, e1, r⟩ := hx; exact ⟨ws, by rw [era_ne (hn n hl)]; exact e1, pairK (keep_era e) r⟩
  · obtain ⟨ps, e1, t, hc⟩ := sm.tab p hp
    refine ⟨ps, ?_, t, fun pos cv q => ?_⟩
    · rw [era_ne (fun z => by rw [z, e] at e1; cases e1)]; exact e1
    · obtain ⟨c, e2, e3⟩ := hc pos cv q
      refine ⟨c, e2, ?_⟩
      rw [era_ne (fun z => by rw [z, e] at e3; cases e3)]
      exact e3
theorem RU.era {K : PySem.W.Frag} {H : Hp} {ρ : Nat → Addr} {h : AH} {v : V} {u : U} {D : Addr} {vs : List V} (r : RU K H ρ h v u) (e : H D = some (.lst vs)) : RU K (RB.era H D) ρ h v u := by
  cases u with
  | d x => exact Rp.kp (show Rp K H v x from r) (keep_era e)
  | r n => exact r
  | x a dd fs =>
    obtain ⟨r1, ⟨vfs, r2, r3⟩, r4⟩ := r
    exact ⟨r1, ⟨vfs, by rw [era_ne (fun z => by rw [z, e] at r2; cases r2)]; exact r2, pairX (keep_era e) r3⟩, r4⟩
theorem Sl.era {K : PySem.W.Frag} {H : Hp} {ρ : Nat → Addr} {h : AH} {σ : L2.St} {l : Lc} {D : Addr} {vs : List V} (s : Sl K H ρ h σ l) (e : H D = some (.lst vs)) : Sl K (RB.era H D) ρ h σ l :=
  ⟨s.len, fun i u q => let ⟨v, q1, q2⟩ := s.at_ i u q; ⟨v, q1, q2.era e⟩⟩
theorem ItOk.era {ρ : Nat → Addr} {h : AH} {H : Hp} {J : It} {s : Src} {D : Addr} {vs : List V} (k : ItOk G ρ h H J s) (e : H D = some (.lst vs)) : ItOk G ρ h (RB.era H D) J s := by
  have st : ∀ {H'}, Stb G ρ (RB.era H D) s H' → Stb G ρ H s H' := fun st => ⟨(keep_era e).trans st.1, st.2⟩
  exact ⟨k.at_, fun i H' a b => k.go i H' (st a) b, fun i H' x H'' a b c => k.yld i H' x H'' (st a) b c, fun i H' a b => k.stop i H' (st a) b⟩
theorem Ext.era {ρ ρ' : Nat → Addr} {h h' : AH} {H H' : Hp} {D : Addr} (x : Ext ρ h H ρ' h' H') (e : H D = none) : Ext ρ h H ρ' h' (RB.era H' D) := by
  refine ⟨⟨fun b xs q => ?_, fun b ob u q => ?_⟩, x.len, x.same, fun b ob q hn ht => ?_, x.new, fun b q => ?_⟩
  · rw [era_ne (fun z => by rw [z, e] at q; cases q)]; exact x.keep.tup b xs q
  · rw [era_ne (fun z => by rw [z, e] at q; cases q)]; exact x.keep.frz b ob u q
  · rw [era_ne (fun z => by rw [z, e] at q; cases q)]; exact x.frame b ob q hn ht
  · by_cases z : b = D
    · rw [z, e]; exact True.intro
    · rw [era_ne z] at q; exact x.there b q
/-! ### [e for t in it if c for t1 in it1 if c1] -/
def compGo2 (s : Src) (tg : Tg) (lw : Lc) (t : FT) (i1 : FI) (tg1 : Tg) (t1 : FT) (e : FE) : List PyData → List PyData → AH → R (List PyData)
  | [], acc, h => if walkOk s h then .ok acc h else .stuck
  | x :: xs, acc, h => if walkOk s h then match tg.put (.d x) lw with
      | none => .stuck
      | some l2 => (noX (t l2 h)).bind fun b h1 => match b with
        | true => (noX (i1 l2 h1)).bind fun s1 h2 => (compGo s1 tg1 (wipeL l2 tg1.slots) t1 e s1.items acc h2).bind fun a h3 => compGo2 s tg lw t i1 tg1 t1 e xs a h3
        | false => compGo2 s tg lw t i1 tg1 t1 e xs acc h1
    else .stuck
def fComp2 (it : FI) (tg : Tg) (own : List Nat) (t : FT) (i1 : FI) (tg1 : Tg) (t1 : FT) (e : FE) : FE := fun l h => (it l h).bind fun s h1 => (compGo2 s tg (wipeL l own) t i1 tg1 t1 e s.items [] h1).bind fun ys h2 => .ok (.d (.list ys)) h2
theorem comp_turns2 {σ : L2.St} {l : Lc} {Q0 : VK} {J : It} {H1 : Hp} {ρ1 : Nat → Addr} {h1 : AH} {s : Src} {g g1 : TG} {tg tg1 : Tg} {own : List Nat} {t t1 : FT} {i1 : FI} {e : FE} {fin : List PyData → AH → R U} (sl : Sl G.K H1 ρ1 h1 σ l) (s1 : Sim G ρ1 h1 H1) (ok : ItOk G ρ1 h1 H1 J s) (hg : GOk G.K g tg) (hs : ∀ i ∈ tg.slots, i ∈ own) (hg1 : GOk G.K g1 tg1)
    (n1 : Rn G (RelU G) E ((compGo2 s tg (wipeL l own) t i1 tg1 t1 e s.items [] h1).bind fin) ρ1 h1 H1 Q0)
    (D : Addr) (hD : H1 D = none) (QD : V → Hp → Prop)
    (hfin : ∀ ρc hc Hc accV acc, Ext ρ1 h1 H1 ρc hc Hc → Sim G ρc hc Hc → Hc D = some (.lst accV) → (∀ n, n < hc.length → ρc n ≠ D) → RpA G.K Hc accV acc → Rn G (RelU G) E (fin acc hc) ρ1 h1 H1 Q0 → QD (.ref D) Hc) :
    ∃ W : Nat → Nat → Hp → Prop, (∃ m, W 0 m (upd H1 D (.lst []))) ∧ ∀ i m H, W i m H →
      (J.stop i H ∧ QD (.ref D) H) ∨ (J.go i H ∧ ∃ Nx : Hp → Prop, (∀ H', Nx H' → ∃ m', m' < m ∧ W (i + 1) m' H') ∧ ∀ x H', J.yld i H x H' → g x (L2.wipe σ own) H' fun σ2 H2 => L2.wipe σ2 own = L2.wipe σ own ∧ tFT G F0 t σ2 H2 fun b H3 =>
        if b = true then tFI G F0 i1 σ2 H3 fun J1 H4 => ∃ W1 : Nat → Nat → Hp → Prop, (∃ m, W1 0 m H4) ∧ ∀ j k H, W1 j k H →
          (J1.stop j H ∧ Nx H) ∨ (J1.go j H ∧ ∃ Nx1 : Hp → Prop, (∀ H', Nx1 H' → ∃ k', k' < k ∧ W1 (j + 1) k' H') ∧ ∀ x H', J1.yld j H x H' → g1 x (L2.wipe σ2 tg1.slots) H' fun σ3 H5 => L2.wipe σ3 tg1.slots = L2.wipe σ2 tg1.slots ∧ tFT G F0 t1 σ3 H5 fun b H6 =>
            if b = true then tF G F0 e σ3 H6 fun y H7 => ∃ acc, H7 D = some (.lst acc) ∧ acc.length < sizeLine ∧ Nx1 (upd H7 D (.lst (acc ++ [y]))) else Nx1 H6)
        else Nx H3) := by
  refine ⟨fun i m Hc => ∃ ρc hc accV acc, Ext ρ1 h1 H1 ρc hc Hc ∧ Sim G ρc hc Hc ∧ Hc D = some (.lst accV) ∧ (∀ n, n < hc.length → ρc n ≠ D) ∧ RpA G.K Hc accV acc ∧ i ≤ s.items.length ∧ m = s.items.length - i ∧
    Rn G (RelU G) E ((compGo2 s tg (wipeL l own) t i1 tg1 t1 e (s.items.drop i) acc hc).bind fin) ρ1 h1 H1 Q0, ⟨s.items.length, ρ1, h1, [], [], (Ext.refl ρ1 h1 H1).put hD, s1.grow (same_new hD), upd_same, fun n hn z => ?_, .nil, Nat.zero_le _, (Nat.sub_zero _).symm, by rw [List.drop_zero]; exact n1⟩, ?_⟩
  · obtain ⟨u, e1, _⟩ := (s1.obj n h1[n] (List.getElem?_eq_getElem hn)).some
    rw [z, hD] at e1
    cases e1
  rintro i m Hc ⟨ρc, hc, accV, acc, x, sm, eD, nD, rA, hi, rfl, rn⟩
  by_cases hlt : i < s.items.length
  · rw [List.drop_eq_getElem_cons hlt] at rn
    unfold compGo2 at rn
    cases hw : walkOk s hc with
    | false => rw [hw] at rn; exact rn.elim
    | true =>
      rw [hw] at rn
      have st := walk_stb ok x sm hw
      have rn1 : Rn G (RelU G) E ((match tg.put (.d s.items[i]) (wipeL l own) with
        | none => .stuck
        | some l2 => (noX (t l2 hc)).bind fun b h1 => match b with
          | true => (noX (i1 l2 h1)).bind fun s1 h2 => (compGo s1 tg1 (wipeL l2 tg1.slots) t1 e s1.items acc h2).bind fun a h3 => compGo2 s tg (wipeL l own) t i1 tg1 t1 e (s.items.drop (i + 1)) a h3
          | false => compGo2 s tg (wipeL l own) t i1 tg1 t1 e (s.items.drop (i + 1)) acc h1 : R (List PyData)).bind fin) ρ1 h1 H1 Q0 := rn
      cases hp : tg.put (.d s.items[i]) (wipeL l own) with
      | none => rw [hp] at rn1; exact rn1.elim
      | some l2 =>
        rw [hp] at rn1
        refine .inr ⟨ok.go i Hc st hlt, fun H' => ∃ ρc hc accV acc, Ext ρ1 h1 H1 ρc hc H' ∧ Sim G ρc hc H' ∧ H' D = some (.lst accV) ∧ (∀ n, n < hc.length → ρc n ≠ D) ∧ RpA G.K H' accV acc ∧
          Rn G (RelU G) E ((compGo2 s tg (wipeL l own) t i1 tg1 t1 e (s.items.drop (i + 1)) acc hc).bind fin) ρ1 h1 H1 Q0, fun H' hN => ?_, fun v H' hy => ?_⟩
        · obtain ⟨ρ', h', aV, a', x', sm', e', n', r', q'⟩ := hN
          exact ⟨s.items.length - (i + 1), by omega, ρ', h', aV, a', x', sm', e', n', r', by omega, rfl, q'⟩
        · obtain ⟨sa, d, ed, rd⟩ := ok.yld i Hc v H' st hlt hy
          have ed' : s.items[i] = d := by
            rw [List.getElem?_eq_getElem hlt] at ed
            exact Option.some.inj ed
          subst ed'
          have x2 : Ext ρ1 h1 H1 ρc hc H' := x.trans (.grow sa)
          have sm2 := sm.grow sa
          have sl2 : Sl G.K H' ρc hc (L2.wipe σ own) (wipeL l own) := (sl.ext x2).wipe own
          refine hg.run H' ρc hc v (.d s.items[i]) _ _ l2 _ rd sl2 hp fun σ2 sl3 bt => ⟨bt.wipe hs, ?_⟩
          have rn2 : Rn G (RelU G) E ((noX (t l2 hc)).bind fun b h1 => ((match b with
            | true => (noX (i1 l2 h1)).bind fun s1 h2 => (compGo s1 tg1 (wipeL l2 tg1.slots) t1 e s1.items acc h2).bind fun a h3 => compGo2 s tg (wipeL l own) t i1 tg1 t1 e (s.items.drop (i + 1)) a h3
            | false => compGo2 s tg (wipeL l own) t i1 tg1 t1 e (s.items.drop (i + 1)) acc h1 : R (List PyData)).bind fin)) ρ1 h1 H1 Q0 := by
            rw [← R.bind_assoc]
            exact rn1
          refine ⟨ρc, l2, hc, sm2, sl3, ((rn2.ext x2).bindX (Rel := RelB)).mono ?_⟩
          rintro b H3 ⟨ρ3, h3, b', x3, sm3, rb, et⟩
          cases (show b = b' from rb)
          rw [et] at rn2
          have eD' : H' D = some (.lst accV) := sa _ _ eD
          have eD3 : H3 D = some (.lst accV) := x3.frame D _ eD' nD (fun ps z => nomatch z)
          have nD3 : ∀ n, n < h3.length → ρ3 n ≠ D := fun n hn z => by
            by_cases hl : n < hc.length
            · exact nD n hl ((x3.same n hl).symm.trans z)
            · have q := x3.new n (by omega) hn
              rw [z, eD'] at q
              cases q
          have x13 : Ext ρ1 h1 H1 ρ3 h3 H3 := x2.trans x3
          have rA3 : RpA G.K H3 accV acc := (rA.kp (.same sa)).kp x3.keep
          cases b with
          | false =>
            rw [if_neg Bool.false_ne_true]
            exact ⟨ρ3, h3, accV, acc, x13, sm3, eD3, nD3, rA3, rn2⟩
          | true =>
            rw [if_pos rfl]
            have rn3 : Rn G (RelU G) E ((noX (i1 l2 h3)).bind fun s1 h2 => ((compGo s1 tg1 (wipeL l2 tg1.slots) t1 e s1.items acc h2).bind fun a h3 => compGo2 s tg (wipeL l own) t i1 tg1 t1 e (s.items.drop (i + 1)) a h3 : R (List PyData)).bind fin) ρ1 h1 H1 Q0 := by
              rw [← R.bind_assoc]
              exact rn2
            refine ⟨ρ3, l2, h3, sm3, sl3.ext x3, ((rn3.ext x13).bindX (Rel := RelI G)).mono ?_⟩
            rintro J1 H4 ⟨ρ4, h4, sr, x4, sm4, iok, ee⟩
            rw [ee] at rn3
            have rn4 : Rn G (RelU G) E ((compGo sr tg1 (wipeL l2 tg1.slots) t1 e sr.items acc h4).bind fun a h3 => ((compGo2 s tg (wipeL l own) t i1 tg1 t1 e (s.items.drop (i + 1)) a h3 : R (List PyData)).bind fin)) ρ1 h1 H1 Q0 := by
              rw [← R.bind_assoc]
              exact rn3
            have eD4 : H4 D = some (.lst accV) := x4.frame D _ eD3 nD3 (fun ps z => nomatch z)
            have nD4 : ∀ n, n < h4.length → ρ4 n ≠ D := fun n hn z => by
              by_cases hl : n < h3.length
              · exact nD3 n hl ((x4.same n hl).symm.trans z)
              · have q := x4.new n (by omega) hn
                rw [z, eD3] at q
                cases q
            have x14 : Ext ρ1 h1 H1 ρ4 h4 (era H4 D) := (x13.trans x4).era hD
            have key := comp_turnsA (E := E) (Q0 := Q0) x14 (accV0 := accV) (acc0 := acc) (((sl3.ext x3).ext x4).era eD4) (sm4.era eD4 nD4) (iok.era eD4) hg1 (own := tg1.slots) (fun _ z => z) rn4 D era_self (by rw [era_back eD4]; exact rA3.kp x4.keep) (fun _ H' => ∃ ρc hc accV acc, Ext ρ1 h1 H1 ρc hc H' ∧ Sim G ρc hc H' ∧ H' D = some (.lst accV) ∧ (∀ n, n < hc.length → ρc n ≠ D) ∧ RpA G.K H' accV acc ∧
              Rn G (RelU G) E ((compGo2 s tg (wipeL l own) t i1 tg1 t1 e (s.items.drop (i + 1)) acc hc).bind fin) ρ1 h1 H1 Q0)
              (fun ρc hc Hc accV acc xx ss ee nn rr qq => ⟨ρc, hc, accV, acc, x14.trans xx, ss, ee, nn, rr, qq⟩)
            rw [era_back eD4] at key
            exact key
  · have ei : s.items.drop i = [] := List.drop_eq_nil_of_le (by omega)
    rw [ei] at rn
    unfold compGo2 at rn
    cases hw : walkOk s hc with
    | false => rw [hw] at rn; exact rn.elim
    | true =>
      rw [hw] at rn
      exact .inl ⟨ok.stop i Hc (walk_stb ok x sm hw) (by omega), hfin ρc hc Hc accV acc x sm eD nD rA rn⟩
theorem pf_comp2 {elt tge iter tge1 iter1 : Expr} {ifs ifs1 : List Expr} {scope : Scope} {own : List (Str × Nat)} {pos : Pos} {gi gi1 : FI} {g g1 : TG} {tg tg1 : Tg} {gt gt1 : FT} {ge : FE} (hK : X.K = G.K) (hc : X.calm = true) (hN : X.N.Nodup) (hi : PI X tge iter (tFI G E gi)) (ok : BlkOk X.N X.env.scope scope own) (hg : GOk G.K g tg) (hs : ∀ i ∈ tg.slots, i ∈ own.map (·.2)) (hg1 : GOk G.K g1 tg1) (hs1 : ∀ i ∈ tg1.slots, i ∈ own.map (·.2))
    (pg : blkP X scope fun Y => PG Y tge g) (pt : blkP X scope fun Y => PTs Y ifs (tFT G F0 gt)) (pi1 : blkP X scope fun Y => PI Y tge1 iter1 (tFI G F0 gi1)) (pg1 : blkP X scope fun Y => PG Y tge1 g1) (pt1 : blkP X scope fun Y => PTs Y ifs1 (tFT G F0 gt1)) (pe : blkP X scope fun Y => PE Y elt (tF G F0 ge)) (hf : ∀ x, foldedSetIterable iter X.env x = pure x) (hf1 : ∀ env x, foldedSetIterable iter1 env x = pure x) :
    PE X (.ListComp elt [⟨tge, iter, ifs, 0⟩, ⟨tge1, iter1, ifs1, 0⟩] scope pos) (tF G E (fComp2 gi tg (own.map (·.2)) gt gi1 tg1 gt1 ge)) := by
  refine PE.imp (pe_lockNew (pe_lc2 hc hN hi ok hs1 pg pt pi1 pg1 pt1 pe hf hf1)) fun σ H Q ⟨ρ, l, h, sm, sl, rn⟩ => ⟨ρ, l, h, sm, sl, rn.bind.mono ?_⟩
  rintro J H1 ⟨ρ1, h1, s, e1, s1, iok, _, n1⟩
  intro D hD
  refine comp_turns2 (E := E) (Q0 := Q) (fin := fun ys h2 => .ok (.d (.list ys)) h2) (sl.ext e1) s1 iok hg hs hg1 n1 D hD (fun v H' => ∃ p vs, v = .ref p ∧ H' p = some (.lst vs) ∧ ∀ o, Q (.ref p) (upd H' p (.frz o (.lst vs)))) ?_
  intro ρc hc' Hc accV acc x sm' eD nD rA q
  refine ⟨D, accV, rfl, eD, fun o => ?_⟩
  exact Rn.at_ q (x.put hD) (sm'.put eD nD) (show Rp G.K _ (.ref D) (.list acc) from .lst ⟨o, upd_same⟩ (rA.kp (keep_put eD)))
/-! ### a list times an int -/
theorem RpA.rep {K : PySem.W.Frag} {H : Hp} {ds : List PyData} {vs : List V} (r : RpA K H vs ds) : ∀ n : Nat, RpA K H (List.replicate n vs).flatten (List.replicate n ds).flatten
  | 0 => .nil
  | n + 1 => by
    rw [List.replicate_succ, List.replicate_succ, List.flatten_cons, List.flatten_cons]
    exact r.app (RpA.rep r n)
theorem op_repR : OpR X (binaryOp .Mult) (fun x y H Q => ∃ ds k, Rq X.K H x (.list ds) ∧ y = .int k ∧ 0 ≤ k ∧ k ≤ 1000 ∧ ds.length ≤ 1000 ∧ ∀ p vs, H p = none → RpA X.K H vs (List.replicate k.toNat ds).flatten → Q (.ref p) (upd H p (.lst vs))) := by
  intro pins s σ H x y v u Q I rx ry h
  obtain ⟨ds, k, hx, rfl, h1, h2, h3, q⟩ := h
  obtain ⟨l, xs, rfl, ra, pa⟩ := hx.rd
  cases rx
  obtain ⟨t, rfl⟩ := ry
  obtain ⟨za, its, n, r, e⟩ := (show ObjOk X.prog X.w H s.heap l (.lst xs) from ra.ok I.hok)
  have hl := r.length
  have l1 := pa.length
  have hz : xs.length * k.toNat ≤ sizeLine := by
    have a1 : xs.length ≤ 1000 := by omega
    have a2 : k.toNat ≤ 1000 := by omega
    have a3 : xs.length * k.toNat ≤ 1000 * 1000 := Nat.mul_le_mul a1 a2
    have a4 : 1000 * 1000 ≤ (sizeLine : Nat) := by decide
    omega
  have hlen : its.toArray.size * k.toNat ≤ sizeLine := by rw [List.size_toArray, ← hl]; exact hz
  have hcap : ¬ its.toArray.size * k.toNat > (2 ^ 63 - 1) / 8 := by
    have : (sizeLine : Nat) ≤ (2 ^ 63 - 1) / 8 := by decide
    omega
  have hfit : ¬ (!Builtin.List.listFitsIndex k) = true := by
    rw [fitsIndex_both (by omega) (by omega)]
    exact Bool.false_ne_true
  have hlong : ¬ Builtin.List.listTooLong (its.toArray.size * k.toNat) = true := by
    rw [notLongL hlen]
    exact Bool.false_ne_true
  have hnew : List.foldl (fun x1 x2 => x1 ++ x2) #[] (List.replicate (if its.toArray.isEmpty = true then 0 else k.toNat) its.toArray) = (List.replicate k.toNat its).flatten.toArray := by
    have f0 : ∀ m : Nat, List.foldl (fun x1 x2 => x1 ++ x2) #[] (List.replicate m its.toArray) = (List.replicate m its).flatten.toArray := fun m => by
      have := foldl_rep its m []
      rw [List.nil_append] at this
      exact this
    rw [f0]
    cases its with
    | nil => simp
    | cons a r' => rw [if_neg (by simp)]
  refine wpAny_binaryOp_repeat_ref (T := "list") (U := "int") (by decide) ⟨_, e, rfl⟩ (fun s' => typeIs_int s' k t) noFill_list_mul F.fills_int_mul F.slot_int_rmul repeat_list F.slot_int_index.lookup
    (call_meets F.slot_int_rmul (typeIs_int s k t) F.entry_int_rmul (F.args_int_rmul_2 _ _) (int___rmul___int_list k t l its.toArray n)
      ⟨e, rfl, ⟨_, e, rfl⟩, call_meets F.slot_list_mul ⟨_, e, rfl⟩ F.entry_list_mul (F.args_list_mul_2 _ _) (AutoListH.list___mul___list_int_3 l its.toArray n k t hfit hcap hlong) ⟨e, ?_⟩⟩)
  rw [hnew]
  exact ⟨.ref _, _, I.lnew (t' := s.toks) (r.rep k.toNat) (by rw [PyProof.Rows.lm_len_rep_flat, Nat.mul_comm]; exact hz), rfl, q _ _ I.fresh (pa.rep _)⟩
theorem op_repL : OpR X (binaryOp .Mult) (fun x y H Q => ∃ ds k, Rq X.K H x (.list ds) ∧ y = .int k ∧ 0 ≤ k ∧ k ≤ 1000 ∧ ds.length ≤ 1000 ∧ ∀ v H', Same H H' → Rp X.K H' v (.list (List.replicate k.toNat ds).flatten) → Q v H') := by
  intro pins s σ H x y v u Q I rx ry hq
  obtain ⟨ds, k, hx, hy, h1, h2, h3, q⟩ := hq
  refine thn (op_repR pins s σ H x y v u (fun v H' => ∃ p vs, v = .ref p ∧ H p = none ∧ H' = upd H p (.lst vs) ∧ ∀ o, Q (.ref p) (upd (upd H p (.lst vs)) p (.frz o (.lst vs)))) I rx ry
    ⟨ds, k, hx, hy, h1, h2, h3, fun p vs hp ra => ⟨p, vs, rfl, hp, rfl, fun o => q _ _ (same_new2 hp) (rp_lst hp ra o)⟩⟩) fun u s' hu => EP.lock hu
theorem op_mulD : OpR X (binaryOp .Mult) (rD X.K mulD) := by
  intro pins s σ H x y v u Q I rx ry hq
  obtain ⟨d, e, z, hd, he, hz, q⟩ := hq
  cases d with
  | int i =>
    cases e with
    | int j => exact op_mulI pins s σ H x y v u Q I rx ry ⟨_, _, z, hd, he, hz, q⟩
    | _ => exact nomatch hz
  | list ds =>
    cases e with
    | int k =>
      have hz' : (if 0 ≤ k ∧ k ≤ 1000 ∧ ds.length ≤ 1000 then some (PyData.list (List.replicate k.toNat ds).flatten) else none) = some z := hz
      by_cases hl : 0 ≤ k ∧ k ≤ 1000 ∧ ds.length ≤ 1000
      · rw [if_pos hl] at hz'
        cases hz'
        exact op_repL pins s σ H x y v u Q I rx ry ⟨ds, k, hd, he.int, hl.1, hl.2.1, hl.2.2, q⟩
      · rw [if_neg hl] at hz'
        cases hz'
    | _ => exact nomatch hz
  | _ => exact nomatch hz
end
end RB
/-! RB10: places that change: dicts with text keys, append, extend; a, b = x, y. -/
namespace RB
open PySem PySem.Spec L2
section
variable {X : Cx} {G : Gb} {E : XK}
/-! ### the object at a place is changed -/
theorem keep_mut {H : Hp} {a : Addr} {u o : HO} (e : H a = some u) (m : Mut (some u)) : Keep H (upd H a o) := by
  refine ⟨fun b xs q => ?_, fun b ob v q => ?_⟩
  · rw [upd_ne (fun z => by rw [z, e] at q; cases q; exact m)]; exact q
  · rw [upd_ne (fun z => by rw [z, e] at q; cases q; exact m)]; exact q
theorem Sim.store {ρ : Nat → Addr} {h : AH} {H : Hp} {n : Nat} {o : O} {u : HO} (sm : Sim G ρ h H) (hn : n < h.length) (ho : OR G.K (upd H (ρ n) u) (ρ n) o) (hu : ∀ φ, u ≠ .ext φ) (ht : ∀ ps, u ≠ .tbl ps) :
    Ext ρ h H ρ (h.set n o) (upd H (ρ n) u) ∧ Sim G ρ (h.set n o) (upd H (ρ n) u) := by
  obtain ⟨w, ew, mw⟩ := (sm.obj n h[n] (List.getElem?_eq_getElem hn)).some
  have kp : Keep H (upd H (ρ n) u) := keep_mut ew mw
  have hl : (h.set n o).length = h.length := List.length_set
  refine ⟨⟨kp, by omega, fun _ _ => rfl, fun b ob q hb _ => ?_, fun m h1 h2 => absurd h1 (by omega), fun b q => ?_⟩, ⟨fun m om q => ?_, fun m m' h1 h2 => sm.inj m m' (by omega) (by omega), fun p hp => ?_⟩⟩
  · rw [upd_ne (fun z => hb n hn z.symm)]; exact q
  · by_cases z : b = ρ n
    · rw [z, upd_same] at q; cases u <;> first | exact q.elim | exact absurd rfl (ht _)
    · rw [upd_ne z] at q; exact q
  · by_cases z : n = m
    · subst z
      rw [List.getElem?_set_self hn] at q
      cases q
      exact ho
    · rw [List.getElem?_set_ne z] at q
      have hm : m < h.length := (List.getElem?_eq_some_iff.mp q).1
      have ne : ρ m ≠ ρ n := fun y => z (sm.inj m n hm hn y).symm
      have hx := sm.obj m om q
      cases om with
      | lst ds => obtain ⟨ws, e1, r⟩ := hx; exact ⟨ws, by rw [upd_ne ne]; exact e1, r.kp kp⟩
      | dct kvs => obtain ⟨ws, e1, r⟩ := hx; exact ⟨ws, by rw [upd_ne ne]; exact e1, pairK kp r⟩
  · obtain ⟨ps, e1, t, hc⟩ := sm.tab p hp
    refine ⟨ps, ?_, t, fun pos cv q => ?_⟩
    · rw [upd_ne (fun z => by rw [z, ew] at e1; cases e1; exact mw)]; exact e1
    · obtain ⟨c, e2, e3⟩ := hc pos cv q
      refine ⟨c, e2, ?_⟩
      by_cases z : c = ρ n
      · exfalso
        obtain ⟨w', ew', mw'⟩ := (sm.obj n h[n] (List.getElem?_eq_getElem hn)).some
        have hx := sm.obj n h[n] (List.getElem?_eq_getElem hn)
        cases q2 : h[n] with
        | lst ds =>
          rw [q2] at hx
          obtain ⟨ws, e4, _⟩ := hx
          rw [z, e4] at e3
          cases e3
        | dct kvs =>
          rw [q2] at hx
          obtain ⟨ws, e4, _⟩ := hx
          rw [z, e4] at e3
          cases e3
      · rw [upd_ne z]; exact e3
/-! ### x.append(e) -/
def isLstAt (h : AH) (n : Nat) : Option (List PyData) := match h[n]? with
  | some (.lst xs) => some xs
  | _ => none
def fApp (o : FE) (a : FA) : FE := fun l h => (o l h).bind fun x h1 => match x with
  | .r n => match isLstAt h1 n with
    | none => .stuck
    | some _ => (a l h1).bind fun us h2 => match isLstAt h2 n, us with
      | some xs, [.d d] => if xs.length < sizeLine then .ok (.d .none) (h2.set n (.lst (xs ++ [d]))) else .stuck
      | _, _ => .stuck
  | _ => .stuck
theorem isLst_at {ρ : Nat → Addr} {h : AH} {H : Hp} {n : Nat} {xs : List PyData} (sm : Sim G ρ h H) (e : isLstAt h n = some xs) : n < h.length ∧ h[n]? = some (.lst xs) ∧ ∃ vs, H (ρ n) = some (.lst vs) ∧ RpA G.K H vs xs := by
  unfold isLstAt at e
  cases q : h[n]? with
  | none => rw [q] at e; cases e
  | some o =>
    rw [q] at e
    cases o with
    | dct _ => cases e
    | lst ys =>
      cases (show some ys = some xs from e)
      exact ⟨(List.getElem?_eq_some_iff.mp q).1, rfl, sm.obj n _ q⟩
theorem pf_app {o e : Expr} {es : List Expr} {apos cpos : Pos} {go : FE} {ga : FA} (hK : X.K = G.K) (ho : PE X o (tF G E go)) (ha : PA X (e :: es) (tFA G E ga))
    (hbase : attributeBase o "append" X.env (eval o X.env) = eval o X.env)
    (hfew : ((backTo cpos (starEach (e :: es) X.env)).all (fun x => !x.1) && (backToKw cpos (keywordEach [] X.env)).all (fun x => x.1.isSome) && decide ((e :: es).length + ([] : List Keyword).length + (if ([] : List Keyword).isEmpty then 0 else 1) < 30)) = true)
    (hline : (apos.endLine == cpos.line) = true) (hs : starEach (e :: es) X.env = (false, eval e X.env) :: starEach es X.env) (hplain : (backTo cpos (starEach es X.env)).any (·.1) = false) :
    PE X (.Call (.Attribute o "append" apos) (e :: es) [] cpos) (tF G E (fApp go ga)) := by
  refine PE.imp (pe_bm PySem.F.plainAttrs_list PySem.F.slot_list_append PySem.F.type_list_append mt_append ho ha hbase hfew hline hs hplain) fun σ H Q ⟨ρ, l, h, sm, sl, rn⟩ => ⟨ρ, l, h, sm, sl, rn.bind.mono ?_⟩
  rintro x H1 ⟨ρ1, h1, u, e1, s1, r1, _, n1⟩
  cases u with
  | d d => exact n1.elim
  | x _ _ _ => exact n1.elim
  | r n =>
    obtain ⟨hn, rfl⟩ := r1
    have n2 : Rn G (RelU G) E (match isLstAt h1 n with
      | none => .stuck
      | some _ => (ga l h1).bind fun us h2 => match isLstAt h2 n, us with
        | some xs, [.d d] => if xs.length < sizeLine then .ok (.d .none) (h2.set n (.lst (xs ++ [d]))) else .stuck
        | _, _ => .stuck) ρ1 h1 H1 Q := n1
    cases q : isLstAt h1 n with
    | none => rw [q] at n2; exact n2.elim
    | some xs0 =>
      rw [q] at n2
      obtain ⟨_, _, vs0, ev0, _⟩ := isLst_at s1 q
      refine ⟨.inl ⟨rfl, vs0, by rw [hK]; exact SqL.of ev0⟩, ρ1, l, h1, s1, sl.ext e1, n2.bind.mono ?_⟩
      rintro ys H2 ⟨ρ2, h2, us, e2, s2, r2, _, n3⟩
      have en : ρ2 n = ρ1 n := e2.same n hn
      cases q2 : isLstAt h2 n with
      | none => rw [q2] at n3; exact n3.elim
      | some xs =>
        rw [q2] at n3
        match us, r2, n3 with
        | [.d d], .cons (a := y) r0 .nil, n3 =>
          have n4 : Rn G (RelU G) E (if xs.length < sizeLine then .ok (.d .none) (h2.set n (.lst (xs ++ [d]))) else .stuck) ρ2 h2 H2 Q := n3
          by_cases hz : xs.length < sizeLine
          · rw [if_pos hz] at n4
            obtain ⟨hn2, _, vs, ev, rv⟩ := isLst_at s2 q2
            rw [← en]
            refine ⟨ρ2 n, vs, y, rfl, rfl, ev, by rw [rv.length]; exact hz, ?_⟩
            have kp := keep_mut (o := .lst (vs ++ [y])) ev True.intro
            obtain ⟨ex, sx⟩ := s2.store (u := .lst (vs ++ [y])) (o := .lst (xs ++ [d])) hn2 ⟨_, upd_same, (rv.snoc r0).kp kp⟩ (fun φ z => nomatch z) (fun ps z => nomatch z)
            exact Rn.at_ n4 ex sx (show RU G.K _ ρ2 _ .non (.d .none) from Rp.non)
          · rw [if_neg hz] at n4
            exact n4.elim
/-! ### x.extend([..]) -/
def fExt (o : FE) (a : FA) : FE := fun l h => (o l h).bind fun x h1 => match x with
  | .r n => match isLstAt h1 n with
    | none => .stuck
    | some _ => (a l h1).bind fun us h2 => match isLstAt h2 n, allD us with
      | some xs, some ys => if xs.length + ys.length ≤ sizeLine then .ok (.d .none) (h2.set n (.lst (xs ++ ys))) else .stuck
      | _, _ => .stuck
  | _ => .stuck
theorem pf_ext {o : Expr} {es : List Expr} {apos lpos cpos : Pos} {go : FE} {ga : FA} (hK : X.K = G.K) (ho : PE X o (tF G E go)) (ha : PA X es (tFA G E ga))
    (hbase : attributeBase o "extend" X.env (eval o X.env) = eval o X.env) (hline : (apos.endLine == cpos.line) = true) :
    PE X (.Call (.Attribute o "extend" apos) [.List es lpos] [] cpos) (tF G E (fExt go ga)) := by
  refine PE.imp (pe_bm PySem.F.plainAttrs_list PySem.F.slot_list_extend PySem.F.type_list_extend mt_extend ho (pa_cons (pe_lst ha) pa_nil rfl) hbase rfl hline rfl rfl) fun σ H Q ⟨ρ, l, h, sm, sl, rn⟩ => ⟨ρ, l, h, sm, sl, rn.bind.mono ?_⟩
  rintro x H1 ⟨ρ1, h1, u, e1, s1, r1, _, n1⟩
  cases u with
  | d d => exact n1.elim
  | x _ _ _ => exact n1.elim
  | r n =>
    obtain ⟨hn, rfl⟩ := r1
    have n2 : Rn G (RelU G) E (match isLstAt h1 n with
      | none => .stuck
      | some _ => (ga l h1).bind fun us h2 => match isLstAt h2 n, allD us with
        | some xs, some ys => if xs.length + ys.length ≤ sizeLine then .ok (.d .none) (h2.set n (.lst (xs ++ ys))) else .stuck
        | _, _ => .stuck) ρ1 h1 H1 Q := n1
    cases q : isLstAt h1 n with
    | none => rw [q] at n2; exact n2.elim
    | some xs0 =>
      rw [q] at n2
      obtain ⟨_, _, vs0, ev0, _⟩ := isLst_at s1 q
      refine ⟨.inl ⟨rfl, vs0, by rw [hK]; exact SqL.of ev0⟩, ρ1, l, h1, s1, sl.ext e1, n2.bind.mono ?_⟩
      rintro ws H2 ⟨ρ2, h2, us, e2, s2, r2, _, n3⟩
      have en : ρ2 n = ρ1 n := e2.same n hn
      cases q2 : isLstAt h2 n with
      | none => rw [q2] at n3; exact n3.elim
      | some xs =>
        rw [q2] at n3
        cases q3 : allD us with
        | none => rw [q3] at n3; exact n3.elim
        | some ys =>
          rw [q3] at n3
          have n4 : Rn G (RelU G) E (if xs.length + ys.length ≤ sizeLine then .ok (.d .none) (h2.set n (.lst (xs ++ ys))) else .stuck) ρ2 h2 H2 Q := n3
          by_cases hz : xs.length + ys.length ≤ sizeLine
          · rw [if_pos hz] at n4
            obtain ⟨hn2, _, vs, ev, rv⟩ := isLst_at s2 q2
            have rw_ := allD_rp r2 q3
            have l1 := rv.length
            have l2 := rw_.length
            refine ⟨by omega, fun p hp => ?_⟩
            show rExtend _ [.ref p] _ _
            have np : ρ2 n ≠ p := ne_of_none ev hp
            rw [← en]
            refine ⟨ρ2 n, p, vs, ws, rfl, rfl, by rw [upd_ne np]; exact ev, upd_same, by omega, ?_⟩
            have s3 := s2.grow (same_new (o := .lst ws) hp)
            have ev3 : (upd H2 p (.lst ws)) (ρ2 n) = some (.lst vs) := by rw [upd_ne np]; exact ev
            have kp := keep_mut (o := .lst (vs ++ ws)) ev3 True.intro
            have ra : RpA G.K (upd H2 p (.lst ws)) (vs ++ ws) (xs ++ ys) := (rv.app rw_).kp (.same (same_new hp))
            obtain ⟨ex, sx⟩ := s3.store (u := .lst (vs ++ ws)) (o := .lst (xs ++ ys)) hn2 ⟨_, upd_same, ra.kp kp⟩ (fun φ z => nomatch z) (fun ps z => nomatch z)
            exact Rn.at_ n4 ((Ext.grow (same_new hp)).trans ex) sx (show RU G.K _ ρ2 _ .non (.d .none) from Rp.non)
          · rw [if_neg hz] at n4
            exact n4.elim
/-! ### d[k] -/
def getP : List (Str × PyData) → Str → Option PyData
  | [], _ => none
  | (x, d) :: r, k => if x = k then some d else getP r k
def putP : List (Str × PyData) → Str → PyData → List (Str × PyData)
  | [], k, v => [(k, v)]
  | (x, d) :: r, k, v => if x = k then (x, v) :: r.map (fun p => if p.1 = k then (p.1, v) else p) else (x, d) :: putP r k v
def asK : U → Option Str
  | .d (.str x) => some x
  | _ => none
def dctAt (h : AH) : U → Option (List (Str × PyData))
  | .r n => match h[n]? with
    | some (.dct kvs) => some kvs
    | _ => none
  | _ => none
def fDGet (o k : FE) : FE := fun l h => (o l h).bind fun x h1 => (k l h1).bind fun y h2 => match dctAt h2 x, asK y with
  | some kvs, some z => R.of ((getP kvs z).map U.d) h2
  | _, _ => .stuck
theorem dct_at {ρ : Nat → Addr} {h : AH} {H : Hp} {x : V} {u : U} {kvs : List (Str × PyData)} (sm : Sim G ρ h H) (r : RU G.K H ρ h x u) (e : dctAt h u = some kvs) : ∃ n ws, u = .r n ∧ n < h.length ∧ h[n]? = some (.dct kvs) ∧ x = .ref (ρ n) ∧ H (ρ n) = some (.dK ws) ∧ Paired (RpK G.K H) ws kvs := by
  cases u with
  | d d => cases e
  | x _ _ _ => cases e
  | r n =>
    obtain ⟨hn, rfl⟩ := r
    have e' : (match h[n]? with | some (.dct kvs) => some kvs | _ => none) = some kvs := e
    cases q : h[n]? with
    | none => rw [q] at e'; cases e'
    | some o =>
      rw [q] at e'
      cases o with
      | lst _ => cases e'
      | dct ys =>
        cases (show some ys = some kvs from e')
        obtain ⟨ws, e1, r1⟩ := sm.obj n _ q
        exact ⟨n, ws, rfl, hn, q, rfl, e1, r1⟩
theorem asK_rel {K : PySem.W.Frag} {H : Hp} {ρ : Nat → Addr} {h : AH} {v : V} {u : U} {x : Str} (r : RU K H ρ h v u) (e : asK u = some x) : v = .str x := by
  cases u with
  | r n => exact nomatch e
  | x _ _ _ => exact nomatch e
  | d d =>
    cases d with
    | str y =>
      cases (show some y = some x from e)
      cases (show Rp K H v (.str x) from r)
      rfl
    | _ => exact nomatch e
theorem getP_rel {K : PySem.W.Frag} {H : Hp} {k : Str} : ∀ {ws : List (Key × V)} {kvs : List (Str × PyData)} {d : PyData}, Paired (RpK K H) ws kvs → getP kvs k = some d → ∃ v, valV ws (Sum.inr k) = some v ∧ Rp K H v d
  | _, _, d, .nil, e => nomatch e
  | _, (x, d') :: r, d, .cons (a := w) h t, e => by
    obtain ⟨h1, h2⟩ := h
    have e' : (if x = k then some d' else getP r k) = some d := e
    by_cases hx : x = k
    · rw [if_pos hx] at e'
      cases e'
      refine ⟨w.2, ?_, h2⟩
      exact valV_pos (by rw [h1, hx])
    · rw [if_neg hx] at e'
      obtain ⟨v, q1, q2⟩ := getP_rel t e'
      refine ⟨v, ?_, q2⟩
      rename_i wr
      unfold valV at q1 ⊢
      rw [List.find?_cons]
      have nd : decide (w.1 = Sum.inr k) = false := decide_eq_false (fun z => hx (by rw [h1] at z; exact Sum.inr.inj z))
      rw [nd]
      exact q1
theorem pf_dget {o i : Expr} {pos : Pos} {go gk : FE} (hu : X.A.units + 1 < cLine) (ho : PE X o (tF G E go)) (hi : PE X i (tF G E gk)) (hs : NoSl i) : PE X (.Subscript o i pos) (tF G E (fDGet go gk)) := by
  refine PE.imp (pe_dget hu ho hi hs) fun σ H Q ⟨ρ, l, h, sm, sl, rn⟩ => ⟨ρ, l, h, sm, sl, rn.bind.mono ?_⟩
  rintro x H1 ⟨ρ1, h1, u, e1, s1, r1, _, n1⟩
  refine ⟨ρ1, l, h1, s1, sl.ext e1, n1.bind.mono ?_⟩
  rintro y H2 ⟨ρ2, h2, w, e2, s2, r2, _, n2⟩
  cases q1 : dctAt h2 u with
  | none => rw [q1] at n2; exact n2.elim
  | some kvs =>
    rw [q1] at n2
    cases q2 : asK w with
    | none => rw [q2] at n2; exact n2.elim
    | some z =>
      rw [q2] at n2
      have n3 : Rn G (RelU G) E (R.of ((getP kvs z).map U.d) h2) ρ2 h2 H2 Q := n2
      cases q3 : getP kvs z with
      | none => rw [q3] at n3; exact n3.elim
      | some d =>
        rw [q3] at n3
        obtain ⟨n, ws, rfl, hn, _, rfl, ew, rw_⟩ := dct_at s2 (RU.ext r1 e2) q1
        obtain ⟨v, ev, rv⟩ := getP_rel rw_ q3
        refine ⟨ρ2 n, v, rfl, ?_, n3.here s2 rv⟩
        have eg := DGet.k (k := Sum.inr z) ew
        rw [ev] at eg
        rw [asK_rel r2 q2]
        exact eg
/-! ### d[k] = v -/
def fDPut (o k e : FE) : FS := fun l h => (e l h).bind fun v h1 => (o l h1).bind fun x h2 => (k l h2).bind fun y h3 => match dctAt h3 x, asK y, asD v, x with
  | some kvs, some z, some d, .r n => if kvs.length < sizeLine then .ok (.nx l) (h3.set n (.dct (putP kvs z d))) else .stuck
  | _, _, _, _ => .stuck
theorem mapP_rel {K : PySem.W.Frag} {H : Hp} {k : Str} {v : V} {d : PyData} (rv : Rp K H v d) : ∀ {ws : List (Key × V)} {kvs : List (Str × PyData)}, Paired (RpK K H) ws kvs →
    Paired (RpK K H) (ws.map fun kv => if kv.1 = Sum.inr k then (kv.1, v) else kv) (kvs.map fun p => if p.1 = k then (p.1, d) else p)
  | _, _, .nil => .nil
  | _, _, .cons (a := w) (b := p) h t => by
    obtain ⟨h1, h2⟩ := h
    refine .cons ?_ (mapP_rel rv t)
    show RpK K H (if w.1 = Sum.inr k then (w.1, v) else w) (if p.1 = k then (p.1, d) else p)
    by_cases hx : p.1 = k
    · rw [if_pos hx, if_pos (by rw [h1, hx])]
      exact ⟨h1, rv⟩
    · rw [if_neg hx, if_neg (fun z => hx (by rw [h1] at z; exact Sum.inr.inj z))]
      exact ⟨h1, h2⟩
theorem anyP_rel {K : PySem.W.Frag} {H : Hp} {k : Str} : ∀ {ws : List (Key × V)} {kvs : List (Str × PyData)}, Paired (RpK K H) ws kvs → (ws.any fun kv => decide (kv.1 = Sum.inr k)) = kvs.any fun p => decide (p.1 = k)
  | _, _, .nil => rfl
  | _, _, .cons (a := w) (b := p) h t => by
    obtain ⟨h1, _⟩ := h
    rw [List.any_cons, List.any_cons, anyP_rel t, h1, key_rr]
theorem putP_eq (kvs : List (Str × PyData)) (k : Str) (d : PyData) : putP kvs k d = if (kvs.any fun p => decide (p.1 = k)) = true then kvs.map (fun p => if p.1 = k then (p.1, d) else p) else kvs ++ [(k, d)] := by
  induction kvs with
  | nil => rfl
  | cons p r ih =>
    obtain ⟨x, e⟩ := p
    show (if x = k then (x, d) :: r.map (fun p => if p.1 = k then (p.1, d) else p) else (x, e) :: putP r k d) = _
    by_cases hx : x = k
    · rw [if_pos hx, List.any_cons, decide_eq_true hx, Bool.true_or, if_pos rfl, List.map_cons, if_pos hx]
    · rw [if_neg hx, List.any_cons, decide_eq_false hx, Bool.false_or, ih, List.map_cons, if_neg hx]
      by_cases ha : (r.any fun p => decide (p.1 = k)) = true
      · rw [if_pos ha, if_pos ha]
      · rw [if_neg ha, if_neg ha]; rfl
theorem pair_app {K : PySem.W.Frag} {H : Hp} : ∀ {ws ws' : List (Key × V)} {kvs kvs' : List (Str × PyData)}, Paired (RpK K H) ws kvs → Paired (RpK K H) ws' kvs' → Paired (RpK K H) (ws ++ ws') (kvs ++ kvs')
  | _, _, _, _, .nil, s => s
  | _, _, _, _, .cons r t, s => .cons r (pair_app t s)
theorem putP_rel {K : PySem.W.Frag} {H : Hp} {k : Str} {v : V} {d : PyData} (rv : Rp K H v d) {ws : List (Key × V)} {kvs : List (Str × PyData)} (h : Paired (RpK K H) ws kvs) : Paired (RpK K H) (putK ws (Sum.inr k) v) (putP kvs k d) := by
  rw [putP_eq]
  unfold putK
  rw [anyP_rel h]
  by_cases ha : (kvs.any fun p => decide (p.1 = k)) = true
  · rw [if_pos ha, if_pos ha]
    exact mapP_rel rv h
  · rw [if_neg ha, if_neg ha]
    exact pair_app h (.cons ⟨rfl, rv⟩ .nil)
theorem pf_dput {o i value : Expr} {pos pos' : Pos} {go gk ge : FE} (hu : X.A.units + 1 < cLine) (ho : PE X o (tF G E go)) (hi : PE X i (tF G E gk)) (hv : PE X value (tF G E ge)) (hs : swapsWith value (some (.Subscript o i pos')) pos.line X.env = pure false) :
    PS X (.Assign [.Subscript o i pos'] value pos) (tFS G E (fDPut go gk ge)) := by
  refine PS.imp (ps_dput hu ho hi hv hs) fun D σ H ⟨ρ, l, h, sm, sl, rn⟩ => ⟨ρ, l, h, sm, sl, rn.bind.mono ?_⟩
  rintro v H1 ⟨ρ1, h1, uv, e1, s1, r1, _, n1⟩
  refine ⟨ρ1, l, h1, s1, sl.ext e1, n1.bind.mono ?_⟩
  rintro x H2 ⟨ρ2, h2, ux, e2, s2, r2, _, n2⟩
  refine ⟨ρ2, l, h2, s2, (sl.ext e1).ext e2, n2.bind.mono ?_⟩
  rintro y H3 ⟨ρ3, h3, uy, e3, s3, r3, _, n3⟩
  cases q1 : dctAt h3 ux with
  | none => rw [q1] at n3; exact n3.elim
  | some kvs =>
    rw [q1] at n3
    cases q2 : asK uy with
    | none => rw [q2] at n3; exact n3.elim
    | some z =>
      rw [q2] at n3
      cases q3 : asD uv with
      | none => rw [q3] at n3; exact n3.elim
      | some d =>
        rw [q3] at n3
        obtain ⟨n, ws, rfl, hn, eh, rfl, ew, rw_⟩ := dct_at s3 (RU.ext r2 e3) q1
        have n4 : Rn G (RelF G) E (if kvs.length < sizeLine then .ok (.nx l) (h3.set n (.dct (putP kvs z d))) else .stuck) ρ3 h3 H3 (endsQ D) := n3
        by_cases hz : kvs.length < sizeLine
        · rw [if_pos hz] at n4
          have hlen : ws.length = kvs.length := Paired.length rw_
          have rv3 : Rp G.K H3 v d := by
            cases asD_some q3
            exact (RU.ext (RU.ext r1 e2) e3 : RU G.K H3 ρ3 h3 v (.d d))
          refine ⟨ρ3 n, upd H3 (ρ3 n) (.dK (putK ws (Sum.inr z) v)), rfl, ?_, ?_⟩
          · rw [asK_rel r3 q2]
            exact DPut.k (k := Sum.inr z) ew (by omega)
          · have kp := keep_mut (o := .dK (putK ws (Sum.inr z) v)) ew True.intro
            obtain ⟨ex, sx⟩ := s3.store (u := .dK (putK ws (Sum.inr z) v)) (o := .dct (putP kvs z d)) hn ⟨_, upd_same, pairK kp (putP_rel rv3 rw_)⟩ (fun φ z => nomatch z) (fun ps z => nomatch z)
            exact Rn.at_ (a := Fl.nx l) (b := Cf.nx σ) n4 ex sx ((((sl.ext e1).ext e2).ext e3).ext ex)
        · rw [if_neg hz] at n4
          exact n4.elim
end
end RB
/-! RB11: defs: their promises in plain form, calls. -/
namespace RB
open PySem PySem.Spec L2
/-- a def keeps its promise wherever no repr runs around -/
structure FnG (P : Program) (w : World) (K : PySem.W.Frag) (mg : Str → Option Value) (base : Heap) (k : Nat) (f : Addr) (fd : FuncData) (ps : List Str) (sp : Sp) : Prop where
  len : ∀ vs H Q E, sp vs H Q E → vs.length = ps.length
  run : ∀ (A : Around) (outer : List Env) (s : Shared) (H : Hp) (args : Args) (us : List Value) (vs : List V) (Q : VK) (E : XK), Room k A → A.guards = some [] → Env0 P w K mg base A outer s H → BindsTo s fd args (ps.zip us) → Vals vs us → sp vs H Q E →
    codeAny (model P w) A (.call (.ref f) args) (CR (L2.CX P w) outer P w H s Q E) s
theorem FnG.up {P : Program} {w : World} {K : PySem.W.Frag} {mg : Str → Option Value} {base : Heap} {j k : Nat} {f : Addr} {fd : FuncData} {ps : List Str} {sp : Sp} (F : FnG P w K mg base j f fd ps sp) (h : j ≤ k) : FnG P w K mg base k f fd ps sp :=
  ⟨F.len, fun A outer s H args us vs Q E hr => F.run A outer s H args us vs Q E (hr.mono h)⟩
/-- the rule of a def by its body -/
theorem fn_ofG {P : Program} {w : World} {K : PySem.W.Frag} {mg : Str → Option Value} {base : Heap} {k : Nat} {f : Addr} {nm ql : Str} {pr : Arguments} {bd : List Stmt} {sc : Scope} {dv kv dc pmv cdv ctv ocv : Value} {ann odd : Option Addr}
    {sls : Array (Option Value)} {N ps : List Str} {sp : Sp} (hlook : K.lookup f = some ⟨ocv, odd, .func (PySem.W.fnOf nm ql pr bd sc dv kv dc pmv ann cdv ctv), sls⟩) (hcode : PySem.W.codeIn K cdv ql = true) (S : FnScope N ps sc)
    (len : ∀ vs H Q E, sp vs H Q E → vs.length = ps.length)
    (body : ∀ (A : Around) (outer : List Env) (s : Shared) (H : Hp) (vs : List V) (Q : VK) (E : XK), Room k (A.deeper (PyProof.Rows.envOfC ql sc s.heap.objs.size f cdv)) → A.guards = some [] → sp vs H Q E →
      ∃ t, PSs (cxOf (L2.CX P w) P w K mg base N ql sc f cdv A outer s H E) bd t ∧ t { nx := fun _ H' => Q .non H', rt := Q } (L2.start N vs) H) :
    FnG P w K mg base (k + 1) f (PySem.W.fnOf nm ql pr bd sc dv kv dc pmv ann cdv ctv) ps sp := by
  refine ⟨len, fun A outer s H args us vs Q E hroom hgd e0 hbinds hvals hsp => ?_⟩
  have hlen := len _ _ _ _ hsp
  have kin : K.In s.heap := e0.mod.kin.keeps fun b o q => (e0.bs b o q).1
  have nolim : s.heap.NoLimit := e0.mod.nolimit.keeps fun b o q => (e0.bs b o q).1
  have kinds : ∀ y ∈ ps.zip us, sc.names.lookup y.1 = some .local ∨ (sc.names.lookup y.1 = some .cell ∧ ((cellsFrom (s.heap.objs.size + 1) sc.names []).lookup y.1).isSome = true) := by
    rintro ⟨n, v⟩ hy
    rcases S.par n (List.of_mem_zip hy).1 with hq | hq
    · exact Or.inl hq
    · exact Or.inr ⟨hq, PySem.W.cellsFrom_some _ _ _ (Or.inl hq)⟩
  refine codeAny_call_function hroom.depth (kin _ _ hlook) rfl S.co S.gen rfl (PySem.W.codeRec_of kin hcode) (hbinds _ _ _ _ ?_)
  refine wpAny_newFunctionEnv_cells S.kind kinds fun env henv s1 inc => ?_
  subst henv
  refine ⟨nolim.keeps inc.toInCall.keep, codeAny_func ?_⟩
  obtain ⟨t, ht, htq⟩ := body A outer s H vs Q E (hroom.deeper _) hgd hsp
  have I : Inv (cxOf (L2.CX P w) P w K mg base N ql sc f cdv A outer s H E) [] (L2.start N vs) H s1 := inv_start S hroom.hd e0 hlen hvals inc
  refine wpAny_mono (ht.run [] s1 (L2.start N vs) H _ I htq) (fun fl s' hs => ?_) fun e s' hs => hs
  have close : ∀ {σ' : L2.St} {H' : Hp} {v : V} {u : Value}, Inv (cxOf (L2.CX P w) P w K mg base N ql sc f cdv A outer s H E) [] σ' H' s' → RelV v u → Q v H' → CE outer P w H s Q u s' :=
    fun {σ' H' v u} J rv q => ⟨v, H', J.os, J.bare, J.base, J.hok, rv, q⟩
  match fl, hs with
  | .ret u, hs =>
    obtain ⟨v, σ', H', J, rv, q⟩ := hs
    exact close J rv q
  | .next, hs =>
    obtain ⟨σ', H', J, q⟩ := hs
    exact close (v := V.non) (u := Value.none) J rfl q
  | .brk, hs =>
    obtain ⟨_, _, _, q⟩ := hs
    exact False.elim q
  | .cont, hs =>
    obtain ⟨_, _, _, q⟩ := hs
    exact False.elim q
/-- a context in which plain readings hold -/
structure Gd (X : Cx) (G : Gb) (E : XK) (k : Nat) : Prop where
  K : X.K = G.K
  mg : X.mg = G.mg
  calm : X.calm = true
  nd : X.N.Nodup
  room : Room k X.A
  gds : X.A.guards = some []
  tk : Takes X (fun c d _ H => E c d H)
  po : PassesOwn (model X.prog X.w) X.A X.env X.xe
theorem tk_never {X : Cx} : Takes X (fun _ _ _ _ => False) := fun _ _ x => by
  obtain ⟨_, _, _, _, _, _, _, _, _, _, _, _, _, _, _, _, z⟩ := x
  exact z.elim
theorem Gd.blk {X : Cx} {G : Gb} {E : XK} {k : Nat} (g : Gd X G E k) (s : Shared) (H : Hp) (scope : Scope) (C : Addr) (cl : List (Str × Addr)) (fp : List Addr) : Gd (X.blk s H scope (compEnvC scope cl C X.env) fp) G F0 k :=
  ⟨g.K, g.mg, g.calm, g.nd, g.room, g.gds, tk_never, PassesOwn.never⟩
theorem Gd.units {X : Cx} {G : Gb} {E : XK} {k : Nat} (g : Gd X G E k) : X.A.units + 199 < cLine := by
  have := g.room.un
  omega
/-! ### promises in plain form -/
abbrev Cf1 := List U → AH → R U
def spU (G : Gb) (n : Nat) (cf : Cf1) : Sp := fun vs H Q E => vs.length = n ∧ ∃ ρ h us, Sim G ρ h H ∧ RUs G.K H ρ h vs us ∧ Rn G (RelU G) E (cf us h) ρ h H Q
/-- what a call made and nobody holds any more goes -/
def R.gc (n : Nat) : R U → R U
  | .ok (.d x) h => .ok (.d x) (h.take n)
  | .ok u h => .ok u h
  | .exc c fs h => .exc c fs (h.take n)
  | .stuck => .stuck
theorem Ext.cut {ρ ρ' : Nat → Addr} {h h' : AH} {H H' : Hp} (e : Ext ρ h H ρ' h' H') : Ext ρ h H ρ' (h'.take h.length) H' where
  keep := e.keep
  len := by rw [List.length_take]; have := e.len; omega
  same := e.same
  frame := e.frame
  new := fun n h1 h2 => by rw [List.length_take] at h2; omega
  there := e.there
theorem Sim.cut {G : Gb} {ρ : Nat → Addr} {h : AH} {H : Hp} (s : Sim G ρ h H) (n : Nat) : Sim G ρ (h.take n) H where
  obj := fun m o e => by
    rw [List.getElem?_take] at e
    split at e
    · exact s.obj m o e
    · cases e
  inj := fun a b ha hb => by
    rw [List.length_take] at ha hb
    exact s.inj a b (by omega) (by omega)
  tab := s.tab
theorem Rn.gc {G : Gb} {E : XK} {r : R U} {ρ : Nat → Addr} {h : AH} {H : Hp} {Q : VK} (x : Rn G (RelU G) E (r.gc h.length) ρ h H Q) : Rn G (RelU G) E r ρ h H Q := by
  cases r with
  | ok a h2 =>
    cases a with
    | d d => exact fun ρ2 H2 b e2 s r => x ρ2 H2 b e2.cut (s.cut _) r
    | r n => exact x
    | x a dd fs => exact x
  | exc c fs h2 => exact fun ρ2 H2 C dd e2 s m d => x ρ2 H2 C dd e2.cut (s.cut _) m d
  | stuck => exact x
def runBody (n : Nat) (g : FS) : Cf1 := fun us h => R.gc h.length ((g (us.map some ++ List.replicate (n - us.length) none) h).bind fun fl h1 => match fl with
  | .rt u => .ok u h1
  | .nx _ => .ok (.d .none) h1
  | _ => .stuck)
theorem sl_start {K : PySem.W.Frag} {H : Hp} {ρ : Nat → Addr} {h : AH} {vs : List V} {us : List U} (N : List Str) (r : RUs K H ρ h vs us) : Sl K H ρ h (L2.start N vs) (us.map some ++ List.replicate (N.length - us.length) none) := by
  have hl : vs.length = us.length := Paired.length r
  refine ⟨?_, fun i u e => ?_⟩
  · unfold L2.start
    rw [List.length_append, List.length_append, List.length_map, List.length_map, List.length_replicate, List.length_replicate, hl]
  · by_cases hi : i < us.length
    · rw [List.getElem?_append_left (by rw [List.length_map]; exact hi), List.getElem?_map, List.getElem?_eq_getElem hi] at e
      have e' : us[i] = u := Option.some.inj (Option.some.inj e)
      have key : ∀ {vs : List V} {us : List U} {i : Nat} {u : U}, RUs K H ρ h vs us → us[i]? = some u → ∃ v, vs[i]? = some v ∧ RU K H ρ h v u := by
        intro vs us i u r
        induction r generalizing i with
        | nil => intro q; simp at q
        | cons r1 _ ih =>
          intro q
          cases i with
          | zero =>
            have q' := Option.some.inj q
            subst q'
            exact ⟨_, rfl, r1⟩
          | succ j => exact ih (by simpa using q)
      obtain ⟨v, ev, rv⟩ := key r (show us[i]? = some u by rw [List.getElem?_eq_getElem hi, e'])
      refine ⟨v, ?_, rv⟩
      unfold L2.start
      have hi' : i < vs.length := by omega
      rw [List.getElem?_append_left (by rw [List.length_map]; exact hi'), List.getElem?_map, ev]
      rfl
    · rw [List.getElem?_append_right (by rw [List.length_map]; omega)] at e
      by_cases hr : i - (us.map some).length < (List.replicate (N.length - us.length) (none : Option U)).length
      · rw [List.getElem?_eq_getElem hr, List.getElem_replicate] at e
        cases e
      · rw [List.getElem?_eq_none (by omega)] at e
        cases e
/-- a def's plain promise by the plain reading of its body -/
theorem fn_plain {P : Program} {w : World} {G : Gb} {base : Heap} {k : Nat} {f : Addr} {fd : FuncData} {nm ql : Str} {pr : Arguments} {bd : List Stmt} {sc : Scope} {N ps : List Str} {g : FS} {dvs : List V} {kws : List (Str × V)}
    (F : FunD G.K nm ql pr bd sc dvs kws f fd) (S : FnScope N ps sc)
    (body : ∀ (X : Cx) (E : XK), X.prog = P → X.w = w → X.base = base → X.N = N → X.env.scope = sc → (∀ x, X.fn x = true) → X.env.qual = ql ++ ".<locals>." → (∃ (oc : Value) (od : Option Addr) (fd2 : FuncData) (osl : Array (Option Value)), G.K.lookup f = some ⟨oc, od, .func fd2, osl⟩ ∧ fd2.code = X.env.code) → Gd X G E k → PSs X bd (tFS G E g)) :
    FnG P w G.K G.mg base (k + 1) f fd ps (spU G ps.length (runBody N.length g)) := by
  obtain ⟨oc, od, dV, kV, doc, pm, an, cdv, ct, osl, rfl, lk, hcd, _⟩ := F.ex
  refine fn_ofG lk hcd S (fun vs H Q E h => h.1) fun A outer s H vs Q E hr hg hsp => ?_
  obtain ⟨_, ρ, h, us, sm, rus, rn⟩ := hsp
  refine ⟨tFS G E g, body _ E rfl rfl rfl rfl rfl (fun _ => rfl) rfl ⟨oc, od, _, osl, lk, rfl⟩ ⟨rfl, rfl, rfl, S.nd, hr, ?_, takes_of rfl rfl rfl rfl, PassesOwn.leaving⟩, ρ, _, h, sm, sl_start N rus, rn.gc.bind.mono ?_⟩
  · show (A.deeper _).guards = some []
    exact hg
  · rintro cf H1 ⟨ρ1, h1, fl, e1, s1, r1, _, n1⟩
    match cf, fl, r1, n1 with
    | .nx σ1, .nx l1, r1, n1 => exact n1.here (b := V.non) s1 (show RU G.K H1 ρ1 h1 .non (.d .none) from Rp.non)
    | .rt v, .rt u, r1, n1 => exact n1.here (b := v) s1 r1
    | .bk σ1, .bk l1, r1, n1 => exact n1.elim
    | .ct σ1, .ct l1, r1, n1 => exact n1.elim
end RB
/-! RB17: own exceptions of two fields, made by super().__init__. -/
namespace RB
open PySem PySem.Spec L2 PyProof.Rows
abbrev exB (C t0 : Addr) (dd : Option Addr) : Obj := { cls := .ref C, dict := dd, data := .fields #[.ref t0, .none, .none, .none, .bool false, .none] }
/-- the written __init__ of two fields, apart from where it stands -/
structure Ini (x1 x2 : Str) (nm ql : Str) (pr : Arguments) (bd : List Stmt) (sc : Scope) : Prop where
  bind : ∀ (kV doc pm : Value) (an : Option Addr) (cdv ct : Value) (cc : Addr) (a b c : Value), bindArgs (PySem.W.ksFn nm ql pr bd sc .none kV doc pm an cdv ct cc) ⟨[a, b, c], []⟩ = pure [(("self" : Str), a), (x1, b), (x2, c)]
  par : ∃ ar : Arg, (pr.posonlyargs ++ pr.args).head? = some ar ∧ ar.arg = "self"
  body : ∃ q0 q1 q2 q3 q4 q5 q6 q7 q8 q9 q10 q11 q12 q13 q14 : Pos, bd = [.Expr (.Call (.Attribute (.Call (.Name "super" q0) [] [] q1) "__init__" q2) [.Name x1 q3, .Name x2 q4] [] q5) q6,
    .Assign [.Attribute (.Name "self" q7) x1 q8] (.Name x1 q9) q10, .Assign [.Attribute (.Name "self" q11) x2 q12] (.Name x2 q13) q14] ∧ (q2.endLine == q5.line) = true
  k0 : sc.names.lookup ("self" : Str) = some .local
  k1 : sc.names.lookup x1 = some .local
  k2 : sc.names.lookup x2 = some .local
  ks : sc.names.lookup ("super" : Str) = some .globalImplicit
  kc : sc.names.lookup ("__class__" : Str) = some .free
  noc : ∀ x ∈ sc.names, x.2 ≠ .cell
  co : sc.isCoroutine = false
  gen : sc.isGenerator = false
  kind : sc.kind = .function
  d1 : (x1 == ("__debug__" : Str)) = false
  d2 : (x2 == ("__debug__" : Str)) = false
  n12 : x1 ≠ x2
  n1 : ("self" : Str) ≠ x1
  n2 : ("self" : Str) ≠ x2
/-- what the written part says of such a class -/
structure Ex2 (P : Program) (K : PySem.W.Frag) (mg : Str → Option Value) (C : Addr) (x1 x2 : Str) : Prop where
  oex : OexC K C
  sup : PySem.W.ks_superIn K C C "__init__" = some (some (.builtin "ValueError.__init__"))
  sub : PySem.W.subIn K (.ref C) (.type "ValueError") = some true
  mro : PySem.W.mroIn K C (.ref C) = some true
  no1 : PySem.W.findIn K (.ref C) x1 = some none
  no2 : PySem.W.findIn K (.ref C) x2 = some none
  sta : PySem.W.nsIn K cStatics "thirdparty.any" = some none
  msup : mg "super" = none
  top : (P.main.scope.names.lookup ("super" : Str)).isSome = false
  ini : ∃ (fI cda cc : Addr) (oc : Value) (od : Option Addr) (osl : Array (Option Value)) (nm ql : Str) (pr : Arguments) (bd : List Stmt) (sc : Scope) (kV doc pm : Value) (an : Option Addr) (ct : Value) (vs : Array Value) (file : Str) (tf : Tok),
    PySem.W.findIn K (.ref C) "__init__" = some (some (.ref fI)) ∧ PySem.W.typeIn K (.ref fI) = some (.type "function") ∧
    K.lookup fI = some ⟨oc, od, .func (PySem.W.ksFn nm ql pr bd sc .none kV doc pm an (.ref cda) ct cc), osl⟩ ∧ PySem.W.codeIn K (.ref cda) ql = true ∧
    (∃ a b c, K.lookup cda = some ⟨a, b, .fields vs, c⟩) ∧ vs[2]? = some (.str file tf) ∧ ((P.main.file : Str) == file) = true ∧ (∃ a b c, K.lookup cc = some ⟨a, b, .cell (some (.ref C)), c⟩) ∧ Ini x1 x2 nm ql pr bd sc
section
open PySem.W PySem.Calls
variable {P : Program} {w : World} {A : Around} {E : Value → Shared → Prop} {R : Result → Shared → Prop} {h : Heap} {g : Array GenState} {d : Drawn} {t : Nat} {os : OsState} {K : Frag} {mg : Str → Option Value} {C : Addr} {x1 x2 : Str}
theorem ldl {M : Model} {s : Shared} {env : Env} {m : Str → Option Value} {x : Str} {pos : Pos} {v : Value} {Q : Value → Shared → Prop} (hn : s.heap.Ns env.locals m) (hv : m x = some v) (hk : env.scope.kind = .function) (hl : env.scope.names.lookup x = some .local) (hd : (x == ("__debug__" : Str)) = false) (h : Q v s) :
    wpAny M A (eval (.Name x pos) env) Q E s := wpAny_Name (wpAny_loadName_local hk hl hn hv h) hd
/-- the built-in __init__, bound to the object, called -/
theorem call_mw {u e t0 : Addr} {rest : List Value} {Q : Value → Shared → Prop} (T : OexC K C) (X : K.In h) (he : h.get? e = some (exB C t0 none)) (hu : h.get? u = some (kxs_mw "ValueError.__init__" e)) (hz : rest.length ≤ sizeLine)
    (hq : ∀ h' t1, (∀ b o, b ≠ e → h.get? b = some o → h'.get? b = some o) → h'.get? e = some (exB C t1 none) → Q .none ⟨h', g, d, t, os⟩) : wpAny (model P w) A (call (.ref u) rest) Q E ⟨h, g, d, t, os⟩ := by
  obtain ⟨nm, q, N, bs, bm, sn, sub, ab, col, dd, k0, k1, k2, k3, k5, hC, hbm⟩ := T.cls
  refine wpAny_call (codeAny_of_tree ?_)
  show wpAny _ A.in1 (callAny (.ref u) ⟨rest, []⟩) _ _ _
  simp only [callAny]
  refine wpAny_bind (wpAny_load hu ?_)
  simp only [kxs_mw, show (Value.type "method-wrapper" == Value.type "method" || Value.type "method-wrapper" == Value.type "builtin_function_or_method" || Value.type "method-wrapper" == Value.type "method-wrapper") = true by decide, if_true]
  refine KFB.if_so (by decide) ?_
  refine wpAny_bind (check_bound_init F.excBase_ValueError.toExcCallFacts (X _ _ hC) he rfl ?_)
  refine wpAny_bind (wpAny_pure (wpAny_pure ?_))
  refine ⟨plainId_quiet F.excBase_ValueError.init.plain _, codeAny_builtin F.excBase_ValueError.initEntry ?_⟩
  exact exc_init_tree (cls := .ref C) (t0 := t0) (dv := none) (c2 := .none) (c3 := .none) (b4 := .bool false) he hz fun h' k e' _ => hq h' _ k e'
/-- __init__ called -/
theorem run_init {e t0 : Addr} {u1 u2 : Value} {mb : Str → Option Value} (T : Ex2 P K mg C x1 x2) {fI cda cc : Addr} {oc : Value} {od : Option Addr} {osl : Array (Option Value)} {nm ql : Str} {pr : Arguments} {bd : List Stmt} {sc : Scope} {kV doc pm : Value} {an : Option Addr} {ct : Value} {vs : Array Value} {file : Str} {tf : Tok}
    (lk : K.lookup fI = some ⟨oc, od, .func (ksFn nm ql pr bd sc .none kV doc pm an (.ref cda) ct cc), osl⟩) (hcd : codeIn K (.ref cda) ql = true) (hcda : ∃ a b c, K.lookup cda = some ⟨a, b, .fields vs, c⟩) (hvs : vs[2]? = some (.str file tf)) (hfile : ((P.main.file : Str) == file) = true)
    (hcc : ∃ a b c, K.lookup cc = some ⟨a, b, .cell (some (.ref C)), c⟩) (S : Ini x1 x2 nm ql pr bd sc) (hdep : A.depth < recursionLimit) (X : K.In h) (hg : h.Ns mainGlobals mg) (hb : h.Ns builtinsNs mb) (hbb : ∀ x : Str, x ≠ "__name__" → mb x = bootBuiltins x) (hlim : h.NoLimit)
    (he : h.get? e = some (exB C t0 none)) (hKe : K.lookup e = none)
    (hq : ∀ h' t' t1 dx, (∀ b o, b ≠ e → h.get? b = some o → h'.get? b = some o) → h.objs.size ≤ dx → h'.get? e = some (exB C t1 (some dx)) → h'.Ns1 dx (fun y => if y = x2 then some u2 else if y = x1 then some u1 else none) → R (.ok (.ret .none)) ⟨h', g, d, t', os⟩) :
    codeAny (model P w) A (.call (.ref fI) ⟨[.ref e, u1, u2], []⟩) R ⟨h, g, d, t, os⟩ := by
  obtain ⟨ar, har, harn⟩ := S.par
  obtain ⟨q0, q1, q2, q3, q4, q5, q6, q7, q8, q9, q10, q11, q12, q13, q14, hbd, hpos⟩ := S.body
  obtain ⟨c1, c2, c3, hcda⟩ := hcda
  obtain ⟨l1, l2, l3, hcc⟩ := hcc
  obtain ⟨nmC, q, N, bs, bm, sn, sub, ab, col, dd, k0, k1, k2, k3, k5, hC, hbm⟩ := T.oex.cls
  have hcl : clsIn K C = some { name := nmC, bases := bs, mro := .ref C :: bm, ns := N, qualname := q, hasDict := true, slotNames := sn, subclasses := sub, abstract := ab, collection := col, hasDel := false } := by unfold clsIn; rw [hC] <;> rfl
  refine ks_codeAny_call_defAt (fd := ksFn nm ql pr bd sc .none kV doc pm an (.ref cda) ct cc) (body := bd) (binds := [("self", .ref e), (x1, u1), (x2, u2)]) hdep (X _ _ lk) rfl hlim (codeRec_of X hcd) rfl (BindsTo.of_eq (S.bind ..)) S.noc ?_ (fun h0 hns hk => ?_) S.co S.gen S.kind
  · intro y hy
    simp only [List.mem_cons, List.not_mem_nil, or_false] at hy
    rcases hy with rfl | rfl | rfl
    · exact S.k0
    · exact S.k1
    · exact S.k2
  have hm0 : (List.reverse [(("self" : Str), Value.ref e), (x1, u1), (x2, u2)]).lookup ("self" : Str) = some (Value.ref e) := by
    have a1 : (("self" : Str) == x1) = false := beq_false_of_ne S.n1
    have a2 : (("self" : Str) == x2) = false := beq_false_of_ne S.n2
    simp [List.lookup, a1, a2]
  have hm1 : (List.reverse [(("self" : Str), Value.ref e), (x1, u1), (x2, u2)]).lookup x1 = some u1 := by
    have a1 : (x1 == x2) = false := beq_false_of_ne S.n12
    simp [List.lookup, a1]
  have hm2 : (List.reverse [(("self" : Str), Value.ref e), (x1, u1), (x2, u2)]).lookup x2 = some u2 := by
    simp [List.lookup]
  generalize hmm : (fun x => (List.reverse [(("self" : Str), Value.ref e), (x1, u1), (x2, u2)]).lookup x) = m at hns
  have em0 : m "self" = some (.ref e) := by rw [← hmm]; exact hm0
  have em1 : m x1 = some u1 := by rw [← hmm]; exact hm1
  have em2 : m x2 = some u2 := by rw [← hmm]; exact hm2
  have X0 : K.In h0 := X.keeps hk
  have eL : e ≠ h.objs.size := Nat.ne_of_lt (Heap.lt_size he)
  have hC0 := X0 _ _ hC
  subst hbd
  have hpos' : ∀ (o : Expr) (env : Env), methodCallPos true o env q2 q5 = pure q5 := fun o env => by
    unfold methodCallPos
    rw [hpos]
    rfl
  refine ks_wpAt_execs_cons (ks_wpAt_Expr_any ?_ (by unfold interactive; show (sc.kind == _ && _) = false; rw [S.kind]; rfl) rfl)
  refine ks_wpAt_MethodCall (pl := ?pl) ?_ ?he
  case he =>
    rw [arm_eval_Call]
    unfold methodCall
    show (do
      let ov ← attributeBase _ _ _ _
      standAt _
      let fx ← holding [ov] (calleeOf true _ _ ov _)
      let callPos ← methodCallPos true _ _ q2 q5
      callWith callPos fx.1 fx.2 _ []) = _
    simp only [hpos', pure_bind]
    exact rfl
  refine ks_wpAt_super_base (ar := ar) S.ks S.kc (by decide) rfl (hk _ _ (X _ _ lk)) rfl har rfl (hk _ _ (X _ _ hcda)) rfl hvs hfile T.top ?_
  refine ks_loadName_global S.kind S.ks (loadGlobal_builtin (hg.keeps hk) T.msup (hb.keeps hk) ((hbb _ (by decide +kernel)).trans PyProof.Rows.Boot.«super») ⟨rfl, ?_⟩)
  refine wpAny_loadName_free S.kind S.kc rfl ⟨_, X0 _ _ hcc, rfl⟩ ?_
  rw [harn]
  refine wpAny_loadName_local S.kind S.k0 hns em0 ?_
  refine ks_wpAny_isType_cls hC0 rfl ⟨rfl, ?_⟩
  refine ks_wpAny_call_super hC0 rfl (hk _ _ he) rfl (fun c z => by cases z) (looks_mroIn X0 T.mro) (fun h1 e1 k1 => ?_)
  have X1 : K.In h1 := X0.keeps k1
  have he1 := k1 _ _ (hk _ _ he)
  have hI : Looks (model P w) h1 (isInstance (.ref e) (.type "ValueError")) true := (show W.InstAt h1 e (exB C t0 none) C none from ⟨he1, rfl, rfl, trivial⟩).type.andThen (looks_subIn X1 T.sub)
  have hsup := T.sup
  unfold ks_superIn at hsup
  rw [hcl, Option.bind_some] at hsup
  refine kxs_getMethod kxs_ValueError e1 (looks_opaque X1 T.sta) (fun A Q E s k q => wpAny_bind ((looks_clsIn X1 hcl) A _ E s k (wpAny_pure q))) rfl X1 hsup hI (fun z => ?_) (by decide) ?_
  · rw [z, X1 _ _ hC] at he1
    cases he1
  have kp : ∀ b o, h1.get? b = some o → (h1.push (kxs_mw "ValueError.__init__" e)).get? b = some o := fun b o z => Heap.get?_push_of_some _ z
  have hu : (h1.push (kxs_mw "ValueError.__init__" e)).get? h1.objs.size = some (kxs_mw "ValueError.__init__" e) := Heap.get?_push_at rfl rfl
  have nL1 : (h1.push (kxs_mw "ValueError.__init__" e)).Ns h.objs.size m := (hns.keeps k1).keeps kp
  refine kxs_callWith (i := "ValueError.__init__") (x := e) rfl (evalArgs_plain ?_)
  show wpAny _ _ (spliced ((false, eval (.Name x1 q3) _) :: (false, eval (.Name x2 q4) _) :: [])) _ _ _
  refine Calls.spliced_cons (ldl nL1 em1 S.kind S.k1 S.d1 (Calls.spliced_cons (ldl nL1 em2 S.kind S.k2 S.d2 (Calls.spliced_nil ⟨hu, ?_⟩))))
  refine call_mw T.oex (X1.keeps kp) (kp _ _ he1) hu (by show 2 ≤ sizeLine; rw [sizeLine_eq]; decide) (fun h2 t1 k2 he2 => ?_)
  have inK : ∀ {ha hb : Heap}, K.In ha → (∀ b o, b ≠ e → ha.get? b = some o → hb.get? b = some o) → K.In hb := fun {ha hb} i k b o z => k b o (fun y => by rw [y, hKe] at z; cases z) (i b o z)
  have nsK : ∀ {ha hb : Heap} {c : Addr}, c ≠ h.objs.size → ha.Ns h.objs.size m → (∀ b o, b ≠ c → ha.get? b = some o → hb.get? b = some o) → hb.Ns h.objs.size m := fun {ha hb c} n i k => by
    obtain ⟨o, es, ep, z, r⟩ := i
    exact ⟨o, es, ep, k _ _ (Ne.symm n) z, r⟩
  have X2 : K.In h2 := inK (X1.keeps kp) k2
  have nL2 : h2.Ns h.objs.size m := nsK eL nL1 k2
  have hLt : h.objs.size < h2.objs.size := by
    obtain ⟨o, es, ep, z, r⟩ := nL2
    exact Heap.lt_size z
  have hm : PySem.HandSPX.refsVE (.ref C :: bm) = true := hbm
  refine ks_wpAt_execs_cons (wpAt_of_wpAny (plainObj_wpAny_Assign_Attribute (ldl nL2 em1 S.kind S.k1 S.d1 (ldl nL2 em0 S.kind S.k0 (by decide) ?_)) rfl))
  refine set_plain X2 (ox := exB C t1 none) (od := none) ⟨he2, rfl, rfl, trivial⟩ T.oex.sa ?_
  refine PySem.HandSPX.exc_osa X2 he2 hcl hm rfl T.no1 (fun h3 tk3 dx k3 dn dne hx3 hn3 => ?_)
  have dn' : h2.objs.size ≤ dx := dn
  have X3 : K.In h3 := inK X2 k3
  have nL3 : h3.Ns h.objs.size m := nsK eL nL2 k3
  have hw : Within (fun y => if y = x1 then some u1 else none) [x1] := fun y hy => by
    by_cases z : y = x1
    · rw [z]
      exact List.mem_cons_self
    · exact absurd (if_neg z) hy
  obtain ⟨oD, esD, epD, hoD, hdD, _⟩ := hn3.count hw
  refine ks_wpAt_execs_cons (wpAt_of_wpAny (plainObj_wpAny_Assign_Attribute (ldl nL3 em2 S.kind S.k2 S.d2 (ldl nL3 em0 S.kind S.k0 (by decide) ?_)) rfl))
  refine set_plain X3 (ox := exB C t1 (some dx)) (od := some oD) ⟨hx3, rfl, rfl, hoD⟩ T.oex.sa ?_
  refine PySem.OEX.osa_old X3 hx3 hn3 hw (by simp) hcl hm rfl T.no2 (fun h4 tk4 k4 hn4 => ?_)
  refine wpAt_of_wpAny ?_
  show wpAny _ _ (execs [] _) _ _ _
  refine wpAny_pure ?_
  refine hq h4 _ t1 dx (fun b o hb z => ?_) (by omega) (k4 _ _ (Ne.symm dne) hx3) hn4
  have z2 := k2 b o hb (kp _ _ (k1 _ _ (hk _ _ z)))
  exact k4 b o (fun y => by
    have lt : b < h.objs.size := Heap.lt_size z
    rw [y] at lt
    exact Nat.lt_irrefl _ (Nat.lt_of_lt_of_le lt (Nat.le_trans (Nat.le_of_lt hLt) dn'))) (k3 b o hb z2)
end
/-- x(e1, e2), x an own exception of two fields -/
def tMk2 (C : Addr) (x1 x2 : Str) (ta : TA) : L2.St → Hp → XK → Prop := fun σ H Q => ta σ H fun vs H1 => ∃ v1 v2 : V, vs = [v1, v2] ∧ ∀ dx : Addr, H1 dx = none → Q (.ref C) (some dx) (upd H1 dx (.xd [(x2, v2), (x1, v1)]))
theorem pmk_ex2 {X : Cx} {x x1 x2 : Str} {C : Addr} {k : Nat} {e1 e2 : Expr} {ta : TA} {p pos : Pos} (T : Ex2 X.prog X.K X.mg C x1 x2) (hr : Room (k + 1) X.A) (hg : Gl X x) (hm : X.mg x = some (.ref C)) (ha : PA X [e1, e2] ta)
    (hdb : (x == ("__debug__" : Str)) = false) (he : starEach [e1, e2] X.env = (false, eval e1 X.env) :: starEach [e2] X.env) (hpl : (backTo pos (starEach [e2] X.env)).any (·.1) = false) :
    PMk X (.Call (.Name x p) [e1, e2] [] pos) (tMk2 C x1 x2 ta) := by
  intro pins s σ H Q I h
  obtain ⟨nm, q, N, bs, bm, sn, sub, ab, col, dd, k0, k1, k2, k3, k5, hC, hbm⟩ := T.oex.cls
  obtain ⟨fI, cda, cc, oc, od, osl, nmI, ql, pr, bd, sc, kV, doc, pm, an, ct, vsC, file, tf, iC, tI, lk, hcd, hcda, hvs, hfile, hcc, S⟩ := T.ini
  refine wpAny_Call_Name_kw (ld_glob I hg hm ?_ hdb)
  refine PySem.W.callWith_K (h₀ := X.base) I.ok.mod.kin T.oex.kC (thn (ha.run pos pins s σ H _ I h) fun us s1 ⟨vs, H1, I1, r1, v1, v2, ev, q1⟩ => ⟨I1.kIn, ?_⟩) he hpl
  subst ev
  show wpAny _ _ (call (.ref C) us) _ _ _
  obtain ⟨hp, g, dr, tk, os⟩ := s1
  obtain ⟨u1, us1, rfl, ru1, r2⟩ : ∃ u1 us1, us = u1 :: us1 ∧ RelV v1 u1 ∧ Vals [v2] us1 := by
    cases r1 with
    | cons a b => exact ⟨_, _, rfl, a, b⟩
  obtain ⟨u2, rfl, ru2⟩ : ∃ u2, us1 = [u2] ∧ RelV v2 u2 := by
    cases r2 with
    | cons a b =>
      cases b
      exact ⟨_, rfl, a⟩
  clear r1 r2
  have hsz : hp.objs.size ≤ hp.objs.size + 1 := Nat.le_succ _
  have kk : ∀ b o, hp.get? b = some o → ((hp.push (PySem.W.kdv_tup [u1, u2])).push (PySem.HandSPX.excO C hp.objs.size)).get? b = some o := fun b o e => Heap.get?_push_of_some _ (Heap.get?_push_of_some _ e)
  have hget : ((hp.push (PySem.W.kdv_tup [u1, u2])).push (PySem.HandSPX.excO C hp.objs.size)).get? (hp.objs.size + 1) = some (PySem.HandSPX.excO C hp.objs.size) := by heap_get
  have hn : H1 (hp.objs.size + 1) = none := I1.hok.fresh hsz
  obtain ⟨mb, hb, hbb⟩ := I1.mod.blt
  have hKe : X.K.lookup (hp.objs.size + 1) = none := by
    cases z : X.K.lookup (hp.objs.size + 1) with
    | none => rfl
    | some o =>
      have y := Heap.lt_size (I1.kIn _ _ z)
      have y' : hp.objs.size + 1 < hp.objs.size := y
      omega
  refine wpAny_call (PySem.HandSPX.call_own F.excBase_ValueError (fun Y => PySem.HandSPX.refsVE_contains Y bm hbm) (I1.kIn _ _ hC) (PySem.W.looks_findIn I1.kIn iC) (fun self => PySem.W.bind_fn I1.kIn self tI) (by show 2 ≤ sizeLine; rw [sizeLine_eq]; decide) ?_)
  have hget' : ((hp.push (PySem.W.kdv_tup [u1, u2])).push (PySem.HandSPX.excO C hp.objs.size)).get? (hp.objs.size + 1) = some (exB C hp.objs.size none) := hget
  have kin' := I1.kIn.keeps kk
  have glo' := (I1.mod.glob.keeps I1.bk).keeps kk
  have blt' := (hb.keeps I1.bk).keeps kk
  have nol' := I1.nolimit.keeps kk
  have dep' := (hr.make C [u1, u2] []).depth
  have hszp : ((hp.push (PySem.W.kdv_tup [u1, u2])).push (PySem.HandSPX.excO C hp.objs.size)).objs.size = hp.objs.size + 2 := by simp [Heap.push]
  generalize ((hp.push (PySem.W.kdv_tup [u1, u2])).push (PySem.HandSPX.excO C hp.objs.size)) = hq at *
  refine run_init (t0 := hp.objs.size) (mb := mb) T lk hcd hcda hvs hfile hcc S dep' kin' glo' blt' hbb nol' hget' hKe (fun h' t' t1 dx k hdx hx hns => ?_)
  refine ⟨rfl, ?_⟩
  have hda : dx ≠ hp.objs.size + 1 := by omega
  obtain ⟨G, g1', g2'⟩ := restrict h' fun b => decide (b ≠ hp.objs.size + 1)
  have gk : ∀ b, b ≠ hp.objs.size + 1 → G.get? b = h'.get? b := fun b hb => g1' b (decide_eq_true hb)
  have ge : G.get? (hp.objs.size + 1) = none := g2' _ (by simp)
  have nb : ∀ {b : Addr} {o : Obj}, hp.get? b = some o → b ≠ hp.objs.size + 1 := fun {b o} z => Nat.ne_of_lt (Nat.lt_succ_of_lt (Heap.lt_size z))
  have hdn : H1 dx = none := I1.hok.fresh (by show hp.objs.size ≤ dx; omega)
  have J : Inv X pins σ (upd H1 dx (.xd [(x2, v2), (x1, v1)])) ⟨G, g, dr, t', os⟩ := I1.laid (t' := t') (a := dx) (o := .xd [(x2, v2), (x1, v1)]) (h' := G)
    (fun b o z => by rw [gk b (nb z)]; exact k b o (nb z) (kk b o z)) (by show hp.objs.size ≤ dx; omega)
    ⟨_, hns.at fun o y => (gk dx hda).trans y, relO_put ru2 (relO_put (fs := []) ru1 fun g => True.intro)⟩
  refine ⟨hp.objs.size + 1, _, _, ⟨G, g, dr, t', os⟩, _, .ref C, some dx, rfl, J, fun b o z => ?_, ge, hx, ⟨rfl, rfl⟩, rfl, rfl, ?_, rfl, I1.bare, raises_own T.oex.exC T.oex.tyC, q1 dx hdn⟩
  · by_cases hba : b = hp.objs.size + 1
    · rw [hba, ge] at z
      cases z
    · exact (gk b hba).symm.trans z
  · rw [upd_ne (Ne.symm hda)]
    exact hn
end RB
/-! RS8: the order of texts and of tuples of such. -/
namespace RB
open PySem PySem.Spec PyProof.Rows L2
inductive Tr where
  | s (x : List Nat)
  | t (l : List Tr)
mutual
def Tr.eqb : Tr → Tr → Bool
  | .s x, .s y => decide (x = y)
  | .s _, .t _ => false
  | .t _, .s _ => false
  | .t l, .t m => Tr.eqbL l m
def Tr.eqbL : List Tr → List Tr → Bool
  | [], [] => true
  | [], _ :: _ => false
  | _ :: _, [] => false
  | x :: xs, y :: ys => Tr.eqb x y && Tr.eqbL xs ys
end
mutual
theorem Tr.eqb_eq : ∀ x y : Tr, Tr.eqb x y = true → x = y
  | .s x, .s y, h => by rw [Tr.eqb, decide_eq_true_eq] at h; rw [h]
  | .s _, .t _, h => by rw [Tr.eqb] at h; cases h
  | .t _, .s _, h => by rw [Tr.eqb] at h; cases h
  | .t l, .t m, h => by rw [Tr.eqb] at h; rw [Tr.eqbL_eq l m h]
theorem Tr.eqbL_eq : ∀ l m : List Tr, Tr.eqbL l m = true → l = m
  | [], [], _ => rfl
  | [], _ :: _, h => by rw [Tr.eqbL] at h; cases h
  | _ :: _, [], h => by rw [Tr.eqbL] at h; cases h
  | x :: xs, y :: ys, h => by
    rw [Tr.eqbL] at h
    obtain ⟨h1, h2⟩ := Bool.and_eq_true_iff.mp h
    rw [Tr.eqb_eq x y h1, Tr.eqbL_eq xs ys h2]
end
mutual
theorem Tr.eqb_self : ∀ x : Tr, Tr.eqb x x = true
  | .s x => by rw [Tr.eqb]; exact decide_eq_true rfl
  | .t l => by rw [Tr.eqb]; exact Tr.eqbL_self l
theorem Tr.eqbL_self : ∀ l : List Tr, Tr.eqbL l l = true
  | [] => by rw [Tr.eqbL]
  | x :: xs => by rw [Tr.eqbL, Tr.eqb_self x, Tr.eqbL_self xs]; rfl
end
theorem Tr.eqb_ne {x y : Tr} (h : x ≠ y) : Tr.eqb x y = false := by
  cases e : Tr.eqb x y with
  | false => rfl
  | true => exact absurd (Tr.eqb_eq x y e) h
mutual
def Tr.lt : Tr → Tr → Bool
  | .s x, .s y => decide (x < y)
  | .s _, .t _ => true
  | .t _, .s _ => false
  | .t l, .t m => Tr.ltL l m
def Tr.ltL : List Tr → List Tr → Bool
  | [], [] => false
  | [], _ :: _ => true
  | _ :: _, [] => false
  | x :: xs, y :: ys => if Tr.eqb x y = true then Tr.ltL xs ys else Tr.lt x y
end
theorem Tr.ltL_eq (x : Tr) (xs ys : List Tr) : Tr.ltL (x :: xs) (x :: ys) = Tr.ltL xs ys := by
  rw [Tr.ltL, if_pos (Tr.eqb_self x)]
theorem Tr.ltL_ne {x y : Tr} (h : x ≠ y) (xs ys : List Tr) : Tr.ltL (x :: xs) (y :: ys) = Tr.lt x y := by
  rw [Tr.ltL, Tr.eqb_ne h, if_neg Bool.false_ne_true]
mutual
theorem Tr.tot : ∀ x y : Tr, Tr.lt x y = false → Tr.lt y x = false → x = y
  | .s x, .s y, h1, h2 => by
    rw [Tr.lt, decide_eq_false_iff_not] at h1 h2
    rw [List.le_antisymm (List.not_lt.mp h2) (List.not_lt.mp h1)]
  | .s _, .t _, h1, _ => by rw [Tr.lt] at h1; cases h1
  | .t _, .s _, _, h2 => by rw [Tr.lt] at h2; cases h2
  | .t l, .t m, h1, h2 => by
    rw [Tr.lt] at h1 h2
    rw [Tr.totL l m h1 h2]
theorem Tr.totL : ∀ l m : List Tr, Tr.ltL l m = false → Tr.ltL m l = false → l = m
  | [], [], _, _ => rfl
  | [], _ :: _, h1, _ => by rw [Tr.ltL] at h1; cases h1
  | _ :: _, [], _, h2 => by rw [Tr.ltL] at h2; cases h2
  | x :: xs, y :: ys, h1, h2 => by
    rcases Classical.em (x = y) with e | e
    · subst e
      rw [Tr.ltL_eq] at h1 h2
      rw [Tr.totL xs ys h1 h2]
    · rw [Tr.ltL_ne e] at h1
      rw [Tr.ltL_ne (Ne.symm e)] at h2
      exact absurd (Tr.tot x y h1 h2) e
end
mutual
theorem Tr.asym : ∀ x y : Tr, Tr.lt x y = true → Tr.lt y x = false
  | .s x, .s y, h => by
    rw [Tr.lt, decide_eq_true_eq] at h
    rw [Tr.lt, decide_eq_false_iff_not]
    exact fun z => List.lt_irrefl _ (List.lt_trans h z)
  | .s _, .t _, _ => by rw [Tr.lt]
  | .t _, .s _, h => by rw [Tr.lt] at h; cases h
  | .t l, .t m, h => by
    rw [Tr.lt] at h ⊢
    exact Tr.asymL l m h
theorem Tr.asymL : ∀ l m : List Tr, Tr.ltL l m = true → Tr.ltL m l = false
  | [], [], h => by rw [Tr.ltL] at h; cases h
  | [], _ :: _, _ => by rw [Tr.ltL]
  | _ :: _, [], h => by rw [Tr.ltL] at h; cases h
  | x :: xs, y :: ys, h => by
    rcases Classical.em (x = y) with e | e
    · subst e
      rw [Tr.ltL_eq] at h ⊢
      exact Tr.asymL xs ys h
    · rw [Tr.ltL_ne e] at h
      rw [Tr.ltL_ne (Ne.symm e)]
      exact Tr.asym x y h
end
theorem Tr.irr (x : Tr) : Tr.lt x x = false := by
  cases h : Tr.lt x x with
  | false => rfl
  | true =>
    have z := Tr.asym x x h
    rw [h] at z
    cases z
mutual
theorem Tr.trans : ∀ x y z : Tr, Tr.lt x y = true → Tr.lt y z = true → Tr.lt x z = true
  | .s x, .s y, .s z, h1, h2 => by
    rw [Tr.lt, decide_eq_true_eq] at h1 h2 ⊢
    exact List.lt_trans h1 h2
  | .s _, .s _, .t _, _, _ => by rw [Tr.lt]
  | .s _, .t _, .s _, _, h2 => by rw [Tr.lt] at h2; cases h2
  | .s _, .t _, .t _, _, _ => by rw [Tr.lt]
  | .t _, .s _, _, h1, _ => by rw [Tr.lt] at h1; cases h1
  | .t _, .t _, .s _, _, h2 => by rw [Tr.lt] at h2; cases h2
  | .t l, .t m, .t n, h1, h2 => by
    rw [Tr.lt] at h1 h2 ⊢
    exact Tr.transL l m n h1 h2
theorem Tr.transL : ∀ l m n : List Tr, Tr.ltL l m = true → Tr.ltL m n = true → Tr.ltL l n = true
  | [], [], _, h1, _ => by rw [Tr.ltL] at h1; cases h1
  | [], _ :: _, [], _, h2 => by rw [Tr.ltL] at h2; cases h2
  | [], _ :: _, _ :: _, _, _ => by rw [Tr.ltL]
  | _ :: _, [], _, h1, _ => by rw [Tr.ltL] at h1; cases h1
  | _ :: _, _ :: _, [], _, h2 => by rw [Tr.ltL] at h2; cases h2
  | x :: xs, y :: ys, z :: zs, h1, h2 => by
    rcases Classical.em (x = y) with e1 | e1
    · subst e1
      rw [Tr.ltL_eq] at h1
      rcases Classical.em (x = z) with e2 | e2
      · subst e2
        rw [Tr.ltL_eq] at h2 ⊢
        exact Tr.transL xs ys zs h1 h2
      · rw [Tr.ltL_ne e2] at h2 ⊢
        exact h2
    · rw [Tr.ltL_ne e1] at h1
      rcases Classical.em (y = z) with e2 | e2
      · subst e2
        rw [Tr.ltL_ne e1]
        exact h1
      · rw [Tr.ltL_ne e2] at h2
        have h3 := Tr.trans x y z h1 h2
        have ne : x ≠ z := fun e => by
          rw [e, Tr.irr] at h3
          cases h3
        rw [Tr.ltL_ne ne]
        exact h3
end
theorem Tr.swo : SrtO.Swo Tr.lt := by
  refine ⟨Tr.asym, fun x y z h1 h2 => ?_⟩
  cases h : Tr.lt z x with
  | false => rfl
  | true =>
    by_cases e1 : Tr.lt x y = true
    · rw [Tr.trans z x y h e1] at h2
      cases h2
    · have exy := Tr.tot x y (Bool.not_eq_true _ |>.mp e1) h1
      rw [exy, h2] at h
      cases h
/-! ### texts and tuples of such, as trees -/
mutual
def txt : PyData → Bool
  | .str _ => true
  | .tuple ds => txtL ds
  | .none => false
  | .bool _ => false
  | .int _ => false
  | .list _ => false
  | .dict _ => false
def txtL : List PyData → Bool
  | [] => true
  | d :: ds => txt d && txtL ds
end
mutual
def tree : PyData → Tr
  | .str x => .s x.cps.toList
  | .tuple ds => .t (treeL ds)
  | .none => .t []
  | .bool _ => .t []
  | .int _ => .t []
  | .list _ => .t []
  | .dict _ => .t []
def treeL : List PyData → List Tr
  | [] => []
  | d :: ds => tree d :: treeL ds
end
end RB
/-! RS9: data of texts and tuples: order, keys, sorted. -/
namespace RB
open PySem PySem.Spec PyProof.Rows L2
theorem str_of_cps {x y : Str} (h : x.cps.toList = y.cps.toList) : x = y := by
  cases x
  cases y
  have e := Array.toList_inj.mp h
  simp only at e
  rw [e]
theorem txt_cons {d : PyData} {ds : List PyData} (h : txtL (d :: ds) = true) : txt d = true ∧ txtL ds = true := by
  rw [txtL] at h
  exact Bool.and_eq_true_iff.mp h
theorem txtL_mem : ∀ {ds : List PyData}, txtL ds = true → ∀ d ∈ ds, txt d = true
  | [], _, _, hd => absurd hd List.not_mem_nil
  | e :: ds, h, d, hd => by
    obtain ⟨h1, h2⟩ := txt_cons h
    rcases List.mem_cons.mp hd with z | z
    · rw [z]
      exact h1
    · exact txtL_mem h2 d z
mutual
theorem tree_inj : ∀ d e : PyData, txt d = true → txt e = true → tree d = tree e → d = e
  | .str x, .str y, _, _, h => by
    rw [tree, tree] at h
    injection h with h
    rw [str_of_cps h]
  | .str _, .tuple _, _, _, h => by
    rw [tree, tree] at h
    cases h
  | .tuple _, .str _, _, _, h => by
    rw [tree, tree] at h
    cases h
  | .tuple ds, .tuple es, h1, h2, h => by
    rw [tree, tree] at h
    injection h with h
    rw [txt] at h1 h2
    rw [treeL_inj ds es h1 h2 h]
  | .none, _, h1, _, _ => by rw [txt] at h1; cases h1
  | .bool _, _, h1, _, _ => by rw [txt] at h1; cases h1
  | .int _, _, h1, _, _ => by rw [txt] at h1; cases h1
  | .list _, _, h1, _, _ => by rw [txt] at h1; cases h1
  | .dict _, _, h1, _, _ => by rw [txt] at h1; cases h1
  | .str _, .none, _, h2, _ => by rw [txt] at h2; cases h2
  | .str _, .bool _, _, h2, _ => by rw [txt] at h2; cases h2
  | .str _, .int _, _, h2, _ => by rw [txt] at h2; cases h2
  | .str _, .list _, _, h2, _ => by rw [txt] at h2; cases h2
  | .str _, .dict _, _, h2, _ => by rw [txt] at h2; cases h2
  | .tuple _, .none, _, h2, _ => by rw [txt] at h2; cases h2
  | .tuple _, .bool _, _, h2, _ => by rw [txt] at h2; cases h2
  | .tuple _, .int _, _, h2, _ => by rw [txt] at h2; cases h2
  | .tuple _, .list _, _, h2, _ => by rw [txt] at h2; cases h2
  | .tuple _, .dict _, _, h2, _ => by rw [txt] at h2; cases h2
theorem treeL_inj : ∀ ds es : List PyData, txtL ds = true → txtL es = true → treeL ds = treeL es → ds = es
  | [], [], _, _, _ => rfl
  | [], _ :: _, _, _, h => by rw [treeL, treeL] at h; cases h
  | _ :: _, [], _, _, h => by rw [treeL, treeL] at h; cases h
  | d :: ds, e :: es, h1, h2, h => by
    rw [treeL, treeL] at h
    injection h with a b
    obtain ⟨p1, p2⟩ := txt_cons h1
    obtain ⟨q1, q2⟩ := txt_cons h2
    rw [tree_inj d e p1 q1 a, treeL_inj ds es p2 q2 b]
end
mutual
theorem eqv_tree : ∀ d e : PyData, txt d = true → txt e = true → PyData.eqv d e = Tr.eqb (tree d) (tree e)
  | .str x, .str y, _, _ => by
    rw [tree, tree, PyData.eqv, Tr.eqb]
    by_cases h : x = y
    · rw [h, decide_eq_true rfl]
      exact beq_self_eq_true y
    · rw [decide_eq_false fun z => h (str_of_cps z)]
      exact beq_false_of_ne h
  | .str _, .tuple _, _, _ => by rw [tree, tree, PyData.eqv, Tr.eqb]
  | .tuple _, .str _, _, _ => by rw [tree, tree, PyData.eqv, Tr.eqb]
  | .tuple ds, .tuple es, h1, h2 => by
    rw [txt] at h1 h2
    rw [tree, tree, PyData.eqv, Tr.eqb]
    exact eqvL_tree ds es h1 h2
  | .none, _, h1, _ => by rw [txt] at h1; cases h1
  | .bool _, _, h1, _ => by rw [txt] at h1; cases h1
  | .int _, _, h1, _ => by rw [txt] at h1; cases h1
  | .list _, _, h1, _ => by rw [txt] at h1; cases h1
  | .dict _, _, h1, _ => by rw [txt] at h1; cases h1
  | .str _, .none, _, h2 => by rw [txt] at h2; cases h2
  | .str _, .bool _, _, h2 => by rw [txt] at h2; cases h2
  | .str _, .int _, _, h2 => by rw [txt] at h2; cases h2
  | .str _, .list _, _, h2 => by rw [txt] at h2; cases h2
  | .str _, .dict _, _, h2 => by rw [txt] at h2; cases h2
  | .tuple _, .none, _, h2 => by rw [txt] at h2; cases h2
  | .tuple _, .bool _, _, h2 => by rw [txt] at h2; cases h2
  | .tuple _, .int _, _, h2 => by rw [txt] at h2; cases h2
  | .tuple _, .list _, _, h2 => by rw [txt] at h2; cases h2
  | .tuple _, .dict _, _, h2 => by rw [txt] at h2; cases h2
theorem eqvL_tree : ∀ ds es : List PyData, txtL ds = true → txtL es = true → PyData.eqvAll ds es = Tr.eqbL (treeL ds) (treeL es)
  | [], [], _, _ => by rw [treeL, PyData.eqvAll, Tr.eqbL]
  | [], _ :: _, _, _ => by rw [treeL, treeL, PyData.eqvAll, Tr.eqbL]
  | _ :: _, [], _, _ => by rw [treeL, treeL, PyData.eqvAll, Tr.eqbL]
  | d :: ds, e :: es, h1, h2 => by
    obtain ⟨p1, p2⟩ := txt_cons h1
    obtain ⟨q1, q2⟩ := txt_cons h2
    rw [treeL, treeL, PyData.eqvAll, Tr.eqbL, eqv_tree d e p1 q1, eqvL_tree ds es p2 q2]
end
mutual
theorem ltD_tree : ∀ (d e : PyData) (b : Bool), txt d = true → txt e = true → ltD d e = some b → b = Tr.lt (tree d) (tree e)
  | .str x, .str y, b, _, _, h => by
    rw [ltD] at h
    rw [tree, tree, Tr.lt]
    exact (Option.some.inj h).symm
  | .tuple ds, .tuple es, b, h1, h2, h => by
    rw [ltD] at h
    rw [txt] at h1 h2
    rw [tree, tree, Tr.lt]
    exact ltL_tree ds es b h1 h2 h
  | .str _, .tuple _, _, _, _, h => by rw [ltD] at h <;> first | exact nomatch h | (intros; exact nomatch ‹_›)
  | .tuple _, .str _, _, _, _, h => by rw [ltD] at h <;> first | exact nomatch h | (intros; exact nomatch ‹_›)
  | .none, _, _, h1, _, _ => by rw [txt] at h1; cases h1
  | .bool _, _, _, h1, _, _ => by rw [txt] at h1; cases h1
  | .int _, _, _, h1, _, _ => by rw [txt] at h1; cases h1
  | .list _, _, _, h1, _, _ => by rw [txt] at h1; cases h1
  | .dict _, _, _, h1, _, _ => by rw [txt] at h1; cases h1
  | .str _, .none, _, _, h2, _ => by rw [txt] at h2; cases h2
  | .str _, .bool _, _, _, h2, _ => by rw [txt] at h2; cases h2
  | .str _, .int _, _, _, h2, _ => by rw [txt] at h2; cases h2
  | .str _, .list _, _, _, h2, _ => by rw [txt] at h2; cases h2
  | .str _, .dict _, _, _, h2, _ => by rw [txt] at h2; cases h2
  | .tuple _, .none, _, _, h2, _ => by rw [txt] at h2; cases h2
  | .tuple _, .bool _, _, _, h2, _ => by rw [txt] at h2; cases h2
  | .tuple _, .int _, _, _, h2, _ => by rw [txt] at h2; cases h2
  | .tuple _, .list _, _, _, h2, _ => by rw [txt] at h2; cases h2
  | .tuple _, .dict _, _, _, h2, _ => by rw [txt] at h2; cases h2
theorem ltL_tree : ∀ (ds es : List PyData) (b : Bool), txtL ds = true → txtL es = true → ltL ds es = some b → b = Tr.ltL (treeL ds) (treeL es)
  | [], [], b, _, _, h => by
    rw [ltL] at h
    rw [treeL, Tr.ltL]
    exact (Option.some.inj h).symm
  | [], _ :: _, b, _, _, h => by
    rw [ltL] at h
    rw [treeL, treeL, Tr.ltL]
    exact (Option.some.inj h).symm
  | _ :: _, [], b, _, _, h => by
    rw [ltL] at h
    rw [treeL, treeL, Tr.ltL]
    exact (Option.some.inj h).symm
  | d :: ds, e :: es, b, h1, h2, h => by
    obtain ⟨p1, p2⟩ := txt_cons h1
    obtain ⟨q1, q2⟩ := txt_cons h2
    rw [ltL, eqv_tree d e p1 q1] at h
    rw [treeL, treeL, Tr.ltL]
    by_cases c : Tr.eqb (tree d) (tree e) = true
    · rw [if_pos c] at h ⊢
      exact ltL_tree ds es b p2 q2 h
    · rw [if_neg c] at h ⊢
      exact ltD_tree d e b p1 q1 h
end
/-! ### keys -/
mutual
def nk : PyData → NK
  | .str x => .text x
  | .tuple ds => .tup (nkL ds)
  | .none => .none
  | .bool _ => .none
  | .int _ => .none
  | .list _ => .none
  | .dict _ => .none
def nkL : List PyData → List NK
  | [] => []
  | d :: ds => nk d :: nkL ds
end
mutual
theorem nk_data : ∀ d : PyData, txt d = true → (nk d).data = d
  | .str x, _ => by rw [nk, NestedKey.data]
  | .tuple ds, h => by
    rw [txt] at h
    rw [nk, NestedKey.data, nkL_data ds h]
  | .none, h => by rw [txt] at h; cases h
  | .bool _, h => by rw [txt] at h; cases h
  | .int _, h => by rw [txt] at h; cases h
  | .list _, h => by rw [txt] at h; cases h
  | .dict _, h => by rw [txt] at h; cases h
theorem nkL_data : ∀ ds : List PyData, txtL ds = true → NestedKey.datas (nkL ds) = ds
  | [], _ => by rw [nkL, NestedKey.datas]
  | d :: ds, h => by
    obtain ⟨h1, h2⟩ := txt_cons h
    rw [nkL, NestedKey.datas, nk_data d h1, nkL_data ds h2]
end
mutual
theorem nk_depth : ∀ d : PyData, txt d = true → (nk d).depth = d.depth
  | .str x, _ => by rw [nk, NestedKey.depth, PyData.depth]
  | .tuple ds, h => by
    rw [txt] at h
    rw [nk, NestedKey.depth, PyData.depth, nkL_depth ds h]
  | .none, h => by rw [txt] at h; cases h
  | .bool _, h => by rw [txt] at h; cases h
  | .int _, h => by rw [txt] at h; cases h
  | .list _, h => by rw [txt] at h; cases h
  | .dict _, h => by rw [txt] at h; cases h
theorem nkL_depth : ∀ ds : List PyData, txtL ds = true → NestedKey.depthAll (nkL ds) = PyData.depthAll ds
  | [], _ => by rw [nkL, NestedKey.depthAll, PyData.depthAll]
  | d :: ds, h => by
    obtain ⟨h1, h2⟩ := txt_cons h
    rw [nkL, NestedKey.depthAll, PyData.depthAll, nk_depth d h1, nkL_depth ds h2]
end
mutual
theorem nk_is {h : Heap} : ∀ (d : PyData) (v : Value) (as : List Addr), txt d = true → Reads h v d as → NestedIs h (nk d) v
  | .str x, v, as, _, r => by
    cases r
    rw [nk]
    exact .text x _
  | .tuple ds, v, as, t, r => by
    obtain ⟨a, o, vs, n, rfl, h1, h2, h3, h4⟩ := readsT r
    rw [txt] at t
    rw [nk]
    exact .tup h1 h2 h3 (nkL_is ds _ as t h4)
  | .none, _, _, t, _ => by rw [txt] at t; cases t
  | .bool _, _, _, t, _ => by rw [txt] at t; cases t
  | .int _, _, _, t, _ => by rw [txt] at t; cases t
  | .list _, _, _, t, _ => by rw [txt] at t; cases t
  | .dict _, _, _, t, _ => by rw [txt] at t; cases t
theorem nkL_is {h : Heap} : ∀ (ds : List PyData) (vs : List Value) (as : List Addr), txtL ds = true → ReadsAll h vs ds as → NestedAll h (nkL ds) vs
  | [], _, _, _, r => by
    cases r
    rw [nkL]
    exact .nil
  | d :: ds, _, _, t, r => by
    obtain ⟨t1, t2⟩ := txt_cons t
    cases r with
    | cons r1 r2 =>
      rw [nkL]
      exact .cons (nk_is d _ _ t1 r1) (nkL_is ds _ _ t2 r2)
end
theorem reads_inj {h : Heap} {d e : PyData} {v : Value} {as bs : List Addr} (t1 : txt d = true) (t2 : txt e = true) (r1 : Reads h v d as) (r2 : Reads h v e bs) : d = e := by
  have z := NestedIs.inj _ _ _ (nk_is d v as t1 r1) (nk_is e v bs t2 r2)
  rw [← nk_data d t1, ← nk_data e t2, z]
/-! ### sorted, each once -/
abbrev tlt (d e : PyData) : Bool := Tr.lt (tree d) (tree e)
def insT (d : PyData) : List PyData → List PyData
  | [] => [d]
  | e :: r => if tlt d e = true then d :: e :: r else if tlt e d = true then e :: insT d r else e :: r
def sortT : List PyData → List PyData
  | [] => []
  | d :: ds => insT d (sortT ds)
abbrev Asc (l : List PyData) : Prop := l.Pairwise fun d e => tlt d e = true
theorem insT_mem {d x : PyData} : ∀ {l : List PyData}, txt d = true → txtL l = true → (x ∈ insT d l ↔ x = d ∨ x ∈ l)
  | [], _, _ => by rw [insT]; simp
  | e :: r, td, tl => by
    obtain ⟨te, tr⟩ := txt_cons tl
    rw [insT]
    split
    · simp
    · split
      · rw [List.mem_cons, insT_mem td tr, List.mem_cons]
        constructor
        · rintro (h | h | h)
          · exact .inr (.inl h)
          · exact .inl h
          · exact .inr (.inr h)
        · rintro (h | h | h)
          · exact .inr (.inl h)
          · exact .inl h
          · exact .inr (.inr h)
      · rename_i h1 h2
        have ee : d = e := tree_inj d e td te (Tr.tot _ _ (Bool.not_eq_true _ |>.mp h1) (Bool.not_eq_true _ |>.mp h2))
        rw [ee]
        simp
theorem insT_txt {d : PyData} : ∀ {l : List PyData}, txt d = true → txtL l = true → txtL (insT d l) = true
  | [], h, _ => by rw [insT, txtL, txtL, h]; rfl
  | e :: r, td, tl => by
    obtain ⟨te, tr⟩ := txt_cons tl
    rw [insT]
    split
    · rw [txtL, td, tl]
      rfl
    · split
      · rw [txtL, te, insT_txt td tr]
        rfl
      · exact tl
theorem insT_asc {d : PyData} : ∀ {l : List PyData}, txt d = true → txtL l = true → Asc l → Asc (insT d l)
  | [], _, _, _ => by rw [insT]; exact List.pairwise_singleton _ _
  | e :: r, td, tl, a => by
    obtain ⟨te, tr⟩ := txt_cons tl
    obtain ⟨a1, a2⟩ := List.pairwise_cons.mp a
    rw [insT]
    split
    · rename_i h1
      refine List.pairwise_cons.mpr ⟨fun x hx => ?_, a⟩
      rcases List.mem_cons.mp hx with z | z
      · rw [z]
        exact h1
      · exact Tr.trans _ _ _ h1 (a1 x z)
    · split
      · rename_i h2
        refine List.pairwise_cons.mpr ⟨fun x hx => ?_, insT_asc td tr a2⟩
        rcases (insT_mem td tr).mp hx with z | z
        · rw [z]
          exact h2
        · exact a1 x z
      · exact a
theorem sortT_all : ∀ {ds : List PyData}, txtL ds = true → txtL (sortT ds) = true ∧ Asc (sortT ds) ∧ ∀ x, x ∈ sortT ds ↔ x ∈ ds
  | [], _ => ⟨rfl, List.Pairwise.nil, fun x => Iff.rfl⟩
  | d :: ds, h => by
    obtain ⟨h1, h2⟩ := txt_cons h
    obtain ⟨a, b, c⟩ := sortT_all h2
    rw [sortT]
    exact ⟨insT_txt h1 a, insT_asc h1 a b, fun x => by rw [insT_mem h1 a, c x, List.mem_cons]⟩
theorem asc_unique : ∀ {l m : List PyData}, Asc l → Asc m → (∀ x, x ∈ l ↔ x ∈ m) → l = m
  | [], [], _, _, _ => rfl
  | [], y :: ys, _, _, h => absurd ((h y).mpr List.mem_cons_self) List.not_mem_nil
  | x :: xs, [], _, _, h => absurd ((h x).mp List.mem_cons_self) List.not_mem_nil
  | x :: xs, y :: ys, a, b, h => by
    obtain ⟨a1, a2⟩ := List.pairwise_cons.mp a
    obtain ⟨b1, b2⟩ := List.pairwise_cons.mp b
    have exy : x = y := by
      rcases List.mem_cons.mp ((h x).mp List.mem_cons_self) with z | z
      · exact z
      · rcases List.mem_cons.mp ((h y).mpr List.mem_cons_self) with q | q
        · exact q.symm
        · have c := Tr.asym _ _ (b1 x z)
          have c2 : Tr.lt (tree x) (tree y) = true := a1 y q
          rw [c2] at c
          cases c
    subst exy
    have irr : ∀ {l : List PyData}, (∀ z ∈ l, tlt x z = true) → x ∉ l := fun {l} f m => by
      have c := f x m
      rw [tlt, Tr.irr] at c
      cases c
    rw [asc_unique a2 b2 fun z => ?_]
    constructor
    · intro hz
      rcases List.mem_cons.mp ((h z).mp (List.mem_cons_of_mem _ hz)) with e | e
      · rw [e] at hz
        exact absurd hz (irr a1)
      · exact e
    · intro hz
      rcases List.mem_cons.mp ((h z).mpr (List.mem_cons_of_mem _ hz)) with e | e
      · rw [e] at hz
        exact absurd hz (irr b1)
      · exact e
end RB
/-! RS10: sorted(set(xs)) of texts, of tuples that begin with texts. -/
namespace RB
open PySem PySem.Spec PyProof.Rows L2
def isStr : PyData → Bool
  | .str _ => true
  | _ => false
def isTup1 : PyData → Bool
  | .tuple (.str _ :: _) => true
  | _ => false
theorem isStr_eq {d : PyData} (h : isStr d = true) : ∃ x, d = .str x := by
  cases d with
  | str x => exact ⟨x, rfl⟩
  | _ => cases h
theorem isTup1_eq {d : PyData} (h : isTup1 d = true) : ∃ x ds, d = .tuple (.str x :: ds) := by
  cases d with
  | tuple l =>
    cases l with
    | nil => cases h
    | cons e ds =>
      cases e with
      | str x => exact ⟨x, ds, rfl⟩
      | _ => cases h
  | _ => cases h
/-- what sorted(set(..)) takes -/
def okSort (ds : List PyData) : Bool := txtL ds && decide (ds.length < 64) && (ds.all isStr || ds.all isTup1) && (ds.all fun d => d.canLay0 && decide (d.depth ≤ 8)) && ds.all fun d => ds.all fun e => (ltD d e).isSome
structure OkSort (ds : List PyData) : Prop where
  t : txtL ds = true
  few : ds.length < 64
  kind : (∀ d ∈ ds, isStr d = true) ∨ ∀ d ∈ ds, isTup1 d = true
  lay : ∀ d ∈ ds, d.canLay0 = true ∧ d.depth ≤ 8
  cmp : ∀ d ∈ ds, ∀ e ∈ ds, ∃ b, ltD d e = some b
theorem okSort_of {ds : List PyData} (h : okSort ds = true) : OkSort ds := by
  unfold okSort at h
  obtain ⟨h, h5⟩ := Bool.and_eq_true_iff.mp h
  obtain ⟨h, h4⟩ := Bool.and_eq_true_iff.mp h
  obtain ⟨h, h3⟩ := Bool.and_eq_true_iff.mp h
  obtain ⟨h1, h2⟩ := Bool.and_eq_true_iff.mp h
  refine ⟨h1, of_decide_eq_true h2, ?_, fun d hd => ?_, fun d hd e he => ?_⟩
  · rcases (Bool.or_eq_true _ _).mp h3 with h | h
    · exact .inl fun d hd => List.all_eq_true.mp h d hd
    · exact .inr fun d hd => List.all_eq_true.mp h d hd
  · obtain ⟨a, b⟩ := Bool.and_eq_true_iff.mp (List.all_eq_true.mp h4 d hd)
    exact ⟨a, of_decide_eq_true b⟩
  · exact Option.isSome_iff_exists.mp (List.all_eq_true.mp (List.all_eq_true.mp h5 d hd) e he)
theorem readsLen {h : Heap} : ∀ {ds : List PyData} {vs : List Value} {as : List Addr}, ReadsAll h vs ds as → vs.length = ds.length
  | [], _, _, r => by cases r; rfl
  | _ :: _, _, _, r => by
    cases r with
    | cons r1 r2 => exact congrArg (· + 1) (readsLen r2)
open Classical in
/-- what a value is, in a heap -/
noncomputable def datOf (h : Heap) (v : Value) : PyData := if c : ∃ d as, txt d = true ∧ Reads h v d as then c.choose else .str ""
theorem datOf_eq {h : Heap} {v : Value} {d : PyData} {as : List Addr} (t : txt d = true) (r : Reads h v d as) : datOf h v = d := by
  have c : ∃ d as, txt d = true ∧ Reads h v d as := ⟨d, as, t, r⟩
  unfold datOf
  rw [dif_pos c]
  obtain ⟨bs, t2, r2⟩ := c.choose_spec
  exact reads_inj t2 t r2 r
noncomputable def ltv (h : Heap) (v u : Value) : Bool := Tr.lt (tree (datOf h v)) (tree (datOf h u))
theorem swo_ltv (h : Heap) : SrtO.Swo (ltv h) := ⟨fun x y => Tr.swo.asym _ _, fun x y z => Tr.swo.tr _ _ _⟩
section
variable {P : Program} {w : World} {A : Around} {s : Shared} {Q : Bool → Shared → Prop}
/-- two rows, by the sort's own comparison -/
theorem lex_row : ∀ (ds es : List PyData) (vs us : List Value) (as bs : List Addr) (i : Nat) (b fin : Bool), ReadsAll s.heap vs ds as → ReadsAll s.heap us es bs → PyData.canLayAll0 ds = true → PyData.canLayAll0 es = true → A.units + PyData.depthAll ds + 1 < cLine →
    ltL ds es = some b → fin = decide (ds.length < es.length) → (i = 0 → (∀ d l, ds = d :: l → isStr d = true) ∧ ∀ d l, es = d :: l → isStr d = true) → Q b s → PySem.W.KatLex P w A true fin Q (vs.zip us) i s
  | [], es, _, us, _, _, i, b, fin, r1, r2, _, _, _, hb, hf, _, q => by
    cases r1
    have eb : fin = b := by
      cases es with
      | nil =>
        rw [ltL] at hb
        rw [hf, ← Option.some.inj hb]
        rfl
      | cons e es =>
        rw [ltL] at hb
        rw [hf, ← Option.some.inj hb]
        exact decide_eq_true (Nat.succ_pos _)
    rw [eb]
    exact PySem.W.kat_nil q
  | d :: ds, [], vs, _, _, _, i, b, fin, r1, r2, _, _, _, hb, hf, _, q => by
    cases r2
    rw [ltL] at hb
    have eb : fin = b := by
      rw [hf, ← Option.some.inj hb]
      exact decide_eq_false (Nat.not_lt_zero _)
    rw [eb, List.zip_nil_right]
    exact PySem.W.kat_nil q
  | d :: ds, e :: es, _, _, _, _, i, b, fin, r1, r2, c1, c2, hu, hb, hf, hs, q => by
    have hd : PyData.depthAll (d :: ds) = max d.depth (PyData.depthAll ds) := by rw [PyData.depthAll]
    obtain ⟨cd, cds⟩ := Bool.and_eq_true_iff.mp (show (d.canLay0 && PyData.canLayAll0 ds) = true by rw [PyData.canLayAll0] at c1; exact c1)
    obtain ⟨ce, ces⟩ := Bool.and_eq_true_iff.mp (show (e.canLay0 && PyData.canLayAll0 es) = true by rw [PyData.canLayAll0] at c2; exact c2)
    have hb' : (if PyData.eqv d e then ltL ds es else ltD d e) = some b := by rw [ltL] at hb; exact hb
    cases r1 with
    | cons ra1 ra2 =>
      cases r2 with
      | cons rb1 rb2 =>
        have eqA := SeqAt.eqAt_reads d e A s _ _ _ _ ra1 rb1 cd ce (by omega)
        rw [List.zip_cons_cons]
        refine PySem.W.kat_cons (eqA P w _ _ ?_)
        by_cases he : PyData.eqv d e = true
        · rw [if_pos he] at hb'
          rw [he]
          refine PySem.W.kat_yes (lex_row ds es _ _ _ _ (i + 1) b fin ra2 rb2 cds ces (by omega) hb' ?_ (fun z => absurd z (Nat.succ_ne_zero i)) q)
          rw [hf]
          simp
        · rw [if_neg he] at hb'
          rw [Bool.not_eq_true _ |>.mp he]
          refine PySem.W.kat_no ?_
          cases i with
          | zero =>
            obtain ⟨x, rfl⟩ := isStr_eq ((hs rfl).1 d ds rfl)
            obtain ⟨y, rfl⟩ := isStr_eq ((hs rfl).2 e es rfl)
            rw [ltD] at hb'
            rw [← Option.some.inj hb'] at q
            cases ra1
            cases rb1
            exact oneLt_str q
          | succ n =>
            have lt := lt_reads d e A s _ _ _ _ b ra1 rb1 cd ce (by omega) hb'
            show wpAny _ _ (oneLt' (true && (n + 1 == 0)) _ _) _ _ _
            rw [show (true && (n + 1 == 0)) = false from rfl]
            exact PySem.W.kat_one _ _ (lt P w _ _ q)
/-- any two of such things compare as ltv says -/
theorem sortable {h : Heap} {z : Shared} {b : Addr} {us : List Value} {ds : List PyData} (O : OkSort ds) (hr : ∀ v ∈ us, ∃ d as, d ∈ ds ∧ Reads h v d as) (h2 : 2 ≤ us.length) (hu : A.units + 10 < cLine)
    (kp : ∀ c o, h.get? c = some o → c ≠ b ∧ z.heap.get? c = some o) : SrtO.SortableO P w A z b us (ltv h) := by
  intro h' keep
  have kk : ∀ c o, h.get? c = some o → h'.get? c = some o := fun c o e => keep c o (kp c o e).1 (kp c o e).2
  have txt_of : ∀ d ∈ ds, txt d = true := txtL_mem O.t
  rcases O.kind with hk | hk
  · refine ⟨oneType', fun Q E q => ?_, fun p q hp hq => ?_⟩
    · refine PySem.W.kas_kind (T := .type "str") h2 (fun v hv => ?_) (by decide) (by decide) q
      obtain ⟨d, as, hd, r⟩ := hr v hv
      obtain ⟨x, rfl⟩ := isStr_eq (hk d hd)
      cases r
      exact PySem.W.Looks.now
    · obtain ⟨d, as, hd, r⟩ := hr p.1 hp
      obtain ⟨e, bs, he, r'⟩ := hr q.1 hq
      show wpAny (model P w) A (keyLt' oneType' p.1 q.1) (fun r s' => s' = { z with heap := h' } ∧ r = ltv h p.1 q.1) (fun _ _ => False) _
      unfold ltv
      rw [datOf_eq (txt_of d hd) r, datOf_eq (txt_of e he) r']
      obtain ⟨x, rfl⟩ := isStr_eq (hk d hd)
      obtain ⟨y, rfl⟩ := isStr_eq (hk e he)
      generalize p.1 = pv at r ⊢
      generalize q.1 = qv at r' ⊢
      cases r
      cases r'
      refine PySem.W.kas_lt_str ⟨rfl, ?_⟩
      rw [tree, tree, Tr.lt]
  · have tup : ∀ v ∈ us, ∃ a o xs n f, v = .ref a ∧ h'.get? a = some o ∧ o.cls = .type "tuple" ∧ o.data = .seq xs n ∧ xs[0]? = some f ∧ ∃ x t, f = Value.str x t := fun v hv => by
      obtain ⟨d, as, hd, r⟩ := hr v hv
      obtain ⟨x, l, rfl⟩ := isTup1_eq (hk d hd)
      obtain ⟨a, o, xs, n, rfl, o1, o2, o3, ra⟩ := readsT r
      cases hx : xs.toList with
      | nil =>
        rw [hx] at ra
        cases ra
      | cons f fs =>
        rw [hx] at ra
        cases ra with
        | cons r1 r2 =>
          cases r1
          exact ⟨a, o, xs, n, _, rfl, kk _ _ o1, o2, o3, by rw [← Array.getElem?_toList, hx]; rfl, _, _, rfl⟩
    have firsts : ∀ l : List Value, (∀ v ∈ l, v ∈ us) → ∃ fs, PySem.W.KatTups h' l fs ∧ fs.length = l.length ∧ ∀ f ∈ fs, ∃ x t, f = Value.str x t := by
      intro l
      induction l with
      | nil => exact fun _ => ⟨[], PySem.W.KatTups.nil, rfl, fun f hf => absurd hf List.not_mem_nil⟩
      | cons v l ih =>
        intro hl
        obtain ⟨fs, k1, k2, k3⟩ := ih fun u hu => hl u (List.mem_cons_of_mem _ hu)
        obtain ⟨a, o, xs, n, f, rfl, o1, o2, o3, o4, o5⟩ := tup v (hl v List.mem_cons_self)
        refine ⟨f :: fs, PySem.W.KatTups.cons o1 o2 o3 o4 k1, by rw [List.length_cons, List.length_cons, k2], fun g hg => ?_⟩
        rcases List.mem_cons.mp hg with e | e
        · rw [e]
          exact o5
        · exact k3 g e
    obtain ⟨fs, k1, k2, k3⟩ := firsts us fun v hv => hv
    refine ⟨tuples' true, fun Q E q => ?_, fun p q hp hq => ?_⟩
    · refine PySem.W.kat_kind (T := .type "str") k1 (by omega) (fun f hf => ?_) (by rfl) q
      obtain ⟨x, t, rfl⟩ := k3 f hf
      exact PySem.W.Looks.now
    · obtain ⟨d, as, hd, r⟩ := hr p.1 hp
      obtain ⟨e, bs, he, r'⟩ := hr q.1 hq
      show wpAny (model P w) A (keyLt' (tuples' true) p.1 q.1) (fun r s' => s' = { z with heap := h' } ∧ r = ltv h p.1 q.1) (fun _ _ => False) _
      unfold ltv
      rw [datOf_eq (txt_of d hd) r, datOf_eq (txt_of e he) r']
      obtain ⟨c, hc⟩ := O.cmp d hd e he
      rw [← ltD_tree d e c (txt_of d hd) (txt_of e he) hc]
      have R1 := PyProof.Rows.Reads.keeps kk r
      have R2 := PyProof.Rows.Reads.keeps kk r'
      have ld := O.lay d hd
      have le := O.lay e he
      obtain ⟨x, l, rfl⟩ := isTup1_eq (hk d hd)
      obtain ⟨y, m, rfl⟩ := isTup1_eq (hk e he)
      generalize p.1 = pv at R1 ⊢
      generalize q.1 = qv at R2 ⊢
      obtain ⟨a1, o1, x1, n1, rfl, g1, _, d1, ra⟩ := readsT R1
      obtain ⟨a2, o2, x2, n2, rfl, g2, _, d2, rb⟩ := readsT R2
      have len1 : x1.size = (PyData.str x :: l).length := by
        rw [← Array.length_toList]
        exact readsLen ra
      have len2 : x2.size = (PyData.str y :: m).length := by
        rw [← Array.length_toList]
        exact readsLen rb
      have hdp : (PyData.tuple (.str x :: l)).depth = PyData.depthAll (.str x :: l) + 1 := by rw [PyData.depth]
      refine PySem.W.kat_lt (s := { z with heap := h' }) g1 d1 g2 d2 (lex_row (s := { z with heap := h' }) _ _ _ _ _ _ 0 c _ ra rb ?_ ?_ ?_ ?_ ?_ (fun _ => ⟨fun d l e => ?_, fun d l e => ?_⟩) ⟨rfl, rfl⟩)
      · have := ld.1
        rw [PyData.canLay0] at this
        exact this
      · have := le.1
        rw [PyData.canLay0] at this
        exact this
      · have := ld.2
        omega
      · rw [ltD] at hc
        exact hc
      · rw [len1, len2]
      · cases e
        rfl
      · cases e
        rfl
end
end RB
/-! RS11: set(xs) by the data of xs. -/
namespace RB
open PySem PySem.Spec PyProof.Rows L2
theorem reads_mem {h : Heap} : ∀ {ds : List PyData} {vs : List Value} {as : List Addr}, ReadsAll h vs ds as → (∀ v ∈ vs, ∃ d bs, d ∈ ds ∧ Reads h v d bs) ∧ ∀ d ∈ ds, ∃ v bs, v ∈ vs ∧ Reads h v d bs
  | [], _, _, r => by
    cases r
    exact ⟨fun v hv => absurd hv List.not_mem_nil, fun d hd => absurd hd List.not_mem_nil⟩
  | e :: ds, _, _, r => by
    cases r with
    | cons r1 r2 =>
      obtain ⟨a, b⟩ := reads_mem r2
      refine ⟨fun v hv => ?_, fun d hd => ?_⟩
      · rcases List.mem_cons.mp hv with z | z
        · rw [z]
          exact ⟨e, _, List.mem_cons_self, r1⟩
        · obtain ⟨d, bs, m, q⟩ := a v z
          exact ⟨d, bs, List.mem_cons_of_mem _ m, q⟩
      · rcases List.mem_cons.mp hd with z | z
        · rw [z]
          exact ⟨_, _, List.mem_cons_self, r1⟩
        · obtain ⟨v, bs, m, q⟩ := b d z
          exact ⟨v, bs, List.mem_cons_of_mem _ m, q⟩
theorem nodup_on {α β : Type} {f : α → β} {l : List α} (n : l.Nodup) (h : ∀ x ∈ l, ∀ y ∈ l, f x = f y → x = y) : (l.map f).Nodup :=
  List.pairwise_map.mpr (List.Pairwise.imp_of_mem (fun {x y} hx hy ne e => ne (h x hx y hy e)) n)
theorem nodup_back {α β : Type} {f : α → β} {l : List α} (h : (l.map f).Nodup) : l.Nodup := List.Pairwise.imp (fun {x y} ne e => ne (congrArg f e)) (List.pairwise_map.mp h)
/-- what is left of the things, each once -/
structure Once (h : Heap) (its : List Value) (ds : List PyData) (us : List Value) : Prop where
  sub : ∀ v ∈ us, v ∈ its
  nd : (us.map (datOf h)).Nodup
  all : ∀ d ∈ ds, d ∈ us.map (datOf h)
section
variable {P : Program} {w : World} {A : Around} {E : Value → Shared → Prop} {s : Shared} {l : Addr} {Q : Value → Shared → Prop} {its : List Value} {ds : List PyData} {as : List Addr}
theorem once_rows {h : Heap} {ks L : List Row} (t : txtL ds = true) (ra : ReadsAll h its ds as) (e1 : its = ks.map fun p => Value.ref p.1) (e2 : ∀ p ∈ ks, ∃ d bs, d ∈ ds ∧ p.2 = nk d ∧ Reads h (.ref p.1) d bs) (nd : (keysN L).Nodup) (g : GotK (fun p : Row => p.2) ks ks.length L) :
    Once h its ds (L.map fun p => Value.ref p.1) := by
  have sub : ∀ p ∈ L, p ∈ ks := fun p hp => List.mem_of_mem_take (g.sub p hp)
  have dat : ∀ p ∈ ks, p.2 = nk (datOf h (.ref p.1)) ∧ txt (datOf h (.ref p.1)) = true := fun p hp => by
    obtain ⟨d, bs, m, e, r⟩ := e2 p hp
    rw [datOf_eq (txtL_mem t d m) r]
    exact ⟨e, txtL_mem t d m⟩
  refine ⟨fun v hv => ?_, ?_, fun d hd => ?_⟩
  · obtain ⟨p, hp, rfl⟩ := List.mem_map.mp hv
    rw [e1]
    exact List.mem_map.mpr ⟨p, sub p hp, rfl⟩
  · rw [List.map_map]
    refine nodup_on (nodup_back nd) fun p hp q hq e => ?_
    have e' : datOf h (.ref p.1) = datOf h (.ref q.1) := e
    have k : p.2 = q.2 := by rw [(dat p (sub p hp)).1, (dat q (sub q hq)).1, e']
    obtain ⟨i, hi, z1⟩ := List.getElem_of_mem hp
    obtain ⟨j, hj, z2⟩ := List.getElem_of_mem hq
    have inj : i = j := by
      have pw := List.pairwise_iff_getElem.mp nd
      rcases Nat.lt_trichotomy i j with c | c | c
      · have := pw i j (by rw [keysN, List.length_map]; exact hi) (by rw [keysN, List.length_map]; exact hj) c
        simp only [keysN, List.getElem_map, z1, z2] at this
        exact absurd k this
      · exact c
      · have := pw j i (by rw [keysN, List.length_map]; exact hj) (by rw [keysN, List.length_map]; exact hi) c
        simp only [keysN, List.getElem_map, z1, z2] at this
        exact absurd k.symm this
    subst inj
    rw [← z1, ← z2]
  · obtain ⟨v, bs, hv, r⟩ := (reads_mem ra).2 d hd
    rw [e1] at hv
    obtain ⟨p, hp, rfl⟩ := List.mem_map.mp hv
    obtain ⟨q, hq, ek⟩ := List.mem_map.mp (g.all p (by rw [List.take_length]; exact hp))
    refine List.mem_map.mpr ⟨.ref q.1, List.mem_map.mpr ⟨q, hq, rfl⟩, ?_⟩
    have td := txtL_mem t d hd
    have dp := dat p hp
    have dq := dat q (sub q hq)
    have z : nk (datOf h (.ref q.1)) = nk (datOf h (.ref p.1)) := by rw [← dq.1, ← dp.1]; exact ek
    rw [← nk_data _ dq.2, z, nk_data _ dp.2, datOf_eq td r]
theorem once_strs {h : Heap} {ks L : List Tx} (t : txtL ds = true) (ra : ReadsAll h its ds as) (e1 : its = ks.map fun p => Value.str p.1 p.2) (nd : (L.map (·.1)).Nodup) (g : GotK (fun p : Tx => p.1) ks ks.length L) :
    Once h its ds (L.map fun p => Value.str p.1 p.2) := by
  have sub : ∀ p ∈ L, p ∈ ks := fun p hp => List.mem_of_mem_take (g.sub p hp)
  have dat : ∀ (x : Str) (tk : Tok), datOf h (.str x tk) = .str x := fun x tk => datOf_eq rfl (Reads.str x tk)
  refine ⟨fun v hv => ?_, ?_, fun d hd => ?_⟩
  · obtain ⟨p, hp, rfl⟩ := List.mem_map.mp hv
    rw [e1]
    exact List.mem_map.mpr ⟨p, sub p hp, rfl⟩
  · have e : (L.map fun p => Value.str p.1 p.2).map (datOf h) = (L.map (·.1)).map PyData.str := by
      rw [List.map_map, List.map_map]
      exact List.map_congr_left fun p _ => dat p.1 p.2
    rw [e]
    exact nodup_on nd fun x _ y _ z => by injection z
  · obtain ⟨v, bs, hv, r⟩ := (reads_mem ra).2 d hd
    rw [e1] at hv
    obtain ⟨p, hp, rfl⟩ := List.mem_map.mp hv
    obtain ⟨q, hq, ek⟩ := List.mem_map.mp (g.all p (by rw [List.take_length]; exact hp))
    refine List.mem_map.mpr ⟨.str q.1 q.2, List.mem_map.mpr ⟨q, hq, rfl⟩, ?_⟩
    have z := datOf_eq (txtL_mem t d hd) r
    rw [dat] at z ⊢
    rw [← z, show q.1 = p.1 from ek]
theorem rows_exist {h : Heap} : ∀ {ds : List PyData} {its : List Value} {as : List Addr}, ReadsAll h its ds as → (∀ d ∈ ds, isTup1 d = true ∧ txt d = true ∧ d.depth ≤ 8) →
    ∃ ks : List Row, its = (ks.map fun p => Value.ref p.1) ∧ ks.length = ds.length ∧ ∀ p ∈ ks, KAt h p.2 p.1 ∧ ∃ d bs, d ∈ ds ∧ p.2 = nk d ∧ Reads h (.ref p.1) d bs
  | [], _, _, r, _ => by
    cases r
    exact ⟨[], rfl, rfl, fun p hp => absurd hp List.not_mem_nil⟩
  | d :: ds, _, _, r, hk => by
    cases r with
    | cons r1 r2 =>
      obtain ⟨ks, e1, e2, e3⟩ := rows_exist r2 fun e he => hk e (List.mem_cons_of_mem _ he)
      obtain ⟨h1, h2, h3⟩ := hk d List.mem_cons_self
      have is := nk_is d _ _ h2 r1
      obtain ⟨x, m, rfl⟩ := isTup1_eq h1
      obtain ⟨a, o, vs, n, rfl, _⟩ := readsT r1
      refine ⟨(a, nk (.tuple (.str x :: m))) :: ks, by rw [e1, List.map_cons], by rw [List.length_cons, List.length_cons, e2], fun p hp => ?_⟩
      rcases List.mem_cons.mp hp with z | z
      · rw [z]
        exact ⟨⟨is, by rw [nk_depth _ h2]; exact h3⟩, _, _, List.mem_cons_self, rfl, r1⟩
      · obtain ⟨q1, d', bs, q2, q3, q4⟩ := e3 p z
        exact ⟨q1, d', bs, List.mem_cons_of_mem _ q2, q3, q4⟩
theorem strs_exist {h : Heap} : ∀ {ds : List PyData} {its : List Value} {as : List Addr}, ReadsAll h its ds as → (∀ d ∈ ds, isStr d = true) → ∃ ks : List Tx, its = (ks.map fun p => Value.str p.1 p.2) ∧ ks.length = ds.length
  | [], _, _, r, _ => by
    cases r
    exact ⟨[], rfl, rfl⟩
  | d :: ds, _, _, r, hk => by
    cases r with
    | cons r1 r2 =>
      obtain ⟨ks, e1, e2⟩ := strs_exist r2 fun e he => hk e (List.mem_cons_of_mem _ he)
      obtain ⟨x, rfl⟩ := isStr_eq (hk d List.mem_cons_self)
      cases r1 with
      | str _ t => exact ⟨(x, t) :: ks, by rw [e1, List.map_cons], by rw [List.length_cons, List.length_cons, e2]⟩
/-- set(xs) -/
theorem set_data (hh : A.handled = none) (hu : A.units + 20 < cLine) (seq : s.heap.IsList l its.toArray ∨ s.heap.IsTuple l its.toArray) (ra : ReadsAll s.heap its ds as) (O : OkSort ds)
    (h : ∀ (h' : Heap) (tk : Nat) (us : List Value), Walked w h' s.heap.objs.size us → Once s.heap its ds us → (∀ b o, s.heap.get? b = some o → h'.get? b = some o) → Q (.ref s.heap.objs.size) { s with heap := h', toks := tk }) : wpAny (model P w) A (call (.type "set") [.ref l]) Q E s := by
  have hu3 : A.in1.in1.in1.units + 8 < cLine := by
    show A.units + 1 + 1 + 1 + 8 < cLine
    omega
  have few := O.few
  rcases O.kind with hk | hk
  · obtain ⟨ks, e1, e2⟩ := strs_exist ra hk
    have sz : its.toArray.size = ks.length := by rw [List.size_toArray, e1, List.length_map]
    have F1 := fills_strs (P := P) (w := w) (A := A.in1.in1.in1) (S := s.heap.objs.size) (h0 := s.heap) (items := its.toArray) ks e1 (by unfold scanBound; omega)
    have fin : ∀ (h' : Heap) (tk : Nat), (∃ L, SetS w h' s.heap.objs.size L ∧ GotK (fun p : Tx => p.1) ks its.toArray.size L) → (∀ b o, s.heap.get? b = some o → h'.get? b = some o) → Q (.ref s.heap.objs.size) { s with heap := h', toks := tk } := fun h' tk ⟨L, R, g⟩ kn =>
      h h' tk _ R.walked (once_strs O.t ra e1 R.nd (by rw [← sz]; exact g)) kn
    rcases seq with sq | sq
    · exact set_list hh sq F1 (fun g hg _ => new_strs hg) fin
    · exact set_tuple hh sq F1 (fun g hg _ => new_strs hg) fin
  · obtain ⟨ks, e1, e2, e3⟩ := rows_exist ra fun d hd => ⟨hk d hd, txtL_mem O.t d hd, (O.lay d hd).2⟩
    have sz : its.toArray.size = ks.length := by rw [List.size_toArray, e1, List.length_map]
    have F1 := fills_rows (P := P) (w := w) (A := A.in1.in1.in1) (S := s.heap.objs.size) (h0 := s.heap) (items := its.toArray) ks e1 (fun p hp => (e3 p hp).1) (by omega) hu3
    have fin : ∀ (h' : Heap) (tk : Nat), (∃ L es ep t, SetN w h' s.heap.objs.size L es ep t ∧ GotK (fun p : Row => p.2) ks its.toArray.size L) → (∀ b o, s.heap.get? b = some o → h'.get? b = some o) → Q (.ref s.heap.objs.size) { s with heap := h', toks := tk } := fun h' tk ⟨L, es, ep, t, R, g⟩ kn =>
      h h' tk _ R.walked (once_rows O.t ra e1 (fun p hp => (e3 p hp).2) R.nd (by rw [← sz]; exact g)) kn
    rcases seq with sq | sq
    · exact set_list hh sq F1 (fun g hg _ => new_rows hg) fin
    · exact set_tuple hh sq F1 (fun g hg _ => new_rows hg) fin
end
end RB
/-! RS12: sorted(set(e)). -/
namespace RB
open PySem PySem.Spec PyProof.Rows L2
def sortSetB : List PyData → Option PyData
  | [.list ds] => if okSort ds then some (.list (sortT ds)) else none
  | [.tuple ds] => if okSort ds then some (.list (sortT ds)) else none
  | _ => none
theorem pair_mem {K : PySem.W.Frag} {H : Hp} : ∀ {ds : List PyData} {vs : List V} {us : List Value}, RpA K H vs ds → Vals vs us → ∀ u ∈ us, ∃ x d, d ∈ ds ∧ RelV x u ∧ Rp K H x d
  | [], _, _, r, v, u, hu => by
    cases r
    cases v
    cases hu
  | d :: ds, _, _, r, v, u, hu => by
    cases r with
    | cons r1 r2 =>
      cases v with
      | cons v1 v2 =>
        rcases List.mem_cons.mp hu with z | z
        · rw [z]
          exact ⟨_, d, List.mem_cons_self, v1, r1⟩
        · obtain ⟨x, e, m, q1, q2⟩ := pair_mem r2 v2 u z
          exact ⟨x, e, List.mem_cons_of_mem _ m, q1, q2⟩
section
variable {X : Cx}
theorem pe_sortset {a : Expr} {ta : TA} {p p2 q pos : Pos} (hc : X.calm = true) (hu : X.A.units + 64 < cLine) (hg : Gl X "sorted") (hm : X.mg "sorted" = none) (hg2 : Gl X "set") (hm2 : X.mg "set" = none) (ha : PA X [a] ta)
    (he : starEach [a] X.env = (false, eval a X.env) :: starEach [] X.env) :
    PE X (.Call (.Name "sorted" p) [.Call (.Name "set" p2) [a] [] q] [] pos) (fun σ H Q => ta σ H fun xs H1 => rDn X.K sortSetB xs H1 Q) := by
  refine ⟨fun pins s σ H Q I h => ?_⟩
  refine Call_ (ld_blt I hg hm PyProof.Rows.boot_sorted ?_)
  refine PyProof.Rows.callWith_builtin1 (PyProof.Rows.args_cons ?_ rfl) rfl rfl
  refine Call_ (ld_blt I hg2 hm2 PyProof.Rows.boot_set ?_)
  refine PyProof.Rows.callWith_type1 (thn (ha.run q pins s σ H _ I h) fun us s1 ⟨xs, H1, I1, r1, ds0, z, hr, hz, q1⟩ => ?_) he rfl
  have core : ∀ (b : Addr) (vs : List V) (ds : List PyData), us = [Value.ref b] → (SqL X.K H1 b vs ∨ SqT X.K H1 b vs) → RpA X.K H1 vs ds → okSort ds = true → (∀ v H', Same H1 H' → Rp X.K H' v (.list (sortT ds)) → Q v H') →
      wpAny (model X.prog X.w) X.A (call (.type "set") us) (fun v s2 => wpAny (model X.prog X.w) X.A (spliced (backTo pos (starEach [] X.env))) (fun vs s3 => wpAny (model X.prog X.w) X.A (call (.builtin "sorted") (v :: vs)) (EP X pins σ Q) X.xe s3) X.xe s2) X.xe s1 := by
    intro b vs ds eu sq ra ok q2
    have O := okSort_of ok
    have hh := I1.ok.hd hc
    obtain ⟨its, rv, seq⟩ : ∃ its, Vals vs its ∧ (s1.heap.IsList b its.toArray ∨ s1.heap.IsTuple b its.toArray) := by
      rcases sq with sq | sq
      · obtain ⟨its, rv, pl, _⟩ := I1.list sq
        exact ⟨its, rv, .inl pl.isList⟩
      · obtain ⟨its, rv, pl, _⟩ := I1.tuple sq
        exact ⟨its, rv, .inr pl⟩
    obtain ⟨as, rd⟩ := Dp.readsAll I1 ds vs its (RpA.dpR ds vs ra) rv
    have tx : ∀ d ∈ ds, txt d = true := txtL_mem O.t
    have both : ∀ u ∈ its, ∃ x d bs, d ∈ ds ∧ RelV x u ∧ Rp X.K H1 x d ∧ Reads s1.heap u d bs := fun u hu => by
      obtain ⟨x, d, m, r2, r3⟩ := pair_mem ra rv u hu
      obtain ⟨bs, r4⟩ := Dp.reads I1 d x u r3.dp r2
      exact ⟨x, d, bs, m, r2, r3, r4⟩
    rw [eu]
    refine set_data hh (by omega) seq rd O fun h' tk us0 W once kn => PyProof.Rows.args_nil ?_
    have dk : ∀ u ∈ its, datOf h' u = datOf s1.heap u := fun u hu => by
      obtain ⟨x, d, bs, m, _, _, r4⟩ := both u hu
      rw [datOf_eq (tx d m) r4, datOf_eq (tx d m) (PyProof.Rows.Reads.keeps kn r4)]
    refine sorted_walked (s := { s1 with heap := h', toks := tk }) hh W (swo_ltv h') (fun z0 b0 ul pm h2 kp => ?_) fun s' p0 out n k g o hp hget pm srt => ?_
    · refine sortable O (fun v hv => ?_) h2 (by show X.A.units + 1 + 1 + 10 < cLine; omega) kp
      obtain ⟨x, d, bs, m, _, _, r4⟩ := both v (once.sub v (pm.mem_iff.mp hv))
      exact ⟨d, bs, m, PyProof.Rows.Reads.keeps kn r4⟩
    · have sub : ∀ v ∈ out, v ∈ its := fun v hv => once.sub v (pm.mem_iff.mp hv)
      have nd : (out.map (datOf s1.heap)).Nodup := (pm.map _).nodup_iff.mpr once.nd
      have txd : ∀ v ∈ its, txt (datOf s1.heap v) = true ∧ datOf s1.heap v ∈ ds := fun v hv => by
        obtain ⟨x, d, bs, m, _, _, r4⟩ := both v hv
        rw [datOf_eq (tx d m) r4]
        exact ⟨tx d m, m⟩
      have asc : Asc (out.map (datOf s1.heap)) := by
        refine List.pairwise_map.mpr ?_
        have pw := List.pairwise_map.mp nd
        refine List.Pairwise.imp_of_mem (fun {x y} hx hy hxy => ?_) (List.Pairwise.and srt pw)
        obtain ⟨h1, h2⟩ := hxy
        unfold ltv at h1
        rw [dk y (sub y hy), dk x (sub x hx)] at h1
        show Tr.lt _ _ = true
        cases e : Tr.lt (tree (datOf s1.heap x)) (tree (datOf s1.heap y)) with
        | true => rfl
        | false => exact absurd (tree_inj _ _ (txd x (sub x hx)).1 (txd y (sub y hy)).1 (Tr.tot _ _ e h1)) h2
      have eqs : out.map (datOf s1.heap) = sortT ds := by
        obtain ⟨_, a2, a3⟩ := sortT_all O.t
        refine asc_unique asc a2 fun d => ?_
        rw [a3 d]
        constructor
        · intro hd
          obtain ⟨v, hv, rfl⟩ := List.mem_map.mp hd
          exact (txd v (sub v hv)).2
        · intro hd
          obtain ⟨v, hv, e⟩ := List.mem_map.mp (once.all d hd)
          exact List.mem_map.mpr ⟨v, pm.mem_iff.mpr hv, e⟩
      have mk : ∀ l : List Value, (∀ v ∈ l, v ∈ its) → ∃ ys : List V, Vals ys l ∧ RpA X.K H1 ys (l.map (datOf s1.heap)) := by
        intro l
        induction l with
        | nil => exact fun _ => ⟨[], .nil, .nil⟩
        | cons v l ih =>
          intro hl
          obtain ⟨ys, y1, y2⟩ := ih fun u hu => hl u (List.mem_cons_of_mem _ hu)
          obtain ⟨x, d, bs, m, r2, r3, r4⟩ := both v (hl v List.mem_cons_self)
          refine ⟨x :: ys, .cons r2 y1, ?_⟩
          rw [List.map_cons, datOf_eq (tx d m) r4]
          exact .cons r3 y2
      obtain ⟨ys, y1, y2⟩ := mk out sub
      rw [eqs] at y2
      have hp1 : s1.heap.objs.size ≤ p0 := by
        refine Nat.le_trans ?_ hp
        obtain ⟨es, ep, t, ⟨oS, hoS, _⟩, _⟩ := W
        exact Nat.le_of_lt (Heap.lt_size hoS)
      have hn : H1 p0 = none := I1.hok.fresh hp1
      have kk : ∀ c u, s1.heap.get? c = some u → s'.heap.get? c = some u := fun c u e => k c u (kn c u e)
      have hlen : ys.length ≤ sizeLine := by
        have e1 : ys.length = out.length := Vals.length y1
        have e2 : out.length ≤ its.length := by
          have sl : (out.map (datOf s1.heap)).length ≤ ds.length := by
            rw [eqs]
            obtain ⟨_, b2, b3⟩ := sortT_all O.t
            have nds : (sortT ds).Nodup := by
              rw [← eqs]
              exact nd
            exact nds.length_le_of_subset fun d hd => (b3 d).mp hd
          rw [List.length_map] at sl
          rw [readsLen rd]
          exact sl
        have e3 : its.length = ds.length := readsLen rd
        have := O.few
        rw [sizeLine_eq]
        omega
      have J : Inv X pins σ (upd H1 p0 (.lst ys)) { s1 with heap := s'.heap, gens := s'.gens, drawn := s'.drawn, toks := s'.toks } :=
        I1.call (ch := []) (Un.laid kk hp1 hn) (I1.hok.laid kk hp1 ⟨hlen, out, n, y1, hget⟩) (by rw [g]; exact I1.bare) (fun _ z => nomatch z)
      have es' : s' = { s1 with heap := s'.heap, gens := s'.gens, drawn := s'.drawn, toks := s'.toks } := by
        obtain ⟨a1, a2, a3, a4, a5⟩ := s'
        have o' : a5 = s1.os := o
        rw [o']
      rw [es']
      exact EP.lock ⟨.ref p0, _, J, rfl, p0, ys, rfl, hn, rfl, fun o' => q2 _ _ (same_new2 hn) (rp_lst hn y2 o')⟩
  match ds0, hz with
  | [.list ds], hz =>
    have hz' : (if okSort ds then some (PyData.list (sortT ds)) else none) = some z := hz
    by_cases ok : okSort ds = true
    · rw [if_pos ok] at hz'
      cases hz'
      obtain ⟨v, rfl, hv⟩ := hr.one
      obtain ⟨b, vs, rfl, sa, ra⟩ := hv.list
      exact core b vs ds (Vals.ref1 r1) (.inl sa) ra ok q1
    · rw [if_neg ok] at hz'
      cases hz'
  | [.tuple ds], hz =>
    have hz' : (if okSort ds then some (PyData.list (sortT ds)) else none) = some z := hz
    by_cases ok : okSort ds = true
    · rw [if_pos ok] at hz'
      cases hz'
      obtain ⟨v, rfl, hv⟩ := hr.one
      obtain ⟨b, vs, rfl, sa, ra⟩ := hv.tup
      exact core b vs ds (Vals.ref1 r1) (.inr sa) ra ok q1
    · rw [if_neg ok] at hz'
      cases hz'
end
end RB
/-! RS13: sorted(e), e a list of different things. -/
namespace RB
open PySem PySem.Spec PyProof.Rows L2
/-- all different, decided -/
def diffB : List PyData → Bool
  | [] => true
  | d :: ds => (ds.all fun e => !beqD d e) && diffB ds
mutual
theorem beqD_refl : ∀ (x : PyData), txt x = true → beqD x x = true
  | .str a, _ => by rw [beqD]; exact beq_self_eq_true a
  | .tuple xs, h => by
    rw [beqD]
    exact beqL_refl xs (by unfold txt at h; exact h)
  | .none, h => by unfold txt at h; cases h
  | .bool _, h => by unfold txt at h; cases h
  | .int _, h => by unfold txt at h; cases h
  | .list _, h => by unfold txt at h; cases h
  | .dict _, h => by unfold txt at h; cases h
theorem beqL_refl : ∀ (xs : List PyData), txtL xs = true → beqL xs xs = true
  | [], _ => by rw [beqL]
  | x :: xs, h => by
    unfold txtL at h
    obtain ⟨h1, h2⟩ := Bool.and_eq_true_iff.mp h
    rw [beqL, beqD_refl x h1, beqL_refl xs h2]
    rfl
end
theorem diffB_nd : ∀ {ds : List PyData}, txtL ds = true → diffB ds = true → ds.Nodup
  | [], _, _ => List.nodup_nil
  | d :: ds, t, h => by
    unfold txtL at t
    obtain ⟨t1, t2⟩ := Bool.and_eq_true_iff.mp t
    unfold diffB at h
    obtain ⟨h1, h2⟩ := Bool.and_eq_true_iff.mp h
    refine List.nodup_cons.mpr ⟨fun m => ?_, diffB_nd t2 h2⟩
    have q := List.all_eq_true.mp h1 d m
    rw [beqD_refl d t1] at q
    cases q
theorem nd_diffB : ∀ {ds : List PyData}, ds.Nodup → diffB ds = true
  | [], _ => rfl
  | d :: ds, h => by
    obtain ⟨h1, h2⟩ := List.nodup_cons.mp h
    unfold diffB
    rw [nd_diffB h2, Bool.and_true]
    refine List.all_eq_true.mpr fun e he => ?_
    cases q : beqD d e with
    | false => rfl
    | true =>
      rw [beqD_eq d e q] at h1
      exact absurd he h1
def sortLB : List PyData → Option PyData
  | [.list ds] => if okSort ds && diffB ds then some (.list (sortT ds)) else none
  | _ => none
theorem reads_map {h : Heap} : ∀ {ds : List PyData} {vs : List Value} {as : List Addr}, txtL ds = true → ReadsAll h vs ds as → vs.map (datOf h) = ds
  | [], _, _, t, r => by
    cases r
    rfl
  | e :: ds, _, _, t, r => by
    unfold txtL at t
    obtain ⟨t1, t2⟩ := Bool.and_eq_true_iff.mp t
    cases r with
    | cons r1 r2 => rw [List.map_cons, datOf_eq t1 r1, reads_map t2 r2]
section
variable {X : Cx}
theorem cr_sortL (hu : X.A.units + 64 < cLine) : CallR X (.builtin "sorted") (rDn X.K sortLB) := by
  intro pins s1 σ H1 xs us Q I1 r1 hq
  obtain ⟨ds0, z, hr, hz, q1⟩ := hq
  have core : ∀ (b : Addr) (vs : List V) (ds : List PyData), us = [Value.ref b] → SqL X.K H1 b vs → RpA X.K H1 vs ds → okSort ds = true → diffB ds = true → (∀ v H', Same H1 H' → Rp X.K H' v (.list (sortT ds)) → Q v H') →
      wpAny (model X.prog X.w) X.A (call (.builtin "sorted") us) (EP X pins σ Q) X.xe s1 := by
    intro b vs ds eu sq ra ok df q2
    have O := okSort_of ok
    obtain ⟨its, rv, pl, hzz⟩ := I1.list sq
    have isl : s1.heap.IsList b its.toArray := pl.isList
    obtain ⟨as, rd⟩ := Dp.readsAll I1 ds vs its (RpA.dpR ds vs ra) rv
    have tx : ∀ d ∈ ds, txt d = true := txtL_mem O.t
    have both : ∀ u ∈ its, ∃ x d bs, d ∈ ds ∧ RelV x u ∧ Rp X.K H1 x d ∧ Reads s1.heap u d bs := fun u hu => by
      obtain ⟨x, d, m, r2, r3⟩ := pair_mem ra rv u hu
      obtain ⟨bs, r4⟩ := Dp.reads I1 d x u r3.dp r2
      exact ⟨x, d, bs, m, r2, r3, r4⟩
    have em := reads_map O.t rd
    have lz : its.length ≤ sizeLine := by
      rw [← Vals.length rv]; exact hzz
    rw [eu]
    refine SrtO.sorted_ord (s := s1) (swo_ltv s1.heap) isl lz (fun h2 h1 a _ kp => ?_) fun out srt stb => ?_
    · refine sortable (z := { s1 with heap := h1 }) O (fun v hv => ?_) h2 (by show X.A.units + 1 + 1 + 10 < cLine; omega) kp
      obtain ⟨x, d, bs, m, _, _, r4⟩ := both v hv
      exact ⟨d, bs, m, r4⟩
    · have pm : out.Perm its := stb.perm
      have sub : ∀ v ∈ out, v ∈ its := fun v hv => pm.mem_iff.mp hv
      have nd : (out.map (datOf s1.heap)).Nodup := (pm.map _).nodup_iff.mpr (by rw [em]; exact diffB_nd O.t df)
      have txd : ∀ v ∈ its, txt (datOf s1.heap v) = true ∧ datOf s1.heap v ∈ ds := fun v hv => by
        obtain ⟨x, d, bs, m, _, _, r4⟩ := both v hv
        rw [datOf_eq (tx d m) r4]
        exact ⟨tx d m, m⟩
      have asc : Asc (out.map (datOf s1.heap)) := by
        refine List.pairwise_map.mpr ?_
        have pw := List.pairwise_map.mp nd
        refine List.Pairwise.imp_of_mem (fun {x y} hx hy hxy => ?_) (List.Pairwise.and srt pw)
        obtain ⟨h1, h2⟩ := hxy
        unfold ltv at h1
        show Tr.lt _ _ = true
        cases e : Tr.lt (tree (datOf s1.heap x)) (tree (datOf s1.heap y)) with
        | true => rfl
        | false => exact absurd (tree_inj _ _ (txd x (sub x hx)).1 (txd y (sub y hy)).1 (Tr.tot _ _ e h1)) h2
      have eqs : out.map (datOf s1.heap) = sortT ds := by
        obtain ⟨_, a2, a3⟩ := sortT_all O.t
        refine asc_unique asc a2 fun d => ?_
        rw [a3 d]
        constructor
        · intro hd
          obtain ⟨v, hv, rfl⟩ := List.mem_map.mp hd
          exact (txd v (sub v hv)).2
        · intro hd
          rw [← em] at hd
          obtain ⟨v, hv, e⟩ := List.mem_map.mp hd
          exact List.mem_map.mpr ⟨v, pm.mem_iff.mpr hv, e⟩
      have mk : ∀ l : List Value, (∀ v ∈ l, v ∈ its) → ∃ ys : List V, Vals ys l ∧ RpA X.K H1 ys (l.map (datOf s1.heap)) := by
        intro l
        induction l with
        | nil => exact fun _ => ⟨[], .nil, .nil⟩
        | cons v l ih =>
          intro hl
          obtain ⟨ys, y1, y2⟩ := ih fun u hu => hl u (List.mem_cons_of_mem _ hu)
          obtain ⟨x, d, bs, m, r2, r3, r4⟩ := both v (hl v List.mem_cons_self)
          refine ⟨x :: ys, .cons r2 y1, ?_⟩
          rw [List.map_cons, datOf_eq (tx d m) r4]
          exact .cons r3 y2
      obtain ⟨ys, y1, y2⟩ := mk out sub
      rw [eqs] at y2
      have hp1 : s1.heap.objs.size ≤ s1.heap.objs.size + 1 := Nat.le_succ _
      have hn : H1 (s1.heap.objs.size + 1) = none := I1.hok.fresh hp1
      have kk : ∀ c u, s1.heap.get? c = some u → (sortedAll s1.heap its out.toArray).get? c = some u := fun c u e => sortedAll_old e
      obtain ⟨n, hget⟩ := sortedAll_at s1.heap its out.toArray
      have hlen : ys.length ≤ sizeLine := by
        rw [Vals.length y1, pm.length_eq]
        exact lz
      have J : Inv X pins σ (upd H1 (s1.heap.objs.size + 1) (.lst ys)) { s1 with heap := sortedAll s1.heap its out.toArray, gens := s1.gens, drawn := s1.drawn, toks := s1.toks } :=
        I1.call (ch := []) (Un.laid kk hp1 hn) (I1.hok.laid kk hp1 ⟨hlen, out, n, y1, hget⟩) I1.bare (fun _ z => nomatch z)
      exact EP.lock ⟨.ref _, _, J, rfl, _, ys, rfl, hn, rfl, fun o' => q2 _ _ (same_new2 hn) (rp_lst hn y2 o')⟩
  match ds0, hz with
  | [.list ds], hz =>
    have hz' : (if okSort ds && diffB ds then some (PyData.list (sortT ds)) else none) = some z := hz
    by_cases ok : (okSort ds && diffB ds) = true
    · rw [if_pos ok] at hz'
      cases hz'
      obtain ⟨o1, o2⟩ := Bool.and_eq_true_iff.mp ok
      obtain ⟨v, rfl, hv⟩ := hr.one
      obtain ⟨b, vs, rfl, sa, ra⟩ := hv.list
      exact core b vs ds (Vals.ref1 r1) sa ra o1 o2 q1
    · rw [if_neg ok] at hz'
      cases hz'
end
end RB
/-! RC1: x[::-1] of a tuple. -/
namespace RB
open PySem PySem.Spec PyProof.Rows L2
section
variable {P : Program} {w : World} {A : Around} {E : Value → Shared → Prop} {s : Shared}
theorem rev_places (n : Nat) : Builtin.Slice.slicePlaces ((n : Int) - 1) (-1) (-1) = n := by
  unfold Builtin.Slice.slicePlaces
  have h1 : ¬ ((-1 : Int) > 0) := by decide
  simp only [h1, if_false]
  by_cases h : (n : Int) - 1 > -1
  · simp only [h, if_true]
    rw [show (- -1 : Int) = 1 by decide, Int.ediv_one]
    omega
  · simp only [h, if_false]
    omega
theorem rev_adjust (n : Nat) : Builtin.Slice.sliceAdjust none none (-1) (n : Int) = ((n : Int) - 1, -1) := by
  unfold Builtin.Slice.sliceAdjust
  simp
theorem rev_pick (xs : Array Value) : ((List.range xs.size).filterMap fun (m : Nat) => xs[(((xs.size : Int) - 1) + (m : Int) * (-1)).toNat]?).toArray = xs.toList.reverse.toArray := by
  have e : (List.range xs.size).filterMap (fun (m : Nat) => xs[(((xs.size : Int) - 1) + (m : Int) * (-1)).toNat]?) = ((List.range xs.size).map fun k => xs.size - 1 - k).filterMap (xs[·]?) := by
    have go : ∀ l : List Nat, (∀ m ∈ l, m < xs.size) → l.filterMap (fun (m : Nat) => xs[(((xs.size : Int) - 1) + (m : Int) * (-1)).toNat]?) = (l.map fun k => xs.size - 1 - k).filterMap (xs[·]?) := by
      intro l
      induction l with
      | nil => exact fun _ => rfl
      | cons m l ih =>
        intro hl
        have hm := hl m List.mem_cons_self
        have e0 : (((xs.size : Int) - 1) + (m : Int) * (-1)).toNat = xs.size - 1 - m := by omega
        rw [List.map_cons, List.filterMap_cons, List.filterMap_cons, e0, ih fun k hk => hl k (List.mem_cons_of_mem _ hk)]
    exact go _ fun m hm => List.mem_range.mp hm
  rw [e, PySem.W.krv_range, List.filterMap_reverse, PySem.W.krv_all]
theorem rev_applied {sl : Addr} {vl vu vk : Value} {n : Nat} {Q : Int × Int × Nat → Shared → Prop} (hs : s.heap.IsSliceOf sl vl vu vk) (pl : IsPart vl none) (pu : IsPart vu none) (pk : IsPart vk (some (-1))) (h : Q ((n : Int) - 1, -1, n) s) :
    wpAny (model P w) A (Builtin.Slice.sliceApplied (.ref sl) (pure (n : Int))) Q E s := by
  obtain ⟨os, hos, hcs, hds⟩ := id hs
  unfold Builtin.Slice.sliceApplied Builtin.Slice.sliceFields
  refine wpAny_bind (wpAny_bind (wpAny_field hos hds (x := vl) rfl (wpAny_bind (wpAny_field hos hds (x := vu) rfl (wpAny_bind (wpAny_field hos hds (x := vk) rfl (wpAny_pure ?_)))))))
  refine wpAny_bind (HT.slicePart_ pk ?_)
  show wpAny _ _ (if ((-1 : Int) == 0) = true then _ else _) _ _ s
  rw [if_neg (by decide)]
  refine wpAny_bind (HT.slicePart_ pl (wpAny_bind (HT.slicePart_ pu (wpAny_bind (wpAny_pure ?_)))))
  show wpAny _ _ (match Builtin.Slice.sliceAdjust none none (-1) (n : Int) with | (lo, hi) => pure (lo, (-1 : Int), Builtin.Slice.slicePlaces lo hi (-1))) _ _ s
  rw [rev_adjust]
  show wpAny _ _ (pure ((n : Int) - 1, (-1 : Int), Builtin.Slice.slicePlaces ((n : Int) - 1) (-1) (-1))) _ _ s
  rw [rev_places]
  exact wpAny_pure h
theorem tuple_rev {t sl : Addr} {items : Array Value} {vl vu vk : Value} {Q : Value → Shared → Prop} (ht : IsTup s.heap t items) (hs : s.heap.IsSliceOf sl vl vu vk) (pl : IsPart vl none) (pu : IsPart vu none) (pk : IsPart vk (some (-1)))
    (h : Q (.ref s.heap.objs.size) { s with heap := s.heap.push { cls := .type "tuple", data := .seq items.toList.reverse.toArray } }) (hsz : items.size ≤ sizeLine) : wpAny (model P w) A (getItem (.ref t) (.ref sl)) Q E s := by
  obtain ⟨os, hos, hcs, hds⟩ := id hs
  have hTs : s.TypeIs (.ref sl) "slice" := ⟨os, hos, hcs⟩
  have htake : sizeOk (.seq items.toList.reverse.toArray) := by
    show items.toList.reverse.toArray.size ≤ sizeLine
    rw [List.size_toArray, List.length_reverse, Array.length_toList]
    exact hsz
  unfold getItem
  try with_reducible refine wpAny_holding ?_
  first | refine wpAny_bind (wpAny_pure ?_) | skip
  refine wpAny_bind (wpAny_sequenceKey ht.typeIs (by decide) ?_)
  refine wpAny_bind (wpAny_callSpecial?_slot (name := Str.ofString "__getitem__") ht.typeIs PyProof.Rows.slot_tuple_getitem (wpAny_call_entry PyProof.Rows.slot_tuple_getitem ht.typeIs entry_tuple_getitem ?_ (args_tuple_getitem _ _)))
  show wpAny _ _ (Builtin.Tuple.tupleItemsOf (.ref t) >>= _) _ _ s
  refine wpAny_bind (tupleItemsOf_ ht (wpAny_bind (wpAny_typeOf hTs ?_)))
  rw [if_pos (by decide)]
  refine wpAny_bind (rev_applied hs pl pu pk ?_)
  have hno : ¬ ((((items.size : Int) - 1) == 0 && (-1 : Int) == 1 && items.size == items.size) = true) := by
    rw [show ((-1 : Int) == 1) = false from rfl, Bool.and_false, Bool.false_and]
    exact Bool.false_ne_true
  show wpAny _ _ (if (((items.size : Int) - 1) == 0 && (-1 : Int) == 1 && items.size == items.size) = true then _ else _) _ _ s
  rw [if_neg hno, rev_pick]
  first
    | exact wpAny_bind (m := Builtin.Tuple.tupleExact _) (wpAny_newObj_type (wpAny_pure ⟨_, rfl, wpAny_pure h⟩) htake)
    | exact wpAny_bind (m := Builtin.Tuple.tupleExact _) (wpAny_newObj_type (wpAny_bind (wpAny_pure (wpAny_pure ⟨_, rfl, wpAny_pure h⟩))) htake)
    | exact wpAny_bind (wpAny_bind (m := Builtin.Tuple.tupleExact _) (wpAny_newObj_type (wpAny_pure (wpAny_pure ⟨_, rfl, wpAny_pure h⟩)) htake))
    | exact wpAny_bind (wpAny_bind (m := Builtin.Tuple.tupleExact _) (wpAny_newObj_type (wpAny_pure ⟨_, rfl, wpAny_pure h⟩) htake))
end
/-- the data of x[::-1] -/
def revD : PyData → Option PyData
  | .tuple ds => some (.tuple ds.reverse)
  | _ => none
theorem pf_rev {X : Cx} {G : Gb} {E : XK} {e : Expr} {g : FE} {k : Nat} {p1 p2 p3 pos : Pos} (hK : X.K = G.K) (he : PE X e (tF G E g)) : PE X (.Subscript e (.Slice none none (some (.UnaryOp .USub (.Constant (.int 1) k p1) p2)) p3) pos) (tF G E (fUn revD g)) := by
  refine ⟨fun pins s σ H Q I ⟨ρ, l, h, sm, sl, rn⟩ => ?_⟩
  refine Subscript_ (thn (he.run pins s σ H _ I ⟨ρ, l, h, sm, sl, rn.bind⟩) fun v s1 ⟨x, H1, I1, r1, ρ1, h1, u, e1, sm1, ru, _, n1⟩ => ?_)
  cases q : unU revD h1 u with
  | none => rw [q] at n1; exact n1.elim
  | some z =>
  rw [q] at n1
  obtain ⟨d, w, q1, q2, rfl⟩ := unU_some q
  obtain ⟨ds, rfl, rfl⟩ : ∃ ds, d = .tuple ds ∧ w = .tuple ds.reverse := by
    cases d with
    | tuple ds => exact ⟨ds, rfl, (Option.some.inj q2).symm⟩
    | _ => exact nomatch q2
  obtain ⟨a, xs, rfl, hx, ra⟩ := (datU_rq sm1 ru q1).tup
  cases r1
  have hst : PO X (some (.UnaryOp .USub (.Constant (.int 1) k p1) p2)) (tPart (tUn (rU fun i => .int (-i)) (tC (.int 1)))) := po_some (pe_un un_neg pe_int)
  refine wpAny_Slice (thn (po_none.run pins s1 σ H1 (fun o H2 => o = none ∧ H2 = H1) I1 ⟨rfl, rfl⟩) fun vl s2 ⟨l2, H2, I2, pl, el, e2⟩ => ?_)
  subst el e2
  refine thn (po_none.run pins s2 σ H2 (fun o H3 => o = none ∧ H3 = H2) I2 ⟨rfl, rfl⟩) fun vu s3 ⟨u3, H3, I3, pu, eu, e3⟩ => ?_
  subst eu e3
  refine thn (hst.run pins s3 σ H3 (fun o H4 => o = some (-1) ∧ H4 = H3) I3 ⟨1, rfl, -1, rfl, rfl, rfl⟩) fun vs s4 ⟨o, H4, I4, ps, eo, e4⟩ => ?_
  subst eo e4
  have I5 : Inv X pins σ H4 { s4 with heap := s4.heap.push { cls := .type "slice", data := .fields #[vl, vu, vs] } } := I4.kept (t' := s4.toks) fun b ob q => Heap.get?_push_of_some _ q
  obtain ⟨its, r, ht, hz⟩ := I5.tuple (by rw [hK]; exact hx)
  have hlen := r.length
  show wpAny (model X.prog X.w) X.A (subscriptTail e (.Slice none none (some (.UnaryOp .USub (.Constant (.int 1) k p1) p2)) p3) (.ref a) (.ref s4.heap.objs.size)) (EP X pins σ Q) X.xe { s4 with heap := s4.heap.push { cls := .type "slice", data := .fields #[vl, vu, vs] } }
  refine tail_any (ops := [.ref a, .ref s4.heap.objs.size]) ht.typeIs PyProof.Rows.slot_tuple_getitem.lookup ?_ (by with_unfolding_all rfl)
  refine tuple_rev ht (Heap.IsSliceOf.new _ vl vu vs) pl pu ps ?_ (by rw [List.size_toArray]; omega)
  have hn := I5.hok.fresh (Nat.le_refl _)
  refine ⟨.ref _, _, I5.laid (t' := s4.toks) (o := .tup xs.reverse) (fun b ob q => Heap.get?_push_of_some _ q) (Nat.le_refl _) ?_, rfl, Rn.at_ n1 (.grow (same_new hn)) (sm1.grow (same_new hn)) (rp_tup hn ra.rev)⟩
  exact ⟨by rw [List.length_reverse]; exact hz, _, r.reverse, IsTup.new _ _⟩
end RB
/-! RC2: {'k': e, ..}: a new place. -/
namespace RB
open PySem PySem.Spec PyProof.Rows L2
section
variable {X : Cx} {G : Gb} {E : XK}
/-- what was laid ahead of the items is made a place behind them -/
theorem Sim.adopt {ρ ρ1 : Nat → Addr} {h h1 : AH} {H H2 : Hp} {p : Addr} {u : HO} {o : O} (sm0 : Sim G ρ h H) (hp : H p = none) (e : Ext ρ h (upd H p (.dK [])) ρ1 h1 H2) (sm : Sim G ρ1 h1 H2) (h2 : H2 p = some (.dK [])) (ho : OR G.K (upd H2 p u) p o) :
    ∃ ρ', Ext ρ h H ρ' (h1 ++ [o]) (upd H2 p u) ∧ Sim G ρ' (h1 ++ [o]) (upd H2 p u) ∧ ρ' h1.length = p := by
  have kp : Keep H2 (upd H2 p u) := keep_mut h2 True.intro
  have k0 : Keep H (upd H p (.dK [])) := .same (same_new hp)
  have pne : ∀ n, n < h1.length → ρ1 n ≠ p := fun n hn z => by
    by_cases hl : n < h.length
    · rw [e.same n hl] at z
      obtain ⟨w, ew, _⟩ := (sm0.obj n h[n] (List.getElem?_eq_getElem hl)).some
      rw [z, hp] at ew
      cases ew
    · have q := e.new n (by omega) hn
      rw [z, upd_same] at q
      cases q
  have hl1 : (h1 ++ [o]).length = h1.length + 1 := by simp
  refine ⟨fun n => if n = h1.length then p else ρ1 n, ⟨(k0.trans e.keep).trans kp, ?_, fun n hn => ?_, fun b ob q hb ht => ?_, fun n a1 a2 => ?_, fun b q => ?_⟩, ⟨fun n on q => ?_, fun n m hn hm q => ?_, fun t ht => ?_⟩, if_pos rfl⟩
  · have := e.len
    omega
  · have := e.len
    show (if n = h1.length then p else ρ1 n) = ρ n
    rw [if_neg (by omega)]
    exact e.same n hn
  · have bp : b ≠ p := ne_of_none q hp
    rw [upd_ne bp]
    exact e.frame b ob (by rw [upd_ne bp]; exact q) hb ht
  · show Fr (H (if n = h1.length then p else ρ1 n))
    by_cases z : n = h1.length
    · rw [if_pos z, hp]
      exact True.intro
    · rw [if_neg z]
      have q := e.new n a1 (by omega)
      rw [upd_ne (pne n (by omega))] at q
      exact q
  · by_cases bp : b = p
    · rw [bp, hp]
      exact True.intro
    rw [upd_ne bp] at q
    have q2 := e.there b q
    rw [upd_ne bp] at q2
    exact q2
  · show OR G.K (upd H2 p u) (if n = h1.length then p else ρ1 n) on
    by_cases z : n = h1.length
    · rw [if_pos z]
      rw [z, List.getElem?_append_right (Nat.le_refl _), Nat.sub_self] at q
      cases q
      exact ho
    · have hn : n < h1.length := by
        have := (List.getElem?_eq_some_iff.mp q).1
        omega
      rw [if_neg z]
      rw [List.getElem?_append_left hn] at q
      have hx := sm.obj n on q
      cases on with
      | lst ds => obtain ⟨ws, e1, r⟩ := hx; exact ⟨ws, by rw [upd_ne (pne n hn)]; exact e1, r.kp kp⟩
      | dct kvs => obtain ⟨ws, e1, r⟩ := hx; exact ⟨ws, by rw [upd_ne (pne n hn)]; exact e1, pairK kp r⟩
  · have q' : (if n = h1.length then p else ρ1 n) = (if m = h1.length then p else ρ1 m) := q
    by_cases z : n = h1.length
    · by_cases y : m = h1.length
      · omega
      · rw [if_pos z, if_neg y] at q'
        exact absurd q'.symm (pne m (by omega))
    · by_cases y : m = h1.length
      · rw [if_neg z, if_pos y] at q'
        exact absurd q' (pne n (by omega))
      · rw [if_neg z, if_neg y] at q'
        exact sm.inj n m (by omega) (by omega) q'
  · obtain ⟨ps, e1, tr, hc⟩ := sm.tab t ht
    refine ⟨ps, ?_, tr, fun pos cv q => ?_⟩
    · rw [upd_ne (fun z => by rw [z, h2] at e1; cases e1)]
      exact e1
    · obtain ⟨c, e2, e3⟩ := hc pos cv q
      refine ⟨c, e2, ?_⟩
      rw [upd_ne (fun z => by rw [z, h2] at e3; cases e3)]
      exact e3
def fDct (ks : List Str) (a : FA) : FE := fun l h => (a l h).bind fun us h1 => match allD us with
  | some ds => if ds.length = ks.length then .ok (.r h1.length) (h1 ++ [.dct (ks.zip ds)]) else .stuck
  | none => .stuck
/-- values, one behind the other -/
def semVs : List FE → FA
  | [] => fNil
  | g :: gs => fCons g (semVs gs)
inductive PV (X : Cx) (G : Gb) (E : XK) (pos : Pos) : List Str → List (Option Expr) → List Expr → List FE → Prop
  | nil : PV X G E pos [] [] [] []
  | cons {k : Str} {j : Nat} {p : Pos} {v : Expr} {g : FE} {ks : List Str} {keys : List (Option Expr)} {vs : List Expr} {gs : List FE} : PE X v (tF G E g) → PV X G E pos ks keys vs gs → PV X G E pos (k :: ks) (some (.Constant (.str k) j p) :: keys) (v :: vs) (g :: gs)
theorem PV.pps {pos : Pos} {ks : List Str} {keys : List (Option Expr)} {vs : List Expr} {gs : List FE} (h : PV X G E pos ks keys vs gs) : PPs X pos keys vs ((ks.zip gs).map fun q => (tC (.str q.1), tF G E q.2)) ∧ keys.all (·.isSome) = true ∧ keys.length = vs.length ∧ ks.length = gs.length ∧ keys.length = ks.length := by
  induction h with
  | nil => exact ⟨pps_nil, rfl, rfl, rfl, rfl⟩
  | cons hv _ ih =>
    obtain ⟨a, b, c, d, e⟩ := ih
    exact ⟨pps_cons pe_str hv a, by simp only [List.all_cons, b]; rfl, by simp only [List.length_cons, c], by simp only [List.length_cons, d], by simp only [List.length_cons, e]⟩
theorem pairs_of : ∀ {ks : List Str} {gs : List FE} {σ : L2.St} {l : Lc} {ρ : Nat → Addr} {h : AH} {H : Hp} {Q : List (V × V) → Hp → Prop}, ks.length = gs.length → Sim G ρ h H → Sl G.K H ρ h σ l →
    Rn G (RelUs G) E (semVs gs l h) ρ h H (fun vs H' => Q ((ks.map V.str).zip vs) H') → tPairs ((ks.zip gs).map fun q => (tC (.str q.1), tF G E q.2)) σ H Q
  | [], [], σ, l, ρ, h, H, Q, _, sm, sl, n => by
    have n' : Rn G (RelUs G) E (.ok [] h) ρ h H (fun vs H' => Q ((([] : List Str).map V.str).zip vs) H') := n
    exact Rn.here (b := ([] : List V)) n' sm Paired.nil
  | k :: ks, g :: gs, σ, l, ρ, h, H, Q, hl, sm, sl, n => by
    show tF G E g σ H fun y H2 => tPairs _ σ H2 fun ps H3 => Q ((V.str k, y) :: ps) H3
    have n' : Rn G (RelUs G) E ((g l h).bind fun x h1 => (semVs gs l h1).bind fun xs h2 => .ok (x :: xs) h2) ρ h H (fun vs H' => Q (((k :: ks).map V.str).zip vs) H') := n
    refine ⟨ρ, l, h, sm, sl, n'.bind.mono ?_⟩
    rintro y H1 ⟨ρ1, h1, u, e1, s1, r1, _, n1⟩
    refine pairs_of (by simpa using hl) s1 (sl.ext e1) (n1.bind.mono ?_)
    rintro vs H2 ⟨ρ2, h2, us, e2, s2, r2, _, n2⟩
    exact Rn.here (b := y :: vs) n2 s2 (.cons (RU.ext r1 e2) r2)
theorem merge_new : ∀ (more acc : List (Key × V)), ((acc ++ more).map (·.1)).Nodup → mergeK acc more = acc ++ more
  | [], acc, _ => by rw [List.append_nil]; rfl
  | (k, v) :: more, acc, nd => by
    have nk : valV acc k = none := by
      cases q : valV acc k with
      | none => rfl
      | some x =>
        exfalso
        have hm : k ∈ acc.map (·.1) := by
          unfold valV at q
          obtain ⟨kv, e1, _⟩ := Option.map_eq_some_iff.mp q
          have e2 := List.find?_some e1
          exact List.mem_map.mpr ⟨kv, List.mem_of_find?_eq_some e1, of_decide_eq_true e2⟩
        rw [List.map_append, List.nodup_append] at nd
        exact nd.2.2 k hm k (by simp) rfl
    show mergeK (putK acc k v) more = _
    rw [putK_new v nk, merge_new more (acc ++ [(k, v)]) (by simpa using nd), List.append_assoc]
    rfl
theorem rpk_zip {K : PySem.W.Frag} {H : Hp} : ∀ {ks : List Str} {vs : List V} {ds : List PyData}, RpA K H vs ds → Paired (RpK K H) ((ks.map Sum.inr).zip vs) (ks.zip ds)
  | [], _, _, _ => .nil
  | _ :: _, _, [], r => by cases r; exact .nil
  | k :: ks, _, d :: ds, r => by
    cases r with
    | cons r1 r2 => exact .cons ⟨rfl, r1⟩ (rpk_zip r2)
theorem pf_dct {pos : Pos} {ks : List Str} {keys : List (Option Expr)} {vs : List Expr} {gs : List FE} (h : PV X G E pos ks keys vs gs) (nd : ks.Nodup) (h0 : ks ≠ []) (h15 : ks.length ≤ 15) : PE X (.Dict keys vs pos) (tF G E (fDct ks (semVs gs))) := by
  obtain ⟨pp, a1, a2, a3, a4⟩ := h.pps
  refine PE.imp (pe_disp pp a1 a2 (fun z => h0 (List.eq_nil_of_length_eq_zero (by rw [← a4, z]; rfl))) (by omega)) fun σ H Q ⟨ρ, l, h, sm, sl, rn⟩ p hp => ?_
  have g0 : Ext ρ h H ρ h (upd H p (.dK [])) := .grow (same_new hp)
  refine pairs_of a3 (sm.grow (same_new hp)) (sl.ext g0) ?_
  have rn' : Rn G (RelU G) E ((semVs gs l h).bind fun us h1 => match allD us with
    | some ds => if ds.length = ks.length then .ok (.r h1.length) (h1 ++ [.dct (ks.zip ds)]) else .stuck
    | none => .stuck) ρ h H Q := rn
  have key : ∀ (r : R (List U)), Rn G (RelU G) E (r.bind fun us h1 => match allD us with
    | some ds => if ds.length = ks.length then .ok (.r h1.length) (h1 ++ [.dct (ks.zip ds)]) else .stuck
    | none => .stuck) ρ h H Q → Rn G (RelUs G) E r ρ h (upd H p (.dK [])) (fun vs H' => H' p = some (.dK []) ∧ ∃ kvs : List (Key × V), (ks.map V.str).zip vs = kvs.map (fun kv => (kV kv.1, kv.2)) ∧ kvs.length ≤ 15 ∧ Q (.ref p) (upd H' p (.dK (mergeK [] kvs)))) := by
    intro r n
    cases r with
    | stuck => exact n
    | exc c fs h2 => exact fun ρ2 H2 C dd e2 s m d => n ρ2 H2 C dd (g0.trans e2) s m d
    | ok us h1 =>
      intro ρ1 H1 ws e1 s1 r1
      have pfr : H1 p = some (.dK []) := by
        refine e1.frame p _ upd_same (fun n hn z => ?_) (fun ps z => by cases z)
        obtain ⟨w, ew, _⟩ := (sm.obj n h[n] (List.getElem?_eq_getElem hn)).some
        rw [z, hp] at ew
        cases ew
      have n1 : Rn G (RelU G) E (match allD us with
        | some ds => if ds.length = ks.length then .ok (.r h1.length) (h1 ++ [.dct (ks.zip ds)]) else .stuck
        | none => .stuck) ρ h H Q := n
      cases q : allD us with
      | none => rw [q] at n1; exact n1.elim
      | some ds =>
        rw [q] at n1
        have n2 : Rn G (RelU G) E (if ds.length = ks.length then .ok (.r h1.length) (h1 ++ [.dct (ks.zip ds)]) else .stuck) ρ h H Q := n1
        by_cases hl : ds.length = ks.length
        · rw [if_pos hl] at n2
          have ra := allD_rp r1 q
          have hw : ws.length = ks.length := by rw [ra.length]; exact hl
          have e0 : mergeK [] ((ks.map Sum.inr).zip ws) = (ks.map Sum.inr).zip ws := by
            rw [merge_new _ [] ?_]
            · rfl
            · rw [List.nil_append, List.map_fst_zip (by rw [List.length_map, hw]; exact Nat.le_refl _)]
              exact List.pairwise_map.mpr (List.Pairwise.imp (fun {a b} ne e => ne (by injection e)) nd)
          have kp : Keep H1 (upd H1 p (.dK ((ks.map Sum.inr).zip ws))) := keep_mut pfr True.intro
          obtain ⟨ρ', x1, x2, x3⟩ := Sim.adopt (u := .dK ((ks.map Sum.inr).zip ws)) (o := .dct (ks.zip ds)) sm hp e1 s1 pfr ⟨_, upd_same, pairK kp (rpk_zip ra)⟩
          refine ⟨pfr, (ks.map Sum.inr).zip ws, ?_, ?_, ?_⟩
          · have zz : ∀ (ks : List Str) (ws : List V), (ks.map V.str).zip ws = ((ks.map (Sum.inr : Str → Key)).zip ws).map fun kv => (kV kv.1, kv.2) := by
              intro ks
              induction ks with
              | nil => exact fun _ => rfl
              | cons k ks ih =>
                intro ws
                cases ws with
                | nil => rfl
                | cons w ws => exact congrArg (_ :: ·) (ih ws)
            exact zz ks ws
          · rw [List.length_zip, List.length_map]
            omega
          · rw [e0]
            exact Rn.at_ n2 x1 x2 (show RU G.K _ ρ' _ (.ref p) (.r h1.length) from ⟨by simp, by rw [x3]⟩)
        · rw [if_neg hl] at n2
          exact n2.elim
  exact key _ rn'
end
end RB
/-! RC3: raise of an own exception of two fields. -/
namespace RB
open PySem PySem.Spec PyProof.Rows L2
section
variable {X : Cx} {G : Gb} {E : XK}
def fRaise (c x1 x2 : Str) (a : FA) : FS := fun l h => (a l h).bind fun us h1 => match allD us with
  | some [d1, d2] => .exc c [(x2, d2), (x1, d1)] h1
  | _ => .stuck
theorem pf_raise {k : Nat} {c x1 x2 : Str} {C : Addr} {e1 e2 : Expr} {p pos pos' : Pos} {ga : FA} (g : Gd X G E (k + 1)) (T : Ex2 X.prog X.K X.mg C x1 x2) (hg : Gl X c) (hm : X.mg c = some (.ref C)) (ha : PA X [e1, e2] (tFA G E ga))
    (hdb : (c == ("__debug__" : Str)) = false) (he : starEach [e1, e2] X.env = (false, eval e1 X.env) :: starEach [e2] X.env) (hpl : (backTo pos (starEach [e2] X.env)).any (·.1) = false) :
    PS X (.Raise (some (.Call (.Name c p) [e1, e2] [] pos)) none pos') (tFS G E (fRaise c x1 x2 ga)) := by
  refine PS.imp (ps_raise g.calm g.tk (pmk_ex2 (k := k) T g.room hg hm ha hdb he hpl)) fun D σ H ⟨ρ, l, h, sm, sl, rn⟩ => ⟨ρ, l, h, sm, sl, rn.bind.mono ?_⟩
  rintro vs H1 ⟨ρ1, h1, us, x1', s1, r1, _, n1⟩
  cases q : allD us with
  | none => rw [q] at n1; exact n1.elim
  | some ds =>
    rw [q] at n1
    match ds, n1, q with
    | [d1, d2], n1, q =>
      have ra := allD_rp r1 q
      cases ra with
      | cons a1 a2 =>
        cases a2 with
        | cons b1 b2 =>
          cases b2
          refine ⟨_, _, rfl, fun dx hd => ?_⟩
          have n2 : Rn G (RelF G) E (.exc c [(x2, d2), (x1, d1)] h1 : R Fl) ρ1 h1 H1 (endsQ D) := n1
          refine n2 ρ1 _ C dx (.grow (same_new hd)) (s1.grow (same_new hd)) (by rw [← g.mg]; exact hm) ⟨_, upd_same, .cons ⟨rfl, b1.kp (.same (same_new hd))⟩ (.cons ⟨rfl, a1.kp (.same (same_new hd))⟩ .nil)⟩
    | [], n1, _ => exact n1.elim
    | [_], n1, _ => exact n1.elim
    | _ :: _ :: _ :: _, n1, _ => exact n1.elim
end
end RB
/-! RC4: a, b = x, y. -/
namespace RB
open PySem PySem.Spec PyProof.Rows L2
section
variable {X : Cx} {G : Gb} {E : XK}
def fPar (i j : Nat) (a : FA) : FS := fun l h => (a l h).bind fun us h1 => match us with
  | [u, w] => .ok (.nx ((l.set i (some u)).set j (some w))) h1
  | _ => .stuck
theorem pf_par {k i j : Nat} {x y : Str} {a b : Expr} {ga : FA} {px py pt pos : Pos} {kt k2 pt2} (g : Gd X G E k) (hi : X.N[i]? = some x) (hj : X.N[j]? = some y) (hij : i ≠ j) (hx : X.env.scope.names.lookup x = some .local) (hy : X.env.scope.names.lookup y = some .local)
    (ha : PA X [a, b] (tFA G E ga)) (hw : swappedStores [.Tuple [.Name x px, .Name y py] kt pt] (.Tuple [a, b] k2 pt2) X.env = pure (some [x, y])) (hs : swapsWithSole [.Tuple [.Name x px, .Name y py] kt pt] (.Tuple [a, b] k2 pt2) pos.line X.env = pure false) :
    PS X (.Assign [.Tuple [.Name x px, .Name y py] kt pt] (.Tuple [a, b] k2 pt2) pos) (tFS G E (fPar i j ga)) := by
  refine PS.imp (ps_par g.calm g.nd hi hj hij hx hy ha hw hs) fun D σ H ⟨ρ, l, h, sm, sl, rn⟩ => ⟨ρ, l, h, sm, sl, rn.bind.mono ?_⟩
  rintro vs H1 ⟨ρ1, h1, us, e1, s1, r1, _, n1⟩
  match us, r1, n1 with
  | [u, w], .cons ru (.cons rw' .nil), n1 => exact ⟨_, _, rfl, Rn.here (b := Cf.nx _) n1 s1 (((sl.ext e1).set ru i).set rw' j)⟩
  | [], _, n1 => exact n1.elim
  | [_], _, n1 => exact n1.elim
  | _ :: _ :: _ :: _, _, n1 => exact n1.elim
end
end RB
/-! RC5: x[k] = e, x a place: a list or a dict. -/
namespace RB
open PySem PySem.Spec PyProof.Rows L2
theorem RpA.set {K : PySem.W.Frag} {H : Hp} {v : V} {d : PyData} (r : Rp K H v d) : ∀ {ds : List PyData} {vs : List V} (j : Nat), RpA K H vs ds → RpA K H (vs.set j v) (ds.set j d)
  | [], _, j, h => by cases h; exact .nil
  | e :: ds, _, 0, h => by
    cases h with
    | cons h1 h2 => exact .cons r h2
  | e :: ds, _, j + 1, h => by
    cases h with
    | cons h1 h2 => exact .cons h1 (RpA.set r j h2)
section
variable {X : Cx} {G : Gb} {E : XK}
theorem set_any (hu : X.A.units + 1 < cLine) : PSet X (fun o i v H Q => rSetL o i v H Q ∨ rSetD o i v H Q) := fun pins s σ H o i v ov iv u Q I ro ri rv h => by
  rcases h with h | h
  · exact L2.set_list pins s σ H o i v ov iv u Q I ro ri rv h
  · exact set_dict hu pins s σ H o i v ov iv u Q I ro ri rv h
def putAt (h : AH) (x y v : U) : Option AH := match x, y, v with
  | .r n, .d (.str z), .d d => match h[n]? with
    | some (.dct kvs) => if kvs.length < sizeLine then some (h.set n (.dct (putP kvs z d))) else none
    | _ => none
  | .r n, .d (.int k), .d d => match h[n]? with
    | some (.lst xs) => match ixN xs.length k with
      | some j => some (h.set n (.lst (xs.set j d)))
      | none => none
    | _ => none
  | _, _, _ => none
def fPut (o k e : FE) : FS := fun l h => (e l h).bind fun v h1 => (o l h1).bind fun x h2 => (k l h2).bind fun y h3 => match putAt h3 x y v with
  | some h4 => .ok (.nx l) h4
  | none => .stuck
theorem put_ok {ρ : Nat → Addr} {h h4 : AH} {H : Hp} {ux uy uv : U} {x y v : V} (sm : Sim G ρ h H) (rx : RU G.K H ρ h x ux) (ry : RU G.K H ρ h y uy) (rv : RU G.K H ρ h v uv) (q : putAt h ux uy uv = some h4) (Q : Hp → Prop)
    (hq : ∀ H', Ext ρ h H ρ h4 H' → Sim G ρ h4 H' → Q H') : rSetL x y v H Q ∨ rSetD x y v H Q := by
  unfold putAt at q
  split at q
  · rename_i n z d
    cases e : h[n]? with
    | none => rw [e] at q; cases q
    | some o =>
      rw [e] at q
      cases o with
      | lst xs => cases q
      | dct kvs =>
        have q' : (if kvs.length < sizeLine then some (h.set n (.dct (putP kvs z d))) else none) = some h4 := q
        by_cases hz : kvs.length < sizeLine
        · rw [if_pos hz] at q'
          cases q'
          obtain ⟨ws, ew, rw_⟩ := sm.obj n _ e
          have hlen : ws.length = kvs.length := Paired.length rw_
          obtain ⟨hn, rfl⟩ := rx
          have ry' : y = kV (Sum.inr z) := by
            cases (show Rp G.K H y (.str z) from ry)
            rfl
          have kp := keep_mut (o := .dK (putK ws (Sum.inr z) v)) ew True.intro
          obtain ⟨ex, sx⟩ := sm.store (u := .dK (putK ws (Sum.inr z) v)) (o := .dct (putP kvs z d)) hn ⟨_, upd_same, pairK kp (putP_rel rv rw_)⟩ (fun φ z => nomatch z) (fun ps z => nomatch z)
          refine .inr ⟨ρ n, _, rfl, ?_, hq _ ex sx⟩
          rw [ry']
          exact DPut.k (k := Sum.inr z) ew (by omega)
        · rw [if_neg hz] at q'
          cases q'
  · rename_i n k d
    cases e : h[n]? with
    | none => rw [e] at q; cases q
    | some o =>
      rw [e] at q
      cases o with
      | dct kvs => cases q
      | lst xs =>
        have q' : (match ixN xs.length k with | some j => some (h.set n (.lst (xs.set j d))) | none => none) = some h4 := q
        cases ej : ixN xs.length k with
        | none => rw [ej] at q'; cases q'
        | some j =>
          rw [ej] at q'
          cases q'
          obtain ⟨vs, ev, ra⟩ := sm.obj n _ e
          obtain ⟨hn, rfl⟩ := rx
          have ry' : y = .int k := by
            cases (show Rp G.K H y (.int k) from ry)
            rfl
          have kp := keep_mut (o := .lst (vs.set j v)) ev True.intro
          obtain ⟨ex, sx⟩ := sm.store (u := .lst (vs.set j v)) (o := .lst (xs.set j d)) hn ⟨_, upd_same, (RpA.set (show Rp G.K H v d from rv) j ra).kp kp⟩ (fun φ z => nomatch z) (fun ps z => nomatch z)
          exact .inl ⟨ρ n, vs, k, j, rfl, ry', ev, by rw [ra.length]; exact ej, hq _ ex sx⟩
  · cases q
theorem ps_put {o i value : Expr} {pos pos' : Pos} {to ti tv : TE} (hu : X.A.units + 1 < cLine) (ho : PE X o to) (hi : PE X i ti) (hv : PE X value tv) (hs : swapsWith value (some (.Subscript o i pos')) pos.line X.env = pure false) :
    PS X (.Assign [.Subscript o i pos'] value pos) (fun D σ H => tv σ H fun v H1 => to σ H1 fun x H2 => ti σ H2 fun y H3 => rSetL x y v H3 (fun H' => D.nx σ H') ∨ rSetD x y v H3 (fun H' => D.nx σ H')) := by
  refine ⟨fun pins s σ H D I h => ?_⟩
  refine wpAny_Assign_Subscript (thn (hv.run pins s σ H _ I h) fun r s1 ⟨v, H1, I1, rv, q1⟩ => thn (ho.run pins s1 σ H1 _ I1 q1) fun u s2 ⟨x, H2, I2, rx, q2⟩ => thn (hi.run pins s2 σ H2 _ I2 q2) fun iv s3 ⟨y, H3, I3, ry, q3⟩ => ?_) hs
  exact thn (set_any hu pins s3 σ H3 x y v u iv r _ I3 rx ry rv q3) fun _ s4 ⟨H4, I4, q4⟩ => ⟨σ, H4, I4, q4⟩
theorem pf_put {o i value : Expr} {pos pos' : Pos} {go gk ge : FE} (hu : X.A.units + 1 < cLine) (ho : PE X o (tF G E go)) (hi : PE X i (tF G E gk)) (hv : PE X value (tF G E ge)) (hs : swapsWith value (some (.Subscript o i pos')) pos.line X.env = pure false) :
    PS X (.Assign [.Subscript o i pos'] value pos) (tFS G E (fPut go gk ge)) := by
  refine PS.imp (ps_put hu ho hi hv hs) fun D σ H ⟨ρ, l, h, sm, sl, rn⟩ => ⟨ρ, l, h, sm, sl, rn.bind.mono ?_⟩
  rintro v H1 ⟨ρ1, h1, uv, e1, s1, r1, _, n1⟩
  refine ⟨ρ1, l, h1, s1, sl.ext e1, n1.bind.mono ?_⟩
  rintro x H2 ⟨ρ2, h2, ux, e2, s2, r2, _, n2⟩
  refine ⟨ρ2, l, h2, s2, (sl.ext e1).ext e2, n2.bind.mono ?_⟩
  rintro y H3 ⟨ρ3, h3, uy, e3, s3, r3, _, n3⟩
  cases q : putAt h3 ux uy uv with
  | none => rw [q] at n3; exact n3.elim
  | some h4 =>
    rw [q] at n3
    exact put_ok s3 (RU.ext r2 e3) r3 (RU.ext (RU.ext r1 e2) e3) q _ fun H' ex sx => Rn.at_ (a := Fl.nx l) (b := Cf.nx σ) n3 ex sx ((((sl.ext e1).ext e2).ext e3).ext ex)
end
end RB
/-! RC6: for x, y in zip(a, b). -/
namespace RB
open PySem PySem.Spec PyProof.Rows L2 RZ
section
variable {X : Cx} {G : Gb} {E : XK}
def zipP (ds es : List PyData) : List PyData := List.zipWith (fun d e => PyData.tuple [d, e]) ds es
theorem zipP_get {ds es : List PyData} {i : Nat} {d e : PyData} (h1 : ds[i]? = some d) (h2 : es[i]? = some e) : (zipP ds es)[i]? = some (.tuple [d, e]) := by
  unfold zipP
  rw [List.getElem?_zipWith, h1, h2]
theorem zipP_len (ds es : List PyData) : (zipP ds es).length = min ds.length es.length := List.length_zipWith
theorem it_zipT {ρ : Nat → Addr} {h : AH} {H : Hp} {a b : Addr} {vs ws : List V} {ds es : List PyData} (s1 : SqT G.K H a vs) (r1 : RpA G.K H vs ds) (s2 : SqT G.K H b ws) (r2 : RpA G.K H ws es) : ItOk G ρ h H (ItzT G.K a b) ⟨zipP ds es, none⟩ where
  at_ := fun n e => nomatch e
  go := fun i H' st hi => by
    have hi' : i < (zipP ds es).length := hi
    rw [zipP_len] at hi'
    obtain ⟨v, e1, _⟩ := (r1.kp st.1).get (List.getElem?_eq_getElem (show i < ds.length by omega))
    obtain ⟨w, e2, _⟩ := (r2.kp st.1).get (List.getElem?_eq_getElem (show i < es.length by omega))
    exact ⟨vs, ws, v, w, st.1.sqT s1, st.1.sqT s2, e1, e2⟩
  yld := fun i H' x H'' st hi hy => by
    obtain ⟨T, y, z, rfl, hT, rfl, f1, f2⟩ := hy
    obtain ⟨d, e1, q1⟩ := (r1.kp st.1).getV (f1 vs (st.1.sqT s1))
    obtain ⟨e, e2, q2⟩ := (r2.kp st.1).getV (f2 ws (st.1.sqT s2))
    exact ⟨same_new hT, _, zipP_get e1 e2, rp_tup hT (.cons q1 (.cons q2 .nil))⟩
  stop := fun i H' st hi => by
    have hi' : (zipP ds es).length ≤ i := hi
    rw [zipP_len] at hi'
    exact ⟨vs, ws, st.1.sqT s1, st.1.sqT s2, by rw [r1.length, r2.length]; omega⟩
theorem it_zipL {ρ : Nat → Addr} {h : AH} {H : Hp} {a b : Addr} {vs ws : List V} {ds es : List PyData} (s1 : SL H a vs) (r1 : RpA G.K H vs ds) (s2 : SL H b ws) (r2 : RpA G.K H ws es) : ItOk G ρ h H (Itz G.K a b) ⟨zipP ds es, none⟩ where
  at_ := fun n e => nomatch e
  go := fun i H' st hi => by
    have hi' : i < (zipP ds es).length := hi
    rw [zipP_len] at hi'
    obtain ⟨v, e1, _⟩ := (r1.kp st.1).get (List.getElem?_eq_getElem (show i < ds.length by omega))
    obtain ⟨w, e2, _⟩ := (r2.kp st.1).get (List.getElem?_eq_getElem (show i < es.length by omega))
    exact ⟨vs, ws, v, w, (st.1.sl s1).sq, (st.1.sl s2).sq, e1, e2⟩
  yld := fun i H' x H'' st hi hy => by
    obtain ⟨T, y, z, rfl, hT, rfl, f1, f2⟩ := hy
    obtain ⟨d, e1, q1⟩ := (r1.kp st.1).getV (f1 vs (st.1.sl s1).sq)
    obtain ⟨e, e2, q2⟩ := (r2.kp st.1).getV (f2 ws (st.1.sl s2).sq)
    exact ⟨same_new hT, _, zipP_get e1 e2, rp_tup hT (.cons q1 (.cons q2 .nil))⟩
  stop := fun i H' st hi => by
    have hi' : (zipP ds es).length ≤ i := hi
    rw [zipP_len] at hi'
    exact ⟨vs, ws, (st.1.sl s1).sq, (st.1.sl s2).sq, by rw [r1.length, r2.length]; omega⟩
theorem rpT {K : PySem.W.Frag} {H : Hp} {v : V} {ds : List PyData} (h : Rp K H v (.tuple ds)) : ∃ a xs, v = V.ref a ∧ SqT K H a xs ∧ RpA K H xs ds := by
  cases h with
  | tup hs hr => exact ⟨_, _, rfl, hs, hr⟩
theorem rpL {K : PySem.W.Frag} {H : Hp} {v : V} {ds : List PyData} (h : Rp K H v (.list ds)) : ∃ a xs, v = V.ref a ∧ SL H a xs ∧ RpA K H xs ds := by
  cases h with
  | lst hs hr => exact ⟨_, _, rfl, hs, hr⟩
def zipOf : List U → Option Src
  | [.d (.tuple ds), .d (.tuple es)] => some ⟨zipP ds es, none⟩
  | [.d (.list ds), .d (.list es)] => some ⟨zipP ds es, none⟩
  | _ => none
def fZip (a : FA) : FI := fun l h => (a l h).bind fun us h1 => R.of (zipOf us) h1
theorem pf_zip {elts : List Expr} {kk : Nat} {tpos p pos : Pos} {e e2 : Expr} {ga : FA} (hK : X.K = G.K) (hg : Gl X "zip") (hm : X.mg "zip" = none) (ha : PA X [e, e2] (tFA G E ga))
    (he : starEach [e, e2] X.env = (false, eval e X.env) :: starEach [e2] X.env) (hpl : (backTo pos (starEach [e2] X.env)).any (·.1) = false) :
    PI X (.Tuple elts kk tpos) (.Call (.Name "zip" p) [e, e2] [] pos) (tFI G E (fZip ga)) := by
  refine PI.imp (pi_zipA hg hm ha he hpl) ?_
  rintro σ H R ⟨ρ, l, h, sm, sl, rn⟩
  refine ⟨ρ, l, h, sm, sl, rn.bind.mono ?_⟩
  rintro vs H1 ⟨ρ1, h1, us, e1, s1, r1, _, n1⟩
  cases q : zipOf us with
  | none => rw [q] at n1; exact n1.elim
  | some s =>
    rw [q] at n1
    rw [hK]
    unfold zipOf at q
    split at q
    · rename_i ds es
      cases q
      cases r1 with
      | cons ra rb =>
        cases rb with
        | cons rb rc =>
          cases rc
          obtain ⟨a, xs, rfl, sa, qa⟩ := rpT ra
          obtain ⟨b, ys, rfl, sb, qb⟩ := rpT rb
          exact ⟨a, b, xs, ys, rfl, .inr ⟨sa, sb, Rn.here n1 s1 (it_zipT sa qa sb qb)⟩⟩
    · rename_i ds es
      cases q
      cases r1 with
      | cons ra rb =>
        cases rb with
        | cons rb rc =>
          cases rc
          obtain ⟨a, xs, rfl, sa, qa⟩ := rpL ra
          obtain ⟨b, ys, rfl, sb, qb⟩ := rpL rb
          exact ⟨a, b, xs, ys, rfl, .inl ⟨sa.sq, sb.sq, Rn.here n1 s1 (it_zipL sa qa sb qb)⟩⟩
    · cases q
end
end RB
/-! RC7: lists that change, out of a comprehension, out of two lists. -/
namespace RB
open PySem PySem.Spec L2
section
variable {X : Cx} {G : Gb} {E : XK}
/-- a new list becomes a place -/
theorem adopt {ρ1 ρc : Nat → Addr} {h1 hc : AH} {H1 Hc : Hp} {D : Addr} {vs : List V} {ds : List PyData} (x : Ext ρ1 h1 H1 ρc hc Hc) (sm : Sim G ρc hc Hc) (hD : H1 D = none) (eD : Hc D = some (.lst vs)) (nD : ∀ n, n < hc.length → ρc n ≠ D) (r : RpA G.K Hc vs ds) :
    ∃ ρ2, Ext ρ1 h1 H1 ρ2 (hc ++ [.lst ds]) Hc ∧ Sim G ρ2 (hc ++ [.lst ds]) Hc ∧ ρ2 hc.length = D := by
  have s0 := sm.era eD nD
  have x0 := x.era hD
  have back := era_back eD
  obtain ⟨ρ2, e2, s2, ep⟩ := s0.push (u := .lst vs) (o := .lst ds) era_self ⟨vs, upd_same, by rw [back]; exact r⟩
  rw [back] at e2 s2
  exact ⟨ρ2, x0.trans e2, s2, ep⟩
def fMComp (it : FI) (tg : Tg) (own : List Nat) (t : FT) (e : FE) : FE := fun l h => (it l h).bind fun s h1 => (compGo s tg (wipeL l own) t e s.items [] h1).bind fun ys h2 => .ok (.r h2.length) (h2 ++ [.lst ys])
theorem pf_setMc {i : Nat} {y : Str} {py spos : Pos} {elt tge iter : Expr} {ifs : List Expr} {scope : Scope} {own : List (Str × Nat)} {pos : Pos} {gi : FI} {g : TG} {tg : Tg} {gt : FT} {ge : FE} (hK : X.K = G.K) (hc : X.calm = true) (hN : X.N.Nodup) (hy : X.N[i]? = some y) (hyl : X.env.scope.names.lookup y = some .local)
    (hsw : swapsWith (.ListComp elt [⟨tge, iter, ifs, 0⟩] scope pos) (some (.Name y py)) spos.line X.env = pure true) (hi : PI X tge iter (tFI G E gi)) (ok : BlkOk X.N X.env.scope scope own) (hg : GOk G.K g tg) (hs : ∀ i ∈ tg.slots, i ∈ own.map (·.2))
    (pg : blkP X scope fun Y => PG Y tge g) (pt : blkP X scope fun Y => PTs Y ifs (tFT G F0 gt)) (pe : blkP X scope fun Y => PE Y elt (tF G F0 ge)) (hf : ∀ x, foldedSetIterable iter X.env x = pure x) :
    PS X (.Assign [.Name y py] (.ListComp elt [⟨tge, iter, ifs, 0⟩] scope pos) spos) (tFS G E (fAsg (fMComp gi tg (own.map (·.2)) gt ge) (.v i))) := by
  refine PS.imp (ps_setLc hc hN hy hyl hsw hi ok pg pt pe hf) fun D σ H ⟨ρ, l, h, sm, sl, rn⟩ => ?_
  have rn0 : Rn G (RelF G) E ((gi l h).bind fun s h1 => ((compGo s tg (wipeL l (own.map (·.2))) gt ge s.items [] h1).bind fun ys h2 => .ok (.r h2.length) (h2 ++ [.lst ys]) : R U).bind fun u h2 => .ok (.nx (l.set i (some u))) h2) ρ h H (endsQ D) := by
    rw [← R.bind_assoc]
    exact rn
  refine ⟨ρ, l, h, sm, sl, rn0.bind.mono ?_⟩
  rintro J H1 ⟨ρ1, h1, s, e1, s1, iok, _, n1⟩
  intro A hA
  rw [R.bind_assoc] at n1
  have key := comp_turns (E := E) (Q0 := fun v H' => endsQ D (.nx (σ.set i (some v))) H') (fin := fun ys h2 => .ok (.r h2.length) (h2 ++ [.lst ys])) (sl.ext e1) s1 iok hg hs (t := gt) (e := ge) (own := own.map (·.2))
    (by
      cases q : compGo s tg (wipeL l (own.map (·.2))) gt ge s.items [] h1 with
      | stuck => rw [q] at n1; exact n1.elim
      | exc c fs h2 => rw [q] at n1; exact n1
      | ok ys h2 =>
        rw [q] at n1
        intro ρ' H' v x' s' r'
        exact Rn.at_ (a := Fl.nx (l.set i (some (.r h2.length)))) (b := Cf.nx (σ.set i (some v))) n1 x' s' (((sl.ext e1).ext x').set r' i)) A hA
    (fun v H' => D.nx (σ.set i (some v)) H')
    (fun ρc hc' Hc accV acc x sm' eD nD rA q => by
      obtain ⟨ρ2, x2, s2, ep⟩ := adopt x sm' hA eD nD rA
      exact (show Rn G (RelU G) E (.ok (.r hc'.length) (hc' ++ [.lst acc])) ρ1 h1 H1 (fun v H' => D.nx (σ.set i (some v)) H') from q) ρ2 Hc (.ref A) x2 s2 (show RU G.K _ ρ2 _ (.ref A) (.r hc'.length) from ⟨by simp, by rw [ep]⟩))
  exact key
/-- a + b, a list that changes -/
def lstsOf (h : AH) (x y : U) : Option (List PyData) := match datU h x, datU h y with
  | some (.list xs), some (.list ys) => if xs.length + ys.length ≤ sizeLine then some (xs ++ ys) else none
  | _, _ => none
def fMCat (a b : FE) : FE := fun l h => (a l h).bind fun x h1 => (b l h1).bind fun y h2 => match lstsOf h2 x y with
  | some zs => .ok (.r h2.length) (h2 ++ [.lst zs])
  | none => .stuck
theorem lstsOf_some {h : AH} {x y : U} {zs : List PyData} (e : lstsOf h x y = some zs) : ∃ xs ys, datU h x = some (.list xs) ∧ datU h y = some (.list ys) ∧ xs.length + ys.length ≤ sizeLine ∧ zs = xs ++ ys := by
  unfold lstsOf at e
  split at e
  · rename_i xs ys e1 e2
    by_cases hl : xs.length + ys.length ≤ sizeLine
    · rw [if_pos hl] at e
      cases e
      exact ⟨xs, ys, e1, e2, hl, rfl⟩
    · rw [if_neg hl] at e
      cases e
  · cases e
theorem pf_mcat {a b : Expr} {pos : Pos} {ga gb : FE} (hK : X.K = G.K) (ha : PE X a (tF G E ga)) (hb : PE X b (tF G E gb)) : PE X (.BinOp a .Add b pos) (tF G E (fMCat ga gb)) := by
  refine PE.imp (pe_op op_catR ha hb) fun σ H Q ⟨ρ, l, h, sm, sl, rn⟩ => ⟨ρ, l, h, sm, sl, rn.bind.mono ?_⟩
  rintro x H1 ⟨ρ1, h1, u, e1, s1, r1, _, n1⟩
  refine ⟨ρ1, l, h1, s1, sl.ext e1, n1.bind.mono ?_⟩
  rintro y H2 ⟨ρ2, h2, w, e2, s2, r2, _, n2⟩
  cases q : lstsOf h2 u w with
  | none =>
    have n3 : Rn G (RelU G) E (match lstsOf h2 u w with
      | some zs => R.ok (.r h2.length) (h2 ++ [.lst zs])
      | none => .stuck) ρ2 h2 H2 Q := n2
    rw [q] at n3
    exact n3.elim
  | some zs =>
    have n3 : Rn G (RelU G) E (match lstsOf h2 u w with
      | some zs => R.ok (.r h2.length) (h2 ++ [.lst zs])
      | none => .stuck) ρ2 h2 H2 Q := n2
    rw [q] at n3
    obtain ⟨xs, ys, d1, d2, hl, rfl⟩ := lstsOf_some q
    rw [hK]
    refine ⟨xs, ys, datU_rq s2 (r1.ext e2) d1, datU_rq s2 r2 d2, hl, fun p vs hp ra => ?_⟩
    obtain ⟨ρ3, e3, s3, ep⟩ := s2.push (u := .lst vs) (o := .lst (xs ++ ys)) hp ⟨vs, upd_same, ra.kp (.same (same_new hp))⟩
    exact Rn.at_ n3 e3 s3 (show RU G.K _ ρ3 _ (.ref p) (.r h2.length) from ⟨by simp, by rw [ep]⟩)
end
end RB
/-! RB12: code: what the plain semantics runs; from the text to code. -/
namespace RB
open PySem PySem.Spec L2
/-- where a parameter's value comes from: a written argument, a keyword, a default -/
inductive Bs where
  | p (j : Nat)
  | k (j : Nat)
  | d (x : PyData)
/-- what the called defs give: from here, and from within a lambda that a called def calls -/
structure Cls where
  f : Str → Cf1
  lo : Str → Cf1
def noFn : Str → Cf1 := fun _ _ _ => .stuck
def Cls.low (cl : Cls) : Cls := ⟨cl.lo, noFn⟩
/-- what an error is told as -/
def refT (c : Str) (fs : List (Str × PyData)) : Option PyData :=
  if c = "NotUsable" then (fs.lookup ("word" : Str)).bind fun a => (fs.lookup ("at" : Str)).bind fun b => some (.tuple [.str "NotUsable", a, b])
  else if c = "InvalidPaper" then (fs.lookup ("word" : Str)).bind fun a => (fs.lookup ("at" : Str)).bind fun b => some (.tuple [.str "InvalidPaper", a, b])
  else if c = "InvalidText" then (fs.lookup ("line" : Str)).bind fun a => (fs.lookup ("column" : Str)).bind fun b => some (.tuple [.str "InvalidText", a, b])
  else none
/-- what a def that is asked says: ("told", value) or the refusal -/
def fSaid (g : FE) : FE := fun l h => match g l h with
  | .ok u h1 => R.of (mkTup [.d (.str "told"), u]) h1
  | .exc c fs h1 => R.of ((refT c fs).map U.d) h1
  | .stuck => .stuck
def bindA {α : Type} (f : PyData → α) : List Bs → List α → List α → Option (List α)
  | [], _, _ => some []
  | .p j :: r, us, zs => match us[j]?, bindA f r us zs with
    | some u, some w => some (u :: w)
    | _, _ => none
  | .k j :: r, us, zs => match zs[j]?, bindA f r us zs with
    | some u, some w => some (u :: w)
    | _, _ => none
  | .d x :: r, us, zs => match bindA f r us zs with
    | some w => some (f x :: w)
    | none => none
mutual
inductive CE where
  | var (i : Nat)
  | con (x : PyData)
  | tup (es : CL)
  | lst (es : CL)
  | mls (es : CL)
  | bin (o : Operator) (a b : CE)
  | neg (a : CE)
  | not (a : CE)
  | and (a b : CE)
  | or (a b : CE)
  | ifx (c a b : CE)
  | cmp (o : CmpOp) (a b : CE)
  | chain (o o' : CmpOp) (a b c : CE)
  | call (f : Str) (bs : List Bs) (es ks : CL)
  | blt (b : Str) (es : CL)
  | isi (T : Str) (a : CE)
  | ix (a b : CE)
  | dget (a b : CE)
  | sl (a : CE) (lo hi : CO)
  | comp (it : CI) (tg : Tg) (own : List Nat) (t : CO) (e : CE)
  | app (o : CE) (es : CL)
  | ext (o : CE) (es : CL)
  | rev (a : CE)
  | srt (es : CL)
  | dct (ks : List Str) (es : CL)
  | said (e : CE)
  | comp2 (it : CI) (tg : Tg) (own : List Nat) (t : CO) (it1 : CI) (tg1 : Tg) (t1 : CO) (e : CE)
  | srl (es : CL)
  | mcomp (it : CI) (tg : Tg) (own : List Nat) (t : CO) (e : CE)
  | mcat (a b : CE)
inductive CL where
  | nil
  | cons (e : CE) (r : CL)
  | star (e : CE) (r : CL)
inductive CO where
  | no
  | so (e : CE)
inductive CI where
  | walk (e : CE)
  | range (es : CL)
  | zip (es : CL)
end
inductive CS where
  | asg (tg : Tg) (e : CE)
  | put (o k e : CE)
  | raise (c x1 x2 : Str) (es : CL)
  | par (i j : Nat) (es : CL)
  | expr (e : CE)
  | ret (e : CE)
  | retN
  | pass
  | ite (c : CE) (a b : CS)
  | seq (a b : CS)
  | for_ (it : CI) (tg : Tg) (b : CS)
def binSem : Operator → PyData → PyData → Option PyData
  | .Add => addD
  | .Sub => subD
  | .Mult => mulD
  | .FloorDiv => fdivD
  | .Mod => modD
  | .Pow => powD
  | _ => fun _ _ => none
def cmpSem : CmpOp → PyData → PyData → Option PyData
  | .Eq => eqD
  | .NotEq => neD
  | .Lt => ltDD
  | .LtE => leDD
  | .Gt => gtDD
  | .GtE => geDD
  | .Is => isD
  | .IsNot => isNotD
  | .In => inD false
  | .NotIn => inD true
def tyNames : List Str := ["int", "bool", "str", "tuple", "list"]
def isiS (T : Str) : PyData → Option PyData :=
  if T = "int" then isiD "int" else if T = "bool" then isiD "bool" else if T = "str" then isiD "str" else if T = "tuple" then isiD "tuple" else if T = "list" then isiD "list" else fun _ => none
/-- the built-ins that are served -/
def bltSem (b : Str) : List PyData → Option PyData :=
  if b = "len" then lenD else if b = "all" then allB else if b = "any" then anyB else if b = "repr" then reprB else
  if b = "tuple" then tupleB else if b = "list" then listB else if b = "int" then intB else if b = "str" then strB else fun _ => none
mutual
def semE (cl : Cls) : CE → FE
  | .var i => fVar i
  | .con x => fC x
  | .tup es => fTup (semL cl es)
  | .lst es => fLst (semL cl es)
  | .mls es => fMls (semL cl es)
  | .bin o a b => fOp (binSem o) (semE cl a) (semE cl b)
  | .neg a => fUn negD (semE cl a)
  | .not a => fUn notD (semE cl a)
  | .and a b => fAnd (semE cl a) (semE cl b)
  | .or a b => fOr (semE cl a) (semE cl b)
  | .ifx c a b => fIf (fTe (semE cl c)) (semE cl a) (semE cl b)
  | .cmp o a b => fOp (cmpSem o) (semE cl a) (semE cl b)
  | .chain o o' a b c => fChain (cmpSem o) (cmpSem o') (semE cl a) (semE cl b) (semE cl c)
  | .call f bs es ks => fun l h => (semL cl es l h).bind fun us h1 => (semL cl ks l h1).bind fun zs h2 => match bindA U.d bs us zs with
    | some ws => cl.f f ws h2
    | none => .stuck
  | .blt b es => fCB (bltSem b) (semL cl es)
  | .isi T a => fUn (isiS T) (semE cl a)
  | .ix a b => fOp ixD (semE cl a) (semE cl b)
  | .dget a b => fDGet (semE cl a) (semE cl b)
  | .sl a lo hi => fSl (semE cl a) (semO cl lo) (semO cl hi)
  | .comp it tg own t e => fComp (semI cl it) tg own (semT cl t) (semE cl e)
  | .app o es => fApp (semE cl o) (semL cl es)
  | .ext o es => fExt (semE cl o) (semL cl es)
  | .rev a => fUn revD (semE cl a)
  | .srt es => fCB sortSetB (semL cl es)
  | .dct ks es => fDct ks (semL cl es)
  | .said e => fSaid (semE cl.low e)
  | .comp2 it tg own t it1 tg1 t1 e => fComp2 (semI cl it) tg own (semT cl t) (semI cl it1) tg1 (semT cl t1) (semE cl e)
  | .srl es => fCB sortLB (semL cl es)
  | .mcomp it tg own t e => fMComp (semI cl it) tg own (semT cl t) (semE cl e)
  | .mcat a b => fMCat (semE cl a) (semE cl b)
def semL (cl : Cls) : CL → FA
  | .nil => fNil
  | .cons e r => fCons (semE cl e) (semL cl r)
  | .star e r => fStar (semE cl e) (semL cl r)
def semO (cl : Cls) : CO → FO
  | .no => fNo
  | .so e => fSo (semE cl e)
def semT (cl : Cls) : CO → FT
  | .no => fYes
  | .so e => fTe (semE cl e)
def semI (cl : Cls) : CI → FI
  | .walk e => fWalk (semE cl e)
  | .range es => fRange (semL cl es)
  | .zip es => fZip (semL cl es)
end
def semS (cl : Cls) : CS → FS
  | .asg tg e => fAsg (semE cl e) tg
  | .put o k e => fPut (semE cl o) (semE cl k) (semE cl e)
  | .raise c x1 x2 es => fRaise c x1 x2 (semL cl es)
  | .par i j es => fPar i j (semL cl es)
  | .expr e => fExpr (semE cl e)
  | .ret e => fRet (semE cl e)
  | .retN => fRetN
  | .pass => fPass
  | .ite c a b => fIte (fTe (semE cl c)) (semS cl a) (semS cl b)
  | .seq a b => fSeq (semS cl a) (semS cl b)
  | .for_ it tg b => fFor (semI cl it) tg (semS cl b)
/-! ### from the text to code -/
/-- what the module gives: calls by shape (name, written arguments, keywords), constants -/
structure Tbl where
  shapes : List ((Str × Nat × List Str) × List Bs)
  consts : List (Str × PyData)
  free : List Str
  excs : List (Str × Str × Str)
structure Cc where
  N : List Str
  sc : Scope
  tb : Tbl
  mu : List Str
  lam : Bool
def slotOf (c : Cc) (x : Str) : Option Nat := match c.sc.names.lookup x with
  | some .local => c.N.idxOf? x
  | some .cell => c.N.idxOf? x
  | some .free => c.N.idxOf? x
  | _ => none
def isGl (c : Cc) (x : Str) : Bool := decide (c.sc.names.lookup x = some .globalImplicit)
def plainName (x : Str) : Bool := !(x == ("__debug__" : Str)) && !(x == ("__classdict__" : Str)) && !decide (x = "__name__")
def conOf : Const → Option PyData
  | .none => some .none
  | .bool b => some (.bool b)
  | .int i => some (.int i)
  | .str s => some (.str s)
  | _ => none
def isStar : Expr → Bool
  | .Starred _ _ => true
  | _ => false
def isSetE : Expr → Bool
  | .Set _ _ _ => true
  | _ => false
/-- expressions whose truth is asked by their value -/
def byValue : Expr → Bool
  | .Compare _ _ _ _ => false
  | .BoolOp _ _ _ => false
  | .UnaryOp .Not _ _ => false
  | .IfExp _ _ _ _ => false
  | .NamedExpr _ _ _ => false
  | _ => true
def blts : List Str := ["len", "all", "any", "repr", "tuple", "list", "int", "str"]
/-- x is a free built-in here -/
def isBlt (c : Cc) (x : Str) : Bool := isGl c x && decide (x ∈ c.tb.free) && plainName x
def tgOf (c : Cc) : Expr → Option Tg
  | .Name x _ => match c.sc.names.lookup x with
    | some .local => (c.N.idxOf? x).map Tg.v
    | some .cell => (c.N.idxOf? x).map Tg.v
    | _ => none
  | .Tuple es _ _ => (es.mapM fun (e : Expr) => match e with
      | .Name x _ => (match c.sc.names.lookup x with
        | some .local => c.N.idxOf? x
        | some .cell => c.N.idxOf? x
        | _ => none)
      | _ => none).map Tg.t
  | _ => none
def compL (f : Expr → Option CE) : List Expr → Option CL
  | [] => some .nil
  | .Starred e _ :: r => match f e, compL f r with
    | some a, some b => some (.star a b)
    | _, _ => none
  | e :: r => match f e, compL f r with
    | some a, some b => some (.cons a b)
    | _, _ => none
def compB (f : Expr → Option CE) (k : CE → CE → CE) : List Expr → Option CE
  | [] => none
  | [a] => f a
  | a :: b :: r => match f a, compB f k (b :: r) with
    | some x, some y => some (k x y)
    | _, _ => none
def kwNames : List Keyword → Option (List Str)
  | [] => some []
  | ⟨some x, _, _⟩ :: r => (kwNames r).map (x :: ·)
  | ⟨none, _, _⟩ :: _ => none
def compK (f : Expr → Option CE) : List Keyword → Option CL
  | [] => some .nil
  | ⟨_, e, _⟩ :: r => match f e, compK f r with
    | some a, some b => some (.cons a b)
    | _, _ => none
def ownOf (N : List Str) (scope : Scope) : List (Str × Nat) := scope.names.filterMap fun y => match y.2 with
  | .local => (N.idxOf? y.1).map fun i => (y.1, i)
  | .cell => (N.idxOf? y.1).map fun i => (y.1, i)
  | _ => none
def o2 {α β γ : Type} (g : α → β → γ) (a : Option α) (b : Option β) : Option γ := a.bind fun x => b.bind fun y => some (g x y)
/-- what is walked; tt: the target is a tuple of names -/
def compI (c : Cc) (tt : Bool) (f : Expr → Option CE) : Expr → Option CI
  | .Call (.Name fn p) [a, b] [] pos => if fn = "zip" then (if tt && isBlt c "zip" && !isStar a && !isStar b then o2 (fun x y => .zip (.cons x (.cons y .nil))) (f a) (f b) else none) else (f (.Call (.Name fn p) [a, b] [] pos)).map .walk
  | .Call (.Name fn p) [a] [] pos => if fn = "range" then (if isBlt c "range" && !isStar a then (f a).map fun x => .range (.cons x .nil) else none) else (f (.Call (.Name fn p) [a] [] pos)).map .walk
  | e => if isSetE e then none else (f e).map .walk
def compO (f : Expr → Option CE) : Option Expr → Option CO
  | none => some .no
  | some e => (f e).map .so
def slotsIn (tg : Tg) (own : List (Str × Nat)) : Bool := tg.slots.all fun i => decide (i ∈ own.map (·.2))
def o3 {α β γ δ : Type} (g : α → β → γ → δ) (a : Option α) (b : Option β) (c : Option γ) : Option δ := a.bind fun x => b.bind fun y => c.bind fun z => some (g x y z)
def compIsi (c : Cc) (f : Expr → Option CE) : List Expr → Option CE
  | [e, .Name T _] => if isBlt c T && decide (T ∈ tyNames) then (f e).map fun x => CE.isi T x else none
  | _ => none
/-- sorted(set(a)) -/
def compSrt (c : Cc) (f : Expr → Option CE) : List Expr → Option CE
  | [.Call (.Name g p) [a] [] q] => if g = "set" then (if isBlt c "set" && !isStar a then (f a).map fun x => CE.srt (.cons x .nil) else none) else (f (.Call (.Name g p) [a] [] q)).map fun x => CE.srl (.cons x .nil)
  | [e] => if isStar e then none else (f e).map fun x => CE.srl (.cons x .nil)
  | _ => none
def compSh (c : Cc) (f : Expr → Option CE) (fn : Str) (es : List Expr) (kws : List Keyword) : Option (List Bs) → Option CE
  | some bs => o2 (CE.call fn bs) (compL f es) (compK f kws)
  | none => if !(isBlt c fn && kws.isEmpty) then none else
    if fn = "isinstance" then compIsi c f es else if fn = "sorted" then compSrt c f es else if decide (fn ∈ blts) && !es.isEmpty then (compL f es).map fun a => CE.blt fn a else none
def compNm (c : Cc) (f : Expr → Option CE) (fn : Str) (es : List Expr) (kws : List Keyword) : Option CE :=
  if !(isGl c fn && plainName fn) || es.any isStar then none else (kwNames kws).bind fun ks => compSh c f fn es kws (c.tb.shapes.lookup (fn, es.length, ks))
def isNameE : Expr → Bool
  | .Name _ _ => true
  | _ => false
def compApp (f : Expr → Option CE) (o : Expr) : List Expr → Option CE
  | [] => none
  | e :: r => o2 CE.app (f o) (compL f (e :: r))
def compExt (f : Expr → Option CE) (o : Expr) : List Expr → Option CE
  | [.List is _] => o2 CE.ext (f o) (compL f is)
  | _ => none
def compAt (c : Cc) (f : Expr → Option CE) (o : Expr) (m : Str) (apos cpos : Pos) (kws : List Keyword) (es : List Expr) : Option CE :=
  if !(apos.endLine == cpos.line) || es.any isStar || decide (29 ≤ es.length) || !isNameE o || !kws.isEmpty then none else
    if m = "append" then compApp f o es else if m = "extend" then compExt f o es else none
/-- [::-1] -/
def isRev : Option Expr → Option Expr → Expr → Bool
  | none, none, .UnaryOp .USub (.Constant (.int 1) _ _) _ => true
  | _, _, _ => false
theorem isRev_eq {lo hi : Option Expr} {st : Expr} (h : isRev lo hi st = true) : lo = none ∧ hi = none ∧ ∃ k p1 p2, st = .UnaryOp .USub (.Constant (.int 1) k p1) p2 := by
  unfold isRev at h
  split at h
  · exact ⟨rfl, rfl, _, _, _, rfl⟩
  · cases h
def keysOf : List (Option Expr) → Option (List Str)
  | [] => some []
  | some (.Constant (.str k) _ _) :: r => (keysOf r).map (k :: ·)
  | _ :: _ => none
def isTupE : Expr → Bool
  | .Tuple _ _ _ => true
  | _ => false
def lamOf : List Expr → Option (Arguments × Expr × Scope)
  | [.Lambda a e s _] => some (a, e, s)
  | _ => none
def noArgs : Arguments → Bool
  | ⟨[], [], none, [], [], none, []⟩ => true
  | _ => false
/-- _law_said(lambda: e) -/
def compSaid (f : Cc → Expr → Option CE) (c : Cc) (fn : Str) (kws : List Keyword) (q : Arguments × Expr × Scope) : Option CE :=
  if decide (fn = "_law_said") && isGl c fn && kws.isEmpty && c.lam && LamX.lamSB c.sc q.2.2 && noArgs q.1 then (f { c with sc := q.2.2, lam := false } q.2.1).map CE.said else none
def compCall (f : Cc → Expr → Option CE) (c : Cc) (fn : Str) (es : List Expr) (kws : List Keyword) : Option (Arguments × Expr × Scope) → Option CE
  | some q => compSaid f c fn kws q
  | none => compNm c (f c) fn es kws
def compIf (f : Expr → Option CE) : List Expr → Option CO
  | [] => some .no
  | [d] => (f d).map .so
  | _ => none
/-- the context within a comprehension -/
def Cc.inn (c : Cc) (scope : Scope) : Cc := { c with sc := relS scope c.sc, lam := false }
/-- [e for tg in it if .. for tg1 in it1 if ..] -/
def compC2 (f : Cc → Expr → Option CE) (c : Cc) (e tg it : Expr) (ifs : List Expr) (tg1 it1 : Expr) (ifs1 : List Expr) (scope : Scope) : Option CE :=
  if !(blkC c.N c.sc scope (ownOf c.N scope)) || (isSetE it || isSetE it1) then none else (compI c (isTupE tg) (f c) it).bind fun i => (tgOf { c with sc := scope } tg).bind fun t =>
    (compI (c.inn scope) (isTupE tg1) (f (c.inn scope)) it1).bind fun i1 => (tgOf { c with sc := scope } tg1).bind fun t1 => (compIf (f (c.inn scope)) ifs).bind fun d => (compIf (f (c.inn scope)) ifs1).bind fun d1 => (f (c.inn scope) e).bind fun x =>
      if slotsIn t (ownOf c.N scope) && slotsIn t1 (ownOf c.N scope) then some (.comp2 i t ((ownOf c.N scope).map (·.2)) d i1 t1 d1 x) else none
def stepE (f : Cc → Expr → Option CE) (c : Cc) : Expr → Option CE
  | .Name x _ => if plainName x then (match slotOf c x with
      | some i => some (.var i)
      | none => if isGl c x then (c.tb.consts.lookup x).map CE.con else none) else none
  | .Constant k _ _ => (conOf k).map CE.con
  | .Tuple es _ _ => (compL (f c) es).map CE.tup
  | .List es _ => (compL (f c) es).map CE.lst
  | .BinOp a o b _ => o2 (CE.bin o) (f c a) (f c b)
  | .UnaryOp .USub a _ => (f c a).map CE.neg
  | .UnaryOp .Not a _ => (f c a).map CE.not
  | .BoolOp .And vs _ => compB (f c) CE.and vs
  | .BoolOp .Or vs _ => compB (f c) CE.or vs
  | .IfExp t a b _ => o3 CE.ifx (f c t) (f c a) (f c b)
  | .Compare a [o] [b] _ => if isSetE b then none else o2 (CE.cmp o) (f c a) (f c b)
  | .Compare a [o, o'] [b, d] _ => if isSetE d then none else o3 (CE.chain o o') (f c a) (f c b) (f c d)
  | .Call (.Name fn _) es kws _ => compCall f c fn es kws (lamOf es)
  | .Call (.Attribute o m apos) es kws cpos => compAt c (f c) o m apos cpos kws es
  | .Subscript a (.Slice lo hi none _) _ => o3 CE.sl (f c a) (compO (f c) lo) (compO (f c) hi)
  | .Subscript a (.Slice lo hi (some st) _) _ => if isRev lo hi st then (f c a).map CE.rev else none
  | .Dict keys values _ => (keysOf keys).bind fun ks => if decide ks.Nodup && !ks.isEmpty && decide (ks.length ≤ 15) && decide (keys.length = values.length) && !(values.any isStar) then (compL (f c) values).map (CE.dct ks) else none
  | .Subscript a (.Constant (.str s) _ _) _ => (f c a).map fun x => .dget x (.con (.str s))
  | .Subscript a b _ => o2 CE.ix (f c a) (f c b)
  | .ListComp e [⟨tg, it, ifs, 0⟩] scope _ =>
    if !(blkC c.N c.sc scope (ownOf c.N scope)) || isSetE it then none else (compI c (isTupE tg) (f c) it).bind fun i => (tgOf { c with sc := scope } tg).bind fun t => (f { c with sc := relS scope c.sc, lam := false } e).bind fun x =>
      if slotsIn t (ownOf c.N scope) then (match ifs with
        | [] => some (.comp i t ((ownOf c.N scope).map (·.2)) .no x)
        | [d] => (f { c with sc := relS scope c.sc, lam := false } d).map fun y => .comp i t ((ownOf c.N scope).map (·.2)) (.so y) x
        | _ => none) else none
  | .ListComp e [⟨tg, it, ifs, 0⟩, ⟨tg1, it1, ifs1, 0⟩] scope _ => compC2 f c e tg it ifs tg1 it1 ifs1 scope
  | _ => none
def compE : Nat → Cc → Expr → Option CE
  | 0 => fun _ _ => none
  | n + 1 => stepE (compE n)
/-- whether a comprehension's value is stored by itself (the line, a local name that is not its own) -/
def swapsB (c : Cc) (scope : Scope) (y : Str) (py vp : Pos) : Bool := decide (c.sc.names.lookup y = some .local) && py.line == vp.line && !(scope.names.any fun (n, k) => n == y && (k == .local || k == .cell))
def isComp : Expr → Bool
  | .ListComp _ _ _ _ => true
  | .SetComp _ _ _ _ => true
  | .DictComp _ _ _ _ _ => true
  | _ => false
def fuelE : Nat := 40
def compSs (f : Stmt → Option CS) : List Stmt → Option CS
  | [] => some .pass
  | s :: r => match f s, compSs f r with
    | some a, some b => some (.seq a b)
    | _, _ => none
def stoSlot (c : Cc) (x : Str) : Option Nat := match c.sc.names.lookup x with
  | some .local => c.N.idxOf? x
  | some .cell => c.N.idxOf? x
  | _ => none
/-- a comprehension's list, to be changed -/
def toM : CE → Option CE
  | .comp it tg own t e => some (.mcomp it tg own t e)
  | _ => none
/-- x = e -/
def compV (c : Cc) (x : Str) (px : Pos) (i : Nat) : Expr → Option CS
  | .List es p => if decide (x ∈ c.mu) then (compL (compE fuelE c) es).map fun a => CS.asg (.v i) (.mls a) else (compE fuelE c (.List es p)).map fun a => CS.asg (.v i) a
  | .ListComp e g scope vp => if swapsB c scope x px vp && decide (g.length = 1) then (compE fuelE c (.ListComp e g scope vp)).bind fun a => if decide (x ∈ c.mu) then (toM a).map fun b => CS.asg (.v i) b else some (CS.asg (.v i) a) else none
  | .BinOp a .Add b p => if decide (x ∈ c.mu) then o2 (fun y z => CS.asg (.v i) (.mcat y z)) (compE fuelE c a) (compE fuelE c b) else (compE fuelE c (.BinOp a .Add b p)).map fun a => CS.asg (.v i) a
  | e => if isComp e then none else (compE fuelE c e).map fun a => CS.asg (.v i) a
def keyE : Expr → Option Str
  | .Constant (.str s) _ _ => some s
  | _ => none
/-- a, b = x, y -/
def compPar (c : Cc) : List Expr → Expr → Option CS
  | [.Name x px, .Name y py], .Tuple [a, b] _ _ => if decide (c.sc.names.lookup x = some .local) && decide (c.sc.names.lookup y = some .local) && (py.line == px.line) && !(x == y) && !isStar a && !isStar b && !([a, b].all (foldedForSure 8)) && !([a, b].all (constantsAlone 8)) then
      o3 (fun i j es => CS.par i j es) (c.N.idxOf? x) (c.N.idxOf? y) (compL (compE fuelE c) [a, b]) else none
  | _, _ => none
def compA (c : Cc) (e : Expr) : Expr → Option CS
  | .Name x px => (stoSlot c x).bind fun i => compV c x px i e
  | .Tuple ts k p => if isTupE e then compPar c ts e else if isComp e then none else o2 CS.asg (tgOf c (.Tuple ts k p)) (compE fuelE c e)
  | .Subscript o i _ => if isComp e then none else o3 (fun x y z => CS.put x y z) (compE fuelE c o) (compE fuelE c i) (compE fuelE c e)
  | _ => none
/-- raise X(a, b) -/
def compR (c : Cc) : Expr → Option CS
  | .Call (.Name x _) [a, b] [] _ => if isGl c x && plainName x && !isStar a && !isStar b then (c.tb.excs.lookup x).bind fun ff => (compL (compE fuelE c) [a, b]).map fun es => CS.raise x ff.1 ff.2 es else none
  | _ => none
def stepS (f : Stmt → Option CS) (c : Cc) : Stmt → Option CS
  | .Pass _ => some .pass
  | .Return none _ => some .retN
  | .Return (some e) _ => (compE fuelE c e).map CS.ret
  | .Expr e _ => if isComp e then none else (compE fuelE c e).map CS.expr
  | .If t a b _ => o3 CS.ite (compE fuelE c t) (compSs f a) (compSs f b)
  | .Assign [t] e _ => compA c e t
  | .Raise (some e) none _ => compR c e
  | .For tg it b [] _ => if isSetE it then none else o3 CS.for_ (compI c (isTupE tg) (compE fuelE c) it) (tgOf c tg) (compSs f b)
  | _ => none
def compS : Nat → Cc → Stmt → Option CS
  | 0 => fun _ _ => none
  | n + 1 => fun c => stepS (compS n c) c
end RB
/-! RB13: calls; code is sound (expressions). -/
namespace RB
open PySem PySem.Spec L2
/-- atoms as values -/
def atomV : PyData → V
  | .bool b => .bl b
  | .int i => .int i
  | .str s => .str s
  | _ => .non
def isAtom : PyData → Bool
  | .none => true
  | .bool _ => true
  | .int _ => true
  | .str _ => true
  | _ => false
theorem atom_rp {K : PySem.W.Frag} {H : Hp} {d : PyData} (h : isAtom d = true) : Rp K H (atomV d) d := by
  cases d with
  | none => exact .non
  | bool b => exact .bl b
  | int i => exact .int i
  | str s => exact .str s
  | _ => cases h
def okBs : Bs → Bool
  | .d x => isAtom x
  | _ => true
/-- how a call of this shape binds -/
structure Bn (K : PySem.W.Frag) (fd : FuncData) (ps : List Str) (n : Nat) (ks : List Str) (bs : List Bs) : Prop where
  to : ∀ (s : Shared) (us ws : List Value), K.In s.heap → us.length = n → ws.length = ks.length → ∃ vals, BindsTo s fd ⟨us, ks.zip ws⟩ (ps.zip vals) ∧ ∀ (vs zs : List V), Vals vs us → Vals zs ws → ∃ vv, bindA atomV bs vs zs = some vv ∧ Vals vv vals
  atoms : bs.all okBs = true
/-- the module's facts, at a level of calls -/
structure Ft (P : Program) (w : World) (G : Gb) (base : Heap) (tb : Tbl) (k : Nat) (cl : Cls) : Prop where
  con : ∀ x d, tb.consts.lookup x = some d → ∃ (v : V) (u : Value), G.mg x = some u ∧ RelV v u ∧ ∀ H, Rp G.K H v d
  free : ∀ x, x ∈ tb.free → G.mg x = none
  fn : ∀ f n ks bs, tb.shapes.lookup (f, n, ks) = some bs → ∃ (fa : Addr) (fd : FuncData) (ps : List Str), G.mg f = some (.ref fa) ∧ PySem.W.keepIn G.K (.ref fa) = true ∧ Bn G.K fd ps n ks bs ∧ FnG P w G.K G.mg base k fa fd ps (spU G ps.length (cl.f f)) ∧ bs.length = ps.length
  exc : ∀ x ff, tb.excs.lookup x = some ff → ∃ C : Addr, G.mg x = some (.ref C) ∧ Ex2 P G.K G.mg C ff.1 ff.2 ∧ 0 < k
section
variable {X : Cx} {G : Gb} {E : XK} {k : Nat}
theorem get_rus {K : PySem.W.Frag} {H : Hp} {ρ : Nat → Addr} {h : AH} : ∀ {vs : List V} {us : List U} {j : Nat} {v : V}, RUs K H ρ h vs us → vs[j]? = some v → ∃ u, us[j]? = some u ∧ RU K H ρ h v u
  | [], [], j, v, .nil, e => by simp at e
  | v0 :: vs, u0 :: us, 0, v, .cons r t, e => by
    have e' : v0 = v := by simpa using e
    subst e'
    exact ⟨u0, rfl, r⟩
  | v0 :: vs, u0 :: us, j + 1, v, .cons r t, e => by
    obtain ⟨u, e1, r1⟩ := get_rus (j := j) (v := v) t (by simpa using e)
    exact ⟨u, by simpa using e1, r1⟩
theorem bindA_p {α : Type} (f : PyData → α) (j : Nat) (r : List Bs) (us zs : List α) : bindA f (.p j :: r) us zs = (us[j]?).bind fun u => (bindA f r us zs).map (u :: ·) := by
  rw [bindA]
  cases us[j]? <;> cases bindA f r us zs <;> rfl
theorem bindA_k {α : Type} (f : PyData → α) (j : Nat) (r : List Bs) (us zs : List α) : bindA f (.k j :: r) us zs = (zs[j]?).bind fun u => (bindA f r us zs).map (u :: ·) := by
  rw [bindA]
  cases zs[j]? <;> cases bindA f r us zs <;> rfl
theorem bindA_d {α : Type} (f : PyData → α) (x : PyData) (r : List Bs) (us zs : List α) : bindA f (.d x :: r) us zs = (bindA f r us zs).map (f x :: ·) := by
  rw [bindA]
  cases bindA f r us zs <;> rfl
theorem bindA_len {α : Type} {fα : PyData → α} : ∀ {bs : List Bs} {us zs vv : List α}, bindA fα bs us zs = some vv → vv.length = bs.length
  | [], us, zs, vv, e => by rw [bindA] at e; cases e; rfl
  | .p j :: r, us, zs, vv, e => by
    rw [bindA_p] at e
    cases q1 : us[j]? with
    | none => rw [q1] at e; cases e
    | some u =>
      rw [q1] at e
      have e' : (bindA fα r us zs).map (u :: ·) = some vv := e
      cases q2 : bindA fα r us zs with
      | none => rw [q2] at e'; cases e'
      | some w => rw [q2] at e'; cases e'; exact congrArg (· + 1) (bindA_len q2)
  | .k j :: r, us, zs, vv, e => by
    rw [bindA_k] at e
    cases q1 : zs[j]? with
    | none => rw [q1] at e; cases e
    | some u =>
      rw [q1] at e
      have e' : (bindA fα r us zs).map (u :: ·) = some vv := e
      cases q2 : bindA fα r us zs with
      | none => rw [q2] at e'; cases e'
      | some w => rw [q2] at e'; cases e'; exact congrArg (· + 1) (bindA_len q2)
  | .d x :: r, us, zs, vv, e => by
    rw [bindA_d] at e
    cases q2 : bindA fα r us zs with
    | none => rw [q2] at e; cases e
    | some w => rw [q2] at e; cases e; exact congrArg (· + 1) (bindA_len q2)
theorem bindA_rus {K : PySem.W.Frag} {H : Hp} {ρ : Nat → Addr} {h : AH} {vs zs : List V} {us ws : List U} (r : RUs K H ρ h vs us) (q : RUs K H ρ h zs ws) : ∀ {bs : List Bs} {vv : List V} {uu : List U}, bs.all okBs = true → bindA atomV bs vs zs = some vv → bindA U.d bs us ws = some uu → RUs K H ρ h vv uu
  | [], vv, uu, _, e1, e2 => by
    rw [bindA] at e1 e2
    cases e1
    cases e2
    exact .nil
  | .p j :: bs, vv, uu, ha, e1, e2 => by
    have ha' := (Bool.and_eq_true_iff.mp (by rw [List.all_cons] at ha; exact ha)).2
    have e1' : ((vs[j]?).bind fun u => (bindA atomV bs vs zs).map (u :: ·)) = some vv := by rw [bindA_p] at e1; exact e1
    have e2' : ((us[j]?).bind fun u => (bindA U.d bs us ws).map (u :: ·)) = some uu := by rw [bindA_p] at e2; exact e2
    cases q1 : vs[j]? with
    | none => rw [q1] at e1'; cases e1'
    | some v =>
      cases q2 : bindA atomV bs vs zs with
      | none => rw [q1, q2] at e1'; cases e1'
      | some vv' =>
        rw [q1, q2] at e1'
        cases e1'
        obtain ⟨u, eu, ru⟩ := get_rus r q1
        rw [eu] at e2'
        cases q3 : bindA U.d bs us ws with
        | none => rw [q3] at e2'; cases e2'
        | some uu' =>
          rw [q3] at e2'
          cases e2'
          exact .cons ru (bindA_rus r q ha' q2 q3)
  | .k j :: bs, vv, uu, ha, e1, e2 => by
    have ha' := (Bool.and_eq_true_iff.mp (by rw [List.all_cons] at ha; exact ha)).2
    have e1' : ((zs[j]?).bind fun u => (bindA atomV bs vs zs).map (u :: ·)) = some vv := by rw [bindA_k] at e1; exact e1
    have e2' : ((ws[j]?).bind fun u => (bindA U.d bs us ws).map (u :: ·)) = some uu := by rw [bindA_k] at e2; exact e2
    cases q1 : zs[j]? with
    | none => rw [q1] at e1'; cases e1'
    | some v =>
      cases q2 : bindA atomV bs vs zs with
      | none => rw [q1, q2] at e1'; cases e1'
      | some vv' =>
        rw [q1, q2] at e1'
        cases e1'
        obtain ⟨u, eu, ru⟩ := get_rus q q1
        rw [eu] at e2'
        cases q3 : bindA U.d bs us ws with
        | none => rw [q3] at e2'; cases e2'
        | some uu' =>
          rw [q3] at e2'
          cases e2'
          exact .cons ru (bindA_rus r q ha' q2 q3)
  | .d x :: bs, vv, uu, ha, e1, e2 => by
    obtain ⟨hx, ha'⟩ := Bool.and_eq_true_iff.mp (by rw [List.all_cons] at ha; exact ha)
    have e1' : (bindA atomV bs vs zs).map (atomV x :: ·) = some vv := by rw [bindA_d] at e1; exact e1
    have e2' : (bindA U.d bs us ws).map (U.d x :: ·) = some uu := by rw [bindA_d] at e2; exact e2
    cases q2 : bindA atomV bs vs zs with
    | none => rw [q2] at e1'; cases e1'
    | some vv' =>
      rw [q2] at e1'
      cases e1'
      cases q3 : bindA U.d bs us ws with
      | none => rw [q3] at e2'; cases e2'
      | some uu' =>
        rw [q3] at e2'
        cases e2'
        exact .cons (show RU K H ρ h (atomV x) (.d x) from atom_rp hx) (bindA_rus r q ha' q2 q3)
/-- the callee runs -/
theorem run_fnG {pins : List (Addr × Obj)} {σ : L2.St} {H : Hp} {s : Shared} {Q : VK} {us ws : List Value} {vs zs : List V} {fa : Addr} {fd : FuncData} {ps ks : List Str} {bs : List Bs} {n : Nat} {sp : Sp} (F : FnG X.prog X.w X.K X.mg X.base k fa fd ps sp) (g : Gd X G E k) (hb : Bn X.K fd ps n ks bs)
    (I : Inv X pins σ H s) (r : Vals vs us) (rz : Vals zs ws) (l1 : vs.length = n) (l2 : zs.length = ks.length) (hsp : ∀ vv, bindA atomV bs vs zs = some vv → sp vv H Q E) : wpAny (model X.prog X.w) X.A (call (.ref fa) us (ks.zip ws)) (EP X pins σ Q) X.xe s := by
  obtain ⟨vals, bt, rel⟩ := hb.to s us ws I.kIn (r.length.symm.trans l1) (rz.length.symm.trans l2)
  obtain ⟨vv, e1, r2⟩ := rel vs zs r rz
  refine wpAny_call (codeAny_mono (F.run X.A X.stack s H ⟨us, ks.zip ws⟩ vals vv Q E g.room g.gds I.env0 bt r2 (hsp vv e1)) fun r s' hq => ?_)
  match r, hq with
  | .error e, hq => exact passes_call g.tk (fun _ _ _ _ h => h) pins σ H s e s' I hq
  | .ok (.ret u), hq => exact I.after hq
  | .ok .next, hq => exact False.elim hq
  | .ok .brk, hq => exact False.elim hq
  | .ok .cont, hq => exact False.elim hq
theorem star_no : ∀ {e : Expr} {es : List Expr} {env : Env}, isStar e = false → starEach (e :: es) env = (false, eval e env) :: starEach es env := by
  intro e es env h
  cases e <;> first | rfl | exact nomatch h
theorem star_yes {e : Expr} {p : Pos} {es : List Expr} {env : Env} : starEach (.Starred e p :: es) env = (true, eval e env) :: starEach es env := rfl
theorem star_any {pos : Pos} {env : Env} : ∀ {es : List Expr}, es.any isStar = false → (backTo pos (starEach es env)).any (·.1) = false
  | [], _ => rfl
  | e :: es, h => by
    rw [List.any_cons] at h
    obtain ⟨h1, h2⟩ := Bool.or_eq_false_iff.mp h
    rw [star_no h1]
    show (false || (backTo pos (starEach es env)).any (·.1)) = false
    rw [star_any h2]
    rfl
theorem star_all {pos : Pos} {env : Env} : ∀ {es : List Expr}, es.any isStar = false → (backTo pos (starEach es env)).all (fun x => !x.1) = true
  | [], _ => rfl
  | e :: es, h => by
    rw [List.any_cons] at h
    obtain ⟨h1, h2⟩ := Bool.or_eq_false_iff.mp h
    rw [star_no h1]
    show (true && (backTo pos (starEach es env)).all (fun x => !x.1)) = true
    rw [star_all h2]
    rfl
theorem kw_all {pos : Pos} {env : Env} : ∀ {kws : List Keyword} {ks : List Str}, kwNames kws = some ks → (backToKw pos (keywordEach kws env)).all (·.1.isSome) = true ∧ (backToKw pos (keywordEach kws env)).filterMap (·.1) = ks ∧ (backToKw pos (keywordEach kws env)).any (·.1.isNone) = false ∧ ks.length = kws.length
  | [], ks, h => by cases h; exact ⟨rfl, rfl, rfl, rfl⟩
  | ⟨none, _, _⟩ :: _, ks, h => nomatch h
  | ⟨some x, e, p⟩ :: r, ks, h => by
    have h' : (kwNames r).map (x :: ·) = some ks := h
    cases q : kwNames r with
    | none => rw [q] at h'; cases h'
    | some ks' =>
      rw [q] at h'
      cases h'
      obtain ⟨h1, h2, h3, h4⟩ := kw_all (pos := pos) (env := env) q
      refine ⟨?_, ?_, ?_, congrArg (· + 1) h4⟩
      · show (true && _) = true
        rw [Bool.true_and]; exact h1
      · show x :: (backToKw pos (keywordEach r env)).filterMap (·.1) = _
        rw [h2]
      · show (false || _) = false
        rw [Bool.false_or]; exact h3
/-- keywords' values -/
theorem pk_of {kws : List Keyword} {f : Expr → Option CE} {cl : Cls} {b : CL} (hf : ∀ e c, f e = some c → PE X e (tF G E (semE cl c))) : compK f kws = some b → ∃ t, PK X kws t ∧ ∀ σ H Q, tFA G E (semL cl b) σ H Q → t σ H Q := by
  induction kws generalizing b with
  | nil =>
    intro h
    cases h
    exact ⟨tNil, pk_nil, fun σ H Q ⟨ρ, l, h, sm, sl, rn⟩ => rn.here sm .nil⟩
  | cons kw r ih =>
    intro h
    obtain ⟨nm, e, p⟩ := kw
    have h' : (match f e, compK f r with | some a, some b => some (CL.cons a b) | _, _ => none) = some b := h
    cases q1 : f e with
    | none => rw [q1] at h'; cases h'
    | some a =>
      cases q2 : compK f r with
      | none => rw [q1, q2] at h'; cases h'
      | some b' =>
        rw [q1, q2] at h'
        cases h'
        obtain ⟨t, pk, ht⟩ := ih q2
        refine ⟨tCons (tF G E (semE cl a)) t, pk_cons (hf e a q1) pk, fun σ H Q hq => ?_⟩
        obtain ⟨ρ, l, h, sm, sl, rn⟩ := hq
        rw [semL] at rn
        refine ⟨ρ, l, h, sm, sl, rn.bind.mono ?_⟩
        rintro x H1 ⟨ρ1, h1, u, e1, s1, r1, _, n1⟩
        refine ht σ H1 _ ⟨ρ1, l, h1, s1, sl.ext e1, n1.bind.mono ?_⟩
        rintro xs H2 ⟨ρ2, h2, us, e2, s2, r2, _, n2⟩
        exact n2.here s2 (.cons (RU.ext r1 e2) r2)
theorem pa_of {es : List Expr} {f : Expr → Option CE} {cl : Cls} {a : CL} (hK : X.K = G.K) (hf : ∀ e c, f e = some c → PE X e (tF G E (semE cl c))) : compL f es = some a → PA X es (tFA G E (semL cl a)) := by
  induction es generalizing a with
  | nil =>
    intro h
    cases h
    rw [semL]
    exact pf_nil
  | cons e r ih =>
    intro h
    by_cases hst : isStar e = true
    · cases e with
      | Starred e' p =>
        have h' : (match f e', compL f r with | some a, some b => some (CL.star a b) | _, _ => none) = some a := h
        cases q1 : f e' with
        | none => rw [q1] at h'; cases h'
        | some x =>
          cases q2 : compL f r with
          | none => rw [q1, q2] at h'; cases h'
          | some b' =>
            rw [q1, q2] at h'
            cases h'
            rw [semL]
            exact pf_star hK (hf e' x q1) (ih q2) star_yes
      | _ => cases hst
    · have hst' : isStar e = false := Bool.eq_false_iff.mpr hst
      have h' : (match f e, compL f r with | some a, some b => some (CL.cons a b) | _, _ => none) = some a := by
        cases e <;> first | exact h | exact nomatch hst'
      cases q1 : f e with
      | none => rw [q1] at h'; cases h'
      | some x =>
        cases q2 : compL f r with
        | none => rw [q1, q2] at h'; cases h'
        | some b' =>
          rw [q1, q2] at h'
          cases h'
          rw [semL]
          exact pf_cons (hf e x q1) (ih q2) (star_no hst')
theorem semL_len {cl : Cls} {f : Expr → Option CE} {l : Lc} : ∀ {es : List Expr} {a : CL} {h h1 : AH} {us : List U}, es.any isStar = false → compL f es = some a → semL cl a l h = .ok us h1 → us.length = es.length
  | [], a, h, h1, us, _, e, q => by
    cases e
    rw [semL] at q
    cases q
    rfl
  | e :: es, a, h, h1, us, hs, ec, q => by
    rw [List.any_cons] at hs
    obtain ⟨hs1, hs2⟩ := Bool.or_eq_false_iff.mp hs
    have h' : (match f e, compL f es with | some a, some b => some (CL.cons a b) | _, _ => none) = some a := by
      cases e <;> first | exact ec | exact nomatch hs1
    cases q1 : f e with
    | none => rw [q1] at h'; cases h'
    | some x =>
      cases q2 : compL f es with
      | none => rw [q1, q2] at h'; cases h'
      | some b' =>
        rw [q1, q2] at h'
        cases h'
        rw [semL] at q
        unfold fCons at q
        cases q3 : semE cl x l h with
        | stuck => rw [q3] at q; cases q
        | exc _ _ _ => rw [q3] at q; cases q
        | ok u h2 =>
          rw [q3] at q
          have q' : (semL cl b' l h2).bind (fun xs h3 => R.ok (u :: xs) h3) = .ok us h1 := q
          cases q4 : semL cl b' l h2 with
          | stuck => rw [q4] at q'; cases q'
          | exc _ _ _ => rw [q4] at q'; cases q'
          | ok xs h3 =>
            rw [q4] at q'
            cases q'
            exact congrArg (· + 1) (semL_len hs2 q2 q4)
theorem semK_len {cl : Cls} {f : Expr → Option CE} {l : Lc} : ∀ {kws : List Keyword} {a : CL} {h h1 : AH} {us : List U}, compK f kws = some a → semL cl a l h = .ok us h1 → us.length = kws.length
  | [], a, h, h1, us, e, q => by
    cases e
    rw [semL] at q
    cases q
    rfl
  | ⟨_, e, _⟩ :: es, a, h, h1, us, ec, q => by
    have h' : (match f e, compK f es with | some a, some b => some (CL.cons a b) | _, _ => none) = some a := ec
    cases q1 : f e with
    | none => rw [q1] at h'; cases h'
    | some x =>
      cases q2 : compK f es with
      | none => rw [q1, q2] at h'; cases h'
      | some b' =>
        rw [q1, q2] at h'
        cases h'
        rw [semL] at q
        unfold fCons at q
        cases q3 : semE cl x l h with
        | stuck => rw [q3] at q; cases q
        | exc _ _ _ => rw [q3] at q; cases q
        | ok u h2 =>
          rw [q3] at q
          have q' : (semL cl b' l h2).bind (fun xs h3 => R.ok (u :: xs) h3) = .ok us h1 := q
          cases q4 : semL cl b' l h2 with
          | stuck => rw [q4] at q'; cases q'
          | exc _ _ _ => rw [q4] at q'; cases q'
          | ok xs h3 =>
            rw [q4] at q'
            cases q'
            exact congrArg (· + 1) (semK_len q2 q4)
/-- f(e, .., k = v, ..) -/
theorem pf_call {x : Str} {p pos : Pos} {es : List Expr} {kws : List Keyword} {ks : List Str} {bs : List Bs} {f : Expr → Option CE} {cl : Cls} {a b : CL} {fa : Addr} {fd : FuncData} {ps : List Str} (g : Gd X G E k) (hg : Gl X x) (hd : (x == ("__debug__" : Str)) = false) (hm : G.mg x = some (.ref fa)) (hk : PySem.W.keepIn G.K (.ref fa) = true)
    (hb : Bn G.K fd ps es.length ks bs) (F : FnG X.prog X.w G.K G.mg X.base k fa fd ps (spU G ps.length (cl.f x))) (hl : bs.length = ps.length) (hs : es.any isStar = false) (hks : kwNames kws = some ks) (hf : ∀ e c, f e = some c → PE X e (tF G E (semE cl c))) (ha : compL f es = some a) (hkw : compK f kws = some b) :
    PE X (.Call (.Name x p) es kws pos) (tF G E (semE cl (.call x bs a b))) := by
  obtain ⟨k1, k2, k3, k4⟩ := kw_all (pos := pos) (env := X.env) hks
  obtain ⟨tk, pk, htk⟩ := pk_of (b := b) hf hkw
  have pa := pa_of g.K hf ha
  have hb' : Bn X.K fd ps es.length ks bs := by rw [g.K]; exact hb
  have F' : FnG X.prog X.w X.K X.mg X.base k fa fd ps (spU G ps.length (cl.f x)) := by rw [g.K, g.mg]; exact F
  refine ⟨fun pins s σ H Q I hq => ?_⟩
  refine wpAny_Call_Name_kw (ld_glob I hg (by rw [g.mg]; exact hm) ?_ hd)
  obtain ⟨ρ, l, h, sm, sl, rn⟩ := hq
  rw [semE] at rn
  -- behind the values: the callee
  have last : ∀ {H2 : Hp} {ρ2 : Nat → Addr} {h2 : AH} {vs zs : List V} {us ws : List U}, Sim G ρ2 h2 H2 → RUs G.K H2 ρ2 h2 vs us → RUs G.K H2 ρ2 h2 zs ws → Rn G (RelU G) E (match bindA U.d bs us ws with | some ws => cl.f x ws h2 | none => .stuck) ρ2 h2 H2 Q → ∀ vv, bindA atomV bs vs zs = some vv → spU G ps.length (cl.f x) vv H2 Q E := by
    intro H2 ρ2 h2 vs zs us ws s2 r1 r2 n vv ev
    cases q : bindA U.d bs us ws with
    | none => rw [q] at n; exact n.elim
    | some uu =>
      rw [q] at n
      exact ⟨(bindA_len ev).trans hl, ρ2, h2, uu, s2, bindA_rus r1 r2 hb.atoms ev q, n⟩
  cases es with
  | nil =>
    cases ha
    have rn' : Rn G (RelU G) E ((semL cl b l h).bind fun zs h2 => match bindA U.d bs [] zs with | some ws => cl.f x ws h2 | none => .stuck) ρ h H Q := by
      rw [semL] at rn
      exact rn
    refine PySem.W.callWith_KW0 (h₀ := X.base) I.ok.mod.kin (by rw [g.K]; exact hk) k1 ?_ (by rw [k3, Bool.or_false]; rfl)
    refine thn (pk.run pos pins s σ H _ I (htk σ H _ ⟨ρ, l, h, sm, sl, rn'.bind⟩)) fun wv s2 hw => ?_
    obtain ⟨zs, H2, I2, rz, ρ2, h2, ws, e2, s2', r2, eq2, n2⟩ := hw
    refine ⟨I2.kIn, ?_⟩
    rw [k2]
    exact run_fnG (us := []) (vs := []) F' g hb' I2 .nil rz rfl (by rw [k4, Paired.length r2]; exact semK_len hkw eq2) (last s2' .nil r2 n2)
  | cons e es =>
    rw [List.any_cons] at hs
    obtain ⟨hs1, hs2⟩ := Bool.or_eq_false_iff.mp hs
    refine PySem.W.callWith_KW (h₀ := X.base) I.ok.mod.kin (by rw [g.K]; exact hk) k1 ?_ (by rw [k3, Bool.or_false]; exact star_any (by rw [List.any_cons, hs1, hs2]; rfl)) (star_no hs1)
    refine thn (pa.run pos pins s σ H _ I ⟨ρ, l, h, sm, sl, rn.bind⟩) fun uv s1 hu => ?_
    obtain ⟨vs, H1, I1, rv, ρ1, h1, us, e1, s1', r1, eq1, n1⟩ := hu
    refine thn (pk.run pos pins s1 σ H1 _ I1 (htk σ H1 _ ⟨ρ1, l, h1, s1', sl.ext e1, n1.bind⟩)) fun wv s2 hw => ?_
    obtain ⟨zs, H2, I2, rz, ρ2, h2, ws, e2, s2', r2, eq2, n2⟩ := hw
    refine ⟨I2.kIn, ?_⟩
    rw [k2]
    exact run_fnG F' g hb' I2 rv rz (by rw [Paired.length r1]; exact semL_len (by rw [List.any_cons, hs1, hs2]; rfl) ha eq1) (by rw [k4, Paired.length r2]; exact semK_len hkw eq2) (last s2' (RUs.ext e2 r1) r2 n2)
end
end RB
/-! RB13b: small things. -/
namespace RB
open PySem PySem.Spec L2
theorem omap {α β : Type} {o : Option α} {f : α → β} {b : β} (h : o.map f = some b) : ∃ a, o = some a ∧ f a = b := by
  cases o with
  | none => cases h
  | some a => exact ⟨a, rfl, Option.some.inj h⟩
section
variable {G : Gb}
theorem test_of {X : Cx} {E : XK} {e : Expr} {g : FE} (h : PE X e (tF G E g)) (hv : byValue e = true) : PT X e (tFT G E (fTe g)) := by
  refine pf_tval h ?_
  intro whole
  cases e with
  | UnaryOp o a p => cases o <;> first | rfl | exact nomatch hv
  | _ => first | rfl | exact nomatch hv
end
end RB
/-! RD1: what is asked of an exception that is held. -/
namespace RB
open PySem PySem.Spec PyProof.Rows L2
/-- the exception that a context holds: its address, class, dict -/
structure Held (X : Cx) (a D dd : Addr) : Prop where
  ex : ∃ oe, (a, oe) ∈ X.pn ∧ Zc (.ref D) (some dd) oe ∧ ∃ vs, oe.data = .fields vs
section
variable {X : Cx} {G : Gb} {E : XK} {a D dd : Addr}
def rIsX (K : PySem.W.Frag) (D a dd : Addr) : List V → Hp → VK → Prop := fun xs H Q => ∃ (c : V) (cv : Value) (b : Bool), xs = [.ref a, c] ∧ (∀ u, RelV c u → u = cv) ∧ (∃ fs, H dd = some (.xd fs)) ∧ PySem.W.kitOne K (.ref D) cv = some b ∧ Q (.bl b) H
theorem inst_of {pins : List (Addr × Obj)} {σ : L2.St} {H : Hp} {s : Shared} {fs : List (Str × V)} (h : Held X a D dd) (I : Inv X pins σ H s) (ea : H dd = some (.xd fs)) : ∃ oe od, PySem.W.InstAt s.heap a oe D (some od) := by
  obtain ⟨oe, hp, hz, vs, hd⟩ := h.ex
  obtain ⟨ha, _⟩ := I.pin (a, oe) (List.mem_append_left _ hp)
  have hx : ObjOk X.prog X.w H s.heap dd (.xd fs) := I.hok dd _ ea
  obtain ⟨mA, hns, hr⟩ := hx
  obtain ⟨od, ho, hl⟩ := lookIn_ns hns
  exact ⟨oe, od, ⟨ha, hz.1, by unfold PySem.W.notCls; rw [hd] <;> rfl, by rw [hz.2]; exact ho⟩⟩
theorem call_isX (C : ExcC X.K D) (h : Held X a D dd) : CallR X (.builtin "isinstance") (rIsX X.K D a dd) := by
  intro pins s σ H xs us Q I r hq
  obtain ⟨c, cv, b, rfl, hcv, ⟨fs, hdd⟩, e, q⟩ := hq
  cases r with
  | cons rx rr =>
    cases rr with
    | cons rt rr =>
      cases rr
      cases rx
      have ec := hcv _ rt
      subst ec
      obtain ⟨oe, od, J⟩ := inst_of h I hdd
      obtain ⟨cd, hc, _⟩ := PySem.W.any_some C.hd
      exact PySem.W.kia_one (PySem.W.kitx_exc (by rw [hc]; rfl) C.hg C.hk C.hs C.ha C.hn C.ht C.hm) I.kIn J e (fun z => nomatch z) fun tk => ⟨.bl b, H, I.kept (t' := tk) fun _ _ z => z, rfl, q⟩
/-- what of the slot is asked: it is the exception -/
def fIsx (i : Nat) (a dd : Addr) (b : Bool) : FE := fun l h => match l[i]? with
  | some (some (.x a' dd' _)) => if a' = a ∧ dd' = dd then .ok (.d (.bool b)) h else .stuck
  | _ => .stuck
def fFld (i : Nat) (a dd : Addr) (n : Str) : FE := fun l h => match l[i]? with
  | some (some (.x a' dd' fs)) => if a' = a ∧ dd' = dd then R.of ((fs.lookup n).map U.d) h else .stuck
  | _ => .stuck
theorem pf_isx {i : Nat} {e c : Str} {cv : Value} {vc : V} {b : Bool} {p p1 p2 pos : Pos} (hK : X.K = G.K) (C : ExcC X.K D) (hh : Held X a D dd) (hg : Gl X "isinstance") (hm : X.mg "isinstance" = none) (hN : X.N[i]? = some e) (hv : Vis X.env.scope e) (hd : (e == ("__debug__" : Str)) = false) (hcd : (e == ("__classdict__" : Str)) = false)
    (hc : ∀ p, PE X (.Name c p) (tC vc)) (hcv : ∀ u, RelV vc u → u = cv) (hk : PySem.W.kitOne X.K (.ref D) cv = some b) : PE X (.Call (.Name "isinstance" p) [.Name e p1, .Name c p2] [] pos) (tF G E (fIsx i a dd b)) := by
  refine PE.imp (pe_callB (call_isX C hh) hg hm (by decide +kernel) (pa_cons (pe_var hN hv hd hcd) (pa_cons (hc p2) pa_nil rfl) rfl) (by decide) (by decide) rfl rfl) fun σ H Q ⟨ρ, l, h, sm, sl, rn⟩ => ?_
  unfold fIsx at rn
  split at rn
  · rename_i a' dd' fs eq
    by_cases hq : a' = a ∧ dd' = dd
    · rw [if_pos hq] at rn
      obtain ⟨rfl, rfl⟩ := hq
      obtain ⟨v, ev, rv⟩ := sl.at_ i _ eq
      obtain ⟨rfl, ⟨vfs, hx, _⟩, _⟩ := rv
      exact ⟨_, ev, vc, cv, b, rfl, hcv, ⟨vfs, hx⟩, hk, rn.here sm (show RU G.K H ρ h (.bl b) (.d (.bool b)) from .bl b)⟩
    · rw [if_neg hq] at rn
      exact rn.elim
  · exact rn.elim
theorem lookP {K : PySem.W.Frag} {H : Hp} {n : Str} : ∀ {vfs : List (Str × V)} {fs : List (Str × PyData)} {d : PyData}, Paired (fun (p : Str × V) (q : Str × PyData) => p.1 = q.1 ∧ Rp K H p.2 q.2) vfs fs → fs.lookup n = some d → ∃ v, vfs.lookup n = some v ∧ Rp K H v d
  | _, _, d, .nil, e => by cases e
  | (x, v) :: vr, (y, w) :: fr, d, .cons r t, e => by
    obtain ⟨r1, r2⟩ := r
    have r1 : x = y := r1
    subst r1
    rw [List.lookup_cons] at e
    rw [List.lookup_cons]
    cases q : n == x with
    | true =>
      rw [q] at e
      cases e
      exact ⟨v, rfl, r2⟩
    | false =>
      rw [q] at e
      exact lookP t e
theorem pf_fld {i : Nat} {e n : Str} {p1 pos : Pos} (hK : X.K = G.K) (T : XfC X.K D) (hno : PySem.W.findIn X.K (.ref D) n = some none) (hh : Held X a D dd) (hN : X.N[i]? = some e) (hv : Vis X.env.scope e) (hd : (e == ("__debug__" : Str)) = false) (hcd : (e == ("__classdict__" : Str)) = false)
    (hb : attributeBase (.Name e p1) n X.env (eval (.Name e p1) X.env) = eval (.Name e p1) X.env) : PE X (.Attribute (.Name e p1) n pos) (tF G E (fFld i a dd n)) := by
  refine ⟨fun pins s σ H Q I hq => ?_⟩
  obtain ⟨ρ, l, h, sm, sl, rn⟩ := hq
  unfold fFld at rn
  split at rn
  · rename_i a' dd' fs eq
    by_cases hq : a' = a ∧ dd' = dd
    · rw [if_pos hq] at rn
      obtain ⟨rfl, rfl⟩ := hq
      obtain ⟨v, ev, rv⟩ := sl.at_ i _ eq
      obtain ⟨rfl, ⟨vfs, ea, pr⟩, _⟩ := rv
      cases q : fs.lookup n with
      | none => rw [q] at rn; exact rn.elim
      | some d =>
        rw [q] at rn
        obtain ⟨v, l1, r1⟩ := lookP pr q
        refine attr_of hb (thn ((pe_var (pos := p1) hN hv hd hcd).run pins s σ H (fun v H1 => v = .ref a' ∧ H1 = H) I ⟨_, ev, rfl, rfl⟩) fun u s1 hh' => ?_)
        obtain ⟨x, H1, I1, rx, ex, eh⟩ := hh'
        rw [eh] at I1
        subst ex
        obtain rfl : u = Value.ref a' := rx
        obtain ⟨oe, hp, hz, vs, hd'⟩ := hh.ex
        obtain ⟨ha, _⟩ := I1.pin (a', oe) (List.mem_append_left _ hp)
        have hx : ObjOk X.prog X.w H s1.heap dd' (.xd vfs) := I1.hok dd' _ ea
        obtain ⟨mA, hns, hr⟩ := hx
        obtain ⟨od, ho, hl⟩ := lookIn_ns hns
        obtain ⟨u, hu, ru⟩ := RelO.some_of (v := v) (o := mA n) (by rw [← l1]; exact hr n)
        have J : PySem.W.InstAt s1.heap a' oe D (some od) := ⟨ha, hz.1, by unfold PySem.W.notCls; rw [hd'] <;> rfl, by rw [hz.2]; exact ho⟩
        exact HandSPX.exc_get I1.kIn J T.ga T.gg T.exC (PySem.W.findObj_own T.hdC hno rfl (by rw [hl, hu])) (handed_of ru) ⟨v, H, I1.tok _, ru, rn.here sm r1⟩
    · rw [if_neg hq] at rn
      exact rn.elim
  · exact rn.elim
/-! ### count of a truth value -/
def eqb (b : Bool) : Value → Bool
  | .bool c => c == b
  | _ => false
def rCntB (K : PySem.W.Frag) : V → List V → Hp → VK → Prop := fun x xs H Q => ∃ (p : Addr) (bs : List Bool) (b : Bool), x = .ref p ∧ xs = [.bl b] ∧ SqL K H p (bs.map V.bl) ∧ Q (.int (bs.count b : Nat)) H
theorem bools_of {us : List Value} {bs : List Bool} (h : Vals (bs.map V.bl) us) : us = bs.map Value.bool := by
  induction bs generalizing us with
  | nil => cases h; rfl
  | cons b r ih =>
    cases h with
    | cons h1 h2 =>
      cases h1
      rw [ih h2]
      rfl
theorem count_eqb (b : Bool) : ∀ bs : List Bool, (bs.map Value.bool).countP (eqb b) = bs.count b
  | [] => rfl
  | c :: r => by
    rw [List.map_cons, List.countP_cons, List.count_cons, count_eqb b r]
    rfl
theorem mt_bcount : MtR X "list.count" (rCntB X.K) := by
  intro pins s σ H x xs v us Q I rx rxs h
  obtain ⟨p, bs, b, rfl, rfl, hs, q⟩ := h
  cases rx
  obtain ⟨u, rfl, ru⟩ := rxs.one
  cases ru
  obtain ⟨its, rv, ⟨⟨cls, dd, data, sl⟩, n, ho, hc, hdn, hd⟩, hlen⟩ := I.list hs
  simp only at hc hd
  subst hc hd
  have hi := bools_of rv
  subst hi
  refine call_meets PySem.F.slot_list_count ⟨_, ho, rfl⟩ PySem.F.entry_list_count (PySem.F.args_list_count_2 _ _)
    (SeqAt.list_countAt p (bs.map Value.bool).toArray n dd sl (.bool b) (eqb b)) ⟨ho, fun y hy => ?_, ?_⟩
  · have hy' : y ∈ bs.map Value.bool := by simpa using hy
    obtain ⟨c, _, rfl⟩ := List.mem_map.mp hy'
    exact SeqAt.EqAt.bool_bool c b
  · refine ⟨.int (bs.count b : Nat), H, I.tok _, ⟨s.toks, ?_⟩, q⟩
    show Value.int ((((bs.map Value.bool).toArray.toList.countP (eqb b) : Nat)) : Int) s.toks = Value.int ((bs.count b : Nat) : Int) s.toks
    rw [show (bs.map Value.bool).toArray.toList = bs.map Value.bool from rfl, count_eqb]
/-- truth values of data -/
def boolsD : List PyData → Option (List Bool)
  | [] => some []
  | .bool b :: r => (boolsD r).map (b :: ·)
  | _ :: _ => none
theorem bools_vs {K : PySem.W.Frag} {H : Hp} : ∀ {ds : List PyData} {vs : List V} {bs : List Bool}, RpA K H vs ds → boolsD ds = some bs → vs = bs.map V.bl
  | [], _, bs, h, e => by cases h; cases e; rfl
  | d :: ds, _, bs, h, e => by
    cases h with
    | cons h1 h2 =>
      cases d with
      | bool b =>
        obtain ⟨r, q, rfl⟩ := omap (show (boolsD ds).map (b :: ·) = some bs from e)
        cases h1
        rw [bools_vs h2 q]
        rfl
      | _ => cases e
def cntU (h : AH) (x : U) (b : Bool) : Option PyData := match x with
  | .r n => (isLstAt h n).bind fun xs => (boolsD xs).map fun bs => .int (bs.count b : Nat)
  | _ => none
def fCnt (o : FE) (b : Bool) : FE := fun l h => (o l h).bind fun x h1 => R.of ((cntU h1 x b).map U.d) h1
theorem pf_cnt {o : Expr} {apos cpos cp : Pos} {j : Nat} {b : Bool} {go : FE} (hK : X.K = G.K) (ho : PE X o (tF G E go))
    (hbase : attributeBase o "count" X.env (eval o X.env) = eval o X.env) (hline : (apos.endLine == cpos.line) = true) :
    PE X (.Call (.Attribute o "count" apos) [.Constant (.bool b) j cp] [] cpos) (tF G E (fCnt go b)) := by
  refine PE.imp (pe_bm PySem.F.plainAttrs_list PySem.F.slot_list_count PySem.F.type_list_count mt_bcount ho (pa_cons pe_bl pa_nil) hbase rfl hline rfl rfl) fun σ H Q ⟨ρ, l, h, sm, sl, rn⟩ => ⟨ρ, l, h, sm, sl, rn.bind.mono ?_⟩
  rintro x H1 ⟨ρ1, h1, u, e1, s1, r1, _, n1⟩
  cases q : cntU h1 u b with
  | none => rw [q] at n1; exact n1.elim
  | some d =>
    rw [q] at n1
    cases u with
    | d _ => cases q
    | x _ _ _ => cases q
    | r n =>
      have q' : ((isLstAt h1 n).bind fun xs => (boolsD xs).map fun bs => PyData.int (bs.count b : Nat)) = some d := q
      cases q1 : isLstAt h1 n with
      | none => rw [q1] at q'; cases q'
      | some xs =>
        rw [q1] at q'
        obtain ⟨bs, q2, rfl⟩ := omap (show ((boolsD xs).map fun bs => PyData.int (bs.count b : Nat)) = some d from q')
        obtain ⟨hn, _, vs, ev, rv⟩ := isLst_at s1 q1
        obtain ⟨_, rfl⟩ := r1
        have evs := bools_vs rv q2
        subst evs
        exact ⟨.inl ⟨rfl, _, SqL.of ev⟩, ρ1 n, bs, b, rfl, rfl, SqL.of ev, n1.here s1 (show RU G.K H1 ρ1 h1 (.int _) (.d (.int _)) from .int _)⟩
end
end RB
/-! RD2: the def that tells a refusal (printed by gen_rd2.py). -/
namespace RB
open PySem PySem.Spec PyProof.Rows L2
def famNames : List Str := ["PaperError", "UseError", "BenchError", "TextError", "NotUsable", "InvalidPaper", "InvalidText"]
def fldNames : List Str := ["word", "at", "line", "column"]
/-- what is known of an exception's class D -/
structure RefF (K : PySem.W.Frag) (mg : Str → Option Value) (D : Addr) (b : Str → Bool) : Prop where
  c : ExcC K D
  f : XfC K D
  no : ∀ n ∈ fldNames, PySem.W.findIn K (.ref D) n = some none
  own : ∀ c ∈ famNames, ∃ A : Addr, mg c = some (.ref A) ∧ PySem.W.kitOne K (.ref D) (.ref A) = some (b c)
  vm : mg "ValueError" = none
  val : PySem.W.kitOne K (.ref D) (.type "ValueError") = some true
  isi : mg "isinstance" = none
/-- what the def computes -/
def gRef (a dd : Addr) (b : Str → Bool) : FS :=
  fSeq (fAsg (fMls (fCons (fIsx 0 a dd (b "PaperError")) (fCons (fIsx 0 a dd (b "UseError")) (fCons (fIsx 0 a dd (b "BenchError")) fNil)))) (.v 1))
  (fSeq (fExpr (fApp (fVar 1) (fCons (fIsx 0 a dd (b "TextError")) fNil)))
  (fSeq (fIte (fTe (fOr (fOp neD (fCnt (fVar 1) true) (fC (.int 1))) (fUn notD (fIsx 0 a dd true)))) (fSeq (fRet (fTup (fCons (fC (.str "odd")) fNil))) fPass) fPass)
  (fSeq (fIte (fTe (fAnd (fIsx 0 a dd (b "NotUsable")) (fOp ixD (fVar 1) (fC (.int 1))))) (fSeq (fRet (fTup (fCons (fC (.str "NotUsable")) (fCons (fFld 0 a dd "word") (fCons (fFld 0 a dd "at") fNil))))) fPass) fPass)
  (fSeq (fIte (fTe (fAnd (fIsx 0 a dd (b "InvalidPaper")) (fOp ixD (fVar 1) (fC (.int 0))))) (fSeq (fRet (fTup (fCons (fC (.str "InvalidPaper")) (fCons (fFld 0 a dd "word") (fCons (fFld 0 a dd "at") fNil))))) fPass) fPass)
  (fSeq (fRet (fIf (fTe (fAnd (fIsx 0 a dd (b "InvalidText")) (fOp ixD (fVar 1) (fC (.int 3))))) (fTup (fCons (fC (.str "InvalidText")) (fCons (fFld 0 a dd "line") (fCons (fFld 0 a dd "column") fNil)))) (fTup (fCons (fC (.str "odd")) fNil)))) fPass)))))
section
variable {X : Cx} {G : Gb} {E : XK} {a D dd : Addr} {b : Str → Bool}
theorem refusal_body {p0 p1 p2 p3 p4 p5 p6 p7 p8 p9 p10 p11 p12 p13 p14 p15 p16 p17 p18 p19 p20 p21 p22 p23 p24 p25 p26 p27 p28 p29 p30 p31 p32 p33 p34 p35 p36 p37 p38 p39 p40 p41 p42 p43 p44 p45 p46 p47 p48 p49 p50 p51 p52 p53 p54 p55 p56 p57 p58 p59 p60 p61 p62 p63 p64 p65 p66 p67 p68 p69 p70 p71 p72 p73 p74 p75 p76 p77 p78 p79 p80 p81 p82 p83 p84 p85 p86 p87 p88 : Pos} (hK : X.K = G.K) (F : RefF X.K X.mg D b) (hh : Held X a D dd) (hu : X.A.units + 64 < cLine) (nd : X.N.Nodup) (n0 : X.N[0]? = some ("_law_e" : Str)) (n1 : X.N[1]? = some ("_law_families" : Str))
    (l0 : X.env.scope.names.lookup ("_law_e" : Str) = some .local) (l1 : X.env.scope.names.lookup ("_law_families" : Str) = some .local) (gI : Gl X "isinstance") (gV : Gl X "ValueError") (gF : ∀ c ∈ famNames, Gl X c)
    (e1 : (p16.endLine == p21.line) = true) (e2 : (p24.endLine == p26.line) = true) :
    PSs X [ (PySem.Stmt.Assign (targets := [(PySem.Expr.Name "_law_families" p0)]) (value := (PySem.Expr.List (elts := [ (PySem.Expr.Call (func := (PySem.Expr.Name "isinstance" p1)) (args := [(PySem.Expr.Name "_law_e" p2), (PySem.Expr.Name "PaperError" p3)]) (keywords := []) (pos := p4)), (PySem.Expr.Call (func := (PySem.Expr.Name "isinstance" p5)) (args := [(PySem.Expr.Name "_law_e" p6), (PySem.Expr.Name "UseError" p7)]) (keywords := []) (pos := p8)), (PySem.Expr.Call (func := (PySem.Expr.Name "isinstance" p9)) (args := [(PySem.Expr.Name "_law_e" p10), (PySem.Expr.Name "BenchError" p11)]) (keywords := []) (pos := p12))]) (pos := p13))) (pos := p14)), (PySem.Stmt.Expr (value := (PySem.Expr.Call (func := (PySem.Expr.Attribute (PySem.Expr.Name "_law_families" p15) "append" p16)) (args := [ (PySem.Expr.Call (func := (PySem.Expr.Name "isinstance" p17)) (args := [(PySem.Expr.Name "_law_e" p18), (PySem.Expr.Name "TextError" p19)]) (keywords := []) (pos := p20))]) (keywords := []) (pos := p21))) (pos := p22)), (PySem.Stmt.If (test := (PySem.Expr.BoolOp (op := PySem.BoolOp.Or) (values := [ (PySem.Expr.Compare (left := (PySem.Expr.Call (func := (PySem.Expr.Attribute (PySem.Expr.Name "_law_families" p23) "count" p24)) (args := [(PySem.Expr.Constant (PySem.Const.bool true) 0 p25)]) (keywords := []) (pos := p26))) (ops := [PySem.CmpOp.NotEq]) (comparators := [(PySem.Expr.Constant (PySem.Const.int 1) 0 p27)]) (pos := p28)), (PySem.Expr.UnaryOp (op := PySem.UnaryOp.Not) (operand := (PySem.Expr.Call (func := (PySem.Expr.Name "isinstance" p29)) (args := [(PySem.Expr.Name "_law_e" p30), (PySem.Expr.Name "ValueError" p31)]) (keywords := []) (pos := p32))) (pos := p33))]) (pos := p34))) (body := [ (PySem.Stmt.Return (value := (some (PySem.Expr.Tuple [(PySem.Expr.Constant (PySem.Const.str "odd") 0 p35)] 0 p36))) (pos := p37))]) (orelse := []) (pos := p38)), (PySem.Stmt.If (test := (PySem.Expr.BoolOp (op := PySem.BoolOp.And) (values := [ (PySem.Expr.Call (func := (PySem.Expr.Name "isinstance" p39)) (args := [(PySem.Expr.Name "_law_e" p40), (PySem.Expr.Name "NotUsable" p41)]) (keywords := []) (pos := p42)), (PySem.Expr.Subscript (value := (PySem.Expr.Name "_law_families" p43)) (slice := (PySem.Expr.Constant (PySem.Const.int 1) 0 p44)) (pos := p45))]) (pos := p46))) (body := [ (PySem.Stmt.Return (value := (some (PySem.Expr.Tuple (elts := [ (PySem.Expr.Constant (PySem.Const.str "NotUsable") 0 p47), (PySem.Expr.Attribute (PySem.Expr.Name "_law_e" p48) "word" p49), (PySem.Expr.Attribute (PySem.Expr.Name "_law_e" p50) "at" p51)]) (k := 0) (pos := p52)))) (pos := p53))]) (orelse := []) (pos := p54)), (PySem.Stmt.If (test := (PySem.Expr.BoolOp (op := PySem.BoolOp.And) (values := [ (PySem.Expr.Call (func := (PySem.Expr.Name "isinstance" p55)) (args := [(PySem.Expr.Name "_law_e" p56), (PySem.Expr.Name "InvalidPaper" p57)]) (keywords := []) (pos := p58)), (PySem.Expr.Subscript (value := (PySem.Expr.Name "_law_families" p59)) (slice := (PySem.Expr.Constant (PySem.Const.int 0) 0 p60)) (pos := p61))]) (pos := p62))) (body := [ (PySem.Stmt.Return (value := (some (PySem.Expr.Tuple (elts := [ (PySem.Expr.Constant (PySem.Const.str "InvalidPaper") 0 p63), (PySem.Expr.Attribute (PySem.Expr.Name "_law_e" p64) "word" p65), (PySem.Expr.Attribute (PySem.Expr.Name "_law_e" p66) "at" p67)]) (k := 0) (pos := p68)))) (pos := p69))]) (orelse := []) (pos := p70)), (PySem.Stmt.Return (value := (some (PySem.Expr.IfExp (test := (PySem.Expr.BoolOp (op := PySem.BoolOp.And) (values := [ (PySem.Expr.Call (func := (PySem.Expr.Name "isinstance" p71)) (args := [(PySem.Expr.Name "_law_e" p72), (PySem.Expr.Name "InvalidText" p73)]) (keywords := []) (pos := p74)), (PySem.Expr.Subscript (value := (PySem.Expr.Name "_law_families" p75)) (slice := (PySem.Expr.Constant (PySem.Const.int 3) 0 p76)) (pos := p77))]) (pos := p78))) (body := (PySem.Expr.Tuple (elts := [ (PySem.Expr.Constant (PySem.Const.str "InvalidText") 0 p79), (PySem.Expr.Attribute (PySem.Expr.Name "_law_e" p80) "line" p81), (PySem.Expr.Attribute (PySem.Expr.Name "_law_e" p82) "column" p83)]) (k := 0) (pos := p84))) (orelse := (PySem.Expr.Tuple (elts := [(PySem.Expr.Constant (PySem.Const.str "odd") 0 p85)]) (k := 0) (pos := p86))) (pos := p87)))) (pos := p88))] (tFS G E (gRef a dd b)) := by
  have v0 : Vis X.env.scope ("_law_e" : Str) := .inl l0
  have v1 : Vis X.env.scope ("_law_families" : Str) := .inl l1
  have isx : ∀ (c : Str), c ∈ famNames → (c == ("__debug__" : Str)) = false → ∀ (q1 q2 q3 q4 : Pos), PE X (.Call (.Name "isinstance" q1) [.Name "_law_e" q2, .Name c q3] [] q4) (tF G E (fIsx 0 a dd (b c))) := by
    intro c hc hd q1 q2 q3 q4
    obtain ⟨A, m, k⟩ := F.own c hc
    exact pf_isx (vc := .ref A) (cv := .ref A) hK F.c hh gI F.isi n0 v0 (by decide) (by decide) (fun p => pe_glob (gF c hc) m rfl hd) (fun u r => r) k
  have isv : ∀ (q1 q2 q3 q4 : Pos), PE X (.Call (.Name "isinstance" q1) [.Name "_law_e" q2, .Name "ValueError" q3] [] q4) (tF G E (fIsx 0 a dd true)) := by
    intro q1 q2 q3 q4
    exact pf_isx (vc := .ty "ValueError") (cv := .type "ValueError") hK F.c hh gI F.isi n0 v0 (by decide) (by decide) (fun p => pe_bltn gV F.vm (by decide +kernel) rfl (by decide) (by decide)) (fun u r => r) F.val
  have fld : ∀ (n : Str), n ∈ fldNames → ∀ (q1 q2 : Pos), PE X (.Attribute (.Name "_law_e" q1) n q2) (tF G E (fFld 0 a dd n)) := fun n hn q1 q2 => pf_fld hK F.f (F.no n hn) hh n0 v0 (by decide) (by decide) rfl
  have fam : ∀ (q : Pos), PE X (.Name "_law_families" q) (tF G E (fVar 1)) := fun q => pf_var n1 v1 (by decide) (by decide)
  have str : ∀ (z : Str) (j : Nat) (q : Pos), PE X (.Constant (.str z) j q) (tF G E (fC (.str z))) := fun z j q => pf_c pe_str fun H => .str z
  have int : ∀ (z : Int) (j : Nat) (q : Pos), PE X (.Constant (.int z) j q) (tF G E (fC (.int z))) := fun z j q => pf_c pe_int fun H => .int z
  have odd : ∀ (q1 q2 : Pos), PE X (.Tuple [.Constant (.str "odd") 0 q1] 0 q2) (tF G E (fTup (fCons (fC (.str "odd")) fNil))) := fun q1 q2 => pf_tup (pf_cons (str _ _ _) pf_nil rfl)
  have three : ∀ (z n1 n2 : Str), n1 ∈ fldNames → n2 ∈ fldNames → ∀ (q1 q2 q3 q4 q5 q6 : Pos), PE X (.Tuple [.Constant (.str z) 0 q1, .Attribute (.Name "_law_e" q2) n1 q3, .Attribute (.Name "_law_e" q4) n2 q5] 0 q6) (tF G E (fTup (fCons (fC (.str z)) (fCons (fFld 0 a dd n1) (fCons (fFld 0 a dd n2) fNil))))) :=
    fun z n1 n2 h1 h2 q1 q2 q3 q4 q5 q6 => pf_tup (pf_cons (str _ _ _) (pf_cons (fld n1 h1 _ _) (pf_cons (fld n2 h2 _ _) pf_nil rfl) rfl) rfl)
  have tst : ∀ (c : Str) (z : Int), c ∈ famNames → (c == ("__debug__" : Str)) = false → ∀ (q1 q2 q3 q4 q5 q6 q7 q8 : Pos), PT X (.BoolOp .And [.Call (.Name "isinstance" q1) [.Name "_law_e" q2, .Name c q3] [] q4, .Subscript (.Name "_law_families" q5) (.Constant (.int z) 0 q6) q7] q8) (tFT G E (fTe (fAnd (fIsx 0 a dd (b c)) (fOp ixD (fVar 1) (fC (.int z)))))) :=
    fun c z hc hd q1 q2 q3 q4 q5 q6 q7 q8 => (pf_wand (test_of (isx c hc hd _ _ _ _) rfl) (pw_one_and (test_of (pf_ix hK (fun _ _ => rfl) (fam _) (int z 0 _)) rfl))).pt
  have loc1 : Loc X.env.scope ("_law_families" : Str) := .inl l1
  refine pf_scons (pf_set nd n1 loc1 (pf_mls (pf_cons (isx _ (by decide) (by decide) _ _ _ _) (pf_cons (isx _ (by decide) (by decide) _ _ _ _) (pf_cons (isx _ (by decide) (by decide) _ _ _ _) pf_nil rfl) rfl) rfl)) rfl (.inr l1)) ?_
  refine pf_scons (pf_expr (pf_app hK (fam _) (pf_cons (isx _ (by decide) (by decide) _ _ _ _) pf_nil rfl) rfl rfl e1 rfl rfl) rfl) ?_
  refine pf_scons (pf_ite (pf_wor (pf_tcmp hK (op_neDD hu) (pf_cnt hK (fam _) rfl e2) (int 1 _ _) rfl) (pw_one_or (pf_tnot (test_of (isv _ _ _ _) rfl)))).pt (pf_scons (pf_ret (odd _ _)) pf_snil) pf_snil) ?_
  refine pf_scons (pf_ite (tst _ _ (by decide) (by decide) _ _ _ _ _ _ _ _) (pf_scons (pf_ret (three _ _ _ (by decide) (by decide) _ _ _ _ _ _)) pf_snil) pf_snil) ?_
  refine pf_scons (pf_ite (tst _ _ (by decide) (by decide) _ _ _ _ _ _ _ _) (pf_scons (pf_ret (three _ _ _ (by decide) (by decide) _ _ _ _ _ _)) pf_snil) pf_snil) ?_
  exact pf_scons (pf_ret (pf_if (tst _ _ (by decide) (by decide) _ _ _ _ _ _ _ _) (three _ _ _ (by decide) (by decide) _ _ _ _ _ _) (odd _ _))) pf_snil
end
end RB
/-! RD3: the def that tells a refusal, called within an except suite; a lambda that is called back, with the guards known. -/
namespace RB
open PySem PySem.Spec PyProof.Rows L2 LamX
abbrev refN : List Str := ["_law_e", "_law_families"]
/-- what the body of that def gives, wherever an exception is held -/
def RefBody (G : Gb) (bd : List Stmt) (sc : Scope) : Prop := ∀ (X : Cx) (E : XK) (a D dd : Addr) (b : Str → Bool), X.K = G.K → RefF X.K X.mg D b → Held X a D dd → X.A.units + 64 < cLine → X.N = refN → X.env.scope = sc → PSs X bd (tFS G E (gRef a dd b))
/-- the def as it stands -/
structure RefD (G : Gb) (g : Addr) : Prop where
  ex : ∃ (fd : FuncData) (sc : Scope) (bd : List Stmt) (pr : Arguments), FunD G.K "_law_refusal" "_law_refusal" pr bd sc [] [] g fd ∧ FnScope refN ["_law_e"] sc ∧ L2.Binds G.K fd ["_law_e"] [] ∧ RefBody G bd sc
  mg : G.mg "_law_refusal" = some (.ref g)
def spRef (G : Gb) (a dd : Addr) (b : Str → Bool) : Hp → VK → Prop := fun H Q => ∃ ρ h fs, Sim G ρ h H ∧ XD G.K H dd fs ∧ (∀ n, n < h.length → ρ n ≠ dd) ∧ Rn G (RelU G) F0 (runBody 2 (gRef a dd b) [.x a dd fs] h) ρ h H Q
/-- its call -/
theorem ref_run {P : Program} {w : World} {G : Gb} {base : Heap} {g a D dd : Addr} {oe : Obj} {b : Str → Bool} {A : Around} {outer : List Env} {s : Shared} {H : Hp} {Q : VK} {k : Nat} (R0 : RefD G g) (F : RefF G.K G.mg D b) (hz : Zc (.ref D) (some dd) oe) (hf : ∃ vs, oe.data = .fields vs)
    (hr : L2H.RoomH (k + 1) A) (hpin : L2H.PinOk outer H s (a, oe)) (e0 : Env0 P w G.K G.mg base A outer s H) (hsp : spRef G a dd b H Q) :
    codeAny (model P w) A (.call (.ref g) ⟨[.ref a], []⟩) (CR C8.CX0 outer P w H s Q F0) s := by
  obtain ⟨fd, sc, bd, pr, FD, S, hb, body⟩ := R0.ex
  obtain ⟨oc, od, dV, kV, doc, pm, an, cdv, ct, osl, rfl, lk, hcd, _⟩ := FD.ex
  have inK : G.K.In s.heap := e0.mod.kin.keeps fun c o q => (e0.bs c o q).1
  have noLim : s.heap.NoLimit := e0.mod.nolimit.keeps fun c o q => (e0.bs c o q).1
  have kinds : ∀ y ∈ [("_law_e" : Str)].zip [Value.ref a], sc.names.lookup y.1 = some .local ∨ (sc.names.lookup y.1 = some .cell ∧ ((cellsFrom (s.heap.objs.size + 1) sc.names []).lookup y.1).isSome = true) := by
    rintro ⟨n, v⟩ hy
    rcases S.par n (List.of_mem_zip hy).1 with hq | hq
    · exact Or.inl hq
    · exact Or.inr ⟨hq, PySem.W.cellsFrom_some _ _ _ (Or.inl hq)⟩
  have bnd := hb s [.ref a] inK rfl
  refine codeAny_call_function hr.depth (inK _ _ lk) rfl S.co S.gen rfl (PySem.W.codeRec_of inK hcd) (bnd _ _ _ _ ?_)
  refine wpAny_newFunctionEnv_cells S.kind kinds fun env henv s1 inc => ?_
  subst henv
  refine ⟨noLim.keeps inc.toInCall.keep, codeAny_func ?_⟩
  have I : Inv (L2H.cxH C8.CX0 P w G.K G.mg base refN "_law_refusal" sc g cdv A outer s H F0 (a, oe)) [] (L2.start refN [.ref a]) H s1 :=
    L2H.inv_startH (ps := ["_law_e"]) (us := [.ref a]) (vs := [.ref a]) S hpin e0 rfl (.cons rfl .nil) inc
  have hp := body (L2H.cxH C8.CX0 P w G.K G.mg base refN "_law_refusal" sc g cdv A outer s H F0 (a, oe)) F0 a D dd b rfl F ⟨oe, List.mem_cons_self, hz, hf⟩ (by have := (hr.deeper (envOfC "_law_refusal" sc s.heap.objs.size g cdv)).un; show (A.deeper _).units + 64 < cLine; omega) rfl rfl
  obtain ⟨ρ, h, fs, sm, xd, nd, rn⟩ := hsp
  have ru : RUs G.K H ρ h [V.ref a] [U.x a dd fs] := .cons ⟨rfl, xd, nd⟩ .nil
  have tq : tFS G F0 (gRef a dd b) { nx := fun _ H' => Q .non H', rt := Q } (L2.start refN [.ref a]) H := by
    refine ⟨ρ, _, h, sm, sl_start refN ru, rn.gc.bind.mono ?_⟩
    rintro cf H1 ⟨ρ1, h1, fl, e1, s1, r1, _, n1⟩
    match cf, fl, r1, n1 with
    | .nx σ1, .nx l1, r1, n1 => exact n1.here (b := V.non) s1 (show RU G.K H1 ρ1 h1 .non (.d .none) from Rp.non)
    | .rt v, .rt u, r1, n1 => exact n1.here (b := v) s1 r1
    | .bk σ1, .bk l1, r1, n1 => exact n1.elim
    | .ct σ1, .ct l1, r1, n1 => exact n1.elim
  refine wpAny_mono (hp.run [] s1 (L2.start refN [.ref a]) H _ I tq) (fun fl s' hs => ?_) fun e s' hs => hs
  have close : ∀ {σ' : L2.St} {H' : Hp} {v : V} {u : Value}, Inv (L2H.cxH C8.CX0 P w G.K G.mg base refN "_law_refusal" sc g cdv A outer s H F0 (a, oe)) [] σ' H' s' → RelV v u → Q v H' → L2.CE outer P w H s Q u s' :=
    fun {σ' H' v u} J rv q => ⟨v, H', J.os, J.bare, J.base, J.hok, rv, q⟩
  match fl, hs with
  | .ret u, hs =>
    obtain ⟨v, σ', H', J, rv, q⟩ := hs
    exact close J rv q
  | .next, hs =>
    obtain ⟨σ', H', J, q⟩ := hs
    exact close (v := V.non) (u := Value.none) J rfl q
  | .brk, hs =>
    obtain ⟨_, _, _, q⟩ := hs
    exact False.elim q
  | .cont, hs =>
    obtain ⟨_, _, _, q⟩ := hs
    exact False.elim q
/-- _law_refusal(_law_e) in the suite -/
theorem pe_ref {Y : Cx} {G : Gb} {g a D dd : Addr} {b : Str → Bool} {k i : Nat} {q1 q2 q3 : Pos} (hK : Y.K = G.K) (hmg : Y.mg = G.mg) (R0 : RefD G g) (F : RefF G.K G.mg D b) (hh : Held Y a D dd) (hr : L2H.RoomH (k + 1) Y.A) (hg : Gl Y "_law_refusal") (hN : Y.N[i]? = some ("_law_e" : Str)) (hv : Vis Y.env.scope ("_law_e" : Str)) :
    PE Y (.Call (.Name "_law_refusal" q1) [.Name "_law_e" q2] [] q3) (fun σ H Q => σ[i]? = some (some (.ref a)) ∧ spRef G a dd b H Q) := by
  have kp : PySem.W.keepIn Y.K (.ref g) = true := by
    obtain ⟨_, _, _, _, FD, _⟩ := R0.ex
    rw [hK]
    exact FD.kp
  refine ⟨fun pins s σ H Q I hq => ?_⟩
  obtain ⟨hs, hsp⟩ := hq
  refine wpAny_Call_Name_kw (ld_glob I hg (by rw [hmg]; exact R0.mg) ?_ (by decide))
  refine PySem.W.callWith_K (h₀ := Y.base) I.ok.mod.kin kp (thn ((pa_cons (pe_var hN hv) pa_nil).run q3 pins s σ H (fun vs H1 => vs = [.ref a] ∧ H1 = H) I ⟨.ref a, hs, rfl, rfl⟩) fun us s1 hu => ?_) rfl rfl
  obtain ⟨vs, H1, I1, r, e1, e2⟩ := hu
  subst e1
  rw [e2] at I1
  obtain ⟨u, rfl, ru⟩ := r.one
  cases ru
  refine ⟨I1.kIn, ?_⟩
  obtain ⟨oe, hp, hz, hf⟩ := hh.ex
  obtain ⟨p1, p2, p3, p4, p5⟩ := I1.pin (a, oe) (List.mem_append_left _ hp)
  have pin : L2H.PinOk Y.stack H s1 (a, oe) := ⟨p1, p2, fun hm => (List.mem_cons.mp (I1.stkSub a hm)).elim p3 p4, p5⟩
  have e0 : Env0 Y.prog Y.w G.K G.mg Y.base Y.A Y.stack s1 H := by rw [← hK, ← hmg]; exact I1.env0
  refine wpAny_call (codeAny_mono (ref_run R0 F hz hf hr pin e0 hsp) fun r s' hq => ?_)
  match r, hq with
  | .error e, hq => exact (show False from hq).elim
  | .ok (.ret u), hq => exact I1.after hq
  | .ok .next, hq => exact False.elim hq
  | .ok .brk, hq => exact False.elim hq
  | .ok .cont, hq => exact False.elim hq
/-! ### the lambda called back -/
section
variable {X : Cx} {pins : List (Addr × Obj)} {σ : L2.St} {H : Hp} {s : Shared}
/-- what the maker of a lambda must bear -/
structure LamOk (X : Cx) (T : List (Addr × Str)) : Prop where
  ex : ∃ c Pt : Addr, TabB X.base X.mg c Pt ∧ X.env.code = .ref c ∧ (Pt, X.env.qual ++ "<lambda>") ∈ T ∧ ∀ p ∈ T, p.1 = Pt → p.2 = X.env.qual ++ "<lambda>"
/-- a(), in the def that got it -/
theorem act_g {CXg : CXT} {Eg : XK} {Ng : List Str} {qg : Str} {sg : Scope} {g f c1 : Addr} {cdg pm ctv : Value} {ars : Arguments} {ex : Expr} {scope : Scope} {k i : Nat} {a : Str} {pn : List (Addr × Obj)} {xe : Value → Shared → Prop} {W : WX} {E : XK} {tb : TE} {p1 p2 : Pos}
    (J : Inv X pins σ H s) (LS : LamS X.env.scope scope) (at_ : s.heap.get? f = some (PySem.W.kla_obj "<lambda>" (X.env.qual ++ "<lambda>") ars ex scope (cloFrom X.env.cells scope.names []) pm c1 ctv)) (no_ : H f = none) (nof : f ∉ frs X.stack)
    (bnd : bindArgs (PySem.W.kla_fn "<lambda>" (X.env.qual ++ "<lambda>") ars ex scope (cloFrom X.env.cells scope.names []) pm (.ref c1) ctv) ⟨[], []⟩ = pure [])
    (tk : Takes ((cxOf CXg X.prog X.w X.K X.mg X.base Ng qg sg g cdg X.A X.stack s H Eg).tr pn xe) W) (toW : ∀ cls d σ' H', E cls d H' → W cls d σ' H') (rm : Room (k + 1) (X.A.deeper (envOfC qg sg s.heap.objs.size g cdg))) (gds : X.A.guards = some [])
    (bdy : ∀ (A : Around) (outer : List Env) (s : Shared) (H : Hp), A.guards = some [] → Room k (A.deeper (lamEnv X scope s.heap.objs.size f c1)) → PE (lamCx X A outer s H E scope f c1) ex tb)
    (iN : Ng[i]? = some a) (va : Vis sg a) (hd : (a == ("__debug__" : Str)) = false) (hcd : (a == ("__classdict__" : Str)) = false) :
    PE ((cxOf CXg X.prog X.w X.K X.mg X.base Ng qg sg g cdg X.A X.stack s H Eg).tr pn xe) (.Call (.Name a p1) [] [] p2)
      (fun σ2 H2 Q => σ2[i]? = some (some (.ref f)) ∧ H2 c1 = some (CodeO c1 (X.env.qual ++ "<lambda>")) ∧ tb σ H2 Q) := by
  refine ⟨fun pins2 s2 σ2 H2 Q I2 hq => ?_⟩
  obtain ⟨slot, code, want⟩ := hq
  refine wpAny_Call_Name_kw (thn ((pe_var (pos := p1) (i := i) iN va hd hcd).run pins2 s2 σ2 H2 (fun v H1 => v = .ref f ∧ H1 = H2) I2 ⟨.ref f, slot, rfl, rfl⟩) fun u s3 hu => ?_)
  obtain ⟨v, H3, I3, rv, ev, eH⟩ := hu
  subst ev
  rw [eH] at I3
  cases rv
  have at3 : s3.heap.get? f = some (PySem.W.kla_obj "<lambda>" (X.env.qual ++ "<lambda>") ars ex scope (cloFrom X.env.cells scope.names []) pm c1 ctv) := I3.base.keep f _ at_ no_ nof fun z => nomatch (show f ∈ ([] : List Addr) from z)
  refine PySem.W.callWith_F0 ⟨_, _, _, _, at3⟩ ?_
  obtain ⟨⟨oc, vs, t, hoc, hdc, hvc⟩, _, _⟩ := I3.hok c1 _ code
  have run : codeAny (model X.prog X.w) (X.A.deeper (envOfC qg sg s.heap.objs.size g cdg)) (.call (.ref f) ⟨[], []⟩) (CR (L2.CX X.prog X.w) (envOfC qg sg s.heap.objs.size g cdg :: X.stack) X.prog X.w H2 s3 Q E) s3 := by
    refine PySem.W.kla_callFunE rm.depth at3 rfl LS.co LS.gen rfl ⟨c1, oc, vs, t, rfl, hoc, hdc, hvc⟩ ?_
    rw [bnd]
    refine wpAny_pure (wpAny_newFunctionEnv (fun y hy => (LS.own y hy).2) (fun y hy => absurd hy (by simp)) (fun hh hns hsb => ⟨I3.nolimit.fresh _ hsb, ?_⟩) LS.kind)
    show codeAny _ _ (.expr ex (lamEnv X scope s3.heap.objs.size f c1)) _ _
    have stay : ∀ b o, s3.heap.get? b = some o → hh.get? b = some o := fun b o e => hsb.extBut b o (Nat.ne_of_lt (Heap.lt_size e)) (Heap.get?_push_of_some _ e)
    have I4 : Inv (lamCx X (X.A.deeper (envOfC qg sg s.heap.objs.size g cdg)) (envOfC qg sg s.heap.objs.size g cdg :: X.stack) s3 H2 E scope f c1) [] σ H2 { s3 with heap := hh, toks := s3.toks + ([] : List (Str × Value)).length } :=
      lam_start2 J LS I3.env0 rm.hd I3.base hns stay
    refine PySem.W.kla_codeExpr (wpAny_mono ((bdy (X.A.deeper (envOfC qg sg s.heap.objs.size g cdg)) _ s3 H2 (show (X.A.deeper _).guards = some [] from gds) (rm.deeper _)).run [] _ _ H2 Q I4 want) (fun v s' hv => ?_) fun e s' hv => hv)
    obtain ⟨w1, H4, I5, r5, q5⟩ := hv
    exact ⟨w1, H4, I5.os, I5.bare, I5.base, I5.hok, r5, q5⟩
  refine wpAny_call (codeAny_mono run fun r s' hr => ?_)
  match r, hr with
  | .error e, hr => exact passes_call tk toW pins2 σ2 H2 s3 e s' I3 hr
  | .ok (.ret u), hr => exact I3.after hr
  | .ok .next, hr => exact False.elim hr
  | .ok .brk, hr => exact False.elim hr
  | .ok .cont, hr => exact False.elim hr
/-- x(lambda: ex) -/
theorem la_call {T : List (Addr × Str)} {TT : (XK → Hp → VK → Prop) → Hp → VK → Prop} {x a : Str} {g : Addr} {k : Nat} {pg : Arguments} {bg : List Stmt} {sg : Scope} {dV kV doc pm cdv ct oc : Value} {an od : Option Addr} {osl : Array (Option Value)} {Ng : List Str}
    {ars : Arguments} {ex : Expr} {scope : Scope} {t : XK → TE} {p lpos pos : Pos} (hg : Gl X x) (hm : X.mg x = some (.ref g)) (kp : PySem.W.keepIn X.K (.ref g) = true)
    (lk : X.K.lookup g = some ⟨oc, od, .func (PySem.W.fnOf x x pg bg sg dV kV doc pm an cdv ct), osl⟩) (hcg : PySem.W.codeIn X.K cdv x = true) (hb : L2.Binds X.K (PySem.W.fnOf x x pg bg sg dV kV doc pm an cdv ct) [a] []) (Sg : FnScope Ng [a] sg) (iN : Ng[0]? = some a) (va : Vis sg a)
    (gives : GivesTo X Ng x sg g cdv bg a (X.env.qual ++ "<lambda>") TT) (LO : LamOk X T) (rm : Room (k + 2) X.A) (gds : X.A.guards = some []) (LS : LamS X.env.scope scope) (dfl : defaultsOf ars X.env = ([], []))
    (bnd : ∀ (q : Str) (cs : List (Str × Addr)) (pm cv ctv : Value), bindArgs (PySem.W.kla_fn "<lambda>" q ars ex scope cs pm cv ctv) ⟨[], []⟩ = pure [])
    (bdy : ∀ (A : Around) (outer : List Env) (s : Shared) (H : Hp) (E : XK) (f c1 : Addr), A.guards = some [] → Room k (A.deeper (lamEnv X scope s.heap.objs.size f c1)) → PE (lamCx X A outer s H E scope f c1) ex (t E))
    (hdb : (x == ("__debug__" : Str)) = false) (hd : (a == ("__debug__" : Str)) = false) (hcd : (a == ("__classdict__" : Str)) = false) :
    PE X (.Call (.Name x p) [.Lambda ars ex scope lpos] [] pos) (tLam T TT t) := by
  obtain ⟨c, Pt, TB, hcode, inT, uniq⟩ := LO.ex
  refine ⟨fun pins s σ H Q I hq => ?_⟩
  obtain ⟨tabs, want⟩ := hq
  refine wpAny_Call_Name_kw (ld_glob I hg hm ?_ hdb)
  refine PySem.W.callWith_K (h₀ := X.base) I.ok.mod.kin kp ?_ rfl rfl
  show wpAny _ _ (spliced ((false, eval (.Lambda ars ex scope lpos) X.env) :: backTo pos (starEach [] X.env))) _ _ s
  refine Calls.spliced_cons (lam_make2 I TB hcode inT uniq tabs dfl (LS.has I.ok) fun f c1 pm1 ctv H1 s1 I1 eN T1 hf hfn hfr hco => ?_)
  refine Calls.spliced_nil ⟨I1.kIn, ?_⟩
  have run : codeAny (model X.prog X.w) X.A (.call (.ref g) ⟨[.ref f], []⟩) (CR C8.CX0 X.stack X.prog X.w H1 s1 Q C8.E0) s1 := by
    refine run_ofS (N := Ng) (ps := [a]) (us := [.ref f]) (vs := [.ref f]) lk hcg Sg rm I1.env0 (hb s1 [.ref f] I1.kIn rfl) (.cons rfl .nil) rfl fun rm1 => ?_
    obtain ⟨t1, ht1, hq1⟩ := gives f c1 s1 H1 Q (fun E H' Q' => t E σ H' Q') (fun W pn xe E p1 p2 tk hW => act_g (i := 0) I1 LS hf hfn hfr (bnd _ _ _ _ _) tk hW rm1 gds (fun A outer s H hg hr2 => bdy A outer s H E f c1 hg hr2) iN va hd hcd) hco (want H1 eN T1)
    exact ⟨t1, ht1.nox, hq1⟩
  refine wpAny_call (codeAny_mono run fun r s2 hr => ?_)
  match r, hr with
  | .error e, hr => exact (show False from hr).elim
  | .ok (.ret u), hr => exact I1.after hr
  | .ok .next, hr => exact False.elim hr
  | .ok .brk, hr => exact False.elim hr
  | .ok .cont, hr => exact False.elim hr
end
end RB
/-! RD4: _law_said(lambda: e) in plain form. -/
namespace RB
open PySem PySem.Spec PyProof.Rows L2 LamX
abbrev saidN : List Str := ["_law_ask", "_law_found", "_law_e"]
/-- the body of the def that asks; p: the positions -/
def saidBody (p : Nat → Pos) : List Stmt :=
  [.Assign [.Name "_law_found" (p 0)] (.Tuple [.Constant (.str "odd") 0 (p 1)] 0 (p 2)) (p 3),
   .Try [.Assign [.Name "_law_found" (p 4)] (.Tuple [.Constant (.str "told") 0 (p 5), .Call (.Name "_law_ask" (p 6)) [] [] (p 7)] 0 (p 8)) (p 9)]
     [.ExceptHandler (some (.Name "RoomError" (p 10))) (some "_law_e") [.Assign [.Name "_law_found" (p 11)] (.Call (.Name "_law_refusal" (p 12)) [.Name "_law_e" (p 13)] [] (p 14)) (p 15)] (p 16)] [] [] (p 17),
   .Return (some (.Name "_law_found" (p 18))) (p 19)]
/-- which families an error's class lies in -/
def bOf (c : Str) : Str → Bool := fun f =>
  if c = "NotUsable" then decide (f = "UseError") || decide (f = "NotUsable") else if c = "InvalidPaper" then decide (f = "PaperError") || decide (f = "InvalidPaper") else decide (f = "TextError") || decide (f = "InvalidText")
def excNames : List Str := ["NotUsable", "InvalidPaper", "InvalidText"]
/-- the defs and classes as they stand -/
structure SaidF (G : Gb) : Prop where
  ex : ∃ (g gr RE : Addr) (fd : FuncData) (sg : Scope) (pg : Arguments) (p : Nat → Pos), FunD G.K "_law_said" "_law_said" pg (saidBody p) sg [] [] g fd ∧ FnScope saidN ["_law_ask"] sg ∧ L2.Binds G.K fd ["_law_ask"] [] ∧ RefD G gr ∧ G.mg "_law_said" = some (.ref g) ∧ G.mg "RoomError" = some (.ref RE) ∧
    sg.names.lookup ("_law_ask" : Str) = some .local ∧ sg.names.lookup ("_law_found" : Str) = some .local ∧ sg.names.lookup ("_law_e" : Str) = some .local ∧ sg.names.lookup ("RoomError" : Str) = some .globalImplicit ∧ sg.names.lookup ("_law_refusal" : Str) = some .globalImplicit ∧
    ∀ c ∈ excNames, ∀ C, G.mg c = some (.ref C) → RefF G.K G.mg C (bOf c) ∧ PySem.W.exmOne G.K (.ref C) (.ref RE) = some true
def EhS (G : Gb) (RE : Addr) (Q : VK) : XK := fun cls d H => ∃ (D dd : Addr) (b : Str → Bool), cls = .ref D ∧ d = some dd ∧ PySem.W.exmOne G.K cls (.ref RE) = some true ∧ RefF G.K G.mg D b ∧ ∀ a, H a = none → spRef G a dd b H Q
def TSaid (G : Gb) (RE : Addr) : (XK → Hp → VK → Prop) → Hp → VK → Prop := fun tl H Q => ∀ p, H p = none → tl (EhS G RE Q) (upd H p (.tup [.str "odd"])) fun v H2 => ∀ p2, H2 p2 = none → Q (.ref p2) (upd H2 p2 (.tup [.str "told", v]))
theorem said_gives {X : Cx} {G : Gb} {sg : Scope} {g gr RE : Addr} {cdg : Value} {q : Str} {k : Nat} {p : Nat → Pos} (hK : X.K = G.K) (hmg : X.mg = G.mg) (R0 : RefD G gr) (hre : G.mg "RoomError" = some (.ref RE)) (rm : Room (k + 2) X.A)
    (l0 : sg.names.lookup ("_law_ask" : Str) = some .local) (l1 : sg.names.lookup ("_law_found" : Str) = some .local) (l2 : sg.names.lookup ("_law_e" : Str) = some .local) (l3 : sg.names.lookup ("RoomError" : Str) = some .globalImplicit) (l4 : sg.names.lookup ("_law_refusal" : Str) = some .globalImplicit) :
    GivesTo X saidN "_law_said" sg g cdg (saidBody p) "_law_ask" q (TSaid G RE) := by
  intro f c1 s H Q tl act hc want
  have nd : saidN.Nodup := by decide
  refine ⟨_, pss_cons (ps_set (X := (cxOf C8.CX0 X.prog X.w X.K X.mg X.base saidN "_law_said" sg g cdg X.A X.stack s H C8.E0).nox) (i := 1) nd rfl (.inl l1) (pe_tup (pa_cons pe_str pa_nil)) rfl (.inr l1))
    (pss_cons (ps_try_as (X := (cxOf C8.CX0 X.prog X.w X.K X.mg X.base saidN "_law_said" sg g cdg X.A X.stack s H C8.E0).nox) (c := .ref RE) (i := 2) (Wout := fun _ _ _ _ => False)
      (tb := fun W D σ H => ∃ Ech : XK, (∀ cls d σ' H', Ech cls d H' → W cls d σ' H') ∧ σ[0]? = some (some (.ref f)) ∧ H c1 = some (CodeO c1 q) ∧ tl Ech H fun v H2 => ∀ p2, H2 p2 = none → D.nx (σ.set 1 (some (.ref p2))) (upd H2 p2 (.tup [.str "told", v])))
      (ts := fun a cls d D σ H => σ.length = 3 → σ[2]? = some (some (.ref a)) ∧ ∃ (D0 dd : Addr) (b : Str → Bool), cls = .ref D0 ∧ d = some dd ∧ RefF G.K G.mg D0 b ∧ spRef G a dd b H fun v H1 => D.nx (σ.set 1 (some v)) H1)
      rfl rfl nd rfl l2 ⟨l3, by decide, .inl (by show X.mg _ = _; rw [hmg]; exact hre)⟩ LamX.takes0 (fun W pn xe tk po => ?_) (fun a oe cls d pn hz hf => ?_))
    (pss_one (ps_ret (pe_var (i := 1) rfl (.inl l1))))), ?_⟩
  · refine ⟨fun pins s' σ H' D I h' => ?_⟩
    obtain ⟨Ech, hW, h1, h2, h3⟩ := h'
    have hp := act W pn xe Ech (p 6) (p 7) tk hW
    have hq := pss_one (ps_set (X := (cxOf C8.CX0 X.prog X.w X.K X.mg X.base saidN "_law_said" sg g cdg X.A X.stack s H C8.E0).tr pn xe) (i := 1) (pos := p 9) (pos' := p 4) nd rfl (.inl l1) (pe_tup (x1 := 0) (pos := p 8) (pa_cons (pe_str (x := "told") (j := 0) (pos := p 5)) (pa_cons hp pa_nil))) rfl (.inr l1))
    exact hq.run pins s' σ H' D I ⟨h1, h2, (show tl Ech H' _ from by
      refine cast (congrArg (tl Ech H') ?_) h3
      funext v H2
      exact propext ⟨fun z => ⟨(show (2 : Nat) ≤ sizeLine by decide), z⟩, fun z => z.2⟩)⟩
  · refine ⟨fun pins s' σ H' D I h' => ?_⟩
    have hlen : σ.length = 3 := I.len
    obtain ⟨hs, D0, dd, b, rfl, rfl, hF, hsp⟩ := h' hlen
    have hr : L2H.RoomH (k + 1) (((cxOf C8.CX0 X.prog X.w X.K X.mg X.base saidN "_law_said" sg g cdg X.A X.stack s H C8.E0).nox.suite a ((a, oe) :: pn)).A) :=
      ⟨by have := (rm.deeper (envOfC "_law_said" sg s.heap.objs.size g cdg)).dp; exact this, by have := (rm.deeper (envOfC "_law_said" sg s.heap.objs.size g cdg)).un; exact this⟩
    have hp := pe_ref (Y := (cxOf C8.CX0 X.prog X.w X.K X.mg X.base saidN "_law_said" sg g cdg X.A X.stack s H C8.E0).nox.suite a ((a, oe) :: pn)) (i := 2) (q1 := p 12) (q2 := p 13) (q3 := p 14) hK hmg R0 hF ⟨oe, List.mem_cons_self, hz, hf⟩ hr l4 rfl (.inl l2)
    have hq := pss_one (ps_set (X := (cxOf C8.CX0 X.prog X.w X.K X.mg X.base saidN "_law_said" sg g cdg X.A X.stack s H C8.E0).nox.suite a ((a, oe) :: pn)) (i := 1) (pos := p 15) (pos' := p 11) nd rfl (.inl l1) hp rfl (.inr l1))
    exact hq.run pins s' σ H' D I ⟨hs, hsp⟩
  · refine ⟨(show (1 : Nat) ≤ sizeLine by decide), fun p1 hp1 => ?_⟩
    refine ⟨EhS G RE Q, fun cls d σ' H' hE => ?_, rfl, ?_, ?_⟩
    · obtain ⟨D0, dd, b, rfl, rfl, e1, e2, e3⟩ := hE
      refine ⟨true, by show PySem.W.exmOne X.K _ _ = _; rw [hK]; exact e1, fun _ a ha hlen => ⟨?_, D0, dd, b, rfl, rfl, e2, ?_⟩, fun z => by cases z⟩
      · rw [List.length_set] at hlen
        rw [List.getElem?_set_self (by omega)]
      · obtain ⟨ρ, h, fs, a1, a2, a3, a4⟩ := e3 a ha
        refine ⟨ρ, h, fs, a1, a2, a3, a4.mono fun v H1 hq => ⟨v, ?_, hq⟩⟩
        rw [List.length_set] at hlen
        rw [List.getElem?_set_ne (by decide), List.getElem?_set_self (by rw [List.length_set]; omega)]
    · rw [upd_ne (ne_of_none hc hp1)]
      exact hc
    · refine cast (congrArg (tl (EhS G RE Q) (upd H p1 (.tup [.str "odd"]))) ?_) (want p1 hp1)
      funext v H2
      exact propext ⟨fun z p2 h2 => ⟨.ref p2, rfl, z p2 h2⟩, fun z p2 h2 => by
        obtain ⟨v', e1, e2⟩ := z p2 h2
        cases e1
        exact e2⟩
end RB
/-! RD5: _law_said(lambda: e) in plain form, whole. -/
namespace RB
open PySem PySem.Spec PyProof.Rows L2 LamX
theorem ext_tabs {G : Gb} {ρ : Nat → Addr} {h : AH} {H H1 : Hp} (e : ExtN H H1) : Ext ρ h H ρ h H1 where
  keep := ⟨fun b xs q => e b _ q (fun ps z => by cases z), fun b o u q => e b _ q (fun ps z => by cases z)⟩
  len := Nat.le_refl _
  same := fun _ _ => rfl
  frame := fun b o q _ n => e b o q n
  new := fun n h1 h2 => absurd h1 (Nat.not_le_of_lt h2)
  there := fun b q => Fr.stay (fun u z n => e b u z n) q
theorem sim_tabs {G : Gb} {ρ : Nat → Addr} {h : AH} {H H1 : Hp} (s : Sim G ρ h H) (e : ExtN H H1) (t : Tabs G.T H1) : Sim G ρ h H1 where
  obj := fun n o q => by
    have k : Keep H H1 := (ext_tabs (G := G) (ρ := ρ) (h := h) e).keep
    have r := s.obj n o q
    cases o with
    | lst ds =>
      obtain ⟨vs, e1, r1⟩ := r
      exact ⟨vs, e _ _ e1 (fun ps z => by cases z), r1.kp k⟩
    | dct kvs =>
      obtain ⟨ws, e1, r1⟩ := r
      exact ⟨ws, e _ _ e1 (fun ps z => by cases z), pairK k r1⟩
  inj := s.inj
  tab := t
theorem refT_names {c : Str} {fs : List (Str × PyData)} {t : PyData} (h : refT c fs = some t) : c ∈ excNames := by
  unfold refT at h
  by_cases h1 : c = "NotUsable"
  · rw [h1]; decide
  · rw [if_neg h1] at h
    by_cases h2 : c = "InvalidPaper"
    · rw [h2]; decide
    · rw [if_neg h2] at h
      by_cases h3 : c = "InvalidText"
      · rw [h3]; decide
      · rw [if_neg h3] at h
        cases h
theorem lk2 {fs : List (Str × PyData)} {x y z : Str} {t : PyData} (h : ((fs.lookup x).bind fun a => (fs.lookup y).bind fun b => some (PyData.tuple [.str z, a, b])) = some t) : ∃ a b, fs.lookup x = some a ∧ fs.lookup y = some b ∧ t = .tuple [.str z, a, b] := by
  cases q1 : fs.lookup x with
  | none => rw [q1] at h; cases h
  | some a =>
    rw [q1] at h
    have h' : ((fs.lookup y).bind fun b => some (PyData.tuple [.str z, a, b])) = some t := h
    cases q2 : fs.lookup y with
    | none => rw [q2] at h'; cases h'
    | some b =>
      rw [q2] at h'
      exact ⟨a, b, rfl, rfl, (Option.some.inj h').symm⟩
theorem fSeq_nx {a b : FS} {l l1 : Lc} {h h1 : AH} (e : a l h = .ok (.nx l1) h1) : fSeq a b l h = b l1 h1 := by
  unfold fSeq
  rw [e]
  rfl
theorem fSeq_rt {a b : FS} {l : Lc} {h h1 : AH} {u : U} (e : a l h = .ok (.rt u) h1) : fSeq a b l h = .ok (.rt u) h1 := by
  unfold fSeq
  rw [e]
  rfl
theorem fRet_ok {a : FE} {l : Lc} {h h1 : AH} {u : U} (e : a l h = .ok u h1) : fRet a l h = .ok (.rt u) h1 := by
  unfold fRet
  rw [e]
  rfl
theorem fIte_ok {c : FT} {a b : FS} {l : Lc} {h h1 : AH} {z : Bool} (e : c l h = .ok z h1) : fIte c a b l h = if z then a l h1 else b l h1 := by
  unfold fIte
  rw [e]
  cases z <;> rfl
theorem gRef_run {a dd : Addr} {b : Str → Bool} {fs : List (Str × PyData)} {h : AH} {b1 b2 b3 b4 n1 n2 n3 : Bool} (e1 : b "PaperError" = b1) (e2 : b "UseError" = b2) (e3 : b "BenchError" = b3) (e4 : b "TextError" = b4) (e5 : b "NotUsable" = n1) (e6 : b "InvalidPaper" = n2) (e7 : b "InvalidText" = n3)
    {t : PyData} (hc : ([b1, b2, b3, b4] : List Bool).count true = 1) (ht : (if n1 && b2 then (fs.lookup ("word" : Str)).bind fun a => (fs.lookup ("at" : Str)).bind fun b => some (PyData.tuple [.str "NotUsable", a, b])
      else if n2 && b1 then (fs.lookup ("word" : Str)).bind fun a => (fs.lookup ("at" : Str)).bind fun b => some (PyData.tuple [.str "InvalidPaper", a, b])
      else if n3 && b4 then (fs.lookup ("line" : Str)).bind fun a => (fs.lookup ("column" : Str)).bind fun b => some (PyData.tuple [.str "InvalidText", a, b]) else none) = some t) : runBody 2 (gRef a dd b) [.x a dd fs] h = .ok (.d t) h := by
  have cut : ∀ (x : O), (h ++ [x]).take h.length = h := fun x => by simp
  have at_ : ∀ (x : O), (h ++ [x])[h.length]? = some x := fun x => by simp
  have hne : neD (.int ((([b1, b2, b3, b4] : List Bool).count true : Nat) : Int)) (.int 1) = some (.bool false) := by rw [hc]; rfl
  unfold runBody gRef
  rw [e1, e2, e3, e4, e5, e6, e7]
  have s1 : (fAsg (fMls (fCons (fIsx 0 a dd b1) (fCons (fIsx 0 a dd b2) (fCons (fIsx 0 a dd b3) fNil)))) (.v 1)) [some (.x a dd fs), none] h = .ok (.nx [some (.x a dd fs), some (.r h.length)]) (h ++ [.lst [.bool b1, .bool b2, .bool b3]]) := by
    simp [fAsg, fMls, fCons, fIsx, fNil, R.bind, mkLst, allD, asD, Tg.put, sizeLine]
  have s2 : (fExpr (fApp (fVar 1) (fCons (fIsx 0 a dd b4) fNil))) [some (.x a dd fs), some (.r h.length)] (h ++ [.lst [.bool b1, .bool b2, .bool b3]]) = .ok (.nx [some (.x a dd fs), some (.r h.length)]) (h ++ [.lst [.bool b1, .bool b2, .bool b3, .bool b4]]) := by
    simp [fExpr, fApp, fVar, fCons, fIsx, fNil, R.bind, isLstAt, sizeLine]
  have s3 : (fIte (fTe (fOr (fOp neD (fCnt (fVar 1) true) (fC (.int 1))) (fUn notD (fIsx 0 a dd true)))) (fSeq (fRet (fTup (fCons (fC (.str "odd")) fNil))) fPass) fPass) [some (.x a dd fs), some (.r h.length)] (h ++ [.lst [.bool b1, .bool b2, .bool b3, .bool b4]]) = .ok (.nx [some (.x a dd fs), some (.r h.length)]) (h ++ [.lst [.bool b1, .bool b2, .bool b3, .bool b4]]) := by
    simp only [fIte, fTe, fOr, fOp, fCnt, fVar, fC, fUn, fIsx, R.bind, cntU, isLstAt, boolsD, R.of, opU, datU, at_, List.getElem?_cons_succ, List.getElem?_cons_zero, Option.map, Option.bind, hne, asB, unU, notD, fPass]
    simp [asB, unU, datU, notD]
  have sf : ∀ (i : Nat) (j : Int), j = i → ∀ (z : Bool), [b1, b2, b3, b4][i]? = some z → ∀ (n : Bool), fTe (fAnd (fIsx 0 a dd n) (fOp ixD (fVar 1) (fC (.int j)))) [some (.x a dd fs), some (.r h.length)] (h ++ [.lst [.bool b1, .bool b2, .bool b3, .bool b4]]) = .ok (n && z) (h ++ [.lst [.bool b1, .bool b2, .bool b3, .bool b4]]) := by
    intro i j hj z hz n
    subst hj
    have hi : i < 4 := by
      have := (List.getElem?_eq_some_iff.mp hz).1
      simpa using this
    have hx : ixD (.list [.bool b1, .bool b2, .bool b3, .bool b4]) (.int i) = some (.bool z) := by
      match i, hi, hz with
      | 0, _, hz => cases hz; rfl
      | 1, _, hz => cases hz; rfl
      | 2, _, hz => cases hz; rfl
      | 3, _, hz => cases hz; rfl
    cases n with
    | false => simp [fTe, fAnd, fIsx, R.bind, asB, R.of]
    | true => simp [fTe, fAnd, fIsx, R.bind, asB, R.of, fOp, fVar, fC, opU, datU, hx]
  have tl : ∀ {x y z : Str} {t : PyData}, ((fs.lookup x).bind fun a => (fs.lookup y).bind fun b => some (PyData.tuple [.str z, a, b])) = some t → ∀ h', (fTup (fCons (fC (.str z)) (fCons (fFld 0 a dd x) (fCons (fFld 0 a dd y) fNil)))) [some (.x a dd fs), some (.r h.length)] h' = .ok (.d t) h' := by
    intro x y z t e h'
    obtain ⟨p, q, q1, q2, rfl⟩ := lk2 e
    simp [fTup, fCons, fC, fFld, fNil, R.bind, q1, q2, R.of, mkTup, allD, asD, sizeLine]
  have start : ([U.x a dd fs].map some ++ List.replicate (2 - [U.x a dd fs].length) none : Lc) = [some (.x a dd fs), none] := rfl
  rw [start]
  rw [fSeq_nx s1, fSeq_nx s2, fSeq_nx s3]
  cases hn1 : (n1 && b2) with
  | true =>
    rw [hn1] at ht
    have q := fIte_ok (a := fSeq (fRet (fTup (fCons (fC (.str "NotUsable")) (fCons (fFld 0 a dd "word") (fCons (fFld 0 a dd "at") fNil))))) fPass) (b := fPass) (sf 1 1 rfl b2 rfl n1)
    rw [hn1, if_pos rfl, fSeq_rt (fRet_ok (tl ht _))] at q
    rw [fSeq_rt q]
    simp [R.bind, R.gc]
  | false =>
    rw [hn1] at ht
    have q := fIte_ok (a := fSeq (fRet (fTup (fCons (fC (.str "NotUsable")) (fCons (fFld 0 a dd "word") (fCons (fFld 0 a dd "at") fNil))))) fPass) (b := fPass) (sf 1 1 rfl b2 rfl n1)
    rw [hn1, if_neg (by decide)] at q
    rw [fSeq_nx q]
    cases hn2 : (n2 && b1) with
    | true =>
      rw [hn2] at ht
      have q := fIte_ok (a := fSeq (fRet (fTup (fCons (fC (.str "InvalidPaper")) (fCons (fFld 0 a dd "word") (fCons (fFld 0 a dd "at") fNil))))) fPass) (b := fPass) (sf 0 0 rfl b1 rfl n2)
      rw [hn2, if_pos rfl, fSeq_rt (fRet_ok (tl ht _))] at q
      rw [fSeq_rt q]
      simp [R.bind, R.gc]
    | false =>
      rw [hn2] at ht
      have q := fIte_ok (a := fSeq (fRet (fTup (fCons (fC (.str "InvalidPaper")) (fCons (fFld 0 a dd "word") (fCons (fFld 0 a dd "at") fNil))))) fPass) (b := fPass) (sf 0 0 rfl b1 rfl n2)
      rw [hn2, if_neg (by decide)] at q
      rw [fSeq_nx q]
      cases hn3 : (n3 && b4) with
      | true =>
        rw [hn3] at ht
        have q : fIf (fTe (fAnd (fIsx 0 a dd n3) (fOp ixD (fVar 1) (fC (.int 3))))) (fTup (fCons (fC (.str "InvalidText")) (fCons (fFld 0 a dd "line") (fCons (fFld 0 a dd "column") fNil)))) (fTup (fCons (fC (.str "odd")) fNil)) [some (.x a dd fs), some (.r h.length)] (h ++ [.lst [.bool b1, .bool b2, .bool b3, .bool b4]]) = .ok (.d t) (h ++ [.lst [.bool b1, .bool b2, .bool b3, .bool b4]]) := by
          unfold fIf
          rw [show (fTe (fAnd (fIsx 0 a dd n3) (fOp ixD (fVar 1) (fC (.int 3))))) [some (.x a dd fs), some (.r h.length)] (h ++ [.lst [.bool b1, .bool b2, .bool b3, .bool b4]]) = _ from sf 3 3 rfl b4 rfl n3, hn3]
          exact tl ht _
        rw [fSeq_rt (fRet_ok q)]
        simp [R.bind, R.gc]
      | false =>
        rw [hn3] at ht
        simp at ht
/-- what the def that tells a refusal gives -/
theorem run_ref {a dd : Addr} {c : Str} {fs : List (Str × PyData)} {t : PyData} {h : AH} (e : refT c fs = some t) : runBody 2 (gRef a dd (bOf c)) [.x a dd fs] h = .ok (.d t) h := by
  have hm := refT_names e
  simp only [excNames, List.mem_cons, List.not_mem_nil, or_false] at hm
  rcases hm with rfl | rfl | rfl
  · exact gRef_run (b1 := false) (b2 := true) (b3 := false) (b4 := false) (n1 := true) (n2 := false) (n3 := false) (by decide) (by decide) (by decide) (by decide) (by decide) (by decide) (by decide) (by decide) e
  · exact gRef_run (b1 := true) (b2 := false) (b3 := false) (b4 := false) (n1 := false) (n2 := true) (n3 := false) (by decide) (by decide) (by decide) (by decide) (by decide) (by decide) (by decide) (by decide) e
  · exact gRef_run (b1 := false) (b2 := false) (b3 := false) (b4 := true) (n1 := false) (n2 := false) (n3 := true) (by decide) (by decide) (by decide) (by decide) (by decide) (by decide) (by decide) (by decide) e
theorem mkTup_told {u : U} {z : U} (h : mkTup [.d (.str "told"), u] = some z) : ∃ x, u = .d x ∧ z = .d (.tuple [.str "told", x]) := by
  cases u with
  | d x => exact ⟨x, rfl, by simpa [mkTup, allD, asD, sizeLine] using h.symm⟩
  | r n => cases h
  | x a dd fs => cases h
/-- _law_said(lambda: e) -/
theorem pf_said {X : Cx} {G : Gb} {E : XK} {gb : FE} {k : Nat} {ars : Arguments} {ex : Expr} {scope : Scope} {p lpos pos : Pos} (hK : X.K = G.K) (hmg : X.mg = G.mg) (hg : Gl X "_law_said") (S : SaidF G) (LO : LamOk X G.T) (rm : Room (k + 2) X.A) (gds : X.A.guards = some [])
    (LS : LamS X.env.scope scope) (dfl : defaultsOf ars X.env = ([], [])) (bnd : ∀ (q : Str) (cs : List (Str × Addr)) (pm cv ctv : Value), bindArgs (PySem.W.kla_fn "<lambda>" q ars ex scope cs pm cv ctv) ⟨[], []⟩ = pure [])
    (bdy : ∀ (A : Around) (outer : List Env) (s : Shared) (H : Hp) (E : XK) (f c1 : Addr), A.guards = some [] → Room k (A.deeper (lamEnv X scope s.heap.objs.size f c1)) → PE (lamCx X A outer s H E scope f c1) ex (tF G E gb)) :
    PE X (.Call (.Name "_law_said" p) [.Lambda ars ex scope lpos] [] pos) (tF G E (fSaid gb)) := by
  obtain ⟨g, gr, RE, fd, sg, pg, ps, FD, Sg, hb, R0, hm, hre, l0, l1, l2, l3, l4, cls⟩ := S.ex
  obtain ⟨oc, od, dV, kV, doc, pm, an, cdv, ct, osl, rfl, lk, hcd, _⟩ := FD.ex
  refine PE.imp (la_call (T := G.T) (Ng := saidN) (a := "_law_ask") hg (by rw [hmg]; exact hm) (by rw [hK]; exact FD.kp) (by rw [hK]; exact lk) (by rw [hK]; exact hcd) (by rw [hK]; exact hb) Sg rfl (.inl l0) (said_gives hK hmg R0 hre rm l0 l1 l2 l3 l4) LO rm gds LS dfl bnd bdy (by decide) (by decide) (by decide)) fun σ H Q hq => ?_
  obtain ⟨ρ, l, h, sm, sl, rn⟩ := hq
  refine ⟨sm.tab, fun H1 eN T1 p1 hp1 => ?_⟩
  have sm1 := sim_tabs sm eN T1
  have x1 : Ext ρ h H ρ h H1 := ext_tabs (G := G) eN
  have same : Same H1 (upd H1 p1 (.tup [.str "odd"])) := fun b o q => by rw [upd_ne (ne_of_none q hp1)]; exact q
  have x2 : Ext ρ h H ρ h (upd H1 p1 (.tup [.str "odd"])) := x1.trans (.grow same)
  refine ⟨ρ, l, h, sm1.grow same, sl.ext x2, ?_⟩
  unfold fSaid at rn
  cases q : gb l h with
  | stuck => rw [q] at rn; exact rn.elim
  | ok u h1 =>
    rw [q] at rn
    intro ρ2 H2 v e2 s2 r2 p2 hp2
    cases q2 : mkTup [.d (.str "told"), u] with
    | none =>
      have rn' : Rn G (RelU G) E (R.of (mkTup [.d (.str "told"), u]) h1) ρ h H Q := rn
      rw [q2] at rn'
      exact rn'.elim
    | some z =>
      have rn' : Rn G (RelU G) E (R.of (mkTup [.d (.str "told"), u]) h1) ρ h H Q := rn
      rw [q2] at rn'
      obtain ⟨x, rfl, rfl⟩ := mkTup_told q2
      have same2 : Same H2 (upd H2 p2 (.tup [.str "told", v])) := fun b o q => by rw [upd_ne (ne_of_none q hp2)]; exact q
      refine rn' ρ2 _ _ (x2.trans (e2.trans (.grow same2))) (s2.grow same2) (show Rp G.K _ (.ref p2) (.tuple [.str "told", x]) from .tup (.inl (.inl upd_same)) (.cons (.str _) (.cons ((show Rp G.K H2 v x from r2).kp (.same same2)) .nil)))
  | exc c fs h1 =>
    rw [q] at rn
    have rn' : Rn G (RelU G) E (R.of ((refT c fs).map U.d) h1) ρ h H Q := rn
    intro ρ2 H2 C dd e2 s2 mC xd
    cases q2 : refT c fs with
    | none => rw [q2] at rn'; exact rn'.elim
    | some t =>
      rw [q2] at rn'
      obtain ⟨F, em⟩ := cls c (refT_names q2) C mC
      refine ⟨C, dd, bOf c, rfl, rfl, em, F, fun a ha => ⟨ρ2, h1, fs, s2, xd, fun n hn z => ?_, ?_⟩⟩
      · obtain ⟨u, e3, _⟩ := (s2.obj n h1[n] (List.getElem?_eq_getElem hn)).some
        obtain ⟨vfs, e4, _⟩ := xd
        have k := s2.obj n h1[n] (List.getElem?_eq_getElem hn)
        rw [z] at k
        cases hh : h1[n] with
        | lst ds => rw [hh] at k; obtain ⟨_, k1, _⟩ := k; rw [e4] at k1; cases k1
        | dct ds => rw [hh] at k; obtain ⟨_, k1, _⟩ := k; rw [e4] at k1; cases k1
      · rw [run_ref q2]
        exact fun ρ3 H3 b e3 s3 r3 => rn' ρ3 H3 b (x2.trans (e2.trans e3)) s3 r3
end RB
/-! RB14: code is sound: expressions. -/
namespace RB
open PySem PySem.Spec L2
/-- what a def that makes lambdas bears -/
structure LamK (P : Program) (w : World) (G : Gb) (base : Heap) (tb : Tbl) (k : Nat) (cl : Cls) (X : Cx) : Prop where
  ex : ∃ k1, k1 + 2 ≤ k ∧ Ft P w G base tb k1 cl.low
  lo : LamOk X G.T
  sf : SaidF G
/-- a context for code -/
structure Cok (P : Program) (w : World) (G : Gb) (base : Heap) (k : Nat) (cl : Cls) (X : Cx) (E : XK) (c : Cc) : Prop where
  gd : Gd X G E k
  ft : Ft P w G base c.tb k cl
  N : X.N = c.N
  sc : X.env.scope = c.sc
  lam : c.lam = true → LamK P w G base c.tb k cl X
  P : X.prog = P
  w : X.w = w
  base : X.base = base
theorem idx_get {N : List Str} {x : Str} {i : Nat} (h : N.idxOf? x = some i) : N[i]? = some x := by
  have h' := List.findIdx?_eq_some_iff_getElem.mp (show List.findIdx? (· == x) N = some i from h)
  obtain ⟨h1, h2, _⟩ := h'
  rw [List.getElem?_eq_getElem h1]
  exact congrArg some (eq_of_beq h2)
section
variable {P : Program} {w : World} {G : Gb} {base : Heap} {k : Nat} {cl : Cls}
theorem Cok.blk {X : Cx} {E : XK} {c : Cc} (o : Cok P w G base k cl X E c) (s : Shared) (H : Hp) (scope : Scope) (C : Addr) (cs : List (Str × Addr)) (fp : List Addr) : Cok P w G base k cl (X.blk s H scope (compEnvC scope cs C X.env) fp) F0 { c with sc := relS scope c.sc, lam := false } :=
  ⟨o.gd.blk s H scope C cs fp, o.ft, o.N, by rw [← o.sc]; rfl, (fun z => by cases z), o.P, o.w, o.base⟩
theorem Cok.lamC {X : Cx} {E : XK} {c : Cc} (o : Cok P w G base k cl X E c) {k1 : Nat} (ft : Ft P w G base c.tb k1 cl.low) {A : Around} {outer : List Env} {s : Shared} {H : Hp} {E1 : XK} {scope : Scope} {f c1 : Addr} (gds : A.guards = some []) (rm : Room k1 (A.deeper (LamX.lamEnv X scope s.heap.objs.size f c1))) :
    Cok P w G base k1 cl.low (LamX.lamCx X A outer s H E1 scope f c1) E1 { c with sc := scope, lam := false } :=
  ⟨⟨o.gd.K, o.gd.mg, rfl, o.gd.nd, rm, gds, takes_of rfl rfl rfl rfl, PassesOwn.leaving⟩, ft, o.N, rfl, (fun z => by cases z), o.P, o.w, o.base⟩
theorem pn_d {x : Str} (h : plainName x = true) : (x == ("__debug__" : Str)) = false ∧ (x == ("__classdict__" : Str)) = false ∧ x ≠ "__name__" := by
  unfold plainName at h
  obtain ⟨h1, h2⟩ := Bool.and_eq_true_iff.mp h
  obtain ⟨h3, h4⟩ := Bool.and_eq_true_iff.mp h1
  refine ⟨by simpa using h3, by simpa using h4, fun e => ?_⟩
  rw [decide_eq_true e] at h2
  cases h2
theorem gl_of {X : Cx} {E : XK} {c : Cc} {x : Str} (o : Cok P w G base k cl X E c) (h : isGl c x = true) : Gl X x := by
  have e := of_decide_eq_true h
  show X.env.scope.names.lookup x = _
  rw [o.sc]
  exact e
theorem blt_of {X : Cx} {E : XK} {c : Cc} {x : Str} (o : Cok P w G base k cl X E c) (h : isBlt c x = true) : Gl X x ∧ X.mg x = none ∧ x ≠ "__name__" ∧ (x == ("__debug__" : Str)) = false := by
  unfold isBlt at h
  obtain ⟨h1, h2⟩ := Bool.and_eq_true_iff.mp h
  obtain ⟨h3, h4⟩ := Bool.and_eq_true_iff.mp h1
  obtain ⟨d1, _, d3⟩ := pn_d h2
  exact ⟨gl_of o h3, by rw [o.gd.mg]; exact o.ft.free x (of_decide_eq_true h4), d3, d1⟩
theorem slot_of {X : Cx} {E : XK} {c : Cc} {x : Str} {i : Nat} (o : Cok P w G base k cl X E c) (h : slotOf c x = some i) : X.N[i]? = some x ∧ Vis X.env.scope x := by
  unfold slotOf at h
  rw [o.N, o.sc]
  cases q : c.sc.names.lookup x with
  | none => rw [q] at h; cases h
  | some kd =>
    rw [q] at h
    cases kd with
    | «local» => exact ⟨idx_get h, .inl q⟩
    | cell => exact ⟨idx_get h, .inr (.inl q)⟩
    | free => exact ⟨idx_get h, .inr (.inr q)⟩
    | _ => cases h
/-- the operators -/
theorem op_bin {X : Cx} {E : XK} {c : Cc} (o : Cok P w G base k cl X E c) : ∀ op : Operator, OpR X (binaryOp op) (rD X.K (binSem op)) := by
  have nope : ∀ f : Value → Value → Sem Value, OpR X f (rD X.K fun _ _ => none) := by
    intro f pins s σ H x y v u Q I rx ry hq
    obtain ⟨d, e, z, hd, he, hz, q⟩ := hq
    cases hz
  intro op
  cases op with
  | Add => exact op_addD
  | Sub => exact op_subD
  | Mult => exact op_mulD
  | FloorDiv => exact op_fdivD
  | Mod => exact op_modD
  | Pow => exact op_powD
  | _ => exact nope _
theorem op_cmp {X : Cx} {E : XK} {c : Cc} (o : Cok P w G base k cl X E c) : ∀ op : CmpOp, OpR X (compareOp op) (rD X.K (cmpSem op)) := by
  have hu := o.gd.units
  intro op
  cases op with
  | Eq => exact op_eqDD (by omega)
  | NotEq => exact op_neDD (by omega)
  | Lt => exact op_ltDD (by omega)
  | LtE => exact op_leDD
  | Gt => exact op_gtDD
  | GtE => exact op_geDD
  | Is => exact op_isDD
  | IsNot => exact op_isNotDD
  | In => exact op_inDD (by omega)
  | NotIn => exact op_notInDD (by omega)
theorem marks_of {o : CmpOp} {b : Expr} (h : isSetE b = false) : behindInMarks o b = false := by
  cases b <;> first | rfl | exact nomatch h
theorem fold_of {b : Expr} {env : Env} (h : isSetE b = false) : ∀ x, foldedSetIterable b env x = pure x := by
  intro x
  cases b <;> first | rfl | exact nomatch h
/-- the built-ins -/
theorem blt_rule {X : Cx} {E : XK} {c : Cc} (o : Cok P w G base k cl X E c) {fn : Str} (hm : fn ∈ blts) (hb : isBlt c fn = true) {p pos : Pos} {e : Expr} {es : List Expr} {ga : FA} (ha : PA X (e :: es) (tFA G E ga)) (hs : (e :: es).any isStar = false) : PE X (.Call (.Name fn p) (e :: es) [] pos) (tF G E (fCB (bltSem fn) ga)) := by
  obtain ⟨g1, g2, g3, g4⟩ := blt_of o hb
  have hu := o.gd.units
  rw [List.any_cons] at hs
  obtain ⟨hs1, hs2⟩ := Bool.or_eq_false_iff.mp hs
  have st := star_no (es := es) (env := X.env) hs1
  have sa := star_any (pos := pos) (env := X.env) hs2
  have hm' : fn = "len" ∨ fn = "all" ∨ fn = "any" ∨ fn = "repr" ∨ fn = "tuple" ∨ fn = "list" ∨ fn = "int" ∨ fn = "str" := by simpa [blts] using hm
  rcases hm' with rfl | rfl | rfl | rfl | rfl | rfl | rfl | rfl
  · exact pf_callB o.gd.K (by exact cr_len) g1 g2 (by decide +kernel) ha g3 g4 st sa
  · exact pf_callB o.gd.K (by exact cr_allB o.gd.calm) g1 g2 (by decide +kernel) ha g3 g4 st sa
  · exact pf_callB o.gd.K (by exact cr_anyB o.gd.calm) g1 g2 (by decide +kernel) ha g3 g4 st sa
  · exact pf_callB o.gd.K (by exact cr_reprB o.gd.gds (by omega)) g1 g2 (by decide +kernel) ha g3 g4 st sa
  · exact pf_callTy o.gd.K (by exact cr_tupleB) g1 g2 (by decide +kernel) ha g3 g4 st sa
  · exact pf_callTy o.gd.K (by exact cr_listB) g1 g2 (by decide +kernel) ha g3 g4 st sa
  · exact pf_callTy o.gd.K (by exact cr_intB) g1 g2 (by decide +kernel) ha g3 g4 st sa
  · exact pf_callTy o.gd.K (by exact cr_strB) g1 g2 (by decide +kernel) ha g3 g4 st sa
/-- both readings of an expression -/
def Both (G : Gb) (E : XK) (X : Cx) (e : Expr) (g : FE) : Prop := PE X e (tF G E g) ∧ PT X e (tFT G E (fTe g))
theorem both_and {X : Cx} {E : XK} {f : Expr → Option CE} {pos : Pos} (hf : ∀ e c, f e = some c → Both G E X e (semE cl c)) : ∀ {vs : List Expr} {c : CE}, compB f CE.and vs = some c → PE X (.BoolOp .And vs pos) (tF G E (semE cl c)) ∧ PW X (.BoolOp .And vs pos) (tFT G E (fTe (semE cl c)))
  | [], c, h => nomatch h
  | [a], c, h => ⟨pe_one (hf a c h).1, pw_one_and (hf a c h).2⟩
  | a :: b :: r, c, h => by
    have h' : (match f a, compB f CE.and (b :: r) with | some x, some y => some (CE.and x y) | _, _ => none) = some c := h
    cases q1 : f a with
    | none => rw [q1] at h'; cases h'
    | some x =>
      cases q2 : compB f CE.and (b :: r) with
      | none => rw [q1, q2] at h'; cases h'
      | some y =>
        rw [q1, q2] at h'
        cases h'
        obtain ⟨i1, i2⟩ := both_and (pos := pos) hf q2
        rw [semE]
        exact ⟨pf_and (hf a x q1).1 i1, pf_wand (hf a x q1).2 i2⟩
theorem both_or {X : Cx} {E : XK} {f : Expr → Option CE} {pos : Pos} (hf : ∀ e c, f e = some c → Both G E X e (semE cl c)) : ∀ {vs : List Expr} {c : CE}, compB f CE.or vs = some c → PE X (.BoolOp .Or vs pos) (tF G E (semE cl c)) ∧ PW X (.BoolOp .Or vs pos) (tFT G E (fTe (semE cl c)))
  | [], c, h => nomatch h
  | [a], c, h => ⟨pe_one (hf a c h).1, pw_one_or (hf a c h).2⟩
  | a :: b :: r, c, h => by
    have h' : (match f a, compB f CE.or (b :: r) with | some x, some y => some (CE.or x y) | _, _ => none) = some c := h
    cases q1 : f a with
    | none => rw [q1] at h'; cases h'
    | some x =>
      cases q2 : compB f CE.or (b :: r) with
      | none => rw [q1, q2] at h'; cases h'
      | some y =>
        rw [q1, q2] at h'
        cases h'
        obtain ⟨i1, i2⟩ := both_or (pos := pos) hf q2
        rw [semE]
        exact ⟨pf_or (hf a x q1).1 i1, pf_wor (hf a x q1).2 i2⟩
theorem m2 {α β γ : Type} {a : Option α} {b : Option β} {g : α → β → γ} {r : γ} (h : o2 g a b = some r) : ∃ x y, a = some x ∧ b = some y ∧ g x y = r := by
  cases a with
  | none => cases h
  | some x =>
    cases b with
    | none => cases h
    | some y => exact ⟨x, y, rfl, rfl, Option.some.inj h⟩
theorem m3 {α β γ δ : Type} {a : Option α} {b : Option β} {d : Option δ} {g : α → β → δ → γ} {r : γ} (h : o3 g a b d = some r) : ∃ x y z, a = some x ∧ b = some y ∧ d = some z ∧ g x y z = r := by
  cases a with
  | none => cases h
  | some x =>
    cases b with
    | none => cases h
    | some y =>
      cases d with
      | none => cases h
      | some z => exact ⟨x, y, z, rfl, rfl, rfl, Option.some.inj h⟩
/-- what is walked -/
theorem snd_I {X : Cx} {E : XK} {c : Cc} {f : Expr → Option CE} (o : Cok P w G base k cl X E c) (hf : ∀ e d, f e = some d → PE X e (tF G E (semE cl d))) {tg it : Expr} {i : CI} (h : compI c (isTupE tg) f it = some i) : PI X tg it (tFI G E (semI cl i)) := by
  have walk : ∀ {it : Expr} {i : CI}, (f it).map CI.walk = some i → PI X tg it (tFI G E (semI cl i)) := by
    intro it i h
    obtain ⟨d, q1, rfl⟩ := omap h
    rw [semI]
    exact pf_walk o.gd.K (hf it d q1)
  have gen : (if isSetE it then none else (f it).map CI.walk) = some i → PI X tg it (tFI G E (semI cl i)) := by
    intro h
    by_cases hs : isSetE it = true
    · rw [if_pos hs] at h; cases h
    · rw [if_neg hs] at h
      exact walk h
  cases it with
  | Call fe as kws pos =>
    cases fe with
    | Name fn p =>
      match as, kws, h, gen with
      | [a], [], h, gen =>
        have h' : (if fn = "range" then (if isBlt c "range" && !isStar a then (f a).map fun x => CI.range (.cons x .nil) else none) else (f (.Call (.Name fn p) [a] [] pos)).map CI.walk) = some i := h
        by_cases e : fn = "range"
        · rw [if_pos e] at h'
          subst e
          by_cases hb : (isBlt c "range" && !isStar a) = true
          · rw [if_pos hb] at h'
            obtain ⟨hb1, hb2⟩ := Bool.and_eq_true_iff.mp hb
            have hst : isStar a = false := by simpa using hb2
            obtain ⟨d, q1, rfl⟩ := omap h'
            obtain ⟨g1, g2, _, _⟩ := blt_of o hb1
            rw [semI, semL, semL]
            exact pf_range g1 g2 (pf_cons (hf a d q1) pf_nil (star_no hst)) (star_no hst)
          · rw [if_neg hb] at h'; cases h'
        · rw [if_neg e] at h'
          exact walk h'
      | [a, b], [], h, gen =>
        have h' : (if fn = "zip" then (if isTupE tg && isBlt c "zip" && !isStar a && !isStar b then o2 (fun x y => CI.zip (.cons x (.cons y .nil))) (f a) (f b) else none) else (f (.Call (.Name fn p) [a, b] [] pos)).map CI.walk) = some i := h
        by_cases e : fn = "zip"
        · rw [if_pos e] at h'
          subst e
          by_cases hb : (isTupE tg && isBlt c "zip" && !isStar a && !isStar b) = true
          · rw [if_pos hb] at h'
            obtain ⟨hb, hb4⟩ := Bool.and_eq_true_iff.mp hb
            obtain ⟨hb, hb3⟩ := Bool.and_eq_true_iff.mp hb
            obtain ⟨hb1, hb2⟩ := Bool.and_eq_true_iff.mp hb
            have sa : isStar a = false := by simpa using hb3
            have sb : isStar b = false := by simpa using hb4
            obtain ⟨d, e', q1, q2, rfl⟩ := m2 h'
            obtain ⟨g1, g2, _, _⟩ := blt_of o hb2
            rw [semI, semL, semL, semL]
            cases tg with
            | Tuple elts kk tpos => exact pf_zip o.gd.K g1 g2 (pf_cons (hf a d q1) (pf_cons (hf b e' q2) pf_nil (star_no sb)) (star_no sa)) (star_no sa) (by rw [star_no sb]; rfl)
            | _ => cases hb1
          · rw [if_neg hb] at h'; cases h'
        · rw [if_neg e] at h'
          exact walk h'
      | [], _, h, gen => exact gen h
      | _ :: _ :: _ :: _, _, h, gen => exact gen h
      | [_, _], _ :: _, h, gen => exact gen h
      | [_], _ :: _, h, gen => exact gen h
    | _ => exact gen h
  | _ => exact gen h
/-- names that may be stored here -/
structure Sto (G : Gb) (X : Cx) (c : Cc) : Prop where
  K : X.K = G.K
  calm : X.calm = true
  nd : X.N.Nodup
  N : X.N = c.N
  loc : ∀ x, (c.sc.names.lookup x = some .local ∨ c.sc.names.lookup x = some .cell) → Loc X.env.scope x ∧ (X.fn x = true ∨ X.env.scope.names.lookup x = some .local)
theorem loc_slot {X : Cx} {c : Cc} (o : Sto G X c) {x : Str} {i : Nat} (h : (match c.sc.names.lookup x with
        | some .local => c.N.idxOf? x
        | some .cell => c.N.idxOf? x
        | _ => none) = some i) : X.N[i]? = some x ∧ Loc X.env.scope x ∧ (X.fn x = true ∨ X.env.scope.names.lookup x = some .local) := by
  rw [o.N]
  cases q : c.sc.names.lookup x with
  | none => rw [q] at h; cases h
  | some kd =>
    rw [q] at h
    cases kd with
    | «local» => exact ⟨idx_get h, o.loc x (.inl q)⟩
    | cell => exact ⟨idx_get h, o.loc x (.inr q)⟩
    | _ => cases h
theorem look_map {α : Type} (g : Str → α → α) {x : Str} : ∀ {l : List (Str × α)}, (l.map fun y => (y.1, g y.1 y.2)).lookup x = (l.lookup x).map (g x)
  | [] => rfl
  | (n, a) :: r => by
    rw [List.map_cons, List.lookup_cons, List.lookup_cons, look_map]
    cases e : (x == n) with
    | true => rw [eq_of_beq e]; rfl
    | false => rfl
theorem relS_look (scope sc : Scope) (x : Str) : (relS scope sc).names.lookup x = (scope.names.lookup x).map fun k => if (k == NameKind.free && sc.kind == ScopeKind.function && sc.names.lookup x == some NameKind.cell) then NameKind.cell else k := by
  have e : (relS scope sc).names = scope.names.map fun y => (y.1, if (y.2 == NameKind.free && sc.kind == ScopeKind.function && sc.names.lookup y.1 == some NameKind.cell) then NameKind.cell else y.2) := by
    show (scope.names.map fun (n, k) => if (k == NameKind.free && sc.kind == ScopeKind.function && sc.names.lookup n == some NameKind.cell) then (n, NameKind.cell) else (n, k)) = _
    congr
    funext y
    obtain ⟨n, kd⟩ := y
    show (if _ then _ else _) = (n, if _ then _ else _)
    split <;> rfl
  rw [e]
  exact look_map (fun n k => if (k == NameKind.free && sc.kind == ScopeKind.function && sc.names.lookup n == some NameKind.cell) then NameKind.cell else k)
theorem sto_blk {X : Cx} {E : XK} {c : Cc} {scope : Scope} (o : Cok P w G base k cl X E c) (s : Shared) (H : Hp) (C : Addr) (cs : List (Str × Addr)) (fp : List Addr) : Sto G (X.blk s H scope (compEnvC scope cs C X.env) fp) { c with sc := scope } where
  K := o.gd.K
  calm := o.gd.calm
  nd := o.gd.nd
  N := o.N
  loc := fun x hx => by
    have hl : (X.blk s H scope (compEnvC scope cs C X.env) fp).env.scope.names.lookup x = _ := relS_look scope X.env.scope x
    rcases hx with hx | hx
    · have hx' : scope.names.lookup x = some .local := hx
      rw [hx'] at hl
      exact ⟨.inl hl, .inr hl⟩
    · have hx' : scope.names.lookup x = some .cell := hx
      rw [hx'] at hl
      refine ⟨.inr hl, .inl ?_⟩
      show (scope.names.lookup x == some .cell) = true
      rw [hx']
      rfl
theorem asg_len : ∀ (es : List Expr) (env : Env), (assignEach es env).length = es.length
  | [], _ => rfl
  | e :: es, env => by cases e <;> exact congrArg (· + 1) (asg_len es env)
theorem asg_no {env : Env} : ∀ {es : List Expr}, es.any isStar = false → (assignEach es env).findIdx? (·.1) = none
  | [], _ => rfl
  | e :: es, h => by
    rw [List.any_cons] at h
    obtain ⟨h1, h2⟩ := Bool.or_eq_false_iff.mp h
    have e1 : assignEach (e :: es) env = (false, assign e env) :: assignEach es env := by cases e <;> first | rfl | exact nomatch h1
    rw [e1, List.findIdx?_cons, asg_no h2]
    rfl
def rowOf : List Nat → TGs
  | [] => gNil
  | i :: is => gCons (gName i) (rowOf is)
def gOf (K : PySem.W.Frag) : Tg → TG
  | .v i => gName i
  | .t is => gTup K is.length (rowOf is)
theorem row_ok : ∀ is : List Nat, GRow (rowOf is) is
  | [] => .nil
  | i :: is => .cons (row_ok is)
theorem gok_of (K : PySem.W.Frag) : ∀ tg : Tg, GOk K (gOf K tg) tg
  | .v i => gok_v i
  | .t is => gok_t (row_ok is)
/-- targets -/
theorem snd_T {X : Cx} {c : Cc} (o : Sto G X c) {tge : Expr} {tg : Tg} (h : tgOf c tge = some tg) : PG X tge (gOf G.K tg) := by
  cases tge with
  | Name x p =>
    have h' : (match c.sc.names.lookup x with
      | some .local => (c.N.idxOf? x).map Tg.v
      | some .cell => (c.N.idxOf? x).map Tg.v
      | _ => none) = some tg := h
    have h2 : ∃ i, tg = .v i ∧ (match c.sc.names.lookup x with
        | some .local => c.N.idxOf? x
        | some .cell => c.N.idxOf? x
        | _ => none) = some i := by
      cases q : c.sc.names.lookup x with
      | none => rw [q] at h'; cases h'
      | some kd =>
        rw [q] at h'
        cases kd with
        | «local» => obtain ⟨i, q1, rfl⟩ := omap h'; exact ⟨i, rfl, q1⟩
        | cell => obtain ⟨i, q1, rfl⟩ := omap h'; exact ⟨i, rfl, q1⟩
        | _ => cases h'
    obtain ⟨i, rfl, h3⟩ := h2
    obtain ⟨n1, n2, n3⟩ := loc_slot o h3
    exact pg_name o.nd n1 n2 n3
  | Tuple es kk p =>
    obtain ⟨is, q1, rfl⟩ := omap (show (es.mapM fun (e : Expr) => match e with
      | .Name x _ => (match c.sc.names.lookup x with
        | some .local => c.N.idxOf? x
        | some .cell => c.N.idxOf? x
        | _ => none)
      | _ => none).map Tg.t = some tg from h)
    have key : ∀ {es : List Expr} {is : List Nat}, (es.mapM fun (e : Expr) => match e with
      | .Name x _ => (match c.sc.names.lookup x with
        | some .local => c.N.idxOf? x
        | some .cell => c.N.idxOf? x
        | _ => none)
      | _ => none) = some is → PGs X es (rowOf is) ∧ is.length = es.length ∧ es.any isStar = false := by
      intro es
      induction es with
      | nil =>
        intro is h
        rw [List.mapM_nil] at h
        cases h
        exact ⟨pgs_nil, rfl, rfl⟩
      | cons e r ih =>
        intro is h
        rw [List.mapM_cons] at h
        cases e with
        | Name x px =>
          have h' : ((match c.sc.names.lookup x with
            | some .local => c.N.idxOf? x
            | some .cell => c.N.idxOf? x
            | _ => none) >>= fun i => (r.mapM fun (e : Expr) => match e with
              | .Name x _ => (match c.sc.names.lookup x with
                | some .local => c.N.idxOf? x
                | some .cell => c.N.idxOf? x
                | _ => none)
              | _ => none) >>= fun is => pure (i :: is)) = some is := h
          cases qa : (match c.sc.names.lookup x with
            | some .local => c.N.idxOf? x
            | some .cell => c.N.idxOf? x
            | _ => none) with
          | none => rw [qa] at h'; cases h'
          | some i =>
            rw [qa] at h'
            cases qb : (r.mapM fun (e : Expr) => match e with
              | .Name x _ => (match c.sc.names.lookup x with
                | some .local => c.N.idxOf? x
                | some .cell => c.N.idxOf? x
                | _ => none)
              | _ => none) with
            | none => rw [qb] at h'; cases h'
            | some is' =>
              rw [qb] at h'
              cases h'
              obtain ⟨p1, p3, p4⟩ := ih qb
              obtain ⟨n1, n2, n3⟩ := loc_slot o qa
              exact ⟨pgs_cons (pg_name o.nd n1 n2 n3) p1, congrArg (· + 1) p3, by rw [List.any_cons, p4]; rfl⟩
        | _ => cases h
    obtain ⟨p1, p3, p4⟩ := key q1
    show PG X _ (gTup G.K is.length (rowOf is))
    rw [p3, ← o.K]
    exact pg_tup o.calm p1 (asg_len es X.env) (asg_no p4)
  | _ => cases h
end
end RB
/-! RB15: code is sound: every expression. -/
namespace RB
open PySem PySem.Spec L2
section
variable {P : Program} {w : World} {G : Gb} {base : Heap} {k : Nat} {cl : Cls}
/-- what is claimed of a compiler -/
def SndE (P : Program) (w : World) (G : Gb) (base : Heap) (f : Cc → Expr → Option CE) : Prop :=
  ∀ {k : Nat} {cl : Cls} (X : Cx) (E : XK) (c : Cc), Cok P w G base k cl X E c → ∀ e d, f c e = some d → Both G E X e (semE cl d)
theorem po_of {X : Cx} {E : XK} {f : Expr → Option CE} (hf : ∀ e d, f e = some d → PE X e (tF G E (semE cl d))) {o : Option Expr} {c : CO} (h : compO f o = some c) : PO X o (tFO G E (semO cl c)) := by
  cases o with
  | none =>
    cases h
    rw [semO]
    exact pf_no
  | some e =>
    obtain ⟨d, q, rfl⟩ := omap (show (f e).map CO.so = some c from h)
    rw [semO]
    exact pf_so (hf e d q)
theorem ifneg {α : Type} {c : Bool} {a : Option α} {r : α} (h : (if c then none else a) = some r) : c = false ∧ a = some r := by
  cases c with
  | true => cases h
  | false => exact ⟨rfl, h⟩
theorem ifpos {α : Type} {c : Bool} {a : Option α} {r : α} (h : (if c then a else none) = some r) : c = true ∧ a = some r := by
  cases c with
  | true => exact ⟨rfl, h⟩
  | false => cases h
theorem slots_in {tg : Tg} {own : List (Str × Nat)} (h : slotsIn tg own = true) : ∀ i ∈ tg.slots, i ∈ own.map (·.2) := fun i hi => of_decide_eq_true (List.all_eq_true.mp h i hi)
theorem pf_tif {X : Cx} {E : XK} {t a b : Expr} {pos : Pos} {gc ga gb : FE} (hc : PT X t (tFT G E (fTe gc))) (ha : PT X a (tFT G E (fTe ga))) (hb : PT X b (tFT G E (fTe gb))) : PT X (.IfExp t a b pos) (tFT G E (fTe (fIf (fTe gc) ga gb))) := by
  refine ⟨fun pins s σ H Q I hq => ?_⟩
  obtain ⟨ρ, l, h, sm, sl, rn⟩ := hq
  have e : fTe (fIf (fTe gc) ga gb) l h = (fTe gc l h).bind fun x h1 => match x with | true => fTe ga l h1 | false => fTe gb l h1 := by
    show ((fTe gc l h).bind _).bind _ = _
    rw [R.bind_assoc]
    congr
    funext x h1
    cases x <;> rfl
  rw [e] at rn
  refine PyProof.Rows.isTrue_IfExp (thn (hc.run pins s σ H _ I ⟨ρ, l, h, sm, sl, rn.bind⟩) fun d s1 hd => ?_)
  obtain ⟨H1, I1, ρ1, h1, u, e1, s1', r1, _, n1⟩ := hd
  cases (show d = u from r1)
  cases d with
  | true => exact ha.run pins s1 σ H1 Q I1 ⟨ρ1, l, h1, s1', sl.ext e1, n1⟩
  | false => exact hb.run pins s1 σ H1 Q I1 ⟨ρ1, l, h1, s1', sl.ext e1, n1⟩
theorem PTs.imp {X : Cx} {e : List Expr} {t t' : TT} (p : PTs X e t) (f : ∀ σ H Q, t' σ H Q → t σ H Q) : PTs X e t' := ⟨fun pins s σ H Q I q => p.run pins s σ H Q I (f σ H Q q)⟩
/-- sorted(set(a)) in plain form -/
theorem pf_srt {X : Cx} {E : XK} {a : Expr} {ga : FA} {p p2 q pos : Pos} (hK : X.K = G.K) (hc : X.calm = true) (hu : X.A.units + 64 < cLine) (hg : Gl X "sorted") (hm : X.mg "sorted" = none) (hg2 : Gl X "set") (hm2 : X.mg "set" = none) (ha : PA X [a] (tFA G E ga))
    (he : starEach [a] X.env = (false, eval a X.env) :: starEach [] X.env) : PE X (.Call (.Name "sorted" p) [.Call (.Name "set" p2) [a] [] q] [] pos) (tF G E (fCB sortSetB ga)) := by
  refine PE.imp (pe_sortset hc hu hg hm hg2 hm2 ha he) fun σ H Q ⟨ρ, l, h, sm, sl, rn⟩ => ⟨ρ, l, h, sm, sl, rn.bind.mono ?_⟩
  rintro vs H1 ⟨ρ1, h1, us, e1, s1, r1, _, n1⟩
  cases q : datUs h1 us with
  | none => rw [q] at n1; exact n1.elim
  | some ds =>
    rw [q] at n1
    have n2 : Rn G (RelU G) E (R.of ((sortSetB ds).map U.d) h1) ρ1 h1 H1 Q := n1
    cases q2 : sortSetB ds with
    | none => rw [q2] at n2; exact n2.elim
    | some z =>
      rw [q2] at n2
      rw [hK]
      exact ⟨ds, z, datUs_rq s1 r1 q, q2, fun v H' sa rv => Rn.at_ n2 (.grow sa) (s1.grow sa) rv⟩
theorem compL_cons {f : Expr → Option CE} {e : Expr} {r : List Expr} {a : CL} (hst : isStar e = false) (h : compL f (e :: r) = some a) : ∃ x y, f e = some x ∧ compL f r = some y ∧ a = .cons x y := by
  have h' : (match f e, compL f r with | some a, some b => some (CL.cons a b) | _, _ => none) = some a := by
    cases e <;> first | exact h | exact nomatch hst
  cases q1 : f e with
  | none => rw [q1] at h'; cases h'
  | some x =>
    cases q2 : compL f r with
    | none => rw [q1, q2] at h'; cases h'
    | some b' =>
      rw [q1, q2] at h'
      cases h'
      exact ⟨x, b', rfl, rfl, rfl⟩
/-- items of a display, their code -/
theorem pv_of {X : Cx} {E : XK} {f : Expr → Option CE} {pos : Pos} (hf : ∀ e d, f e = some d → PE X e (tF G E (semE cl d))) : ∀ {keys : List (Option Expr)} {vs : List Expr} {ks : List Str} {c : CL}, keysOf keys = some ks → keys.length = vs.length → vs.any isStar = false → compL f vs = some c →
    ∃ gs, PV X G E pos ks keys vs gs ∧ semVs gs = semL cl c
  | [], [], ks, c, h1, _, _, h2 => by
    cases h1
    cases h2
    exact ⟨[], .nil, by rw [semL]; rfl⟩
  | [], _ :: _, _, _, _, hl, _, _ => by cases hl
  | _ :: _, [], _, _, _, hl, _, _ => by cases hl
  | ok :: keys, v :: vs, ks, c, h1, hl, hs, h2 => by
    obtain ⟨hs1, hs2⟩ := Bool.or_eq_false_iff.mp (show (isStar v || vs.any isStar) = false from hs)
    unfold keysOf at h1
    split at h1
    · rename_i heq
      cases heq
    · rename_i k j p r heq
      cases heq
      obtain ⟨ks', q1, rfl⟩ := omap h1
      obtain ⟨x, y, q2, q3, rfl⟩ := compL_cons hs1 h2
      obtain ⟨gs, i1, i2⟩ := pv_of hf q1 (by simpa using hl) hs2 q3
      exact ⟨semE cl x :: gs, .cons (hf v x q2) i1, by rw [semL, ← i2]; rfl⟩
    · cases h1
theorem lamOf_eq {es : List Expr} {q : Arguments × Expr × Scope} (h : lamOf es = some q) : ∃ p, es = [.Lambda q.1 q.2.1 q.2.2 p] := by
  unfold lamOf at h
  split at h
  · cases h
    exact ⟨_, rfl⟩
  · cases h
theorem noArgs_eq {a : Arguments} (h : noArgs a = true) : a = ⟨[], [], none, [], [], none, []⟩ := by
  unfold noArgs at h
  split at h
  · rfl
  · cases h
theorem snd_step {f : Cc → Expr → Option CE} (hf : SndE P w G base f) : SndE P w G base (stepE f) := by
  intro k cl X E c o e d h
  have hu := o.gd.units
  have hE : ∀ e d, f c e = some d → PE X e (tF G E (semE cl d)) := fun e d q => (hf X E c o e d q).1
  have val : ∀ {e : Expr} {g : FE}, PE X e (tF G E g) → byValue e = true → Both G E X e g := fun p b => ⟨p, test_of p b⟩
  cases e with
  | Name x p =>
    have h' : (if plainName x then (match slotOf c x with
      | some i => some (CE.var i)
      | none => if isGl c x then (c.tb.consts.lookup x).map CE.con else none) else none) = some d := h
    obtain ⟨hp, h1⟩ := ifpos h'
    obtain ⟨d1, d2, d3⟩ := pn_d hp
    cases q : slotOf c x with
    | some i =>
      rw [q] at h1
      cases h1
      obtain ⟨n1, n2⟩ := slot_of o q
      rw [semE]
      exact val (pf_var n1 n2 d1 d2) rfl
    | none =>
      rw [q] at h1
      obtain ⟨hg, h2⟩ := ifpos h1
      obtain ⟨x', q2, rfl⟩ := omap h2
      obtain ⟨v, u, e1, r1, rp⟩ := o.ft.con x x' q2
      rw [semE]
      exact val (pf_c (pe_glob (gl_of o hg) (by rw [o.gd.mg]; exact e1) r1 d1) rp) rfl
  | Constant kk j p =>
    obtain ⟨x, q, rfl⟩ := omap (show (conOf kk).map CE.con = some d from h)
    rw [semE]
    cases kk with
    | none => cases q; exact val (pf_c pe_non fun H => .non) rfl
    | bool b => cases q; exact val (pf_c pe_bl fun H => .bl b) rfl
    | int i => cases q; exact val (pf_c pe_int fun H => .int i) rfl
    | str s => cases q; exact val (pf_c pe_str fun H => .str s) rfl
    | _ => cases q
  | Tuple es kk p =>
    obtain ⟨a, q, rfl⟩ := omap (show (compL (f c) es).map CE.tup = some d from h)
    rw [semE]
    exact val (pf_tup (pa_of o.gd.K hE q)) rfl
  | List es p =>
    obtain ⟨a, q, rfl⟩ := omap (show (compL (f c) es).map CE.lst = some d from h)
    rw [semE]
    exact val (pf_lst (pa_of o.gd.K hE q)) rfl
  | BinOp a op b p =>
    obtain ⟨x, y, q1, q2, rfl⟩ := m2 (a := f c a) (b := f c b) (g := fun x y => CE.bin op x y) (r := d) h
    rw [semE]
    exact val (pf_op o.gd.K (op_bin o op) (hE a x q1) (hE b y q2)) rfl
  | UnaryOp op a p =>
    cases op with
    | USub =>
      obtain ⟨x, q, rfl⟩ := omap (show (f c a).map CE.neg = some d from h)
      rw [semE]
      exact val (pf_neg (hE a x q)) rfl
    | Not =>
      obtain ⟨x, q, rfl⟩ := omap (show (f c a).map CE.not = some d from h)
      rw [semE]
      exact ⟨pf_not (hE a x q), pf_tnot (hf X E c o a x q).2⟩
    | _ => cases h
  | BoolOp op vs p =>
    cases op with
    | And =>
      obtain ⟨p1, p2⟩ := both_and (pos := p) (fun e d q => hf X E c o e d q) (show compB (f c) CE.and vs = some d from h)
      exact ⟨p1, p2.pt⟩
    | Or =>
      obtain ⟨p1, p2⟩ := both_or (pos := p) (fun e d q => hf X E c o e d q) (show compB (f c) CE.or vs = some d from h)
      exact ⟨p1, p2.pt⟩
  | IfExp t a b p =>
    obtain ⟨x, y, z, q1, q2, q3, rfl⟩ := m3 (a := f c t) (b := f c a) (d := f c b) (g := fun x y z => CE.ifx x y z) (r := d) h
    rw [semE]
    exact ⟨pf_if (hf X E c o t x q1).2 (hE a y q2) (hE b z q3), pf_tif (hf X E c o t x q1).2 (hf X E c o a y q2).2 (hf X E c o b z q3).2⟩
  | Compare a ops bs p =>
    match ops, bs, h with
    | [op], [b], h =>
      obtain ⟨hs, h1⟩ := ifneg (show (if isSetE b then none else o2 (CE.cmp op) (f c a) (f c b)) = some d from h)
      obtain ⟨x, y, q1, q2, rfl⟩ := m2 (a := f c a) (b := f c b) (g := fun x y => CE.cmp op x y) (r := d) h1
      rw [semE]
      exact ⟨pf_cmp o.gd.K (op_cmp o op) (hE a x q1) (hE b y q2) (marks_of hs), pf_tcmp o.gd.K (op_cmp o op) (hE a x q1) (hE b y q2) (marks_of hs)⟩
    | [op, op'], [b, b'], h =>
      obtain ⟨hs, h1⟩ := ifneg (show (if isSetE b' then none else o3 (CE.chain op op') (f c a) (f c b) (f c b')) = some d from h)
      obtain ⟨x, y, z, q1, q2, q3, rfl⟩ := m3 (a := f c a) (b := f c b) (d := f c b') (g := fun x y z => CE.chain op op' x y z) (r := d) h1
      rw [semE]
      have hm : lastMarks [op, op'] [b, b'] = false := marks_of hs
      exact ⟨pf_chain o.gd.K (op_cmp o op) (op_cmp o op') (hE a x q1) (hE b y q2) (hE b' z q3) hm, pf_tchain o.gd.K (op_cmp o op) (op_cmp o op') (hE a x q1) (hE b y q2) (hE b' z q3) hm⟩
    | [], _, h => cases h
    | [_], [], h => cases h
    | [_], _ :: _ :: _, h => cases h
    | [_, _], [], h => cases h
    | [_, _], [_], h => cases h
    | [_, _], _ :: _ :: _ :: _, h => cases h
    | _ :: _ :: _ :: _, _, h => cases h
  | Subscript a b p =>
    have gen : o2 CE.ix (f c a) (f c b) = some d → PlainIx b → Both G E X (.Subscript a b p) (semE cl d) := by
      intro h hp
      obtain ⟨x, y, q1, q2, rfl⟩ := m2 (a := f c a) (b := f c b) (g := fun x y => CE.ix x y) (r := d) h
      rw [semE]
      exact val (pf_ix o.gd.K hp (hE a x q1) (hE b y q2)) rfl
    cases b with
    | Slice lo hi st sp =>
      cases st with
      | none =>
        obtain ⟨x, y, z, q1, q2, q3, rfl⟩ := m3 (a := f c a) (b := compO (f c) lo) (d := compO (f c) hi) (g := fun x y z => CE.sl x y z) (r := d) h
        rw [semE]
        exact val (pf_sl o.gd.K (hE a x q1) (po_of hE q2) (po_of hE q3)) rfl
      | some st =>
        obtain ⟨hr, h1⟩ := ifpos (show (if isRev lo hi st then (f c a).map CE.rev else none) = some d from h)
        obtain ⟨rfl, rfl, kk, p1, p2, rfl⟩ := isRev_eq hr
        obtain ⟨x, q1, rfl⟩ := omap h1
        rw [semE]
        exact val (pf_rev o.gd.K (hE a x q1)) rfl
    | Constant kk j cp =>
      cases kk with
      | str s =>
        obtain ⟨x, q1, rfl⟩ := omap (show (f c a).map (fun x => CE.dget x (.con (.str s))) = some d from h)
        rw [semE, semE]
        exact val (pf_dget (by omega) (hE a x q1) (pf_c pe_str fun H => .str s) (fun _ _ => rfl)) rfl
      | _ => exact gen h (fun _ _ => rfl)
    | _ => exact gen h (fun _ _ => rfl)
  | Call fe es kws p =>
    cases fe with
    | Name fn np =>
      have hcl : compCall f c fn es kws (lamOf es) = some d := h
      cases ql : lamOf es with
      | some q =>
        rw [ql] at hcl
        obtain ⟨lp, rfl⟩ := lamOf_eq ql
        obtain ⟨ars, ex, scope⟩ := q
        obtain ⟨hq, h1⟩ := ifpos (show (if decide (fn = "_law_said") && isGl c fn && kws.isEmpty && c.lam && LamX.lamSB c.sc scope && noArgs ars then (f { c with sc := scope, lam := false } ex).map CE.said else none) = some d from hcl)
        obtain ⟨hq, hq6⟩ := Bool.and_eq_true_iff.mp hq
        obtain ⟨hq, hq5⟩ := Bool.and_eq_true_iff.mp hq
        obtain ⟨hq, hq4⟩ := Bool.and_eq_true_iff.mp hq
        obtain ⟨hq, hq3⟩ := Bool.and_eq_true_iff.mp hq
        obtain ⟨hq1, hq2⟩ := Bool.and_eq_true_iff.mp hq
        have e1 : fn = "_law_said" := of_decide_eq_true hq1
        have ek : kws = [] := List.isEmpty_iff.mp hq3
        subst e1 ek
        have ea := noArgs_eq hq6
        subst ea
        obtain ⟨x, qx, rfl⟩ := omap h1
        obtain ⟨⟨k1, hk1, ft⟩, lo, sf⟩ := o.lam hq4
        rw [semE]
        exact val (pf_said (k := k1) o.gd.K o.gd.mg (gl_of o hq2) sf lo (o.gd.room.mono hk1) o.gd.gds (LamX.lamS_by (by rw [o.sc]; exact hq5)) rfl (fun q cs pm cv ctv => rfl)
          fun A outer s H E1 f1 c1 hg hr => (hf _ E1 _ (o.lamC ft hg hr) ex x qx).1) rfl
      | none =>
      rw [ql] at hcl
      obtain ⟨hc0, h1⟩ := ifneg (show (if !(isGl c fn && plainName fn) || es.any isStar then none else (kwNames kws).bind fun ks => compSh c (f c) fn es kws (c.tb.shapes.lookup (fn, es.length, ks))) = some d from hcl)
      obtain ⟨hc1, hst⟩ := Bool.or_eq_false_iff.mp hc0
      obtain ⟨hgl, hpn⟩ := Bool.and_eq_true_iff.mp (show (isGl c fn && plainName fn) = true by simpa using hc1)
      obtain ⟨d1, d2, d3⟩ := pn_d hpn
      cases qk : kwNames kws with
      | none => rw [qk] at h1; cases h1
      | some ks =>
        rw [qk] at h1
        have h1' : compSh c (f c) fn es kws (c.tb.shapes.lookup (fn, es.length, ks)) = some d := h1
        cases qs : c.tb.shapes.lookup (fn, es.length, ks) with
        | some bs =>
          rw [qs] at h1'
          obtain ⟨x, y, q1, q2, rfl⟩ := m2 (a := compL (f c) es) (b := compK (f c) kws) (g := fun x y => CE.call fn bs x y) (r := d) h1'
          obtain ⟨fa, fd, ps, f1, f2, f3, f4, f5⟩ := o.ft.fn fn es.length ks bs qs
          exact val (pf_call o.gd (gl_of o hgl) d1 f1 f2 f3 (by rw [o.P, o.w, o.base]; exact f4) f5 hst qk hE q1 q2) rfl
        | none =>
          rw [qs] at h1'
          obtain ⟨hb0, h3⟩ := ifneg (show (if !(isBlt c fn && kws.isEmpty) then none else if fn = "isinstance" then compIsi c (f c) es else if fn = "sorted" then compSrt c (f c) es else if decide (fn ∈ blts) && !es.isEmpty then (compL (f c) es).map fun a => CE.blt fn a else none) = some d from h1')
          obtain ⟨hb, hkw⟩ := Bool.and_eq_true_iff.mp (show (isBlt c fn && kws.isEmpty) = true by simpa using hb0)
          have ek : kws = [] := List.isEmpty_iff.mp hkw
          subst ek
          by_cases ei : fn = "isinstance"
          · rw [if_pos ei] at h3
            subst ei
            match es, h3, hst with
            | [e1, .Name T pT], h3, hst =>
              obtain ⟨hT0, h4⟩ := ifpos (show (if isBlt c T && decide (T ∈ tyNames) then (f c e1).map fun x => CE.isi T x else none) = some d from h3)
              obtain ⟨hT, hTn⟩ := Bool.and_eq_true_iff.mp hT0
              obtain ⟨x, q1, rfl⟩ := omap h4
              obtain ⟨g1, g2, g3, g4⟩ := blt_of o hb
              obtain ⟨t1, t2, t3, t4⟩ := blt_of o hT
              have hs1 : isStar e1 = false := (Bool.or_eq_false_iff.mp (show (isStar e1 || _) = false from hst)).1
              rw [semE]
              have hTn' : T = "int" ∨ T = "bool" ∨ T = "str" ∨ T = "tuple" ∨ T = "list" := by simpa [tyNames] using of_decide_eq_true hTn
              rcases hTn' with rfl | rfl | rfl | rfl | rfl
              · exact val (pf_isi o.gd.K g1 g2 t1 t2 (Tn := "int") (by decide +kernel) t3 t4 (hE e1 x q1) (star_no hs1)) rfl
              · exact val (pf_isi o.gd.K g1 g2 t1 t2 (Tn := "bool") (by decide +kernel) t3 t4 (hE e1 x q1) (star_no hs1)) rfl
              · exact val (pf_isi o.gd.K g1 g2 t1 t2 (Tn := "str") (by decide +kernel) t3 t4 (hE e1 x q1) (star_no hs1)) rfl
              · exact val (pf_isi o.gd.K g1 g2 t1 t2 (Tn := "tuple") (by decide +kernel) t3 t4 (hE e1 x q1) (star_no hs1)) rfl
              · exact val (pf_isi o.gd.K g1 g2 t1 t2 (Tn := "list") (by decide +kernel) t3 t4 (hE e1 x q1) (star_no hs1)) rfl
            | [], h3, _ => cases h3
            | [_], h3, _ => cases h3
            | e1 :: e2 :: e3 :: r, h3, _ =>
              have h3' : compIsi c (f c) (e1 :: e2 :: e3 :: r) = some d := h3
              unfold compIsi at h3'
              split at h3'
              · rename_i heq
                cases heq
              · cases h3'
          · rw [if_neg ei] at h3
            by_cases es0 : fn = "sorted"
            · rw [if_pos es0] at h3
              subst es0
              have h3' : compSrt c (f c) es = some d := h3
              unfold compSrt at h3'
              split at h3'
              · rename_i g gp a aq
                by_cases eg : ¬ g = "set"
                · rw [if_neg eg] at h3'
                  obtain ⟨x, q1, rfl⟩ := omap h3'
                  obtain ⟨g1, g2, g3, g4⟩ := blt_of o hb
                  rw [semE]
                  exact val (pf_callB o.gd.K (cr_sortL (by omega)) g1 g2 (by decide +kernel) (pf_cons (hE _ x q1) pf_nil (star_no rfl)) g3 g4 (star_no rfl) rfl) rfl
                have eg : g = "set" := Decidable.not_not.mp eg
                rw [if_pos eg] at h3'
                obtain ⟨hq0, h4⟩ := ifpos h3'
                obtain ⟨hq2, hq3⟩ := Bool.and_eq_true_iff.mp hq0
                subst eg
                have sa : isStar a = false := by simpa using hq3
                obtain ⟨x, q1, rfl⟩ := omap h4
                obtain ⟨g1, g2, _, _⟩ := blt_of o hb
                obtain ⟨t1, t2, _, _⟩ := blt_of o hq2
                rw [semE]
                exact val (pf_srt o.gd.K o.gd.calm (by omega) g1 g2 t1 t2 (pf_cons (hE a x q1) pf_nil (star_no sa)) (star_no sa)) rfl
              · rename_i e0 _
                obtain ⟨se, h4⟩ := ifneg h3'
                obtain ⟨x, q1, rfl⟩ := omap h4
                obtain ⟨g1, g2, g3, g4⟩ := blt_of o hb
                rw [semE]
                exact val (pf_callB o.gd.K (cr_sortL (by omega)) g1 g2 (by decide +kernel) (pf_cons (hE _ x q1) pf_nil (star_no se)) g3 g4 (star_no se) rfl) rfl
              · cases h3'
            rw [if_neg es0] at h3
            obtain ⟨hm, h4⟩ := ifpos h3
            obtain ⟨hm1, hm2⟩ := Bool.and_eq_true_iff.mp hm
            obtain ⟨a, q1, rfl⟩ := omap h4
            rw [semE]
            cases es with
            | nil => cases hm2
            | cons e1 es1 => exact val (blt_rule o (of_decide_eq_true hm1) hb (pa_of o.gd.K hE q1) hst) rfl
    | Attribute ov m apos =>
      obtain ⟨hc0, h1⟩ := ifneg (show (if !(apos.endLine == p.line) || es.any isStar || decide (29 ≤ es.length) || !isNameE ov || !kws.isEmpty then none else
        if m = "append" then compApp (f c) ov es else if m = "extend" then compExt (f c) ov es else none) = some d from h)
      obtain ⟨hc1, hkw⟩ := Bool.or_eq_false_iff.mp hc0
      obtain ⟨hc2, hnm⟩ := Bool.or_eq_false_iff.mp hc1
      obtain ⟨hc3, hln⟩ := Bool.or_eq_false_iff.mp hc2
      obtain ⟨hli, hst⟩ := Bool.or_eq_false_iff.mp hc3
      have hline : (apos.endLine == p.line) = true := by simpa using hli
      have ek : kws = [] := List.isEmpty_iff.mp (by simpa using hkw)
      subst ek
      have hlen : ¬ 29 ≤ es.length := of_decide_eq_false hln
      cases ov with
      | Name x np =>
        by_cases em : m = "append"
        · rw [if_pos em] at h1
          subst em
          cases es with
          | nil => cases h1
          | cons e1 es1 =>
            obtain ⟨y, z, q1, q2, rfl⟩ := m2 (a := f c (.Name x np)) (b := compL (f c) (e1 :: es1)) (g := fun x y => CE.app x y) (r := d) h1
            rw [semE]
            obtain ⟨hs1, hs2⟩ := Bool.or_eq_false_iff.mp (show (isStar e1 || es1.any isStar) = false from hst)
            refine val (pf_app o.gd.K (hE _ y q1) (pa_of o.gd.K hE q2) rfl ?_ hline (star_no hs1) (star_any hs2)) rfl
            rw [star_all hst]
            show (true && true && decide ((e1 :: es1).length + 0 + 0 < 30)) = true
            rw [decide_eq_true (by omega)]
            rfl
        · rw [if_neg em] at h1
          by_cases em2 : m = "extend"
          · rw [if_pos em2] at h1
            subst em2
            match es, h1 with
            | [.List is lp], h1 =>
              obtain ⟨y, z, q1, q2, rfl⟩ := m2 (a := f c (.Name x np)) (b := compL (f c) is) (g := fun x y => CE.ext x y) (r := d) h1
              rw [semE]
              exact val (pf_ext o.gd.K (hE _ y q1) (pa_of o.gd.K hE q2) rfl hline) rfl
            | [], h1 => cases h1
            | e1 :: e2 :: r, h1 =>
              have h1' : compExt (f c) (.Name x np) (e1 :: e2 :: r) = some d := h1
              unfold compExt at h1'
              split at h1'
              · rename_i heq
                cases heq
              · cases h1'
          · rw [if_neg em2] at h1
            cases h1
      | _ => cases hnm
    | _ => cases h
  | Dict keys values p =>
    cases qk : keysOf keys with
    | none =>
      have h' : (keysOf keys).bind (fun ks => if decide ks.Nodup && !ks.isEmpty && decide (ks.length ≤ 15) && decide (keys.length = values.length) && !(values.any isStar) then (compL (f c) values).map (CE.dct ks) else none) = some d := h
      rw [qk] at h'
      cases h'
    | some ks =>
      have h' : (keysOf keys).bind (fun ks => if decide ks.Nodup && !ks.isEmpty && decide (ks.length ≤ 15) && decide (keys.length = values.length) && !(values.any isStar) then (compL (f c) values).map (CE.dct ks) else none) = some d := h
      rw [qk] at h'
      obtain ⟨hq, h1⟩ := ifpos (show (if decide ks.Nodup && !ks.isEmpty && decide (ks.length ≤ 15) && decide (keys.length = values.length) && !(values.any isStar) then (compL (f c) values).map (CE.dct ks) else none) = some d from h')
      obtain ⟨hq, hq5⟩ := Bool.and_eq_true_iff.mp hq
      obtain ⟨hq, hq4⟩ := Bool.and_eq_true_iff.mp hq
      obtain ⟨hq, hq3⟩ := Bool.and_eq_true_iff.mp hq
      obtain ⟨hq1, hq2⟩ := Bool.and_eq_true_iff.mp hq
      obtain ⟨a, q1, rfl⟩ := omap h1
      obtain ⟨gs, pv, eg⟩ := pv_of (pos := p) hE qk (of_decide_eq_true hq4) (by simpa using hq5) q1
      rw [semE, ← eg]
      exact val (pf_dct pv (of_decide_eq_true hq1) (fun z => by rw [z] at hq2; cases hq2) (of_decide_eq_true hq3)) rfl
  | ListComp el gens scope p =>
    match gens, h with
    | [⟨tg, it, ifs, 0⟩], h =>
      obtain ⟨hc0, h1⟩ := ifneg (show (if !(blkC c.N c.sc scope (ownOf c.N scope)) || isSetE it then none else (compI c (isTupE tg) (f c) it).bind fun i => (tgOf { c with sc := scope } tg).bind fun t => (f { c with sc := relS scope c.sc, lam := false } el).bind fun x =>
        if slotsIn t (ownOf c.N scope) then (match ifs with
          | [] => some (CE.comp i t ((ownOf c.N scope).map (·.2)) .no x)
          | [d] => (f { c with sc := relS scope c.sc, lam := false } d).map fun y => CE.comp i t ((ownOf c.N scope).map (·.2)) (.so y) x
          | _ => none) else none) = some d from h)
      obtain ⟨hb0, hset⟩ := Bool.or_eq_false_iff.mp hc0
      have hb : blkC c.N c.sc scope (ownOf c.N scope) = true := by simpa using hb0
      cases qi : compI c (isTupE tg) (f c) it with
      | none => rw [qi] at h1; cases h1
      | some i =>
        rw [qi] at h1
        cases qt : tgOf { c with sc := scope } tg with
        | none => rw [qt] at h1; cases h1
        | some t =>
          rw [qt] at h1
          cases qx : f { c with sc := relS scope c.sc, lam := false } el with
          | none => rw [qx] at h1; cases h1
          | some x =>
            rw [qx] at h1
            obtain ⟨hsl, h2⟩ := ifpos (show (if slotsIn t (ownOf c.N scope) then (match ifs with
              | [] => some (CE.comp i t ((ownOf c.N scope).map (·.2)) .no x)
              | [d] => (f { c with sc := relS scope c.sc, lam := false } d).map fun y => CE.comp i t ((ownOf c.N scope).map (·.2)) (.so y) x
              | _ => none) else none) = some d from h1)
            have hi : PI X tg it (tFI G E (semI cl i)) := snd_I o hE qi
            have ok : BlkOk X.N X.env.scope scope (ownOf c.N scope) := blkOk_by (by rw [o.N, o.sc]; exact hb)
            have pg : blkP X scope fun Y => PG Y tg (gOf G.K t) := fun s H C cs fp => snd_T (sto_blk o s H C cs fp) qt
            have pe : blkP X scope fun Y => PE Y el (tF G F0 (semE cl x)) := fun s H C cs fp => (hf _ F0 _ (o.blk s H scope C cs fp) el x qx).1
            match ifs, h2 with
            | [], h2 =>
              cases h2
              rw [semE, semT]
              exact val (pf_comp o.gd.K o.gd.calm o.gd.nd hi ok (gok_of G.K t) (slots_in hsl) pg (fun s H C cs fp => PTs.imp pts_nil fun σ H Q ⟨ρ, l, h, sm, sl, rn⟩ => rn.here sm rfl) pe (fold_of hset)) rfl
            | [di], h2 =>
              obtain ⟨y, qy, rfl⟩ := omap (show ((f { c with sc := relS scope c.sc, lam := false } di).map fun y => CE.comp i t ((ownOf c.N scope).map (·.2)) (.so y) x) = some d from h2)
              rw [semE, semT]
              exact val (pf_comp o.gd.K o.gd.calm o.gd.nd hi ok (gok_of G.K t) (slots_in hsl) pg (fun s H C cs fp => pts_one (hf _ F0 _ (o.blk s H scope C cs fp) di y qy).2) pe (fold_of hset)) rfl
            | _ :: _ :: _, h2 => cases h2
    | [⟨tg, it, ifs, 0⟩, ⟨tg1, it1, ifs1, 0⟩], h =>
      have h0 : compC2 f c el tg it ifs tg1 it1 ifs1 scope = some d := h
      unfold compC2 at h0
      obtain ⟨hc0, h1⟩ := ifneg h0
      obtain ⟨hb0, hset⟩ := Bool.or_eq_false_iff.mp hc0
      obtain ⟨hset0, hset1⟩ := Bool.or_eq_false_iff.mp hset
      have hb : blkC c.N c.sc scope (ownOf c.N scope) = true := by simpa using hb0
      obtain ⟨i, qi, h1⟩ := Option.bind_eq_some_iff.mp h1
      obtain ⟨t, qt, h1⟩ := Option.bind_eq_some_iff.mp h1
      obtain ⟨i1, qi1, h1⟩ := Option.bind_eq_some_iff.mp h1
      obtain ⟨t1, qt1, h1⟩ := Option.bind_eq_some_iff.mp h1
      obtain ⟨dd, qd, h1⟩ := Option.bind_eq_some_iff.mp h1
      obtain ⟨d1, qd1, h1⟩ := Option.bind_eq_some_iff.mp h1
      obtain ⟨x, qx, h1⟩ := Option.bind_eq_some_iff.mp h1
      obtain ⟨hsl, h2⟩ := ifpos h1
      obtain ⟨hsl0, hsl1⟩ := Bool.and_eq_true_iff.mp hsl
      cases h2
      have hi : PI X tg it (tFI G E (semI cl i)) := snd_I o hE qi
      have ok : BlkOk X.N X.env.scope scope (ownOf c.N scope) := blkOk_by (by rw [o.N, o.sc]; exact hb)
      have pg : blkP X scope fun Y => PG Y tg (gOf G.K t) := fun s H C cs fp => snd_T (sto_blk o s H C cs fp) qt
      have pg1 : blkP X scope fun Y => PG Y tg1 (gOf G.K t1) := fun s H C cs fp => snd_T (sto_blk o s H C cs fp) qt1
      have hi1 : blkP X scope fun Y => PI Y tg1 it1 (tFI G F0 (semI cl i1)) := fun s H C cs fp => snd_I (o.blk s H scope C cs fp) (fun e d q => (hf _ F0 _ (o.blk s H scope C cs fp) e d q).1) qi1
      have pe : blkP X scope fun Y => PE Y el (tF G F0 (semE cl x)) := fun s H C cs fp => (hf _ F0 _ (o.blk s H scope C cs fp) el x qx).1
      have pif : ∀ {ifs : List Expr} {d : CO}, compIf (f (c.inn scope)) ifs = some d → blkP X scope fun Y => PTs Y ifs (tFT G F0 (semT cl d)) := by
        intro ifs d q
        match ifs, q with
        | [], q =>
          cases q
          rw [semT]
          exact fun s H C cs fp => PTs.imp pts_nil fun σ H Q ⟨ρ, l, h, sm, sl, rn⟩ => rn.here sm rfl
        | [di], q =>
          obtain ⟨y, qy, rfl⟩ := omap (show (f (c.inn scope) di).map CO.so = some d from q)
          rw [semT]
          exact fun s H C cs fp => pts_one (hf _ F0 _ (o.blk s H scope C cs fp) di y qy).2
        | _ :: _ :: _, q => cases q
      rw [semE]
      exact val (pf_comp2 o.gd.K o.gd.calm o.gd.nd hi ok (gok_of G.K t) (slots_in hsl0) (gok_of G.K t1) (slots_in hsl1) pg (pif qd) hi1 pg1 (pif qd1) pe (fold_of hset0) (fun env => fold_of hset1)) rfl
    | [], h => cases h
    | ⟨_, _, _, .ofNat 0⟩ :: ⟨_, _, _, .ofNat (n + 1)⟩ :: _, h => cases h
    | ⟨_, _, _, .ofNat 0⟩ :: ⟨_, _, _, .negSucc n⟩ :: _, h => cases h
    | ⟨_, _, _, .ofNat 0⟩ :: ⟨_, _, _, .ofNat 0⟩ :: _ :: _, h => cases h
    | ⟨_, _, _, .ofNat (n + 1)⟩ :: _ :: _, h => cases h
    | ⟨_, _, _, .negSucc n⟩ :: _ :: _, h => cases h
    | [⟨tg, it, ifs, .ofNat (n + 1)⟩], h => cases h
    | [⟨tg, it, ifs, .negSucc n⟩], h => cases h
  | _ => cases h
theorem snd_all : ∀ n, SndE P w G base (compE n)
  | 0 => fun X E c o e d h => nomatch h
  | n + 1 => snd_step (snd_all n)
end
end RB
/-! RB16: code is sound: statements. -/
namespace RB
open PySem PySem.Spec L2
section
variable {P : Program} {w : World} {G : Gb} {base : Heap} {k : Nat} {cl : Cls}
/-- the parts of a comprehension's code -/
structure CompParts (G : Gb) (E : XK) (X : Cx) (el : Expr) (gens : List Comprehension) (scope : Scope) (cl : Cls) (d : CE) : Prop where
  ex : ∃ (tge it : Expr) (ifs : List Expr) (gi : FI) (tg : Tg) (gt : FT) (ge : FE) (own : List (Str × Nat)), gens = [⟨tge, it, ifs, 0⟩] ∧ semE cl d = fComp gi tg (own.map (·.2)) gt ge ∧ PI X tge it (tFI G E gi) ∧ BlkOk X.N X.env.scope scope own ∧ (∀ i ∈ tg.slots, i ∈ own.map (·.2)) ∧
    blkP X scope (fun Y => PG Y tge (gOf G.K tg)) ∧ blkP X scope (fun Y => PTs Y ifs (tFT G F0 gt)) ∧ blkP X scope (fun Y => PE Y el (tF G F0 ge)) ∧ (∀ x, foldedSetIterable it X.env x = pure x) ∧ ∀ d2, toM d = some d2 → semE cl d2 = fMComp gi tg (own.map (·.2)) gt ge
theorem comp_parts {f : Cc → Expr → Option CE} (hf : SndE P w G base f) {X : Cx} {E : XK} {c : Cc} (o : Cok P w G base k cl X E c) {el : Expr} {gens : List Comprehension} {scope : Scope} {p : Pos} {d : CE} (h : stepE f c (.ListComp el gens scope p) = some d) (h1g : gens.length = 1) : CompParts G E X el gens scope cl d := by
  have hE : ∀ e d, f c e = some d → PE X e (tF G E (semE cl d)) := fun e d q => (hf X E c o e d q).1
  match gens, h, h1g with
  | [⟨tg, it, ifs, 0⟩], h, _ =>
    obtain ⟨hc0, h1⟩ := ifneg (show (if !(blkC c.N c.sc scope (ownOf c.N scope)) || isSetE it then none else (compI c (isTupE tg) (f c) it).bind fun i => (tgOf { c with sc := scope } tg).bind fun t => (f { c with sc := relS scope c.sc, lam := false } el).bind fun x =>
      if slotsIn t (ownOf c.N scope) then (match ifs with
        | [] => some (CE.comp i t ((ownOf c.N scope).map (·.2)) .no x)
        | [d] => (f { c with sc := relS scope c.sc, lam := false } d).map fun y => CE.comp i t ((ownOf c.N scope).map (·.2)) (.so y) x
        | _ => none) else none) = some d from h)
    obtain ⟨hb0, hset⟩ := Bool.or_eq_false_iff.mp hc0
    have hb : blkC c.N c.sc scope (ownOf c.N scope) = true := by simpa using hb0
    cases qi : compI c (isTupE tg) (f c) it with
    | none => rw [qi] at h1; cases h1
    | some i =>
      rw [qi] at h1
      cases qt : tgOf { c with sc := scope } tg with
      | none => rw [qt] at h1; cases h1
      | some t =>
        rw [qt] at h1
        cases qx : f { c with sc := relS scope c.sc, lam := false } el with
        | none => rw [qx] at h1; cases h1
        | some x =>
          rw [qx] at h1
          obtain ⟨hsl, h2⟩ := ifpos (show (if slotsIn t (ownOf c.N scope) then (match ifs with
            | [] => some (CE.comp i t ((ownOf c.N scope).map (·.2)) .no x)
            | [d] => (f { c with sc := relS scope c.sc, lam := false } d).map fun y => CE.comp i t ((ownOf c.N scope).map (·.2)) (.so y) x
            | _ => none) else none) = some d from h1)
          have hi : PI X tg it (tFI G E (semI cl i)) := snd_I o hE qi
          have ok : BlkOk X.N X.env.scope scope (ownOf c.N scope) := blkOk_by (by rw [o.N, o.sc]; exact hb)
          have pg : blkP X scope fun Y => PG Y tg (gOf G.K t) := fun s H C cs fp => snd_T (sto_blk o s H C cs fp) qt
          have pe : blkP X scope fun Y => PE Y el (tF G F0 (semE cl x)) := fun s H C cs fp => (hf _ F0 _ (o.blk s H scope C cs fp) el x qx).1
          match ifs, h2 with
          | [], h2 =>
            cases h2
            refine ⟨tg, it, [], _, t, fYes, _, ownOf c.N scope, rfl, ?_, hi, ok, slots_in hsl, pg, (fun s H C cs fp => PTs.imp pts_nil fun σ H Q ⟨ρ, l, h, sm, sl, rn⟩ => rn.here sm rfl), pe, fold_of hset, fun d2 q2 => ?_⟩
            · rw [semE, semT]
            · cases q2
              rw [semE, semT]
          | [di], h2 =>
            obtain ⟨y, qy, rfl⟩ := omap (show ((f { c with sc := relS scope c.sc, lam := false } di).map fun y => CE.comp i t ((ownOf c.N scope).map (·.2)) (.so y) x) = some d from h2)
            refine ⟨tg, it, [di], _, t, fTe (semE cl y), _, ownOf c.N scope, rfl, ?_, hi, ok, slots_in hsl, pg, (fun s H C cs fp => pts_one (hf _ F0 _ (o.blk s H scope C cs fp) di y qy).2), pe, fold_of hset, fun d2 q2 => ?_⟩
            · rw [semE, semT]
            · cases q2
              rw [semE, semT]
          | _ :: _ :: _, h2 => cases h2
  | [], h, _ => cases h
  | _ :: _ :: _, h, hg => cases hg
  | [⟨tg, it, ifs, .ofNat (n + 1)⟩], h, _ => cases h
  | [⟨tg, it, ifs, .negSucc n⟩], h, _ => cases h
/-- a body's context -/
structure Bok (P : Program) (w : World) (G : Gb) (base : Heap) (k : Nat) (cl : Cls) (X : Cx) (E : XK) (c : Cc) : Prop where
  ok : Cok P w G base k cl X E c
  fn : ∀ x, X.fn x = true
  kind : c.sc.kind = .function
theorem Bok.sto {X : Cx} {E : XK} {c : Cc} (b : Bok P w G base k cl X E c) : Sto G X c where
  K := b.ok.gd.K
  calm := b.ok.gd.calm
  nd := b.ok.gd.nd
  N := b.ok.N
  loc := fun x hx => by
    rw [b.ok.sc]
    exact ⟨hx, .inl (b.fn x)⟩
theorem sto_slot {X : Cx} {c : Cc} (o : Sto G X c) {x : Str} {i : Nat} (h : stoSlot c x = some i) : X.N[i]? = some x ∧ Loc X.env.scope x ∧ (X.fn x = true ∨ X.env.scope.names.lookup x = some .local) := loc_slot o h
theorem sw_no {e : Expr} {t : Option Expr} {l : Nat} {env : Env} (h : isComp e = false) : swapsWith e t l env = pure false := by
  cases e <;> first | rfl | exact nomatch h
def SndS (P : Program) (w : World) (G : Gb) (base : Heap) (k : Nat) (cl : Cls) (c : Cc) (f : Stmt → Option CS) : Prop :=
  ∀ (X : Cx) (E : XK), Bok P w G base k cl X E c → ∀ s d, f s = some d → PS X s (tFS G E (semS cl d))
theorem snd_Ss {c : Cc} {f : Stmt → Option CS} (hf : SndS P w G base k cl c f) {X : Cx} {E : XK} (b : Bok P w G base k cl X E c) : ∀ {ss : List Stmt} {d : CS}, compSs f ss = some d → PSs X ss (tFS G E (semS cl d))
  | [], d, h => by
    cases h
    rw [semS]
    exact pf_snil
  | s :: r, d, h => by
    have h' : (match f s, compSs f r with | some a, some b => some (CS.seq a b) | _, _ => none) = some d := h
    cases q1 : f s with
    | none => rw [q1] at h'; cases h'
    | some x =>
      cases q2 : compSs f r with
      | none => rw [q1, q2] at h'; cases h'
      | some y =>
        rw [q1, q2] at h'
        cases h'
        rw [semS]
        exact pf_scons (hf X E b s x q1) (snd_Ss hf b q2)
theorem snd_V {X : Cx} {E : XK} {c : Cc} (b : Bok P w G base k cl X E c) {x : Str} {px pos : Pos} {i : Nat} {e : Expr} {d : CS} (hi : stoSlot c x = some i) (h : compV c x px i e = some d) : PS X (.Assign [.Name x px] e pos) (tFS G E (semS cl d)) := by
  obtain ⟨n1, n2, n3⟩ := sto_slot b.sto hi
  have plain : ∀ {e : Expr} {a : CE}, isComp e = false → compE fuelE c e = some a → PS X (.Assign [.Name x px] e pos) (tFS G E (semS cl (.asg (.v i) a))) := by
    intro e a hc q
    rw [semS]
    exact pf_set b.ok.gd.nd n1 n2 (snd_all fuelE X E c b.ok e a q).1 (sw_no hc) n3
  have other : (if isComp e then none else (compE fuelE c e).map fun a => CS.asg (.v i) a) = some d → PS X (.Assign [.Name x px] e pos) (tFS G E (semS cl d)) := by
    intro h
    obtain ⟨hc, h1⟩ := ifneg h
    obtain ⟨a, q, rfl⟩ := omap h1
    exact plain hc q
  cases e with
  | List es p =>
    have h' : (if decide (x ∈ c.mu) then (compL (compE fuelE c) es).map fun a => CS.asg (.v i) (.mls a) else (compE fuelE c (.List es p)).map fun a => CS.asg (.v i) a) = some d := h
    by_cases hm : decide (x ∈ c.mu) = true
    · rw [if_pos hm] at h'
      obtain ⟨a, q, rfl⟩ := omap h'
      rw [semS, semE]
      exact pf_set b.ok.gd.nd n1 n2 (pf_mls (pa_of b.ok.gd.K (fun e d q => (snd_all fuelE X E c b.ok e d q).1) q)) (sw_no rfl) n3
    · rw [if_neg hm] at h'
      obtain ⟨a, q, rfl⟩ := omap h'
      exact plain rfl q
  | ListComp el gens scope vp =>
    obtain ⟨hs, h1⟩ := ifpos (show (if swapsB c scope x px vp && decide (gens.length = 1) then (compE fuelE c (.ListComp el gens scope vp)).bind fun a => if decide (x ∈ c.mu) then (toM a).map fun b => CS.asg (.v i) b else some (CS.asg (.v i) a) else none) = some d from h)
    obtain ⟨hs1, hlen⟩ := Bool.and_eq_true_iff.mp hs
    unfold swapsB at hs1
    obtain ⟨hs2, hs3⟩ := Bool.and_eq_true_iff.mp hs1
    obtain ⟨hs4, hs5⟩ := Bool.and_eq_true_iff.mp hs2
    obtain ⟨a, q, h2⟩ := Option.bind_eq_some_iff.mp h1
    obtain ⟨tge, it, ifs, gi, tg, gt, ge, own, rfl, eg, pi, ok, sl, pg, pt, pe, fo, em⟩ := (comp_parts (snd_all 39) b.ok (show stepE (compE 39) c (.ListComp el gens scope vp) = some a from q) (of_decide_eq_true hlen)).ex
    have hloc : X.env.scope.names.lookup x = some .local := by rw [b.ok.sc]; exact of_decide_eq_true hs4
    have hkind : X.env.scope.kind = .function := by rw [b.ok.sc]; exact b.kind
    have hnot := (show (scope.names.any fun (n, k) => n == x && (k == .local || k == .cell)) = false by simpa using hs3)
    by_cases hm : decide (x ∈ c.mu) = true
    · rw [if_pos hm] at h2
      obtain ⟨d2, q2, rfl⟩ := omap h2
      rw [semS, em d2 q2]
      exact pf_setMc b.ok.gd.K b.ok.gd.calm b.ok.gd.nd n1 hloc (sw_true hkind hloc hs5 hnot) pi ok (gok_of G.K tg) sl pg pt pe fo
    · rw [if_neg hm] at h2
      cases h2
      rw [semS, eg]
      exact pf_setLc b.ok.gd.K b.ok.gd.calm b.ok.gd.nd n1 hloc (sw_true hkind hloc hs5 hnot) pi ok (gok_of G.K tg) sl pg pt pe fo
  | BinOp l op r p =>
    by_cases ho : op = .Add
    · subst ho
      have h' : (if decide (x ∈ c.mu) then o2 (fun y z => CS.asg (.v i) (.mcat y z)) (compE fuelE c l) (compE fuelE c r) else (compE fuelE c (.BinOp l .Add r p)).map fun a => CS.asg (.v i) a) = some d := h
      by_cases hm : decide (x ∈ c.mu) = true
      · rw [if_pos hm] at h'
        obtain ⟨y, z, q1, q2, rfl⟩ := m2 (g := fun y z => CS.asg (.v i) (.mcat y z)) h'
        rw [semS, semE]
        exact pf_set b.ok.gd.nd n1 n2 (pf_mcat b.ok.gd.K (snd_all fuelE X E c b.ok l y q1).1 (snd_all fuelE X E c b.ok r z q2).1) (sw_no rfl) n3
      · rw [if_neg hm] at h'
        obtain ⟨a, q, rfl⟩ := omap h'
        exact plain rfl q
    · have h2 : (compE fuelE c (.BinOp l op r p)).map (fun a => CS.asg (.v i) a) = some d := by
        cases op <;> first | exact absurd rfl ho | exact h
      obtain ⟨a, q, rfl⟩ := omap h2
      exact plain rfl q
  | _ => exact other h
theorem star_fn (e : Expr) : (match e with | .Starred .. => true | _ => false) = isStar e := by cases e <;> rfl
theorem sw_par {x y : Str} {px py pt pt2 : Pos} {kt k2} {a b : Expr} {env : Env} (hk : env.scope.kind = .function) (hx : env.scope.names.lookup x = some .local) (hy : env.scope.names.lookup y = some .local) (hl : (py.line == px.line) = true) (hne : (x == y) = false)
    (sa : isStar a = false) (sb : isStar b = false) (nf : [a, b].all (foldedForSure 8) = false) (nc : [a, b].all (constantsAlone 8) = false) :
    swappedStores [.Tuple [.Name x px, .Name y py] kt pt] (.Tuple [a, b] k2 pt2) env = pure (some [x, y]) := by
  have hx' : env.kindOf x = some .local := hx
  have hy' : env.kindOf y = some .local := hy
  have hbk : env.blockKind = .function := by
    unfold Env.blockKind
    rw [hk]
    rfl
  have st : ([a, b].any fun e => match e with | .Starred .. => true | _ => false) = false := by
    rw [List.any_cons, List.any_cons, List.any_nil, star_fn, star_fn, sa, sb]
    rfl
  have nm : ([Expr.Name x px, Expr.Name y py].filterMap fun e => match e with
    | .Name id pos => if env.kindOf id == some .local && pos.line == px.line then some id else none
    | _ => none) = [x, y] := by
    rw [List.filterMap_cons, List.filterMap_cons, List.filterMap_nil]
    simp only [hx', hy', hl, beq_self_eq_true, Bool.and_self, if_true]
  have ed : [x, y].eraseDups.length = 2 := by
    have e1 : (y == x) = false := by
      rw [beq_eq_false_iff_ne] at hne ⊢
      exact Ne.symm hne
    simp [List.eraseDups_cons, e1]
  have hbk' : (env.blockKind != .function) = false := by rw [hbk]; rfl
  unfold swappedStores
  simp only [List.length_cons, List.length_nil, hbk', nf, nc, List.head?_cons, Option.map_some, Option.getD_some, Expr.pos, List.filterMap_cons, List.filterMap_nil, hx', hy', hl, beq_self_eq_true, Bool.and_self, if_true, ed, List.any_cons, List.any_nil]
  rw [if_neg (by decide)]
  refine (if_neg fun z => ?_).trans rfl
  rcases (Bool.or_eq_true_iff.mp z) with z | z
  · cases a <;> first | exact Bool.noConfusion z | exact nomatch sa
  · rcases (Bool.or_eq_true_iff.mp z) with z | z
    · cases b <;> first | exact Bool.noConfusion z | exact nomatch sb
    · cases z
theorem snd_par {X : Cx} {E : XK} {c : Cc} (b : Bok P w G base k cl X E c) {es : List Expr} {e : Expr} {kk tp p} {d : CS} (h : compPar c es e = some d) : PS X (.Assign [.Tuple es kk tp] e p) (tFS G E (semS cl d)) := by
  unfold compPar at h
  split at h
  · rename_i x px y py a b' k2 pt2
    obtain ⟨hq, h1⟩ := ifpos h
    obtain ⟨hq, h8⟩ := Bool.and_eq_true_iff.mp hq
    obtain ⟨hq, h7⟩ := Bool.and_eq_true_iff.mp hq
    obtain ⟨hq, h6⟩ := Bool.and_eq_true_iff.mp hq
    obtain ⟨hq, h5⟩ := Bool.and_eq_true_iff.mp hq
    obtain ⟨hq, h4⟩ := Bool.and_eq_true_iff.mp hq
    obtain ⟨hq, h3⟩ := Bool.and_eq_true_iff.mp hq
    obtain ⟨hq1, hq2⟩ := Bool.and_eq_true_iff.mp hq
    obtain ⟨i, j, es, q1, q2, q3, rfl⟩ := m3 h1
    have lx : X.env.scope.names.lookup x = some .local := by rw [b.ok.sc]; exact of_decide_eq_true hq1
    have ly : X.env.scope.names.lookup y = some .local := by rw [b.ok.sc]; exact of_decide_eq_true hq2
    have ix : X.N[i]? = some x := by rw [b.ok.N]; exact idx_get q1
    have iy : X.N[j]? = some y := by rw [b.ok.N]; exact idx_get q2
    have hne : (x == y) = false := by simpa using h4
    rw [semS]
    refine pf_par b.ok.gd ix iy (fun z => ?_) lx ly (pa_of b.ok.gd.K (fun e d q => (snd_all fuelE X E c b.ok e d q).1) q3) (sw_par (by rw [b.ok.sc]; exact b.kind) lx ly h3 hne (by simpa using h5) (by simpa using h6) (Bool.not_eq_true' _ |>.mp h7) (Bool.not_eq_true' _ |>.mp h8)) rfl
    rw [z, iy] at ix
    rw [← Option.some.inj ix, beq_self_eq_true] at hne
    cases hne
  · cases h
theorem snd_raise {X : Cx} {E : XK} {c : Cc} (b : Bok P w G base k cl X E c) {ex : Expr} {p} {d : CS} (h : compR c ex = some d) : PS X (.Raise (some ex) none p) (tFS G E (semS cl d)) := by
  unfold compR at h
  split at h
  · rename_i x px a b' q
    obtain ⟨hq, h1⟩ := ifpos h
    obtain ⟨hq, h4⟩ := Bool.and_eq_true_iff.mp hq
    obtain ⟨hq, h3⟩ := Bool.and_eq_true_iff.mp hq
    obtain ⟨hq1, hq2⟩ := Bool.and_eq_true_iff.mp hq
    cases qe : c.tb.excs.lookup x with
    | none => rw [qe] at h1; cases h1
    | some ff =>
      rw [qe] at h1
      obtain ⟨es, q3, rfl⟩ := omap h1
      obtain ⟨C, m1, m2, hk⟩ := b.ok.ft.exc x ff qe
      obtain ⟨d1, _, _⟩ := pn_d hq2
      have sa : isStar a = false := by simpa using h3
      have sb : isStar b' = false := by simpa using h4
      rw [semS]
      have gd : Gd X G E ((k - 1) + 1) := by
        rw [show k - 1 + 1 = k by omega]
        exact b.ok.gd
      refine pf_raise (C := C) gd (by rw [b.ok.P, b.ok.gd.K, b.ok.gd.mg]; exact m2) (gl_of b.ok hq1) (by rw [b.ok.gd.mg]; exact m1) (pa_of b.ok.gd.K (fun e d q => (snd_all fuelE X E c b.ok e d q).1) q3) d1 (star_no sa) (star_any (by rw [List.any_cons, sb]; rfl))
  · cases h
theorem snd_stepS {c : Cc} {f : Stmt → Option CS} (hf : SndS P w G base k cl c f) : SndS P w G base k cl c (stepS f c) := by
  intro X E b s d h
  have hu := b.ok.gd.units
  have hE : ∀ e d, compE fuelE c e = some d → Both G E X e (semE cl d) := fun e d q => snd_all fuelE X E c b.ok e d q
  cases s with
  | Pass p => cases h; rw [semS]; exact pf_pass
  | Return v p =>
    cases v with
    | none => cases h; rw [semS]; exact pf_retN
    | some e =>
      obtain ⟨a, q, rfl⟩ := omap (show (compE fuelE c e).map CS.ret = some d from h)
      rw [semS]
      exact pf_ret (hE e a q).1
  | Expr e p =>
    obtain ⟨hc, h1⟩ := ifneg (show (if isComp e then none else (compE fuelE c e).map CS.expr) = some d from h)
    obtain ⟨a, q, rfl⟩ := omap h1
    rw [semS]
    exact pf_expr (hE e a q).1 (sw_no hc)
  | If t a e p =>
    obtain ⟨x, y, z, q1, q2, q3, rfl⟩ := m3 (show o3 CS.ite (compE fuelE c t) (compSs f a) (compSs f e) = some d from h)
    rw [semS]
    exact pf_ite (hE t x q1).2 (snd_Ss hf b q2) (snd_Ss hf b q3)
  | For tg it body els p =>
    cases els with
    | nil =>
      obtain ⟨hs, h1⟩ := ifneg (show (if isSetE it then none else o3 CS.for_ (compI c (isTupE tg) (compE fuelE c) it) (tgOf c tg) (compSs f body)) = some d from h)
      obtain ⟨x, y, z, q1, q2, q3, rfl⟩ := m3 h1
      rw [semS]
      exact pf_for b.ok.gd.po b.ok.gd.calm (snd_I b.ok (fun e d q => (hE e d q).1) q1) (snd_T b.sto q2) (gok_of G.K y) (snd_Ss hf b q3) (fold_of hs)
    | cons _ _ => cases h
  | Assign ts e p =>
    match ts, h with
    | [], h => cases h
    | _ :: _ :: _, h => cases h
    | [t], h =>
      have h0 : compA c e t = some d := h
      cases t with
      | Name x px =>
        have h' : ((stoSlot c x).bind fun i => compV c x px i e) = some d := h0
        cases q : stoSlot c x with
        | none => rw [q] at h'; cases h'
        | some i =>
          rw [q] at h'
          exact snd_V b q h'
      | Tuple es kk tp =>
        have h0' : (if isTupE e then compPar c es e else if isComp e then none else o2 CS.asg (tgOf c (.Tuple es kk tp)) (compE fuelE c e)) = some d := h0
        by_cases hs1 : isTupE e = true
        · rw [if_pos hs1] at h0'
          exact snd_par b h0'
        rw [if_neg hs1] at h0'
        have hs1 : isTupE e = false := Bool.not_eq_true _ |>.mp hs1
        obtain ⟨hs2, h1⟩ := ifneg h0'
        obtain ⟨t, x, q1, q2, rfl⟩ := m2 h1
        rw [semS]
        refine pf_asg (hE e x q2).1 (snd_T b.sto q1) (gok_of G.K t) (by rw [swapsWithSole]; exact sw_no hs2) ?_ rfl
        cases e <;> first | rfl | exact nomatch hs1
      | Subscript ov i sp =>
        obtain ⟨hs, h1⟩ := ifneg (show (if isComp e then none else o3 (fun x y z => CS.put x y z) (compE fuelE c ov) (compE fuelE c i) (compE fuelE c e)) = some d from h0)
        obtain ⟨x, y, z, q1, q2, q3, rfl⟩ := m3 h1
        rw [semS]
        exact pf_put (by omega) (hE ov x q1).1 (hE i y q2).1 (hE e z q3).1 (sw_no hs)
      | _ => cases h0
  | Raise ex cause p =>
    cases ex with
    | none => cases h
    | some ex =>
      cases cause with
      | some _ => cases h
      | none => exact snd_raise b (show compR c ex = some d from h)
  | _ => cases h
theorem snd_allS {c : Cc} : ∀ n, SndS P w G base k cl c (compS n c)
  | 0 => fun X E b s d h => nomatch h
  | n + 1 => snd_stepS (snd_allS n)
end
end RB
/-! RE1: the law's call, over promises that hold where no repr runs around. -/
namespace RB
open PySem PySem.Spec PyProof.Rows L2 LamX
abbrev tabO : Obj := { cls := .none, data := .fields #[] }
abbrev scrO (vs : List Value) : Obj := { cls := .type "list", data := .seq vs.toArray }
theorem call_law {P : Program} {w : World} {K : PySem.W.Frag} {mg mb : Str → Option Value} {k : Nat} {fa a : Addr} {ct : List (Addr × Addr)} {fd : FuncData} {x : Str} {sp : Sp} {s : Shared} {vs : List Value} {ns : List Int}
    (inK : K.In s.heap) (nG : s.heap.Ns mainGlobals mg) (nB : s.heap.Ns builtinsNs mb) (eB : ∀ y : Str, y ≠ "__name__" → mb y = bootBuiltins y) (nL : s.heap.NoLimit) (g0 : s.gens = #[])
    (tE : ∀ p ∈ ct, s.heap.get? p.2 = some tabO) (tK : ∀ p ∈ ct, K.lookup p.2 = none) (tC : ∀ p ∈ ct, PySem.W.CodeHd s.heap p.1 p.2)
    (bm : ∃ (m : Addr) (ob : Obj), mg "__builtins__" = some (.ref m) ∧ m ≠ builtinsNs ∧ s.heap.get? m = some ob ∧ ob.cls = .type "module" ∧ ob.dict = some builtinsNs ∧ ob.data = .plain)
    (aO : s.heap.get? a = some (scrO vs)) (aK : K.lookup a = none) (isI : IntsAre vs ns) (few : ns.length ≤ sizeLine) (room : Room k callerA)
    (F : ∀ b : Heap, K.In b → b.Ns mainGlobals mg → (∀ p ∈ ct, TabB b mg p.1 p.2) → FnG P w K mg b k fa fd [x] sp) (bnd : ∀ (s : Shared) (u : Value), BindsTo s fd ⟨[u], []⟩ [(x, u)])
    (want : ∀ H : Hp, (∀ p ∈ ct, H p.2 = some (.tbl #[])) → (∃ o, H a = some (.frz o (.lst (ns.map V.int)))) → sp [.ref a] H (fun v _ => v = .bl true) F0) :
    codeAny (model P w) callerA (.call (.ref fa) ⟨[.ref a], []⟩) (fun r s' => r = .ok (.ret (.bool true)) ∧ OldK s.heap s'.heap ∧ s'.os = s.os ∧ AllBare s'.gens) s := by
  -- what is tracked: the script, the tables
  have aT : ∀ p ∈ ct, p.2 ≠ a := fun p hp z => by
    have q := tE p hp
    rw [z, aO] at q
    have q' : Data.seq vs.toArray _ = Data.fields #[] := congrArg Obj.data (Option.some.inj q)
    cases q'
  obtain ⟨H, eH⟩ : ∃ H : Hp, H = fun b => if b = a then some (.frz (scrO vs) (.lst (ns.map V.int))) else if b ∈ ct.map (·.2) then some (.tbl #[]) else none := ⟨_, rfl⟩
  have Ha : H a = some (.frz (scrO vs) (.lst (ns.map V.int))) := by rw [eH]; exact if_pos rfl
  have Ht : ∀ p ∈ ct, H p.2 = some (.tbl #[]) := fun p hp => by
    rw [eH]
    exact (if_neg (aT p hp)).trans (if_pos (List.mem_map.mpr ⟨p, hp, rfl⟩))
  have Hc : ∀ b u, H b = some u → (b = a ∧ u = .frz (scrO vs) (.lst (ns.map V.int))) ∨ (∃ p ∈ ct, p.2 = b ∧ u = .tbl #[]) := fun b u e => by
    rw [eH] at e
    by_cases h1 : b = a
    · exact .inl ⟨h1, (Option.some.inj ((if_pos h1).symm.trans e)).symm⟩
    · have e1 := (if_neg h1).symm.trans e
      by_cases h2 : b ∈ ct.map (·.2)
      · obtain ⟨p, hp, ep⟩ := List.mem_map.mp h2
        exact .inr ⟨p, hp, ep, (Option.some.inj ((if_pos h2).symm.trans e1)).symm⟩
      · have e2 := (if_neg h2).symm.trans e1
        cases e2
  have hok : HOk P w H s.heap := fun b u e => by
    rcases Hc b u e with ⟨rfl, rfl⟩ | ⟨p, hp, rfl, rfl⟩
    · exact ⟨aO, by rw [List.length_map]; exact few, vs, _, vals_ints isI, aO⟩
    · exact tE p hp
  -- what is not tracked stays in the ground
  have free : ∀ b o, s.heap.get? b = some o → o.data ≠ .fields #[] → (∀ vs n, o.data ≠ .seq vs n) → H b = none := fun b o e h1 h2 => by
    cases q : H b with
    | none => rfl
    | some u =>
      rcases Hc b u q with ⟨rfl, _⟩ | ⟨p, hp, rfl, _⟩
      · rw [aO] at e
        cases e
        exact absurd rfl (h2 _ _)
      · rw [tE p hp] at e
        cases e
        exact absurd rfl h1
  have ground : ∀ {b o}, s.heap.get? b = some o → H b = none → (hidT s.heap H).get? b = some o := fun e n => hidT_get e n
  have nsG : ∀ {b m}, s.heap.Ns b m → (hidT s.heap H).Ns b m := fun {b m} ⟨o, es, ep, e, d, r⟩ => by
    refine ⟨o, es, ep, ground e (free b o e (fun z => ?_) fun vs n z => ?_), d, r⟩
    · rw [d] at z; cases z
    · rw [d] at z; cases z
  have inG : K.In (hidT s.heap H) := fun b o e => ground (inK b o e) (by
    cases q : H b with
    | none => rfl
    | some u =>
      rcases Hc b u q with ⟨rfl, _⟩ | ⟨p, hp, rfl, _⟩
      · rw [aK] at e; cases e
      · rw [tK p hp] at e; cases e)
  have tabs : ∀ p ∈ ct, TabB (hidT s.heap H) mg p.1 p.2 := fun p hp => by
    refine ⟨?_, ?_, fun z => ?_⟩
    · obtain ⟨o, us, fl, tf, fg, tg, inF, tx, tt, e1, r1, r2, r3, r4, r5, r6, r7, r8, r9⟩ := tC p hp
      refine ⟨o, us, fl, tf, fg, tg, inF, tx, tt, ground e1 (free _ o e1 (fun z => ?_) fun vs n z => ?_), r1, r2, r3, r4, r5, r6, r7, r8, r9⟩
      · rw [r2] at z
        cases z
        simp at r3
      · rw [r2] at z; cases z
    · obtain ⟨m, ob, b1, b2, b3, b4, b5, b6⟩ := bm
      refine ⟨m, ob, b1, b2, fun q => ?_, fun q => ?_, ground b3 (free m ob b3 (fun z => ?_) fun vs n z => ?_), b4, b5, b6⟩
      · obtain ⟨o, es, ep, e, hd, _⟩ := nG
        rw [q, e] at b3
        cases b3
        rw [hd] at b6
        cases b6
      · rw [q, tE p hp] at b3
        cases b3
        cases b6
      · rw [b6] at z; cases z
      · rw [b6] at z; cases z
    · obtain ⟨o, es, ep, e, hd, _⟩ := nG
      rw [z, tE p hp] at e
      cases e
      cases hd
  have e0 : Env0 P w K mg (hidT s.heap H) callerA [] s H := ⟨rfl, ⟨inG, nsG nG, ⟨mb, nsG nB, eB⟩, let ⟨mc, z1, z2⟩ := nL; ⟨mc, nsG z1, z2⟩⟩, fun b o e => of_hidT e, Nat.le_of_eq (hidT_size _ _), trivial, (fun b hb => by cases (show b ∈ ([] : List Addr) from hb)), hok, .of_eq g0⟩
  refine codeAny_mono ((F _ inG (nsG nG) tabs).run callerA [] s H ⟨[.ref a], []⟩ [.ref a] [.ref a] _ _ room rfl e0 (bnd s (.ref a)) (.cons rfl .nil) (want H Ht ⟨_, Ha⟩)) fun r s' hr => ?_
  match r, hr with
  | .error e, hr =>
    obtain ⟨_, _, _, _, _, _, _, _, _, _, _, _, z⟩ := hr
    exact z.elim
  | .ok .next, hr => exact False.elim hr
  | .ok .brk, hr => exact False.elim hr
  | .ok .cont, hr => exact False.elim hr
  | .ok (.ret u), hr =>
    obtain ⟨v, H2, os, bare, un, hok2, rv, q⟩ := hr
    cases (show v = .bl true from q)
    cases (show u = Value.bool true from rv)
    have grown : ∀ p ∈ ct, ∃ more : Array Value, s'.heap.get? p.2 = some { cls := .none, data := .fields more } := fun p hp => by
      obtain ⟨more, z⟩ := un.tbls p.2 #[] (Ht p hp)
      exact ⟨_, hok2 p.2 _ z⟩
    have stay : ∀ b o, (∀ p ∈ ct, p.2 ≠ b) → s.heap.get? b = some o → s'.heap.get? b = some o := fun b o nt e => by
      cases q : H b with
      | none => exact un.keep b o e q (fun z => by cases (show b ∈ ([] : List Addr) from z)) (fun z => by cases z)
      | some u =>
        rcases Hc b u q with ⟨rfl, rfl⟩ | ⟨p, hp, ep, _⟩
        · have z2 := un.frzs _ _ _ q
          obtain ⟨e2, _⟩ := hok2 _ _ z2
          rw [aO] at e
          cases e
          exact e2
        · exact absurd ep (nt p hp)
    refine ⟨rfl, ⟨fun b o e => ?_, fun b o e => ?_⟩, os, bare⟩
    · by_cases hb : ∃ p ∈ ct, p.2 = b
      · obtain ⟨p, hp, rfl⟩ := hb
        obtain ⟨more, hm⟩ := grown p hp
        rw [tE p hp] at e
        cases e
        exact .inr (.inl ⟨((tC p hp).tab (tE p hp)).isCodeTable, rfl, #[], more, rfl, by rw [Array.empty_append]; exact hm⟩)
      · exact .inl (stay b o (fun p hp z => hb ⟨p, hp, z⟩) e)
    · by_cases hb : ∃ p ∈ ct, p.2 = b
      · obtain ⟨p, hp, rfl⟩ := hb
        obtain ⟨more, hm⟩ := grown p hp
        exact ⟨_, hm⟩
      · exact ⟨o, stay b o (fun p hp z => hb ⟨p, hp, z⟩) e⟩
/-- what is to be known of the law at the head's heap -/
def LawG (l : PySem.W.OpenLaw) (w : World) (K : PySem.W.Frag) (k n : Nat) (x : Str) (mg : Str → Option Value) (fa : Addr) (h : Heap) : Prop :=
  ∃ (fd : FuncData) (ct : List (Addr × Addr)) (sp : Sp), (∀ p ∈ ct, h.get? p.2 = some tabO) ∧ (∀ p ∈ ct, K.lookup p.2 = none) ∧ (∀ p ∈ ct, PySem.W.CodeHd h p.1 p.2) ∧ (∀ b o, K.lookup b = some o → o.cls ≠ .type "list") ∧ (∀ (s : Shared) (u : Value), BindsTo s fd ⟨[u], []⟩ [(x, u)]) ∧
    (∀ (H : Hp) (a : Addr) (ns : List Int), ns.length ≤ n → (∀ p ∈ ct, H p.2 = some (.tbl #[])) → (∃ o, H a = some (.frz o (.lst (ns.map V.int)))) → sp [.ref a] H (fun v _ => v = .bl true) F0) ∧
    ∀ b : Heap, K.In b → b.Ns mainGlobals mg → (∀ p ∈ ct, TabB b mg p.1 p.2) → FnG l.prog w K mg b k fa fd [x] sp
theorem walk_G {l : PySem.W.OpenLaw} {n k : Nat} {q : Program} {loose : List Str} {XP : (Str → Option Value) → Heap → Prop} {YP : World → Heap → Prop} {d : DefRec} {x : Str}
    (hn : l.most = some n) (hz : n ≤ sizeLine) (hdf : d.params.defaults = []) (room : Room k callerA)
    (F : ∀ (w : World) (mg : Str → Option Value) (fa : Addr) (h : Heap), YP w h → h.Ns mainGlobals mg → mg d.name = some (.ref fa) → ∃ K : PySem.W.Frag, K.In h ∧ LawG l w K k n x mg fa h) :
    PySem.W.WalkO q loose XP YP l.row.toRowW d [] (fun f vs => PySem.call f vs) := by
  refine Att.attach_callB hn hdf fun w s0 s1 mg mb fa o pm cd doc a vs ns G Y ho hd hcd hmg hobj hints hlen hbits hg => ?_
  obtain ⟨K, inK, fd, ct, sp, tE, tK, tC, noL, bnd, want, hF⟩ := F w mg fa _ Y G.T.g hmg
  have aK : K.lookup a = none := by
    cases e : K.lookup a with
    | none => rfl
    | some u =>
      have q := inK a u e
      rw [hobj] at q
      cases q
      exact absurd rfl (noL a _ e)
  exact call_law inK G.T.g G.T.b G.T.builtins G.T.nolimit hg tE tK tC G.T.bmain hobj aK hints (Nat.le_trans hlen hz) room hF bnd fun H h1 h2 => want H a ns hlen h1 h2
end RB
/-! RE2: what is read off the heap behind the top. -/
namespace RB
open PySem PySem.Spec PyProof.Rows L2 He
/-! ### the written part: what the module's names reach; no list, no empty table -/
def lstO (o : Obj) : Bool := match o.cls with
  | .type c => decide (c = "list")
  | _ => false
def frR (g : Addr → Option Obj) (as : List Addr) : PySem.W.Frag := (frG g as).filter fun q => !emptyTab q.2 && !lstO q.2
theorem frR_mem {g : Addr → Option Obj} {as : List Addr} {a : Addr} {o : Obj} (h : (frR g as).lookup a = some o) : g a = some o ∧ emptyTab o = false ∧ lstO o = false := by
  obtain ⟨h1, h2⟩ := List.mem_filter.mp (lookup_mem h)
  obtain ⟨h3, h4⟩ := Bool.and_eq_true_iff.mp h2
  exact ⟨frG_mem h1, by simpa using h3, by simpa using h4⟩
theorem frR_in {as : List Addr} {h : Heap} : (frR h.get? as).In h := fun _ _ e => (frR_mem e).1
theorem frR_nol {g : Addr → Option Obj} {as : List Addr} {a : Addr} {o : Obj} (h : (frR g as).lookup a = some o) : o.cls ≠ .type "list" := fun z => by
  have q := (frR_mem h).2.2
  unfold lstO at q
  rw [z] at q
  cases q
theorem frR_none {g : Addr → Option Obj} {as : List Addr} {a : Addr} {o : Obj} (h : g a = some o) (ht : emptyTab o = true) : (frR g as).lookup a = none := by
  cases e : (frR g as).lookup a with
  | none => rfl
  | some u =>
    obtain ⟨h1, h2, _⟩ := frR_mem e
    rw [h] at h1
    cases h1
    rw [ht] at h2
    cases h2
def asR (g : Addr → Option Obj) : Nat → List Addr
  | 0 => [mainGlobals, cStatics]
  | n + 1 => growD g (asR g n)
/-! ### a class's written __init__ -/
abbrev IniW : Type := Option (Str × Str × Arguments × FuncBody × Scope × Addr × List Str × Addr)
def iniW (K : PySem.W.Frag) (x : Str) : IniW := match K.lookup (ma K (ga K x) "__init__") with
  | some ⟨_, _, .func fd, _⟩ => some (fd.name, fd.qualname, fd.params, fd.body, fd.scope, fd.globals, fd.closure.map (·.1), fd.builtins)
  | _ => none
/-- one class of an own error -/
structure ExD where
  nm : Str
  x1 : Str
  x2 : Str
  qual : Str
  params : Arguments
  body : List Stmt
  scope : Scope
def ExD.val (d : ExD) : IniW := some ("__init__", d.qual, d.params, .stmts d.body, d.scope, mainGlobals, ["__class__"], builtinsNs)
def clsVE (K : PySem.W.Frag) (C : Addr) : Bool := match K.lookup C with
  | some ⟨.type t, _, .cls cd, sl⟩ => decide (t = "type") && (match cd.mro, sl.toList with
    | .ref C' :: bm, [_, _, _, _, some (.builtin n), _] => decide (C' = C) && (decide (n = "ValueError.__new__") && (!cd.hasDel && (cd.hasDict && PySem.HandSPX.refsVE bm)))
    | _, _ => false)
  | _ => false
theorem clsVE_ok {K : PySem.W.Frag} {C : Addr} (h : clsVE K C = true) : ∃ nm q N bs bm sn sub ab col dd k0 k1 k2 k3 k5, K.lookup C = some (excClassObj nm q C N bs bm true sn sub ab col dd k0 k1 k2 k3 k5 "ValueError.__new__") ∧ PySem.HandSPX.refsVE bm = true := by
  unfold clsVE at h
  split at h
  · rename_i t dd cd sl ho
    obtain ⟨ht, h⟩ := Bool.and_eq_true_iff.mp h
    split at h
    · rename_i C' bm k0 k1 k2 k3 n k5 hm hs
      obtain ⟨h1, h⟩ := Bool.and_eq_true_iff.mp h
      obtain ⟨h2, h⟩ := Bool.and_eq_true_iff.mp h
      obtain ⟨h3, h⟩ := Bool.and_eq_true_iff.mp h
      obtain ⟨h4, h5⟩ := Bool.and_eq_true_iff.mp h
      obtain ⟨nm, bs, mro, ns, qn, hd, sn, sub, ab, col, del⟩ := cd
      have e1 := of_decide_eq_true h1
      have e2 := of_decide_eq_true h2
      have e3 := of_decide_eq_true ht
      dsimp only at hm h3 h4
      have h3' : del = false := by simpa using h3
      subst hm e1 e2 e3 h3' h4
      have hsl : sl = #[k0, k1, k2, k3, some (.builtin "ValueError.__new__"), k5] := by
        obtain ⟨l⟩ := sl
        simp only at hs
        rw [hs]
      subst hsl
      exact ⟨nm, qn, ns, bs, bm, sn, sub, ab, col, dd, k0, k1, k2, k3, k5, ho, h5⟩
    · cases h
  · cases h
/-- the cell of __class__, the file of the code -/
def iniB (P : Program) (K : PySem.W.Frag) (C : Addr) (qual : Str) : Bool := match K.lookup (ma K C "__init__") with
  | some ⟨_, _, .func fd, _⟩ => PySem.W.codeIn K fd.code qual && decide (fd.defaults = .none) && ((match fd.code with
      | .ref cda => (match K.lookup cda with
        | some ⟨_, _, .fields vs, _⟩ => (match (vs[2]? : Option Value) with
          | some (.str file _) => ((P.main.file : Str) == file)
          | _ => false)
        | _ => false)
      | _ => false) && (match fd.closure with
      | [(_, cc)] => (match K.lookup cc with
        | some ⟨_, _, .cell (some (.ref C')), _⟩ => decide (C' = C)
        | _ => false)
      | _ => false))
  | _ => false
def ex2B (P : Program) (K : PySem.W.Frag) (d : ExD) : Bool :=
  (clsVE K (ga K d.nm) && eqO (PySem.W.findIn K (.ref (ga K d.nm)) "__setattr__") (some (some (.builtin "object.__setattr__"))) && decide (PySem.W.subIn K (.ref (ga K d.nm)) (.type "BaseException") = some true) && decide (PySem.W.typeIn K (.ref (ga K d.nm)) = some (.type "type")) && PySem.W.keepIn K (.ref (ga K d.nm))) &&
  ((eqO (PySem.W.ks_superIn K (ga K d.nm) (ga K d.nm) "__init__") (some (some (.builtin "ValueError.__init__"))) && decide (PySem.W.subIn K (.ref (ga K d.nm)) (.type "ValueError") = some true) && decide (PySem.W.mroIn K (ga K d.nm) (.ref (ga K d.nm)) = some true) && eqO (PySem.W.findIn K (.ref (ga K d.nm)) d.x1) (some none) && eqO (PySem.W.findIn K (.ref (ga K d.nm)) d.x2) (some none)) &&
  (eqO (PySem.W.nsIn K cStatics "thirdparty.any") (some none) && eqO (PySem.W.findIn K (.ref (ga K d.nm)) "__init__") (some (some (.ref (ma K (ga K d.nm) "__init__")))) && decide (PySem.W.typeIn K (.ref (ma K (ga K d.nm) "__init__")) = some (.type "function")) && iniB P K (ga K d.nm) d.qual))
theorem ex2B_ok {P : Program} {K : PySem.W.Frag} {mg : Str → Option Value} {d : ExD} (h : ex2B P K d = true) (hw : iniW K d.nm = d.val) (ms : mg "super" = none) (tp : (P.main.scope.names.lookup ("super" : Str)).isSome = false) (ini : Ini d.x1 d.x2 "__init__" d.qual d.params d.body d.scope) : Ex2 P K mg (ga K d.nm) d.x1 d.x2 := by
  unfold ex2B at h
  simp only [Bool.and_eq_true] at h
  obtain ⟨⟨⟨⟨⟨a1, a2⟩, a3⟩, a4⟩, a5⟩, ⟨⟨⟨⟨b1, b2⟩, b3⟩, b4⟩, b5⟩, ⟨⟨c1, c2⟩, c3⟩, c4⟩ := h
  refine ⟨⟨clsVE_ok a1, eqO_ok a2, of_decide_eq_true a3, of_decide_eq_true a4, a5⟩, eqO_ok b1, of_decide_eq_true b2, of_decide_eq_true b3, eqO_ok b4, eqO_ok b5, eqO_ok c1, ms, tp, ?_⟩
  unfold iniW at hw
  unfold iniB at c4
  cases q : K.lookup (ma K (ga K d.nm) "__init__") with
  | none => rw [q] at hw; cases hw
  | some o =>
    obtain ⟨oc, od, dt, osl⟩ := o
    rw [q] at hw c4
    cases dt with
    | func fd =>
      obtain ⟨n1, n2, n3, n4, n5, n6, n7, n8, n9, n10, n11, n12, n13, n14, n15⟩ := fd
      have hw' : (some (n1, n2, n3, n4, n5, n6, n7.map (·.1), n15) : IniW) = (some ("__init__", d.qual, d.params, .stmts d.body, d.scope, mainGlobals, ["__class__"], builtinsNs) : IniW) := hw
      simp only [Option.some.injEq, Prod.mk.injEq] at hw'
      obtain ⟨h1, h2, h3, h4, h5, h6, h7, h8⟩ := hw'
      subst h1 h2 h3 h4 h5 h6 h8
      dsimp only at c4
      obtain ⟨k01, k23⟩ := Bool.and_eq_true_iff.mp c4
      obtain ⟨k1, k0⟩ := Bool.and_eq_true_iff.mp k01
      have e0 : n8 = .none := of_decide_eq_true k0
      subst e0
      obtain ⟨k2, k3⟩ := Bool.and_eq_true_iff.mp k23
      clear k23 c4
      cases n13 with
      | ref cda =>
        dsimp only at k2
        cases q2 : K.lookup cda with
        | none => rw [q2] at k2; cases k2
        | some o2 =>
          obtain ⟨oc2, od2, dt2, osl2⟩ := o2
          rw [q2] at k2
          cases dt2 with
          | fields vs =>
            dsimp only at k2
            cases q3 : vs[2]? with
            | none => rw [q3] at k2; cases k2
            | some v3 =>
              rw [q3] at k2
              cases v3 with
              | str file tf =>
                match n7, h7, k3 with
                | [(nmc, cc)], h7, k3 =>
                  have e7 : nmc = "__class__" := by simpa using h7
                  subst e7
                  dsimp only at k3
                  cases q4 : K.lookup cc with
                  | none => rw [q4] at k3; cases k3
                  | some o4 =>
                    obtain ⟨oc4, od4, dt4, osl4⟩ := o4
                    rw [q4] at k3
                    cases dt4 with
                    | cell cv =>
                      cases cv with
                      | none => cases k3
                      | some cv =>
                        cases cv with
                        | ref C' =>
                          have e4 : C' = ga K d.nm := of_decide_eq_true k3
                          subst e4
                          exact ⟨ma K (ga K d.nm) "__init__", cda, cc, oc, od, osl, "__init__", d.qual, d.params, d.body, d.scope, n9, n10, n11, n12, n14, vs, file, tf, eqO_ok c2, of_decide_eq_true c3, q, k1, ⟨_, _, _, q2⟩, q3, k2, ⟨_, _, _, q4⟩, ini⟩
                        | _ => cases k3
                    | _ => cases k3
              | _ => cases k2
          | _ => cases k2
      | _ => cases k2
    | _ => cases hw
/-! ### what the def that tells refusals asks of a class -/
def refFB (K : PySem.W.Frag) (x : Str) : Bool :=
  (eqO (PySem.W.findIn K (.ref (ga K x)) "__getattribute__") (some (some (.builtin "BaseException.__getattribute__"))) && eqO (PySem.W.findIn K (.ref (ga K x)) "__getattr__") (some none) && decide (PySem.W.subIn K (.ref (ga K x)) (.type "BaseException") = some true) && PySem.W.hasDictIn K (ga K x)) &&
  ((eqO (PySem.W.findIn K (.ref (ga K x)) "__class__") (some (some (.builtin "object.__class__"))) && eqO (PySem.W.specialIn K (.builtin "object.__class__") "__get__") (some (some (.builtin "getset_descriptor.__get__"))) && decide (PySem.W.takesIn K (.builtin "object.__class__") = some true) && decide (PySem.W.mroIn K (ga K x) (.type "object") = some true)) &&
  ((fldNames.all fun n => eqO (PySem.W.findIn K (.ref (ga K x)) n) (some none)) && (famNames.all fun c => decide (PySem.W.kitOne K (.ref (ga K x)) (.ref (ga K c)) = some (bOf x c))) && decide (PySem.W.kitOne K (.ref (ga K x)) (.type "ValueError") = some true)))
theorem refFB_ok {K : PySem.W.Frag} {mg : Str → Option Value} {x : Str} (h : refFB K x = true) (hm : ∀ c ∈ famNames, mg c = some (.ref (ga K c))) (mv : mg "ValueError" = none) (mi : mg "isinstance" = none) : RefF K mg (ga K x) (bOf x) := by
  unfold refFB at h
  simp only [Bool.and_eq_true] at h
  obtain ⟨⟨⟨⟨a1, a2⟩, a3⟩, a4⟩, ⟨⟨⟨b1, b2⟩, b3⟩, b4⟩, ⟨c1, c2⟩, c3⟩ := h
  exact ⟨⟨eqO_ok a1, eqO_ok a2, of_decide_eq_true a3, a4, eqO_ok b1, eqO_ok b2, of_decide_eq_true b3, of_decide_eq_true b4⟩, ⟨eqO_ok a1, eqO_ok a2, of_decide_eq_true a3, a4⟩,
    fun n hn => eqO_ok (List.all_eq_true.mp c1 n hn), fun c hc => ⟨ga K c, hm c hc, of_decide_eq_true (List.all_eq_true.mp c2 c hc)⟩, mv, of_decide_eq_true c3, mi⟩
/-! ### constants -/
def tupIts (K : PySem.W.Frag) : Value → Option (List Value)
  | .ref a => (match K.lookup a with
    | some ⟨.type c, _, .seq its _, _⟩ => if decide (c = "tuple") && decide (its.size ≤ sizeLine) then some its.toList else none
    | _ => none)
  | _ => none
theorem tupIts_ok {K : PySem.W.Frag} {u : Value} {l : List Value} (h : tupIts K u = some l) : ∃ a, u = .ref a ∧ ∀ (vs : List V), Vals vs l → ∀ H, SqT K H a vs := by
  unfold tupIts at h
  split at h
  · rename_i a
    split at h
    · rename_i c dd its n sl ho
      by_cases hc : (decide (c = "tuple") && decide (its.size ≤ sizeLine)) = true
      · rw [if_pos hc] at h
        cases h
        obtain ⟨h1, h2⟩ := Bool.and_eq_true_iff.mp hc
        exact ⟨a, rfl, fun vs r H => .inr ⟨_, its, n, ho, congrArg Value.type (of_decide_eq_true h1), rfl, of_decide_eq_true h2, r⟩⟩
      · rw [if_neg hc] at h
        cases h
    · cases h
  · cases h
mutual
def rpB (K : PySem.W.Frag) : PyData → Value → Bool
  | .none, u => relB .non u
  | .bool b, u => relB (.bl b) u
  | .int i, u => relB (.int i) u
  | .str x, u => relB (.str x) u
  | .tuple ds, u => (tupIts K u).isSome && rpBs K ds ((tupIts K u).getD [])
  | .list _, _ => false
  | .dict _, _ => false
def rpBs (K : PySem.W.Frag) : List PyData → List Value → Bool
  | [], us => us.isEmpty
  | d :: ds, us => !us.isEmpty && (rpB K d (us.headD .none) && rpBs K ds us.tail)
end
mutual
theorem rpB_ok {K : PySem.W.Frag} : ∀ {d : PyData} {u : Value}, rpB K d u = true → ∃ v, RelV v u ∧ ∀ H, Rp K H v d
  | .none, u, h => ⟨.non, relB_ok (by rw [rpB] at h; exact h), fun H => .non⟩
  | .bool b, u, h => ⟨.bl b, relB_ok (by rw [rpB] at h; exact h), fun H => .bl b⟩
  | .int i, u, h => ⟨.int i, relB_ok (by rw [rpB] at h; exact h), fun H => .int i⟩
  | .str x, u, h => ⟨.str x, relB_ok (by rw [rpB] at h; exact h), fun H => .str x⟩
  | .tuple ds, u, h => by
    rw [rpB] at h
    obtain ⟨h1, h2⟩ := Bool.and_eq_true_iff.mp h
    cases q : tupIts K u with
    | none => rw [q] at h1; cases h1
    | some l =>
      rw [q] at h2
      obtain ⟨a, rfl, e⟩ := tupIts_ok q
      obtain ⟨vs, r1, r2⟩ := rpBs_ok h2
      exact ⟨.ref a, rfl, fun H => .tup (e vs r1 H) (r2 H)⟩
  | .list _, u, h => by rw [rpB] at h; cases h
  | .dict _, u, h => by rw [rpB] at h; cases h
theorem rpBs_ok {K : PySem.W.Frag} : ∀ {ds : List PyData} {us : List Value}, rpBs K ds us = true → ∃ vs, Vals vs us ∧ ∀ H, RpA K H vs ds
  | [], us, h => by
    rw [rpBs] at h
    rw [List.isEmpty_iff.mp h]
    exact ⟨[], .nil, fun H => .nil⟩
  | d :: ds, us, h => by
    rw [rpBs] at h
    obtain ⟨h0, h⟩ := Bool.and_eq_true_iff.mp h
    obtain ⟨h1, h2⟩ := Bool.and_eq_true_iff.mp h
    cases us with
    | nil => cases h0
    | cons u r =>
      obtain ⟨v, a1, a2⟩ := rpB_ok (u := u) h1
      obtain ⟨vs, b1, b2⟩ := rpBs_ok (us := r) h2
      exact ⟨v :: vs, .cons a1 b1, fun H => .cons (a2 H) (b2 H)⟩
end
def conB (K : PySem.W.Frag) (q : Str × PyData) : Bool := match PySem.W.nsIn K mainGlobals q.1 with
  | some (some u) => rpB K q.2 u
  | _ => false
theorem conB_ok {K : PySem.W.Frag} {h : Heap} {mg : Str → Option Value} (X : K.In h) (G : h.Ns mainGlobals mg) {x : Str} {d : PyData} (c : conB K (x, d) = true) : ∃ (v : V) (u : Value), mg x = some u ∧ RelV v u ∧ ∀ H, Rp K H v d := by
  unfold conB at c
  cases e : PySem.W.nsIn K mainGlobals x with
  | none => rw [e] at c; cases c
  | some r =>
    rw [e] at c
    cases r with
    | none => cases c
    | some u =>
      obtain ⟨v, a1, a2⟩ := rpB_ok c
      exact ⟨v, u, PySem.W.mg_of X G e, a1, a2⟩
/-! ### the hook -/
/-- what a law's top is described by -/
structure Top where
  P : Program
  fa : List Fa
  fn : List DefD
  xs : List ExD
  cs : List (Str × PyData)
  lams : List Defn
def Top.exB (t : Top) (K : PySem.W.Frag) : Bool := (t.xs.all fun d => ex2B t.P K d && refFB K d.nm) && ((t.cs.all fun q => conB K q) && decide ((t.lams.map fun p => (cT K p).2).Nodup))
abbrev AlR : Type := AlD × List IniW × Bool
def obsR (n : Nat) (t : Top) (g : Addr → Option Obj) : AlR :=
  (obsD t.fa t.fn (frR g (asR g n)), t.xs.map (fun d => iniW (frR g (asR g n)) d.nm), t.exB (frR g (asR g n)) && tabsB g t.lams (frR g (asR g n)))
def valR (t : Top) : AlR := (valD t.fn, t.xs.map ExD.val, true)
structure SaysR (t : Top) (h : Heap) (K : PySem.W.Frag) : Prop where
  d : SaysD t.fa t.fn K
  ini : ∀ d ∈ t.xs, iniW K d.nm = d.val
  ex : t.exB K = true
  hd : ∀ p ∈ t.lams, PySem.W.codeHdIn K (cT K p).1 (cT K p).2 = true
  out : ∀ p ∈ t.lams, K.lookup (cT K p).2 = none
  empty : ∀ p ∈ t.lams, h.get? (cT K p).2 = some tabO
  nol : ∀ b o, K.lookup b = some o → o.cls ≠ .type "list"
theorem saysR_of {n : Nat} {t : Top} {h : Heap} (e : obsR n t h.get? = valR t) : SaysR t h (frR h.get? (asR h.get? n)) := by
  have e1 : obsD t.fa t.fn (frR h.get? (asR h.get? n)) = valD t.fn := congrArg (fun z : AlR => z.1) e
  have e2 : t.xs.map (fun d => iniW (frR h.get? (asR h.get? n)) d.nm) = t.xs.map ExD.val := congrArg (fun z : AlR => z.2.1) e
  have e3 : (t.exB (frR h.get? (asR h.get? n)) && tabsB h.get? t.lams (frR h.get? (asR h.get? n))) = true := congrArg (fun z : AlR => z.2.2) e
  obtain ⟨h1, h2⟩ := Bool.and_eq_true_iff.mp e3
  have key : ∀ p ∈ t.lams, PySem.W.codeHdIn (frR h.get? (asR h.get? n)) (cT (frR h.get? (asR h.get? n)) p).1 (cT (frR h.get? (asR h.get? n)) p).2 = true ∧ ∃ o, h.get? (cT (frR h.get? (asR h.get? n)) p).2 = some o ∧ emptyTab o = true := fun p hp => by
    obtain ⟨h3, h4⟩ := Bool.and_eq_true_iff.mp (List.all_eq_true.mp h2 p hp)
    refine ⟨h3, ?_⟩
    cases q : h.get? (cT (frR h.get? (asR h.get? n)) p).2 with
    | none => rw [q] at h4; cases h4
    | some o => rw [q] at h4; exact ⟨o, rfl, h4⟩
  refine ⟨e1, fun d hd => ?_, h1, fun p hp => (key p hp).1, fun p hp => ?_, fun p hp => ?_, fun b o q => frR_nol q⟩
  · exact List.map_inj_left.mp e2 d hd
  · obtain ⟨_, o, q, z⟩ := key p hp
    exact frR_none q z
  · obtain ⟨_, o, q, z⟩ := key p hp
    rw [q, emptyTab_eq z]
def hookR (n : Nat) (t : Top) : PySem.W.Hook where
  α := AlR
  obs := fun s => obsR n t s.heap.get?
  val := fun _ => valR t
  says := fun _ h => ∃ K : PySem.W.Frag, K.In h ∧ SaysR t h K
  of := fun _ _ e => ⟨_, frR_in, saysR_of e⟩
  keeps := fun _ _ _ ⟨K, hK, c⟩ k => ⟨K, PySem.W.Frag.In.keeps hK k, ⟨c.d, c.ini, c.ex, c.hd, c.out, fun p hp => k _ _ (c.empty p hp), c.nol⟩⟩
theorem obsR_eq {n : Nat} {t : Top} {g : Addr → Option Obj} {s : Shared} (h : ∀ a, g a = s.heap.get? a) : obsR n t g = (hookR n t).obs s := by
  have e : g = s.heap.get? := funext h
  rw [e] <;> rfl
end RB
/-! RE3: all defs of a law keep their plain promises, at every level of calls; the law's end. -/
namespace RB
open PySem PySem.Spec PyProof.Rows L2 He LamX
/-- one def of the text -/
structure Dsc where
  st : Stmt
  nm : Str
  ps : List Str
  N : List Str
  mu : List Str
  lam : Bool
  dfl : List Dv
  kwd : List (Str × Dv) := []
def Dsc.d (e : Dsc) : DefD := ⟨(e.nm, none), e.nm, e.nm, defArgs e.st, defBody e.st, defScope e.st, e.dfl, e.kwd⟩
def Dsc.cc (e : Dsc) (tb : Tbl) : Cc := ⟨e.N, defScope e.st, tb, e.mu, e.lam⟩
def Dsc.comp (e : Dsc) (tb : Tbl) : Option CS := compSs (compS 12 (e.cc tb)) (defBody e.st)
def fscB (N ps : List Str) (sc : Scope) : Bool :=
  decide (sc.kind = .function) && (!sc.isCoroutine && (!sc.isGenerator && (decide N.Nodup && (decide (N.take ps.length = ps) && ((ps.all fun x => decide (sc.names.lookup x = some .local) || decide (sc.names.lookup x = some .cell)) && sc.names.all fun y => !decide (y.2 = .free))))))
theorem fscB_ok {N ps : List Str} {sc : Scope} (h : fscB N ps sc = true) : FnScope N ps sc := by
  unfold fscB at h
  obtain ⟨h1, h⟩ := Bool.and_eq_true_iff.mp h
  obtain ⟨h2, h⟩ := Bool.and_eq_true_iff.mp h
  obtain ⟨h3, h⟩ := Bool.and_eq_true_iff.mp h
  obtain ⟨h4, h⟩ := Bool.and_eq_true_iff.mp h
  obtain ⟨h5, h⟩ := Bool.and_eq_true_iff.mp h
  obtain ⟨h6, h7⟩ := Bool.and_eq_true_iff.mp h
  refine ⟨of_decide_eq_true h1, by simpa using h2, by simpa using h3, of_decide_eq_true h4, of_decide_eq_true h5, fun x hx => ?_, fun y hy => ?_⟩
  · rcases Bool.or_eq_true_iff.mp (List.all_eq_true.mp h6 x hx) with z | z
    · exact .inl (of_decide_eq_true z)
    · exact .inr (of_decide_eq_true z)
  · have z := List.all_eq_true.mp h7 y hy
    simpa using z
/-! ### what the defs compute, by levels -/
abbrev Run := List (Str × Nat × Bool × CS)
def stepC (T : Run) (hi : Bool) (cl : Cls) : Str → Cf1 := fun f => match T.lookup f with
  | some (n, lam, c) => if lam && !hi then fun _ _ => .stuck else runBody n (semS cl c)
  | none => fun _ _ => .stuck
def clks (T : Run) : Nat → (Str → Cf1) × (Str → Cf1) × (Str → Cf1)
  | 0 => (noFn, noFn, noFn)
  | j + 1 => (stepC T (decide (2 ≤ j)) ⟨(clks T j).1, (clks T j).2.2⟩, (clks T j).1, (clks T j).2.1)
def clk (T : Run) (j : Nat) : Str → Cf1 := (clks T j).1
def clO (T : Run) (j : Nat) : Str → Cf1 := (clks T j).2.2
theorem clk_zero (T : Run) : clk T 0 = noFn := rfl
theorem clk_succ (T : Run) (j : Nat) : clk T (j + 1) = stepC T (decide (2 ≤ j)) ⟨clk T j, clO T j⟩ := rfl
theorem clO_two (T : Run) (j : Nat) : clO T (j + 2) = clk T j := rfl
/-! ### the module's facts -/
abbrev FunE (K : PySem.W.Frag) (e : Dsc) (fd : FuncData) : Prop := FunD K e.nm e.nm (defArgs e.st) (defBody e.st) (defScope e.st) (e.d.dvs K) (e.d.kws K) (ga K e.nm) fd
structure ModF (P : Program) (w : World) (G : Gb) (base : Heap) (tb : Tbl) (T : Run) (L : List Dsc) : Prop where
  con : ∀ x d, tb.consts.lookup x = some d → ∃ (v : V) (u : Value), G.mg x = some u ∧ RelV v u ∧ ∀ H, Rp G.K H v d
  free : ∀ x, x ∈ tb.free → G.mg x = none
  exc : ∀ x ff, tb.excs.lookup x = some ff → ∃ C : Addr, G.mg x = some (.ref C) ∧ Ex2 P G.K G.mg C ff.1 ff.2
  fn : ∀ f n ks bs, tb.shapes.lookup (f, n, ks) = some bs → ∃ (e : Dsc) (fd : FuncData), e ∈ L ∧ e.nm = f ∧ FunE G.K e fd ∧ Bn G.K fd e.ps n ks bs ∧ bs.length = e.ps.length
  ok : ∀ e ∈ L, ∃ c, e.comp tb = some c ∧ T.lookup e.nm = some (e.N.length, e.lam, c) ∧ FnScope e.N e.ps (defScope e.st)
  mg : ∀ e ∈ L, G.mg e.nm = some (.ref (ga G.K e.nm))
  said : ∀ e ∈ L, e.lam = true → SaidF G
  tab : ∀ e ∈ L, e.lam = true → ∃ Pt : Addr, TabB base G.mg (codeOf G.K (e.nm, none)) Pt ∧ (Pt, e.nm ++ ".<locals>." ++ "<lambda>") ∈ G.T ∧ ∀ p ∈ G.T, p.1 = Pt → p.2 = e.nm ++ ".<locals>." ++ "<lambda>"
section
variable {P : Program} {w : World} {G : Gb} {base : Heap} {tb : Tbl} {T : Run} {L : List Dsc}
theorem Ft.lo {k : Nat} {a b c : Str → Cf1} (h : Ft P w G base tb k ⟨a, b⟩) : Ft P w G base tb k ⟨a, c⟩ := ⟨h.con, h.free, h.fn, h.exc⟩
theorem fn_stuck {k : Nat} {fa : Addr} {fd : FuncData} {ps : List Str} {cf : Cf1} (h : ∀ us h, cf us h = .stuck) : FnG P w G.K G.mg base k fa fd ps (spU G ps.length cf) :=
  ⟨fun vs H Q E q => q.1, fun A outer s H args us vs Q E _ _ _ _ _ q => by
    obtain ⟨_, ρ, h2, us2, _, _, rn⟩ := q
    rw [h] at rn
    exact rn.elim⟩
theorem fn_lvl (M : ModF P w G base tb T L) {j : Nat} (ft : Ft P w G base tb (j + 1) ⟨clk T j, clO T j⟩) (ftl : 2 ≤ j → Ft P w G base tb (j - 2 + 1) ⟨clO T j, noFn⟩) {e : Dsc} (he : e ∈ L) {fd : FuncData} (F : FunE G.K e fd) :
    FnG P w G.K G.mg base (j + 2) (ga G.K e.nm) fd e.ps (spU G e.ps.length (clk T (j + 1) e.nm)) := by
  obtain ⟨c, hc, hl, S⟩ := M.ok e he
  rw [clk_succ]
  by_cases hh : (e.lam && !decide (2 ≤ j)) = true
  · refine fn_stuck fun us h => ?_
    unfold stepC
    rw [hl]
    show (if (e.lam && !decide (2 ≤ j)) = true then fun _ _ => R.stuck else _) us h = _
    rw [if_pos hh]
  · have e1 : stepC T (decide (2 ≤ j)) ⟨clk T j, clO T j⟩ e.nm = runBody e.N.length (semS ⟨clk T j, clO T j⟩ c) := by
      unfold stepC
      rw [hl]
      exact if_neg hh
    rw [e1]
    refine fn_plain (k := j + 1) F S fun X E hP hw hb hN hs hfn hq hcd gd => snd_Ss (snd_allS 12) ⟨⟨gd, ft, hN, hs, fun hlam => ?_, hP, hw, hb⟩, hfn, S.kind⟩ hc
    have hlam : e.lam = true := hlam
    have hj : 2 ≤ j := by
      rw [hlam] at hh
      simpa using hh
    obtain ⟨Pt, TB, hm, hu⟩ := M.tab e he hlam
    refine ⟨⟨j - 2 + 1, by omega, ftl hj⟩, ⟨codeOf G.K (e.nm, none), Pt, by rw [hb]; rw [gd.mg]; exact TB, ?_, ?_, ?_⟩, M.said e he hlam⟩
    · obtain ⟨oc, od, fd2, osl, lk2, ec⟩ := hcd
      obtain ⟨oc1, od1, dV, kV, doc, pm, an, cdv, ct, osl1, e3, lk1, hcd1, _⟩ := F.ex
      rw [lk2] at lk1
      cases lk1
      rw [e3] at ec lk2
      obtain ⟨c0, rfl⟩ := codeIn_ref hcd1
      rw [← ec]
      exact congrArg Value.ref (codeOf_eq (K := G.K) (p := (e.nm, none)) lk2 rfl).symm
    · rw [hq]; exact hm
    · rw [hq]; exact hu
theorem ft_of (M : ModF P w G base tb T L) {k : Nat} {cf : Str → Cf1} {lo : Str → Cf1} (hk : 0 < k) (h : ∀ e ∈ L, ∀ fd, FunE G.K e fd → FnG P w G.K G.mg base k (ga G.K e.nm) fd e.ps (spU G e.ps.length (cf e.nm))) : Ft P w G base tb k ⟨cf, lo⟩ where
  con := M.con
  free := M.free
  fn := fun f n ks bs q => by
    obtain ⟨e, fd, he, rfl, F, hb, hl⟩ := M.fn f n ks bs q
    exact ⟨ga G.K e.nm, fd, e.ps, M.mg e he, F.kp, hb, h e he fd F, hl⟩
  exc := fun x ff q => by
    obtain ⟨C, h1, h2⟩ := M.exc x ff q
    exact ⟨C, h1, h2, hk⟩
theorem ft_all (M : ModF P w G base tb T L) : ∀ j i, i ≤ j → Ft P w G base tb (i + 1) ⟨clk T i, noFn⟩
  | 0, i, hi => by
    have e : i = 0 := by omega
    subst e
    exact ft_of M (by omega) fun e he fd F => fn_stuck fun us h => rfl
  | j + 1, i, hi => by
    by_cases h : i ≤ j
    · exact ft_all M j i h
    · have e : i = j + 1 := by omega
      subst e
      refine ft_of M (by omega) fun e he fd F => fn_lvl M (ft_all M j j (Nat.le_refl _)).lo (fun h2 => ?_) he F
      have q := ft_all M j (j - 2) (by omega)
      have e2 : clO T j = clk T (j - 2) := by
        have e3 : j = (j - 2) + 2 := by omega
        rw [e3, clO_two]
        rfl
      rw [e2]
      exact q.lo
/-- each def's promise -/
theorem fn_at (M : ModF P w G base tb T L) (j : Nat) {e : Dsc} (he : e ∈ L) {fd : FuncData} (F : FunE G.K e fd) : FnG P w G.K G.mg base (j + 2) (ga G.K e.nm) fd e.ps (spU G e.ps.length (clk T (j + 1) e.nm)) := by
  refine fn_lvl M (ft_all M j j (Nat.le_refl _)).lo (fun h2 => ?_) he F
  have q := ft_all M j (j - 2) (by omega)
  have e2 : clO T j = clk T (j - 2) := by
    have e3 : j = (j - 2) + 2 := by omega
    rw [e3, clO_two]
    rfl
  rw [e2]
  exact q.lo
end
/-! ### bindings -/
/-- no defaults -/
theorem bnN {K : PySem.W.Frag} {e : Dsc} {fd : FuncData} {n : Nat} {ks : List Str} {bs : List Bs} (F : FunE K e fd) (hd : e.dfl = []) (ha : bs.all okBs = true)
    (h : ∀ (kV doc pm : Value) (an : Option Addr) (cdv ct : Value) (us ws : List Value), us.length = n → ws.length = ks.length → ∃ vals, bindArgs (PySem.W.fnOf e.nm e.nm (defArgs e.st) (defBody e.st) (defScope e.st) .none kV doc pm an cdv ct) ⟨us, ks.zip ws⟩ = pure (e.ps.zip vals) ∧
      ∀ (vs zs : List V), Vals vs us → Vals zs ws → ∃ vv, bindA atomV bs vs zs = some vv ∧ Vals vv vals) : Bn K fd e.ps n ks bs := by
  obtain ⟨oc, od, dV, kV, doc, pm, an, cdv, ct, osl, rfl, lk, hcd, hD, hK⟩ := F.ex
  rcases hD with ⟨_, rfl⟩ | ⟨z, _⟩
  · refine ⟨fun s us ws X h1 h2 => ?_, ha⟩
    obtain ⟨vals, e1, e2⟩ := h kV doc pm an cdv ct us ws h1 h2
    exact ⟨vals, .of_eq e1, e2⟩
  · exact absurd (show e.d.dvs K = [] by unfold DefD.dvs; rw [show e.d.dfl = [] from hd]; rfl) z
/-- defaults that are asked -/
theorem bnD {K : PySem.W.Frag} {e : Dsc} {fd : FuncData} {n : Nat} {ks : List Str} {bs : List Bs} (F : FunE K e fd) (hd : e.dfl ≠ []) (ha : bs.all okBs = true)
    (h : ∀ (T : Addr) (kV doc pm : Value) (an : Option Addr) (cdv ct : Value) (us ws its : List Value), us.length = n → ws.length = ks.length → its.length = e.dfl.length → ∃ k vals, bindArgs (PySem.W.fnOf e.nm e.nm (defArgs e.st) (defBody e.st) (defScope e.st) (.ref T) kV doc pm an cdv ct) ⟨us, ks.zip ws⟩ = seqItems? (.ref T) >>= k ∧ k (some its.toArray) = pure (e.ps.zip vals) ∧
      ∀ (vs zs : List V), Vals vs us → Vals zs ws → Vals (e.d.dvs K) its → ∃ vv, bindA atomV bs vs zs = some vv ∧ Vals vv vals) : Bn K fd e.ps n ks bs := by
  obtain ⟨oc, od, dV, kV, doc, pm, an, cdv, ct, osl, rfl, lk, hcd, hD, hK⟩ := F.ex
  rcases hD with ⟨z, _⟩ | ⟨_, T, o, its, m, rfl, lT, oT, rT⟩
  · have z' : e.dfl.map (Dv.v K) = [] := z
    exact absurd (List.map_eq_nil_iff.mp z') hd
  · refine ⟨fun s us ws X h1 h2 => ?_, ha⟩
    have l1 : its.length = e.dfl.length := by rw [← rT.length]; show (e.dfl.map (Dv.v K)).length = _; rw [List.length_map]
    obtain ⟨k, vals, e1, e2, e3⟩ := h T kV doc pm an cdv ct us ws its h1 h2 l1
    refine ⟨vals, BindsTo.of_looks fun M => ?_, fun vs zs r1 r2 => e3 vs zs r1 r2 rT⟩
    rw [e1]
    exact looks_items X lT oT (.of_pure e2)
/-- defaults that are there, all parameters given -/
theorem bnA {K : PySem.W.Frag} {e : Dsc} {fd : FuncData} {n : Nat} {ks : List Str} {bs : List Bs} (F : FunE K e fd) (hd : e.dfl ≠ []) (ha : bs.all okBs = true)
    (h : ∀ (T : Addr) (kV doc pm : Value) (an : Option Addr) (cdv ct : Value) (us ws : List Value), us.length = n → ws.length = ks.length → ∃ vals, bindArgs (PySem.W.fnOf e.nm e.nm (defArgs e.st) (defBody e.st) (defScope e.st) (.ref T) kV doc pm an cdv ct) ⟨us, ks.zip ws⟩ = pure (e.ps.zip vals) ∧
      ∀ (vs zs : List V), Vals vs us → Vals zs ws → ∃ vv, bindA atomV bs vs zs = some vv ∧ Vals vv vals) : Bn K fd e.ps n ks bs := by
  obtain ⟨oc, od, dV, kV, doc, pm, an, cdv, ct, osl, rfl, lk, hcd, hD, hK⟩ := F.ex
  rcases hD with ⟨z, _⟩ | ⟨_, T, o, its, m, rfl, lT, oT, rT⟩
  · have z' : e.dfl.map (Dv.v K) = [] := z
    exact absurd (List.map_eq_nil_iff.mp z') hd
  · refine ⟨fun s us ws X h1 h2 => ?_, ha⟩
    obtain ⟨vals, e1, e2⟩ := h T kV doc pm an cdv ct us ws h1 h2
    exact ⟨vals, .of_eq e1, e2⟩
/-- keyword-only defaults that are asked (ms), no others -/
theorem bnK {K : PySem.W.Frag} {e : Dsc} {fd : FuncData} {n : Nat} {ks : List Str} {bs : List Bs} (F : FunE K e fd) (hd : e.dfl = []) (hk : e.kwd ≠ []) (ms : List (Str × Dv)) (hms : ∀ q ∈ ms, q ∈ e.kwd) (ha : bs.all okBs = true)
    (h : ∀ (D : Addr) (doc pm : Value) (an : Option Addr) (cdv ct : Value) (us ws mv : List Value), us.length = n → ws.length = ks.length → mv.length = ms.length → ∃ vals, KwChain D ((ms.map (·.1)).zip mv) (bindArgs (PySem.W.fnOf e.nm e.nm (defArgs e.st) (defBody e.st) (defScope e.st) .none (.ref D) doc pm an cdv ct) ⟨us, ks.zip ws⟩) (e.ps.zip vals) ∧
      ∀ (vs zs : List V), Vals vs us → Vals zs ws → Vals (ms.map fun q => q.2.v K) mv → ∃ vv, bindA atomV bs vs zs = some vv ∧ Vals vv vals) : Bn K fd e.ps n ks bs := by
  obtain ⟨oc, od, dV, kV, doc, pm, an, cdv, ct, osl, rfl, lk, hcd, hD, hK⟩ := F.ex
  rcases hD with ⟨_, rfl⟩ | ⟨z, _⟩
  · rcases hK with z | ⟨D, rfl, hq⟩
    · have z' : e.kwd.map (fun q => (q.1, q.2.v K)) = [] := z
      exact absurd (List.map_eq_nil_iff.mp z') hk
    · obtain ⟨mv, hl, rk, hks⟩ := kwd_vals (ms := ms.map fun q => (q.1, q.2.v K)) fun q hm => by
        obtain ⟨q0, h0, rfl⟩ := List.mem_map.mp hm
        exact hq _ (List.mem_map.mpr ⟨q0, hms q0 h0, rfl⟩)
      have m1 : (ms.map fun q => (q.1, q.2.v K)).map (·.1) = ms.map (·.1) := by rw [List.map_map]; rfl
      have m2 : (ms.map fun q => (q.1, q.2.v K)).map (·.2) = ms.map fun q => q.2.v K := by rw [List.map_map]; rfl
      rw [m1] at hks
      rw [m2] at rk
      rw [List.length_map] at hl
      refine ⟨fun s us ws X h1 h2 => ?_, ha⟩
      obtain ⟨vals, e1, e2⟩ := h D doc pm an cdv ct us ws mv h1 h2 hl
      exact ⟨vals, BindsTo.of_looks fun M => KwChain.looks X hks e1, fun vs zs r1 r2 => e2 vs zs r1 r2 rk⟩
  · exact absurd (show e.d.dvs K = [] by unfold DefD.dvs; rw [show e.d.dfl = [] from hd]; rfl) z
/-- what is known of one shape of a call -/
def ShOk (L : List Dsc) (q : (Str × Nat × List Str) × List Bs) : Prop := ∃ e ∈ L, e.nm = q.1.1 ∧ q.2.length = e.ps.length ∧ ∀ K fd, FunE K e fd → Bn K fd e.ps q.1.2.1 q.1.2.2 q.2
theorem all_nil {α : Type} {p : α → Prop} : ∀ x ∈ ([] : List α), p x := fun x h => nomatch h
theorem all_cons {α : Type} {p : α → Prop} {a : α} {l : List α} (h : p a) (t : ∀ x ∈ l, p x) : ∀ x ∈ a :: l, p x := fun x hx => by
  rcases List.mem_cons.mp hx with e | e
  · rw [e]; exact h
  · exact t x e
theorem all_app {α : Type} {p : α → Prop} {l m : List α} (h : ∀ x ∈ l, p x) (t : ∀ x ∈ m, p x) : ∀ x ∈ l ++ m, p x := fun x hx => (List.mem_append.mp hx).elim (h x) (t x)
theorem lookup_in {α β : Type} [BEq α] [LawfulBEq α] {a : α} {b : β} : ∀ {l : List (α × β)}, l.lookup a = some b → (a, b) ∈ l
  | [], h => by cases h
  | (x, y) :: r, h => by
    rw [List.lookup_cons] at h
    cases q : a == x with
    | true =>
      rw [q] at h
      cases h
      rw [eq_of_beq q]
      exact List.mem_cons_self
    | false =>
      rw [q] at h
      exact List.mem_cons_of_mem _ (lookup_in h)
theorem vals1 {vs : List V} {a : Value} (h : Vals vs [a]) : ∃ x, vs = [x] ∧ RelV x a := by
  cases h with
  | cons h1 t => cases t; exact ⟨_, rfl, h1⟩
theorem vals2 {vs : List V} {a b : Value} (h : Vals vs [a, b]) : ∃ x y, vs = [x, y] ∧ RelV x a ∧ RelV y b := by
  cases h with
  | cons h1 t => obtain ⟨y, rfl, h2⟩ := vals1 t; exact ⟨_, y, rfl, h1, h2⟩
theorem vals3 {vs : List V} {a b c : Value} (h : Vals vs [a, b, c]) : ∃ x y z, vs = [x, y, z] ∧ RelV x a ∧ RelV y b ∧ RelV z c := by
  cases h with
  | cons h1 t => obtain ⟨y, z, rfl, h2⟩ := vals2 t; exact ⟨_, y, z, rfl, h1, h2⟩
theorem vals4 {vs : List V} {a b c d : Value} (h : Vals vs [a, b, c, d]) : ∃ x y z w, vs = [x, y, z, w] ∧ RelV x a ∧ RelV y b ∧ RelV z c ∧ RelV w d := by
  cases h with
  | cons h1 t => obtain ⟨y, z, w, rfl, h2⟩ := vals3 t; exact ⟨_, y, z, w, rfl, h1, h2⟩
theorem vals5 {vs : List V} {a b c d e : Value} (h : Vals vs [a, b, c, d, e]) : ∃ x y z w u, vs = [x, y, z, w, u] ∧ RelV x a ∧ RelV y b ∧ RelV z c ∧ RelV w d ∧ RelV u e := by
  cases h with
  | cons h1 t => obtain ⟨y, z, w, u, rfl, h2⟩ := vals4 t; exact ⟨_, y, z, w, u, rfl, h1, h2⟩
/-! ### the law's end -/
/-- a law, as it is described -/
structure LawD where
  t : Top
  L : List Dsc
  tb : Tbl
  T : Run
/-- what is checked of a law's text -/
structure LawOk (D : LawD) : Prop where
  fn : ∀ e ∈ D.L, e.d ∈ D.t.fn
  glo : ∀ e ∈ D.L, Fa.glo e.nm ∈ D.t.fa
  code : ∀ e ∈ D.L, ∃ c, e.comp D.tb = some c ∧ D.T.lookup e.nm = some (e.N.length, e.lam, c) ∧ FnScope e.N e.ps (defScope e.st)
  free : ∀ x ∈ D.tb.free, Fa.free x ∈ D.t.fa
  con : ∀ q ∈ D.tb.consts, q ∈ D.t.cs
  shp : ∀ q ∈ D.tb.shapes, ShOk D.L q
  exc : ∀ x ff, D.tb.excs.lookup x = some ff → ∃ d ∈ D.t.xs, d.nm = x ∧ ff = (d.x1, d.x2)
  ini : ∀ d ∈ D.t.xs, Ini d.x1 d.x2 "__init__" d.qual d.params d.body d.scope ∧ Fa.glo d.nm ∈ D.t.fa ∧ Fa.exm d.nm "RoomError" true ∈ D.t.fa
  sup : Fa.free "super" ∈ D.t.fa ∧ (D.t.P.main.scope.names.lookup ("super" : Str)).isSome = false
  lam : ∀ e ∈ D.L, e.lam = true → (e.nm, none) ∈ D.t.lams
  all : ∀ c ∈ excNames, ∃ d ∈ D.t.xs, d.nm = c
  fam : (∀ c ∈ famNames, Fa.glo c ∈ D.t.fa) ∧ Fa.glo "RoomError" ∈ D.t.fa ∧ Fa.free "ValueError" ∈ D.t.fa ∧ Fa.free "isinstance" ∈ D.t.fa
  said : ∃ (p : Nat → Pos) (ar : Arguments) (sg : Scope), DefD.mk ("_law_said", none) "_law_said" "_law_said" ar (saidBody p) sg [] [] ∈ D.t.fn ∧ Fa.glo "_law_said" ∈ D.t.fa ∧ FnScope saidN ["_law_ask"] sg ∧
    (∀ (kV doc pm : Value) (an : Option Addr) (cdv ct : Value) (us : List Value), us.length = 1 → bindArgs (PySem.W.fnOf "_law_said" "_law_said" ar (saidBody p) sg .none kV doc pm an cdv ct) ⟨us, []⟩ = pure ([("_law_ask" : Str)].zip us)) ∧
    sg.names.lookup ("_law_ask" : Str) = some .local ∧ sg.names.lookup ("_law_found" : Str) = some .local ∧ sg.names.lookup ("_law_e" : Str) = some .local ∧ sg.names.lookup ("RoomError" : Str) = some .globalImplicit ∧ sg.names.lookup ("_law_refusal" : Str) = some .globalImplicit
  ref : ∃ (ar : Arguments) (bd : List Stmt) (sc : Scope), DefD.mk ("_law_refusal", none) "_law_refusal" "_law_refusal" ar bd sc [] [] ∈ D.t.fn ∧ Fa.glo "_law_refusal" ∈ D.t.fa ∧ FnScope refN ["_law_e"] sc ∧ (∀ G : Gb, RefBody G bd sc) ∧
    (∀ (kV doc pm : Value) (an : Option Addr) (cdv ct : Value) (us : List Value), us.length = 1 → bindArgs (PySem.W.fnOf "_law_refusal" "_law_refusal" ar bd sc .none kV doc pm an cdv ct) ⟨us, []⟩ = pure ([("_law_e" : Str)].zip us))
/-- the tables of the defs that make lambdas -/
def LawD.tabs (D : LawD) (K : PySem.W.Frag) : List (Addr × Str) := D.t.lams.map fun p => ((cT K p).2, p.1 ++ ".<locals>." ++ "<lambda>")
theorem nodup_at {α β : Type} {f : α → β} : ∀ {l : List α} {a b : α}, (l.map f).Nodup → a ∈ l → b ∈ l → f a = f b → a = b
  | [], a, b, _, h, _, _ => nomatch h
  | x :: l, a, b, nd, ha, hb, e => by
    rw [List.map_cons, List.nodup_cons] at nd
    rcases List.mem_cons.mp ha with ea | ha1
    · rcases List.mem_cons.mp hb with eb | hb1
      · rw [ea, eb]
      · exact absurd (List.mem_map.mpr ⟨b, hb1, by rw [← e, ea]⟩) nd.1
    · rcases List.mem_cons.mp hb with eb | hb1
      · exact absurd (List.mem_map.mpr ⟨a, ha1, by rw [e, eb]⟩) nd.1
      · exact nodup_at nd.2 ha1 hb1 e
section
variable {D : LawD} {w : World} {K : PySem.W.Frag} {h base : Heap} {mg : Str → Option Value}
theorem mod_of (O : LawOk D) (S : SaysR D.t h K) (X : K.In h) (N : h.Ns mainGlobals mg) (tabs : ∀ p ∈ D.t.lams, TabB base mg (cT K p).1 (cT K p).2) :
    ModF D.t.P w ⟨K, D.tabs K, mg⟩ base D.tb D.T D.L := by
  have glo : ∀ x, Fa.glo x ∈ D.t.fa → mg x = some (.ref (ga K x)) := fun x hx => glo_ok X N (S.d.facts hx)
  have fre : ∀ x, Fa.free x ∈ D.t.fa → mg x = none := fun x hx => free_ok X N (S.d.facts hx)
  have ex0 := S.ex
  unfold Top.exB at ex0
  obtain ⟨x1, x2⟩ := Bool.and_eq_true_iff.mp ex0
  obtain ⟨x2, x3⟩ := Bool.and_eq_true_iff.mp x2
  have nd := of_decide_eq_true x3
  have exo : ∀ d ∈ D.t.xs, Ex2 D.t.P K mg (ga K d.nm) d.x1 d.x2 := fun d hd =>
    ex2B_ok (Bool.and_eq_true_iff.mp (List.all_eq_true.mp x1 d hd)).1 (S.ini d hd) (fre _ O.sup.1) O.sup.2 (O.ini d hd).1
  have said : SaidF ⟨K, D.tabs K, mg⟩ := by
    obtain ⟨p, ar, sg, m1, m2, m3, m4, l0, l1, l2, l3, l4⟩ := O.said
    obtain ⟨ar2, bd, sc, n1, n2, n3, n4, n5⟩ := O.ref
    obtain ⟨fd, F⟩ := S.d.defs m1
    obtain ⟨fd2, F2⟩ := S.d.defs n1
    refine ⟨_, _, _, fd, sg, ar, p, F, m3, FunD.bindsN F (fun kV doc pm an cdv ct us hl => m4 kV doc pm an cdv ct us hl), ⟨⟨fd2, sc, bd, ar2, F2, n3, FunD.bindsN F2 (fun kV doc pm an cdv ct us hl => n5 kV doc pm an cdv ct us hl), n4 _⟩, glo _ n2⟩, glo _ m2, glo _ O.fam.2.1, l0, l1, l2, l3, l4, fun c hc C mC => ?_⟩
    obtain ⟨d, hd, rfl⟩ := O.all c hc
    obtain ⟨_, i2, i3⟩ := O.ini d hd
    have e : C = ga K d.nm := by
      have q : mg d.nm = some (.ref C) := mC
      rw [glo _ i2] at q
      cases q
      rfl
    subst e
    exact ⟨refFB_ok (Bool.and_eq_true_iff.mp (List.all_eq_true.mp x1 d hd)).2 (fun c hc => glo c (O.fam.1 c hc)) (fre _ O.fam.2.2.1) (fre _ O.fam.2.2.2), exm_ok (S.d.facts i3)⟩
  refine ⟨fun x d q => ?_, fun x hx => fre x (O.free x hx), fun x ff q => ?_, fun f n ks bs q => ?_, O.code, fun e he => glo _ (O.glo e he), fun _ _ _ => said, fun e he hl => ?_⟩
  · exact conB_ok X N (List.all_eq_true.mp x2 _ (O.con _ (lookup_in q)))
  · obtain ⟨d, hd, rfl, rfl⟩ := O.exc x ff q
    exact ⟨ga K d.nm, glo _ (O.ini d hd).2.1, exo d hd⟩
  · obtain ⟨e, he, e1, e2, e3⟩ := O.shp _ (lookup_in q)
    obtain ⟨fd, F⟩ := S.d.defs (O.fn e he)
    exact ⟨e, fd, he, e1, F, e3 K fd F, e2⟩
  · have hm := O.lam e he hl
    refine ⟨(cT K (e.nm, none)).2, tabs _ hm, List.mem_map.mpr ⟨(e.nm, none), hm, rfl⟩, fun p hp e1 => ?_⟩
    obtain ⟨q, hq, rfl⟩ := List.mem_map.mp hp
    have e2 := nodup_at (f := fun p => (cT K p).2) nd hq hm e1
    rw [e2]
/-- the law's call gives True if what it computes is True -/
theorem law_at {l : PySem.W.OpenLaw} (O : LawOk D) (hP : l.prog = D.t.P) (S : SaysR D.t h K) (X : K.In h) (N : h.Ns mainGlobals mg) {e : Dsc} (he : e ∈ D.L) {x : Str} (hps : e.ps = [x]) {fa : Addr} (hfa : mg e.nm = some (.ref fa)) {j n : Nat}
    (bnd : ∀ (kV doc pm : Value) (an : Option Addr) (cdv ct : Value) (us : List Value), us.length = 1 → bindArgs (PySem.W.fnOf e.nm e.nm (defArgs e.st) (defBody e.st) (defScope e.st) .none kV doc pm an cdv ct) ⟨us, []⟩ = pure (e.ps.zip us)) (hd : e.dfl = [])
    (pure_ : ∀ ns : List Int, ns.length ≤ n → ∃ h', clk D.T (j + 1) e.nm [.d (.list (ns.map PyData.int))] [] = .ok (.d (.bool true)) h') : LawG l w K (j + 2) n x mg fa h := by
  obtain ⟨fd, F⟩ := S.d.defs (O.fn e he)
  have F' : FunE K e fd := F
  have e1 : fa = ga K e.nm := by
    have q := glo_ok X N (S.d.facts (O.glo e he))
    rw [hfa] at q
    cases q
    rfl
  subst e1
  refine ⟨fd, D.t.lams.map (cT K), spU ⟨K, D.tabs K, mg⟩ 1 (clk D.T (j + 1) e.nm), fun p hp => ?_, fun p hp => ?_, fun p hp => ?_, S.nol, fun s u => ?_, fun H a ns hl hT hA => ?_, fun b hb hn hT => ?_⟩
  · obtain ⟨q, hq, rfl⟩ := List.mem_map.mp hp
    exact S.empty q hq
  · obtain ⟨q, hq, rfl⟩ := List.mem_map.mp hp
    exact S.out q hq
  · obtain ⟨q, hq, rfl⟩ := List.mem_map.mp hp
    exact PySem.W.codeHd_of_K X (S.hd q hq)
  · have dv : e.d.dvs K = [] := by unfold DefD.dvs; rw [show e.d.dfl = [] from hd]; rfl
    have F2 : FunD K e.nm e.nm (defArgs e.st) (defBody e.st) (defScope e.st) [] (e.d.kws K) (ga K e.nm) fd := by rw [← dv]; exact F'
    have q := FunD.bindsA (ps := e.ps) F2 (fun kV doc pm an cdv ct us hl => bnd kV doc pm an cdv ct us (by rw [hl, hps]; rfl)) s [u] (by rw [hps]; rfl)
    rw [hps] at q
    exact q
  · obtain ⟨o, hH⟩ := hA
    obtain ⟨h', e2⟩ := pure_ ns hl
    refine ⟨rfl, fun _ => 0, [], [.d (.list (ns.map PyData.int))], ⟨fun n o q => ?_, fun n m hn => ?_, fun p hp => ?_⟩, .cons ?_ .nil, ?_⟩
    · cases q
    · cases hn
    · obtain ⟨q, hq, rfl⟩ := List.mem_map.mp hp
      exact TabS.nil (hT (cT K q) (List.mem_map.mpr ⟨q, hq, rfl⟩))
    · show Rp K H (.ref a) (.list (ns.map PyData.int))
      refine .lst ⟨o, hH⟩ ?_
      have key : ∀ l : List Int, RpA K H (l.map V.int) (l.map PyData.int) := fun l => by
        induction l with
        | nil => exact .nil
        | cons z l ih => exact .cons (.int z) ih
      exact key ns
    · rw [e2]
      intro ρ' H' b _ _ r
      cases (show Rp K H' b (.bool true) from r)
      rfl
  · rw [hP, ← hps]
    have M : ModF D.t.P w ⟨K, D.tabs K, mg⟩ b D.tb D.T D.L := mod_of (h := h) O S X N (base := b) fun p hp => hT (cT K p) (List.mem_map.mpr ⟨p, hp, rfl⟩)
    have q := fn_at M j he (fd := fd) F'
    rw [hps] at q ⊢
    exact q
end
end RB
namespace RB
open PySem PySem.Spec PyProof.Rows L2
theorem room_at {k : Nat} (hk : k ≤ 100) : Room k callerA := by
  refine ⟨rfl, ?_, ?_⟩
  · have a : callerA.depth + 305 < recursionLimit := by decide
    omega
  · have a : callerA.units + 1800 < cLine := by decide
    omega
end RB
/-! RP1: reckoning with what code computes. -/
namespace RB
open PySem PySem.Spec L2
/-! ### calls -/
def Has (T : Run) (f : Str) (n : Nat) (c : CS) : Prop := T.lookup f = some (n, false, c)
theorem call_step {T : Run} {f : Str} {n : Nat} {c : CS} (hT : Has T f n c) (j : Nat) : clk T (j + 1) f = runBody n (semS ⟨clk T j, clO T j⟩ c) := by
  rw [clk_succ]
  unfold stepC
  rw [show T.lookup f = _ from hT]
  rfl
/-- what a body gives, given back -/
def Back : R Fl → R U
  | .ok (.rt u) h => .ok u h
  | .ok (.nx _) h => .ok (.d .none) h
  | .ok _ _ => .stuck
  | .exc c fs h => .exc c fs h
  | .stuck => .stuck
theorem run_eq (n : Nat) (g : FS) (us : List U) (h : AH) : runBody n g us h = R.gc h.length (Back (g (us.map some ++ List.replicate (n - us.length) none) h)) := by
  unfold runBody
  cases g (us.map some ++ List.replicate (n - us.length) none) h with
  | ok fl h1 => cases fl <;> rfl
  | exc c fs h1 => rfl
  | stuck => rfl
theorem run_d {n : Nat} {g : FS} {us : List U} {h h1 : AH} {x : PyData} (e : Back (g (us.map some ++ List.replicate (n - us.length) none) h) = .ok (.d x) h1) : runBody n g us h = .ok (.d x) (h1.take h.length) := by
  rw [run_eq, e]
  rfl
theorem run_x {n : Nat} {g : FS} {us : List U} {h h1 : AH} {c : Str} {fs : List (Str × PyData)} (e : Back (g (us.map some ++ List.replicate (n - us.length) none) h) = .exc c fs h1) : runBody n g us h = .exc c fs (h1.take h.length) := by
  rw [run_eq, e]
  rfl
/-- the result does not touch the heap -/
theorem run_p {n : Nat} {g : FS} {us : List U} {h : AH} {x : PyData} (e : Back (g (us.map some ++ List.replicate (n - us.length) none) h) = .ok (.d x) h) : runBody n g us h = .ok (.d x) h := by
  rw [run_d e, List.take_length]
/-! ### comprehensions that do not touch the heap -/
theorem compGo_pure {tg : Tg} {lw : Lc} {t : FT} {e : FE} {h : AH} {items : List PyData} (b : PyData → Bool) (φ : PyData → PyData) :
    ∀ (xs acc : List PyData), acc.length + xs.length ≤ sizeLine → (∀ x ∈ xs, ∃ l2, tg.put (.d x) lw = some l2 ∧ t l2 h = .ok (b x) h ∧ (b x = true → e l2 h = .ok (.d (φ x)) h)) → compGo ⟨items, none⟩ tg lw t e xs acc h = .ok (acc ++ (xs.filter b).map φ) h
  | [], acc, _, _ => by
    unfold compGo
    simp [walkOk]
  | x :: xs, acc, hl, hx => by
    obtain ⟨l2, e1, e2, e3⟩ := hx x List.mem_cons_self
    unfold compGo
    rw [List.length_cons] at hl
    cases hb : b x with
    | true =>
      have e4 := e3 hb
      rw [hb] at e2
      have ih := compGo_pure (tg := tg) (lw := lw) (t := t) (e := e) (h := h) (items := items) b φ xs (acc ++ [φ x]) (by rw [List.length_append]; simp only [List.length_singleton]; omega) fun y hy => hx y (List.mem_cons_of_mem _ hy)
      simp only [walkOk, if_true, e1, e2, e4, noX, R.bind, asD, if_pos (show acc.length < sizeLine by omega), ih, List.filter_cons, hb, List.map_cons, List.append_assoc, List.singleton_append]
    | false =>
      rw [hb] at e2
      have ih := compGo_pure (tg := tg) (lw := lw) (t := t) (e := e) (h := h) (items := items) b φ xs acc (by omega) fun y hy => hx y (List.mem_cons_of_mem _ hy)
      simp only [walkOk, if_true, e1, e2, noX, R.bind, ih, List.filter_cons, hb, Bool.false_eq_true, if_false]
theorem comp_pure {it : FI} {tg : Tg} {own : List Nat} {t : FT} {e : FE} {l : Lc} {h : AH} {items : List PyData} (b : PyData → Bool) (φ : PyData → PyData) (hi : it l h = .ok ⟨items, none⟩ h) (hl : items.length ≤ sizeLine)
    (hx : ∀ x ∈ items, ∃ l2, tg.put (.d x) (wipeL l own) = some l2 ∧ t l2 h = .ok (b x) h ∧ (b x = true → e l2 h = .ok (.d (φ x)) h)) : fComp it tg own t e l h = .ok (.d (.list ((items.filter b).map φ))) h := by
  unfold fComp
  rw [hi]
  simp only [R.bind]
  rw [compGo_pure b φ items [] (by simpa using hl) hx]
  rfl
theorem boolsOf_map (p : PyData → Bool) : ∀ xs : List PyData, boolsOf (xs.map fun x => .bool (p x)) = some (xs.map p)
  | [] => rfl
  | x :: xs => by
    rw [List.map_cons, boolsOf, boolsOf_map p xs]
    rfl
theorem all_map (p : PyData → Bool) (xs : List PyData) : allB [.list (xs.map fun x => .bool (p x))] = some (.bool (xs.all p)) := by
  show (boolsOf (xs.map fun x => .bool (p x))).map (fun bs => PyData.bool (bs.all id)) = _
  rw [boolsOf_map]
  show some (PyData.bool ((xs.map p).all id)) = _
  rw [List.all_map]
  rfl
theorem any_map (p : PyData → Bool) (xs : List PyData) : anyB [.list (xs.map fun x => .bool (p x))] = some (.bool (xs.any p)) := by
  show (boolsOf (xs.map fun x => .bool (p x))).map (fun bs => PyData.bool (bs.any id)) = _
  rw [boolsOf_map]
  show some (PyData.bool ((xs.map p).any id)) = _
  rw [List.any_map]
  rfl
/-! ### what data is -/
def isStrD : PyData → Bool
  | .str _ => true
  | _ => false
def isTupD : PyData → Bool
  | .tuple _ => true
  | _ => false
def isLstD : PyData → Bool
  | .list _ => true
  | _ => false
def isIntD : PyData → Bool
  | .int _ => true
  | .bool _ => true
  | _ => false
def isBoolD : PyData → Bool
  | .bool _ => true
  | _ => false
def noDct : PyData → Bool
  | .dict _ => false
  | _ => true
theorem isi_of {S : String} {x : PyData} {p : PyData → Bool} (hS : isiS S = isiD S) (h : noDct x = true) (h1 : kitB "NoneType" S = some (p .none)) (h2 : ∀ b, kitB "bool" S = some (p (.bool b))) (h3 : ∀ b, kitB "int" S = some (p (.int b))) (h4 : ∀ b, kitB "str" S = some (p (.str b))) (h5 : ∀ b, kitB "list" S = some (p (.list b))) (h6 : ∀ b, kitB "tuple" S = some (p (.tuple b))) : isiS S x = some (.bool (p x)) := by
  rw [hS]
  unfold isiD
  cases x with
  | none => show (kitB "NoneType" S).map _ = _; rw [h1]; rfl
  | bool b => show (kitB "bool" S).map _ = _; rw [h2 b]; rfl
  | int b => show (kitB "int" S).map _ = _; rw [h3 b]; rfl
  | str b => show (kitB "str" S).map _ = _; rw [h4 b]; rfl
  | list b => show (kitB "list" S).map _ = _; rw [h5 b]; rfl
  | tuple b => show (kitB "tuple" S).map _ = _; rw [h6 b]; rfl
  | dict b => cases h
theorem kb (a b : String) (r : Bool) (h : kitB a b = some r) {p : Bool} (e : p = r) : kitB a b = some p := by rw [e]; exact h
theorem isi_str {x : PyData} (h : noDct x = true) : isiS "str" x = some (.bool (isStrD x)) :=
  isi_of rfl h (by decide +kernel) (fun _ => kb _ _ false (by decide +kernel) rfl) (fun _ => kb _ _ false (by decide +kernel) rfl) (fun _ => kb _ _ true (by decide +kernel) rfl) (fun _ => kb _ _ false (by decide +kernel) rfl) (fun _ => kb _ _ false (by decide +kernel) rfl)
theorem isi_tup {x : PyData} (h : noDct x = true) : isiS "tuple" x = some (.bool (isTupD x)) :=
  isi_of rfl h (by decide +kernel) (fun _ => kb _ _ false (by decide +kernel) rfl) (fun _ => kb _ _ false (by decide +kernel) rfl) (fun _ => kb _ _ false (by decide +kernel) rfl) (fun _ => kb _ _ false (by decide +kernel) rfl) (fun _ => kb _ _ true (by decide +kernel) rfl)
theorem isi_int {x : PyData} (h : noDct x = true) : isiS "int" x = some (.bool (isIntD x)) :=
  isi_of rfl h (by decide +kernel) (fun _ => kb _ _ true (by decide +kernel) rfl) (fun _ => kb _ _ true (by decide +kernel) rfl) (fun _ => kb _ _ false (by decide +kernel) rfl) (fun _ => kb _ _ false (by decide +kernel) rfl) (fun _ => kb _ _ false (by decide +kernel) rfl)
theorem isi_bool {x : PyData} (h : noDct x = true) : isiS "bool" x = some (.bool (isBoolD x)) :=
  isi_of rfl h (by decide +kernel) (fun _ => kb _ _ true (by decide +kernel) rfl) (fun _ => kb _ _ false (by decide +kernel) rfl) (fun _ => kb _ _ false (by decide +kernel) rfl) (fun _ => kb _ _ false (by decide +kernel) rfl) (fun _ => kb _ _ false (by decide +kernel) rfl)
/-! ### the values that laws draw -/
/-- at most d deep; rows of at most m; texts of at most s signs; numbers that can be shown -/
def Fine (m s : Nat) : Nat → PyData → Prop
  | _, .none => True
  | _, .bool _ => True
  | _, .int i => i.natAbs.log2 < 1920
  | _, .str x => PyData.strOk x = true ∧ x.length ≤ s
  | 0, .list _ => False
  | 0, .tuple _ => False
  | d + 1, .list xs => xs.length ≤ m ∧ ∀ x ∈ xs, Fine m s d x
  | d + 1, .tuple xs => xs.length ≤ m ∧ ∀ x ∈ xs, Fine m s d x
  | _, .dict _ => False
end RB
/-! RP2: what is wanted of a result, and what that asks of the parts. -/
namespace RB
open PySem PySem.Spec L2
abbrev XQ := Str → List (Str × PyData) → AH → Prop
/-- Q of a value, X of an error -/
def Wp {α : Type} (r : R α) (Q : α → AH → Prop) (X : XQ) : Prop := match r with
  | .ok a h => Q a h
  | .exc c fs h => X c fs h
  | .stuck => False
abbrev noE : XQ := fun _ _ _ => False
section
variable {α β : Type} {X : XQ} {l : Lc} {h : AH}
@[simp] theorem wp_ok {a : α} {Q : α → AH → Prop} : Wp (.ok a h) Q X ↔ Q a h := Iff.rfl
@[simp] theorem wp_exc {c : Str} {fs : List (Str × PyData)} {Q : α → AH → Prop} : Wp (.exc c fs h) Q X ↔ X c fs h := Iff.rfl
@[simp] theorem wp_stuck {Q : α → AH → Prop} : Wp (.stuck : R α) Q X ↔ False := Iff.rfl
@[simp] theorem wp_bind {r : R α} {k : α → AH → R β} {Q : β → AH → Prop} : Wp (r.bind k) Q X ↔ Wp r (fun a h1 => Wp (k a h1) Q X) X := by
  cases r <;> exact Iff.rfl
@[simp] theorem wp_of {o : Option α} {Q : α → AH → Prop} : Wp (R.of o h) Q X ↔ ∃ a, o = some a ∧ Q a h := by
  cases o with
  | none => exact ⟨fun z => z.elim, fun ⟨a, z, _⟩ => by cases z⟩
  | some a => exact ⟨fun z => ⟨a, rfl, z⟩, fun ⟨b, z, q⟩ => by cases z; exact q⟩
theorem Wp.mono {r : R α} {Q Q' : α → AH → Prop} {X' : XQ} (w : Wp r Q X) (f : ∀ a h, Q a h → Q' a h) (g : ∀ c fs h, X c fs h → X' c fs h) : Wp r Q' X' := by
  cases r with
  | ok a h => exact f _ _ w
  | exc c fs h => exact g _ _ _ w
  | stuck => exact w
theorem Wp.imp {r : R α} {Q Q' : α → AH → Prop} (w : Wp r Q X) (f : ∀ a h, Q a h → Q' a h) : Wp r Q' X := w.mono f fun _ _ _ z => z
theorem Wp.eq {r : R α} {a : α} {h1 : AH} (w : Wp r (fun b h2 => b = a ∧ h2 = h1) noE) : r = .ok a h1 := by
  cases r with
  | ok b h2 => obtain ⟨rfl, rfl⟩ := w; rfl
  | exc c fs h => exact w.elim
  | stuck => exact w.elim
theorem Wp.ex {r : R α} {Q : α → AH → Prop} (w : Wp r Q noE) : ∃ a h1, r = .ok a h1 ∧ Q a h1 := by
  cases r with
  | ok b h2 => exact ⟨b, h2, rfl, w⟩
  | exc c fs h => exact w.elim
  | stuck => exact w.elim
theorem wp_cong {r : R α} {P Q : α → AH → Prop} (hpq : ∀ a h, P a h ↔ Q a h) : Wp r P X ↔ Wp r Q X := by
  cases r with
  | ok a h => exact hpq a h
  | exc c fs h => exact Iff.rfl
  | stuck => exact Iff.rfl
theorem ex_map {γ δ : Type} {o : Option γ} {f : γ → δ} {P : δ → Prop} : (∃ a, o.map f = some a ∧ P a) ↔ ∃ b, o = some b ∧ P (f b) := by
  cases o with
  | none => exact ⟨fun ⟨a, z, _⟩ => (by cases z), fun ⟨a, z, _⟩ => (by cases z)⟩
  | some x => exact ⟨fun ⟨a, z, q⟩ => (by cases z; exact ⟨x, rfl, q⟩), fun ⟨a, z, q⟩ => (by cases z; exact ⟨f x, rfl, q⟩)⟩
theorem wp_if {c : Bool} {r s : R α} {Q : α → AH → Prop} : Wp (if c = true then r else s) Q X ↔ if c = true then Wp r Q X else Wp s Q X := by
  cases c <;> exact Iff.rfl
/-! ### expressions -/
variable {cl : Cls} {Q : U → AH → Prop}
@[simp] theorem w_var {i : Nat} : Wp (semE cl (.var i) l h) Q X ↔ ∃ u, l[i]? = some (some u) ∧ Q u h := by
  rw [semE]
  unfold fVar
  cases e : l[i]? with
  | none => exact ⟨fun z => z.elim, fun ⟨a, z, _⟩ => by cases z⟩
  | some o =>
    cases o with
    | none => exact ⟨fun z => z.elim, fun ⟨a, z, _⟩ => by cases z⟩
    | some u => exact ⟨fun z => ⟨u, rfl, z⟩, fun ⟨a, z, q⟩ => by cases z; exact q⟩
@[simp] theorem w_con {x : PyData} : Wp (semE cl (.con x) l h) Q X ↔ Q (.d x) h := by rw [semE]; exact Iff.rfl
@[simp] theorem w_tup {es : CL} : Wp (semE cl (.tup es) l h) Q X ↔ Wp (semL cl es l h) (fun us h1 => ∃ u, mkTup us = some u ∧ Q u h1) X := by rw [semE]; unfold fTup; simp only [wp_bind, wp_of]
@[simp] theorem w_lst {es : CL} : Wp (semE cl (.lst es) l h) Q X ↔ Wp (semL cl es l h) (fun us h1 => ∃ u, mkLst us = some u ∧ Q u h1) X := by rw [semE]; unfold fLst; simp only [wp_bind, wp_of]
@[simp] theorem w_mls {es : CL} : Wp (semE cl (.mls es) l h) Q X ↔ Wp (semL cl es l h) (fun us h1 => ∃ xs, mkLst us = some (.d (.list xs)) ∧ Q (.r h1.length) (h1 ++ [.lst xs])) X := by
  rw [semE]
  unfold fMls
  rw [wp_bind]
  refine wp_cong fun us h1 => ?_
  cases e : mkLst us with
  | none => exact ⟨fun z => z.elim, fun ⟨a, z, _⟩ => by cases z⟩
  | some u =>
    obtain ⟨xs, _, _, rfl⟩ := mkLst_some e
    exact ⟨fun z => ⟨xs, rfl, z⟩, fun ⟨a, z, q⟩ => by cases z; exact q⟩
@[simp] theorem w_bin {o : Operator} {a b : CE} : Wp (semE cl (.bin o a b) l h) Q X ↔ Wp (semE cl a l h) (fun x h1 => Wp (semE cl b l h1) (fun y h2 => ∃ u, opU (binSem o) h2 x y = some u ∧ Q u h2) X) X := by rw [semE]; unfold fOp; simp only [wp_bind, wp_of]
@[simp] theorem w_cmp {o : CmpOp} {a b : CE} : Wp (semE cl (.cmp o a b) l h) Q X ↔ Wp (semE cl a l h) (fun x h1 => Wp (semE cl b l h1) (fun y h2 => ∃ u, opU (cmpSem o) h2 x y = some u ∧ Q u h2) X) X := by rw [semE]; unfold fOp; simp only [wp_bind, wp_of]
@[simp] theorem w_ix {a b : CE} : Wp (semE cl (.ix a b) l h) Q X ↔ Wp (semE cl a l h) (fun x h1 => Wp (semE cl b l h1) (fun y h2 => ∃ u, opU ixD h2 x y = some u ∧ Q u h2) X) X := by rw [semE]; unfold fOp; simp only [wp_bind, wp_of]
@[simp] theorem w_neg {a : CE} : Wp (semE cl (.neg a) l h) Q X ↔ Wp (semE cl a l h) (fun x h1 => ∃ u, unU negD h1 x = some u ∧ Q u h1) X := by rw [semE]; unfold fUn; simp only [wp_bind, wp_of]
@[simp] theorem w_not {a : CE} : Wp (semE cl (.not a) l h) Q X ↔ Wp (semE cl a l h) (fun x h1 => ∃ u, unU notD h1 x = some u ∧ Q u h1) X := by rw [semE]; unfold fUn; simp only [wp_bind, wp_of]
@[simp] theorem w_isi {S : Str} {a : CE} : Wp (semE cl (.isi S a) l h) Q X ↔ Wp (semE cl a l h) (fun x h1 => ∃ u, unU (isiS S) h1 x = some u ∧ Q u h1) X := by rw [semE]; unfold fUn; simp only [wp_bind, wp_of]
@[simp] theorem w_rev {a : CE} : Wp (semE cl (.rev a) l h) Q X ↔ Wp (semE cl a l h) (fun x h1 => ∃ u, unU revD h1 x = some u ∧ Q u h1) X := by rw [semE]; unfold fUn; simp only [wp_bind, wp_of]
theorem asB_some {u : U} {p : Bool} : asB u = some p ↔ u = .d (.bool p) := by
  cases u with
  | d x => cases x <;> simp [asB]
  | r n => simp [asB]
  | x a dd fs => simp [asB]
@[simp] theorem w_and {a b : CE} : Wp (semE cl (.and a b) l h) Q X ↔ Wp (semE cl a l h) (fun x h1 => ∃ p, x = .d (.bool p) ∧ if p = true then Wp (semE cl b l h1) Q X else Q (.d (.bool false)) h1) X := by
  rw [semE]
  unfold fAnd
  rw [wp_bind]
  refine wp_cong fun x h1 => ?_
  simp only [← asB_some]
  cases e : asB x with
  | none => exact ⟨fun z => z.elim, fun ⟨a, z, _⟩ => by cases z⟩
  | some p => cases p <;> simp
@[simp] theorem w_or {a b : CE} : Wp (semE cl (.or a b) l h) Q X ↔ Wp (semE cl a l h) (fun x h1 => ∃ p, x = .d (.bool p) ∧ if p = true then Q (.d (.bool true)) h1 else Wp (semE cl b l h1) Q X) X := by
  rw [semE]
  unfold fOr
  rw [wp_bind]
  refine wp_cong fun x h1 => ?_
  simp only [← asB_some]
  cases e : asB x with
  | none => exact ⟨fun z => z.elim, fun ⟨a, z, _⟩ => by cases z⟩
  | some p => cases p <;> simp
@[simp] theorem w_te {g : FE} {Q : Bool → AH → Prop} : Wp (fTe g l h) Q X ↔ Wp (g l h) (fun x h1 => ∃ p, x = .d (.bool p) ∧ Q p h1) X := by
  unfold fTe
  simp only [wp_bind, wp_of, asB_some]
@[simp] theorem w_ifx {c a b : CE} : Wp (semE cl (.ifx c a b) l h) Q X ↔ Wp (semE cl c l h) (fun x h1 => ∃ p, x = .d (.bool p) ∧ if p = true then Wp (semE cl a l h1) Q X else Wp (semE cl b l h1) Q X) X := by
  rw [semE]
  unfold fIf
  rw [wp_bind, w_te]
  refine wp_cong fun x h1 => ?_
  refine ⟨fun ⟨p, e, z⟩ => ⟨p, e, ?_⟩, fun ⟨p, e, z⟩ => ⟨p, e, ?_⟩⟩
  · cases p <;> simpa using z
  · cases p <;> simpa using z
@[simp] theorem w_chain {o o' : CmpOp} {a b c : CE} : Wp (semE cl (.chain o o' a b c) l h) Q X ↔ Wp (semE cl a l h) (fun x h1 => Wp (semE cl b l h1) (fun y h2 => ∃ p, opU (cmpSem o) h2 x y = some (.d (.bool p)) ∧ if p = true then Wp (semE cl c l h2) (fun z h4 => ∃ u, opU (cmpSem o') h4 y z = some u ∧ Q u h4) X else Q (.d (.bool false)) h2) X) X := by
  rw [semE]
  unfold fChain
  simp only [wp_bind, wp_of]
  refine wp_cong fun x h1 => ?_
  refine wp_cong fun y h2 => ?_
  have k2 : ∀ (o : Option U) (p : Bool), o.bind asB = some p ↔ o = some (.d (.bool p)) := fun o p => by
    cases o with
    | none => simp
    | some u => simp [asB_some]
  refine ⟨fun ⟨p, e, z⟩ => ⟨p, (k2 _ p).mp e, ?_⟩, fun ⟨p, e, z⟩ => ⟨p, (k2 _ p).mpr e, ?_⟩⟩
  · cases p <;> simpa using z
  · cases p <;> simpa using z
@[simp] theorem w_call {f : Str} {bs : List Bs} {es ks : CL} : Wp (semE cl (.call f bs es ks) l h) Q X ↔ Wp (semL cl es l h) (fun us h1 => Wp (semL cl ks l h1) (fun zs h2 => ∃ ws, bindA U.d bs us zs = some ws ∧ Wp (cl.f f ws h2) Q X) X) X := by
  rw [semE]
  simp only [wp_bind]
  refine wp_cong fun us h1 => ?_
  refine wp_cong fun zs h2 => ?_
  cases bindA U.d bs us zs with
  | none => exact ⟨fun z => z.elim, fun ⟨a, z, _⟩ => by cases z⟩
  | some ws => exact ⟨fun z => ⟨ws, rfl, z⟩, fun ⟨a, z, q⟩ => by cases z; exact q⟩
@[simp] theorem w_blt {b : Str} {es : CL} : Wp (semE cl (.blt b es) l h) Q X ↔ Wp (semL cl es l h) (fun us h1 => ∃ xs, datUs h1 us = some xs ∧ ∃ z, bltSem b xs = some z ∧ Q (.d z) h1) X := by
  rw [semE]
  unfold fCB
  simp only [wp_bind, wp_of]
  refine wp_cong fun us h1 => ?_
  cases datUs h1 us with
  | none => simp
  | some xs => exact ⟨fun z => ⟨xs, rfl, (ex_map (P := fun a => Q a h1)).mp z⟩, fun ⟨ys, e, z⟩ => by cases e; exact (ex_map (P := fun a => Q a h1)).mpr z⟩
@[simp] theorem w_srt {es : CL} : Wp (semE cl (.srt es) l h) Q X ↔ Wp (semL cl es l h) (fun us h1 => ∃ xs, datUs h1 us = some xs ∧ ∃ z, sortSetB xs = some z ∧ Q (.d z) h1) X := by
  rw [semE]
  unfold fCB
  simp only [wp_bind, wp_of]
  refine wp_cong fun us h1 => ?_
  cases datUs h1 us with
  | none => simp
  | some xs => exact ⟨fun z => ⟨xs, rfl, (ex_map (P := fun a => Q a h1)).mp z⟩, fun ⟨ys, e, z⟩ => by cases e; exact (ex_map (P := fun a => Q a h1)).mpr z⟩
@[simp] theorem w_srl {es : CL} : Wp (semE cl (.srl es) l h) Q X ↔ Wp (semL cl es l h) (fun us h1 => ∃ xs, datUs h1 us = some xs ∧ ∃ z, sortLB xs = some z ∧ Q (.d z) h1) X := by
  rw [semE]
  unfold fCB
  simp only [wp_bind, wp_of]
  refine wp_cong fun us h1 => ?_
  cases datUs h1 us with
  | none => simp
  | some xs => exact ⟨fun z => ⟨xs, rfl, (ex_map (P := fun a => Q a h1)).mp z⟩, fun ⟨ys, e, z⟩ => by cases e; exact (ex_map (P := fun a => Q a h1)).mpr z⟩
@[simp] theorem w_dget {a b : CE} : Wp (semE cl (.dget a b) l h) Q X ↔ Wp (semE cl a l h) (fun x h1 => Wp (semE cl b l h1) (fun y h2 => ∃ kvs, dctAt h2 x = some kvs ∧ ∃ z, asK y = some z ∧ ∃ d, getP kvs z = some d ∧ Q (.d d) h2) X) X := by
  rw [semE]
  unfold fDGet
  simp only [wp_bind]
  refine wp_cong fun x h1 => ?_
  refine wp_cong fun y h2 => ?_
  cases dctAt h2 x with
  | none => exact ⟨fun z => z.elim, fun ⟨a, z, _⟩ => by cases z⟩
  | some kvs =>
    cases asK y with
    | none => exact ⟨fun z => z.elim, fun ⟨a, _, b, z, _⟩ => by cases z⟩
    | some z => exact ⟨fun w => ⟨kvs, rfl, z, rfl, (ex_map (P := fun a => Q a h2)).mp (wp_of.mp w)⟩, fun ⟨k2, e, z2, e2, w⟩ => by cases e; cases e2; exact wp_of.mpr ((ex_map (P := fun a => Q a h2)).mpr w)⟩
@[simp] theorem w_sl {a : CE} {lo hi : CO} : Wp (semE cl (.sl a lo hi) l h) Q X ↔ Wp (semE cl a l h) (fun x h1 => Wp (semO cl lo l h1) (fun i h2 => Wp (semO cl hi l h2) (fun j h3 => ∃ u, slU h3 i j x = some u ∧ Q u h3) X) X) X := by rw [semE]; unfold fSl; simp only [wp_bind, wp_of]
@[simp] theorem w_no {Q : Option Int → AH → Prop} : Wp (semO cl .no l h) Q X ↔ Q none h := by rw [semO]; exact Iff.rfl
theorem asI_some {u : U} {i : Int} : asI u = some i ↔ u = .d (.int i) := by
  cases u with
  | d x => cases x <;> simp [asI]
  | r n => simp [asI]
  | x a dd fs => simp [asI]
@[simp] theorem w_so {e : CE} {Q : Option Int → AH → Prop} : Wp (semO cl (.so e) l h) Q X ↔ Wp (semE cl e l h) (fun x h1 => ∃ i, x = .d (.int i) ∧ Q (some i) h1) X := by
  rw [semO]
  unfold fSo
  simp only [wp_bind, wp_of, Option.map_eq_some_iff, asI_some]
  have key : ∀ (x : U) (h1 : AH), (∃ a, (∃ b, x = U.d (.int b) ∧ some b = a) ∧ Q a h1) ↔ ∃ i, x = .d (.int i) ∧ Q (some i) h1 := fun x h1 =>
    ⟨fun ⟨a, ⟨b, e, z⟩, q⟩ => ⟨b, e, by rw [z]; exact q⟩, fun ⟨i, e, q⟩ => ⟨some i, ⟨i, e, rfl⟩, q⟩⟩
  simp only [key]
@[simp] theorem w_dct {ks : List Str} {es : CL} : Wp (semE cl (.dct ks es) l h) Q X ↔ Wp (semL cl es l h) (fun us h1 => ∃ ds, allD us = some ds ∧ ds.length = ks.length ∧ Q (.r h1.length) (h1 ++ [.dct (ks.zip ds)])) X := by
  rw [semE]
  unfold fDct
  simp only [wp_bind]
  refine wp_cong fun us h1 => ?_
  cases allD us with
  | none => exact ⟨fun z => z.elim, fun ⟨a, z, _⟩ => by cases z⟩
  | some ds =>
    by_cases hl : ds.length = ks.length
    · simp [hl]
    · simp [hl]
@[simp] theorem w_app {o : CE} {es : CL} : Wp (semE cl (.app o es) l h) Q X ↔ Wp (semE cl o l h) (fun x h1 => ∃ n, x = .r n ∧ ∃ zs, isLstAt h1 n = some zs ∧ Wp (semL cl es l h1) (fun us h2 => ∃ xs, isLstAt h2 n = some xs ∧ ∃ d, us = [.d d] ∧ xs.length < sizeLine ∧ Q (.d .none) (h2.set n (.lst (xs ++ [d])))) X) X := by
  rw [semE]
  unfold fApp
  rw [wp_bind]
  refine wp_cong fun x h1 => ?_
  cases x with
  | d d => exact ⟨fun z => z.elim, fun ⟨a, z, _⟩ => by cases z⟩
  | x a dd fs => exact ⟨fun z => z.elim, fun ⟨a, z, _⟩ => by cases z⟩
  | r n =>
    cases e : isLstAt h1 n with
    | none => exact ⟨fun z => by simp [e] at z, fun ⟨m, z, zs, q, _⟩ => by cases z; rw [e] at q; cases q⟩
    | some zs =>
      have step : Wp ((semL cl es l h1).bind fun us h2 => match isLstAt h2 n, us with | some xs, [.d d] => if xs.length < sizeLine then R.ok (U.d .none) (h2.set n (.lst (xs ++ [d]))) else .stuck | _, _ => .stuck) Q X ↔ Wp (semL cl es l h1) (fun us h2 => ∃ xs, isLstAt h2 n = some xs ∧ ∃ d, us = [.d d] ∧ xs.length < sizeLine ∧ Q (.d .none) (h2.set n (.lst (xs ++ [d])))) X := by
        rw [wp_bind]
        refine wp_cong fun us h2 => ?_
        cases isLstAt h2 n with
        | none => exact ⟨fun z => z.elim, fun ⟨a, z, _⟩ => by cases z⟩
        | some xs =>
          match us with
          | [.d d] =>
            by_cases hl : xs.length < sizeLine
            · simp [hl]
            · simp [hl]
          | [] => simp
          | [.r _] => simp
          | [.x _ _ _] => simp
          | _ :: _ :: _ => simp
      constructor
      · intro z
        simp only [e] at z
        exact ⟨n, rfl, zs, e, step.mp z⟩
      · rintro ⟨m, z, zs', q, w⟩
        cases z
        simp only [e]
        exact step.mpr w
@[simp] theorem w_ext {o : CE} {es : CL} : Wp (semE cl (.ext o es) l h) Q X ↔ Wp (semE cl o l h) (fun x h1 => ∃ n, x = .r n ∧ ∃ zs, isLstAt h1 n = some zs ∧ Wp (semL cl es l h1) (fun us h2 => ∃ xs, isLstAt h2 n = some xs ∧ ∃ ys, allD us = some ys ∧ xs.length + ys.length ≤ sizeLine ∧ Q (.d .none) (h2.set n (.lst (xs ++ ys)))) X) X := by
  rw [semE]
  unfold fExt
  rw [wp_bind]
  refine wp_cong fun x h1 => ?_
  cases x with
  | d d => exact ⟨fun z => z.elim, fun ⟨a, z, _⟩ => by cases z⟩
  | x a dd fs => exact ⟨fun z => z.elim, fun ⟨a, z, _⟩ => by cases z⟩
  | r n =>
    cases e : isLstAt h1 n with
    | none => exact ⟨fun z => by simp [e] at z, fun ⟨m, z, zs, q, _⟩ => by cases z; rw [e] at q; cases q⟩
    | some zs =>
      have step : Wp ((semL cl es l h1).bind fun us h2 => match isLstAt h2 n, allD us with | some xs, some ys => if xs.length + ys.length ≤ sizeLine then R.ok (U.d .none) (h2.set n (.lst (xs ++ ys))) else .stuck | _, _ => .stuck) Q X ↔ Wp (semL cl es l h1) (fun us h2 => ∃ xs, isLstAt h2 n = some xs ∧ ∃ ys, allD us = some ys ∧ xs.length + ys.length ≤ sizeLine ∧ Q (.d .none) (h2.set n (.lst (xs ++ ys)))) X := by
        rw [wp_bind]
        refine wp_cong fun us h2 => ?_
        cases isLstAt h2 n with
        | none => exact ⟨fun z => z.elim, fun ⟨a, z, _⟩ => by cases z⟩
        | some xs =>
          cases allD us with
          | none => simp
          | some ys =>
            by_cases hl : xs.length + ys.length ≤ sizeLine
            · simp [hl]
            · simp [hl]
      constructor
      · intro z
        simp only [e] at z
        exact ⟨n, rfl, zs, e, step.mp z⟩
      · rintro ⟨m, z, zs', q, w⟩
        cases z
        simp only [e]
        exact step.mpr w
@[simp] theorem w_said {e : CE} : Wp (semE cl (.said e) l h) Q X ↔ Wp (semE cl.low e l h) (fun u h1 => ∃ z, mkTup [.d (.str "told"), u] = some z ∧ Q z h1) (fun c fs h1 => ∃ t, refT c fs = some t ∧ Q (.d t) h1) := by
  rw [semE]
  unfold fSaid
  cases semE cl.low e l h with
  | ok u h1 => simp
  | exc c fs h1 => simpa using (ex_map (o := refT c fs) (f := U.d) (P := fun a => Q a h1))
  | stuck => simp
@[simp] theorem w_nil {Q : List U → AH → Prop} : Wp (semL cl .nil l h) Q X ↔ Q [] h := by rw [semL]; exact Iff.rfl
@[simp] theorem w_cons {e : CE} {r : CL} {Q : List U → AH → Prop} : Wp (semL cl (.cons e r) l h) Q X ↔ Wp (semE cl e l h) (fun x h1 => Wp (semL cl r l h1) (fun xs h2 => Q (x :: xs) h2) X) X := by rw [semL]; unfold fCons; simp only [wp_bind, wp_ok]
@[simp] theorem w_star {e : CE} {r : CL} {Q : List U → AH → Prop} : Wp (semL cl (.star e r) l h) Q X ↔ Wp (semE cl e l h) (fun x h1 => ∃ xs, seqU h1 x = some xs ∧ Wp (semL cl r l h1) (fun ys h2 => Q (xs.map U.d ++ ys) h2) X) X := by
  rw [semL]
  unfold fStar
  simp only [wp_bind]
  refine wp_cong fun x h1 => ?_
  cases seqU h1 x with
  | none => exact ⟨fun z => z.elim, fun ⟨a, z, _⟩ => by cases z⟩
  | some xs => simp
@[simp] theorem w_walk {e : CE} {Q : Src → AH → Prop} : Wp (semI cl (.walk e) l h) Q X ↔ Wp (semE cl e l h) (fun x h1 => ∃ s, srcOf h1 x = some s ∧ Q s h1) X := by rw [semI]; unfold fWalk; simp only [wp_bind, wp_of]
@[simp] theorem w_range {es : CL} {Q : Src → AH → Prop} : Wp (semI cl (.range es) l h) Q X ↔ Wp (semL cl es l h) (fun us h1 => ∃ s, rangeOf us = some s ∧ Q s h1) X := by rw [semI]; unfold fRange; simp only [wp_bind, wp_of]
@[simp] theorem w_zip {es : CL} {Q : Src → AH → Prop} : Wp (semI cl (.zip es) l h) Q X ↔ Wp (semL cl es l h) (fun us h1 => ∃ s, zipOf us = some s ∧ Q s h1) X := by rw [semI]; unfold fZip; simp only [wp_bind, wp_of]
@[simp] theorem w_comp2 {it it1 : CI} {tg tg1 : Tg} {own : List Nat} {t t1 : CO} {e : CE} : Wp (semE cl (.comp2 it tg own t it1 tg1 t1 e) l h) Q X ↔ Wp (semI cl it l h) (fun s h1 => Wp (compGo2 s tg (wipeL l own) (semT cl t) (semI cl it1) tg1 (semT cl t1) (semE cl e) s.items [] h1) (fun ys h2 => Q (.d (.list ys)) h2) X) X := by rw [semE]; unfold fComp2; simp only [wp_bind, wp_ok]
@[simp] theorem w_comp {it : CI} {tg : Tg} {own : List Nat} {t : CO} {e : CE} : Wp (semE cl (.comp it tg own t e) l h) Q X ↔ Wp (semI cl it l h) (fun s h1 => Wp (compGo s tg (wipeL l own) (semT cl t) (semE cl e) s.items [] h1) (fun ys h2 => Q (.d (.list ys)) h2) X) X := by rw [semE]; unfold fComp; simp only [wp_bind, wp_ok]
@[simp] theorem w_mcomp {it : CI} {tg : Tg} {own : List Nat} {t : CO} {e : CE} : Wp (semE cl (.mcomp it tg own t e) l h) Q X ↔ Wp (semI cl it l h) (fun s h1 => Wp (compGo s tg (wipeL l own) (semT cl t) (semE cl e) s.items [] h1) (fun ys h2 => Q (.r h2.length) (h2 ++ [.lst ys])) X) X := by rw [semE]; unfold fMComp; simp only [wp_bind, wp_ok]
@[simp] theorem w_mcat {a b : CE} : Wp (semE cl (.mcat a b) l h) Q X ↔ Wp (semE cl a l h) (fun x h1 => Wp (semE cl b l h1) (fun y h2 => ∃ zs, lstsOf h2 x y = some zs ∧ Q (.r h2.length) (h2 ++ [.lst zs])) X) X := by
  rw [semE]
  unfold fMCat
  simp only [wp_bind]
  refine wp_cong fun x h1 => ?_
  refine wp_cong fun y h2 => ?_
  cases lstsOf h2 x y with
  | none => exact ⟨fun z => z.elim, fun ⟨a, z, _⟩ => by cases z⟩
  | some l2 => simp
/-! ### statements -/
variable {QS : Fl → AH → Prop}
@[simp] theorem w_asg {tg : Tg} {e : CE} : Wp (semS cl (.asg tg e) l h) QS X ↔ Wp (semE cl e l h) (fun u h1 => ∃ l2, tg.put u l = some l2 ∧ QS (.nx l2) h1) X := by
  rw [semS]
  unfold fAsg
  simp only [wp_bind]
  refine wp_cong fun u h1 => ?_
  cases tg.put u l with
  | none => exact ⟨fun z => z.elim, fun ⟨a, z, _⟩ => by cases z⟩
  | some l2 => simp
@[simp] theorem w_put {o k e : CE} : Wp (semS cl (.put o k e) l h) QS X ↔ Wp (semE cl e l h) (fun v h1 => Wp (semE cl o l h1) (fun x h2 => Wp (semE cl k l h2) (fun y h3 => ∃ h4, putAt h3 x y v = some h4 ∧ QS (.nx l) h4) X) X) X := by
  rw [semS]
  unfold fPut
  simp only [wp_bind]
  refine wp_cong fun v h1 => ?_
  refine wp_cong fun x h2 => ?_
  refine wp_cong fun y h3 => ?_
  cases putAt h3 x y v with
  | none => exact ⟨fun z => z.elim, fun ⟨a, z, _⟩ => by cases z⟩
  | some l2 => simp
theorem allD_eq : ∀ {us : List U} {ds : List PyData}, allD us = some ds ↔ us = ds.map U.d
  | [], ds => by
    cases ds with
    | nil => exact ⟨fun _ => rfl, fun _ => rfl⟩
    | cons d ds => exact ⟨fun z => (by cases z), fun z => (by cases z)⟩
  | u :: us, ds => by
    rw [allD]
    cases u with
    | d x =>
      cases e : allD us with
      | none =>
        refine ⟨fun z => (by cases z), fun z => ?_⟩
        cases ds with
        | nil => cases z
        | cons d ds =>
          injection z with z1 z2
          rw [allD_eq.mpr z2] at e
          cases e
      | some xs =>
        have e2 := allD_eq.mp e
        refine ⟨fun z => (by cases z; rw [e2]; rfl), fun z => ?_⟩
        cases ds with
        | nil => cases z
        | cons d ds =>
          injection z with z1 z2
          cases z1
          rw [allD_eq.mpr z2] at e
          cases e
          rfl
    | r n =>
      refine ⟨fun z => (by cases z), fun z => ?_⟩
      cases ds with
      | nil => cases z
      | cons d ds => injection z with z1 z2; cases z1
    | x a dd fs =>
      refine ⟨fun z => (by cases z), fun z => ?_⟩
      cases ds with
      | nil => cases z
      | cons d ds => injection z with z1 z2; cases z1
@[simp] theorem w_raise {c x1 x2 : Str} {es : CL} : Wp (semS cl (.raise c x1 x2 es) l h) QS X ↔ Wp (semL cl es l h) (fun us h1 => ∃ d1 d2, us = [.d d1, .d d2] ∧ X c [(x2, d2), (x1, d1)] h1) X := by
  rw [semS]
  unfold fRaise
  simp only [wp_bind]
  refine wp_cong fun us h1 => ?_
  cases e : allD us with
  | none => exact ⟨fun z => z.elim, fun ⟨a, b, q, _⟩ => by rw [q] at e; cases e⟩
  | some ds =>
    have eu := allD_eq.mp e
    match ds, eu with
    | [d1, d2], eu => exact ⟨fun z => ⟨d1, d2, eu, z⟩, fun ⟨a, b, q, z⟩ => by rw [eu] at q; cases q; exact z⟩
    | [], eu => exact ⟨fun z => z.elim, fun ⟨a, b, q, z⟩ => by rw [eu] at q; cases q⟩
    | [_], eu => exact ⟨fun z => z.elim, fun ⟨a, b, q, z⟩ => by rw [eu] at q; cases q⟩
    | _ :: _ :: _ :: _, eu => exact ⟨fun z => z.elim, fun ⟨a, b, q, z⟩ => by rw [eu] at q; cases q⟩
@[simp] theorem w_par {i j : Nat} {es : CL} : Wp (semS cl (.par i j es) l h) QS X ↔ Wp (semL cl es l h) (fun us h1 => ∃ u w, us = [u, w] ∧ QS (.nx ((l.set i (some u)).set j (some w))) h1) X := by
  rw [semS]
  unfold fPar
  simp only [wp_bind]
  refine wp_cong fun us h1 => ?_
  match us with
  | [u, w] => exact ⟨fun z => ⟨u, w, rfl, z⟩, fun ⟨a, b, q, z⟩ => by cases q; exact z⟩
  | [] => exact ⟨fun z => z.elim, fun ⟨a, b, q, z⟩ => by cases q⟩
  | [_] => exact ⟨fun z => z.elim, fun ⟨a, b, q, z⟩ => by cases q⟩
  | _ :: _ :: _ :: _ => exact ⟨fun z => z.elim, fun ⟨a, b, q, z⟩ => by cases q⟩
@[simp] theorem w_expr {e : CE} : Wp (semS cl (.expr e) l h) QS X ↔ Wp (semE cl e l h) (fun _ h1 => QS (.nx l) h1) X := by rw [semS]; unfold fExpr; simp only [wp_bind, wp_ok]
@[simp] theorem w_ret {e : CE} : Wp (semS cl (.ret e) l h) QS X ↔ Wp (semE cl e l h) (fun u h1 => QS (.rt u) h1) X := by rw [semS]; unfold fRet; simp only [wp_bind, wp_ok]
@[simp] theorem w_retN : Wp (semS cl .retN l h) QS X ↔ QS (.rt (.d .none)) h := by rw [semS]; exact Iff.rfl
@[simp] theorem w_pass : Wp (semS cl .pass l h) QS X ↔ QS (.nx l) h := by rw [semS]; exact Iff.rfl
@[simp] theorem w_ite {c : CE} {a b : CS} : Wp (semS cl (.ite c a b) l h) QS X ↔ Wp (semE cl c l h) (fun x h1 => ∃ p, x = .d (.bool p) ∧ if p = true then Wp (semS cl a l h1) QS X else Wp (semS cl b l h1) QS X) X := by
  rw [semS]
  unfold fIte
  rw [wp_bind, w_te]
  refine wp_cong fun x h1 => ?_
  refine ⟨fun ⟨p, e, z⟩ => ⟨p, e, ?_⟩, fun ⟨p, e, z⟩ => ⟨p, e, ?_⟩⟩
  · cases p <;> simpa using z
  · cases p <;> simpa using z
/-- behind a statement -/
def Then (k : Lc → AH → Prop) (QS : Fl → AH → Prop) : Fl → AH → Prop
  | .nx l, h => k l h
  | o, h => QS o h
@[simp] theorem then_nx {k : Lc → AH → Prop} : Then k QS (.nx l) h ↔ k l h := Iff.rfl
@[simp] theorem then_rt {k : Lc → AH → Prop} {u : U} : Then k QS (.rt u) h ↔ QS (.rt u) h := Iff.rfl
@[simp] theorem w_seq {a b : CS} : Wp (semS cl (.seq a b) l h) QS X ↔ Wp (semS cl a l h) (Then (fun l1 h1 => Wp (semS cl b l1 h1) QS X) QS) X := by
  rw [semS]
  unfold fSeq
  rw [wp_bind]
  refine wp_cong fun fl h1 => ?_
  cases fl <;> exact Iff.rfl
theorem seq_step {a b : CS} (M : Lc → AH → Prop) (w : Wp (semS cl a l h) (Then M QS) X) (k : ∀ l1 h1, M l1 h1 → Wp (semS cl b l1 h1) QS X) : Wp (semS cl (.seq a b) l h) QS X := by
  rw [w_seq]
  refine w.imp fun fl h1 q => ?_
  cases fl with
  | nx l1 => exact k l1 h1 q
  | rt u => exact q
  | bk l1 => exact q
  | ct l1 => exact q
@[simp] theorem w_for {it : CI} {tg : Tg} {b : CS} : Wp (semS cl (.for_ it tg b) l h) QS X ↔ Wp (semI cl it l h) (fun s h1 => Wp (forGo s tg (semS cl b) s.items l h1) QS X) X := by rw [semS]; unfold fFor; simp only [wp_bind]
/-! ### calls -/
/-- behind a body -/
def Bk (n : Nat) (Q : U → AH → Prop) : Fl → AH → Prop
  | .rt (.d x), h => Q (.d x) (h.take n)
  | .rt u, h => Q u h
  | .nx _, h => Q (.d .none) (h.take n)
  | _, _ => False
@[simp] theorem bk_d {n : Nat} {x : PyData} : Bk n Q (.rt (.d x)) h ↔ Q (.d x) (h.take n) := Iff.rfl
@[simp] theorem bk_r {n m : Nat} : Bk n Q (.rt (.r m)) h ↔ Q (.r m) h := Iff.rfl
@[simp] theorem bk_nx {n : Nat} : Bk n Q (.nx l) h ↔ Q (.d .none) (h.take n) := Iff.rfl
theorem w_run {n : Nat} {g : FS} {us : List U} : Wp (runBody n g us h) Q X ↔ Wp (g (us.map some ++ List.replicate (n - us.length) none) h) (Bk h.length Q) (fun c fs h1 => X c fs (h1.take h.length)) := by
  rw [run_eq]
  cases g (us.map some ++ List.replicate (n - us.length) none) h with
  | ok fl h1 =>
    cases fl with
    | rt u => cases u <;> exact Iff.rfl
    | nx l => exact Iff.rfl
    | bk l => exact Iff.rfl
    | ct l => exact Iff.rfl
  | exc c fs h1 => exact Iff.rfl
  | stuck => exact Iff.rfl
theorem w_clk {T : Run} {f : Str} {n : Nat} {c : CS} (hT : Has T f n c) {j : Nat} (hj : 1 ≤ j) {us : List U} : Wp (clk T j f us h) Q X ↔ Wp (semS ⟨clk T (j - 1), clO T (j - 1)⟩ c (us.map some ++ List.replicate (n - us.length) none) h) (Bk h.length Q) (fun c fs h1 => X c fs (h1.take h.length)) := by
  obtain ⟨k, rfl⟩ : ∃ k, j = k + 1 := ⟨j - 1, by omega⟩
  rw [call_step hT, w_run]
  rfl
end
end RB
/-! RP3: the kinds: needs, moments, clauses, rules. -/
namespace RB
open PySem PySem.Spec L2
@[simp] theorem opU_d {op : PyData → PyData → Option PyData} {h : AH} {x y : PyData} : opU op h (.d x) (.d y) = (op x y).map U.d := rfl
@[simp] theorem unU_d {op : PyData → Option PyData} {h : AH} {x : PyData} : unU op h (.d x) = (op x).map U.d := rfl
@[simp] theorem slU_d {h : AH} {lo hi : Option Int} {x : PyData} : slU h lo hi (.d x) = (slD lo hi x).map U.d := rfl
@[simp] theorem ex2 {α β : Type} {p : α → Prop} {f : α → β} {P : β → Prop} : (∃ u, (∃ a, p a ∧ f a = u) ∧ P u) ↔ ∃ a, p a ∧ P (f a) :=
  ⟨fun ⟨_, ⟨a, h1, h2⟩, h3⟩ => ⟨a, h1, h2 ▸ h3⟩, fun ⟨a, h1, h2⟩ => ⟨f a, ⟨a, h1, rfl⟩, h2⟩⟩
@[simp] theorem datUs_nil {h : AH} : datUs h [] = some [] := rfl
@[simp] theorem datUs_cons {h : AH} {x : PyData} {r : List U} : datUs h (.d x :: r) = (datUs h r).map (x :: ·) := by
  show (match datU h (.d x), datUs h r with | some x, some xs => some (x :: xs) | _, _ => none) = _
  cases datUs h r <;> rfl
@[simp] theorem src_t {h : AH} {xs : List PyData} : srcOf h (.d (.tuple xs)) = some ⟨xs, none⟩ := rfl
@[simp] theorem src_l {h : AH} {xs : List PyData} : srcOf h (.d (.list xs)) = some ⟨xs, none⟩ := rfl
@[simp] theorem semT_no {cl : Cls} : semT cl .no = fYes := by rw [semT]
@[simp] theorem semT_so {cl : Cls} {e : CE} : semT cl (.so e) = fTe (semE cl e) := by rw [semT]
@[simp] theorem bind_p {j : Nat} {r : List Bs} {us zs : List U} : bindA U.d (.p j :: r) us zs = (us[j]?).bind fun u => (bindA U.d r us zs).map (u :: ·) := bindA_p _ _ _ _ _
@[simp] theorem bind_k {j : Nat} {r : List Bs} {us zs : List U} : bindA U.d (.k j :: r) us zs = (zs[j]?).bind fun u => (bindA U.d r us zs).map (u :: ·) := bindA_k _ _ _ _ _
@[simp] theorem bind_d {x : PyData} {r : List Bs} {us zs : List U} : bindA U.d (.d x :: r) us zs = (bindA U.d r us zs).map (.d x :: ·) := bindA_d _ _ _ _ _
@[simp] theorem bind_n {us zs : List U} : bindA U.d [] us zs = some [] := rfl
@[simp] theorem put_v {i : Nat} {u : U} {l : Lc} : (Tg.v i).put u l = some (l.set i (some u)) := rfl
@[simp] theorem wipe_nil {l : Lc} : wipeL l [] = l := rfl
@[simp] theorem wipe_cons {l : Lc} {v : Nat} {vs : List Nat} : wipeL l (v :: vs) = (wipeL l vs).set v none := rfl
@[simp] theorem b_len : bltSem "len" = lenD := by
  unfold bltSem
  rw [if_pos rfl]
@[simp] theorem b_all : bltSem "all" = allB := by
  unfold bltSem
  rw [if_neg (by decide), if_pos rfl]
@[simp] theorem b_any : bltSem "any" = anyB := by
  unfold bltSem
  rw [if_neg (by decide), if_neg (by decide), if_pos rfl]
@[simp] theorem b_repr : bltSem "repr" = reprB := by
  unfold bltSem
  rw [if_neg (by decide), if_neg (by decide), if_neg (by decide), if_pos rfl]
@[simp] theorem b_tuple : bltSem "tuple" = tupleB := by
  unfold bltSem
  rw [if_neg (by decide), if_neg (by decide), if_neg (by decide), if_neg (by decide), if_pos rfl]
@[simp] theorem b_list : bltSem "list" = listB := by
  unfold bltSem
  rw [if_neg (by decide), if_neg (by decide), if_neg (by decide), if_neg (by decide), if_neg (by decide), if_pos rfl]
@[simp] theorem b_int : bltSem "int" = intB := by
  unfold bltSem
  rw [if_neg (by decide), if_neg (by decide), if_neg (by decide), if_neg (by decide), if_neg (by decide), if_neg (by decide), if_pos rfl]
@[simp] theorem b_str : bltSem "str" = strB := by
  unfold bltSem
  rw [if_neg (by decide), if_neg (by decide), if_neg (by decide), if_neg (by decide), if_neg (by decide), if_neg (by decide), if_neg (by decide), if_pos rfl]
@[simp] theorem filt_true {α : Type} {xs : List α} : xs.filter (fun _ => true) = xs := by
  induction xs with
  | nil => rfl
  | cons x xs ih => rw [List.filter_cons, if_pos rfl, ih]
/-- a comprehension that does not touch the heap -/
theorem wp_comp {s : Src} {tg : Tg} {lw : Lc} {t : FT} {e : FE} {h : AH} {X : XQ} {Q : List PyData → AH → Prop} (b : PyData → Bool) (φ : PyData → PyData) (hs : s.place = none) (hl : s.items.length ≤ sizeLine)
    (hx : ∀ x ∈ s.items, ∃ l2, tg.put (.d x) lw = some l2 ∧ t l2 h = .ok (b x) h ∧ (b x = true → e l2 h = .ok (.d (φ x)) h)) (q : Q ((s.items.filter b).map φ) h) : Wp (compGo s tg lw t e s.items [] h) Q X := by
  obtain ⟨items, pl⟩ := s
  cases (show pl = none from hs)
  rw [compGo_pure b φ items [] (by simpa using hl) hx]
  simpa using q
/-! ### values that are at most so deep, so long -/
theorem Fine.mono {m m' s s' : Nat} (hm : m ≤ m') (hs : s ≤ s') : ∀ {d d' : Nat} {x : PyData}, d ≤ d' → Fine m s d x → Fine m' s' d' x
  | d, d', .none, _, _ => by unfold Fine; exact True.intro
  | d, d', .bool _, _, _ => by unfold Fine; exact True.intro
  | d, d', .int i, _, h => by unfold Fine at h ⊢; exact h
  | d, d', .str x, _, h => by unfold Fine at h ⊢; exact ⟨h.1, Nat.le_trans h.2 hs⟩
  | d, d', .dict _, _, h => by unfold Fine at h; exact h.elim
  | 0, _, .list _, _, h => by unfold Fine at h; exact h.elim
  | 0, _, .tuple _, _, h => by unfold Fine at h; exact h.elim
  | d + 1, 0, _, hd, _ => absurd hd (by omega)
  | d + 1, d' + 1, .list xs, hd, h => by
    unfold Fine at h ⊢
    exact ⟨Nat.le_trans h.1 hm, fun x hx => Fine.mono hm hs (by omega) (h.2 x hx)⟩
  | d + 1, d' + 1, .tuple xs, hd, h => by
    unfold Fine at h ⊢
    exact ⟨Nat.le_trans h.1 hm, fun x hx => Fine.mono hm hs (by omega) (h.2 x hx)⟩
theorem canLayAll_iff : ∀ {xs : List PyData}, PyData.canLayAll0 xs = true ↔ ∀ x ∈ xs, x.canLay0 = true
  | [] => by simp [PyData.canLayAll0]
  | x :: xs => by rw [PyData.canLayAll0, Bool.and_eq_true, canLayAll_iff]; simp
theorem depthAll_le {n : Nat} : ∀ {xs : List PyData}, PyData.depthAll xs ≤ n ↔ ∀ x ∈ xs, x.depth ≤ n
  | [] => by simp [PyData.depthAll]
  | x :: xs => by
    rw [PyData.depthAll]
    have := depthAll_le (n := n) (xs := xs)
    simp only [List.mem_cons, forall_eq_or_imp]
    rw [← this]
    omega
theorem Fine.lay {m s : Nat} : ∀ {d : Nat} {x : PyData}, Fine m s d x → x.canLay0 = true ∧ x.depth ≤ d
  | _, .none, _ => by simp [PyData.canLay0, PyData.depth]
  | _, .bool _, _ => by simp [PyData.canLay0, PyData.depth]
  | _, .int _, _ => by simp [PyData.canLay0, PyData.depth]
  | _, .str x, h => by unfold Fine at h; simp [PyData.canLay0, PyData.depth, h.1]
  | _, .dict _, h => by unfold Fine at h; exact h.elim
  | 0, .list _, h => by unfold Fine at h; exact h.elim
  | 0, .tuple _, h => by unfold Fine at h; exact h.elim
  | d + 1, .list xs, h => by
    unfold Fine at h
    rw [PyData.canLay0, PyData.depth]
    refine ⟨canLayAll_iff.mpr fun x hx => (Fine.lay (h.2 x hx)).1, ?_⟩
    have := (depthAll_le (n := d) (xs := xs)).mpr fun x hx => (Fine.lay (h.2 x hx)).2
    omega
  | d + 1, .tuple xs, h => by
    unfold Fine at h
    rw [PyData.canLay0, PyData.depth]
    refine ⟨canLayAll_iff.mpr fun x hx => (Fine.lay (h.2 x hx)).1, ?_⟩
    have := (depthAll_le (n := d) (xs := xs)).mpr fun x hx => (Fine.lay (h.2 x hx)).2
    omega
/-- what the functions are asked of -/
def Nice (x : PyData) : Prop := ∃ d, d ≤ 30 ∧ Fine 2000 2000 d x
theorem Nice.sh {x : PyData} (h : Nice x) : SeqAt.shaped x = true := by
  obtain ⟨d, hd, h⟩ := h
  obtain ⟨h1, h2⟩ := h.lay
  unfold SeqAt.shaped
  rw [h1, decide_eq_true (by omega)]
  rfl
theorem Nice.nd {x : PyData} (h : Nice x) : noDct x = true := by
  obtain ⟨d, hd, h⟩ := h
  cases x <;> first | rfl | (unfold Fine at h; exact h.elim)
theorem Nice.tup {xs : List PyData} (h : Nice (.tuple xs)) : xs.length ≤ 2000 ∧ ∀ x ∈ xs, Nice x := by
  obtain ⟨d, hd, h⟩ := h
  cases d with
  | zero => unfold Fine at h; exact h.elim
  | succ d => unfold Fine at h; exact ⟨h.1, fun x hx => ⟨d, by omega, h.2 x hx⟩⟩
theorem Nice.lst {xs : List PyData} (h : Nice (.list xs)) : xs.length ≤ 2000 ∧ ∀ x ∈ xs, Nice x := by
  obtain ⟨d, hd, h⟩ := h
  cases d with
  | zero => unfold Fine at h; exact h.elim
  | succ d => unfold Fine at h; exact ⟨h.1, fun x hx => ⟨d, by omega, h.2 x hx⟩⟩
theorem Nice.lstOf {xs : List PyData} (h : Nice (.tuple xs)) : Nice (.list xs) := by
  obtain ⟨d, hd, h⟩ := h
  cases d with
  | zero => unfold Fine at h; exact h.elim
  | succ d => exact ⟨d + 1, hd, by unfold Fine at h ⊢; exact h⟩
theorem small_size {n : Nat} (h : n ≤ 2000) : n ≤ sizeLine := Nat.le_trans h (by decide)
/-! ### ascending -/
def adj : List PyData → Bool
  | [] => true
  | [_] => true
  | x :: y :: r => tlt x y && adj (y :: r)
theorem adj_asc : ∀ {xs : List PyData}, adj xs = true ↔ Asc xs
  | [] => by simp [adj]
  | [x] => by simp [adj]
  | x :: y :: r => by
    rw [adj, Bool.and_eq_true, adj_asc (xs := y :: r)]
    refine ⟨fun ⟨h1, h2⟩ => List.pairwise_cons.mpr ⟨fun z hz => ?_, h2⟩, fun h => ?_⟩
    · rcases List.mem_cons.mp hz with e | hz
      · rw [e]; exact h1
      · exact Tr.trans _ _ _ h1 ((List.pairwise_cons.mp h2).1 z hz)
    · obtain ⟨h1, h2⟩ := List.pairwise_cons.mp h
      exact ⟨h1 y List.mem_cons_self, h2⟩
theorem eqv_eq {d e : PyData} (hd : txt d = true) (he : txt e = true) : PyData.eqv d e = true ↔ d = e := by
  rw [eqv_tree d e hd he]
  exact ⟨fun h => tree_inj d e hd he (Tr.eqb_eq _ _ h), fun h => by rw [h]; exact Tr.eqb_self _⟩
theorem eqvL_eq {ds es : List PyData} (hd : txtL ds = true) (he : txtL es = true) : PyData.eqvAll ds es = true ↔ ds = es := by
  rw [eqvL_tree ds es hd he]
  exact ⟨fun h => treeL_inj ds es hd he (Tr.eqbL_eq _ _ h), fun h => by rw [h]; exact Tr.eqbL_self _⟩
theorem txtL_iff : ∀ {ds : List PyData}, txtL ds = true ↔ ∀ d ∈ ds, txt d = true
  | [] => by simp [txtL]
  | d :: ds => by rw [txtL, Bool.and_eq_true, txtL_iff]; simp
/-- sorted, each once, is the row itself just if it ascends -/
theorem sort_self {ds : List PyData} (h : txtL ds = true) : PyData.eqvAll ds (sortT ds) = adj ds := by
  obtain ⟨h1, h2, h3⟩ := sortT_all h
  have key : PyData.eqvAll ds (sortT ds) = true ↔ adj ds = true := by
    rw [eqvL_eq h h1, adj_asc]
    exact ⟨fun e => by rw [e]; exact h2, fun ha => asc_unique ha h2 fun x => (h3 x).symm⟩
  cases e : adj ds with
  | true => exact key.mpr e
  | false =>
    cases e2 : PyData.eqvAll ds (sortT ds) with
    | false => rfl
    | true => rw [key.mp e2] at e; cases e
end RB
/-! RPC: code of defs that several laws share (printed by gen2.py). -/
namespace RB
open PySem PySem.Spec L2
def c_does_ascend : CS :=
  (.seq (.ret (.blt "all" (.cons (.comp (.zip (.cons (.var 0) (.cons (.sl (.var 0) (.so (.con (.int 1))) .no) .nil))) (.t [1, 2]) [1, 2] .no (.cmp .Lt (.var 1) (.var 2))) .nil)))
  .pass)
def c_is_need : CS :=
  (.seq (.ret (.and (.isi "str" (.var 0)) (.cmp .In (.var 0) (.con (.tuple [(.str "maker"), (.str "name"), (.str "picture"), (.str "reader")])))))
  .pass)
def c_is_moment : CS :=
  (.seq (.ret (.and (.isi "str" (.var 0)) (.cmp .In (.var 0) (.con (.tuple [(.str "gone"), (.str "left"), (.str "made"), (.str "read"), (.str "right"), (.str "turned")])))))
  .pass)
def c_is_needs : CS :=
  (.seq (.ret (.and (.isi "tuple" (.var 0)) (.and (.blt "all" (.cons (.comp (.walk (.var 0)) (.v 1) [1] .no (.call "is_need" [.p 0] (.cons (.var 1) .nil) .nil)) .nil)) (.call "does_ascend" [.p 0] (.cons (.var 0) .nil) .nil))))
  .pass)
def c_is_moments : CS :=
  (.seq (.ret (.and (.isi "tuple" (.var 0)) (.and (.blt "all" (.cons (.comp (.walk (.var 0)) (.v 1) [1] .no (.call "is_moment" [.p 0] (.cons (.var 1) .nil) .nil)) .nil)) (.call "does_ascend" [.p 0] (.cons (.var 0) .nil) .nil))))
  .pass)
def c_is_clause : CS :=
  (.seq (.ret (.and (.isi "tuple" (.var 0)) (.and (.cmp .Eq (.blt "len" (.cons (.var 0) .nil)) (.con (.int 2))) (.and (.call "is_moment" [.p 0] (.cons (.ix (.var 0) (.con (.int 0))) .nil) .nil) (.call "is_needs" [.p 0] (.cons (.ix (.var 0) (.con (.int 1))) .nil) .nil)))))
  .pass)
def c_is_rule : CS :=
  (.seq (.ret (.and (.isi "tuple" (.var 0)) (.and (.blt "all" (.cons (.comp (.walk (.var 0)) (.v 1) [1] .no (.call "is_clause" [.p 0] (.cons (.var 1) .nil) .nil)) .nil)) (.call "does_ascend" [.p 0] (.cons (.var 0) .nil) .nil))))
  .pass)
def c_want : CS :=
  (.seq (.ite (.not (.var 0)) (.seq (.raise "NotUsable" "word" "at" (.cons (.var 1) (.cons (.var 2) .nil)))
  .pass) .pass)
  .pass)
def c_want_rule : CS :=
  (.seq (.expr (.call "want" [.p 0, .p 1, .d (.int (-1))] (.cons (.call "is_rule" [.p 0] (.cons (.var 0) .nil) .nil) (.cons (.var 1) .nil)) .nil))
  .pass)
def c_want_moments_needs : CS :=
  (.seq (.expr (.call "want" [.p 0, .p 1, .d (.int (-1))] (.cons (.call "is_moments" [.p 0] (.cons (.var 0) .nil) .nil) (.cons (.con (.str "moments")) .nil)) .nil))
  (.seq (.expr (.call "want" [.p 0, .p 1, .d (.int (-1))] (.cons (.call "is_needs" [.p 0] (.cons (.var 1) .nil) .nil) (.cons (.con (.str "needs")) .nil)) .nil))
  .pass))
def c_does_free : CS :=
  (.seq (.ret (.blt "any" (.cons (.comp (.walk (.var 0)) (.t [3, 4]) [3, 4] .no (.and (.cmp .In (.var 3) (.var 1)) (.not (.blt "any" (.cons (.comp (.walk (.var 4)) (.v 5) [5] .no (.cmp .In (.var 5) (.var 2))) .nil))))) .nil)))
  .pass)
def c_is_freed : CS :=
  (.seq (.expr (.call "want_rule" [.p 0, .d (.str "rule")] (.cons (.var 0) .nil) .nil))
  (.seq (.expr (.call "want_moments_needs" [.p 0, .p 1] (.cons (.var 1) (.cons (.var 2) .nil)) .nil))
  (.seq (.ret (.call "does_free" [.p 0, .p 1, .p 2] (.cons (.var 0) (.cons (.var 1) (.cons (.var 2) .nil))) .nil))
  .pass)))
def c_law_feed : CS :=
  (.seq (.ret (.dct ["cells", "spot", "left", "turns"] (.cons (.comp (.walk (.sl (.var 0) .no (.so (.con (.int 63))))) (.v 1) [1] .no (.blt "int" (.cons (.var 1) .nil))) (.cons (.con (.int 0)) (.cons (.con (.int 0)) (.cons (.con (.int 0)) .nil))))))
  .pass)
def c_law_draw (y z : Int) : CS :=
  (.seq (.put (.var 0) (.con (.str "turns")) (.bin .Add (.dget (.var 0) (.con (.str "turns"))) (.con (.int 1))))
  (.seq (.ite (.cmp .Gt (.dget (.var 0) (.con (.str "left"))) (.con (.int 0))) (.seq (.asg (.v 2) (.bin .Mod (.blt "int" (.cons (.dget (.var 0) (.con (.str "left"))) .nil)) (.var 1)))
  (.seq (.put (.var 0) (.con (.str "left")) (.bin .FloorDiv (.dget (.var 0) (.con (.str "left"))) (.var 1)))
  (.seq (.ret (.var 2))
  .pass))) .pass)
  (.seq (.par 3 4 (.cons (.dget (.var 0) (.con (.str "cells"))) (.cons (.dget (.var 0) (.con (.str "spot"))) .nil)))
  (.seq (.put (.var 0) (.con (.str "spot")) (.bin .Add (.var 4) (.con (.int 1))))
  (.seq (.asg (.v 5) (.ifx (.cmp .NotEq (.var 3) (.lst .nil)) (.ix (.var 3) (.bin .Mod (.blt "int" (.cons (.var 4) .nil)) (.blt "len" (.cons (.var 3) .nil)))) (.con (.int y))))
  (.seq (.ite (.and (.cmp .GtE (.var 5) (.bin .Pow (.con (.int 10)) (.con (.int 18)))) (.cmp .Lt (.var 4) (.blt "len" (.cons (.var 3) .nil)))) (.seq (.put (.var 0) (.con (.str "left")) (.bin .FloorDiv (.var 5) (.var 1)))
  (.seq (.ret (.bin .Mod (.blt "int" (.cons (.var 5) .nil)) (.var 1)))
  .pass)) .pass)
  (.seq (.asg (.v 6) (.bin .Mod (.blt "int" (.cons (.bin .Add (.bin .Add (.bin .Mult (.bin .Mod (.blt "int" (.cons (.var 5) .nil)) (.con (.int 1000000409))) (.con (.int 2311))) (.bin .Mult (.con (.int 92821)) (.dget (.var 0) (.con (.str "turns"))))) (.con (.int z))) .nil)) (.con (.int 2147483629))))
  (.seq (.asg (.v 6) (.bin .Mod (.blt "int" (.cons (.bin .Add (.bin .Add (.bin .Mult (.var 6) (.var 6)) (.bin .Mult (.con (.int 6311)) (.dget (.var 0) (.con (.str "turns"))))) (.con (.int 89))) .nil)) (.con (.int 2147483587))))
  (.seq (.ret (.bin .Mod (.blt "int" (.cons (.bin .FloorDiv (.bin .Mod (.blt "int" (.cons (.bin .Add (.bin .Mult (.var 6) (.var 6)) (.bin .Mult (.con (.int 389)) (.var 6))) .nil)) (.con (.int 2147483563))) (.con (.int 64))) .nil)) (.var 1)))
  .pass)))))))))
def c_law_pick : CS :=
  (.seq (.ret (.ix (.var 1) (.call "_law_draw" [.p 0, .p 1] (.cons (.var 0) (.cons (.blt "len" (.cons (.var 1) .nil)) .nil)) .nil)))
  .pass)
def c_law_needs : CS :=
  (.seq (.ret (.blt "tuple" (.cons (.comp (.walk (.lst (.cons (.con (.str "maker")) (.cons (.con (.str "name")) (.cons (.con (.str "picture")) (.cons (.con (.str "reader")) .nil)))))) (.v 1) [1] (.so (.cmp .Eq (.call "_law_draw" [.p 0, .p 1] (.cons (.var 0) (.cons (.con (.int 2)) .nil)) .nil) (.con (.int 0)))) (.var 1)) .nil)))
  .pass)
def c_law_pair : CS :=
  (.seq (.ret (.tup (.cons (.call "_law_pick" [.p 0, .p 1] (.cons (.var 0) (.cons (.lst (.cons (.con (.str "gone")) (.cons (.con (.str "left")) (.cons (.con (.str "made")) (.cons (.con (.str "read")) (.cons (.con (.str "right")) (.cons (.con (.str "turned")) .nil))))))) .nil)) .nil) (.cons (.call "_law_needs" [.p 0] (.cons (.var 0) .nil) .nil) .nil))))
  .pass)
def c_law_plan : CS :=
  (.seq (.ret (.blt "tuple" (.cons (.srt (.cons (.comp (.range (.cons (.call "_law_draw" [.p 0, .p 1] (.cons (.var 0) (.cons (.bin .Add (.var 1) (.con (.int 1))) .nil)) .nil) .nil)) (.v 2) [2] .no (.call "_law_pair" [.p 0] (.cons (.var 0) .nil) .nil)) .nil)) .nil)))
  .pass)
def c_law_is_number : CS :=
  (.seq (.ret (.and (.isi "int" (.var 0)) (.and (.not (.isi "bool" (.var 0))) (.cmp .GtE (.var 0) (.con (.int 0))))))
  .pass)
def c_law_is_name : CS :=
  (.seq (.ite (.or (.not (.isi "str" (.var 0))) (.not (.chain .LtE .LtE (.con (.int 1)) (.blt "len" (.cons (.var 0) .nil)) (.con (.int 8))))) (.seq (.ret (.con (.bool false)))
  .pass) .pass)
  (.seq (.ret (.cmp .Eq (.comp (.walk (.var 0)) (.v 1) [1] (.so (.cmp .NotIn (.var 1) (.con (.str "abcdefghijklmnopqrstuvwxyz")))) (.var 1)) (.lst .nil)))
  .pass))
def c_law_is_needs : CS :=
  (.seq (.ite (.or (.not (.isi "tuple" (.var 0))) (.cmp .NotEq (.comp (.walk (.var 0)) (.v 2) [2] (.so (.not (.isi "str" (.var 2)))) (.var 2)) (.lst .nil))) (.seq (.ret (.con (.bool false)))
  .pass) .pass)
  (.seq (.asg (.v 1) (.lst (.cons (.con (.str "maker")) (.cons (.con (.str "name")) (.cons (.con (.str "picture")) (.cons (.con (.str "reader")) .nil))))))
  (.seq (.ret (.cmp .Eq (.comp (.walk (.var 1)) (.v 2) [2] (.so (.cmp .In (.var 2) (.var 0))) (.var 2)) (.blt "list" (.cons (.var 0) .nil))))
  .pass)))
def c_law_is_moment : CS :=
  (.seq (.ret (.and (.isi "str" (.var 0)) (.cmp .In (.var 0) (.lst (.cons (.con (.str "gone")) (.cons (.con (.str "left")) (.cons (.con (.str "made")) (.cons (.con (.str "read")) (.cons (.con (.str "right")) (.cons (.con (.str "turned")) .nil))))))))))
  .pass)
def c_law_is_pair : CS :=
  (.seq (.ret (.and (.isi "tuple" (.var 0)) (.and (.cmp .Eq (.blt "len" (.cons (.var 0) .nil)) (.con (.int 2))) (.and (.call "_law_is_moment" [.p 0] (.cons (.ix (.var 0) (.con (.int 0))) .nil) .nil) (.call "_law_is_needs" [.p 0] (.cons (.ix (.var 0) (.con (.int 1))) .nil) .nil)))))
  .pass)
def c_law_is_plan : CS :=
  (.seq (.ite (.or (.not (.isi "tuple" (.var 0))) (.cmp .NotEq (.comp (.walk (.var 0)) (.v 1) [1] (.so (.not (.call "_law_is_pair" [.p 0] (.cons (.var 1) .nil) .nil))) (.var 1)) (.lst .nil))) (.seq (.ret (.con (.bool false)))
  .pass) .pass)
  (.seq (.ret (.cmp .Eq (.blt "list" (.cons (.var 0) .nil)) (.srt (.cons (.var 0) .nil))))
  .pass))
def c_law_strange : CS :=
  (.seq (.asg (.v 1) (.mls (.cons (.con .none) (.cons (.con (.bool true)) (.cons (.con (.bool false)) (.cons (.neg (.con (.int 1))) (.cons (.con (.int 0)) (.cons (.con (.int 1)) (.cons (.con (.int 7)) (.cons (.bin .Pow (.con (.int 10)) (.con (.int 59))) (.cons (.con (.str "")) (.cons (.con (.str "a")) (.cons (.con (.str "abcdefgh")) (.cons (.con (.str "abcdefghi")) (.cons (.con (.str "A")) (.cons (.con (.str "a b")) (.cons (.con (.str "name")) (.cons (.con (.str "left")) .nil))))))))))))))))))
  (.seq (.expr (.ext (.var 1) (.cons (.tup .nil) (.cons (.lst .nil) (.cons (.tup (.cons (.con (.str "name")) .nil)) (.cons (.lst (.cons (.con (.str "name")) .nil)) (.cons (.tup (.cons (.con (.str "reader")) (.cons (.con (.str "name")) .nil))) (.cons (.tup (.cons (.con (.str "name")) (.cons (.con (.str "name")) .nil))) (.cons (.tup (.cons (.con (.str "name")) (.cons (.con (.str "left")) .nil))) (.cons (.tup (.cons (.con (.str "left")) (.cons (.tup .nil) .nil))) .nil))))))))))
  (.seq (.expr (.ext (.var 1) (.cons (.tup (.cons (.con (.str "left")) (.cons (.lst .nil) .nil))) (.cons (.lst (.cons (.con (.str "left")) (.cons (.tup .nil) .nil))) (.cons (.tup (.cons (.con (.str "left")) .nil)) (.cons (.tup (.cons (.con (.str "left")) (.cons (.tup .nil) (.cons (.tup .nil) .nil)))) (.cons (.tup (.cons (.con (.str "Left")) (.cons (.tup .nil) .nil))) (.cons (.tup (.cons (.con (.str "name")) (.cons (.tup .nil) .nil))) (.cons (.con (.str "reader")) .nil)))))))))
  (.seq (.expr (.ext (.var 1) (.cons (.tup (.cons (.con (.str "left")) (.cons (.tup (.cons (.con (.str "reader")) (.cons (.con (.str "name")) .nil))) .nil))) (.cons (.tup (.cons (.tup (.cons (.con (.str "left")) (.cons (.tup .nil) .nil))) .nil)) (.cons (.tup (.cons (.tup (.cons (.con (.str "left")) (.cons (.tup .nil) .nil))) (.cons (.tup (.cons (.con (.str "gone")) (.cons (.tup .nil) .nil))) .nil))) (.cons (.lst (.cons (.tup (.cons (.con (.str "left")) (.cons (.tup .nil) .nil))) .nil)) .nil))))))
  (.seq (.expr (.ext (.var 1) (.cons (.tup (.cons (.con (.str "guess")) .nil)) (.cons (.tup (.cons (.con (.str "guess")) (.cons (.con (.int 1)) .nil))) (.cons (.tup (.cons (.con (.str "make")) (.cons (.con (.str "a")) .nil))) (.cons (.tup (.cons (.con (.str "make")) (.cons (.con (.str "a")) (.cons (.tup .nil) .nil)))) (.cons (.tup (.cons (.con (.str "make")) (.cons (.con (.str "a")) (.cons (.tup (.cons (.con (.str "b")) (.cons (.con (.str "a")) .nil))) .nil)))) (.cons (.con (.str "turned")) .nil))))))))
  (.seq (.expr (.ext (.var 1) (.cons (.tup (.cons (.con (.str "make")) (.cons (.con (.str "a")) (.cons (.lst (.cons (.con (.str "a")) .nil)) .nil)))) (.cons (.tup (.cons (.con (.str "same")) (.cons (.con (.str "a")) (.cons (.con (.str "b")) .nil)))) (.cons (.tup (.cons (.con (.str "same")) (.cons (.con (.str "a")) (.cons (.con (.str "a")) .nil)))) (.cons (.tup (.cons (.con (.str "same")) (.cons (.con (.str "a")) (.cons (.tup (.cons (.con (.str "b")) .nil)) .nil)))) (.cons (.tup (.cons (.con (.str "left")) (.cons (.con (.str "name")) .nil))) .nil)))))))
  (.seq (.expr (.ext (.var 1) (.cons (.tup (.cons (.con (.str "make")) (.cons (.con (.str "A")) (.cons (.tup .nil) .nil)))) (.cons (.tup (.cons (.tup (.cons (.con (.str "a")) .nil)) (.cons (.con (.int 1)) (.cons (.con (.int 0)) (.cons (.con (.bool false)) .nil))))) (.cons (.tup (.cons (.tup (.cons (.con (.str "a")) .nil)) (.cons (.con (.int 0)) (.cons (.con (.int 0)) (.cons (.con (.bool false)) .nil))))) (.cons (.tup (.cons (.tup (.cons (.con (.str "a")) .nil)) (.cons (.con (.int 1)) (.cons (.neg (.con (.int 1))) (.cons (.con (.bool true)) .nil))))) .nil))))))
  (.seq (.expr (.ext (.var 1) (.cons (.tup (.cons (.tup (.cons (.con (.str "a")) .nil)) (.cons (.con (.int 1)) (.cons (.con (.int 0)) (.cons (.con (.int 0)) .nil))))) (.cons (.tup (.cons (.tup .nil) (.cons (.con (.int 1)) (.cons (.con (.int 0)) (.cons (.con (.bool true)) .nil))))) (.cons (.tup (.cons (.lst (.cons (.con (.str "a")) .nil)) (.cons (.con (.int 1)) (.cons (.con (.int 0)) (.cons (.con (.bool true)) .nil))))) (.cons (.tup (.cons (.tup (.cons (.con (.str "b")) (.cons (.con (.str "a")) .nil))) (.cons (.con (.int 1)) (.cons (.con (.int 0)) (.cons (.con (.bool true)) .nil))))) .nil))))))
  (.seq (.expr (.ext (.var 1) (.cons (.tup (.cons (.tup (.cons (.con (.str "a")) .nil)) (.cons (.con (.bool true)) (.cons (.con (.int 0)) (.cons (.con (.bool true)) .nil))))) (.cons (.tup (.cons (.tup (.cons (.con (.str "a")) .nil)) (.cons (.con (.int 1)) (.cons (.con (.int 0)) .nil)))) (.cons (.tup (.cons (.con (.str "turned")) (.cons (.tup (.cons (.con (.str "maker")) .nil)) .nil))) .nil)))))
  (.seq (.ret (.call "_law_pick" [.p 0, .p 1] (.cons (.var 0) (.cons (.var 1) .nil)) .nil))
  .pass))))))))))
def c_law_bent : CS :=
  (.seq (.ite (.and (.isi "tuple" (.var 1)) (.and (.cmp .Gt (.blt "len" (.cons (.var 1) .nil)) (.con (.int 0))) (.cmp .Gt (.call "_law_draw" [.p 0, .p 1] (.cons (.var 0) (.cons (.con (.int 5)) .nil)) .nil) (.con (.int 0))))) (.seq (.asg (.v 2) (.call "_law_draw" [.p 0, .p 1] (.cons (.var 0) (.cons (.blt "len" (.cons (.var 1) .nil)) .nil)) .nil))
  (.seq (.ret (.bin .Add (.bin .Add (.sl (.var 1) .no (.so (.var 2))) (.tup (.cons (.call "_law_bent" [.p 0, .p 1] (.cons (.var 0) (.cons (.ix (.var 1) (.var 2)) .nil)) .nil) .nil))) (.sl (.var 1) (.so (.bin .Add (.var 2) (.con (.int 1)))) .no)))
  .pass)) .pass)
  (.seq (.par 3 4 (.cons (.call "_law_draw" [.p 0, .p 1] (.cons (.var 0) (.cons (.con (.int 7)) .nil)) .nil) (.cons (.call "_law_strange" [.p 0] (.cons (.var 0) .nil) .nil) .nil)))
  (.seq (.ite (.and (.isi "tuple" (.var 1)) (.cmp .Lt (.var 3) (.con (.int 6)))) (.seq (.asg (.v 2) (.call "_law_draw" [.p 0, .p 1] (.cons (.var 0) (.cons (.bin .Add (.blt "len" (.cons (.var 1) .nil)) (.con (.int 1))) .nil)) .nil))
  (.seq (.ite (.cmp .Eq (.var 3) (.con (.int 0))) (.seq (.ret (.blt "list" (.cons (.var 1) .nil)))
  .pass) .pass)
  (.seq (.ite (.cmp .Eq (.var 3) (.con (.int 1))) (.seq (.ret (.bin .Add (.sl (.var 1) .no (.so (.var 2))) (.sl (.var 1) (.so (.bin .Add (.var 2) (.con (.int 1)))) .no)))
  .pass) .pass)
  (.seq (.ite (.cmp .Eq (.var 3) (.con (.int 2))) (.seq (.ret (.bin .Add (.bin .Add (.sl (.var 1) .no (.so (.var 2))) (.sl (.var 1) (.so (.var 2)) (.so (.bin .Add (.var 2) (.con (.int 1)))))) (.sl (.var 1) (.so (.var 2)) .no)))
  .pass) .pass)
  (.seq (.ret (.ifx (.cmp .Lt (.var 3) (.con (.int 5))) (.bin .Add (.bin .Add (.sl (.var 1) .no (.so (.var 2))) (.tup (.cons (.var 4) .nil))) (.sl (.var 1) (.so (.var 2)) .no)) (.rev (.var 1))))
  .pass))))) .pass)
  (.seq (.ite (.and (.isi "str" (.var 1)) (.cmp .Lt (.var 3) (.con (.int 3)))) (.seq (.asg (.v 2) (.call "_law_draw" [.p 0, .p 1] (.cons (.var 0) (.cons (.bin .Add (.blt "len" (.cons (.var 1) .nil)) (.con (.int 1))) .nil)) .nil))
  (.seq (.ret (.bin .Add (.bin .Add (.sl (.var 1) .no (.so (.var 2))) (.call "_law_pick" [.p 0, .p 1] (.cons (.var 0) (.cons (.lst (.cons (.con (.str "a")) (.cons (.con (.str "A")) (.cons (.con (.str "")) (.cons (.con (.str " ")) (.cons (.con (.str "z")) (.cons (.con (.str "0")) .nil))))))) .nil)) .nil)) (.sl (.var 1) (.so (.bin .Add (.var 2) (.blt "int" (.cons (.cmp .Gt (.var 3) (.con (.int 1))) .nil)))) .no)))
  .pass)) .pass)
  (.seq (.ite (.and (.isi "str" (.var 1)) (.cmp .Lt (.var 3) (.con (.int 6)))) (.seq (.ret (.call "_law_pick" [.p 0, .p 1] (.cons (.var 0) (.cons (.lst (.cons (.con (.str "gone")) (.cons (.con (.str "read")) (.cons (.con (.str "turned")) (.cons (.con (.str "maker")) (.cons (.con (.str "picture")) (.cons (.con (.str "made")) .nil))))))) .nil)) .nil))
  .pass) .pass)
  (.seq (.ite (.and (.call "_law_is_number" [.p 0] (.cons (.var 1) .nil) .nil) (.cmp .Lt (.var 3) (.con (.int 5)))) (.seq (.ret (.ix (.lst (.cons (.bin .Add (.var 1) (.con (.int 1))) (.cons (.bin .Sub (.var 1) (.con (.int 1))) (.cons (.neg (.var 1)) (.cons (.cmp .Eq (.var 1) (.con (.int 1))) (.cons (.blt "str" (.cons (.var 1) .nil)) .nil)))))) (.var 3)))
  .pass) .pass)
  (.seq (.ret (.var 4))
  .pass)))))))
def c_law_no : CS :=
  (.seq (.ret (.tup (.cons (.con (.str "NotUsable")) (.cons (.var 0) (.cons (.neg (.con (.int 1))) .nil)))))
  .pass)
def c_law_frees : CS :=
  (.seq (.for_ (.walk (.var 0)) (.t [3, 4]) (.seq (.ite (.and (.cmp .In (.var 3) (.var 1)) (.cmp .Eq (.comp (.walk (.var 4)) (.v 5) [5] (.so (.cmp .In (.var 5) (.var 2))) (.var 5)) (.lst .nil))) (.seq (.ret (.con (.bool true)))
  .pass) .pass)
  .pass))
  (.seq (.ret (.con (.bool false)))
  .pass))
def c_law_parts : CS :=
  (.seq (.asg (.v 1) (.lst (.cons (.con (.str "gone")) (.cons (.con (.str "left")) (.cons (.con (.str "made")) (.cons (.con (.str "read")) (.cons (.con (.str "right")) (.cons (.con (.str "turned")) .nil))))))))
  (.seq (.ret (.blt "tuple" (.cons (.comp (.walk (.var 1)) (.v 2) [2] (.so (.cmp .Eq (.call "_law_draw" [.p 0, .p 1] (.cons (.var 0) (.cons (.con (.int 3)) .nil)) .nil) (.con (.int 0)))) (.var 2)) .nil)))
  .pass))
def c_law_all_needs : CS :=
  (.seq (.asg (.v 0) (.lst (.cons (.tup .nil) .nil)))
  (.seq (.for_ (.walk (.lst (.cons (.con (.str "maker")) (.cons (.con (.str "name")) (.cons (.con (.str "picture")) (.cons (.con (.str "reader")) .nil)))))) (.v 1) (.seq (.asg (.v 0) (.bin .Add (.var 0) (.comp (.walk (.var 0)) (.v 2) [2] .no (.bin .Add (.var 2) (.tup (.cons (.var 1) .nil))))))
  .pass))
  (.seq (.ret (.var 0))
  .pass)))
def c_law_is_parts : CS :=
  (.seq (.ite (.or (.not (.isi "tuple" (.var 0))) (.cmp .NotEq (.comp (.walk (.var 0)) (.v 1) [1] (.so (.not (.call "_law_is_moment" [.p 0] (.cons (.var 1) .nil) .nil))) (.var 1)) (.lst .nil))) (.seq (.ret (.con (.bool false)))
  .pass) .pass)
  (.seq (.ret (.cmp .Eq (.blt "list" (.cons (.var 0) .nil)) (.srt (.cons (.var 0) .nil))))
  .pass))
end RB
/-! RP4: the kinds, as the program tells them. -/
namespace RB
open PySem PySem.Spec L2
variable {T : Run}
/-- a def that tells True or False of any value -/
def PuB (T : Run) (n : Nat) (f : Str) (F : PyData → Bool) : Prop := ∀ j, n ≤ j → ∀ x, Nice x → ∀ h, clk T j f [.d x] h = .ok (.d (.bool (F x))) h
def needsL : List PyData := [.str "maker", .str "name", .str "picture", .str "reader"]
def momentsL : List PyData := [.str "gone", .str "left", .str "made", .str "read", .str "right", .str "turned"]
def isNeed (x : PyData) : Bool := isStrD x && needsL.any fun z => PyData.eqv z x
def isMoment (x : PyData) : Bool := isStrD x && momentsL.any fun z => PyData.eqv z x
def isNeeds : PyData → Bool
  | .tuple xs => xs.all isNeed && adj xs
  | _ => false
def isMoments : PyData → Bool
  | .tuple xs => xs.all isMoment && adj xs
  | _ => false
def isClause : PyData → Bool
  | .tuple [a, b] => isMoment a && isNeeds b
  | _ => false
def isRule : PyData → Bool
  | .tuple xs => xs.all isClause && adj xs
  | _ => false
theorem in_tup {x : PyData} {zs : List PyData} (hx : SeqAt.shaped x = true) (hz : SeqAt.shaped (.tuple zs) = true) : cmpSem .In x (.tuple zs) = some (.bool (zs.any fun z => PyData.eqv z x)) := by
  show (if SeqAt.shaped x && SeqAt.shaped (.tuple zs) then some (PyData.bool (false != zs.any fun z => PyData.eqv z x)) else none) = _
  rw [hx, hz]
  simp
theorem in_lst {x : PyData} {zs : List PyData} (hx : SeqAt.shaped x = true) (hz : SeqAt.shaped (.list zs) = true) : cmpSem .In x (.list zs) = some (.bool (zs.any fun z => PyData.eqv z x)) := by
  show (if SeqAt.shaped x && SeqAt.shaped (.list zs) then some (PyData.bool (false != zs.any fun z => PyData.eqv z x)) else none) = _
  rw [hx, hz]
  simp
theorem is_need_ok (hT : Has T "is_need" 1 c_is_need) : PuB T 1 "is_need" isNeed := by
  intro j hj x hx h
  refine Wp.eq ((w_clk hT hj).mpr ?_)
  unfold c_is_need
  have e := in_tup (zs := needsL) hx.sh (by decide +kernel)
  unfold needsL at e
  simp only [w_seq, w_ret, w_and, w_isi, w_var, w_cmp, w_con]
  simp [isi_str hx.nd, e, isNeed, needsL]
  cases isStrD x <;> simp
theorem is_moment_ok (hT : Has T "is_moment" 1 c_is_moment) : PuB T 1 "is_moment" isMoment := by
  intro j hj x hx h
  refine Wp.eq ((w_clk hT hj).mpr ?_)
  unfold c_is_moment
  have e := in_tup (zs := momentsL) hx.sh (by decide +kernel)
  unfold momentsL at e
  simp only [w_seq, w_ret, w_and, w_isi, w_var, w_cmp, w_con]
  simp [isi_str hx.nd, e, isMoment, momentsL]
  cases isStrD x <;> simp
/-! ### ascending -/
def pB : PyData → Bool
  | .tuple [a, b] => tlt a b
  | _ => false
theorem zip_adj : ∀ xs : List PyData, (zipP xs xs.tail).all pB = adj xs
  | [] => rfl
  | [x] => rfl
  | x :: y :: r => by
    have ih := zip_adj (y :: r)
    show (pB (.tuple [x, y]) && (zipP (y :: r) r).all pB) = (tlt x y && adj (y :: r))
    rw [← ih]
    rfl
theorem zip_mem {p : PyData} : ∀ {xs ys : List PyData}, p ∈ zipP xs ys → ∃ a ∈ xs, ∃ b ∈ ys, p = .tuple [a, b]
  | [], ys, h => by simp [zipP] at h
  | x :: xs, [], h => by simp [zipP] at h
  | x :: xs, y :: ys, h => by
    rcases List.mem_cons.mp (show p ∈ PyData.tuple [x, y] :: zipP xs ys from h) with e | h
    · exact ⟨x, List.mem_cons_self, y, List.mem_cons_self, e⟩
    · obtain ⟨a, ha, b, hb, e⟩ := zip_mem h
      exact ⟨a, List.mem_cons_of_mem _ ha, b, List.mem_cons_of_mem _ hb, e⟩
theorem zip_len (xs ys : List PyData) : (zipP xs ys).length ≤ xs.length := by
  unfold zipP
  rw [List.length_zipWith]
  omega
theorem cut_from (xs : List PyData) (k : Nat) : cutD xs (some (k : Int)) none = xs.drop k := by
  unfold cutD
  rw [HT.sIx_nat, HT.sIx_none]
  by_cases h : k ≤ xs.length
  · rw [Nat.min_eq_left h, List.take_of_length_le (by rw [List.length_drop]; omega)]
  · rw [Nat.min_eq_right (by omega), List.drop_of_length_le (by omega), List.drop_of_length_le (by omega)]
    simp
theorem cut_to (xs : List PyData) (k : Nat) : cutD xs none (some (k : Int)) = xs.take k := by
  unfold cutD
  rw [HT.sIx_nat, HT.sIx_none, List.drop_zero]
  by_cases h : k ≤ xs.length
  · rw [Nat.min_eq_left h]; rfl
  · rw [Nat.min_eq_right (by omega), List.take_of_length_le (by omega), List.take_of_length_le (by omega)]
theorem lt_ok {a b : PyData} (ha : SeqAt.shaped a = true) (hb : SeqAt.shaped b = true) (ta : txt a = true) (tb : txt b = true) (hc : ∃ r, ltD a b = some r) : cmpSem .Lt a b = some (.bool (tlt a b)) := by
  obtain ⟨r, e⟩ := hc
  have e2 := ltD_tree a b r ta tb e
  show (if SeqAt.shaped a && SeqAt.shaped b then (ltD a b).map PyData.bool else none) = _
  rw [ha, hb, e, e2]
  rfl
theorem does_ascend_ok (hT : Has T "does_ascend" 3 c_does_ascend) {j : Nat} (hj : 1 ≤ j) {xs : List PyData} (hn : Nice (.tuple xs)) (ht : txtL xs = true) (hc : ∀ a ∈ xs, ∀ b ∈ xs, ∃ r, ltD a b = some r) (h : AH) :
    clk T j "does_ascend" [.d (.tuple xs)] h = .ok (.d (.bool (adj xs))) h := by
  refine Wp.eq ((w_clk hT hj).mpr ?_)
  unfold c_does_ascend
  obtain ⟨hl, hm⟩ := hn.tup
  have e1 : slD (some 1) none (.tuple xs) = some (.tuple xs.tail) := by
    show some (PyData.tuple (cutD xs (some ((1 : Nat) : Int)) none)) = _
    rw [cut_from, List.drop_one]
  simp only [w_seq, w_ret, w_blt, w_cons, w_nil, w_comp, w_zip, w_sl, w_var, w_so, w_con, w_no]
  simp [e1, zipOf]
  refine wp_comp (s := ⟨zipP xs xs.tail, none⟩) (fun _ => true) (fun p => .bool (pB p)) rfl (small_size (Nat.le_trans (zip_len _ _) hl)) (fun p hp => ?_) ?_
  · obtain ⟨a, ha, b, hb, rfl⟩ := zip_mem hp
    have hb' : b ∈ xs := List.mem_of_mem_tail hb
    refine ⟨_, rfl, rfl, fun _ => Wp.eq ?_⟩
    simp only [w_cmp, w_var]
    simp [lt_ok (hm a ha).sh (hm b hb').sh (txtL_mem ht a ha) (txtL_mem ht b hb') (hc a ha b hb'), pB]
  · simp [all_map, zip_adj]
/-! ### texts that are compared -/
theorem need_str {x : PyData} (h : isNeed x = true) : ∃ s, x = .str s ∧ x ∈ needsL := by
  unfold isNeed at h
  obtain ⟨h1, h2⟩ := Bool.and_eq_true_iff.mp h
  cases x with
  | str s =>
    obtain ⟨z, hz, e⟩ := List.any_eq_true.mp h2
    have hz' : txt z = true := txtL_mem (by decide +kernel : txtL needsL = true) z hz
    rw [eqv_eq hz' rfl] at e
    exact ⟨s, rfl, e ▸ hz⟩
  | _ => cases h1
theorem moment_str {x : PyData} (h : isMoment x = true) : ∃ s, x = .str s ∧ x ∈ momentsL := by
  unfold isMoment at h
  obtain ⟨h1, h2⟩ := Bool.and_eq_true_iff.mp h
  cases x with
  | str s =>
    obtain ⟨z, hz, e⟩ := List.any_eq_true.mp h2
    have hz' : txt z = true := txtL_mem (by decide +kernel : txtL momentsL = true) z hz
    rw [eqv_eq hz' rfl] at e
    exact ⟨s, rfl, e ▸ hz⟩
  | _ => cases h1
theorem lt_strs {a b : PyData} (ha : ∃ s, a = .str s) (hb : ∃ s, b = .str s) : ∃ r, ltD a b = some r := by
  obtain ⟨s, rfl⟩ := ha
  obtain ⟨t, rfl⟩ := hb
  exact ⟨_, by rw [ltD]⟩
theorem txt_str {a : PyData} (ha : ∃ s, a = .str s) : txt a = true := by
  obtain ⟨s, rfl⟩ := ha
  rfl
theorem ltL_strs : ∀ {xs ys : List PyData}, (∀ a ∈ xs, ∃ s, a = .str s) → (∀ a ∈ ys, ∃ s, a = .str s) → ∃ r, ltL xs ys = some r
  | [], [], _, _ => ⟨_, by rw [ltL]⟩
  | [], _ :: _, _, _ => ⟨_, by rw [ltL]⟩
  | _ :: _, [], _, _ => ⟨_, by rw [ltL]⟩
  | x :: xs, y :: ys, hx, hy => by
    rw [ltL]
    by_cases e : PyData.eqv x y = true
    · rw [if_pos e]
      exact ltL_strs (fun a ha => hx a (List.mem_cons_of_mem _ ha)) fun a ha => hy a (List.mem_cons_of_mem _ ha)
    · rw [if_neg e]
      exact lt_strs (hx x List.mem_cons_self) (hy y List.mem_cons_self)
/-- how a clause looks -/
def Cls2 (x : PyData) : Prop := ∃ (s : Str) (ts : List PyData), x = .tuple [.str s, .tuple ts] ∧ ∀ t ∈ ts, ∃ u, t = .str u
theorem cls_txt {x : PyData} (h : Cls2 x) : txt x = true := by
  obtain ⟨s, ts, rfl, ht⟩ := h
  rw [txt, txtL, txtL, txtL, txt, txt]
  simp [txtL_iff.mpr fun t h => txt_str (ht t h)]
theorem cls_lt {x y : PyData} (hx : Cls2 x) (hy : Cls2 y) : ∃ r, ltD x y = some r := by
  obtain ⟨s, ts, rfl, ht⟩ := hx
  obtain ⟨s', ts', rfl, ht'⟩ := hy
  rw [ltD, ltL]
  by_cases e : PyData.eqv (.str s) (.str s') = true
  · rw [if_pos e, ltL]
    by_cases e2 : PyData.eqv (.tuple ts) (.tuple ts') = true
    · rw [if_pos e2]; exact ⟨_, by rw [ltL]⟩
    · rw [if_neg e2, ltD]; exact ltL_strs ht ht'
  · rw [if_neg e]; exact lt_strs ⟨s, rfl⟩ ⟨s', rfl⟩
theorem needs_strs {x : PyData} (h : isNeeds x = true) : ∃ ts, x = .tuple ts ∧ ∀ t ∈ ts, isNeed t = true := by
  cases x with
  | tuple ts =>
    obtain ⟨h1, _⟩ := Bool.and_eq_true_iff.mp (show (ts.all isNeed && adj ts) = true from h)
    exact ⟨ts, rfl, fun t ht => List.all_eq_true.mp h1 t ht⟩
  | _ => cases h
theorem clause_look {x : PyData} (h : isClause x = true) : Cls2 x := by
  unfold isClause at h
  split at h
  · rename_i a b
    obtain ⟨h1, h2⟩ := Bool.and_eq_true_iff.mp h
    obtain ⟨s, rfl, _⟩ := moment_str h1
    obtain ⟨ts, rfl, ht⟩ := needs_strs h2
    exact ⟨s, ts, rfl, fun t h => let ⟨u, e, _⟩ := need_str (ht t h); ⟨u, e⟩⟩
  · cases h
end RB
/-! RP5: rows of kinds. -/
namespace RB
open PySem PySem.Spec L2
variable {T : Run}
def rowCode (f : Str) : CS := (.seq (.ret (.and (.isi "tuple" (.var 0)) (.and (.blt "all" (.cons (.comp (.walk (.var 0)) (.v 1) [1] .no (.call f [.p 0] (.cons (.var 1) .nil) .nil)) .nil)) (.call "does_ascend" [.p 0] (.cons (.var 0) .nil) .nil)))) .pass)
def rowB (F : PyData → Bool) : PyData → Bool
  | .tuple xs => xs.all F && adj xs
  | _ => false
theorem rowB_ok {g f : Str} {F : PyData → Bool} {n : Nat} (hn : 1 ≤ n) (hg : Has T g 2 (rowCode f)) (hF : PuB T n f F) (hA : Has T "does_ascend" 3 c_does_ascend) (look : ∀ x, F x = true → txt x = true) (cmp : ∀ a b, F a = true → F b = true → ∃ r, ltD a b = some r) :
    PuB T (n + 1) g (rowB F) := by
  intro j hj x hx h
  refine Wp.eq ((w_clk hg (by omega)).mpr ?_)
  unfold rowCode
  simp only [w_seq, w_ret, w_blt, w_cons, w_nil, w_comp, w_and, w_isi, w_walk, w_var, w_call]
  cases x with
  | tuple xs =>
    obtain ⟨hl, hm⟩ := hx.tup
    simp [isi_tup hx.nd, isTupD]
    refine wp_comp (s := ⟨xs, none⟩) (fun _ => true) (fun p => .bool (F p)) rfl (small_size hl) (fun p hp => ?_) ?_
    · refine ⟨_, rfl, rfl, fun _ => Wp.eq ?_⟩
      simp only [w_call, w_cons, w_nil, w_var]
      simp [hF (j - 1) (by omega) p (hm p hp)]
    · have ea := all_map F xs
      generalize e : xs.all F = A at ea
      have er : rowB F (.tuple xs) = (A && adj xs) := by rw [← e]; rfl
      simp [ea, er]
      cases A with
      | false => simp
      | true =>
        have e' := List.all_eq_true.mp e
        simp [does_ascend_ok hA (show 1 ≤ j - 1 by omega) hx (txtL_iff.mpr fun d hd => look d (e' d hd)) (fun a ha b hb => cmp a b (e' a ha) (e' b hb))]
  | _ => simp [isi_tup hx.nd, isTupD, rowB]
theorem is_needs_ok (h1 : Has T "is_needs" 2 c_is_needs) (h2 : Has T "is_need" 1 c_is_need) (h3 : Has T "does_ascend" 3 c_does_ascend) : PuB T 2 "is_needs" isNeeds :=
  rowB_ok (F := isNeed) (Nat.le_refl _) h1 (is_need_ok h2) h3 (fun x h => let ⟨s, e, _⟩ := need_str h; txt_str ⟨s, e⟩) fun a b ha hb => lt_strs (let ⟨s, e, _⟩ := need_str ha; ⟨s, e⟩) (let ⟨s, e, _⟩ := need_str hb; ⟨s, e⟩)
theorem is_moments_ok (h1 : Has T "is_moments" 2 c_is_moments) (h2 : Has T "is_moment" 1 c_is_moment) (h3 : Has T "does_ascend" 3 c_does_ascend) : PuB T 2 "is_moments" isMoments :=
  rowB_ok (F := isMoment) (Nat.le_refl _) h1 (is_moment_ok h2) h3 (fun x h => let ⟨s, e, _⟩ := moment_str h; txt_str ⟨s, e⟩) fun a b ha hb => lt_strs (let ⟨s, e, _⟩ := moment_str ha; ⟨s, e⟩) (let ⟨s, e, _⟩ := moment_str hb; ⟨s, e⟩)
theorem eq_int {i k : Int} : cmpSem .Eq (.int i) (.int k) = some (.bool (i == k)) := by
  show (if SeqAt.shaped (.int i) && SeqAt.shaped (.int k) then some (PyData.bool (PyData.eqv (.int i) (.int k))) else none) = _
  rw [show SeqAt.shaped (.int i) = true from rfl, show SeqAt.shaped (.int k) = true from rfl]
  rfl
def isPairOf (F G : PyData → Bool) : PyData → Bool
  | .tuple [a, b] => F a && G b
  | _ => false
def pairCode (f g : Str) : CS := (.seq (.ret (.and (.isi "tuple" (.var 0)) (.and (.cmp .Eq (.blt "len" (.cons (.var 0) .nil)) (.con (.int 2))) (.and (.call f [.p 0] (.cons (.ix (.var 0) (.con (.int 0))) .nil) .nil) (.call g [.p 0] (.cons (.ix (.var 0) (.con (.int 1))) .nil) .nil))))) .pass)
theorem pair_ok {k f g : Str} {F G : PyData → Bool} {n : Nat} (hk : Has T k 1 (pairCode f g)) (hF : PuB T n f F) (hG : PuB T n g G) : PuB T (n + 1) k (isPairOf F G) := by
  intro j hj x hx h
  refine Wp.eq ((w_clk hk (by omega)).mpr ?_)
  unfold pairCode
  simp only [w_seq, w_ret, w_blt, w_cons, w_nil, w_and, w_isi, w_var, w_call, w_cmp, w_con, w_ix]
  cases x with
  | tuple xs =>
    obtain ⟨hl, hm⟩ := hx.tup
    match xs, hl, hm with
    | [a, b], hl, hm =>
      have e0 : ixD (.tuple [a, b]) (.int 0) = some a := rfl
      have e1 : ixD (.tuple [a, b]) (.int 1) = some b := rfl
      simp [isi_tup hx.nd, isTupD, lenD, eq_int, e0, e1, isPairOf, hF (j - 1) (by omega) a (hm a (by simp)), hG (j - 1) (by omega) b (hm b (by simp))]
      cases F a <;> simp
    | [], hl, hm => simp [isi_tup hx.nd, isTupD, lenD, eq_int, isPairOf]
    | [_], hl, hm => simp [isi_tup hx.nd, isTupD, lenD, eq_int, isPairOf]
    | _ :: _ :: _ :: r, hl, hm =>
      have e : ¬ (r.length + 1 + 1 + 1 : Int) = 2 := by omega
      simp [isi_tup hx.nd, isTupD, lenD, eq_int, isPairOf, e]
  | _ => simp [isi_tup hx.nd, isTupD, isPairOf]
theorem isClause_eq : isPairOf isMoment isNeeds = isClause := by
  funext x
  unfold isPairOf isClause
  rfl
theorem PuB.up {n m : Nat} {f : Str} {F : PyData → Bool} (h : PuB T n f F) (hm : n ≤ m) : PuB T m f F := fun j hj x hx h' => h j (by omega) x hx h'
theorem is_clause_ok (h1 : Has T "is_clause" 1 c_is_clause) (h2 : PuB T 1 "is_moment" isMoment) (h3 : PuB T 2 "is_needs" isNeeds) : PuB T 3 "is_clause" isClause := by
  rw [← isClause_eq]
  exact pair_ok h1 (h2.up (by omega)) h3
theorem is_rule_ok (h1 : Has T "is_rule" 2 c_is_rule) (h2 : PuB T 3 "is_clause" isClause) (h3 : Has T "does_ascend" 3 c_does_ascend) : PuB T 4 "is_rule" isRule :=
  rowB_ok (F := isClause) (by omega) h1 h2 h3 (fun x h => cls_txt (clause_look h)) fun a b ha hb => cls_lt (clause_look ha) (clause_look hb)
end RB
/-! RP6: the kinds, as the laws tell them. -/
namespace RB
open PySem PySem.Spec L2
variable {T : Run}
theorem Nice.sub {xs ys : List PyData} (h : Nice (.tuple xs)) (hm : ∀ y ∈ ys, y ∈ xs) (hl : ys.length ≤ xs.length) : Nice (.list ys) := by
  obtain ⟨d, hd, h⟩ := h
  cases d with
  | zero => unfold Fine at h; exact h.elim
  | succ d =>
    unfold Fine at h
    exact ⟨d + 1, hd, by unfold Fine; exact ⟨Nat.le_trans hl h.1, fun x hx => h.2 x (hm x hx)⟩⟩
theorem Nice.mk {xs : List PyData} (h : ∀ x ∈ xs, ∃ d, d ≤ 29 ∧ Fine 2000 2000 d x) (hl : xs.length ≤ 2000) : Nice (.tuple xs) := by
  refine ⟨30, Nat.le_refl _, ?_⟩
  unfold Fine
  exact ⟨hl, fun x hx => let ⟨d, hd, f⟩ := h x hx; f.mono (Nat.le_refl _) (Nat.le_refl _) (by omega)⟩
theorem ne_nil {zs : List PyData} (h : SeqAt.shaped (.list zs) = true) : cmpSem .NotEq (.list zs) (.list []) = some (.bool (!zs.isEmpty)) := by
  show (if SeqAt.shaped (.list zs) && SeqAt.shaped (.list []) then some (PyData.bool (!PyData.eqv (.list zs) (.list []))) else none) = _
  rw [h, show SeqAt.shaped (.list []) = true from by decide]
  cases zs <;> rfl
theorem eq_nil {zs : List PyData} (h : SeqAt.shaped (.list zs) = true) : cmpSem .Eq (.list zs) (.list []) = some (.bool zs.isEmpty) := by
  show (if SeqAt.shaped (.list zs) && SeqAt.shaped (.list []) then some (PyData.bool (PyData.eqv (.list zs) (.list []))) else none) = _
  rw [h, show SeqAt.shaped (.list []) = true from by decide]
  cases zs <;> rfl
theorem eq_lst {xs ys : List PyData} (h1 : SeqAt.shaped (.list xs) = true) (h2 : SeqAt.shaped (.list ys) = true) : cmpSem .Eq (.list xs) (.list ys) = some (.bool (PyData.eqvAll xs ys)) := by
  show (if SeqAt.shaped (.list xs) && SeqAt.shaped (.list ys) then some (PyData.bool (PyData.eqv (.list xs) (.list ys))) else none) = _
  rw [h1, h2]
  rfl
theorem filt_empty {α : Type} {p : α → Bool} : ∀ {xs : List α}, (xs.filter p).isEmpty = xs.all fun x => !p x
  | [] => rfl
  | x :: xs => by
    rw [List.filter_cons, List.all_cons]
    cases p x with
    | true => rfl
    | false => exact filt_empty
theorem map_id' {xs : List PyData} : xs.map (fun x => x) = xs := List.map_id' xs
@[simp] theorem mk_nil : mkLst [] = some (.d (.list [])) := rfl
theorem not_b {b : Bool} : unU notD [] (.d (.bool b)) = some (.d (.bool (!b))) := rfl
@[simp] theorem notD_b {b : Bool} : notD (.bool b) = some (.bool (!b)) := rfl
/-! ### moments -/
theorem law_is_moment_ok (hT : Has T "_law_is_moment" 1 c_law_is_moment) : PuB T 1 "_law_is_moment" isMoment := by
  intro j hj x hx h
  refine Wp.eq ((w_clk hT hj).mpr ?_)
  unfold c_law_is_moment
  have e := in_lst (zs := momentsL) hx.sh (by decide +kernel)
  unfold momentsL at e
  have em : mkLst [.d (.str "gone"), .d (.str "left"), .d (.str "made"), .d (.str "read"), .d (.str "right"), .d (.str "turned")] = some (.d (.list [.str "gone", .str "left", .str "made", .str "read", .str "right", .str "turned"])) := rfl
  simp only [w_seq, w_ret, w_and, w_isi, w_var, w_cmp, w_con, w_lst, w_cons, w_nil]
  simp [isi_str hx.nd, em, e, isMoment, momentsL]
  cases isStrD x <;> simp
/-! ### needs -/
theorem asc_needs : Asc needsL := adj_asc.mp (by decide +kernel)
theorem txt_needs : txtL needsL = true := by decide +kernel
theorem in_needs {x : PyData} (h : isNeed x = true ∨ x ∈ needsL) : isNeed x = true ∧ x ∈ needsL := by
  rcases h with h | h
  · exact ⟨h, let ⟨_, _, e⟩ := need_str h; e⟩
  · refine ⟨?_, h⟩
    have key : ∀ x ∈ needsL, isNeed x = true := by decide +kernel
    exact key x h
theorem needs_law {xs : List PyData} (hs : ∀ x ∈ xs, isStrD x = true) : PyData.eqvAll (needsL.filter fun k => xs.any fun z => PyData.eqv z k) xs = (xs.all isNeed && adj xs) := by
  have tx : txtL xs = true := txtL_iff.mpr fun d hd => by
    have := hs d hd
    cases d <;> first | rfl | cases this
  have tf : txtL (needsL.filter fun k => xs.any fun z => PyData.eqv z k) = true := txtL_iff.mpr fun d hd => txtL_mem txt_needs d (List.mem_filter.mp hd).1
  have mem : ∀ k, k ∈ needsL → ((xs.any fun z => PyData.eqv z k) = true ↔ k ∈ xs) := fun k hk => by
    rw [List.any_eq_true]
    exact ⟨fun ⟨z, hz, e⟩ => (eqv_eq (txtL_mem tx z hz) (txtL_mem txt_needs k hk)).mp e ▸ hz, fun hz => ⟨k, hz, (eqv_eq (txtL_mem tx k hz) (txtL_mem txt_needs k hk)).mpr rfl⟩⟩
  have key : PyData.eqvAll (needsL.filter fun k => xs.any fun z => PyData.eqv z k) xs = true ↔ (xs.all isNeed && adj xs) = true := by
    rw [eqvL_eq tf tx, Bool.and_eq_true, adj_asc, List.all_eq_true]
    have fa : Asc (needsL.filter fun k => xs.any fun z => PyData.eqv z k) := asc_needs.sublist List.filter_sublist
    refine ⟨fun e => ⟨fun x hx => ?_, by rw [← e]; exact fa⟩, fun ⟨h1, h2⟩ => asc_unique fa h2 fun x => ?_⟩
    · rw [← e] at hx
      exact (in_needs (.inr (List.mem_filter.mp hx).1)).1
    · rw [List.mem_filter]
      refine ⟨fun ⟨a, b⟩ => (mem x a).mp b, fun hx => ?_⟩
      have hk := (in_needs (.inl (h1 x hx))).2
      exact ⟨hk, (mem x hk).mpr hx⟩
  cases e1 : PyData.eqvAll (needsL.filter fun k => xs.any fun z => PyData.eqv z k) xs with
  | true => exact (key.mp e1).symm
  | false =>
    cases e2 : (xs.all isNeed && adj xs) with
    | false => rfl
    | true => rw [key.mpr e2] at e1; cases e1
theorem law_is_needs_ok (hT : Has T "_law_is_needs" 3 c_law_is_needs) : PuB T 1 "_law_is_needs" isNeeds := by
  intro j hj x hx h
  refine Wp.eq ((w_clk hT hj).mpr ?_)
  unfold c_law_is_needs
  have em : mkLst [.d (.str "maker"), .d (.str "name"), .d (.str "picture"), .d (.str "reader")] = some (.d (.list needsL)) := rfl
  simp only [w_seq, w_ret, w_or, w_not, w_isi, w_var, w_cmp, w_con, w_lst, w_cons, w_nil, w_ite, w_comp, w_walk, w_asg, w_blt, w_pass]
  cases x with
  | tuple xs =>
    obtain ⟨hl, hm⟩ := hx.tup
    simp [isi_tup hx.nd, isTupD]
    refine wp_comp (s := ⟨xs, none⟩) (fun p => !isStrD p) (fun p => p) rfl (small_size hl) (fun p hp => ?_) ?_
    · refine ⟨_, rfl, Wp.eq ?_, fun _ => Wp.eq ?_⟩
      · simp only [w_te, w_not, w_isi, w_var]
        simp [isi_str (hm p hp).nd]
      · simp
    · have e1 : cmpSem .NotEq (.list (xs.filter fun p => !isStrD p)) (.list []) = some (.bool (!(xs.all isStrD))) := by
        rw [ne_nil (hx.sub (fun y hy => (List.mem_filter.mp hy).1) (List.length_filter_le _ _)).sh, filt_empty]
        simp
      simp only [map_id']
      generalize e2 : xs.all isStrD = A at e1
      simp only [e1]
      cases A with
      | false =>
        have er : isNeeds (.tuple xs) = false := by
          have e3 : xs.all isNeed = false := by
            cases e4 : xs.all isNeed with
            | false => rfl
            | true =>
              have e5 : xs.all isStrD = true := List.all_eq_true.mpr fun z hz => by
                obtain ⟨s, rfl, _⟩ := need_str (List.all_eq_true.mp e4 z hz)
                rfl
              rw [e5] at e2
              cases e2
          show (xs.all isNeed && adj xs) = false
          rw [e3]
          rfl
        simp [er]
      | true =>
        have hs := List.all_eq_true.mp e2
        simp [em]
        refine wp_comp (s := ⟨needsL, none⟩) (fun k => xs.any fun z => PyData.eqv z k) (fun p => p) rfl (by decide) (fun p hp => ?_) ?_
        · have hps : SeqAt.shaped p = true := by
            have key : ∀ p ∈ needsL, SeqAt.shaped p = true := by decide +kernel
            exact key p hp
          refine ⟨_, rfl, Wp.eq ?_, fun _ => Wp.eq ?_⟩
          · simp only [w_te, w_cmp, w_var]
            simp [in_tup hps hx.sh]
          · simp
        · have e3 : cmpSem .Eq (.list (needsL.filter fun k => xs.any fun z => PyData.eqv z k)) (.list xs) = some (.bool (isNeeds (.tuple xs))) := by
            rw [eq_lst ?_ hx.lstOf.sh, needs_law hs]
            · rfl
            · have hn : Nice (.tuple needsL) := Nice.mk (fun x hx => ⟨0, by omega, by
                have key : ∀ x ∈ needsL, ∃ s : Str, x = .str s ∧ PyData.strOk s = true ∧ s.length ≤ 2000 := by
                  intro x hx
                  simp only [needsL, List.mem_cons, List.not_mem_nil, or_false] at hx
                  rcases hx with rfl | rfl | rfl | rfl <;> exact ⟨_, rfl, by decide +kernel, by decide +kernel⟩
                obtain ⟨s, rfl, a, b⟩ := key x hx
                unfold Fine
                exact ⟨a, b⟩⟩) (by decide)
              exact (hn.sub (fun y hy => (List.mem_filter.mp hy).1) (List.length_filter_le _ _)).sh
          simp [listB, map_id', e3]
  | _ => simp [isi_tup hx.nd, isTupD, isNeeds]
end RB
/-! RP7: rows that are sorted, as the laws tell them. -/
namespace RB
open PySem PySem.Spec L2
variable {T : Run}
def short : PyData → Bool
  | .tuple xs => decide (xs.length < 64)
  | _ => true
/-- .. of values that are not longer than 63 -/
def PuS (T : Run) (n : Nat) (f : Str) (F : PyData → Bool) : Prop := ∀ j, n ≤ j → ∀ x, Nice x → short x = true → ∀ h, clk T j f [.d x] h = .ok (.d (.bool (F x))) h
theorem PuB.s {n : Nat} {f : Str} {F : PyData → Bool} (h : PuB T n f F) : PuS T n f F := fun j hj x hx _ h' => h j hj x hx h'
theorem PuS.up {n m : Nat} {f : Str} {F : PyData → Bool} (h : PuS T n f F) (hm : n ≤ m) : PuS T m f F := fun j hj x hx hs h' => h j (by omega) x hx hs h'
def planCode (f : Str) : CS := (.seq (.ite (.or (.not (.isi "tuple" (.var 0))) (.cmp .NotEq (.comp (.walk (.var 0)) (.v 1) [1] (.so (.not (.call f [.p 0] (.cons (.var 1) .nil) .nil))) (.var 1)) (.lst .nil))) (.seq (.ret (.con (.bool false))) .pass) .pass)
  (.seq (.ret (.cmp .Eq (.blt "list" (.cons (.var 0) .nil)) (.srt (.cons (.var 0) .nil)))) .pass))
theorem sort_mem {ds : List PyData} (h : txtL ds = true) : ∀ x ∈ sortT ds, x ∈ ds := fun x hx => ((sortT_all h).2.2 x).mp hx
theorem insT_len (d : PyData) : ∀ l : List PyData, (insT d l).length ≤ l.length + 1
  | [] => by simp [insT]
  | e :: r => by
    rw [insT]
    split
    · simp
    · split
      · have := insT_len d r
        simp only [List.length_cons]
        omega
      · simp
theorem sortT_len : ∀ ds : List PyData, (sortT ds).length ≤ ds.length
  | [] => by simp [sortT]
  | d :: ds => by
    rw [sortT]
    have h1 := insT_len d (sortT ds)
    have h2 := sortT_len ds
    simp only [List.length_cons]
    omega
/-- what the sorting asks -/
structure Srt (F : PyData → Bool) : Prop where
  txt : ∀ x, F x = true → txt x = true
  lt : ∀ a b, F a = true → F b = true → ∃ r, ltD a b = some r
  depth : ∀ x, F x = true → x.depth ≤ 8
  kind : (∀ x, F x = true → isStr x = true) ∨ ∀ x, F x = true → isTup1 x = true
theorem okSort_mk {F : PyData → Bool} (S : Srt F) {xs : List PyData} (hx : ∀ x ∈ xs, F x = true ∧ x.canLay0 = true) (hl : xs.length < 64) : okSort xs = true := by
  unfold okSort
  simp only [Bool.and_eq_true, Bool.or_eq_true, List.all_eq_true, decide_eq_true_eq]
  refine ⟨⟨⟨⟨txtL_iff.mpr fun d hd => S.txt d (hx d hd).1, hl⟩, ?_⟩, fun d hd => ⟨(hx d hd).2, S.depth d (hx d hd).1⟩⟩, fun d hd e he => ?_⟩
  · rcases S.kind with k | k
    · exact .inl fun d hd => k d (hx d hd).1
    · exact .inr fun d hd => k d (hx d hd).1
  · obtain ⟨r, e⟩ := S.lt d e (hx d hd).1 (hx e he).1
    rw [e]
    rfl
theorem plan_ok {g f : Str} {F : PyData → Bool} {n : Nat} (hn : 1 ≤ n) (hg : Has T g 2 (planCode f)) (hF : PuB T n f F) (S : Srt F) : PuS T (n + 1) g (rowB F) := by
  intro j hj x hx hs h
  refine Wp.eq ((w_clk hg (by omega)).mpr ?_)
  unfold planCode
  simp only [w_seq, w_ret, w_or, w_not, w_isi, w_var, w_cmp, w_con, w_lst, w_cons, w_nil, w_ite, w_comp, w_walk, w_asg, w_blt, w_pass, w_srt]
  cases x with
  | tuple xs =>
    obtain ⟨hl, hm⟩ := hx.tup
    simp [isi_tup hx.nd, isTupD]
    refine wp_comp (s := ⟨xs, none⟩) (fun p => !F p) (fun p => p) rfl (small_size hl) (fun p hp => ?_) ?_
    · refine ⟨_, rfl, Wp.eq ?_, fun _ => Wp.eq ?_⟩
      · simp only [w_te, w_not, w_call, w_cons, w_nil, w_var]
        simp [hF (j - 1) (by omega) p (hm p hp)]
      · simp
    · have e1 : cmpSem .NotEq (.list (xs.filter fun p => !F p)) (.list []) = some (.bool (!(xs.all F))) := by
        rw [ne_nil (hx.sub (fun y hy => (List.mem_filter.mp hy).1) (List.length_filter_le _ _)).sh, filt_empty]
        simp
      simp only [map_id']
      have er : rowB F (.tuple xs) = (xs.all F && adj xs) := rfl
      generalize e2 : xs.all F = A at e1 er
      simp only [e1]
      cases A with
      | false => simp [er]
      | true =>
        have hs2 := List.all_eq_true.mp e2
        have tx : txtL xs = true := txtL_iff.mpr fun d hd => S.txt d (hs2 d hd)
        have ok : okSort xs = true := okSort_mk S (fun x hx' => ⟨hs2 x hx', SeqAt.canLay_of_shaped (hm x hx').sh⟩) (of_decide_eq_true hs)
        have e3 : sortSetB [.tuple xs] = some (.list (sortT xs)) := by
          show (if okSort xs then some (PyData.list (sortT xs)) else none) = _
          rw [ok]
          rfl
        have e4 : cmpSem .Eq (.list xs) (.list (sortT xs)) = some (.bool (adj xs)) := by
          rw [eq_lst hx.lstOf.sh (hx.sub (sort_mem tx) (sortT_len xs)).sh, sort_self tx]
        simp [listB, e3, e4, er]
  | _ => simp [isi_tup hx.nd, isTupD, rowB]
theorem srt_moment : Srt isMoment where
  txt := fun x h => let ⟨s, e, _⟩ := moment_str h; txt_str ⟨s, e⟩
  lt := fun a b ha hb => lt_strs (let ⟨s, e, _⟩ := moment_str ha; ⟨s, e⟩) (let ⟨s, e, _⟩ := moment_str hb; ⟨s, e⟩)
  depth := fun x h => by
    obtain ⟨s, rfl, _⟩ := moment_str h
    simp [PyData.depth]
  kind := .inl fun x h => by
    obtain ⟨s, rfl, _⟩ := moment_str h
    rfl
theorem strs_depth {ts : List PyData} (h : ∀ t ∈ ts, ∃ u, t = .str u) : PyData.depthAll ts ≤ 0 := depthAll_le.mpr fun x hx => by
  obtain ⟨u, rfl⟩ := h x hx
  simp [PyData.depth]
theorem srt_clause : Srt isClause where
  txt := fun x h => cls_txt (clause_look h)
  lt := fun a b ha hb => cls_lt (clause_look ha) (clause_look hb)
  depth := fun x h => by
    obtain ⟨s, ts, rfl, ht⟩ := clause_look h
    have := strs_depth ht
    simp only [PyData.depth, PyData.depthAll]
    omega
  kind := .inr fun x h => by
    obtain ⟨s, ts, rfl, ht⟩ := clause_look h
    rfl
theorem law_is_pair_ok (h1 : Has T "_law_is_pair" 1 c_law_is_pair) (h2 : PuB T 1 "_law_is_moment" isMoment) (h3 : PuB T 1 "_law_is_needs" isNeeds) : PuB T 2 "_law_is_pair" isClause := by
  rw [← isClause_eq]
  exact pair_ok h1 h2 h3
theorem law_is_plan_ok (h1 : Has T "_law_is_plan" 2 c_law_is_plan) (h2 : PuB T 2 "_law_is_pair" isClause) : PuS T 3 "_law_is_plan" isRule := plan_ok (F := isClause) (by omega) h1 h2 srt_clause
theorem law_is_parts_ok (h1 : Has T "_law_is_parts" 2 c_law_is_parts) (h2 : PuB T 1 "_law_is_moment" isMoment) : PuS T 2 "_law_is_parts" isMoments := plan_ok (F := isMoment) (by omega) h1 h2 srt_moment
end RB
/-! RP8: what is drawn. -/
namespace RB
open PySem PySem.Spec L2
variable {T : Run} {X : XQ}
def feedK (ns : List Int) (s lf t : Int) : List (Str × PyData) := [("cells", .list (ns.map .int)), ("spot", .int s), ("left", .int lf), ("turns", .int t)]
def Feed (o : O) : Prop := ∃ ns s lf t, o = .dct (feedK ns s lf t) ∧ ns.length ≤ 63
section
variable {ns : List Int} {s lf t v : Int}
theorem fk_cells : getP (feedK ns s lf t) "cells" = some (.list (ns.map .int)) := rfl
theorem fk_spot : getP (feedK ns s lf t) "spot" = some (.int s) := rfl
theorem fk_left : getP (feedK ns s lf t) "left" = some (.int lf) := rfl
theorem fk_turns : getP (feedK ns s lf t) "turns" = some (.int t) := rfl
theorem fp_spot : putP (feedK ns s lf t) "spot" (.int v) = feedK ns v lf t := rfl
theorem fp_left : putP (feedK ns s lf t) "left" (.int v) = feedK ns s v t := rfl
theorem fp_turns : putP (feedK ns s lf t) "turns" (.int v) = feedK ns s lf v := rfl
theorem fk_dct {r : AH} : dctAt (.dct (feedK ns s lf t) :: r) (.r 0) = some (feedK ns s lf t) := rfl
theorem fk_put {r : AH} {k : Str} {d : PyData} : putAt (.dct (feedK ns s lf t) :: r) (.r 0) (.d (.str k)) (.d d) = some (.dct (putP (feedK ns s lf t) k d) :: r) := by
  show (if (feedK ns s lf t).length < sizeLine then some (List.set (O.dct (feedK ns s lf t) :: r) 0 (.dct (putP (feedK ns s lf t) k d))) else none) = _
  rw [if_pos (show (feedK ns s lf t).length < sizeLine from (by decide : 4 < sizeLine))]
  rfl
end
/-! ### numbers -/
theorem bi_add {a b : Int} : binSem .Add (.int a) (.int b) = some (.int (a + b)) := rfl
theorem bi_sub {a b : Int} : binSem .Sub (.int a) (.int b) = some (.int (a - b)) := rfl
theorem bi_mod {a b : Int} (h : 0 < b) : binSem .Mod (.int a) (.int b) = some (.int (a % b)) := by
  show (if 0 < b then some (PyData.int (a % b)) else none) = _
  rw [if_pos h]
theorem bi_fdiv {a b : Int} (h : 0 < b) (h2 : b < 1073741824) : binSem .FloorDiv (.int a) (.int b) = some (.int (a / b)) := by
  show (if 0 < b ∧ b < 1073741824 then some (PyData.int (a / b)) else none) = _
  rw [if_pos ⟨h, h2⟩]
theorem bi_mulR {a b : Int} (h : -(2 ^ 64) < b ∧ b < 2 ^ 64) : binSem .Mult (.int a) (.int b) = some (.int (a * b)) := by
  show (if (-(2 ^ 64) < a ∧ a < 2 ^ 64) ∨ (-(2 ^ 64) < b ∧ b < 2 ^ 64) then some (PyData.int (a * b)) else none) = _
  rw [if_pos (.inr h)]
theorem bi_mulL {a b : Int} (h : -(2 ^ 64) < a ∧ a < 2 ^ 64) : binSem .Mult (.int a) (.int b) = some (.int (a * b)) := by
  show (if (-(2 ^ 64) < a ∧ a < 2 ^ 64) ∨ (-(2 ^ 64) < b ∧ b < 2 ^ 64) then some (PyData.int (a * b)) else none) = _
  rw [if_pos (.inl h)]
theorem ci_gt {a b : Int} : cmpSem .Gt (.int a) (.int b) = some (.bool (decide (b < a))) := rfl
theorem ci_ge {a b : Int} : cmpSem .GtE (.int a) (.int b) = some (.bool (decide (b ≤ a))) := rfl
theorem ci_le {a b : Int} : cmpSem .LtE (.int a) (.int b) = some (.bool (decide (a ≤ b))) := rfl
theorem ci_lt {a b : Int} : cmpSem .Lt (.int a) (.int b) = some (.bool (decide (a < b))) := by
  show (if SeqAt.shaped (.int a) && SeqAt.shaped (.int b) then (ltD (.int a) (.int b)).map PyData.bool else none) = _
  rw [show SeqAt.shaped (.int a) = true from rfl, show SeqAt.shaped (.int b) = true from rfl, ltD]
  rfl
@[simp] theorem intB_i {a : Int} : intB [.int a] = some (.int a) := rfl
theorem ints_shaped (ns : List Int) : SeqAt.shaped (.list (ns.map .int)) = true := by
  have h1 : PyData.canLayAll0 (ns.map PyData.int) = true := canLayAll_iff.mpr fun x hx => by
    obtain ⟨i, _, rfl⟩ := List.mem_map.mp hx
    rfl
  have h2 : PyData.depthAll (ns.map PyData.int) ≤ 0 := depthAll_le.mpr fun x hx => by
    obtain ⟨i, _, rfl⟩ := List.mem_map.mp hx
    simp [PyData.depth]
  unfold SeqAt.shaped
  rw [PyData.canLay0, PyData.depth, h1, decide_eq_true (by omega)]
  rfl
theorem at_int (ns : List Int) {i : Int} (h : 0 ≤ i) (h2 : i < ns.length) : ∃ c, ixD (.list (ns.map .int)) (.int i) = some (.int c) := by
  have e : ixN (ns.map PyData.int).length i = some i.toNat := by
    unfold ixN
    rw [if_pos h, if_pos (by rw [List.length_map]; exact h2)]
  have hi : i.toNat < ns.length := by omega
  refine ⟨ns[i.toNat], ?_⟩
  show atI (ns.map PyData.int) i = _
  unfold atI
  rw [e]
  show (ns.map PyData.int)[i.toNat]? = _
  rw [List.getElem?_map, List.getElem?_eq_getElem hi]
  rfl
/-- a drawn value, the feed behind it -/
def Dq (r : AH) (P : PyData → Prop) : U → AH → Prop := fun u h => ∃ x o, u = .d x ∧ P x ∧ Feed o ∧ h = o :: r
def Below (b : Int) (x : PyData) : Prop := ∃ i, x = .int i ∧ 0 ≤ i ∧ i < b
theorem mod_below {a b : Int} (h : 0 < b) : Below b (.int (a % b)) := ⟨_, rfl, Int.emod_nonneg _ (by omega), Int.emod_lt_of_pos _ h⟩
theorem draw_ok {y z : Int} (hT : Has T "_law_draw" 7 (c_law_draw y z)) {j : Nat} (hj : 1 ≤ j) {o : O} (ho : Feed o) {b : Int} (hb : 0 < b) (hb2 : b < 1073741824) (r : AH) :
    Wp (clk T j "_law_draw" [.r 0, .d (.int b)] (o :: r)) (Dq r (Below b)) X := by
  obtain ⟨ns, s, lf, t, rfl, hn⟩ := ho
  refine (w_clk hT hj).mpr ?_
  unfold c_law_draw
  have fin : ∀ (i : Int) (s' lf' t' : Int), Below b (.int i) → Bk (List.length (O.dct (feedK ns s lf t) :: r)) (Dq r (Below b)) (.rt (.d (.int i))) (O.dct (feedK ns s' lf' t') :: r) := fun i s' lf' t' hi => ⟨_, _, rfl, hi, ⟨ns, s', lf', t', rfl, hn⟩, by simp⟩
  refine seq_step (fun l1 h1 => l1 = [some (.r 0), some (.d (.int b)), none, none, none, none, none] ∧ h1 = .dct (feedK ns s lf (t + 1)) :: r) ?_ ?_
  · simp [fk_dct, asK, fk_turns, bi_add, fk_put, fp_turns]
  rintro l1 h1 ⟨rfl, rfl⟩
  refine seq_step (fun l1 h1 => l1 = [some (.r 0), some (.d (.int b)), none, none, none, none, none] ∧ h1 = .dct (feedK ns s lf (t + 1)) :: r) ?_ ?_
  · simp only [w_ite, w_cmp, w_dget, w_var, w_con, w_pass]
    simp [fk_dct, asK, fk_left, ci_gt]
    by_cases hlf : 0 < lf
    · exact .inr ⟨hlf, _, bi_mod hb, _, bi_fdiv hb hb2, _, fk_put, fin _ _ _ _ (mod_below hb)⟩
    · exact .inl (by omega)
  rintro l1 h1 ⟨rfl, rfl⟩
  refine seq_step (fun l1 h1 => l1 = [some (.r 0), some (.d (.int b)), none, some (.d (.list (ns.map .int))), some (.d (.int s)), none, none] ∧ h1 = .dct (feedK ns s lf (t + 1)) :: r) ?_ ?_
  · simp [fk_dct, asK, fk_cells, fk_spot]
  rintro l1 h1 ⟨rfl, rfl⟩
  refine seq_step (fun l1 h1 => l1 = [some (.r 0), some (.d (.int b)), none, some (.d (.list (ns.map .int))), some (.d (.int s)), none, none] ∧ h1 = .dct (feedK ns (s + 1) lf (t + 1)) :: r) ?_ ?_
  · simp [bi_add, fk_put, fp_spot]
  rintro l1 h1 ⟨rfl, rfl⟩
  refine seq_step (fun l1 h1 => ∃ c : Int, l1 = [some (.r 0), some (.d (.int b)), none, some (.d (.list (ns.map .int))), some (.d (.int s)), some (.d (.int c)), none] ∧ h1 = .dct (feedK ns (s + 1) lf (t + 1)) :: r) ?_ ?_
  · simp only [w_asg, w_ifx, w_cmp, w_var, w_lst, w_nil, w_ix, w_bin, w_blt, w_cons, w_con]
    simp [ne_nil (ints_shaped ns), lenD]
    by_cases e : ns = []
    · exact .inl e
    · refine .inr ⟨e, ?_⟩
      have h0 : (0 : Int) < ns.length := by
        cases ns with
        | nil => simp at e
        | cons _ _ => simp only [List.length_cons]; omega
      obtain ⟨c, ec⟩ := at_int ns (Int.emod_nonneg s (by omega : (ns.length : Int) ≠ 0)) (Int.emod_lt_of_pos s h0)
      exact ⟨_, bi_mod h0, _, ec, c, rfl⟩
  rintro l1 h1 ⟨c, rfl, rfl⟩
  refine seq_step (fun l1 h1 => l1 = [some (.r 0), some (.d (.int b)), none, some (.d (.list (ns.map .int))), some (.d (.int s)), some (.d (.int c)), none] ∧ h1 = .dct (feedK ns (s + 1) lf (t + 1)) :: r) ?_ ?_
  · simp only [w_ite, w_and, w_cmp, w_var, w_bin, w_con, w_blt, w_cons, w_nil, w_pass]
    have ep : binSem .Pow (.int 10) (.int 18) = some (.int 1000000000000000000) := rfl
    simp [ep, ci_ge, lenD, ci_lt]
    by_cases e1 : (1000000000000000000 : Int) ≤ c
    · refine .inr ⟨e1, ?_⟩
      by_cases e2 : s < ns.length
      · exact .inr ⟨e2, _, bi_fdiv hb hb2, _, fk_put, _, bi_mod hb, fin _ _ _ _ (mod_below hb)⟩
      · exact .inl (by omega)
    · exact .inl (by omega)
  rintro l1 h1 ⟨rfl, rfl⟩
  refine seq_step (fun l1 h1 => ∃ m : Int, 0 ≤ m ∧ m < 2147483629 ∧ l1 = [some (.r 0), some (.d (.int b)), none, some (.d (.list (ns.map .int))), some (.d (.int s)), some (.d (.int c)), some (.d (.int m))] ∧ h1 = .dct (feedK ns (s + 1) lf (t + 1)) :: r) ?_ ?_
  · simp only [w_asg, w_bin, w_blt, w_cons, w_nil, w_var, w_con, w_dget]
    have k1 : (0 : Int) < 1000000409 := by decide
    have k2 : (0 : Int) < 2147483629 := by decide
    simp [bi_mod k1, bi_mod k2, bi_mulR (a := c % 1000000409) (b := 2311) (by decide), bi_mulL (a := 92821) (b := t + 1) (by decide), fk_dct, asK, fk_turns, bi_add]
    exact ⟨Int.emod_nonneg _ (by decide), Int.emod_lt_of_pos _ (by decide)⟩
  rintro l1 h1 ⟨m, hm1, hm2, rfl, rfl⟩
  refine seq_step (fun l1 h1 => ∃ m : Int, 0 ≤ m ∧ m < 2147483629 ∧ l1 = [some (.r 0), some (.d (.int b)), none, some (.d (.list (ns.map .int))), some (.d (.int s)), some (.d (.int c)), some (.d (.int m))] ∧ h1 = .dct (feedK ns (s + 1) lf (t + 1)) :: r) ?_ ?_
  · simp only [w_asg, w_bin, w_blt, w_cons, w_nil, w_var, w_con, w_dget]
    have k2 : (0 : Int) < 2147483587 := by decide
    simp [bi_mod k2, bi_mulR (a := m) (b := m) (by omega), bi_mulL (a := 6311) (b := t + 1) (by decide), fk_dct, asK, fk_turns, bi_add]
    exact ⟨Int.emod_nonneg _ (by decide), Int.lt_trans (Int.emod_lt_of_pos _ (by decide)) (by decide)⟩
  rintro l1 h1 ⟨m, hm1, hm2, rfl, rfl⟩
  have k2 : (0 : Int) < 2147483563 := by decide
  have k3 : (0 : Int) < 64 := by decide
  simp only [w_seq, w_ret, w_pass, w_bin, w_blt, w_cons, w_nil, w_var, w_con]
  simp [bi_mod hb, bi_mod k2, bi_fdiv k3 (by decide), bi_mulR (a := m) (b := m) (by omega), bi_mulL (a := 389) (b := m) (by decide), bi_add]
  exact ⟨_, _, rfl, mod_below hb, ⟨_, _, _, _, rfl, hn⟩, rfl⟩
end RB
/-! RP9: picks, needs, pairs, rules that are drawn. -/
namespace RB
open PySem PySem.Spec L2
variable {T : Run} {X : XQ}
theorem wp_eq {α : Type} {r : R α} {a : α} {h1 : AH} {Q : α → AH → Prop} (e : r = .ok a h1) (q : Q a h1) : Wp r Q X := by rw [e]; exact q
/-- a comprehension that draws -/
theorem wp_compD {items : List PyData} {tg : Tg} {lw : Lc} {t : FT} {e : FE} {Q : List PyData → AH → Prop} (J : List PyData → List PyData → AH → Prop)
    (step : ∀ x xs acc h, J (x :: xs) acc h → acc.length < sizeLine ∧ ∃ l2, tg.put (.d x) lw = some l2 ∧ Wp (t l2 h) (fun b h1 => if b = true then Wp (e l2 h1) (fun y h2 => ∃ d, y = .d d ∧ J xs (acc ++ [d]) h2) noE else J xs acc h1) noE)
    (fin : ∀ acc h, J [] acc h → Q acc h) : ∀ (xs acc : List PyData) (h : AH), J xs acc h → Wp (compGo ⟨items, none⟩ tg lw t e xs acc h) Q X
  | [], acc, h, j => by
    unfold compGo
    simp [walkOk]
    exact fin acc h j
  | x :: xs, acc, h, j => by
    obtain ⟨hl, l2, e1, w⟩ := step x xs acc h j
    unfold compGo
    simp only [walkOk, if_true, e1, wp_bind]
    obtain ⟨b, h1, e2, q⟩ := w.ex
    rw [e2]
    simp only [noX, wp_ok]
    cases b with
    | true =>
      simp only [if_true] at q
      obtain ⟨y, h2, e3, d, rfl, q2⟩ := q.ex
      simp only [wp_bind, e3, noX, wp_ok, asD, if_pos hl]
      exact wp_compD J step fin xs _ _ q2
    | false => exact wp_compD J step fin xs _ _ (by simpa using q)
theorem at_mem {xs : List PyData} {i : Int} (h : 0 ≤ i) (h2 : i < xs.length) : ∃ x ∈ xs, ixD (.list xs) (.int i) = some x := by
  have e : ixN xs.length i = some i.toNat := by
    unfold ixN
    rw [if_pos h, if_pos h2]
  have hi : i.toNat < xs.length := by omega
  refine ⟨xs[i.toNat], List.getElem_mem hi, ?_⟩
  show atI xs i = _
  unfold atI
  rw [e]
  exact List.getElem?_eq_getElem hi
theorem pick_d {y z : Int} (hT : Has T "_law_draw" 7 (c_law_draw y z)) (hP : Has T "_law_pick" 2 c_law_pick) {j : Nat} (hj : 2 ≤ j) {o : O} (ho : Feed o) {xs : List PyData} (h1 : xs ≠ []) (h2 : xs.length ≤ 2000) (r : AH) :
    Wp (clk T j "_law_pick" [.r 0, .d (.list xs)] (o :: r)) (Dq r (· ∈ xs)) X := by
  refine (w_clk hP (by omega)).mpr ?_
  unfold c_law_pick
  have h0 : 0 < xs.length := List.length_pos_iff.mpr h1
  simp only [w_seq, w_ret, w_ix, w_var, w_call, w_cons, w_nil, w_blt]
  simp [lenD]
  refine (draw_ok hT (show 1 ≤ j - 1 by omega) ho (b := xs.length) (by omega) (by omega) r).imp ?_
  rintro u h' ⟨v, o', rfl, ⟨i, rfl, i1, i2⟩, fo, rfl⟩
  obtain ⟨x, hx, e⟩ := at_mem i1 i2
  simp [e]
  exact ⟨x, o', rfl, hx, fo, rfl⟩
theorem pick_r {y z : Int} (hT : Has T "_law_draw" 7 (c_law_draw y z)) (hP : Has T "_law_pick" 2 c_law_pick) {j : Nat} (hj : 2 ≤ j) {o : O} (ho : Feed o) {xs : List PyData} (h1 : xs ≠ []) (h2 : xs.length ≤ 2000) (r : AH) {n : Nat} (hn : r[n]? = some (.lst xs)) :
    Wp (clk T j "_law_pick" [.r 0, .r (n + 1)] (o :: r)) (Dq r (· ∈ xs)) X := by
  refine (w_clk hP (by omega)).mpr ?_
  unfold c_law_pick
  have h0 : 0 < xs.length := List.length_pos_iff.mpr h1
  have ed : ∀ o : O, datU (o :: r) (.r (n + 1)) = some (.list xs) := fun o => by
    show (match (o :: r)[n + 1]? with | some (.lst xs) => some (PyData.list xs) | _ => none) = _
    rw [List.getElem?_cons_succ, hn]
  have e1 : datUs (o :: r) [.r (n + 1)] = some [.list xs] := by
    show (match datU (o :: r) (.r (n + 1)), datUs (o :: r) [] with | some x, some xs => some (x :: xs) | _, _ => none) = _
    rw [ed]
    rfl
  simp only [w_seq, w_ret, w_ix, w_var, w_call, w_cons, w_nil, w_blt]
  simp [lenD, e1]
  refine (draw_ok hT (show 1 ≤ j - 1 by omega) ho (b := xs.length) (by omega) (by omega) r).imp ?_
  rintro u h' ⟨v, o', rfl, ⟨i, rfl, i1, i2⟩, fo, rfl⟩
  obtain ⟨x, hx, e⟩ := at_mem i1 i2
  have e2 : opU ixD (o' :: r) (.r (n + 1)) (.d (.int i)) = some (.d x) := by
    unfold opU
    rw [ed]
    show (some (PyData.int i)).bind (fun e => (ixD (.list xs) e).map U.d) = _
    show (ixD (.list xs) (.int i)).map U.d = _
    rw [e]
    rfl
  simp [e2]
  exact ⟨x, o', rfl, hx, fo, rfl⟩
/-! ### sets of needs, of moments -/
def SubOf (zs : List PyData) (x : PyData) : Prop := ∃ ts, x = .tuple ts ∧ ts.Sublist zs
/-- a row of which each item is taken if b is drawn as 0 -/
theorem sub_comp {y z : Int} (hT : Has T "_law_draw" 7 (c_law_draw y z)) {j : Nat} (hj : 1 ≤ j) {zs : List PyData} (hz : zs.length ≤ 2000) {b : Int} (hb : 0 < b) (hb2 : b < 1073741824) {lo : Str → Cf1} {i : Nat} {lw : Lc} (hlen : i < lw.length) (h0 : ∀ x : PyData, (lw.set i (some (.d x)))[0]? = some (some (.r 0))) {o : O} (ho : Feed o) {r : AH} {Q : List PyData → AH → Prop}
    (fin : ∀ ts o', ts.Sublist zs → Feed o' → Q ts (o' :: r)) :
    Wp (compGo ⟨zs, none⟩ (.v i) lw (fTe (semE ⟨clk T j, lo⟩ (.cmp .Eq (.call "_law_draw" [.p 0, .p 1] (.cons (.var 0) (.cons (.con (.int b)) .nil)) .nil) (.con (.int 0))))) (semE ⟨clk T j, lo⟩ (.var i)) zs [] (o :: r)) Q X := by
  refine wp_compD (fun rest acc h => ∃ done o', zs = done ++ rest ∧ acc.Sublist done ∧ Feed o' ∧ h = o' :: r) ?_ ?_ zs [] _ ⟨[], o, rfl, List.Sublist.refl _, ho, rfl⟩
  · rintro x xs acc h ⟨done, o', e, hs, fo, rfl⟩
    refine ⟨Nat.lt_of_le_of_lt (Nat.le_trans hs.length_le ?_) (show 2000 < sizeLine by decide), _, rfl, ?_⟩
    · rw [e, List.length_append] at hz; omega
    · simp only [w_te, w_cmp, w_call, w_cons, w_nil, w_var, w_con]
      simp [h0]
      refine (draw_ok hT hj fo hb hb2 r).imp ?_
      rintro u h' ⟨v, o2, rfl, ⟨k, rfl, k1, k2⟩, fo2, rfl⟩
      simp [eq_int]
      by_cases hk : k = 0
      · refine .inr ⟨hk, ?_⟩
        simp [List.getElem?_set_self hlen]
        exact ⟨done ++ [x], by rw [e]; simp, hs.append (List.Sublist.refl _), fo2⟩
      · exact .inl ⟨hk, done ++ [x], by rw [e]; simp, hs.trans (List.sublist_append_left _ _), fo2⟩
  · rintro acc h ⟨done, o', e, hs, fo, rfl⟩
    rw [List.append_nil] at e
    exact fin acc o' (e ▸ hs) fo
theorem needs_ok {y z : Int} (hT : Has T "_law_draw" 7 (c_law_draw y z)) (hN : Has T "_law_needs" 2 c_law_needs) {j : Nat} (hj : 2 ≤ j) {o : O} (ho : Feed o) (r : AH) :
    Wp (clk T j "_law_needs" [.r 0] (o :: r)) (Dq r (SubOf needsL)) X := by
  refine (w_clk hN (by omega)).mpr ?_
  unfold c_law_needs
  have em : mkLst [.d (.str "maker"), .d (.str "name"), .d (.str "picture"), .d (.str "reader")] = some (.d (.list needsL)) := rfl
  simp only [w_seq, w_ret, w_blt, w_cons, w_nil, w_comp, w_walk, w_lst, w_con]
  simp [em]
  refine sub_comp hT (show 1 ≤ j - 1 by omega) (by decide) (by decide) (by decide) (by decide) (fun x => rfl) ho ?_
  intro ts o' hs fo
  simp [tupleB]
  exact ⟨_, o', rfl, ⟨ts, rfl, hs⟩, fo, rfl⟩
theorem parts_ok {y z : Int} (hT : Has T "_law_draw" 7 (c_law_draw y z)) (hN : Has T "_law_parts" 3 c_law_parts) {j : Nat} (hj : 2 ≤ j) {o : O} (ho : Feed o) (r : AH) :
    Wp (clk T j "_law_parts" [.r 0] (o :: r)) (Dq r (SubOf momentsL)) X := by
  refine (w_clk hN (by omega)).mpr ?_
  unfold c_law_parts
  have em : mkLst [.d (.str "gone"), .d (.str "left"), .d (.str "made"), .d (.str "read"), .d (.str "right"), .d (.str "turned")] = some (.d (.list momentsL)) := rfl
  simp only [w_seq, w_ret, w_blt, w_cons, w_nil, w_comp, w_walk, w_lst, w_con, w_asg, w_var]
  simp [em]
  refine sub_comp hT (show 1 ≤ j - 1 by omega) (by decide) (by decide) (by decide) (by decide) (fun x => rfl) ho ?_
  intro ts o' hs fo
  simp [tupleB]
  exact ⟨_, o', rfl, ⟨ts, rfl, hs⟩, fo, rfl⟩
/-! ### clauses, rules -/
def PairP (x : PyData) : Prop := ∃ m ∈ momentsL, ∃ ts, x = .tuple [m, .tuple ts] ∧ ts.Sublist needsL
theorem pair_d_ok {y z : Int} (hT : Has T "_law_draw" 7 (c_law_draw y z)) (hP : Has T "_law_pick" 2 c_law_pick) (hN : Has T "_law_needs" 2 c_law_needs) (hR : Has T "_law_pair" 1 c_law_pair) {j : Nat} (hj : 3 ≤ j) {o : O} (ho : Feed o) (r : AH) :
    Wp (clk T j "_law_pair" [.r 0] (o :: r)) (Dq r PairP) X := by
  refine (w_clk hR (by omega)).mpr ?_
  unfold c_law_pair
  have em : mkLst [.d (.str "gone"), .d (.str "left"), .d (.str "made"), .d (.str "read"), .d (.str "right"), .d (.str "turned")] = some (.d (.list momentsL)) := rfl
  simp only [w_seq, w_ret, w_cons, w_nil, w_lst, w_con, w_var, w_tup, w_call]
  simp [em]
  refine (pick_d hT hP (show 2 ≤ j - 1 by omega) ho (by decide) (by decide) r).imp ?_
  rintro u h' ⟨m, o2, rfl, hm, fo2, rfl⟩
  refine (needs_ok hT hN (show 2 ≤ j - 1 by omega) fo2 r).imp ?_
  rintro u h' ⟨v, o3, rfl, ⟨ts, rfl, hs⟩, fo3, rfl⟩
  refine ⟨.d (.tuple [m, .tuple ts]), rfl, ?_⟩
  simp
  exact ⟨_, o3, rfl, ⟨m, hm, ts, rfl, hs⟩, fo3, rfl⟩
theorem sub_needs {ts : List PyData} (h : ts.Sublist needsL) : isNeeds (.tuple ts) = true := by
  show (ts.all isNeed && adj ts) = true
  rw [Bool.and_eq_true, List.all_eq_true]
  exact ⟨fun x hx => (in_needs (.inr (h.subset hx))).1, adj_asc.mpr (asc_needs.sublist h)⟩
theorem asc_moments : Asc momentsL := adj_asc.mp (by decide +kernel)
theorem in_moments {x : PyData} (h : x ∈ momentsL) : isMoment x = true := by
  have key : ∀ x ∈ momentsL, isMoment x = true := by decide +kernel
  exact key x h
theorem sub_moments {ts : List PyData} (h : ts.Sublist momentsL) : isMoments (.tuple ts) = true := by
  show (ts.all isMoment && adj ts) = true
  rw [Bool.and_eq_true, List.all_eq_true]
  exact ⟨fun x hx => in_moments (h.subset hx), adj_asc.mpr (asc_moments.sublist h)⟩
theorem pair_clause {x : PyData} (h : PairP x) : isClause x = true := by
  obtain ⟨m, hm, ts, rfl, hs⟩ := h
  show (isMoment m && isNeeds (.tuple ts)) = true
  rw [in_moments hm, sub_needs hs]
  rfl
theorem fine_word {m s d : Nat} {x : PyData} (hs : 8 ≤ s) (h : x ∈ needsL ∨ x ∈ momentsL) : Fine m s d x := by
  have key : ∀ x ∈ needsL ++ momentsL, ∃ t : Str, x = .str t ∧ PyData.strOk t = true ∧ t.length ≤ 8 := by
    intro x hx
    simp only [needsL, momentsL, List.cons_append, List.nil_append, List.mem_cons, List.not_mem_nil, or_false] at hx
    rcases hx with rfl | rfl | rfl | rfl | rfl | rfl | rfl | rfl | rfl | rfl <;> exact ⟨_, rfl, by decide +kernel, by decide +kernel⟩
  obtain ⟨t, rfl, a, b⟩ := key x (List.mem_append.mpr h)
  unfold Fine
  exact ⟨a, by omega⟩
theorem fine_subN {m s d : Nat} {ts : List PyData} (hs : 8 ≤ s) (hm : 6 ≤ m) (h : ts.Sublist needsL) : Fine m s (d + 1) (.tuple ts) := by
  unfold Fine
  exact ⟨Nat.le_trans h.length_le (show 4 ≤ m by omega), fun x hx => fine_word hs (.inl (h.subset hx))⟩
theorem fine_subM {m s d : Nat} {ts : List PyData} (hs : 8 ≤ s) (hm : 6 ≤ m) (h : ts.Sublist momentsL) : Fine m s (d + 1) (.tuple ts) := by
  unfold Fine
  exact ⟨Nat.le_trans h.length_le (show 6 ≤ m by omega), fun x hx => fine_word hs (.inr (h.subset hx))⟩
theorem fine_pair {m s d : Nat} {x : PyData} (hs : 8 ≤ s) (hm : 6 ≤ m) (h : PairP x) : Fine m s (d + 2) x := by
  obtain ⟨a, ha, ts, rfl, ht⟩ := h
  unfold Fine
  refine ⟨show 2 ≤ m by omega, fun x hx => ?_⟩
  simp only [List.mem_cons, List.not_mem_nil, or_false] at hx
  rcases hx with rfl | rfl
  · exact fine_word hs (.inr ha)
  · exact fine_subN hs hm ht
/-- a drawn rule -/
def PlanP (n : Nat) (x : PyData) : Prop := ∃ ps, x = .tuple ps ∧ (∀ p ∈ ps, PairP p) ∧ ps.length ≤ n ∧ isRule x = true
theorem range_src {n : Int} (h : 0 ≤ n) (h2 : n < 1000) : rangeOf [.d (.int n)] = some ⟨(List.range n.toNat).map fun (k : Nat) => .int (k : Int), none⟩ := by
  show (if -(2 ^ 62) ≤ n ∧ n < 2 ^ 62 then _ else _) = _
  rw [if_pos ⟨by omega, by omega⟩]
theorem plan_d_ok {y z : Int} (hT : Has T "_law_draw" 7 (c_law_draw y z)) (hP : Has T "_law_pick" 2 c_law_pick) (hN : Has T "_law_needs" 2 c_law_needs) (hR : Has T "_law_pair" 1 c_law_pair) (hL : Has T "_law_plan" 3 c_law_plan) {j : Nat} (hj : 4 ≤ j) {o : O} (ho : Feed o) {cap : Int} (c0 : 0 ≤ cap) (c1 : cap < 60) (r : AH) :
    Wp (clk T j "_law_plan" [.r 0, .d (.int cap)] (o :: r)) (Dq r (PlanP cap.toNat)) X := by
  refine (w_clk hL (by omega)).mpr ?_
  unfold c_law_plan
  simp only [w_seq, w_ret, w_blt, w_cons, w_nil, w_srt, w_comp, w_range, w_call, w_var, w_bin, w_con]
  simp [bi_add]
  refine (draw_ok hT (show 1 ≤ j - 1 by omega) ho (b := cap + 1) (by omega) (by omega) r).imp ?_
  rintro u h' ⟨v, o2, rfl, ⟨k, rfl, k1, k2⟩, fo2, rfl⟩
  simp [range_src k1 (by omega)]
  refine wp_compD (fun rest acc h => (∀ p ∈ acc, PairP p) ∧ acc.length + rest.length ≤ k.toNat ∧ ∃ o', Feed o' ∧ h = o' :: r) ?_ ?_ _ [] _ ⟨fun p hp => (by cases hp), by simp, o2, fo2, rfl⟩
  · rintro x xs acc h ⟨a1, a2, o', fo, rfl⟩
    rw [List.length_cons] at a2
    refine ⟨Nat.lt_of_le_of_lt (show acc.length ≤ 2000 by omega) (by decide), _, rfl, ?_⟩
    simp [fYes]
    refine (pair_d_ok hT hP hN hR (show 3 ≤ j - 1 by omega) fo r).imp ?_
    rintro u h' ⟨p, o3, rfl, hp, fo3, rfl⟩
    refine ⟨p, rfl, fun q hq => ?_, by omega, o3, fo3, rfl⟩
    rcases hq with hq | hq
    · exact a1 q hq
    · rw [hq]; exact hp
  · rintro ps h ⟨a1, a2, o', fo, rfl⟩
    have hl : ps.length ≤ cap.toNat := by simp at a2; omega
    have ok : okSort ps = true := okSort_mk srt_clause (fun x hx => ⟨pair_clause (a1 x hx), (fine_pair (m := 6) (s := 8) (d := 0) (by omega) (by omega) (a1 x hx)).lay.1⟩) (by omega)
    have e3 : sortSetB [.list ps] = some (.list (sortT ps)) := by
      show (if okSort ps then some (PyData.list (sortT ps)) else none) = _
      rw [ok]
      rfl
    have tx : txtL ps = true := txtL_iff.mpr fun d hd => srt_clause.txt d (pair_clause (a1 d hd))
    simp [e3, tupleB]
    refine ⟨_, o', rfl, ⟨sortT ps, rfl, fun p hp => a1 p (sort_mem tx p hp), Nat.le_trans (sortT_len ps) hl, ?_⟩, fo, rfl⟩
    show ((sortT ps).all isClause && adj (sortT ps)) = true
    rw [Bool.and_eq_true, List.all_eq_true]
    exact ⟨fun x hx => pair_clause (a1 x (sort_mem tx x hx)), adj_asc.mpr (sortT_all tx).2.1⟩
theorem fine_plan {m s d n : Nat} {x : PyData} (hs : 8 ≤ s) (hm : 6 ≤ m) (hn : n ≤ m) (h : PlanP n x) : Fine m s (d + 3) x := by
  obtain ⟨ps, rfl, hp, hl, _⟩ := h
  unfold Fine
  exact ⟨by omega, fun x hx => fine_pair hs hm (hp x hx)⟩
end RB
/-! RPS: the strange values (printed by a program). -/
namespace RB
open PySem PySem.Spec L2
def st0 : List PyData := [.none, .bool true, .bool false, .int (-1), .int 0, .int 1, .int 7, .int 100000000000000000000000000000000000000000000000000000000000, .str "", .str "a", .str "abcdefgh", .str "abcdefghi", .str "A", .str "a b", .str "name", .str "left"]
def st1 : List PyData := [.tuple [], .list [], .tuple [.str "name"], .list [.str "name"], .tuple [.str "reader", .str "name"], .tuple [.str "name", .str "name"], .tuple [.str "name", .str "left"], .tuple [.str "left", .tuple []]]
def st2 : List PyData := [.tuple [.str "left", .list []], .list [.str "left", .tuple []], .tuple [.str "left"], .tuple [.str "left", .tuple [], .tuple []], .tuple [.str "Left", .tuple []], .tuple [.str "name", .tuple []], .str "reader"]
def st3 : List PyData := [.tuple [.str "left", .tuple [.str "reader", .str "name"]], .tuple [.tuple [.str "left", .tuple []]], .tuple [.tuple [.str "left", .tuple []], .tuple [.str "gone", .tuple []]], .list [.tuple [.str "left", .tuple []]]]
def st4 : List PyData := [.tuple [.str "guess"], .tuple [.str "guess", .int 1], .tuple [.str "make", .str "a"], .tuple [.str "make", .str "a", .tuple []], .tuple [.str "make", .str "a", .tuple [.str "b", .str "a"]], .str "turned"]
def st5 : List PyData := [.tuple [.str "make", .str "a", .list [.str "a"]], .tuple [.str "same", .str "a", .str "b"], .tuple [.str "same", .str "a", .str "a"], .tuple [.str "same", .str "a", .tuple [.str "b"]], .tuple [.str "left", .str "name"]]
def st6 : List PyData := [.tuple [.str "make", .str "A", .tuple []], .tuple [.tuple [.str "a"], .int 1, .int 0, .bool false], .tuple [.tuple [.str "a"], .int 0, .int 0, .bool false], .tuple [.tuple [.str "a"], .int 1, .int (-1), .bool true]]
def st7 : List PyData := [.tuple [.tuple [.str "a"], .int 1, .int 0, .int 0], .tuple [.tuple [], .int 1, .int 0, .bool true], .tuple [.list [.str "a"], .int 1, .int 0, .bool true], .tuple [.tuple [.str "b", .str "a"], .int 1, .int 0, .bool true]]
def st8 : List PyData := [.tuple [.tuple [.str "a"], .bool true, .int 0, .bool true], .tuple [.tuple [.str "a"], .int 1, .int 0], .tuple [.str "turned", .tuple [.str "maker"]]]
def strangeL : List PyData := ((((((((st0 ++ st1) ++ st2) ++ st3) ++ st4) ++ st5) ++ st6) ++ st7) ++ st8)
variable {T : Run} {X : XQ}
theorem lst_end {o : O} {r : AH} {xs : List PyData} : isLstAt (o :: (r ++ [.lst xs])) (r.length + 1) = some xs := by
  unfold isLstAt
  simp
theorem set_end {o : O} {r : AH} {x y : O} : (o :: (r ++ [x])).set (r.length + 1) y = o :: (r ++ [y]) := by simp
theorem all_end {us : List U} {ys : List PyData} (e : us = ys.map U.d) : allD us = some ys := allD_eq.mpr e
theorem strange_ok {y z : Int} (hT : Has T "_law_draw" 7 (c_law_draw y z)) (hP : Has T "_law_pick" 2 c_law_pick) (hS : Has T "_law_strange" 2 c_law_strange) {j : Nat} (hj : 3 ≤ j) {o : O} (ho : Feed o) (r : AH) :
    Wp (clk T j "_law_strange" [.r 0] (o :: r)) (Dq r (· ∈ strangeL)) X := by
  refine (w_clk hS (by omega)).mpr ?_
  unfold c_law_strange
  refine seq_step (fun l1 h1 => l1 = [some (.r 0), some (.r (r.length + 1))] ∧ h1 = o :: (r ++ [.lst st0])) ?_ ?_
  · rw [w_asg, w_mls]
    refine wp_eq (a := st0.map U.d) (by rfl) ⟨st0, by rfl, _, rfl, rfl, rfl⟩
  rintro l1 h1 ⟨rfl, rfl⟩
  refine seq_step (fun l1 h1 => l1 = [some (.r 0), some (.r (r.length + 1))] ∧ h1 = o :: (r ++ [.lst (st0 ++ st1)])) ?_ ?_
  · rw [w_expr, w_ext, w_var]
    refine ⟨_, rfl, _, rfl, _, lst_end, wp_eq (a := st1.map U.d) (by rfl) ⟨_, lst_end, st1, all_end rfl, by decide, rfl, set_end⟩⟩
  rintro l1 h1 ⟨rfl, rfl⟩
  refine seq_step (fun l1 h1 => l1 = [some (.r 0), some (.r (r.length + 1))] ∧ h1 = o :: (r ++ [.lst ((st0 ++ st1) ++ st2)])) ?_ ?_
  · rw [w_expr, w_ext, w_var]
    refine ⟨_, rfl, _, rfl, _, lst_end, wp_eq (a := st2.map U.d) (by rfl) ⟨_, lst_end, st2, all_end rfl, by decide, rfl, set_end⟩⟩
  rintro l1 h1 ⟨rfl, rfl⟩
  refine seq_step (fun l1 h1 => l1 = [some (.r 0), some (.r (r.length + 1))] ∧ h1 = o :: (r ++ [.lst (((st0 ++ st1) ++ st2) ++ st3)])) ?_ ?_
  · rw [w_expr, w_ext, w_var]
    refine ⟨_, rfl, _, rfl, _, lst_end, wp_eq (a := st3.map U.d) (by rfl) ⟨_, lst_end, st3, all_end rfl, by decide, rfl, set_end⟩⟩
  rintro l1 h1 ⟨rfl, rfl⟩
  refine seq_step (fun l1 h1 => l1 = [some (.r 0), some (.r (r.length + 1))] ∧ h1 = o :: (r ++ [.lst ((((st0 ++ st1) ++ st2) ++ st3) ++ st4)])) ?_ ?_
  · rw [w_expr, w_ext, w_var]
    refine ⟨_, rfl, _, rfl, _, lst_end, wp_eq (a := st4.map U.d) (by rfl) ⟨_, lst_end, st4, all_end rfl, by decide, rfl, set_end⟩⟩
  rintro l1 h1 ⟨rfl, rfl⟩
  refine seq_step (fun l1 h1 => l1 = [some (.r 0), some (.r (r.length + 1))] ∧ h1 = o :: (r ++ [.lst (((((st0 ++ st1) ++ st2) ++ st3) ++ st4) ++ st5)])) ?_ ?_
  · rw [w_expr, w_ext, w_var]
    refine ⟨_, rfl, _, rfl, _, lst_end, wp_eq (a := st5.map U.d) (by rfl) ⟨_, lst_end, st5, all_end rfl, by decide, rfl, set_end⟩⟩
  rintro l1 h1 ⟨rfl, rfl⟩
  refine seq_step (fun l1 h1 => l1 = [some (.r 0), some (.r (r.length + 1))] ∧ h1 = o :: (r ++ [.lst ((((((st0 ++ st1) ++ st2) ++ st3) ++ st4) ++ st5) ++ st6)])) ?_ ?_
  · rw [w_expr, w_ext, w_var]
    refine ⟨_, rfl, _, rfl, _, lst_end, wp_eq (a := st6.map U.d) (by rfl) ⟨_, lst_end, st6, all_end rfl, by decide, rfl, set_end⟩⟩
  rintro l1 h1 ⟨rfl, rfl⟩
  refine seq_step (fun l1 h1 => l1 = [some (.r 0), some (.r (r.length + 1))] ∧ h1 = o :: (r ++ [.lst (((((((st0 ++ st1) ++ st2) ++ st3) ++ st4) ++ st5) ++ st6) ++ st7)])) ?_ ?_
  · rw [w_expr, w_ext, w_var]
    refine ⟨_, rfl, _, rfl, _, lst_end, wp_eq (a := st7.map U.d) (by rfl) ⟨_, lst_end, st7, all_end rfl, by decide, rfl, set_end⟩⟩
  rintro l1 h1 ⟨rfl, rfl⟩
  refine seq_step (fun l1 h1 => l1 = [some (.r 0), some (.r (r.length + 1))] ∧ h1 = o :: (r ++ [.lst ((((((((st0 ++ st1) ++ st2) ++ st3) ++ st4) ++ st5) ++ st6) ++ st7) ++ st8)])) ?_ ?_
  · rw [w_expr, w_ext, w_var]
    refine ⟨_, rfl, _, rfl, _, lst_end, wp_eq (a := st8.map U.d) (by rfl) ⟨_, lst_end, st8, all_end rfl, by decide, rfl, set_end⟩⟩
  rintro l1 h1 ⟨rfl, rfl⟩
  simp only [w_seq, w_ret, w_call, w_cons, w_nil, w_var]
  simp
  refine (pick_r hT hP (show 2 ≤ j - 1 by omega) ho (xs := strangeL) (by decide) (by decide) (r ++ [.lst strangeL]) (n := r.length) (by simp)).imp ?_
  rintro u h' ⟨x, o', rfl, hx, fo, rfl⟩
  exact ⟨x, o', rfl, hx, fo, by simp⟩
/-! ### how large they are -/
def fineB (m s : Nat) : Nat → PyData → Bool
  | _, .none => true
  | _, .bool _ => true
  | _, .int i => decide (i.natAbs.log2 < 1920)
  | _, .str x => PyData.strOk x && decide (x.length ≤ s)
  | 0, .list _ => false
  | 0, .tuple _ => false
  | d + 1, .list xs => decide (xs.length ≤ m) && xs.all (fineB m s d)
  | d + 1, .tuple xs => decide (xs.length ≤ m) && xs.all (fineB m s d)
  | _, .dict _ => false
theorem fineB_ok {m s : Nat} : ∀ {d : Nat} {x : PyData}, fineB m s d x = true → Fine m s d x
  | _, .none, _ => by unfold Fine; exact True.intro
  | _, .bool _, _ => by unfold Fine; exact True.intro
  | _, .int i, h => by unfold fineB at h; unfold Fine; exact of_decide_eq_true h
  | _, .str x, h => by
    unfold fineB at h
    unfold Fine
    obtain ⟨h1, h2⟩ := Bool.and_eq_true_iff.mp h
    exact ⟨h1, of_decide_eq_true h2⟩
  | _, .dict _, h => by unfold fineB at h; cases h
  | 0, .list _, h => by unfold fineB at h; cases h
  | 0, .tuple _, h => by unfold fineB at h; cases h
  | d + 1, .list xs, h => by
    unfold fineB at h
    unfold Fine
    obtain ⟨h1, h2⟩ := Bool.and_eq_true_iff.mp h
    exact ⟨of_decide_eq_true h1, fun x hx => fineB_ok (List.all_eq_true.mp h2 x hx)⟩
  | d + 1, .tuple xs, h => by
    unfold fineB at h
    unfold Fine
    obtain ⟨h1, h2⟩ := Bool.and_eq_true_iff.mp h
    exact ⟨of_decide_eq_true h1, fun x hx => fineB_ok (List.all_eq_true.mp h2 x hx)⟩
theorem fine_strange {x : PyData} (h : x ∈ strangeL) : Fine 4 9 3 x := by
  have key : strangeL.all (fineB 4 9 3) = true := by decide +kernel
  exact fineB_ok (List.all_eq_true.mp key x h)
end RB
/-! RP10: values that are bent. -/
namespace RB
open PySem PySem.Spec L2
variable {T : Run} {X : XQ}
/-- texts and rows of such -/
def TxF (m s : Nat) : Nat → PyData → Prop
  | _, .str x => PyData.strOk x = true ∧ x.length ≤ s
  | d + 1, .tuple xs => xs.length ≤ m ∧ ∀ x ∈ xs, TxF m s d x
  | _, _ => False
theorem TxF.fine {m s : Nat} : ∀ {d : Nat} {x : PyData}, TxF m s d x → Fine m s d x
  | _, .str x, h => by unfold TxF at h; unfold Fine; exact h
  | 0, .tuple _, h => by unfold TxF at h; exact h.elim
  | d + 1, .tuple xs, h => by
    unfold TxF at h
    unfold Fine
    exact ⟨h.1, fun x hx => (h.2 x hx).fine⟩
  | _, .none, h => by unfold TxF at h; exact h.elim
  | _, .bool _, h => by unfold TxF at h; exact h.elim
  | _, .int _, h => by unfold TxF at h; exact h.elim
  | _, .list _, h => by unfold TxF at h; exact h.elim
  | _, .dict _, h => by unfold TxF at h; exact h.elim
theorem fine_str {m s d : Nat} {x : Str} : Fine m s d (.str x) ↔ PyData.strOk x = true ∧ x.length ≤ s := by unfold Fine; exact Iff.rfl
theorem fine_tup {m s d : Nat} {xs : List PyData} : Fine m s (d + 1) (.tuple xs) ↔ xs.length ≤ m ∧ ∀ x ∈ xs, Fine m s d x := by
  constructor
  · intro h; unfold Fine at h; exact h
  · intro h; unfold Fine; exact h
theorem fine_lst {m s d : Nat} {xs : List PyData} : Fine m s (d + 1) (.list xs) ↔ xs.length ≤ m ∧ ∀ x ∈ xs, Fine m s d x := by
  constructor
  · intro h; unfold Fine at h; exact h
  · intro h; unfold Fine; exact h
theorem add_tup {xs ys : List PyData} (h : xs.length + ys.length ≤ 10000) : binSem .Add (.tuple xs) (.tuple ys) = some (.tuple (xs ++ ys)) := by
  show (if xs.length + ys.length ≤ sizeLine then some (PyData.tuple (xs ++ ys)) else none) = _
  rw [if_pos (Nat.le_trans h (by decide))]
theorem add_str {x y : Str} (h : x.length + y.length ≤ 10000) : binSem .Add (.str x) (.str y) = some (.str (x ++ y)) := by
  show (if x.length + y.length ≤ sizeLine then some (PyData.str (x ++ y)) else none) = _
  rw [if_pos (Nat.le_trans h (by decide))]
theorem sl_to {xs : List PyData} {k : Int} (h : 0 ≤ k) : slD none (some k) (.tuple xs) = some (.tuple (xs.take k.toNat)) := by
  obtain ⟨n, rfl⟩ := Int.eq_ofNat_of_zero_le h
  show some (PyData.tuple (cutD xs none (some (n : Int)))) = _
  rw [cut_to]
  rfl
theorem sl_from {xs : List PyData} {k : Int} (h : 0 ≤ k) : slD (some k) none (.tuple xs) = some (.tuple (xs.drop k.toNat)) := by
  obtain ⟨n, rfl⟩ := Int.eq_ofNat_of_zero_le h
  show some (PyData.tuple (cutD xs (some (n : Int)) none)) = _
  rw [cut_from]
  rfl
theorem sl_one {xs : List PyData} {k : Int} (h : 0 ≤ k) : ∃ ys, slD (some k) (some (k + 1)) (.tuple xs) = some (.tuple ys) ∧ ys.length ≤ 1 ∧ ∀ y ∈ ys, y ∈ xs := by
  refine ⟨cutD xs (some k) (some (k + 1)), rfl, ?_, fun y hy => ?_⟩
  · unfold cutD
    rw [List.length_take]
    obtain ⟨n, rfl⟩ := Int.eq_ofNat_of_zero_le h
    have e : ((n : Int) + 1) = ((n + 1 : Nat) : Int) := by omega
    rw [e, HT.sIx_nat, HT.sIx_nat]
    omega
  · unfold cutD at hy
    exact List.mem_of_mem_drop (List.mem_of_mem_take hy)
theorem at_tup {xs : List PyData} {i : Int} (h : 0 ≤ i) (h2 : i < xs.length) : ∃ x ∈ xs, ixD (.tuple xs) (.int i) = some x := at_mem h h2
/-! ### a text cut -/
theorem cps_len (x : Str) : x.cps.toList.length = x.length := by
  show x.cps.toList.length = x.cps.size
  exact Array.length_toList
theorem ok_iff {x : Str} : PyData.strOk x = true ↔ ∀ c ∈ x.cps.toList, c < 0x110000 := by
  unfold PyData.strOk
  rw [Array.all_eq_true']
  simp
theorem cut_mem {x : Str} {lo hi : Option Int} {c : Nat} (h : c ∈ (cutS x lo hi).cps.toList) : c ∈ x.cps.toList := by
  unfold cutS at h
  exact List.mem_of_mem_drop (List.mem_of_mem_take h)
theorem len_to {x : Str} {k : Int} (h : 0 ≤ k) : (cutS x none (some k)).length = min k.toNat x.length := by
  obtain ⟨n, rfl⟩ := Int.eq_ofNat_of_zero_le h
  rw [← cps_len]
  unfold cutS
  rw [HT.sIx_nat, HT.sIx_none]
  simp only [List.drop_zero, Nat.sub_zero, List.length_take, cps_len, Int.toNat_natCast]
  omega
theorem len_from {x : Str} {k : Int} (h : 0 ≤ k) : (cutS x (some k) none).length = x.length - min k.toNat x.length := by
  obtain ⟨n, rfl⟩ := Int.eq_ofNat_of_zero_le h
  rw [← cps_len]
  unfold cutS
  rw [HT.sIx_nat, HT.sIx_none]
  simp only [List.length_take, List.length_drop, cps_len, Int.toNat_natCast]
  omega
theorem app_len (x y : Str) : (x ++ y).length = x.length + y.length := by
  show (x.cps ++ y.cps).size = x.cps.size + y.cps.size
  exact Array.size_append
theorem app_ok {x y : Str} (h1 : PyData.strOk x = true) (h2 : PyData.strOk y = true) : PyData.strOk (x ++ y) = true := by
  rw [ok_iff] at h1 h2 ⊢
  intro c hc
  have e : (x ++ y).cps.toList = x.cps.toList ++ y.cps.toList := by
    show (x.cps ++ y.cps).toList = _
    exact Array.toList_append
  rw [e] at hc
  exact (List.mem_append.mp hc).elim (h1 c) (h2 c)
theorem cut_ok {x : Str} {lo hi : Option Int} (h : PyData.strOk x = true) : PyData.strOk (cutS x lo hi) = true := by
  rw [ok_iff] at h ⊢
  exact fun c hc => h c (cut_mem hc)
theorem sl_str {x : Str} {lo hi : Option Int} (h : x.length ≤ 2000) : slD lo hi (.str x) = some (.str (cutS x lo hi)) := by
  show (if x.length ≤ sizeLine then some (PyData.str (cutS x lo hi)) else none) = _
  rw [if_pos (small_size h)]
theorem len_str {x : Str} (h : x.length ≤ 2000) : lenD [.str x] = some (.int x.length) := by
  show (if x.length ≤ sizeLine then some (PyData.int x.length) else none) = _
  rw [if_pos (small_size h)]
theorem law_is_number_str (hn : Has T "_law_is_number" 1 c_law_is_number) {j : Nat} (hj : 1 ≤ j) {x : PyData} (hx : noDct x = true) (hi : isIntD x = false) (h : AH) : clk T j "_law_is_number" [.d x] h = .ok (.d (.bool false)) h := by
  refine Wp.eq ((w_clk hn hj).mpr ?_)
  unfold c_law_is_number
  simp only [w_seq, w_ret, w_and, w_isi, w_var]
  simp [isi_int hx, hi]
abbrev BentQ (m s d : Nat) (r : AH) : U → AH → Prop := Dq r (Fine (m + 1) (s + 1) (d + 4))
theorem bent_step {y z : Int} (hT : Has T "_law_draw" 7 (c_law_draw y z)) (hP : Has T "_law_pick" 2 c_law_pick) (hS : Has T "_law_strange" 2 c_law_strange) (hB : Has T "_law_bent" 5 c_law_bent) (hn : Has T "_law_is_number" 1 c_law_is_number) {m s : Nat} (m1 : 3 ≤ m) (m2 : m ≤ 1000) (s1 : 8 ≤ s) (s2 : s ≤ 1000)
    {d : Nat} {x : PyData} (hx : TxF m s d x) {j : Nat} (hj : 4 ≤ j) (ih : ∀ xs, x = .tuple xs → ∀ e ∈ xs, ∀ o, Feed o → ∀ r, Wp (clk T (j - 1) "_law_bent" [.r 0, .d e] (o :: r)) (Dq r (Fine (m + 1) (s + 1) (d + 3))) noE) {o : O} (ho : Feed o) (r : AH) :
    Wp (clk T j "_law_bent" [.r 0, .d x] (o :: r)) (BentQ m s d r) noE := by
  have nx : noDct x = true := by
    cases x <;> first | rfl | (unfold TxF at hx; exact hx.elim)
  have ft : ∀ (xs ys : List PyData), x = .tuple xs → ys.length ≤ m + 1 → (∀ y ∈ ys, y ∈ xs ∨ Fine (m + 1) (s + 1) (d + 3) y) → Fine (m + 1) (s + 1) (d + 4) (.tuple ys) := fun xs ys e hl hy => by
    subst e
    refine fine_tup.mpr ⟨hl, fun w hw => ?_⟩
    rcases hy w hw with h | h
    · cases d with
      | zero => unfold TxF at hx; exact hx.elim
      | succ d =>
        unfold TxF at hx
        exact (hx.2 w h).fine.mono (by omega) (by omega) (by omega)
    · exact h
  have fin : ∀ (v : PyData) (o' : O), Fine (m + 1) (s + 1) (d + 4) v → Feed o' → Bk (r.length + 1) (BentQ m s d r) (.rt (.d v)) (o' :: r) := fun v o' hv fo => ⟨v, o', rfl, hv, fo, by simp⟩
  have hlen : ∀ xs, x = .tuple xs → xs.length ≤ m := fun xs e => by
    subst e
    cases d with
    | zero => unfold TxF at hx; exact hx.elim
    | succ d => unfold TxF at hx; exact hx.1
  have hstr : ∀ t, x = .str t → PyData.strOk t = true ∧ t.length ≤ s := fun t e => by
    subst e
    unfold TxF at hx
    exact hx
  have kind : (∃ xs, x = .tuple xs) ∨ ∃ t, x = .str t := by
    cases x with
    | tuple xs => exact .inl ⟨xs, rfl⟩
    | str t => exact .inr ⟨t, rfl⟩
    | _ => unfold TxF at hx; exact hx.elim
  refine (w_clk hB (by omega)).mpr ?_
  unfold c_law_bent
  -- a part of it bent
  refine seq_step (fun l1 h1 => l1 = [some (.r 0), some (.d x), none, none, none] ∧ ∃ o', Feed o' ∧ h1 = o' :: r) ?_ ?_
  · simp only [w_ite, w_and, w_isi, w_cmp, w_blt, w_var, w_cons, w_nil, w_con, w_call, w_pass]
    rcases kind with ⟨xs, rfl⟩ | ⟨t, rfl⟩
    · simp [isi_tup nx, isTupD, lenD, ci_gt]
      by_cases e0 : xs = []
      · exact .inl ⟨e0, ho⟩
      have hp : 0 < xs.length := List.length_pos_iff.mpr e0
      have hm := hlen xs rfl
      refine .inr ⟨hp, (draw_ok hT (show 1 ≤ j - 1 by omega) ho (b := 5) (by decide) (by decide) r).imp ?_⟩
      rintro u h' ⟨v, o2, rfl, ⟨k, rfl, k1, k2⟩, fo2, rfl⟩
      simp [ci_gt]
      by_cases hk : 0 < k
      · refine .inr ⟨hk, (draw_ok hT (show 1 ≤ j - 1 by omega) fo2 (b := xs.length) (by omega) (by omega) r).imp ?_⟩
        rintro u h' ⟨v, o3, rfl, ⟨i, rfl, i1, i2⟩, fo3, rfl⟩
        obtain ⟨e, he, ee⟩ := at_tup i1 i2
        refine ⟨i, rfl, _, sl_to i1, .d e, by simp [ee], (ih xs rfl e he o3 fo3 r).imp ?_⟩
        rintro u h' ⟨b, o4, rfl, hb, fo4, rfl⟩
        have hi : i.toNat < xs.length := by omega
        refine ⟨_, rfl, .d (.tuple (xs.take i.toNat ++ [b])), by simp [add_tup (show (xs.take i.toNat).length + [b].length ≤ 10000 by simp; omega)], _, rfl, i + 1, by simp [bi_add], _, sl_from (by omega), .d (.tuple (xs.take i.toNat ++ [b] ++ xs.drop (i + 1).toNat)), ?_, fin _ _ (ft xs _ rfl ?_ ?_) fo4⟩
        · rw [opU_d, add_tup (by simp; omega)]
          rfl
        · simp
          omega
        · intro w hw
          simp only [List.mem_append, List.mem_singleton] at hw
          rcases hw with (hw | hw) | hw
          · exact .inl (List.mem_of_mem_take hw)
          · exact .inr (hw ▸ hb)
          · exact .inl (List.mem_of_mem_drop hw)
      · exact .inl ⟨by omega, fo2⟩
    · simp [isi_tup nx, isTupD]
      exact ho
  rintro l1 h1 ⟨rfl, o1, fo1, rfl⟩
  -- what is drawn for it
  refine seq_step (fun l1 h1 => ∃ (lot : Int) (st : PyData), 0 ≤ lot ∧ lot < 7 ∧ st ∈ strangeL ∧ l1 = [some (.r 0), some (.d x), none, some (.d (.int lot)), some (.d st)] ∧ ∃ o', Feed o' ∧ h1 = o' :: r) ?_ ?_
  · simp only [w_par, w_cons, w_nil, w_call, w_var, w_con]
    simp
    refine (draw_ok hT (show 1 ≤ j - 1 by omega) fo1 (b := 7) (by decide) (by decide) r).imp ?_
    rintro u h' ⟨v, o2, rfl, ⟨k, rfl, k1, k2⟩, fo2, rfl⟩
    refine (strange_ok hT hP hS (show 3 ≤ j - 1 by omega) fo2 r).imp ?_
    rintro u h' ⟨st, o3, rfl, hst, fo3, rfl⟩
    exact ⟨_, _, ⟨rfl, rfl⟩, k, k1, k2, st, hst, ⟨rfl, rfl⟩, o3, fo3, rfl⟩
  rintro l1 h1 ⟨lot, st, lo1, lo2, hst, rfl, o2, fo2, rfl⟩
  have fst : Fine (m + 1) (s + 1) (d + 3) st := (fine_strange hst).mono (by omega) (by omega) (by omega)
  -- a row
  refine seq_step (fun l1 h1 => l1 = [some (.r 0), some (.d x), none, some (.d (.int lot)), some (.d st)] ∧ ∃ o', Feed o' ∧ h1 = o' :: r) ?_ ?_
  · simp only [w_ite, w_and, w_isi, w_cmp, w_var, w_con, w_pass]
    rcases kind with ⟨xs, rfl⟩ | ⟨t, rfl⟩
    · have hm := hlen xs rfl
      simp [isi_tup nx, isTupD, ci_lt, lenD, bi_add]
      by_cases h6 : lot < 6
      · refine .inr ⟨h6, (draw_ok hT (show 1 ≤ j - 1 by omega) fo2 (b := (xs.length : Int) + 1) (by omega) (by omega) r).imp ?_⟩
        rintro u h' ⟨v, o3, rfl, ⟨i, rfl, i1, i2⟩, fo3, rfl⟩
        refine ⟨_, eq_int, ?_⟩
        by_cases q0 : lot = 0
        · refine .inr ⟨by simp [q0], .list xs, rfl, fin _ _ ?_ fo3⟩
          have := ft xs xs rfl (by omega) fun y hy => .inl hy
          exact fine_lst.mpr (fine_tup.mp this)
        refine .inl ⟨by simp [q0], _, eq_int, ?_⟩
        have hi : i.toNat ≤ xs.length := by omega
        by_cases q1 : lot = 1
        · refine .inr ⟨by simp [q1], i, rfl, _, sl_to i1, _, rfl, i + 1, by simp [bi_add], _, sl_from (by omega), _, add_tup (by simp; omega), fin _ _ (ft xs _ rfl (by simp; omega) fun w hw => ?_) fo3⟩
          rcases List.mem_append.mp hw with hw | hw
          · exact .inl (List.mem_of_mem_take hw)
          · exact .inl (List.mem_of_mem_drop hw)
        refine .inl ⟨by simp [q1], _, eq_int, ?_⟩
        by_cases q2 : lot = 2
        · obtain ⟨ys, ey, ly, my⟩ := sl_one (xs := xs) i1
          refine .inr ⟨by simp [q2], i, rfl, _, sl_to i1, i, rfl, _, rfl, i + 1, by simp [bi_add], _, ey, _, add_tup (by simp; omega), i, rfl, _, sl_from i1, _, add_tup (by simp; omega), fin _ _ (ft xs _ rfl (by simp; omega) fun w hw => ?_) fo3⟩
          rcases List.mem_append.mp hw with hw | hw
          · rcases List.mem_append.mp hw with hw | hw
            · exact .inl (List.mem_of_mem_take hw)
            · exact .inl (my w hw)
          · exact .inl (List.mem_of_mem_drop hw)
        refine .inl ⟨by simp [q2], ?_⟩
        by_cases q5 : lot < 5
        · refine .inr ⟨q5, i, rfl, _, sl_to i1, _, rfl, .d (.tuple (xs.take i.toNat ++ [st])), ?_, i, rfl, _, sl_from i1, .d (.tuple (xs.take i.toNat ++ [st] ++ xs.drop i.toNat)), ?_, fin _ _ (ft xs _ rfl (by simp; omega) fun w hw => ?_) fo3⟩
          · rw [opU_d, add_tup (by simp; omega)]; rfl
          · rw [opU_d, add_tup (by simp; omega)]; rfl
          · simp only [List.mem_append, List.mem_singleton] at hw
            rcases hw with (hw | hw) | hw
            · exact .inl (List.mem_of_mem_take hw)
            · exact .inr (hw ▸ fst)
            · exact .inl (List.mem_of_mem_drop hw)
        · exact .inl ⟨by omega, _, rfl, fin _ _ (ft xs _ rfl (by simp; omega) fun w hw => .inl (by simpa using hw)) fo3⟩
      · exact .inl ⟨by omega, fo2⟩
    · simp [isi_tup nx, isTupD]
      exact fo2
  rintro l1 h1 ⟨rfl, o3, fo3, rfl⟩
  -- a text
  refine seq_step (fun l1 h1 => l1 = [some (.r 0), some (.d x), none, some (.d (.int lot)), some (.d st)] ∧ ∃ o', Feed o' ∧ h1 = o' :: r) ?_ ?_
  · simp only [w_ite, w_and, w_isi, w_cmp, w_var, w_con, w_pass]
    rcases kind with ⟨xs, rfl⟩ | ⟨t, rfl⟩
    · simp [isi_str nx, isStrD]
      exact fo3
    · obtain ⟨t1, t2⟩ := hstr t rfl
      have em : mkLst [.d (.str "a"), .d (.str "A"), .d (.str ""), .d (.str " "), .d (.str "z"), .d (.str "0")] = some (.d (.list [.str "a", .str "A", .str "", .str " ", .str "z", .str "0"])) := rfl
      simp [isi_str nx, isStrD, ci_lt, len_str (show t.length ≤ 2000 by omega), bi_add, em, ci_gt]
      by_cases q3 : lot < 3
      · refine .inr ⟨q3, (draw_ok hT (show 1 ≤ j - 1 by omega) fo3 (b := (t.length : Int) + 1) (by omega) (by omega) r).imp ?_⟩
        rintro u h' ⟨v, o4, rfl, ⟨i, rfl, i1, i2⟩, fo4, rfl⟩
        refine ⟨i, rfl, _, sl_str (by omega), (pick_d hT hP (show 2 ≤ j - 1 by omega) fo4 (by decide) (by decide) r).imp ?_⟩
        rintro u h' ⟨w, o5, rfl, hw, fo5, rfl⟩
        have hw2 : ∃ q : Str, w = .str q ∧ PyData.strOk q = true ∧ q.length ≤ 1 := by
          simp only [List.mem_cons, List.not_mem_nil, or_false] at hw
          rcases hw with rfl | rfl | rfl | rfl | rfl | rfl <;> exact ⟨_, rfl, by decide +kernel, by decide +kernel⟩
        obtain ⟨q, rfl, q1, q2⟩ := hw2
        obtain ⟨b, eb, b1, b2⟩ : ∃ b : Int, intB [.bool (decide (1 < lot))] = some (.int b) ∧ 0 ≤ b ∧ b ≤ 1 := by
          cases decide (1 < lot)
          · exact ⟨0, rfl, by omega, by omega⟩
          · exact ⟨1, rfl, by omega, by omega⟩
        have n1 := len_to (x := t) i1
        have n2 := len_from (x := t) (k := i + b) (by omega)
        refine ⟨.d (.str (cutS t none (some i) ++ q)), ?_, _, eb, .d (.int (i + b)), by simp [bi_add], i + b, rfl, _, sl_str (by omega), .d (.str (cutS t none (some i) ++ q ++ cutS t (some (i + b)) none)), ?_, fin _ _ (fine_str.mpr ⟨app_ok (app_ok (cut_ok t1) q1) (cut_ok t1), ?_⟩) fo5⟩
        · rw [opU_d, add_str (by omega)]; rfl
        · rw [opU_d, add_str (by rw [app_len]; omega)]; rfl
        · rw [app_len, app_len, n1, n2]; omega
      · exact .inl ⟨by omega, fo3⟩
  rintro l1 h1 ⟨rfl, o4, fo4, rfl⟩
  refine seq_step (fun l1 h1 => l1 = [some (.r 0), some (.d x), none, some (.d (.int lot)), some (.d st)] ∧ ∃ o', Feed o' ∧ h1 = o' :: r) ?_ ?_
  · simp only [w_ite, w_and, w_isi, w_cmp, w_var, w_con, w_pass]
    rcases kind with ⟨xs, rfl⟩ | ⟨t, rfl⟩
    · simp [isi_str nx, isStrD]
      exact fo4
    · have em : mkLst [.d (.str "gone"), .d (.str "read"), .d (.str "turned"), .d (.str "maker"), .d (.str "picture"), .d (.str "made")] = some (.d (.list [.str "gone", .str "read", .str "turned", .str "maker", .str "picture", .str "made"])) := rfl
      simp [isi_str nx, isStrD, ci_lt, em]
      by_cases q6 : lot < 6
      · refine .inr ⟨q6, (pick_d hT hP (show 2 ≤ j - 1 by omega) fo4 (by decide) (by decide) r).imp ?_⟩
        rintro u h' ⟨w, o5, rfl, hw, fo5, rfl⟩
        have hw2 : ∃ q : Str, w = .str q ∧ PyData.strOk q = true ∧ q.length ≤ 8 := by
          simp only [List.mem_cons, List.not_mem_nil, or_false] at hw
          rcases hw with rfl | rfl | rfl | rfl | rfl | rfl <;> exact ⟨_, rfl, by decide +kernel, by decide +kernel⟩
        obtain ⟨q, rfl, q1, q2⟩ := hw2
        exact fin _ _ (fine_str.mpr ⟨q1, by omega⟩) fo5
      · exact .inl ⟨by omega, fo4⟩
  rintro l1 h1 ⟨rfl, o5, fo5, rfl⟩
  refine seq_step (fun l1 h1 => l1 = [some (.r 0), some (.d x), none, some (.d (.int lot)), some (.d st)] ∧ ∃ o', Feed o' ∧ h1 = o' :: r) ?_ ?_
  · simp only [w_ite, w_and, w_call, w_cons, w_nil, w_cmp, w_var, w_con, w_pass]
    have hi : isIntD x = false := by rcases kind with ⟨xs, rfl⟩ | ⟨t, rfl⟩ <;> rfl
    simp [law_is_number_str hn (show 1 ≤ j - 1 by omega) nx hi]
    exact fo5
  rintro l1 h1 ⟨rfl, o6, fo6, rfl⟩
  simp only [w_seq, w_ret, w_var]
  simp
  exact ⟨st, o6, rfl, fst.mono (Nat.le_refl _) (Nat.le_refl _) (by omega), fo6, rfl⟩
theorem bent_ok {y z : Int} (hT : Has T "_law_draw" 7 (c_law_draw y z)) (hP : Has T "_law_pick" 2 c_law_pick) (hS : Has T "_law_strange" 2 c_law_strange) (hB : Has T "_law_bent" 5 c_law_bent) (hn : Has T "_law_is_number" 1 c_law_is_number) {m s : Nat} (m1 : 3 ≤ m) (m2 : m ≤ 1000) (s1 : 8 ≤ s) (s2 : s ≤ 1000) :
    ∀ (d : Nat) (x : PyData), TxF m s d x → ∀ j, d + 4 ≤ j → ∀ o, Feed o → ∀ r, Wp (clk T j "_law_bent" [.r 0, .d x] (o :: r)) (BentQ m s d r) noE := by
  intro d
  induction d with
  | zero =>
    intro x hx j hj o ho r
    refine bent_step hT hP hS hB hn m1 m2 s1 s2 hx (by omega) (fun xs e => ?_) ho r
    subst e
    unfold TxF at hx
    exact hx.elim
  | succ d ih =>
    intro x hx j hj o ho r
    refine bent_step hT hP hS hB hn m1 m2 s1 s2 hx (by omega) (fun xs e w hw o ho r => ?_) ho r
    subst e
    unfold TxF at hx
    exact ih w (hx.2 w hw) (j - 1) (by omega) o ho r
end RB
/-! RP11: refusals, loops, reprs, a def with lambdas, the feed. -/
namespace RB
open PySem PySem.Spec L2
variable {T : Run} {X : XQ}
@[simp] theorem ex_pair {α β : Type} {x : α} {y : β} {P : α → β → Prop} : (∃ a b, (x = a ∧ y = b) ∧ P a b) ↔ P x y :=
  ⟨fun ⟨_, _, ⟨e1, e2⟩, p⟩ => by subst e1 e2; exact p, fun p => ⟨x, y, ⟨rfl, rfl⟩, p⟩⟩
theorem Wp.eqX {α : Type} {r : R α} {c : Str} {fs : List (Str × PyData)} {h : AH} (w : Wp r (fun _ _ => False) (fun c' fs' h' => c' = c ∧ fs' = fs ∧ h' = h)) : r = .exc c fs h := by
  cases r with
  | ok a h1 => exact w.elim
  | exc c' fs' h' => obtain ⟨rfl, rfl, rfl⟩ := w; rfl
  | stuck => exact w.elim
/-! ### refusals -/
/-- what a refused parameter raises -/
abbrev refused (w : Str) (h : AH) : R U := .exc "NotUsable" [("at", .int (-1)), ("word", .str w)] h
theorem want_ok (hT : Has T "want" 3 c_want) {j : Nat} (hj : 1 ≤ j) {b : Bool} {w : Str} (h : AH) : clk T j "want" [.d (.bool b), .d (.str w), .d (.int (-1))] h = if b = true then .ok (.d .none) h else refused w h := by
  cases b with
  | true =>
    refine Wp.eq ((w_clk hT hj).mpr ?_)
    unfold c_want
    simp only [w_seq, w_ite, w_not, w_var, w_pass]
    simp
  | false =>
    refine Wp.eqX ((w_clk hT hj).mpr ?_)
    unfold c_want
    simp only [w_seq, w_ite, w_not, w_var, w_pass, w_raise, w_cons, w_nil]
    simp
theorem want_rule_ok (hT : Has T "want_rule" 2 c_want_rule) (hW : Has T "want" 3 c_want) (hR : PuB T 4 "is_rule" isRule) {j : Nat} (hj : 5 ≤ j) {x : PyData} (hx : Nice x) {w : Str} (h : AH) :
    clk T j "want_rule" [.d x, .d (.str w)] h = if isRule x = true then .ok (.d .none) h else refused w h := by
  have e1 := hR (j - 1) (by omega) x hx h
  have e2 := want_ok hW (show 1 ≤ j - 1 by omega) (b := isRule x) (w := w) h
  cases hb : isRule x with
  | true =>
    rw [hb] at e1 e2
    refine Wp.eq ((w_clk hT (by omega)).mpr ?_)
    unfold c_want_rule
    simp only [w_seq, w_expr, w_call, w_cons, w_nil, w_var, w_pass]
    simp [e1, e2]
  | false =>
    rw [hb] at e1 e2
    refine Wp.eqX ((w_clk hT (by omega)).mpr ?_)
    unfold c_want_rule
    simp only [w_seq, w_expr, w_call, w_cons, w_nil, w_var, w_pass]
    simp [e1, e2]
theorem law_no_ok (hT : Has T "_law_no" 1 c_law_no) {j : Nat} (hj : 1 ≤ j) {w : Str} (h : AH) : clk T j "_law_no" [.d (.str w)] h = .ok (.d (.tuple [.str "NotUsable", .str w, .int (-1)])) h := by
  refine Wp.eq ((w_clk hT hj).mpr ?_)
  unfold c_law_no
  simp only [w_seq, w_ret, w_tup, w_cons, w_nil, w_var, w_con, w_neg]
  simp [negD]
  exact ⟨_, rfl, rfl, by simp⟩
/-! ### loops -/
def Lp (J : Lc → AH → Prop) (Q : Fl → AH → Prop) : Fl → AH → Prop
  | .nx l, h => J l h
  | .ct l, h => J l h
  | .bk l, h => Q (.nx l) h
  | .rt u, h => Q (.rt u) h
@[simp] theorem lp_nx {J : Lc → AH → Prop} {Q : Fl → AH → Prop} {l : Lc} {h : AH} : Lp J Q (.nx l) h ↔ J l h := Iff.rfl
@[simp] theorem lp_rt {J : Lc → AH → Prop} {Q : Fl → AH → Prop} {u : U} {h : AH} : Lp J Q (.rt u) h ↔ Q (.rt u) h := Iff.rfl
theorem wp_for {items : List PyData} {tg : Tg} {b : FS} {Q : Fl → AH → Prop} (J : List PyData → Lc → AH → Prop)
    (step : ∀ x xs l h, J (x :: xs) l h → ∃ l2, tg.put (.d x) l = some l2 ∧ Wp (b l2 h) (Lp (J xs) Q) X) (fin : ∀ l h, J [] l h → Q (.nx l) h) : ∀ (xs : List PyData) (l : Lc) (h : AH), J xs l h → Wp (forGo ⟨items, none⟩ tg b xs l h) Q X
  | [], l, h, j => by
    unfold forGo
    simp [walkOk]
    exact fin l h j
  | x :: xs, l, h, j => by
    obtain ⟨l2, e1, w⟩ := step x xs l h j
    unfold forGo
    simp only [walkOk, if_true, e1, wp_bind]
    refine w.imp fun fl h1 q => ?_
    cases fl with
    | nx l3 => exact wp_for J step fin xs l3 h1 q
    | ct l3 => exact wp_for J step fin xs l3 h1 q
    | bk l3 => exact q
    | rt u => exact q
/-! ### reprs -/
def shows (x : PyData) : Bool := SeqAt.shaped x && (x.showable && decide (x.shown.length ≤ sizeLine))
theorem repr_of {x : PyData} (h : shows x = true) : reprB [x] = some (.str x.shown) := by
  show (if SeqAt.shaped x && (x.showable && decide (x.shown.length ≤ sizeLine)) then some (PyData.str x.shown) else none) = _
  rw [show (SeqAt.shaped x && (x.showable && decide (x.shown.length ≤ sizeLine))) = true from h]
  rfl
theorem str_shaped {x : Str} (h : PyData.strOk x = true) : SeqAt.shaped (.str x) = true := by
  unfold SeqAt.shaped
  rw [PyData.canLay0, PyData.depth, h]
  rfl
theorem ne_str {x : Str} (h : PyData.strOk x = true) : cmpSem .NotEq (.str x) (.str x) = some (.bool false) := by
  show (if SeqAt.shaped (.str x) && SeqAt.shaped (.str x) then some (PyData.bool (!PyData.eqv (.str x) (.str x))) else none) = _
  rw [str_shaped h, PyData.eqv, beq_self_eq_true]
  rfl
/-- small values: shown, and compared with themselves -/
def says (x : PyData) : Bool := shows x && PyData.strOk x.shown
theorem says_ok {x : PyData} (h : says x = true) : reprB [x] = some (.str x.shown) ∧ cmpSem .NotEq (.str x.shown) (.str x.shown) = some (.bool false) := by
  obtain ⟨h1, h2⟩ := Bool.and_eq_true_iff.mp h
  exact ⟨repr_of h1, ne_str h2⟩
/-! ### a def that makes lambdas -/
def HasL (T : Run) (f : Str) (n : Nat) (c : CS) : Prop := T.lookup f = some (n, true, c)
theorem w_clkL {f : Str} {n : Nat} {c : CS} (hT : HasL T f n c) {j : Nat} {us : List U} {h : AH} {Q : U → AH → Prop} : Wp (clk T (j + 3) f us h) Q X ↔ Wp (semS ⟨clk T (j + 2), clk T j⟩ c (us.map some ++ List.replicate (n - us.length) none) h) (Bk h.length Q) (fun c fs h1 => X c fs (h1.take h.length)) := by
  have e : clk T (j + 3) f = runBody n (semS ⟨clk T (j + 2), clO T (j + 2)⟩ c) := by
    rw [clk_succ]
    unfold stepC
    rw [show T.lookup f = _ from hT]
    rfl
  rw [e, w_run, clO_two]
theorem low_f {a b : Str → Cf1} : (Cls.low ⟨a, b⟩) = ⟨b, noFn⟩ := rfl
/-! ### the feed -/
theorem feed_ok (hT : Has T "_law_feed" 2 c_law_feed) {j : Nat} (hj : 1 ≤ j) {ns : List Int} (hn : ns.length ≤ 63) : Wp (clk T j "_law_feed" [.d (.list (ns.map .int))] []) (fun u h => u = .r 0 ∧ ∃ o, Feed o ∧ h = [o]) X := by
  refine (w_clk hT hj).mpr ?_
  unfold c_law_feed
  have e1 : slD none (some 63) (.list (ns.map .int)) = some (.list (ns.map .int)) := by
    show some (PyData.list (cutD (ns.map .int) none (some ((63 : Nat) : Int)))) = _
    rw [cut_to, List.take_of_length_le (by rw [List.length_map]; exact hn)]
  simp only [w_seq, w_ret, w_dct, w_cons, w_nil, w_comp, w_walk, w_sl, w_var, w_no, w_so, w_con]
  simp [e1]
  refine wp_comp (s := ⟨ns.map .int, none⟩) (fun _ => true) (fun x => x) rfl (small_size (by simp; omega)) (fun x hx => ?_) ?_
  · obtain ⟨i, _, rfl⟩ := List.mem_map.mp hx
    refine ⟨_, rfl, rfl, fun _ => Wp.eq ?_⟩
    simp only [w_blt, w_cons, w_nil, w_var]
    simp
  · simp only [map_id', filt_true]
    refine ⟨_, rfl, rfl, True.intro, _, ⟨ns, 0, 0, 0, rfl, hn⟩, rfl⟩
end RB
/-! RP12: shared by the laws about rules: rows, good values, reprs of rules. -/
namespace RB
open PySem PySem.Spec L2
variable {T : Run} {X : XQ}
/-- x stands in the row -/
def hasD (xs : List PyData) (x : PyData) : Bool := xs.any fun z => PyData.eqv z x
theorem in_tupH {x : PyData} {zs : List PyData} (hx : SeqAt.shaped x = true) (hz : SeqAt.shaped (.tuple zs) = true) : cmpSem .In x (.tuple zs) = some (.bool (hasD zs x)) := in_tup hx hz
def rowD : PyData → List PyData
  | .tuple xs => xs
  | _ => []
theorem rule_row {x : PyData} (h : isRule x = true) : ∃ cs, x = .tuple cs ∧ ∀ c ∈ cs, isClause c = true := by
  cases x with
  | tuple cs =>
    obtain ⟨h1, _⟩ := Bool.and_eq_true_iff.mp (show (cs.all isClause && adj cs) = true from h)
    exact ⟨cs, rfl, fun c hc => List.all_eq_true.mp h1 c hc⟩
  | _ => cases h
theorem needs_row {x : PyData} (h : isNeeds x = true) : ∃ ms, x = .tuple ms := by
  cases x with
  | tuple ms => exact ⟨ms, rfl⟩
  | _ => cases h
abbrev noD (w : Str) : PyData := .tuple [.str "NotUsable", .str w, .int (-1)]
abbrev toldD (x : PyData) : PyData := .tuple [.str "told", x]
theorem notin_tup {x : PyData} {zs : List PyData} (hx : SeqAt.shaped x = true) (hz : SeqAt.shaped (.tuple zs) = true) : cmpSem .NotIn x (.tuple zs) = some (.bool (!hasD zs x)) := by
  show (if SeqAt.shaped x && SeqAt.shaped (.tuple zs) then some (PyData.bool (true != zs.any fun z => PyData.eqv z x)) else none) = _
  rw [hx, hz]
  unfold hasD
  simp
theorem needs_txt {ts : List PyData} (h : isNeeds (.tuple ts) = true) : txtL ts = true := by
  obtain ⟨_, e, ht⟩ := needs_strs h
  cases e
  exact txtL_iff.mpr fun t h => let ⟨s, e, _⟩ := need_str (ht t h); txt_str ⟨s, e⟩
def Good (x : PyData) : Prop := Nice x ∧ short x = true
theorem fine_good {m s d : Nat} {x : PyData} (h : Fine m s d x) (hm : m ≤ 60) (hs : s ≤ 2000) (hd : d ≤ 30) : Good x := by
  refine ⟨⟨d, hd, h.mono (by omega) hs (Nat.le_refl _)⟩, ?_⟩
  cases x with
  | tuple xs =>
    cases d with
    | zero => unfold Fine at h; exact h.elim
    | succ d => exact decide_eq_true (by have := (fine_tup.mp h).1; omega)
  | _ => rfl
theorem txf_words {m s d : Nat} {x : PyData} (hs : 8 ≤ s) (h : x ∈ needsL ∨ x ∈ momentsL) : TxF m s d x := by
  have f := fine_word (m := m) (s := s) (d := d) hs h
  have key : ∀ x ∈ needsL ++ momentsL, isStrD x = true := by decide +kernel
  have k := key x (List.mem_append.mpr h)
  cases x with
  | str t => unfold TxF; unfold Fine at f; exact f
  | _ => cases k
theorem txf_sub {m s d : Nat} {x : PyData} {zs : List PyData} (hs : 8 ≤ s) (hm : 6 ≤ m) (hz : zs = needsL ∨ zs = momentsL) (h : SubOf zs x) : TxF m s (d + 1) x := by
  obtain ⟨ts, rfl, h⟩ := h
  unfold TxF
  refine ⟨?_, fun x hx => ?_⟩
  · rcases hz with rfl | rfl
    · exact Nat.le_trans h.length_le (show 4 ≤ m by omega)
    · exact Nat.le_trans h.length_le (show 6 ≤ m by omega)
  · rcases hz with rfl | rfl
    · exact txf_words hs (.inl (h.subset hx))
    · exact txf_words hs (.inr (h.subset hx))
theorem txf_pair {m s d : Nat} {x : PyData} (hs : 8 ≤ s) (hm : 6 ≤ m) (h : PairP x) : TxF m s (d + 2) x := by
  obtain ⟨a, ha, ts, rfl, ht⟩ := h
  unfold TxF
  refine ⟨show 2 ≤ m by omega, fun x hx => ?_⟩
  simp only [List.mem_cons, List.not_mem_nil, or_false] at hx
  rcases hx with rfl | rfl
  · exact txf_words hs (.inr ha)
  · exact txf_sub hs hm (.inl rfl) ⟨ts, rfl, ht⟩
theorem txf_plan {m s d n : Nat} {x : PyData} (hs : 8 ≤ s) (hm : 6 ≤ m) (hn : n ≤ m) (h : PlanP n x) : TxF m s (d + 3) x := by
  obtain ⟨ps, rfl, hp, hl, _⟩ := h
  unfold TxF
  exact ⟨by omega, fun x hx => txf_pair hs hm (hp x hx)⟩
/-- a rule to start with -/
def RuleG (x : PyData) : Prop := TxF 12 9 3 x ∧ isRule x = true
theorem nil_rule : RuleG (.tuple []) := ⟨by unfold TxF; simp, rfl⟩
theorem RuleG.good {x : PyData} (h : RuleG x) : Good x := fine_good h.1.fine (by omega) (by omega) (by omega)
theorem sub_good {zs : List PyData} {x : PyData} (hz : zs = needsL ∨ zs = momentsL) (h : SubOf zs x) : Good x := fine_good (txf_sub (m := 12) (s := 9) (d := 0) (by omega) (by omega) hz h).fine (by omega) (by omega) (by omega)
theorem ix_end {o : O} {r : AH} {vs : List PyData} {k : Nat} {v : PyData} (e : vs[k]? = some v) : opU ixD (o :: (r ++ [.lst vs])) (.r (r.length + 1)) (.d (.int (k : Int))) = some (.d v) := by
  have hk : k < vs.length := (List.getElem?_eq_some_iff.mp e).1
  have e1 : ixD (.list vs) (.int (k : Int)) = some v := by
    show atI vs (k : Int) = _
    unfold atI ixN
    rw [if_pos (by omega), if_pos (by omega)]
    simpa using e
  unfold opU datU
  simp [e1]
theorem put_end {o : O} {r : AH} {vs : List PyData} {k : Nat} {v : PyData} (hk : k < vs.length) : putAt (o :: (r ++ [.lst vs])) (.r (r.length + 1)) (.d (.int (k : Int))) (.d v) = some (o :: (r ++ [.lst (vs.set k v)])) := by
  have e1 : (o :: (r ++ [O.lst vs]))[r.length + 1]? = some (.lst vs) := by simp
  have e2 : ixN vs.length (k : Int) = some k := by
    unfold ixN
    rw [if_pos (by omega), if_pos (by omega)]
    rfl
  unfold putAt
  simp only [e1, e2]
  rw [set_end]
theorem range_at {n : Nat} {done rest : List PyData} {x : PyData} (e : (List.range n).map (fun (k : Nat) => PyData.int (k : Int)) = done ++ x :: rest) : x = .int (done.length : Int) ∧ done.length < n := by
  have h1 : ((List.range n).map (fun (k : Nat) => PyData.int (k : Int)))[done.length]? = some x := by rw [e]; simp
  have hl : done.length < n := by
    have := (List.getElem?_eq_some_iff.mp h1).1
    simpa using this
  rw [List.getElem?_map, List.getElem?_range hl] at h1
  exact ⟨(Option.some.inj h1).symm, hl⟩
/-! ### reprs of rows -/
def Shw (B : Nat) (x : PyData) : Prop := x.showable = true ∧ PyData.strOk x.shown = true ∧ x.shown.length ≤ B
theorem Shw.mono {B C : Nat} {x : PyData} (h : Shw B x) (hc : B ≤ C) : Shw C x := ⟨h.1, h.2.1, Nat.le_trans h.2.2 hc⟩
theorem sok_app (a b : Str) : PyData.strOk (a ++ b) = (PyData.strOk a && PyData.strOk b) := by
  unfold PyData.strOk
  show (a.cps ++ b.cps).all _ = _
  rw [Array.all_append]
theorem join_ok {B : Nat} : ∀ {ts : List Str}, (∀ t ∈ ts, PyData.strOk t = true ∧ t.length ≤ B) → PyData.strOk (Str.join ", " ts) = true ∧ (Str.join ", " ts).length ≤ ts.length * (B + 2)
  | [], _ => ⟨by decide +kernel, Nat.zero_le _⟩
  | [t], h => by
    obtain ⟨h1, h2⟩ := h t List.mem_cons_self
    exact ⟨h1, show t.length ≤ 1 * (B + 2) by omega⟩
  | t :: u :: r, h => by
    obtain ⟨h1, h2⟩ := h t List.mem_cons_self
    obtain ⟨i1, i2⟩ := join_ok (ts := u :: r) fun x hx => h x (List.mem_cons_of_mem _ hx)
    show PyData.strOk (t ++ ", " ++ Str.join ", " (u :: r)) = true ∧ (t ++ ", " ++ Str.join ", " (u :: r)).length ≤ _
    rw [sok_app, sok_app, h1, i1, strLen_append, strLen_append, show PyData.strOk (((", " : String) : Str)) = true by decide +kernel, show ((", " : String) : Str).length = 2 by decide +kernel]
    refine ⟨rfl, ?_⟩
    have e : (t :: u :: r).length = (u :: r).length + 1 := rfl
    rw [e, Nat.add_mul]
    omega
theorem from_ok {B : Nat} : ∀ {ts : List Str} {k : Nat} {acc : Str}, (∀ t ∈ ts, PyData.strOk t = true ∧ t.length ≤ B) → PyData.strOk acc = true → PyData.strOk (textFrom k acc ts) = true ∧ (textFrom k acc ts).length ≤ acc.length + ts.length * (B + 2)
  | [], k, acc, _, ha => ⟨ha, by show acc.length ≤ _; omega⟩
  | t :: r, k, acc, h, ha => by
    obtain ⟨h1, h2⟩ := h t List.mem_cons_self
    have sp : PyData.strOk (((if k > 0 then ", " else "" : String) : Str)) = true ∧ ((((if k > 0 then ", " else "" : String) : Str))).length ≤ 2 := by
      split
      · exact ⟨by decide +kernel, by decide +kernel⟩
      · exact ⟨by decide +kernel, by decide +kernel⟩
    obtain ⟨i1, i2⟩ := from_ok (ts := r) (k := k + 1) (acc := acc ++ (if k > 0 then ", " else "" : String) ++ t) (fun x hx => h x (List.mem_cons_of_mem _ hx)) (by rw [sok_app, sok_app, ha, sp.1, h1]; rfl)
    refine ⟨i1, Nat.le_trans i2 ?_⟩
    rw [strLen_append, strLen_append]
    have e : (t :: r).length = r.length + 1 := rfl
    rw [e, Nat.add_mul]
    have := sp.2
    omega
theorem shownAll_ok {B : Nat} : ∀ {xs : List PyData}, (∀ x ∈ xs, Shw B x) → PyData.showableAll xs = true ∧ (PyData.shownAll xs).length = xs.length ∧ ∀ t ∈ PyData.shownAll xs, PyData.strOk t = true ∧ t.length ≤ B
  | [], _ => by
    rw [PyData.showableAll, PyData.shownAll]
    exact ⟨rfl, rfl, fun t ht => absurd ht List.not_mem_nil⟩
  | x :: xs, h => by
    obtain ⟨a1, a2, a3⟩ := h x List.mem_cons_self
    obtain ⟨i1, i2, i3⟩ := shownAll_ok (xs := xs) fun y hy => h y (List.mem_cons_of_mem _ hy)
    rw [PyData.showableAll, PyData.shownAll, a1, i1]
    refine ⟨rfl, by rw [List.length_cons, List.length_cons, i2], fun t ht => ?_⟩
    rcases List.mem_cons.mp ht with rfl | ht
    · exact ⟨a2, a3⟩
    · exact i3 t ht
theorem shw_tup {B n : Nat} {xs : List PyData} (h : ∀ x ∈ xs, Shw B x) (hn : xs.length ≤ n) : Shw (n * (B + 2) + 3) (.tuple xs) := by
  obtain ⟨h1, h2, h3⟩ := shownAll_ok h
  obtain ⟨j1, j2⟩ := join_ok h3
  unfold Shw
  rw [PyData.showable, PyData.shown]
  unfold tupleText
  have e : PyData.strOk (((if (PyData.shownAll xs).length == 1 then ",)" else ")" : String) : Str)) = true ∧ ((((if (PyData.shownAll xs).length == 1 then ",)" else ")" : String) : Str))).length ≤ 2 := by
    split
    · exact ⟨by decide +kernel, by decide +kernel⟩
    · exact ⟨by decide +kernel, by decide +kernel⟩
  refine ⟨h1, ?_, ?_⟩
  · rw [sok_app, sok_app, j1, e.1]
    decide +kernel
  · rw [strLen_append, strLen_append]
    have e2 : ((("(" : String) : Str)).length = 1 := by decide +kernel
    rw [e2]
    have := e.2
    rw [h2] at j2
    have := Nat.mul_le_mul_right (B + 2) hn
    omega
theorem shw_lst {B n : Nat} {xs : List PyData} (h : ∀ x ∈ xs, Shw B x) (hn : xs.length ≤ n) : Shw (n * (B + 2) + 3) (.list xs) := by
  obtain ⟨h1, h2, h3⟩ := shownAll_ok h
  obtain ⟨j1, j2⟩ := from_ok (k := 0) (acc := (("[" : String) : Str)) h3 (by decide +kernel)
  unfold Shw
  rw [PyData.showable, PyData.shown]
  unfold listText
  refine ⟨h1, ?_, ?_⟩
  · rw [sok_app, j1]
    decide +kernel
  · rw [strLen_append]
    have e2 : ((("[" : String) : Str)).length = 1 := by decide +kernel
    have e3 : ((("]" : String) : Str)).length = 1 := by decide +kernel
    rw [e3]
    rw [h2, e2] at j2
    have := Nat.mul_le_mul_right (B + 2) hn
    omega
theorem Shw.says {B : Nat} {x : PyData} (h : Shw B x) (hB : B ≤ 16000000) (sh : SeqAt.shaped x = true) : RB.says x = true := by
  unfold RB.says shows
  rw [sh, h.1, h.2.1, decide_eq_true (Nat.le_trans h.2.2 (Nat.le_trans hB (by decide)))]
  rfl
/-- words, needs, clauses, rules -/
theorem shw_word {x : PyData} (h : x ∈ needsL ∨ x ∈ momentsL) : Shw 12 x := by
  have key : (needsL ++ momentsL).all (fun x => x.showable && (PyData.strOk x.shown && decide (x.shown.length ≤ 12))) = true := by decide +kernel
  have k := List.all_eq_true.mp key x (List.mem_append.mpr h)
  obtain ⟨k1, k⟩ := Bool.and_eq_true_iff.mp k
  obtain ⟨k2, k3⟩ := Bool.and_eq_true_iff.mp k
  exact ⟨k1, k2, of_decide_eq_true k3⟩
theorem asc_nd {xs : List PyData} (h : Asc xs) : xs.Nodup := List.Pairwise.imp (fun {x y} (hxy : Tr.lt (tree x) (tree y) = true) e => by rw [e, Tr.irr] at hxy; cases hxy) h
theorem needs_few {ts : List PyData} (h : isNeeds (.tuple ts) = true) : ts.length ≤ 4 ∧ ∀ t ∈ ts, t ∈ needsL := by
  obtain ⟨h1, h2⟩ := Bool.and_eq_true_iff.mp (show (ts.all isNeed && adj ts) = true from h)
  have sub : ∀ t ∈ ts, t ∈ needsL := fun t ht => let ⟨_, _, m⟩ := need_str (List.all_eq_true.mp h1 t ht); m
  exact ⟨(asc_nd (adj_asc.mp h2)).length_le_of_subset sub, sub⟩
theorem shw_needs {x : PyData} (h : isNeeds x = true) : Shw 60 x := by
  obtain ⟨ts, rfl⟩ := needs_row h
  obtain ⟨h1, h2⟩ := needs_few h
  exact (shw_tup (fun t ht => shw_word (.inl (h2 t ht))) h1).mono (by omega)
theorem clause_in {c : PyData} (h : isClause c = true) : ∃ m ts, c = .tuple [m, .tuple ts] ∧ m ∈ momentsL ∧ isMoment m = true ∧ isNeeds (.tuple ts) = true := by
  unfold isClause at h
  split at h
  · rename_i a b
    obtain ⟨h1, h2⟩ := Bool.and_eq_true_iff.mp h
    obtain ⟨s, _, m⟩ := moment_str h1
    obtain ⟨ts, rfl⟩ := needs_row h2
    exact ⟨a, ts, rfl, m, h1, h2⟩
  · cases h
theorem shw_clause {c : PyData} (h : isClause c = true) : Shw 130 c := by
  obtain ⟨m, ts, rfl, hm, _, hn⟩ := clause_in h
  refine (shw_tup (B := 60) (n := 2) (fun t ht => ?_) (by simp)).mono (by omega)
  simp only [List.mem_cons, List.not_mem_nil, or_false] at ht
  rcases ht with rfl | rfl
  · exact (shw_word (.inr hm)).mono (by omega)
  · exact shw_needs hn
theorem shw_clauses {cs : List PyData} {n : Nat} (h : ∀ c ∈ cs, isClause c = true) (hn : cs.length ≤ n) : Shw (n * 132 + 3) (.tuple cs) := shw_tup (fun c hc => shw_clause (h c hc)) hn
/-! ### comprehensions of two clauses -/
theorem wp_comp2 {s : Src} {tg tg1 : Tg} {lw : Lc} {t t1 : FT} {i1 : FI} {e : FE} {h : AH} {Q : List PyData → AH → Prop} (φ : PyData → List PyData) (hs : s.place = none) :
    ∀ {xs acc : List PyData}, (∀ x ∈ xs, ∃ l2, tg.put (.d x) lw = some l2 ∧ t l2 h = .ok true h ∧ ∃ ys, i1 l2 h = .ok ⟨ys, none⟩ h ∧ ys.length ≤ 2000 ∧ (φ x).length ≤ ys.length ∧ ∀ acc : List PyData, acc.length + ys.length ≤ sizeLine → compGo ⟨ys, none⟩ tg1 (wipeL l2 tg1.slots) t1 e ys acc h = .ok (acc ++ φ x) h) →
      acc.length + 2000 * xs.length ≤ sizeLine → Q (acc ++ xs.flatMap φ) h → Wp (compGo2 s tg lw t i1 tg1 t1 e xs acc h) Q X
  | [], acc, _, _, q => by
    unfold compGo2
    unfold walkOk
    rw [hs]
    simp only [List.flatMap_nil, List.append_nil] at q
    simpa using q
  | x :: xs, acc, hx, hl, q => by
    obtain ⟨l2, e1, e2, ys, e3, e4, e5, e6⟩ := hx x List.mem_cons_self
    unfold compGo2
    unfold walkOk
    rw [hs]
    have hl' : acc.length + 2000 * (xs.length + 1) ≤ sizeLine := hl
    simp only [if_true, e1, e2, noX, R.bind_ok, e3, e6 acc (by omega)]
    refine wp_comp2 φ hs (fun y hy => hx y (List.mem_cons_of_mem _ hy)) (by rw [List.length_append]; omega) ?_
    rw [List.append_assoc, ← List.flatMap_cons]
    exact q
end RB
/-! RP13: shared by laws k05, k06: answers (a value or a refusal), values that are not too long, rows drawn from a row. -/
namespace RB
open PySem PySem.Spec L2
variable {T : Run} {X : XQ}
theorem eq_sh {x y : PyData} (hx : SeqAt.shaped x = true) (hy : SeqAt.shaped y = true) : cmpSem .Eq x y = some (.bool (PyData.eqv x y)) := by
  show (if SeqAt.shaped x && SeqAt.shaped y then some (PyData.bool (PyData.eqv x y)) else none) = _
  rw [hx, hy]
  rfl
theorem srt_need : Srt isNeed where
  txt := fun x h => let ⟨s, e, _⟩ := need_str h; txt_str ⟨s, e⟩
  lt := fun a b ha hb => lt_strs (let ⟨s, e, _⟩ := need_str ha; ⟨s, e⟩) (let ⟨s, e, _⟩ := need_str hb; ⟨s, e⟩)
  depth := fun x h => by
    obtain ⟨s, rfl, _⟩ := need_str h
    simp [PyData.depth]
  kind := .inl fun x h => by
    obtain ⟨s, rfl, _⟩ := need_str h
    rfl
theorem sort_list {ds : List PyData} (ok : okSort ds = true) : sortSetB [.list ds] = some (.list (sortT ds)) := by
  show (if okSort ds then some (PyData.list (sortT ds)) else none) = _
  rw [ok]
  rfl
theorem need_lay {x : PyData} (h : isNeed x = true) : x.canLay0 = true := by
  obtain ⟨s, _, m⟩ := need_str h
  have key : ∀ x ∈ needsL, x.canLay0 = true := by decide +kernel
  exact key x m
theorem in_lstH {x : PyData} {zs : List PyData} (hx : SeqAt.shaped x = true) (hz : SeqAt.shaped (.list zs) = true) : cmpSem .In x (.list zs) = some (.bool (hasD zs x)) := in_lst hx hz
theorem add_lst {xs ys : List PyData} (h : xs.length + ys.length ≤ 10000) : binSem .Add (.list xs) (.list ys) = some (.list (xs ++ ys)) := by
  show (if xs.length + ys.length ≤ sizeLine then some (PyData.list (xs ++ ys)) else none) = _
  rw [if_pos (Nat.le_trans h (by decide))]
theorem word_nice {x : PyData} (h : x ∈ needsL ∨ x ∈ momentsL) : Nice x := ⟨0, by omega, (fine_word (m := 2000) (s := 2000) (d := 0) (by omega) h)⟩
theorem hasD_mem {xs : List PyData} {x : PyData} (h : txtL xs = true) (hx : txt x = true) : hasD xs x = true ↔ x ∈ xs := by
  unfold hasD
  rw [List.any_eq_true]
  exact ⟨fun ⟨z, hz, e⟩ => (eqv_eq (txtL_mem h z hz) hx).mp e ▸ hz, fun hz => ⟨x, hz, (eqv_eq hx hx).mpr rfl⟩⟩
theorem txt_moments : txtL momentsL = true := by decide +kernel
theorem PlanP.up {n m : Nat} {x : PyData} (h : PlanP n x) (hm : n ≤ m) : PlanP m x := by
  obtain ⟨ps, rfl, a, b, c⟩ := h
  exact ⟨ps, rfl, a, Nat.le_trans b hm, c⟩
theorem Nice.subT {xs ys : List PyData} (h : Nice (.tuple xs)) (hm : ∀ y ∈ ys, y ∈ xs) (hl : ys.length ≤ xs.length) : Nice (.tuple ys) := by
  obtain ⟨d, hd, h⟩ := h
  cases d with
  | zero => unfold Fine at h; exact h.elim
  | succ d =>
    refine ⟨d + 1, hd, ?_⟩
    unfold Fine at h ⊢
    exact ⟨Nat.le_trans hl h.1, fun y hy => h.2 y (hm y hy)⟩
/-! ### answers -/
/-- a value, or the word of a refusal -/
inductive An where
  | yes (x : PyData)
  | no (w : Str)
def ansR : An → AH → R U
  | .yes x, h => .ok (.d x) h
  | .no w, h => refused w h
def ansD : An → PyData
  | .yes x => toldD x
  | .no w => noD w
theorem refT_no (w : Str) : refT "NotUsable" [("at", .int (-1)), ("word", .str w)] = some (noD w) := by
  unfold refT
  rw [if_pos rfl]
  rfl
theorem said_ans {a : An} {h : AH} {Q : U → AH → Prop} : Wp (ansR a h) (fun u h1 => ∃ z, mkTup [.d (.str "told"), u] = some z ∧ Q z h1) (fun c fs h1 => ∃ t, refT c fs = some t ∧ Q (.d t) h1) ↔ Q (.d (ansD a)) h := by
  cases a with
  | yes x => exact ⟨fun ⟨z, e, q⟩ => by cases e; exact q, fun q => ⟨_, rfl, q⟩⟩
  | no w =>
    refine ⟨fun ⟨z, e, q⟩ => ?_, fun q => ⟨_, refT_no w, q⟩⟩
    rw [refT_no] at e
    cases e
    exact q
theorem Wp.ans {r : R U} {a : An} {h : AH} (w : Wp r (fun u h1 => ∃ x, a = .yes x ∧ u = .d x ∧ h1 = h) (fun c fs h1 => ∃ w, a = .no w ∧ c = "NotUsable" ∧ fs = ([("at", .int (-1)), ("word", .str w)] : List (Str × PyData)) ∧ h1 = h)) : r = ansR a h := by
  cases r with
  | ok u h1 => obtain ⟨x, rfl, rfl, rfl⟩ := w; rfl
  | exc c fs h1 => obtain ⟨x, rfl, rfl, rfl, rfl⟩ := w; rfl
  | stuck => exact w.elim
/-! ### values that are not too long -/
def few : PyData → Bool
  | .tuple xs => decide (xs.length ≤ 30)
  | _ => true
def Ti (x : PyData) : Prop := Nice x ∧ few x = true
theorem Ti.row {x : PyData} (h : Ti x) : (rowD x).length ≤ 30 := by
  cases x with
  | tuple xs => exact of_decide_eq_true h.2
  | _ => exact Nat.zero_le _
theorem Ti.short {x : PyData} (h : Ti x) : short x = true := by
  cases x with
  | tuple xs =>
    have := of_decide_eq_true (show decide (xs.length ≤ 30) = true from h.2)
    exact decide_eq_true (by omega)
  | _ => rfl
theorem fine_ti {m s d : Nat} {x : PyData} (h : Fine m s d x) (hm : m ≤ 30) (hs : s ≤ 2000) (hd : d ≤ 30) : Ti x := by
  refine ⟨⟨d, hd, h.mono (by omega) hs (Nat.le_refl _)⟩, ?_⟩
  cases x with
  | tuple xs =>
    cases d with
    | zero => unfold Fine at h; exact h.elim
    | succ d => exact decide_eq_true (by have := (fine_tup.mp h).1; omega)
  | _ => rfl
theorem fine_clause {c : PyData} (h : isClause c = true) : Fine 6 9 2 c := by
  obtain ⟨m, ts, rfl, hm, _, hn⟩ := clause_in h
  obtain ⟨h1, h2⟩ := needs_few hn
  refine fine_tup.mpr ⟨by simp, fun x hx => ?_⟩
  simp only [List.mem_cons, List.not_mem_nil, or_false] at hx
  rcases hx with rfl | rfl
  · exact fine_word (by omega) (.inr hm)
  · exact fine_tup.mpr ⟨by omega, fun x hx => fine_word (by omega) (.inl (h2 x hx))⟩
theorem nice_clauses {cs : List PyData} (h : ∀ c ∈ cs, isClause c = true) (hl : cs.length ≤ 100) : Nice (.tuple cs) := ⟨3, by omega, fine_tup.mpr ⟨by omega, fun c hc => (fine_clause (h c hc)).mono (by omega) (by omega) (by omega)⟩⟩
theorem rule_of {cs : List PyData} (h : ∀ c ∈ cs, isClause c = true) (ha : Asc cs) : isRule (.tuple cs) = true := by
  show (cs.all isClause && adj cs) = true
  rw [Bool.and_eq_true, List.all_eq_true]
  exact ⟨h, adj_asc.mpr ha⟩
theorem rule_asc {cs : List PyData} (h : isRule (.tuple cs) = true) : Asc cs := by
  obtain ⟨_, h2⟩ := Bool.and_eq_true_iff.mp (show (cs.all isClause && adj cs) = true from h)
  exact adj_asc.mp h2
theorem clauses_txt {cs : List PyData} (h : ∀ c ∈ cs, isClause c = true) : txtL cs = true := txtL_iff.mpr fun c hc => srt_clause.txt c (h c hc)
theorem ok_clauses {cs : List PyData} (h : ∀ c ∈ cs, isClause c = true) (hl : cs.length < 64) : okSort cs = true := okSort_mk srt_clause (fun x hx => ⟨h x hx, (fine_clause (h x hx)).lay.1⟩) hl
theorem sort_tup {ds : List PyData} (ok : okSort ds = true) : sortSetB [.tuple ds] = some (.list (sortT ds)) := by
  show (if okSort ds then some (PyData.list (sortT ds)) else none) = _
  rw [ok]
  rfl
theorem sort_diff {ds : List PyData} (ok : okSort ds = true) (nd : ds.Nodup) : sortLB [.list ds] = some (.list (sortT ds)) := by
  show (if okSort ds && diffB ds then some (PyData.list (sortT ds)) else none) = _
  rw [ok, nd_diffB nd]
  rfl
theorem ne_sh {x y : PyData} (hx : SeqAt.shaped x = true) (hy : SeqAt.shaped y = true) : cmpSem .NotEq x y = some (.bool (!PyData.eqv x y)) := by
  show (if SeqAt.shaped x && SeqAt.shaped y then some (PyData.bool (!PyData.eqv x y)) else none) = _
  rw [hx, hy]
  rfl
theorem eq_str {x : Str} (h : PyData.strOk x = true) : cmpSem .Eq (.str x) (.str x) = some (.bool true) := by
  rw [eq_sh (str_shaped h) (str_shaped h), PyData.eqv, beq_self_eq_true]
theorem says_eq {x : PyData} (h : says x = true) : reprB [x] = some (.str x.shown) ∧ cmpSem .Eq (.str x.shown) (.str x.shown) = some (.bool true) := by
  obtain ⟨h1, h2⟩ := Bool.and_eq_true_iff.mp h
  exact ⟨repr_of h1, eq_str h2⟩
theorem eq_bool (a b : Bool) : cmpSem .Eq (.bool a) (.bool b) = some (.bool (a == b)) := by cases a <;> cases b <;> kernel_rfl
/-- a row of which each item is taken if b is drawn as 0; the feed stands at k -/
theorem sub_compK {y z : Int} (hT : Has T "_law_draw" 7 (c_law_draw y z)) {j : Nat} (hj : 1 ≤ j) {zs : List PyData} (hz : zs.length ≤ 2000) {b : Int} (hb : 0 < b) (hb2 : b < 1073741824) {lo : Str → Cf1} {i k : Nat} {lw : Lc} (hlen : i < lw.length) (h0 : ∀ x : PyData, (lw.set i (some (.d x)))[k]? = some (some (.r 0))) {o : O} (ho : Feed o) {r : AH} {Q : List PyData → AH → Prop}
    (fin : ∀ ts o', ts.Sublist zs → Feed o' → Q ts (o' :: r)) :
    Wp (compGo ⟨zs, none⟩ (.v i) lw (fTe (semE ⟨clk T j, lo⟩ (.cmp .Eq (.call "_law_draw" [.p 0, .p 1] (.cons (.var k) (.cons (.con (.int b)) .nil)) .nil) (.con (.int 0))))) (semE ⟨clk T j, lo⟩ (.var i)) zs [] (o :: r)) Q X := by
  refine wp_compD (fun rest acc h => ∃ done o', zs = done ++ rest ∧ acc.Sublist done ∧ Feed o' ∧ h = o' :: r) ?_ ?_ zs [] _ ⟨[], o, rfl, List.Sublist.refl _, ho, rfl⟩
  · rintro x xs acc h ⟨done, o', e, hs, fo, rfl⟩
    refine ⟨Nat.lt_of_le_of_lt (Nat.le_trans hs.length_le ?_) (show 2000 < sizeLine by decide), _, rfl, ?_⟩
    · rw [e, List.length_append] at hz; omega
    · simp only [w_te, w_cmp, w_call, w_cons, w_nil, w_var, w_con]
      simp [h0]
      refine (draw_ok hT hj fo hb hb2 r).imp ?_
      rintro u h' ⟨v, o2, rfl, ⟨v0, rfl, k1, k2⟩, fo2, rfl⟩
      simp [eq_int]
      by_cases hk : v0 = 0
      · refine .inr ⟨hk, ?_⟩
        simp [List.getElem?_set_self hlen]
        exact ⟨done ++ [x], by rw [e]; simp, hs.append (List.Sublist.refl _), fo2⟩
      · exact .inl ⟨hk, done ++ [x], by rw [e]; simp, hs.trans (List.sublist_append_left _ _), fo2⟩
  · rintro acc h ⟨done, o', e, hs, fo, rfl⟩
    rw [List.append_nil] at e
    exact fin acc o' (e ▸ hs) fo
end RB
/-! RP14: answers that are shown, refusals of parameters, calls that are asked. -/
namespace RB
open PySem PySem.Spec L2
variable {T : Run} {X : XQ}
def headC : PyData → PyData
  | .tuple [s, _] => s
  | _ => .none
def testsC : PyData → List PyData
  | .tuple [_, .tuple ts] => ts
  | _ => []
theorem mkLst_map {us : List U} {xs : List PyData} (e : us = xs.map U.d) (hl : xs.length ≤ 10000) : mkLst us = some (.d (.list xs)) := by
  unfold mkLst
  rw [allD_eq.mpr e]
  show (if xs.length ≤ sizeLine then some (U.d (.list xs)) else none) = _
  rw [if_pos (Nat.le_trans hl (by decide))]
theorem told_out {x : PyData} {h : AH} : ∃ u, mkTup [U.d (.str "told"), U.d x] = some u ∧ Bk h.length (fun b h2 => b = U.d (toldD x) ∧ h2 = h) (.rt u) h := ⟨_, rfl, rfl, by simp⟩
theorem notin_lst {x : PyData} {zs : List PyData} (hx : SeqAt.shaped x = true) (hz : SeqAt.shaped (.list zs) = true) : cmpSem .NotIn x (.list zs) = some (.bool (!hasD zs x)) := by
  show (if SeqAt.shaped x && SeqAt.shaped (.list zs) then some (PyData.bool (true != zs.any fun z => PyData.eqv z x)) else none) = _
  rw [hx, hz]
  unfold hasD
  simp
/-- the code of want_x(x): want(is_x(x), "x") -/
def wantCode (f : Str) (w : Str) : CS := (.seq (.expr (.call "want" [.p 0, .p 1, .d (.int (-1))] (.cons (.call f [.p 0] (.cons (.var 0) .nil) .nil) (.cons (.con (.str w)) .nil)) .nil)) .pass)
theorem wantx_ok {g f w : Str} {F : PyData → Bool} {n : Nat} (hT : Has T g 1 (wantCode f w)) (hW : Has T "want" 3 c_want) (hF : PuB T n f F) {j : Nat} (hj : n + 1 ≤ j) (hj2 : 2 ≤ j) {x : PyData} (hx : Nice x) (h : AH) :
    clk T j g [.d x] h = if F x = true then .ok (.d .none) h else refused w h := by
  have e1 := hF (j - 1) (by omega) x hx h
  have e2 := want_ok hW (show 1 ≤ j - 1 by omega) (b := F x) (w := w) h
  cases hb : F x with
  | true =>
    rw [hb] at e1 e2
    refine Wp.eq ((w_clk hT (by omega)).mpr ?_)
    unfold wantCode
    simp only [w_seq, w_expr, w_call, w_cons, w_nil, w_var, w_con, w_pass]
    simp [e1, e2]
  | false =>
    rw [hb] at e1 e2
    refine Wp.eqX ((w_clk hT (by omega)).mpr ?_)
    unfold wantCode
    simp only [w_seq, w_expr, w_call, w_cons, w_nil, w_var, w_con, w_pass]
    simp [e1, e2]
/-! ### answers that can be shown -/
def Anw (a : An) : Prop := Shw 40000 (ansD a) ∧ Fine 100 20 5 (ansD a)
theorem anw_yes {cs : List PyData} (h : ∀ c ∈ cs, isClause c = true) (hl : cs.length ≤ 100) : Anw (.yes (.tuple cs)) := by
  have s := shw_clauses h hl
  have f : Fine 100 20 3 (.tuple cs) := fine_tup.mpr ⟨hl, fun c hc => (fine_clause (h c hc)).mono (by omega) (by omega) (by omega)⟩
  have w : Shw 12 (.str "told") := ⟨by decide +kernel, by decide +kernel, by decide +kernel⟩
  refine ⟨(shw_tup (B := 14000) (n := 2) (fun x hx => ?_) (by simp)).mono (by omega), ?_⟩
  · have hx' : x = .str "told" ∨ x = .tuple cs := by
      have : x ∈ [PyData.str "told", .tuple cs] := hx
      simpa using this
    rcases hx' with rfl | rfl
    · exact w.mono (by omega)
    · exact s.mono (by omega)
  · show Fine 100 20 (4 + 1) (.tuple [.str "told", .tuple cs])
    refine fine_tup.mpr ⟨by simp, fun x hx => ?_⟩
    have hx' : x = .str "told" ∨ x = .tuple cs := by simpa using hx
    rcases hx' with rfl | rfl
    · exact (fineB_ok (m := 100) (s := 20) (d := 4) (by decide +kernel))
    · exact f.mono (by omega) (by omega) (by omega)
theorem anw_no {w : Str} (h : w = "rule" ∨ w = "clause" ∨ w = "other" ∨ w = "tests" ∨ w = "need" ∨ w = "moment" ∨ w = "size" ∨ w = "step") : Anw (.no w) := by
  have key : ∀ w ∈ (["rule", "clause", "other", "tests", "need", "moment", "size", "step"] : List Str), ((ansD (.no w)).showable && (PyData.strOk (ansD (.no w)).shown && decide ((ansD (.no w)).shown.length ≤ 100)) && fineB 100 20 5 (ansD (.no w))) = true := by decide +kernel
  have k := key w (by simpa using h)
  obtain ⟨k, k4⟩ := Bool.and_eq_true_iff.mp k
  obtain ⟨k1, k⟩ := Bool.and_eq_true_iff.mp k
  obtain ⟨k2, k3⟩ := Bool.and_eq_true_iff.mp k
  exact ⟨⟨k1, k2, Nat.le_trans (of_decide_eq_true k3) (by omega)⟩, fineB_ok k4⟩
theorem anws_says {as : List An} (h : ∀ a ∈ as, Anw a) (hl : as.length ≤ 10) : says (.list (as.map ansD)) = true := by
  have all : ∀ x ∈ as.map ansD, Shw 40000 x ∧ Fine 100 20 5 x := fun x hx => by
    obtain ⟨a, ha, rfl⟩ := List.mem_map.mp hx
    exact h a ha
  refine (shw_lst (B := 40000) (n := 10) (fun x hx => (all x hx).1) (by rw [List.length_map]; exact hl)).says (by omega) ?_
  have f : Fine 100 20 6 (.list (as.map ansD)) := by
    unfold Fine
    exact ⟨by rw [List.length_map]; omega, fun x hx => (all x hx).2⟩
  obtain ⟨h1, h2⟩ := f.lay
  unfold SeqAt.shaped
  rw [h1, decide_eq_true (by omega)]
  rfl
theorem ne_self {x : PyData} (h : SeqAt.shaped x = true) (t : txt x = true) : cmpSem .NotEq x x = some (.bool false) := by
  rw [ne_sh h h, (eqv_eq t t).mpr rfl]
  rfl
theorem tup_txt {cs : List PyData} (h : ∀ c ∈ cs, isClause c = true) : txt (.tuple cs) = true := by
  rw [txt]
  exact clauses_txt h
/-! ### rules of at most so many clauses -/
def RuleN (n : Nat) (x : PyData) : Prop := ∃ cs, x = .tuple cs ∧ (∀ c ∈ cs, isClause c = true) ∧ cs.length ≤ n ∧ isRule x = true
theorem PlanP.rn {n m : Nat} {x : PyData} (h : PlanP n x) (hm : n ≤ m) : RuleN m x := by
  obtain ⟨ps, rfl, h1, h2, h3⟩ := h
  exact ⟨ps, rfl, fun c hc => pair_clause (h1 c hc), by omega, h3⟩
theorem txf_clause {m s d : Nat} {x : PyData} (hs : 8 ≤ s) (hm : 6 ≤ m) (h : isClause x = true) : TxF m s (d + 2) x := by
  obtain ⟨a, ts, rfl, ha, _, hn⟩ := clause_in h
  obtain ⟨h1, h2⟩ := needs_few hn
  unfold TxF
  refine ⟨by simp; omega, fun x hx => ?_⟩
  simp only [List.mem_cons, List.not_mem_nil, or_false] at hx
  rcases hx with rfl | rfl
  · exact txf_words hs (.inr ha)
  · unfold TxF
    exact ⟨by omega, fun x hx => txf_words hs (.inl (h2 x hx))⟩
theorem RuleN.txf {n m s : Nat} {x : PyData} (h : RuleN n x) (hs : 8 ≤ s) (hm : 6 ≤ m) (hn : n ≤ m) : TxF m s 3 x := by
  obtain ⟨cs, rfl, h1, h2, _⟩ := h
  unfold TxF
  exact ⟨by omega, fun c hc => txf_clause hs hm (h1 c hc)⟩
theorem RuleN.good {n : Nat} {x : PyData} (h : RuleN n x) (hn : n ≤ 60) : Good x := by
  obtain ⟨cs, rfl, h1, h2, _⟩ := h
  exact ⟨nice_clauses h1 (by omega), decide_eq_true (by omega)⟩
theorem RuleN.says {n : Nat} {x : PyData} (h : RuleN n x) (hn : n ≤ 60) : RB.says x = true := by
  obtain ⟨cs, rfl, h1, h2, _⟩ := id h
  exact ((shw_clauses h1 h2).mono (show n * 132 + 3 ≤ 40000 by omega)).says (by omega) (h.good hn).1.sh
theorem Good.row {x : PyData} (h : Good x) : (rowD x).length < 64 := by
  cases x with
  | tuple xs => exact of_decide_eq_true h.2
  | _ => exact Nat.zero_lt_succ _
theorem nice_b {m s d : Nat} {x : PyData} (h : fineB m s d x = true) (hm : m ≤ 2000) (hs : s ≤ 2000) (hd : d ≤ 30) : Nice x := ⟨d, hd, (fineB_ok h).mono hm hs (Nat.le_refl _)⟩
end RB
/-! RP15: any values that are bent. -/
namespace RB
open PySem PySem.Spec L2
variable {T : Run} {X : XQ}
/-- at most d deep; rows of at most m; texts of at most s signs; numbers of at most B -/
def Gn (m s B : Nat) : Nat → PyData → Prop
  | _, .none => True
  | _, .bool _ => True
  | _, .int i => i.natAbs ≤ B
  | _, .str x => PyData.strOk x = true ∧ x.length ≤ s
  | 0, .list _ => False
  | 0, .tuple _ => False
  | d + 1, .list xs => xs.length ≤ m ∧ ∀ x ∈ xs, Gn m s B d x
  | d + 1, .tuple xs => xs.length ≤ m ∧ ∀ x ∈ xs, Gn m s B d x
  | _, .dict _ => False
theorem Gn.mono {m m' s s' B B' : Nat} (hm : m ≤ m') (hs : s ≤ s') (hB : B ≤ B') : ∀ {d d' : Nat} {x : PyData}, d ≤ d' → Gn m s B d x → Gn m' s' B' d' x
  | d, d', .none, _, _ => by unfold Gn; exact True.intro
  | d, d', .bool _, _, _ => by unfold Gn; exact True.intro
  | d, d', .int i, _, h => by unfold Gn at h ⊢; omega
  | d, d', .str x, _, h => by unfold Gn at h ⊢; exact ⟨h.1, Nat.le_trans h.2 hs⟩
  | d, d', .dict _, _, h => by unfold Gn at h; exact h.elim
  | 0, _, .list _, _, h => by unfold Gn at h; exact h.elim
  | 0, _, .tuple _, _, h => by unfold Gn at h; exact h.elim
  | d + 1, 0, _, hd, _ => absurd hd (by omega)
  | d + 1, d' + 1, .list xs, hd, h => by
    unfold Gn at h ⊢
    exact ⟨Nat.le_trans h.1 hm, fun x hx => Gn.mono hm hs hB (by omega) (h.2 x hx)⟩
  | d + 1, d' + 1, .tuple xs, hd, h => by
    unfold Gn at h ⊢
    exact ⟨Nat.le_trans h.1 hm, fun x hx => Gn.mono hm hs hB (by omega) (h.2 x hx)⟩
theorem log_small {n B : Nat} (h : n ≤ B) (hB : B < 10 ^ 100) : n.log2 < 1920 := by
  by_cases e : n = 0
  · rw [e]; decide
  · rw [Nat.log2_lt e]
    exact Nat.lt_of_le_of_lt h (Nat.lt_trans hB (by decide +kernel))
theorem Gn.fine {m s B : Nat} (hB : B < 10 ^ 100) : ∀ {d : Nat} {x : PyData}, Gn m s B d x → Fine m s d x
  | _, .none, _ => by unfold Fine; exact True.intro
  | _, .bool _, _ => by unfold Fine; exact True.intro
  | _, .int i, h => by unfold Gn at h; unfold Fine; exact log_small h hB
  | _, .str x, h => by unfold Gn at h; unfold Fine; exact h
  | _, .dict _, h => by unfold Gn at h; exact h.elim
  | 0, .list _, h => by unfold Gn at h; exact h.elim
  | 0, .tuple _, h => by unfold Gn at h; exact h.elim
  | d + 1, .list xs, h => by unfold Gn at h; unfold Fine; exact ⟨h.1, fun x hx => (h.2 x hx).fine hB⟩
  | d + 1, .tuple xs, h => by unfold Gn at h; unfold Fine; exact ⟨h.1, fun x hx => (h.2 x hx).fine hB⟩
theorem gn_str {m s B d : Nat} {x : Str} : Gn m s B d (.str x) ↔ PyData.strOk x = true ∧ x.length ≤ s := by unfold Gn; exact Iff.rfl
theorem gn_int {m s B d : Nat} {i : Int} : Gn m s B d (.int i) ↔ i.natAbs ≤ B := by unfold Gn; exact Iff.rfl
theorem gn_bool {m s B d : Nat} {b : Bool} : Gn m s B d (.bool b) := by unfold Gn; exact True.intro
theorem gn_tup {m s B d : Nat} {xs : List PyData} : Gn m s B (d + 1) (.tuple xs) ↔ xs.length ≤ m ∧ ∀ x ∈ xs, Gn m s B d x := by
  constructor
  · intro h; unfold Gn at h; exact h
  · intro h; unfold Gn; exact h
theorem gn_lst {m s B d : Nat} {xs : List PyData} : Gn m s B (d + 1) (.list xs) ↔ xs.length ≤ m ∧ ∀ x ∈ xs, Gn m s B d x := by
  constructor
  · intro h; unfold Gn at h; exact h
  · intro h; unfold Gn; exact h
theorem TxF.gn {m s B : Nat} : ∀ {d : Nat} {x : PyData}, TxF m s d x → Gn m s B d x
  | _, .str x, h => by unfold TxF at h; unfold Gn; exact h
  | 0, .tuple _, h => by unfold TxF at h; exact h.elim
  | d + 1, .tuple xs, h => by unfold TxF at h; unfold Gn; exact ⟨h.1, fun x hx => (h.2 x hx).gn⟩
  | _, .none, h => by unfold TxF at h; exact h.elim
  | _, .bool _, h => by unfold TxF at h; exact h.elim
  | _, .int _, h => by unfold TxF at h; exact h.elim
  | _, .list _, h => by unfold TxF at h; exact h.elim
  | _, .dict _, h => by unfold TxF at h; exact h.elim
def gnB (m s B : Nat) : Nat → PyData → Bool
  | _, .none => true
  | _, .bool _ => true
  | _, .int i => decide (i.natAbs ≤ B)
  | _, .str x => PyData.strOk x && decide (x.length ≤ s)
  | 0, .list _ => false
  | 0, .tuple _ => false
  | d + 1, .list xs => decide (xs.length ≤ m) && xs.all (gnB m s B d)
  | d + 1, .tuple xs => decide (xs.length ≤ m) && xs.all (gnB m s B d)
  | _, .dict _ => false
theorem gnB_ok {m s B : Nat} : ∀ {d : Nat} {x : PyData}, gnB m s B d x = true → Gn m s B d x
  | _, .none, _ => by unfold Gn; exact True.intro
  | _, .bool _, _ => by unfold Gn; exact True.intro
  | _, .int i, h => by unfold gnB at h; unfold Gn; exact of_decide_eq_true h
  | _, .str x, h => by
    unfold gnB at h
    unfold Gn
    obtain ⟨h1, h2⟩ := Bool.and_eq_true_iff.mp h
    exact ⟨h1, of_decide_eq_true h2⟩
  | _, .dict _, h => by unfold gnB at h; cases h
  | 0, .list _, h => by unfold gnB at h; cases h
  | 0, .tuple _, h => by unfold gnB at h; cases h
  | d + 1, .list xs, h => by
    unfold gnB at h
    unfold Gn
    obtain ⟨h1, h2⟩ := Bool.and_eq_true_iff.mp h
    exact ⟨of_decide_eq_true h1, fun x hx => gnB_ok (List.all_eq_true.mp h2 x hx)⟩
  | d + 1, .tuple xs, h => by
    unfold gnB at h
    unfold Gn
    obtain ⟨h1, h2⟩ := Bool.and_eq_true_iff.mp h
    exact ⟨of_decide_eq_true h1, fun x hx => gnB_ok (List.all_eq_true.mp h2 x hx)⟩
theorem gn_strange {x : PyData} (h : x ∈ strangeL) : Gn 4 9 (10 ^ 59) 3 x := by
  have key : strangeL.all (gnB 4 9 (10 ^ 59) 3) = true := by decide +kernel
  exact gnB_ok (List.all_eq_true.mp key x h)
/-! ### how long it is, shown -/
def wt : PyData → Nat
  | .none => 4
  | .bool _ => 5
  | .int _ => 110
  | .str x => 10 * x.length + 2
  | .list xs => 3 + wtL xs
  | .tuple xs => 3 + wtL xs
  | .dict _ => 0
where wtL : List PyData → Nat
  | [] => 0
  | x :: xs => (wt x + 2) + wtL xs
abbrev wtL := wt.wtL
theorem wtL_nil : wtL [] = 0 := by unfold wtL wt.wtL; rfl
theorem wtL_cons {x : PyData} {xs : List PyData} : wtL (x :: xs) = wt x + 2 + wtL xs := by
  show wt.wtL (x :: xs) = _
  rw [wt.wtL]
theorem wtL_app : ∀ {xs ys : List PyData}, wtL (xs ++ ys) = wtL xs + wtL ys
  | [], ys => by rw [List.nil_append, wtL_nil]; omega
  | x :: xs, ys => by
    rw [List.cons_append, wtL_cons, wtL_cons, wtL_app]
    omega
theorem wtL_rev : ∀ {xs : List PyData}, wtL xs.reverse = wtL xs
  | [] => rfl
  | x :: xs => by rw [List.reverse_cons, wtL_app, wtL_rev, wtL_cons, wtL_cons, wtL_nil]; omega
theorem wtL_mem : ∀ {xs : List PyData} {x : PyData}, x ∈ xs → wt x + 2 ≤ wtL xs
  | y :: xs, x, h => by
    rw [wtL_cons]
    rcases List.mem_cons.mp h with rfl | h
    · omega
    · have := wtL_mem h
      omega
theorem wtL_cut (xs : List PyData) (k : Nat) : wtL (xs.take k) + wtL (xs.drop k) = wtL xs := by rw [← wtL_app, List.take_append_drop]
theorem wtL_drop (xs : List PyData) (k : Nat) : wtL (xs.drop (k + 1)) ≤ wtL (xs.drop k) := by
  cases e : xs.drop k with
  | nil =>
    have := List.drop_eq_nil_iff.mp e
    rw [List.drop_eq_nil_iff.mpr (by omega)]
    exact Nat.le_refl _
  | cons y ys =>
    have e2 : xs.drop (k + 1) = ys := by
      have : (xs.drop k).drop 1 = ys := by rw [e]; rfl
      rw [List.drop_drop] at this
      exact this
    rw [e2, wtL_cons]
    omega
theorem wtL_at {xs : List PyData} {k : Nat} (h : k < xs.length) : wtL (xs.take k) + (wt xs[k] + 2) + wtL (xs.drop (k + 1)) = wtL xs := by
  have e : xs.drop k = xs[k] :: xs.drop (k + 1) := (List.getElem_cons_drop h).symm
  have := wtL_cut xs k
  rw [e, wtL_cons] at this
  omega
theorem wtL_one {xs ys : List PyData} (h : ys.length ≤ 1) (hm : ∀ y ∈ ys, y ∈ xs) : wtL ys ≤ wtL xs := by
  match ys, h, hm with
  | [], _, _ => rw [wtL_nil]; omega
  | [y], _, hm =>
    rw [wtL_cons, wtL_nil]
    exact wtL_mem (hm y (by simp))
theorem wt_tup {xs : List PyData} : wt (.tuple xs) = 3 + wtL xs := by rw [wt]
theorem wt_lst {xs : List PyData} : wt (.list xs) = 3 + wtL xs := by rw [wt]
theorem wt_str {x : Str} : wt (.str x) = 10 * x.length + 2 := by rw [wt]
theorem wt_int {i : Int} : wt (.int i) = 110 := by rw [wt]
theorem wt_bool {b : Bool} : wt (.bool b) = 5 := by rw [wt]
theorem wt_strange {x : PyData} (h : x ∈ strangeL) : wt x ≤ 600 := by
  have key : strangeL.all (fun x => decide (wt x ≤ 600)) = true := by decide +kernel
  exact of_decide_eq_true (List.all_eq_true.mp key x h)
/-! ### numbers as texts -/
theorem charBound (ch : Char) : ch.toNat < 0x110000 := by
  have := ch.valid
  unfold UInt32.isValidChar Nat.isValidChar at this
  show ch.val.toNat < _
  omega
theorem num_text {i : Int} (h0 : 0 ≤ i) {k : Nat} (hk : 0 < k) (h1 : i < 10 ^ k) : PyData.strOk (toString i : String) = true ∧ ((toString i : String) : Str).length ≤ k := by
  obtain ⟨n, rfl⟩ := Int.eq_ofNat_of_zero_le h0
  have e := PySem.W.KIN.signs_num n
  refine ⟨ok_iff.mpr fun c hc => ?_, ?_⟩
  · rw [e] at hc
    obtain ⟨ch, hch, rfl⟩ := List.mem_map.mp hc
    exact charBound ch
  · rw [← cps_len, e, List.length_map]
    exact (Nat.length_toDigits_le_iff (by decide) hk).mpr (by exact_mod_cast h1)
def isNumD : PyData → Bool
  | .int i => decide (0 ≤ i)
  | _ => false
theorem law_is_number_ok (hn : Has T "_law_is_number" 1 c_law_is_number) {j : Nat} (hj : 1 ≤ j) {x : PyData} (hx : noDct x = true) (h : AH) : clk T j "_law_is_number" [.d x] h = .ok (.d (.bool (isNumD x))) h := by
  refine Wp.eq ((w_clk hn hj).mpr ?_)
  unfold c_law_is_number
  simp only [w_seq, w_ret, w_and, w_not, w_isi, w_var, w_cmp, w_con]
  simp [isi_int hx, isi_bool hx]
  cases x <;> simp [isIntD, isBoolD, isNumD, ci_ge]
abbrev BentG (m s B d : Nat) (w : Nat) (r : AH) : U → AH → Prop := Dq r (fun y => Gn (m + 1) (s + 1) (B + 1) (d + 4) y ∧ wt y ≤ 2 * w + 700)
theorem bentG_step {y z : Int} (hT : Has T "_law_draw" 7 (c_law_draw y z)) (hP : Has T "_law_pick" 2 c_law_pick) (hS : Has T "_law_strange" 2 c_law_strange) (hB : Has T "_law_bent" 5 c_law_bent) (hn : Has T "_law_is_number" 1 c_law_is_number) {m s B : Nat} (m1 : 3 ≤ m) (m2 : m ≤ 1000) (s1 : 70 ≤ s) (s2 : s ≤ 1000) (B1 : 10 ^ 59 ≤ B) (B2 : B < 10 ^ 62)
    {d : Nat} {x : PyData} (hx : Gn m s B d x) {j : Nat} (hj : 4 ≤ j) (ih : ∀ xs, x = .tuple xs → ∀ e ∈ xs, ∀ o, Feed o → ∀ r, Wp (clk T (j - 1) "_law_bent" [.r 0, .d e] (o :: r)) (Dq r (fun y => Gn (m + 1) (s + 1) (B + 1) (d + 3) y ∧ wt y ≤ 2 * wt e + 700)) noE) {o : O} (ho : Feed o) (r : AH) :
    Wp (clk T j "_law_bent" [.r 0, .d x] (o :: r)) (BentG m s B d (wt x) r) noE := by
  have nx : noDct x = true := by
    cases x <;> first | rfl | (unfold Gn at hx; exact hx.elim)
  have ft : ∀ (xs ys : List PyData), x = .tuple xs → ys.length ≤ m + 1 → (∀ y ∈ ys, y ∈ xs ∨ Gn (m + 1) (s + 1) (B + 1) (d + 3) y) → wtL ys ≤ 2 * wtL xs + 700 → Gn (m + 1) (s + 1) (B + 1) (d + 4) (.tuple ys) ∧ wt (.tuple ys) ≤ 2 * wt x + 700 := fun xs ys e hl hy hw0 => by
    subst e
    refine ⟨gn_tup.mpr ⟨hl, fun w hw => ?_⟩, by rw [wt_tup, wt_tup]; omega⟩
    rcases hy w hw with h | h
    · cases d with
      | zero => unfold Gn at hx; exact hx.elim
      | succ d =>
        unfold Gn at hx
        exact (hx.2 w h).mono (by omega) (by omega) (by omega) (by omega)
    · exact h
  have fin : ∀ (v : PyData) (o' : O), (Gn (m + 1) (s + 1) (B + 1) (d + 4) v ∧ wt v ≤ 2 * wt x + 700) → Feed o' → Bk (r.length + 1) (BentG m s B d (wt x) r) (.rt (.d v)) (o' :: r) := fun v o' hv fo => ⟨v, o', rfl, hv, fo, by simp⟩
  have hlen : ∀ xs, x = .tuple xs → xs.length ≤ m := fun xs e => by
    subst e
    cases d with
    | zero => unfold Gn at hx; exact hx.elim
    | succ d => unfold Gn at hx; exact hx.1
  have hstr : ∀ t, x = .str t → PyData.strOk t = true ∧ t.length ≤ s := fun t e => by
    subst e
    unfold Gn at hx
    exact hx
  have kind : (∃ xs, x = .tuple xs) ∨ (∃ t, x = .str t) ∨ (isTupD x = false ∧ isStrD x = false) := by
    cases x with
    | tuple xs => exact .inl ⟨xs, rfl⟩
    | str t => exact .inr (.inl ⟨t, rfl⟩)
    | _ => exact .inr (.inr ⟨rfl, rfl⟩)
  refine (w_clk hB (by omega)).mpr ?_
  unfold c_law_bent
  -- a part of it bent
  refine seq_step (fun l1 h1 => l1 = [some (.r 0), some (.d x), none, none, none] ∧ ∃ o', Feed o' ∧ h1 = o' :: r) ?_ ?_
  · simp only [w_ite, w_and, w_isi, w_cmp, w_blt, w_var, w_cons, w_nil, w_con, w_call, w_pass]
    rcases kind with ⟨xs, rfl⟩ | ⟨t, rfl⟩ | ⟨ko, ks⟩
    · simp [isi_tup nx, isTupD, lenD, ci_gt]
      by_cases e0 : xs = []
      · exact .inl ⟨e0, ho⟩
      have hp : 0 < xs.length := List.length_pos_iff.mpr e0
      have hm := hlen xs rfl
      refine .inr ⟨hp, (draw_ok hT (show 1 ≤ j - 1 by omega) ho (b := 5) (by decide) (by decide) r).imp ?_⟩
      rintro u h' ⟨v, o2, rfl, ⟨k, rfl, k1, k2⟩, fo2, rfl⟩
      simp [ci_gt]
      by_cases hk : 0 < k
      · refine .inr ⟨hk, (draw_ok hT (show 1 ≤ j - 1 by omega) fo2 (b := xs.length) (by omega) (by omega) r).imp ?_⟩
        rintro u h' ⟨v, o3, rfl, ⟨i, rfl, i1, i2⟩, fo3, rfl⟩
        obtain ⟨e, he, ee⟩ := at_tup i1 i2
        refine ⟨i, rfl, _, sl_to i1, .d e, by simp [ee], (ih xs rfl e he o3 fo3 r).imp ?_⟩
        rintro u h' ⟨b, o4, rfl, hb, fo4, rfl⟩
        have hi : i.toNat < xs.length := by omega
        refine ⟨_, rfl, .d (.tuple (xs.take i.toNat ++ [b])), by simp [add_tup (show (xs.take i.toNat).length + [b].length ≤ 10000 by simp; omega)], _, rfl, i + 1, by simp [bi_add], _, sl_from (by omega), .d (.tuple (xs.take i.toNat ++ [b] ++ xs.drop (i + 1).toNat)), ?_, fin _ _ (ft xs _ rfl ?_ ?_ ?_) fo4⟩
        · rw [opU_d, add_tup (by simp; omega)]
          rfl
        · simp
          omega
        · intro w hw
          simp only [List.mem_append, List.mem_singleton] at hw
          rcases hw with (hw | hw) | hw
          · exact .inl (List.mem_of_mem_take hw)
          · exact .inr (hw ▸ hb.1)
          · exact .inl (List.mem_of_mem_drop hw)
        · have e2 : e = xs[i.toNat] := by
            have q : atI xs i = some e := ee
            unfold atI ixN at q
            rw [if_pos i1, if_pos i2] at q
            exact (Option.some.inj ((List.getElem?_eq_getElem hi).symm.trans q)).symm
          have e3 : (i + 1).toNat = i.toNat + 1 := by omega
          have := wtL_at hi
          rw [← e2] at this
          rw [wtL_app, wtL_app, wtL_cons, wtL_nil, e3]
          have := hb.2
          omega
      · exact .inl ⟨by omega, fo2⟩
    · simp [isi_tup nx, isTupD]
      exact ho
    · simp [isi_tup nx, ko]
      exact ho
  rintro l1 h1 ⟨rfl, o1, fo1, rfl⟩
  -- what is drawn for it
  refine seq_step (fun l1 h1 => ∃ (lot : Int) (st : PyData), 0 ≤ lot ∧ lot < 7 ∧ st ∈ strangeL ∧ l1 = [some (.r 0), some (.d x), none, some (.d (.int lot)), some (.d st)] ∧ ∃ o', Feed o' ∧ h1 = o' :: r) ?_ ?_
  · simp only [w_par, w_cons, w_nil, w_call, w_var, w_con]
    simp
    refine (draw_ok hT (show 1 ≤ j - 1 by omega) fo1 (b := 7) (by decide) (by decide) r).imp ?_
    rintro u h' ⟨v, o2, rfl, ⟨k, rfl, k1, k2⟩, fo2, rfl⟩
    refine (strange_ok hT hP hS (show 3 ≤ j - 1 by omega) fo2 r).imp ?_
    rintro u h' ⟨st, o3, rfl, hst, fo3, rfl⟩
    exact ⟨k, k1, k2, st, hst, ⟨rfl, rfl⟩, o3, fo3, rfl⟩
  rintro l1 h1 ⟨lot, st, lo1, lo2, hst, rfl, o2, fo2, rfl⟩
  have fst : Gn (m + 1) (s + 1) (B + 1) (d + 3) st := (gn_strange hst).mono (by omega) (by omega) (by omega) (by omega)
  -- a row
  refine seq_step (fun l1 h1 => l1 = [some (.r 0), some (.d x), none, some (.d (.int lot)), some (.d st)] ∧ ∃ o', Feed o' ∧ h1 = o' :: r) ?_ ?_
  · simp only [w_ite, w_and, w_isi, w_cmp, w_var, w_con, w_pass]
    rcases kind with ⟨xs, rfl⟩ | ⟨t, rfl⟩ | ⟨ko, ks⟩
    · have hm := hlen xs rfl
      simp [isi_tup nx, isTupD, ci_lt, lenD, bi_add]
      by_cases h6 : lot < 6
      · refine .inr ⟨h6, (draw_ok hT (show 1 ≤ j - 1 by omega) fo2 (b := (xs.length : Int) + 1) (by omega) (by omega) r).imp ?_⟩
        rintro u h' ⟨v, o3, rfl, ⟨i, rfl, i1, i2⟩, fo3, rfl⟩
        refine ⟨_, eq_int, ?_⟩
        by_cases q0 : lot = 0
        · refine .inr ⟨by simp [q0], .list xs, rfl, fin _ _ ?_ fo3⟩
          have := ft xs xs rfl (by omega) (fun y hy => .inl hy) (by omega)
          exact ⟨gn_lst.mpr (gn_tup.mp this.1), by have := this.2; rw [wt_tup] at this; rw [wt_lst]; exact this⟩
        refine .inl ⟨by simp [q0], _, eq_int, ?_⟩
        have hi : i.toNat ≤ xs.length := by omega
        by_cases q1 : lot = 1
        · refine .inr ⟨by simp [q1], i, rfl, _, sl_to i1, _, rfl, i + 1, by simp [bi_add], _, sl_from (by omega), _, add_tup (by simp; omega), fin _ _ (ft xs _ rfl (by simp; omega) (fun w hw => ?_) ?_) fo3⟩
          · rcases List.mem_append.mp hw with hw | hw
            · exact .inl (List.mem_of_mem_take hw)
            · exact .inl (List.mem_of_mem_drop hw)
          · have := wtL_cut xs i.toNat
            have := wtL_drop xs i.toNat
            have e3 : (i + 1).toNat = i.toNat + 1 := by omega
            rw [wtL_app, e3]
            omega
        refine .inl ⟨by simp [q1], _, eq_int, ?_⟩
        by_cases q2 : lot = 2
        · obtain ⟨ys, ey, ly, my⟩ := sl_one (xs := xs) i1
          refine .inr ⟨by simp [q2], i, rfl, _, sl_to i1, i, rfl, _, rfl, i + 1, by simp [bi_add], _, ey, _, add_tup (by simp; omega), i, rfl, _, sl_from i1, _, add_tup (by simp; omega), fin _ _ (ft xs _ rfl (by simp; omega) (fun w hw => ?_) ?_) fo3⟩
          · rcases List.mem_append.mp hw with hw | hw
            · rcases List.mem_append.mp hw with hw | hw
              · exact .inl (List.mem_of_mem_take hw)
              · exact .inl (my w hw)
            · exact .inl (List.mem_of_mem_drop hw)
          · have := wtL_cut xs i.toNat
            have := wtL_one ly my
            rw [wtL_app, wtL_app]
            omega
        refine .inl ⟨by simp [q2], ?_⟩
        by_cases q5 : lot < 5
        · refine .inr ⟨q5, i, rfl, _, sl_to i1, _, rfl, .d (.tuple (xs.take i.toNat ++ [st])), ?_, i, rfl, _, sl_from i1, .d (.tuple (xs.take i.toNat ++ [st] ++ xs.drop i.toNat)), ?_, fin _ _ (ft xs _ rfl (by simp; omega) (fun w hw => ?_) ?_) fo3⟩
          · rw [opU_d, add_tup (by simp; omega)]; rfl
          · rw [opU_d, add_tup (by simp; omega)]; rfl
          rotate_left
          · have := wtL_cut xs i.toNat
            have := wt_strange hst
            rw [wtL_app, wtL_app, wtL_cons, wtL_nil]
            omega
          · simp only [List.mem_append, List.mem_singleton] at hw
            rcases hw with (hw | hw) | hw
            · exact .inl (List.mem_of_mem_take hw)
            · exact .inr (hw ▸ fst)
            · exact .inl (List.mem_of_mem_drop hw)
        · exact .inl ⟨by omega, _, rfl, fin _ _ (ft xs _ rfl (by simp; omega) (fun w hw => .inl (by simpa using hw)) (by rw [wtL_rev]; omega)) fo3⟩
      · exact .inl ⟨by omega, fo2⟩
    · simp [isi_tup nx, isTupD]
      exact fo2
    · simp [isi_tup nx, ko]
      exact fo2
  rintro l1 h1 ⟨rfl, o3, fo3, rfl⟩
  -- a text
  refine seq_step (fun l1 h1 => l1 = [some (.r 0), some (.d x), none, some (.d (.int lot)), some (.d st)] ∧ ∃ o', Feed o' ∧ h1 = o' :: r) ?_ ?_
  · simp only [w_ite, w_and, w_isi, w_cmp, w_var, w_con, w_pass]
    rcases kind with ⟨xs, rfl⟩ | ⟨t, rfl⟩ | ⟨ko, ks⟩
    · simp [isi_str nx, isStrD]
      exact fo3
    · obtain ⟨t1, t2⟩ := hstr t rfl
      have em : mkLst [.d (.str "a"), .d (.str "A"), .d (.str ""), .d (.str " "), .d (.str "z"), .d (.str "0")] = some (.d (.list [.str "a", .str "A", .str "", .str " ", .str "z", .str "0"])) := rfl
      simp [isi_str nx, isStrD, ci_lt, len_str (show t.length ≤ 2000 by omega), bi_add, em, ci_gt]
      by_cases q3 : lot < 3
      · refine .inr ⟨q3, (draw_ok hT (show 1 ≤ j - 1 by omega) fo3 (b := (t.length : Int) + 1) (by omega) (by omega) r).imp ?_⟩
        rintro u h' ⟨v, o4, rfl, ⟨i, rfl, i1, i2⟩, fo4, rfl⟩
        refine ⟨i, rfl, _, sl_str (by omega), (pick_d hT hP (show 2 ≤ j - 1 by omega) fo4 (by decide) (by decide) r).imp ?_⟩
        rintro u h' ⟨w, o5, rfl, hw, fo5, rfl⟩
        have hw2 : ∃ q : Str, w = .str q ∧ PyData.strOk q = true ∧ q.length ≤ 1 := by
          simp only [List.mem_cons, List.not_mem_nil, or_false] at hw
          rcases hw with rfl | rfl | rfl | rfl | rfl | rfl <;> exact ⟨_, rfl, by decide +kernel, by decide +kernel⟩
        obtain ⟨q, rfl, q1, q2⟩ := hw2
        obtain ⟨b, eb, b1, b2⟩ : ∃ b : Int, intB [.bool (decide (1 < lot))] = some (.int b) ∧ 0 ≤ b ∧ b ≤ 1 := by
          cases decide (1 < lot)
          · exact ⟨0, rfl, by omega, by omega⟩
          · exact ⟨1, rfl, by omega, by omega⟩
        have n1 := len_to (x := t) i1
        have n2 := len_from (x := t) (k := i + b) (by omega)
        refine ⟨.d (.str (cutS t none (some i) ++ q)), ?_, _, eb, .d (.int (i + b)), by simp [bi_add], i + b, rfl, _, sl_str (by omega), .d (.str (cutS t none (some i) ++ q ++ cutS t (some (i + b)) none)), ?_, fin _ _ ⟨gn_str.mpr ⟨app_ok (app_ok (cut_ok t1) q1) (cut_ok t1), ?_⟩, ?_⟩ fo5⟩
        · rw [opU_d, add_str (by omega)]; rfl
        · rw [opU_d, add_str (by rw [app_len]; omega)]; rfl
        · rw [app_len, app_len, n1, n2]; omega
        · rw [wt_str, wt_str, app_len, app_len, n1, n2]; omega
      · exact .inl ⟨by omega, fo3⟩
    · simp [isi_str nx, ks]
      exact fo3
  rintro l1 h1 ⟨rfl, o4, fo4, rfl⟩
  refine seq_step (fun l1 h1 => l1 = [some (.r 0), some (.d x), none, some (.d (.int lot)), some (.d st)] ∧ ∃ o', Feed o' ∧ h1 = o' :: r) ?_ ?_
  · simp only [w_ite, w_and, w_isi, w_cmp, w_var, w_con, w_pass]
    rcases kind with ⟨xs, rfl⟩ | ⟨t, rfl⟩ | ⟨ko, ks⟩
    · simp [isi_str nx, isStrD]
      exact fo4
    · have em : mkLst [.d (.str "gone"), .d (.str "read"), .d (.str "turned"), .d (.str "maker"), .d (.str "picture"), .d (.str "made")] = some (.d (.list [.str "gone", .str "read", .str "turned", .str "maker", .str "picture", .str "made"])) := rfl
      simp [isi_str nx, isStrD, ci_lt, em]
      by_cases q6 : lot < 6
      · refine .inr ⟨q6, (pick_d hT hP (show 2 ≤ j - 1 by omega) fo4 (by decide) (by decide) r).imp ?_⟩
        rintro u h' ⟨w, o5, rfl, hw, fo5, rfl⟩
        have hw2 : ∃ q : Str, w = .str q ∧ PyData.strOk q = true ∧ q.length ≤ 8 := by
          simp only [List.mem_cons, List.not_mem_nil, or_false] at hw
          rcases hw with rfl | rfl | rfl | rfl | rfl | rfl <;> exact ⟨_, rfl, by decide +kernel, by decide +kernel⟩
        obtain ⟨q, rfl, q1, q2⟩ := hw2
        exact fin _ _ ⟨gn_str.mpr ⟨q1, by omega⟩, by rw [wt_str]; omega⟩ fo5
      · exact .inl ⟨by omega, fo4⟩
    · simp [isi_str nx, ks]
      exact fo4
  rintro l1 h1 ⟨rfl, o5, fo5, rfl⟩
  refine seq_step (fun l1 h1 => l1 = [some (.r 0), some (.d x), none, some (.d (.int lot)), some (.d st)] ∧ ∃ o', Feed o' ∧ h1 = o' :: r) ?_ ?_
  · simp only [w_ite, w_and, w_call, w_cons, w_nil, w_cmp, w_var, w_con, w_pass]
    have en := law_is_number_ok hn (show 1 ≤ j - 1 by omega) nx
    cases hi : isNumD x with
    | false =>
      simp [en, hi]
      exact fo5
    | true =>
      obtain ⟨i, rfl, i0⟩ : ∃ i : Int, x = .int i ∧ 0 ≤ i := by
        cases x <;> first | (cases hi; done) | exact ⟨_, rfl, of_decide_eq_true hi⟩
      have iB : i.natAbs ≤ B := gn_int.mp hx
      have es : strB [.int i] = some (.str (toString i)) := by
        show (if i.natAbs.log2 < 1920 then some (PyData.str (toString i)) else none) = _
        rw [if_pos (log_small iB (Nat.lt_trans B2 (by decide)))]
      obtain ⟨t1, t2⟩ := num_text i0 (k := 62) (by decide) (by omega)
      simp only [w_ret, w_ix, w_lst, w_cons, w_nil, w_bin, w_neg, w_cmp, w_blt, w_var, w_con, w_seq]
      have em : mkLst [.d (.int (i + 1)), .d (.int (i - 1)), .d (.int (-i)), .d (.bool (i == 1)), .d (.str (toString i))] = some (.d (.list [.int (i + 1), .int (i - 1), .int (-i), .bool (i == 1), .str (toString i)])) := rfl
      simp [en, hi, ci_lt, bi_add, bi_sub, negD, eq_int, es]
      by_cases q5 : lot < 5
      · refine .inr ⟨q5, ?_⟩
        obtain ⟨v, hv, ev⟩ := at_mem (xs := [.int (i + 1), .int (i - 1), .int (-i), .bool (i == 1), .str (toString i)]) lo1 q5
        refine ⟨_, em, _, by rw [opU_d, ev]; rfl, fin _ _ ?_ fo5⟩
        simp only [List.mem_cons, List.not_mem_nil, or_false] at hv
        rcases hv with rfl | rfl | rfl | rfl | rfl
        · exact ⟨gn_int.mpr (by omega), by rw [wt_int]; omega⟩
        · exact ⟨gn_int.mpr (by omega), by rw [wt_int]; omega⟩
        · exact ⟨gn_int.mpr (by omega), by rw [wt_int]; omega⟩
        · exact ⟨gn_bool, by rw [wt_bool]; omega⟩
        · exact ⟨gn_str.mpr ⟨t1, by omega⟩, by rw [wt_str]; omega⟩
      · exact .inl ⟨by omega, fo5⟩
  rintro l1 h1 ⟨rfl, o6, fo6, rfl⟩
  simp only [w_seq, w_ret, w_var]
  simp
  exact ⟨st, o6, rfl, ⟨fst.mono (Nat.le_refl _) (Nat.le_refl _) (Nat.le_refl _) (by omega), by have := wt_strange hst; omega⟩, fo6, rfl⟩
theorem bentG_ok {y z : Int} (hT : Has T "_law_draw" 7 (c_law_draw y z)) (hP : Has T "_law_pick" 2 c_law_pick) (hS : Has T "_law_strange" 2 c_law_strange) (hB : Has T "_law_bent" 5 c_law_bent) (hn : Has T "_law_is_number" 1 c_law_is_number) {m s B : Nat} (m1 : 3 ≤ m) (m2 : m ≤ 1000) (s1 : 70 ≤ s) (s2 : s ≤ 1000) (B1 : 10 ^ 59 ≤ B) (B2 : B < 10 ^ 62) :
    ∀ (d : Nat) (x : PyData), Gn m s B d x → ∀ j, d + 4 ≤ j → ∀ o, Feed o → ∀ r, Wp (clk T j "_law_bent" [.r 0, .d x] (o :: r)) (BentG m s B d (wt x) r) noE := by
  intro d
  induction d with
  | zero =>
    intro x hx j hj o ho r
    refine bentG_step hT hP hS hB hn m1 m2 s1 s2 B1 B2 hx (by omega) (fun xs e => ?_) ho r
    subst e
    unfold Gn at hx
    exact hx.elim
  | succ d ih =>
    intro x hx j hj o ho r
    refine bentG_step hT hP hS hB hn m1 m2 s1 s2 B1 B2 hx (by omega) (fun xs e w hw o ho r => ?_) ho r
    subst e
    unfold Gn at hx
    exact ih w (hx.2 w hw) (j - 1) (by omega) o ho r
end RB
/-! RP16: how long values are, shown. -/
namespace RB
open PySem PySem.Spec L2
theorem ok_push {x : Str} {c : Nat} (h : PyData.strOk x = true) (hc : c < 0x110000) : PyData.strOk ⟨x.cps.push c⟩ = true := by
  rw [ok_iff] at h ⊢
  intro d hd
  rw [Array.toList_push] at hd
  rcases List.mem_append.mp hd with hd | hd
  · exact h d hd
  · simp at hd; omega
theorem hex_ok {c d : Nat} {w : Nat} (h : d ∈ List.replicate (w - ((Nat.toDigits 16 c).map Char.toNat).length) 48 ++ (Nat.toDigits 16 c).map Char.toNat) : d < 0x110000 := by
  rcases List.mem_append.mp h with h | h
  · have := List.eq_of_mem_replicate h
    omega
  · obtain ⟨ch, _, rfl⟩ := List.mem_map.mp h
    exact charBound ch
theorem reprChar_ok {q c : Nat} (hq : q < 0x110000) (hc : c < 0x110000) : ∀ d ∈ Builtin.Str.reprChar q c, d < 0x110000 := by
  intro d hd
  unfold Builtin.Str.reprChar at hd
  dsimp only at hd
  repeat' split at hd
  all_goals try simp only [List.mem_cons, List.not_mem_nil, or_false] at hd
  all_goals first
    | (rcases hd with rfl | rfl <;> omega; done)
    | (rw [hd]; exact hc)
    | skip
  all_goals
    rcases List.mem_append.mp hd with hd | hd
    · simp at hd; omega
    · exact hex_ok hd
theorem foldl_repr_ok {q : Nat} (hq : q < 0x110000) : ∀ (l : List Nat) (acc : Array Nat), (∀ c ∈ l, c < 0x110000) → (∀ c ∈ acc.toList, c < 0x110000) → ∀ c ∈ (l.foldl (fun out c => out ++ (Builtin.Str.reprChar q c).toArray) acc).toList, c < 0x110000
  | [], acc, _, ha => ha
  | c :: r, acc, h, ha => by
    rw [List.foldl_cons]
    refine foldl_repr_ok hq r _ (fun d hd => h d (List.mem_cons_of_mem _ hd)) fun d hd => ?_
    rw [Array.toList_append] at hd
    rcases List.mem_append.mp hd with hd | hd
    · exact ha d hd
    · exact reprChar_ok hq (h c List.mem_cons_self) d hd
theorem reprText_ok {x : Str} (h : PyData.strOk x = true) : PyData.strOk (reprText x) = true := by
  have hq : reprQuote x < 0x110000 := by
    unfold reprQuote
    split <;> omega
  have h' := ok_iff.mp h
  rw [ok_iff]
  intro c hc
  unfold reprText at hc
  rw [Array.toList_push, ← Array.foldl_toList] at hc
  rcases List.mem_append.mp hc with hc | hc
  · exact foldl_repr_ok hq _ _ h' (by simp; exact hq) c hc
  · simp at hc; omega
theorem digs_len {n B : Nat} (h : n ≤ B) (hB : B < 10 ^ 100) : (Nat.toDigits 10 n).length ≤ 100 := (Nat.length_toDigits_le_iff (by decide) (by decide)).mpr (Nat.lt_of_le_of_lt h hB)
theorem int_text {i : Int} {B : Nat} (h : i.natAbs ≤ B) (hB : B < 10 ^ 100) : PyData.strOk ((toString i : String) : Str) = true ∧ ((toString i : String) : Str).length ≤ 110 := by
  have key : ∀ (n : Nat), n ≤ B → (∀ c ∈ (Nat.toDigits 10 n).map Char.toNat, c < 0x110000) ∧ ((Nat.toDigits 10 n).map Char.toNat).length ≤ 100 := fun n hn => by
    refine ⟨fun c hc => ?_, ?_⟩
    · obtain ⟨ch, _, rfl⟩ := List.mem_map.mp hc
      exact charBound ch
    · rw [List.length_map]
      exact digs_len hn hB
  cases i with
  | ofNat n =>
    obtain ⟨k1, k2⟩ := key n h
    have e := PySem.W.KIN.signs_num n
    refine ⟨ok_iff.mpr fun c hc => k1 c (by rw [← e]; exact hc), ?_⟩
    rw [← cps_len, show ((toString (Int.ofNat n) : String) : Str).cps.toList = _ from e]
    omega
  | negSucc n =>
    obtain ⟨k1, k2⟩ := key (n + 1) h
    have e : ((toString (Int.negSucc n) : String) : Str).cps.toList = 45 :: (Nat.toDigits 10 (n + 1)).map Char.toNat := by
      show (Str.ofString (toString (Int.negSucc n))).cps.toList = _
      rw [PyProof.Rows.signs_ofString]
      show (("-" ++ Nat.repr (n + 1)).toList).map Char.toNat = _
      rw [String.toList_append, Nat.toList_repr]
      rfl
    refine ⟨ok_iff.mpr fun c hc => ?_, ?_⟩
    · rw [e] at hc
      rcases List.mem_cons.mp hc with rfl | hc
      · decide
      · exact k1 c hc
    · rw [← cps_len, e, List.length_cons]
      omega
theorem joinW : ∀ {ts : List Str} {n : Nat}, (∀ t ∈ ts, PyData.strOk t = true) → (ts.map fun t => t.length + 2).sum ≤ n → PyData.strOk (Str.join ", " ts) = true ∧ (Str.join ", " ts).length ≤ n
  | [], n, _, _ => ⟨by decide +kernel, Nat.zero_le _⟩
  | [t], n, h, hn => ⟨h t List.mem_cons_self, by simp at hn; show t.length ≤ n; omega⟩
  | t :: u :: r, n, h, hn => by
    have h1 := h t List.mem_cons_self
    rw [List.map_cons, List.sum_cons] at hn
    obtain ⟨i1, i2⟩ := joinW (ts := u :: r) (n := n - (t.length + 2)) (fun x hx => h x (List.mem_cons_of_mem _ hx)) (by omega)
    show PyData.strOk (t ++ ", " ++ Str.join ", " (u :: r)) = true ∧ (t ++ ", " ++ Str.join ", " (u :: r)).length ≤ _
    rw [sok_app, sok_app, h1, i1, strLen_append, strLen_append, show PyData.strOk (((", " : String) : Str)) = true by decide +kernel, show ((", " : String) : Str).length = 2 by decide +kernel]
    exact ⟨rfl, by omega⟩
theorem fromW : ∀ {ts : List Str} {k n : Nat} {acc : Str}, (∀ t ∈ ts, PyData.strOk t = true) → PyData.strOk acc = true → (ts.map fun t => t.length + 2).sum ≤ n → PyData.strOk (textFrom k acc ts) = true ∧ (textFrom k acc ts).length ≤ acc.length + n
  | [], k, n, acc, _, ha, _ => ⟨ha, by show acc.length ≤ _; omega⟩
  | t :: r, k, n, acc, h, ha, hn => by
    have h1 := h t List.mem_cons_self
    rw [List.map_cons, List.sum_cons] at hn
    have sp : PyData.strOk (((if k > 0 then ", " else "" : String) : Str)) = true ∧ ((((if k > 0 then ", " else "" : String) : Str))).length ≤ 2 := by
      split
      · exact ⟨by decide +kernel, by decide +kernel⟩
      · exact ⟨by decide +kernel, by decide +kernel⟩
    obtain ⟨i1, i2⟩ := fromW (ts := r) (k := k + 1) (n := n - (t.length + 2)) (acc := acc ++ (if k > 0 then ", " else "" : String) ++ t) (fun x hx => h x (List.mem_cons_of_mem _ hx)) (by rw [sok_app, sok_app, ha, sp.1, h1]; rfl) (by omega)
    refine ⟨i1, Nat.le_trans i2 ?_⟩
    rw [strLen_append, strLen_append]
    have := sp.2
    omega
theorem shownW : ∀ {xs : List PyData}, (∀ x ∈ xs, Shw (wt x) x) → PyData.showableAll xs = true ∧ (PyData.shownAll xs).length = xs.length ∧ (∀ t ∈ PyData.shownAll xs, PyData.strOk t = true) ∧ ((PyData.shownAll xs).map fun t => t.length + 2).sum ≤ wtL xs
  | [], _ => by
    rw [PyData.showableAll, PyData.shownAll]
    exact ⟨rfl, rfl, fun t ht => absurd ht List.not_mem_nil, by simp⟩
  | x :: xs, h => by
    obtain ⟨a1, a2, a3⟩ := h x List.mem_cons_self
    obtain ⟨i1, i2, i3, i4⟩ := shownW (xs := xs) fun y hy => h y (List.mem_cons_of_mem _ hy)
    rw [PyData.showableAll, PyData.shownAll, a1, i1]
    refine ⟨rfl, by rw [List.length_cons, List.length_cons, i2], fun t ht => ?_, ?_⟩
    · rcases List.mem_cons.mp ht with rfl | ht
      · exact a2
      · exact i3 t ht
    · rw [List.map_cons, List.sum_cons, wtL_cons]
      omega
theorem shwW_tup {xs : List PyData} (h : ∀ x ∈ xs, Shw (wt x) x) : Shw (wt (.tuple xs)) (.tuple xs) := by
  obtain ⟨h1, h2, h3, h4⟩ := shownW h
  obtain ⟨j1, j2⟩ := joinW h3 h4
  unfold Shw
  rw [PyData.showable, PyData.shown, wt_tup]
  unfold tupleText
  have e : PyData.strOk (((if (PyData.shownAll xs).length == 1 then ",)" else ")" : String) : Str)) = true ∧ ((((if (PyData.shownAll xs).length == 1 then ",)" else ")" : String) : Str))).length ≤ 2 := by
    split
    · exact ⟨by decide +kernel, by decide +kernel⟩
    · exact ⟨by decide +kernel, by decide +kernel⟩
  refine ⟨h1, ?_, ?_⟩
  · rw [sok_app, sok_app, j1, e.1]
    decide +kernel
  · rw [strLen_append, strLen_append]
    have e2 : ((("(" : String) : Str)).length = 1 := by decide +kernel
    rw [e2]
    have := e.2
    omega
theorem shwW_lst {xs : List PyData} (h : ∀ x ∈ xs, Shw (wt x) x) : Shw (wt (.list xs)) (.list xs) := by
  obtain ⟨h1, h2, h3, h4⟩ := shownW h
  obtain ⟨j1, j2⟩ := fromW (k := 0) (acc := (("[" : String) : Str)) h3 (by decide +kernel) h4
  unfold Shw
  rw [PyData.showable, PyData.shown, wt_lst]
  unfold listText
  refine ⟨h1, ?_, ?_⟩
  · rw [sok_app, j1]
    decide +kernel
  · rw [strLen_append]
    have e2 : ((("[" : String) : Str)).length = 1 := by decide +kernel
    have e3 : ((("]" : String) : Str)).length = 1 := by decide +kernel
    rw [e3]
    rw [e2] at j2
    omega
theorem wtL_le {B : Nat} : ∀ {xs : List PyData}, (∀ x ∈ xs, wt x ≤ B) → wtL xs ≤ xs.length * (B + 2)
  | [], _ => by rw [wtL_nil]; omega
  | x :: xs, h => by
    have := wtL_le (xs := xs) fun y hy => h y (List.mem_cons_of_mem _ hy)
    have := h x List.mem_cons_self
    rw [wtL_cons, List.length_cons, Nat.add_mul]
    omega
theorem Gn.shw {m s B : Nat} (hB : B < 10 ^ 100) : ∀ {d : Nat} {x : PyData}, Gn m s B d x → Shw (wt x) x
  | _, .none, _ => ⟨by decide +kernel, by decide +kernel, by decide +kernel⟩
  | _, .bool true, _ => ⟨by decide +kernel, by decide +kernel, by decide +kernel⟩
  | _, .bool false, _ => ⟨by decide +kernel, by decide +kernel, by decide +kernel⟩
  | _, .int i, h => by
    obtain ⟨h1, h2⟩ := int_text (gn_int.mp h) hB
    unfold Shw
    rw [PyData.showable, PyData.shown, wt_int]
    exact ⟨decide_eq_true (log_small (gn_int.mp h) hB), h1, h2⟩
  | _, .str x, h => by
    obtain ⟨h1, _⟩ := gn_str.mp h
    unfold Shw
    rw [PyData.showable, PyData.shown, wt_str]
    exact ⟨rfl, reprText_ok h1, PySem.StrLaws.reprText_len x fun c hc => Nat.lt_trans (ok_iff.mp h1 c hc) (by decide)⟩
  | _, .dict _, h => by unfold Gn at h; exact h.elim
  | 0, .list _, h => by unfold Gn at h; exact h.elim
  | 0, .tuple _, h => by unfold Gn at h; exact h.elim
  | d + 1, .list xs, h => shwW_lst fun x hx => ((gn_lst.mp h).2 x hx).shw hB
  | d + 1, .tuple xs, h => shwW_tup fun x hx => ((gn_tup.mp h).2 x hx).shw hB
end RB
/-! RPD: code of defs that several laws share (printed by gen2.py). -/
namespace RB
open PySem PySem.Spec L2
def c_is_number : CS :=
  (.seq (.ret (.and (.isi "int" (.var 0)) (.and (.not (.isi "bool" (.var 0))) (.cmp .GtE (.var 0) (.con (.int 0))))))
  .pass)
def c_is_name : CS :=
  (.seq (.ite (.or (.not (.isi "str" (.var 0))) (.not (.chain .LtE .LtE (.con (.int 1)) (.blt "len" (.cons (.var 0) .nil)) (.con (.int 8))))) (.seq (.ret (.con (.bool false)))
  .pass) .pass)
  (.seq (.ret (.blt "all" (.cons (.comp (.walk (.var 0)) (.v 1) [1] .no (.cmp .In (.var 1) (.con (.str "abcdefghijklmnopqrstuvwxyz")))) .nil)))
  .pass))
def c_is_names : CS :=
  (.seq (.ret (.and (.isi "tuple" (.var 0)) (.and (.blt "all" (.cons (.comp (.walk (.var 0)) (.v 1) [1] .no (.call "is_name" [.p 0] (.cons (.var 1) .nil) .nil)) .nil)) (.call "does_ascend" [.p 0] (.cons (.var 0) .nil) .nil))))
  .pass)
def c_is_room : CS :=
  (.seq (.ret (.call "is_number" [.p 0] (.cons (.var 0) .nil) .nil))
  .pass)
def c_is_size : CS :=
  (.seq (.ite (.or (.not (.isi "tuple" (.var 0))) (.or (.cmp .NotEq (.blt "len" (.cons (.var 0) .nil)) (.con (.int 4))) (.or (.not (.call "is_names" [.p 0] (.cons (.ix (.var 0) (.con (.int 0))) .nil) .nil)) (.cmp .Eq (.blt "len" (.cons (.ix (.var 0) (.con (.int 0))) .nil)) (.con (.int 0)))))) (.seq (.ret (.con (.bool false)))
  .pass) .pass)
  (.seq (.ret (.and (.call "is_number" [.p 0] (.cons (.ix (.var 0) (.con (.int 1))) .nil) .nil) (.and (.cmp .GtE (.ix (.var 0) (.con (.int 1))) (.con (.int 1))) (.and (.call "is_number" [.p 0] (.cons (.ix (.var 0) (.con (.int 2))) .nil) .nil) (.isi "bool" (.ix (.var 0) (.con (.int 3))))))))
  .pass))
def c_is_any_step : CS :=
  (.seq (.ite (.or (.not (.isi "tuple" (.var 0))) (.or (.cmp .NotIn (.blt "len" (.cons (.var 0) .nil)) (.tup (.cons (.con (.int 1)) (.cons (.con (.int 3)) .nil)))) (.not (.isi "str" (.ix (.var 0) (.con (.int 0))))))) (.seq (.ret (.con (.bool false)))
  .pass) .pass)
  (.seq (.ite (.cmp .Eq (.blt "len" (.cons (.var 0) .nil)) (.con (.int 1))) (.seq (.ret (.cmp .Eq (.ix (.var 0) (.con (.int 0))) (.con (.str "guess"))))
  .pass) .pass)
  (.seq (.ite (.not (.call "is_name" [.p 0] (.cons (.ix (.var 0) (.con (.int 1))) .nil) .nil)) (.seq (.ret (.con (.bool false)))
  .pass) .pass)
  (.seq (.ite (.cmp .Eq (.ix (.var 0) (.con (.int 0))) (.con (.str "make"))) (.seq (.ret (.call "is_names" [.p 0] (.cons (.ix (.var 0) (.con (.int 2))) .nil) .nil))
  .pass) .pass)
  (.seq (.ret (.and (.cmp .Eq (.ix (.var 0) (.con (.int 0))) (.con (.str "same"))) (.and (.call "is_name" [.p 0] (.cons (.ix (.var 0) (.con (.int 2))) .nil) .nil) (.cmp .NotEq (.ix (.var 0) (.con (.int 1))) (.ix (.var 0) (.con (.int 2)))))))
  .pass)))))
def c_has_step : CS :=
  (.seq (.ite (.not (.call "is_any_step" [.p 0] (.cons (.var 1) .nil) .nil)) (.seq (.ret (.con (.bool false)))
  .pass) .pass)
  (.seq (.asg (.t [2, 3, 4, 5]) (.var 0))
  (.seq (.ite (.cmp .Eq (.ix (.var 1) (.con (.int 0))) (.con (.str "guess"))) (.seq (.ret (.cmp .GtE (.var 4) (.con (.int 1))))
  .pass) .pass)
  (.seq (.asg (.v 6) (.ifx (.cmp .Eq (.ix (.var 1) (.con (.int 0))) (.con (.str "make"))) (.ix (.var 1) (.con (.int 2))) (.tup (.cons (.ix (.var 1) (.con (.int 2))) .nil))))
  (.seq (.asg (.v 7) (.and (.cmp .In (.ix (.var 1) (.con (.int 1))) (.var 2)) (.blt "all" (.cons (.comp (.walk (.var 6)) (.v 8) [8] .no (.cmp .In (.var 8) (.var 2))) .nil))))
  (.seq (.ret (.and (.var 7) (.or (.cmp .Eq (.ix (.var 1) (.con (.int 0))) (.con (.str "make"))) (.var 5))))
  .pass))))))
def c_is_step : CS :=
  (.seq (.ite (.not (.call "is_size" [.p 0] (.cons (.var 0) .nil) .nil)) (.seq (.raise "NotUsable" "word" "at" (.cons (.con (.str "size")) (.cons (.neg (.con (.int 1))) .nil)))
  .pass) .pass)
  (.seq (.ret (.call "has_step" [.p 0, .p 1] (.cons (.var 0) (.cons (.var 1) .nil)) .nil))
  .pass))
def c_law_names : CS :=
  (.seq (.asg (.v 2) (.mls (.cons (.con (.str "a")) (.cons (.con (.str "b")) (.cons (.con (.str "ab")) (.cons (.con (.str "aa")) (.cons (.con (.str "make")) (.cons (.con (.str "of")) (.cons (.con (.str "same")) (.cons (.con (.str "guess")) (.cons (.con (.str "copies")) (.cons (.con (.str "zzzzzzzz")) (.cons (.con (.str "zzzzzzzy")) (.cons (.con (.str "abcdefgh")) (.cons (.con (.str "x")) .nil)))))))))))))))
  (.seq (.expr (.app (.var 2) (.cons (.con (.str "no")) .nil)))
  (.seq (.ret (.blt "tuple" (.cons (.srt (.cons (.comp (.range (.cons (.bin .Add (.con (.int 1)) (.call "_law_draw" [.p 0, .p 1] (.cons (.var 0) (.cons (.var 1) .nil)) .nil)) .nil)) (.v 3) [3] .no (.call "_law_pick" [.p 0, .p 1] (.cons (.var 0) (.cons (.var 2) .nil)) .nil)) .nil)) .nil)))
  .pass)))
def c_law_sized : CS :=
  (.seq (.asg (.v 2) (.call "_law_pick" [.p 0, .p 1] (.cons (.var 0) (.cons (.lst (.cons (.con (.int 1)) (.cons (.con (.int 1)) (.cons (.con (.int 2)) (.cons (.con (.int 3)) (.cons (.con (.int 4)) (.cons (.con (.int 10)) (.cons (.bin .Pow (.con (.int 10)) (.con (.int 59))) .nil)))))))) .nil)) .nil))
  (.seq (.ret (.tup (.cons (.call "_law_names" [.p 0, .p 1] (.cons (.var 0) (.cons (.var 1) .nil)) .nil) (.cons (.var 2) (.cons (.call "_law_pick" [.p 0, .p 1] (.cons (.var 0) (.cons (.lst (.cons (.con (.int 0)) (.cons (.con (.int 0)) (.cons (.con (.int 1)) (.cons (.con (.int 2)) (.cons (.con (.int 12)) (.cons (.bin .Pow (.con (.int 10)) (.con (.int 59))) .nil))))))) .nil)) .nil) (.cons (.cmp .Eq (.call "_law_draw" [.p 0, .p 1] (.cons (.var 0) (.cons (.con (.int 2)) .nil)) .nil) (.con (.int 0))) .nil))))))
  .pass))
def c_law_are_names : CS :=
  (.seq (.ite (.or (.not (.isi "tuple" (.var 0))) (.cmp .NotEq (.comp (.walk (.var 0)) (.v 1) [1] (.so (.not (.call "_law_is_name" [.p 0] (.cons (.var 1) .nil) .nil))) (.var 1)) (.lst .nil))) (.seq (.ret (.con (.bool false)))
  .pass) .pass)
  (.seq (.ret (.cmp .Eq (.blt "list" (.cons (.var 0) .nil)) (.srt (.cons (.var 0) .nil))))
  .pass))
def c_law_is_sized : CS :=
  (.seq (.ite (.or (.not (.isi "tuple" (.var 0))) (.or (.cmp .NotEq (.blt "len" (.cons (.var 0) .nil)) (.con (.int 4))) (.or (.not (.call "_law_are_names" [.p 0] (.cons (.ix (.var 0) (.con (.int 0))) .nil) .nil)) (.cmp .Eq (.blt "len" (.cons (.ix (.var 0) (.con (.int 0))) .nil)) (.con (.int 0)))))) (.seq (.ret (.con (.bool false)))
  .pass) .pass)
  (.seq (.ret (.and (.call "_law_is_number" [.p 0] (.cons (.ix (.var 0) (.con (.int 1))) .nil) .nil) (.and (.cmp .GtE (.ix (.var 0) (.con (.int 1))) (.con (.int 1))) (.and (.call "_law_is_number" [.p 0] (.cons (.ix (.var 0) (.con (.int 2))) .nil) .nil) (.isi "bool" (.ix (.var 0) (.con (.int 3))))))))
  .pass))
def c_law_is_move : CS :=
  (.seq (.ite (.or (.not (.isi "tuple" (.var 0))) (.or (.cmp .Eq (.blt "len" (.cons (.var 0) .nil)) (.con (.int 0))) (.not (.isi "str" (.ix (.var 0) (.con (.int 0))))))) (.seq (.ret (.con (.bool false)))
  .pass) .pass)
  (.seq (.ite (.cmp .Eq (.ix (.var 0) (.con (.int 0))) (.con (.str "guess"))) (.seq (.ret (.cmp .Eq (.blt "len" (.cons (.var 0) .nil)) (.con (.int 1))))
  .pass) .pass)
  (.seq (.ite (.or (.cmp .NotEq (.blt "len" (.cons (.var 0) .nil)) (.con (.int 3))) (.not (.call "_law_is_name" [.p 0] (.cons (.ix (.var 0) (.con (.int 1))) .nil) .nil))) (.seq (.ret (.con (.bool false)))
  .pass) .pass)
  (.seq (.ite (.cmp .Eq (.ix (.var 0) (.con (.int 0))) (.con (.str "make"))) (.seq (.ret (.call "_law_are_names" [.p 0] (.cons (.ix (.var 0) (.con (.int 2))) .nil) .nil))
  .pass) .pass)
  (.seq (.ret (.and (.cmp .Eq (.ix (.var 0) (.con (.int 0))) (.con (.str "same"))) (.and (.call "_law_is_name" [.p 0] (.cons (.ix (.var 0) (.con (.int 2))) .nil) .nil) (.cmp .NotEq (.ix (.var 0) (.con (.int 1))) (.ix (.var 0) (.con (.int 2)))))))
  .pass)))))
def c_law_fits : CS :=
  (.seq (.ite (.cmp .Eq (.ix (.var 1) (.con (.int 0))) (.con (.str "guess"))) (.seq (.ret (.cmp .GtE (.ix (.var 0) (.con (.int 2))) (.con (.int 1))))
  .pass) .pass)
  (.seq (.ite (.cmp .Eq (.ix (.var 1) (.con (.int 0))) (.con (.str "same"))) (.seq (.ret (.and (.ix (.var 0) (.con (.int 3))) (.and (.cmp .In (.ix (.var 1) (.con (.int 1))) (.ix (.var 0) (.con (.int 0)))) (.cmp .In (.ix (.var 1) (.con (.int 2))) (.ix (.var 0) (.con (.int 0)))))))
  .pass) .pass)
  (.seq (.ret (.and (.cmp .In (.ix (.var 1) (.con (.int 1))) (.ix (.var 0) (.con (.int 0)))) (.cmp .Eq (.comp (.walk (.ix (.var 1) (.con (.int 2)))) (.v 2) [2] (.so (.cmp .NotIn (.var 2) (.ix (.var 0) (.con (.int 0))))) (.var 2)) (.lst .nil))))
  .pass)))
def c_law_move : CS :=
  (.seq (.par 2 3 (.cons (.call "_law_draw" [.p 0, .p 1] (.cons (.var 0) (.cons (.con (.int 4)) .nil)) .nil) (.cons (.call "_law_pick" [.p 0, .p 1] (.cons (.var 0) (.cons (.var 1) .nil)) .nil) .nil)))
  (.seq (.ite (.cmp .Eq (.var 2) (.con (.int 0))) (.seq (.ret (.tup (.cons (.con (.str "guess")) .nil)))
  .pass) .pass)
  (.seq (.ite (.cmp .Eq (.var 2) (.con (.int 1))) (.seq (.ret (.tup (.cons (.con (.str "same")) (.cons (.var 3) (.cons (.call "_law_pick" [.p 0, .p 1] (.cons (.var 0) (.cons (.var 1) .nil)) .nil) .nil)))))
  .pass) .pass)
  (.seq (.ret (.tup (.cons (.con (.str "make")) (.cons (.var 3) (.cons (.blt "tuple" (.cons (.comp (.walk (.var 1)) (.v 4) [4] (.so (.cmp .Eq (.call "_law_draw" [.p 0, .p 1] (.cons (.var 0) (.cons (.con (.int 2)) .nil)) .nil) (.con (.int 0)))) (.var 4)) .nil)) .nil)))))
  .pass))))
end RB
/-! RP17: numbers, names, sizes, as the program and the laws tell them. -/
namespace RB
open PySem PySem.Spec L2
variable {T : Run} {X : XQ}
/-! ### numbers -/
theorem is_number_ok (hn : Has T "is_number" 1 c_is_number) : PuB T 1 "is_number" isNumD := by
  intro j hj x hx h
  refine Wp.eq ((w_clk hn hj).mpr ?_)
  unfold c_is_number
  simp only [w_seq, w_ret, w_and, w_not, w_isi, w_var, w_cmp, w_con]
  simp [isi_int hx.nd, isi_bool hx.nd]
  have := hx.nd
  cases x <;> simp [isIntD, isBoolD, isNumD, ci_ge]
theorem law_is_numberB (hn : Has T "_law_is_number" 1 c_law_is_number) : PuB T 1 "_law_is_number" isNumD := fun j hj x hx h => law_is_number_ok hn hj hx.nd h
theorem is_room_ok (hr : Has T "is_room" 1 c_is_room) (hn : PuB T 1 "is_number" isNumD) : PuB T 2 "is_room" isNumD := by
  intro j hj x hx h
  refine Wp.eq ((w_clk hr (by omega)).mpr ?_)
  unfold c_is_room
  simp only [w_seq, w_ret, w_call, w_cons, w_nil, w_var]
  simp [hn (j - 1) (by omega) x hx]
/-! ### names -/
def lettersL : List Nat := ("abcdefghijklmnopqrstuvwxyz" : Str).cps.toList
def isName : PyData → Bool
  | .str x => decide (1 ≤ x.length) && (decide (x.length ≤ 8) && x.cps.toList.all fun c => decide (c ∈ lettersL))
  | _ => false
theorem in_sign {c : Nat} {t : Str} : cmpSem .In (.str ⟨#[c]⟩) (.str t) = some (.bool (decide (c ∈ t.cps.toList))) := by
  show some (PyData.bool (false != decide (c ∈ t.cps.toList))) = _
  simp
theorem notin_sign {c : Nat} {t : Str} : cmpSem .NotIn (.str ⟨#[c]⟩) (.str t) = some (.bool (!decide (c ∈ t.cps.toList))) := by
  show some (PyData.bool (true != decide (c ∈ t.cps.toList))) = _
  simp
theorem Nice.str {x : Str} (h : Nice (.str x)) : PyData.strOk x = true ∧ x.length ≤ 2000 := by
  obtain ⟨d, _, h⟩ := h
  exact fine_str.mp h
def signB : PyData → Bool
  | .str x => x.cps.toList.all fun c => decide (c ∈ lettersL)
  | _ => false
theorem signB_one (c : Nat) : signB (.str ⟨#[c]⟩) = decide (c ∈ lettersL) := by
  show ([c].all fun c => decide (c ∈ lettersL)) = _
  simp
theorem signs_all (x : Str) : (signs x).all signB = x.cps.toList.all fun c => decide (c ∈ lettersL) := by
  unfold signs
  rw [List.all_map]
  congr 1
  funext c
  exact signB_one c
theorem signs_len (x : Str) : (signs x).length = x.length := by
  unfold signs
  rw [List.length_map, cps_len]
theorem src_s {h : AH} {x : Str} : srcOf h (.d (.str x)) = some ⟨signs x, none⟩ := rfl
theorem is_name_ok (hT : Has T "is_name" 2 c_is_name) : PuB T 1 "is_name" isName := by
  intro j hj x hx h
  refine Wp.eq ((w_clk hT hj).mpr ?_)
  unfold c_is_name
  simp only [w_seq, w_ret, w_ite, w_or, w_not, w_isi, w_var, w_chain, w_blt, w_cons, w_nil, w_con, w_pass, w_comp, w_walk]
  cases x with
  | str s =>
    obtain ⟨s1, s2⟩ := hx.str
    have d1 : isName (.str s) = (decide (1 ≤ s.length) && (decide (s.length ≤ 8) && s.cps.toList.all fun c => decide (c ∈ lettersL))) := rfl
    rw [d1]
    by_cases a1 : 1 ≤ s.length
    · by_cases a2 : s.length ≤ 8
      · have b1 : (1 : Int) ≤ s.length := by omega
        have b2 : (s.length : Int) ≤ 8 := by omega
        simp [isi_str hx.nd, isStrD, len_str s2, ci_le, a1, a2, b1, b2, src_s]
        refine wp_comp (s := ⟨signs s, none⟩) (fun _ => true) (fun p => .bool (signB p)) rfl (small_size (by show (signs s).length ≤ 2000; rw [signs_len]; exact s2)) (fun p hp => ?_) ?_
        · obtain ⟨c, hc, rfl⟩ := List.mem_map.mp hp
          refine ⟨_, rfl, rfl, fun _ => Wp.eq ?_⟩
          simp only [w_cmp, w_var, w_con]
          simp [in_sign, signB_one, lettersL]
        · simp only [filt_true]
          have e2 := all_map signB (signs s)
          rw [signs_all] at e2
          simp [e2]
      · have b1 : (1 : Int) ≤ s.length := by omega
        have b2 : ¬ (s.length : Int) ≤ 8 := by omega
        simp [isi_str hx.nd, isStrD, len_str s2, ci_le, a1, a2, b1, b2]
    · have b1 : ¬ (1 : Int) ≤ s.length := by omega
      simp [isi_str hx.nd, isStrD, len_str s2, ci_le, a1, b1]
  | _ => simp [isi_str hx.nd, isStrD, isName]
theorem law_is_name_ok (hT : Has T "_law_is_name" 2 c_law_is_name) : PuB T 1 "_law_is_name" isName := by
  intro j hj x hx h
  refine Wp.eq ((w_clk hT hj).mpr ?_)
  unfold c_law_is_name
  simp only [w_seq, w_ret, w_ite, w_or, w_not, w_isi, w_var, w_chain, w_blt, w_cons, w_nil, w_con, w_pass, w_comp, w_walk, w_cmp, w_lst]
  cases x with
  | str s =>
    obtain ⟨s1, s2⟩ := hx.str
    have d1 : isName (.str s) = (decide (1 ≤ s.length) && (decide (s.length ≤ 8) && s.cps.toList.all fun c => decide (c ∈ lettersL))) := rfl
    rw [d1]
    by_cases a1 : 1 ≤ s.length
    · by_cases a2 : s.length ≤ 8
      · have b1 : (1 : Int) ≤ s.length := by omega
        have b2 : (s.length : Int) ≤ 8 := by omega
        simp [isi_str hx.nd, isStrD, len_str s2, ci_le, a1, a2, b1, b2, src_s]
        refine wp_comp (s := ⟨signs s, none⟩) (fun p => !signB p) (fun p => p) rfl (small_size (by show (signs s).length ≤ 2000; rw [signs_len]; exact s2)) (fun p hp => ?_) ?_
        · obtain ⟨c, hc, rfl⟩ := List.mem_map.mp hp
          refine ⟨_, rfl, Wp.eq ?_, fun _ => Wp.eq ?_⟩
          · simp only [w_te, w_cmp, w_var, w_con]
            simp [notin_sign, signB_one, lettersL]
          · simp only [w_var]
            simp
        · simp only [map_id']
          have ns : Nice (.list ((signs s).filter fun p => !signB p)) := ⟨1, by omega, fine_lst.mpr ⟨by have := List.length_filter_le (fun p => !signB p) (signs s); rw [signs_len] at this; omega, fun x hx => by
            obtain ⟨c, hc, rfl⟩ := List.mem_map.mp (List.mem_filter.mp hx).1
            have hc' := ok_iff.mp s1 c hc
            refine fine_str.mpr ⟨ok_iff.mpr fun e he => ?_, by show 1 ≤ 2000; omega⟩
            have he' : e ∈ [c] := he
            simp at he'
            omega⟩⟩
          have e1 := eq_nil ns.sh
          rw [filt_empty] at e1
          have e2 : ((signs s).all fun x => !!signB x) = s.cps.toList.all fun c => decide (c ∈ lettersL) := by
            rw [← signs_all]
            simp
          rw [e2] at e1
          simp [e1]
      · have b1 : (1 : Int) ≤ s.length := by omega
        have b2 : ¬ (s.length : Int) ≤ 8 := by omega
        simp [isi_str hx.nd, isStrD, len_str s2, ci_le, a1, a2, b1, b2]
    · have b1 : ¬ (1 : Int) ≤ s.length := by omega
      simp [isi_str hx.nd, isStrD, len_str s2, ci_le, a1, b1]
  | _ => simp [isi_str hx.nd, isStrD, isName]
theorem name_str {x : PyData} (h : isName x = true) : ∃ s, x = .str s ∧ 1 ≤ s.length ∧ s.length ≤ 8 ∧ PyData.strOk s = true := by
  cases x with
  | str s =>
    obtain ⟨h1, h⟩ := Bool.and_eq_true_iff.mp (show (decide (1 ≤ s.length) && (decide (s.length ≤ 8) && s.cps.toList.all fun c => decide (c ∈ lettersL))) = true from h)
    obtain ⟨h2, h3⟩ := Bool.and_eq_true_iff.mp h
    refine ⟨s, rfl, of_decide_eq_true h1, of_decide_eq_true h2, ok_iff.mpr fun c hc => ?_⟩
    have k := of_decide_eq_true (List.all_eq_true.mp h3 c hc)
    have key : ∀ c ∈ lettersL, c < 0x110000 := by decide +kernel
    exact key c k
  | _ => cases h
theorem name_gn {m s B d : Nat} {x : PyData} (hs : 8 ≤ s) (h : isName x = true) : Gn m s B d x := by
  obtain ⟨t, rfl, _, h2, h3⟩ := name_str h
  exact gn_str.mpr ⟨h3, by omega⟩
theorem name_wt {x : PyData} (h : isName x = true) : wt x ≤ 82 := by
  obtain ⟨t, rfl, _, h2, h3⟩ := name_str h
  rw [wt_str]
  omega
theorem srt_name : Srt isName where
  txt := fun x h => let ⟨s, e, _⟩ := name_str h; txt_str ⟨s, e⟩
  lt := fun a b ha hb => lt_strs (let ⟨s, e, _⟩ := name_str ha; ⟨s, e⟩) (let ⟨s, e, _⟩ := name_str hb; ⟨s, e⟩)
  depth := fun x h => by
    obtain ⟨s, rfl, _⟩ := name_str h
    simp [PyData.depth]
  kind := .inl fun x h => by
    obtain ⟨s, rfl, _⟩ := name_str h
    rfl
abbrev isNames : PyData → Bool := rowB isName
theorem is_names_ok (h1 : Has T "is_names" 2 c_is_names) (h2 : PuB T 1 "is_name" isName) (h3 : Has T "does_ascend" 3 c_does_ascend) : PuB T 2 "is_names" isNames :=
  rowB_ok (F := isName) (Nat.le_refl _) h1 h2 h3 srt_name.txt srt_name.lt
theorem law_are_names_ok (h1 : Has T "_law_are_names" 2 c_law_are_names) (h2 : PuB T 1 "_law_is_name" isName) : PuS T 2 "_law_are_names" isNames := plan_ok (F := isName) (by omega) h1 h2 srt_name
theorem names_row {x : PyData} (h : isNames x = true) : ∃ ns, x = .tuple ns ∧ (∀ n ∈ ns, isName n = true) ∧ Asc ns := by
  cases x with
  | tuple ns =>
    obtain ⟨h1, h2⟩ := Bool.and_eq_true_iff.mp (show (ns.all isName && adj ns) = true from h)
    exact ⟨ns, rfl, fun n hn => List.all_eq_true.mp h1 n hn, adj_asc.mp h2⟩
  | _ => cases h
/-! ### sizes -/
def geI (k : Int) : PyData → Bool
  | .int i => decide (k ≤ i)
  | _ => false
def isSize : PyData → Bool
  | .tuple [a, b, c, d] => (isNames a && !(rowD a).isEmpty) && (isNumD b && (geI 1 b && (isNumD c && isBoolD d)))
  | _ => false
theorem ge_num {k : Int} {b : PyData} (h : isNumD b = true) : cmpSem .GtE b (.int k) = some (.bool (geI k b)) := by
  cases b <;> first | (cases h; done) | exact ci_ge
theorem ne_int {i k : Int} : cmpSem .NotEq (.int i) (.int k) = some (.bool (!(i == k))) := by
  rw [ne_sh rfl rfl]
  rfl
theorem len_tup {xs : List PyData} : lenD [.tuple xs] = some (.int xs.length) := rfl
def sizeCode (f g : Str) : CS :=
  (.seq (.ite (.or (.not (.isi "tuple" (.var 0))) (.or (.cmp .NotEq (.blt "len" (.cons (.var 0) .nil)) (.con (.int 4))) (.or (.not (.call f [.p 0] (.cons (.ix (.var 0) (.con (.int 0))) .nil) .nil)) (.cmp .Eq (.blt "len" (.cons (.ix (.var 0) (.con (.int 0))) .nil)) (.con (.int 0)))))) (.seq (.ret (.con (.bool false)))
  .pass) .pass)
  (.seq (.ret (.and (.call g [.p 0] (.cons (.ix (.var 0) (.con (.int 1))) .nil) .nil) (.and (.cmp .GtE (.ix (.var 0) (.con (.int 1))) (.con (.int 1))) (.and (.call g [.p 0] (.cons (.ix (.var 0) (.con (.int 2))) .nil) .nil) (.isi "bool" (.ix (.var 0) (.con (.int 3))))))))
  .pass))
/-- no row at any depth is longer than 63 -/
def shortIn : PyData → Bool
  | .tuple xs => xs.all short
  | _ => true
theorem size_ok {k f g : Str} (hk : Has T k 1 (sizeCode f g)) (hF : PuS T 2 f isNames) (hG : PuB T 1 g isNumD) {j : Nat} (hj : 3 ≤ j) {x : PyData} (hx : Nice x) (hs : shortIn x = true) (h : AH) : clk T j k [.d x] h = .ok (.d (.bool (isSize x))) h := by
  refine Wp.eq ((w_clk hk (by omega)).mpr ?_)
  unfold sizeCode
  simp only [w_seq, w_ret, w_ite, w_or, w_not, w_isi, w_var, w_blt, w_cons, w_nil, w_con, w_pass, w_cmp, w_call, w_ix, w_and]
  cases x with
  | tuple xs =>
    obtain ⟨hl, hm⟩ := hx.tup
    have hs' := List.all_eq_true.mp (show xs.all short = true from hs)
    match xs, hl, hm, hs' with
    | [a, b, c, d], hl, hm, hs' =>
      have e0 : ixD (.tuple [a, b, c, d]) (.int 0) = some a := rfl
      have e1 : ixD (.tuple [a, b, c, d]) (.int 1) = some b := rfl
      have e2 : ixD (.tuple [a, b, c, d]) (.int 2) = some c := rfl
      have e3 : ixD (.tuple [a, b, c, d]) (.int 3) = some d := rfl
      have fa := hF (j - 1) (by omega) a (hm a (by simp)) (hs' a (by simp))
      have gb := hG (j - 1) (by omega) b (hm b (by simp))
      have gc := hG (j - 1) (by omega) c (hm c (by simp))
      have fd := isi_bool (hm d (by simp)).nd
      have ed : isSize (.tuple [a, b, c, d]) = ((isNames a && !(rowD a).isEmpty) && (isNumD b && (geI 1 b && (isNumD c && isBoolD d)))) := rfl
      rw [ed]
      cases ha : isNames a with
      | false => simp [isi_tup hx.nd, isTupD, len_tup, ne_int, e0, fa, ha]
      | true =>
        obtain ⟨ns, rfl, _, _⟩ := names_row ha
        rw [ha] at fa
        cases hns : ns.isEmpty with
        | true =>
          have : ns = [] := List.isEmpty_iff.mp hns
          subst this
          simp [isi_tup hx.nd, isTupD, len_tup, ne_int, e0, fa, eq_int, rowD]
        | false =>
          have hne : ¬ ((ns.length : Int) = 0) := by
            cases ns with
            | nil => cases hns
            | cons _ _ => simp only [List.length_cons]; omega
          have hne2 : ns ≠ [] := fun z => by rw [z] at hns; cases hns
          cases hb : isNumD b with
          | false => simp [isi_tup hx.nd, isTupD, len_tup, ne_int, e0, e1, fa, eq_int, rowD, hne, hne2, gb, hb]
          | true =>
            have gg := ge_num (k := 1) hb
            generalize geI 1 b = A at gg
            cases A with
            | false => simp [isi_tup hx.nd, isTupD, len_tup, ne_int, e0, e1, fa, eq_int, rowD, hne, hne2, gb, hb, gg]
            | true =>
              cases hc : isNumD c with
              | false => simp [isi_tup hx.nd, isTupD, len_tup, ne_int, e0, e1, e2, fa, eq_int, rowD, hne, hne2, gb, hb, gg, gc, hc]
              | true => simp [isi_tup hx.nd, isTupD, len_tup, ne_int, e0, e1, e2, e3, fa, eq_int, rowD, hne, hne2, gb, hb, gg, gc, hc, fd]
    | [], hl, hm, hs' => simp [isi_tup hx.nd, isTupD, len_tup, ne_int, isSize]
    | [_], hl, hm, hs' => simp [isi_tup hx.nd, isTupD, len_tup, ne_int, isSize]
    | [_, _], hl, hm, hs' => simp [isi_tup hx.nd, isTupD, len_tup, ne_int, isSize]
    | [_, _, _], hl, hm, hs' => simp [isi_tup hx.nd, isTupD, len_tup, ne_int, isSize]
    | _ :: _ :: _ :: _ :: _ :: r, hl, hm, hs' =>
      have e : ¬ ((r.length + 1 + 1 + 1 + 1 + 1 : Int) = 4) := by omega
      simp [isi_tup hx.nd, isTupD, len_tup, ne_int, isSize, e]
  | _ => simp [isi_tup hx.nd, isTupD, isSize]
end RB
/-! RP18: steps, as the program and the laws tell them. -/
namespace RB
open PySem PySem.Spec L2
variable {T : Run} {X : XQ}
theorem eq_strs {x y : Str} (hx : PyData.strOk x = true) (hy : PyData.strOk y = true) : cmpSem .Eq (.str x) (.str y) = some (.bool (x == y)) := by
  rw [eq_sh (str_shaped hx) (str_shaped hy), PyData.eqv]
def isStepA : PyData → Bool
  | .tuple [.str s] => s == "guess"
  | .tuple [.str s, n, o] => isName n && (if (s == "make") = true then isNames o else (s == "same") && (isName o && !PyData.eqv n o))
  | _ => false
theorem isStepA1 (s : Str) : isStepA (.tuple [.str s]) = (s == "guess") := rfl
theorem isStepA3 (s : Str) (n o : PyData) : isStepA (.tuple [.str s, n, o]) = (isName n && (if (s == "make") = true then isNames o else (s == "same") && (isName o && !PyData.eqv n o))) := rfl
theorem not_guess : (((("make" : String) : Str)) == ("guess" : Str)) = false ∧ ((("same" : String) : Str) == ("guess" : Str)) = false ∧ ((("same" : String) : Str) == ("make" : Str)) = false := by decide +kernel
theorem isStepA_no {xs : List PyData} (h : ∀ s, xs ≠ [.str s]) (h2 : ∀ s n o, xs ≠ [.str s, n, o]) : isStepA (.tuple xs) = false := by
  unfold isStepA
  split
  · rename_i s e
    cases e
    exact absurd rfl (h _)
  · rename_i s n o e
    cases e
    exact absurd rfl (h2 _ _ _)
  · rfl
theorem is_any_step_ok (hT : Has T "is_any_step" 1 c_is_any_step) (hN : PuB T 1 "is_name" isName) (hNs : PuB T 2 "is_names" isNames) : PuB T 3 "is_any_step" isStepA := by
  intro j hj x hx h
  have mt : mkTup [.d (.int 1), .d (.int 3)] = some (.d (.tuple [.int 1, .int 3])) := rfl
  have ks : ∀ w : Str, w = "guess" ∨ w = "make" ∨ w = "same" → PyData.strOk w = true := by
    rintro w (rfl | rfl | rfl) <;> decide +kernel
  refine Wp.eq ((w_clk hT (by omega)).mpr ?_)
  unfold c_is_any_step
  simp only [w_seq, w_ret, w_ite, w_or, w_not, w_isi, w_var, w_blt, w_cons, w_nil, w_con, w_pass, w_cmp, w_call, w_ix, w_and, w_tup]
  cases x with
  | tuple xs =>
    obtain ⟨hl, hm⟩ := hx.tup
    have len1 : ∀ k : Int, (k = 1 ∨ k = 3) → cmpSem .NotIn (.int k) (.tuple [.int 1, .int 3]) = some (.bool false) := by
      rintro k (rfl | rfl) <;> rfl
    match xs, hl, hm with
    | [a], hl, hm =>
      have e0 : ixD (.tuple [a]) (.int 0) = some a := rfl
      cases hs : isStrD a with
      | false =>
        rw [isStepA_no (fun s z => by cases z; cases hs) (fun s n o z => by cases z)]
        simp [isi_tup hx.nd, isTupD, len_tup, mt, len1 1 (.inl rfl), e0, isi_str (hm a (by simp)).nd, hs]
      | true =>
        obtain ⟨s, rfl⟩ : ∃ s, a = .str s := by cases a <;> first | exact ⟨_, rfl⟩ | cases hs
        have so := (hm (.str s) (by simp)).str.1
        have ia := isi_str (hm (.str s) (by simp)).nd
        rw [hs] at ia
        rw [isStepA1]
        simp [isi_tup hx.nd, isTupD, len_tup, mt, len1 1 (.inl rfl), e0, ia, hs, eq_int, eq_strs so (ks _ (.inl rfl))]
    | [a, b, c], hl, hm =>
      have e0 : ixD (.tuple [a, b, c]) (.int 0) = some a := rfl
      have e1 : ixD (.tuple [a, b, c]) (.int 1) = some b := rfl
      have e2 : ixD (.tuple [a, b, c]) (.int 2) = some c := rfl
      have l3 : cmpSem .NotIn (.int 3) (.tuple [.int 1, .int 3]) = some (.bool false) := rfl
      cases hs : isStrD a with
      | false =>
        rw [isStepA_no (fun s z => by cases z) (fun s n o z => by cases z; cases hs)]
        simp [isi_tup hx.nd, isTupD, len_tup, mt, l3, e0, isi_str (hm a (by simp)).nd, hs]
      | true =>
        obtain ⟨s, rfl⟩ : ∃ s, a = .str s := by cases a <;> first | exact ⟨_, rfl⟩ | cases hs
        have so := (hm (.str s) (by simp)).str.1
        have ia := isi_str (hm (.str s) (by simp)).nd
        rw [hs] at ia
        have fb := hN (j - 1) (by omega) b (hm b (by simp))
        have fc := hN (j - 1) (by omega) c (hm c (by simp))
        have gc := hNs (j - 1) (by omega) c (hm c (by simp))
        have nb := ne_sh (hm b (by simp)).sh (hm c (by simp)).sh
        have q1 := eq_strs so (ks _ (.inr (.inl rfl)))
        have q2 := eq_strs so (ks _ (.inr (.inr rfl)))
        rw [isStepA3]
        cases hb : isName b with
        | false => simp [isi_tup hx.nd, isTupD, len_tup, mt, l3, e0, e1, ia, hs, eq_int, fb, hb]
        | true =>
          cases hmk : s == ("make" : Str) with
          | true =>
            rw [hmk] at q1
            simp [isi_tup hx.nd, isTupD, len_tup, mt, l3, e0, e1, e2, ia, hs, eq_int, fb, hb, q1, gc, hmk]
          | false =>
            rw [hmk] at q1
            cases hsm : s == ("same" : Str) with
            | false =>
              rw [hsm] at q2
              simp [isi_tup hx.nd, isTupD, len_tup, mt, l3, e0, e1, e2, ia, hs, eq_int, fb, hb, q1, q2, hmk, hsm]
            | true =>
              rw [hsm] at q2
              cases hc : isName c with
              | false => simp [isi_tup hx.nd, isTupD, len_tup, mt, l3, e0, e1, e2, ia, hs, eq_int, fb, hb, q1, q2, fc, hc, hmk, hsm]
              | true => simp [isi_tup hx.nd, isTupD, len_tup, mt, l3, e0, e1, e2, ia, hs, eq_int, fb, hb, q1, q2, fc, hc, nb, hmk, hsm]
    | [], hl, hm =>
      have l0 : cmpSem .NotIn (.int 0) (.tuple [.int 1, .int 3]) = some (.bool true) := rfl
      simp [isi_tup hx.nd, isTupD, len_tup, mt, l0, isStepA]
    | [_, _], hl, hm =>
      have l0 : cmpSem .NotIn (.int 2) (.tuple [.int 1, .int 3]) = some (.bool true) := rfl
      simp [isi_tup hx.nd, isTupD, len_tup, mt, l0, isStepA]
    | _ :: _ :: _ :: _ :: r, hl, hm =>
      have l0 : cmpSem .NotIn (.int (r.length + 1 + 1 + 1 + 1)) (.tuple [.int 1, .int 3]) = some (.bool true) := by
        rw [notin_tup rfl rfl]
        have : hasD [.int 1, .int 3] (.int (r.length + 1 + 1 + 1 + 1)) = false := by
          unfold hasD
          simp only [List.any_cons, List.any_nil, PyData.eqv, Bool.or_false]
          have a1 : ((1 : Int) == (r.length + 1 + 1 + 1 + 1 : Int)) = false := by rw [beq_eq_false_iff_ne]; omega
          have a2 : ((3 : Int) == (r.length + 1 + 1 + 1 + 1 : Int)) = false := by rw [beq_eq_false_iff_ne]; omega
          rw [a1, a2]
          rfl
        rw [this]
        rfl
      simp [isi_tup hx.nd, isTupD, len_tup, mt, l0, isStepA]
  | _ => simp [isi_tup hx.nd, isTupD, isStepA]
theorem law_is_move_ok (hT : Has T "_law_is_move" 1 c_law_is_move) (hN : PuB T 1 "_law_is_name" isName) (hNs : PuS T 2 "_law_are_names" isNames) {j : Nat} (hj : 3 ≤ j) {x : PyData} (hx : Nice x) (hsh : shortIn x = true) (h : AH) : clk T j "_law_is_move" [.d x] h = .ok (.d (.bool (isStepA x))) h := by
  have ks : ∀ w : Str, w = "guess" ∨ w = "make" ∨ w = "same" → PyData.strOk w = true := by
    rintro w (rfl | rfl | rfl) <;> decide +kernel
  refine Wp.eq ((w_clk hT (by omega)).mpr ?_)
  unfold c_law_is_move
  simp only [w_seq, w_ret, w_ite, w_or, w_not, w_isi, w_var, w_blt, w_cons, w_nil, w_con, w_pass, w_cmp, w_call, w_ix, w_and, w_tup]
  cases x with
  | tuple xs =>
    obtain ⟨hl, hm⟩ := hx.tup
    have hsh' := List.all_eq_true.mp (show xs.all short = true from hsh)
    match xs, hl, hm, hsh' with
    | [], hl, hm, hsh' => simp [isi_tup hx.nd, isTupD, len_tup, eq_int, isStepA]
    | a :: r, hl, hm, hsh' =>
      have e0 : ixD (.tuple (a :: r)) (.int 0) = some a := by
        show atI (a :: r) 0 = _
        unfold atI ixN
        rw [if_pos (by omega), if_pos (by simp only [List.length_cons]; omega)]
        rfl
      have n0 : ¬ ((r.length : Int) + 1 = 0) := by omega
      cases hs : isStrD a with
      | false =>
        rw [isStepA_no (fun s z => by cases z; cases hs) (fun s n o z => by cases z; cases hs)]
        simp [isi_tup hx.nd, isTupD, len_tup, eq_int, n0, e0, isi_str (hm a (by simp)).nd, hs]
      | true =>
        obtain ⟨s, rfl⟩ : ∃ s, a = .str s := by cases a <;> first | exact ⟨_, rfl⟩ | cases hs
        have so := (hm (.str s) (by simp)).str.1
        have ia := isi_str (hm (.str s) (by simp)).nd
        rw [hs] at ia
        have q0 := eq_strs so (ks _ (.inl rfl))
        have q1 := eq_strs so (ks _ (.inr (.inl rfl)))
        have q2 := eq_strs so (ks _ (.inr (.inr rfl)))
        cases hg : s == ("guess" : Str) with
        | true =>
          rw [hg] at q0
          have es := eq_of_beq hg
          subst es
          match r, hl, hm, hsh', n0, e0 with
          | [], hl, hm, hsh', n0, e0 => simp [isi_tup hx.nd, isTupD, len_tup, eq_int, e0, ia, q0, isStepA1]
          | [b], hl, hm, hsh', n0, e0 =>
            have : isStepA (.tuple [.str "guess", b]) = false := isStepA_no (fun s z => by cases z) (fun s n o z => by cases z)
            simp [isi_tup hx.nd, isTupD, len_tup, eq_int, e0, ia, q0, this]
          | [b, c], hl, hm, hsh', n0, e0 =>
            have g1 : (("guess" : Str) == ("make" : Str)) = false := by decide +kernel
            have g2 : (("guess" : Str) == ("same" : Str)) = false := by decide +kernel
            have : isStepA (.tuple [.str "guess", b, c]) = false := by rw [isStepA3, g1, g2]; simp
            simp [isi_tup hx.nd, isTupD, len_tup, eq_int, e0, ia, q0, this]
          | b :: c :: d :: r, hl, hm, hsh', n0, e0 =>
            have : isStepA (.tuple (.str "guess" :: b :: c :: d :: r)) = false := isStepA_no (fun s z => by cases z) (fun s n o z => by cases z)
            have n1 : ¬ ((r.length : Int) + 1 + 1 + 1 + 1 = 1) := by omega
            simp [isi_tup hx.nd, isTupD, len_tup, eq_int, n0, e0, ia, q0, this, n1]
            omega
        | false =>
          rw [hg] at q0
          match r, hl, hm, hsh', n0, e0 with
          | [], hl, hm, hsh', n0, e0 => simp [isi_tup hx.nd, isTupD, len_tup, eq_int, ne_int, e0, ia, q0, isStepA1, hg]
          | [b], hl, hm, hsh', n0, e0 =>
            have : isStepA (.tuple [.str s, b]) = false := isStepA_no (fun s z => by cases z) (fun s n o z => by cases z)
            simp [isi_tup hx.nd, isTupD, len_tup, eq_int, ne_int, e0, ia, q0, this]
          | b :: c :: d :: r, hl, hm, hsh', n0, e0 =>
            have : isStepA (.tuple (.str s :: b :: c :: d :: r)) = false := isStepA_no (fun s z => by cases z) (fun s n o z => by cases z)
            have n1 : ¬ ((r.length : Int) + 1 + 1 + 1 + 1 = 3) := by omega
            simp [isi_tup hx.nd, isTupD, len_tup, eq_int, ne_int, n0, e0, ia, q0, this, n1]
            omega
          | [b, c], hl, hm, hsh', n0, e0 =>
            have e1 : ixD (.tuple [.str s, b, c]) (.int 1) = some b := rfl
            have e2 : ixD (.tuple [.str s, b, c]) (.int 2) = some c := rfl
            have fb := hN (j - 1) (by omega) b (hm b (by simp))
            have fc := hN (j - 1) (by omega) c (hm c (by simp))
            have gc := hNs (j - 1) (by omega) c (hm c (by simp)) (hsh' c (by simp))
            have nb := ne_sh (hm b (by simp)).sh (hm c (by simp)).sh
            rw [isStepA3]
            cases hb : isName b with
            | false => simp [isi_tup hx.nd, isTupD, len_tup, eq_int, ne_int, e0, ia, q0, e1, fb, hb]
            | true =>
              cases hmk : s == ("make" : Str) with
              | true =>
                rw [hmk] at q1
                simp [isi_tup hx.nd, isTupD, len_tup, e0, e1, e2, ia, eq_int, ne_int, fb, hb, q0, q1, gc]
              | false =>
                rw [hmk] at q1
                cases hsm : s == ("same" : Str) with
                | false =>
                  rw [hsm] at q2
                  simp [isi_tup hx.nd, isTupD, len_tup, e0, e1, e2, ia, eq_int, ne_int, fb, hb, q0, q1, q2]
                | true =>
                  rw [hsm] at q2
                  cases hc : isName c with
                  | false => simp [isi_tup hx.nd, isTupD, len_tup, e0, e1, e2, ia, eq_int, ne_int, fb, hb, q0, q1, q2, fc, hc]
                  | true => simp [isi_tup hx.nd, isTupD, len_tup, e0, e1, e2, ia, eq_int, ne_int, fb, hb, q0, q1, q2, fc, hc, nb]
  | _ => simp [isi_tup hx.nd, isTupD, isStepA]
end RB
/-! RP19: steps of a size; names, sizes, steps that are drawn. -/
namespace RB
open PySem PySem.Spec L2
variable {T : Run} {X : XQ}
def isTru : PyData → Bool
  | .bool b => b
  | _ => false
/-- a step of a size, if it is a step -/
def fitsB : PyData → PyData → Bool
  | .tuple [.tuple ns, _, g, c], .tuple [.str s, n, o] => hasD ns n && (if (s == "make") = true then (rowD o).all fun k => hasD ns k else hasD ns o && isTru c)
  | .tuple [.tuple ns, _, g, c], _ => geI 1 g
  | _, _ => false
theorem fitsB3 (ns : List PyData) (p g c n o : PyData) (s : Str) : fitsB (.tuple [.tuple ns, p, g, c]) (.tuple [.str s, n, o]) = (hasD ns n && (if (s == "make") = true then (rowD o).all fun k => hasD ns k else hasD ns o && isTru c)) := rfl
theorem fitsB1 (ns : List PyData) (p g c : PyData) (s : Str) : fitsB (.tuple [.tuple ns, p, g, c]) (.tuple [.str s]) = geI 1 g := rfl
theorem size_in {x : PyData} (h : isSize x = true) : ∃ ns p g b, x = .tuple [.tuple ns, .int p, .int g, .bool b] ∧ isNames (.tuple ns) = true ∧ ns ≠ [] ∧ 1 ≤ p ∧ 0 ≤ g := by
  unfold isSize at h
  split at h
  · rename_i a b c d
    obtain ⟨h1, h⟩ := Bool.and_eq_true_iff.mp h
    obtain ⟨h1, h2⟩ := Bool.and_eq_true_iff.mp h1
    obtain ⟨h3, h⟩ := Bool.and_eq_true_iff.mp h
    obtain ⟨h4, h⟩ := Bool.and_eq_true_iff.mp h
    obtain ⟨h5, h6⟩ := Bool.and_eq_true_iff.mp h
    obtain ⟨ns, rfl, _, _⟩ := names_row h1
    obtain ⟨p, rfl⟩ : ∃ p, b = .int p := by cases b <;> first | exact ⟨_, rfl⟩ | cases h3
    obtain ⟨g, rfl⟩ : ∃ p, c = .int p := by cases c <;> first | exact ⟨_, rfl⟩ | cases h5
    obtain ⟨e, rfl⟩ : ∃ p, d = .bool p := by cases d <;> first | exact ⟨_, rfl⟩ | cases h6
    refine ⟨ns, p, g, e, rfl, h1, fun z => ?_, of_decide_eq_true h4, of_decide_eq_true h5⟩
    rw [z] at h2
    cases h2
  · cases h
theorem step_in {x : PyData} (h : isStepA x = true) : x = .tuple [.str "guess"] ∨ (∃ n o, x = .tuple [.str "make", n, .tuple o] ∧ isName n = true ∧ isNames (.tuple o) = true) ∨ (∃ n o, x = .tuple [.str "same", n, o] ∧ isName n = true ∧ isName o = true) := by
  unfold isStepA at h
  split at h
  · rename_i s
    rw [eq_of_beq h]
    exact .inl rfl
  · rename_i s n o
    obtain ⟨h1, h2⟩ := Bool.and_eq_true_iff.mp h
    by_cases hm : (s == ("make" : Str)) = true
    · rw [if_pos hm] at h2
      obtain ⟨os, rfl, _, _⟩ := names_row h2
      rw [eq_of_beq hm]
      exact .inr (.inl ⟨n, os, rfl, h1, h2⟩)
    · rw [if_neg hm] at h2
      obtain ⟨h3, h4⟩ := Bool.and_eq_true_iff.mp h2
      obtain ⟨h4, _⟩ := Bool.and_eq_true_iff.mp h4
      rw [eq_of_beq h3]
      exact .inr (.inr ⟨n, o, rfl, h1, h4⟩)
  · cases h
theorem eq_lits : cmpSem .Eq (.str "guess") (.str "guess") = some (.bool true) ∧ cmpSem .Eq (.str "make") (.str "guess") = some (.bool false) ∧ cmpSem .Eq (.str "same") (.str "guess") = some (.bool false) ∧ cmpSem .Eq (.str "make") (.str "make") = some (.bool true) ∧ cmpSem .Eq (.str "same") (.str "make") = some (.bool false) ∧ cmpSem .Eq (.str "make") (.str "same") = some (.bool false) ∧ cmpSem .Eq (.str "same") (.str "same") = some (.bool true) := by
  refine ⟨?_, ?_, ?_, ?_, ?_, ?_, ?_⟩ <;> kernel_rfl
theorem has_step_ok (hT : Has T "has_step" 9 c_has_step) (hA : PuB T 3 "is_any_step" isStepA) {j : Nat} (hj : 4 ≤ j) {p x : PyData} (hp : isSize p = true) (np : Nice p) (hx : Nice x) (h : AH) : clk T j "has_step" [.d p, .d x] h = .ok (.d (.bool (isStepA x && fitsB p x))) h := by
  obtain ⟨ns, k, g, b, rfl, _, _, _, _⟩ := size_in hp
  have nn : Nice (.tuple ns) := np.tup.2 _ (by simp)
  have ea := hA (j - 1) (by omega) x hx
  obtain ⟨l1, l2, l3, l4, l5, l6, l7⟩ := eq_lits
  have ep : ∀ (a2 a3 a4 a5 a6 a7 a8 : Option U), (Tg.t [2, 3, 4, 5]).put (.d (.tuple [.tuple ns, .int k, .int g, .bool b])) [some (.d (.tuple [.tuple ns, .int k, .int g, .bool b])), some (.d x), a2, a3, a4, a5, a6, a7, a8] = some [some (.d (.tuple [.tuple ns, .int k, .int g, .bool b])), some (.d x), some (.d (.tuple ns)), some (.d (.int k)), some (.d (.int g)), some (.d (.bool b)), a6, a7, a8] := fun _ _ _ _ _ _ _ => rfl
  refine Wp.eq ((w_clk hT (by omega)).mpr ?_)
  unfold c_has_step
  simp only [w_seq, w_ret, w_ite, w_or, w_not, w_var, w_blt, w_cons, w_nil, w_con, w_pass, w_cmp, w_call, w_ix, w_and, w_tup, w_asg, w_ifx, w_comp, w_walk]
  cases hb : isStepA x with
  | false => simp [ea, hb]
  | true =>
    rcases step_in hb with rfl | ⟨n, o, rfl, hn, ho⟩ | ⟨n, o, rfl, hn, ho⟩
    · have e0 : ixD (.tuple [.str "guess"]) (.int 0) = some (.str "guess") := rfl
      simp [ea, hb, ep, e0, l1, fitsB1, ci_ge, geI]
    · have e0 : ixD (.tuple [.str "make", n, .tuple o]) (.int 0) = some (.str "make") := rfl
      have e1 : ixD (.tuple [.str "make", n, .tuple o]) (.int 1) = some n := rfl
      have e2 : ixD (.tuple [.str "make", n, .tuple o]) (.int 2) = some (.tuple o) := rfl
      have n1 : Nice n := hx.tup.2 _ (by simp)
      have n2 : Nice (.tuple o) := hx.tup.2 _ (by simp)
      have i1 := in_tupH n1.sh nn.sh
      have mk : ((("make" : Str) == ("make" : Str)) = true) := by decide +kernel
      have e5 := all_map (fun q => hasD ns q) o
      rw [fitsB3, if_pos mk, show rowD (.tuple o) = o from rfl]
      generalize (o.all fun q => hasD ns q) = B at e5 ⊢
      cases hA1 : hasD ns n with
      | false =>
        rw [hA1] at i1
        simp [ea, hb, ep, e0, e1, e2, l2, l4, i1]
      | true =>
        rw [hA1] at i1
        simp [ea, hb, ep, e0, e1, e2, l2, l4, i1]
        refine wp_comp (s := ⟨o, none⟩) (fun _ => true) (fun q => .bool (hasD ns q)) rfl (small_size n2.tup.1) (fun q hq => ?_) ?_
        · refine ⟨_, rfl, rfl, fun _ => Wp.eq ?_⟩
          simp only [w_cmp, w_var]
          simp [in_tupH (n2.tup.2 q hq).sh nn.sh]
        · cases B <;> simp [e5, l4]
    · have e0 : ixD (.tuple [.str "same", n, o]) (.int 0) = some (.str "same") := rfl
      have e1 : ixD (.tuple [.str "same", n, o]) (.int 1) = some n := rfl
      have e2 : ixD (.tuple [.str "same", n, o]) (.int 2) = some o := rfl
      have n1 : Nice n := hx.tup.2 _ (by simp)
      have n2 : Nice o := hx.tup.2 _ (by simp)
      have i1 := in_tupH n1.sh nn.sh
      have i2 := in_tupH n2.sh nn.sh
      have mk : ¬ ((("same" : Str) == ("make" : Str)) = true) := by decide +kernel
      have mt : mkTup [.d o] = some (.d (.tuple [o])) := rfl
      rw [fitsB3, if_neg mk]
      cases hA1 : hasD ns n with
      | false =>
        rw [hA1] at i1
        simp [ea, hb, ep, e0, e1, e2, l3, l5, mt, i1]
      | true =>
        rw [hA1] at i1
        simp [ea, hb, ep, e0, e1, e2, l3, l5, mt, i1]
        refine wp_comp (s := ⟨[o], none⟩) (fun _ => true) (fun q => .bool (hasD ns q)) rfl (small_size (by simp)) (fun q hq => ?_) ?_
        · have : q = o := by simpa using hq
          subst this
          refine ⟨_, rfl, rfl, fun _ => Wp.eq ?_⟩
          simp only [w_cmp, w_var]
          simp [i2]
        · have e5 : ∀ B : Bool, allB [.list [.bool B]] = some (.bool B) := fun B => by cases B <;> rfl
          cases hB : hasD ns o <;> simp [e5, l5, isTru, hB]
theorem is_step_ok (hT : Has T "is_step" 2 c_is_step) (hS : ∀ j, 3 ≤ j → ∀ x, Nice x → shortIn x = true → ∀ h, clk T j "is_size" [.d x] h = .ok (.d (.bool (isSize x))) h) (hH : Has T "has_step" 9 c_has_step) (hA : PuB T 3 "is_any_step" isStepA) {j : Nat} (hj : 5 ≤ j) {p x : PyData} (np : Nice p) (sp : shortIn p = true) (hx : Nice x) (h : AH) :
    clk T j "is_step" [.d p, .d x] h = if isSize p = true then .ok (.d (.bool (isStepA x && fitsB p x))) h else refused "size" h := by
  have e1 := hS (j - 1) (by omega) p np sp
  cases hb : isSize p with
  | true =>
    have e2 := has_step_ok hH hA (show 4 ≤ j - 1 by omega) hb np hx
    refine Wp.eq ((w_clk hT (by omega)).mpr ?_)
    unfold c_is_step
    simp only [w_seq, w_ret, w_ite, w_not, w_var, w_cons, w_nil, w_con, w_pass, w_call]
    simp [e1, hb, e2]
  | false =>
    refine Wp.eqX ((w_clk hT (by omega)).mpr ?_)
    unfold c_is_step
    simp only [w_seq, w_ret, w_ite, w_not, w_var, w_cons, w_nil, w_con, w_pass, w_call, w_raise, w_neg]
    simp [e1, hb, negD]
theorem law_fits_ok (hT : Has T "_law_fits" 3 c_law_fits) {j : Nat} (hj : 1 ≤ j) {p x : PyData} (hp : isSize p = true) (np : Nice p) (hx : Nice x) (hb : isStepA x = true) (h : AH) : clk T j "_law_fits" [.d p, .d x] h = .ok (.d (.bool (fitsB p x))) h := by
  obtain ⟨ns, k, g, b, rfl, _, _, _, _⟩ := size_in hp
  have nn : Nice (.tuple ns) := np.tup.2 _ (by simp)
  obtain ⟨l1, l2, l3, l4, l5, l6, l7⟩ := eq_lits
  have f0 : ixD (.tuple [.tuple ns, .int k, .int g, .bool b]) (.int 0) = some (.tuple ns) := rfl
  have f2 : ixD (.tuple [.tuple ns, .int k, .int g, .bool b]) (.int 2) = some (.int g) := rfl
  have f3 : ixD (.tuple [.tuple ns, .int k, .int g, .bool b]) (.int 3) = some (.bool b) := rfl
  refine Wp.eq ((w_clk hT (by omega)).mpr ?_)
  unfold c_law_fits
  simp only [w_seq, w_ret, w_ite, w_or, w_not, w_var, w_blt, w_cons, w_nil, w_con, w_pass, w_cmp, w_call, w_ix, w_and, w_tup, w_asg, w_ifx, w_comp, w_walk, w_lst]
  rcases step_in hb with rfl | ⟨n, o, rfl, hn, ho⟩ | ⟨n, o, rfl, hn, ho⟩
  · have e0 : ixD (.tuple [.str "guess"]) (.int 0) = some (.str "guess") := rfl
    simp [e0, l1, fitsB1, f2, ci_ge, geI]
  · have e0 : ixD (.tuple [.str "make", n, .tuple o]) (.int 0) = some (.str "make") := rfl
    have e1 : ixD (.tuple [.str "make", n, .tuple o]) (.int 1) = some n := rfl
    have e2 : ixD (.tuple [.str "make", n, .tuple o]) (.int 2) = some (.tuple o) := rfl
    have n1 : Nice n := hx.tup.2 _ (by simp)
    have n2 : Nice (.tuple o) := hx.tup.2 _ (by simp)
    have i1 := in_tupH n1.sh nn.sh
    have mk : ((("make" : Str) == ("make" : Str)) = true) := by decide +kernel
    rw [fitsB3, if_pos mk, show rowD (.tuple o) = o from rfl]
    cases hA1 : hasD ns n with
    | false =>
      rw [hA1] at i1
      simp [e0, e1, e2, l2, l6, f0, i1]
    | true =>
      rw [hA1] at i1
      simp [e0, e1, e2, l2, l6, f0, i1]
      refine wp_comp (s := ⟨o, none⟩) (fun q => !hasD ns q) (fun q => q) rfl (small_size n2.tup.1) (fun q hq => ?_) ?_
      · refine ⟨_, rfl, Wp.eq ?_, fun _ => Wp.eq ?_⟩
        · simp only [w_te, w_cmp, w_var, w_ix, w_con]
          simp [f0, notin_tup (n2.tup.2 q hq).sh nn.sh]
        · simp only [w_var]
          simp
      · simp only [map_id']
        have e5 := eq_nil (n2.sub (ys := o.filter fun q => !hasD ns q) (fun y hy => (List.mem_filter.mp hy).1) (List.length_filter_le _ _)).sh
        rw [filt_empty] at e5
        have e6 : (o.all fun x => !!hasD ns x) = o.all fun x => hasD ns x := by simp
        rw [e6] at e5
        simp only [e5]
        simp
  · have e0 : ixD (.tuple [.str "same", n, o]) (.int 0) = some (.str "same") := rfl
    have e1 : ixD (.tuple [.str "same", n, o]) (.int 1) = some n := rfl
    have e2 : ixD (.tuple [.str "same", n, o]) (.int 2) = some o := rfl
    have n1 : Nice n := hx.tup.2 _ (by simp)
    have n2 : Nice o := hx.tup.2 _ (by simp)
    have i1 := in_tupH n1.sh nn.sh
    have i2 := in_tupH n2.sh nn.sh
    have mk : ¬ ((("same" : Str) == ("make" : Str)) = true) := by decide +kernel
    rw [fitsB3, if_neg mk]
    generalize hasD ns n = A at i1
    generalize hasD ns o = B at i2
    cases b <;> cases A <;> simp [e0, e1, e2, l3, l7, f0, f3, i1, i2, isTru]
end RB
/-! RP20: names, sizes, steps that are drawn. -/
namespace RB
open PySem PySem.Spec L2
variable {T : Run} {X : XQ}
theorem pick_t {y z : Int} (hT : Has T "_law_draw" 7 (c_law_draw y z)) (hP : Has T "_law_pick" 2 c_law_pick) {j : Nat} (hj : 2 ≤ j) {o : O} (ho : Feed o) {xs : List PyData} (h1 : xs ≠ []) (h2 : xs.length ≤ 2000) (r : AH) :
    Wp (clk T j "_law_pick" [.r 0, .d (.tuple xs)] (o :: r)) (Dq r (· ∈ xs)) X := by
  refine (w_clk hP (by omega)).mpr ?_
  unfold c_law_pick
  have h0 : 0 < xs.length := List.length_pos_iff.mpr h1
  simp only [w_seq, w_ret, w_ix, w_var, w_call, w_cons, w_nil, w_blt]
  simp [lenD]
  refine (draw_ok hT (show 1 ≤ j - 1 by omega) ho (b := xs.length) (by omega) (by omega) r).imp ?_
  rintro u h' ⟨v, o', rfl, ⟨i, rfl, i1, i2⟩, fo, rfl⟩
  obtain ⟨x, hx, e⟩ := at_tup i1 i2
  simp [e]
  exact ⟨x, o', rfl, hx, fo, rfl⟩
/-! ### names -/
def menu0 : List PyData := [.str "a", .str "b", .str "ab", .str "aa", .str "make", .str "of", .str "same", .str "guess", .str "copies", .str "zzzzzzzz", .str "zzzzzzzy", .str "abcdefgh", .str "x"]
def menuN : List PyData := menu0 ++ [.str "no"]
theorem menu_name {x : PyData} (h : x ∈ menuN) : isName x = true := by
  have key : menuN.all isName = true := by decide +kernel
  exact List.all_eq_true.mp key x h
def NamesP (cap : Nat) (x : PyData) : Prop := ∃ ns, x = .tuple ns ∧ ns ≠ [] ∧ (∀ n ∈ ns, n ∈ menuN) ∧ ns.length ≤ cap ∧ isNames x = true
theorem law_names_ok {y z : Int} (hT : Has T "_law_draw" 7 (c_law_draw y z)) (hP : Has T "_law_pick" 2 c_law_pick) (hN : Has T "_law_names" 4 c_law_names) {j : Nat} (hj : 3 ≤ j) {o : O} (ho : Feed o) {cap : Int} (c0 : 0 < cap) (c1 : cap < 60) (r : AH) :
    Wp (clk T j "_law_names" [.r 0, .d (.int cap)] (o :: r)) (Dq r (NamesP cap.toNat)) X := by
  refine (w_clk hN (by omega)).mpr ?_
  unfold c_law_names
  refine seq_step (fun l1 h1 => l1 = [some (.r 0), some (.d (.int cap)), some (.r (r.length + 1)), none] ∧ h1 = o :: (r ++ [.lst menu0])) ?_ ?_
  · rw [w_asg, w_mls]
    exact wp_eq (a := menu0.map U.d) (by rfl) ⟨menu0, by rfl, _, rfl, rfl, rfl⟩
  rintro l1 h1 ⟨rfl, rfl⟩
  refine seq_step (fun l1 h1 => l1 = [some (.r 0), some (.d (.int cap)), some (.r (r.length + 1)), none] ∧ h1 = o :: (r ++ [.lst menuN])) ?_ ?_
  · rw [w_expr, w_app, w_var]
    exact ⟨_, rfl, _, rfl, _, lst_end, wp_eq (a := [.d (.str "no")]) (by rfl) ⟨_, lst_end, _, rfl, by decide, rfl, set_end⟩⟩
  rintro l1 h1 ⟨rfl, rfl⟩
  simp only [w_seq, w_ret, w_blt, w_cons, w_nil, w_srt, w_comp, w_range, w_call, w_var, w_bin, w_con]
  simp
  refine (draw_ok hT (show 1 ≤ j - 1 by omega) ho (b := cap) (by omega) (by omega) (r ++ [.lst menuN])).imp ?_
  rintro u h' ⟨v, o2, rfl, ⟨k, rfl, k1, k2⟩, fo2, rfl⟩
  simp [bi_add, range_src (n := 1 + k) (by omega) (by omega)]
  refine wp_compD (fun rest acc h => (∀ p ∈ acc, p ∈ menuN) ∧ acc.length + rest.length = (1 + k).toNat ∧ ∃ o', Feed o' ∧ h = o' :: (r ++ [.lst menuN])) ?_ ?_ _ [] _ ⟨fun p hp => (by cases hp), by simp, o2, fo2, rfl⟩
  · rintro x xs acc h ⟨a1, a2, o', fo, rfl⟩
    rw [List.length_cons] at a2
    refine ⟨Nat.lt_of_le_of_lt (show acc.length ≤ 2000 by omega) (by decide), _, rfl, ?_⟩
    simp [fYes]
    refine (pick_r hT hP (show 2 ≤ j - 1 by omega) fo (xs := menuN) (by decide) (by decide) (r ++ [.lst menuN]) (n := r.length) (by simp)).imp ?_
    rintro u h' ⟨p, o3, rfl, hp, fo3, rfl⟩
    refine ⟨p, rfl, fun q hq => ?_, by omega, o3, fo3, rfl⟩
    rcases hq with hq | hq
    · exact a1 q hq
    · rw [hq]; exact hp
  · rintro ps h ⟨a1, a2, o', fo, rfl⟩
    have hl : ps.length ≤ cap.toNat := by simp at a2; omega
    have nm : ∀ p ∈ ps, isName p = true := fun p hp => menu_name (a1 p hp)
    have ok : okSort ps = true := okSort_mk srt_name (fun x hx => ⟨nm x hx, (name_gn (m := 1) (s := 8) (B := 1) (d := 0) (by omega) (nm x hx)).fine (by decide +kernel) |>.lay.1⟩) (by omega)
    have tx : txtL ps = true := txtL_iff.mpr fun d hd => srt_name.txt d (nm d hd)
    have so := sort_list ok
    simp [so, tupleB]
    refine ⟨_, o', rfl, ⟨sortT ps, rfl, fun z => ?_, fun p hp => a1 p (sort_mem tx p hp), Nat.le_trans (sortT_len ps) hl, ?_⟩, fo, rfl⟩
    · cases ps with
      | nil => simp at a2; omega
      | cons p ps =>
        have := ((sortT_all tx).2.2 p).mpr List.mem_cons_self
        rw [z] at this
        cases this
    · show ((sortT ps).all isName && adj (sortT ps)) = true
      rw [Bool.and_eq_true, List.all_eq_true]
      exact ⟨fun x hx => nm x (sort_mem tx x hx), adj_asc.mpr (sortT_all tx).2.1⟩
/-! ### sizes -/
def SizedP (cap : Nat) (x : PyData) : Prop := ∃ ns p g b, x = .tuple [.tuple ns, .int p, .int g, .bool b] ∧ NamesP cap (.tuple ns) ∧ 1 ≤ p ∧ p ≤ 10 ^ 59 ∧ 0 ≤ g ∧ g ≤ 10 ^ 59
theorem law_sized_ok {y z : Int} (hT : Has T "_law_draw" 7 (c_law_draw y z)) (hP : Has T "_law_pick" 2 c_law_pick) (hN : Has T "_law_names" 4 c_law_names) (hS : Has T "_law_sized" 3 c_law_sized) {j : Nat} (hj : 4 ≤ j) {o : O} (ho : Feed o) {cap : Int} (c0 : 0 < cap) (c1 : cap < 60) (r : AH) :
    Wp (clk T j "_law_sized" [.r 0, .d (.int cap)] (o :: r)) (Dq r (SizedP cap.toNat)) X := by
  refine (w_clk hS (by omega)).mpr ?_
  unfold c_law_sized
  have ep : binSem .Pow (.int 10) (.int 59) = some (.int (10 ^ 59)) := by kernel_rfl
  have m1 : mkLst [.d (.int 1), .d (.int 1), .d (.int 2), .d (.int 3), .d (.int 4), .d (.int 10), .d (.int (10 ^ 59))] = some (.d (.list [.int 1, .int 1, .int 2, .int 3, .int 4, .int 10, .int (10 ^ 59)])) := rfl
  have m2 : mkLst [.d (.int 0), .d (.int 0), .d (.int 1), .d (.int 2), .d (.int 12), .d (.int (10 ^ 59))] = some (.d (.list [.int 0, .int 0, .int 1, .int 2, .int 12, .int (10 ^ 59)])) := rfl
  refine seq_step (fun l1 h1 => ∃ p : Int, 1 ≤ p ∧ p ≤ 10 ^ 59 ∧ l1 = [some (.r 0), some (.d (.int cap)), some (.d (.int p))] ∧ ∃ o', Feed o' ∧ h1 = o' :: r) ?_ ?_
  · simp only [w_asg, w_call, w_lst, w_cons, w_nil, w_con, w_var, w_bin]
    simp [-Int.reducePow, ep, m1]
    refine (pick_d hT hP (show 2 ≤ j - 1 by omega) ho (xs := [.int 1, .int 1, .int 2, .int 3, .int 4, .int 10, .int (10 ^ 59)]) (by simp) (by simp) r).imp ?_
    rintro u h' ⟨v, o1, rfl, hv, fo1, rfl⟩
    simp only [List.mem_cons, List.not_mem_nil, or_false] at hv
    rcases hv with rfl | rfl | rfl | rfl | rfl | rfl | rfl <;> exact ⟨_, by decide +kernel, by decide +kernel, rfl, o1, fo1, rfl⟩
  rintro l1 h1 ⟨p, p1, p2, rfl, o1, fo1, rfl⟩
  simp only [w_seq, w_ret, w_tup, w_call, w_lst, w_cons, w_nil, w_con, w_var, w_bin, w_cmp]
  simp [-Int.reducePow, ep, m2]
  refine (law_names_ok hT hP hN (show 3 ≤ j - 1 by omega) fo1 c0 c1 r).imp ?_
  rintro u h' ⟨n, o2, rfl, hn, fo2, rfl⟩
  obtain ⟨ns, rfl, _⟩ := id hn
  refine (pick_d hT hP (show 2 ≤ j - 1 by omega) fo2 (xs := [.int 0, .int 0, .int 1, .int 2, .int 12, .int (10 ^ 59)]) (by simp) (by simp) r).imp ?_
  rintro u h' ⟨v, o3, rfl, hv, fo3, rfl⟩
  obtain ⟨g, rfl, g1, g2⟩ : ∃ g : Int, v = .int g ∧ 0 ≤ g ∧ g ≤ 10 ^ 59 := by
    simp only [List.mem_cons, List.not_mem_nil, or_false] at hv
    rcases hv with rfl | rfl | rfl | rfl | rfl | rfl <;> exact ⟨_, rfl, by decide +kernel, by decide +kernel⟩
  refine (draw_ok hT (show 1 ≤ j - 1 by omega) fo3 (b := 2) (by decide) (by decide) r).imp ?_
  rintro u h' ⟨v, o4, rfl, ⟨k, rfl, k1, k2⟩, fo4, rfl⟩
  simp only [opU_d, eq_int, Option.map_some]
  exact ⟨_, rfl, _, rfl, _, o4, rfl, ⟨ns, p, g, _, rfl, hn, p1, p2, g1, g2⟩, fo4, by simp⟩
/-! ### steps -/
def MoveP (ns : List PyData) (x : PyData) : Prop := x = .tuple [.str "guess"] ∨ (∃ a ∈ ns, ∃ b ∈ ns, x = .tuple [.str "same", a, b]) ∨ ∃ a ∈ ns, ∃ os, os.Sublist ns ∧ x = .tuple [.str "make", a, .tuple os]
theorem law_move_ok {y z : Int} (hT : Has T "_law_draw" 7 (c_law_draw y z)) (hP : Has T "_law_pick" 2 c_law_pick) (hM : Has T "_law_move" 5 c_law_move) {j : Nat} (hj : 3 ≤ j) {o : O} (ho : Feed o) {ns : List PyData} (h1 : ns ≠ []) (h2 : ns.length ≤ 2000) (r : AH) :
    Wp (clk T j "_law_move" [.r 0, .d (.tuple ns)] (o :: r)) (Dq r (MoveP ns)) X := by
  refine (w_clk hM (by omega)).mpr ?_
  unfold c_law_move
  refine seq_step (fun l1 h1 => ∃ (lot : Int) (a : PyData) (o' : O), a ∈ ns ∧ Feed o' ∧ l1 = [some (.r 0), some (.d (.tuple ns)), some (.d (.int lot)), some (.d a), none] ∧ h1 = o' :: r) ?_ ?_
  · simp only [w_par, w_cons, w_nil, w_call, w_var, w_con]
    simp
    refine (draw_ok hT (show 1 ≤ j - 1 by omega) ho (b := 4) (by decide) (by decide) r).imp ?_
    rintro u h' ⟨v, o2, rfl, ⟨k, rfl, k1, k2⟩, fo2, rfl⟩
    refine (pick_t hT hP (show 2 ≤ j - 1 by omega) fo2 h1 h2 r).imp ?_
    rintro u h' ⟨a, o3, rfl, ha, fo3, rfl⟩
    exact ⟨k, a, ha, o3, fo3, ⟨rfl, rfl⟩, rfl⟩
  rintro l1 h1' ⟨lot, a, o1, ha, fo1, rfl, rfl⟩
  have t1 : mkTup [.d (.str "guess")] = some (.d (.tuple [.str "guess"])) := rfl
  refine seq_step (fun l1 h1 => l1 = [some (.r 0), some (.d (.tuple ns)), some (.d (.int lot)), some (.d a), none] ∧ h1 = o1 :: r) ?_ ?_
  · simp only [w_ite, w_cmp, w_var, w_con, w_pass, w_seq, w_ret, w_tup, w_cons, w_nil]
    simp [eq_int, t1]
    by_cases e : lot = 0
    · exact .inr ⟨e, _, o1, rfl, .inl rfl, fo1, by simp⟩
    · exact .inl e
  rintro l1 h1' ⟨rfl, rfl⟩
  refine seq_step (fun l1 h1 => l1 = [some (.r 0), some (.d (.tuple ns)), some (.d (.int lot)), some (.d a), none] ∧ h1 = o1 :: r) ?_ ?_
  · simp only [w_ite, w_cmp, w_var, w_con, w_pass, w_seq, w_ret, w_tup, w_cons, w_nil, w_call]
    simp [eq_int]
    by_cases e : lot = 1
    · refine .inr ⟨e, (pick_t hT hP (show 2 ≤ j - 1 by omega) fo1 h1 h2 r).imp ?_⟩
      rintro u h' ⟨b, o3, rfl, hb, fo3, rfl⟩
      exact ⟨_, rfl, _, o3, rfl, .inr (.inl ⟨a, ha, b, hb, rfl⟩), fo3, by simp⟩
    · exact .inl e
  rintro l1 h1' ⟨rfl, rfl⟩
  simp only [w_seq, w_ret, w_tup, w_cons, w_nil, w_blt, w_comp, w_walk, w_var, w_con]
  simp
  refine sub_compK hT (show 1 ≤ j - 1 by omega) h2 (by decide) (by decide) (by simp) (k := 0) (fun x => rfl) fo1 ?_
  intro os o3 hs fo3
  simp [tupleB]
  exact ⟨_, rfl, _, o3, rfl, .inr (.inr ⟨a, ha, os, hs, rfl⟩), fo3, by simp⟩
/-! ### how large they are -/
theorem names_gn {cap m s B d : Nat} {x : PyData} (hm : cap ≤ m) (hs : 8 ≤ s) (h : NamesP cap x) : Gn m s B (d + 1) x ∧ wt x ≤ 3 + cap * 84 := by
  obtain ⟨ns, rfl, _, h2, h3, _⟩ := h
  refine ⟨gn_tup.mpr ⟨by omega, fun n hn => name_gn hs (menu_name (h2 n hn))⟩, ?_⟩
  rw [wt_tup]
  have := wtL_le (B := 82) fun n hn => name_wt (menu_name (h2 n hn))
  have := Nat.mul_le_mul_right 84 h3
  omega
theorem sized_ok {cap : Nat} {x : PyData} (h : SizedP cap x) : isSize x = true := by
  obtain ⟨ns, p, g, b, rfl, ⟨_, e, h1, _, _, h4⟩, p1, _, g1, _⟩ := h
  cases e
  show ((isNames (.tuple ns) && !(rowD (.tuple ns)).isEmpty) && (isNumD (.int p) && (geI 1 (.int p) && (isNumD (.int g) && isBoolD (.bool b))))) = true
  rw [h4]
  have h5 : ns.isEmpty = false := by cases ns <;> first | exact absurd rfl h1 | rfl
  show ((true && !ns.isEmpty) && (decide (0 ≤ p) && (decide (1 ≤ p) && (decide (0 ≤ g) && true)))) = true
  rw [h5, decide_eq_true p1, decide_eq_true g1, decide_eq_true (show 0 ≤ p by omega)]
  rfl
theorem sized_gn {cap m s B d : Nat} {x : PyData} (hm : cap ≤ m) (h4 : 4 ≤ m) (hs : 8 ≤ s) (hB : 10 ^ 59 ≤ B) (h : SizedP cap x) : Gn m s B (d + 2) x ∧ wt x ≤ 400 + cap * 84 := by
  obtain ⟨ns, p, g, b, rfl, hn, p1, p2, g1, g2⟩ := h
  obtain ⟨n1, n2⟩ := names_gn (m := m) (s := s) (B := B) (d := d) hm hs hn
  refine ⟨gn_tup.mpr ⟨h4, fun x hx => ?_⟩, ?_⟩
  · simp only [List.mem_cons, List.not_mem_nil, or_false] at hx
    rcases hx with rfl | rfl | rfl | rfl
    · exact n1
    · exact gn_int.mpr (by omega)
    · exact gn_int.mpr (by omega)
    · exact gn_bool
  · rw [wt_tup, wtL_cons, wtL_cons, wtL_cons, wtL_cons, wtL_nil, wt_int, wt_int, wt_bool]
    omega
theorem move_gn {m s B d : Nat} {ns : List PyData} {x : PyData} (hn : ∀ n ∈ ns, isName n = true) (hl : ns.length ≤ m) (h3 : 3 ≤ m) (hs : 8 ≤ s) (h : MoveP ns x) : Gn m s B (d + 2) x ∧ wt x ≤ 300 + ns.length * 84 := by
  have w : ∀ {t : PyData}, t = .str "guess" ∨ t = .str "same" ∨ t = .str "make" → Gn m s B (d + 1) t ∧ wt t ≤ 82 := by
    rintro t (rfl | rfl | rfl)
    · exact ⟨gn_str.mpr ⟨by decide +kernel, Nat.le_trans (by decide +kernel) hs⟩, by decide +kernel⟩
    · exact ⟨gn_str.mpr ⟨by decide +kernel, Nat.le_trans (by decide +kernel) hs⟩, by decide +kernel⟩
    · exact ⟨gn_str.mpr ⟨by decide +kernel, Nat.le_trans (by decide +kernel) hs⟩, by decide +kernel⟩
  rcases h with rfl | ⟨a, ha, b, hb, rfl⟩ | ⟨a, ha, os, ho, rfl⟩
  · refine ⟨gn_tup.mpr ⟨by simp; omega, fun x hx => ?_⟩, ?_⟩
    · have : x = .str "guess" := by simpa using hx
      exact (w (.inl this)).1
    · rw [wt_tup, wtL_cons, wtL_nil]
      have := (w (t := .str "guess") (.inl rfl)).2
      omega
  · refine ⟨gn_tup.mpr ⟨by simp; omega, fun x hx => ?_⟩, ?_⟩
    · simp only [List.mem_cons, List.not_mem_nil, or_false] at hx
      rcases hx with rfl | rfl | rfl
      · exact (w (.inr (.inl rfl))).1
      · exact name_gn hs (hn _ ha)
      · exact name_gn hs (hn _ hb)
    · rw [wt_tup, wtL_cons, wtL_cons, wtL_cons, wtL_nil]
      have := (w (t := .str "same") (.inr (.inl rfl))).2
      have := name_wt (hn _ ha)
      have := name_wt (hn _ hb)
      omega
  · have hos : ∀ n ∈ os, isName n = true := fun n h => hn n (ho.subset h)
    refine ⟨gn_tup.mpr ⟨by simp; omega, fun x hx => ?_⟩, ?_⟩
    · simp only [List.mem_cons, List.not_mem_nil, or_false] at hx
      rcases hx with rfl | rfl | rfl
      · exact (w (.inr (.inr rfl))).1
      · exact name_gn hs (hn _ ha)
      · exact gn_tup.mpr ⟨Nat.le_trans ho.length_le hl, fun n h => name_gn hs (hos n h)⟩
    · rw [wt_tup, wtL_cons, wtL_cons, wtL_cons, wtL_nil, wt_tup]
      have := (w (t := .str "make") (.inr (.inr rfl))).2
      have := name_wt (hn _ ha)
      have := wtL_le (B := 82) fun n h => name_wt (hos n h)
      have := Nat.mul_le_mul_right 84 ho.length_le
      omega
end RB
/-! K01: the law's text described, its code, the checks (printed by gen2.py). -/
namespace RB.K01
open PySem PySem.Spec PyProof.Rows L2 He LamX
def Tp (i : Nat) : Stmt := PySem.Challenge.pw_roomsback_k01_kinds_told.main.body.getD i (.Pass ⟨0, 0, 0, 0⟩)
def inner (i k : Nat) : Stmt := match Tp i with
  | .ClassDef _ _ _ body _ _ _ _ _ _ _ => body.getD k (.Pass ⟨0, 0, 0, 0⟩)
  | _ => .Pass ⟨0, 0, 0, 0⟩
def shp0 : List ((Str × Nat × List Str) × List Bs) := [
  (("is_number", 1, []), [.p 0]),
  (("has_step", 2, []), [.p 0, .p 1]),
  (("_law_pick", 2, []), [.p 0, .p 1]),
  (("_law_feed", 1, []), [.p 0]),
  (("does_ascend", 1, []), [.p 0]),
  (("is_moment", 1, []), [.p 0]),
  (("is_needs", 1, []), [.p 0]),
  (("is_name", 1, []), [.p 0]),
  (("is_names", 1, []), [.p 0]),
  (("is_any_step", 1, []), [.p 0]),
  (("is_size", 1, []), [.p 0]),
  (("_law_draw", 2, []), [.p 0, .p 1]),
  (("_law_needs", 1, []), [.p 0]),
  (("_law_names", 2, []), [.p 0, .p 1]),
  (("_law_is_moment", 1, []), [.p 0])]
def shp1 : List ((Str × Nat × List Str) × List Bs) := [
  (("_law_is_needs", 1, []), [.p 0]),
  (("_law_is_number", 1, []), [.p 0]),
  (("_law_are_names", 1, []), [.p 0]),
  (("_law_is_name", 1, []), [.p 0]),
  (("_law_strange", 1, []), [.p 0]),
  (("_law_is_pair", 1, []), [.p 0]),
  (("_law_is_plan", 1, []), [.p 0]),
  (("is_room", 1, []), [.p 0]),
  (("is_clause", 1, []), [.p 0]),
  (("is_rule", 1, []), [.p 0]),
  (("_law_move", 2, []), [.p 0, .p 1]),
  (("_law_bent", 2, []), [.p 0, .p 1]),
  (("is_name", 0, ["thing"]), [.k 0]),
  (("is_room", 0, ["thing"]), [.k 0]),
  (("is_needs", 0, ["thing"]), [.k 0])]
def shp2 : List ((Str × Nat × List Str) × List Bs) := [
  (("is_clause", 0, ["thing"]), [.k 0]),
  (("is_rule", 0, ["thing"]), [.k 0]),
  (("_law_is_sized", 1, []), [.p 0]),
  (("_law_plan", 2, []), [.p 0, .p 1]),
  (("_law_sized", 2, []), [.p 0, .p 1]),
  (("_law_pair", 1, []), [.p 0]),
  (("is_need", 1, []), [.p 0]),
  (("_law_is_move", 1, []), [.p 0]),
  (("_law_fits", 2, []), [.p 0, .p 1]),
  (("_law_no", 1, []), [.p 0]),
  (("is_size", 0, ["thing"]), [.k 0]),
  (("is_step", 2, []), [.p 0, .p 1]),
  (("is_step", 0, ["thing", "size"]), [.k 1, .k 0]),
  (("_law_told", 1, []), [.p 0]),
  (("_law_due", 1, []), [.p 0])]
def tb : Tbl := Tbl.mk (shp0 ++ shp1 ++ shp2)
  [("LETTERS", (.str "abcdefghijklmnopqrstuvwxyz")), ("MOST_LETTERS", (.int 8)), ("NEEDS", (.tuple [(.str "maker"), (.str "name"), (.str "picture"), (.str "reader")])), ("MOMENTS", (.tuple [(.str "gone"), (.str "left"), (.str "made"), (.str "read"), (.str "right"), (.str "turned")]))]
  ["all", "bool", "int", "isinstance", "len", "list", "range", "repr", "set", "sorted", "str", "tuple", "zip"]
  [("InvalidPaper", "word", "at"), ("NotUsable", "word", "at"), ("InvalidText", "line", "column")]
def d_is_number : Dsc := ⟨Tp 14, "is_number", ["thing"], ["thing"], [], false, [], []⟩
def c_is_number : CS :=
  (.seq (.ret (.and (.isi "int" (.var 0)) (.and (.not (.isi "bool" (.var 0))) (.cmp .GtE (.var 0) (.con (.int 0))))))
  .pass)
def d_does_ascend : Dsc := ⟨Tp 15, "does_ascend", ["things"], ["things", "one", "other"], [], false, [], []⟩
def c_does_ascend : CS :=
  (.seq (.ret (.blt "all" (.cons (.comp (.zip (.cons (.var 0) (.cons (.sl (.var 0) (.so (.con (.int 1))) .no) .nil))) (.t [1, 2]) [1, 2] .no (.cmp .Lt (.var 1) (.var 2))) .nil)))
  .pass)
def d_is_name : Dsc := ⟨Tp 16, "is_name", ["thing"], ["thing", "sign"], [], false, [], []⟩
def c_is_name : CS :=
  (.seq (.ite (.or (.not (.isi "str" (.var 0))) (.not (.chain .LtE .LtE (.con (.int 1)) (.blt "len" (.cons (.var 0) .nil)) (.con (.int 8))))) (.seq (.ret (.con (.bool false)))
  .pass) .pass)
  (.seq (.ret (.blt "all" (.cons (.comp (.walk (.var 0)) (.v 1) [1] .no (.cmp .In (.var 1) (.con (.str "abcdefghijklmnopqrstuvwxyz")))) .nil)))
  .pass))
def d_is_names : Dsc := ⟨Tp 17, "is_names", ["thing"], ["thing", "one"], [], false, [], []⟩
def c_is_names : CS :=
  (.seq (.ret (.and (.isi "tuple" (.var 0)) (.and (.blt "all" (.cons (.comp (.walk (.var 0)) (.v 1) [1] .no (.call "is_name" [.p 0] (.cons (.var 1) .nil) .nil)) .nil)) (.call "does_ascend" [.p 0] (.cons (.var 0) .nil) .nil))))
  .pass)
def d_is_room : Dsc := ⟨Tp 18, "is_room", ["thing"], ["thing"], [], false, [], []⟩
def c_is_room : CS :=
  (.seq (.ret (.call "is_number" [.p 0] (.cons (.var 0) .nil) .nil))
  .pass)
def d_is_need : Dsc := ⟨Tp 19, "is_need", ["thing"], ["thing"], [], false, [], []⟩
def c_is_need : CS :=
  (.seq (.ret (.and (.isi "str" (.var 0)) (.cmp .In (.var 0) (.con (.tuple [(.str "maker"), (.str "name"), (.str "picture"), (.str "reader")])))))
  .pass)
def d_is_moment : Dsc := ⟨Tp 20, "is_moment", ["thing"], ["thing"], [], false, [], []⟩
def c_is_moment : CS :=
  (.seq (.ret (.and (.isi "str" (.var 0)) (.cmp .In (.var 0) (.con (.tuple [(.str "gone"), (.str "left"), (.str "made"), (.str "read"), (.str "right"), (.str "turned")])))))
  .pass)
def d_is_needs : Dsc := ⟨Tp 21, "is_needs", ["thing"], ["thing", "one"], [], false, [], []⟩
def c_is_needs : CS :=
  (.seq (.ret (.and (.isi "tuple" (.var 0)) (.and (.blt "all" (.cons (.comp (.walk (.var 0)) (.v 1) [1] .no (.call "is_need" [.p 0] (.cons (.var 1) .nil) .nil)) .nil)) (.call "does_ascend" [.p 0] (.cons (.var 0) .nil) .nil))))
  .pass)
def d_is_clause : Dsc := ⟨Tp 22, "is_clause", ["thing"], ["thing"], [], false, [], []⟩
def c_is_clause : CS :=
  (.seq (.ret (.and (.isi "tuple" (.var 0)) (.and (.cmp .Eq (.blt "len" (.cons (.var 0) .nil)) (.con (.int 2))) (.and (.call "is_moment" [.p 0] (.cons (.ix (.var 0) (.con (.int 0))) .nil) .nil) (.call "is_needs" [.p 0] (.cons (.ix (.var 0) (.con (.int 1))) .nil) .nil)))))
  .pass)
def d_is_rule : Dsc := ⟨Tp 23, "is_rule", ["thing"], ["thing", "one"], [], false, [], []⟩
def c_is_rule : CS :=
  (.seq (.ret (.and (.isi "tuple" (.var 0)) (.and (.blt "all" (.cons (.comp (.walk (.var 0)) (.v 1) [1] .no (.call "is_clause" [.p 0] (.cons (.var 1) .nil) .nil)) .nil)) (.call "does_ascend" [.p 0] (.cons (.var 0) .nil) .nil))))
  .pass)
def d_is_size : Dsc := ⟨Tp 24, "is_size", ["thing"], ["thing"], [], false, [], []⟩
def c_is_size : CS :=
  (.seq (.ite (.or (.not (.isi "tuple" (.var 0))) (.or (.cmp .NotEq (.blt "len" (.cons (.var 0) .nil)) (.con (.int 4))) (.or (.not (.call "is_names" [.p 0] (.cons (.ix (.var 0) (.con (.int 0))) .nil) .nil)) (.cmp .Eq (.blt "len" (.cons (.ix (.var 0) (.con (.int 0))) .nil)) (.con (.int 0)))))) (.seq (.ret (.con (.bool false)))
  .pass) .pass)
  (.seq (.ret (.and (.call "is_number" [.p 0] (.cons (.ix (.var 0) (.con (.int 1))) .nil) .nil) (.and (.cmp .GtE (.ix (.var 0) (.con (.int 1))) (.con (.int 1))) (.and (.call "is_number" [.p 0] (.cons (.ix (.var 0) (.con (.int 2))) .nil) .nil) (.isi "bool" (.ix (.var 0) (.con (.int 3))))))))
  .pass))
def d_is_any_step : Dsc := ⟨Tp 25, "is_any_step", ["thing"], ["thing"], [], false, [], []⟩
def c_is_any_step : CS :=
  (.seq (.ite (.or (.not (.isi "tuple" (.var 0))) (.or (.cmp .NotIn (.blt "len" (.cons (.var 0) .nil)) (.tup (.cons (.con (.int 1)) (.cons (.con (.int 3)) .nil)))) (.not (.isi "str" (.ix (.var 0) (.con (.int 0))))))) (.seq (.ret (.con (.bool false)))
  .pass) .pass)
  (.seq (.ite (.cmp .Eq (.blt "len" (.cons (.var 0) .nil)) (.con (.int 1))) (.seq (.ret (.cmp .Eq (.ix (.var 0) (.con (.int 0))) (.con (.str "guess"))))
  .pass) .pass)
  (.seq (.ite (.not (.call "is_name" [.p 0] (.cons (.ix (.var 0) (.con (.int 1))) .nil) .nil)) (.seq (.ret (.con (.bool false)))
  .pass) .pass)
  (.seq (.ite (.cmp .Eq (.ix (.var 0) (.con (.int 0))) (.con (.str "make"))) (.seq (.ret (.call "is_names" [.p 0] (.cons (.ix (.var 0) (.con (.int 2))) .nil) .nil))
  .pass) .pass)
  (.seq (.ret (.and (.cmp .Eq (.ix (.var 0) (.con (.int 0))) (.con (.str "same"))) (.and (.call "is_name" [.p 0] (.cons (.ix (.var 0) (.con (.int 2))) .nil) .nil) (.cmp .NotEq (.ix (.var 0) (.con (.int 1))) (.ix (.var 0) (.con (.int 2)))))))
  .pass)))))
def d_has_step : Dsc := ⟨Tp 26, "has_step", ["size", "thing"], ["size", "thing", "names", "places", "guesses", "copies", "others", "is_known", "one"], [], false, [], []⟩
def c_has_step : CS :=
  (.seq (.ite (.not (.call "is_any_step" [.p 0] (.cons (.var 1) .nil) .nil)) (.seq (.ret (.con (.bool false)))
  .pass) .pass)
  (.seq (.asg (.t [2, 3, 4, 5]) (.var 0))
  (.seq (.ite (.cmp .Eq (.ix (.var 1) (.con (.int 0))) (.con (.str "guess"))) (.seq (.ret (.cmp .GtE (.var 4) (.con (.int 1))))
  .pass) .pass)
  (.seq (.asg (.v 6) (.ifx (.cmp .Eq (.ix (.var 1) (.con (.int 0))) (.con (.str "make"))) (.ix (.var 1) (.con (.int 2))) (.tup (.cons (.ix (.var 1) (.con (.int 2))) .nil))))
  (.seq (.asg (.v 7) (.and (.cmp .In (.ix (.var 1) (.con (.int 1))) (.var 2)) (.blt "all" (.cons (.comp (.walk (.var 6)) (.v 8) [8] .no (.cmp .In (.var 8) (.var 2))) .nil))))
  (.seq (.ret (.and (.var 7) (.or (.cmp .Eq (.ix (.var 1) (.con (.int 0))) (.con (.str "make"))) (.var 5))))
  .pass))))))
def d_is_step : Dsc := ⟨Tp 27, "is_step", ["size", "thing"], ["size", "thing"], [], false, [], []⟩
def c_is_step : CS :=
  (.seq (.ite (.not (.call "is_size" [.p 0] (.cons (.var 0) .nil) .nil)) (.seq (.raise "NotUsable" "word" "at" (.cons (.con (.str "size")) (.cons (.neg (.con (.int 1))) .nil)))
  .pass) .pass)
  (.seq (.ret (.call "has_step" [.p 0, .p 1] (.cons (.var 0) (.cons (.var 1) .nil)) .nil))
  .pass))
def d_law_feed : Dsc := ⟨Tp 29, "_law_feed", ["_law_script"], ["_law_script", "_law_cell"], [], false, [], []⟩
def c_law_feed : CS :=
  (.seq (.ret (.dct ["cells", "spot", "left", "turns"] (.cons (.comp (.walk (.sl (.var 0) .no (.so (.con (.int 63))))) (.v 1) [1] .no (.blt "int" (.cons (.var 1) .nil))) (.cons (.con (.int 0)) (.cons (.con (.int 0)) (.cons (.con (.int 0)) .nil))))))
  .pass)
def d_law_draw : Dsc := ⟨Tp 30, "_law_draw", ["_law_feed_here", "_law_bound"], ["_law_feed_here", "_law_bound", "_law_digit", "_law_cells", "_law_spot", "_law_cell", "_law_mixed"], [], false, [], []⟩
def c_law_draw : CS :=
  (.seq (.put (.var 0) (.con (.str "turns")) (.bin .Add (.dget (.var 0) (.con (.str "turns"))) (.con (.int 1))))
  (.seq (.ite (.cmp .Gt (.dget (.var 0) (.con (.str "left"))) (.con (.int 0))) (.seq (.asg (.v 2) (.bin .Mod (.blt "int" (.cons (.dget (.var 0) (.con (.str "left"))) .nil)) (.var 1)))
  (.seq (.put (.var 0) (.con (.str "left")) (.bin .FloorDiv (.dget (.var 0) (.con (.str "left"))) (.var 1)))
  (.seq (.ret (.var 2))
  .pass))) .pass)
  (.seq (.par 3 4 (.cons (.dget (.var 0) (.con (.str "cells"))) (.cons (.dget (.var 0) (.con (.str "spot"))) .nil)))
  (.seq (.put (.var 0) (.con (.str "spot")) (.bin .Add (.var 4) (.con (.int 1))))
  (.seq (.asg (.v 5) (.ifx (.cmp .NotEq (.var 3) (.lst .nil)) (.ix (.var 3) (.bin .Mod (.blt "int" (.cons (.var 4) .nil)) (.blt "len" (.cons (.var 3) .nil)))) (.con (.int 98001))))
  (.seq (.ite (.and (.cmp .GtE (.var 5) (.bin .Pow (.con (.int 10)) (.con (.int 18)))) (.cmp .Lt (.var 4) (.blt "len" (.cons (.var 3) .nil)))) (.seq (.put (.var 0) (.con (.str "left")) (.bin .FloorDiv (.var 5) (.var 1)))
  (.seq (.ret (.bin .Mod (.blt "int" (.cons (.var 5) .nil)) (.var 1)))
  .pass)) .pass)
  (.seq (.asg (.v 6) (.bin .Mod (.blt "int" (.cons (.bin .Add (.bin .Add (.bin .Mult (.bin .Mod (.blt "int" (.cons (.var 5) .nil)) (.con (.int 1000000409))) (.con (.int 2311))) (.bin .Mult (.con (.int 92821)) (.dget (.var 0) (.con (.str "turns"))))) (.con (.int 42))) .nil)) (.con (.int 2147483629))))
  (.seq (.asg (.v 6) (.bin .Mod (.blt "int" (.cons (.bin .Add (.bin .Add (.bin .Mult (.var 6) (.var 6)) (.bin .Mult (.con (.int 6311)) (.dget (.var 0) (.con (.str "turns"))))) (.con (.int 89))) .nil)) (.con (.int 2147483587))))
  (.seq (.ret (.bin .Mod (.blt "int" (.cons (.bin .FloorDiv (.bin .Mod (.blt "int" (.cons (.bin .Add (.bin .Mult (.var 6) (.var 6)) (.bin .Mult (.con (.int 389)) (.var 6))) .nil)) (.con (.int 2147483563))) (.con (.int 64))) .nil)) (.var 1)))
  .pass)))))))))
def d_law_pick : Dsc := ⟨Tp 31, "_law_pick", ["_law_feed_here", "_law_some"], ["_law_feed_here", "_law_some"], [], false, [], []⟩
def c_law_pick : CS :=
  (.seq (.ret (.ix (.var 1) (.call "_law_draw" [.p 0, .p 1] (.cons (.var 0) (.cons (.blt "len" (.cons (.var 1) .nil)) .nil)) .nil)))
  .pass)
def d_law_needs : Dsc := ⟨Tp 32, "_law_needs", ["_law_feed_here"], ["_law_feed_here", "_law_need_now"], [], false, [], []⟩
def c_law_needs : CS :=
  (.seq (.ret (.blt "tuple" (.cons (.comp (.walk (.lst (.cons (.con (.str "maker")) (.cons (.con (.str "name")) (.cons (.con (.str "picture")) (.cons (.con (.str "reader")) .nil)))))) (.v 1) [1] (.so (.cmp .Eq (.call "_law_draw" [.p 0, .p 1] (.cons (.var 0) (.cons (.con (.int 2)) .nil)) .nil) (.con (.int 0)))) (.var 1)) .nil)))
  .pass)
def d_law_pair : Dsc := ⟨Tp 33, "_law_pair", ["_law_feed_here"], ["_law_feed_here"], [], false, [], []⟩
def c_law_pair : CS :=
  (.seq (.ret (.tup (.cons (.call "_law_pick" [.p 0, .p 1] (.cons (.var 0) (.cons (.lst (.cons (.con (.str "gone")) (.cons (.con (.str "left")) (.cons (.con (.str "made")) (.cons (.con (.str "read")) (.cons (.con (.str "right")) (.cons (.con (.str "turned")) .nil))))))) .nil)) .nil) (.cons (.call "_law_needs" [.p 0] (.cons (.var 0) .nil) .nil) .nil))))
  .pass)
def d_law_plan : Dsc := ⟨Tp 34, "_law_plan", ["_law_feed_here", "_law_cap"], ["_law_feed_here", "_law_cap", "_law_lap"], [], false, [], []⟩
def c_law_plan : CS :=
  (.seq (.ret (.blt "tuple" (.cons (.srt (.cons (.comp (.range (.cons (.call "_law_draw" [.p 0, .p 1] (.cons (.var 0) (.cons (.bin .Add (.var 1) (.con (.int 1))) .nil)) .nil) .nil)) (.v 2) [2] .no (.call "_law_pair" [.p 0] (.cons (.var 0) .nil) .nil)) .nil)) .nil)))
  .pass)
def d_law_names : Dsc := ⟨Tp 35, "_law_names", ["_law_feed_here", "_law_cap"], ["_law_feed_here", "_law_cap", "_law_menu", "_law_lap"], ["_law_menu"], false, [], []⟩
def c_law_names : CS :=
  (.seq (.asg (.v 2) (.mls (.cons (.con (.str "a")) (.cons (.con (.str "b")) (.cons (.con (.str "ab")) (.cons (.con (.str "aa")) (.cons (.con (.str "make")) (.cons (.con (.str "of")) (.cons (.con (.str "same")) (.cons (.con (.str "guess")) (.cons (.con (.str "copies")) (.cons (.con (.str "zzzzzzzz")) (.cons (.con (.str "zzzzzzzy")) (.cons (.con (.str "abcdefgh")) (.cons (.con (.str "x")) .nil)))))))))))))))
  (.seq (.expr (.app (.var 2) (.cons (.con (.str "no")) .nil)))
  (.seq (.ret (.blt "tuple" (.cons (.srt (.cons (.comp (.range (.cons (.bin .Add (.con (.int 1)) (.call "_law_draw" [.p 0, .p 1] (.cons (.var 0) (.cons (.var 1) .nil)) .nil)) .nil)) (.v 3) [3] .no (.call "_law_pick" [.p 0, .p 1] (.cons (.var 0) (.cons (.var 2) .nil)) .nil)) .nil)) .nil)))
  .pass)))
def d_law_sized : Dsc := ⟨Tp 36, "_law_sized", ["_law_feed_here", "_law_cap"], ["_law_feed_here", "_law_cap", "_law_great"], [], false, [], []⟩
def c_law_sized : CS :=
  (.seq (.asg (.v 2) (.call "_law_pick" [.p 0, .p 1] (.cons (.var 0) (.cons (.lst (.cons (.con (.int 1)) (.cons (.con (.int 1)) (.cons (.con (.int 2)) (.cons (.con (.int 3)) (.cons (.con (.int 4)) (.cons (.con (.int 10)) (.cons (.bin .Pow (.con (.int 10)) (.con (.int 59))) .nil)))))))) .nil)) .nil))
  (.seq (.ret (.tup (.cons (.call "_law_names" [.p 0, .p 1] (.cons (.var 0) (.cons (.var 1) .nil)) .nil) (.cons (.var 2) (.cons (.call "_law_pick" [.p 0, .p 1] (.cons (.var 0) (.cons (.lst (.cons (.con (.int 0)) (.cons (.con (.int 0)) (.cons (.con (.int 1)) (.cons (.con (.int 2)) (.cons (.con (.int 12)) (.cons (.bin .Pow (.con (.int 10)) (.con (.int 59))) .nil))))))) .nil)) .nil) (.cons (.cmp .Eq (.call "_law_draw" [.p 0, .p 1] (.cons (.var 0) (.cons (.con (.int 2)) .nil)) .nil) (.con (.int 0))) .nil))))))
  .pass))
def d_law_is_number : Dsc := ⟨Tp 37, "_law_is_number", ["_law_item"], ["_law_item"], [], false, [], []⟩
def c_law_is_number : CS :=
  (.seq (.ret (.and (.isi "int" (.var 0)) (.and (.not (.isi "bool" (.var 0))) (.cmp .GtE (.var 0) (.con (.int 0))))))
  .pass)
def d_law_is_name : Dsc := ⟨Tp 38, "_law_is_name", ["_law_item"], ["_law_item", "_law_sign"], [], false, [], []⟩
def c_law_is_name : CS :=
  (.seq (.ite (.or (.not (.isi "str" (.var 0))) (.not (.chain .LtE .LtE (.con (.int 1)) (.blt "len" (.cons (.var 0) .nil)) (.con (.int 8))))) (.seq (.ret (.con (.bool false)))
  .pass) .pass)
  (.seq (.ret (.cmp .Eq (.comp (.walk (.var 0)) (.v 1) [1] (.so (.cmp .NotIn (.var 1) (.con (.str "abcdefghijklmnopqrstuvwxyz")))) (.var 1)) (.lst .nil)))
  .pass))
def d_law_is_needs : Dsc := ⟨Tp 39, "_law_is_needs", ["_law_item"], ["_law_item", "_law_known", "_law_one"], [], false, [], []⟩
def c_law_is_needs : CS :=
  (.seq (.ite (.or (.not (.isi "tuple" (.var 0))) (.cmp .NotEq (.comp (.walk (.var 0)) (.v 2) [2] (.so (.not (.isi "str" (.var 2)))) (.var 2)) (.lst .nil))) (.seq (.ret (.con (.bool false)))
  .pass) .pass)
  (.seq (.asg (.v 1) (.lst (.cons (.con (.str "maker")) (.cons (.con (.str "name")) (.cons (.con (.str "picture")) (.cons (.con (.str "reader")) .nil))))))
  (.seq (.ret (.cmp .Eq (.comp (.walk (.var 1)) (.v 2) [2] (.so (.cmp .In (.var 2) (.var 0))) (.var 2)) (.blt "list" (.cons (.var 0) .nil))))
  .pass)))
def d_law_is_moment : Dsc := ⟨Tp 40, "_law_is_moment", ["_law_item"], ["_law_item"], [], false, [], []⟩
def c_law_is_moment : CS :=
  (.seq (.ret (.and (.isi "str" (.var 0)) (.cmp .In (.var 0) (.lst (.cons (.con (.str "gone")) (.cons (.con (.str "left")) (.cons (.con (.str "made")) (.cons (.con (.str "read")) (.cons (.con (.str "right")) (.cons (.con (.str "turned")) .nil))))))))))
  .pass)
def d_law_is_pair : Dsc := ⟨Tp 41, "_law_is_pair", ["_law_item"], ["_law_item"], [], false, [], []⟩
def c_law_is_pair : CS :=
  (.seq (.ret (.and (.isi "tuple" (.var 0)) (.and (.cmp .Eq (.blt "len" (.cons (.var 0) .nil)) (.con (.int 2))) (.and (.call "_law_is_moment" [.p 0] (.cons (.ix (.var 0) (.con (.int 0))) .nil) .nil) (.call "_law_is_needs" [.p 0] (.cons (.ix (.var 0) (.con (.int 1))) .nil) .nil)))))
  .pass)
def d_law_is_plan : Dsc := ⟨Tp 42, "_law_is_plan", ["_law_item"], ["_law_item", "_law_one"], [], false, [], []⟩
def c_law_is_plan : CS :=
  (.seq (.ite (.or (.not (.isi "tuple" (.var 0))) (.cmp .NotEq (.comp (.walk (.var 0)) (.v 1) [1] (.so (.not (.call "_law_is_pair" [.p 0] (.cons (.var 1) .nil) .nil))) (.var 1)) (.lst .nil))) (.seq (.ret (.con (.bool false)))
  .pass) .pass)
  (.seq (.ret (.cmp .Eq (.blt "list" (.cons (.var 0) .nil)) (.srt (.cons (.var 0) .nil))))
  .pass))
def d_law_are_names : Dsc := ⟨Tp 43, "_law_are_names", ["_law_item"], ["_law_item", "_law_one"], [], false, [], []⟩
def c_law_are_names : CS :=
  (.seq (.ite (.or (.not (.isi "tuple" (.var 0))) (.cmp .NotEq (.comp (.walk (.var 0)) (.v 1) [1] (.so (.not (.call "_law_is_name" [.p 0] (.cons (.var 1) .nil) .nil))) (.var 1)) (.lst .nil))) (.seq (.ret (.con (.bool false)))
  .pass) .pass)
  (.seq (.ret (.cmp .Eq (.blt "list" (.cons (.var 0) .nil)) (.srt (.cons (.var 0) .nil))))
  .pass))
def d_law_is_sized : Dsc := ⟨Tp 44, "_law_is_sized", ["_law_item"], ["_law_item"], [], false, [], []⟩
def c_law_is_sized : CS :=
  (.seq (.ite (.or (.not (.isi "tuple" (.var 0))) (.or (.cmp .NotEq (.blt "len" (.cons (.var 0) .nil)) (.con (.int 4))) (.or (.not (.call "_law_are_names" [.p 0] (.cons (.ix (.var 0) (.con (.int 0))) .nil) .nil)) (.cmp .Eq (.blt "len" (.cons (.ix (.var 0) (.con (.int 0))) .nil)) (.con (.int 0)))))) (.seq (.ret (.con (.bool false)))
  .pass) .pass)
  (.seq (.ret (.and (.call "_law_is_number" [.p 0] (.cons (.ix (.var 0) (.con (.int 1))) .nil) .nil) (.and (.cmp .GtE (.ix (.var 0) (.con (.int 1))) (.con (.int 1))) (.and (.call "_law_is_number" [.p 0] (.cons (.ix (.var 0) (.con (.int 2))) .nil) .nil) (.isi "bool" (.ix (.var 0) (.con (.int 3))))))))
  .pass))
def d_law_is_move : Dsc := ⟨Tp 45, "_law_is_move", ["_law_item"], ["_law_item"], [], false, [], []⟩
def c_law_is_move : CS :=
  (.seq (.ite (.or (.not (.isi "tuple" (.var 0))) (.or (.cmp .Eq (.blt "len" (.cons (.var 0) .nil)) (.con (.int 0))) (.not (.isi "str" (.ix (.var 0) (.con (.int 0))))))) (.seq (.ret (.con (.bool false)))
  .pass) .pass)
  (.seq (.ite (.cmp .Eq (.ix (.var 0) (.con (.int 0))) (.con (.str "guess"))) (.seq (.ret (.cmp .Eq (.blt "len" (.cons (.var 0) .nil)) (.con (.int 1))))
  .pass) .pass)
  (.seq (.ite (.or (.cmp .NotEq (.blt "len" (.cons (.var 0) .nil)) (.con (.int 3))) (.not (.call "_law_is_name" [.p 0] (.cons (.ix (.var 0) (.con (.int 1))) .nil) .nil))) (.seq (.ret (.con (.bool false)))
  .pass) .pass)
  (.seq (.ite (.cmp .Eq (.ix (.var 0) (.con (.int 0))) (.con (.str "make"))) (.seq (.ret (.call "_law_are_names" [.p 0] (.cons (.ix (.var 0) (.con (.int 2))) .nil) .nil))
  .pass) .pass)
  (.seq (.ret (.and (.cmp .Eq (.ix (.var 0) (.con (.int 0))) (.con (.str "same"))) (.and (.call "_law_is_name" [.p 0] (.cons (.ix (.var 0) (.con (.int 2))) .nil) .nil) (.cmp .NotEq (.ix (.var 0) (.con (.int 1))) (.ix (.var 0) (.con (.int 2)))))))
  .pass)))))
def d_law_fits : Dsc := ⟨Tp 46, "_law_fits", ["_law_plan_here", "_law_item"], ["_law_plan_here", "_law_item", "_law_one"], [], false, [], []⟩
def c_law_fits : CS :=
  (.seq (.ite (.cmp .Eq (.ix (.var 1) (.con (.int 0))) (.con (.str "guess"))) (.seq (.ret (.cmp .GtE (.ix (.var 0) (.con (.int 2))) (.con (.int 1))))
  .pass) .pass)
  (.seq (.ite (.cmp .Eq (.ix (.var 1) (.con (.int 0))) (.con (.str "same"))) (.seq (.ret (.and (.ix (.var 0) (.con (.int 3))) (.and (.cmp .In (.ix (.var 1) (.con (.int 1))) (.ix (.var 0) (.con (.int 0)))) (.cmp .In (.ix (.var 1) (.con (.int 2))) (.ix (.var 0) (.con (.int 0)))))))
  .pass) .pass)
  (.seq (.ret (.and (.cmp .In (.ix (.var 1) (.con (.int 1))) (.ix (.var 0) (.con (.int 0)))) (.cmp .Eq (.comp (.walk (.ix (.var 1) (.con (.int 2)))) (.v 2) [2] (.so (.cmp .NotIn (.var 2) (.ix (.var 0) (.con (.int 0))))) (.var 2)) (.lst .nil))))
  .pass)))
def d_law_strange : Dsc := ⟨Tp 47, "_law_strange", ["_law_feed_here"], ["_law_feed_here", "_law_some"], ["_law_some"], false, [], []⟩
def c_law_strange : CS :=
  (.seq (.asg (.v 1) (.mls (.cons (.con .none) (.cons (.con (.bool true)) (.cons (.con (.bool false)) (.cons (.neg (.con (.int 1))) (.cons (.con (.int 0)) (.cons (.con (.int 1)) (.cons (.con (.int 7)) (.cons (.bin .Pow (.con (.int 10)) (.con (.int 59))) (.cons (.con (.str "")) (.cons (.con (.str "a")) (.cons (.con (.str "abcdefgh")) (.cons (.con (.str "abcdefghi")) (.cons (.con (.str "A")) (.cons (.con (.str "a b")) (.cons (.con (.str "name")) (.cons (.con (.str "left")) .nil))))))))))))))))))
  (.seq (.expr (.ext (.var 1) (.cons (.tup .nil) (.cons (.lst .nil) (.cons (.tup (.cons (.con (.str "name")) .nil)) (.cons (.lst (.cons (.con (.str "name")) .nil)) (.cons (.tup (.cons (.con (.str "reader")) (.cons (.con (.str "name")) .nil))) (.cons (.tup (.cons (.con (.str "name")) (.cons (.con (.str "name")) .nil))) (.cons (.tup (.cons (.con (.str "name")) (.cons (.con (.str "left")) .nil))) (.cons (.tup (.cons (.con (.str "left")) (.cons (.tup .nil) .nil))) .nil))))))))))
  (.seq (.expr (.ext (.var 1) (.cons (.tup (.cons (.con (.str "left")) (.cons (.lst .nil) .nil))) (.cons (.lst (.cons (.con (.str "left")) (.cons (.tup .nil) .nil))) (.cons (.tup (.cons (.con (.str "left")) .nil)) (.cons (.tup (.cons (.con (.str "left")) (.cons (.tup .nil) (.cons (.tup .nil) .nil)))) (.cons (.tup (.cons (.con (.str "Left")) (.cons (.tup .nil) .nil))) (.cons (.tup (.cons (.con (.str "name")) (.cons (.tup .nil) .nil))) (.cons (.con (.str "reader")) .nil)))))))))
  (.seq (.expr (.ext (.var 1) (.cons (.tup (.cons (.con (.str "left")) (.cons (.tup (.cons (.con (.str "reader")) (.cons (.con (.str "name")) .nil))) .nil))) (.cons (.tup (.cons (.tup (.cons (.con (.str "left")) (.cons (.tup .nil) .nil))) .nil)) (.cons (.tup (.cons (.tup (.cons (.con (.str "left")) (.cons (.tup .nil) .nil))) (.cons (.tup (.cons (.con (.str "gone")) (.cons (.tup .nil) .nil))) .nil))) (.cons (.lst (.cons (.tup (.cons (.con (.str "left")) (.cons (.tup .nil) .nil))) .nil)) .nil))))))
  (.seq (.expr (.ext (.var 1) (.cons (.tup (.cons (.con (.str "guess")) .nil)) (.cons (.tup (.cons (.con (.str "guess")) (.cons (.con (.int 1)) .nil))) (.cons (.tup (.cons (.con (.str "make")) (.cons (.con (.str "a")) .nil))) (.cons (.tup (.cons (.con (.str "make")) (.cons (.con (.str "a")) (.cons (.tup .nil) .nil)))) (.cons (.tup (.cons (.con (.str "make")) (.cons (.con (.str "a")) (.cons (.tup (.cons (.con (.str "b")) (.cons (.con (.str "a")) .nil))) .nil)))) (.cons (.con (.str "turned")) .nil))))))))
  (.seq (.expr (.ext (.var 1) (.cons (.tup (.cons (.con (.str "make")) (.cons (.con (.str "a")) (.cons (.lst (.cons (.con (.str "a")) .nil)) .nil)))) (.cons (.tup (.cons (.con (.str "same")) (.cons (.con (.str "a")) (.cons (.con (.str "b")) .nil)))) (.cons (.tup (.cons (.con (.str "same")) (.cons (.con (.str "a")) (.cons (.con (.str "a")) .nil)))) (.cons (.tup (.cons (.con (.str "same")) (.cons (.con (.str "a")) (.cons (.tup (.cons (.con (.str "b")) .nil)) .nil)))) (.cons (.tup (.cons (.con (.str "left")) (.cons (.con (.str "name")) .nil))) .nil)))))))
  (.seq (.expr (.ext (.var 1) (.cons (.tup (.cons (.con (.str "make")) (.cons (.con (.str "A")) (.cons (.tup .nil) .nil)))) (.cons (.tup (.cons (.tup (.cons (.con (.str "a")) .nil)) (.cons (.con (.int 1)) (.cons (.con (.int 0)) (.cons (.con (.bool false)) .nil))))) (.cons (.tup (.cons (.tup (.cons (.con (.str "a")) .nil)) (.cons (.con (.int 0)) (.cons (.con (.int 0)) (.cons (.con (.bool false)) .nil))))) (.cons (.tup (.cons (.tup (.cons (.con (.str "a")) .nil)) (.cons (.con (.int 1)) (.cons (.neg (.con (.int 1))) (.cons (.con (.bool true)) .nil))))) .nil))))))
  (.seq (.expr (.ext (.var 1) (.cons (.tup (.cons (.tup (.cons (.con (.str "a")) .nil)) (.cons (.con (.int 1)) (.cons (.con (.int 0)) (.cons (.con (.int 0)) .nil))))) (.cons (.tup (.cons (.tup .nil) (.cons (.con (.int 1)) (.cons (.con (.int 0)) (.cons (.con (.bool true)) .nil))))) (.cons (.tup (.cons (.lst (.cons (.con (.str "a")) .nil)) (.cons (.con (.int 1)) (.cons (.con (.int 0)) (.cons (.con (.bool true)) .nil))))) (.cons (.tup (.cons (.tup (.cons (.con (.str "b")) (.cons (.con (.str "a")) .nil))) (.cons (.con (.int 1)) (.cons (.con (.int 0)) (.cons (.con (.bool true)) .nil))))) .nil))))))
  (.seq (.expr (.ext (.var 1) (.cons (.tup (.cons (.tup (.cons (.con (.str "a")) .nil)) (.cons (.con (.bool true)) (.cons (.con (.int 0)) (.cons (.con (.bool true)) .nil))))) (.cons (.tup (.cons (.tup (.cons (.con (.str "a")) .nil)) (.cons (.con (.int 1)) (.cons (.con (.int 0)) .nil)))) (.cons (.tup (.cons (.con (.str "turned")) (.cons (.tup (.cons (.con (.str "maker")) .nil)) .nil))) .nil)))))
  (.seq (.ret (.call "_law_pick" [.p 0, .p 1] (.cons (.var 0) (.cons (.var 1) .nil)) .nil))
  .pass))))))))))
def d_law_bent : Dsc := ⟨Tp 48, "_law_bent", ["_law_feed_here", "_law_item"], ["_law_feed_here", "_law_item", "_law_k", "_law_lot", "_law_strange_here"], [], false, [], []⟩
def c_law_bent : CS :=
  (.seq (.ite (.and (.isi "tuple" (.var 1)) (.and (.cmp .Gt (.blt "len" (.cons (.var 1) .nil)) (.con (.int 0))) (.cmp .Gt (.call "_law_draw" [.p 0, .p 1] (.cons (.var 0) (.cons (.con (.int 5)) .nil)) .nil) (.con (.int 0))))) (.seq (.asg (.v 2) (.call "_law_draw" [.p 0, .p 1] (.cons (.var 0) (.cons (.blt "len" (.cons (.var 1) .nil)) .nil)) .nil))
  (.seq (.ret (.bin .Add (.bin .Add (.sl (.var 1) .no (.so (.var 2))) (.tup (.cons (.call "_law_bent" [.p 0, .p 1] (.cons (.var 0) (.cons (.ix (.var 1) (.var 2)) .nil)) .nil) .nil))) (.sl (.var 1) (.so (.bin .Add (.var 2) (.con (.int 1)))) .no)))
  .pass)) .pass)
  (.seq (.par 3 4 (.cons (.call "_law_draw" [.p 0, .p 1] (.cons (.var 0) (.cons (.con (.int 7)) .nil)) .nil) (.cons (.call "_law_strange" [.p 0] (.cons (.var 0) .nil) .nil) .nil)))
  (.seq (.ite (.and (.isi "tuple" (.var 1)) (.cmp .Lt (.var 3) (.con (.int 6)))) (.seq (.asg (.v 2) (.call "_law_draw" [.p 0, .p 1] (.cons (.var 0) (.cons (.bin .Add (.blt "len" (.cons (.var 1) .nil)) (.con (.int 1))) .nil)) .nil))
  (.seq (.ite (.cmp .Eq (.var 3) (.con (.int 0))) (.seq (.ret (.blt "list" (.cons (.var 1) .nil)))
  .pass) .pass)
  (.seq (.ite (.cmp .Eq (.var 3) (.con (.int 1))) (.seq (.ret (.bin .Add (.sl (.var 1) .no (.so (.var 2))) (.sl (.var 1) (.so (.bin .Add (.var 2) (.con (.int 1)))) .no)))
  .pass) .pass)
  (.seq (.ite (.cmp .Eq (.var 3) (.con (.int 2))) (.seq (.ret (.bin .Add (.bin .Add (.sl (.var 1) .no (.so (.var 2))) (.sl (.var 1) (.so (.var 2)) (.so (.bin .Add (.var 2) (.con (.int 1)))))) (.sl (.var 1) (.so (.var 2)) .no)))
  .pass) .pass)
  (.seq (.ret (.ifx (.cmp .Lt (.var 3) (.con (.int 5))) (.bin .Add (.bin .Add (.sl (.var 1) .no (.so (.var 2))) (.tup (.cons (.var 4) .nil))) (.sl (.var 1) (.so (.var 2)) .no)) (.rev (.var 1))))
  .pass))))) .pass)
  (.seq (.ite (.and (.isi "str" (.var 1)) (.cmp .Lt (.var 3) (.con (.int 3)))) (.seq (.asg (.v 2) (.call "_law_draw" [.p 0, .p 1] (.cons (.var 0) (.cons (.bin .Add (.blt "len" (.cons (.var 1) .nil)) (.con (.int 1))) .nil)) .nil))
  (.seq (.ret (.bin .Add (.bin .Add (.sl (.var 1) .no (.so (.var 2))) (.call "_law_pick" [.p 0, .p 1] (.cons (.var 0) (.cons (.lst (.cons (.con (.str "a")) (.cons (.con (.str "A")) (.cons (.con (.str "")) (.cons (.con (.str " ")) (.cons (.con (.str "z")) (.cons (.con (.str "0")) .nil))))))) .nil)) .nil)) (.sl (.var 1) (.so (.bin .Add (.var 2) (.blt "int" (.cons (.cmp .Gt (.var 3) (.con (.int 1))) .nil)))) .no)))
  .pass)) .pass)
  (.seq (.ite (.and (.isi "str" (.var 1)) (.cmp .Lt (.var 3) (.con (.int 6)))) (.seq (.ret (.call "_law_pick" [.p 0, .p 1] (.cons (.var 0) (.cons (.lst (.cons (.con (.str "gone")) (.cons (.con (.str "read")) (.cons (.con (.str "turned")) (.cons (.con (.str "maker")) (.cons (.con (.str "picture")) (.cons (.con (.str "made")) .nil))))))) .nil)) .nil))
  .pass) .pass)
  (.seq (.ite (.and (.call "_law_is_number" [.p 0] (.cons (.var 1) .nil) .nil) (.cmp .Lt (.var 3) (.con (.int 5)))) (.seq (.ret (.ix (.lst (.cons (.bin .Add (.var 1) (.con (.int 1))) (.cons (.bin .Sub (.var 1) (.con (.int 1))) (.cons (.neg (.var 1)) (.cons (.cmp .Eq (.var 1) (.con (.int 1))) (.cons (.blt "str" (.cons (.var 1) .nil)) .nil)))))) (.var 3)))
  .pass) .pass)
  (.seq (.ret (.var 4))
  .pass)))))))
def d_law_no : Dsc := ⟨Tp 51, "_law_no", ["_law_word_now"], ["_law_word_now"], [], false, [], []⟩
def c_law_no : CS :=
  (.seq (.ret (.tup (.cons (.con (.str "NotUsable")) (.cons (.var 0) (.cons (.neg (.con (.int 1))) .nil)))))
  .pass)
def d_law_due : Dsc := ⟨Tp 52, "_law_due", ["_law_item"], ["_law_item", "_law_found"], [], false, [], []⟩
def c_law_due : CS :=
  (.seq (.asg (.v 1) (.lst (.cons (.call "_law_is_name" [.p 0] (.cons (.var 0) .nil) .nil) (.cons (.call "_law_is_number" [.p 0] (.cons (.var 0) .nil) .nil) (.cons (.call "_law_is_needs" [.p 0] (.cons (.var 0) .nil) .nil) (.cons (.call "_law_is_pair" [.p 0] (.cons (.var 0) .nil) .nil) (.cons (.call "_law_is_plan" [.p 0] (.cons (.var 0) .nil) .nil) .nil)))))))
  (.seq (.ret (.bin .Add (.var 1) (.lst (.cons (.call "_law_is_sized" [.p 0] (.cons (.var 0) .nil) .nil) .nil))))
  .pass))
def d_law_told : Dsc := ⟨Tp 53, "_law_told", ["_law_item"], ["_law_item", "_law_found"], [], false, [], []⟩
def c_law_told : CS :=
  (.seq (.asg (.v 1) (.lst (.cons (.call "is_name" [.p 0] (.cons (.var 0) .nil) .nil) (.cons (.call "is_room" [.p 0] (.cons (.var 0) .nil) .nil) (.cons (.call "is_needs" [.p 0] (.cons (.var 0) .nil) .nil) (.cons (.call "is_clause" [.p 0] (.cons (.var 0) .nil) .nil) (.cons (.call "is_rule" [.p 0] (.cons (.var 0) .nil) .nil) .nil)))))))
  (.seq (.ret (.bin .Add (.var 1) (.lst (.cons (.call "is_size" [.p 0] (.cons (.var 0) .nil) .nil) .nil))))
  .pass))
def d_law_move : Dsc := ⟨Tp 54, "_law_move", ["_law_feed_here", "_law_names_here"], ["_law_feed_here", "_law_names_here", "_law_lot", "_law_name", "_law_one"], [], false, [], []⟩
def c_law_move : CS :=
  (.seq (.par 2 3 (.cons (.call "_law_draw" [.p 0, .p 1] (.cons (.var 0) (.cons (.con (.int 4)) .nil)) .nil) (.cons (.call "_law_pick" [.p 0, .p 1] (.cons (.var 0) (.cons (.var 1) .nil)) .nil) .nil)))
  (.seq (.ite (.cmp .Eq (.var 2) (.con (.int 0))) (.seq (.ret (.tup (.cons (.con (.str "guess")) .nil)))
  .pass) .pass)
  (.seq (.ite (.cmp .Eq (.var 2) (.con (.int 1))) (.seq (.ret (.tup (.cons (.con (.str "same")) (.cons (.var 3) (.cons (.call "_law_pick" [.p 0, .p 1] (.cons (.var 0) (.cons (.var 1) .nil)) .nil) .nil)))))
  .pass) .pass)
  (.seq (.ret (.tup (.cons (.con (.str "make")) (.cons (.var 3) (.cons (.blt "tuple" (.cons (.comp (.walk (.var 1)) (.v 4) [4] (.so (.cmp .Eq (.call "_law_draw" [.p 0, .p 1] (.cons (.var 0) (.cons (.con (.int 2)) .nil)) .nil) (.con (.int 0)))) (.var 4)) .nil)) .nil)))))
  .pass))))
def d_law : Dsc := ⟨Tp 55, "law", ["_law_script"], ["_law_script", "_law_feed_here", "_law_items", "_law_lap", "_law_plan_here", "_law_own", "_law_move_here", "_law_item", "_law_due_here", "_law_bad", "_law_kept", "_law_named"], ["_law_items"], true, [], []⟩
def c_law : CS :=
  (.seq (.asg (.v 1) (.call "_law_feed" [.p 0] (.cons (.var 0) .nil) .nil))
  (.seq (.asg (.v 2) (.mcomp (.range (.cons (.con (.int 16)) .nil)) (.v 3) [3] .no (.call "_law_strange" [.p 0] (.cons (.var 1) .nil) .nil)))
  (.seq (.for_ (.range (.cons (.con (.int 4)) .nil)) (.v 3) (.seq (.par 4 5 (.cons (.call "_law_plan" [.p 0, .p 1] (.cons (.var 1) (.cons (.call "_law_pick" [.p 0, .p 1] (.cons (.var 1) (.cons (.lst (.cons (.con (.int 2)) (.cons (.con (.int 5)) (.cons (.con (.int 12)) .nil)))) .nil)) .nil) .nil)) .nil) (.cons (.call "_law_sized" [.p 0, .p 1] (.cons (.var 1) (.cons (.con (.int 5)) .nil)) .nil) .nil)))
  (.seq (.asg (.v 6) (.call "_law_move" [.p 0, .p 1] (.cons (.var 1) (.cons (.ix (.var 5) (.con (.int 0))) .nil)) .nil))
  (.seq (.for_ (.walk (.lst (.cons (.var 4) (.cons (.var 5) (.cons (.call "_law_needs" [.p 0] (.cons (.var 1) .nil) .nil) (.cons (.call "_law_pair" [.p 0] (.cons (.var 1) .nil) .nil) (.cons (.var 6) (.cons (.ix (.ix (.var 5) (.con (.int 0))) (.con (.int 0))) (.cons (.bin .Add (.var 4) (.sl (.var 4) .no (.so (.con (.int 1))))) (.cons (.ix (.var 5) (.con (.int 1))) .nil)))))))))) (.v 7) (.seq (.expr (.app (.var 2) (.cons (.var 7) .nil)))
  (.seq (.expr (.app (.var 2) (.cons (.call "_law_bent" [.p 0, .p 1] (.cons (.var 1) (.cons (.var 7) .nil)) .nil) .nil)))
  (.seq (.expr (.app (.var 2) (.cons (.call "_law_bent" [.p 0, .p 1] (.cons (.var 1) (.cons (.call "_law_bent" [.p 0, .p 1] (.cons (.var 1) (.cons (.var 7) .nil)) .nil) .nil)) .nil) .nil)))
  .pass))))
  (.seq (.for_ (.walk (.lst (.cons (.var 6) (.cons (.call "_law_move" [.p 0, .p 1] (.cons (.var 1) (.cons (.call "_law_names" [.p 0, .p 1] (.cons (.var 1) (.cons (.con (.int 3)) .nil)) .nil) .nil)) .nil) (.cons (.call "_law_bent" [.p 0, .p 1] (.cons (.var 1) (.cons (.var 6) .nil)) .nil) (.cons (.call "_law_strange" [.p 0] (.cons (.var 1) .nil) .nil) (.cons (.lst (.cons (.con (.str "guess")) .nil)) .nil))))))) (.v 7) (.seq (.asg (.v 8) (.and (.call "_law_is_move" [.p 0] (.cons (.var 7) .nil) .nil) (.call "_law_fits" [.p 0, .p 1] (.cons (.var 5) (.cons (.var 7) .nil)) .nil)))
  (.seq (.ite (.cmp .NotEq (.blt "repr" (.cons (.lst (.cons (.call "is_step" [.p 0, .p 1] (.cons (.var 5) (.cons (.var 7) .nil)) .nil) (.cons (.call "is_step" [.k 1, .k 0] .nil (.cons (.var 7) (.cons (.var 5) .nil))) .nil))) .nil)) (.blt "repr" (.cons (.lst (.cons (.var 8) (.cons (.var 8) .nil))) .nil))) (.seq (.ret (.con (.bool false)))
  .pass) .pass)
  .pass)))
  (.seq (.asg (.v 9) (.call "_law_bent" [.p 0, .p 1] (.cons (.var 1) (.cons (.var 5) .nil)) .nil))
  (.seq (.ite (.and (.not (.call "_law_is_sized" [.p 0] (.cons (.var 9) .nil) .nil)) (.cmp .NotEq (.said (.call "is_step" [.p 0, .p 1] (.cons (.var 9) (.cons (.var 6) .nil)) .nil)) (.call "_law_no" [.p 0] (.cons (.con (.str "size")) .nil) .nil))) (.seq (.ret (.con (.bool false)))
  .pass) .pass)
  .pass)))))))
  (.seq (.asg (.v 10) (.blt "repr" (.cons (.var 2) .nil)))
  (.seq (.ite (.cmp .NotEq (.comp (.walk (.var 2)) (.v 7) [7] (.so (.cmp .NotEq (.blt "repr" (.cons (.call "_law_told" [.p 0] (.cons (.var 7) .nil) .nil) .nil)) (.blt "repr" (.cons (.call "_law_due" [.p 0] (.cons (.var 7) .nil) .nil) .nil)))) (.var 7)) (.lst .nil)) (.seq (.ret (.con (.bool false)))
  .pass) .pass)
  (.seq (.asg (.v 11) (.lst (.cons (.call "is_name" [.k 0] .nil (.cons (.con (.str "a")) .nil)) (.cons (.call "is_room" [.k 0] .nil (.cons (.con (.int 0)) .nil)) (.cons (.call "is_needs" [.k 0] .nil (.cons (.tup .nil) .nil)) (.cons (.call "is_clause" [.k 0] .nil (.cons (.tup (.cons (.con (.str "left")) (.cons (.tup .nil) .nil))) .nil)) (.cons (.call "is_rule" [.k 0] .nil (.cons (.tup .nil) .nil)) .nil)))))))
  (.seq (.ret (.and (.cmp .Eq (.bin .Add (.var 11) (.lst (.cons (.call "is_size" [.k 0] .nil (.cons (.tup (.cons (.tup (.cons (.con (.str "a")) .nil)) (.cons (.con (.int 1)) (.cons (.con (.int 0)) (.cons (.con (.bool true)) .nil))))) .nil)) .nil))) (.bin .Mult (.lst (.cons (.con (.bool true)) .nil)) (.con (.int 6)))) (.cmp .Eq (.blt "repr" (.cons (.var 2) .nil)) (.var 10))))
  .pass)))))))
def L0 : List Dsc := [d_is_number,
  d_does_ascend,
  d_is_name,
  d_is_names,
  d_is_room,
  d_is_need,
  d_is_moment,
  d_is_needs,
  d_is_clause,
  d_is_rule,
  d_is_size,
  d_is_any_step]
def L1 : List Dsc := [d_has_step,
  d_is_step,
  d_law_feed,
  d_law_draw,
  d_law_pick,
  d_law_needs,
  d_law_pair,
  d_law_plan,
  d_law_names,
  d_law_sized,
  d_law_is_number,
  d_law_is_name]
def L2 : List Dsc := [d_law_is_needs,
  d_law_is_moment,
  d_law_is_pair,
  d_law_is_plan,
  d_law_are_names,
  d_law_is_sized,
  d_law_is_move,
  d_law_fits,
  d_law_strange,
  d_law_bent,
  d_law_no,
  d_law_due]
def L3 : List Dsc := [d_law_told,
  d_law_move,
  d_law]
def L : List Dsc := L0 ++ L1 ++ L2 ++ L3
def T0 : List (Str × Nat × Bool × CS) := [("is_number", 1, false, c_is_number),
  ("does_ascend", 3, false, c_does_ascend),
  ("is_name", 2, false, c_is_name),
  ("is_names", 2, false, c_is_names),
  ("is_room", 1, false, c_is_room),
  ("is_need", 1, false, c_is_need),
  ("is_moment", 1, false, c_is_moment),
  ("is_needs", 2, false, c_is_needs),
  ("is_clause", 1, false, c_is_clause),
  ("is_rule", 2, false, c_is_rule),
  ("is_size", 1, false, c_is_size),
  ("is_any_step", 1, false, c_is_any_step)]
def T1 : List (Str × Nat × Bool × CS) := [("has_step", 9, false, c_has_step),
  ("is_step", 2, false, c_is_step),
  ("_law_feed", 2, false, c_law_feed),
  ("_law_draw", 7, false, c_law_draw),
  ("_law_pick", 2, false, c_law_pick),
  ("_law_needs", 2, false, c_law_needs),
  ("_law_pair", 1, false, c_law_pair),
  ("_law_plan", 3, false, c_law_plan),
  ("_law_names", 4, false, c_law_names),
  ("_law_sized", 3, false, c_law_sized),
  ("_law_is_number", 1, false, c_law_is_number),
  ("_law_is_name", 2, false, c_law_is_name)]
def T2 : List (Str × Nat × Bool × CS) := [("_law_is_needs", 3, false, c_law_is_needs),
  ("_law_is_moment", 1, false, c_law_is_moment),
  ("_law_is_pair", 1, false, c_law_is_pair),
  ("_law_is_plan", 2, false, c_law_is_plan),
  ("_law_are_names", 2, false, c_law_are_names),
  ("_law_is_sized", 1, false, c_law_is_sized),
  ("_law_is_move", 1, false, c_law_is_move),
  ("_law_fits", 3, false, c_law_fits),
  ("_law_strange", 2, false, c_law_strange),
  ("_law_bent", 5, false, c_law_bent),
  ("_law_no", 1, false, c_law_no),
  ("_law_due", 2, false, c_law_due)]
def T3 : List (Str × Nat × Bool × CS) := [("_law_told", 2, false, c_law_told),
  ("_law_move", 5, false, c_law_move),
  ("law", 12, true, c_law)]
def T : List (Str × Nat × Bool × CS) := T0 ++ T1 ++ T2 ++ T3
def dSaid : DefD := ⟨("_law_said", none), "_law_said", "_law_said", defArgs (Tp 50), defBody (Tp 50), defScope (Tp 50), [], []⟩
def dRef : DefD := ⟨("_law_refusal", none), "_law_refusal", "_law_refusal", defArgs (Tp 49), defBody (Tp 49), defScope (Tp 49), [], []⟩
def fn0 : List DefD := [d_is_number.d,
  d_does_ascend.d,
  d_is_name.d,
  d_is_names.d,
  d_is_room.d,
  d_is_need.d,
  d_is_moment.d,
  d_is_needs.d,
  d_is_clause.d,
  d_is_rule.d,
  d_is_size.d,
  d_is_any_step.d]
def fn1 : List DefD := [d_has_step.d,
  d_is_step.d,
  d_law_feed.d,
  d_law_draw.d,
  d_law_pick.d,
  d_law_needs.d,
  d_law_pair.d,
  d_law_plan.d,
  d_law_names.d,
  d_law_sized.d,
  d_law_is_number.d,
  d_law_is_name.d]
def fn2 : List DefD := [d_law_is_needs.d,
  d_law_is_moment.d,
  d_law_is_pair.d,
  d_law_is_plan.d,
  d_law_are_names.d,
  d_law_is_sized.d,
  d_law_is_move.d,
  d_law_fits.d,
  d_law_strange.d,
  d_law_bent.d,
  d_law_no.d,
  d_law_due.d]
def fn3 : List DefD := [d_law_told.d,
  d_law_move.d,
  d_law.d,
  dSaid,
  dRef]
def fn : List DefD := fn0 ++ fn1 ++ fn2 ++ fn3
def fa0 : List Fa := [.glo "is_number",
  .glo "does_ascend",
  .glo "is_name",
  .glo "is_names",
  .glo "is_room",
  .glo "is_need",
  .glo "is_moment",
  .glo "is_needs",
  .glo "is_clause",
  .glo "is_rule",
  .glo "is_size",
  .glo "is_any_step",
  .glo "has_step",
  .glo "is_step"]
def fa1 : List Fa := [.glo "_law_feed",
  .glo "_law_draw",
  .glo "_law_pick",
  .glo "_law_needs",
  .glo "_law_pair",
  .glo "_law_plan",
  .glo "_law_names",
  .glo "_law_sized",
  .glo "_law_is_number",
  .glo "_law_is_name",
  .glo "_law_is_needs",
  .glo "_law_is_moment",
  .glo "_law_is_pair",
  .glo "_law_is_plan"]
def fa2 : List Fa := [.glo "_law_are_names",
  .glo "_law_is_sized",
  .glo "_law_is_move",
  .glo "_law_fits",
  .glo "_law_strange",
  .glo "_law_bent",
  .glo "_law_no",
  .glo "_law_due",
  .glo "_law_told",
  .glo "_law_move",
  .glo "law",
  .glo "_law_said",
  .glo "_law_refusal",
  .glo "RoomError"]
def fa3 : List Fa := [.glo "PaperError",
  .glo "UseError",
  .glo "BenchError",
  .glo "TextError",
  .glo "NotUsable",
  .glo "InvalidPaper",
  .glo "InvalidText",
  .free "all",
  .free "bool",
  .free "int",
  .free "isinstance",
  .free "len",
  .free "list",
  .free "range"]
def fa4 : List Fa := [.free "repr",
  .free "set",
  .free "sorted",
  .free "str",
  .free "tuple",
  .free "zip",
  .free "super",
  .free "ValueError",
  .exm "InvalidPaper" "RoomError" true,
  .exm "NotUsable" "RoomError" true,
  .exm "InvalidText" "RoomError" true]
def fa : List Fa := fa0 ++ fa1 ++ fa2 ++ fa3 ++ fa4
def x_InvalidPaper : ExD := ⟨"InvalidPaper", "word", "at", "InvalidPaper.__init__", defArgs (inner 6 0), defBody (inner 6 0), defScope (inner 6 0)⟩
def x_NotUsable : ExD := ⟨"NotUsable", "word", "at", "NotUsable.__init__", defArgs (inner 7 0), defBody (inner 7 0), defScope (inner 7 0)⟩
def x_InvalidText : ExD := ⟨"InvalidText", "line", "column", "InvalidText.__init__", defArgs (inner 8 0), defBody (inner 8 0), defScope (inner 8 0)⟩
def top : Top := ⟨PySem.Challenge.pw_roomsback_k01_kinds_told, fa, fn, [x_InvalidPaper, x_NotUsable, x_InvalidText], tb.consts, [("law", none)]⟩
def D : LawD := ⟨top, L, tb, T⟩
theorem k_is_number : d_is_number.comp tb = some c_is_number := by kernel_rfl
theorem k_does_ascend : d_does_ascend.comp tb = some c_does_ascend := by kernel_rfl
theorem k_is_name : d_is_name.comp tb = some c_is_name := by kernel_rfl
theorem k_is_names : d_is_names.comp tb = some c_is_names := by kernel_rfl
theorem k_is_room : d_is_room.comp tb = some c_is_room := by kernel_rfl
theorem k_is_need : d_is_need.comp tb = some c_is_need := by kernel_rfl
theorem k_is_moment : d_is_moment.comp tb = some c_is_moment := by kernel_rfl
theorem k_is_needs : d_is_needs.comp tb = some c_is_needs := by kernel_rfl
theorem k_is_clause : d_is_clause.comp tb = some c_is_clause := by kernel_rfl
theorem k_is_rule : d_is_rule.comp tb = some c_is_rule := by kernel_rfl
theorem k_is_size : d_is_size.comp tb = some c_is_size := by kernel_rfl
theorem k_is_any_step : d_is_any_step.comp tb = some c_is_any_step := by kernel_rfl
theorem k_has_step : d_has_step.comp tb = some c_has_step := by kernel_rfl
theorem k_is_step : d_is_step.comp tb = some c_is_step := by kernel_rfl
theorem k_law_feed : d_law_feed.comp tb = some c_law_feed := by kernel_rfl
theorem k_law_draw : d_law_draw.comp tb = some c_law_draw := by kernel_rfl
theorem k_law_pick : d_law_pick.comp tb = some c_law_pick := by kernel_rfl
theorem k_law_needs : d_law_needs.comp tb = some c_law_needs := by kernel_rfl
theorem k_law_pair : d_law_pair.comp tb = some c_law_pair := by kernel_rfl
theorem k_law_plan : d_law_plan.comp tb = some c_law_plan := by kernel_rfl
theorem k_law_names : d_law_names.comp tb = some c_law_names := by kernel_rfl
theorem k_law_sized : d_law_sized.comp tb = some c_law_sized := by kernel_rfl
theorem k_law_is_number : d_law_is_number.comp tb = some c_law_is_number := by kernel_rfl
theorem k_law_is_name : d_law_is_name.comp tb = some c_law_is_name := by kernel_rfl
theorem k_law_is_needs : d_law_is_needs.comp tb = some c_law_is_needs := by kernel_rfl
theorem k_law_is_moment : d_law_is_moment.comp tb = some c_law_is_moment := by kernel_rfl
theorem k_law_is_pair : d_law_is_pair.comp tb = some c_law_is_pair := by kernel_rfl
theorem k_law_is_plan : d_law_is_plan.comp tb = some c_law_is_plan := by kernel_rfl
theorem k_law_are_names : d_law_are_names.comp tb = some c_law_are_names := by kernel_rfl
theorem k_law_is_sized : d_law_is_sized.comp tb = some c_law_is_sized := by kernel_rfl
theorem k_law_is_move : d_law_is_move.comp tb = some c_law_is_move := by kernel_rfl
theorem k_law_fits : d_law_fits.comp tb = some c_law_fits := by kernel_rfl
theorem k_law_strange : d_law_strange.comp tb = some c_law_strange := by kernel_rfl
theorem k_law_bent : d_law_bent.comp tb = some c_law_bent := by kernel_rfl
theorem k_law_no : d_law_no.comp tb = some c_law_no := by kernel_rfl
theorem k_law_due : d_law_due.comp tb = some c_law_due := by kernel_rfl
theorem k_law_told : d_law_told.comp tb = some c_law_told := by kernel_rfl
theorem k_law_move : d_law_move.comp tb = some c_law_move := by kernel_rfl
theorem k_law : d_law.comp tb = some c_law := by kernel_rfl
theorem s_0 : ShOk L ((("is_number", 1, []), [.p 0])) := by
  refine ⟨d_is_number, ?_, rfl, rfl, fun K fd F => ?_⟩
  · exact List.mem_of_getElem? (i := 0) (by kernel_rfl)
  · refine bnN F rfl rfl fun kV doc pm an cdv ct us ws h1 h2 => ?_
    match us, ws, h1, h2 with
    | [u0], [], _, _ =>
      refine ⟨[u0], rfl, fun vs zs r1 r2 => ?_⟩
      obtain ⟨av0, rfl, a0⟩ := RB.vals1 r1
      cases r2
      exact ⟨_, rfl, (.cons a0 .nil)⟩
theorem s_1 : ShOk L ((("has_step", 2, []), [.p 0, .p 1])) := by
  refine ⟨d_has_step, ?_, rfl, rfl, fun K fd F => ?_⟩
  · exact List.mem_of_getElem? (i := 12) (by kernel_rfl)
  · refine bnN F rfl rfl fun kV doc pm an cdv ct us ws h1 h2 => ?_
    match us, ws, h1, h2 with
    | [u0, u1], [], _, _ =>
      refine ⟨[u0, u1], rfl, fun vs zs r1 r2 => ?_⟩
      obtain ⟨av0, av1, rfl, a0, a1⟩ := RB.vals2 r1
      cases r2
      exact ⟨_, rfl, (.cons a0 (.cons a1 .nil))⟩
theorem s_2 : ShOk L ((("_law_pick", 2, []), [.p 0, .p 1])) := by
  refine ⟨d_law_pick, ?_, rfl, rfl, fun K fd F => ?_⟩
  · exact List.mem_of_getElem? (i := 16) (by kernel_rfl)
  · refine bnN F rfl rfl fun kV doc pm an cdv ct us ws h1 h2 => ?_
    match us, ws, h1, h2 with
    | [u0, u1], [], _, _ =>
      refine ⟨[u0, u1], rfl, fun vs zs r1 r2 => ?_⟩
      obtain ⟨av0, av1, rfl, a0, a1⟩ := RB.vals2 r1
      cases r2
      exact ⟨_, rfl, (.cons a0 (.cons a1 .nil))⟩
theorem s_3 : ShOk L ((("_law_feed", 1, []), [.p 0])) := by
  refine ⟨d_law_feed, ?_, rfl, rfl, fun K fd F => ?_⟩
  · exact List.mem_of_getElem? (i := 14) (by kernel_rfl)
  · refine bnN F rfl rfl fun kV doc pm an cdv ct us ws h1 h2 => ?_
    match us, ws, h1, h2 with
    | [u0], [], _, _ =>
      refine ⟨[u0], rfl, fun vs zs r1 r2 => ?_⟩
      obtain ⟨av0, rfl, a0⟩ := RB.vals1 r1
      cases r2
      exact ⟨_, rfl, (.cons a0 .nil)⟩
theorem s_4 : ShOk L ((("does_ascend", 1, []), [.p 0])) := by
  refine ⟨d_does_ascend, ?_, rfl, rfl, fun K fd F => ?_⟩
  · exact List.mem_of_getElem? (i := 1) (by kernel_rfl)
  · refine bnN F rfl rfl fun kV doc pm an cdv ct us ws h1 h2 => ?_
    match us, ws, h1, h2 with
    | [u0], [], _, _ =>
      refine ⟨[u0], rfl, fun vs zs r1 r2 => ?_⟩
      obtain ⟨av0, rfl, a0⟩ := RB.vals1 r1
      cases r2
      exact ⟨_, rfl, (.cons a0 .nil)⟩
theorem s_5 : ShOk L ((("is_moment", 1, []), [.p 0])) := by
  refine ⟨d_is_moment, ?_, rfl, rfl, fun K fd F => ?_⟩
  · exact List.mem_of_getElem? (i := 6) (by kernel_rfl)
  · refine bnN F rfl rfl fun kV doc pm an cdv ct us ws h1 h2 => ?_
    match us, ws, h1, h2 with
    | [u0], [], _, _ =>
      refine ⟨[u0], rfl, fun vs zs r1 r2 => ?_⟩
      obtain ⟨av0, rfl, a0⟩ := RB.vals1 r1
      cases r2
      exact ⟨_, rfl, (.cons a0 .nil)⟩
theorem s_6 : ShOk L ((("is_needs", 1, []), [.p 0])) := by
  refine ⟨d_is_needs, ?_, rfl, rfl, fun K fd F => ?_⟩
  · exact List.mem_of_getElem? (i := 7) (by kernel_rfl)
  · refine bnN F rfl rfl fun kV doc pm an cdv ct us ws h1 h2 => ?_
    match us, ws, h1, h2 with
    | [u0], [], _, _ =>
      refine ⟨[u0], rfl, fun vs zs r1 r2 => ?_⟩
      obtain ⟨av0, rfl, a0⟩ := RB.vals1 r1
      cases r2
      exact ⟨_, rfl, (.cons a0 .nil)⟩
theorem s_7 : ShOk L ((("is_name", 1, []), [.p 0])) := by
  refine ⟨d_is_name, ?_, rfl, rfl, fun K fd F => ?_⟩
  · exact List.mem_of_getElem? (i := 2) (by kernel_rfl)
  · refine bnN F rfl rfl fun kV doc pm an cdv ct us ws h1 h2 => ?_
    match us, ws, h1, h2 with
    | [u0], [], _, _ =>
      refine ⟨[u0], rfl, fun vs zs r1 r2 => ?_⟩
      obtain ⟨av0, rfl, a0⟩ := RB.vals1 r1
      cases r2
      exact ⟨_, rfl, (.cons a0 .nil)⟩
theorem s_8 : ShOk L ((("is_names", 1, []), [.p 0])) := by
  refine ⟨d_is_names, ?_, rfl, rfl, fun K fd F => ?_⟩
  · exact List.mem_of_getElem? (i := 3) (by kernel_rfl)
  · refine bnN F rfl rfl fun kV doc pm an cdv ct us ws h1 h2 => ?_
    match us, ws, h1, h2 with
    | [u0], [], _, _ =>
      refine ⟨[u0], rfl, fun vs zs r1 r2 => ?_⟩
      obtain ⟨av0, rfl, a0⟩ := RB.vals1 r1
      cases r2
      exact ⟨_, rfl, (.cons a0 .nil)⟩
theorem s_9 : ShOk L ((("is_any_step", 1, []), [.p 0])) := by
  refine ⟨d_is_any_step, ?_, rfl, rfl, fun K fd F => ?_⟩
  · exact List.mem_of_getElem? (i := 11) (by kernel_rfl)
  · refine bnN F rfl rfl fun kV doc pm an cdv ct us ws h1 h2 => ?_
    match us, ws, h1, h2 with
    | [u0], [], _, _ =>
      refine ⟨[u0], rfl, fun vs zs r1 r2 => ?_⟩
      obtain ⟨av0, rfl, a0⟩ := RB.vals1 r1
      cases r2
      exact ⟨_, rfl, (.cons a0 .nil)⟩
theorem s_10 : ShOk L ((("is_size", 1, []), [.p 0])) := by
  refine ⟨d_is_size, ?_, rfl, rfl, fun K fd F => ?_⟩
  · exact List.mem_of_getElem? (i := 10) (by kernel_rfl)
  · refine bnN F rfl rfl fun kV doc pm an cdv ct us ws h1 h2 => ?_
    match us, ws, h1, h2 with
    | [u0], [], _, _ =>
      refine ⟨[u0], rfl, fun vs zs r1 r2 => ?_⟩
      obtain ⟨av0, rfl, a0⟩ := RB.vals1 r1
      cases r2
      exact ⟨_, rfl, (.cons a0 .nil)⟩
theorem s_11 : ShOk L ((("_law_draw", 2, []), [.p 0, .p 1])) := by
  refine ⟨d_law_draw, ?_, rfl, rfl, fun K fd F => ?_⟩
  · exact List.mem_of_getElem? (i := 15) (by kernel_rfl)
  · refine bnN F rfl rfl fun kV doc pm an cdv ct us ws h1 h2 => ?_
    match us, ws, h1, h2 with
    | [u0, u1], [], _, _ =>
      refine ⟨[u0, u1], rfl, fun vs zs r1 r2 => ?_⟩
      obtain ⟨av0, av1, rfl, a0, a1⟩ := RB.vals2 r1
      cases r2
      exact ⟨_, rfl, (.cons a0 (.cons a1 .nil))⟩
theorem s_12 : ShOk L ((("_law_needs", 1, []), [.p 0])) := by
  refine ⟨d_law_needs, ?_, rfl, rfl, fun K fd F => ?_⟩
  · exact List.mem_of_getElem? (i := 17) (by kernel_rfl)
  · refine bnN F rfl rfl fun kV doc pm an cdv ct us ws h1 h2 => ?_
    match us, ws, h1, h2 with
    | [u0], [], _, _ =>
      refine ⟨[u0], rfl, fun vs zs r1 r2 => ?_⟩
      obtain ⟨av0, rfl, a0⟩ := RB.vals1 r1
      cases r2
      exact ⟨_, rfl, (.cons a0 .nil)⟩
theorem s_13 : ShOk L ((("_law_names", 2, []), [.p 0, .p 1])) := by
  refine ⟨d_law_names, ?_, rfl, rfl, fun K fd F => ?_⟩
  · exact List.mem_of_getElem? (i := 20) (by kernel_rfl)
  · refine bnN F rfl rfl fun kV doc pm an cdv ct us ws h1 h2 => ?_
    match us, ws, h1, h2 with
    | [u0, u1], [], _, _ =>
      refine ⟨[u0, u1], rfl, fun vs zs r1 r2 => ?_⟩
      obtain ⟨av0, av1, rfl, a0, a1⟩ := RB.vals2 r1
      cases r2
      exact ⟨_, rfl, (.cons a0 (.cons a1 .nil))⟩
theorem s_14 : ShOk L ((("_law_is_moment", 1, []), [.p 0])) := by
  refine ⟨d_law_is_moment, ?_, rfl, rfl, fun K fd F => ?_⟩
  · exact List.mem_of_getElem? (i := 25) (by kernel_rfl)
  · refine bnN F rfl rfl fun kV doc pm an cdv ct us ws h1 h2 => ?_
    match us, ws, h1, h2 with
    | [u0], [], _, _ =>
      refine ⟨[u0], rfl, fun vs zs r1 r2 => ?_⟩
      obtain ⟨av0, rfl, a0⟩ := RB.vals1 r1
      cases r2
      exact ⟨_, rfl, (.cons a0 .nil)⟩
theorem s_15 : ShOk L ((("_law_is_needs", 1, []), [.p 0])) := by
  refine ⟨d_law_is_needs, ?_, rfl, rfl, fun K fd F => ?_⟩
  · exact List.mem_of_getElem? (i := 24) (by kernel_rfl)
  · refine bnN F rfl rfl fun kV doc pm an cdv ct us ws h1 h2 => ?_
    match us, ws, h1, h2 with
    | [u0], [], _, _ =>
      refine ⟨[u0], rfl, fun vs zs r1 r2 => ?_⟩
      obtain ⟨av0, rfl, a0⟩ := RB.vals1 r1
      cases r2
      exact ⟨_, rfl, (.cons a0 .nil)⟩
theorem s_16 : ShOk L ((("_law_is_number", 1, []), [.p 0])) := by
  refine ⟨d_law_is_number, ?_, rfl, rfl, fun K fd F => ?_⟩
  · exact List.mem_of_getElem? (i := 22) (by kernel_rfl)
  · refine bnN F rfl rfl fun kV doc pm an cdv ct us ws h1 h2 => ?_
    match us, ws, h1, h2 with
    | [u0], [], _, _ =>
      refine ⟨[u0], rfl, fun vs zs r1 r2 => ?_⟩
      obtain ⟨av0, rfl, a0⟩ := RB.vals1 r1
      cases r2
      exact ⟨_, rfl, (.cons a0 .nil)⟩
theorem s_17 : ShOk L ((("_law_are_names", 1, []), [.p 0])) := by
  refine ⟨d_law_are_names, ?_, rfl, rfl, fun K fd F => ?_⟩
  · exact List.mem_of_getElem? (i := 28) (by kernel_rfl)
  · refine bnN F rfl rfl fun kV doc pm an cdv ct us ws h1 h2 => ?_
    match us, ws, h1, h2 with
    | [u0], [], _, _ =>
      refine ⟨[u0], rfl, fun vs zs r1 r2 => ?_⟩
      obtain ⟨av0, rfl, a0⟩ := RB.vals1 r1
      cases r2
      exact ⟨_, rfl, (.cons a0 .nil)⟩
theorem s_18 : ShOk L ((("_law_is_name", 1, []), [.p 0])) := by
  refine ⟨d_law_is_name, ?_, rfl, rfl, fun K fd F => ?_⟩
  · exact List.mem_of_getElem? (i := 23) (by kernel_rfl)
  · refine bnN F rfl rfl fun kV doc pm an cdv ct us ws h1 h2 => ?_
    match us, ws, h1, h2 with
    | [u0], [], _, _ =>
      refine ⟨[u0], rfl, fun vs zs r1 r2 => ?_⟩
      obtain ⟨av0, rfl, a0⟩ := RB.vals1 r1
      cases r2
      exact ⟨_, rfl, (.cons a0 .nil)⟩
theorem s_19 : ShOk L ((("_law_strange", 1, []), [.p 0])) := by
  refine ⟨d_law_strange, ?_, rfl, rfl, fun K fd F => ?_⟩
  · exact List.mem_of_getElem? (i := 32) (by kernel_rfl)
  · refine bnN F rfl rfl fun kV doc pm an cdv ct us ws h1 h2 => ?_
    match us, ws, h1, h2 with
    | [u0], [], _, _ =>
      refine ⟨[u0], rfl, fun vs zs r1 r2 => ?_⟩
      obtain ⟨av0, rfl, a0⟩ := RB.vals1 r1
      cases r2
      exact ⟨_, rfl, (.cons a0 .nil)⟩
theorem s_20 : ShOk L ((("_law_is_pair", 1, []), [.p 0])) := by
  refine ⟨d_law_is_pair, ?_, rfl, rfl, fun K fd F => ?_⟩
  · exact List.mem_of_getElem? (i := 26) (by kernel_rfl)
  · refine bnN F rfl rfl fun kV doc pm an cdv ct us ws h1 h2 => ?_
    match us, ws, h1, h2 with
    | [u0], [], _, _ =>
      refine ⟨[u0], rfl, fun vs zs r1 r2 => ?_⟩
      obtain ⟨av0, rfl, a0⟩ := RB.vals1 r1
      cases r2
      exact ⟨_, rfl, (.cons a0 .nil)⟩
theorem s_21 : ShOk L ((("_law_is_plan", 1, []), [.p 0])) := by
  refine ⟨d_law_is_plan, ?_, rfl, rfl, fun K fd F => ?_⟩
  · exact List.mem_of_getElem? (i := 27) (by kernel_rfl)
  · refine bnN F rfl rfl fun kV doc pm an cdv ct us ws h1 h2 => ?_
    match us, ws, h1, h2 with
    | [u0], [], _, _ =>
      refine ⟨[u0], rfl, fun vs zs r1 r2 => ?_⟩
      obtain ⟨av0, rfl, a0⟩ := RB.vals1 r1
      cases r2
      exact ⟨_, rfl, (.cons a0 .nil)⟩
theorem s_22 : ShOk L ((("is_room", 1, []), [.p 0])) := by
  refine ⟨d_is_room, ?_, rfl, rfl, fun K fd F => ?_⟩
  · exact List.mem_of_getElem? (i := 4) (by kernel_rfl)
  · refine bnN F rfl rfl fun kV doc pm an cdv ct us ws h1 h2 => ?_
    match us, ws, h1, h2 with
    | [u0], [], _, _ =>
      refine ⟨[u0], rfl, fun vs zs r1 r2 => ?_⟩
      obtain ⟨av0, rfl, a0⟩ := RB.vals1 r1
      cases r2
      exact ⟨_, rfl, (.cons a0 .nil)⟩
theorem s_23 : ShOk L ((("is_clause", 1, []), [.p 0])) := by
  refine ⟨d_is_clause, ?_, rfl, rfl, fun K fd F => ?_⟩
  · exact List.mem_of_getElem? (i := 8) (by kernel_rfl)
  · refine bnN F rfl rfl fun kV doc pm an cdv ct us ws h1 h2 => ?_
    match us, ws, h1, h2 with
    | [u0], [], _, _ =>
      refine ⟨[u0], rfl, fun vs zs r1 r2 => ?_⟩
      obtain ⟨av0, rfl, a0⟩ := RB.vals1 r1
      cases r2
      exact ⟨_, rfl, (.cons a0 .nil)⟩
theorem s_24 : ShOk L ((("is_rule", 1, []), [.p 0])) := by
  refine ⟨d_is_rule, ?_, rfl, rfl, fun K fd F => ?_⟩
  · exact List.mem_of_getElem? (i := 9) (by kernel_rfl)
  · refine bnN F rfl rfl fun kV doc pm an cdv ct us ws h1 h2 => ?_
    match us, ws, h1, h2 with
    | [u0], [], _, _ =>
      refine ⟨[u0], rfl, fun vs zs r1 r2 => ?_⟩
      obtain ⟨av0, rfl, a0⟩ := RB.vals1 r1
      cases r2
      exact ⟨_, rfl, (.cons a0 .nil)⟩
theorem s_25 : ShOk L ((("_law_move", 2, []), [.p 0, .p 1])) := by
  refine ⟨d_law_move, ?_, rfl, rfl, fun K fd F => ?_⟩
  · exact List.mem_of_getElem? (i := 37) (by kernel_rfl)
  · refine bnN F rfl rfl fun kV doc pm an cdv ct us ws h1 h2 => ?_
    match us, ws, h1, h2 with
    | [u0, u1], [], _, _ =>
      refine ⟨[u0, u1], rfl, fun vs zs r1 r2 => ?_⟩
      obtain ⟨av0, av1, rfl, a0, a1⟩ := RB.vals2 r1
      cases r2
      exact ⟨_, rfl, (.cons a0 (.cons a1 .nil))⟩
theorem s_26 : ShOk L ((("_law_bent", 2, []), [.p 0, .p 1])) := by
  refine ⟨d_law_bent, ?_, rfl, rfl, fun K fd F => ?_⟩
  · exact List.mem_of_getElem? (i := 33) (by kernel_rfl)
  · refine bnN F rfl rfl fun kV doc pm an cdv ct us ws h1 h2 => ?_
    match us, ws, h1, h2 with
    | [u0, u1], [], _, _ =>
      refine ⟨[u0, u1], rfl, fun vs zs r1 r2 => ?_⟩
      obtain ⟨av0, av1, rfl, a0, a1⟩ := RB.vals2 r1
      cases r2
      exact ⟨_, rfl, (.cons a0 (.cons a1 .nil))⟩
theorem s_27 : ShOk L ((("is_name", 0, ["thing"]), [.k 0])) := by
  refine ⟨d_is_name, ?_, rfl, rfl, fun K fd F => ?_⟩
  · exact List.mem_of_getElem? (i := 2) (by kernel_rfl)
  · refine bnN F rfl rfl fun kV doc pm an cdv ct us ws h1 h2 => ?_
    match us, ws, h1, h2 with
    | [], [w0], _, _ =>
      refine ⟨[w0], rfl, fun vs zs r1 r2 => ?_⟩
      cases r1
      obtain ⟨bv0, rfl, b0⟩ := RB.vals1 r2
      exact ⟨_, rfl, (.cons b0 .nil)⟩
theorem s_28 : ShOk L ((("is_room", 0, ["thing"]), [.k 0])) := by
  refine ⟨d_is_room, ?_, rfl, rfl, fun K fd F => ?_⟩
  · exact List.mem_of_getElem? (i := 4) (by kernel_rfl)
  · refine bnN F rfl rfl fun kV doc pm an cdv ct us ws h1 h2 => ?_
    match us, ws, h1, h2 with
    | [], [w0], _, _ =>
      refine ⟨[w0], rfl, fun vs zs r1 r2 => ?_⟩
      cases r1
      obtain ⟨bv0, rfl, b0⟩ := RB.vals1 r2
      exact ⟨_, rfl, (.cons b0 .nil)⟩
theorem s_29 : ShOk L ((("is_needs", 0, ["thing"]), [.k 0])) := by
  refine ⟨d_is_needs, ?_, rfl, rfl, fun K fd F => ?_⟩
  · exact List.mem_of_getElem? (i := 7) (by kernel_rfl)
  · refine bnN F rfl rfl fun kV doc pm an cdv ct us ws h1 h2 => ?_
    match us, ws, h1, h2 with
    | [], [w0], _, _ =>
      refine ⟨[w0], rfl, fun vs zs r1 r2 => ?_⟩
      cases r1
      obtain ⟨bv0, rfl, b0⟩ := RB.vals1 r2
      exact ⟨_, rfl, (.cons b0 .nil)⟩
theorem s_30 : ShOk L ((("is_clause", 0, ["thing"]), [.k 0])) := by
  refine ⟨d_is_clause, ?_, rfl, rfl, fun K fd F => ?_⟩
  · exact List.mem_of_getElem? (i := 8) (by kernel_rfl)
  · refine bnN F rfl rfl fun kV doc pm an cdv ct us ws h1 h2 => ?_
    match us, ws, h1, h2 with
    | [], [w0], _, _ =>
      refine ⟨[w0], rfl, fun vs zs r1 r2 => ?_⟩
      cases r1
      obtain ⟨bv0, rfl, b0⟩ := RB.vals1 r2
      exact ⟨_, rfl, (.cons b0 .nil)⟩
theorem s_31 : ShOk L ((("is_rule", 0, ["thing"]), [.k 0])) := by
  refine ⟨d_is_rule, ?_, rfl, rfl, fun K fd F => ?_⟩
  · exact List.mem_of_getElem? (i := 9) (by kernel_rfl)
  · refine bnN F rfl rfl fun kV doc pm an cdv ct us ws h1 h2 => ?_
    match us, ws, h1, h2 with
    | [], [w0], _, _ =>
      refine ⟨[w0], rfl, fun vs zs r1 r2 => ?_⟩
      cases r1
      obtain ⟨bv0, rfl, b0⟩ := RB.vals1 r2
      exact ⟨_, rfl, (.cons b0 .nil)⟩
theorem s_32 : ShOk L ((("_law_is_sized", 1, []), [.p 0])) := by
  refine ⟨d_law_is_sized, ?_, rfl, rfl, fun K fd F => ?_⟩
  · exact List.mem_of_getElem? (i := 29) (by kernel_rfl)
  · refine bnN F rfl rfl fun kV doc pm an cdv ct us ws h1 h2 => ?_
    match us, ws, h1, h2 with
    | [u0], [], _, _ =>
      refine ⟨[u0], rfl, fun vs zs r1 r2 => ?_⟩
      obtain ⟨av0, rfl, a0⟩ := RB.vals1 r1
      cases r2
      exact ⟨_, rfl, (.cons a0 .nil)⟩
theorem s_33 : ShOk L ((("_law_plan", 2, []), [.p 0, .p 1])) := by
  refine ⟨d_law_plan, ?_, rfl, rfl, fun K fd F => ?_⟩
  · exact List.mem_of_getElem? (i := 19) (by kernel_rfl)
  · refine bnN F rfl rfl fun kV doc pm an cdv ct us ws h1 h2 => ?_
    match us, ws, h1, h2 with
    | [u0, u1], [], _, _ =>
      refine ⟨[u0, u1], rfl, fun vs zs r1 r2 => ?_⟩
      obtain ⟨av0, av1, rfl, a0, a1⟩ := RB.vals2 r1
      cases r2
      exact ⟨_, rfl, (.cons a0 (.cons a1 .nil))⟩
theorem s_34 : ShOk L ((("_law_sized", 2, []), [.p 0, .p 1])) := by
  refine ⟨d_law_sized, ?_, rfl, rfl, fun K fd F => ?_⟩
  · exact List.mem_of_getElem? (i := 21) (by kernel_rfl)
  · refine bnN F rfl rfl fun kV doc pm an cdv ct us ws h1 h2 => ?_
    match us, ws, h1, h2 with
    | [u0, u1], [], _, _ =>
      refine ⟨[u0, u1], rfl, fun vs zs r1 r2 => ?_⟩
      obtain ⟨av0, av1, rfl, a0, a1⟩ := RB.vals2 r1
      cases r2
      exact ⟨_, rfl, (.cons a0 (.cons a1 .nil))⟩
theorem s_35 : ShOk L ((("_law_pair", 1, []), [.p 0])) := by
  refine ⟨d_law_pair, ?_, rfl, rfl, fun K fd F => ?_⟩
  · exact List.mem_of_getElem? (i := 18) (by kernel_rfl)
  · refine bnN F rfl rfl fun kV doc pm an cdv ct us ws h1 h2 => ?_
    match us, ws, h1, h2 with
    | [u0], [], _, _ =>
      refine ⟨[u0], rfl, fun vs zs r1 r2 => ?_⟩
      obtain ⟨av0, rfl, a0⟩ := RB.vals1 r1
      cases r2
      exact ⟨_, rfl, (.cons a0 .nil)⟩
theorem s_36 : ShOk L ((("is_need", 1, []), [.p 0])) := by
  refine ⟨d_is_need, ?_, rfl, rfl, fun K fd F => ?_⟩
  · exact List.mem_of_getElem? (i := 5) (by kernel_rfl)
  · refine bnN F rfl rfl fun kV doc pm an cdv ct us ws h1 h2 => ?_
    match us, ws, h1, h2 with
    | [u0], [], _, _ =>
      refine ⟨[u0], rfl, fun vs zs r1 r2 => ?_⟩
      obtain ⟨av0, rfl, a0⟩ := RB.vals1 r1
      cases r2
      exact ⟨_, rfl, (.cons a0 .nil)⟩
theorem s_37 : ShOk L ((("_law_is_move", 1, []), [.p 0])) := by
  refine ⟨d_law_is_move, ?_, rfl, rfl, fun K fd F => ?_⟩
  · exact List.mem_of_getElem? (i := 30) (by kernel_rfl)
  · refine bnN F rfl rfl fun kV doc pm an cdv ct us ws h1 h2 => ?_
    match us, ws, h1, h2 with
    | [u0], [], _, _ =>
      refine ⟨[u0], rfl, fun vs zs r1 r2 => ?_⟩
      obtain ⟨av0, rfl, a0⟩ := RB.vals1 r1
      cases r2
      exact ⟨_, rfl, (.cons a0 .nil)⟩
theorem s_38 : ShOk L ((("_law_fits", 2, []), [.p 0, .p 1])) := by
  refine ⟨d_law_fits, ?_, rfl, rfl, fun K fd F => ?_⟩
  · exact List.mem_of_getElem? (i := 31) (by kernel_rfl)
  · refine bnN F rfl rfl fun kV doc pm an cdv ct us ws h1 h2 => ?_
    match us, ws, h1, h2 with
    | [u0, u1], [], _, _ =>
      refine ⟨[u0, u1], rfl, fun vs zs r1 r2 => ?_⟩
      obtain ⟨av0, av1, rfl, a0, a1⟩ := RB.vals2 r1
      cases r2
      exact ⟨_, rfl, (.cons a0 (.cons a1 .nil))⟩
theorem s_39 : ShOk L ((("_law_no", 1, []), [.p 0])) := by
  refine ⟨d_law_no, ?_, rfl, rfl, fun K fd F => ?_⟩
  · exact List.mem_of_getElem? (i := 34) (by kernel_rfl)
  · refine bnN F rfl rfl fun kV doc pm an cdv ct us ws h1 h2 => ?_
    match us, ws, h1, h2 with
    | [u0], [], _, _ =>
      refine ⟨[u0], rfl, fun vs zs r1 r2 => ?_⟩
      obtain ⟨av0, rfl, a0⟩ := RB.vals1 r1
      cases r2
      exact ⟨_, rfl, (.cons a0 .nil)⟩
theorem s_40 : ShOk L ((("is_size", 0, ["thing"]), [.k 0])) := by
  refine ⟨d_is_size, ?_, rfl, rfl, fun K fd F => ?_⟩
  · exact List.mem_of_getElem? (i := 10) (by kernel_rfl)
  · refine bnN F rfl rfl fun kV doc pm an cdv ct us ws h1 h2 => ?_
    match us, ws, h1, h2 with
    | [], [w0], _, _ =>
      refine ⟨[w0], rfl, fun vs zs r1 r2 => ?_⟩
      cases r1
      obtain ⟨bv0, rfl, b0⟩ := RB.vals1 r2
      exact ⟨_, rfl, (.cons b0 .nil)⟩
theorem s_41 : ShOk L ((("is_step", 2, []), [.p 0, .p 1])) := by
  refine ⟨d_is_step, ?_, rfl, rfl, fun K fd F => ?_⟩
  · exact List.mem_of_getElem? (i := 13) (by kernel_rfl)
  · refine bnN F rfl rfl fun kV doc pm an cdv ct us ws h1 h2 => ?_
    match us, ws, h1, h2 with
    | [u0, u1], [], _, _ =>
      refine ⟨[u0, u1], rfl, fun vs zs r1 r2 => ?_⟩
      obtain ⟨av0, av1, rfl, a0, a1⟩ := RB.vals2 r1
      cases r2
      exact ⟨_, rfl, (.cons a0 (.cons a1 .nil))⟩
theorem s_42 : ShOk L ((("is_step", 0, ["thing", "size"]), [.k 1, .k 0])) := by
  refine ⟨d_is_step, ?_, rfl, rfl, fun K fd F => ?_⟩
  · exact List.mem_of_getElem? (i := 13) (by kernel_rfl)
  · refine bnN F rfl rfl fun kV doc pm an cdv ct us ws h1 h2 => ?_
    match us, ws, h1, h2 with
    | [], [w0, w1], _, _ =>
      refine ⟨[w1, w0], rfl, fun vs zs r1 r2 => ?_⟩
      cases r1
      obtain ⟨bv0, bv1, rfl, b0, b1⟩ := RB.vals2 r2
      exact ⟨_, rfl, (.cons b1 (.cons b0 .nil))⟩
theorem s_43 : ShOk L ((("_law_told", 1, []), [.p 0])) := by
  refine ⟨d_law_told, ?_, rfl, rfl, fun K fd F => ?_⟩
  · exact List.mem_of_getElem? (i := 36) (by kernel_rfl)
  · refine bnN F rfl rfl fun kV doc pm an cdv ct us ws h1 h2 => ?_
    match us, ws, h1, h2 with
    | [u0], [], _, _ =>
      refine ⟨[u0], rfl, fun vs zs r1 r2 => ?_⟩
      obtain ⟨av0, rfl, a0⟩ := RB.vals1 r1
      cases r2
      exact ⟨_, rfl, (.cons a0 .nil)⟩
theorem s_44 : ShOk L ((("_law_due", 1, []), [.p 0])) := by
  refine ⟨d_law_due, ?_, rfl, rfl, fun K fd F => ?_⟩
  · exact List.mem_of_getElem? (i := 35) (by kernel_rfl)
  · refine bnN F rfl rfl fun kV doc pm an cdv ct us ws h1 h2 => ?_
    match us, ws, h1, h2 with
    | [u0], [], _, _ =>
      refine ⟨[u0], rfl, fun vs zs r1 r2 => ?_⟩
      obtain ⟨av0, rfl, a0⟩ := RB.vals1 r1
      cases r2
      exact ⟨_, rfl, (.cons a0 .nil)⟩
theorem shp0_ok : ∀ q ∈ shp0, ShOk L q := (all_cons s_0 (all_cons s_1 (all_cons s_2 (all_cons s_3 (all_cons s_4 (all_cons s_5 (all_cons s_6 (all_cons s_7 (all_cons s_8 (all_cons s_9 (all_cons s_10 (all_cons s_11 (all_cons s_12 (all_cons s_13 (all_cons s_14 all_nil)))))))))))))))
theorem shp1_ok : ∀ q ∈ shp1, ShOk L q := (all_cons s_15 (all_cons s_16 (all_cons s_17 (all_cons s_18 (all_cons s_19 (all_cons s_20 (all_cons s_21 (all_cons s_22 (all_cons s_23 (all_cons s_24 (all_cons s_25 (all_cons s_26 (all_cons s_27 (all_cons s_28 (all_cons s_29 all_nil)))))))))))))))
theorem shp2_ok : ∀ q ∈ shp2, ShOk L q := (all_cons s_30 (all_cons s_31 (all_cons s_32 (all_cons s_33 (all_cons s_34 (all_cons s_35 (all_cons s_36 (all_cons s_37 (all_cons s_38 (all_cons s_39 (all_cons s_40 (all_cons s_41 (all_cons s_42 (all_cons s_43 (all_cons s_44 all_nil)))))))))))))))
theorem shp_ok : ∀ q ∈ tb.shapes, ShOk L q := (all_app (all_app shp0_ok shp1_ok) shp2_ok)
theorem ini_InvalidPaper : Ini x_InvalidPaper.x1 x_InvalidPaper.x2 "__init__" x_InvalidPaper.qual x_InvalidPaper.params x_InvalidPaper.body x_InvalidPaper.scope :=
  ⟨by intros; first | rfl | with_unfolding_all rfl | kernel_rfl, ⟨_, rfl, rfl⟩, ⟨_, _, _, _, _, _, _, _, _, _, _, _, _, _, _, rfl, rfl⟩, rfl, rfl, rfl, rfl, rfl, by decide +kernel, rfl, rfl, rfl, by decide, by decide, by decide, by decide, by decide⟩
theorem ini_NotUsable : Ini x_NotUsable.x1 x_NotUsable.x2 "__init__" x_NotUsable.qual x_NotUsable.params x_NotUsable.body x_NotUsable.scope :=
  ⟨by intros; first | rfl | with_unfolding_all rfl | kernel_rfl, ⟨_, rfl, rfl⟩, ⟨_, _, _, _, _, _, _, _, _, _, _, _, _, _, _, rfl, rfl⟩, rfl, rfl, rfl, rfl, rfl, by decide +kernel, rfl, rfl, rfl, by decide, by decide, by decide, by decide, by decide⟩
theorem ini_InvalidText : Ini x_InvalidText.x1 x_InvalidText.x2 "__init__" x_InvalidText.qual x_InvalidText.params x_InvalidText.body x_InvalidText.scope :=
  ⟨by intros; first | rfl | with_unfolding_all rfl | kernel_rfl, ⟨_, rfl, rfl⟩, ⟨_, _, _, _, _, _, _, _, _, _, _, _, _, _, _, rfl, rfl⟩, rfl, rfl, rfl, rfl, rfl, by decide +kernel, rfl, rfl, rfl, by decide, by decide, by decide, by decide, by decide⟩
theorem code0 : ∀ e ∈ L0, ∃ c, e.comp tb = some c ∧ T.lookup e.nm = some (e.N.length, e.lam, c) ∧ FnScope e.N e.ps (defScope e.st) :=
  (all_cons ⟨_, k_is_number, by kernel_rfl, fscB_ok (by decide +kernel)⟩ (all_cons ⟨_, k_does_ascend, by kernel_rfl, fscB_ok (by decide +kernel)⟩ (all_cons ⟨_, k_is_name, by kernel_rfl, fscB_ok (by decide +kernel)⟩ (all_cons ⟨_, k_is_names, by kernel_rfl, fscB_ok (by decide +kernel)⟩ (all_cons ⟨_, k_is_room, by kernel_rfl, fscB_ok (by decide +kernel)⟩ (all_cons ⟨_, k_is_need, by kernel_rfl, fscB_ok (by decide +kernel)⟩ (all_cons ⟨_, k_is_moment, by kernel_rfl, fscB_ok (by decide +kernel)⟩ (all_cons ⟨_, k_is_needs, by kernel_rfl, fscB_ok (by decide +kernel)⟩ (all_cons ⟨_, k_is_clause, by kernel_rfl, fscB_ok (by decide +kernel)⟩ (all_cons ⟨_, k_is_rule, by kernel_rfl, fscB_ok (by decide +kernel)⟩ (all_cons ⟨_, k_is_size, by kernel_rfl, fscB_ok (by decide +kernel)⟩ (all_cons ⟨_, k_is_any_step, by kernel_rfl, fscB_ok (by decide +kernel)⟩ all_nil))))))))))))
theorem code1 : ∀ e ∈ L1, ∃ c, e.comp tb = some c ∧ T.lookup e.nm = some (e.N.length, e.lam, c) ∧ FnScope e.N e.ps (defScope e.st) :=
  (all_cons ⟨_, k_has_step, by kernel_rfl, fscB_ok (by decide +kernel)⟩ (all_cons ⟨_, k_is_step, by kernel_rfl, fscB_ok (by decide +kernel)⟩ (all_cons ⟨_, k_law_feed, by kernel_rfl, fscB_ok (by decide +kernel)⟩ (all_cons ⟨_, k_law_draw, by kernel_rfl, fscB_ok (by decide +kernel)⟩ (all_cons ⟨_, k_law_pick, by kernel_rfl, fscB_ok (by decide +kernel)⟩ (all_cons ⟨_, k_law_needs, by kernel_rfl, fscB_ok (by decide +kernel)⟩ (all_cons ⟨_, k_law_pair, by kernel_rfl, fscB_ok (by decide +kernel)⟩ (all_cons ⟨_, k_law_plan, by kernel_rfl, fscB_ok (by decide +kernel)⟩ (all_cons ⟨_, k_law_names, by kernel_rfl, fscB_ok (by decide +kernel)⟩ (all_cons ⟨_, k_law_sized, by kernel_rfl, fscB_ok (by decide +kernel)⟩ (all_cons ⟨_, k_law_is_number, by kernel_rfl, fscB_ok (by decide +kernel)⟩ (all_cons ⟨_, k_law_is_name, by kernel_rfl, fscB_ok (by decide +kernel)⟩ all_nil))))))))))))
theorem code2 : ∀ e ∈ L2, ∃ c, e.comp tb = some c ∧ T.lookup e.nm = some (e.N.length, e.lam, c) ∧ FnScope e.N e.ps (defScope e.st) :=
  (all_cons ⟨_, k_law_is_needs, by kernel_rfl, fscB_ok (by decide +kernel)⟩ (all_cons ⟨_, k_law_is_moment, by kernel_rfl, fscB_ok (by decide +kernel)⟩ (all_cons ⟨_, k_law_is_pair, by kernel_rfl, fscB_ok (by decide +kernel)⟩ (all_cons ⟨_, k_law_is_plan, by kernel_rfl, fscB_ok (by decide +kernel)⟩ (all_cons ⟨_, k_law_are_names, by kernel_rfl, fscB_ok (by decide +kernel)⟩ (all_cons ⟨_, k_law_is_sized, by kernel_rfl, fscB_ok (by decide +kernel)⟩ (all_cons ⟨_, k_law_is_move, by kernel_rfl, fscB_ok (by decide +kernel)⟩ (all_cons ⟨_, k_law_fits, by kernel_rfl, fscB_ok (by decide +kernel)⟩ (all_cons ⟨_, k_law_strange, by kernel_rfl, fscB_ok (by decide +kernel)⟩ (all_cons ⟨_, k_law_bent, by kernel_rfl, fscB_ok (by decide +kernel)⟩ (all_cons ⟨_, k_law_no, by kernel_rfl, fscB_ok (by decide +kernel)⟩ (all_cons ⟨_, k_law_due, by kernel_rfl, fscB_ok (by decide +kernel)⟩ all_nil))))))))))))
theorem code3 : ∀ e ∈ L3, ∃ c, e.comp tb = some c ∧ T.lookup e.nm = some (e.N.length, e.lam, c) ∧ FnScope e.N e.ps (defScope e.st) :=
  (all_cons ⟨_, k_law_told, by kernel_rfl, fscB_ok (by decide +kernel)⟩ (all_cons ⟨_, k_law_move, by kernel_rfl, fscB_ok (by decide +kernel)⟩ (all_cons ⟨_, k_law, by kernel_rfl, fscB_ok (by decide +kernel)⟩ all_nil)))
theorem code_ok : ∀ e ∈ L, ∃ c, e.comp tb = some c ∧ T.lookup e.nm = some (e.N.length, e.lam, c) ∧ FnScope e.N e.ps (defScope e.st) := (all_app (all_app (all_app code0 code1) code2) code3)
theorem mem_fa {x : Fa} (i : Nat) (h : fa[i]? = some x) : x ∈ fa := List.mem_of_getElem? h
theorem mem_fn {x : DefD} (i : Nat) (h : fn[i]? = some x) : x ∈ fn := List.mem_of_getElem? h
theorem fnm0 : ∀ e ∈ L0, e.d ∈ fn ∧ Fa.glo e.nm ∈ fa := (all_cons ⟨mem_fn 0 (by kernel_rfl), (mem_fa 0 (by kernel_rfl))⟩ (all_cons ⟨mem_fn 1 (by kernel_rfl), (mem_fa 1 (by kernel_rfl))⟩ (all_cons ⟨mem_fn 2 (by kernel_rfl), (mem_fa 2 (by kernel_rfl))⟩ (all_cons ⟨mem_fn 3 (by kernel_rfl), (mem_fa 3 (by kernel_rfl))⟩ (all_cons ⟨mem_fn 4 (by kernel_rfl), (mem_fa 4 (by kernel_rfl))⟩ (all_cons ⟨mem_fn 5 (by kernel_rfl), (mem_fa 5 (by kernel_rfl))⟩ (all_cons ⟨mem_fn 6 (by kernel_rfl), (mem_fa 6 (by kernel_rfl))⟩ (all_cons ⟨mem_fn 7 (by kernel_rfl), (mem_fa 7 (by kernel_rfl))⟩ (all_cons ⟨mem_fn 8 (by kernel_rfl), (mem_fa 8 (by kernel_rfl))⟩ (all_cons ⟨mem_fn 9 (by kernel_rfl), (mem_fa 9 (by kernel_rfl))⟩ (all_cons ⟨mem_fn 10 (by kernel_rfl), (mem_fa 10 (by kernel_rfl))⟩ (all_cons ⟨mem_fn 11 (by kernel_rfl), (mem_fa 11 (by kernel_rfl))⟩ all_nil))))))))))))
theorem fnm1 : ∀ e ∈ L1, e.d ∈ fn ∧ Fa.glo e.nm ∈ fa := (all_cons ⟨mem_fn 12 (by kernel_rfl), (mem_fa 12 (by kernel_rfl))⟩ (all_cons ⟨mem_fn 13 (by kernel_rfl), (mem_fa 13 (by kernel_rfl))⟩ (all_cons ⟨mem_fn 14 (by kernel_rfl), (mem_fa 14 (by kernel_rfl))⟩ (all_cons ⟨mem_fn 15 (by kernel_rfl), (mem_fa 15 (by kernel_rfl))⟩ (all_cons ⟨mem_fn 16 (by kernel_rfl), (mem_fa 16 (by kernel_rfl))⟩ (all_cons ⟨mem_fn 17 (by kernel_rfl), (mem_fa 17 (by kernel_rfl))⟩ (all_cons ⟨mem_fn 18 (by kernel_rfl), (mem_fa 18 (by kernel_rfl))⟩ (all_cons ⟨mem_fn 19 (by kernel_rfl), (mem_fa 19 (by kernel_rfl))⟩ (all_cons ⟨mem_fn 20 (by kernel_rfl), (mem_fa 20 (by kernel_rfl))⟩ (all_cons ⟨mem_fn 21 (by kernel_rfl), (mem_fa 21 (by kernel_rfl))⟩ (all_cons ⟨mem_fn 22 (by kernel_rfl), (mem_fa 22 (by kernel_rfl))⟩ (all_cons ⟨mem_fn 23 (by kernel_rfl), (mem_fa 23 (by kernel_rfl))⟩ all_nil))))))))))))
theorem fnm2 : ∀ e ∈ L2, e.d ∈ fn ∧ Fa.glo e.nm ∈ fa := (all_cons ⟨mem_fn 24 (by kernel_rfl), (mem_fa 24 (by kernel_rfl))⟩ (all_cons ⟨mem_fn 25 (by kernel_rfl), (mem_fa 25 (by kernel_rfl))⟩ (all_cons ⟨mem_fn 26 (by kernel_rfl), (mem_fa 26 (by kernel_rfl))⟩ (all_cons ⟨mem_fn 27 (by kernel_rfl), (mem_fa 27 (by kernel_rfl))⟩ (all_cons ⟨mem_fn 28 (by kernel_rfl), (mem_fa 28 (by kernel_rfl))⟩ (all_cons ⟨mem_fn 29 (by kernel_rfl), (mem_fa 29 (by kernel_rfl))⟩ (all_cons ⟨mem_fn 30 (by kernel_rfl), (mem_fa 30 (by kernel_rfl))⟩ (all_cons ⟨mem_fn 31 (by kernel_rfl), (mem_fa 31 (by kernel_rfl))⟩ (all_cons ⟨mem_fn 32 (by kernel_rfl), (mem_fa 32 (by kernel_rfl))⟩ (all_cons ⟨mem_fn 33 (by kernel_rfl), (mem_fa 33 (by kernel_rfl))⟩ (all_cons ⟨mem_fn 34 (by kernel_rfl), (mem_fa 34 (by kernel_rfl))⟩ (all_cons ⟨mem_fn 35 (by kernel_rfl), (mem_fa 35 (by kernel_rfl))⟩ all_nil))))))))))))
theorem fnm3 : ∀ e ∈ L3, e.d ∈ fn ∧ Fa.glo e.nm ∈ fa := (all_cons ⟨mem_fn 36 (by kernel_rfl), (mem_fa 36 (by kernel_rfl))⟩ (all_cons ⟨mem_fn 37 (by kernel_rfl), (mem_fa 37 (by kernel_rfl))⟩ (all_cons ⟨mem_fn 38 (by kernel_rfl), (mem_fa 38 (by kernel_rfl))⟩ all_nil)))
theorem fnm_ok : ∀ e ∈ L, e.d ∈ fn ∧ Fa.glo e.nm ∈ fa := (all_app (all_app (all_app fnm0 fnm1) fnm2) fnm3)
def saidP : List Pos := [⟨204, 4, 204, 14⟩, ⟨204, 18, 204, 23⟩, ⟨204, 17, 204, 25⟩, ⟨204, 4, 204, 25⟩, ⟨206, 8, 206, 18⟩, ⟨206, 22, 206, 28⟩, ⟨206, 30, 206, 38⟩, ⟨206, 30, 206, 40⟩, ⟨206, 21, 206, 41⟩, ⟨206, 8, 206, 41⟩, ⟨207, 11, 207, 20⟩, ⟨208, 8, 208, 18⟩, ⟨208, 21, 208, 33⟩, ⟨208, 34, 208, 40⟩, ⟨208, 21, 208, 41⟩, ⟨208, 8, 208, 41⟩, ⟨207, 4, 208, 41⟩, ⟨205, 4, 208, 41⟩, ⟨209, 11, 209, 21⟩, ⟨209, 4, 209, 21⟩]
theorem law_ok : LawOk D where
  fn := fun e he => (fnm_ok e he).1
  glo := fun e he => (fnm_ok e he).2
  code := code_ok
  free := (all_cons (mem_fa 49 (by kernel_rfl)) (all_cons (mem_fa 50 (by kernel_rfl)) (all_cons (mem_fa 51 (by kernel_rfl)) (all_cons (mem_fa 52 (by kernel_rfl)) (all_cons (mem_fa 53 (by kernel_rfl)) (all_cons (mem_fa 54 (by kernel_rfl)) (all_cons (mem_fa 55 (by kernel_rfl)) (all_cons (mem_fa 56 (by kernel_rfl)) (all_cons (mem_fa 57 (by kernel_rfl)) (all_cons (mem_fa 58 (by kernel_rfl)) (all_cons (mem_fa 59 (by kernel_rfl)) (all_cons (mem_fa 60 (by kernel_rfl)) (all_cons (mem_fa 61 (by kernel_rfl)) all_nil)))))))))))))
  con := fun q hq => hq
  shp := shp_ok
  exc := fun x ff h => by
    have h2 := lookup_in h
    have key : ∀ q ∈ tb.excs, ∃ d ∈ top.xs, d.nm = q.1 ∧ q.2 = (d.x1, d.x2) := (all_cons ⟨x_InvalidPaper, List.mem_of_getElem? (i := 0) rfl, rfl, rfl⟩ (all_cons ⟨x_NotUsable, List.mem_of_getElem? (i := 1) rfl, rfl, rfl⟩ (all_cons ⟨x_InvalidText, List.mem_of_getElem? (i := 2) rfl, rfl, rfl⟩ all_nil)))
    exact key _ h2
  ini := (all_cons ⟨ini_InvalidPaper, (mem_fa 47 (by kernel_rfl)), (mem_fa 64 (by kernel_rfl))⟩ (all_cons ⟨ini_NotUsable, (mem_fa 46 (by kernel_rfl)), (mem_fa 65 (by kernel_rfl))⟩ (all_cons ⟨ini_InvalidText, (mem_fa 48 (by kernel_rfl)), (mem_fa 66 (by kernel_rfl))⟩ all_nil)))
  sup := ⟨(mem_fa 62 (by kernel_rfl)), by kernel_rfl⟩
  lam := by
    have key : ∀ e ∈ L, e.lam = true → (e.nm, (none : Option Str)) ∈ top.lams := by decide +kernel
    exact key
  all := (all_cons ⟨x_NotUsable, List.mem_of_getElem? (i := 1) rfl, rfl⟩ (all_cons ⟨x_InvalidPaper, List.mem_of_getElem? (i := 0) rfl, rfl⟩ (all_cons ⟨x_InvalidText, List.mem_of_getElem? (i := 2) rfl, rfl⟩ all_nil)))
  fam := ⟨(all_cons (mem_fa 42 (by kernel_rfl)) (all_cons (mem_fa 43 (by kernel_rfl)) (all_cons (mem_fa 44 (by kernel_rfl)) (all_cons (mem_fa 45 (by kernel_rfl)) (all_cons (mem_fa 46 (by kernel_rfl)) (all_cons (mem_fa 47 (by kernel_rfl)) (all_cons (mem_fa 48 (by kernel_rfl)) all_nil))))))), (mem_fa 41 (by kernel_rfl)), (mem_fa 63 (by kernel_rfl)), (mem_fa 52 (by kernel_rfl))⟩
  said := ⟨fun n => saidP.getD n ⟨0, 0, 0, 0⟩, defArgs (Tp 50), defScope (Tp 50), mem_fn 39 (by kernel_rfl), (mem_fa 39 (by kernel_rfl)), fscB_ok (by decide +kernel), fun _ _ _ _ _ _ us hl => match us, hl with | [_], _ => rfl, rfl, rfl, rfl, rfl, rfl⟩
  ref := ⟨defArgs (Tp 49), defBody (Tp 49), defScope (Tp 49), mem_fn 40 (by kernel_rfl), (mem_fa 40 (by kernel_rfl)), fscB_ok (by decide +kernel), fun G X E a D dd b hK hF hH hu hN hs => refusal_body hK hF hH hu (by rw [hN]; decide) (by rw [hN]; rfl) (by rw [hN]; rfl) (by rw [hs]; rfl) (by rw [hs]; rfl) (by show X.env.scope.names.lookup _ = _; rw [hs]; rfl) (by show X.env.scope.names.lookup _ = _; rw [hs]; rfl) (by
      intro c hc
      show X.env.scope.names.lookup c = _
      rw [hs]
      have key : ∀ c ∈ famNames, (defScope (Tp 49)).names.lookup c = some .globalImplicit := by decide +kernel
      exact key c hc) rfl rfl, fun _ _ _ _ _ _ us hl => match us, hl with | [_], _ => rfl⟩
def loose0 : List Str := ["RoomError",
  "PaperError",
  "UseError",
  "BenchError",
  "TextError",
  "InvalidPaper",
  "NotUsable",
  "InvalidText",
  "LETTERS",
  "MOST_LETTERS",
  "NEEDS",
  "MOMENTS",
  "is_number",
  "does_ascend",
  "is_name",
  "is_names",
  "is_room",
  "is_need",
  "is_moment",
  "is_needs"]
def loose1 : List Str := ["is_clause",
  "is_rule",
  "is_size",
  "is_any_step",
  "has_step",
  "is_step",
  "_law_feed",
  "_law_draw",
  "_law_pick",
  "_law_needs",
  "_law_pair",
  "_law_plan",
  "_law_names",
  "_law_sized",
  "_law_is_number",
  "_law_is_name",
  "_law_is_needs",
  "_law_is_moment",
  "_law_is_pair",
  "_law_is_plan"]
def loose2 : List Str := ["_law_are_names",
  "_law_is_sized",
  "_law_is_move",
  "_law_fits",
  "_law_strange",
  "_law_bent",
  "_law_refusal",
  "_law_said",
  "_law_no",
  "_law_due",
  "_law_told",
  "_law_move"]
def loose : List Str := loose0 ++ loose1 ++ loose2
abbrev Rw : PySem.W.OpenRow := PySem.W.OpenLaw.row PySem.Challenge.rw_roomsback_k01_kinds_told
abbrev hk : PySem.W.Hook := hookR 6 top
def ob (s : PySem.W.SharedT) : AlR := obsR 6 top (HandSHeadRun.getT s)
theorem ob_eq (s : PySem.W.SharedT) : ob s = hk.obs s.abs := obsR_eq (HandSHeadRun.getT_eq s)
end RB.K01
/-! RQ1a: law k01: what is told of a value, what is due. -/
namespace RB
open PySem PySem.Spec L2
variable {T : Run} {X : XQ}
/-- a value that is asked of -/
def It1 (x : PyData) : Prop := Gn 30 80 (10 ^ 60) 12 x ∧ wt x ≤ 60000
theorem gn_short {m s B d : Nat} {x : PyData} (h : Gn m s B d x) (hm : m ≤ 60) : short x = true ∧ shortIn x = true := by
  have one : ∀ {d : Nat} {x : PyData}, Gn m s B d x → short x = true := fun {d x} h => by
    cases x with
    | tuple xs =>
      cases d with
      | zero => unfold Gn at h; exact h.elim
      | succ d => exact decide_eq_true (by have := (gn_tup.mp h).1; omega)
    | _ => rfl
  refine ⟨one h, ?_⟩
  cases x with
  | tuple xs =>
    cases d with
    | zero => unfold Gn at h; exact h.elim
    | succ d => exact List.all_eq_true.mpr fun y hy => one ((gn_tup.mp h).2 y hy)
  | _ => rfl
theorem gn_nice {m s B d : Nat} {x : PyData} (h : Gn m s B d x) (hm : m ≤ 2000) (hs : s ≤ 2000) (hB : B < 10 ^ 100) (hd : d ≤ 30) : Nice x := ⟨d, hd, (h.fine hB).mono hm hs (Nat.le_refl _)⟩
def kinds1 (x : PyData) : List PyData := [.bool (isName x), .bool (isNumD x), .bool (isNeeds x), .bool (isClause x), .bool (isRule x), .bool (isSize x)]
structure Due1 (T : Run) : Prop where
  n : PuB T 1 "_law_is_name" isName
  m : PuB T 1 "_law_is_number" isNumD
  d : PuB T 1 "_law_is_needs" isNeeds
  p : PuB T 2 "_law_is_pair" isClause
  r : PuS T 3 "_law_is_plan" isRule
  s : ∀ j, 3 ≤ j → ∀ x, Nice x → shortIn x = true → ∀ h, clk T j "_law_is_sized" [.d x] h = .ok (.d (.bool (isSize x))) h
  due : Has T "_law_due" 2 K01.c_law_due
theorem mk5 {a b c d e : PyData} : mkLst [.d a, .d b, .d c, .d d, .d e] = some (.d (.list [a, b, c, d, e])) := rfl
theorem mk1 {a : PyData} : mkLst [.d a] = some (.d (.list [a])) := rfl
theorem mk2 {a b : PyData} : mkLst [.d a, .d b] = some (.d (.list [a, b])) := rfl
theorem due1_ok (B : Due1 T) {j : Nat} (hj : 4 ≤ j) {x : PyData} (hx : Nice x) (h1 : short x = true) (h2 : shortIn x = true) (h : AH) : clk T j "_law_due" [.d x] h = .ok (.d (.list (kinds1 x))) h := by
  refine Wp.eq ((w_clk B.due (by omega)).mpr ?_)
  unfold K01.c_law_due
  simp only [w_seq, w_asg, w_ret, w_lst, w_cons, w_nil, w_call, w_var, w_bin]
  simp [B.n (j - 1) (by omega) x hx, B.m (j - 1) (by omega) x hx, B.d (j - 1) (by omega) x hx, B.p (j - 1) (by omega) x hx, B.r (j - 1) (by omega) x hx h1, B.s (j - 1) (by omega) x hx h2, mk5, mk1]
  simp [add_lst, kinds1]
structure Told1 (T : Run) : Prop where
  n : PuB T 1 "is_name" isName
  m : PuB T 2 "is_room" isNumD
  d : PuB T 2 "is_needs" isNeeds
  p : PuB T 3 "is_clause" isClause
  r : PuB T 4 "is_rule" isRule
  s : ∀ j, 3 ≤ j → ∀ x, Nice x → shortIn x = true → ∀ h, clk T j "is_size" [.d x] h = .ok (.d (.bool (isSize x))) h
  told : Has T "_law_told" 2 K01.c_law_told
theorem told1_ok (B : Told1 T) {j : Nat} (hj : 5 ≤ j) {x : PyData} (hx : Nice x) (h2 : shortIn x = true) (h : AH) : clk T j "_law_told" [.d x] h = .ok (.d (.list (kinds1 x))) h := by
  refine Wp.eq ((w_clk B.told (by omega)).mpr ?_)
  unfold K01.c_law_told
  simp only [w_seq, w_asg, w_ret, w_lst, w_cons, w_nil, w_call, w_var, w_bin]
  simp [B.n (j - 1) (by omega) x hx, B.m (j - 1) (by omega) x hx, B.d (j - 1) (by omega) x hx, B.p (j - 1) (by omega) x hx, B.r (j - 1) (by omega) x hx, B.s (j - 1) (by omega) x hx h2, mk5, mk1]
  simp [add_lst, kinds1]
theorem bools_says (bs : List Bool) (hl : bs.length ≤ 100) : says (.list (bs.map PyData.bool)) = true := by
  have g : Gn 100 100 1 1 (.list (bs.map PyData.bool)) := gn_lst.mpr ⟨by rw [List.length_map]; exact hl, fun x hx => by
    obtain ⟨b, _, rfl⟩ := List.mem_map.mp hx
    exact gn_bool⟩
  have w : wt (.list (bs.map PyData.bool)) ≤ 3 + 100 * 7 := by
    rw [wt_lst]
    have := wtL_le (B := 5) (xs := bs.map PyData.bool) fun x hx => by
      obtain ⟨b, _, rfl⟩ := List.mem_map.mp hx
      rw [wt_bool]
      exact Nat.le_refl _
    rw [List.length_map] at this
    have := Nat.mul_le_mul_right 7 hl
    omega
  exact ((g.shw (by decide)).mono w).says (by omega) (gn_nice g (by omega) (by omega) (by decide) (by omega)).sh
theorem kinds_says (x : PyData) : says (.list (kinds1 x)) = true := bools_says [isName x, isNumD x, isNeeds x, isClause x, isRule x, isSize x] (by simp)
/-- a row of values, shown -/
theorem row_says {xs : List PyData} (h : ∀ x ∈ xs, It1 x) (hl : xs.length ≤ 120) : says (.list xs) = true ∧ Nice (.list xs) := by
  have g : Gn 120 80 (10 ^ 60) 13 (.list xs) := gn_lst.mpr ⟨hl, fun x hx => (h x hx).1.mono (by omega) (by omega) (by omega) (by omega)⟩
  have w : wt (.list xs) ≤ 3 + 120 * 60002 := by
    rw [wt_lst]
    have := wtL_le (B := 60000) fun x hx => (h x hx).2
    have := Nat.mul_le_mul_right 60002 hl
    omega
  have n := gn_nice g (by omega) (by omega) (by decide) (by omega)
  exact ⟨((g.shw (by decide)).mono w).says (by omega) n.sh, n⟩
end RB
/-! RQ1b: law k01: the law gives True. -/
namespace RB
open PySem PySem.Spec L2
variable {T : Run} {X : XQ}
/-! ### walks over places -/
mutual
theorem beqD_lay : ∀ (x : PyData), x.canLay0 = true → beqD x x = true
  | .none, _ => by rw [beqD]
  | .bool b, _ => by rw [beqD]; exact beq_self_eq_true b
  | .int b, _ => by rw [beqD]; exact beq_self_eq_true b
  | .str b, _ => by rw [beqD]; exact beq_self_eq_true b
  | .list xs, h => by rw [PyData.canLay0] at h; rw [beqD]; exact beqL_lay xs h
  | .tuple xs, h => by rw [PyData.canLay0] at h; rw [beqD]; exact beqL_lay xs h
  | .dict _, h => by rw [PyData.canLay0] at h; cases h
theorem beqL_lay : ∀ (xs : List PyData), PyData.canLayAll0 xs = true → beqL xs xs = true
  | [], _ => by rw [beqL]
  | x :: xs, h => by
    rw [PyData.canLayAll0] at h
    obtain ⟨h1, h2⟩ := Bool.and_eq_true_iff.mp h
    rw [beqL, beqD_lay x h1, beqL_lay xs h2]
    rfl
end
theorem nice_walk {n : Nat} {xs : List PyData} {h : AH} (nx : Nice (.list xs)) (e : h[n]? = some (.lst xs)) : walkOk ⟨xs, some n⟩ h = true := by
  have c := SeqAt.canLay_of_shaped nx.sh
  rw [PyData.canLay0] at c
  show (match h[n]? with | some (.lst ys) => beqL ys xs | _ => false) = true
  rw [e]
  exact beqL_lay xs c
theorem compGo_pureW {tg : Tg} {lw : Lc} {t : FT} {e : FE} {h : AH} {s : Src} (hw : walkOk s h = true) (b : PyData → Bool) (φ : PyData → PyData) :
    ∀ (xs acc : List PyData), acc.length + xs.length ≤ sizeLine → (∀ x ∈ xs, ∃ l2, tg.put (.d x) lw = some l2 ∧ t l2 h = .ok (b x) h ∧ (b x = true → e l2 h = .ok (.d (φ x)) h)) → compGo s tg lw t e xs acc h = .ok (acc ++ (xs.filter b).map φ) h
  | [], acc, _, _ => by
    unfold compGo
    simp [hw]
  | x :: xs, acc, hl, hx => by
    obtain ⟨l2, e1, e2, e3⟩ := hx x List.mem_cons_self
    unfold compGo
    rw [List.length_cons] at hl
    cases hb : b x with
    | true =>
      have e4 := e3 hb
      rw [hb] at e2
      have ih := compGo_pureW (tg := tg) (lw := lw) (t := t) (e := e) hw b φ xs (acc ++ [φ x]) (by rw [List.length_append]; simp only [List.length_singleton]; omega) fun y hy => hx y (List.mem_cons_of_mem _ hy)
      simp only [hw, if_true, e1, e2, e4, noX, R.bind, asD, if_pos (show acc.length < sizeLine by omega), ih, List.filter_cons, hb, List.map_cons, List.append_assoc, List.singleton_append]
    | false =>
      rw [hb] at e2
      have ih := compGo_pureW (tg := tg) (lw := lw) (t := t) (e := e) hw b φ xs acc (by omega) fun y hy => hx y (List.mem_cons_of_mem _ hy)
      simp only [hw, if_true, e1, e2, noX, R.bind, ih, List.filter_cons, hb, Bool.false_eq_true, if_false]
theorem wp_compW {s : Src} {tg : Tg} {lw : Lc} {t : FT} {e : FE} {h : AH} {X : XQ} {Q : List PyData → AH → Prop} (b : PyData → Bool) (φ : PyData → PyData) (hw : walkOk s h = true) (hl : s.items.length ≤ sizeLine)
    (hx : ∀ x ∈ s.items, ∃ l2, tg.put (.d x) lw = some l2 ∧ t l2 h = .ok (b x) h ∧ (b x = true → e l2 h = .ok (.d (φ x)) h)) (q : Q ((s.items.filter b).map φ) h) : Wp (compGo s tg lw t e s.items [] h) Q X := by
  rw [compGo_pureW hw b φ s.items [] (by simpa using hl) hx]
  simpa using q
/-! ### how much rules weigh -/
theorem word_gn {m s B d : Nat} {x : PyData} (hs : 8 ≤ s) (h : x ∈ needsL ∨ x ∈ momentsL) : Gn m s B d x ∧ wt x ≤ 82 := by
  have key : (needsL ++ momentsL).all (fun x => isStrD x && decide (wt x ≤ 82)) = true := by decide +kernel
  have k := List.all_eq_true.mp key x (List.mem_append.mpr h)
  obtain ⟨k1, k2⟩ := Bool.and_eq_true_iff.mp k
  exact ⟨(txf_words (m := m) (s := s) (d := d) hs h).gn, of_decide_eq_true k2⟩
theorem needs_gn {m s B d : Nat} {ts : List PyData} (hs : 8 ≤ s) (hm : 4 ≤ m) (h : ts.Sublist needsL) : Gn m s B (d + 1) (.tuple ts) ∧ wt (.tuple ts) ≤ 340 := by
  have hl := h.length_le
  have l4 : needsL.length = 4 := rfl
  refine ⟨gn_tup.mpr ⟨by omega, fun x hx => (word_gn hs (.inl (h.subset hx))).1⟩, ?_⟩
  rw [wt_tup]
  have := wtL_le (B := 82) fun x hx => (word_gn (m := 1) (s := 8) (B := 1) (d := 1) (by omega) (.inl (h.subset hx))).2
  have := Nat.mul_le_mul_right 84 hl
  omega
theorem pair_gn {m s B d : Nat} {x : PyData} (hs : 8 ≤ s) (hm : 4 ≤ m) (h : PairP x) : Gn m s B (d + 2) x ∧ wt x ≤ 430 := by
  obtain ⟨a, ha, ts, rfl, ht⟩ := h
  obtain ⟨n1, n2⟩ := needs_gn (m := m) (s := s) (B := B) (d := d) hs hm ht
  obtain ⟨w1, w2⟩ := word_gn (m := m) (s := s) (B := B) (d := d + 1) hs (.inr ha)
  refine ⟨gn_tup.mpr ⟨by simp; omega, fun x hx => ?_⟩, ?_⟩
  · simp only [List.mem_cons, List.not_mem_nil, or_false] at hx
    rcases hx with rfl | rfl
    · exact w1
    · exact n1
  · rw [wt_tup, wtL_cons, wtL_cons, wtL_nil]
    omega
theorem pairs_gn {m s B d n : Nat} {ps : List PyData} (hs : 8 ≤ s) (hm : 4 ≤ m) (hn : n ≤ m) (hl : ps.length ≤ n) (h : ∀ p ∈ ps, PairP p) : Gn m s B (d + 3) (.tuple ps) ∧ wt (.tuple ps) ≤ 3 + n * 432 := by
  refine ⟨gn_tup.mpr ⟨by omega, fun x hx => (pair_gn hs hm (h x hx)).1⟩, ?_⟩
  rw [wt_tup]
  have := wtL_le (B := 430) fun x hx => (pair_gn (m := 4) (s := 8) (B := 1) (d := 0) (by omega) (by omega) (h x hx)).2
  have := Nat.mul_le_mul_right 432 hl
  omega
structure K01F (T : Run) (y z : Int) : Prop where
  feed : Has T "_law_feed" 2 c_law_feed
  draw : Has T "_law_draw" 7 (c_law_draw y z)
  pick : Has T "_law_pick" 2 c_law_pick
  needs : Has T "_law_needs" 2 c_law_needs
  pair : Has T "_law_pair" 1 c_law_pair
  plan : Has T "_law_plan" 3 c_law_plan
  names : Has T "_law_names" 4 c_law_names
  sized : Has T "_law_sized" 3 c_law_sized
  move : Has T "_law_move" 5 c_law_move
  strange : Has T "_law_strange" 2 c_law_strange
  bent : Has T "_law_bent" 5 c_law_bent
  number : Has T "_law_is_number" 1 c_law_is_number
  no : Has T "_law_no" 1 c_law_no
  fits : Has T "_law_fits" 3 c_law_fits
  isMove : ∀ j, 3 ≤ j → ∀ x, Nice x → shortIn x = true → ∀ h, clk T j "_law_is_move" [.d x] h = .ok (.d (.bool (isStepA x))) h
  isStep : ∀ j, 5 ≤ j → ∀ p x, Nice p → shortIn p = true → Nice x → ∀ h, clk T j "is_step" [.d p, .d x] h = if isSize p = true then .ok (.d (.bool (isStepA x && fitsB p x))) h else refused "size" h
  D : Due1 T
  I : Told1 T
  law : HasL T "law" 12 K01.c_law
def Base1 (x : PyData) : Prop := Gn 20 70 (10 ^ 59) 4 x ∧ wt x ≤ 10000
theorem law1_run {y z : Int} (F : K01F T y z) {ns : List Int} (hn : ns.length ≤ 63) : Wp (clk T 23 "law" [.d (.list (ns.map .int))] []) (fun u _ => u = .d (.bool true)) noE := by
  refine (w_clkL (j := 20) F.law).mpr ?_
  show Wp (semS ⟨clk T 22, clk T 20⟩ K01.c_law _ _) _ _
  have bent : ∀ {m s B d : Nat} {x : PyData} {w : Nat} {o : O} {r : AH} {X : XQ}, 3 ≤ m → m ≤ 1000 → 70 ≤ s → s ≤ 1000 → 10 ^ 59 ≤ B → B < 10 ^ 62 → d + 4 ≤ 22 → Gn m s B d x → wt x ≤ w → Feed o → Wp (clk T 22 "_law_bent" [.r 0, .d x] (o :: r)) (Dq r fun y => Gn (m + 1) (s + 1) (B + 1) (d + 4) y ∧ wt y ≤ 2 * w + 700) X := fun {m s B d x w o r X} h1 h2 h3 h4 h5 h6 h7 h8 h9 fo => by
    refine Wp.mono (bentG_ok F.draw F.pick F.strange F.bent F.number h1 h2 h3 h4 h5 h6 d x h8 22 h7 o fo r) ?_ (fun _ _ _ z => z.elim)
    rintro u h ⟨y, o', rfl, ⟨g1, g2⟩, fo', rfl⟩
    exact ⟨y, o', rfl, ⟨g1, by omega⟩, fo', rfl⟩
  unfold K01.c_law
  -- the feed
  refine seq_step (fun l1 h1 => l1 = [some (.d (.list (ns.map .int))), some (.r 0), none, none, none, none, none, none, none, none, none, none] ∧ ∃ o, Feed o ∧ h1 = [o]) ?_ ?_
  · simp only [w_asg, w_call, w_cons, w_nil, w_var]
    simp
    refine (feed_ok F.feed (j := 22) (by omega) hn).imp ?_
    rintro u h' ⟨rfl, o, fo, rfl⟩
    exact ⟨rfl, o, fo, rfl⟩
  rintro l1 h1 ⟨rfl, o, fo, rfl⟩
  -- strange values
  refine seq_step (fun l1 h1 => ∃ items o, (∀ x ∈ items, It1 x) ∧ items.length ≤ 16 ∧ Feed o ∧ l1 = [some (.d (.list (ns.map .int))), some (.r 0), some (.r 1), none, none, none, none, none, none, none, none, none] ∧ h1 = [o, .lst items]) ?_ ?_
  · simp only [w_asg, w_mcomp, w_range, w_cons, w_nil, w_con]
    simp [range_src (n := 16) (by decide) (by decide)]
    refine wp_compD (fun rest acc h => (∀ x ∈ acc, It1 x) ∧ acc.length + rest.length = 16 ∧ ∃ o', Feed o' ∧ h = [o']) ?_ ?_ _ [] _ ⟨fun p hp => (by cases hp), by simp, o, fo, rfl⟩
    · rintro x xs acc h ⟨a1, a2, o', fo, rfl⟩
      rw [List.length_cons] at a2
      refine ⟨Nat.lt_of_le_of_lt (show acc.length ≤ 2000 by omega) (by decide), _, rfl, ?_⟩
      simp [fYes]
      refine (strange_ok F.draw F.pick F.strange (show 3 ≤ 22 by omega) fo []).imp ?_
      rintro u h' ⟨p, o3, rfl, hp, fo3, rfl⟩
      refine ⟨p, rfl, fun q hq => ?_, by omega, o3, fo3, rfl⟩
      rcases hq with hq | hq
      · exact a1 q hq
      · rw [hq]
        exact ⟨(gn_strange hp).mono (by omega) (by omega) (by decide) (by omega), by have := wt_strange hp; omega⟩
    · rintro items h ⟨a1, a2, o', fo, rfl⟩
      simp at a2
      simp
      exact ⟨items, a1, by omega, o', fo, rfl, rfl⟩
  rintro l1 h1 ⟨items, o, hit, hlen, fo, rfl, rfl⟩
  -- the laps
  refine seq_step (fun l1 h1 => ∃ a3 a4 a5 a6 a7 a8 a9 items o, (∀ x ∈ items, It1 x) ∧ items.length ≤ 112 ∧ Feed o ∧ l1 = [some (.d (.list (ns.map .int))), some (.r 0), some (.r 1), a3, a4, a5, a6, a7, a8, a9, none, none] ∧ h1 = [o, .lst items]) ?_ ?_
  · simp only [w_for, w_range, w_cons, w_nil, w_con]
    simp [range_src (n := 4) (by decide) (by decide)]
    refine wp_for (fun rest l1 h1 => ∃ a3 a4 a5 a6 a7 a8 a9 items o, (∀ x ∈ items, It1 x) ∧ items.length + 24 * rest.length ≤ 112 ∧ Feed o ∧ l1 = [some (.d (.list (ns.map .int))), some (.r 0), some (.r 1), a3, a4, a5, a6, a7, a8, a9, none, none] ∧ h1 = [o, .lst items]) ?_ ?_ _ _ _ ⟨_, _, _, _, _, _, _, items, o, hit, by simp; omega, fo, rfl, rfl⟩
    · rintro x rest l1 h1 ⟨a3, a4, a5, a6, a7, a8, a9, items, o, hit, hlen, fo, rfl, rfl⟩
      rw [List.length_cons] at hlen
      refine ⟨_, rfl, ?_⟩
      -- a rule, a size
      refine seq_step (fun l1 h1 => ∃ pl own o, PlanP 12 pl ∧ SizedP 5 own ∧ Feed o ∧ l1 = [some (.d (.list (ns.map .int))), some (.r 0), some (.r 1), some (.d x), some (.d pl), some (.d own), a6, a7, a8, a9, none, none] ∧ h1 = [o, .lst items]) ?_ ?_
      · have em : mkLst [.d (.int 2), .d (.int 5), .d (.int 12)] = some (.d (.list [.int 2, .int 5, .int 12])) := rfl
        simp only [w_par, w_call, w_cons, w_nil, w_lst, w_var, w_con]
        simp [em]
        refine (pick_d F.draw F.pick (j := 22) (by omega) fo (xs := [.int 2, .int 5, .int 12]) (by simp) (by simp) [.lst items]).imp ?_
        rintro u h' ⟨c, o1, rfl, hc, fo1, rfl⟩
        obtain ⟨cap, rfl, c0, c1⟩ : ∃ cap : Int, c = .int cap ∧ 0 ≤ cap ∧ cap ≤ 12 := by
          simp only [List.mem_cons, List.not_mem_nil, or_false] at hc
          rcases hc with rfl | rfl | rfl
          · exact ⟨2, rfl, by decide, by decide⟩
          · exact ⟨5, rfl, by decide, by decide⟩
          · exact ⟨12, rfl, by decide, by decide⟩
        refine (plan_d_ok F.draw F.pick F.needs F.pair F.plan (j := 22) (by omega) fo1 (cap := cap) c0 (by omega) [.lst items]).imp ?_
        rintro u h' ⟨p, o2, rfl, hp, fo2, rfl⟩
        refine (law_sized_ok F.draw F.pick F.names F.sized (j := 22) (by omega) fo2 (cap := 5) (by decide) (by decide) [.lst items]).imp ?_
        rintro u h' ⟨q, o3, rfl, hq, fo3, rfl⟩
        exact ⟨p, hp.up (by omega), q, hq, o3, fo3, ⟨rfl, rfl⟩, rfl⟩
      rintro l1 h1 ⟨pl, own, o, hpl, hown, fo, rfl, rfl⟩
      obtain ⟨ps, rfl, hps, hpl2, hrule⟩ := id hpl
      obtain ⟨nms, p, g, b, rfl, hnms, p1, p2, g1, g2⟩ := id hown
      obtain ⟨_, e, nne, nmem, nlen, nnames⟩ := id hnms
      cases e
      have nm : ∀ n ∈ nms, isName n = true := fun n h => menu_name (nmem n h)
      have i0 : ixD (.tuple [.tuple nms, .int p, .int g, .bool b]) (.int 0) = some (.tuple nms) := rfl
      have i1 : ixD (.tuple [.tuple nms, .int p, .int g, .bool b]) (.int 1) = some (.int p) := rfl
      obtain ⟨gow, wow⟩ := sized_gn (cap := 5) (m := 20) (s := 70) (B := 10 ^ 59) (d := 0) (by omega) (by omega) (by omega) (Nat.le_refl _) hown
      -- a step
      refine seq_step (fun l1 h1 => ∃ mv o, MoveP nms mv ∧ Feed o ∧ l1 = [some (.d (.list (ns.map .int))), some (.r 0), some (.r 1), some (.d x), some (.d (.tuple ps)), some (.d (.tuple [.tuple nms, .int p, .int g, .bool b])), some (.d mv), a7, a8, a9, none, none] ∧ h1 = [o, .lst items]) ?_ ?_
      · simp only [w_asg, w_call, w_cons, w_nil, w_ix, w_var, w_con]
        simp [i0]
        refine (law_move_ok F.draw F.pick F.move (j := 22) (by omega) fo nne (by omega) [.lst items]).imp ?_
        rintro u h' ⟨q, o3, rfl, hq, fo3, rfl⟩
        exact ⟨q, hq, o3, fo3, rfl, rfl⟩
      rintro l1 h1 ⟨mv, o, hmv, fo, rfl, rfl⟩
      obtain ⟨gmv, wmv⟩ := move_gn (m := 20) (s := 70) (B := 10 ^ 59) (d := 0) nm (by omega) (by omega) (by omega) hmv
      have wmv' : wt mv ≤ 1000 := by omega
      -- values, bent
      refine seq_step (fun l1 h1 => ∃ a7 items o, (∀ x ∈ items, It1 x) ∧ items.length + 24 * rest.length ≤ 112 ∧ Feed o ∧ l1 = [some (.d (.list (ns.map .int))), some (.r 0), some (.r 1), some (.d x), some (.d (.tuple ps)), some (.d (.tuple [.tuple nms, .int p, .int g, .bool b])), some (.d mv), a7, a8, a9, none, none] ∧ h1 = [o, .lst items]) ?_ ?_
      · have hat : ∃ n0 ∈ nms, ixD (.tuple nms) (.int 0) = some n0 := at_tup (by omega) (by have := List.length_pos_iff.mpr nne; omega)
        obtain ⟨n0, hn0, e0⟩ := hat
        have sl : slD none (some 1) (.tuple ps) = some (.tuple (ps.take 1)) := sl_to (by omega)
        have ad := add_tup (xs := ps) (ys := ps.take 1) (by simp; omega)
        simp only [w_for, w_walk, w_lst, w_cons, w_nil, w_call, w_ix, w_var, w_con, w_bin, w_sl, w_no, w_so]
        simp [i0, i1, e0, sl, ad]
        refine (needs_ok F.draw F.needs (j := 22) (by omega) fo [.lst items]).imp ?_
        rintro u h' ⟨v, o2, rfl, ⟨ts, rfl, hts⟩, fo2, rfl⟩
        refine (pair_d_ok F.draw F.pick F.needs F.pair (j := 22) (by omega) fo2 [.lst items]).imp ?_
        rintro u h' ⟨v, o3, rfl, hv, fo3, rfl⟩
        refine ⟨.d (.list [.tuple ps, .tuple [.tuple nms, .int p, .int g, .bool b], .tuple ts, v, mv, n0, .tuple (ps ++ ps.take 1), .int p]), rfl, _, rfl, ?_⟩
        refine wp_for (fun rest2 l1 h1 => ∃ a7 items o, (∀ x ∈ items, It1 x) ∧ items.length + 24 * rest.length + 3 * rest2.length ≤ 112 ∧ (∀ x ∈ rest2, Base1 x) ∧ Feed o ∧ l1 = [some (.d (.list (ns.map .int))), some (.r 0), some (.r 1), some (.d x), some (.d (.tuple ps)), some (.d (.tuple [.tuple nms, .int p, .int g, .bool b])), some (.d mv), a7, a8, a9, none, none] ∧ h1 = [o, .lst items]) ?_ ?_ _ _ _ ⟨_, items, o3, hit, by simp; omega, ?_, fo3, rfl, rfl⟩
        · rintro v rest2 l1 h1 ⟨a7, items, o, hit, hlen, hb, fo, rfl, rfl⟩
          rw [List.length_cons] at hlen
          obtain ⟨gv, wv⟩ := hb v List.mem_cons_self
          refine ⟨_, rfl, ?_⟩
          have la : ∀ (o : O) xs, isLstAt [o, .lst xs] 1 = some xs := fun _ _ => rfl
          simp only [w_seq, w_expr, w_app, w_cons, w_nil, w_var, w_pass, w_call]
          simp [la]
          refine ⟨Nat.lt_of_le_of_lt (show items.length ≤ 2000 by omega) (by decide), ?_⟩
          refine (bent (by omega) (by omega) (by omega) (by omega) (Nat.le_refl _) (by decide) (by omega) gv wv fo).imp ?_
          rintro u h' ⟨y1, o1, rfl, ⟨g1, w1⟩, fo1, rfl⟩
          simp [la]
          refine ⟨Nat.lt_of_le_of_lt (show items.length + 1 ≤ 2000 by omega) (by decide), ?_⟩
          refine (bent (by omega) (by omega) (by omega) (by omega) (Nat.le_refl _) (by decide) (by omega) gv wv fo1).imp ?_
          rintro u h' ⟨y2, o2, rfl, ⟨g2, w2⟩, fo2, rfl⟩
          refine (bent (by omega) (by omega) (by omega) (by omega) (by decide) (by decide) (by omega) g2 w2 fo2).imp ?_
          rintro u h' ⟨y3, o3, rfl, ⟨g3, w3⟩, fo3, rfl⟩
          refine ⟨_, la _ _, _, rfl, Nat.lt_of_le_of_lt (show (items ++ [v, y1]).length ≤ 2000 by simp; omega) (by decide), _, _, fun q hq => ?_, ?_, fun q hq => hb q (List.mem_cons_of_mem _ hq), o3, fo3, rfl, rfl⟩
          · simp only [List.mem_append, List.mem_cons, List.not_mem_nil, or_false] at hq
            rcases hq with (hq | rfl | rfl) | rfl
            · exact hit q hq
            · exact ⟨gv.mono (by omega) (by omega) (by decide) (by omega), by omega⟩
            · exact ⟨g1.mono (by omega) (by omega) (by decide) (by omega), by omega⟩
            · exact ⟨g3.mono (by omega) (by omega) (by decide) (by omega), by omega⟩
          · simp
            omega
        · rintro l1 h1 ⟨a7, items, o, hit, hlen, hb, fo, rfl, rfl⟩
          simp at hlen
          exact ⟨a7, items, hit, by omega, o, fo, rfl, rfl⟩
        · intro q hq
          obtain ⟨gps, wps⟩ := pairs_gn (m := 20) (s := 70) (B := 10 ^ 59) (d := 1) (by omega) (by omega) (by omega) hpl2 hps
          obtain ⟨gts, wts⟩ := needs_gn (m := 20) (s := 70) (B := 10 ^ 59) (d := 3) (by omega) (by omega) hts
          obtain ⟨gv, wv⟩ := pair_gn (m := 20) (s := 70) (B := 10 ^ 59) (d := 2) (by omega) (by omega) hv
          obtain ⟨gp2, wp2⟩ := pairs_gn (m := 20) (s := 70) (B := 10 ^ 59) (d := 1) (n := 13) (ps := ps ++ ps.take 1) (by omega) (by omega) (by omega) (by simp; omega) (fun p hp => (List.mem_append.mp hp).elim (hps p) fun h => hps p (List.mem_of_mem_take h))
          simp only [List.mem_cons, List.not_mem_nil, or_false] at hq
          rcases hq with rfl | rfl | rfl | rfl | rfl | rfl | rfl | rfl
          · exact ⟨gps, by omega⟩
          · exact ⟨gow.mono (by omega) (by omega) (Nat.le_refl _) (by omega), by omega⟩
          · exact ⟨gts, by omega⟩
          · exact ⟨gv, by omega⟩
          · exact ⟨gmv.mono (by omega) (by omega) (Nat.le_refl _) (by omega), by omega⟩
          · exact ⟨name_gn (by omega) (nm _ hn0), by have := name_wt (nm _ hn0); omega⟩
          · exact ⟨gp2, by omega⟩
          · exact ⟨gn_int.mpr (by omega), by rw [wt_int]; omega⟩
      rintro l1 h1 ⟨b7, items, o, hit, hlen, fo, rfl, rfl⟩
      have own_nice : Nice (.tuple [.tuple nms, .int p, .int g, .bool b]) := gn_nice gow (by omega) (by omega) (by decide) (by omega)
      have own_size := sized_ok hown
      have own_short := (gn_short gow (by omega)).2
      -- steps
      refine seq_step (fun l1 h1 => ∃ a7 a8 o, Feed o ∧ l1 = [some (.d (.list (ns.map .int))), some (.r 0), some (.r 1), some (.d x), some (.d (.tuple ps)), some (.d (.tuple [.tuple nms, .int p, .int g, .bool b])), some (.d mv), a7, a8, a9, none, none] ∧ h1 = [o, .lst items]) ?_ ?_
      · simp only [w_for, w_walk, w_lst, w_cons, w_nil, w_call, w_var, w_con]
        simp
        refine (law_names_ok F.draw F.pick F.names (j := 22) (by omega) fo (cap := 3) (by decide) (by decide) [.lst items]).imp ?_
        rintro u h' ⟨n3, o1, rfl, hn3, fo1, rfl⟩
        obtain ⟨nm3, rfl, ne3, mem3, len3, _⟩ := id hn3
        refine (law_move_ok F.draw F.pick F.move (j := 22) (by omega) fo1 ne3 (show nm3.length ≤ 2000 by have : (3 : Int).toNat = 3 := rfl; omega) [.lst items]).imp ?_
        rintro u h' ⟨m3, o2, rfl, hm3, fo2, rfl⟩
        obtain ⟨gm3, wm3⟩ := move_gn (m := 20) (s := 70) (B := 10 ^ 59) (d := 0) (fun n h => menu_name (mem3 n h)) (show nm3.length ≤ 20 by have : (3 : Int).toNat = 3 := rfl; omega) (by omega) (by omega) hm3
        refine (bent (by omega) (by omega) (by omega) (by omega) (Nat.le_refl _) (by decide) (by omega) gmv (Nat.le_refl _) fo2).imp ?_
        rintro u h' ⟨bm, o3, rfl, ⟨gbm, _⟩, fo3, rfl⟩
        refine (strange_ok F.draw F.pick F.strange (show 3 ≤ 22 by omega) fo3 [.lst items]).imp ?_
        rintro u h' ⟨st, o4, rfl, hst, fo4, rfl⟩
        refine ⟨.d (.list [.str "guess"]), rfl, .d (.list [mv, m3, bm, st, .list [.str "guess"]]), rfl, _, rfl, ?_⟩
        refine wp_for (fun rest2 l1 h1 => ∃ a7 a8, (∀ x ∈ rest2, Gn 21 71 (10 ^ 59 + 1) 6 x) ∧ l1 = [some (.d (.list (ns.map .int))), some (.r 0), some (.r 1), some (.d x), some (.d (.tuple ps)), some (.d (.tuple [.tuple nms, .int p, .int g, .bool b])), some (.d mv), a7, a8, a9, none, none] ∧ h1 = [o4, .lst items]) ?_ ?_ _ _ _ ⟨_, _, ?_, rfl, rfl⟩
        · rintro v rest2 l1 h1 ⟨a7, a8, hb, rfl, rfl⟩
          have gv := hb v List.mem_cons_self
          have nv : Nice v := gn_nice gv (by omega) (by omega) (by decide) (by omega)
          have sv := (gn_short gv (by omega)).2
          refine ⟨_, rfl, ?_⟩
          refine seq_step (fun l1 h1 => l1 = [some (.d (.list (ns.map .int))), some (.r 0), some (.r 1), some (.d x), some (.d (.tuple ps)), some (.d (.tuple [.tuple nms, .int p, .int g, .bool b])), some (.d mv), some (.d v), some (.d (.bool (isStepA v && fitsB (.tuple [.tuple nms, .int p, .int g, .bool b]) v))), a9, none, none] ∧ h1 = [o4, .lst items]) ?_ ?_
          · simp only [w_asg, w_and, w_call, w_cons, w_nil, w_var]
            simp [F.isMove 22 (by omega) v nv sv]
            cases hs : isStepA v with
            | false => simp
            | true => simp [law_fits_ok F.fits (j := 22) (by omega) own_size own_nice nv hs]
          rintro l1 h1 ⟨rfl, rfl⟩
          have es := F.isStep 22 (by omega) _ v own_nice own_short nv
          rw [own_size] at es
          obtain ⟨s1, s2⟩ := says_ok (bools_says [isStepA v && fitsB (.tuple [.tuple nms, .int p, .int g, .bool b]) v, isStepA v && fitsB (.tuple [.tuple nms, .int p, .int g, .bool b]) v] (by simp))
          simp only [List.map_cons, List.map_nil] at s1 s2
          generalize (isStepA v && fitsB (.tuple [.tuple nms, .int p, .int g, .bool b]) v) = A at es s1 s2 ⊢
          simp only [w_seq, w_ite, w_cmp, w_blt, w_lst, w_call, w_cons, w_nil, w_var, w_pass, w_ret, w_con]
          simp [es, mk2, s1, s2]
          exact fun q hq => hb q (List.mem_cons_of_mem _ hq)
        · rintro l1 h1 ⟨a7, a8, hb, rfl, rfl⟩
          exact ⟨a7, a8, o4, fo4, rfl, rfl⟩
        · intro q hq
          simp only [List.mem_cons, List.not_mem_nil, or_false] at hq
          rcases hq with rfl | rfl | rfl | rfl | rfl
          · exact gmv.mono (by omega) (by omega) (by decide) (by omega)
          · exact gm3.mono (by omega) (by omega) (by decide) (by omega)
          · exact gbm.mono (by omega) (by omega) (by decide) (by omega)
          · exact (gn_strange hst).mono (by omega) (by omega) (by decide) (by omega)
          · exact gnB_ok (by decide +kernel)
      rintro l1 h1 ⟨c7, c8, o, fo, rfl, rfl⟩
      -- no size
      refine seq_step (fun l1 h1 => ∃ bad o, Gn 21 71 (10 ^ 59 + 1) 6 bad ∧ Feed o ∧ l1 = [some (.d (.list (ns.map .int))), some (.r 0), some (.r 1), some (.d x), some (.d (.tuple ps)), some (.d (.tuple [.tuple nms, .int p, .int g, .bool b])), some (.d mv), c7, c8, some (.d bad), none, none] ∧ h1 = [o, .lst items]) ?_ ?_
      · simp only [w_asg, w_call, w_cons, w_nil, w_var]
        simp
        refine (bent (by omega) (by omega) (by omega) (by omega) (Nat.le_refl _) (by decide) (by omega) gow (Nat.le_refl _) fo).imp ?_
        rintro u h' ⟨bm, o3, rfl, ⟨gbm, _⟩, fo3, rfl⟩
        exact ⟨bm, gbm, o3, fo3, rfl, rfl⟩
      rintro l1 h1 ⟨bad, o, gbad, fo, rfl, rfl⟩
      have nbad : Nice bad := gn_nice gbad (by omega) (by omega) (by decide) (by omega)
      have sbad := (gn_short gbad (by omega)).2
      have nmv : Nice mv := gn_nice gmv (by omega) (by omega) (by decide) (by omega)
      have es := F.isStep 20 (by omega) bad mv nbad sbad nmv
      have ez := F.D.s 22 (by omega) bad nbad sbad
      simp only [w_seq, w_ite, w_and, w_not, w_cmp, w_said, w_call, w_cons, w_nil, w_var, w_pass, w_ret, w_con]
      cases hz : isSize bad with
      | true =>
        rw [hz] at ez
        simp [ez]
        exact ⟨_, _, _, _, _, _, _, items, hit, hlen, o, fo, ⟨rfl, rfl, rfl, rfl, rfl, rfl, rfl⟩, rfl, rfl⟩
      | false =>
        rw [hz] at ez es
        have nq : cmpSem .NotEq (noD "size") (noD "size") = some (.bool false) := by kernel_rfl
        simp [ez, low_f, es, refT_no, law_no_ok F.no, nq]
        exact ⟨_, _, _, _, _, _, _, items, hit, hlen, o, fo, ⟨rfl, rfl, rfl, rfl, rfl, rfl, rfl⟩, rfl, rfl⟩
    · rintro l1 h1 ⟨a3, a4, a5, a6, a7, a8, a9, items, o, hit, hlen, fo, rfl, rfl⟩
      simp at hlen
      exact ⟨_, _, _, _, _, _, _, items, hit, hlen, o, fo, rfl, rfl⟩
  rintro l1 h1 ⟨a3, a4, a5, a6, a7, a8, a9, items, o, hit, hlen, fo, rfl, rfl⟩
  obtain ⟨sy, ny⟩ := row_says hit (by omega)
  obtain ⟨s1, s2⟩ := says_eq sy
  have ed : datUs [o, .lst items] [.r 1] = some [.list items] := by
    unfold datUs datU
    simp [datUs]
  -- kept
  refine seq_step (fun l1 h1 => l1 = [some (.d (.list (ns.map .int))), some (.r 0), some (.r 1), a3, a4, a5, a6, a7, a8, a9, some (.d (.str (PyData.list items).shown)), none] ∧ h1 = [o, .lst items]) ?_ ?_
  · simp only [w_asg, w_blt, w_cons, w_nil, w_var]
    simp [ed, s1]
  rintro l1 h1 ⟨rfl, rfl⟩
  -- asked of all
  refine seq_step (fun l1 h1 => l1 = [some (.d (.list (ns.map .int))), some (.r 0), some (.r 1), a3, a4, a5, a6, a7, a8, a9, some (.d (.str (PyData.list items).shown)), none] ∧ h1 = [o, .lst items]) ?_ ?_
  · simp only [w_ite, w_cmp, w_comp, w_walk, w_lst, w_nil, w_var, w_pass, w_seq, w_ret, w_con]
    have es : srcOf [o, .lst items] (.r 1) = some ⟨items, some 1⟩ := rfl
    simp [es]
    refine wp_compW (s := ⟨items, some 1⟩) (fun _ => false) (fun q => q) (nice_walk ny rfl) (small_size (by show items.length ≤ 2000; omega)) (fun v hv => ?_) ?_
    · obtain ⟨gv, _⟩ := hit v hv
      have nv : Nice v := gn_nice gv (by omega) (by omega) (by decide) (by omega)
      obtain ⟨q1, q2⟩ := gn_short gv (by omega)
      obtain ⟨t1, t2⟩ := says_ok (kinds_says v)
      refine ⟨_, rfl, Wp.eq ?_, fun z => nomatch z⟩
      simp only [w_te, w_cmp, w_blt, w_call, w_cons, w_nil, w_var]
      simp [told1_ok F.I (show 5 ≤ 22 by omega) nv q2, due1_ok F.D (show 4 ≤ 22 by omega) nv q1 q2, t1, t2]
    · have e1 : List.filter (fun _ => false) items = [] := by simp
      simp [e1]
      kernel_rfl
  rintro l1 h1 ⟨rfl, rfl⟩
  -- by name
  have na : Nice (.str "a") := nice_b (m := 1) (s := 1) (d := 1) (by decide +kernel) (by omega) (by omega) (by omega)
  have n0 : Nice (.int 0) := nice_b (m := 1) (s := 1) (d := 1) (by decide +kernel) (by omega) (by omega) (by omega)
  have nt : Nice (.tuple []) := nice_b (m := 1) (s := 1) (d := 1) (by decide +kernel) (by omega) (by omega) (by omega)
  have nc : Nice (.tuple [.str "left", .tuple []]) := nice_b (m := 2) (s := 4) (d := 2) (by decide +kernel) (by omega) (by omega) (by omega)
  have nz : Nice (.tuple [.tuple [.str "a"], .int 1, .int 0, .bool true]) := nice_b (m := 4) (s := 4) (d := 2) (by decide +kernel) (by omega) (by omega) (by omega)
  have k1 : isName (.str "a") = true := by decide +kernel
  have k2 : isNumD (.int 0) = true := by decide +kernel
  have k3 : isNeeds (.tuple []) = true := by decide +kernel
  have k4 : isClause (.tuple [.str "left", .tuple []]) = true := by decide +kernel
  have k5 : isRule (.tuple []) = true := by decide +kernel
  have k6 : isSize (.tuple [.tuple [.str "a"], .int 1, .int 0, .bool true]) = true := by decide +kernel
  have m0 : mkTup [] = some (.d (.tuple [])) := rfl
  have m1 : mkTup [.d (.str "left"), .d (.tuple [])] = some (.d (.tuple [.str "left", .tuple []])) := rfl
  have m2 : mkTup [.d (.str "a")] = some (.d (.tuple [.str "a"])) := rfl
  have m3 : mkTup [.d (.tuple [.str "a"]), .d (.int 1), .d (.int 0), .d (.bool true)] = some (.d (.tuple [.tuple [.str "a"], .int 1, .int 0, .bool true])) := rfl
  refine seq_step (fun l1 h1 => l1 = [some (.d (.list (ns.map .int))), some (.r 0), some (.r 1), a3, a4, a5, a6, a7, a8, a9, some (.d (.str (PyData.list items).shown)), some (.d (.list [.bool true, .bool true, .bool true, .bool true, .bool true]))] ∧ h1 = [o, .lst items]) ?_ ?_
  · simp only [w_asg, w_lst, w_call, w_tup, w_cons, w_nil, w_con]
    simp [F.I.n 22 (by omega) _ na, F.I.m 22 (by omega) _ n0, F.I.d 22 (by omega) _ nt, F.I.p 22 (by omega) _ nc, F.I.r 22 (by omega) _ nt, k1, k2, k3, k4, k5, m0, m1, mk5]
  rintro l1 h1 ⟨rfl, rfl⟩
  have ad := add_lst (xs := [.bool true, .bool true, .bool true, .bool true, .bool true]) (ys := [.bool true]) (by decide)
  have mu : binSem .Mult (.list [.bool true]) (.int 6) = some (.list [.bool true, .bool true, .bool true, .bool true, .bool true, .bool true]) := rfl
  have eq6 : cmpSem .Eq (.list [.bool true, .bool true, .bool true, .bool true, .bool true, .bool true]) (.list [.bool true, .bool true, .bool true, .bool true, .bool true, .bool true]) = some (.bool true) := by kernel_rfl
  simp only [w_seq, w_ret, w_and, w_cmp, w_bin, w_lst, w_call, w_tup, w_cons, w_nil, w_con, w_var, w_blt]
  simp [F.I.s 22 (by omega) _ nz (by decide +kernel), k6, m2, m3, mk1, ad, mu, eq6, ed, s1, s2]
end RB
/-! HeadK01: the top's run (printed by gen2.py). -/
namespace RB.K01
open PySem PySem.Spec PyProof.Rows L2 He LamX
theorem run (w : World) : HandSHeadRun.RunEq Rw (PySem.W.view Rw.prog [55]) hk ob 9000 loose w := by
  intro os
  kernel_rfl
end RB.K01
open PySem PySem.W PySem.Calls PyProof.Rows
theorem RB.K01.whole (j : Nat) (hj : j + 2 ≤ 100) (pure_ : ∀ ns : List Int, ns.length ≤ 63 → ∃ h', RB.clk RB.K01.D.T (j + 1) "law" [.d (.list (ns.map PyData.int))] [] = .ok (.d (.bool true)) h') : PySem.Challenge.rw_roomsback_k01_kinds_told.Holds := by
  w_on; o_law
  refine HandSHeadRun.head_any (r := OpenLaw.row PySem.Challenge.rw_roomsback_k01_kinds_told) (q := view (OpenLaw.row PySem.Challenge.rw_roomsback_k01_kinds_told).prog [55]) (H := RB.K01.hk) (ob := RB.K01.ob) (M := 9000) (loose := RB.K01.loose) (d := HandSHeadRun.topDef (OpenLaw.row PySem.Challenge.rw_roomsback_k01_kinds_told).prog 55) (kwd := []) RB.K01.ob_eq
    (by kernel_rfl) (fun s => by kernel_rfl) RB.K01.run (by kernel_rfl) (by kernel_rfl) (by kernel_rfl) (by rfl) (by first | assumption | decide +kernel) (by decide +kernel) ⟨rfl, rfl, rfl, rfl, rfl, by decide +kernel⟩ ?hw ?hc
  case hw => w_witness2
  case hc =>
    refine RB.walk_G (l := PySem.Challenge.rw_roomsback_k01_kinds_told) (n := 63) (k := j + 2) (x := "_law_script") rfl (by decide) (by kernel_rfl) (RB.room_at hj) ?F
    intro w mg fa h Y N hmg0
    obtain ⟨K, KX, c⟩ := Y
    have hmg : mg ("law" : PySem.Str) = some (.ref fa) := by
      have e : (HandSHeadRun.topDef (OpenLaw.row PySem.Challenge.rw_roomsback_k01_kinds_told).prog 55).name = ("law" : PySem.Str) := by kernel_rfl
      rw [← e]
      exact hmg0
    exact ⟨K, KX, RB.law_at (D := RB.K01.D) RB.K01.law_ok rfl c KX N (e := RB.K01.d_law) (List.mem_of_getElem? (i := 38) (by kernel_rfl)) rfl hmg (fun _ _ _ _ _ _ us hl => match us, hl with | [_], _ => rfl) rfl pure_⟩
/-! Fin01: law k01, whole. -/
namespace RB
open PySem PySem.Spec L2
theorem k01_facts : K01F K01.T 98001 42 := by
  have a1 : Has K01.T "does_ascend" 3 c_does_ascend := by unfold Has; kernel_rfl
  have a2 : Has K01.T "is_need" 1 c_is_need := by unfold Has; kernel_rfl
  have a3 : Has K01.T "is_moment" 1 c_is_moment := by unfold Has; kernel_rfl
  have a4 : Has K01.T "is_needs" 2 c_is_needs := by unfold Has; kernel_rfl
  have a6 : Has K01.T "is_clause" 1 c_is_clause := by unfold Has; kernel_rfl
  have a7 : Has K01.T "is_rule" 2 c_is_rule := by unfold Has; kernel_rfl
  have a8 : Has K01.T "is_name" 2 c_is_name := by unfold Has; kernel_rfl
  have a9 : Has K01.T "is_names" 2 c_is_names := by unfold Has; kernel_rfl
  have a10 : Has K01.T "is_number" 1 c_is_number := by unfold Has; kernel_rfl
  have a11 : Has K01.T "is_room" 1 c_is_room := by unfold Has; kernel_rfl
  have a12 : Has K01.T "is_size" 1 (sizeCode "is_names" "is_number") := by unfold Has; kernel_rfl
  have a13 : Has K01.T "is_any_step" 1 c_is_any_step := by unfold Has; kernel_rfl
  have a14 : Has K01.T "has_step" 9 c_has_step := by unfold Has; kernel_rfl
  have a15 : Has K01.T "is_step" 2 c_is_step := by unfold Has; kernel_rfl
  have b1 : Has K01.T "_law_is_moment" 1 c_law_is_moment := by unfold Has; kernel_rfl
  have b2 : Has K01.T "_law_is_needs" 3 c_law_is_needs := by unfold Has; kernel_rfl
  have b3 : Has K01.T "_law_is_pair" 1 c_law_is_pair := by unfold Has; kernel_rfl
  have b4 : Has K01.T "_law_is_plan" 2 c_law_is_plan := by unfold Has; kernel_rfl
  have b5 : Has K01.T "_law_is_name" 2 c_law_is_name := by unfold Has; kernel_rfl
  have b6 : Has K01.T "_law_are_names" 2 c_law_are_names := by unfold Has; kernel_rfl
  have b7 : Has K01.T "_law_is_number" 1 c_law_is_number := by unfold Has; kernel_rfl
  have b8 : Has K01.T "_law_is_sized" 1 (sizeCode "_law_are_names" "_law_is_number") := by unfold Has; kernel_rfl
  have b9 : Has K01.T "_law_is_move" 1 c_law_is_move := by unfold Has; kernel_rfl
  have n := is_needs_ok a4 a2 a1
  have m := is_moment_ok a3
  have c := is_clause_ok a6 m n
  have r := is_rule_ok a7 c a1
  have nm := is_name_ok a8
  have nms := is_names_ok a9 nm a1
  have num := is_number_ok a10
  have rm := is_room_ok a11 num
  have sz : ∀ j, 3 ≤ j → ∀ x, Nice x → shortIn x = true → ∀ h, clk K01.T j "is_size" [.d x] h = .ok (.d (.bool (isSize x))) h := fun j hj x hx hs h => size_ok a12 nms.s num hj hx hs h
  have st := is_any_step_ok a13 nm nms
  have lm := law_is_moment_ok b1
  have ln := law_is_needs_ok b2
  have lq := law_is_pair_ok b3 lm ln
  have lp := law_is_plan_ok b4 lq
  have lnm := law_is_name_ok b5
  have lnms := law_are_names_ok b6 lnm
  have lnum := law_is_numberB b7
  have lsz : ∀ j, 3 ≤ j → ∀ x, Nice x → shortIn x = true → ∀ h, clk K01.T j "_law_is_sized" [.d x] h = .ok (.d (.bool (isSize x))) h := fun j hj x hx hs h => size_ok b8 lnms lnum hj hx hs h
  have D : Due1 K01.T := ⟨lnm, lnum, ln, lq, lp, lsz, by unfold Has; kernel_rfl⟩
  have I : Told1 K01.T := ⟨nm, rm, n, c, r, sz, by unfold Has; kernel_rfl⟩
  exact ⟨by unfold Has; kernel_rfl, by unfold Has; kernel_rfl, by unfold Has; kernel_rfl, by unfold Has; kernel_rfl, by unfold Has; kernel_rfl, by unfold Has; kernel_rfl, by unfold Has; kernel_rfl, by unfold Has; kernel_rfl, by unfold Has; kernel_rfl, by unfold Has; kernel_rfl, by unfold Has; kernel_rfl, by unfold Has; kernel_rfl, by unfold Has; kernel_rfl, by unfold Has; kernel_rfl,
    fun j hj x hx hs h => law_is_move_ok b9 lnm lnms hj hx hs h, fun j hj p x np sp hx h => is_step_ok a15 sz a14 st hj np sp hx h, D, I, by unfold HasL; kernel_rfl⟩
theorem k01_pure (ns : List Int) (hn : ns.length ≤ 63) : ∃ h', clk K01.D.T (22 + 1) "law" [.d (.list (ns.map PyData.int))] [] = .ok (.d (.bool true)) h' := by
  obtain ⟨u, h1, e, rfl⟩ := (law1_run k01_facts hn).ex
  exact ⟨h1, e⟩
end RB
theorem PySem.Challenge.cw_roomsback_k01_kinds_told_holds : PySem.Challenge.rw_roomsback_k01_kinds_told.Holds := by
  exact RB.K01.whole 22 (by decide) RB.k01_pure
