import PyProof.Rows.All
import Wide.All
import OpenK.AllK
import Wide.FinOn
import HandS.ForMost
import HandS.ForExc
import HandS.TryMany
import HandS.Deep
import HandS.TupAny
import HandS.IsInst
import HandS.SortOrd
import HandS.Flow
import HandS.Style
import HandS.Zip
import HandS.Conv
import HandS.SetKeys
import HandS.TupSets
import KE.LtData
import KE.KeyNested
import KE.DataMinMax
import KE.GoesEnum
import HandS.SortInts
import HandS.WordsExc
import KE.KStateDown
import HandS.Ends
import HandS.More
import HandS.Defaults
import HandS.Head0
import HandS.Head1
import HandS.Head2
import HandS.HeadEnd
import HandS.HeadHook1
import HandS.HeadHook2
import PySem.Challenge.RW_tablebonds_k03_derivations_judged
set_option Elab.async false
set_option linter.all false
set_option maxRecDepth 100000
set_option maxHeartbeats 4000000
namespace TB
open PySem PySem.Spec PyProof.Rows L2
/-! ### keys of nested tuples of ints, in sets -/
mutual
def numK : NestedKey → Bool
  | .num _ => true
  | .tup ks => numKs ks
  | _ => false
def numKs : List NestedKey → Bool
  | [] => true
  | k :: ks => numK k && numKs ks
end
section
variable {P : Program} {w : World} {A : Around} {E : Value → Shared → Prop} {s : Shared}
def ClsAt (P : Program) (w : World) (n : Nat) (s : Shared) (v : Value) : Prop := ∀ (A : Around) (E : Value → Shared → Prop) (Q : Bool → Shared → Prop), Q false s → wpAny (model P w) A (ofAClassStatement n v) Q E s
def BvAt (P : Program) (w : World) (n : Nat) (s : Shared) (v : Value) : Prop := ∀ (A : Around) (E : Value → Shared → Prop) (Q : Bool → Shared → Prop), Q true s → wpAny (model P w) A (hashByValue n v) Q E s
theorem cls_tup {n m : Nat} {b : Addr} {o : Obj} {its : Array Value} (g : s.heap.get? b = some o) (c : o.cls = .type "tuple") (d : o.data = .seq its m) (all : ∀ v ∈ its.toList, ClsAt P w n s v) : ClsAt P w (n + 1) s (.ref b) := by
  intro A E Q q
  unfold ofAClassStatement
  refine wpAny_bind (wpAny_typeOf (T := "tuple") ⟨o, g, c⟩ ?_)
  have tt : (("tuple" : String) == "tuple") = true := by decide
  simp only [tt, if_true, Bool.not_true, Bool.false_eq_true, if_false]
  try refine wpAny_bind (wpAny_pure ?_)
  try simp only [Bool.not_true, Bool.false_eq_true, if_false]
  refine wpAny_bind (wpAny_seqItems g d ?_)
  dsimp only
  refine wpAny_bind ?_
  rw [← Array.forIn_toList]
  refine wpAny_forIn_list _ (fun l r z => (r.1 = none ∧ z = s) ∧ ∀ v ∈ l, ClsAt P w n s v) _ ?_ ?_ _ _ ⟨⟨rfl, rfl⟩, all⟩
  · rintro v l ⟨r1, r2⟩ z ⟨⟨e1, e2⟩, av⟩
    subst e2
    refine wpAny_bind (av v (List.mem_cons_self ..) _ _ _ ?_)
    simp only [Bool.false_eq_true, if_false]
    exact wpAny_pure ⟨⟨rfl, rfl⟩, fun u mu => av u (List.mem_cons_of_mem _ mu)⟩
  · rintro ⟨r1, r2⟩ z ⟨⟨e1, e2⟩, _⟩
    subst e2
    dsimp only at e1
    subst e1
    exact wpAny_pure q
theorem bv_tup {n m : Nat} {b : Addr} {o : Obj} {its : Array Value} (g : s.heap.get? b = some o) (c : o.cls = .type "tuple") (d : o.data = .seq its m) (all : ∀ v ∈ its.toList, BvAt P w n s v) : BvAt P w (n + 1) s (.ref b) := by
  intro A E Q q
  unfold hashByValue
  refine wpAny_bind (wpAny_specialOf (T := "tuple") ⟨o, g, c⟩ F.slot_tuple_hash.lookup ?_)
  dsimp only
  refine wpAny_bind (wpAny_seqItems g d ?_)
  refine wpAny_bind ?_
  show wpAny _ _ (forIn its _ _) _ _ s
  rw [← Array.forIn_toList]
  refine wpAny_forIn_list _ (fun l r z => (r.1 = none ∧ z = s) ∧ ∀ v ∈ l, BvAt P w n s v) _ ?_ ?_ _ _ ⟨⟨rfl, rfl⟩, all⟩
  · rintro v l ⟨r1, r2⟩ z ⟨⟨e1, e2⟩, av⟩
    subst e2
    refine wpAny_bind (av v (List.mem_cons_self ..) _ _ _ ?_)
    simp only [Bool.not_true, Bool.false_eq_true, if_false]
    exact wpAny_pure ⟨⟨rfl, rfl⟩, fun u mu => av u (List.mem_cons_of_mem _ mu)⟩
  · rintro ⟨r1, r2⟩ z ⟨⟨e1, e2⟩, _⟩
    subst e2
    dsimp only at e1
    subst e1
    exact wpAny_pure q
mutual
theorem small_key : ∀ (k : NestedKey) (v : Value) (n : Nat) (s : Shared), NestedIs s.heap k v → numK k = true → k.depth ≤ n → ClsAt P w n s v ∧ BvAt P w n s v
  | .none, _, _, _, _, h, _ => nomatch (show false = true from h)
  | .text _, _, _, _, _, h, _ => nomatch (show false = true from h)
  | .num i, _, n, s, x, _, _ => by
    cases x with
    | bool e =>
      refine ⟨fun A E Q q => ?_, fun A E Q q => ?_⟩
      · have e : ∀ b, ofAClassStatement n (.bool b) = pure false := fun b => by cases n <;> rfl
        rw [e]; exact wpAny_pure q
      · have e : ∀ b, hashByValue n (.bool b) = pure true := fun b => by cases n <;> rfl
        rw [e]; exact wpAny_pure q
    | int i t =>
      refine ⟨fun A E Q q => ?_, fun A E Q q => ?_⟩
      · rw [ofAClass_int]; exact wpAny_pure q
      · rw [hashBy_int]; exact wpAny_pure q
  | .tup ks, _, n, s, x, h, hn => by
    cases x with
    | tup g c d hk =>
      simp only [NestedKey.depth] at hn
      cases n with
      | zero => omega
      | succ n =>
        have ih := small_keys ks _ n s hk (show numKs ks = true from h) (by omega)
        exact ⟨cls_tup g c d fun v m => (ih v m).1, bv_tup g c d fun v m => (ih v m).2⟩
theorem small_keys : ∀ (ks : List NestedKey) (vs : List Value) (n : Nat) (s : Shared), NestedAll s.heap ks vs → numKs ks = true → NestedKey.depthAll ks ≤ n → ∀ v ∈ vs, ClsAt P w n s v ∧ BvAt P w n s v
  | [], _, _, _, x, _, _, v, m => by cases x; cases m
  | k :: ks, _, n, s, x, h, hn, v, m => by
    cases x with
    | cons x1 x2 =>
      have h' : (numK k && numKs ks) = true := h
      rw [Bool.and_eq_true] at h'
      simp only [NestedKey.depthAll] at hn
      rcases List.mem_cons.mp m with e | m
      · rw [e]; exact small_key k _ n s x1 h'.1 (by omega)
      · exact small_keys ks _ n s x2 h'.2 (by omega) v m
end
/-- the tuple at an address is this key -/
structure KAt (h : Heap) (k : NestedKey) (b : Addr) : Prop where
  is : NestedIs h k (.ref b)
  dp : k.depth ≤ 8
  num : numK k = true
theorem KAt.keep {h h' : Heap} {k : NestedKey} {b : Addr} (x : KAt h k b) (kp : ∀ c o, h.get? c = some o → h'.get? c = some o) : KAt h' k b := ⟨NestedIs.at (fun a o _ _ e _ => kp a o e) _ _ x.is, x.dp, x.num⟩
theorem KAt.but {h h' : Heap} {k : NestedKey} {a b : Addr} {o : Obj} {es : Array (Int × Value)} {ep : Nat} {t : SetTable} (x : KAt h k b) (g : h.get? a = some o) (d : o.data = .set es ep t) (sb : Heap.SameBut a h h') : KAt h' k b := by
  refine ⟨NestedIs.at (fun c o' vs m e d' => ?_) _ _ x.is, x.dp, x.num⟩
  refine (sb.2 c fun z => ?_).trans e
  subst z
  rw [g] at e
  cases e
  rw [d] at d'
  cases d'
theorem KAt.eq {x y : NestedKey} {a b : Addr} {Q : Bool → Shared → Prop} (hu : A.units + 8 < cLine) (hx : KAt s.heap x a) (hy : KAt s.heap y b) (q : Q (decide (x = y)) s) : wpAny (model P w) A (eqBool (.ref a) (.ref b)) Q E s :=
  (nestedKind P w).eqBool hu ⟨hx.is, hx.dp⟩ ⟨hy.is, hy.dp⟩ q
theorem KAt.quiet {x : NestedKey} {a : Addr} {Q : Bool → Shared → Prop} (hx : KAt s.heap x a) (q : Q true s) : wpAny (model P w) A (eqIsQuiet 8 (.ref a)) Q E s := (nestedKind P w).quiet ⟨hx.is, hx.dp⟩ q
/-- nothing is seen of a search among them -/
theorem seen_keys {k : NestedKey} {b : Addr} {Q : Bool → Shared → Prop} (hx : KAt s.heap k b) {ys : List Value} (hy : ∀ y ∈ ys, ∃ k' c, y = Value.ref c ∧ KAt s.heap k' c) (q : Q false s) : wpAny (model P w) A (searchCouldBeSeen (.ref b) ys) Q E s := by
  unfold searchCouldBeSeen
  refine wpAny_bind ?_
  refine wpAny_forIn_list _ (fun l r z => (r.1 = none ∧ z = s) ∧ ∀ y ∈ l, ∃ k' c, y = Value.ref c ∧ KAt s.heap k' c) _ ?_ ?_ _ _ ⟨⟨rfl, rfl⟩, hy⟩
  · rintro v l ⟨r1, r2⟩ z ⟨⟨e1, e2⟩, av⟩
    subst e2
    obtain ⟨k', c, e, hc⟩ := av v (List.mem_cons_self ..)
    subst e
    have tl : ∀ y ∈ l, ∃ k' c, y = Value.ref c ∧ KAt z.heap k' c := fun u mu => av u (List.mem_cons_of_mem _ mu)
    dsimp only
    rcases Classical.em ((b == c || (carriedByValue (.ref b) && carriedByValue (.ref c))) = true) with yes | not
    · exact wp_if_pos yes (wpAny_pure ⟨⟨rfl, rfl⟩, tl⟩)
    · refine wp_if_neg not (wpAny_bind (hx.quiet ?_))
      simp only [Bool.not_true, Bool.false_eq_true, if_false]
      refine wpAny_bind (hc.quiet ?_)
      simp only [Bool.not_true, Bool.false_eq_true, if_false]
      refine wpAny_bind ((small_key k _ 8 z hx.is hx.num hx.dp).1 _ _ _ ?_)
      simp only [Bool.false_eq_true, if_false]
      refine wpAny_bind ((small_key k' _ 8 z hc.is hc.num hc.dp).1 _ _ _ ?_)
      simp only [Bool.false_eq_true, if_false]
      exact wpAny_pure ⟨⟨rfl, rfl⟩, tl⟩
  · rintro ⟨r1, r2⟩ z ⟨⟨e1, e2⟩, _⟩
    subst e2
    dsimp only at e1
    subst e1
    exact wpAny_pure q
/-! ### the set -/
abbrev KL := List (Addr × NestedKey)
def entriesOf (w : World) (L : KL) : List (Int × Value) := L.map fun p => (p.2.hash w, Value.ref p.1)
abbrev hashesOf (w : World) (L : KL) : List Int := L.map fun p => p.2.hash w
/-- a set of keys, its table in order -/
structure KSet (w : World) (h : Heap) (a : Addr) (L : KL) (es : Array (Int × Value)) (ep : Nat) (t : SetTable) : Prop where
  obj : ∃ o, h.get? a = some o ∧ o.ExactSet ∧ o.data = .set es ep t
  ent : es.toList = entriesOf w L
  tab : TabOk t (hashesOf w L)
  nd : (L.map (·.2)).Nodup
  keys : ∀ p ∈ L, KAt h p.2 p.1
  plain : t.plain = true
  led : w.params.followText "set-order" = true ∨ t.led = true
  load : L.length * 5 < t.mask * 3
  few : L.length < 64
variable {a : Addr} {L : KL} {es : Array (Int × Value)} {ep : Nat} {t : SetTable}
theorem ent_size (e : es.toList = entriesOf w L) : es.size = L.length := by
  have := congrArg List.length e
  simpa [entriesOf] using this
theorem ent_at (e : es.toList = entriesOf w L) {i : Nat} {p : Addr × NestedKey} (h : L[i]? = some p) : es[i]? = some (p.2.hash w, Value.ref p.1) := by
  have : es.toList[i]? = some (p.2.hash w, Value.ref p.1) := by
    rw [e, entriesOf, List.getElem?_map, h]
    rfl
  simpa using this
theorem tab_fits (T : TabOk t (hashesOf w L)) (e : es.toList = entriesOf w L) (hl : L.length ≤ t.mask) : t.fits es.size = true := by
  have h1 := T.sz
  have h2 := ent_size e
  simp only [hashesOf, List.length_map] at h1
  simp only [SetTable.fits, SetTable.fill, T.dm, Bool.and_eq_true, beq_iff_eq, decide_eq_true_eq]
  refine ⟨by omega, ?_⟩
  show t.place.size + 0 ≤ t.mask
  omega
theorem KSet.fits (R : KSet w s.heap a L es ep t) : t.fits es.size = true := tab_fits R.tab R.ent (by have := R.load; omega)
theorem KSet.gw (R : KSet w s.heap a L es ep t) : ¬ t.gaveWay = true := by
  unfold SetTable.gaveWay
  rw [mask_odd R.tab.mok]
  decide
/-- where a hash leads, after c steps -/
abbrev stepAt (m : Nat) (hv : Int) (c : Nat) : SetTable.Probe := nth m (runAt m (SetTable.bits hv % (m + 1)) (SetTable.bits hv)) c
theorem nth_dummy (m : Nat) : ∀ (n : Nat) (p : SetTable.Probe), p.dummy = none → (nth m p n).dummy = none
  | 0, _, h => h
  | n + 1, p, h => nth_dummy m n (adv m p) (by unfold adv; split <;> exact h)
theorem find_key (R : KSet w s.heap a L es ep t) {x : Addr} {k : NestedKey} (hx : KAt s.heap k x) (hu : A.units + 8 < cLine) {K : Nat} (kf : K < 10 * SetTable.turns t.mask)
    (kn : way t.mask (k.hash w) K ∉ t.place.toList) (kb : ∀ c, c < K → way t.mask (k.hash w) c ∈ t.place.toList) {Q : SetFound → Shared → Prop}
    (yes : k ∈ L.map (·.2) → Q (.there none) s) (new : k ∉ L.map (·.2) → Q (.free (way t.mask (k.hash w) K) false) s) :
    ∀ (f c : Nat) (stand : Option SetTable.Probe), stand.getD (t.probeStart (k.hash w)) = stepAt t.mask (k.hash w) c → c ≤ K → K - c < f →
      (∀ (i : Nat) p, L[i]? = some p → p.2 = k → ∃ c', c ≤ c' ∧ c' < K ∧ t.place.toList[i]? = some (way t.mask (k.hash w) c')) → wpAny (model P w) A (setSearchFrom a (.ref x) (k.hash w) true f stand) Q E s := by
  intro f
  induction f with
  | zero => intro c stand _ _ h; omega
  | succ f ih =>
    intro c stand st ck cf back
    obtain ⟨o, g, ex, d⟩ := R.obj
    have shift : ∀ q, nth t.mask (stepAt t.mask (k.hash w) c) q = stepAt t.mask (k.hash w) (c + q) := fun q => (nth_add t.mask c _ q).symm
    have shiftJ : ∀ q, (nth t.mask (stepAt t.mask (k.hash w) c) q).j = way t.mask (k.hash w) (c + q) := fun q => by rw [shift]
    have hs : ∀ (i : Nat) p, L[i]? = some p → (es[i]?.map (·.1)).getD 0 = p.2.hash w := fun i p e => by rw [ent_at R.ent e]; rfl
    have walk := go_spec t R.tab.ris R.tab.dm (fun i => (es[i]?.map (·.1)).getD 0) (k.hash w) (10 * SetTable.turns t.mask) (K - c) (stepAt t.mask (k.hash w) c) (nth_dummy t.mask c _ rfl) (by omega)
      (fun q hq => by rw [shiftJ]; exact kb _ (by omega)) (by rw [shiftJ, Nat.add_sub_cancel' ck]; exact kn)
    rw [setSearchFrom_succ]
    refine wpAny_bind (wpAny_setState_of g d R.fits ?_)
    dsimp only
    refine wp_if_neg R.gw ?_
    try refine wpAny_bind (wpAny_pure ?_)
    rcases walk with ⟨q, i, hq, hi, hh, early, pr⟩ | ⟨early, pr⟩
    · have pr' : t.probe (fun i => (es[i]?.map (·.1)).getD 0) (k.hash w) (stand.getD (t.probeStart (k.hash w))) = some (.candidate (way t.mask (k.hash w) (c + q)) i (stepAt t.mask (k.hash w) (c + (q + 1)))) := by
        rw [st, ← shiftJ, ← shift]
        exact pr
      rw [pr']
      dsimp only
      rw [shiftJ] at hi
      have il : i < L.length := by
        have z1 := (List.getElem?_eq_some_iff.mp hi).1
        have z2 := R.tab.sz
        simp only [hashesOf, List.length_map] at z2
        rw [Array.length_toList] at z1
        omega
      obtain ⟨p, hp⟩ : ∃ p, L[i]? = some p := ⟨_, List.getElem?_eq_getElem il⟩
      have pm : p ∈ L := List.mem_of_getElem? hp
      have live : t.slot (way t.mask (k.hash w) (c + q)) = .live i := slot_live R.tab.ris hi
      have rest : wpAny (model P w) A (searchRest a (.ref x) (k.hash w) true f es t (way t.mask (k.hash w) (c + q)) i (stepAt t.mask (k.hash w) (c + (q + 1)))) Q E s := by
        unfold searchRest
        rw [ent_at R.ent hp]
        dsimp only
        refine wpAny_bind (wpAny_holding ((R.keys p pm).eq hu hx ?_))
        refine wpAny_bind (wpAny_setState_of g d R.fits ?_)
        dsimp only
        rcases Classical.em (p.2 = k) with e | e
        · exact wp_if_pos (by simp [e]) (wpAny_pure (yes (List.mem_map.mpr ⟨p, pm, e⟩)))
        · refine wp_if_neg (by simp [e]) ?_
          try refine wpAny_bind (wpAny_pure ?_)
          rw [sameMem]
          dsimp only
          simp only [if_true, live, ent_at R.ent hp]
          refine wpAny_bind (wpAny_isSame_ref_self (wpAny_bind (wpAny_pure ?_)))
          simp only [if_true]
          refine wp_if_neg (by simp [e]) (ih (c + (q + 1)) _ rfl (by omega) (by omega) fun j p' hj ek => ?_)
          obtain ⟨c', b1, b2, b3⟩ := back j p' hj ek
          refine ⟨c', ?_, b2, b3⟩
          rcases Nat.lt_trichotomy c' (c + q) with z | z | z
          · exact (early (c' - c) j (by omega) (by rw [shiftJ, Nat.add_sub_cancel' b1]; exact b3) (by rw [hs j p' hj, ek])).elim
          · subst z
            have l2 := slot_live R.tab.ris b3
            rw [live] at l2
            injection l2 with l2
            subst l2
            rw [hp] at hj
            cases hj
            exact absurd ek e
          · omega
      rcases Classical.em (t.led = true) with ld | ld
      · refine wp_if_neg (by simp [ld]) ?_
        try refine wpAny_bind (wpAny_pure ?_)
        exact rest
      · refine wp_if_pos (by simp [ld]) (wpAny_bind (seen_keys hx (fun y my => ?_) ?_))
        · obtain ⟨e, me, rfl⟩ := List.mem_map.mp my
          have m2 : e ∈ es.toList := by
            have : e ∈ es ∧ e.1 = k.hash w := by simpa using me
            simpa using this.1
          rw [R.ent] at m2
          obtain ⟨p2, mp2, rfl⟩ := List.mem_map.mp m2
          exact ⟨p2.2, p2.1, rfl, R.keys p2 mp2⟩
        · refine wp_if_neg (by decide) ?_
          try refine wpAny_bind (wpAny_pure ?_)
          exact rest
    · have pr' : t.probe (fun i => (es[i]?.map (·.1)).getD 0) (k.hash w) (stand.getD (t.probeStart (k.hash w))) = some (.empty (way t.mask (k.hash w) K) none) := by
        have e2 := shiftJ (K - c)
        rw [Nat.add_sub_cancel' ck] at e2
        rw [st, ← e2]
        exact pr
      rw [pr']
      dsimp only
      refine wpAny_pure (new fun m => ?_)
      obtain ⟨p', m', ek⟩ := List.mem_map.mp m
      obtain ⟨j, hj⟩ := List.mem_iff_getElem?.mp m'
      obtain ⟨c', b1, b2, b3⟩ := back j p' hj ek
      exact early (c' - c) j (by omega) (by rw [shiftJ, Nat.add_sub_cancel' b1]; exact b3) (by rw [hs j p' hj, ek])
theorem find_add (R : KSet w s.heap a L es ep t) {x : Addr} {k : NestedKey} (hx : KAt s.heap k x) (hu : A.units + 8 < cLine) {Q : SetFound → Shared → Prop} (yes : k ∈ L.map (·.2) → Q (.there none) s)
    (new : ∀ K, k ∉ L.map (·.2) → way t.mask (k.hash w) K ∉ t.place.toList → (∀ c, c < K → way t.mask (k.hash w) c ∈ t.place.toList) → Q (.free (way t.mask (k.hash w) K) false) s) :
    wpAny (model P w) A (setSearch a (.ref x) (k.hash w) true) Q E s := by
  obtain ⟨K, kf, kn, kb⟩ := R.tab.first (by have := R.load; simp only [hashesOf, List.length_map]; omega) (k.hash w)
  have big : 10 * SetTable.turns t.mask ≤ 1420 := by
    unfold SetTable.turns
    rcases R.tab.mok with e | e | e <;> omega
  unfold setSearch
  refine find_key R hx hu kf kn kb yes (fun m => new K m kn kb) 100000 0 none rfl (Nat.zero_le _) (by omega) fun i p hp ek => ?_
  have hi : (hashesOf w L)[i]? = some (k.hash w) := by
    simp only [hashesOf, List.getElem?_map, hp, Option.map_some, ek]
  have il : i < t.place.toList.length := by
    have z1 := (List.getElem?_eq_some_iff.mp hp).1
    have z2 := R.tab.sz
    simp only [hashesOf, List.length_map] at z2
    rw [Array.length_toList]
    omega
  obtain ⟨c, hc, e⟩ := R.tab.before kn hi (List.getElem?_eq_getElem il)
  exact ⟨c, Nat.zero_le _, hc, by rw [List.getElem?_eq_getElem il, e]⟩
end
end TB
set_option maxHeartbeats 4000000
namespace TB
open PySem PySem.Spec PyProof.Rows L2
section
variable {P : Program} {w : World} {A : Around} {E : Value → Shared → Prop} {s : Shared} {a : Addr} {L : KL} {es : Array (Int × Value)} {ep : Nat} {t : SetTable}
theorem pick_take {α : Type} (l : List α) : ∀ n, n ≤ l.length → (List.range n).filterMap (fun i => l[i]?) = l.take n
  | 0, _ => rfl
  | n + 1, h => by
    have e : l[n]? = some l[n] := List.getElem?_eq_getElem (Nat.lt_of_succ_le h)
    rw [List.range_succ, List.filterMap_append, pick_take l n (Nat.le_of_succ_le h), List.take_succ]
    simp only [List.filterMap_cons, List.filterMap_nil, e, Option.toList_some]
theorem pick_range {α : Type} (l : List α) : (List.range l.length).filterMap (fun i => l[i]?) = l := by
  rw [pick_take l _ (Nat.le_refl _), List.take_length]
/-- entries picked in another order -/
theorem ent_order {order : Array Nat} (e : es.toList = entriesOf w L) (pm : order.toList.Perm (List.range L.length)) :
    ∃ L', (order.filterMap (es[·]?)).toList = entriesOf w L' ∧ L'.Perm L ∧ hashesOf w L' = order.toList.map fun i => (es.map (·.1)).getD i 0 := by
  refine ⟨order.toList.filterMap fun i => L[i]?, ?_, ?_, ?_⟩
  · have e1 : (order.filterMap (es[·]?)).toList = order.toList.filterMap (fun i => es[i]?) := by simp
    rw [e1]
    unfold entriesOf
    rw [List.map_filterMap]
    congr 1
    funext i
    cases hi : L[i]? with
    | none =>
      have : es[i]? = none := by
        have z := ent_size e
        rw [List.getElem?_eq_none_iff] at hi
        simp
        omega
      rw [this]
      rfl
    | some p => rw [ent_at e hi]; rfl
  · have := pm.filterMap fun i => L[i]?
    rw [pick_range] at this
    exact this
  · have inb : ∀ i ∈ order.toList, i < L.length := fun i m => List.mem_range.mp (pm.mem_iff.mp m)
    generalize order.toList = l at inb
    induction l with
    | nil => rfl
    | cons i l ih =>
      have hi := inb i (List.mem_cons_self ..)
      have e1 : L[i]? = some L[i] := List.getElem?_eq_getElem hi
      have e2 := ent_at e e1
      have e3 : (es.map (·.1)).getD i 0 = (L[i]).2.hash w := by
        have : (es.map (·.1))[i]? = some ((L[i]).2.hash w) := by simp [e2]
        simp [Array.getD_eq_getD_getElem?, this]
      rw [List.filterMap_cons_some e1, List.map_cons, e3]
      show (L[i]).2.hash w :: hashesOf w _ = _
      rw [ih fun j m => inb j (List.mem_cons_of_mem _ m)]
theorem relay_keys {o : Obj} (g : s.heap.get? a = some o) (ex : o.ExactSet) (d : o.data = .set es ep t) (ent : es.toList = entriesOf w L) (T : TabOk t (hashesOf w L)) (hl : L.length ≤ t.mask)
    (nd : (L.map (·.2)).Nodup) (keys : ∀ p ∈ L, KAt s.heap p.2 p.1) (pl : t.plain = true) (ld : w.params.followText "set-order" = true ∨ t.led = true) (few : L.length < 64) {wanted M : Nat}
    (hw : SetTable.sizeAbove wanted = M + 1) (hM : MaskOk M) (lim : M ≤ 127) (load : L.length * 5 < M * 3) {Q : Unit → Shared → Prop}
    (q : ∀ h' L' es' ep' t', Heap.SameBut a s.heap h' → KSet w h' a L' es' ep' t' → L'.Perm L → Q () { s with heap := h' }) : wpAny (model P w) A (setRelay a wanted) Q E s := by
  have sz := ent_size ent
  obtain ⟨t', order, e, pm, T', e1, e2, e3, e4⟩ := relaid_ok t (hs := es.map (·.1)) (wanted := wanted) (M := M) (by omega) hM (by simp only [Array.size_map]; omega)
  simp only [Array.size_map, sz] at pm
  obtain ⟨L', r1, r2, r3⟩ := ent_order ent pm
  rw [← r3] at T'
  have sz' : (order.filterMap (es[·]?)).size = es.size := by rw [ent_size r1, r2.length_eq, sz]
  rw [setRelay_eq]
  refine wpAny_bind (wpAny_setState_of g d (tab_fits T ent hl) ?_)
  dsimp only
  refine wp_if_neg (by rw [sizeLine_eq]; omega) ?_
  try refine wpAny_bind (wpAny_pure ?_)
  rw [e]
  dsimp only
  refine wpAny_bind (wp_if_neg (by rw [sz']; simp) ?_)
  try refine wpAny_bind (wpAny_pure ?_)
  refine wpAny_pure ?_
  dsimp only
  refine wpAny_storeSet_of g d ?_ (by rw [sz', sz, sizeLine_eq]; omega)
  have sb : Heap.SameBut a s.heap (s.heap.update a (Obj.putSet (order.filterMap (es[·]?)) t')) := Heap.SameBut.update ..
  exact q _ L' _ (ep + 1) t' sb ⟨⟨_, store_at g d, ⟨ex.1, ex.2.1, ex.2.2⟩, rfl⟩, r1, T', (r2.map (·.2)).nodup_iff.mpr nd, fun p m => (keys p (r2.mem_iff.mp m)).but g d sb, e3.trans pl, by rw [e2]; exact ld, by rw [r2.length_eq, e1]; exact load, by rw [r2.length_eq]; exact few⟩ r2
theorem add_key (R : KSet w s.heap a L es ep t) {x : Addr} {k : NestedKey} (hx : KAt s.heap k x) (hu : A.units + 8 < cLine) (room : L.length + 1 < 64) {Q : Bool → Shared → Prop}
    (q : ∀ b h' L' es' ep' t', Heap.SameBut a s.heap h' → KSet w h' a L' es' ep' t' → (k ∈ L.map (·.2) → L' = L) → (k ∉ L.map (·.2) → L'.Perm ((x, k) :: L)) → Q b { s with heap := h' }) :
    wpAny (model P w) A (setAddHashed a (.ref x) (k.hash w)) Q E s := by
  obtain ⟨o, g, ex, d⟩ := R.obj
  have load := R.load
  unfold setAddHashed
  refine wpAny_holding ?_
  rw [show (100000 : Nat) = 99999 + 1 from rfl, setAddHashedIn_succ]
  refine wpAny_bind (wpAny_setState_of g d R.fits ?_)
  dsimp only
  refine wp_if_neg (by simp [byScan, Value.scannable]) ?_
  try refine wpAny_bind (wpAny_pure ?_)
  refine wpAny_bind (find_add R hx hu (fun m => wpAny_pure (q false s.heap L es ep t (Heap.SameBut.refl a s.heap) R (fun _ => rfl) fun z => absurd m z)) fun K m kn kb => ?_)
  dsimp only
  refine wpAny_bind (wpAny_setState_of g d R.fits ?_)
  dsimp only
  obtain ⟨u1, u2, u3, u4, u5, u6, u7, u8, u9⟩ := R.tab.put kn kb
  have pl := u6.trans R.plain
  generalize t.put (way t.mask (k.hash w) K) = pt at u1 u3 u4 u5 u6 u7 u8 u9 pl ⊢
  obtain ⟨t1, at1⟩ := pt
  dsimp only at u1 u3 u4 u5 u6 u7 u8 u9 pl ⊢
  subst u1
  generalize SetTable.below t.place (way t.mask (k.hash w) K) = at1 at u2 u3 ⊢
  first
    | (refine wpAny_bind ?_; refine wp_if_pos pl ?_; refine (small_key k _ 8 s hx.is hx.num hx.dp).2 _ _ _ ?_)
    | refine wp_if_pos pl (wpAny_bind ((small_key k _ 8 s hx.is hx.num hx.dp).2 _ _ _ ?_))
  simp only [if_true]
  have ent1 : (SetTable.insertAt es at1 (k.hash w, Value.ref x)).toList = entriesOf w (L.take at1 ++ (x, k) :: L.drop at1) := by
    rw [SetTable.toList_insertAt, R.ent]
    simp [entriesOf]
  have hash1 : hashesOf w (L.take at1 ++ (x, k) :: L.drop at1) = (hashesOf w L).take at1 ++ k.hash w :: (hashesOf w L).drop at1 := by
    simp [hashesOf]
  have pm : (L.take at1 ++ (x, k) :: L.drop at1).Perm ((x, k) :: L) := put_perm L at1 (x, k)
  rw [← hash1] at u3
  generalize SetTable.insertAt es at1 (k.hash w, Value.ref x) = es1 at ent1 ⊢
  generalize L.take at1 ++ (x, k) :: L.drop at1 = L1 at ent1 u3 pm
  have len1 : L1.length = L.length + 1 := pm.length_eq
  have sz1 := ent_size ent1
  have nd1 : (L1.map (·.2)).Nodup := (pm.map (·.2)).nodup_iff.mpr (by rw [List.map_cons]; exact List.nodup_cons.mpr ⟨m, R.nd⟩)
  refine wpAny_bind (wpAny_storeSet_of g d ?_ (by rw [sz1, len1, sizeLine_eq]; omega))
  have sb : Heap.SameBut a s.heap (s.heap.update a (Obj.putSet es1 t1)) := Heap.SameBut.update ..
  have g1 := store_at (es' := es1) (t' := t1) g d
  generalize s.heap.update a (Obj.putSet es1 t1) = h1 at sb g1 ⊢
  have keys1 : ∀ p ∈ L1, KAt h1 p.2 p.1 := fun p mp => by
    rcases List.mem_cons.mp (pm.mem_iff.mp mp) with z | z
    · rw [z]; exact hx.but g d sb
    · exact (R.keys p z).but g d sb
  have ld1 : w.params.followText "set-order" = true ∨ t1.led = true := by rw [u5]; exact R.led
  have fillE : t1.tooFull = decide ((L.length + 1) * 5 ≥ t1.mask * 3) := by
    unfold SetTable.tooFull
    rw [u9]
    simp [hashesOf]
  rcases Classical.em (t1.tooFull = true) with full | part
  · have full' : (L.length + 1) * 5 ≥ t1.mask * 3 := by rw [fillE] at full; exact of_decide_eq_true full
    first
      | (refine wpAny_bind ?_; refine wp_if_pos (by simp [full]) ?_)
      | (refine wp_if_pos (by simp [full]) ?_; refine wpAny_bind ?_)
    rw [ent_size R.ent]
    have two : (t.mask = 7 ∧ L.length = 4) ∨ (t.mask = 31 ∧ L.length = 18) := by
      rw [u4] at full'
      rcases R.tab.mok with e | e | e <;> rw [e] at full' load <;> first | exact .inl ⟨e, by omega⟩ | exact .inr ⟨e, by omega⟩ | (exfalso; omega)
    have fin : ∀ M, SetTable.sizeAbove (SetTable.grown (L.length + 1)) = M + 1 → MaskOk M → M ≤ 127 → (L.length + 1) * 5 < M * 3 → wpAny (model P w) A (setRelay a (SetTable.grown (L.length + 1))) (fun _ s' => wpAny (model P w) A (pure true) Q E s') E { s with heap := h1 } := fun M m1 m2 m3 m4 =>
      relay_keys (s := { s with heap := h1 }) g1 ⟨ex.1, ex.2.1, ex.2.2⟩ rfl ent1 u3 (by rw [u4, len1]; rcases two with z | z <;> omega) nd1 keys1 pl ld1 (by rw [len1]; exact room) m1 m2 m3 (by rw [len1]; exact m4) fun h2 L2 es2 ep2 t2 sb2 R2 pm2 =>
        wpAny_pure (q true h2 L2 es2 ep2 t2 (sb.trans sb2) R2 (fun z => absurd z m) fun _ => pm2.trans pm)
    rcases two with ⟨_, z⟩ | ⟨_, z⟩
    · exact fin 31 (by rw [z, size_20]) (.inr (.inl rfl)) (by omega) (by omega)
    · exact fin 127 (by rw [z, size_76]) (.inr (.inr rfl)) (by omega) (by omega)
  · have part' : ¬ (L.length + 1) * 5 ≥ t1.mask * 3 := fun z => part (by rw [fillE]; exact decide_eq_true z)
    first
      | refine wp_if_neg (by simp [part]) ?_
      | (refine wpAny_bind ?_; refine wp_if_neg (by simp [part]) ?_; refine wpAny_pure ?_)
    exact wpAny_pure (q true h1 L1 es1 (ep + 1) t1 sb ⟨⟨_, g1, ⟨ex.1, ex.2.1, ex.2.2⟩, rfl⟩, ent1, u3, nd1, keys1, pl, ld1, by rw [len1]; omega, by rw [len1]; exact room⟩ (fun z => absurd z m) fun _ => pm)
theorem KSet.keep {h h' : Heap} (R : KSet w h a L es ep t) (ka : ∀ o, h.get? a = some o → h'.get? a = some o) (kk : ∀ p ∈ L, KAt h' p.2 p.1) : KSet w h' a L es ep t := by
  obtain ⟨o, g, r⟩ := R.obj
  exact ⟨⟨o, ka o g, r⟩, R.ent, R.tab, R.nd, kk, R.plain, R.led, R.load, R.few⟩
theorem kset_new {h : Heap} (g : h.get? a = some { cls := .type "set", dict := none, data := .set #[] 0 (.fresh 0 0 (!w.params.followText "set-order")) }) : KSet w h a [] #[] 0 (.fresh 0 0 (!w.params.followText "set-order")) := by
  refine ⟨⟨_, g, ⟨rfl, rfl, rfl⟩, rfl⟩, rfl, ⟨List.Pairwise.nil, rfl, rfl, .inl rfl, fun x m => (by cases m), fun i h j hi => (by simp [hashesOf] at hi)⟩, List.nodup_nil, fun p m => (by cases m), rfl, ?_, ?_, ?_⟩
  · show _ ∨ (!w.params.followText "set-order") = true
    cases w.params.followText "set-order" <;> simp
  · show 0 * 5 < 7 * 3
    decide
  · show 0 < 64
    decide
/-- what a set has of the items so far -/
structure Had (ks : KL) (i : Nat) (L : KL) : Prop where
  sub : ∀ p ∈ L, p ∈ ks
  all : ∀ p ∈ ks.take i, p.2 ∈ L.map (·.2)
  len : L.length ≤ i
theorem Had.next {ks : KL} {i : Nat} {L L' : KL} {p : Addr × NestedKey} (g : Had ks i L) (h : ks[i]? = some p) (c1 : p.2 ∈ L.map (·.2) → L' = L) (c2 : p.2 ∉ L.map (·.2) → L'.Perm (p :: L)) : Had ks (i + 1) L' := by
  have tk : ks.take (i + 1) = ks.take i ++ [p] := by rw [List.take_succ, h]; rfl
  rcases Classical.em (p.2 ∈ L.map (·.2)) with c | c
  · rw [c1 c]
    refine ⟨g.sub, fun r m => ?_, by have := g.len; omega⟩
    rw [tk] at m
    rcases List.mem_append.mp m with z | z
    · exact g.all r z
    · rw [List.mem_singleton.mp z]; exact c
  · have pm := c2 c
    refine ⟨fun r m => ?_, fun r m => ?_, by rw [pm.length_eq, List.length_cons]; have := g.len; omega⟩
    · rcases List.mem_cons.mp (pm.mem_iff.mp m) with z | z
      · rw [z]; exact List.mem_of_getElem? h
      · exact g.sub r z
    · rw [(pm.map (·.2)).mem_iff, List.map_cons]
      rw [tk] at m
      rcases List.mem_append.mp m with z | z
      · exact List.mem_cons_of_mem _ (g.all r z)
      · rw [List.mem_singleton.mp z]; exact List.mem_cons_self ..
end
end TB
set_option maxHeartbeats 4000000
namespace TB
open PySem PySem.Spec PyProof.Rows L2
/-- a set as it is made -/
abbrev set0 (w : World) : Obj := { cls := .type "set", dict := none, data := .set #[] 0 (.fresh 0 0 (!w.params.followText "set-order")) }
/-- what is asked of the loop that fills it -/
def Fills (P : Program) (w : World) (A : Around) (h0 : Heap) (items : Array Value) (S : Addr) (Fin : Heap → Prop) : Prop :=
  ∀ (I : Addr) (fp : List Addr) (G : Array GenState → Array GenState → Prop) (St : Nat → Shared → Prop) (s2 : Shared) (R : Result → Shared → Prop), WalksS P w A.in1 I fp [I] G items.size (fun i v => items[i]? = some v) St → S ∉ fp → h0.get? I = none →
    (∀ b o, h0.get? b = some o → s2.heap.get? b = some o) → s2.heap.get? S = some (set0 w) → St 0 s2 → (∀ s', Moved [S, I] G s2 s' → Fin s'.heap → R (.ok (.ret .none)) s') →
    codeAny (model P w) A (.builtin "set.update.loop" ⟨[.ref S, .ref I], []⟩) R s2
section
variable {P : Program} {w : World} {A : Around} {E : Value → Shared → Prop} {s : Shared}
theorem fills_keys {h0 : Heap} {items : Array Value} {S : Addr} (ks : KL) (hit : items.toList = ks.map fun p => Value.ref p.1) (hk : ∀ p ∈ ks, KAt h0 p.2 p.1) (few : ks.length < 64) (nS : h0.get? S = none) (hu : A.in1.units + 8 < cLine) :
    Fills P w A h0 items S (fun h => ∃ L es ep t, KSet w h S L es ep t ∧ Had ks ks.length L) := by
  intro I fp G St s2 R W nf nI kp0 gS st0 fin
  have sz : items.size = ks.length := by
    have := congrArg List.length hit
    simpa using this
  have itm : ∀ (i : Nat) v, items[i]? = some v → ∃ p, ks[i]? = some p ∧ v = Value.ref p.1 := fun i v e => by
    have e2 : items.toList[i]? = some v := by simpa using e
    rw [hit, List.getElem?_map] at e2
    obtain ⟨p, z1, z2⟩ := Option.map_eq_some_iff.mp e2
    exact ⟨p, z1, z2.symm⟩
  have nI' : S ≠ I := fun z => nf (by rw [z]; exact W.sub I (List.mem_singleton.mpr rfl))
  have go : ∀ (m i : Nat) (s2 : Shared) (R : Result → Shared → Prop), items.size - i = m → i ≤ items.size → St i s2 → (∀ b o, h0.get? b = some o → s2.heap.get? b = some o) → (∃ L es ep t, KSet w s2.heap S L es ep t ∧ Had ks i L) →
      (∀ s', Moved [S, I] G s2 s' → (∃ L es ep t, KSet w s'.heap S L es ep t ∧ Had ks ks.length L) → R (.ok (.ret .none)) s') → codeAny (model P w) A (.builtin "set.update.loop" ⟨[.ref S, .ref I], []⟩) R s2 := by
    intro m
    induction m with
    | zero =>
      intro i s2 R hm hi st kp ⟨L, es, ep, t, KS, had⟩ fin
      have e : i = items.size := by omega
      subst e
      refine codeAny_builtin F.entry_set_update_loop ?_
      rw [Around.under_plainId F.plain_set_update_loop _]
      show wpAny _ A.in1 (pyNext (.ref I) >>= _) _ _ s2
      refine wpAny_bind (W.done s2 _ _ st fun s' mv => wpAny_pure (fin s' (mv.mono fun b mb => List.mem_cons_of_mem _ mb) ⟨L, es, ep, t, KS.keep (fun o e => mv.heap S o (fun z => nI' (List.mem_singleton.mp z)) e) fun p mp => (hk p (had.sub p mp)).keep fun b o e => ?_, by rw [← sz]; exact had⟩))
      exact mv.heap b o (fun z => by rw [List.mem_singleton.mp z, nI] at e; cases e) (kp b o e)
    | succ m ih =>
      intro i s2 R hm hi st kp ⟨L, es, ep, t, KS, had⟩ fin
      refine codeAny_builtin F.entry_set_update_loop ?_
      rw [Around.under_plainId F.plain_set_update_loop _]
      show wpAny _ A.in1 (pyNext (.ref I) >>= _) _ _ s2
      refine wpAny_bind (W.item i s2 _ _ (by omega) st fun v s' hv st' mv => ?_)
      obtain ⟨p, hp, rfl⟩ := itm i v hv
      have kp' : ∀ b o, h0.get? b = some o → s'.heap.get? b = some o := fun b o e => mv.heap b o (fun z => by rw [List.mem_singleton.mp z, nI] at e; cases e) (kp b o e)
      have KS' : KSet w s'.heap S L es ep t := KS.keep (fun o e => mv.heap S o (fun z => nI' (List.mem_singleton.mp z)) e) fun p mp => (hk p (had.sub p mp)).keep kp'
      have hx : KAt s'.heap p.2 p.1 := (hk p (List.mem_of_getElem? hp)).keep kp'
      show wpAny _ A.in1 (holding [Value.ref p.1] (setAdd S (.ref p.1)) >>= _) _ _ s'
      refine wpAny_bind (wpAny_holding ?_)
      unfold setAdd
      refine wpAny_holding (wpAny_bind ((nestedKind P w).pyHash (k := p.2) hu ⟨hx.is, hx.dp⟩ ?_))
      refine add_key (s := { s' with toks := s'.toks + p.2.draws }) KS' hx hu (by have := had.len; omega) fun b h' L' es' ep' t' sb KS2 c1 c2 => ?_
      have off : ∀ b o, b ≠ S → s'.heap.get? b = some o → h'.get? b = some o := fun b o nb e => (sb.2 b nb).trans e
      refine wpAny_pure ⟨plainId_quiet F.plain_set_update_loop _, ih (i + 1) _ _ (by omega) (by omega) (W.frame _ s' _ _ st' (Nat.le_add_right _ _) fun b mb o e => off b o (fun z => nf (by rw [← z]; exact mb)) e)
        (fun b o e => off b o (fun z => by rw [z, nS] at e; cases e) (kp' b o e)) ⟨L', es', ep', t', KS2, had.next hp c1 c2⟩ fun s'' mv2 r => fin s'' (Moved.trans W.gtrans ((mv.mono fun b mb => List.mem_cons_of_mem _ mb).then_heap (Nat.le_add_right _ _) fun b o nb e => off b o (fun z => nb (by rw [z]; exact List.mem_cons_self ..)) e) mv2) r⟩
  exact go (items.size - 0) 0 s2 R rfl (Nat.zero_le _) st0 kp0 ⟨[], #[], 0, _, kset_new gS, fun p m => (by cases m), fun p m => (by simp at m), Nat.zero_le _⟩ fin
theorem fills_ints {h0 : Heap} {items : Array Value} {S : Addr} (ns : List Int) (hit : IntsAre items.toList ns) (few : ns.length + 1 < scanBound) : Fills P w A h0 items S (fun h => ∃ c, c ≤ ns.length ∧ SetR w h S (fun j => decide (j ∈ ns)) c) := by
  intro I fp G St s2 R W nf nI kp0 gS st0 fin
  have sz : items.size = ns.length := by
    have := hit.length
    simpa using this
  refine set_update_ints W S nf ns sz few (fun i v e => ?_) (items.size - 0) 0 s2 rfl (Nat.zero_le _) st0 ⟨0, Nat.le_refl _, setR_new_at gS⟩ fun s' c mv hc r => fin s' mv ⟨c, by rw [← sz]; exact hc, r⟩
  have hi : i < ns.length := by rw [← sz]; exact (Array.getElem?_eq_some_iff.mp e).1
  obtain ⟨t, z⟩ := IntsAre.int_at hit i v (by rw [Array.getElem?_toList]; exact e)
  refine ⟨ns[i], t, List.getElem?_eq_getElem hi, ?_⟩
  rw [z, List.getD_eq_getElem?_getD, List.getElem?_eq_getElem hi]
  rfl
/-- set(xs), xs a list or a tuple -/
theorem call_set_seq {l : Addr} {items : Array Value} {Fin : Heap → Prop} {Q : Value → Shared → Prop} (hh : A.handled = none) (hl : s.heap.IsList l items ∨ s.heap.IsTuple l items) (fl : Fills P w A.in1.in1 s.heap items s.heap.objs.size Fin)
    (q : ∀ (h' : Heap) (tk : Nat), Fin h' → (∀ b o, s.heap.get? b = some o → h'.get? b = some o) → Q (.ref s.heap.objs.size) { s with heap := h', toks := tk }) : wpAny (model P w) A (call (.type "set") [.ref l]) Q E s := by
  obtain ⟨c0, tl0, mro0⟩ := F.called_set.mro
  have made0 := F.called_set.made
  have sub0 := F.called_set.sub
  have ty0 := F.called_set.notType
  have cr0 := F.called_set.canCreate
  have tc0 := F.typeCall_set_1 (.ref l)
  refine wpAny_call (codeAny_of_tree ?_)
  show wpAny _ _ (callAny (.type "set") _) _ _ _
  refine wpAny_pure ⟨Code.quiet_builtin _ (by decide +kernel), codeAny_builtin F.entry_type_call ?_⟩
  rw [Around.under_plain (weight_type_call_type "set" [.ref l] []) rfl]
  repeat (any_goals (first | assumption | wp_step))
  refine codeAny_mono (code_set_led1 (.ref l) (E := E) (Q₁ := fun v s1 => v = .ref s.heap.objs.size ∧ s1 = { s with heap := s.heap.push (set0 w) }) ⟨rfl, rfl⟩) fun r s1 e => ?_
  rcases r with e' | r
  · exact e
  · cases r with
    | ret v =>
      obtain ⟨rfl, rfl⟩ := e
      have gS : (s.heap.push (set0 w)).get? s.heap.objs.size = some (set0 w) := Heap.get?_push_size _ rfl
      have tS : Shared.TypeIs { s with heap := s.heap.push (set0 w) } (.ref s.heap.objs.size) "set" := ⟨_, gS, rfl⟩
      have li := F.called_set.init.lookup
      have bi := F.called_set.init.bind (.ref s.heap.objs.size)
      repeat (any_goals (first | assumption | wp_step))
      refine codeAny_mono (codeAny_call_builtin (R := wants (fun r s2 => r = .none ∧ ∃ h' tk, s2 = { s with heap := h', toks := tk } ∧ Fin h' ∧ ∀ b o, s.heap.get? b = some o → h'.get? b = some o) E) F.called_set.init.plain F.entry_set_init (check_set_init_1 tS ?_)) fun r2 s2 e2 => ?_
      · have ltl : l < s.heap.objs.size := by
          rcases hl with ⟨o, g, _⟩ | ⟨o, g, _⟩ <;> exact Heap.lt_size g
        have h3 : A.in1.in1.in1.handled = none := by simp [hh]
        have zn : ∀ b, s.heap.objs.size ≤ b → s.heap.get? b = none := fun b hb => by
          cases z : s.heap.get? b with
          | none => rfl
          | some o => exact absurd (Heap.lt_size z) (Nat.not_lt.mpr hb)
        have neI : l ≠ (s.heap.push (set0 w)).objs.size := by rw [Heap.size_push]; exact Nat.ne_of_lt (Nat.lt_succ_of_lt ltl)
        have nfI : s.heap.objs.size ∉ [(s.heap.push (set0 w)).objs.size, l] := by
          rw [Heap.size_push]
          simp only [List.mem_cons, List.not_mem_nil, or_false, not_or]
          exact ⟨Nat.ne_of_lt (Nat.lt_succ_self _), Nat.ne_of_gt ltl⟩
        have fin : ∀ (I : Addr) (s2 s' : Shared), s.heap.objs.size ≤ I → s2.gens = s.gens → s2.drawn = s.drawn → s2.os = s.os → (∀ b o, s.heap.get? b = some o → s2.heap.get? b = some o) → Moved [s.heap.objs.size, I] (fun a b => b = a) s2 s' → Fin s'.heap →
            ∃ h' tk, s' = { s with heap := h', toks := tk } ∧ Fin h' ∧ ∀ b o, s.heap.get? b = some o → h'.get? b = some o := fun I s2 s' hI z1 z2 z3 kp mv f => by
          obtain ⟨h', g', d', tk', os'⟩ := s'
          have e1 : g' = s.gens := mv.gens.trans z1
          have e2 : d' = s.drawn := mv.drawn.trans z2
          have e3 : os' = s.os := mv.os.trans z3
          subst e1 e2 e3
          refine ⟨h', tk', rfl, f, fun b o e => mv.heap b o (fun m => ?_) (kp b o e)⟩
          have lt := Heap.lt_size e
          simp only [List.mem_cons, List.not_mem_nil, or_false] at m
          rcases m with m | m
          · exact absurd m (Nat.ne_of_lt lt)
          · exact absurd m (Nat.ne_of_lt (Nat.lt_of_lt_of_le lt hI))
        unfold Builtin.«set.__init__» noKeywords Builtin.Frozenset.updateFrom
        rcases hl with hl | hl
        · obtain ⟨ol, gl, cl, nl, dl⟩ := id hl
          obtain ⟨oc, od, oda, osl⟩ := ol
          simp only at cl dl
          subst cl dl
          have gl' : (s.heap.push (set0 w)).get? l = some { cls := .type "list", dict := od, data := .seq items nl, slots := osl } := Heap.get?_push_of_some _ gl
          have sb1 := F.sub_list_set
          have sb2 := F.sub_list_frozenset
          have nd1 : (Value.type "list" == Value.type "dict") = false := by decide
          have hl1 : (s.heap.push (set0 w)).IsList l items := ⟨_, gl', rfl, nl, rfl⟩
          generalize hPI : pyIter = PI
          wp_walk
          subst hPI
          refine wpAny_pyIter_list hl1 (wpAny_bind (wpAny_runValue ?_))
          refine fl _ _ _ _ _ _ ((Walks.list h3 _ l neI items).toS) nfI (zn _ (by rw [Heap.size_push]; exact Nat.le_succ _)) (fun b o e => Heap.get?_push_of_some _ (Heap.get?_push_of_some _ e)) (Heap.get?_push_of_some _ gS) ⟨⟨_, Heap.get?_push_size _ rfl, rfl, rfl⟩, hl1.push _⟩ fun s' mv f => ?_
          have r := fin (s.heap.push (set0 w)).objs.size { s with heap := (s.heap.push (set0 w)).push { cls := .type "list_iterator", data := .fields #[.ref l, .int 0 0] } } s' (by rw [Heap.size_push]; exact Nat.le_succ _) rfl rfl rfl (fun b o e => Heap.get?_push_of_some _ (Heap.get?_push_of_some _ e)) mv f
          refine wpAny_pure ?_
          show wpAny _ _ (ret Value.none) _ _ _
          exact wpAny_pure ⟨rfl, r⟩
        · obtain ⟨ol, gl, cl, nl, dl⟩ := id hl
          obtain ⟨oc, od, oda, osl⟩ := ol
          simp only at cl dl
          subst cl dl
          have gl' : (s.heap.push (set0 w)).get? l = some { cls := .type "tuple", dict := od, data := .seq items nl, slots := osl } := Heap.get?_push_of_some _ gl
          have sb1 := F.sub_tuple_set
          have sb2 := F.sub_tuple_frozenset
          have nd1 : (Value.type "tuple" == Value.type "dict") = false := by decide
          have hl1 : (s.heap.push (set0 w)).IsTuple l items := ⟨_, gl', rfl, nl, rfl⟩
          generalize hPI : pyIter = PI
          wp_walk
          subst hPI
          refine wpAny_pyIter_tuple hl1 (wpAny_bind (wpAny_runValue ?_))
          refine fl _ _ _ _ _ _ ((Walks.tuple h3 _ l neI items).toS) nfI (zn _ (by rw [Heap.size_push]; exact Nat.le_succ _)) (fun b o e => Heap.get?_push_of_some _ (Heap.get?_push_of_some _ e)) (Heap.get?_push_of_some _ gS) ⟨⟨_, Heap.get?_push_size _ rfl, rfl, rfl⟩, hl1.push _⟩ fun s' mv f => ?_
          have r := fin (s.heap.push (set0 w)).objs.size { s with heap := (s.heap.push (set0 w)).push { cls := .type "tuple_iterator", data := .fields #[.ref l, .int 0 0] } } s' (by rw [Heap.size_push]; exact Nat.le_succ _) rfl rfl rfl (fun b o e => Heap.get?_push_of_some _ (Heap.get?_push_of_some _ e)) mv f
          refine wpAny_pure ?_
          show wpAny _ _ (ret Value.none) _ _ _
          exact wpAny_pure ⟨rfl, r⟩
      · rcases r2 with e' | r2
        · exact e2
        · cases r2 with
          | ret r =>
            obtain ⟨rfl, h', tk, rfl, f, kp⟩ := e2
            repeat (any_goals (first | assumption | wp_step))
            exact q h' tk f kp
          | _ => exact e2.elim
    | _ => exact e.elim
end
end TB
set_option maxHeartbeats 4000000
namespace TB
open PySem

/-- a value of the core language: data, or a place of the local heap -/
inductive Vl where
  | dat (d : PyData)
  | loc (n : Nat)
abbrev HP := List (List PyData)
inductive RV where
  | v (x : Vl)
  | new (ds : List PyData)
inductive Res (α : Type) where
  | ok (a : α) (h : HP)
  | exc (c : Nat) (h : HP)
  | bad
def Res.bind {α β : Type} (r : Res α) (f : α → HP → Res β) : Res β :=
  match r with
  | .ok a h => f a h
  | .exc c h => .exc c h
  | .bad => .bad
@[simp] theorem Res.bind_ok {α β : Type} (a : α) (h : HP) (f : α → HP → Res β) : Res.bind (.ok a h) f = f a h := rfl
@[simp] theorem Res.bind_exc {α β : Type} (c : Nat) (h : HP) (f : α → HP → Res β) : Res.bind (.exc c h) f = .exc c h := rfl
@[simp] theorem Res.bind_bad {α β : Type} (f : α → HP → Res β) : Res.bind (.bad : Res α) f = .bad := rfl
def ofOpt {α : Type} (o : Option α) (h : HP) : Res α := match o with
  | some a => .ok a h
  | none => .bad
@[simp] theorem ofOpt_some {α : Type} (a : α) (h : HP) : ofOpt (some a) h = .ok a h := rfl
@[simp] theorem ofOpt_none {α : Type} (h : HP) : ofOpt (none : Option α) h = .bad := rfl

abbrev EV := List (Option Vl)

/-- kinds of data that can be put in order -/
inductive Kd where
  | int | nil
  | many (k : Kd)
  | cons (a b : Kd)

inductive BO where | add | sub | mul | fdiv | mod
inductive CO where | eq | ne | lt | le | gt | ge | isin | notin
/-- built-in functions of one argument -/
inductive B1 where | len | all | any | sum | max | min | abs | tuple | list | int | listRange | tupRange | lenSet
/-- types asked by isinstance -/
inductive TY where | int | bool | tuple | list | str
inductive MT where | append | extend
/-- patterns of targets -/
inductive Tg where
  | name (i : Nat)
  | nil
  | cons (t u : Tg)

mutual
inductive CE where
  | var (i : Nat)
  | cst (d : PyData)
  | tup (es : CEs)
  | lst (es : CEs)
  | bin (op : BO) (a b : CE)
  | neg (a : CE)
  | not (a : CE)
  | and (a b : CE)
  | or (a b : CE)
  | cmp (op : CO) (a b : CE)
  | isN (neg : Bool) (a : CE)
  | chain (o1 o2 : CO) (a b c : CE)
  | ite (c a b : CE)
  | idx (a i : CE)
  | slice (a : CE) (lo hi : CP)
  | rev (a : CE)
  | call (f : Nat) (es : CEs)
  | b1 (b : B1) (a : CE)
  | b2 (mx : Bool) (a b : CE)
  | sorted (k : Kd) (a : CE)
  | sortedSet (k : Kd) (a : CE)
  | isinst (t : TY) (a : CE)
  | meth (m : MT) (o a : CE)
  | pop (o : CE)
  | comp (elt : CE) (tg : Tg) (it : CI) (cond : CP) (own : List Nat)
  | lenSet (k : Kd) (a : CE)
  | conv2 (tup : Bool) (a b : CE)
  | call0 (f : Nat)
  | index (a x : CE)
  | mini (mx : Bool) (k : Kd) (a : CE)
  | popAt (o i : CE)
  | comp2 (elt : CE) (tg : Tg) (it : CI) (cond : CP) (tg2 : Tg) (it2 : CI) (cond2 : CP) (own own2 : List Nat)
  | compB (elt : CE) (tg : Tg) (i : Nat) (cond : CP) (own : List Nat)
inductive CEs where
  | nil
  | cons (e : CE) (es : CEs)
/-- a part that may be missing -/
inductive CP where
  | none
  | some (e : CE)
/-- what is walked -/
inductive CI where
  | seq (e : CE)
  | range (a : CE)
  | range2 (a b : CE)
  | enum (a : CE)
  | zip (a b : CE)
end

mutual
inductive CS where
  | put (i : Nat) (b : Bool) (e : CE)
  | asg (t : Tg) (e : CE)
  | par2 (i j : Nat) (b c : Bool) (e1 e2 : CE)
  | par3 (i j l : Nat) (b c d : Bool) (e1 e2 e3 : CE)
  | setIx (o i e : CE)
  | aug (i : Nat) (e : CE)
  | exp (e : CE)
  | ite (c : CE) (a b : CSs)
  | loop (t : Tg) (it : CI) (body : CSs)
  | loopB (t : Tg) (i : Nat) (body : CSs)
  | while (c : CE) (body : CSs)
  | ret (e : CE)
  | retN
  | raise (c : Nat)
  | try_ (body : CSs) (hs : List (Nat × PyData))
  | pass
inductive CSs where
  | nil
  | cons (s : CS) (ss : CSs)
end

structure Def where
  name : Str
  N : List Str
  np : Nat
  body : CSs

/-! ### data -/
def LIM : Nat := 1000000

mutual
def hasK : Kd → PyData → Bool
  | .int, .int _ => true
  | k, .tuple xs => hasKs k xs
  | _, _ => false
def hasKs : Kd → List PyData → Bool
  | .many _, [] => true
  | .many k, x :: xs => hasK k x && hasKs (.many k) xs
  | .nil, [] => true
  | .cons a b, x :: xs => hasK a x && hasKs b xs
  | _, _ => false
end

/-- x < y of data of one kind -/
def ltD (x y : PyData) : Bool := PySem.W.dataLt x y
def insD (x : PyData) : List PyData → List PyData
  | [] => [x]
  | y :: ys => if ltD x y then x :: y :: ys else y :: insD x ys
/-- insertion from the right keeps equal ones in their order -/
def sortD : List PyData → List PyData
  | [] => []
  | x :: xs => insL x (sortD xs)
where insL (x : PyData) : List PyData → List PyData
  | [] => [x]
  | y :: ys => if ltD y x then y :: insL x ys else x :: y :: ys
def dedup : List PyData → List PyData
  | [] => []
  | x :: xs => if xs.any fun y => PyData.eqv y x then dedup xs else x :: dedup xs

def datOf (h : HP) : Vl → Option PyData
  | .dat d => some d
  | .loc n => (h[n]?).map .list
def truthD : PyData → Option Bool
  | .none => some false
  | .bool b => some b
  | .int i => some (i != 0)
  | .list xs => some (!xs.isEmpty)
  | .tuple xs => some (!xs.isEmpty)
  | _ => none
def itemsD : PyData → Option (List PyData)
  | .list xs => some xs
  | .tuple xs => some xs
  | _ => none
def okD (d : PyData) : Bool := PySem.SeqAt.shaped d

def smallI (i : Int) : Bool := decide (-1000000 ≤ i ∧ i ≤ 1000000)

def binD : BO → PyData → PyData → Option RV
  | .add, .int a, .int b => some (.v (.dat (.int (a + b))))
  | .add, .tuple a, .tuple b => if a.length + b.length ≤ LIM then some (.v (.dat (.tuple (a ++ b)))) else none
  | .add, .list a, .list b => if a.length + b.length ≤ LIM then some (.new (a ++ b)) else none
  | .sub, .int a, .int b => some (.v (.dat (.int (a - b))))
  | .mul, .int a, .int b => if -(2 ^ 64) < a ∧ a < 2 ^ 64 then some (.v (.dat (.int (a * b)))) else none
  | .mul, .list a, .int n => if smallI n && decide (a.length * n.toNat ≤ LIM) then some (.new (List.replicate n.toNat a).flatten) else none
  | .fdiv, .int a, .int b => if 0 < b ∧ b < 1073741824 then some (.v (.dat (.int (a / b)))) else none
  | .mod, .int a, .int b => if 0 < b then some (.v (.dat (.int (a % b)))) else none
  | _, _, _ => none
def cmpI : CO → Int → Int → Option Bool
  | .lt, a, b => some (decide (a < b))
  | .le, a, b => some (decide (a ≤ b))
  | .gt, a, b => some (decide (b < a))
  | .ge, a, b => some (decide (b ≤ a))
  | _, _, _ => none
def cmpD : CO → PyData → PyData → Option Bool
  | .eq, a, b => if okD a && okD b then some (PyData.eqv a b) else none
  | .ne, a, b => if okD a && okD b then some (!PyData.eqv a b) else none
  | .isin, a, b => match itemsD b with
    | some ys => if okD a && okD b then some (ys.any fun z => PyData.eqv z a) else none
    | none => none
  | .notin, a, b => match itemsD b with
    | some ys => if okD a && okD b then some (!ys.any fun z => PyData.eqv z a) else none
    | none => none
  | .lt, .tuple a, .tuple b => if okD (.tuple a) && okD (.tuple b) && PySem.W.alike (.tuple a) (.tuple b) then some (ltD (.tuple a) (.tuple b)) else none
  | op, .int a, .int b => cmpI op a b
  | _, _, _ => none

/-- the place of an index -/
def ixOf (n : Nat) (i : Int) : Option Nat :=
  if 0 ≤ i then (if i < n then some i.toNat else none) else (if -(n : Int) ≤ i then some (i + n).toNat else none)
def idxD (a i : PyData) : Option PyData :=
  match itemsD a, i with
  | some xs, .int k => (ixOf xs.length k).bind fun j => xs[j]?
  | _, _ => none
def cutD (xs : List PyData) (lo hi : Option Int) : List PyData :=
  (xs.drop (HT.sIx xs.length 0 lo)).take (HT.sIx xs.length xs.length hi - HT.sIx xs.length 0 lo)
def sliceD (d : PyData) (l u : Option Int) : Option RV := match d with
  | .list xs => some (.new (cutD xs l u))
  | .tuple xs => some (.v (.dat (.tuple (cutD xs l u))))
  | _ => none
def revD : PyData → Option RV
  | .list xs => some (.new xs.reverse)
  | _ => none
def intOf : PyData → Option Int
  | .int i => some i
  | _ => none
def rangeD (a b : Int) : List PyData := (List.range (b - a).toNat).map fun k => .int (a + (k : Nat))
def boolsOf : List PyData → Option (List Bool)
  | [] => some []
  | .bool b :: xs => (boolsOf xs).map (b :: ·)
  | _ => none
def intsOf : List PyData → Option (List Int)
  | [] => some []
  | .int i :: xs => (intsOf xs).map (i :: ·)
  | _ => none
def maxL : Int → List Int → Int
  | m, [] => m
  | m, x :: xs => maxL (if m < x then x else m) xs
def minL : Int → List Int → Int
  | m, [] => m
  | m, x :: xs => minL (if x < m then x else m) xs
def b1D : B1 → PyData → Option RV
  | .len, d => (itemsD d).map fun xs => .v (.dat (.int xs.length))
  | .all, .list xs => (boolsOf xs).map fun bs => .v (.dat (.bool (bs.all id)))
  | .any, .list xs => (boolsOf xs).map fun bs => .v (.dat (.bool (bs.any id)))
  | .sum, .list xs => (intsOf xs).map fun is => .v (.dat (.int is.sum))
  | .max, .list xs => (intsOf xs).bind fun is => match is with
    | [] => none
    | i :: is => some (.v (.dat (.int (maxL i is))))
  | .min, .list xs => (intsOf xs).bind fun is => match is with
    | [] => none
    | i :: is => some (.v (.dat (.int (minL i is))))
  | .abs, .int i => some (.v (.dat (.int (if i < 0 then -i else i))))
  | .tuple, d => (itemsD d).map fun xs => .v (.dat (.tuple xs))
  | .list, d => (itemsD d).map fun xs => .new xs
  | .int, .bool b => some (.v (.dat (.int (if b then 1 else 0))))
  | .listRange, .int i => if smallI i then some (.new (rangeD 0 i)) else none
  | .tupRange, .int i => if smallI i then some (.v (.dat (.tuple (rangeD 0 i)))) else none
  | _, _ => none
def isinstD : TY → PyData → Bool
  | .int, .int _ => true
  | .int, .bool _ => true
  | .bool, .bool _ => true
  | .tuple, .tuple _ => true
  | .list, .list _ => true
  | .str, .str _ => true
  | _, _ => false
def sortedD (k : Kd) (d : PyData) : Option RV :=
  (itemsD d).bind fun xs => if xs.all (fun x => hasK k x && okD x) then some (.new (sortD xs)) else none
def sortedSetD (k : Kd) (d : PyData) : Option RV :=
  (itemsD d).bind fun xs => if xs.all (fun x => hasK k x && decide (x.depth ≤ 8)) && decide (xs.length < 64) then some (.new (sortD (dedup xs))) else none

def lenSetD (k : Kd) (d : PyData) : Option RV :=
  (itemsD d).bind fun xs => if xs.all (fun x => hasK k x && decide (x.depth ≤ 8)) && decide (xs.length < 64) then some (.v (.dat (.int (dedup xs).length))) else none
def conv2D (tup : Bool) (i j : Int) : Option RV :=
  if smallI i && smallI j then some (if tup then .v (.dat (.tuple (rangeD i j))) else .new (rangeD i j)) else none
def findD (y : PyData) : List PyData → Nat → Option Nat
  | [], _ => none
  | x :: xs, n => if PyData.eqv x y then some n else findD y xs (n + 1)
def indexD (d y : PyData) : Option RV := match d with
  | .tuple xs => if okD (.tuple xs) && okD y then (findD y xs 0).map fun n => .v (.dat (.int n)) else none
  | _ => none
def bestD (mx : Bool) : PyData → List PyData → PyData
  | m, [] => m
  | m, x :: xs => bestD mx (if (if mx then ltD m x else ltD x m) then x else m) xs
def miniD (mx : Bool) (k : Kd) (d : PyData) : Option RV := match d with
  | .list (x :: xs) => if (x :: xs).all (fun x => hasK k x && okD x) then some (.v (.dat (bestD mx x xs))) else none
  | _ => none
mutual
/-- how a target takes a value -/
def bindT : Tg → PyData → EV → Option EV
  | .name i, d, ρ => if i < ρ.length then some (ρ.set i (some (.dat d))) else none
  | .nil, d, ρ => match d with
    | .tuple [] => some ρ
    | _ => none
  | .cons t u, d, ρ => match d with
    | .tuple (x :: xs) => (bindT t x ρ).bind fun ρ' => bindTs u xs ρ'
    | _ => none
def bindTs : Tg → List PyData → EV → Option EV
  | .name _, _, _ => none
  | .nil, xs, ρ => match xs with
    | [] => some ρ
    | _ => none
  | .cons t u, xs, ρ => match xs with
    | x :: xs => (bindT t x ρ).bind fun ρ' => bindTs u xs ρ'
    | _ => none
end
def wipeE (ρ : EV) : List Nat → EV
  | [] => ρ
  | v :: vs => (wipeE ρ vs).set v none
def zipD : List PyData → List PyData → List PyData
  | x :: xs, y :: ys => .tuple [x, y] :: zipD xs ys
  | _, _ => []
def zipI : PyData → PyData → Option (List PyData)
  | .list xs, .list ys => if xs.length ≤ LIM then some (zipD xs ys) else none
  | .tuple xs, .tuple ys => if xs.length ≤ LIM then some (zipD xs ys) else none
  | _, _ => none
def enumD : Nat → List PyData → List PyData
  | _, [] => []
  | n, x :: xs => .tuple [.int n, x] :: enumD (n + 1) xs

/-! ### the interpreter -/
abbrev CallF := Nat → List Vl → HP → Res RV
def settle : RV → Vl
  | .v x => x
  | .new ds => .dat (.list ds)
/-- the value of a name -/
def getV (ρ : EV) (i : Nat) : Option Vl := match ρ[i]? with
  | some (some x) => some x
  | _ => none
def putB (ρ : EV) (h : HP) (i : Nat) (b : Bool) (r : RV) : Option (EV × HP) :=
  if i < ρ.length then
    match b, r with
    | false, r => some (ρ.set i (some (settle r)), h)
    | true, .new ds => some (ρ.set i (some (.loc h.length)), h ++ [ds])
    | true, .v x => some (ρ.set i (some x), h)
  else none
def dat1 (h : HP) (r : RV) : Option PyData := datOf h (settle r)
def asD : RV → Option PyData
  | .v (.dat d) => some d
  | .new ds => some (.list ds)
  | .v (.loc _) => none

def allDat : List Vl → Option (List PyData)
  | [] => some []
  | .dat d :: xs => (allDat xs).map (d :: ·)
  | .loc _ :: _ => none
def locOf : RV → Option Nat
  | .v (.loc n) => some n
  | _ => none
def methD (m : MT) (h : HP) (n : Nat) (y : RV) : Option HP :=
  match m with
  | .append => (h[n]?).bind fun xs => (asD y).bind fun d => if xs.length < LIM then some (h.set n (xs ++ [d])) else none
  | .extend => (h[n]?).bind fun xs => (dat1 h y).bind fun d => (itemsD d).bind fun ys => if xs.length + ys.length ≤ LIM then some (h.set n (xs ++ ys)) else none
def popD (h : HP) (n : Nat) : Option (PyData × HP) := (h[n]?).bind fun xs => (xs[xs.length - 1]?).map fun d => (d, h.set n xs.dropLast)
def popAtD (h : HP) (n : Nat) (i : Int) : Option (PyData × HP) := if !smallI i then none else (h[n]?).bind fun xs => (ixOf xs.length i).bind fun j => (xs[j]?).map fun d => (d, h.set n (xs.eraseIdx j))
/-- a comprehension's outer turns -/
def compM (turn : PyData → HP → List PyData → Res (List PyData)) : List PyData → List PyData → HP → Res (List PyData)
  | [], acc, h => .ok acc h
  | x :: xs, acc, h => (turn x h acc).bind fun acc' h' => compM turn xs acc' h'
/-- .. and the inner ones: what is found so far, the last one first -/
def compN (turn : PyData → HP → Res (Option PyData)) : List PyData → List PyData → HP → Res (List PyData)
  | [], acc, h => .ok acc h
  | x :: xs, acc, h => if acc.length < LIM then (turn x h).bind fun o h' => compN turn xs (match o with | some y => y :: acc | none => acc) h' else .bad
mutual
/-- the same data -/
def eqD : PyData → PyData → Bool
  | .none, .none => true
  | .bool a, .bool b => a == b
  | .int a, .int b => a == b
  | .str a, .str b => a == b
  | .list a, .list b => eqDs a b
  | .tuple a, .tuple b => eqDs a b
  | .dict a, .dict b => eqKv a b
  | _, _ => false
def eqDs : List PyData → List PyData → Bool
  | [], [] => true
  | x :: xs, y :: ys => eqD x y && eqDs xs ys
  | _, _ => false
def eqKv : List (PyData × PyData) → List (PyData × PyData) → Bool
  | [], [] => true
  | (a, b) :: xs, (c, d) :: ys => eqD a c && eqD b d && eqKv xs ys
  | _, _ => false
end
/-- the walked list is still what it was -/
def guardD (o : Option Nat) (ds : List PyData) (h : HP) : Bool := match o with
  | none => true
  | some n => match h[n]? with
    | some es => eqDs es ds
    | none => false
/-- what the name holds, walked: a place, or data -/
def boxI (ρ : EV) (h : HP) (i : Nat) : Option (Option Nat × List PyData) := match getV ρ i with
  | some (.loc n) => (h[n]?).map fun ds => (some n, ds)
  | some (.dat d) => (itemsD d).map fun ds => (none, ds)
  | none => none
def compG (g : HP → Bool) (turn : PyData → HP → Res (Option PyData)) : List PyData → List PyData → HP → Res (List PyData)
  | [], acc, h => if g h then .ok acc.reverse h else .bad
  | x :: xs, acc, h => if g h then (turn x h).bind fun o h' => compG g turn xs (match o with | some y => y :: acc | none => acc) h' else .bad
/-- one turn after the other of a comprehension -/
def compL (turn : PyData → HP → Res (Option PyData)) : List PyData → List PyData → HP → Res (List PyData)
  | [], acc, h => .ok acc.reverse h
  | x :: xs, acc, h => (turn x h).bind fun o h' => compL turn xs (match o with | some y => y :: acc | none => acc) h'
def noExc {α : Type} : Res α → Res α
  | .ok a h => .ok a h
  | _ => .bad

section
variable (call : CallF)
mutual
def ev : CE → EV → HP → Res RV
  | .var i, ρ, h => ofOpt ((getV ρ i).map .v) h
  | .cst d, _, h => .ok (.v (.dat d)) h
  | .tup es, ρ, h => (evVs es ρ h).bind fun xs h => ofOpt ((allDat xs).map fun ds => .v (.dat (.tuple ds))) h
  | .lst es, ρ, h => (evVs es ρ h).bind fun xs h => ofOpt ((allDat xs).map .new) h
  | .bin op a b, ρ, h => (ev a ρ h).bind fun x h => (ev b ρ h).bind fun y h =>
      ofOpt ((dat1 h x).bind fun d => (dat1 h y).bind fun e => binD op d e) h
  | .neg a, ρ, h => (ev a ρ h).bind fun x h => ofOpt ((dat1 h x).bind fun d => (intOf d).map fun i => .v (.dat (.int (-i)))) h
  | .not a, ρ, h => (ev a ρ h).bind fun x h => ofOpt ((dat1 h x).bind fun d => (truthD d).map fun b => .v (.dat (.bool (!b)))) h
  | .and a b, ρ, h => (ev a ρ h).bind fun x h => (ofOpt ((dat1 h x).bind truthD) h).bind fun t h => if t then ev b ρ h else .ok (.v (settle x)) h
  | .or a b, ρ, h => (ev a ρ h).bind fun x h => (ofOpt ((dat1 h x).bind truthD) h).bind fun t h => if t then .ok (.v (settle x)) h else ev b ρ h
  | .cmp op a b, ρ, h => (ev a ρ h).bind fun x h => (ev b ρ h).bind fun y h =>
      ofOpt ((dat1 h x).bind fun d => (dat1 h y).bind fun e => (cmpD op d e).map fun b => .v (.dat (.bool b))) h
  | .isN neg a, ρ, h => (ev a ρ h).bind fun x h => .ok (.v (.dat (.bool (match x with | .v (.dat .none) => !neg | _ => neg)))) h
  | .chain o1 o2 a b c, ρ, h => (ev a ρ h).bind fun x h => (ev b ρ h).bind fun y h =>
      (ofOpt ((dat1 h x).bind fun d => (dat1 h y).bind fun e => cmpD o1 d e) h).bind fun t h =>
        if t then (ev c ρ h).bind fun z h => ofOpt ((dat1 h y).bind fun d => (dat1 h z).bind fun e => (cmpD o2 d e).map fun b => .v (.dat (.bool b))) h
        else .ok (.v (.dat (.bool false))) h
  | .ite c a b, ρ, h => ((ev c ρ h).bind fun x h => ofOpt ((dat1 h x).bind truthD) h).bind fun t h => if t then ev a ρ h else ev b ρ h
  | .idx a i, ρ, h => (ev a ρ h).bind fun x h => (ev i ρ h).bind fun y h =>
      ofOpt ((dat1 h x).bind fun d => (dat1 h y).bind fun e => (idxD d e).map fun z => .v (.dat z)) h
  | .slice a lo hi, ρ, h => (ev a ρ h).bind fun x h => (evP lo ρ h).bind fun l h => (evP hi ρ h).bind fun u h => ofOpt ((dat1 h x).bind fun d => sliceD d l u) h
  | .rev a, ρ, h => (ev a ρ h).bind fun x h => ofOpt ((dat1 h x).bind revD) h
  | .call f es, ρ, h => (evVs es ρ h).bind fun xs h => call f xs h
  | .b1 b a, ρ, h => (ev a ρ h).bind fun x h => ofOpt ((dat1 h x).bind (b1D b)) h
  | .b2 mx a b, ρ, h => (ev a ρ h).bind fun x h => (ev b ρ h).bind fun y h =>
      ofOpt ((dat1 h x).bind fun d => (intOf d).bind fun i => (dat1 h y).bind fun e => (intOf e).map fun j => .v (.dat (.int (if mx then (if j > i then j else i) else (if j < i then j else i))))) h
  | .sorted k a, ρ, h => (ev a ρ h).bind fun x h => ofOpt ((dat1 h x).bind (sortedD k)) h
  | .sortedSet k a, ρ, h => (ev a ρ h).bind fun x h => ofOpt ((dat1 h x).bind (sortedSetD k)) h
  | .isinst t a, ρ, h => (ev a ρ h).bind fun x h => ofOpt ((dat1 h x).map fun d => .v (.dat (.bool (isinstD t d)))) h
  | .meth m o a, ρ, h => (ev o ρ h).bind fun x h => match locOf x with
      | some n => (ev a ρ h).bind fun y h => (ofOpt (methD m h n y) h).bind fun h' _ => .ok (.v (.dat .none)) h'
      | none => .bad
  | .pop o, ρ, h => (ev o ρ h).bind fun x h => match locOf x with
      | some n => (ofOpt (popD h n) h).bind fun p _ => .ok (.v (.dat p.1)) p.2
      | none => .bad
  | .comp elt tg it cond own, ρ, h => noExc ((evI it ρ h).bind fun items h =>
      (compL (fun x h => (ofOpt (bindT tg x (wipeE ρ own)) h).bind fun ρ' h => (evC cond ρ' h).bind fun t h =>
        if t then (ev elt ρ' h).bind fun y h => ofOpt ((asD y).map some) h else .ok none h) items [] h).bind fun ds h => .ok (.new ds) h)
  | .lenSet k a, ρ, h => (ev a ρ h).bind fun x h => ofOpt ((dat1 h x).bind (lenSetD k)) h
  | .conv2 tup a b, ρ, h => (ev a ρ h).bind fun x h => (ev b ρ h).bind fun y h => ofOpt ((dat1 h x).bind fun d => (intOf d).bind fun i => (dat1 h y).bind fun e => (intOf e).bind fun j => conv2D tup i j) h
  | .call0 f, _, h => call f [] h
  | .index a b, ρ, h => (ev a ρ h).bind fun x h => (ev b ρ h).bind fun y h => ofOpt ((dat1 h x).bind fun d => (dat1 h y).bind fun e => indexD d e) h
  | .mini mx k a, ρ, h => (ev a ρ h).bind fun x h => ofOpt ((dat1 h x).bind (miniD mx k)) h
  | .popAt o i, ρ, h => (ev o ρ h).bind fun x h => match locOf x with
      | some n => (ev i ρ h).bind fun y h => (ofOpt ((dat1 h y).bind fun d => (intOf d).bind fun i => popAtD h n i) h).bind fun p _ => .ok (.v (.dat p.1)) p.2
      | none => .bad
  | .comp2 elt tg it cond tg2 it2 cond2 own own2, ρ, h => noExc ((evI it ρ h).bind fun items h =>
      (compM (fun x h acc => (ofOpt (bindT tg x (wipeE ρ own)) h).bind fun ρ' h => (evC cond ρ' h).bind fun t h =>
        if t then (evI it2 ρ' h).bind fun items2 h => compN (fun x h => (ofOpt (bindT tg2 x (wipeE ρ' own2)) h).bind fun ρ'' h => (evC cond2 ρ'' h).bind fun t h =>
            if t then (ev elt ρ'' h).bind fun y h => ofOpt ((asD y).map some) h else .ok none h) items2 acc h
        else .ok acc h) items [] h).bind fun ds h => .ok (.new ds.reverse) h)
  | .compB elt tg i cond own, ρ, h => match boxI ρ h i with
      | some (o, items) => noExc ((compG (guardD o items) (fun x h => (ofOpt (bindT tg x (wipeE ρ own)) h).bind fun ρ' h => (evC cond ρ' h).bind fun t h =>
        if t then (ev elt ρ' h).bind fun y h => ofOpt ((asD y).map some) h else .ok none h) items [] h).bind fun ds h => .ok (.new ds) h)
      | none => .bad
def evVs : CEs → EV → HP → Res (List Vl)
  | .nil, _, h => .ok [] h
  | .cons e es, ρ, h => (ev e ρ h).bind fun x h => (evVs es ρ h).bind fun xs h => .ok (settle x :: xs) h
/-- a part of a slice -/
def evP : CP → EV → HP → Res (Option Int)
  | .none, _, h => .ok none h
  | .some e, ρ, h => (ev e ρ h).bind fun x h => ofOpt ((dat1 h x).bind fun d => (intOf d).bind fun i => if smallI i then some (some i) else none) h
/-- a condition -/
def evC : CP → EV → HP → Res Bool
  | .none, _, h => .ok true h
  | .some e, ρ, h => (ev e ρ h).bind fun x h => ofOpt ((dat1 h x).bind truthD) h
def evI : CI → EV → HP → Res (List PyData)
  | .seq e, ρ, h => (ev e ρ h).bind fun x h => ofOpt ((asD x).bind itemsD) h
  | .range a, ρ, h => (ev a ρ h).bind fun x h => ofOpt ((dat1 h x).bind fun d => (intOf d).bind fun i => if smallI i then some (rangeD 0 i) else none) h
  | .range2 a b, ρ, h => (ev a ρ h).bind fun x h => (ev b ρ h).bind fun y h => ofOpt ((dat1 h x).bind fun d => (intOf d).bind fun i => (dat1 h y).bind fun e => (intOf e).bind fun j =>
      if smallI i && smallI j then some (rangeD i j) else none) h
  | .enum a, ρ, h => (ev a ρ h).bind fun x h => ofOpt ((asD x).bind fun d => (itemsD d).map (enumD 0)) h
  | .zip a b, ρ, h => (ev a ρ h).bind fun x h => (ofOpt (asD x) h).bind fun d h => (ev b ρ h).bind fun y h => ofOpt ((asD y).bind fun e => zipI d e) h
end

/-- how a statement ends -/
inductive Fl where
  | next (ρ : EV)
  | ret (r : RV)
def forL (body : PyData → EV → HP → Res Fl) : List PyData → EV → HP → Res Fl
  | [], ρ, h => .ok (.next ρ) h
  | x :: xs, ρ, h => (body x ρ h).bind fun f h => match f with
    | .next ρ => forL body xs ρ h
    | .ret r => .ok (.ret r) h
def forG (g : HP → Bool) (body : PyData → EV → HP → Res Fl) : List PyData → EV → HP → Res Fl
  | [], ρ, h => if g h then .ok (.next ρ) h else .bad
  | x :: xs, ρ, h => if g h then (body x ρ h).bind fun f h => match f with
    | .next ρ => forG g body xs ρ h
    | .ret r => .ok (.ret r) h
    else .bad
def whileL (c : EV → HP → Res Bool) (body : EV → HP → Res Fl) : Nat → EV → HP → Res Fl
  | 0, _, _ => .bad
  | n + 1, ρ, h => (c ρ h).bind fun t h => if t then (body ρ h).bind fun f h => match f with
      | .next ρ => whileL c body n ρ h
      | .ret r => .ok (.ret r) h
    else .ok (.next ρ) h
def putS (i : Nat) (b : Bool) (x : RV) (ρ : EV) (h : HP) : Res Fl :=
  match putB ρ h i b x with
  | some p => .ok (.next p.1) p.2
  | none => .bad
def putPar : List (Nat × Bool) → List RV → EV → HP → Option (EV × HP)
  | [], [], ρ, h => some (ρ, h)
  | (i, b) :: is, r :: rs, ρ, h => (putB ρ h i b r).bind fun p => putPar is rs p.1 p.2
  | _, _, _, _ => none
def parS (is : List (Nat × Bool)) (rs : List RV) (ρ : EV) (h : HP) : Res Fl :=
  match putPar is rs ρ h with
  | some p => .ok (.next p.1) p.2
  | none => .bad
def setAt (xs : List PyData) (i : Int) (d : PyData) : Option (List PyData) := (ixOf xs.length i).map fun j => xs.set j d
def setD (h : HP) (x y : RV) (d : PyData) : Option HP := (locOf x).bind fun n => (h[n]?).bind fun xs => (dat1 h y).bind fun k => (intOf k).bind fun k => (setAt xs k d).map fun xs => h.set n xs
def handle (root : Nat) (c : Nat) : List (Nat × PyData) → Option PyData
  | [] => none
  | (k, d) :: hs => if c = k ∨ k = root then some d else handle root c hs
variable (fw : Nat)
mutual
def ex : CS → EV → HP → Res Fl
  | .put i b e, ρ, h => (ev call e ρ h).bind fun x h => putS i b x ρ h
  | .asg t e, ρ, h => (ev call e ρ h).bind fun x h => (ofOpt ((asD x).bind fun d => bindT t d ρ) h).bind fun ρ h => .ok (.next ρ) h
  | .par2 i j b c e1 e2, ρ, h => (ev call e1 ρ h).bind fun x h => (ev call e2 ρ h).bind fun y h => parS [(i, b), (j, c)] [x, y] ρ h
  | .par3 i j l b c d e1 e2 e3, ρ, h => (ev call e1 ρ h).bind fun x h => (ev call e2 ρ h).bind fun y h => (ev call e3 ρ h).bind fun z h => parS [(i, b), (j, c), (l, d)] [x, y, z] ρ h
  | .setIx o i e, ρ, h => (ev call e ρ h).bind fun z h => (ofOpt (asD z) h).bind fun d h => (ev call o ρ h).bind fun x h => (ev call i ρ h).bind fun y h => (ofOpt (setD h x y d) h).bind fun h' _ => .ok (.next ρ) h'
  | .aug i e, ρ, h => (ofOpt ((getV ρ i).bind fun o => (datOf h o).bind intOf) h).bind fun a h => (ev call e ρ h).bind fun x h => (ofOpt ((dat1 h x).bind intOf) h).bind fun b h =>
      .ok (.next (ρ.set i (some (.dat (.int (a + b)))))) h
  | .exp e, ρ, h => (ev call e ρ h).bind fun _ h => .ok (.next ρ) h
  | .ite c a b, ρ, h => ((ev call c ρ h).bind fun x h => ofOpt ((dat1 h x).bind truthD) h).bind fun t h => if t then exs a ρ h else exs b ρ h
  | .loop t it body, ρ, h => (evI call it ρ h).bind fun items h => forL (fun x ρ h => (ofOpt (bindT t x ρ) h).bind fun ρ h => exs body ρ h) items ρ h
  | .loopB t i body, ρ, h => match boxI ρ h i with
      | some (o, items) => forG (guardD o items) (fun x ρ h => (ofOpt (bindT t x ρ) h).bind fun ρ h => exs body ρ h) items ρ h
      | none => .bad
  | .while c body, ρ, h => whileL (fun ρ h => (ev call c ρ h).bind fun x h => ofOpt ((dat1 h x).bind truthD) h) (fun ρ h => exs body ρ h) fw ρ h
  | .ret e, ρ, h => (ev call e ρ h).bind fun x h => .ok (.ret x) h
  | .retN, _, h => .ok (.ret (.v (.dat .none))) h
  | .raise c, _, h => .exc c h
  | .try_ body hs, ρ, h => match exs body ρ h with
      | .exc c h' => (match handle 0 c hs with
          | some d => .ok (.ret (.v (.dat d))) h'
          | none => .exc c h')
      | r => r
  | .pass, ρ, h => .ok (.next ρ) h
def exs : CSs → EV → HP → Res Fl
  | .nil, ρ, h => .ok (.next ρ) h
  | .cons s ss, ρ, h => (ex s ρ h).bind fun f h => match f with
    | .next ρ => exs ss ρ h
    | .ret r => .ok (.ret r) h
end
end

abbrev Prog := List (Nat × Def)
def startE (d : Def) (args : List Vl) : EV := args.map some ++ List.replicate (d.N.length - args.length) none
def outOf (n0 : Nat) (h : HP) : RV → Option RV
  | .v (.loc n) => if n < n0 then some (.v (.loc n)) else (h[n]?).map .new
  | r => some r
/-- a def's run: its own places are given back -/
def leave (n0 : Nat) : Res Fl → Res RV
  | .ok (.next _) h => .ok (.v (.dat .none)) (h.take n0)
  | .ok (.ret r) h => ofOpt (outOf n0 h r) (h.take n0)
  | .exc c h => .exc c (h.take n0)
  | .bad => .bad
def run (P : Prog) (fw : Nat) : Nat → CallF
  | 0, _, _, _ => .bad
  | k + 1, f, args, h => match P.lookup f with
    | some d => if args.length = d.np then leave h.length (exs (run P fw k) fw d.body (startE d args) h) else .bad
    | none => .bad
end TB
set_option maxHeartbeats 4000000
namespace TB
open PySem L2

/-! ### how core values stand in the layer's heap -/
mutual
/-- data in a heap of things that stay -/
inductive Dq (F : Hp) : V → PyData → Prop
  | non : Dq F .non .none
  | bl (b : Bool) : Dq F (.bl b) (.bool b)
  | int (i : Int) : Dq F (.int i) (.int i)
  | str (x : Str) : Dq F (.str x) (.str x)
  | lst {a : Addr} {xs : List V} {ds : List PyData} : Rd F a (.lst xs) → DqAll F xs ds → Dq F (.ref a) (.list ds)
  | tup {a : Addr} {xs : List V} {ds : List PyData} : Rd F a (.tup xs) → DqAll F xs ds → Dq F (.ref a) (.tuple ds)
inductive DqAll (F : Hp) : List V → List PyData → Prop
  | nil : DqAll F [] []
  | cons {v : V} {vs : List V} {d : PyData} {ds : List PyData} : Dq F v d → DqAll F vs ds → DqAll F (v :: vs) (d :: ds)
end
section
def VR (F : Hp) (A : List Addr) : Vl → V → Prop
  | .dat d, v => Dq F v d
  | .loc n, v => ∃ a, A[n]? = some a ∧ v = .ref a
structure Rl (F H : Hp) (A : List Addr) (h : HP) : Prop where
  sub : ∀ a o, F a = some o → H a = some o
  nd : A.Nodup
  len : A.length = h.length
  off : ∀ a ∈ A, F a = none
  cell : ∀ (n : Nat) (a : Addr) (ds : List PyData), A[n]? = some a → h[n]? = some ds → ∃ vs, H a = some (.lst vs) ∧ DqAll F vs ds
/-- .. at the end of a run that began at H0: a new list is newer than that -/
def RVR (H0 F H : Hp) (A : List Addr) : RV → V → Prop
  | .v x, v => VR F A x v
  | .new ds, v => ∃ a vs, v = .ref a ∧ H a = some (.lst vs) ∧ DqAll F vs ds ∧ F a = none ∧ a ∉ A ∧ H0 a = none
def EnvR (F : Hp) (A : List Addr) (ρ : EV) (σ : St) : Prop :=
  ρ.length = σ.length ∧ ∀ (i : Nat) (x : Vl), ρ[i]? = some (some x) → ∃ v, σ[i]? = some (some v) ∧ VR F A x v
end
/-- what a run may change -/
structure Ext (F H : Hp) (A : List Addr) (F' H' : Hp) (A' : List Addr) : Prop where
  fz : ∀ a o, F a = some o → F' a = some o
  al : ∃ B, A' = A ++ B ∧ ∀ b ∈ B, H b = none
  hp : ∀ a o, H a = some o → a ∉ A → H' a = some o
  nw : ∀ a, F' a ≠ none → F a ≠ none ∨ H a = none

theorem hp_some {H : Hp} {a : Addr} (h : H a ≠ none) : ∃ o, H a = some o := by
  cases e : H a with
  | none => exact absurd e h
  | some o => exact ⟨o, rfl⟩
section
variable {F H F' H' F'' H'' : Hp} {A A' A'' : List Addr} {h h' : HP}

theorem Rl.tracked (r : Rl F H A h) {a : Addr} (ha : a ∈ A) : ∃ vs, H a = some (.lst vs) := by
  obtain ⟨n, hn⟩ := List.mem_iff_getElem?.mp ha
  obtain ⟨hl, _⟩ := List.getElem?_eq_some_iff.mp hn
  have hlt : n < h.length := by rw [← r.len]; exact hl
  obtain ⟨vs, e, _⟩ := r.cell n a _ hn (List.getElem?_eq_getElem hlt)
  exact ⟨vs, e⟩
theorem Ext.refl : Ext F H A F H A := ⟨fun _ _ e => e, ⟨[], by simp, fun _ hb => absurd hb (by simp)⟩, fun _ _ e _ => e, fun _ e => .inl e⟩
theorem Ext.trans (r : Rl F' H' A' h') (e1 : Ext F H A F' H' A') (e2 : Ext F' H' A' F'' H'' A'') : Ext F H A F'' H'' A'' := by
  obtain ⟨B, hB, nB⟩ := e1.al
  obtain ⟨B2, hB2, nB2⟩ := e2.al
  have none_of : ∀ b, b ∉ A → H' b = none → H b = none := fun b hb q => by
    cases q2 : H b with
    | none => rfl
    | some o => rw [e1.hp b o q2 hb] at q; cases q
  have inA : ∀ b, b ∈ A → b ∈ A' := fun b hb => by rw [hB]; exact List.mem_append_left _ hb
  have sA : ∀ b, b ∈ A → H' b ≠ none := fun b hb q => by
    obtain ⟨vs, e⟩ := r.tracked (inA b hb)
    rw [e] at q; cases q
  refine ⟨fun a o e => e2.fz a o (e1.fz a o e), ⟨B ++ B2, by rw [hB2, hB, List.append_assoc], fun b hb => ?_⟩, fun a o e ha => ?_, fun a e => ?_⟩
  · rcases List.mem_append.mp hb with hb | hb
    · exact nB b hb
    · exact none_of b (fun z => sA b z (nB2 b hb)) (nB2 b hb)
  · refine e2.hp a o (e1.hp a o e ha) ?_
    rw [hB]
    intro hm
    rcases List.mem_append.mp hm with hm | hm
    · exact ha hm
    · rw [nB a hm] at e; cases e
  · rcases e2.nw a e with q | q
    · exact e1.nw a q
    · by_cases ha : a ∈ A
      · exact absurd q (sA a ha)
      · exact .inr (none_of a ha q)

theorem Rd.mono {u : HO} {a : Addr} (hs : ∀ a o, F a = some o → F' a = some o) (q : Rd F a u) : Rd F' a u := by
  rcases q with q | ⟨o, q⟩
  · exact .inl (hs _ _ q)
  · exact .inr ⟨o, hs _ _ q⟩
mutual
theorem Dq.mono (hs : ∀ a o, F a = some o → F' a = some o) : ∀ {v : V} {d : PyData}, Dq F v d → Dq F' v d
  | _, _, .non => .non
  | _, _, .bl b => .bl b
  | _, _, .int i => .int i
  | _, _, .str x => .str x
  | _, _, .lst q a => .lst (Rd.mono hs q) (DqAll.mono hs a)
  | _, _, .tup q a => .tup (Rd.mono hs q) (DqAll.mono hs a)
theorem DqAll.mono (hs : ∀ a o, F a = some o → F' a = some o) : ∀ {vs : List V} {ds : List PyData}, DqAll F vs ds → DqAll F' vs ds
  | _, _, .nil => .nil
  | _, _, .cons a b => .cons (Dq.mono hs a) (DqAll.mono hs b)
end
mutual
theorem Dq.dp {K : PySem.W.Frag} : ∀ {v : V} {d : PyData}, Dq F v d → Dp K F v d
  | _, _, .non => .non
  | _, _, .bl b => .bl b
  | _, _, .int i => .int i
  | _, _, .str x => .str x
  | _, _, .lst q a => .lst (.inl q) (DqAll.dp a)
  | _, _, .tup q a => .tup (.inl q) (DqAll.dp a)
theorem DqAll.dp {K : PySem.W.Frag} : ∀ {vs : List V} {ds : List PyData}, DqAll F vs ds → DpAll K F vs ds
  | _, _, .nil => .nil
  | _, _, .cons a b => .cons (Dq.dp a) (DqAll.dp b)
end
theorem DqAll.length : ∀ {vs : List V} {ds : List PyData}, DqAll F vs ds → vs.length = ds.length
  | _, _, .nil => rfl
  | _, _, .cons _ b => by rw [List.length_cons, List.length_cons, DqAll.length b]
theorem DqAll.get : ∀ {vs : List V} {ds : List PyData} {i : Nat} {d : PyData}, DqAll F vs ds → ds[i]? = some d → ∃ v, vs[i]? = some v ∧ Dq F v d
  | _, _, _, _, .nil, e => by simp at e
  | _, _, 0, _, .cons a _, e => by simp at e; subst e; exact ⟨_, rfl, a⟩
  | _, _, i + 1, _, .cons _ b, e => by
    obtain ⟨v, h1, h2⟩ := DqAll.get (i := i) b (by simpa using e)
    exact ⟨v, by simpa using h1, h2⟩
theorem DqAll.app : ∀ {vs ws : List V} {ds es : List PyData}, DqAll F vs ds → DqAll F ws es → DqAll F (vs ++ ws) (ds ++ es)
  | _, _, _, _, .nil, b => b
  | _, _, _, _, .cons a r, b => .cons a (DqAll.app r b)
theorem DqAll.take : ∀ {vs : List V} {ds : List PyData} (n : Nat), DqAll F vs ds → DqAll F (vs.take n) (ds.take n)
  | _, _, 0, _ => by simp; exact .nil
  | _, _, _ + 1, .nil => by simp; exact .nil
  | _, _, n + 1, .cons a b => by simp only [List.take_succ_cons]; exact .cons a (DqAll.take n b)
theorem DqAll.drop : ∀ {vs : List V} {ds : List PyData} (n : Nat), DqAll F vs ds → DqAll F (vs.drop n) (ds.drop n)
  | _, _, 0, r => by simpa using r
  | _, _, _ + 1, .nil => by simp; exact .nil
  | _, _, n + 1, .cons a b => by simp only [List.drop_succ_cons]; exact DqAll.drop n b
theorem DqAll.rev : ∀ {vs : List V} {ds : List PyData}, DqAll F vs ds → DqAll F vs.reverse ds.reverse
  | _, _, .nil => .nil
  | _, _, .cons a b => by
    rw [List.reverse_cons, List.reverse_cons]
    exact DqAll.app (DqAll.rev b) (.cons a .nil)
theorem DqAll.set {v : V} {d : PyData} (p : Dq F v d) : ∀ {vs : List V} {ds : List PyData} (n : Nat), DqAll F vs ds → DqAll F (vs.set n v) (ds.set n d)
  | _, _, _, .nil => .nil
  | _, _, 0, .cons a b => .cons p b
  | _, _, n + 1, .cons a b => .cons a (DqAll.set p n b)
theorem VR.mono {x : Vl} {v : V} (r : VR F A x v) (e : Ext F H A F' H' A') : VR F' A' x v := by
  cases x with
  | dat d => exact Dq.mono e.fz r
  | loc n =>
    obtain ⟨a, q, rfl⟩ := r
    obtain ⟨B, hB, _⟩ := e.al
    obtain ⟨hl, _⟩ := List.getElem?_eq_some_iff.mp q
    exact ⟨a, by rw [hB, List.getElem?_append_left hl]; exact q, rfl⟩
theorem EnvR.mono {ρ : EV} {σ : St} (r : EnvR F A ρ σ) (e : Ext F H A F' H' A') : EnvR F' A' ρ σ :=
  ⟨r.1, fun i x q => let ⟨v, q1, q2⟩ := r.2 i x q; ⟨v, q1, q2.mono e⟩⟩
theorem RVR.mono {H0 : Hp} {x : RV} {v : V} (r : RVR H0 F H A x v) (e : Ext F H A F' H' A') : RVR H0 F' H' A' x v := by
  cases x with
  | v x => exact VR.mono (x := x) r e
  | new ds =>
    obtain ⟨a, vs, rfl, q1, q2, q3, q4, q5⟩ := r
    obtain ⟨B, hB, nB⟩ := e.al
    refine ⟨a, vs, rfl, e.hp a _ q1 q4, DqAll.mono e.fz q2, ?_, ?_, q5⟩
    · cases q : F' a with
      | none => rfl
      | some o =>
        rcases e.nw a (by rw [q]; simp) with z | z
        · exact absurd q3 z
        · rw [z] at q1; cases q1
    · rw [hB]
      intro hm
      rcases List.mem_append.mp hm with hm | hm
      · exact q4 hm
      · rw [nB a hm] at q1; cases q1
/-- a new thing is laid: nothing else changes -/
theorem Ext.laid {p : Addr} {o : HO} (np : H p = none) (r : Rl F H A h) : Ext F H A F (upd H p o) A :=
  ⟨fun _ _ e => e, ⟨[], by simp, fun _ hb => absurd hb (by simp)⟩, fun a o' e _ => by rw [upd_ne (ne_of_none e np)]; exact e, fun _ e => .inl e⟩
theorem Rl.laid {p : Addr} {o : HO} (np : H p = none) (r : Rl F H A h) : Rl F (upd H p o) A h := by
  refine ⟨fun a o' e => ?_, r.nd, r.len, r.off, fun n a ds q1 q2 => ?_⟩
  · rw [upd_ne (ne_of_none (r.sub a o' e) np)]; exact r.sub a o' e
  · obtain ⟨vs, e, q⟩ := r.cell n a ds q1 q2
    exact ⟨vs, by rw [upd_ne (ne_of_none e np)]; exact e, q⟩
/-- what stands is frozen -/
theorem Ext.frz {a : Addr} {o : HO} (x : Ext F H A F' H' A') (hn : H a = none) (hf : F' a = none) : Ext F H A (upd F' a o) H' A' := by
  refine ⟨fun b u q => ?_, x.al, x.hp, fun b q => ?_⟩
  · have q' := x.fz b u q
    rw [upd_ne (ne_of_none q' hf)]
    exact q'
  · by_cases hb : b = a
    · subst hb; exact .inr hn
    · rw [upd_ne hb] at q; exact x.nw b q
theorem Rl.frz {a : Addr} {o : HO} (e : H a = some o) (hf : F a = none) (ha : a ∉ A) (r : Rl F H A h) : Rl (upd F a o) H A h := by
  have hs : ∀ b u, F b = some u → upd F a o b = some u := fun b u q => by rw [upd_ne (ne_of_none q hf)]; exact q
  refine ⟨fun b u q => ?_, r.nd, r.len, fun b hb => ?_, fun n b ds q1 q2 => ?_⟩
  · by_cases hb : b = a
    · subst hb; rw [upd_same] at q; cases q; exact e
    · rw [upd_ne hb] at q; exact r.sub b u q
  · rw [upd_ne (fun z : b = a => ha (by rw [← z]; exact hb))]; exact r.off b hb
  · obtain ⟨vs, q3, q4⟩ := r.cell n b ds q1 q2
    exact ⟨vs, q3, DqAll.mono hs q4⟩
/-- laid and frozen at once -/
theorem Ext.laidF {p : Addr} {o : HO} (np : H p = none) (r : Rl F H A h) : Ext F H A (upd F p o) (upd H p o) A := by
  have nf : F p = none := by
    cases q : F p with
    | none => rfl
    | some u => rw [r.sub p u q] at np; cases np
  refine ⟨fun a u e => by rw [upd_ne (ne_of_none e nf)]; exact e, ⟨[], by simp, fun _ hb => absurd hb (by simp)⟩, fun a u e _ => by rw [upd_ne (ne_of_none e np)]; exact e, fun a e => ?_⟩
  by_cases ha : a = p
  · subst ha; exact .inr np
  · rw [upd_ne ha] at e; exact .inl e
theorem Rl.notA (r : Rl F H A h) {p : Addr} (np : H p = none) : p ∉ A := fun hm => by
  obtain ⟨vs, e⟩ := r.tracked hm
  rw [e] at np; cases np
theorem Rl.notF (r : Rl F H A h) {p : Addr} (np : H p = none) : F p = none := by
  cases q : F p with
  | none => rfl
  | some u => rw [r.sub p u q] at np; cases np
theorem Rl.laidF {p : Addr} {o : HO} (np : H p = none) (r : Rl F H A h) : Rl (upd F p o) (upd H p o) A h :=
  (r.laid np (o := o)).frz upd_same (r.notF np) (r.notA np)
/-- data as they stand now -/
theorem VR.dq {x : Vl} {v : V} {d : PyData} (r : VR F A x v) (R : Rl F H A h) (e : datOf h x = some d) : Dq H v d := by
  cases x with
  | dat d' =>
    have : d' = d := Option.some.inj e
    subst this
    exact Dq.mono R.sub r
  | loc n =>
    obtain ⟨a, q, rfl⟩ := r
    cases q2 : h[n]? with
    | none =>
      have e' : (h[n]?).map PyData.list = some d := e
      rw [q2] at e'; cases e'
    | some ds =>
      have e' : (h[n]?).map PyData.list = some d := e
      rw [q2] at e'
      have : PyData.list ds = d := Option.some.inj e'
      subst this
      obtain ⟨vs, q3, q4⟩ := R.cell n a ds q q2
      exact .lst (.inl q3) (DqAll.mono R.sub q4)
end
end TB
set_option maxHeartbeats 4000000
namespace TB
open PySem L2

/-! ### expressions: what a run gives, and what the layer asks -/
def PostE (W : WX) (cl : Nat → Value) (σ : St) (F H : Hp) (A : List Addr) (Q : VK) : Res RV → Prop
  | .ok r h' => ∀ F' H' v, Ext F H A F' H' A → Rl F' H' A h' → RVR H F' H' A r v → Q v H'
  | .exc c h' => ∀ F' H', Ext F H A F' H' A → Rl F' H' A h' → W (cl c) none σ H'
  | .bad => False
abbrev SE := EV → HP → Res RV
def tE (W : WX) (cl : Nat → Value) (r : SE) : TE := fun σ H Q => ∃ F A h ρ, Rl F H A h ∧ EnvR F A ρ σ ∧ PostE W cl σ F H A Q (r ρ h)

theorem PE.imp {X : Cx} {e : Expr} {t t' : TE} (p : PE X e t) (i : ∀ σ H Q, t' σ H Q → t σ H Q) : PE X e t' := ⟨fun pins s σ H Q I h => p.run pins s σ H Q I (i σ H Q h)⟩
theorem PT.imp {X : Cx} {e : Expr} {t t' : TT} (p : PT X e t) (i : ∀ σ H Q, t' σ H Q → t σ H Q) : PT X e t' := ⟨fun pins s σ H Q I h => p.run pins s σ H Q I (i σ H Q h)⟩
theorem PS.imp {X : Cx} {e : Stmt} {t t' : TS} (p : PS X e t) (i : ∀ D σ H, t' D σ H → t D σ H) : PS X e t' := ⟨fun pins s σ H D I h => p.run pins s σ H D I (i D σ H h)⟩
theorem PSs.imp {X : Cx} {e : List Stmt} {t t' : TS} (p : PSs X e t) (i : ∀ D σ H, t' D σ H → t D σ H) : PSs X e t' := ⟨fun pins s σ H D I h => p.run pins s σ H D I (i D σ H h)⟩
theorem PA.imp {X : Cx} {e : List Expr} {t t' : TA} (p : PA X e t) (i : ∀ σ H Q, t' σ H Q → t σ H Q) : PA X e t' := ⟨fun pos pins s σ H Q I h => p.run pos pins s σ H Q I (i σ H Q h)⟩

section
variable {F H F' H' F'' H'' F1 H1 F2 H2 : Hp} {A A' : List Addr} {h h' h1 h2 : HP} {ρ : EV} {σ : St} {W : WX} {cl : Nat → Value}
theorem Ext.same (e : Ext F H A F' H' A) : ∀ a, H' a = none → a ∉ A → H a = none := fun a q ha => by
  cases q2 : H a with
  | none => rfl
  | some o => rw [e.hp a o q2 ha] at q; cases q
theorem RVR.back {x : RV} {v : V} (r : RVR H1 F2 H2 A x v) (e : Ext F H A F1 H1 A) (R : Rl F1 H1 A h1) : RVR H F2 H2 A x v := by
  cases x with
  | v x => exact r
  | new ds =>
    obtain ⟨a, vs, rfl, q1, q2, q3, q4, q5⟩ := r
    exact ⟨a, vs, rfl, q1, q2, q3, q4, e.same a q5 q4⟩
/-- data as they stand -/
theorem RVR.dq {H0 : Hp} {x : RV} {v : V} {d : PyData} (r : RVR H0 F H A x v) (R : Rl F H A h) (e : dat1 h x = some d) : Dq H v d := by
  cases x with
  | v x => exact VR.dq (x := x) r R e
  | new ds =>
    obtain ⟨a, vs, rfl, q1, q2, _⟩ := r
    have : PyData.list ds = d := Option.some.inj e
    subst this
    exact .lst (.inl q1) (DqAll.mono R.sub q2)
/-- a new list is frozen -/
theorem RVR.frz {x : RV} {v : V} {d : PyData} (r : RVR H F' H' A x v) (e : Ext F H A F' H' A) (R : Rl F' H' A h') (q : asD x = some d) :
    ∃ F'', Ext F H A F'' H' A ∧ Rl F'' H' A h' ∧ (∀ a o, F' a = some o → F'' a = some o) ∧ (∀ a, F'' a ≠ none → F' a ≠ none ∨ H a = none) ∧ Dq F'' v d := by
  cases x with
  | v x =>
    cases x with
    | dat d' =>
      have : d' = d := Option.some.inj q
      subst this
      exact ⟨F', e, R, fun _ _ z => z, fun _ z => .inl z, r⟩
    | loc n => cases q
  | new ds =>
    have : PyData.list ds = d := Option.some.inj q
    subst this
    obtain ⟨a, vs, rfl, q1, q2, q3, q4, q5⟩ := r
    have hs : ∀ b u, F' b = some u → upd F' a (.lst vs) b = some u := fun b u z => by rw [upd_ne (ne_of_none z q3)]; exact z
    refine ⟨upd F' a (.lst vs), e.frz q5 q3, R.frz q1 q3 q4, hs, fun b z => ?_, .lst (.inl upd_same) (DqAll.mono hs q2)⟩
    by_cases hb : b = a
    · subst hb; exact .inr q5
    · rw [upd_ne hb] at z; exact .inl z
theorem RVR.settle {x : RV} {v : V} (r : RVR H F' H' A x v) (e : Ext F H A F' H' A) (R : Rl F' H' A h') :
    ∃ F'', Ext F H A F'' H' A ∧ Rl F'' H' A h' ∧ (∀ a o, F' a = some o → F'' a = some o) ∧ (∀ a, F'' a ≠ none → F' a ≠ none ∨ H a = none) ∧ VR F'' A (settle x) v := by
  cases x with
  | v x => exact ⟨F', e, R, fun _ _ z => z, fun _ z => .inl z, r⟩
  | new ds => exact r.frz e R rfl

/-- the one way through: an expression's end -/
theorem PostE.bind {α : Type} {Q : VK} {r : Res RV} {k : RV → HP → Res RV} (p : PostE W cl σ F H A Q (r.bind k))
    (Q' : VK) (i : ∀ x h1, r = .ok x h1 → ∀ F1 H1 v, Ext F H A F1 H1 A → Rl F1 H1 A h1 → RVR H F1 H1 A x v → PostE W cl σ F H A Q (k x h1) → Q' v H1) : PostE W cl σ F H A Q' r := by
  cases r with
  | ok x h1 => exact fun F1 H1 v e R rv => i x h1 rfl F1 H1 v e R rv p
  | exc c h1 => exact p
  | bad => exact p
/-- the post of what follows, from where it begins -/
theorem PostE.after {Q : VK} {r : Res RV} (p : PostE W cl σ F H A Q r) (e : Ext F H A F1 H1 A) (R : Rl F1 H1 A h1) : PostE W cl σ F1 H1 A Q r := by
  cases r with
  | ok x h2 => exact fun F2 H2 v e2 R2 rv => p F2 H2 v (e.trans R e2) R2 (rv.back e R)
  | exc c h2 => exact fun F2 H2 e2 R2 => p F2 H2 (e.trans R e2) R2
  | bad => exact p
end

section
variable {X : Cx} {W : WX} {cl : Nat → Value} {pos : Pos} {a b : Expr} {ra rb : SE}
/-- two expressions, then an operation on their values -/
theorem tE_two {r : R2} {f : RV → RV → HP → Res RV} {σ : St} {H : Hp} {Q : VK}
    (hop : ∀ (F H A h) (x y : RV) (vx vy : V) (H0 : Hp), Rl F H A h → RVR H0 F H A x vx → RVR H0 F H A y vy → PostE W cl σ F H A Q (f x y h) → r vx vy H Q)
    (p : tE W cl (fun ρ h => (ra ρ h).bind fun x h => (rb ρ h).bind fun y h => f x y h) σ H Q) : tOp r (tE W cl ra) (tE W cl rb) σ H Q := by
  obtain ⟨F, A, h, ρ, R, E, p⟩ := p
  refine ⟨F, A, h, ρ, R, E, PostE.bind (α := Unit) p _ fun x h1 _ F1 H1 v e1 R1 rv1 p1 => ?_⟩
  refine ⟨F1, A, h1, ρ, R1, E.mono e1, PostE.bind (α := Unit) (p1.after e1 R1) _ fun y h2 _ F2 H2 u e2 R2 rv2 p2 => ?_⟩
  exact hop F2 H2 A h2 x y v u H R2 (rv1.mono e2) (rv2.back e1 R1) (p2.after e2 R2)
theorem tE_one {r : V → Hp → VK → Prop} {f : RV → HP → Res RV} {σ : St} {H : Hp} {Q : VK}
    (hop : ∀ (F H A h) (x : RV) (vx : V) (H0 : Hp), Rl F H A h → RVR H0 F H A x vx → PostE W cl σ F H A Q (f x h) → r vx H Q)
    (p : tE W cl (fun ρ h => (ra ρ h).bind fun x h => f x h) σ H Q) : tE W cl ra σ H (fun x H1 => r x H1 Q) := by
  obtain ⟨F, A, h, ρ, R, E, p⟩ := p
  refine ⟨F, A, h, ρ, R, E, PostE.bind (α := Unit) p _ fun x h1 _ F1 H1 v e1 R1 rv1 p1 => ?_⟩
  exact hop F1 H1 A h1 x v H R1 rv1 (p1.after e1 R1)
/-- an operation's result that is an atom -/
theorem PostE.atom {F H : Hp} {A : List Addr} {h : HP} {σ : St} {Q : VK} {d : PyData} {v : V} (p : PostE W cl σ F H A Q (.ok (.v (.dat d)) h)) (R : Rl F H A h) (q : Dq F v d) : Q v H :=
  p F H v Ext.refl R q
/-- .. a new list -/
theorem PostE.newL {F H : Hp} {A : List Addr} {h : HP} {σ : St} {Q : VK} {ds : List PyData} {vs : List V} (p : PostE W cl σ F H A Q (.ok (.new ds) h)) (R : Rl F H A h) (q : DqAll F vs ds) :
    ∀ a, H a = none → Q (.ref a) (upd H a (.lst vs)) := fun a na =>
  p F (upd H a (.lst vs)) (.ref a) (Ext.laid na R) (R.laid na) ⟨a, vs, rfl, upd_same, q, R.notF na, R.notA na, na⟩
/-- .. a new tuple -/
theorem PostE.newT {F H : Hp} {A : List Addr} {h : HP} {σ : St} {Q : VK} {ds : List PyData} {vs : List V} (p : PostE W cl σ F H A Q (.ok (.v (.dat (.tuple ds))) h)) (R : Rl F H A h) (q : DqAll F vs ds) :
    ∀ a, H a = none → Q (.ref a) (upd H a (.tup vs)) := fun a na =>
  p (upd F a (.tup vs)) (upd H a (.tup vs)) (.ref a) (Ext.laidF na R) (R.laidF na)
    (.tup (.inl upd_same) (DqAll.mono (fun b u z => by rw [upd_ne (ne_of_none z (R.notF na))]; exact z) q))
end
end TB
set_option maxHeartbeats 4000000
namespace TB
open PySem L2

theorem lim_line : LIM < sizeLine := by rw [sizeLine_eq]; decide
/-! ### data read off values -/
section
variable {F H : Hp} {A : List Addr} {h : HP} {v : V}
theorem Dq.int_inv {i : Int} (q : Dq H v (.int i)) : v = .int i := by cases q; rfl
theorem Dq.bool_inv {b : Bool} (q : Dq H v (.bool b)) : v = .bl b := by cases q; rfl
theorem Dq.none_inv (q : Dq H v .none) : v = .non := by cases q; rfl
theorem Dq.str_inv {x : Str} (q : Dq H v (.str x)) : v = .str x := by cases q; rfl
theorem Dq.list_inv {ds : List PyData} (q : Dq H v (.list ds)) : ∃ a xs, v = .ref a ∧ Rd H a (.lst xs) ∧ DqAll H xs ds := by
  cases q with
  | lst a b => exact ⟨_, _, rfl, a, b⟩
theorem Dq.tup_inv {ds : List PyData} (q : Dq H v (.tuple ds)) : ∃ a xs, v = .ref a ∧ Rd H a (.tup xs) ∧ DqAll H xs ds := by
  cases q with
  | tup a b => exact ⟨_, _, rfl, a, b⟩
theorem Dq.items {d : PyData} {xs : List PyData} (q : Dq H v d) (e : itemsD d = some xs) : ∃ a vs, v = .ref a ∧ DqAll H vs xs ∧ ((d = .list xs ∧ Rd H a (.lst vs)) ∨ (d = .tuple xs ∧ Rd H a (.tup vs))) := by
  cases d with
  | list ds =>
    have : ds = xs := Option.some.inj e
    subst this
    obtain ⟨a, vs, rfl, r, b⟩ := q.list_inv
    exact ⟨a, vs, rfl, b, .inl ⟨rfl, r⟩⟩
  | tuple ds =>
    have : ds = xs := Option.some.inj e
    subst this
    obtain ⟨a, vs, rfl, r, b⟩ := q.tup_inv
    exact ⟨a, vs, rfl, b, .inr ⟨rfl, r⟩⟩
  | _ => cases e
/-- a tuple is seen as data that stay -/
theorem RVR.tup {H0 : Hp} {x : RV} {ds : List PyData} (r : RVR H0 F H A x v) (e : dat1 h x = some (.tuple ds)) : Dq F v (.tuple ds) := by
  cases x with
  | v x =>
    cases x with
    | dat d =>
      have : d = .tuple ds := Option.some.inj e
      subst this
      exact r
    | loc n =>
      have e' : (h[n]?).map PyData.list = some (.tuple ds) := e
      cases q : h[n]? with
      | none => rw [q] at e'; cases e'
      | some ys => rw [q] at e'; cases e'
  | new ys => cases e
/-- so is an item of what stands -/
theorem RVR.elems {H0 : Hp} {x : RV} {d : PyData} {ds : List PyData} (r : RVR H0 F H A x v) (R : Rl F H A h) (e : dat1 h x = some d) (ei : itemsD d = some ds) :
    ∃ a vs, v = .ref a ∧ DqAll F vs ds ∧ ((d = .list ds ∧ Rd H a (.lst vs)) ∨ (d = .tuple ds ∧ Rd H a (.tup vs))) := by
  cases x with
  | v x =>
    cases x with
    | dat d' =>
      have : d' = d := Option.some.inj e
      subst this
      obtain ⟨a, vs, rfl, q1, q2⟩ := Dq.items (v := v) (H := F) r ei
      refine ⟨a, vs, rfl, q1, ?_⟩
      rcases q2 with ⟨z, q2⟩ | ⟨z, q2⟩
      · exact .inl ⟨z, Rd.mono R.sub q2⟩
      · exact .inr ⟨z, Rd.mono R.sub q2⟩
    | loc n =>
      have e' : (h[n]?).map PyData.list = some d := e
      cases q : h[n]? with
      | none => rw [q] at e'; cases e'
      | some ys =>
        rw [q] at e'
        have : PyData.list ys = d := Option.some.inj e'
        subst this
        have : ys = ds := Option.some.inj ei
        subst this
        obtain ⟨a, qa, rfl⟩ := r
        obtain ⟨vs, q1, q2⟩ := R.cell n a ys qa q
        exact ⟨a, vs, rfl, q2, .inl ⟨rfl, .inl q1⟩⟩
  | new ys =>
    have : PyData.list ys = d := Option.some.inj e
    subst this
    have : ys = ds := Option.some.inj ei
    subst this
    obtain ⟨a, vs, rfl, q1, q2, _⟩ := r
    exact ⟨a, vs, rfl, q2, .inl ⟨rfl, .inl q1⟩⟩
end

/-! ### ofOpt -/
section
variable {W : WX} {cl : Nat → Value} {σ : St} {F H : Hp} {A : List Addr} {h : HP} {Q : VK}
theorem PostE.opt {o : Option RV} (p : PostE W cl σ F H A Q (ofOpt o h)) : ∃ r, o = some r ∧ PostE W cl σ F H A Q (.ok r h) := by
  cases o with
  | none => exact p.elim
  | some r => exact ⟨r, rfl, p⟩
end
theorem opt_bind {α β : Type} {o : Option α} {f : α → Option β} {b : β} (h : o.bind f = some b) : ∃ a, o = some a ∧ f a = some b := by
  cases o with
  | none => cases h
  | some a => exact ⟨a, rfl, h⟩
theorem opt_map {α β : Type} {o : Option α} {f : α → β} {b : β} (h : o.map f = some b) : ∃ a, o = some a ∧ f a = b := by
  cases o with
  | none => cases h
  | some a => exact ⟨a, rfl, Option.some.inj h⟩

/-! ### operators -/
section
variable {X : Cx}
/-- list + list, also of lists that are only read -/
def rCatL : R2 := fun x y H Q => ∃ l b xs zs, x = .ref l ∧ y = .ref b ∧ Rd H l (.lst xs) ∧ Rd H b (.lst zs) ∧ xs.length + zs.length ≤ sizeLine ∧ ∀ p, H p = none → Q (.ref p) (upd H p (.lst (xs ++ zs)))
theorem op_catL : OpR X (binaryOp .Add) rCatL := by
  intro pins s σ H x y v u Q I rx ry ⟨l, b, xs, zs, ex, ey, hH, hB, hz, q⟩
  subst ex; subst ey
  cases rx
  cases ry
  obtain ⟨z, its, n, r, e⟩ := hH.ok I.hok
  obtain ⟨z2, its2, n2, r2, e2⟩ := hB.ok I.hok
  have l1 := r.length
  have l2 := r2.length
  refine PySem.P.add_list e e2 ?_ (by rw [List.size_toArray, List.size_toArray]; omega)
  rw [show its.toArray ++ its2.toArray = (its ++ its2).toArray by simp]
  exact ⟨.ref _, _, I.lnew (t' := s.toks) (r.append r2) (by rw [List.length_append]; omega), rfl, q _ I.fresh⟩

def rRepS : R2 := fun x y H Q => ∃ l k xs, x = .ref l ∧ y = .int k ∧ Rd H l (.lst xs) ∧ -(2 ^ 63) ≤ k ∧ k < 2 ^ 63 ∧ xs.length * k.toNat ≤ sizeLine ∧
  ∀ p, H p = none → Q (.ref p) (upd H p (.lst (List.replicate k.toNat xs).flatten))
/-- [..] * n -/
theorem op_repS : OpR X (binaryOp .Mult) rRepS := by
  intro pins s σ H x y v u Q I rx ry ⟨l, k, xs, ex, ey, hH, k1, k2, few, q⟩
  subst ex ey
  cases rx
  obtain ⟨t, rfl⟩ := ry
  obtain ⟨z, us, n, r, e⟩ := hH.ok I.hok
  have ul := r.length
  have le : us.toArray.size * k.toNat ≤ sizeLine := by rw [List.size_toArray, ← ul]; exact few
  have c1 : ¬ us.toArray.size * k.toNat > (2 ^ 63 - 1) / 8 := by
    have big : (sizeLine : Nat) ≤ (2 ^ 63 - 1) / 8 := by decide
    omega
  have c2 : ¬ (!Builtin.List.listFitsIndex k) = true := by rw [fitsIndex_both k1 k2]; exact Bool.false_ne_true
  have c3 : ¬ Builtin.List.listTooLong (us.toArray.size * k.toNat) = true := by rw [notLongL le]; exact Bool.false_ne_true
  have fl : ∀ m : Nat, List.foldl (fun x1 x2 => x1 ++ x2) #[] (List.replicate m us.toArray) = (List.replicate m us).flatten.toArray := fun m => by
    have w := foldl_rep us m []
    rwa [List.nil_append] at w
  have out : List.foldl (fun x1 x2 => x1 ++ x2) #[] (List.replicate (if us.toArray.isEmpty = true then 0 else k.toNat) us.toArray) = (List.replicate k.toNat us).flatten.toArray := by
    rw [fl]
    cases us with
    | nil => simp
    | cons _ _ => rw [if_neg (by simp)]
  refine wpAny_binaryOp_repeat_ref (T := "list") (U := "int") (by decide) ⟨_, e, rfl⟩ (fun s' => typeIs_int s' k t) noFill_list_mul F.fills_int_mul F.slot_int_rmul repeat_list F.slot_int_index.lookup
    (call_meets F.slot_int_rmul (typeIs_int s k t) F.entry_int_rmul (F.args_int_rmul_2 _ _) (int___rmul___int_list k t l us.toArray n) ⟨e, rfl, ⟨_, e, rfl⟩, call_meets F.slot_list_mul ⟨_, e, rfl⟩ F.entry_list_mul (F.args_list_mul_2 _ _) (AutoListH.list___mul___list_int_3 l us.toArray n k t c2 c1 c3) ⟨e, ?_⟩⟩)
  rw [out]
  exact ⟨.ref _, _, I.lnew (t' := s.toks) (r.rep k.toNat) (by rw [PyProof.Rows.lm_len_rep_flat, Nat.mul_comm]; exact few), rfl, q _ I.fresh⟩
theorem dq_rep {F : Hp} {vs : List V} {ds : List PyData} (q : DqAll F vs ds) : ∀ n : Nat, DqAll F (List.replicate n vs).flatten (List.replicate n ds).flatten
  | 0 => .nil
  | n + 1 => by
    rw [List.replicate_succ, List.replicate_succ, List.flatten_cons, List.flatten_cons]
    exact q.app (dq_rep q n)
def opOf : BO → Operator
  | .add => .Add | .sub => .Sub | .mul => .Mult | .fdiv => .FloorDiv | .mod => .Mod
def rBin (K : PySem.W.Frag) : BO → R2
  | .add => fun x y H Q => (rI0 (fun i j => .int (i + j)) x y H Q ∨ rCatA K x y H Q) ∨ rCatL x y H Q
  | .sub => rI0 fun i j => .int (i - j)
  | .mul => fun x y H Q => rI CMul (fun i j => .int (i * j)) x y H Q ∨ rRepS x y H Q
  | .fdiv => rI CDiv fun i j => .int (i / j)
  | .mod => rI (fun _ j => 0 < j) fun i j => .int (i % j)
theorem op_bin (op : BO) : OpR X (binaryOp (opOf op)) (rBin X.K op) := by
  cases op with
  | add => exact OpR.or (OpR.or op_add op_catA) op_catL
  | sub => exact op_sub
  | mul => exact OpR.or op_mul op_repS
  | fdiv => exact op_fdiv
  | mod => exact op_mod

variable {W : WX} {cl : Nat → Value} {pos : Pos} {a b : Expr} {ra rb : SE}
theorem tup_app_nil {F : Hp} {v : V} {ds es : List PyData} (q : Dq F v (.tuple ds)) (e : es = ds) : Dq F v (.tuple es) := e ▸ q
theorem pe_binC (op : BO) (ha : PE X a (tE W cl ra)) (hb : PE X b (tE W cl rb)) :
    PE X (.BinOp a (opOf op) b pos) (tE W cl fun ρ h => (ra ρ h).bind fun x h => (rb ρ h).bind fun y h => ofOpt ((dat1 h x).bind fun d => (dat1 h y).bind fun e => binD op d e) h) := by
  refine PE.imp (pe_op (op_bin op) ha hb) fun σ H Q p => tE_two (fun F H A h x y vx vy H0 R rx ry p => ?_) p
  obtain ⟨r, er, p⟩ := p.opt
  obtain ⟨d, e1, er⟩ := opt_bind er
  obtain ⟨e, e2, er⟩ := opt_bind er
  have q1 := rx.dq R e1
  have q2 := ry.dq R e2
  cases op with
  | add =>
    cases d with
    | int i =>
      cases e with
      | int j =>
        have z : RV.v (.dat (.int (i + j))) = r := Option.some.inj er
        subst z
        exact .inl (.inl ⟨i, j, q1.int_inv, q2.int_inv, p.atom R (.int _)⟩)
      | _ => cases er
    | tuple ds =>
      cases e with
      | tuple es =>
        have er' : (if ds.length + es.length ≤ LIM then some (RV.v (.dat (.tuple (ds ++ es)))) else none) = some r := er
        by_cases hl : ds.length + es.length ≤ LIM
        · rw [if_pos hl] at er'
          have z := Option.some.inj er'
          subst z
          have t1 := rx.tup e1
          have t2 := ry.tup e2
          obtain ⟨a1, xs, rfl, r1, b1⟩ := t1.tup_inv
          obtain ⟨a2, ys, rfl, r2, b2⟩ := t2.tup_inv
          have l1 := b1.length
          have l2 := b2.length
          have hz := lim_line
          refine .inl (.inr ⟨a1, a2, xs, ys, rfl, rfl, .inl (Rd.mono R.sub r1), .inl (Rd.mono R.sub r2), by omega, fun ex => ?_, fun _ ey => ?_, fun _ _ => ?_⟩)
          · subst ex
            cases b1
            exact p.atom R t2
          · subst ey
            cases b2
            exact p.atom R (by rw [List.append_nil]; exact t1)
          · exact p.newT R (b1.app b2)
        · rw [if_neg hl] at er'; cases er'
      | _ => cases er
    | list ds =>
      cases e with
      | list es =>
        have er' : (if ds.length + es.length ≤ LIM then some (RV.new (ds ++ es)) else none) = some r := er
        by_cases hl : ds.length + es.length ≤ LIM
        · rw [if_pos hl] at er'
          have z := Option.some.inj er'
          subst z
          obtain ⟨a1, xs, rfl, b1, c1⟩ := rx.elems R e1 rfl
          obtain ⟨a2, ys, rfl, b2, c2⟩ := ry.elems R e2 rfl
          have l1 := b1.length
          have l2 := b2.length
          have hz := lim_line
          rcases c1 with ⟨_, c1⟩ | ⟨c1, _⟩
          · rcases c2 with ⟨_, c2⟩ | ⟨c2, _⟩
            · exact .inr ⟨a1, a2, xs, ys, rfl, rfl, c1, c2, by omega, p.newL R (b1.app b2)⟩
            · cases c2
          · cases c1
        · rw [if_neg hl] at er'; cases er'
      | _ => cases er
    | _ => cases e <;> cases er
  | sub =>
    cases d with
    | int i =>
      cases e with
      | int j =>
        have z : RV.v (.dat (.int (i - j))) = r := Option.some.inj er
        subst z
        exact ⟨i, j, q1.int_inv, q2.int_inv, p.atom R (.int _)⟩
      | _ => cases er
    | _ => cases e <;> cases er
  | mul =>
    cases d with
    | int i =>
      cases e with
      | int j =>
        have er' : (if -(2 ^ 64) < i ∧ i < 2 ^ 64 then some (RV.v (.dat (.int (i * j)))) else none) = some r := er
        by_cases hc : -(2 ^ 64) < i ∧ i < 2 ^ 64
        · rw [if_pos hc] at er'
          have z := Option.some.inj er'
          subst z
          exact .inl ⟨i, j, q1.int_inv, q2.int_inv, .inl hc, p.atom R (.int _)⟩
        · rw [if_neg hc] at er'; cases er'
      | _ => cases er
    | list ds =>
      cases e with
      | int j =>
        have er' : (if (smallI j && decide (ds.length * j.toNat ≤ LIM)) = true then some (RV.new (List.replicate j.toNat ds).flatten) else none) = some r := er
        by_cases hc : (smallI j && decide (ds.length * j.toNat ≤ LIM)) = true
        · rw [if_pos hc] at er'
          have z := Option.some.inj er'
          subst z
          rw [Bool.and_eq_true] at hc
          have hj := of_decide_eq_true (show decide (-1000000 ≤ j ∧ j ≤ 1000000) = true from hc.1)
          have hl := of_decide_eq_true hc.2
          obtain ⟨a1, xs, rfl, b1, c1⟩ := rx.elems R e1 rfl
          have l1 := b1.length
          have hz := lim_line
          rcases c1 with ⟨_, c1⟩ | ⟨c1, _⟩
          · exact .inr ⟨a1, j, xs, rfl, q2.int_inv, c1, by omega, by omega, by rw [l1]; omega, p.newL R (dq_rep b1 _)⟩
          · cases c1
        · rw [if_neg hc] at er'; cases er'
      | _ => cases er
    | _ => cases e <;> cases er
  | fdiv =>
    cases d with
    | int i =>
      cases e with
      | int j =>
        have er' : (if 0 < j ∧ j < 1073741824 then some (RV.v (.dat (.int (i / j)))) else none) = some r := er
        by_cases hc : 0 < j ∧ j < 1073741824
        · rw [if_pos hc] at er'
          have z := Option.some.inj er'
          subst z
          exact ⟨i, j, q1.int_inv, q2.int_inv, hc, p.atom R (.int _)⟩
        · rw [if_neg hc] at er'; cases er'
      | _ => cases er
    | _ => cases e <;> cases er
  | mod =>
    cases d with
    | int i =>
      cases e with
      | int j =>
        have er' : (if 0 < j then some (RV.v (.dat (.int (i % j)))) else none) = some r := er
        by_cases hc : 0 < j
        · rw [if_pos hc] at er'
          have z := Option.some.inj er'
          subst z
          exact ⟨i, j, q1.int_inv, q2.int_inv, hc, p.atom R (.int _)⟩
        · rw [if_neg hc] at er'; cases er'
      | _ => cases er
    | _ => cases e <;> cases er
end
end TB
set_option maxHeartbeats 4000000
namespace TB
open PySem L2
section
variable {X : Cx}
def cOf : CO → CmpOp
  | .eq => .Eq | .ne => .NotEq | .lt => .Lt | .le => .LtE | .gt => .Gt | .ge => .GtE | .isin => .In | .notin => .NotIn
/-- the answer of a comparison of data -/
def rCmp (op : CO) : R2 := fun x y H Q => ∃ d e b, Dq H x d ∧ Dq H y e ∧ cmpD op d e = some b ∧ Q (.bl b) H
theorem okD_room {d : PyData} (h : okD d = true) : d.canLay0 = true ∧ d.depth ≤ 64 := by
  have h' : (d.canLay0 && decide (d.depth ≤ 64)) = true := h
  rw [Bool.and_eq_true, decide_eq_true_eq] at h'
  exact h'
theorem if_some {c : Bool} {α : Type} {a b : α} (h : (if c = true then some a else none) = some b) : c = true ∧ a = b := by
  cases c with
  | true => exact ⟨rfl, Option.some.inj h⟩
  | false => cases h
theorem opI_le : OpR X (compareOp .LtE) (rI0 fun i j => .bl (decide (i ≤ j))) := op_le
theorem op_cmp (op : CO) (hu : X.A.units + 65 < cLine) : OpR X (compareOp (cOf op)) (rCmp op) := by
  intro pins s σ H x y v u Q I rx ry ⟨d, e, b, hd, he, hb, q⟩
  have twoI : ∀ {i j : Int}, d = .int i → e = .int j → x = .int i ∧ y = .int j := fun h1 h2 => by
    subst h1; subst h2
    exact ⟨hd.int_inv, he.int_inv⟩
  cases op with
  | eq =>
    obtain ⟨hc, rfl⟩ := if_some (show (if (okD d && okD e) = true then some (PyData.eqv d e) else none) = some b from hb)
    rw [Bool.and_eq_true] at hc
    exact op_eqD (by omega) pins s σ H x y v u Q I rx ry ⟨d, e, hd.dp, he.dp, hc.1, hc.2, q⟩
  | ne =>
    obtain ⟨hc, rfl⟩ := if_some (show (if (okD d && okD e) = true then some (!PyData.eqv d e) else none) = some b from hb)
    rw [Bool.and_eq_true] at hc
    exact op_neD (by omega) pins s σ H x y v u Q I rx ry ⟨d, e, hd.dp, he.dp, hc.1, hc.2, q⟩
  | isin =>
    have hb' : (match itemsD e with | some ys => (if (okD d && okD e) = true then some (ys.any fun z => PyData.eqv z d) else none) | none => none) = some b := hb
    cases ei : itemsD e with
    | none => rw [ei] at hb'; cases hb'
    | some ys =>
      rw [ei] at hb'
      obtain ⟨hc, rfl⟩ := if_some hb'
      rw [Bool.and_eq_true] at hc
      cases e with
      | list zs =>
        have : zs = ys := Option.some.inj ei
        subst this
        exact op_inD hu pins s σ H x y v u Q I rx ry ⟨d, zs, hd.dp, he.dp, hc.1, hc.2, q⟩
      | tuple zs =>
        have : zs = ys := Option.some.inj ei
        subst this
        obtain ⟨as, r1⟩ := Dp.reads I d x v hd.dp rx
        obtain ⟨bs, r2⟩ := Dp.reads I (.tuple zs) y u he.dp ry
        have k1 := okD_room hc.1
        have k2 := okD_room hc.2
        refine SeqAt.in_tuple_reads r2 r1 k2.1 k1.1 ?_ ⟨.bl _, H, I, rfl, q⟩
        have := k1.2
        omega
      | _ => cases ei
  | notin =>
    have hb' : (match itemsD e with | some ys => (if (okD d && okD e) = true then some (!ys.any fun z => PyData.eqv z d) else none) | none => none) = some b := hb
    cases ei : itemsD e with
    | none => rw [ei] at hb'; cases hb'
    | some ys =>
      rw [ei] at hb'
      obtain ⟨hc, rfl⟩ := if_some hb'
      rw [Bool.and_eq_true] at hc
      cases e with
      | list zs =>
        have : zs = ys := Option.some.inj ei
        subst this
        exact op_notInD hu pins s σ H x y v u Q I rx ry ⟨d, zs, hd.dp, he.dp, hc.1, hc.2, q⟩
      | tuple zs =>
        have : zs = ys := Option.some.inj ei
        subst this
        obtain ⟨as, r1⟩ := Dp.reads I d x v hd.dp rx
        obtain ⟨bs, r2⟩ := Dp.reads I (.tuple zs) y u he.dp ry
        have k1 := okD_room hc.1
        have k2 := okD_room hc.2
        refine SeqAt.notIn_tuple_reads r2 r1 k2.1 k1.1 ?_ ⟨.bl _, H, I, rfl, q⟩
        have := k1.2
        omega
      | _ => cases ei
  | lt =>
    cases d with
    | int i =>
      cases e with
      | int j =>
        obtain ⟨rfl, rfl⟩ := twoI rfl rfl
        have : decide (i < j) = b := Option.some.inj hb
        subst this
        exact op_lt pins s σ H _ _ v u Q I rx ry ⟨i, j, rfl, rfl, q⟩
      | _ => cases hb
    | tuple ds =>
      cases e with
      | tuple es =>
        obtain ⟨hc, rfl⟩ := if_some (show (if (okD (.tuple ds) && okD (.tuple es) && PySem.W.alike (.tuple ds) (.tuple es)) = true then some (ltD (.tuple ds) (.tuple es)) else none) = some b from hb)
        rw [Bool.and_eq_true, Bool.and_eq_true] at hc
        obtain ⟨as, r1⟩ := Dp.reads I (.tuple ds) x v hd.dp rx
        obtain ⟨bs, r2⟩ := Dp.reads I (.tuple es) y u he.dp ry
        have k1 := okD_room hc.1.1
        refine PySem.W.rcLt_alike (.tuple ds) (.tuple es) X.A s v u as bs r1 r2 hc.2 (fun z => nomatch z) ?_ X.prog X.w X.xe _ ⟨.bl _, H, I, rfl, q⟩
        have := k1.2
        omega
      | _ => cases hb
    | _ => cases e <;> cases hb
  | le =>
    cases d with
    | int i =>
      cases e with
      | int j =>
        obtain ⟨rfl, rfl⟩ := twoI rfl rfl
        have : decide (i ≤ j) = b := Option.some.inj hb
        subst this
        exact op_le pins s σ H _ _ v u Q I rx ry ⟨i, j, rfl, rfl, q⟩
      | _ => cases hb
    | _ => cases e <;> cases hb
  | gt =>
    cases d with
    | int i =>
      cases e with
      | int j =>
        obtain ⟨rfl, rfl⟩ := twoI rfl rfl
        have : decide (j < i) = b := Option.some.inj hb
        subst this
        exact op_gt pins s σ H _ _ v u Q I rx ry ⟨i, j, rfl, rfl, q⟩
      | _ => cases hb
    | _ => cases e <;> cases hb
  | ge =>
    cases d with
    | int i =>
      cases e with
      | int j =>
        obtain ⟨rfl, rfl⟩ := twoI rfl rfl
        have : decide (j ≤ i) = b := Option.some.inj hb
        subst this
        exact op_ge pins s σ H _ _ v u Q I rx ry ⟨i, j, rfl, rfl, q⟩
      | _ => cases hb
    | _ => cases e <;> cases hb

variable {W : WX} {cl : Nat → Value} {pos : Pos} {a b c : Expr} {ra rb rc : SE}
def noSet : Expr → Bool
  | .Set .. => false
  | .Starred .. => false
  | .Slice .. => false
  | _ => true
theorem noMark {op : CmpOp} {b : Expr} (h : noSet b = true) : behindInMarks op b = false := by
  cases b <;> first | rfl | cases h
theorem hop_cmp (op : CO) {σ : St} {Q : VK} {F H : Hp} {A : List Addr} {h : HP} {x y : RV} {vx vy : V} {H0 : Hp} (R : Rl F H A h) (rx : RVR H0 F H A x vx) (ry : RVR H0 F H A y vy)
    (p : PostE W cl σ F H A Q (ofOpt ((dat1 h x).bind fun d => (dat1 h y).bind fun e => (cmpD op d e).map fun b => .v (.dat (.bool b))) h)) : rCmp op vx vy H Q := by
  obtain ⟨r, er, p⟩ := p.opt
  obtain ⟨d, e1, er⟩ := opt_bind er
  obtain ⟨e, e2, er⟩ := opt_bind er
  obtain ⟨t, et, rfl⟩ := opt_map er
  exact ⟨d, e, t, rx.dq R e1, ry.dq R e2, et, p.atom R (.bl t)⟩
theorem pe_cmpC (op : CO) (hu : X.A.units + 65 < cLine) (hb0 : noSet b = true) (ha : PE X a (tE W cl ra)) (hb : PE X b (tE W cl rb)) :
    PE X (.Compare a [cOf op] [b] pos) (tE W cl fun ρ h => (ra ρ h).bind fun x h => (rb ρ h).bind fun y h => ofOpt ((dat1 h x).bind fun d => (dat1 h y).bind fun e => (cmpD op d e).map fun b => .v (.dat (.bool b))) h) :=
  PE.imp (pe_cmpR (op_cmp op hu) ha hb (noMark hb0)) fun σ H Q p => tE_two (fun F H A h x y vx vy H0 R rx ry p => hop_cmp op R rx ry p) p
/-- is None, is not None -/
theorem isNC_both (neg : Bool) {j : Nat} {pos' : Pos} (ha : PE X a (tE W cl ra)) :
    ∃ t, PE X (.Compare a [if neg then .IsNot else .Is] [.Constant .none j pos'] pos) t ∧ PT X (.Compare a [if neg then .IsNot else .Is] [.Constant .none j pos'] pos) (tTest t) ∧ ∀ σ H Q, tE W cl (fun ρ h => (ra ρ h).bind fun x h => .ok (.v (.dat (.bool (match x with | .v (.dat .none) => !neg | _ => neg)))) h) σ H Q → t σ H Q := by
  have key : ∀ (F H A h) (x : RV) (vx : V) (H0 : Hp), Rl F H A h → RVR H0 F H A x vx → (match x with | .v (.dat .none) => !neg | _ => neg) = (if neg then !decide (vx = .non) else decide (vx = .non)) := fun F H A h x vx H0 R rx => by
    have hn : ∀ {a : Addr}, decide (V.ref a = V.non) = false := fun {a} => decide_eq_false (fun z => nomatch z)
    cases x with
    | v x =>
      cases x with
      | loc n =>
        obtain ⟨a, _, rfl⟩ := rx
        rw [hn]; cases neg <;> rfl
      | dat d =>
        have rx' : Dq F vx d := rx
        cases rx' with
        | non => cases neg <;> rfl
        | bl b => cases neg <;> rfl
        | int i => cases neg <;> rfl
        | str z => cases neg <;> rfl
        | lst _ _ => rw [hn]; cases neg <;> rfl
        | tup _ _ => rw [hn]; cases neg <;> rfl
    | new ds =>
      obtain ⟨a, _, rfl, _⟩ := rx
      rw [hn]; cases neg <;> rfl
  cases neg with
  | true =>
    refine ⟨_, pe_cmp (pc_notN ha), pt_cmp (pc_notN ha), fun σ H Q p => ?_⟩
    exact tE_one (r := fun x H1 Q => Q (.bl (!decide (x = .non))) H1) (fun F H A h x vx H0 R rx p => by
      have e := key F H A h x vx H0 R rx
      simp only [if_true] at e
      rw [e] at p
      exact p.atom R (.bl _)) p
  | false =>
    refine ⟨_, pe_cmp (pc_isN ha), pt_cmp (pc_isN ha), fun σ H Q p => ?_⟩
    exact tE_one (r := fun x H1 Q => Q (.bl (decide (x = .non))) H1) (fun F H A h x vx H0 R rx p => by
      have e := key F H A h x vx H0 R rx
      simp only [Bool.false_eq_true, if_false] at e
      rw [e] at p
      exact p.atom R (.bl _)) p
/-- a < b < c -/
theorem chainC_both (o1 o2 : CO) (hu : X.A.units + 65 < cLine) (hc0 : noSet c = true) (ha : PE X a (tE W cl ra)) (hb : PE X b (tE W cl rb)) (hc : PE X c (tE W cl rc)) :
    ∃ t, PE X (.Compare a [cOf o1, cOf o2] [b, c] pos) t ∧ PT X (.Compare a [cOf o1, cOf o2] [b, c] pos) (tTest t) ∧ ∀ σ H Q, tE W cl (fun ρ h => (ra ρ h).bind fun x h => (rb ρ h).bind fun y h =>
      (ofOpt ((dat1 h x).bind fun d => (dat1 h y).bind fun e => cmpD o1 d e) h).bind fun t h =>
        if t then (rc ρ h).bind fun z h => ofOpt ((dat1 h y).bind fun d => (dat1 h z).bind fun e => (cmpD o2 d e).map fun b => .v (.dat (.bool b))) h
        else .ok (.v (.dat (.bool false))) h) σ H Q → t σ H Q := by
  refine ⟨_, pe_chain (op_cmp o1 hu) (op_cmp o2 hu) ha hb hc (noMark hc0), pt_chain (op_cmp o1 hu) (op_cmp o2 hu) ha hb hc (noMark hc0), fun σ H Q p => ?_⟩
  obtain ⟨F, A, h, ρ, R, E, p⟩ := p
  refine ⟨F, A, h, ρ, R, E, PostE.bind (α := Unit) p _ fun x h1 _ F1 H1 v e1 R1 rv1 p1 => ?_⟩
  refine ⟨F1, A, h1, ρ, R1, E.mono e1, PostE.bind (α := Unit) (p1.after e1 R1) _ fun y h2 _ F2 H2 u e2 R2 rv2 p2 => ?_⟩
  have p2' := p2.after e2 R2
  cases et : (dat1 h2 x).bind fun d => (dat1 h2 y).bind fun e => cmpD o1 d e with
  | none => rw [et] at p2'; exact p2'.elim
  | some t =>
    rw [et, ofOpt_some, Res.bind_ok] at p2'
    obtain ⟨d, k1, et⟩ := opt_bind et
    obtain ⟨e, k2, et⟩ := opt_bind et
    have rv1' := rv1.mono e2
    refine ⟨d, e, t, rv1'.dq R2 k1, rv2.dq R2 k2, et, t, rfl, ?_⟩
    cases t with
    | true =>
      rw [if_pos rfl] at p2' ⊢
      refine ⟨F2, A, h2, ρ, R2, (E.mono e1).mono e2, PostE.bind (α := Unit) p2' _ fun z h3 _ F3 H3 w e3 R3 rv3 p3 => ?_⟩
      exact hop_cmp (H0 := H1) o2 R3 (rv2.mono e3) (rv3.back e2 R2) (p3.after e3 R3)
    | false =>
      rw [if_neg Bool.false_ne_true] at p2' ⊢
      exact p2'.atom R2 (.bl _)

/-! ### truth -/
theorem truth_ok {H : Hp} {v : V} {d : PyData} {t : Bool} (q : Dq H v d) (e : truthD d = some t) : TruV X.K v H t := by
  cases q with
  | non => exact (Option.some.inj e).symm
  | bl b => exact (Option.some.inj e).symm
  | int i => exact (Option.some.inj e).symm
  | str x => cases e
  | @lst a xs ds r b =>
    have e' : (!ds.isEmpty) = t := Option.some.inj e
    refine .inl ⟨xs, .inl r, ?_⟩
    rw [← e']
    cases b <;> rfl
  | @tup a xs ds r b =>
    have e' : (!ds.isEmpty) = t := Option.some.inj e
    refine .inr (.inl ⟨xs, .inl r, ?_⟩)
    rw [← e']
    cases b <;> rfl
theorem pe_notC (ha : PE X a (tE W cl ra)) : PE X (.UnaryOp .Not a pos) (tE W cl fun ρ h => (ra ρ h).bind fun x h => ofOpt ((dat1 h x).bind fun d => (truthD d).map fun b => .v (.dat (.bool (!b)))) h) := by
  refine PE.imp (pe_notT ha) fun σ H Q p => ?_
  refine tE_one (r := fun x H1 Q => ∃ k, TruV X.K x H1 k ∧ Q (.bl (!k)) H1) (fun F H A h x vx H0 R rx p => ?_) p
  obtain ⟨r, er, p⟩ := p.opt
  obtain ⟨d, e1, er⟩ := opt_bind er
  obtain ⟨t, et, rfl⟩ := opt_map er
  exact ⟨t, truth_ok (rx.dq R e1) et, p.atom R (.bl _)⟩
theorem pe_negC (ha : PE X a (tE W cl ra)) : PE X (.UnaryOp .USub a pos) (tE W cl fun ρ h => (ra ρ h).bind fun x h => ofOpt ((dat1 h x).bind fun d => (intOf d).map fun i => .v (.dat (.int (-i)))) h) := by
  refine PE.imp (pe_un un_neg ha) fun σ H Q p => ?_
  refine tE_one (r := rU fun i => .int (-i)) (fun F H A h x vx H0 R rx p => ?_) p
  obtain ⟨r, er, p⟩ := p.opt
  obtain ⟨d, e1, er⟩ := opt_bind er
  obtain ⟨i, ei, rfl⟩ := opt_map er
  cases d with
  | int j =>
    have : j = i := Option.some.inj ei
    subst this
    exact ⟨j, (rx.dq R e1).int_inv, p.atom R (.int _)⟩
  | _ => cases ei
/-- the settled value of an operand -/
theorem PostE.settled {σ : St} {F H F1 H1 : Hp} {A : List Addr} {h : HP} {Q : VK} {x : RV} {v : V} (p : PostE W cl σ F H A Q (.ok (.v (settle x)) h)) (e : Ext F H A F1 H1 A) (R : Rl F1 H1 A h) (rx : RVR H F1 H1 A x v) : Q v H1 := by
  obtain ⟨F2, e2, R2, _, _, q⟩ := rx.settle e R
  exact p F2 H1 v e2 R2 q
theorem tE_and {σ : St} {H : Hp} {Q : VK} (p : tE W cl (fun ρ h => (ra ρ h).bind fun x h => (ofOpt ((dat1 h x).bind truthD) h).bind fun t h => if t then rb ρ h else .ok (.v (settle x)) h) σ H Q) : tAndT X.K (tE W cl ra) (tE W cl rb) σ H Q := by
  obtain ⟨F, A, h, ρ, R, E, p⟩ := p
  refine ⟨F, A, h, ρ, R, E, PostE.bind (α := Unit) p _ fun x h1 _ F1 H1 v e1 R1 rv1 p1 => ?_⟩
  cases et : (dat1 h1 x).bind truthD with
  | none => rw [et] at p1; exact p1.elim
  | some t =>
    rw [et, ofOpt_some, Res.bind_ok] at p1
    obtain ⟨d, k1, et⟩ := opt_bind et
    refine ⟨t, truth_ok (rv1.dq R1 k1) et, ?_⟩
    cases t with
    | true =>
      rw [if_pos rfl] at p1 ⊢
      exact ⟨F1, A, h1, ρ, R1, E.mono e1, p1.after e1 R1⟩
    | false =>
      rw [if_neg Bool.false_ne_true] at p1 ⊢
      exact p1.settled e1 R1 rv1
theorem tE_or {σ : St} {H : Hp} {Q : VK} (p : tE W cl (fun ρ h => (ra ρ h).bind fun x h => (ofOpt ((dat1 h x).bind truthD) h).bind fun t h => if t then .ok (.v (settle x)) h else rb ρ h) σ H Q) : tOrT X.K (tE W cl ra) (tE W cl rb) σ H Q := by
  obtain ⟨F, A, h, ρ, R, E, p⟩ := p
  refine ⟨F, A, h, ρ, R, E, PostE.bind (α := Unit) p _ fun x h1 _ F1 H1 v e1 R1 rv1 p1 => ?_⟩
  cases et : (dat1 h1 x).bind truthD with
  | none => rw [et] at p1; exact p1.elim
  | some t =>
    rw [et, ofOpt_some, Res.bind_ok] at p1
    obtain ⟨d, k1, et⟩ := opt_bind et
    refine ⟨t, truth_ok (rv1.dq R1 k1) et, ?_⟩
    cases t with
    | true =>
      rw [if_pos rfl] at p1 ⊢
      exact p1.settled e1 R1 rv1
    | false =>
      rw [if_neg Bool.false_ne_true] at p1 ⊢
      exact ⟨F1, A, h1, ρ, R1, E.mono e1, p1.after e1 R1⟩

/-! ### tests -/
def PostT (W : WX) (cl : Nat → Value) (σ : St) (F H : Hp) (A : List Addr) (Q : Bool → Hp → Prop) : Res Bool → Prop
  | .ok r h' => ∀ F' H', Ext F H A F' H' A → Rl F' H' A h' → Q r H'
  | .exc c h' => ∀ F' H', Ext F H A F' H' A → Rl F' H' A h' → W (cl c) none σ H'
  | .bad => False
def tT (W : WX) (cl : Nat → Value) (r : EV → HP → Res Bool) : TT := fun σ H Q => ∃ F A h ρ, Rl F H A h ∧ EnvR F A ρ σ ∧ PostT W cl σ F H A Q (r ρ h)
def truR (r : SE) : EV → HP → Res Bool := fun ρ h => (r ρ h).bind fun x h => ofOpt ((dat1 h x).bind truthD) h
theorem PostT.bind {σ : St} {F H : Hp} {A : List Addr} {Q : Bool → Hp → Prop} {r : Res RV} {k : RV → HP → Res Bool} (p : PostT W cl σ F H A Q (r.bind k))
    (Q' : VK) (i : ∀ x h1, r = .ok x h1 → ∀ F1 H1 v, Ext F H A F1 H1 A → Rl F1 H1 A h1 → RVR H F1 H1 A x v → PostT W cl σ F H A Q (k x h1) → Q' v H1) : PostE W cl σ F H A Q' r := by
  cases r with
  | ok x h1 => exact fun F1 H1 v e R rv => i x h1 rfl F1 H1 v e R rv p
  | exc c h1 => exact p
  | bad => exact p
theorem PostT.after {σ : St} {F H F1 H1 : Hp} {A : List Addr} {h1 : HP} {Q : Bool → Hp → Prop} {r : Res Bool} (p : PostT W cl σ F H A Q r) (e : Ext F H A F1 H1 A) (R : Rl F1 H1 A h1) : PostT W cl σ F1 H1 A Q r := by
  cases r with
  | ok x h2 => exact fun F2 H2 e2 R2 => p F2 H2 (e.trans R e2) R2
  | exc c h2 => exact fun F2 H2 e2 R2 => p F2 H2 (e.trans R e2) R2
  | bad => exact p
/-- a test by the truth of a value -/
theorem pt_plain (he : ∀ whole, isTrue a X.env whole = (do let v ← whole; standAt a.pos; holding [v] (truthy v))) (ha : PE X a (tE W cl ra)) : PT X a (tT W cl (truR ra)) := by
  refine PT.imp (pt_truth ha he) fun σ H Q p => ?_
  obtain ⟨F, A, h, ρ, R, E, p⟩ := p
  refine ⟨F, A, h, ρ, R, E, PostT.bind p _ fun x h1 _ F1 H1 v e1 R1 rv1 p1 => ?_⟩
  cases et : (dat1 h1 x).bind truthD with
  | none => rw [et] at p1; exact p1.elim
  | some t =>
    rw [et, ofOpt_some] at p1
    obtain ⟨d, k1, et⟩ := opt_bind et
    exact ⟨t, truth_ok (rv1.dq R1 k1) et, p1 F1 H1 e1 R1⟩
/-- a test that answers with a truth value -/
theorem pt_boolC {t : TE} (hp : PT X a (tTest t)) (hi : ∀ σ H Q, tE W cl ra σ H Q → t σ H Q) (hb : ∀ ρ h x h', ra ρ h = .ok x h' → ∃ b, x = .v (.dat (.bool b))) : PT X a (tT W cl (truR ra)) := by
  refine PT.imp hp fun σ H Q p => ?_
  obtain ⟨F, A, h, ρ, R, E, p⟩ := p
  refine hi σ H _ ⟨F, A, h, ρ, R, E, PostT.bind p _ fun x h1 ex F1 H1 v e1 R1 rv1 p1 => ?_⟩
  obtain ⟨b, rfl⟩ := hb _ _ _ _ ex
  have rv1' : Dq F1 v (.bool b) := rv1
  exact ⟨b, rv1'.bool_inv, p1 F1 H1 e1 R1⟩
theorem pt_notC (ha : PT X a (tT W cl (truR ra))) : PT X (.UnaryOp .Not a pos) (tT W cl (truR fun ρ h => (ra ρ h).bind fun x h => ofOpt ((dat1 h x).bind fun d => (truthD d).map fun b => .v (.dat (.bool (!b)))) h)) := by
  refine PT.imp (pt_not ha) fun σ H Q p => ?_
  obtain ⟨F, A, h, ρ, R, E, p⟩ := p
  refine ⟨F, A, h, ρ, R, E, ?_⟩
  unfold truR at p ⊢
  dsimp only at p
  cases er : ra ρ h with
  | bad => rw [er] at p; exact p
  | exc c h1 => rw [er] at p; exact p
  | ok x h1 =>
    rw [er] at p
    simp only [Res.bind_ok] at p ⊢
    cases e1 : dat1 h1 x with
    | none => rw [e1] at p; exact p
    | some d =>
      rw [e1] at p
      simp only [Option.bind_some] at p ⊢
      cases e2 : truthD d with
      | none => rw [e2] at p; exact p
      | some t =>
        rw [e2] at p
        exact p
theorem tT_two {σ : St} {H : Hp} {Q : Bool → Hp → Prop} {ta tb : EV → HP → Res Bool} (andB : Bool) (p : tT W cl (fun ρ h => (ta ρ h).bind fun t h => if t = andB then tb ρ h else .ok (!andB) h) σ H Q) :
    tT W cl ta σ H fun c H1 => if c = andB then tT W cl tb σ H1 Q else Q (!andB) H1 := by
  obtain ⟨F, A, h, ρ, R, E, p⟩ := p
  refine ⟨F, A, h, ρ, R, E, ?_⟩
  dsimp only at p
  cases er : ta ρ h with
  | bad => rw [er] at p; exact p
  | exc c h1 => rw [er] at p; exact p
  | ok t h1 =>
    rw [er, Res.bind_ok] at p
    intro F1 H1 e1 R1
    by_cases ht : t = andB
    · rw [if_pos ht] at p ⊢
      exact ⟨F1, A, h1, ρ, R1, E.mono e1, p.after e1 R1⟩
    · rw [if_neg ht] at p ⊢
      exact p F1 H1 e1 R1
def andR (ra rb : SE) : SE := fun ρ h => (ra ρ h).bind fun x h => (ofOpt ((dat1 h x).bind truthD) h).bind fun t h => if t then rb ρ h else .ok (.v (settle x)) h
def orR (ra rb : SE) : SE := fun ρ h => (ra ρ h).bind fun x h => (ofOpt ((dat1 h x).bind truthD) h).bind fun t h => if t then .ok (.v (settle x)) h else rb ρ h
theorem tru_and (ra rb : SE) : truR (andR ra rb) = fun ρ h => (truR ra ρ h).bind fun t h => if t = true then truR rb ρ h else .ok (!true) h := by
  funext ρ h
  unfold truR andR
  cases er : ra ρ h with
  | bad => rfl
  | exc c h1 => rfl
  | ok x h1 =>
    simp only [Res.bind_ok]
    cases et : (dat1 h1 x).bind truthD with
    | none => rfl
    | some t =>
      simp only [ofOpt_some, Res.bind_ok]
      cases t with
      | true => rfl
      | false =>
        simp only [Bool.false_eq_true, if_false, Res.bind_ok]
        have : dat1 h1 (.v (settle x)) = dat1 h1 x := rfl
        rw [this, et]
        rfl
theorem tru_or (ra rb : SE) : truR (orR ra rb) = fun ρ h => (truR ra ρ h).bind fun t h => if t = false then truR rb ρ h else .ok (!false) h := by
  funext ρ h
  unfold truR orR
  cases er : ra ρ h with
  | bad => rfl
  | exc c h1 => rfl
  | ok x h1 =>
    simp only [Res.bind_ok]
    cases et : (dat1 h1 x).bind truthD with
    | none => rfl
    | some t =>
      simp only [ofOpt_some, Res.bind_ok]
      cases t with
      | false => rfl
      | true =>
        have : dat1 h1 (.v (settle x)) = dat1 h1 x := rfl
        simp only [if_true, Res.bind_ok, this, et]
        rfl
theorem PW.imp {e : Expr} {t t' : TT} (p : PW X e t) (i : ∀ σ H Q, t' σ H Q → t σ H Q) : PW X e t' := ⟨fun wh pins s σ H Q I h => p.run wh pins s σ H Q I (i σ H Q h)⟩
theorem pw_andC {rest : List Expr} (ha : PT X a (tT W cl (truR ra))) (hb : PW X (.BoolOp .And (b :: rest) pos) (tT W cl (truR rb))) : PW X (.BoolOp .And (a :: b :: rest) pos) (tT W cl (truR (andR ra rb))) := by
  refine PW.imp (pw_and ha hb) fun σ H Q p => ?_
  rw [tru_and] at p
  exact tT_two true p
theorem pw_orC {rest : List Expr} (ha : PT X a (tT W cl (truR ra))) (hb : PW X (.BoolOp .Or (b :: rest) pos) (tT W cl (truR rb))) : PW X (.BoolOp .Or (a :: b :: rest) pos) (tT W cl (truR (orR ra rb))) := by
  refine PW.imp (pw_or ha hb) fun σ H Q p => ?_
  rw [tru_or] at p
  have p' := tT_two false p
  obtain ⟨F, A, h, ρ, R, E, p'⟩ := p'
  refine ⟨F, A, h, ρ, R, E, ?_⟩
  cases er : truR ra ρ h with
  | bad => rw [er] at p'; exact p'
  | exc c h1 => rw [er] at p'; exact p'
  | ok t h1 =>
    rw [er] at p'
    intro F1 H1 e1 R1
    have q := p' F1 H1 e1 R1
    cases t with
    | true =>
      rw [if_neg (show ¬ (true = false) from fun z => nomatch z)] at q
      rw [if_pos rfl]
      exact q
    | false =>
      rw [if_pos rfl] at q
      rw [if_neg Bool.false_ne_true]
      exact q
theorem pe_andC {rest : List Expr} (ha : PE X a (tE W cl ra)) (hb : PE X (.BoolOp .And (b :: rest) pos) (tE W cl rb)) : PE X (.BoolOp .And (a :: b :: rest) pos) (tE W cl (andR ra rb)) :=
  PE.imp (pe_andT ha hb) fun σ H Q p => tE_and p
theorem pe_orC {rest : List Expr} (ha : PE X a (tE W cl ra)) (hb : PE X (.BoolOp .Or (b :: rest) pos) (tE W cl rb)) : PE X (.BoolOp .Or (a :: b :: rest) pos) (tE W cl (orR ra rb)) :=
  PE.imp (pe_orT ha hb) fun σ H Q p => tE_or p
/-- a if c else b -/
def iteR (rc : EV → HP → Res Bool) (ra rb : SE) : SE := fun ρ h => (rc ρ h).bind fun t h => if t then ra ρ h else rb ρ h
theorem pe_iteC {tc : EV → HP → Res Bool} (hc : PT X c (tT W cl tc)) (ha : PE X a (tE W cl ra)) (hb : PE X b (tE W cl rb)) : PE X (.IfExp c a b pos) (tE W cl (iteR tc ra rb)) := by
  refine PE.imp (pe_ifExp hc ha hb) fun σ H Q p => ?_
  obtain ⟨F, A, h, ρ, R, E, p⟩ := p
  refine ⟨F, A, h, ρ, R, E, ?_⟩
  unfold iteR at p
  cases er : tc ρ h with
  | bad => rw [er] at p; exact p
  | exc c h1 => rw [er] at p; exact p
  | ok t h1 =>
    rw [er, Res.bind_ok] at p
    intro F1 H1 e1 R1
    cases t with
    | true => exact ⟨F1, A, h1, ρ, R1, E.mono e1, p.after e1 R1⟩
    | false => exact ⟨F1, A, h1, ρ, R1, E.mono e1, p.after e1 R1⟩
end
end TB
set_option maxHeartbeats 4000000
namespace TB
open PySem L2
section
variable {X : Cx} {W : WX} {cl : Nat → Value} {pos : Pos} {a b c : Expr} {ra rb rc : SE}
theorem star1 {e : Expr} {es : List Expr} {env : Env} (h : noSet e = true) : starEach (e :: es) env = (false, eval e env) :: starEach es env := by
  cases e <;> first | rfl | cases h
theorem plainIx {b : Expr} (h : noSet b = true) : PlainIx b := by
  intro o i
  cases b <;> first | rfl | cases h
theorem noAny1 {e : Expr} {env : Env} {pos : Pos} (h : noSet e = true) : (backTo pos (starEach [e] env)).any (·.1) = false := by
  rw [star1 h]; rfl
/-! ### a call of a built-in of one argument -/
theorem pe_call1 {id : String} {nm : Str} {p : Pos} {r : List V → Hp → VK → Prop} {f : RV → HP → Res RV} (hc : CallR X (.builtin id) r) (hg : Gl X nm) (hm : X.mg nm = none) (hv : bootBuiltins nm = some (.builtin id)) (hn : nm ≠ "__name__") (hdb : (nm == ("__debug__" : Str)) = false)
    (ha0 : noSet a = true) (ha : PE X a (tE W cl ra))
    (hop : ∀ (σ : St) (Q : VK) (F H A h) (x : RV) (vx : V) (H0 : Hp), Rl F H A h → RVR H0 F H A x vx → PostE W cl σ F H A Q (f x h) → r [vx] H Q) :
    PE X (.Call (.Name nm p) [a] [] pos) (tE W cl fun ρ h => (ra ρ h).bind fun x h => f x h) := by
  refine PE.imp (pe_callB hc hg hm hv (pa_cons ha pa_nil (star1 ha0)) hn hdb (star1 ha0) rfl) fun σ H Q p => ?_
  exact tE_one (r := fun x H1 Q => r [x] H1 Q) (fun F H A h x vx H0 R rx p => hop σ Q F H A h x vx H0 R rx p) p
theorem pe_call1T {T : String} {nm : Str} {p : Pos} {r : List V → Hp → VK → Prop} {f : RV → HP → Res RV} (hc : CallR X (.type T) r) (hg : Gl X nm) (hm : X.mg nm = none) (hv : bootBuiltins nm = some (.type T)) (hn : nm ≠ "__name__") (hdb : (nm == ("__debug__" : Str)) = false)
    (ha0 : noSet a = true) (ha : PE X a (tE W cl ra))
    (hop : ∀ (σ : St) (Q : VK) (F H A h) (x : RV) (vx : V) (H0 : Hp), Rl F H A h → RVR H0 F H A x vx → PostE W cl σ F H A Q (f x h) → r [vx] H Q) :
    PE X (.Call (.Name nm p) [a] [] pos) (tE W cl fun ρ h => (ra ρ h).bind fun x h => f x h) := by
  refine PE.imp (pe_callTy hc hg hm hv (pa_cons ha pa_nil (star1 ha0)) hn hdb (star1 ha0) rfl) fun σ H Q p => ?_
  exact tE_one (r := fun x H1 Q => r [x] H1 Q) (fun F H A h x vx H0 R rx p => hop σ Q F H A h x vx H0 R rx p) p

/-! ### lists of ints, of truth values -/
theorem bools_dq {F : Hp} : ∀ {vs : List V} {ds : List PyData} {bs : List Bool}, DqAll F vs ds → boolsOf ds = some bs → vs = bs.map V.bl
  | _, _, _, .nil, e => by
    have := Option.some.inj e
    subst this
    rfl
  | _, _, _, .cons (d := d) a b, e => by
    cases d with
    | bool x =>
      obtain ⟨bs', e1, rfl⟩ := opt_map (show (boolsOf _).map (x :: ·) = some _ from e)
      rw [bools_dq b e1, a.bool_inv]
      rfl
    | _ => cases e
theorem ints_dq {F : Hp} : ∀ {vs : List V} {ds : List PyData} {bs : List Int}, DqAll F vs ds → intsOf ds = some bs → vs = bs.map V.int
  | _, _, _, .nil, e => by
    have := Option.some.inj e
    subst this
    rfl
  | _, _, _, .cons (d := d) a b, e => by
    cases d with
    | int x =>
      obtain ⟨bs', e1, rfl⟩ := opt_map (show (intsOf _).map (x :: ·) = some _ from e)
      rw [ints_dq b e1, a.int_inv]
      rfl
    | _ => cases e
theorem maxL_max : ∀ (xs : List Int) (m : Int), m ≤ maxL m xs ∧ ∀ y ∈ xs, y ≤ maxL m xs
  | [], m => ⟨Int.le_refl _, fun _ h => absurd h (by simp)⟩
  | x :: xs, m => by
    have ih := maxL_max xs (if m < x then x else m)
    show m ≤ maxL (if m < x then x else m) xs ∧ _
    by_cases hx : m < x
    · rw [if_pos hx] at ih
      refine ⟨?_, fun y hy => ?_⟩
      · rw [if_pos hx]; have := ih.1; omega
      · show y ≤ maxL (if m < x then x else m) xs
        rw [if_pos hx]
        rcases List.mem_cons.mp hy with rfl | hy
        · exact ih.1
        · exact ih.2 y hy
    · rw [if_neg hx] at ih
      refine ⟨?_, fun y hy => ?_⟩
      · rw [if_neg hx]; exact ih.1
      · show y ≤ maxL (if m < x then x else m) xs
        rw [if_neg hx]
        rcases List.mem_cons.mp hy with rfl | hy
        · have := ih.1; omega
        · exact ih.2 y hy
theorem maxL_mem : ∀ (xs : List Int) (m : Int), maxL m xs = m ∨ maxL m xs ∈ xs
  | [], m => .inl rfl
  | x :: xs, m => by
    have ih := maxL_mem xs (if m < x then x else m)
    show maxL (if m < x then x else m) xs = m ∨ maxL (if m < x then x else m) xs ∈ x :: xs
    by_cases hx : m < x
    · rw [if_pos hx] at ih ⊢
      rcases ih with e | e
      · exact .inr (by rw [e]; exact List.mem_cons_self)
      · exact .inr (List.mem_cons_of_mem _ e)
    · rw [if_neg hx] at ih ⊢
      rcases ih with e | e
      · exact .inl e
      · exact .inr (List.mem_cons_of_mem _ e)
theorem minL_min : ∀ (xs : List Int) (m : Int), minL m xs ≤ m ∧ ∀ y ∈ xs, minL m xs ≤ y
  | [], m => ⟨Int.le_refl _, fun _ h => absurd h (by simp)⟩
  | x :: xs, m => by
    have ih := minL_min xs (if x < m then x else m)
    show minL (if x < m then x else m) xs ≤ m ∧ _
    by_cases hx : x < m
    · rw [if_pos hx] at ih
      refine ⟨?_, fun y hy => ?_⟩
      · rw [if_pos hx]; have := ih.1; omega
      · show minL (if x < m then x else m) xs ≤ y
        rw [if_pos hx]
        rcases List.mem_cons.mp hy with rfl | hy
        · exact ih.1
        · exact ih.2 y hy
    · rw [if_neg hx] at ih
      refine ⟨?_, fun y hy => ?_⟩
      · rw [if_neg hx]; exact ih.1
      · show minL (if x < m then x else m) xs ≤ y
        rw [if_neg hx]
        rcases List.mem_cons.mp hy with rfl | hy
        · have := ih.1; omega
        · exact ih.2 y hy
theorem minL_mem : ∀ (xs : List Int) (m : Int), minL m xs = m ∨ minL m xs ∈ xs
  | [], m => .inl rfl
  | x :: xs, m => by
    have ih := minL_mem xs (if x < m then x else m)
    show minL (if x < m then x else m) xs = m ∨ minL (if x < m then x else m) xs ∈ x :: xs
    by_cases hx : x < m
    · rw [if_pos hx] at ih ⊢
      rcases ih with e | e
      · exact .inr (by rw [e]; exact List.mem_cons_self)
      · exact .inr (List.mem_cons_of_mem _ e)
    · rw [if_neg hx] at ih ⊢
      rcases ih with e | e
      · exact .inl e
      · exact .inr (List.mem_cons_of_mem _ e)
theorem max_is {ns : List Int} {m k : Int} (h1 : m ∈ ns) (h2 : ∀ y, y ∈ ns → y ≤ m) (k1 : k ∈ ns) (k2 : ∀ y, y ∈ ns → y ≤ k) : m = k := by
  have := h2 k k1
  have := k2 m h1
  omega
theorem min_is {ns : List Int} {m k : Int} (h1 : m ∈ ns) (h2 : ∀ y, y ∈ ns → m ≤ y) (k1 : k ∈ ns) (k2 : ∀ y, y ∈ ns → k ≤ y) : m = k := by
  have := h2 k k1
  have := k2 m h1
  omega

/-! ### the built-ins -/
def b1R (b : B1) (ra : SE) : SE := fun ρ h => (ra ρ h).bind fun x h => ofOpt ((dat1 h x).bind (b1D b)) h
/-- what a one-argument built-in's call asks -/
theorem b1_data {b : B1} {σ : St} {Q : VK} {F H : Hp} {A : List Addr} {h : HP} {x : RV} (p : PostE W cl σ F H A Q (ofOpt ((dat1 h x).bind (b1D b)) h)) :
    ∃ d r, dat1 h x = some d ∧ b1D b d = some r ∧ PostE W cl σ F H A Q (.ok r h) := by
  obtain ⟨r, er, p⟩ := p.opt
  obtain ⟨d, e1, er⟩ := opt_bind er
  exact ⟨d, r, e1, er, p⟩
theorem boot_all : bootBuiltins "all" = some (.builtin "all") := by decide +kernel
theorem boot_any : bootBuiltins "any" = some (.builtin "any") := by decide +kernel
theorem boot_sum : bootBuiltins "sum" = some (.builtin "sum") := by decide +kernel
theorem boot_max : bootBuiltins "max" = some (.builtin "max") := by decide +kernel
theorem boot_min : bootBuiltins "min" = some (.builtin "min") := by decide +kernel
theorem boot_abs : bootBuiltins "abs" = some (.builtin "abs") := by decide +kernel
theorem boot_tuple : bootBuiltins "tuple" = some (.type "tuple") := by decide +kernel
theorem boot_list : bootBuiltins "list" = some (.type "list") := by decide +kernel
theorem boot_int : bootBuiltins "int" = some (.type "int") := by decide +kernel
theorem boot_bool : bootBuiltins "bool" = some (.type "bool") := by decide +kernel
theorem boot_str : bootBuiltins "str" = some (.type "str") := by decide +kernel
theorem boot_isinstance : bootBuiltins "isinstance" = some (.builtin "isinstance") := by decide +kernel
theorem boot_sorted : bootBuiltins "sorted" = some (.builtin "sorted") := by decide +kernel
theorem boot_set : bootBuiltins "set" = some (.type "set") := by decide +kernel

theorem pe_lenC {p : Pos} (hg : Gl X "len") (hm : X.mg "len" = none) (ha0 : noSet a = true) (ha : PE X a (tE W cl ra)) : PE X (.Call (.Name "len" p) [a] [] pos) (tE W cl (b1R .len ra)) :=
  pe_call1 call_len_seq hg hm PySem.boot_len (by decide) (by decide) ha0 ha fun σ Q F H A h x vx H0 R rx p => by
    obtain ⟨d, r, e1, er, p⟩ := b1_data p
    obtain ⟨xs, ei, rfl⟩ := opt_map (show (itemsD d).map (fun xs => RV.v (.dat (.int xs.length))) = some r from er)
    obtain ⟨a, vs, rfl, q1, q2⟩ := rx.elems R e1 ei
    refine ⟨a, vs, rfl, ?_, ?_⟩
    · rcases q2 with ⟨_, q2⟩ | ⟨_, q2⟩
      · exact .inl (.inl q2)
      · exact .inr (.inl q2)
    · rw [q1.length]
      exact p.atom R (.int _)
theorem pe_allC {p : Pos} (hc : X.calm = true) (hg : Gl X "all") (hm : X.mg "all" = none) (ha0 : noSet a = true) (ha : PE X a (tE W cl ra)) : PE X (.Call (.Name "all" p) [a] [] pos) (tE W cl (b1R .all ra)) :=
  pe_call1 (cr_all hc) hg hm boot_all (by decide) (by decide) ha0 ha fun σ Q F H A h x vx H0 R rx p => by
    obtain ⟨d, r, e1, er, p⟩ := b1_data p
    cases d with
    | list ds =>
      obtain ⟨bs, eb, rfl⟩ := opt_map (show (boolsOf ds).map (fun bs => RV.v (.dat (.bool (bs.all id)))) = some r from er)
      obtain ⟨a, vs, rfl, q1, q2⟩ := rx.elems R e1 rfl
      have hv := bools_dq q1 eb
      subst hv
      rcases q2 with ⟨_, q2⟩ | ⟨z, _⟩
      · exact ⟨a, bs, rfl, .inl q2, p.atom R (.bl _)⟩
      · cases z
    | _ => cases er
theorem pe_anyC {p : Pos} (hc : X.calm = true) (hg : Gl X "any") (hm : X.mg "any" = none) (ha0 : noSet a = true) (ha : PE X a (tE W cl ra)) : PE X (.Call (.Name "any" p) [a] [] pos) (tE W cl (b1R .any ra)) :=
  pe_call1 (cr_any hc) hg hm boot_any (by decide) (by decide) ha0 ha fun σ Q F H A h x vx H0 R rx p => by
    obtain ⟨d, r, e1, er, p⟩ := b1_data p
    cases d with
    | list ds =>
      obtain ⟨bs, eb, rfl⟩ := opt_map (show (boolsOf ds).map (fun bs => RV.v (.dat (.bool (bs.any id)))) = some r from er)
      obtain ⟨a, vs, rfl, q1, q2⟩ := rx.elems R e1 rfl
      have hv := bools_dq q1 eb
      subst hv
      rcases q2 with ⟨_, q2⟩ | ⟨z, _⟩
      · exact ⟨a, bs, rfl, .inl q2, p.atom R (.bl _)⟩
      · cases z
    | _ => cases er
theorem pe_sumC {p : Pos} (hc : X.calm = true) (hg : Gl X "sum") (hm : X.mg "sum" = none) (ha0 : noSet a = true) (ha : PE X a (tE W cl ra)) : PE X (.Call (.Name "sum" p) [a] [] pos) (tE W cl (b1R .sum ra)) :=
  pe_call1 (cr_sum hc) hg hm boot_sum (by decide) (by decide) ha0 ha fun σ Q F H A h x vx H0 R rx p => by
    obtain ⟨d, r, e1, er, p⟩ := b1_data p
    cases d with
    | list ds =>
      obtain ⟨bs, eb, rfl⟩ := opt_map (show (intsOf ds).map (fun bs => RV.v (.dat (.int bs.sum))) = some r from er)
      obtain ⟨a, vs, rfl, q1, q2⟩ := rx.elems R e1 rfl
      have hv := ints_dq q1 eb
      subst hv
      rcases q2 with ⟨_, q2⟩ | ⟨z, _⟩
      · exact ⟨a, bs, rfl, .inl q2, p.atom R (.int _)⟩
      · cases z
    | _ => cases er
theorem pe_maxC {p : Pos} (hc : X.calm = true) (hg : Gl X "max") (hm : X.mg "max" = none) (ha0 : noSet a = true) (ha : PE X a (tE W cl ra)) : PE X (.Call (.Name "max" p) [a] [] pos) (tE W cl (b1R .max ra)) :=
  pe_call1 (cr_max hc) hg hm boot_max (by decide) (by decide) ha0 ha fun σ Q F H A h x vx H0 R rx p => by
    obtain ⟨d, r, e1, er, p⟩ := b1_data p
    cases d with
    | list ds =>
      obtain ⟨bs, eb, er⟩ := opt_bind (show (intsOf ds).bind (fun is => match is with | [] => none | i :: is => some (RV.v (.dat (.int (maxL i is))))) = some r from er)
      obtain ⟨a, vs, rfl, q1, q2⟩ := rx.elems R e1 rfl
      have hv := ints_dq q1 eb
      subst hv
      cases bs with
      | nil => cases er
      | cons i is =>
        have er' : RV.v (.dat (.int (maxL i is))) = r := Option.some.inj er
        subst er'
        rcases q2 with ⟨_, q2⟩ | ⟨z, _⟩
        · refine ⟨a, i :: is, rfl, .inl q2, by simp, fun m h1 h2 => ?_⟩
          have e : m = maxL i is := max_is h1 h2 (by
            rcases maxL_mem is i with z | z
            · rw [z]; exact List.mem_cons_self
            · exact List.mem_cons_of_mem _ z) (fun y hy => by
            rcases List.mem_cons.mp hy with rfl | hy
            · exact (maxL_max is y).1
            · exact (maxL_max is i).2 y hy)
          rw [e]
          exact p.atom R (.int _)
        · cases z
    | _ => cases er
theorem pe_minC {p : Pos} (hc : X.calm = true) (hg : Gl X "min") (hm : X.mg "min" = none) (ha0 : noSet a = true) (ha : PE X a (tE W cl ra)) : PE X (.Call (.Name "min" p) [a] [] pos) (tE W cl (b1R .min ra)) :=
  pe_call1 (cr_min hc) hg hm boot_min (by decide) (by decide) ha0 ha fun σ Q F H A h x vx H0 R rx p => by
    obtain ⟨d, r, e1, er, p⟩ := b1_data p
    cases d with
    | list ds =>
      obtain ⟨bs, eb, er⟩ := opt_bind (show (intsOf ds).bind (fun is => match is with | [] => none | i :: is => some (RV.v (.dat (.int (minL i is))))) = some r from er)
      obtain ⟨a, vs, rfl, q1, q2⟩ := rx.elems R e1 rfl
      have hv := ints_dq q1 eb
      subst hv
      cases bs with
      | nil => cases er
      | cons i is =>
        have er' : RV.v (.dat (.int (minL i is))) = r := Option.some.inj er
        subst er'
        rcases q2 with ⟨_, q2⟩ | ⟨z, _⟩
        · refine ⟨a, i :: is, rfl, .inl q2, by simp, fun m h1 h2 => ?_⟩
          have e : m = minL i is := min_is h1 h2 (by
            rcases minL_mem is i with z | z
            · rw [z]; exact List.mem_cons_self
            · exact List.mem_cons_of_mem _ z) (fun y hy => by
            rcases List.mem_cons.mp hy with rfl | hy
            · exact (minL_min is y).1
            · exact (minL_min is i).2 y hy)
          rw [e]
          exact p.atom R (.int _)
        · cases z
    | _ => cases er
theorem pe_absC {p : Pos} (hg : Gl X "abs") (hm : X.mg "abs" = none) (ha0 : noSet a = true) (ha : PE X a (tE W cl ra)) : PE X (.Call (.Name "abs" p) [a] [] pos) (tE W cl (b1R .abs ra)) :=
  pe_call1 call_abs hg hm boot_abs (by decide) (by decide) ha0 ha fun σ Q F H A h x vx H0 R rx p => by
    obtain ⟨d, r, e1, er, p⟩ := b1_data p
    cases d with
    | int i =>
      have er' : RV.v (.dat (.int (if i < 0 then -i else i))) = r := Option.some.inj er
      subst er'
      exact ⟨i, by rw [(rx.dq R e1).int_inv], p.atom R (.int _)⟩
    | _ => cases er
theorem pe_tupleC {p : Pos} (hg : Gl X "tuple") (hm : X.mg "tuple" = none) (ha0 : noSet a = true) (ha : PE X a (tE W cl ra)) : PE X (.Call (.Name "tuple" p) [a] [] pos) (tE W cl (b1R .tuple ra)) :=
  pe_call1T call_tuple_of hg hm boot_tuple (by decide) (by decide) ha0 ha fun σ Q F H A h x vx H0 R rx p => by
    obtain ⟨d, r, e1, er, p⟩ := b1_data p
    obtain ⟨xs, ei, rfl⟩ := opt_map (show (itemsD d).map (fun xs => RV.v (.dat (.tuple xs))) = some r from er)
    obtain ⟨a, vs, rfl, q1, q2⟩ := rx.elems R e1 ei
    rcases q2 with ⟨_, q2⟩ | ⟨z, q2⟩
    · exact ⟨a, vs, rfl, .inl ⟨.inl q2, p.newT R q1⟩⟩
    · subst z
      exact ⟨a, vs, rfl, .inr ⟨.inl q2, p.atom R (rx.tup e1)⟩⟩
theorem pe_listC {p : Pos} (hg : Gl X "list") (hm : X.mg "list" = none) (ha0 : noSet a = true) (ha : PE X a (tE W cl ra)) : PE X (.Call (.Name "list" p) [a] [] pos) (tE W cl (b1R .list ra)) :=
  pe_call1T call_list_of hg hm boot_list (by decide) (by decide) ha0 ha fun σ Q F H A h x vx H0 R rx p => by
    obtain ⟨d, r, e1, er, p⟩ := b1_data p
    obtain ⟨xs, ei, rfl⟩ := opt_map (show (itemsD d).map (fun xs => RV.new xs) = some r from er)
    obtain ⟨a, vs, rfl, q1, q2⟩ := rx.elems R e1 ei
    refine ⟨a, vs, rfl, ?_, p.newL R q1⟩
    rcases q2 with ⟨_, q2⟩ | ⟨_, q2⟩
    · exact .inl (.inl q2)
    · exact .inr (.inl q2)
theorem pe_intC {p : Pos} (hg : Gl X "int") (hm : X.mg "int" = none) (ha0 : noSet a = true) (ha : PE X a (tE W cl ra)) : PE X (.Call (.Name "int" p) [a] [] pos) (tE W cl (b1R .int ra)) :=
  pe_call1T call_int1 hg hm boot_int (by decide) (by decide) ha0 ha fun σ Q F H A h x vx H0 R rx p => by
    obtain ⟨d, r, e1, er, p⟩ := b1_data p
    cases d with
    | bool k =>
      have er' : RV.v (.dat (.int (if k then 1 else 0))) = r := Option.some.inj er
      subst er'
      exact .inr ⟨k, by rw [(rx.dq R e1).bool_inv], p.atom R (.int _)⟩
    | _ => cases er
/-! ### ranges -/
theorem rg_dq {F : Hp} (a b : Int) : DqAll F (rgV a b) (rangeD a b) := by
  unfold rgV rangeD
  have go : ∀ l : List Nat, DqAll F (l.map fun k => V.int (a + (k : Nat))) (l.map fun k => PyData.int (a + (k : Nat))) := fun l => by
    induction l with
    | nil => exact .nil
    | cons k l ih => exact .cons (.int _) ih
  exact go _
end
end TB
set_option maxHeartbeats 4000000
namespace TB
open PySem L2
section
variable {X : Cx} {W : WX} {cl : Nat → Value} {pos : Pos} {a b c : Expr} {ra rb rc : SE}
theorem small_rg {i : Int} (h : smallI i = true) : RgOk 0 i := by
  have h' := of_decide_eq_true (show decide (-1000000 ≤ i ∧ i ≤ 1000000) = true from h)
  exact ⟨by omega, by omega, by omega, by omega, by omega⟩
theorem if_opt {c : Bool} {α : Type} {o : Option α} {b : α} (h : (if c = true then o else none) = some b) : c = true ∧ o = some b := by
  cases c with
  | true => exact ⟨rfl, h⟩
  | false => cases h
theorem pe_listRgC {p p2 : Pos} {pos2 : Pos} (hc : X.calm = true) (hg : Gl X "list") (hm : X.mg "list" = none) (hg2 : Gl X "range") (hm2 : X.mg "range" = none) (ha0 : noSet a = true) (ha : PE X a (tE W cl ra)) :
    PE X (.Call (.Name "list" p) [.Call (.Name "range" p2) [a] [] pos2] [] pos) (tE W cl (b1R .listRange ra)) := by
  refine PE.imp (pe_listRg hc hg hm (prg_1 hg2 hm2 ha (star1 ha0))) fun σ H Q p => ?_
  refine tE_one (r := fun x H1 Q => ∃ n, x = .int n ∧ (RgOk 0 n ∧ ∀ q, H1 q = none → Q (.ref q) (upd H1 q (.lst (rgV 0 n))))) (fun F H A h x vx H0 R rx p => ?_) p
  obtain ⟨d, r, e1, er, p⟩ := b1_data p
  cases d with
  | int i =>
    obtain ⟨hs, rfl⟩ := if_some (show (if smallI i = true then some (RV.new (rangeD 0 i)) else none) = some r from er)
    exact ⟨i, (rx.dq R e1).int_inv, small_rg hs, p.newL R (rg_dq 0 i)⟩
  | _ => cases er
theorem pe_tupRgC {p p2 : Pos} {pos2 : Pos} (hc : X.calm = true) (hg : Gl X "tuple") (hm : X.mg "tuple" = none) (hg2 : Gl X "range") (hm2 : X.mg "range" = none) (ha0 : noSet a = true) (ha : PE X a (tE W cl ra)) :
    PE X (.Call (.Name "tuple" p) [.Call (.Name "range" p2) [a] [] pos2] [] pos) (tE W cl (b1R .tupRange ra)) := by
  refine PE.imp (pe_tupRg hc hg hm (prg_1 hg2 hm2 ha (star1 ha0))) fun σ H Q p => ?_
  refine tE_one (r := fun x H1 Q => ∃ n, x = .int n ∧ (RgOk 0 n ∧ ∀ q, H1 q = none → Q (.ref q) (upd H1 q (.tup (rgV 0 n))))) (fun F H A h x vx H0 R rx p => ?_) p
  obtain ⟨d, r, e1, er, p⟩ := b1_data p
  cases d with
  | int i =>
    obtain ⟨hs, rfl⟩ := if_some (show (if smallI i = true then some (RV.v (.dat (.tuple (rangeD 0 i)))) else none) = some r from er)
    exact ⟨i, (rx.dq R e1).int_inv, small_rg hs, p.newT R (rg_dq 0 i)⟩
  | _ => cases er
/-! ### items and slices -/
theorem at_dq {F : Hp} {vs : List V} {ds : List PyData} {i : Int} {z : PyData} (q : DqAll F vs ds) (e : ((ixOf ds.length i).bind fun j => ds[j]?) = some z) : ∃ v, atI vs i = some v ∧ Dq F v z := by
  obtain ⟨j, ej, e⟩ := opt_bind e
  obtain ⟨v, ev, q2⟩ := q.get e
  refine ⟨v, ?_, q2⟩
  show (ixN vs.length i).bind (fun j => vs[j]?) = some v
  rw [q.length]
  have : ixN ds.length i = ixOf ds.length i := rfl
  rw [this, ej]
  exact ev
theorem pe_idxC (hb0 : noSet b = true) (ha : PE X a (tE W cl ra)) (hb : PE X b (tE W cl rb)) :
    PE X (.Subscript a b pos) (tE W cl fun ρ h => (ra ρ h).bind fun x h => (rb ρ h).bind fun y h => ofOpt ((dat1 h x).bind fun d => (dat1 h y).bind fun e => (idxD d e).map fun z => .v (.dat z)) h) := by
  refine PE.imp (pe_ix (IxR.or ix_list ix_tup) ha hb (plainIx hb0)) fun σ H Q p => tE_two (fun F H A h x y vx vy H0 R rx ry p => ?_) p
  obtain ⟨r, er, p⟩ := p.opt
  obtain ⟨d, e1, er⟩ := opt_bind er
  obtain ⟨e, e2, er⟩ := opt_bind er
  obtain ⟨z, ez, rfl⟩ := opt_map er
  unfold idxD at ez
  cases ei : itemsD d with
  | none => rw [ei] at ez; cases ez
  | some xs =>
    rw [ei] at ez
    cases e with
    | int k =>
      obtain ⟨a1, vs, rfl, q1, q2⟩ := rx.elems R e1 ei
      obtain ⟨v, hv, hz⟩ := at_dq q1 ez
      have hk := (ry.dq R e2).int_inv
      rcases q2 with ⟨_, q2⟩ | ⟨_, q2⟩
      · exact .inl ⟨a1, vs, k, v, rfl, hk, .inl q2, hv, p.atom R hz⟩
      · exact .inr ⟨a1, vs, k, v, rfl, hk, .inl q2, hv, p.atom R hz⟩
    | _ => cases ez
/-- a part of a slice -/
def PostO (W : WX) (cl : Nat → Value) (σ : St) (F H : Hp) (A : List Addr) (Q : Option Int → Hp → Prop) : Res (Option Int) → Prop
  | .ok r h' => ∀ F' H', Ext F H A F' H' A → Rl F' H' A h' → Q r H'
  | .exc c h' => ∀ F' H', Ext F H A F' H' A → Rl F' H' A h' → W (cl c) none σ H'
  | .bad => False
def tO (W : WX) (cl : Nat → Value) (r : EV → HP → Res (Option Int)) : TO := fun σ H Q => ∃ F A h ρ, Rl F H A h ∧ EnvR F A ρ σ ∧ PostO W cl σ F H A Q (r ρ h)
theorem PO.imp {e : Option Expr} {t t' : TO} (p : PO X e t) (i : ∀ σ H Q, t' σ H Q → t σ H Q) : PO X e t' := ⟨fun pins s σ H Q I h => p.run pins s σ H Q I (i σ H Q h)⟩
def noPartR : EV → HP → Res (Option Int) := fun _ h => .ok none h
def partR (ra : SE) : EV → HP → Res (Option Int) := fun ρ h => (ra ρ h).bind fun x h => ofOpt ((dat1 h x).bind fun d => (intOf d).bind fun i => if smallI i then some (some i) else none) h
theorem po_noneC : PO X none (tO W cl noPartR) := PO.imp po_none fun σ H Q ⟨F, A, h, ρ, R, E, p⟩ => p F H Ext.refl R
theorem po_someC (ha : PE X a (tE W cl ra)) : PO X (some a) (tO W cl (partR ra)) := by
  refine PO.imp (po_some ha) fun σ H Q p => ?_
  obtain ⟨F, A, h, ρ, R, E, p⟩ := p
  refine ⟨F, A, h, ρ, R, E, ?_⟩
  unfold partR at p
  cases er : ra ρ h with
  | bad => rw [er] at p; exact p
  | exc c h1 => rw [er] at p; exact p
  | ok x h1 =>
    rw [er, Res.bind_ok] at p
    intro F1 H1 v e1 R1 rv
    cases eo : ((dat1 h1 x).bind fun d => (intOf d).bind fun i => if smallI i then some (some i) else none) with
    | none => rw [eo] at p; exact p.elim
    | some o =>
      rw [eo] at p
      obtain ⟨d, k1, eo⟩ := opt_bind eo
      obtain ⟨i, k2, eo⟩ := opt_bind eo
      obtain ⟨_, rfl⟩ := if_some eo
      cases d with
      | int j =>
        have : j = i := Option.some.inj k2
        subst this
        exact ⟨j, (rv.dq R1 k1).int_inv, p F1 H1 e1 R1⟩
      | _ => cases k2
theorem PostO.after {σ : St} {F H F1 H1 : Hp} {A : List Addr} {h1 : HP} {Q : Option Int → Hp → Prop} {r : Res (Option Int)} (p : PostO W cl σ F H A Q r) (e : Ext F H A F1 H1 A) (R : Rl F1 H1 A h1) : PostO W cl σ F1 H1 A Q r := by
  cases r with
  | ok x h2 => exact fun F2 H2 e2 R2 => p F2 H2 (e.trans R e2) R2
  | exc c h2 => exact fun F2 H2 e2 R2 => p F2 H2 (e.trans R e2) R2
  | bad => exact p
theorem cut_dq {F : Hp} {vs : List V} {ds : List PyData} (q : DqAll F vs ds) (lo hi : Option Int) : DqAll F (cutV vs lo hi) (cutD ds lo hi) := by
  unfold cutV cutD
  rw [q.length]
  exact (q.drop _).take _
theorem cut_whole {xs : List PyData} {lo hi : Option Int} (h : HT.sIx xs.length 0 lo = 0 ∧ HT.sIx xs.length xs.length hi = xs.length) : cutD xs lo hi = xs := by
  unfold cutD
  rw [h.1, h.2]
  simp
def sliceR (ra : SE) (rl rh : EV → HP → Res (Option Int)) : SE := fun ρ h => (ra ρ h).bind fun x h => (rl ρ h).bind fun l h => (rh ρ h).bind fun u h => ofOpt ((dat1 h x).bind fun d => sliceD d l u) h
theorem PostE.bindO {σ : St} {F H F1 H1 : Hp} {A : List Addr} {h1 : HP} {Q : VK} {r : Res (Option Int)} {k : Option Int → HP → Res RV} (p : PostE W cl σ F H A Q (r.bind k)) (e : Ext F H A F1 H1 A) (R : Rl F1 H1 A h1)
    (Q' : Option Int → Hp → Prop) (i : ∀ x h2 F2 H2, Ext F1 H1 A F2 H2 A → Rl F2 H2 A h2 → PostE W cl σ F H A Q (k x h2) → Q' x H2) : PostO W cl σ F1 H1 A Q' r := by
  cases r with
  | ok x h2 => exact fun F2 H2 e2 R2 => i x h2 F2 H2 e2 R2 p
  | exc c h2 => exact fun F2 H2 e2 R2 => p F2 H2 (e.trans R e2) R2
  | bad => exact p
theorem pe_sliceC {lo hi : Option Expr} {p2 : Pos} {rl rh : EV → HP → Res (Option Int)} (ha : PE X a (tE W cl ra)) (hl : PO X lo (tO W cl rl)) (hh : PO X hi (tO W cl rh)) :
    PE X (.Subscript a (.Slice lo hi none p2) pos) (tE W cl (sliceR ra rl rh)) := by
  refine PE.imp (pe_slice (SlR.or sl_list sl_tupA) ha hl hh) fun σ H Q p => ?_
  obtain ⟨F, A, h, ρ, R, E, p⟩ := p
  refine ⟨F, A, h, ρ, R, E, PostE.bind (α := Unit) p _ fun x h1 _ F1 H1 v e1 R1 rv1 p1 => ?_⟩
  refine ⟨F1, A, h1, ρ, R1, E.mono e1, PostE.bindO p1 e1 R1 _ fun l h2 F2 H2 e2 R2 p2 => ?_⟩
  have e12 := e1.trans R1 e2
  refine ⟨F2, A, h2, ρ, R2, (E.mono e1).mono e2, PostE.bindO p2 e12 R2 _ fun u h3 F3 H3 e3 R3 p3 => ?_⟩
  have e13 := e12.trans R2 e3
  have p3' := p3.after e13 R3
  obtain ⟨r, er, p4⟩ := p3'.opt
  obtain ⟨d, k1, er⟩ := opt_bind er
  have rv := (rv1.mono e2).mono e3
  cases d with
  | list xs =>
    have er' : RV.new (cutD xs l u) = r := Option.some.inj er
    subst er'
    obtain ⟨a1, vs, rfl, q1, q2⟩ := rv.elems R3 k1 rfl
    rcases q2 with ⟨_, q2⟩ | ⟨z, _⟩
    · exact .inl ⟨a1, vs, rfl, .inl q2, p4.newL R3 (cut_dq q1 l u)⟩
    · cases z
  | tuple xs =>
    have er' : RV.v (.dat (.tuple (cutD xs l u))) = r := Option.some.inj er
    subst er'
    have t1 := rv.tup k1
    obtain ⟨a1, vs, rfl, q2, q1⟩ := t1.tup_inv
    refine .inr ⟨a1, vs, rfl, .inl (Rd.mono R3.sub q2), fun hw => ?_, fun _ => p4.newT R3 (cut_dq q1 l u)⟩
    rw [q1.length] at hw
    rw [cut_whole hw] at p4
    exact p4.atom R3 t1
  | _ => cases er
/-! ### isinstance -/
def tyName : TY → String
  | .int => "int" | .bool => "bool" | .tuple => "tuple" | .list => "list" | .str => "str"
theorem boot_ty (t : TY) : bootBuiltins (Str.ofString (tyName t)) = some (.type (tyName t)) := by cases t <;> decide +kernel
theorem isi_dq {H : Hp} {v : V} {d : PyData} (q : Dq H v d) (t : TY) : ∃ u, TyX X.K H v u ∧ PySem.W.kitOne X.K u (.type (tyName t)) = some (isinstD t d) := by
  cases q with
  | non => exact ⟨_, .base .non, by cases t <;> with_unfolding_all rfl⟩
  | bl b => exact ⟨_, .base (.bl b), by cases t <;> with_unfolding_all rfl⟩
  | int i => exact ⟨_, .base (.int i), by cases t <;> with_unfolding_all rfl⟩
  | str x => exact ⟨_, .base (.str x), by cases t <;> with_unfolding_all rfl⟩
  | lst r _ =>
    rcases r with r | ⟨o, r⟩
    · exact ⟨_, .base (.lst r), by cases t <;> with_unfolding_all rfl⟩
    · exact ⟨_, .base (.frz r), by cases t <;> with_unfolding_all rfl⟩
  | tup r _ =>
    rcases r with r | ⟨o, r⟩
    · exact ⟨_, .base (.tup r), by cases t <;> with_unfolding_all rfl⟩
    · exact ⟨_, .fTuple r, by cases t <;> with_unfolding_all rfl⟩
def isiR (t : TY) (ra : SE) : SE := fun ρ h => (ra ρ h).bind fun x h => ofOpt ((dat1 h x).map fun d => .v (.dat (.bool (isinstD t d)))) h
theorem pe_isiC (t : TY) {p p2 : Pos} (hg : Gl X "isinstance") (hm : X.mg "isinstance" = none) (hg2 : Gl X (Str.ofString (tyName t))) (hm2 : X.mg (Str.ofString (tyName t)) = none) (ha0 : noSet a = true) (ha : PE X a (tE W cl ra)) :
    PE X (.Call (.Name "isinstance" p) [a, .Name (Str.ofString (tyName t)) p2] [] pos) (tE W cl (isiR t ra)) := by
  have h2 : PE X (.Name (Str.ofString (tyName t)) p2) (tC (.ty (tyName t))) := pe_bltn hg2 hm2 (boot_ty t) rfl (by cases t <;> decide) (by cases t <;> decide)
  refine PE.imp (pe_callB call_isi hg hm boot_isinstance (pa_cons ha (pa_cons h2 pa_nil) (star1 ha0)) (by decide) (by decide) (star1 ha0) rfl) fun σ H Q p => ?_
  refine tE_one (r := fun x H1 Q => rIsi X.K [x, .ty (tyName t)] H1 Q) (fun F H A h x vx H0 R rx p => ?_) p
  obtain ⟨r, er, p⟩ := p.opt
  obtain ⟨d, e1, rfl⟩ := opt_map er
  obtain ⟨u, k1, k2⟩ := isi_dq (X := X) (rx.dq R e1) t
  exact ⟨vx, .ty (tyName t), u, .type (tyName t), _, rfl, .ty _, k1, k2, p.atom R (.bl _)⟩
/-! ### min, max of two -/
def b2R (mx : Bool) (ra rb : SE) : SE := fun ρ h => (ra ρ h).bind fun x h => (rb ρ h).bind fun y h =>
  ofOpt ((dat1 h x).bind fun d => (intOf d).bind fun i => (dat1 h y).bind fun e => (intOf e).map fun j => .v (.dat (.int (if mx then (if j > i then j else i) else (if j < i then j else i))))) h
theorem pe_b2C (mx : Bool) {p : Pos} (hc : X.calm = true) (hg : Gl X (Str.ofString (if mx then "max" else "min"))) (hm : X.mg (Str.ofString (if mx then "max" else "min")) = none) (ha0 : noSet a = true) (hb0 : noSet b = true) (ha : PE X a (tE W cl ra)) (hb : PE X b (tE W cl rb)) :
    PE X (.Call (.Name (Str.ofString (if mx then "max" else "min")) p) [a, b] [] pos) (tE W cl (b2R mx ra rb)) := by
  have two : ∀ {r' : List V → Hp → VK → Prop} {σ : St} {H : Hp} {Q : VK}, (∀ i j H Q, Q (.int (if mx then (if j > i then j else i) else (if j < i then j else i))) H → r' [.int i, .int j] H Q) → tE W cl (b2R mx ra rb) σ H Q →
      tOp (fun x y H Q => r' [x, y] H Q) (tE W cl ra) (tE W cl rb) σ H Q := fun {r' σ H Q} hr p => by
    refine tE_two (fun F H A h x y vx vy H0 R rx ry p => ?_) p
    obtain ⟨r, er, p⟩ := p.opt
    obtain ⟨d, e1, er⟩ := opt_bind er
    obtain ⟨i, ei, er⟩ := opt_bind er
    obtain ⟨e, e2, er⟩ := opt_bind er
    obtain ⟨j, ej, rfl⟩ := opt_map er
    cases d with
    | int i' =>
      have : i' = i := Option.some.inj ei
      subst this
      cases e with
      | int j' =>
        have : j' = j := Option.some.inj ej
        subst this
        rw [(rx.dq R e1).int_inv, (ry.dq R e2).int_inv]
        exact hr i' j' H Q (p.atom R (.int _))
      | _ => cases ej
    | _ => cases ei
  cases mx with
  | true => exact PE.imp (pe_callB (call_max2 hc) hg hm boot_max (pa_cons ha (pa_cons hb pa_nil (star1 hb0)) (star1 ha0)) (by decide) (by decide) (star1 ha0) (noAny1 hb0)) fun σ H Q p => two (r' := fun xs H Q => ∃ i j, xs = [V.int i, V.int j] ∧ Q (V.int (if j > i then j else i)) H) (fun i j H Q q => ⟨i, j, rfl, q⟩) p
  | false => exact PE.imp (pe_callB (call_min2 hc) hg hm boot_min (pa_cons ha (pa_cons hb pa_nil (star1 hb0)) (star1 ha0)) (by decide) (by decide) (star1 ha0) (noAny1 hb0)) fun σ H Q p => two (r' := fun xs H Q => ∃ i j, xs = [V.int i, V.int j] ∧ Q (V.int (if j < i then j else i)) H) (fun i j H Q q => ⟨i, j, rfl, q⟩) p
end
end TB
set_option maxHeartbeats 4000000
namespace TB
open PySem L2
/-! ### rows of values -/
inductive VRs (F : Hp) (A : List Addr) : List Vl → List V → Prop
  | nil : VRs F A [] []
  | cons {x : Vl} {v : V} {xs : List Vl} {vs : List V} : VR F A x v → VRs F A xs vs → VRs F A (x :: xs) (v :: vs)
section
variable {F H F' H' F1 H1 F2 H2 : Hp} {A A' : List Addr} {h h' h1 h2 : HP} {ρ : EV} {σ : St} {W : WX} {cl : Nat → Value}
theorem VRs.mono : ∀ {xs : List Vl} {vs : List V}, VRs F A xs vs → Ext F H A F' H' A' → VRs F' A' xs vs
  | _, _, .nil, _ => .nil
  | _, _, .cons a b, e => .cons (a.mono e) (VRs.mono b e)
theorem VRs.length : ∀ {xs : List Vl} {vs : List V}, VRs F A xs vs → xs.length = vs.length
  | _, _, .nil => rfl
  | _, _, .cons _ b => by rw [List.length_cons, List.length_cons, VRs.length b]
theorem VRs.dats : ∀ {xs : List Vl} {vs : List V} {ds : List PyData}, VRs F A xs vs → allDat xs = some ds → DqAll F vs ds
  | _, _, _, .nil, e => by
    have := Option.some.inj e
    subst this
    exact .nil
  | _, _, _, .cons (x := x) a b, e => by
    cases x with
    | dat d =>
      obtain ⟨ds', e1, rfl⟩ := opt_map (show (allDat _).map (d :: ·) = some _ from e)
      exact .cons a (VRs.dats b e1)
    | loc n => cases e
def PostA (W : WX) (cl : Nat → Value) (σ : St) (F H : Hp) (A : List Addr) (Q : List V → Hp → Prop) : Res (List Vl) → Prop
  | .ok xs h' => ∀ F' H' vs, Ext F H A F' H' A → Rl F' H' A h' → VRs F' A xs vs → Q vs H'
  | .exc c h' => ∀ F' H', Ext F H A F' H' A → Rl F' H' A h' → W (cl c) none σ H'
  | .bad => False
abbrev SAs := EV → HP → Res (List Vl)
def tAs (W : WX) (cl : Nat → Value) (r : SAs) : TA := fun σ H Q => ∃ F A h ρ, Rl F H A h ∧ EnvR F A ρ σ ∧ PostA W cl σ F H A Q (r ρ h)
theorem PostA.after {Q : List V → Hp → Prop} {r : Res (List Vl)} (p : PostA W cl σ F H A Q r) (e : Ext F H A F1 H1 A) (R : Rl F1 H1 A h1) : PostA W cl σ F1 H1 A Q r := by
  cases r with
  | ok x h2 => exact fun F2 H2 vs e2 R2 => p F2 H2 vs (e.trans R e2) R2
  | exc c h2 => exact fun F2 H2 e2 R2 => p F2 H2 (e.trans R e2) R2
  | bad => exact p
end
def nilR : SAs := fun _ h => .ok [] h
def consR (ra : SE) (rs : SAs) : SAs := fun ρ h => (ra ρ h).bind fun x h => (rs ρ h).bind fun xs h => .ok (settle x :: xs) h
section
variable {X : Cx} {W : WX} {cl : Nat → Value} {pos : Pos} {a b c : Expr} {es : List Expr} {ra rb rc : SE} {rs : SAs}
theorem pa_nilC : PA X [] (tAs W cl nilR) := PA.imp pa_nil fun σ H Q ⟨F, A, h, ρ, R, E, p⟩ => p F H [] Ext.refl R .nil
theorem pa_consC (ha0 : noSet a = true) (ha : PE X a (tE W cl ra)) (hs : PA X es (tAs W cl rs)) : PA X (a :: es) (tAs W cl (consR ra rs)) := by
  refine PA.imp (pa_cons ha hs (star1 ha0)) fun σ H Q p => ?_
  obtain ⟨F, A, h, ρ, R, E, p⟩ := p
  refine ⟨F, A, h, ρ, R, E, ?_⟩
  unfold consR at p
  cases er : ra ρ h with
  | bad => rw [er] at p; exact p
  | exc c h1 => rw [er] at p; exact p
  | ok x h1 =>
    rw [er, Res.bind_ok] at p
    intro F1 H1 v e1 R1 rv
    obtain ⟨F2, e2, R2, fz, nw, q⟩ := rv.settle e1 R1
    refine ⟨F2, A, h1, ρ, R2, E.mono e2, ?_⟩
    cases es' : rs ρ h1 with
    | bad => rw [es'] at p; exact p
    | exc c h2 => rw [es'] at p; exact fun F3 H3 e3 R3 => p F3 H3 (e2.trans R2 e3) R3
    | ok xs h2 =>
      rw [es', Res.bind_ok] at p
      intro F3 H3 vs e3 R3 qs
      exact p F3 H3 (v :: vs) (e2.trans R2 e3) R3 (.cons (q.mono e3) qs)
/-! ### displays -/
theorem tE_args {r : List V → Hp → VK → Prop} {f : List Vl → HP → Res RV} {σ : St} {H : Hp} {Q : VK}
    (hop : ∀ (F H A h) (xs : List Vl) (vs : List V), Rl F H A h → VRs F A xs vs → PostE W cl σ F H A Q (f xs h) → r vs H Q)
    (p : tE W cl (fun ρ h => (rs ρ h).bind fun xs h => f xs h) σ H Q) : tAs W cl rs σ H (fun vs H1 => r vs H1 Q) := by
  obtain ⟨F, A, h, ρ, R, E, p⟩ := p
  refine ⟨F, A, h, ρ, R, E, ?_⟩
  dsimp only at p
  cases er : rs ρ h with
  | bad => rw [er] at p; exact p
  | exc c h1 => rw [er] at p; exact p
  | ok xs h1 =>
    rw [er, Res.bind_ok] at p
    intro F1 H1 vs e1 R1 q
    exact hop F1 H1 A h1 xs vs R1 q (p.after e1 R1)
def tupR (rs : SAs) : SE := fun ρ h => (rs ρ h).bind fun xs h => ofOpt ((allDat xs).map fun ds => .v (.dat (.tuple ds))) h
def lstR (rs : SAs) : SE := fun ρ h => (rs ρ h).bind fun xs h => ofOpt ((allDat xs).map .new) h
theorem allDat_len : ∀ {xs : List Vl} {ds : List PyData}, allDat xs = some ds → ds.length = xs.length
  | [], _, e => by
    have := Option.some.inj e
    subst this
    rfl
  | .dat d :: xs, _, e => by
    obtain ⟨ds', e1, rfl⟩ := opt_map (show (allDat xs).map (d :: ·) = some _ from e)
    rw [List.length_cons, List.length_cons, allDat_len e1]
  | .loc n :: xs, _, e => by cases e
theorem pe_tupC {k : Nat} (hl : ∀ ρ h xs h', rs ρ h = .ok xs h' → xs.length ≤ LIM) (hs : PA X es (tAs W cl rs)) : PE X (.Tuple es k pos) (tE W cl (tupR rs)) := by
  refine PE.imp (pe_tup hs) fun σ H Q p => ?_
  obtain ⟨F, A, h, ρ, R, E, p⟩ := p
  refine ⟨F, A, h, ρ, R, E, ?_⟩
  unfold tupR at p
  cases er : rs ρ h with
  | bad => rw [er] at p; exact p
  | exc c h1 => rw [er] at p; exact p
  | ok xs h1 =>
    rw [er, Res.bind_ok] at p
    intro F1 H1 vs e1 R1 q
    have p' := p.after e1 R1
    obtain ⟨r, er2, p'⟩ := p'.opt
    obtain ⟨ds, ed, rfl⟩ := opt_map er2
    have := hl _ _ _ _ er
    have := lim_line
    have := q.length
    exact ⟨by omega, p'.newT R1 (q.dats ed)⟩
theorem pe_lstC (hl : ∀ ρ h xs h', rs ρ h = .ok xs h' → xs.length ≤ LIM) (hs : PA X es (tAs W cl rs)) : PE X (.List es pos) (tE W cl (lstR rs)) := by
  refine PE.imp (pe_lst hs) fun σ H Q p => ?_
  obtain ⟨F, A, h, ρ, R, E, p⟩ := p
  refine ⟨F, A, h, ρ, R, E, ?_⟩
  unfold lstR at p
  cases er : rs ρ h with
  | bad => rw [er] at p; exact p
  | exc c h1 => rw [er] at p; exact p
  | ok xs h1 =>
    rw [er, Res.bind_ok] at p
    intro F1 H1 vs e1 R1 q
    have p' := p.after e1 R1
    obtain ⟨r, er2, p'⟩ := p'.opt
    obtain ⟨ds, ed, rfl⟩ := opt_map er2
    have := hl _ _ _ _ er
    have := lim_line
    have := q.length
    exact ⟨by omega, p'.newL R1 (q.dats ed)⟩
/-! ### names and constants -/
theorem pe_varC {i : Nat} {x : Str} (hN : X.N[i]? = some x) (hv : Vis X.env.scope x) (hd : (x == ("__debug__" : Str)) = false) (hcd : (x == ("__classdict__" : Str)) = false) :
    PE X (.Name x pos) (tE W cl fun ρ h => ofOpt ((getV ρ i).map .v) h) := by
  refine PE.imp (pe_var hN hv hd hcd) fun σ H Q ⟨F, A, h, ρ, R, E, p⟩ => ?_
  obtain ⟨r, er, p⟩ := p.opt
  obtain ⟨y, ey, rfl⟩ := opt_map er
  unfold getV at ey
  cases e2 : ρ[i]? with
  | none => rw [e2] at ey; cases ey
  | some o =>
    cases o with
    | none => rw [e2] at ey; cases ey
    | some z =>
      rw [e2] at ey
      have : z = y := Option.some.inj ey
      subst this
      obtain ⟨v, k1, k2⟩ := E.2 i z e2
      exact ⟨v, k1, p F H v Ext.refl R k2⟩
theorem pe_cstC {e : Expr} {v : V} {d : PyData} (hp : PE X e (tC v)) (hd : ∀ F, Dq F v d) : PE X e (tE W cl fun _ h => .ok (.v (.dat d)) h) :=
  PE.imp hp fun σ H Q ⟨F, A, h, ρ, R, E, p⟩ => p.atom R (hd F)
/-! ### x[::-1] of a list -/
theorem pe_revC {k : Nat} {p1 p2 p3 : Pos} (ha : PE X a (tE W cl ra)) : PE X (.Subscript a (.Slice none none (some (.UnaryOp .USub (.Constant (.int 1) k p1) p2)) p3) pos) (tE W cl fun ρ h => (ra ρ h).bind fun x h => ofOpt ((dat1 h x).bind revD) h) := by
  refine PE.imp (pe_revL ha) fun σ H Q p => ?_
  refine tE_one (r := fun x H1 Q => ∃ a xs, x = .ref a ∧ SqL X.K H1 a xs ∧ ∀ p, H1 p = none → Q (.ref p) (upd H1 p (.lst xs.reverse))) (fun F H A h x vx H0 R rx p => ?_) p
  obtain ⟨r, er, p⟩ := p.opt
  obtain ⟨d, e1, er⟩ := opt_bind er
  cases d with
  | list xs =>
    have er' : RV.new xs.reverse = r := Option.some.inj er
    subst er'
    obtain ⟨a1, vs, rfl, q1, q2⟩ := rx.elems R e1 rfl
    rcases q2 with ⟨_, q2⟩ | ⟨z, _⟩
    · exact ⟨a1, vs, rfl, .inl q2, p.newL R q1.rev⟩
    · cases z
  | _ => cases er
end
/-! ### calls of defs -/
/-- what a def promises: its run -/
def PostC (cl : Nat → Value) (F H : Hp) (A : List Addr) (Q : VK) (E : XK) : Res RV → Prop
  | .ok r h' => ∀ F' H' v, Ext F H A F' H' A → Rl F' H' A h' → RVR H F' H' A r v → Q v H'
  | .exc c h' => ∀ F' H', Ext F H A F' H' A → Rl F' H' A h' → E (cl c) none H'
  | .bad => False
def spOf (cl : Nat → Value) (np : Nat) (r : List Vl → HP → Res RV) : Sp := fun vs H Q E => vs.length = np ∧ ∃ F A h xs, Rl F H A h ∧ VRs F A xs vs ∧ PostC cl F H A Q E (r xs h)
section
variable {X : Cx} {W : WX} {cl : Nat → Value} {pos : Pos} {a b c : Expr} {es : List Expr} {ra rb rc : SE} {rs : SAs}
theorem noAnys : ∀ {es : List Expr} {env : Env} {pos : Pos}, es.all noSet = true → (backTo pos (starEach es env)).any (·.1) = false
  | [], _, _, _ => rfl
  | e :: es, env, pos, h => by
    rw [List.all_cons, Bool.and_eq_true] at h
    rw [star1 h.1]
    show (false || (backTo pos (starEach es env)).any (·.1)) = false
    rw [noAnys h.2]
    rfl
theorem pe_callC {nm : Str} {p : Pos} {f : Addr} {fd : FuncData} {ps : List Str} {k np : Nat} {r : List Vl → HP → Res RV} (Fn : FnOk X.prog X.w X.K X.mg X.base (L2.CX X.prog X.w) k f fd ps (spOf cl np r)) (hr : Room k X.A) (hg : Gl X nm) (hm : X.mg nm = some (.ref f))
    (hk : PySem.W.keepIn X.K (.ref f) = true) (hb : Binds X.K fd ps []) (tk : Takes X W) (hdb : (nm == ("__debug__" : Str)) = false) (hes : (a :: es).all noSet = true) (hl : ∀ ρ h xs h', rs ρ h = .ok xs h' → xs.length = np)
    (hs : PA X (a :: es) (tAs W cl rs)) : PE X (.Call (.Name nm p) (a :: es) [] pos) (tE W cl fun ρ h => (rs ρ h).bind fun xs h => r xs h) := by
  have hes' := hes
  rw [List.all_cons, Bool.and_eq_true] at hes'
  refine PE.imp (pe_callS (E := WE W) Fn hr hg hm hk hb (passAt tk) hs hdb (star1 hes'.1) (noAnys hes'.2)) fun σ H Q p => ?_
  obtain ⟨F, A, h, ρ, R, E, p⟩ := p
  refine ⟨F, A, h, ρ, R, E, ?_⟩
  dsimp only at p
  cases er : rs ρ h with
  | bad => rw [er] at p; exact p
  | exc c h1 => rw [er] at p; exact p
  | ok xs h1 =>
    rw [er, Res.bind_ok] at p
    intro F1 H1 vs e1 R1 q
    have p' := p.after e1 R1
    refine ⟨by rw [← q.length]; exact hl _ _ _ _ er, F1, A, h1, xs, R1, q, ?_⟩
    cases er2 : r xs h1 with
    | bad => rw [er2] at p'; exact p'
    | exc c h2 => rw [er2] at p'; exact p'
    | ok y h2 => rw [er2] at p'; exact p'
theorem pe_call0S {nm : Str} {p : Pos} {f : Addr} {fd : FuncData} {ps : List Str} {k : Nat} {sp : Sp} {E : St → XK} (Fn : FnOk X.prog X.w X.K X.mg X.base (L2.CX X.prog X.w) k f fd ps sp) (hr : Room k X.A) (hg : Gl X nm) (hm : X.mg nm = some (.ref f))
    (hk : PySem.W.keepIn X.K (.ref f) = true) (hb : Binds X.K fd ps []) (hx : ∀ σ, PassesAt (L2.CX X.prog X.w) X σ (E σ)) (hdb : (nm == ("__debug__" : Str)) = false) : PE X (.Call (.Name nm p) [] [] pos) (fun σ H Q => sp [] H Q (E σ)) := by
  refine ⟨fun pins s σ H Q I h => ?_⟩
  refine wpAny_Call_Name_kw (ld_glob I hg hm ?_ hdb)
  exact PySem.W.callWith_K0 I.kIn hk (run_fnS Fn hr hb (hx σ) I .nil h)
theorem pe_call0C {nm : Str} {p : Pos} {f : Addr} {fd : FuncData} {ps : List Str} {k : Nat} {r : List Vl → HP → Res RV} (Fn : FnOk X.prog X.w X.K X.mg X.base (L2.CX X.prog X.w) k f fd ps (spOf cl 0 r)) (hr : Room k X.A) (hg : Gl X nm) (hm : X.mg nm = some (.ref f))
    (hk : PySem.W.keepIn X.K (.ref f) = true) (hb : Binds X.K fd ps []) (tk : Takes X W) (hdb : (nm == ("__debug__" : Str)) = false) : PE X (.Call (.Name nm p) [] [] pos) (tE W cl fun _ h => r [] h) := by
  refine PE.imp (pe_call0S (E := WE W) Fn hr hg hm hk hb (passAt tk) hdb) fun σ H Q p => ?_
  obtain ⟨F, A, h, ρ, R, E, p⟩ := p
  refine ⟨rfl, F, A, h, [], R, .nil, ?_⟩
  dsimp only at p
  cases er2 : r [] h with
  | bad => rw [er2] at p; exact p
  | exc c h2 => rw [er2] at p; exact p
  | ok y h2 => rw [er2] at p; exact p
/-! ### methods of lists -/
theorem ty_list {H : Hp} {a : Addr} {vs : List V} (r : Rd H a (.lst vs)) : tyV X.K "list" (.ref a) H := .inl ⟨rfl, vs, .inl r⟩
end
end TB
set_option maxHeartbeats 4000000
namespace TB
open PySem L2
section
open AutoSeq1 (wpAny_loadPart')
open MeetsSeq MeetsSeq2 MeetsSeq3 SeqRoads2 AutoSeq1
/-- extending by a tuple, whatever its object bears besides -/
theorem ext_tup (l : Addr) (items : Array Value) (n : Nat) (b : Addr) (o : Obj) (items2 : Array Value) (n2 : Nat) (hc : o.cls = .type "tuple") (hd : o.data = .seq items2 n2)
    (hs0 : ¬(!items.isEmpty && Builtin.List.listTooLong (items.size + items2.size)) = true) (hs1 : items.size ≤ sizeLine) (hs2 : items.size + items2.size ≤ sizeLine + 1) :
    Meets (Builtin.«list.extend» ⟨[.ref l, .ref b], []⟩) (fun _ R s => s.heap.get? l = some { cls := .type "list", dict := none, data := .seq items n, slots := #[] } ∧ s.heap.get? b = some o ∧ R (.ok (.ret Value.none)) { s with heap := s.heap.update l (Obj.mapSeq fun x => x ++ items2), toks := s.toks }) :=
  .of_wp fun prog w A R s h => by
    obtain ⟨cls, dict, data, slots⟩ := o
    simp only at hc hd
    subst hc hd
    obtain ⟨hp, g, d, tk, os⟩ := s
    obtain ⟨hl, hb, h⟩ := h
    have f1 := idx_int
    have f2 := sub_tuple_tuple
    have f3 := sub_list_list
    have f4 := sub_tuple_list
    have f5 := sub_list_tuple
    have hz' : (items ++ items2).size ≤ sizeLine + 1 := by rw [Array.size_append]; exact hs2
    wp_walk using (wpAny_updateSeq hl rfl (hz := hs1) (_hz' := hz')), wpAny_loadPart' hl, wpAny_loadPart' hb
    exact ⟨_, rfl, h⟩
end
section
variable {X : Cx} {W : WX} {cl : Nat → Value} {pos apos : Pos} {o a : Expr} {ra ro : SE}
def rExtS : V → List V → Hp → VK → Prop := fun x vs H Q => ∃ l b xs zs, x = .ref l ∧ vs = [.ref b] ∧ H l = some (.lst xs) ∧ (Rd H b (.lst zs) ∨ Rd H b (.tup zs)) ∧ xs.length + zs.length ≤ sizeLine ∧ Q .non (upd H l (.lst (xs ++ zs)))
theorem mt_extS : MtR X "list.extend" rExtS := by
  intro pins s σ H x vs v us Q I rx rv ⟨l, b, xs, zs, ex, evs, hH, hB, hz, q⟩
  subst ex; subst evs
  cases rx
  obtain ⟨u, eu, ru⟩ := rv.one
  subst eu
  cases ru
  obtain ⟨z, its, n, r, hl, e⟩ := I.lstM hH
  rcases hB with hB | hB
  · obtain ⟨z2, its2, n2, r2, e2⟩ := hB.ok I.hok
    have l2 := r2.length
    have hsz : its.toArray.size + its2.toArray.size ≤ sizeLine := by rw [List.size_toArray, List.size_toArray]; omega
    have hlong : ¬ (!its.toArray.isEmpty && Builtin.List.listTooLong (its.toArray.size + its2.toArray.size)) = true := by
      rw [notLongL hsz, Bool.and_false]; exact Bool.false_ne_true
    refine call_meets F.slot_list_extend ⟨_, e, rfl⟩ F.entry_list_extend (F.args_list_extend_2 _ _) (AutoSeq1.list_extend_list_list_0 l its.toArray n b its2.toArray n2 hlong (by rw [List.size_toArray]; omega) (by omega)) ⟨e, e2, ?_⟩
    refine ⟨.non, _, I.lset (its' := its ++ its2) hH e (by simp) (r.append r2) ?_, rfl, q⟩
    rw [List.length_append]; omega
  · obtain ⟨z2, its2, r2, ot, e2, hc, n2, hd⟩ := hB.ok I.hok
    have l2 := r2.length
    have hsz : its.toArray.size + its2.toArray.size ≤ sizeLine := by rw [List.size_toArray, List.size_toArray]; omega
    have hlong : ¬ (!its.toArray.isEmpty && Builtin.List.listTooLong (its.toArray.size + its2.toArray.size)) = true := by
      rw [notLongL hsz, Bool.and_false]; exact Bool.false_ne_true
    refine call_meets F.slot_list_extend ⟨_, e, rfl⟩ F.entry_list_extend (F.args_list_extend_2 _ _) (ext_tup l its.toArray n b ot its2.toArray n2 hc hd hlong (by rw [List.size_toArray]; omega) (by omega)) ⟨e, e2, ?_⟩
    refine ⟨.non, _, I.lset (its' := its ++ its2) hH e (by simp) (r.append r2) ?_, rfl, q⟩
    rw [List.length_append]; omega
theorem nodup_ix' {N : List Addr} (hN : N.Nodup) {i j : Nat} {x : Addr} (a : N[i]? = some x) (b : N[j]? = some x) : i = j := by
  obtain ⟨h1, e1⟩ := List.getElem?_eq_some_iff.mp a
  obtain ⟨h2, e2⟩ := List.getElem?_eq_some_iff.mp b
  exact (List.getElem_inj hN).mp (e1.trans e2.symm)
/-- a place of the local heap is written -/
theorem Rl.put {F H : Hp} {A : List Addr} {h : HP} {n : Nat} {a : Addr} {ds : List PyData} {vs : List V} (R : Rl F H A h) (ha : A[n]? = some a) (q : DqAll F vs ds) : Rl F (upd H a (.lst vs)) A (h.set n ds) ∧ Ext F H A F (upd H a (.lst vs)) A := by
  have hm : a ∈ A := List.mem_of_getElem? ha
  refine ⟨⟨fun b o e => ?_, R.nd, by rw [List.length_set]; exact R.len, R.off, fun m b es q1 q2 => ?_⟩, ⟨fun _ _ e => e, ⟨[], by simp, fun _ hb => absurd hb (by simp)⟩, fun b o e hb => ?_, fun _ e => .inl e⟩⟩
  · have hb : b ≠ a := fun z => by rw [z, R.off a hm] at e; cases e
    rw [upd_ne hb]; exact R.sub b o e
  · by_cases hmn : m = n
    · subst hmn
      rw [ha] at q1
      cases q1
      obtain ⟨hlt, _⟩ := List.getElem?_eq_some_iff.mp ha
      rw [List.getElem?_set_self (by rw [← R.len]; exact hlt)] at q2
      cases q2
      exact ⟨vs, upd_same, q⟩
    · rw [List.getElem?_set_ne (Ne.symm hmn)] at q2
      obtain ⟨ws, e1, e2⟩ := R.cell m b es q1 q2
      have hb : b ≠ a := fun z => hmn (nodup_ix' R.nd q1 (z ▸ ha))
      exact ⟨ws, by rw [upd_ne hb]; exact e1, e2⟩
  · exact (upd_ne (fun z : b = a => hb (z ▸ hm))).trans e
def mtName : MT → Str
  | .append => "append" | .extend => "extend"
def mtId : MT → String
  | .append => "list.append" | .extend => "list.extend"
def methR (m : MT) (ro ra : SE) : SE := fun ρ h => (ro ρ h).bind fun x h => match locOf x with
  | some n => (ra ρ h).bind fun y h => (ofOpt (methD m h n y) h).bind fun h' _ => .ok (.v (.dat .none)) h'
  | none => .bad
theorem loc_inv {x : RV} {n : Nat} (e : locOf x = some n) : x = .v (.loc n) := by
  cases x with
  | v x =>
    cases x with
    | dat d => cases e
    | loc m => have := Option.some.inj e; subst this; rfl
  | new ds => cases e
def noCall0 : Expr → Bool
  | .Call (.Name _ _) [] [] _ => false
  | _ => true
theorem base0 {o : Expr} {nm : Str} {env : Env} (hs : noCall0 o = true) (w : Sem Value) : attributeBase o nm env w = w := by
  unfold attributeBase
  split
  · cases hs
  · rfl
theorem pe_methC (m : MT) (ho0 : noCall0 o = true) (ha0 : noSet a = true) (hline : (apos.endLine == pos.line) = true) (ho : PE X o (tE W cl ro)) (ha : PE X a (tE W cl ra)) :
    PE X (.Call (.Attribute o (mtName m) apos) [a] [] pos) (tE W cl (methR m ro ra)) := by
  have few : ((backTo pos (starEach [a] X.env)).all (fun x => !x.1) && (backToKw pos (keywordEach [] X.env)).all (fun x => x.1.isSome) && decide ([a].length + ([] : List Keyword).length + (if ([] : List Keyword).isEmpty then 0 else 1) < 30)) = true := by
    rw [star1 ha0]; rfl
  cases m with
  | append =>
    refine PE.imp (pe_bm PySem.F.plainAttrs_list PySem.F.slot_list_append PySem.F.type_list_append mt_append ho (pa_cons ha pa_nil (star1 ha0)) (base0 ho0 _) few hline (star1 ha0) rfl) fun σ H Q p => ?_
    obtain ⟨F, A, h, ρ, R, E, p⟩ := p
    refine ⟨F, A, h, ρ, R, E, PostE.bind (α := Unit) p _ fun x h1 _ F1 H1 v e1 R1 rv1 p1 => ?_⟩
    cases el : locOf x with
    | none => rw [el] at p1; exact p1.elim
    | some n =>
      rw [el] at p1
      have := loc_inv el
      subst this
      have rv1' : VR F1 A (.loc n) v := rv1
      obtain ⟨ad, ea, rfl⟩ := id rv1'
      obtain ⟨vs, ev⟩ := R1.tracked (List.mem_of_getElem? ea)
      refine ⟨ty_list (.inl ev), F1, A, h1, ρ, R1, E.mono e1, PostE.bind (α := Unit) (p1.after e1 R1) _ fun y h2 _ F2 H2 w e2 R2 rv2 p2 => ?_⟩
      cases em : methD .append h2 n y with
      | none => rw [em] at p2; exact p2.elim
      | some h' =>
        rw [em] at p2
        obtain ⟨xs, k1, em⟩ := opt_bind em
        obtain ⟨d, k2, em⟩ := opt_bind em
        have em' : (if xs.length < LIM then some (h2.set n (xs ++ [d])) else none) = some h' := em
        by_cases hlt : xs.length < LIM
        · rw [if_pos hlt] at em'
          have := Option.some.inj em'
          subst this
          obtain ⟨F3, e3, R3, fz, nw, q⟩ := rv2.frz e2 R2 k2
          obtain ⟨ws, c1, c2⟩ := R3.cell n ad xs ea k1
          have hl := c2.length
          have hz := lim_line
          obtain ⟨R4, e4⟩ := R3.put ea (c2.app (.cons q .nil))
          refine ⟨ad, ws, w, rfl, rfl, c1, by omega, ?_⟩
          exact p2 F3 _ .non (e3.trans R3 e4) R4 .non
        · rw [if_neg hlt] at em'; cases em'
  | extend =>
    refine PE.imp (pe_bm PySem.F.plainAttrs_list PySem.F.slot_list_extend PySem.F.type_list_extend mt_extS ho (pa_cons ha pa_nil (star1 ha0)) (base0 ho0 _) few hline (star1 ha0) rfl) fun σ H Q p => ?_
    obtain ⟨F, A, h, ρ, R, E, p⟩ := p
    refine ⟨F, A, h, ρ, R, E, PostE.bind (α := Unit) p _ fun x h1 _ F1 H1 v e1 R1 rv1 p1 => ?_⟩
    cases el : locOf x with
    | none => rw [el] at p1; exact p1.elim
    | some n =>
      rw [el] at p1
      have := loc_inv el
      subst this
      have rv1' : VR F1 A (.loc n) v := rv1
      obtain ⟨ad, ea, rfl⟩ := id rv1'
      obtain ⟨vs, ev⟩ := R1.tracked (List.mem_of_getElem? ea)
      refine ⟨ty_list (.inl ev), F1, A, h1, ρ, R1, E.mono e1, PostE.bind (α := Unit) (p1.after e1 R1) _ fun y h2 _ F2 H2 w e2 R2 rv2 p2 => ?_⟩
      cases em : methD .extend h2 n y with
      | none => rw [em] at p2; exact p2.elim
      | some h' =>
        rw [em] at p2
        obtain ⟨xs, k1, em⟩ := opt_bind em
        obtain ⟨d, k2, em⟩ := opt_bind em
        obtain ⟨ys, k3, em⟩ := opt_bind em
        have em' : (if xs.length + ys.length ≤ LIM then some (h2.set n (xs ++ ys)) else none) = some h' := em
        by_cases hlt : xs.length + ys.length ≤ LIM
        · rw [if_pos hlt] at em'
          have := Option.some.inj em'
          subst this
          obtain ⟨b1, zs, rfl, q1, q2⟩ := rv2.elems R2 k2 k3
          obtain ⟨ws, c1, c2⟩ := R2.cell n ad xs ea k1
          have hl := c2.length
          have hl2 := q1.length
          have hz := lim_line
          obtain ⟨R4, e4⟩ := R2.put ea (c2.app q1)
          refine ⟨ad, b1, ws, zs, rfl, rfl, c1, ?_, by omega, p2 F2 _ .non (e2.trans R2 e4) R4 .non⟩
          rcases q2 with ⟨_, q2⟩ | ⟨_, q2⟩
          · exact .inl q2
          · exact .inr q2
        · rw [if_neg hlt] at em'; cases em'
def popR (ro : SE) : SE := fun ρ h => (ro ρ h).bind fun x h => match locOf x with
  | some n => (ofOpt (popD h n) h).bind fun p _ => .ok (.v (.dat p.1)) p.2
  | none => .bad
theorem dq_dropLast {F : Hp} {vs : List V} {ds : List PyData} (q : DqAll F vs ds) : DqAll F vs.dropLast ds.dropLast := by
  rw [List.dropLast_eq_take, List.dropLast_eq_take, q.length]
  exact q.take _
theorem pe_popC (ho0 : noCall0 o = true) (hline : (apos.endLine == pos.line) = true) (ho : PE X o (tE W cl ro)) : PE X (.Call (.Attribute o "pop" apos) [] [] pos) (tE W cl (popR ro)) := by
  refine PE.imp (pe_bm0 PySem.F.plainAttrs_list PySem.F.slot_list_pop PySem.F.type_list_pop mt_pop ho (base0 ho0 _) hline) fun σ H Q p => ?_
  obtain ⟨F, A, h, ρ, R, E, p⟩ := p
  refine ⟨F, A, h, ρ, R, E, PostE.bind (α := Unit) p _ fun x h1 _ F1 H1 v e1 R1 rv1 p1 => ?_⟩
  cases el : locOf x with
  | none => rw [el] at p1; exact p1.elim
  | some n =>
    rw [el] at p1
    have := loc_inv el
    subst this
    have rv1' : VR F1 A (.loc n) v := rv1
    obtain ⟨ad, ea, rfl⟩ := id rv1'
    obtain ⟨vs, ev⟩ := R1.tracked (List.mem_of_getElem? ea)
    refine ⟨ty_list (.inl ev), ?_⟩
    have p2 := p1.after e1 R1
    dsimp only at p2
    cases em : popD h1 n with
    | none => rw [em] at p2; exact p2.elim
    | some pr =>
      rw [em] at p2
      obtain ⟨xs, k1, em⟩ := opt_bind em
      obtain ⟨d, k2, rfl⟩ := opt_map em
      obtain ⟨ws, c1, c2⟩ := R1.cell n ad xs ea k1
      obtain ⟨z, hz, hd⟩ := c2.get k2
      obtain ⟨R4, e4⟩ := R1.put ea (dq_dropLast c2)
      refine ⟨ad, ws, z, rfl, rfl, c1, by rw [c2.length]; exact hz, ?_⟩
      exact p2 F1 _ z e4 R4 hd
theorem ix_seq {n : Nat} {i : Int} {j : Nat} (e : ixOf n i = some j) : seqIndex? i n = some j ∧ j < n := by
  unfold ixOf at e
  unfold seqIndex?
  by_cases h0 : 0 ≤ i
  · rw [if_pos h0] at e
    by_cases h1 : i < n
    · rw [if_pos h1] at e
      have := Option.some.inj e
      subst this
      exact ⟨by simp; omega, by omega⟩
    · rw [if_neg h1] at e; cases e
  · rw [if_neg h0] at e
    by_cases h1 : -(n : Int) ≤ i
    · rw [if_pos h1] at e
      have := Option.some.inj e
      subst this
      exact ⟨by simp; omega, by omega⟩
    · rw [if_neg h1] at e; cases e
theorem dq_erase {F : Hp} : ∀ {vs : List V} {ds : List PyData} (n : Nat), DqAll F vs ds → DqAll F (vs.eraseIdx n) (ds.eraseIdx n)
  | _, _, _, .nil => .nil
  | _, _, 0, .cons a b => b
  | _, _, n + 1, .cons a b => .cons a (dq_erase n b)
def popAtR (ro ra : SE) : SE := fun ρ h => (ro ρ h).bind fun x h => match locOf x with
  | some n => (ra ρ h).bind fun y h => (ofOpt ((dat1 h y).bind fun d => (intOf d).bind fun i => popAtD h n i) h).bind fun p _ => .ok (.v (.dat p.1)) p.2
  | none => .bad
theorem pe_popAtC (ho0 : noCall0 o = true) (ha0 : noSet a = true) (hline : (apos.endLine == pos.line) = true) (ho : PE X o (tE W cl ro)) (ha : PE X a (tE W cl ra)) : PE X (.Call (.Attribute o "pop" apos) [a] [] pos) (tE W cl (popAtR ro ra)) := by
  have few : ((backTo pos (starEach [a] X.env)).all (fun x => !x.1) && (backToKw pos (keywordEach [] X.env)).all (fun x => x.1.isSome) && decide ([a].length + ([] : List Keyword).length + (if ([] : List Keyword).isEmpty then 0 else 1) < 30)) = true := by
    rw [star1 ha0]; rfl
  refine PE.imp (pe_bm PySem.F.plainAttrs_list PySem.F.slot_list_pop PySem.F.type_list_pop mt_popAt ho (pa_cons ha pa_nil (star1 ha0)) (base0 ho0 _) few hline (star1 ha0) rfl) fun σ H Q p => ?_
  obtain ⟨F, A, h, ρ, R, E, p⟩ := p
  refine ⟨F, A, h, ρ, R, E, PostE.bind (α := Unit) p _ fun x h1 _ F1 H1 v e1 R1 rv1 p1 => ?_⟩
  cases el : locOf x with
  | none => rw [el] at p1; exact p1.elim
  | some n =>
    rw [el] at p1
    have := loc_inv el
    subst this
    have rv1' : VR F1 A (.loc n) v := rv1
    obtain ⟨ad, ea, rfl⟩ := id rv1'
    obtain ⟨vs, ev⟩ := R1.tracked (List.mem_of_getElem? ea)
    refine ⟨ty_list (.inl ev), F1, A, h1, ρ, R1, E.mono e1, PostE.bind (α := Unit) (p1.after e1 R1) _ fun y h2 _ F2 H2 w e2 R2 rv2 p2 => ?_⟩
    have p2 := p2.after e2 R2
    cases em : ((dat1 h2 y).bind fun d => (intOf d).bind fun i => popAtD h2 n i) with
    | none => rw [em] at p2; exact p2.elim
    | some pr =>
      rw [em] at p2
      obtain ⟨d, k1, em⟩ := opt_bind em
      obtain ⟨i, k2, em⟩ := opt_bind em
      unfold popAtD at em
      by_cases hsm : smallI i = true
      rotate_left
      · rw [if_pos (by simp [hsm])] at em; cases em
      rw [if_neg (by simp [hsm])] at em
      obtain ⟨xs, k3, em⟩ := opt_bind em
      obtain ⟨j, k4, em⟩ := opt_bind em
      obtain ⟨z, k5, rfl⟩ := opt_map em
      have : d = .int i := by
        cases d with
        | int j => have := Option.some.inj k2; subst this; rfl
        | _ => cases k2
      subst this
      have hw := (rv2.dq R2 k1).int_inv
      subst hw
      obtain ⟨ws, c1, c2⟩ := R2.cell n ad xs ea k3
      obtain ⟨q, hq, hd⟩ := c2.get k5
      obtain ⟨s1, s2⟩ := ix_seq k4
      obtain ⟨R4, e4⟩ := R2.put ea (dq_erase j c2)
      have hb : -1000000 ≤ i ∧ i ≤ 1000000 := of_decide_eq_true (show decide (-1000000 ≤ i ∧ i ≤ 1000000) = true from hsm)
      refine ⟨ad, ws, i, j, q, rfl, rfl, c1, by omega, by omega, by rw [c2.length]; exact s1, hq, ?_⟩
      exact p2 F2 _ q e4 R4 hd
end
end TB
set_option maxHeartbeats 4000000
namespace TB
open PySem L2
/-- an iterator that yields these data, whatever else happens -/
def ItOk (F : Hp) (J : It) (items : List PyData) : Prop := ∀ (F2 H2 : Hp) (A2 : List Addr) (h2 : HP), (∀ a o, F a = some o → F2 a = some o) → Rl F2 H2 A2 h2 → ∀ i : Nat,
  (∀ d, items[i]? = some d → J.go i H2 ∧ ∀ x H3, J.yld i H2 x H3 → ∃ F3, Ext F2 H2 A2 F3 H3 A2 ∧ Rl F3 H3 A2 h2 ∧ Dq F3 x d) ∧ (items.length ≤ i → J.stop i H2)
def PostI (W : WX) (cl : Nat → Value) (σ : St) (F H : Hp) (A : List Addr) (Q : It → Hp → Prop) : Res (List PyData) → Prop
  | .ok items h' => ∀ F' H' J, Ext F H A F' H' A → Rl F' H' A h' → ItOk F' J items → items.length ≤ sizeLine → Q J H'
  | .exc c h' => ∀ F' H', Ext F H A F' H' A → Rl F' H' A h' → W (cl c) none σ H'
  | .bad => False
abbrev SI := EV → HP → Res (List PyData)
def tIt (W : WX) (cl : Nat → Value) (r : SI) : TI := fun σ H Q => ∃ F A h ρ, Rl F H A h ∧ EnvR F A ρ σ ∧ PostI W cl σ F H A Q (r ρ h)
section
variable {X : Cx} {W : WX} {cl : Nat → Value} {pos : Pos} {tg a b : Expr} {ra rb : SE}
theorem PI.imp {e : Expr} {t t' : TI} (p : PI X tg e t) (i : ∀ σ H Q, t' σ H Q → t σ H Q) : PI X tg e t' := ⟨fun pins s σ H Q I h => p.run pins s σ H Q I (i σ H Q h)⟩
/-- a list or a tuple, walked -/
def iSeq (tl : TE) : TI := fun σ H R => tl σ H fun x H1 => ∃ a xs, x = .ref a ∧ ((Rd H1 a (.lst xs) ∧ (xs.length ≤ sizeLine → R (Itl X.K a) H1)) ∨ (Rd H1 a (.tup xs) ∧ (xs.length ≤ sizeLine → R (Itt X.K a) H1)))
theorem pi_seq {l : Expr} {tl : TE} (hl : PE X l tl) : PI X tg l (iSeq (X := X) tl) := by
  refine ⟨fun pins s σ H R I h => thn (hl.run pins s σ H _ I h) fun v s1 ⟨x, H1, I1, r1, a, xs, ex, q⟩ => ?_⟩
  subst ex
  cases r1
  have fp : ∀ b ∈ [s1.heap.objs.size], FpOk X pins H1 b := fun b hb => by
    rw [List.mem_singleton.mp hb]
    exact I1.fpOk (Nat.le_refl _) (I1.hok.fresh (Nat.le_refl _))
  rcases q with ⟨hq, q⟩ | ⟨hq, q⟩
  · obtain ⟨its, rv, p, hz⟩ := I1.list (.inl hq)
    exact wpAny_pyIter_list p.isList ⟨s1.heap.objs.size, [s1.heap.objs.size], _, _, H1, rfl, I1.kept (t' := s1.toks) (fun b o e => Heap.get?_push_of_some _ e), turn_list a _, ⟨_, Heap.get?_push_size _ rfl, rfl, rfl⟩, fp, q hz⟩
  · obtain ⟨its, rv, p, hz⟩ := I1.tuple (.inl hq)
    exact wpAny_pyIter_tuple (show s1.heap.IsTuple a its.toArray from p) ⟨s1.heap.objs.size, [s1.heap.objs.size], _, _, H1, rfl, I1.kept (t' := s1.toks) (fun b o e => Heap.get?_push_of_some _ e), turn_tuple a _, ⟨_, Heap.get?_push_size _ rfl, rfl, rfl⟩, fp, q hz⟩
theorem Rd.fun {H : Hp} {a : Addr} {xs ys : List V} (h1 : Rd H a (.lst xs)) (h2 : Rd H a (.lst ys)) : xs = ys := by
  rcases h1 with h1 | ⟨o, h1⟩ <;> rcases h2 with h2 | ⟨o2, h2⟩ <;> (rw [h1] at h2; cases h2 <;> rfl)
theorem ItOk.list {F : Hp} {a : Addr} {vs : List V} {ds : List PyData} (r : Rd F a (.lst vs)) (q : DqAll F vs ds) : ItOk F (Itl X.K a) ds := fun F2 H2 A2 h2 fz R i => by
  have r2 : Rd H2 a (.lst vs) := Rd.mono R.sub (Rd.mono fz r)
  refine ⟨fun d e => ?_, fun hl => ⟨vs, .inl r2, by rw [q.length]; exact hl⟩⟩
  obtain ⟨v, ev, qd⟩ := q.get e
  refine ⟨⟨vs, v, .inl r2, ev⟩, fun x H3 y => ?_⟩
  obtain ⟨rfl, hx⟩ := y
  have ex : v = x := Option.some.inj (ev.symm.trans (hx vs (.inl r2)))
  subst ex
  exact ⟨F2, Ext.refl, R, Dq.mono fz qd⟩
theorem ItOk.tuple {F : Hp} {a : Addr} {vs : List V} {ds : List PyData} (r : Rd F a (.tup vs)) (q : DqAll F vs ds) : ItOk F (Itt X.K a) ds := fun F2 H2 A2 h2 fz R i => by
  have r2 : Rd H2 a (.tup vs) := Rd.mono R.sub (Rd.mono fz r)
  refine ⟨fun d e => ?_, fun hl => ⟨vs, .inl r2, by rw [q.length]; exact hl⟩⟩
  obtain ⟨v, ev, qd⟩ := q.get e
  refine ⟨⟨vs, v, .inl r2, ev⟩, fun x H3 y => ?_⟩
  obtain ⟨rfl, hx⟩ := y
  have ex : v = x := Option.some.inj (ev.symm.trans (hx vs (.inl r2)))
  subst ex
  exact ⟨F2, Ext.refl, R, Dq.mono fz qd⟩
theorem ItOk.range {F : Hp} (lo hi : Int) : ItOk F (Itr lo (hi - lo).toNat) (rangeD lo hi) := fun F2 H2 A2 h2 fz R i => by
  have hl : (rangeD lo hi).length = (hi - lo).toNat := by unfold rangeD; rw [List.length_map, List.length_range]
  refine ⟨fun d e => ?_, fun h => by rw [hl] at h; exact h⟩
  have hi' : i < (hi - lo).toNat := by rw [← hl]; exact (List.getElem?_eq_some_iff.mp e).1
  refine ⟨hi', fun x H3 y => ?_⟩
  obtain ⟨rfl, rfl⟩ := y
  have : d = .int (lo + (i : Nat)) := by
    unfold rangeD at e
    rw [List.getElem?_map, List.getElem?_range hi'] at e
    exact (Option.some.inj e).symm
  subst this
  exact ⟨F2, Ext.refl, R, .int _⟩
def seqR (ra : SE) : SI := fun ρ h => (ra ρ h).bind fun x h => ofOpt ((asD x).bind itemsD) h
theorem PostI.bind {σ : St} {F H : Hp} {A : List Addr} {Q : It → Hp → Prop} {r : Res RV} {k : RV → HP → Res (List PyData)} (p : PostI W cl σ F H A Q (r.bind k))
    (Q' : VK) (i : ∀ x h1, r = .ok x h1 → ∀ F1 H1 v, Ext F H A F1 H1 A → Rl F1 H1 A h1 → RVR H F1 H1 A x v → PostI W cl σ F H A Q (k x h1) → Q' v H1) : PostE W cl σ F H A Q' r := by
  cases r with
  | ok x h1 => exact fun F1 H1 v e R rv => i x h1 rfl F1 H1 v e R rv p
  | exc c h1 => exact p
  | bad => exact p
theorem PostI.after {σ : St} {F H F1 H1 : Hp} {A : List Addr} {h1 : HP} {Q : It → Hp → Prop} {r : Res (List PyData)} (p : PostI W cl σ F H A Q r) (e : Ext F H A F1 H1 A) (R : Rl F1 H1 A h1) : PostI W cl σ F1 H1 A Q r := by
  cases r with
  | ok x h2 => exact fun F2 H2 J e2 R2 => p F2 H2 J (e.trans R e2) R2
  | exc c h2 => exact fun F2 H2 e2 R2 => p F2 H2 (e.trans R e2) R2
  | bad => exact p
theorem PostI.opt {σ : St} {F H : Hp} {A : List Addr} {h : HP} {Q : It → Hp → Prop} {o : Option (List PyData)} (p : PostI W cl σ F H A Q (ofOpt o h)) : ∃ r, o = some r ∧ PostI W cl σ F H A Q (.ok r h) := by
  cases o with
  | none => exact p.elim
  | some r => exact ⟨r, rfl, p⟩
theorem pi_seqC (ha : PE X a (tE W cl ra)) : PI X tg a (tIt W cl (seqR ra)) := by
  refine PI.imp (pi_seq ha) fun σ H Q p => ?_
  obtain ⟨F, A, h, ρ, R, E, p⟩ := p
  refine ⟨F, A, h, ρ, R, E, PostI.bind p _ fun x h1 _ F1 H1 v e1 R1 rv1 p1 => ?_⟩
  obtain ⟨items, eo, p2⟩ := p1.opt
  obtain ⟨d, ed, ei⟩ := opt_bind eo
  obtain ⟨F2, e2, R2, fz, nw, q⟩ := rv1.frz e1 R1 ed
  obtain ⟨ad, vs, rfl, q1, q2⟩ := q.items ei
  refine ⟨ad, vs, rfl, ?_⟩
  rcases q2 with ⟨_, q2⟩ | ⟨_, q2⟩
  · exact .inl ⟨Rd.mono R2.sub q2, fun hz => p2 F2 H1 _ e2 R2 (ItOk.list q2 q1) (by rw [← q1.length]; exact hz)⟩
  · exact .inr ⟨Rd.mono R2.sub q2, fun hz => p2 F2 H1 _ e2 R2 (ItOk.tuple q2 q1) (by rw [← q1.length]; exact hz)⟩
/-! ### ranges -/
theorem small_lt {i : Int} (h : smallI i = true) : -1000000 ≤ i ∧ i ≤ 1000000 := of_decide_eq_true (show decide (-1000000 ≤ i ∧ i ≤ 1000000) = true from h)
theorem rangeD_len (a b : Int) : (rangeD a b).length = (b - a).toNat := by unfold rangeD; rw [List.length_map, List.length_range]
def rangeR (ra : SE) : SI := fun ρ h => (ra ρ h).bind fun x h => ofOpt ((dat1 h x).bind fun d => (intOf d).bind fun i => if smallI i then some (rangeD 0 i) else none) h
theorem int_of {d : PyData} {i : Int} (h : intOf d = some i) : d = .int i := by
  cases d with
  | int j => have := Option.some.inj h; subst this; rfl
  | _ => cases h
theorem pi_rangeC {p : Pos} (hg : Gl X "range") (hm : X.mg "range" = none) (ha0 : noSet a = true) (ha : PE X a (tE W cl ra)) : PI X tg (.Call (.Name "range" p) [a] [] pos) (tIt W cl (rangeR ra)) := by
  refine PI.imp (pi_range1 hg hm (pa_cons ha pa_nil (star1 ha0)) (star1 ha0)) fun σ H Q p => ?_
  obtain ⟨F, A, h, ρ, R, E, p⟩ := p
  refine ⟨F, A, h, ρ, R, E, PostI.bind p _ fun x h1 _ F1 H1 v e1 R1 rv1 p1 => ?_⟩
  obtain ⟨items, eo, p2⟩ := p1.opt
  obtain ⟨d, ed, eo⟩ := opt_bind eo
  obtain ⟨i, ei, eo⟩ := opt_bind eo
  obtain ⟨hs, rfl⟩ := if_some eo
  have := int_of ei
  subst this
  have hv := (rv1.dq R1 ed).int_inv
  subst hv
  have hb := small_lt hs
  refine ⟨i, rfl, by omega, by omega, ?_⟩
  have hr : ItOk F1 (Itr 0 i.toNat) (rangeD 0 i) := by
    have := ItOk.range (F := F1) 0 i
    rwa [Int.sub_zero] at this
  exact p2 F1 H1 _ e1 R1 hr (by rw [rangeD_len, sizeLine_eq]; omega)
def range2R (ra rb : SE) : SI := fun ρ h => (ra ρ h).bind fun x h => (rb ρ h).bind fun y h => ofOpt ((dat1 h x).bind fun d => (intOf d).bind fun i => (dat1 h y).bind fun e => (intOf e).bind fun j =>
  if smallI i && smallI j then some (rangeD i j) else none) h
theorem pi_range2C {p : Pos} (hg : Gl X "range") (hm : X.mg "range" = none) (ha0 : noSet a = true) (hb0 : noSet b = true) (ha : PE X a (tE W cl ra)) (hb : PE X b (tE W cl rb)) : PI X tg (.Call (.Name "range" p) [a, b] [] pos) (tIt W cl (range2R ra rb)) := by
  refine PI.imp (pi_range2 hg hm (pa_cons ha (pa_cons hb pa_nil (star1 hb0)) (star1 ha0)) (by rw [star1 ha0, star1 hb0]; rfl) (star1 hb0)) fun σ H Q p => ?_
  obtain ⟨F, A, h, ρ, R, E, p⟩ := p
  refine ⟨F, A, h, ρ, R, E, PostI.bind p _ fun x h1 _ F1 H1 v e1 R1 rv1 p1 => ?_⟩
  refine ⟨F1, A, h1, ρ, R1, E.mono e1, PostI.bind (p1.after e1 R1) _ fun y h2 _ F2 H2 u e2 R2 rv2 p2 => ?_⟩
  obtain ⟨items, eo, p3⟩ := (p2.after e2 R2).opt
  obtain ⟨d, ed, eo⟩ := opt_bind eo
  obtain ⟨i, ei, eo⟩ := opt_bind eo
  obtain ⟨d2, ed2, eo⟩ := opt_bind eo
  obtain ⟨j, ej, eo⟩ := opt_bind eo
  obtain ⟨hs, rfl⟩ := if_some eo
  have := int_of ei
  subst this
  have := int_of ej
  subst this
  have hv := ((rv1.mono e2).dq R2 ed).int_inv
  subst hv
  have hv2 := (rv2.dq R2 ed2).int_inv
  subst hv2
  rw [Bool.and_eq_true] at hs
  have hb1 := small_lt hs.1
  have hb2 := small_lt hs.2
  refine ⟨i, j, rfl, ⟨by omega, by omega, by omega, by omega⟩, ?_⟩
  exact p3 F2 H2 _ Ext.refl R2 (ItOk.range i j) (by rw [rangeD_len, sizeLine_eq]; omega)
/-! ### zip -/
theorem zipD_get : ∀ (xs ys : List PyData) (i : Nat) (d : PyData), (zipD xs ys)[i]? = some d → ∃ x y, xs[i]? = some x ∧ ys[i]? = some y ∧ d = .tuple [x, y]
  | [], ys, i, d, e => by simp [zipD] at e
  | x :: xs, [], i, d, e => by simp [zipD] at e
  | x :: xs, y :: ys, 0, d, e => ⟨x, y, rfl, rfl, (Option.some.inj e).symm⟩
  | x :: xs, y :: ys, i + 1, d, e => zipD_get xs ys i d e
theorem zipD_len : ∀ (xs ys : List PyData), (zipD xs ys).length = min xs.length ys.length
  | [], ys => by simp [zipD]
  | x :: xs, [] => by simp [zipD]
  | x :: xs, y :: ys => by
    show (zipD xs ys).length + 1 = min (xs.length + 1) (ys.length + 1)
    rw [zipD_len xs ys]
    omega
theorem pair_new {F2 H2 : Hp} {A2 : List Addr} {h2 : HP} {T : Addr} {v1 v2 : V} {x y : PyData} (R : Rl F2 H2 A2 h2) (nT : H2 T = none) (q1 : Dq F2 v1 x) (q2 : Dq F2 v2 y) :
    ∃ F3, Ext F2 H2 A2 F3 (upd H2 T (.tup [v1, v2])) A2 ∧ Rl F3 (upd H2 T (.tup [v1, v2])) A2 h2 ∧ Dq F3 (.ref T) (.tuple [x, y]) := by
  have hs : ∀ a o, F2 a = some o → upd F2 T (.tup [v1, v2]) a = some o := fun a o e => by rw [upd_ne (ne_of_none e (R.notF nT))]; exact e
  exact ⟨upd F2 T (.tup [v1, v2]), Ext.laidF nT R, R.laidF nT, .tup (.inl upd_same) (.cons (Dq.mono hs q1) (.cons (Dq.mono hs q2) .nil))⟩
theorem ItOk.zipL {F : Hp} {a b : Addr} {vs ws : List V} {ds es : List PyData} (r1 : Rd F a (.lst vs)) (q1 : DqAll F vs ds) (r2 : Rd F b (.lst ws)) (q2 : DqAll F ws es) : ItOk F (Itz X.K a b) (zipD ds es) := fun F2 H2 A2 h2 fz R i => by
  have k1 : Rd H2 a (.lst vs) := Rd.mono R.sub (Rd.mono fz r1)
  have k2 : Rd H2 b (.lst ws) := Rd.mono R.sub (Rd.mono fz r2)
  refine ⟨fun d e => ?_, fun hl => ⟨vs, ws, .inl k1, .inl k2, ?_⟩⟩
  · obtain ⟨x, y, ex, ey, rfl⟩ := zipD_get _ _ _ _ e
    obtain ⟨v, ev, qv⟩ := q1.get ex
    obtain ⟨w, ew, qw⟩ := q2.get ey
    refine ⟨⟨vs, ws, v, w, .inl k1, .inl k2, ev, ew⟩, fun z H3 yy => ?_⟩
    obtain ⟨T, x1, x2, rfl, nT, rfl, f1, f2⟩ := yy
    have e1 : v = x1 := Option.some.inj (ev.symm.trans (f1 vs (.inl k1)))
    have e2 : w = x2 := Option.some.inj (ew.symm.trans (f2 ws (.inl k2)))
    subst e1 e2
    exact pair_new R nT (Dq.mono fz qv) (Dq.mono fz qw)
  · rw [zipD_len] at hl
    rw [q1.length, q2.length]
    omega
theorem ItOk.zipT {F : Hp} {a b : Addr} {vs ws : List V} {ds es : List PyData} (r1 : Rd F a (.tup vs)) (q1 : DqAll F vs ds) (r2 : Rd F b (.tup ws)) (q2 : DqAll F ws es) : ItOk F (RZ.ItzT X.K a b) (zipD ds es) := fun F2 H2 A2 h2 fz R i => by
  have k1 : Rd H2 a (.tup vs) := Rd.mono R.sub (Rd.mono fz r1)
  have k2 : Rd H2 b (.tup ws) := Rd.mono R.sub (Rd.mono fz r2)
  refine ⟨fun d e => ?_, fun hl => ⟨vs, ws, .inl k1, .inl k2, ?_⟩⟩
  · obtain ⟨x, y, ex, ey, rfl⟩ := zipD_get _ _ _ _ e
    obtain ⟨v, ev, qv⟩ := q1.get ex
    obtain ⟨w, ew, qw⟩ := q2.get ey
    refine ⟨⟨vs, ws, v, w, .inl k1, .inl k2, ev, ew⟩, fun z H3 yy => ?_⟩
    obtain ⟨T, x1, x2, rfl, nT, rfl, f1, f2⟩ := yy
    have e1 : v = x1 := Option.some.inj (ev.symm.trans (f1 vs (.inl k1)))
    have e2 : w = x2 := Option.some.inj (ew.symm.trans (f2 ws (.inl k2)))
    subst e1 e2
    exact pair_new R nT (Dq.mono fz qv) (Dq.mono fz qw)
  · rw [zipD_len] at hl
    rw [q1.length, q2.length]
    omega
def zipR (ra rb : SE) : SI := fun ρ h => (ra ρ h).bind fun x h => (ofOpt (asD x) h).bind fun d h => (rb ρ h).bind fun y h => ofOpt ((asD y).bind fun e => zipI d e) h
theorem asD_view {x : RV} {d : PyData} {h : HP} (e : asD x = some d) : dat1 h x = some d := by
  cases x with
  | v x =>
    cases x with
    | dat d' => exact e
    | loc n => cases e
  | new ds => exact e
theorem pi_zipC {p : Pos} {elts : List Expr} {kk : Nat} {tpos : Pos} (hg : Gl X "zip") (hm : X.mg "zip" = none) (ha0 : noSet a = true) (hb0 : noSet b = true) (ha : PE X a (tE W cl ra)) (hb : PE X b (tE W cl rb)) :
    PI X (.Tuple elts kk tpos) (.Call (.Name "zip" p) [a, b] [] pos) (tIt W cl (zipR ra rb)) := by
  refine PI.imp (RZ.pi_zipA hg hm (pa_cons ha (pa_cons hb pa_nil (star1 hb0)) (star1 ha0)) (star1 ha0) (noAny1 hb0)) fun σ H Q p => ?_
  obtain ⟨F, A, h, ρ, R, E, p⟩ := p
  refine ⟨F, A, h, ρ, R, E, PostI.bind p _ fun x h1 _ F1 H1 v e1 R1 rv1 p1 => ?_⟩
  cases ed : asD x with
  | none => rw [ed] at p1; exact p1.elim
  | some d =>
    rw [ed, ofOpt_some, Res.bind_ok] at p1
    obtain ⟨F2, e2, R2, fz2, nw2, q2⟩ := rv1.frz e1 R1 ed
    refine ⟨F2, A, h1, ρ, R2, E.mono e2, PostI.bind (p1.after e2 R2) _ fun y h2 _ F3 H3 u e3 R3 rv3 p3 => ?_⟩
    obtain ⟨items, eo, p4⟩ := p3.opt
    obtain ⟨e, ee, eo⟩ := opt_bind eo
    obtain ⟨F4, e4, R4, fz4, nw4, q4⟩ := rv3.frz e3 R3 ee
    have q2' : Dq F4 v d := Dq.mono e4.fz q2
    have hlen : ∀ {xs ys : List PyData}, xs.length ≤ LIM → (zipD xs ys).length ≤ sizeLine := fun {xs ys} hz => by
      have := lim_line
      rw [zipD_len]
      omega
    cases d with
    | list xs =>
      cases e with
      | list ys =>
        have eo' : (if xs.length ≤ LIM then some (zipD xs ys) else none) = some items := eo
        by_cases hl : xs.length ≤ LIM
        · rw [if_pos hl] at eo'
          have := Option.some.inj eo'
          subst this
          obtain ⟨a1, vs, rfl, k1, k2⟩ := q2'.list_inv
          obtain ⟨a2, ws, rfl, k3, k4⟩ := q4.list_inv
          exact ⟨a1, a2, vs, ws, rfl, .inl ⟨.inl (Rd.mono R4.sub k1), .inl (Rd.mono R4.sub k3), p4 F4 H3 _ e4 R4 (ItOk.zipL k1 k2 k3 k4) (hlen hl)⟩⟩
        · rw [if_neg hl] at eo'; cases eo'
      | _ => cases eo
    | tuple xs =>
      cases e with
      | tuple ys =>
        have eo' : (if xs.length ≤ LIM then some (zipD xs ys) else none) = some items := eo
        by_cases hl : xs.length ≤ LIM
        · rw [if_pos hl] at eo'
          have := Option.some.inj eo'
          subst this
          obtain ⟨a1, vs, rfl, k1, k2⟩ := q2'.tup_inv
          obtain ⟨a2, ws, rfl, k3, k4⟩ := q4.tup_inv
          exact ⟨a1, a2, vs, ws, rfl, .inr ⟨.inl (Rd.mono R4.sub k1), .inl (Rd.mono R4.sub k3), p4 F4 H3 _ e4 R4 (ItOk.zipT k1 k2 k3 k4) (hlen hl)⟩⟩
        · rw [if_neg hl] at eo'; cases eo'
      | _ => cases eo
    | _ => cases e <;> cases eo
end
end TB
set_option maxHeartbeats 4000000
namespace TB
open PySem PyProof.Rows L2
/-! ### enumerate(x), x a list or a tuple -/
section
theorem enum_made {v : Value} {o : Obj} {H : Heap → Prop} (B : Begins v o H) :
    Meets (Builtin.«enumerate.__new__» ⟨[.type "enumerate", v], []⟩) (fun _ R s => H s.heap ∧
      R (.ok (.ret (.ref (s.heap.push o).objs.size))) { s with heap := (s.heap.push o).push { cls := .type "enumerate", data := .fields #[.none, .bool false, .ref s.heap.objs.size, rawInt 0, .none, .none] } }) :=
  .of_wp fun prog w A R s h => by
    obtain ⟨hp, g, d, tk, os⟩ := s
    obtain ⟨h1, h⟩ := h
    have hsub := sub_enumerate
    have go : ∀ {A' : Around} {E : Value → Shared → Prop} {Q : Value → Shared → Prop}, Q (.ref hp.objs.size) ⟨hp.push o, g, d, tk, os⟩ → wpAny (model prog w) A' (pyIter v) Q E ⟨hp, g, d, tk, os⟩ :=
      fun q => B.iter prog w _ _ ⟨hp, g, d, tk, os⟩ _ h1 q
    wp_walk using go
    refine wpAny_stack_any fun st => wpAny_pure ?_
    split
    · rename_i c _ _ _ _ _
      cases (c == Value.type "enumerate") <;> (wp_walk using go; exact ⟨_, rfl, h⟩)
    · wp_walk using go
      exact ⟨_, rfl, h⟩
variable {prog : Program} {w : World} {A : Around} {E : Value → Shared → Prop} {s : Shared}
theorem enum_call {v : Value} {o : Obj} {H : Heap → Prop} {Q : Value → Shared → Prop} (B : Begins v o H) (h1 : H s.heap)
    (h : ∀ h', IsEnum h' (s.heap.objs.size + 1) s.heap.objs.size 0 .none → h'.get? s.heap.objs.size = some o → (∀ b o, s.heap.get? b = some o → h'.get? b = some o) → Q (.ref (s.heap.objs.size + 1)) { s with heap := h' }) :
    wpAny (model prog w) A (call (.type "enumerate") [v]) Q E s := by
  refine callType_new F.called_enumerate (by decide) (F.typeCall_enumerate_1 _) (F.newCall_enumerate_1 _) (fun obj => F.args_object_init_2 obj _) F.entry_enumerate_new (enum_made B) ⟨h1, ?_⟩
  have hz : (s.heap.push o).objs.size = s.heap.objs.size + 1 := Heap.size_push ..
  show _ ∧ _
  rw [hz]
  have he : IsEnum ((s.heap.push o).push { cls := .type "enumerate", data := .fields #[.none, .bool false, .ref s.heap.objs.size, rawInt 0, .none, .none] }) (s.heap.objs.size + 1) s.heap.objs.size 0 .none := by
    have z := Heap.get?_push_size (s.heap.push o) (o := { cls := .type "enumerate", data := .fields #[.none, .bool false, .ref s.heap.objs.size, rawInt 0, .none, .none] }) rfl
    rw [hz] at z
    exact z
  exact ⟨⟨_, he, rfl⟩, h _ he (Heap.get?_push_of_some _ (Heap.get?_push_size _ B.free)) fun b o x => Heap.get?_push_of_some _ (Heap.get?_push_of_some _ x)⟩
end
/-- the tuple at a, each item in a new pair -/
def IteT (K : PySem.W.Frag) (a : Addr) : It :=
  ⟨fun i H => ∃ (xs : List V) (x : V), SqT K H a xs ∧ xs[i]? = some x, fun i H v H' => ∃ T x, v = .ref T ∧ H T = none ∧ H' = upd H T (.tup [.int (i : Nat), x]) ∧ ∀ xs, SqT K H a xs → xs[i]? = some x, fun i H => ∃ xs : List V, SqT K H a xs ∧ xs.length ≤ i⟩
theorem turn_enumT {P : Program} {w : World} {K : PySem.W.Frag} {elts : List Expr} {kk : Nat} {tpos : Pos} (a e it : Addr) :
    Turn P w K (.Tuple elts kk tpos) (IteT K a) [e, it] e (fun i h => (∃ old, IsEnum h e it ((i : Nat) : Int) old) ∧ h.IsTupleIter it a i ∧ e ≠ it ∧ a ≠ e ∧ a ≠ it) where
  mem := by simp
  obj := fun i h st b hb => by
    obtain ⟨⟨old, he⟩, ⟨o, ho, hc, hd⟩, _⟩ := st
    have e' : b = e ∨ b = it := by simpa using hb
    rcases e' with z | z
    · rw [z]; exact ⟨_, he, fun v q => nomatch q⟩
    · rw [z]; exact ⟨o, ho, fun v q => by rw [hd] at q; cases q⟩
  keep := fun i h h' st k => let ⟨⟨old, he⟩, hi, hne⟩ := st; ⟨⟨old, k e (by simp) _ he⟩, hi.at fun o q => k it (by simp) o q, hne⟩
  item := by
    intro X hP hw hK hc i pins s σ H E I hf st hg
    subst hP hw hK
    obtain ⟨⟨old, he⟩, hit, hne, hae, hai⟩ := st
    obtain ⟨xs, x, hq, hx⟩ := hg
    obtain ⟨its, rv, p, hz⟩ := I.tuple hq
    obtain ⟨u, hu, ru⟩ := rv.get hx
    have hel : e < s.heap.objs.size := Heap.lt_size he
    have hil : it < s.heap.objs.size := by obtain ⟨_, q, _⟩ := hit; exact Heap.lt_size q
    have hh : X.A.handled = none := I.ok.hd hc
    have D := Draws.tuple (prog := X.prog) (w := X.w) (A := X.A.in1) hh it a hai its.toArray
    have hlt : i < its.toArray.size := by
      have := (List.getElem?_eq_some_iff.mp hu).1
      simpa using this
    refine wpAny_pyNext_enum_itemC D he ⟨hit, show s.heap.IsTuple a its.toArray from p⟩ hlt hne (fun m => ?_) fun x' h' tk hP ho hst' hT hsz hk => ?_
    · rcases List.mem_cons.mp m with z | m
      · exact hne z
      · exact hae (List.mem_singleton.mp m).symm
    have hxu : x' = u := by
      have h1 : its.toArray[i]? = some x' := hP
      rw [← Array.getElem?_toList] at h1
      have h2 : its[i]? = some x' := by simpa using h1
      rw [hu] at h2
      exact (Option.some.inj h2).symm
    subst hxu
    refine ⟨_, rfl, wpAny_letOwnedTupleGo_enum (s := { s with heap := h', toks := tk + 1 }) ho fun h'' he' sb => ?_⟩
    have hT2 : h''.get? s.heap.objs.size = some { cls := .type "tuple", data := .seq #[.int i tk, x'] } := (sb.2 _ (Nat.ne_of_gt hel)).trans hT
    have new : ObjOk X.prog X.w (upd H s.heap.objs.size (.tup [.int (i : Nat), x])) h'' s.heap.objs.size (.tup [.int (i : Nat), x]) :=
      ⟨by show 2 ≤ sizeLine; decide, [.int i tk, x'], .cons ⟨_, rfl⟩ (.cons ru .nil), ⟨_, hT2, rfl, _, rfl⟩⟩
    have I1 : Inv X pins σ (upd H s.heap.objs.size (.tup [.int (i : Nat), x])) { s with heap := h'', toks := tk + 1 } :=
      I.turnedNew (ch := [e, it]) (fun b ob hb q => (sb.2 b (fun z => hb (by simp [z]))).trans (hk b ob (fun z => hb (by simp [z])) (fun z => hb (by simp [z])) q)) hf (Nat.le_refl _) new
    refine ⟨.ref s.heap.objs.size, _, I1, rfl, ⟨_, x, rfl, I.hok.fresh (Nat.le_refl _), rfl, fun ys hy => by rw [I.tuple_inj hy hq]; exact hx⟩, ⟨⟨x', ?_⟩, hst'.1.at fun o q => (sb.2 it (Ne.symm hne)).trans q, hne, hae, hai⟩, fun b hb => ?_⟩
    · have e1 : ((i + 1 : Nat) : Int) = (i : Int) + 1 := by omega
      rw [e1]; exact he'
    · have hb' : b < s.heap.objs.size := by
        have e' : b = e ∨ b = it := by simpa using hb
        rcases e' with z | z
        · rw [z]; exact hel
        · rw [z]; exact hil
      rw [upd_ne (Nat.ne_of_lt hb')]
      exact (hf b hb).1
  done := by
    intro X hP hw hK hc i pins s σ H E I hf st hg
    subst hP hw hK
    obtain ⟨⟨old, he⟩, hit, hne, hae, hai⟩ := st
    obtain ⟨xs, hq, hx⟩ := hg
    obtain ⟨its, rv, p, hz⟩ := I.tuple hq
    obtain ⟨f0, f1, f2, f3, f4, f5⟩ := hf it (by simp)
    have hl := rv.length
    have hh : X.A.handled = none := I.ok.hd hc
    have D : Draws X.prog X.w X.A.in1 it [it, a] i (fun i v => its.toArray[i]? = some v) (fun j h => (h.IsTupleIter it a i ∧ h.IsTuple a its.toArray) ∧ j = i) :=
      { live := fun _ _ st => let ⟨o, ho, _⟩ := st.1.1; ⟨o, ho⟩
        frame := fun _ _ _ st hk => ⟨⟨st.1.1.at fun o e => hk it (by simp) o e, st.1.2.at fun o e => hk a (by simp) o e⟩, st.2⟩
        item := fun j s Q E hi st hQ => absurd st.2 (by omega)
        done := fun s Q E st hE => wpAny_nextOf_tuple_end hh st.1.1 st.1.2 (by simp; omega) hE }
    exact wpAny_pyNext_enum_endD D he ⟨⟨hit, show s.heap.IsTuple a its.toArray from p⟩, rfl⟩ fun h' eb => ⟨rfl, I.turned (t' := s.toks) (fun b o hb q => eb b o hb q) f0 f1 f3 f4 f5⟩
  self := fun A i s Q E st h => let ⟨⟨_, he⟩, _⟩ := st; wpAny_pyIter_enum he h
section
variable {X : Cx} {W : WX} {cl : Nat → Value} {pos : Pos} {a : Expr} {ra : SE}
def iEnumA (K : PySem.W.Frag) (tl : TE) : TI := fun σ H R => tl σ H fun x H1 => ∃ a xs, x = .ref a ∧ ((Rd H1 a (.lst xs) ∧ (xs.length ≤ sizeLine → R (Ite K a) H1)) ∨ (Rd H1 a (.tup xs) ∧ (xs.length ≤ sizeLine → R (IteT K a) H1)))
theorem pi_enumA {p tpos : Pos} {elts : List Expr} {kk : Nat} {tl : TE} (hg : Gl X "enumerate") (hm : X.mg "enumerate" = none) (ha0 : noSet a = true) (ha : PE X a tl) :
    PI X (.Tuple elts kk tpos) (.Call (.Name "enumerate" p) [a] [] pos) (iEnumA X.K tl) := by
  refine ⟨fun pins s σ H R I h => ?_⟩
  refine Call_ (ld_blt I hg hm boot_enumerate (PyProof.Rows.callWith_type1 (PyProof.Rows.args_cons (thn (ha.run pins s σ H _ I h) fun v s1 ⟨x, H1, I1, r1, q1⟩ => PyProof.Rows.args_nil ?_) (star1 ha0)) (star1 ha0) rfl))
  obtain ⟨ad, xs, rfl, q⟩ := q1
  cases r1
  have fp : ∀ b ∈ [s1.heap.objs.size + 1, s1.heap.objs.size], FpOk X pins H1 b := fun b hb => by
    have e' : b = s1.heap.objs.size + 1 ∨ b = s1.heap.objs.size := by simpa using hb
    have hle : s1.heap.objs.size ≤ b := by
      rcases e' with z | z
      · rw [z]; exact Nat.le_add_right _ _
      · rw [z]; exact Nat.le_refl _
    exact I1.fpOk hle (I1.hok.fresh hle)
  rcases q with ⟨hq, q⟩ | ⟨hq, q⟩
  · obtain ⟨its, rv, pl, hz⟩ := I1.list (.inl hq)
    refine call_enumerate_list pl.isList fun h' he hit hsz hk => wpAny_pyIter_enum he ?_
    have I2 : Inv X pins σ H1 { s1 with heap := h' } := I1.kept (t' := s1.toks) hk
    exact ⟨s1.heap.objs.size + 1, [s1.heap.objs.size + 1, s1.heap.objs.size], _, _, H1, rfl, I2, turn_enum ad (s1.heap.objs.size + 1) s1.heap.objs.size, ⟨⟨.none, he⟩, hit, Nat.succ_ne_self _⟩, fp, q hz⟩
  · obtain ⟨its, rv, pl, hz⟩ := I1.tuple (.inl hq)
    have hal : ad < s1.heap.objs.size := by
      obtain ⟨o, ho, _⟩ := (show s1.heap.IsTuple ad its.toArray from pl)
      exact Heap.lt_size ho
    refine enum_call (begins_tuple ad its.toArray) (show s1.heap.IsTuple ad its.toArray from pl) fun h' he hit hk => wpAny_pyIter_enum he ?_
    have I2 : Inv X pins σ H1 { s1 with heap := h' } := I1.kept (t' := s1.toks) hk
    exact ⟨s1.heap.objs.size + 1, [s1.heap.objs.size + 1, s1.heap.objs.size], _, _, H1, rfl, I2, turn_enumT ad (s1.heap.objs.size + 1) s1.heap.objs.size, ⟨⟨.none, he⟩, ⟨_, hit, rfl, rfl⟩, Nat.succ_ne_self _, Nat.ne_of_lt (Nat.lt_succ_of_lt hal), Nat.ne_of_lt hal⟩, fp, q hz⟩
theorem enumD_get : ∀ (xs : List PyData) (n i : Nat) (d : PyData), (enumD n xs)[i]? = some d → ∃ x, xs[i]? = some x ∧ d = .tuple [.int ((n + i : Nat) : Int), x]
  | [], n, i, d, e => by simp [enumD] at e
  | x :: xs, n, 0, d, e => ⟨x, rfl, (Option.some.inj e).symm⟩
  | x :: xs, n, i + 1, d, e => by
    obtain ⟨y, h1, h2⟩ := enumD_get xs (n + 1) i d e
    exact ⟨y, h1, by rw [h2, show n + 1 + i = n + (i + 1) by omega]⟩
theorem enumD_len : ∀ (xs : List PyData) (n : Nat), (enumD n xs).length = xs.length
  | [], n => rfl
  | x :: xs, n => by show (enumD (n + 1) xs).length + 1 = _; rw [enumD_len xs (n + 1)]; rfl
theorem ItOk.enumL {F : Hp} {a : Addr} {vs : List V} {ds : List PyData} (r1 : Rd F a (.lst vs)) (q1 : DqAll F vs ds) : ItOk F (Ite X.K a) (enumD 0 ds) := fun F2 H2 A2 h2 fz R i => by
  have k1 : Rd H2 a (.lst vs) := Rd.mono R.sub (Rd.mono fz r1)
  refine ⟨fun d e => ?_, fun hl => ⟨vs, .inl k1, ?_⟩⟩
  · obtain ⟨x, ex, rfl⟩ := enumD_get _ _ _ _ e
    obtain ⟨v, ev, qv⟩ := q1.get ex
    refine ⟨⟨vs, v, .inl k1, ev⟩, fun z H3 yy => ?_⟩
    obtain ⟨T, x1, rfl, nT, rfl, f1⟩ := yy
    have e1 : v = x1 := Option.some.inj (ev.symm.trans (f1 vs (.inl k1)))
    subst e1
    rw [Nat.zero_add]
    exact pair_new R nT (.int _) (Dq.mono fz qv)
  · rw [enumD_len] at hl
    rw [q1.length]
    exact hl
theorem ItOk.enumT {F : Hp} {a : Addr} {vs : List V} {ds : List PyData} (r1 : Rd F a (.tup vs)) (q1 : DqAll F vs ds) : ItOk F (IteT X.K a) (enumD 0 ds) := fun F2 H2 A2 h2 fz R i => by
  have k1 : Rd H2 a (.tup vs) := Rd.mono R.sub (Rd.mono fz r1)
  refine ⟨fun d e => ?_, fun hl => ⟨vs, .inl k1, ?_⟩⟩
  · obtain ⟨x, ex, rfl⟩ := enumD_get _ _ _ _ e
    obtain ⟨v, ev, qv⟩ := q1.get ex
    refine ⟨⟨vs, v, .inl k1, ev⟩, fun z H3 yy => ?_⟩
    obtain ⟨T, x1, rfl, nT, rfl, f1⟩ := yy
    have e1 : v = x1 := Option.some.inj (ev.symm.trans (f1 vs (.inl k1)))
    subst e1
    rw [Nat.zero_add]
    exact pair_new R nT (.int _) (Dq.mono fz qv)
  · rw [enumD_len] at hl
    rw [q1.length]
    exact hl
def enumR (ra : SE) : SI := fun ρ h => (ra ρ h).bind fun x h => ofOpt ((asD x).bind fun d => (itemsD d).map (enumD 0)) h
theorem pi_enumC {p tpos : Pos} {elts : List Expr} {kk : Nat} (hg : Gl X "enumerate") (hm : X.mg "enumerate" = none) (ha0 : noSet a = true) (ha : PE X a (tE W cl ra)) :
    PI X (.Tuple elts kk tpos) (.Call (.Name "enumerate" p) [a] [] pos) (tIt W cl (enumR ra)) := by
  refine PI.imp (pi_enumA hg hm ha0 ha) fun σ H Q p => ?_
  obtain ⟨F, A, h, ρ, R, E, p⟩ := p
  refine ⟨F, A, h, ρ, R, E, PostI.bind p _ fun x h1 _ F1 H1 v e1 R1 rv1 p1 => ?_⟩
  obtain ⟨items, eo, p2⟩ := p1.opt
  obtain ⟨d, ed, eo⟩ := opt_bind eo
  obtain ⟨xs, ei, rfl⟩ := opt_map eo
  obtain ⟨F2, e2, R2, fz, nw, q⟩ := rv1.frz e1 R1 ed
  obtain ⟨ad, vs, rfl, q1, q2⟩ := q.items ei
  refine ⟨ad, vs, rfl, ?_⟩
  rcases q2 with ⟨_, q2⟩ | ⟨_, q2⟩
  · exact .inl ⟨Rd.mono R2.sub q2, fun hz => p2 F2 H1 _ e2 R2 (ItOk.enumL q2 q1) (by rw [enumD_len, ← q1.length]; exact hz)⟩
  · exact .inr ⟨Rd.mono R2.sub q2, fun hz => p2 F2 H1 _ e2 R2 (ItOk.enumT q2 q1) (by rw [enumD_len, ← q1.length]; exact hz)⟩
end
end TB
set_option maxHeartbeats 4000000
namespace TB
open PySem L2
/-! ### targets -/
def slots : Tg → List Nat
  | .name i => [i]
  | .nil => []
  | .cons t u => slots t ++ slots u
/-- nothing else but these slots has changed -/
def SameX (is : List Nat) (σ σ' : St) : Prop := σ'.length = σ.length ∧ ∀ j, j ∉ is → σ'[j]? = σ[j]?
theorem SameX.refl (is : List Nat) (σ : St) : SameX is σ σ := ⟨rfl, fun _ _ => rfl⟩
theorem SameX.trans {is js : List Nat} {σ σ1 σ2 : St} (a : SameX is σ σ1) (b : SameX js σ1 σ2) : SameX (is ++ js) σ σ2 :=
  ⟨b.1.trans a.1, fun j hj => (b.2 j fun z => hj (List.mem_append_right _ z)).trans (a.2 j fun z => hj (List.mem_append_left _ z))⟩
def tG (tg : Tg) : TG := fun v σ H Q => ∃ F A h ρ d ρ', Rl F H A h ∧ EnvR F A ρ σ ∧ Dq F v d ∧ bindT tg d ρ = some ρ' ∧ ∀ σ', EnvR F A ρ' σ' → SameX (slots tg) σ σ' → Q σ' H
def tGs (tg : Tg) : TGs := fun vs σ H Q => ∃ F A h ρ ds ρ', Rl F H A h ∧ EnvR F A ρ σ ∧ DqAll F vs ds ∧ bindTs tg ds ρ = some ρ' ∧ ∀ σ', EnvR F A ρ' σ' → SameX (slots tg) σ σ' → Q σ' H
theorem EnvR.set {F : Hp} {A : List Addr} {ρ : EV} {σ : St} {i : Nat} {x : Vl} {v : V} (E : EnvR F A ρ σ) (q : VR F A x v) (hi : i < ρ.length) : EnvR F A (ρ.set i (some x)) (σ.set i (some v)) := by
  refine ⟨by rw [List.length_set, List.length_set]; exact E.1, fun j y e => ?_⟩
  by_cases hj : i = j
  · subst hj
    rw [List.getElem?_set_self hi] at e
    cases e
    exact ⟨v, by rw [List.getElem?_set_self (by rw [← E.1]; exact hi)], q⟩
  · rw [List.getElem?_set_ne hj] at e
    obtain ⟨w, k1, k2⟩ := E.2 j y e
    exact ⟨w, by rw [List.getElem?_set_ne hj]; exact k1, k2⟩
theorem same_set (σ : St) (i : Nat) (o : Option V) : SameX [i] σ (σ.set i o) := ⟨List.length_set, fun j hj => List.getElem?_set_ne (fun z => hj (by rw [z]; exact List.mem_singleton.mpr rfl))⟩
section
variable {X : Cx}
theorem PG.imp {e : Expr} {t t' : TG} (p : PG X e t) (i : ∀ v σ H Q, t' v σ H Q → t v σ H Q) : PG X e t' := ⟨fun pins s σ H v u Q I r h => p.run pins s σ H v u Q I r (i v σ H Q h)⟩
theorem PGs.imp {e : List Expr} {t t' : TGs} (p : PGs X e t) (i : ∀ v σ H Q, t' v σ H Q → t v σ H Q) : PGs X e t' := ⟨fun pins s σ H v u Q I r h => p.run pins s σ H v u Q I r (i v σ H Q h)⟩
theorem pg_nameC {i : Nat} {x : Str} {pos : Pos} (hN : X.N.Nodup) (hi : X.N[i]? = some x) (hx : Loc X.env.scope x) (hf : X.fn x = true ∨ X.env.scope.names.lookup x = some .local) : PG X (.Name x pos) (tG (.name i)) := by
  refine PG.imp (pg_name hN hi hx hf) fun v σ H Q ⟨F, A, h, ρ, d, ρ', R, E, q, e, k⟩ => ?_
  have e' : (if i < ρ.length then some (ρ.set i (some (.dat d))) else none) = some ρ' := e
  by_cases hl : i < ρ.length
  · rw [if_pos hl] at e'
    have := Option.some.inj e'
    subst this
    exact k _ (E.set (x := .dat d) q hl) (same_set σ i _)
  · rw [if_neg hl] at e'; cases e'
theorem pgs_nilC : PGs X [] (tGs .nil) := PGs.imp pgs_nil fun vs σ H Q ⟨F, A, h, ρ, ds, ρ', R, E, q, e, k⟩ => by
  cases ds with
  | nil =>
    cases q
    have := Option.some.inj (show some ρ = some ρ' from e)
    subst this
    exact ⟨rfl, k σ E (SameX.refl _ _)⟩
  | cons d ds => exact nomatch (show (none : Option EV) = some ρ' from e)
def noStar : Expr → Bool
  | .Starred .. => false
  | _ => true
theorem each1 {e : Expr} {es : List Expr} {env : Env} (h : noStar e = true) : assignEach (e :: es) env = (false, assign e env) :: assignEach es env := by
  cases e <;> first | rfl | cases h
theorem pgs_consC {e : Expr} {es : List Expr} {t u : Tg} (he : noStar e = true) (h1 : PG X e (tG t)) (h2 : PGs X es (tGs u)) : PGs X (e :: es) (tGs (.cons t u)) := by
  refine PGs.imp (pgs_cons h1 h2 (by rw [each1 he]; rfl)) fun vs σ H Q ⟨F, A, h, ρ, ds, ρ', R, E, q, e, k⟩ => ?_
  cases ds with
  | nil => exact nomatch (show (none : Option EV) = some ρ' from e)
  | cons d ds =>
    cases q with
    | cons qa qb =>
      obtain ⟨ρ1, e1, e2⟩ := opt_bind (show (bindT t d ρ).bind (fun ρ' => bindTs u ds ρ') = some ρ' from e)
      refine ⟨_, _, rfl, F, A, h, ρ, d, ρ1, R, E, qa, e1, fun σ1 E1 s1 => ?_⟩
      exact ⟨F, A, h, ρ1, ds, ρ', R, E1, qb, e2, fun σ2 E2 s2 => k σ2 E2 (s1.trans s2)⟩
theorem eachNo : ∀ {es : List Expr} {env : Env}, es.all noStar = true → (assignEach es env).length = es.length ∧ (assignEach es env).findIdx? (·.1) = none
  | [], _, _ => ⟨rfl, rfl⟩
  | e :: es, env, h => by
    rw [List.all_cons, Bool.and_eq_true] at h
    obtain ⟨i1, i2⟩ := eachNo (env := env) h.2
    rw [each1 h.1]
    exact ⟨by rw [List.length_cons, List.length_cons, i1], by rw [List.findIdx?_cons]; simp [i2]⟩
def isTup : Tg → Bool
  | .name _ => false
  | _ => true
def tgLen : Tg → Nat
  | .name _ => 0
  | .nil => 0
  | .cons _ u => tgLen u + 1
theorem bindTs_len : ∀ {t : Tg} {ds : List PyData} {ρ ρ' : EV}, bindTs t ds ρ = some ρ' → ds.length = tgLen t
  | .name _, ds, ρ, ρ', e => nomatch (show (none : Option EV) = some ρ' from e)
  | .nil, ds, ρ, ρ', e => by
    cases ds with
    | nil => rfl
    | cons _ _ => exact nomatch (show (none : Option EV) = some ρ' from e)
  | .cons t u, ds, ρ, ρ', e => by
    cases ds with
    | nil => exact nomatch (show (none : Option EV) = some ρ' from e)
    | cons d ds =>
      obtain ⟨ρ1, _, e2⟩ := opt_bind (show (bindT t d ρ).bind (fun ρ' => bindTs u ds ρ') = some ρ' from e)
      rw [List.length_cons, bindTs_len e2]
      rfl
theorem bindT_tup {t : Tg} {d : PyData} {ρ ρ' : EV} (ht : isTup t = true) (e : bindT t d ρ = some ρ') : ∃ ds, d = .tuple ds ∧ bindTs t ds ρ = some ρ' := by
  have no : (none : Option EV) = some ρ' → False := fun z => nomatch z
  cases t with
  | name i => cases ht
  | nil =>
    cases d with
    | tuple ds =>
      cases ds with
      | nil => exact ⟨[], rfl, e⟩
      | cons _ _ => exact (no e).elim
    | none => exact (no e).elim
    | bool _ => exact (no e).elim
    | int _ => exact (no e).elim
    | str _ => exact (no e).elim
    | list _ => exact (no e).elim
    | dict _ => exact (no e).elim
  | cons t u =>
    cases d with
    | tuple ds =>
      cases ds with
      | nil => exact (no e).elim
      | cons d ds => exact ⟨d :: ds, rfl, e⟩
    | none => exact (no e).elim
    | bool _ => exact (no e).elim
    | int _ => exact (no e).elim
    | str _ => exact (no e).elim
    | list _ => exact (no e).elim
    | dict _ => exact (no e).elim
theorem pg_tupC {es : List Expr} {k : Nat} {pos : Pos} {t : Tg} (hc : X.calm = true) (hes : es.all noStar = true) (hl : es.length = tgLen t) (ht : isTup t = true) (h : PGs X es (tGs t)) : PG X (.Tuple es k pos) (tG t) := by
  obtain ⟨n1, n2⟩ := eachNo (env := X.env) hes
  refine PG.imp (pg_tup hc h n1 n2) fun v σ H Q ⟨F, A, h, ρ, d, ρ', R, E, q, e, k⟩ => ?_
  obtain ⟨ds, rfl, e'⟩ := bindT_tup ht e
  obtain ⟨a, xs, rfl, r, b⟩ := q.tup_inv
  exact ⟨a, xs, rfl, .inl (Rd.mono R.sub r), by rw [b.length, bindTs_len e', hl], F, A, h, ρ, ds, ρ', R, E, b, e', k⟩
end
/-! ### comprehensions -/
theorem EnvR.wiped {F : Hp} {A : List Addr} {ρ : EV} {σ : St} (E : EnvR F A ρ σ) : ∀ vs : List Nat, EnvR F A (wipeE ρ vs) (wipe σ vs)
  | [] => E
  | v :: vs => by
    have ih := E.wiped vs
    refine ⟨by show ((wipeE ρ vs).set v none).length = ((wipe σ vs).set v none).length; rw [List.length_set, List.length_set]; exact ih.1, fun j y e => ?_⟩
    have e' : ((wipeE ρ vs).set v none)[j]? = some (some y) := e
    show ∃ w, ((wipe σ vs).set v none)[j]? = some (some w) ∧ _
    by_cases hj : v = j
    · subst hj
      by_cases hv : v < (wipeE ρ vs).length
      · rw [List.getElem?_set_self hv] at e'; cases e'
      · rw [List.getElem?_eq_none (by rw [List.length_set]; omega)] at e'; cases e'
    · rw [List.getElem?_set_ne hj] at e' ⊢
      exact ih.2 j y e'
theorem wipe_get (σ : St) : ∀ (vs : List Nat) (j : Nat), (wipe σ vs)[j]? = if j ∈ vs then (if j < σ.length then some none else none) else σ[j]?
  | [], j => by simp [L2.wipe]
  | v :: vs, j => by
    have ih := wipe_get σ vs j
    show ((wipe σ vs).set v none)[j]? = _
    by_cases hj : v = j
    · subst hj
      rw [if_pos List.mem_cons_self]
      by_cases hv : v < σ.length
      · rw [List.getElem?_set_self (by rw [wipe_length]; exact hv), if_pos hv]
      · rw [List.getElem?_eq_none (by rw [List.length_set, wipe_length]; omega), if_neg hv]
    · rw [List.getElem?_set_ne hj, ih]
      have : (j ∈ v :: vs) ↔ j ∈ vs := by
        rw [List.mem_cons]
        exact ⟨fun z => z.elim (fun y => absurd y.symm hj) id, .inr⟩
      simp only [this]
theorem wipe_same {σ σ2 : St} {vs is : List Nat} (s : SameX is (wipe σ vs) σ2) (hs : ∀ i ∈ is, i ∈ vs) : wipe σ2 vs = wipe σ vs := by
  apply List.ext_getElem?
  intro j
  have hl : σ2.length = σ.length := by rw [s.1, wipe_length]
  rw [wipe_get, wipe_get, hl]
  by_cases hj : j ∈ vs
  · rw [if_pos hj, if_pos hj]
  · rw [if_neg hj, if_neg hj, s.2 j (fun z => hj (hs j z)), wipe_get, if_neg hj]
def turnR (tg : Tg) (own : List Nat) (rc : EV → HP → Res Bool) (re : SE) (ρ : EV) : PyData → HP → Res (Option PyData) := fun x h =>
  (ofOpt (bindT tg x (wipeE ρ own)) h).bind fun ρ' h => (rc ρ' h).bind fun t h => if t then (re ρ' h).bind fun y h => ofOpt ((asD y).map some) h else .ok none h
def compR (tg : Tg) (own : List Nat) (ri : SI) (rc : EV → HP → Res Bool) (re : SE) : SE := fun ρ h =>
  noExc ((ri ρ h).bind fun items h => (compL (turnR tg own rc re ρ) items [] h).bind fun ds h => .ok (.new ds) h)
def W0 : WX := fun _ _ _ _ => False
section
variable {X : Cx} {W : WX} {cl : Nat → Value} {pos : Pos} {tgE iter elt : Expr} {ifs : List Expr} {scope : Scope} {ownP : List (Str × Nat)} {tg : Tg} {ri : SI} {rc : EV → HP → Res Bool} {re : SE}
theorem tLc_of {σ : St} {H : Hp} {Q : VK} {vs : List Nat} (hvs : ∀ i ∈ slots tg, i ∈ vs) (p : tE W cl (compR tg vs ri rc re) σ H Q) :
    tLc (tIt W cl ri) (tG tg) (tT W0 cl rc) (tE W0 cl re) vs σ H Q := by
  obtain ⟨F, A, h, ρ, R, E, p⟩ := p
  refine ⟨F, A, h, ρ, R, E, ?_⟩
  unfold compR at p
  cases er : ri ρ h with
  | bad => rw [er] at p; exact p
  | exc c h1 => rw [er] at p; exact p.elim
  | ok items h1 =>
    rw [er, Res.bind_ok] at p
    intro F1 H1 J e1 R1 ok hz D nD
    have nF1 := R1.notF nD
    have nA1 := R1.notA nD
    refine ⟨fun i m H' => ∃ F' h' acc ws, Ext F1 H1 A F' H' A ∧ Rl F' H' A h' ∧ H' D = some (.lst ws) ∧ DqAll F' ws acc.reverse ∧ F' D = none ∧ acc.length ≤ i ∧ i ≤ items.length ∧ m = items.length - i ∧
      PostE W cl σ F H A Q (noExc ((compL (turnR tg vs rc re ρ) (items.drop i) acc h').bind fun ds h => .ok (.new ds) h)), ⟨items.length, F1, h1, [], [], Ext.laid nD R1, R1.laid nD, upd_same, .nil, nF1, Nat.le_refl _, Nat.zero_le _, by omega, p⟩, ?_⟩
    rintro i m H' ⟨F', h', acc, ws, e2, R2, hD, qw, nF, hacc, hi, rfl, p2⟩
    have okk := ok F' H' A h' e2.fz R2 i
    by_cases hlt : i < items.length
    · right
      have hget : items[i]? = some items[i] := List.getElem?_eq_getElem hlt
      rw [List.drop_eq_getElem_cons hlt] at p2
      have p2' : PostE W cl σ F H A Q (noExc (((turnR tg vs rc re ρ items[i] h').bind fun o h'' => compL (turnR tg vs rc re ρ) (items.drop (i + 1)) (match o with | some y => y :: acc | none => acc) h'').bind fun ds h => .ok (.new ds) h)) := p2
      obtain ⟨hgo, hy⟩ := okk.1 _ hget
      refine ⟨hgo, fun H'' => ∃ F'' h'' acc' ws', Ext F1 H1 A F'' H'' A ∧ Rl F'' H'' A h'' ∧ H'' D = some (.lst ws') ∧ DqAll F'' ws' acc'.reverse ∧ F'' D = none ∧ acc'.length ≤ i + 1 ∧
        PostE W cl σ F H A Q (noExc ((compL (turnR tg vs rc re ρ) (items.drop (i + 1)) acc' h'').bind fun ds h => .ok (.new ds) h)), fun H'' z => ?_, fun x H3 yl => ?_⟩
      · obtain ⟨F'', h'', acc', ws', k1, k2, k3, k4, k5, k6, k7⟩ := z
        exact ⟨items.length - (i + 1), by omega, F'', h'', acc', ws', k1, k2, k3, k4, k5, k6, hlt, rfl, k7⟩
      · obtain ⟨F3, e3, R3, qx⟩ := hy x H3 yl
        have e13 := e2.trans R2 e3
        unfold turnR at p2'
        cases eb : bindT tg items[i] (wipeE ρ vs) with
        | none => rw [eb] at p2'; exact p2'.elim
        | some ρ' =>
          rw [eb, ofOpt_some, Res.bind_ok] at p2'
          have Ew : EnvR F3 A (wipeE ρ vs) (wipe σ vs) := (((E.mono e1).mono e13)).wiped vs
          have keepD : ∀ {F4 H4 : Hp}, Ext F3 H3 A F4 H4 A → H4 D = some (.lst ws) ∧ F4 D = none := fun {F4 H4} e4 => by
            have h3 := e3.hp D _ hD nA1
            refine ⟨e4.hp D _ h3 nA1, ?_⟩
            cases q : F4 D with
            | none => rfl
            | some o =>
              rcases e4.nw D (by rw [q]; simp) with z | z
              · rcases e3.nw D z with z' | z'
                · exact absurd nF z'
                · rw [z'] at hD; cases hD
              · rw [z] at h3; cases h3
          refine ⟨F3, A, h', wipeE ρ vs, items[i], ρ', R3, Ew, qx, eb, fun σ2 E2 sx => ⟨wipe_same sx hvs, F3, A, h', ρ', R3, E2, ?_⟩⟩
          cases ec : rc ρ' h' with
          | bad => rw [ec] at p2'; exact p2'.elim
          | exc c h4 => rw [ec] at p2'; exact p2'.elim
          | ok t h4 =>
            rw [ec, Res.bind_ok] at p2'
            intro F4 H4 e4 R4
            have e14 := e13.trans R3 e4
            obtain ⟨d4, nf4⟩ := keepD e4
            cases t with
            | false =>
              rw [if_neg Bool.false_ne_true] at p2' ⊢
              exact ⟨F4, h4, acc, ws, e14, R4, d4, DqAll.mono (fun a o z => e4.fz a o (e3.fz a o z)) qw, nf4, by omega, p2'⟩
            | true =>
              rw [if_pos rfl] at p2' ⊢
              refine ⟨F4, A, h4, ρ', R4, E2.mono e4, ?_⟩
              cases ee : re ρ' h4 with
              | bad => rw [ee] at p2'; exact p2'.elim
              | exc c h5 => rw [ee] at p2'; exact p2'.elim
              | ok y h5 =>
                rw [ee, Res.bind_ok] at p2'
                intro F5 H5 v e5 R5 rv
                cases ea : asD y with
                | none => rw [ea] at p2'; exact p2'.elim
                | some d =>
                  rw [ea, Option.map_some, ofOpt_some, Res.bind_ok] at p2'
                  obtain ⟨F6, e6, R6, fz6, nw6, q6⟩ := rv.frz e5 R5 ea
                  have e36 := e4.trans R4 e6
                  obtain ⟨d6, nf6⟩ := keepD e36
                  have qw6 : DqAll F6 ws acc.reverse := DqAll.mono (fun a o z => e36.fz a o (e3.fz a o z)) qw
                  have hl : ws.length = acc.length := by rw [qw6.length, List.length_reverse]
                  refine ⟨ws, d6, by omega, F6, h5, d :: acc, ws ++ [v], ?_, ?_, upd_same, ?_, nf6, by rw [List.length_cons]; omega, p2'⟩
                  · have ex := e13.trans R3 e36
                    refine ⟨ex.fz, ex.al, fun a o z hA => ?_, ex.nw⟩
                    rw [upd_ne (ne_of_none z nD)]
                    exact ex.hp a o z hA
                  · refine ⟨fun a o z => ?_, R6.nd, R6.len, R6.off, fun n a ds z1 z2 => ?_⟩
                    · rw [upd_ne (fun w : a = D => by rw [w, nf6] at z; cases z)]; exact R6.sub a o z
                    · obtain ⟨us, c1, c2⟩ := R6.cell n a ds z1 z2
                      refine ⟨us, ?_, c2⟩
                      rw [upd_ne (fun w : a = D => nA1 (w ▸ List.mem_of_getElem? z1))]
                      exact c1
                  · rw [List.reverse_cons]
                    exact qw6.app (.cons q6 .nil)
    · left
      have hle : items.length ≤ i := by omega
      refine ⟨okk.2 hle, ?_⟩
      rw [List.drop_of_length_le hle] at p2
      have p3 : PostE W cl σ F H A Q (.ok (.new acc.reverse) h') := p2
      have ex := e1.trans R1 e2
      refine p3 F' H' (.ref D) ex R2 ⟨D, ws, rfl, hD, qw, nF, nA1, ?_⟩
      exact e1.same D nD nA1
end
end TB
set_option maxHeartbeats 4000000
namespace TB
open PySem L2
/-! ### statements -/
def PostS (W : WX) (cl : Nat → Value) (D : Ends) (F H : Hp) (A : List Addr) : Res Fl → Prop
  | .ok (.next ρ) h' => ∀ F' H' A' σ', Ext F H A F' H' A' → Rl F' H' A' h' → EnvR F' A' ρ σ' → D.nx σ' H'
  | .ok (.ret r) h' => ∀ F' H' A' v, Ext F H A F' H' A' → Rl F' H' A' h' → RVR H F' H' A' r v → D.rt v H'
  | .exc c h' => ∀ F' H' A' σ', Ext F H A F' H' A' → Rl F' H' A' h' → W (cl c) none σ' H'
  | .bad => False
abbrev SS := EV → HP → Res Fl
def tS (W : WX) (cl : Nat → Value) (r : SS) : TS := fun D σ H => ∃ F A h ρ, Rl F H A h ∧ EnvR F A ρ σ ∧ PostS W cl D F H A (r ρ h)
section
variable {F H F' H' F1 H1 F2 H2 : Hp} {A A' A1 : List Addr} {h h' h1 h2 : HP} {ρ : EV} {σ : St} {W : WX} {cl : Nat → Value} {D : Ends}
theorem none_back (e : Ext F H A F1 H1 A1) (R : Rl F1 H1 A1 h1) {a : Addr} (q : H1 a = none) : H a = none := by
  obtain ⟨B, hB, _⟩ := e.al
  by_cases ha : a ∈ A
  · obtain ⟨vs, z⟩ := R.tracked (show a ∈ A1 by rw [hB]; exact List.mem_append_left _ ha)
    rw [z] at q; cases q
  · cases q2 : H a with
    | none => rfl
    | some o => rw [e.hp a o q2 ha] at q; cases q
theorem RVR.back' {x : RV} {v : V} (r : RVR H1 F2 H2 A' x v) (e : Ext F H A F1 H1 A1) (R : Rl F1 H1 A1 h1) : RVR H F2 H2 A' x v := by
  cases x with
  | v x => exact r
  | new ds =>
    obtain ⟨a, vs, rfl, q1, q2, q3, q4, q5⟩ := r
    exact ⟨a, vs, rfl, q1, q2, q3, q4, none_back e R q5⟩
theorem PostS.after {r : Res Fl} (p : PostS W cl D F H A r) (e : Ext F H A F1 H1 A1) (R : Rl F1 H1 A1 h1) : PostS W cl D F1 H1 A1 r := by
  cases r with
  | ok f h2 =>
    cases f with
    | next ρ => exact fun F2 H2 A2 σ e2 R2 => p F2 H2 A2 σ (e.trans R e2) R2
    | ret r => exact fun F2 H2 A2 v e2 R2 rv => p F2 H2 A2 v (e.trans R e2) R2 (rv.back' e R)
  | exc c h2 => exact fun F2 H2 A2 σ e2 R2 => p F2 H2 A2 σ (e.trans R e2) R2
  | bad => exact p
/-- an expression first -/
theorem PostS.bind {r : Res RV} {k : RV → HP → Res Fl} (p : PostS W cl D F H A (r.bind k))
    (Q' : VK) (i : ∀ x h1, r = .ok x h1 → ∀ F1 H1 v, Ext F H A F1 H1 A → Rl F1 H1 A h1 → RVR H F1 H1 A x v → PostS W cl D F H A (k x h1) → Q' v H1) : PostE W cl σ F H A Q' r := by
  cases r with
  | ok x h1 => exact fun F1 H1 v e R rv => i x h1 rfl F1 H1 v e R rv p
  | exc c h1 => exact fun F1 H1 e R => p F1 H1 A σ e R
  | bad => exact p
theorem PostS.bindT {r : Res Bool} {k : Bool → HP → Res Fl} (p : PostS W cl D F H A (r.bind k))
    (Q' : Bool → Hp → Prop) (i : ∀ x h1 F1 H1, Ext F H A F1 H1 A → Rl F1 H1 A h1 → PostS W cl D F H A (k x h1) → Q' x H1) : PostT W cl σ F H A Q' r := by
  cases r with
  | ok x h1 => exact fun F1 H1 e R => i x h1 F1 H1 e R p
  | exc c h1 => exact fun F1 H1 e R => p F1 H1 A σ e R
  | bad => exact p
theorem PostS.bindI {r : Res (List PyData)} {k : List PyData → HP → Res Fl} (p : PostS W cl D F H A (r.bind k))
    (Q' : It → Hp → Prop) (i : ∀ x h1 F1 H1 J, Ext F H A F1 H1 A → Rl F1 H1 A h1 → ItOk F1 J x → PostS W cl D F H A (k x h1) → Q' J H1) : PostI W cl σ F H A Q' r := by
  cases r with
  | ok x h1 => exact fun F1 H1 J e R ok _ => i x h1 F1 H1 J e R ok p
  | exc c h1 => exact fun F1 H1 e R => p F1 H1 A σ e R
  | bad => exact p
end
section
variable {X : Cx} {W : WX} {cl : Nat → Value} {pos : Pos} {e : Expr} {ra rb rc : SE}
/-! ### name = value -/
def putR (i : Nat) (b : Bool) (ra : SE) : SS := fun ρ h => (ra ρ h).bind fun x h => putS i b x ρ h
theorem put_ok {F H F1 H1 : Hp} {A : List Addr} {h1 : HP} {D : Ends} {ρ : EV} {σ : St} {i : Nat} {b : Bool} {x : RV} {v : V} (p : PostS W cl D F H A (putS i b x ρ h1)) (e1 : Ext F H A F1 H1 A) (R1 : Rl F1 H1 A h1) (rv : RVR H F1 H1 A x v) (E : EnvR F A ρ σ) :
    D.nx (σ.set i (some v)) H1 := by
  unfold putS at p
  cases ep : putB ρ h1 i b x with
  | none => rw [ep] at p; exact p.elim
  | some pr =>
    rw [ep] at p
    unfold putB at ep
    by_cases hi : i < ρ.length
    · rw [if_pos hi] at ep
      cases b with
      | false =>
        have ep' : some (ρ.set i (some (settle x)), h1) = some pr := ep
        have := Option.some.inj ep'
        subst this
        obtain ⟨F2, e2, R2, fz, nw, q⟩ := rv.settle e1 R1
        exact p F2 H1 A _ e2 R2 ((E.mono e2).set q hi)
      | true =>
        cases x with
        | v x =>
          have ep' : some (ρ.set i (some x), h1) = some pr := ep
          have := Option.some.inj ep'
          subst this
          exact p F1 H1 A _ e1 R1 ((E.mono e1).set rv hi)
        | new ds =>
          have ep' : some (ρ.set i (some (.loc h1.length)), h1 ++ [ds]) = some pr := ep
          have := Option.some.inj ep'
          subst this
          obtain ⟨a, vs, rfl, q1, q2, q3, q4, q5⟩ := rv
          have hlA : A.length = h1.length := R1.len
          have e2 : Ext F H A F1 H1 (A ++ [a]) := ⟨e1.fz, ⟨[a], rfl, fun b hb => by rw [List.mem_singleton.mp hb]; exact q5⟩, e1.hp, e1.nw⟩
          have R2 : Rl F1 H1 (A ++ [a]) (h1 ++ [ds]) := by
            refine ⟨R1.sub, ?_, by rw [List.length_append, List.length_append, hlA]; rfl, fun b hb => ?_, fun n b es z1 z2 => ?_⟩
            · rw [List.nodup_append]
              refine ⟨R1.nd, by simp, fun y hy z hz => ?_⟩
              rw [List.mem_singleton.mp hz]
              exact fun w => q4 (w ▸ hy)
            · rcases List.mem_append.mp hb with hb | hb
              · exact R1.off b hb
              · rw [List.mem_singleton.mp hb]; exact q3
            · by_cases hn : n < A.length
              · rw [List.getElem?_append_left hn] at z1
                rw [List.getElem?_append_left (by rw [← hlA]; exact hn)] at z2
                exact R1.cell n b es z1 z2
              · rw [List.getElem?_append_right (by omega)] at z1
                rw [List.getElem?_append_right (by omega)] at z2
                have hn0 : n - A.length = 0 := by
                  have := (List.getElem?_eq_some_iff.mp z1).1
                  simp at this
                  omega
                rw [hn0] at z1
                rw [show n - h1.length = 0 by omega] at z2
                cases z1
                cases z2
                exact ⟨vs, q1, q2⟩
          refine p F1 H1 (A ++ [a]) _ e2 R2 ((E.mono e2).set (x := .loc h1.length) ⟨a, ?_, rfl⟩ hi)
          rw [← hlA, List.getElem?_append_right (Nat.le_refl _), Nat.sub_self]
          rfl
    · rw [if_neg hi] at ep; cases ep
theorem tS_put {te : TE} {i : Nat} {b : Bool} {D : Ends} {σ : St} {H : Hp} (p : tS W cl (putR i b ra) D σ H) : tAsg (tE W cl ra) (gName i) D σ H := by
  obtain ⟨F, A, h, ρ, R, E, p⟩ := p
  exact ⟨F, A, h, ρ, R, E, PostS.bind p _ fun x h1 _ F1 H1 v e1 R1 rv p1 => put_ok p1 e1 R1 rv E⟩
theorem ps_putC {i : Nat} {b : Bool} {x : Str} {pos' : Pos} (hN : X.N.Nodup) (hi : X.N[i]? = some x) (hx : Loc X.env.scope x) (hf : X.fn x = true ∨ X.env.scope.names.lookup x = some .local) (hs : swapsWith e (some (.Name x pos')) pos.line X.env = pure false) (he : PE X e (tE W cl ra)) :
    PS X (.Assign [.Name x pos'] e pos) (tS W cl (putR i b ra)) := PS.imp (ps_set hN hi hx he hs hf) fun D σ H p => tS_put (te := tE W cl ra) p
/-- (x, y) = value -/
def asgR (t : Tg) (ra : SE) : SS := fun ρ h => (ra ρ h).bind fun x h => (ofOpt ((asD x).bind fun d => bindT t d ρ) h).bind fun ρ h => .ok (.next ρ) h
theorem ps_asgC {tgE : Expr} {t : Tg} (hg : PG X tgE (tG t)) (he : PE X e (tE W cl ra)) (hs : swapsWithSole [tgE] e pos.line X.env = pure false) (hw : swappedStores [tgE] e X.env = pure none) (h1 : (assignEach [tgE] X.env).map (·.2) = [assign tgE X.env]) :
    PS X (.Assign [tgE] e pos) (tS W cl (asgR t ra)) := by
  refine PS.imp (ps_asg he hg hs hw h1) fun D σ H p => ?_
  obtain ⟨F, A, h, ρ, R, E, p⟩ := p
  refine ⟨F, A, h, ρ, R, E, PostS.bind p _ fun x h1 _ F1 H1 v e1 R1 rv p1 => ?_⟩
  cases eo : (asD x).bind fun d => bindT t d ρ with
  | none => rw [eo] at p1; exact p1.elim
  | some ρ' =>
    rw [eo, ofOpt_some, Res.bind_ok] at p1
    obtain ⟨d, ed, eb⟩ := opt_bind eo
    obtain ⟨F2, e2, R2, fz, nw, q⟩ := rv.frz e1 R1 ed
    exact ⟨F2, A, h1, ρ, d, ρ', R2, E.mono e2, q, eb, fun σ' E' _ => p1 F2 H1 A σ' e2 R2 E'⟩
/-- an expression alone -/
def expR (ra : SE) : SS := fun ρ h => (ra ρ h).bind fun _ h => .ok (.next ρ) h
theorem ps_expC (he : PE X e (tE W cl ra)) (hs : swapsWith e none pos.line X.env = pure false) : PS X (.Expr e pos) (tS W cl (expR ra)) := by
  refine PS.imp (ps_expr he hs) fun D σ H p => ?_
  obtain ⟨F, A, h, ρ, R, E, p⟩ := p
  exact ⟨F, A, h, ρ, R, E, PostS.bind p _ fun x h1 _ F1 H1 v e1 R1 rv p1 => p1 F1 H1 A σ e1 R1 (E.mono e1)⟩
/-- return -/
def retR (ra : SE) : SS := fun ρ h => (ra ρ h).bind fun x h => .ok (.ret x) h
theorem ps_retC (he : PE X e (tE W cl ra)) : PS X (.Return (some e) pos) (tS W cl (retR ra)) := by
  refine PS.imp (ps_ret he) fun D σ H p => ?_
  obtain ⟨F, A, h, ρ, R, E, p⟩ := p
  exact ⟨F, A, h, ρ, R, E, PostS.bind p _ fun x h1 _ F1 H1 v e1 R1 rv p1 => p1 F1 H1 A v e1 R1 rv⟩
def retNR : SS := fun _ h => .ok (.ret (.v (.dat .none))) h
theorem ps_retNC : PS X (.Return none pos) (tS W cl retNR) := PS.imp ps_retN fun D σ H ⟨F, A, h, ρ, R, E, p⟩ => p F H A .non Ext.refl R .non
def passR : SS := fun ρ h => .ok (.next ρ) h
theorem ps_passC : PS X (.Pass pos) (tS W cl passR) := PS.imp ps_pass fun D σ H ⟨F, A, h, ρ, R, E, p⟩ => p F H A σ Ext.refl R E
/-- if -/
def ifR (tc : EV → HP → Res Bool) (r1 r2 : SS) : SS := fun ρ h => (tc ρ h).bind fun t h => if t then r1 ρ h else r2 ρ h
theorem ps_ifC {c : Expr} {a b : List Stmt} {tc : EV → HP → Res Bool} {r1 r2 : SS} (hc : PT X c (tT W cl tc)) (ha : PSs X a (tS W cl r1)) (hb : PSs X b (tS W cl r2)) : PS X (.If c a b pos) (tS W cl (ifR tc r1 r2)) := by
  refine PS.imp (ps_if hc ha hb) fun D σ H p => ?_
  obtain ⟨F, A, h, ρ, R, E, p⟩ := p
  refine ⟨F, A, h, ρ, R, E, PostS.bindT p _ fun t h1 F1 H1 e1 R1 p1 => ?_⟩
  cases t with
  | true => exact ⟨F1, A, h1, ρ, R1, E.mono e1, p1.after e1 R1⟩
  | false => exact ⟨F1, A, h1, ρ, R1, E.mono e1, p1.after e1 R1⟩
/-- blocks -/
def seqS (r1 r2 : SS) : SS := fun ρ h => (r1 ρ h).bind fun f h => match f with
  | .next ρ => r2 ρ h
  | .ret r => .ok (.ret r) h
theorem pss_nilC : PSs X [] (tS W cl passR) := PSs.imp pss_nil fun D σ H ⟨F, A, h, ρ, R, E, p⟩ => p F H A σ Ext.refl R E
theorem seq_post {D : Ends} {F H : Hp} {A : List Addr} {r : Res Fl} {r2 : SS} {nx : St → Hp → Prop} {bk ct : St → Hp → Prop} (hn : ∀ ρ h1 F1 H1 A1 σ1, Ext F H A F1 H1 A1 → Rl F1 H1 A1 h1 → EnvR F1 A1 ρ σ1 → PostS W cl D F H A (r2 ρ h1) → nx σ1 H1)
    (p : PostS W cl D F H A (r.bind fun f h => match f with | .next ρ => r2 ρ h | .ret r => .ok (.ret r) h)) : PostS W cl { nx := nx, rt := D.rt, bk := bk, ct := ct } F H A r := by
  cases r with
  | bad => exact p
  | exc c h1 => exact p
  | ok f h1 =>
    cases f with
    | next ρ => exact fun F1 H1 A1 σ1 e R E => hn ρ h1 F1 H1 A1 σ1 e R E p
    | ret r => exact p
theorem pss_consC {st : Stmt} {rest : List Stmt} {r1 r2 : SS} (h1 : PS X st (tS W cl r1)) (h2 : PSs X rest (tS W cl r2)) : PSs X (st :: rest) (tS W cl (seqS r1 r2)) := by
  refine PSs.imp (pss_cons h1 h2) fun D σ H p => ?_
  obtain ⟨F, A, h, ρ, R, E, p⟩ := p
  refine ⟨F, A, h, ρ, R, E, seq_post (fun ρ1 h1 F1 H1 A1 σ1 e1 R1 E1 p1 => ?_) p⟩
  exact ⟨F1, A1, h1, ρ1, R1, E1, p1.after e1 R1⟩
/-- for -/
def forR (t : Tg) (ri : SI) (rb : SS) : SS := fun ρ h => (ri ρ h).bind fun items h => forL (fun x ρ h => (ofOpt (bindT t x ρ) h).bind fun ρ h => rb ρ h) items ρ h
theorem ps_forC {tgE iter : Expr} {body : List Stmt} {t : Tg} {ri : SI} {rb : SS} (hp : PassesOwn (model X.prog X.w) X.A X.env X.xe) (hc : X.calm = true) (hi : PI X tgE iter (tIt W cl ri)) (hg : PG X tgE (tG t)) (hb : PSs X body (tS W cl rb)) (hs : ∀ x, foldedSetIterable iter X.env x = pure x) :
    PS X (.For tgE iter body [] pos) (tS W cl (forR t ri rb)) := by
  refine PS.imp (ps_for hp hc hi hg hb hs) fun D σ H p => ?_
  obtain ⟨F, A, h, ρ, R, E, p⟩ := p
  refine ⟨F, A, h, ρ, R, E, PostS.bindI p _ fun items h1 F1 H1 J e1 R1 ok p1 => ?_⟩
  refine ⟨fun i m σ' H' => ∃ F' A' h' ρ', (∀ a o, F1 a = some o → F' a = some o) ∧ Rl F' H' A' h' ∧ EnvR F' A' ρ' σ' ∧ i ≤ items.length ∧ m = items.length - i ∧
      PostS W cl D F' H' A' (forL (fun x ρ h => (ofOpt (bindT t x ρ) h).bind fun ρ h => rb ρ h) (items.drop i) ρ' h'), ⟨items.length, F1, A, h1, ρ, fun _ _ z => z, R1, E.mono e1, Nat.zero_le _, by omega, p1.after e1 R1⟩, ?_⟩
  rintro i m σ' H' ⟨F', A', h', ρ', fz, R2, E2, hi, rfl, p2⟩
  have okk := ok F' H' A' h' fz R2 i
  by_cases hlt : i < items.length
  · right
    have hget : items[i]? = some items[i] := List.getElem?_eq_getElem hlt
    rw [List.drop_eq_getElem_cons hlt] at p2
    have p2' : PostS W cl D F' H' A' (((ofOpt (bindT t items[i] ρ') h').bind fun ρ h => rb ρ h).bind fun f h => match f with
      | .next ρ => forL (fun x ρ h => (ofOpt (bindT t x ρ) h).bind fun ρ h => rb ρ h) (items.drop (i + 1)) ρ h
      | .ret r => .ok (.ret r) h) := p2
    obtain ⟨hgo, hy⟩ := okk.1 _ hget
    refine ⟨hgo, fun σ'' H'' => ∃ F'' A'' h'' ρ'', (∀ a o, F1 a = some o → F'' a = some o) ∧ Rl F'' H'' A'' h'' ∧ EnvR F'' A'' ρ'' σ'' ∧ PostS W cl D F'' H'' A'' (forL (fun x ρ h => (ofOpt (bindT t x ρ) h).bind fun ρ h => rb ρ h) (items.drop (i + 1)) ρ'' h''), fun σ'' H'' z => ?_, fun x H3 yl => ?_⟩
    · obtain ⟨F'', A'', h'', ρ'', k1, k2, k3, k4⟩ := z
      exact ⟨items.length - (i + 1), by omega, F'', A'', h'', ρ'', k1, k2, k3, hlt, rfl, k4⟩
    · obtain ⟨F3, e3, R3, qx⟩ := hy x H3 yl
      cases eb : bindT t items[i] ρ' with
      | none => rw [eb] at p2'; exact p2'.elim
      | some ρ3 =>
        rw [eb, ofOpt_some, Res.bind_ok] at p2'
        refine ⟨F3, A', h', ρ', items[i], ρ3, R3, E2.mono e3, qx, eb, fun σ3 E3 _ => ?_⟩
        refine ⟨F3, A', h', ρ3, R3, E3, seq_post (fun ρ4 h4 F4 H4 A4 σ4 e4 R4 E4 p4 => ?_) (p2'.after e3 R3)⟩
        exact ⟨F4, A4, h4, ρ4, fun a o z => e4.fz a o (e3.fz a o (fz a o z)), R4, E4, p4.after e4 R4⟩
  · left
    have hle : items.length ≤ i := by omega
    refine ⟨okk.2 hle, ?_⟩
    rw [List.drop_of_length_le hle] at p2
    exact p2 F' H' A' σ' Ext.refl R2 E2
/-- while -/
def whileR (n : Nat) (tc : EV → HP → Res Bool) (rb : SS) : SS := fun ρ h => whileL tc rb n ρ h
theorem ps_whileC {c : Expr} {body : List Stmt} {n : Nat} {tc : EV → HP → Res Bool} {rb : SS} (hp : PassesOwn (model X.prog X.w) X.A X.env X.xe) (hc : PT X c (tT W cl tc)) (hb : PSs X body (tS W cl rb)) : PS X (.While c body [] pos) (tS W cl (whileR n tc rb)) := by
  refine PS.imp (ps_while hp hc hb) fun D σ H p => ?_
  obtain ⟨F, A, h, ρ, R, E, p⟩ := p
  refine ⟨fun m σ' H' => ∃ F' A' h' ρ', Rl F' H' A' h' ∧ EnvR F' A' ρ' σ' ∧ PostS W cl D F' H' A' (whileL tc rb m ρ' h'), ⟨n, F, A, h, ρ, R, E, p⟩, ?_⟩
  rintro m σ' H' ⟨F', A', h', ρ', R2, E2, p2⟩
  cases m with
  | zero => exact p2.elim
  | succ m =>
    have p2' : PostS W cl D F' H' A' ((tc ρ' h').bind fun t h => if t then (rb ρ' h).bind fun f h => match f with
      | .next ρ => whileL tc rb m ρ h
      | .ret r => .ok (.ret r) h
      else .ok (.next ρ') h) := p2
    refine ⟨F', A', h', ρ', R2, E2, PostS.bindT p2' _ fun t h1 F1 H1 e1 R1 p1 => ?_⟩
    cases t with
    | false => exact p1 F1 H1 A' σ' e1 R1 (E2.mono e1)
    | true =>
      refine ⟨fun σ'' H'' => ∃ F' A' h' ρ', Rl F' H'' A' h' ∧ EnvR F' A' ρ' σ'' ∧ PostS W cl D F' H'' A' (whileL tc rb m ρ' h'), fun σ'' H'' z => ⟨m, Nat.lt_succ_self m, z⟩, F1, A', h1, ρ', R1, E2.mono e1, seq_post (fun ρ4 h4 F4 H4 A4 σ4 e4 R4 E4 p4 => ?_) (p1.after e1 R1)⟩
      exact ⟨F4, A4, h4, ρ4, R4, E4, p4.after e4 R4⟩
/-- x += e -/
def augR (i : Nat) (ra : SE) : SS := fun ρ h => (ofOpt ((getV ρ i).bind fun o => (datOf h o).bind intOf) h).bind fun a h => (ra ρ h).bind fun x h => (ofOpt ((dat1 h x).bind intOf) h).bind fun b h =>
  .ok (.next (ρ.set i (some (.dat (.int (a + b)))))) h
theorem ps_augC {i : Nat} {x : Str} {pos' : Pos} (hN : X.N.Nodup) (hi : X.N[i]? = some x) (hx : Loc X.env.scope x) (hf : X.fn x = true ∨ X.env.scope.names.lookup x = some .local) (he : PE X e (tE W cl ra)) :
    PS X (.AugAssign (.Name x pos') .Add e pos) (tS W cl (augR i ra)) := by
  refine PS.imp (ps_aug hN hi hx he ip_add hf) fun D σ H p => ?_
  obtain ⟨F, A, h, ρ, R, E, p⟩ := p
  unfold augR at p
  cases eo : (getV ρ i).bind fun o => (datOf h o).bind intOf with
  | none => rw [eo] at p; exact p.elim
  | some a =>
    rw [eo, ofOpt_some, Res.bind_ok] at p
    obtain ⟨o, k1, eo⟩ := opt_bind eo
    obtain ⟨d, k2, k3⟩ := opt_bind eo
    unfold getV at k1
    cases e2 : ρ[i]? with
    | none => rw [e2] at k1; cases k1
    | some oo =>
      cases oo with
      | none => rw [e2] at k1; cases k1
      | some z =>
        rw [e2] at k1
        have : z = o := Option.some.inj k1
        subst this
        obtain ⟨v, q1, q2⟩ := E.2 i z e2
        have := int_of k3
        subst this
        have hv := (q2.dq R k2).int_inv
        subst hv
        refine ⟨.int a, q1, F, A, h, ρ, R, E, PostS.bind p _ fun x h1 _ F1 H1 v e1 R1 rv p1 => ?_⟩
        cases eb : (dat1 h1 x).bind intOf with
        | none => rw [eb] at p1; exact p1.elim
        | some b =>
          rw [eb, ofOpt_some, Res.bind_ok] at p1
          obtain ⟨d2, k4, k5⟩ := opt_bind eb
          have := int_of k5
          subst this
          have hv := (rv.dq R1 k4).int_inv
          subst hv
          exact ⟨a, b, rfl, rfl, p1 F1 H1 A _ e1 R1 ((E.mono e1).set (x := .dat (.int (a + b))) (.int _) (List.getElem?_eq_some_iff.mp e2).1)⟩
/-- x[i] = e -/
def setR (ro ri re : SE) : SS := fun ρ h => (re ρ h).bind fun z h => (ofOpt (asD z) h).bind fun d h => (ro ρ h).bind fun x h => (ri ρ h).bind fun y h => (ofOpt (setD h x y d) h).bind fun h' _ => .ok (.next ρ) h'
theorem ps_setC {o i : Expr} {ro ri re : SE} {pos' : Pos} (ho : PE X o (tE W cl ro)) (hi : PE X i (tE W cl ri)) (hi0 : noSet i = true) (he : PE X e (tE W cl re)) (hs : swapsWithSole [.Subscript o i pos'] e pos.line X.env = pure false) (hw : swappedStores [.Subscript o i pos'] e X.env = pure none) :
    PS X (.Assign [.Subscript o i pos'] e pos) (tS W cl (setR ro ri re)) := by
  have hg : PG X (.Subscript o i pos') (gSub (tE W cl ro) (tE W cl ri) rSetL) := pg_sub ho hi set_list (by
    intro v
    cases i <;> first | rfl | cases hi0)
  refine PS.imp (ps_asg he hg hs hw rfl) fun D σ H p => ?_
  obtain ⟨F, A, h, ρ, R, E, p⟩ := p
  refine ⟨F, A, h, ρ, R, E, PostS.bind p _ fun z h1 _ F1 H1 v e1 R1 rv p1 => ?_⟩
  cases ed : asD z with
  | none => rw [ed] at p1; exact p1.elim
  | some d =>
    rw [ed, ofOpt_some, Res.bind_ok] at p1
    obtain ⟨F2, e2, R2, _, _, qd⟩ := rv.frz e1 R1 ed
    have p1' := p1.after e2 R2
    refine ⟨F2, A, h1, ρ, R2, E.mono e2, PostS.bind p1' _ fun x h3 _ F3 H3 vx e3 R3 rx p3 => ?_⟩
    have p3' := p3.after e3 R3
    refine ⟨F3, A, h3, ρ, R3, (E.mono e2).mono e3, PostS.bind p3' _ fun y h4 _ F4 H4 vy e4 R4 ry p4 => ?_⟩
    have p4' := p4.after e4 R4
    cases es : setD h4 x y d with
    | none => rw [es] at p4'; exact p4'.elim
    | some h5 =>
      rw [es, ofOpt_some, Res.bind_ok] at p4'
      obtain ⟨n, k1, es⟩ := opt_bind es
      obtain ⟨xs, k2, es⟩ := opt_bind es
      obtain ⟨dk, k3, es⟩ := opt_bind es
      obtain ⟨k, k4, es⟩ := opt_bind es
      obtain ⟨xs', k5, rfl⟩ := opt_map es
      obtain ⟨j, k6, rfl⟩ := opt_map k5
      have := loc_inv k1
      subst this
      have := int_of k4
      subst this
      have rx' : VR F4 A (.loc n) vx := VR.mono (x := .loc n) rx e4
      obtain ⟨ad, ea, rfl⟩ := rx'
      obtain ⟨ws, c1, c2⟩ := R4.cell n ad xs ea k2
      have hk := (ry.dq R4 k3).int_inv
      subst hk
      have qd' : Dq F4 v d := Dq.mono (fun a o z => e4.fz a o (e3.fz a o z)) qd
      obtain ⟨R5, e5⟩ := R4.put ea (c2.set qd' j)
      refine ⟨ad, ws, k, j, rfl, rfl, c1, by rw [c2.length]; exact k6, ?_⟩
      exact p4' F4 _ A σ e5 R5 ((((E.mono e2).mono e3).mono e4).mono e5)
end
end TB
set_option maxHeartbeats 4000000
namespace TB
open PySem L2
section
variable {X : Cx} {W : WX} {cl : Nat → Value} {pos : Pos} {e : Expr} {ra rb rc : SE}
theorem put_core {F H F1 H1 : Hp} {A0 A : List Addr} {h1 : HP} {ρ : EV} {σ : St} {i : Nat} {b : Bool} {x : RV} {v : V} {pr : EV × HP} (ep : putB ρ h1 i b x = some pr) (e1 : Ext F H A0 F1 H1 A) (R1 : Rl F1 H1 A h1) (rv : RVR H F1 H1 A x v) (E : EnvR F1 A ρ σ) :
    ∃ F2 A2, Ext F H A0 F2 H1 A2 ∧ Rl F2 H1 A2 pr.2 ∧ EnvR F2 A2 pr.1 (σ.set i (some v)) ∧ (∀ a o, F1 a = some o → F2 a = some o) ∧ (∃ B, A2 = A ++ B) ∧ ∀ c, ((∃ ds, x = .new ds) → v ≠ .ref c) → (F1 c = none → F2 c = none) ∧ (c ∉ A → c ∉ A2) := by
  unfold putB at ep
  by_cases hi : i < ρ.length
  · rw [if_pos hi] at ep
    cases b with
    | false =>
      have ep' : some (ρ.set i (some (settle x)), h1) = some pr := ep
      have := Option.some.inj ep'
      subst this
      cases x with
      | v x => exact ⟨F1, A, e1, R1, E.set rv hi, fun _ _ z => z, ⟨[], by simp⟩, fun c _ => ⟨id, id⟩⟩
      | new ds =>
        obtain ⟨a, vs, rfl, q1, q2, q3, q4, q5⟩ := rv
        have hs : ∀ b u, F1 b = some u → upd F1 a (.lst vs) b = some u := fun b u z => by rw [upd_ne (ne_of_none z q3)]; exact z
        refine ⟨upd F1 a (.lst vs), A, e1.frz q5 q3, R1.frz q1 q3 q4, ?_, hs, ⟨[], by simp⟩, fun c hc => ⟨fun z => ?_, id⟩⟩
        · refine EnvR.set (x := .dat (.list ds)) ⟨E.1, fun j y z => ?_⟩ (.lst (.inl upd_same) (DqAll.mono hs q2)) hi
          obtain ⟨w, k1, k2⟩ := E.2 j y z
          refine ⟨w, k1, ?_⟩
          cases y with
          | dat d => exact Dq.mono hs k2
          | loc n => exact k2
        · rw [upd_ne (fun w : c = a => hc ⟨ds, rfl⟩ (by rw [w]))]; exact z
    | true =>
      cases x with
      | v x =>
        have ep' : some (ρ.set i (some x), h1) = some pr := ep
        have := Option.some.inj ep'
        subst this
        exact ⟨F1, A, e1, R1, E.set rv hi, fun _ _ z => z, ⟨[], by simp⟩, fun c _ => ⟨id, id⟩⟩
      | new ds =>
        have ep' : some (ρ.set i (some (.loc h1.length)), h1 ++ [ds]) = some pr := ep
        have := Option.some.inj ep'
        subst this
        obtain ⟨a, vs, rfl, q1, q2, q3, q4, q5⟩ := rv
        have hlA : A.length = h1.length := R1.len
        obtain ⟨B0, hB0, nB0⟩ := e1.al
        have e2 : Ext F H A0 F1 H1 (A ++ [a]) := ⟨e1.fz, ⟨B0 ++ [a], by rw [hB0, List.append_assoc], fun b hb => by
          rcases List.mem_append.mp hb with hb | hb
          · exact nB0 b hb
          · rw [List.mem_singleton.mp hb]; exact q5⟩, e1.hp, e1.nw⟩
        have R2 : Rl F1 H1 (A ++ [a]) (h1 ++ [ds]) := by
          refine ⟨R1.sub, ?_, by rw [List.length_append, List.length_append, hlA]; rfl, fun b hb => ?_, fun n b es z1 z2 => ?_⟩
          · rw [List.nodup_append]
            refine ⟨R1.nd, by simp, fun y hy z hz => ?_⟩
            rw [List.mem_singleton.mp hz]
            exact fun w => q4 (w ▸ hy)
          · rcases List.mem_append.mp hb with hb | hb
            · exact R1.off b hb
            · rw [List.mem_singleton.mp hb]; exact q3
          · by_cases hn : n < A.length
            · rw [List.getElem?_append_left hn] at z1
              rw [List.getElem?_append_left (by rw [← hlA]; exact hn)] at z2
              exact R1.cell n b es z1 z2
            · rw [List.getElem?_append_right (by omega)] at z1
              rw [List.getElem?_append_right (by omega)] at z2
              have hn0 : n - A.length = 0 := by
                have := (List.getElem?_eq_some_iff.mp z1).1
                simp at this
                omega
              rw [hn0] at z1
              rw [show n - h1.length = 0 by omega] at z2
              cases z1
              cases z2
              exact ⟨vs, q1, q2⟩
        refine ⟨F1, A ++ [a], e2, R2, ?_, fun _ _ z => z, ⟨[a], rfl⟩, fun c hc => ⟨id, fun z w => ?_⟩⟩
        · refine EnvR.set (x := .loc h1.length) ⟨E.1, fun j y z => ?_⟩ ⟨a, ?_, rfl⟩ hi
          · obtain ⟨w, k1, k2⟩ := E.2 j y z
            refine ⟨w, k1, ?_⟩
            cases y with
            | dat d => exact k2
            | loc n =>
              obtain ⟨a', k3, rfl⟩ := k2
              exact ⟨a', by rw [List.getElem?_append_left (List.getElem?_eq_some_iff.mp k3).1]; exact k3, rfl⟩
          · rw [← hlA, List.getElem?_append_right (Nat.le_refl _), Nat.sub_self]
            rfl
        · rcases List.mem_append.mp w with w | w
          · exact z w
          · exact hc ⟨ds, rfl⟩ (by rw [List.mem_singleton.mp w])
  · rw [if_neg hi] at ep; cases ep
def par2R (i j : Nat) (b c : Bool) (ra rb : SE) : SS := fun ρ h => (ra ρ h).bind fun x h => (rb ρ h).bind fun y h => parS [(i, b), (j, c)] [x, y] ρ h
theorem par_two {F H F1 H1 F2 H2 : Hp} {A : List Addr} {h1 h2 : HP} {D : Ends} {ρ : EV} {σ : St} {i j : Nat} {b c : Bool} {x y : RV} {v w : V} (p : PostS W cl D F H A (parS [(i, b), (j, c)] [x, y] ρ h2)) (e1 : Ext F H A F1 H1 A) (R1 : Rl F1 H1 A h1) (rx : RVR H F1 H1 A x v)
    (e2 : Ext F1 H1 A F2 H2 A) (R2 : Rl F2 H2 A h2) (ry : RVR H1 F2 H2 A y w) (E : EnvR F A ρ σ) :
    ∃ F4 A4 ρ4 h4, Ext F H A F4 H2 A4 ∧ Rl F4 H2 A4 h4 ∧ EnvR F4 A4 ρ4 ((σ.set i (some v)).set j (some w)) ∧ PostS W cl D F H A (.ok (.next ρ4) h4) := by
  unfold parS at p
  cases ep : putPar [(i, b), (j, c)] [x, y] ρ h2 with
  | none => rw [ep] at p; exact p.elim
  | some pr =>
    rw [ep] at p
    obtain ⟨p1, k1, ep⟩ := opt_bind (show (putB ρ h2 i b x).bind (fun p => (putB p.1 p.2 j c y).bind fun p => some (p.1, p.2)) = some pr from ep)
    obtain ⟨p2, k2, ep⟩ := opt_bind ep
    have e12 := e1.trans R1 e2
    obtain ⟨F3, A3, e3, R3, E3, fz3, ⟨B3, hA3⟩, sep⟩ := put_core k1 e12 R2 (rx.mono e2) ((E.mono e1).mono e2)
    have ry' : RVR H F3 H2 A3 y w := by
      cases y with
      | v y =>
        cases y with
        | dat d => exact Dq.mono fz3 ry
        | loc n =>
          obtain ⟨a', q3, rfl⟩ := ry
          exact ⟨a', by rw [hA3, List.getElem?_append_left (List.getElem?_eq_some_iff.mp q3).1]; exact q3, rfl⟩
      | new ds =>
        obtain ⟨a', vs, rfl, q1, q2, q3, q4, q5⟩ := ry
        have hne : (∃ ds, x = .new ds) → v ≠ .ref a' := fun ⟨es, ex⟩ z => by
          subst ex
          obtain ⟨a1, vs1, rfl, r1, _⟩ := rx
          cases z
          rw [q5] at r1; cases r1
        exact ⟨a', vs, rfl, q1, DqAll.mono fz3 q2, (sep a' hne).1 q3, (sep a' hne).2 q4, none_back e1 R1 q5⟩
    obtain ⟨F4, A4, e4, R4, E4, _⟩ := put_core k2 e3 R3 ry' E3
    have := Option.some.inj ep
    subst this
    exact ⟨F4, A4, _, _, e4, R4, E4, p⟩
theorem PostS.bindB {σ : St} {D : Ends} {F H F1 H1 : Hp} {A : List Addr} {h1 : HP} {r : Res RV} {k : RV → HP → Res Fl} (p : PostS W cl D F H A (r.bind k)) (e : Ext F H A F1 H1 A) (R : Rl F1 H1 A h1)
    (Q' : VK) (i : ∀ x h2, r = .ok x h2 → ∀ F2 H2 v, Ext F1 H1 A F2 H2 A → Rl F2 H2 A h2 → RVR H1 F2 H2 A x v → PostS W cl D F H A (k x h2) → Q' v H2) : PostE W cl σ F1 H1 A Q' r := by
  cases r with
  | ok x h2 => exact fun F2 H2 v e2 R2 rv => i x h2 rfl F2 H2 v e2 R2 rv p
  | exc c h2 => exact fun F2 H2 e2 R2 => p F2 H2 A σ (e.trans R e2) R2
  | bad => exact p
/-- x, y = a, b with plain local names -/
theorem ps_par2C {i j : Nat} {b c : Bool} {x y : Str} {a1 a2 : Expr} {px py pt : Pos} {kt k2 : Nat} {pt2 : Pos} (hc : X.calm = true) (hN : X.N.Nodup) (hi : X.N[i]? = some x) (hj : X.N[j]? = some y) (hij : i ≠ j) (hx : X.env.scope.names.lookup x = some .local) (hy : X.env.scope.names.lookup y = some .local)
    (h10 : noSet a1 = true) (h20 : noSet a2 = true) (h1 : PE X a1 (tE W cl ra)) (h2 : PE X a2 (tE W cl rb)) (hw : swappedStores [.Tuple [.Name x px, .Name y py] kt pt] (.Tuple [a1, a2] k2 pt2) X.env = pure (some [x, y])) :
    PS X (.Assign [.Tuple [.Name x px, .Name y py] kt pt] (.Tuple [a1, a2] k2 pt2) pos) (tS W cl (par2R i j b c ra rb)) := by
  refine PS.imp (ps_par hc hN hi hj hij hx hy (pa_cons h1 (pa_cons h2 pa_nil (star1 h20)) (star1 h10)) hw) fun D σ H p => ?_
  obtain ⟨F, A, h, ρ, R, E, p⟩ := p
  refine ⟨F, A, h, ρ, R, E, PostS.bind p _ fun u h1 _ F1 H1 v e1 R1 rx p1 => ?_⟩
  refine ⟨F1, A, h1, ρ, R1, E.mono e1, PostS.bindB p1 e1 R1 _ fun z h2 _ F2 H2 w e2 R2 ry p2 => ?_⟩
  obtain ⟨F4, A4, ρ4, h4, e4, R4, E4, p4⟩ := par_two p2 e1 R1 rx e2 R2 ry E
  exact ⟨v, w, rfl, p4 F4 H2 A4 _ e4 R4 E4⟩
/-- .. where a name is captured: a tuple is built, then unpacked -/
theorem ps_par2D {i j : Nat} {b c : Bool} {x y : Str} {a1 a2 : Expr} {px py pt : Pos} {kt k2 : Nat} {pt2 : Pos} (hc : X.calm = true) (hN : X.N.Nodup) (hi : X.N[i]? = some x) (hj : X.N[j]? = some y) (hx : Loc X.env.scope x) (hy : Loc X.env.scope y) (fx : X.fn x = true ∨ X.env.scope.names.lookup x = some .local) (fy : X.fn y = true ∨ X.env.scope.names.lookup y = some .local)
    (h10 : noSet a1 = true) (h20 : noSet a2 = true) (h1 : PE X a1 (tE W cl ra)) (h2 : PE X a2 (tE W cl rb)) (hw : swappedStores [.Tuple [.Name x px, .Name y py] kt pt] (.Tuple [a1, a2] k2 pt2) X.env = pure none) :
    PS X (.Assign [.Tuple [.Name x px, .Name y py] kt pt] (.Tuple [a1, a2] k2 pt2) pos) (tS W cl (par2R i j b c ra rb)) := by
  refine PS.imp (ps_asg (pe_tup (pa_cons h1 (pa_cons h2 pa_nil (star1 h20)) (star1 h10))) (pg_tup hc (pgs_cons (pg_name hN hi hx fx) (pgs_cons (pg_name hN hj hy fy) pgs_nil))) rfl hw) fun D σ H p => ?_
  obtain ⟨F, A, h, ρ, R, E, p⟩ := p
  refine ⟨F, A, h, ρ, R, E, PostS.bind p _ fun u h1 _ F1 H1 v e1 R1 rx p1 => ?_⟩
  refine ⟨F1, A, h1, ρ, R1, E.mono e1, PostS.bindB p1 e1 R1 _ fun z h2 _ F2 H2 w e2 R2 ry p2 => ?_⟩
  obtain ⟨F4, A4, ρ4, h4, e4, R4, E4, p4⟩ := par_two p2 e1 R1 rx e2 R2 ry E
  refine ⟨by show 2 ≤ sizeLine; rw [sizeLine_eq]; decide, fun T nT => ?_⟩
  refine ⟨T, [v, w], rfl, .inl (.inl upd_same), rfl, v, [w], rfl, w, [], rfl, rfl, ?_⟩
  exact p4 F4 _ A4 _ (e4.trans R4 (Ext.laid nT R4)) (R4.laid nT) E4
def par3R (i j l : Nat) (b c d : Bool) (ra rb rc : SE) : SS := fun ρ h => (ra ρ h).bind fun x h => (rb ρ h).bind fun y h => (rc ρ h).bind fun z h => parS [(i, b), (j, c), (l, d)] [x, y, z] ρ h
theorem rv_shift {H H1 F2 H2 F3 : Hp} {A A3 : List Addr} {y : RV} {w : V} (ry : RVR H1 F2 H2 A y w) (fz : ∀ a o, F2 a = some o → F3 a = some o) (hA : ∃ B, A3 = A ++ B)
    (sep : ∀ c, w = .ref c → H1 c = none → (F2 c = none → F3 c = none) ∧ (c ∉ A → c ∉ A3)) (back : ∀ c, H1 c = none → H c = none) : RVR H F3 H2 A3 y w := by
  obtain ⟨B3, hA3⟩ := hA
  cases y with
  | v y =>
    cases y with
    | dat d => exact Dq.mono fz ry
    | loc n =>
      obtain ⟨a', q3, rfl⟩ := ry
      exact ⟨a', by rw [hA3, List.getElem?_append_left (List.getElem?_eq_some_iff.mp q3).1]; exact q3, rfl⟩
  | new ds =>
    obtain ⟨a', vs, rfl, q1, q2, q3, q4, q5⟩ := ry
    exact ⟨a', vs, rfl, q1, DqAll.mono fz q2, (sep a' rfl q5).1 q3, (sep a' rfl q5).2 q4, back a' q5⟩
theorem par_three {F H F1 H1 F2 H2 F3 H3 : Hp} {A : List Addr} {h1 h2 h3 : HP} {D : Ends} {ρ : EV} {σ : St} {i j l : Nat} {b c d : Bool} {x y z : RV} {v w u : V} (p : PostS W cl D F H A (parS [(i, b), (j, c), (l, d)] [x, y, z] ρ h3)) (e1 : Ext F H A F1 H1 A) (R1 : Rl F1 H1 A h1) (rx : RVR H F1 H1 A x v)
    (e2 : Ext F1 H1 A F2 H2 A) (R2 : Rl F2 H2 A h2) (ry : RVR H1 F2 H2 A y w) (e3 : Ext F2 H2 A F3 H3 A) (R3 : Rl F3 H3 A h3) (rz : RVR H2 F3 H3 A z u) (E : EnvR F A ρ σ) :
    ∃ F4 A4 ρ4 h4, Ext F H A F4 H3 A4 ∧ Rl F4 H3 A4 h4 ∧ EnvR F4 A4 ρ4 (((σ.set i (some v)).set j (some w)).set l (some u)) ∧ PostS W cl D F H A (.ok (.next ρ4) h4) := by
  unfold parS at p
  cases ep : putPar [(i, b), (j, c), (l, d)] [x, y, z] ρ h3 with
  | none => rw [ep] at p; exact p.elim
  | some pr =>
    rw [ep] at p
    obtain ⟨p1, k1, ep⟩ := opt_bind (show (putB ρ h3 i b x).bind (fun p => (putB p.1 p.2 j c y).bind fun p => (putB p.1 p.2 l d z).bind fun p => some (p.1, p.2)) = some pr from ep)
    obtain ⟨p2, k2, ep⟩ := opt_bind ep
    obtain ⟨p3, k3, ep⟩ := opt_bind ep
    have e12 := e1.trans R1 e2
    have e13 := e12.trans R2 e3
    obtain ⟨F4, A4, e4, R4, E4, fz4, hA4, sep4⟩ := put_core k1 e13 R3 ((rx.mono e2).mono e3) (((E.mono e1).mono e2).mono e3)
    have up2 : ∀ a o, H1 a = some o → a ∉ A → H2 a = some o := e2.hp
    have ry4 : RVR H F4 H3 A4 y w := rv_shift (ry.mono e3) fz4 hA4 (fun a' ew q5 => sep4 a' fun ⟨es, ex⟩ z => by
      subst ex
      obtain ⟨a1, vs1, rfl, r1, _⟩ := rx
      cases z
      cases ew
      rw [q5] at r1; cases r1) fun a' q => none_back e1 R1 q
    have rz4 : RVR H F4 H3 A4 z u := rv_shift rz fz4 hA4 (fun a' ew q5 => sep4 a' fun ⟨es, ex⟩ z => by
      subst ex
      obtain ⟨a1, vs1, rfl, r1, _, _, r4, _⟩ := rx
      cases z
      cases ew
      have := up2 _ _ r1 r4
      rw [q5] at this; cases this) fun a' q => none_back e12 R2 q
    obtain ⟨F5, A5, e5, R5, E5, fz5, hA5, sep5⟩ := put_core k2 e4 R4 ry4 E4
    have rz5 : RVR H F5 H3 A5 z u := by
      cases z with
      | v z =>
        cases z with
        | dat d => exact Dq.mono fz5 rz4
        | loc n =>
          obtain ⟨a', q3, rfl⟩ := rz4
          obtain ⟨B5, hB5⟩ := hA5
          exact ⟨a', by rw [hB5, List.getElem?_append_left (List.getElem?_eq_some_iff.mp q3).1]; exact q3, rfl⟩
      | new ds =>
        obtain ⟨a', vs, rfl, q1, q2, q3, q4, q5⟩ := rz
        obtain ⟨a'', vs'', hh, s1, s2, s3, s4, s5⟩ := rz4
        cases hh
        have hne : (∃ ds, y = .new ds) → w ≠ .ref a' := fun ⟨es, ex⟩ z => by
          subst ex
          obtain ⟨a1, vs1, rfl, r1, _⟩ := ry
          cases z
          rw [q5] at r1; cases r1
        exact ⟨a', vs'', rfl, s1, DqAll.mono fz5 s2, (sep5 a' hne).1 s3, (sep5 a' hne).2 s4, s5⟩
    obtain ⟨F6, A6, e6, R6, E6, _⟩ := put_core k3 e5 R5 rz5 E5
    have := Option.some.inj ep
    subst this
    exact ⟨F6, A6, _, _, e6, R6, E6, p⟩
/-- x, y, z = a, b, c with plain local names -/
theorem ps_par3C {i j l : Nat} {b c d : Bool} {x y z : Str} {a1 a2 a3 : Expr} {px py pz pt : Pos} {kt k2 : Nat} {pt2 : Pos} (hc : X.calm = true) (hN : X.N.Nodup) (hi : X.N[i]? = some x) (hj : X.N[j]? = some y) (hl : X.N[l]? = some z) (hij : i ≠ j) (hil : i ≠ l) (hjl : j ≠ l)
    (hx : X.env.scope.names.lookup x = some .local) (hy : X.env.scope.names.lookup y = some .local) (hz : X.env.scope.names.lookup z = some .local)
    (h10 : noSet a1 = true) (h20 : noSet a2 = true) (h30 : noSet a3 = true) (h1 : PE X a1 (tE W cl ra)) (h2 : PE X a2 (tE W cl rb)) (h3 : PE X a3 (tE W cl rc)) (hw : swappedStores [.Tuple [.Name x px, .Name y py, .Name z pz] kt pt] (.Tuple [a1, a2, a3] k2 pt2) X.env = pure (some [x, y, z])) :
    PS X (.Assign [.Tuple [.Name x px, .Name y py, .Name z pz] kt pt] (.Tuple [a1, a2, a3] k2 pt2) pos) (tS W cl (par3R i j l b c d ra rb rc)) := by
  refine PS.imp (ps_par3 hc hN hi hj hl hij hil hjl hx hy hz (pa_cons h1 (pa_cons h2 (pa_cons h3 pa_nil (star1 h30)) (star1 h20)) (star1 h10)) hw) fun D σ H p => ?_
  obtain ⟨F, A, h, ρ, R, E, p⟩ := p
  refine ⟨F, A, h, ρ, R, E, PostS.bind p _ fun u h1 _ F1 H1 v e1 R1 rx p1 => ?_⟩
  refine ⟨F1, A, h1, ρ, R1, E.mono e1, PostS.bindB p1 e1 R1 _ fun z h2 _ F2 H2 w e2 R2 ry p2 => ?_⟩
  refine ⟨F2, A, h2, ρ, R2, (E.mono e1).mono e2, PostS.bindB p2 (e1.trans R1 e2) R2 _ fun z h3 _ F3 H3 u e3 R3 rz p3 => ?_⟩
  obtain ⟨F4, A4, ρ4, h4, e4, R4, E4, p4⟩ := par_three p3 e1 R1 rx e2 R2 ry e3 R3 rz E
  exact ⟨v, w, u, rfl, p4 F4 H3 A4 _ e4 R4 E4⟩
end
end TB
set_option maxHeartbeats 4000000
namespace TB
open PySem L2
section
variable {X : Cx} {W : WX} {cl : Nat → Value} {pos : Pos}
/-- an own exception, made without arguments -/
theorem pmk_own0 {C : Addr} {bmB : List Value} {B newId initId : String} {x : Str} {p pos : Pos} (Fb : ExcBaseFacts B newId initId bmB) (q : PySem.W.excIn X.K C bmB newId = true) (gC : X.mg x = some (.ref C)) (kC : PySem.W.keepIn X.K (.ref C) = true) (r : Raises X (.ref C)) (hg : Gl X x) (hdb : (x == ("__debug__" : Str)) = false) :
    PMk X (.Call (.Name x p) [] [] pos) (fun _ H Q => Q (.ref C) none H) := by
  intro pins s σ H Q I h
  refine wpAny_Call_Name_kw (ld_glob I hg gC ?_ hdb)
  refine PySem.W.callWith_K0 I.kIn kC ?_
  obtain ⟨bm, N, nm, qn, bs, hdct, sn, sub, ab, col, dd, k0, k1, k2, k3, k5, mN, hC, hN, hni, T⟩ := exc_obj I.kIn q
  refine wpAny_call_exc_subT Fb T hC hN hni (fun h' e hm => ?_) (Nat.zero_le _)
  exact mk_of I hm r h (I.hok.gone hm.new)
def raiseR (c : Nat) : SS := fun _ h => .exc c h
theorem ps_raiseC {C : Addr} {bmB : List Value} {B newId initId : String} {x : Str} {p pos2 : Pos} {c : Nat} (hc : X.calm = true) (tk : Takes X W) (Fb : ExcBaseFacts B newId initId bmB) (q : PySem.W.excIn X.K C bmB newId = true) (gC : X.mg x = some (.ref C)) (kC : PySem.W.keepIn X.K (.ref C) = true)
    (r : Raises X (.ref C)) (hg : Gl X x) (hdb : (x == ("__debug__" : Str)) = false) (hcl : cl c = .ref C) : PS X (.Raise (some (.Call (.Name x p) [] [] pos2)) none pos) (tS W cl (raiseR c)) := by
  refine PS.imp (ps_raise hc tk (pmk_own0 Fb q gC kC r hg hdb)) fun D σ H ⟨F, A, h, ρ, R, E, p⟩ => ?_
  have := p F H A σ Ext.refl R
  rw [hcl] at this
  exact this
/-- try, the clauses give back constants -/
def tryR (r : SS) (hs : List (Nat × PyData)) : SS := fun ρ h => match r ρ h with
  | .exc c h' => (match handle 0 c hs with
      | some d => .ok (.ret (.v (.dat d))) h'
      | none => .exc c h')
  | r => r
inductive HdC (X : Cx) (cl : Nat → Value) : List ExceptHandler → List (Nat × PyData) → List (Value × (Addr → Value → Option Addr → TS)) → Prop
  | nil : HdC X cl [] [] []
  | cons {x : Str} {k : Nat} {d : PyData} {v : V} {e : Expr} {np pos' rp : Pos} {hds : List ExceptHandler} {hs : List (Nat × PyData)} {l : List (Value × (Addr → Value → Option Addr → TS))} (hc : Names X x (cl k)) (he : ∀ Y : Cx, PE Y e (tC v)) (hd : ∀ F, Dq F v d) (r : HdC X cl hds hs l) :
      HdC X cl (.ExceptHandler (some (.Name x np)) none [.Return (some e) rp] pos' :: hds) ((k, d) :: hs) ((cl k, fun _ _ _ => tRet (tC v)) :: l)
theorem HdC.ok {hds : List ExceptHandler} {hs : List (Nat × PyData)} {l : List (Value × (Addr → Value → Option Addr → TS))} (h : HdC X cl hds hs l) : HdsOk X hds l := by
  induction h with
  | nil => exact .nil
  | cons hc he hd r ih => exact .cons hc (fun a oe cls d pn _ _ => pss_one (ps_ret (he _))) ih
theorem HdC.many {hds : List ExceptHandler} {hs : List (Nat × PyData)} {l : List (Value × (Addr → Value → Option Addr → TS))} (h : HdC X cl hds hs l) {D : Ends} {c : Nat} {σ : St} {F H : Hp} {A : List Addr} {h' : HP} (R : Rl F H A h')
    (hx : ∀ k d, (k, d) ∈ hs → PySem.W.exmOne X.K (cl c) (cl k) = some (decide (c = k ∨ k = 0)))
    (yes : ∀ d, handle 0 c hs = some d → ∀ v, Dq F v d → D.rt v H) (no : handle 0 c hs = none → W (cl c) none σ H) : wMany X.K W D l (cl c) none σ H := by
  induction h with
  | nil => exact no rfl
  | @cons x k d v e np pos' rp hds hs l hc he hd r ih =>
    refine ⟨decide (c = k ∨ k = 0), hx k d List.mem_cons_self, fun hb a na => ?_, fun hb => ?_⟩
    · have hck : c = k ∨ k = 0 := of_decide_eq_true hb
      refine yes d ?_ v (hd F)
      show (if c = k ∨ k = 0 then some d else handle 0 c hs) = some d
      rw [if_pos hck]
    · have hck : ¬ (c = k ∨ k = 0) := of_decide_eq_false hb
      have e : handle 0 c ((k, d) :: hs) = handle 0 c hs := by
        show (if c = k ∨ k = 0 then some d else handle 0 c hs) = _
        rw [if_neg hck]
      rw [e] at yes no
      exact ih (fun k' d' m => hx k' d' (List.mem_cons_of_mem _ m)) yes no
theorem ps_tryC {body : List Stmt} {h0 : ExceptHandler} {hds : List ExceptHandler} {hs : List (Nat × PyData)} {l : List (Value × (Addr → Value → Option Addr → TS))} {rb : SS} (hst : X.stack = X.env :: X.outer) (hf : X.env.frame = some X.env.locals) (tk : Takes X W)
    (hb : ∀ (W : WX) (pn : List (Addr × Obj)) (xe : Value → Shared → Prop), Takes (X.tr pn xe) W → PassesOwn (model X.prog X.w) X.A X.env xe → PSs (X.tr pn xe) body (tS W cl rb)) (hh : HdC X cl (h0 :: hds) hs l)
    (hx : ∀ c k d, (k, d) ∈ hs → PySem.W.exmOne X.K (cl c) (cl k) = some (decide (c = k ∨ k = 0))) : PS X (.Try body (h0 :: hds) [] [] pos) (tS W cl (tryR rb hs)) := by
  refine PS.imp (ps_try_many hst hf tk hb hh.ok) fun D σ H p => ?_
  obtain ⟨F, A, h, ρ, R, E, p⟩ := p
  refine ⟨F, A, h, ρ, R, E, ?_⟩
  unfold tryR at p
  cases er : rb ρ h with
  | bad => rw [er] at p; exact p
  | ok f h1 =>
    rw [er] at p
    cases f with
    | next ρ1 => exact p
    | ret r => exact p
  | exc c h1 =>
    rw [er] at p
    intro F1 H1 A1 σ1 e1 R1
    refine hh.many R1 (fun k d m => hx c k d m) (fun d ed v q => ?_) (fun en => ?_)
    · have p' : PostS W cl D F H A (match handle 0 c hs with | some d => .ok (.ret (.v (.dat d))) h1 | none => .exc c h1) := p
      rw [ed] at p'
      exact p' F1 H1 A1 v e1 R1 q
    · have p' : PostS W cl D F H A (match handle 0 c hs with | some d => .ok (.ret (.v (.dat d))) h1 | none => .exc c h1) := p
      rw [en] at p'
      exact p' F1 H1 A1 σ1 e1 R1
end
end TB
set_option maxHeartbeats 4000000
namespace TB
open PySem L2
/-! ### walking what a name holds: a list that may be changed elsewhere, but not while it is walked -/
mutual
theorem eqD_eq : ∀ a b : PyData, eqD a b = true → a = b
  | .none, b, h => by cases b <;> first | rfl | exact nomatch (show false = true from h)
  | .bool x, b, h => by
    cases b with
    | bool y => have : x = y := by simpa [eqD] using h
                rw [this]
    | _ => exact nomatch (show false = true from h)
  | .int x, b, h => by
    cases b with
    | int y => have : x = y := by simpa [eqD] using h
               rw [this]
    | _ => exact nomatch (show false = true from h)
  | .str x, b, h => by
    cases b with
    | str y => have : x = y := by simpa [eqD] using h
               rw [this]
    | _ => exact nomatch (show false = true from h)
  | .list x, b, h => by
    cases b with
    | list y => rw [eqDs_eq x y h]
    | _ => exact nomatch (show false = true from h)
  | .tuple x, b, h => by
    cases b with
    | tuple y => rw [eqDs_eq x y h]
    | _ => exact nomatch (show false = true from h)
  | .dict x, b, h => by
    cases b with
    | dict y => rw [eqKv_eq x y h]
    | _ => exact nomatch (show false = true from h)
theorem eqDs_eq : ∀ a b : List PyData, eqDs a b = true → a = b
  | [], b, h => by cases b <;> first | rfl | exact nomatch (show false = true from h)
  | x :: xs, b, h => by
    cases b with
    | nil => exact nomatch (show false = true from h)
    | cons y ys =>
      have h' : (eqD x y && eqDs xs ys) = true := h
      rw [Bool.and_eq_true] at h'
      rw [eqD_eq x y h'.1, eqDs_eq xs ys h'.2]
theorem eqKv_eq : ∀ a b : List (PyData × PyData), eqKv a b = true → a = b
  | [], b, h => by cases b <;> first | rfl | exact nomatch (show false = true from h)
  | (u, v) :: xs, b, h => by
    cases b with
    | nil => exact nomatch (show false = true from h)
    | cons y ys =>
      obtain ⟨c, d⟩ := y
      have h' : (eqD u c && eqD v d && eqKv xs ys) = true := h
      rw [Bool.and_eq_true, Bool.and_eq_true] at h'
      rw [eqD_eq u c h'.1.1, eqD_eq v d h'.1.2, eqKv_eq xs ys h'.2]
end
def ItOkC (C : HP → Prop) (F : Hp) (A : List Addr) (J : It) (items : List PyData) : Prop := ∀ (F2 H2 : Hp) (B : List Addr) (h2 : HP), (∀ a o, F a = some o → F2 a = some o) → Rl F2 H2 (A ++ B) h2 → C h2 → ∀ i : Nat,
  (∀ d, items[i]? = some d → J.go i H2 ∧ ∀ x H3, J.yld i H2 x H3 → ∃ F3, Ext F2 H2 (A ++ B) F3 H3 (A ++ B) ∧ Rl F3 H3 (A ++ B) h2 ∧ Dq F3 x d) ∧ (items.length ≤ i → J.stop i H2)
theorem ItOk.toC {C : HP → Prop} {F : Hp} {A : List Addr} {J : It} {items : List PyData} (ok : ItOk F J items) : ItOkC C F A J items := fun F2 H2 B h2 fz R _ i => ok F2 H2 (A ++ B) h2 fz R i
theorem ItOkC.box {K : PySem.W.Frag} {F : Hp} {A : List Addr} {n : Nat} {a : Addr} {ds : List PyData} (ha : A[n]? = some a) : ItOkC (fun h => guardD (some n) ds h = true) F A (Itl K a) ds := fun F2 H2 B h2 fz R hg i => by
  have ha2 : (A ++ B)[n]? = some a := by rw [List.getElem?_append_left (List.getElem?_eq_some_iff.mp ha).1]; exact ha
  have hd : h2[n]? = some ds := by
    have hg' : (match h2[n]? with | some es => eqDs es ds | none => false) = true := hg
    cases e : h2[n]? with
    | none => rw [e] at hg'; cases hg'
    | some es => rw [e] at hg'; rw [eqDs_eq es ds hg']
  obtain ⟨vs, r2, q⟩ := R.cell n a ds ha2 hd
  refine ⟨fun d e => ?_, fun hl => ⟨vs, .inl (.inl r2), by rw [q.length]; exact hl⟩⟩
  obtain ⟨v, ev, qd⟩ := q.get e
  refine ⟨⟨vs, v, .inl (.inl r2), ev⟩, fun x H3 y => ?_⟩
  obtain ⟨rfl, hx⟩ := y
  have ex : v = x := Option.some.inj (ev.symm.trans (hx vs (.inl (.inl r2))))
  subst ex
  exact ⟨F2, Ext.refl, R, qd⟩
def tItB (i : Nat) : TI := fun σ H Q => ∃ F A h ρ o items, Rl F H A h ∧ EnvR F A ρ σ ∧ boxI ρ h i = some (o, items) ∧ ∀ J, ItOkC (fun h => guardD o items h = true) F A J items → items.length ≤ sizeLine → Q J H
section
variable {X : Cx} {W : WX} {cl : Nat → Value} {pos : Pos} {tgE iter elt : Expr} {ifs : List Expr} {scope : Scope} {ownP : List (Str × Nat)} {tg : Tg} {ri : SI} {rc : EV → HP → Res Bool} {re : SE}
theorem pi_boxC {i : Nat} {x : Str} (hN : X.N[i]? = some x) (hv : Vis X.env.scope x) (hd : (x == ("__debug__" : Str)) = false) (hcd : (x == ("__classdict__" : Str)) = false) : PI X tgE (.Name x pos) (tItB i) := by
  refine PI.imp (pi_seq (pe_var hN hv hd hcd)) fun σ H Q p => ?_
  obtain ⟨F, A, h, ρ, o, items, R, E, eb, q⟩ := p
  unfold boxI at eb
  cases eg : getV ρ i with
  | none => rw [eg] at eb; cases eb
  | some z =>
    rw [eg] at eb
    have er : ρ[i]? = some (some z) := by
      unfold getV at eg
      cases e2 : ρ[i]? with
      | none => rw [e2] at eg; cases eg
      | some o2 =>
        cases o2 with
        | none => rw [e2] at eg; cases eg
        | some y =>
          rw [e2] at eg
          rw [Option.some.inj eg]
    obtain ⟨v, k1, k2⟩ := E.2 i z er
    refine ⟨v, k1, ?_⟩
    cases z with
    | loc n =>
      obtain ⟨ds, e1, e2⟩ := opt_map (show (h[n]?).map (fun ds => (some n, ds)) = some (o, items) from eb)
      cases e2
      obtain ⟨a, ea, rfl⟩ := k2
      obtain ⟨vs, c1, c2⟩ := R.cell n a items ea e1
      exact ⟨a, vs, rfl, .inl ⟨.inl c1, fun hz => q _ (ItOkC.box ea) (by rw [← c2.length]; exact hz)⟩⟩
    | dat d =>
      obtain ⟨ds, e1, e2⟩ := opt_map (show (itemsD d).map (fun ds => (none, ds)) = some (o, items) from eb)
      cases e2
      have k2' : Dq F v d := k2
      obtain ⟨ad, vs, rfl, q1, q2⟩ := k2'.items e1
      refine ⟨ad, vs, rfl, ?_⟩
      rcases q2 with ⟨_, q2⟩ | ⟨_, q2⟩
      · exact .inl ⟨Rd.mono R.sub q2, fun hz => q _ (ItOk.list q2 q1).toC (by rw [← q1.length]; exact hz)⟩
      · exact .inr ⟨Rd.mono R.sub q2, fun hz => q _ (ItOk.tuple q2 q1).toC (by rw [← q1.length]; exact hz)⟩
def compBR (tg : Tg) (own : List Nat) (i : Nat) (rc : EV → HP → Res Bool) (re : SE) : SE := fun ρ h => match boxI ρ h i with
  | some (o, items) => noExc ((compG (guardD o items) (turnR tg own rc re ρ) items [] h).bind fun ds h => .ok (.new ds) h)
  | none => .bad
theorem compG_bad {g : HP → Bool} {turn : PyData → HP → Res (Option PyData)} {l acc : List PyData} {h : HP} (hg : g h = false) : compG g turn l acc h = .bad := by
  cases l with
  | nil => show (if g h = true then _ else _) = _; rw [hg]; rfl
  | cons x xs => show (if g h = true then _ else _) = _; rw [hg]; rfl
theorem compG_cons {g : HP → Bool} {turn : PyData → HP → Res (Option PyData)} {x : PyData} {l acc : List PyData} {h : HP} (hg : g h = true) : compG g turn (x :: l) acc h = (turn x h).bind fun o h' => compG g turn l (match o with | some y => y :: acc | none => acc) h' := if_pos hg
theorem compG_nil {g : HP → Bool} {turn : PyData → HP → Res (Option PyData)} {acc : List PyData} {h : HP} (hg : g h = true) : compG g turn [] acc h = .ok acc.reverse h := if_pos hg
theorem forG_bad {g : HP → Bool} {body : PyData → EV → HP → Res Fl} {l : List PyData} {ρ : EV} {h : HP} (hg : g h = false) : forG g body l ρ h = .bad := by
  cases l with
  | nil => show (if g h = true then _ else _) = _; rw [hg]; rfl
  | cons x xs => show (if g h = true then _ else _) = _; rw [hg]; rfl
theorem forG_cons {g : HP → Bool} {body : PyData → EV → HP → Res Fl} {x : PyData} {l : List PyData} {ρ : EV} {h : HP} (hg : g h = true) : forG g body (x :: l) ρ h = (body x ρ h).bind fun f h => match f with
    | .next ρ => forG g body l ρ h
    | .ret r => .ok (.ret r) h := if_pos hg
theorem forG_nil {g : HP → Bool} {body : PyData → EV → HP → Res Fl} {ρ : EV} {h : HP} (hg : g h = true) : forG g body [] ρ h = .ok (.next ρ) h := if_pos hg
theorem tLcG_of {σ : St} {H : Hp} {Q : VK} {vs : List Nat} {i : Nat} (hvs : ∀ i ∈ slots tg, i ∈ vs) (p : tE W cl (compBR tg vs i rc re) σ H Q) :
    tLc (tItB i) (tG tg) (tT W0 cl rc) (tE W0 cl re) vs σ H Q := by
  obtain ⟨F, A, h, ρ, R, E, p⟩ := p
  unfold compBR at p
  cases eb : boxI ρ h i with
  | none => rw [eb] at p; exact p.elim
  | some q =>
    obtain ⟨og, items⟩ := q
    rw [eb] at p
    dsimp only at p
    refine ⟨F, A, h, ρ, og, items, R, E, eb, fun J ok hz D nD => ?_⟩
    have e1 : Ext F H A F H A := Ext.refl
    have nF1 := R.notF nD
    have nA1 := R.notA nD
    refine ⟨fun i m H' => ∃ F' h' acc ws, Ext F H A F' H' A ∧ Rl F' H' A h' ∧ H' D = some (.lst ws) ∧ DqAll F' ws acc.reverse ∧ F' D = none ∧ acc.length ≤ i ∧ i ≤ items.length ∧ m = items.length - i ∧
      PostE W cl σ F H A Q (noExc ((compG (guardD og items) (turnR tg vs rc re ρ) (items.drop i) acc h').bind fun ds h => .ok (.new ds) h)), ⟨items.length, F, h, [], [], Ext.laid nD R, R.laid nD, upd_same, .nil, nF1, Nat.le_refl _, Nat.zero_le _, by omega, p⟩, ?_⟩
    rintro i m H' ⟨F', h', acc, ws, e2, R2, hD, qw, nF, hacc, hi, rfl, p2⟩
    have hg : guardD og items h' = true := by
      cases q : guardD og items h' with
      | true => rfl
      | false => rw [compG_bad q] at p2; exact p2.elim
    have okk := ok F' H' [] h' e2.fz (by rw [List.append_nil]; exact R2) hg i
    rw [List.append_nil] at okk
    by_cases hlt : i < items.length
    · right
      have hget : items[i]? = some items[i] := List.getElem?_eq_getElem hlt
      rw [List.drop_eq_getElem_cons hlt, compG_cons hg] at p2
      have p2' : PostE W cl σ F H A Q (noExc (((turnR tg vs rc re ρ items[i] h').bind fun o h'' => compG (guardD og items) (turnR tg vs rc re ρ) (items.drop (i + 1)) (match o with | some y => y :: acc | none => acc) h'').bind fun ds h => .ok (.new ds) h)) := p2
      obtain ⟨hgo, hy⟩ := okk.1 _ hget
      refine ⟨hgo, fun H'' => ∃ F'' h'' acc' ws', Ext F H A F'' H'' A ∧ Rl F'' H'' A h'' ∧ H'' D = some (.lst ws') ∧ DqAll F'' ws' acc'.reverse ∧ F'' D = none ∧ acc'.length ≤ i + 1 ∧
        PostE W cl σ F H A Q (noExc ((compG (guardD og items) (turnR tg vs rc re ρ) (items.drop (i + 1)) acc' h'').bind fun ds h => .ok (.new ds) h)), fun H'' z => ?_, fun x H3 yl => ?_⟩
      · obtain ⟨F'', h'', acc', ws', k1, k2, k3, k4, k5, k6, k7⟩ := z
        exact ⟨items.length - (i + 1), by omega, F'', h'', acc', ws', k1, k2, k3, k4, k5, k6, hlt, rfl, k7⟩
      · obtain ⟨F3, e3, R3, qx⟩ := hy x H3 yl
        have e13 := e2.trans R2 e3
        unfold turnR at p2'
        cases eb : bindT tg items[i] (wipeE ρ vs) with
        | none => rw [eb] at p2'; exact p2'.elim
        | some ρ' =>
          rw [eb, ofOpt_some, Res.bind_ok] at p2'
          have Ew : EnvR F3 A (wipeE ρ vs) (wipe σ vs) := (((E.mono e1).mono e13)).wiped vs
          have keepD : ∀ {F4 H4 : Hp}, Ext F3 H3 A F4 H4 A → H4 D = some (.lst ws) ∧ F4 D = none := fun {F4 H4} e4 => by
            have h3 := e3.hp D _ hD nA1
            refine ⟨e4.hp D _ h3 nA1, ?_⟩
            cases q : F4 D with
            | none => rfl
            | some o =>
              rcases e4.nw D (by rw [q]; simp) with z | z
              · rcases e3.nw D z with z' | z'
                · exact absurd nF z'
                · rw [z'] at hD; cases hD
              · rw [z] at h3; cases h3
          refine ⟨F3, A, h', wipeE ρ vs, items[i], ρ', R3, Ew, qx, eb, fun σ2 E2 sx => ⟨wipe_same sx hvs, F3, A, h', ρ', R3, E2, ?_⟩⟩
          cases ec : rc ρ' h' with
          | bad => rw [ec] at p2'; exact p2'.elim
          | exc c h4 => rw [ec] at p2'; exact p2'.elim
          | ok t h4 =>
            rw [ec, Res.bind_ok] at p2'
            intro F4 H4 e4 R4
            have e14 := e13.trans R3 e4
            obtain ⟨d4, nf4⟩ := keepD e4
            cases t with
            | false =>
              rw [if_neg Bool.false_ne_true] at p2' ⊢
              exact ⟨F4, h4, acc, ws, e14, R4, d4, DqAll.mono (fun a o z => e4.fz a o (e3.fz a o z)) qw, nf4, by omega, p2'⟩
            | true =>
              rw [if_pos rfl] at p2' ⊢
              refine ⟨F4, A, h4, ρ', R4, E2.mono e4, ?_⟩
              cases ee : re ρ' h4 with
              | bad => rw [ee] at p2'; exact p2'.elim
              | exc c h5 => rw [ee] at p2'; exact p2'.elim
              | ok y h5 =>
                rw [ee, Res.bind_ok] at p2'
                intro F5 H5 v e5 R5 rv
                cases ea : asD y with
                | none => rw [ea] at p2'; exact p2'.elim
                | some d =>
                  rw [ea, Option.map_some, ofOpt_some, Res.bind_ok] at p2'
                  obtain ⟨F6, e6, R6, fz6, nw6, q6⟩ := rv.frz e5 R5 ea
                  have e36 := e4.trans R4 e6
                  obtain ⟨d6, nf6⟩ := keepD e36
                  have qw6 : DqAll F6 ws acc.reverse := DqAll.mono (fun a o z => e36.fz a o (e3.fz a o z)) qw
                  have hl : ws.length = acc.length := by rw [qw6.length, List.length_reverse]
                  refine ⟨ws, d6, by omega, F6, h5, d :: acc, ws ++ [v], ?_, ?_, upd_same, ?_, nf6, by rw [List.length_cons]; omega, p2'⟩
                  · have ex := e13.trans R3 e36
                    refine ⟨ex.fz, ex.al, fun a o z hA => ?_, ex.nw⟩
                    rw [upd_ne (ne_of_none z nD)]
                    exact ex.hp a o z hA
                  · refine ⟨fun a o z => ?_, R6.nd, R6.len, R6.off, fun n a ds z1 z2 => ?_⟩
                    · rw [upd_ne (fun w : a = D => by rw [w, nf6] at z; cases z)]; exact R6.sub a o z
                    · obtain ⟨us, c1, c2⟩ := R6.cell n a ds z1 z2
                      refine ⟨us, ?_, c2⟩
                      rw [upd_ne (fun w : a = D => nA1 (w ▸ List.mem_of_getElem? z1))]
                      exact c1
                  · rw [List.reverse_cons]
                    exact qw6.app (.cons q6 .nil)
    · left
      have hle : items.length ≤ i := by omega
      refine ⟨okk.2 hle, ?_⟩
      rw [List.drop_of_length_le hle, compG_nil hg] at p2
      have p3 : PostE W cl σ F H A Q (.ok (.new acc.reverse) h') := p2
      have ex := e1.trans R e2
      refine p3 F' H' (.ref D) ex R2 ⟨D, ws, rfl, hD, qw, nF, nA1, ?_⟩
      exact e1.same D nD nA1
def forBR (t : Tg) (i : Nat) (rb : SS) : SS := fun ρ h => match boxI ρ h i with
  | some (o, items) => forG (guardD o items) (fun x ρ h => (ofOpt (bindT t x ρ) h).bind fun ρ h => rb ρ h) items ρ h
  | none => .bad
theorem ps_forB {tgE iter : Expr} {body : List Stmt} {t : Tg} {i : Nat} {rb : SS} (hp : PassesOwn (model X.prog X.w) X.A X.env X.xe) (hc : X.calm = true) (hi : PI X tgE iter (tItB i)) (hg : PG X tgE (tG t)) (hb : PSs X body (tS W cl rb)) (hs : ∀ x, foldedSetIterable iter X.env x = pure x) :
    PS X (.For tgE iter body [] pos) (tS W cl (forBR t i rb)) := by
  refine PS.imp (ps_for hp hc hi hg hb hs) fun D σ H p => ?_
  obtain ⟨F, A, h, ρ, R, E, p⟩ := p
  unfold forBR at p
  cases eb : boxI ρ h i with
  | none => rw [eb] at p; exact p.elim
  | some q =>
    obtain ⟨og, items⟩ := q
    rw [eb] at p
    dsimp only at p
    refine ⟨F, A, h, ρ, og, items, R, E, eb, fun J ok hz => ?_⟩
    refine ⟨fun i m σ' H' => ∃ F' A' h' ρ', (∀ a o, F a = some o → F' a = some o) ∧ (∃ Bx, A' = A ++ Bx) ∧ Rl F' H' A' h' ∧ EnvR F' A' ρ' σ' ∧ i ≤ items.length ∧ m = items.length - i ∧
        PostS W cl D F' H' A' (forG (guardD og items) (fun x ρ h => (ofOpt (bindT t x ρ) h).bind fun ρ h => rb ρ h) (items.drop i) ρ' h'), ⟨items.length, F, A, h, ρ, fun _ _ z => z, ⟨[], by simp⟩, R, E, Nat.zero_le _, by omega, p⟩, ?_⟩
    rintro i m σ' H' ⟨F', A', h', ρ', fz, ⟨Bx, rfl⟩, R2, E2, hi, rfl, p2⟩
    have hg' : guardD og items h' = true := by
      cases q : guardD og items h' with
      | true => rfl
      | false => rw [forG_bad q] at p2; exact p2.elim
    have okk := ok F' H' Bx h' fz R2 hg' i
    by_cases hlt : i < items.length
    · right
      have hget : items[i]? = some items[i] := List.getElem?_eq_getElem hlt
      rw [List.drop_eq_getElem_cons hlt, forG_cons hg'] at p2
      have p2' : PostS W cl D F' H' (A ++ Bx) (((ofOpt (bindT t items[i] ρ') h').bind fun ρ h => rb ρ h).bind fun f h => match f with
        | .next ρ => forG (guardD og items) (fun x ρ h => (ofOpt (bindT t x ρ) h).bind fun ρ h => rb ρ h) (items.drop (i + 1)) ρ h
        | .ret r => .ok (.ret r) h) := p2
      obtain ⟨hgo, hy⟩ := okk.1 _ hget
      refine ⟨hgo, fun σ'' H'' => ∃ F'' A'' h'' ρ'', (∀ a o, F a = some o → F'' a = some o) ∧ (∃ Bx, A'' = A ++ Bx) ∧ Rl F'' H'' A'' h'' ∧ EnvR F'' A'' ρ'' σ'' ∧ PostS W cl D F'' H'' A'' (forG (guardD og items) (fun x ρ h => (ofOpt (bindT t x ρ) h).bind fun ρ h => rb ρ h) (items.drop (i + 1)) ρ'' h''), fun σ'' H'' z => ?_, fun x H3 yl => ?_⟩
      · obtain ⟨F'', A'', h'', ρ'', k1, k0, k2, k3, k4⟩ := z
        exact ⟨items.length - (i + 1), by omega, F'', A'', h'', ρ'', k1, k0, k2, k3, hlt, rfl, k4⟩
      · obtain ⟨F3, e3, R3, qx⟩ := hy x H3 yl
        cases eb : bindT t items[i] ρ' with
        | none => rw [eb] at p2'; exact p2'.elim
        | some ρ3 =>
          rw [eb, ofOpt_some, Res.bind_ok] at p2'
          refine ⟨F3, (A ++ Bx), h', ρ', items[i], ρ3, R3, E2.mono e3, qx, eb, fun σ3 E3 _ => ?_⟩
          refine ⟨F3, (A ++ Bx), h', ρ3, R3, E3, seq_post (fun ρ4 h4 F4 H4 A4 σ4 e4 R4 E4 p4 => ?_) (p2'.after e3 R3)⟩
          obtain ⟨B4, hB4, _⟩ := e4.al
          exact ⟨F4, A4, h4, ρ4, fun a o z => e4.fz a o (e3.fz a o (fz a o z)), ⟨Bx ++ B4, by rw [hB4, List.append_assoc]⟩, R4, E4, p4.after e4 R4⟩
    · left
      have hle : items.length ≤ i := by omega
      refine ⟨okk.2 hle, ?_⟩
      rw [List.drop_of_length_le hle, forG_nil hg'] at p2
      exact p2 F' H' (A ++ Bx) σ' Ext.refl R2 E2
end
end TB
set_option maxHeartbeats 4000000
namespace TB
open PySem L2
/-! ### the core term against the text -/
def visB (sc : Scope) (x : Str) : Bool := match sc.names.lookup x with
  | some .local => true
  | some .cell => true
  | some .free => true
  | _ => false
def locB (sc : Scope) (x : Str) : Bool := match sc.names.lookup x with
  | some .local => true
  | some .cell => true
  | _ => false
def cfB (sc : Scope) (x : Str) : Bool := match sc.names.lookup x with
  | some .free => true
  | some .cell => true
  | _ => false
def glB (sc : Scope) (x : Str) : Bool := match sc.names.lookup x with
  | some .globalImplicit => true
  | _ => false
def cstB : PyData → Const → Bool
  | .none, .none => true
  | .bool a, .bool b => a == b
  | .int a, .int b => a == b
  | .str a, .str b => a == b
  | _, _ => false
def bltNames : List Str := ["len", "all", "any", "sum", "max", "min", "abs", "tuple", "list", "int", "range", "zip", "isinstance", "bool", "str", "sorted", "set", "enumerate"]
/-! shapes of the text -/
def sCall1 : Expr → Option (Str × Expr)
  | .Call (.Name nm _) [x] [] _ => some (nm, x)
  | _ => none
def sCall0 : Expr → Option Str
  | .Call (.Name nm _) [] [] _ => some nm
  | _ => none
def sCall2 : Expr → Option (Str × Expr × Expr)
  | .Call (.Name nm _) [x, y] [] _ => some (nm, x, y)
  | _ => none
def sCallN : Expr → Option (Str × Expr × List Expr)
  | .Call (.Name nm _) (x :: xs) [] _ => some (nm, x, xs)
  | _ => none
def sMeth1 : Expr → Option (Expr × Str × Expr)
  | .Call (.Attribute o m ap) [x] [] p => if ap.endLine == p.line then some (o, m, x) else none
  | _ => none
def sMeth0 : Expr → Option (Expr × Str)
  | .Call (.Attribute o m ap) [] [] p => if ap.endLine == p.line then some (o, m) else none
  | _ => none
def sName : Expr → Option Str
  | .Name x _ => some x
  | _ => none
def sCmp1 : Expr → Option (Expr × CmpOp × Expr)
  | .Compare a [op] [b] _ => some (a, op, b)
  | _ => none
def sCmp2 : Expr → Option (Expr × CmpOp × Expr × CmpOp × Expr)
  | .Compare a [o1, o2] [b, c] _ => some (a, o1, b, o2, c)
  | _ => none
def sBool : Expr → Option (BoolOp × Expr × Expr × List Expr × Pos)
  | .BoolOp op (a :: b :: rest) p => some (op, a, b, rest, p)
  | _ => none
def sSub : Expr → Option (Expr × Expr)
  | .Subscript a b _ => some (a, b)
  | _ => none
def sSlice : Expr → Option (Expr × Option Expr × Option Expr)
  | .Subscript a (.Slice lo hi none _) _ => some (a, lo, hi)
  | _ => none
def sRev : Expr → Option Expr
  | .Subscript a (.Slice none none (some (.UnaryOp .USub (.Constant (.int 1) _ _) _)) _) _ => some a
  | _ => none
def sNone : Expr → Bool
  | .Constant .none _ _ => true
  | _ => false
def sComp : Expr → Option (Expr × Expr × Expr × List Expr × Scope)
  | .ListComp elt [⟨tg, it, ifs, 0⟩] scope _ => some (elt, tg, it, ifs, scope)
  | _ => none
def sTup : Expr → Bool
  | .Tuple .. => true
  | _ => false
def noIf : Expr → Bool
  | .IfExp .. => false
  | _ => true
def eBO (a : BO) (b : Operator) : Bool := opOf a == b
def eCO (a : CO) (b : CmpOp) : Bool := cOf a == b
def b1Name : B1 → Str
  | .len => "len" | .all => "all" | .any => "any" | .sum => "sum" | .max => "max" | .min => "min" | .abs => "abs" | .tuple => "tuple" | .list => "list" | .int => "int" | .listRange => "list" | .tupRange => "tuple" | .lenSet => "len"
def b1Ok : B1 → Bool
  | .listRange => false | .tupRange => false | .lenSet => false
  | _ => true
def ownPairs (N : List Str) (own : List Nat) : List (Str × Nat) := own.map fun i => (N.getD i "", i)
def blkB (N : List Str) (sc scope : Scope) (own : List Nat) : Bool :=
  scope.kind == .function && scope.names.all (fun y => scope.names.lookup y.1 == some y.2) && own.all (fun i => decide (i < N.length)) &&
  scope.names.all (fun y => y.2 != .free || cfB sc y.1) && scope.names.all (fun y => !(y.2 == .local || y.2 == .cell) || ((ownPairs N own).map (·.1)).contains y.1 || !N.contains y.1)
section
variable (P : Prog) (cn : List Str) (N : List Str)
mutual
def chkG (sc : Scope) : Tg → Expr → Bool
  | .name i, e => match sName e with
    | some x => N[i]? == some x && locB sc x
    | none => false
  | .nil, e => match e with
    | .Tuple [] _ _ => true
    | _ => false
  | .cons t u, e => match e with
    | .Tuple (x :: xs) _ _ => noStar x && chkG sc t x && chkGs sc u xs
    | _ => false
def chkGs (sc : Scope) : Tg → List Expr → Bool
  | .name _, _ => false
  | .nil, xs => match xs with
    | [] => true
    | _ => false
  | .cons t u, xs => match xs with
    | x :: xs => noStar x && chkG sc t x && chkGs sc u xs
    | _ => false
end
def chkB (sc : Scope) (i : Nat) (e : Expr) : Bool := match sName e with
  | some x => N[i]? == some x && visB sc x && (x == ("__debug__" : Str)) == false && (x == ("__classdict__" : Str)) == false
  | none => false
mutual
def chkE : CE → Scope → Expr → Bool
  | .var i, sc, e => match sName e with
    | some x => N[i]? == some x && visB sc x && (x == ("__debug__" : Str)) == false && (x == ("__classdict__" : Str)) == false
    | none => false
  | .cst d, _, e => match e with
    | .Constant c _ _ => cstB d c
    | _ => false
  | .tup es, sc, e => match e with
    | .Tuple xs _ _ => decide (xs.length ≤ 1000) && chkEs es sc xs
    | _ => false
  | .lst es, sc, e => match e with
    | .List xs _ => decide (xs.length ≤ 1000) && chkEs es sc xs
    | _ => false
  | .bin op a b, sc, e => match e with
    | .BinOp x o y _ => eBO op o && chkE a sc x && chkE b sc y
    | _ => false
  | .neg a, sc, e => match e with
    | .UnaryOp .USub x _ => chkE a sc x
    | _ => false
  | .not a, sc, e => match e with
    | .UnaryOp .Not x _ => noIf x && chkE a sc x
    | _ => false
  | .and a b, sc, e => match sBool e with
    | some (.And, x, y, rest, p) => noIf x && chkE a sc x && (match rest with | [] => noIf y && chkE b sc y | _ :: _ => chkE b sc (.BoolOp .And (y :: rest) p))
    | _ => false
  | .or a b, sc, e => match sBool e with
    | some (.Or, x, y, rest, p) => noIf x && chkE a sc x && (match rest with | [] => noIf y && chkE b sc y | _ :: _ => chkE b sc (.BoolOp .Or (y :: rest) p))
    | _ => false
  | .cmp op a b, sc, e => match sCmp1 e with
    | some (x, o, y) => eCO op o && noSet y && chkE a sc x && chkE b sc y
    | none => false
  | .isN neg a, sc, e => match sCmp1 e with
    | some (x, o, y) => (o == (if neg then .IsNot else .Is)) && sNone y && chkE a sc x
    | none => false
  | .chain o1 o2 a b c, sc, e => match sCmp2 e with
    | some (x, p1, y, p2, z) => eCO o1 p1 && eCO o2 p2 && noSet z && chkE a sc x && chkE b sc y && chkE c sc z
    | none => false
  | .ite c a b, sc, e => match e with
    | .IfExp z x y _ => noIf z && chkE c sc z && chkE a sc x && chkE b sc y
    | _ => false
  | .idx a i, sc, e => match sSub e with
    | some (x, y) => noSet y && chkE a sc x && chkE i sc y
    | none => false
  | .slice a lo hi, sc, e => match sSlice e with
    | some (x, l, u) => chkE a sc x && chkP lo sc l && chkP hi sc u
    | none => false
  | .rev a, sc, e => match sRev e with
    | some x => chkE a sc x
    | none => false
  | .call f es, sc, e => match sCallN e, P.lookup f with
    | some (nm, x, xs), some d => nm == d.name && glB sc nm && (nm == ("__debug__" : Str)) == false && (x :: xs).all noSet && decide ((x :: xs).length = d.np) && chkEs es sc (x :: xs)
    | _, _ => false
  | .b1 b a, sc, e => match b with
    | .listRange => match sCall1 e with
      | some (nm, y) => match sCall1 y with
        | some (nm2, x) => nm == "list" && nm2 == "range" && glB sc "list" && glB sc "range" && noSet x && chkE a sc x
        | none => false
      | none => false
    | .tupRange => match sCall1 e with
      | some (nm, y) => match sCall1 y with
        | some (nm2, x) => nm == "tuple" && nm2 == "range" && glB sc "tuple" && glB sc "range" && noSet x && chkE a sc x
        | none => false
      | none => false
    | b => match sCall1 e with
      | some (nm, x) => b1Ok b && nm == b1Name b && glB sc nm && noSet x && chkE a sc x
      | none => false
  | .b2 mx a b, sc, e => match sCall2 e with
    | some (nm, x, y) => nm == Str.ofString (if mx then "max" else "min") && glB sc nm && noSet x && noSet y && chkE a sc x && chkE b sc y
    | none => false
  | .sorted _ a, sc, e => match sCall1 e with
    | some (nm, x) => nm == "sorted" && glB sc nm && noSet x && chkE a sc x
    | none => false
  | .sortedSet _ a, sc, e => match sCall1 e with
    | some (nm, y) => match sCall1 y with
      | some (nm2, x) => nm == "sorted" && nm2 == "set" && glB sc "sorted" && glB sc "set" && noSet x && chkE a sc x
      | none => false
    | none => false
  | .isinst t a, sc, e => match sCall2 e with
    | some (nm, x, y) => match sName y with
      | some n2 => nm == "isinstance" && glB sc "isinstance" && n2 == Str.ofString (tyName t) && glB sc n2 && noSet x && chkE a sc x
      | none => false
    | none => false
  | .meth m o a, sc, e => match sMeth1 e with
    | some (x, nm, y) => nm == mtName m && noCall0 x && noSet y && chkE o sc x && chkE a sc y
    | none => false
  | .pop o, sc, e => match sMeth0 e with
    | some (x, nm) => nm == "pop" && noCall0 x && chkE o sc x
    | none => false
  | .comp elt tg it cond own, sc, e => match sComp e with
    | some (x, t, i, ifs, scope) => blkB N sc scope own && noSet i && (slots tg).all (fun j => own.contains j) && chkI it sc t i && chkG N scope tg t && chkC cond scope ifs && chkE elt scope x
    | none => false
  | .lenSet _ a, sc, e => match sCall1 e with
    | some (nm, y) => match sCall1 y with
      | some (nm2, x) => nm == "len" && nm2 == "set" && glB sc "len" && glB sc "set" && noSet x && chkE a sc x
      | none => false
    | none => false
  | .conv2 tup a b, sc, e => match sCall1 e with
    | some (nm, y) => match sCall2 y with
      | some (nm2, x1, x2) => nm == Str.ofString (if tup then "tuple" else "list") && nm2 == "range" && glB sc nm && glB sc "range" && noSet x1 && noSet x2 && chkE a sc x1 && chkE b sc x2
      | none => false
    | none => false
  | .call0 f, sc, e => match sCall0 e, P.lookup f with
    | some nm, some d => nm == d.name && glB sc nm && (nm == ("__debug__" : Str)) == false && decide (d.np = 0)
    | _, _ => false
  | .index _ _, _, _ => false
  | .mini mx _ a, sc, e => match sCall1 e with
    | some (nm, x) => nm == Str.ofString (if mx then "max" else "min") && glB sc nm && noSet x && chkE a sc x
    | none => false
  | .popAt o i, sc, e => match sMeth1 e with
    | some (x, nm, y) => nm == "pop" && noCall0 x && noSet y && chkE o sc x && chkE i sc y
    | none => false
  | .comp2 .., _, _ => false
  | .compB elt tg i cond own, sc, e => match sComp e with
    | some (x, t, it, ifs, scope) => blkB N sc scope own && noSet it && (slots tg).all (fun j => own.contains j) && chkB N sc i it && chkG N scope tg t && chkC cond scope ifs && chkE elt scope x
    | none => false
def chkEs : CEs → Scope → List Expr → Bool
  | .nil, _, xs => match xs with
    | [] => true
    | _ => false
  | .cons e es, sc, xs => match xs with
    | x :: xs => noSet x && chkE e sc x && chkEs es sc xs
    | [] => false
def chkP : CP → Scope → Option Expr → Bool
  | .none, _, o => match o with
    | none => true
    | some _ => false
  | .some e, sc, o => match o with
    | none => false
    | some x => chkE e sc x
def chkC : CP → Scope → List Expr → Bool
  | .none, _, xs => match xs with
    | [] => true
    | _ => false
  | .some e, sc, xs => match xs with
    | [x] => noIf x && chkE e sc x
    | _ => false
def chkI : CI → Scope → Expr → Expr → Bool
  | .seq e, sc, _, x => chkE e sc x
  | .range a, sc, _, x => match sCall1 x with
    | some (nm, y) => nm == "range" && glB sc "range" && noSet y && chkE a sc y
    | none => false
  | .range2 a b, sc, _, x => match sCall2 x with
    | some (nm, y, z) => nm == "range" && glB sc "range" && noSet y && noSet z && chkE a sc y && chkE b sc z
    | none => false
  | .enum a, sc, t, x => match sCall1 x with
    | some (nm, y) => sTup t && nm == "enumerate" && glB sc "enumerate" && noSet y && chkE a sc y
    | none => false
  | .zip a b, sc, t, x => match sCall2 x with
    | some (nm, y, z) => sTup t && nm == "zip" && glB sc "zip" && noSet y && noSet z && chkE a sc y && chkE b sc z
    | none => false
end
end
end TB
set_option maxHeartbeats 4000000
namespace TB
open PySem L2
structure Glb where
  P : Prog
  fw : Nat
  cn : List Str
  cl : Nat → Value
abbrev veB : List Value := [.type "ValueError", .type "Exception", .type "BaseException", .type "object"]
structure Good (G : Glb) (X : Cx) (W : WX) (k : Nat) : Prop where
  calm : X.calm = true
  nd : X.N.Nodup
  room : Room k X.A
  tk : Takes X W
  po : PassesOwn (model X.prog X.w) X.A X.env X.xe
  blt : ∀ x ∈ bltNames, X.mg x = none
  fns : ∀ f d, G.P.lookup f = some d → ∃ fa fd, X.mg d.name = some (.ref fa) ∧ PySem.W.keepIn X.K (.ref fa) = true ∧ Binds X.K fd (d.N.take d.np) [] ∧ FnOk X.prog X.w X.K X.mg X.base (L2.CX X.prog X.w) k fa fd (d.N.take d.np) (spOf G.cl d.np (run G.P G.fw k f))
  exs : ∀ (c : Nat) (x : Str), G.cn[c]? = some x → x ≠ "" → ∃ C, X.mg x = some (.ref C) ∧ G.cl c = .ref C ∧ PySem.W.keepIn X.K (.ref C) = true ∧ PySem.W.excIn X.K C veB "ValueError.__new__" = true ∧ Raises X (.ref C)
  exm : ∀ (c k : Nat) (x : Str), G.cn[k]? = some x → x ≠ "" → PySem.W.exmOne X.K (G.cl c) (G.cl k) = some (decide (c = k ∨ k = 0))
structure ScOk (X : Cx) (sc : Scope) : Prop where
  vis : ∀ x, visB sc x = true → Vis X.env.scope x
  gl : ∀ x, glB sc x = true → Gl X x
  loc : ∀ x, locB sc x = true → L2.Loc X.env.scope x ∧ (X.fn x = true ∨ X.env.scope.names.lookup x = some .local)
  cf : ∀ x, cfB sc x = true → X.env.scope.names.lookup x = some .cell ∨ X.env.scope.names.lookup x = some .free
structure EOk (X : Cx) (W : WX) (cl : Nat → Value) (e : Expr) (r : SE) : Prop where
  pe : PE X e (tE W cl r)
  pt : noIf e = true → PT X e (tT W cl (truR r))
  pw : ∀ op vs p, e = .BoolOp op vs p → PW X e (tT W cl (truR r))
def plainT : Expr → Bool
  | .UnaryOp .Not _ _ => false
  | .BoolOp .. => false
  | .IfExp .. => false
  | .Compare .. => false
  | _ => true
section
variable {X : Cx} {W : WX} {cl : Nat → Value} {e : Expr} {r : SE}
theorem plain_is (hp : plainT e = true) (env : Env) (whole : Sem Value) : isTrue e env whole = (do let v ← whole; standAt e.pos; holding [v] (truthy v)) := by
  cases e <;> first | rfl | cases hp | skip
  rename_i op a p
  cases op <;> first | rfl | cases hp
theorem EOk.plain (h : PE X e (tE W cl r)) (hp : plainT e = true) : EOk X W cl e r := by
  refine ⟨h, fun _ => pt_plain (plain_is hp X.env) h, fun op vs p z => ?_⟩
  subst z
  cases hp
theorem relook (scope : Scope) (env : Env) : ∀ x, (relabel scope env).names.lookup x = (scope.names.lookup x).map fun k => if (k == NameKind.free && env.scope.kind == .function && env.kindOf x == some .cell) = true then NameKind.cell else k := by
  intro x
  unfold relabel
  dsimp only
  generalize scope.names = names
  induction names with
  | nil => rfl
  | cons y r ih =>
    obtain ⟨n, k⟩ := y
    rw [List.map_cons]
    dsimp only
    cases hx : x == n with
    | true =>
      have e : x = n := by simpa using hx
      subst e
      by_cases hc : (k == NameKind.free && env.scope.kind == .function && env.kindOf x == some .cell) = true
      · rw [if_pos hc]
        simp only [List.lookup_cons, hx, Option.map_some]
        rw [if_pos hc]
      · rw [if_neg hc]
        simp only [List.lookup_cons, hx, Option.map_some]
        rw [if_neg hc]
    | false =>
      by_cases hc : (k == NameKind.free && env.scope.kind == .function && env.kindOf n == some .cell) = true
      · rw [if_pos hc]
        simp only [List.lookup_cons, hx]
        exact ih
      · rw [if_neg hc]
        simp only [List.lookup_cons, hx]
        exact ih
theorem blk_in {N : List Str} {sc scope : Scope} {own : List Nat} (h : blkB N sc scope own = true) (hsc : ScOk X sc) (hN : X.N = N) : BlkOk X.N X.env.scope scope (ownPairs N own) := by
  unfold blkB at h
  simp only [Bool.and_eq_true] at h
  obtain ⟨⟨⟨⟨h1, h2⟩, h3⟩, h4⟩, h5⟩ := h
  refine ⟨by simpa using h1, fun y hy => ?_, fun p hp => ?_, fun y hy hf => ?_, fun y hy hl => ?_⟩
  · have := List.all_eq_true.mp h2 y hy
    simpa using this
  · obtain ⟨i, hi, rfl⟩ := List.mem_map.mp hp
    have := List.all_eq_true.mp h3 i hi
    have hlt : i < N.length := by simpa using this
    rw [hN]
    simp [hlt]
  · have := List.all_eq_true.mp h4 y hy
    rw [hf] at this
    exact hsc.cf y.1 (by simpa using this)
  · have := List.all_eq_true.mp h5 y hy
    have hl' : (y.2 == NameKind.local || y.2 == NameKind.cell) = true := by
      rcases hl with z | z <;> rw [z] <;> rfl
    rw [hl', Bool.not_true, Bool.false_or, Bool.or_eq_true] at this
    rcases this with z | z
    · exact .inl (by simpa using z)
    · exact .inr (by rw [hN]; simpa using z)
theorem own_slots (N : List Str) (own : List Nat) : (ownPairs N own).map (·.2) = own := by
  unfold ownPairs
  rw [List.map_map]
  exact List.map_id' own
theorem Good.blk {G : Glb} {k : Nat} (g : Good G X W k) (s : Shared) (H : Hp) (scope : Scope) (C : Addr) (cc : List (Str × Addr)) (fp : List Addr) : Good G (X.blk s H scope (compEnvC scope cc C X.env) fp) W0 k :=
  ⟨g.calm, g.nd, g.room, takes_none5, PassesOwn.never, g.blt, g.fns, g.exs, g.exm⟩
theorem ScOk.blk {sc : Scope} (s : Shared) (H : Hp) (scope : Scope) (C : Addr) (cc : List (Str × Addr)) (fp : List Addr) : ScOk (X.blk s H scope (compEnvC scope cc C X.env) fp) scope := by
  have key : ∀ x, (X.blk s H scope (compEnvC scope cc C X.env) fp).env.scope.names.lookup x = (scope.names.lookup x).map fun k => if (k == NameKind.free && X.env.scope.kind == .function && X.env.kindOf x == some .cell) = true then NameKind.cell else k := fun x => relook scope X.env x
  refine ⟨fun x h => ?_, fun x h => ?_, fun x h => ?_, fun x h => ?_⟩
  · unfold visB at h
    unfold Vis
    rw [key x]
    cases e : scope.names.lookup x with
    | none => rw [e] at h; cases h
    | some kd =>
      rw [e] at h
      cases kd with
      | «local» => exact .inl rfl
      | cell => exact .inr (.inl rfl)
      | free =>
        simp only [Option.map_some]
        split
        · exact .inr (.inl rfl)
        · exact .inr (.inr rfl)
      | globalExplicit => cases h
      | globalImplicit => cases h
  · unfold glB at h
    show (X.blk s H scope (compEnvC scope cc C X.env) fp).env.scope.names.lookup x = _
    rw [key x]
    cases e : scope.names.lookup x with
    | none => rw [e] at h; cases h
    | some kd =>
      rw [e] at h
      cases kd with
      | globalImplicit => rfl
      | _ => cases h
  · unfold locB at h
    unfold L2.Loc
    rw [key x]
    show _ ∧ ((scope.names.lookup x == some .cell) = true ∨ _)
    cases e : scope.names.lookup x with
    | none => rw [e] at h; cases h
    | some kd =>
      rw [e] at h
      cases kd with
      | «local» => exact ⟨.inl rfl, .inr rfl⟩
      | cell => exact ⟨.inr rfl, .inl rfl⟩
      | _ => cases h
  · unfold cfB at h
    rw [key x]
    cases e : scope.names.lookup x with
    | none => rw [e] at h; cases h
    | some kd =>
      rw [e] at h
      cases kd with
      | cell => exact .inl rfl
      | free =>
        simp only [Option.map_some]
        split
        · exact .inl rfl
        · exact .inr rfl
      | _ => cases h
end
/-! shapes read back -/
theorem sName_inv {e : Expr} {x : Str} (h : sName e = some x) : ∃ p, e = .Name x p := by
  unfold sName at h; split at h <;> cases h; exact ⟨_, rfl⟩
theorem sCall1_inv {e : Expr} {nm : Str} {x : Expr} (h : sCall1 e = some (nm, x)) : ∃ p q, e = .Call (.Name nm p) [x] [] q := by
  unfold sCall1 at h; split at h <;> cases h; exact ⟨_, _, rfl⟩
theorem sCall0_inv {e : Expr} {nm : Str} (h : sCall0 e = some nm) : ∃ p q, e = .Call (.Name nm p) [] [] q := by
  unfold sCall0 at h; split at h <;> cases h; exact ⟨_, _, rfl⟩
theorem sCall2_inv {e : Expr} {nm : Str} {x y : Expr} (h : sCall2 e = some (nm, x, y)) : ∃ p q, e = .Call (.Name nm p) [x, y] [] q := by
  unfold sCall2 at h; split at h <;> cases h; exact ⟨_, _, rfl⟩
theorem sCallN_inv {e : Expr} {nm : Str} {x : Expr} {xs : List Expr} (h : sCallN e = some (nm, x, xs)) : ∃ p q, e = .Call (.Name nm p) (x :: xs) [] q := by
  unfold sCallN at h; split at h <;> cases h; exact ⟨_, _, rfl⟩
theorem sMeth1_inv {e o : Expr} {nm : Str} {x : Expr} (h : sMeth1 e = some (o, nm, x)) : ∃ ap q, e = .Call (.Attribute o nm ap) [x] [] q ∧ (ap.endLine == q.line) = true := by
  unfold sMeth1 at h
  split at h
  · rename_i o' m' ap x' p
    by_cases hl : (ap.endLine == p.line) = true
    · rw [if_pos hl] at h; cases h; exact ⟨_, _, rfl, hl⟩
    · rw [if_neg hl] at h; cases h
  · cases h
theorem sMeth0_inv {e o : Expr} {nm : Str} (h : sMeth0 e = some (o, nm)) : ∃ ap q, e = .Call (.Attribute o nm ap) [] [] q ∧ (ap.endLine == q.line) = true := by
  unfold sMeth0 at h
  split at h
  · rename_i o' m' ap p
    by_cases hl : (ap.endLine == p.line) = true
    · rw [if_pos hl] at h; cases h; exact ⟨_, _, rfl, hl⟩
    · rw [if_neg hl] at h; cases h
  · cases h
theorem sCmp1_inv {e x : Expr} {o : CmpOp} {y : Expr} (h : sCmp1 e = some (x, o, y)) : ∃ p, e = .Compare x [o] [y] p := by
  unfold sCmp1 at h; split at h <;> cases h; exact ⟨_, rfl⟩
theorem sCmp2_inv {e x : Expr} {o : CmpOp} {y : Expr} {o2 : CmpOp} {z : Expr} (h : sCmp2 e = some (x, o, y, o2, z)) : ∃ p, e = .Compare x [o, o2] [y, z] p := by
  unfold sCmp2 at h; split at h <;> cases h; exact ⟨_, rfl⟩
theorem sBool_inv {e : Expr} {op : BoolOp} {x y : Expr} {rest : List Expr} {p : Pos} (h : sBool e = some (op, x, y, rest, p)) : e = .BoolOp op (x :: y :: rest) p := by
  unfold sBool at h; split at h <;> cases h; rfl
theorem sSub_inv {e x y : Expr} (h : sSub e = some (x, y)) : ∃ p, e = .Subscript x y p := by
  unfold sSub at h; split at h <;> cases h; exact ⟨_, rfl⟩
theorem sSlice_inv {e x : Expr} {l u : Option Expr} (h : sSlice e = some (x, l, u)) : ∃ p q, e = .Subscript x (.Slice l u none p) q := by
  unfold sSlice at h; split at h <;> cases h; exact ⟨_, _, rfl⟩
theorem sRev_inv {e x : Expr} (h : sRev e = some x) : ∃ k p1 p2 p3 p, e = .Subscript x (.Slice none none (some (.UnaryOp .USub (.Constant (.int 1) k p1) p2)) p3) p := by
  unfold sRev at h; split at h <;> cases h; exact ⟨_, _, _, _, _, rfl⟩
theorem sNone_inv {e : Expr} (h : sNone e = true) : ∃ k p, e = .Constant .none k p := by
  unfold sNone at h; split at h <;> first | exact ⟨_, _, rfl⟩ | cases h
theorem sTup_inv {e : Expr} (h : sTup e = true) : ∃ es k p, e = .Tuple es k p := by
  unfold sTup at h; split at h <;> first | exact ⟨_, _, _, rfl⟩ | cases h
theorem sComp_inv {e elt tg it : Expr} {ifs : List Expr} {scope : Scope} (h : sComp e = some (elt, tg, it, ifs, scope)) : ∃ p, e = .ListComp elt [⟨tg, it, ifs, 0⟩] scope p := by
  unfold sComp at h; split at h <;> cases h; exact ⟨_, rfl⟩
end TB
set_option maxHeartbeats 4000000
namespace TB
open PySem PySem.W PyProof.Rows PySem.SeqAt
/-! ### the order of data of one kind -/
theorem ltD_irr (x : PyData) : ltD x x = false := lex_irrefl (O := itemOrd) _
theorem ltD_tr {x y z : PyData} (h1 : ltD x y = true) (h2 : ltD y z = true) : ltD x z = true := lex_trans (O := itemOrd) _ _ _ h1 h2
theorem ltD_asym {x y : PyData} (h : ltD x y = true) : ltD y x = false := by
  cases e : ltD y x with
  | false => rfl
  | true => rw [← ltD_irr x, ← ltD_tr h e]
theorem ltD_neg {x y z : PyData} (h1 : ltD y x = false) (h2 : ltD z y = false) : ltD z x = false := by
  cases e : ltD z x with
  | false => rfl
  | true =>
    rcases lex_negTrans (O := itemOrd) _ (keyToks y) _ e with q | q
    · exact absurd (show ltD z y = true from q) (by rw [h2]; simp)
    · exact absurd (show ltD y x = true from q) (by rw [h1]; simp)
theorem swo_data (key : Value → PyData) : SrtO.Swo (fun u v => ltD (key u) (key v)) := ⟨fun _ _ h => ltD_asym h, fun _ _ _ h1 h2 => ltD_neg h1 h2⟩
theorem hasK_tup {k : Kd} {xs : List PyData} (h : hasK k (.tuple xs) = true) : hasKs k xs = true := by
  cases k <;> exact h
theorem hasK_cases {k : Kd} {d : PyData} (h : hasK k d = true) : (∃ i, k = .int ∧ d = .int i) ∨ ∃ xs, d = .tuple xs ∧ hasKs k xs = true := by
  cases d with
  | int i => cases k <;> first | exact .inl ⟨i, rfl, rfl⟩ | exact nomatch (show false = true from h)
  | tuple xs => exact .inr ⟨xs, rfl, hasK_tup h⟩
  | none => cases k <;> exact nomatch (show false = true from h)
  | bool _ => cases k <;> exact nomatch (show false = true from h)
  | str _ => cases k <;> exact nomatch (show false = true from h)
  | list _ => cases k <;> exact nomatch (show false = true from h)
  | dict _ => cases k <;> exact nomatch (show false = true from h)
/-- kinds of the first and of the rest -/
def kHd : Kd → Kd
  | .many k => k
  | .cons a _ => a
  | k => k
def kTl : Kd → Kd
  | .many k => .many k
  | .cons _ b => b
  | k => k
theorem hasKs_cons {k : Kd} {x : PyData} {xs : List PyData} (h : hasKs k (x :: xs) = true) : hasK (kHd k) x = true ∧ hasKs (kTl k) xs = true := by
  cases k with
  | int => exact nomatch (show false = true from h)
  | nil => exact nomatch (show false = true from h)
  | many k =>
    have h' : (hasK k x && hasKs (.many k) xs) = true := h
    exact Bool.and_eq_true_iff.mp h'
  | cons a b =>
    have h' : (hasK a x && hasKs b xs) = true := h
    exact Bool.and_eq_true_iff.mp h'
mutual
theorem hasK_alike : ∀ (d e : PyData) (k : Kd), hasK k d = true → hasK k e = true → alike d e = true
  | .int i, e, k, h, h' => by
    rcases hasK_cases h with ⟨j, rfl, _⟩ | ⟨xs, z, _⟩
    · rcases hasK_cases h' with ⟨j', _, rfl⟩ | ⟨xs, rfl, z⟩
      · rfl
      · cases xs <;> exact nomatch (show false = true from z)
    · cases z
  | .tuple xs, e, k, h, h' => by
    have hx := hasK_tup h
    rcases hasK_cases h' with ⟨j', rfl, _⟩ | ⟨ys, rfl, hy⟩
    · cases xs <;> exact nomatch (show false = true from hx)
    · simp only [alike]
      exact hasKs_alike xs ys k hx hy
  | .none, _, k, h, _ => by cases k <;> exact nomatch (show false = true from h)
  | .bool _, _, k, h, _ => by cases k <;> exact nomatch (show false = true from h)
  | .str _, _, k, h, _ => by cases k <;> exact nomatch (show false = true from h)
  | .list _, _, k, h, _ => by cases k <;> exact nomatch (show false = true from h)
  | .dict _, _, k, h, _ => by cases k <;> exact nomatch (show false = true from h)
theorem hasKs_alike : ∀ (xs ys : List PyData) (k : Kd), hasKs k xs = true → hasKs k ys = true → alikeAll xs ys = true
  | [], ys, k, _, _ => by simp [alikeAll]
  | x :: xs, [], k, _, _ => by simp [alikeAll]
  | x :: xs, y :: ys, k, h, h' => by
    obtain ⟨a, b⟩ := hasKs_cons h
    obtain ⟨a', b'⟩ := hasKs_cons h'
    simp only [alikeAll, Bool.and_eq_true]
    exact ⟨hasK_alike x y (kHd k) a a', hasKs_alike xs ys (kTl k) b b'⟩
end
mutual
theorem toks_inj : ∀ (d e : PyData) (k : Kd) (l m : List (Int ⊕ List Nat)), hasK k d = true → hasK k e = true → keyToks d ++ l = keyToks e ++ m → d = e ∧ l = m
  | .int i, e, k, l, m, h, h', q => by
    rcases hasK_cases h with ⟨j, rfl, _⟩ | ⟨xs, z, _⟩
    · rcases hasK_cases h' with ⟨j', _, rfl⟩ | ⟨xs, rfl, z⟩
      · simp only [keyToks, List.cons_append, List.nil_append, List.cons.injEq, Sum.inl.injEq] at q
        exact ⟨by rw [q.1], q.2⟩
      · cases xs <;> exact nomatch (show false = true from z)
    · cases z
  | .tuple xs, e, k, l, m, h, h', q => by
    have hx := hasK_tup h
    rcases hasK_cases h' with ⟨j', rfl, _⟩ | ⟨ys, rfl, hy⟩
    · cases xs <;> exact nomatch (show false = true from hx)
    · simp only [keyToks] at q
      obtain ⟨a, b⟩ := toksAll_inj xs ys k l m hx hy q
      exact ⟨by rw [a], b⟩
  | .none, _, k, _, _, h, _, _ => by cases k <;> exact nomatch (show false = true from h)
  | .bool _, _, k, _, _, h, _, _ => by cases k <;> exact nomatch (show false = true from h)
  | .str _, _, k, _, _, h, _, _ => by cases k <;> exact nomatch (show false = true from h)
  | .list _, _, k, _, _, h, _, _ => by cases k <;> exact nomatch (show false = true from h)
  | .dict _, _, k, _, _, h, _, _ => by cases k <;> exact nomatch (show false = true from h)
theorem toksAll_inj : ∀ (xs ys : List PyData) (k : Kd) (l m : List (Int ⊕ List Nat)), hasKs k xs = true → hasKs k ys = true → keyToksAll xs ++ l = keyToksAll ys ++ m → xs = ys ∧ l = m
  | [], [], k, l, m, _, _, q => by
    simp only [keyToksAll, List.cons_append, List.nil_append, List.cons.injEq] at q
    exact ⟨rfl, q.2⟩
  | [], y :: ys, k, l, m, _, _, q => by
    simp [keyToksAll] at q
  | x :: xs, [], k, l, m, _, _, q => by
    simp [keyToksAll] at q
  | x :: xs, y :: ys, k, l, m, h, h', q => by
    obtain ⟨a, b⟩ := hasKs_cons h
    obtain ⟨a', b'⟩ := hasKs_cons h'
    simp only [keyToksAll, List.cons_append, List.cons.injEq, List.append_assoc] at q
    obtain ⟨e1, e2⟩ := toks_inj x y (kHd k) _ _ a a' q.2
    obtain ⟨e3, e4⟩ := toksAll_inj xs ys (kTl k) l m b b' e2
    exact ⟨by rw [e1, e3], e4⟩
end
theorem ltD_total {d e : PyData} {k : Kd} (h : hasK k d = true) (h' : hasK k e = true) (h1 : ltD d e = false) (h2 : ltD e d = false) : d = e := by
  have q := lex_total (O := itemOrd) _ _ h1 h2
  exact (toks_inj d e k [] [] h h' (by rw [q])).1
/-! ### sortD -/
abbrev SrD (l : List PyData) : Prop := l.Pairwise fun x y => ltD y x = false
theorem insL_perm (x : PyData) : ∀ l, (sortD.insL x l).Perm (x :: l)
  | [] => List.Perm.refl _
  | y :: ys => by
    show (if ltD y x then y :: sortD.insL x ys else x :: y :: ys).Perm _
    split
    · exact ((insL_perm x ys).cons y).trans (List.Perm.swap x y ys)
    · exact List.Perm.refl _
theorem sortD_perm : ∀ l, (sortD l).Perm l
  | [] => List.Perm.refl _
  | x :: xs => (insL_perm x _).trans ((sortD_perm xs).cons x)
theorem insL_srt (x : PyData) : ∀ l, SrD l → SrD (sortD.insL x l)
  | [], _ => List.pairwise_singleton _ _
  | y :: ys, h => by
    obtain ⟨h1, h2⟩ := List.pairwise_cons.mp h
    show SrD (if ltD y x then y :: sortD.insL x ys else x :: y :: ys)
    cases e : ltD y x with
    | true =>
      rw [if_pos rfl]
      refine List.pairwise_cons.mpr ⟨fun z hz => ?_, insL_srt x ys h2⟩
      rcases List.mem_cons.mp ((insL_perm x ys).mem_iff.mp hz) with rfl | hz
      · exact ltD_asym e
      · exact h1 z hz
    | false =>
      rw [if_neg Bool.false_ne_true]
      refine List.pairwise_cons.mpr ⟨fun z hz => ?_, h⟩
      rcases List.mem_cons.mp hz with rfl | hz
      · exact e
      · exact ltD_neg e (h1 z hz)
theorem sortD_srt : ∀ l, SrD (sortD l)
  | [] => List.Pairwise.nil
  | x :: xs => insL_srt x _ (sortD_srt xs)
theorem srt_uniq {k : Kd} : ∀ (l m : List PyData), l.Perm m → SrD l → SrD m → (∀ d ∈ l, hasK k d = true) → l = m
  | [], m, p, _, _, _ => by rw [List.nil_perm.mp p]
  | x :: l, [], p, _, _, _ => absurd p (by simp)
  | x :: l, y :: m, p, h1, h2, hk => by
    obtain ⟨a1, a2⟩ := List.pairwise_cons.mp h1
    obtain ⟨b1, b2⟩ := List.pairwise_cons.mp h2
    have hy : y ∈ x :: l := p.mem_iff.mpr List.mem_cons_self
    have hx : x ∈ y :: m := p.mem_iff.mp List.mem_cons_self
    have q1 : ltD y x = false := by
      rcases List.mem_cons.mp hy with rfl | z
      · exact ltD_irr _
      · exact a1 y z
    have q2 : ltD x y = false := by
      rcases List.mem_cons.mp hx with rfl | z
      · exact ltD_irr _
      · exact b1 x z
    have e : x = y := ltD_total (hk x List.mem_cons_self) (hk y hy) q2 q1
    subst e
    rw [srt_uniq l m (List.Perm.cons_inv p) a2 b2 fun d hd => hk d (List.mem_cons_of_mem _ hd)]
/-! ### comparing -/
section
variable {prog : Program} {w : World} {A : Around} {E : Value → Shared → Prop} {s : Shared}
theorem keyLt_general (x y : Value) : keyLt' general' x y = oneLt' false x y := rfl
theorem call_tuple_ltT {Q : Value → Shared → Prop} {l b : Addr} {items items2 : Array Value} {e r : Nat → Bool} (hl : s.heap.IsTuple l items) (hb : s.heap.IsTuple b items2)
    (he : ∀ j (h1 : j < items.size) (h2 : j < items2.size), SeqAt.EqAt A.in1 s items[j] items2[j] (e j)) (hr : ∀ j (h1 : j < items.size) (h2 : j < items2.size), e j = false → SeqAt.RcLt A.in1 s items[j] items2[j] (r j))
    (h : Q (.bool (SeqAt.firstLt e r (decide (items.size < items2.size)) (List.range (min items.size items2.size)))) s) : wpAny (model prog w) A (call (.builtin "tuple.__lt__") [.ref l, .ref b]) Q E s := by
  obtain ⟨⟨cls, dd, data, sl⟩, ho, hc, n, hd⟩ := id hl
  obtain ⟨⟨cls2, dd2, data2, sl2⟩, ho2, hc2, n2, hd2⟩ := id hb
  simp only at hc hd hc2 hd2
  subst hc hd hc2 hd2
  exact call_meets F.slot_tuple_lt ⟨_, ho, rfl⟩ F.entry_tuple_lt (F.args_tuple_lt_2 _ _) (SeqAt.tuple_ltAt l b items items2 n n2 dd dd2 sl sl2 e r) ⟨ho, ho2, he, hr, h⟩
theorem oneLt_tup {xs ys : List PyData} {a b : Value} {as bs : List Addr} {Q : Bool → Shared → Prop} (ra : Reads s.heap a (.tuple xs) as) (rb : Reads s.heap b (.tuple ys) bs) (hal : alikeAll xs ys = true)
    (hu : A.units + min (PyData.depth (.tuple xs)) (PyData.depth (.tuple ys)) < cLine) (hq : Q (dataLt (.tuple xs) (.tuple ys)) s) : wpAny (model prog w) A (oneLt' true a b) Q E s := by
  cases ra with
  | @tuple l o vs n _ as₁ h1 h2 h3 h4 =>
    cases rb with
    | @tuple l' o' vs' n' _ bs₁ k1 k2 k3 k4 =>
      have n1 : vs.size = xs.length := by simpa using ReadsAll.length _ _ _ h4
      have n2 : vs'.size = ys.length := by simpa using ReadsAll.length _ _ _ k4
      rw [dataLt_tuple, ← firstLt_toks xs ys hal, ← n1, ← n2] at hq
      rw [oneLt'_eq]
      simp only [if_true]
      refine wpAny_bind (wpAny_cRoomFor (room_here hu) ?_)
      refine wpAny_bind (wpAny_callSpecialIfBound?_slot (T := "tuple") ⟨_, h1, h2⟩ F.slot_tuple_lt (call_tuple_ltT (e := pairEq xs ys) (r := fun j => dataLt (xs.getD j .none) (ys.getD j .none)) ⟨_, h1, h2, _, h3⟩ ⟨_, k1, k2, _, k3⟩ (fun j j1 j2 => ?_) (fun j j1 j2 hj => ?_) ?_))
      · have := eqAt_alikeAll xs ys A.in1 s vs.toList vs'.toList _ _ h4 k4 hal (room_in hu) j (by simpa using j1) (by simpa using j2)
        simpa using this
      · have := rcLt_alikeAll xs ys A.in1 s vs.toList vs'.toList _ _ h4 k4 hal (room_in hu) j (by simpa using j1) (by simpa using j2) hj
        simpa using this
      · exact wpAny_truthy_bool hq
end
end TB
set_option maxHeartbeats 4000000
namespace TB
open PySem PySem.W PyProof.Rows PySem.SeqAt
section
variable {prog : Program} {w : World} {A : Around} {E : Value → Shared → Prop} {s : Shared} {M : Model}
def fstV (h : Heap) : Value → Option Value
  | .ref a => match h.get? a with
    | some o => match o.data with
      | .seq its _ => its[0]?
      | _ => none
    | none => none
  | _ => none
theorem mapM_map {α β : Type} {f : α → Sem β} {g : α → β} : ∀ (l : List α) {Q : List β → Shared → Prop}, (∀ v ∈ l, ∀ (Q' : β → Shared → Prop), Q' (g v) s → wpAny M A (f v) Q' E s) → Q (l.map g) s → wpAny M A (l.mapM f) Q E s
  | [], _, _, h => by rw [List.mapM_nil]; exact wpAny_pure h
  | x :: l, Q, hf, h => by
    rw [List.mapM_cons]
    exact wpAny_bind (hf x (.head _) _ (wpAny_bind (mapM_map l (Q := fun bs s' => wpAny M A (pure (g x :: bs)) Q E s') (fun v hv => hf v (.tail _ hv)) (wpAny_pure h))))
theorem first_at {v : Value} {xs : List PyData} {as : List Addr} (r : Reads s.heap v (.tuple xs) as) {Q : Option Value → Shared → Prop} (h : Q (fstV s.heap v) s) : wpAny M A (firstOfTuple' v) Q E s := by
  cases r with
  | @tuple a o vs n _ _ ho hc hd hr =>
    rw [kas_first_eq]
    refine wpAny_bind (Looks.here (show Looks M s.heap (typeOf (.ref a)) o.cls from (Looks.ld ho).andThen .now) ?_)
    rw [hc, if_neg (by first | decide | simp)]
    refine wpAny_bind (listItems_at ho hd (wpAny_pure ?_))
    have e : fstV s.heap (.ref a) = vs[0]? := by
      unfold fstV
      dsimp only
      rw [ho]
      dsimp only
      rw [hd]
    rw [← e]
    exact h
theorem fst_none {h : Heap} {v : Value} {as : List Addr} (r : Reads h v (.tuple []) as) : fstV h v = none := by
  cases r with
  | @tuple a o vs n _ _ ho hc hd hr =>
    unfold fstV
    dsimp only
    rw [ho]
    dsimp only
    rw [hd]
    have n1 : vs.size = 0 := by simpa using ReadsAll.length _ _ _ hr
    simp [n1]
theorem fst_some {h : Heap} {v : Value} {x : PyData} {xs : List PyData} {as : List Addr} (r : Reads h v (.tuple (x :: xs)) as) : ∃ f bs, fstV h v = some f ∧ Reads h f x bs := by
  cases r with
  | @tuple a o vs n _ _ ho hc hd hr =>
    obtain ⟨l⟩ := vs
    have hr' : ReadsAll h l (x :: xs) as := hr
    cases hr' with
    | @cons f vs' _ _ as1 bs1 h1 h2 =>
      refine ⟨f, as1, ?_, h1⟩
      unfold fstV
      dsimp only
      rw [ho]
      dsimp only
      rw [hd]
      rfl
theorem type_tup {h : Heap} {v : Value} {xs : List PyData} {as : List Addr} (r : Reads h v (.tuple xs) as) : Looks M h (typeOf v) (.type "tuple") := by
  cases r with
  | @tuple a o vs n _ _ ho hc hd hr =>
    have q : Looks M h (typeOf (.ref a)) o.cls := (Looks.ld ho).andThen .now
    rw [hc] at q
    exact q
theorem kat_all {h : Heap} {key : Value → PyData} : ∀ vs : List Value, (∀ v ∈ vs, ∃ x xs as, key v = .tuple (x :: xs) ∧ Reads h v (.tuple (x :: xs)) as) → ∃ fs, KatTups h vs fs ∧ fs.length = vs.length ∧ ∀ f ∈ fs, ∃ v ∈ vs, ∃ x xs bs, key v = .tuple (x :: xs) ∧ Reads h f x bs
  | [], _ => ⟨[], .nil, rfl, fun _ m => nomatch m⟩
  | v :: vs, hv => by
    obtain ⟨fs, k1, k2, k3⟩ := kat_all vs fun u hu => hv u (List.mem_cons_of_mem _ hu)
    obtain ⟨x, xs, as, e, r⟩ := hv v List.mem_cons_self
    cases r with
    | @tuple a o its n _ _ ho hc hd hr =>
      obtain ⟨l⟩ := its
      have hr' : ReadsAll h l (x :: xs) as := hr
      cases hr' with
      | @cons f vs' _ _ as1 bs1 h1 h2 =>
        refine ⟨f :: fs, KatTups.cons ho hc hd rfl k1, by simp [k2], fun g hg => ?_⟩
        rcases List.mem_cons.mp hg with rfl | hg
        · exact ⟨_, List.mem_cons_self, x, xs, as1, e, h1⟩
        · obtain ⟨u, m, z⟩ := k3 g hg
          exact ⟨u, List.mem_cons_of_mem _ m, z⟩
theorem kind_mixed {vs : List Value} {Q : SortKind → Shared → Prop} (hne : vs ≠ []) (ht : ∀ v ∈ vs, ∃ xs as, Reads s.heap v (.tuple xs) as) (hno : ∃ v ∈ vs, fstV s.heap v = none)
    (h : Q (if ((vs.map (fstV s.heap)).head?.bind id).isSome then general' else oneType') s) : wpAny M A (keyKind' vs.toArray) Q E s := by
  rw [kat_kind_eq, List.mapM_toArray, map_eq_pure_bind]
  refine wpAny_bind (wpAny_bind (mapM_map vs (g := fstV s.heap) (fun v hv Q' hq => ?_) (wpAny_pure ?_)))
  · obtain ⟨xs, as, r⟩ := ht v hv
    exact first_at r hq
  · have hall : ((vs.map (fstV s.heap)).toArray.all fun x => x.isSome) = false := by
      obtain ⟨v, hv, e⟩ := hno
      rw [List.all_toArray]
      cases e2 : (vs.map (fstV s.heap)).all fun x => x.isSome with
      | false => rfl
      | true =>
        have := List.all_eq_true.mp e2 _ (List.mem_map_of_mem hv)
        rw [e] at this
        cases this
    rw [if_neg (by rw [hall]; simp)]
    have h0 : ((vs.map (fstV s.heap)).toArray[0]?.bind id).isSome = ((vs.map (fstV s.heap)).head?.bind id).isSome := by
      congr 2
      simp [List.head?_eq_getElem?]
    rw [h0]
    cases eh : ((vs.map (fstV s.heap)).head?.bind id).isSome with
    | true =>
      rw [eh, if_pos rfl] at h
      rw [if_pos rfl]
      exact wpAny_pure h
    | false =>
      rw [eh, if_neg Bool.false_ne_true] at h
      rw [if_neg Bool.false_ne_true]
      rw [oneTypeOnly'_eq, List.mapM_toArray, map_eq_pure_bind]
      refine wpAny_bind (wpAny_bind (wpAny_bind (kas_mapM (r := .type "tuple") _ (fun v hv Q' hq => ?_) (wpAny_pure ?_))))
      · obtain ⟨xs, as, r⟩ := ht v hv
        exact (type_tup r).here hq
      · obtain ⟨v₁, rest, rfl⟩ : ∃ v₁ rest, vs = v₁ :: rest := by
          cases vs with
          | nil => exact absurd rfl hne
          | cons v r => exact ⟨v, r, rfl⟩
        have hall2 : ((List.map (fun _ => Value.type "tuple") (v₁ :: rest)).toArray.all fun x => x == Value.type "tuple") = true := by
          simp only [List.all_toArray, List.all_map, List.all_eq_true]
          intro _ _
          rfl
        have h0 : (List.map (fun _ => Value.type "tuple") (v₁ :: rest)).toArray[0]? = some (Value.type "tuple") := by simp
        rw [h0]
        simp only [hall2, if_true]
        exact wpAny_pure (wpAny_pure h)
/-- any two items of one kind -/
theorem data_sortable {k : Kd} {a : Addr} {vs : List Value} {key : Value → PyData} {h0 : Heap} (h2 : 2 ≤ vs.length) (hu : A.units + 64 < cLine) (kk : ∀ b o, h0.get? b = some o → b ≠ a ∧ s.heap.get? b = some o)
    (hk : ∀ v ∈ vs, hasK k (key v) = true ∧ (key v).depth ≤ 64) (hr : ∀ v ∈ vs, ∃ as, Reads h0 v (key v) as) : SrtO.SortableO prog w A s a vs (fun u v => ltD (key u) (key v)) := by
  intro h' keep
  have hr' : ∀ v ∈ vs, ∃ as, Reads h' v (key v) as := fun v hv => by
    obtain ⟨as, r⟩ := hr v hv
    exact ⟨as, PyProof.Rows.Reads.keeps (fun b o e => keep b o (kk b o e).1 (kk b o e).2) r⟩
  have room : ∀ u ∈ vs, ∀ v, A.units + min (key u).depth (key v).depth < cLine := fun u hu' v => by
    have := (hk u hu').2
    omega
  have al : ∀ u ∈ vs, ∀ v ∈ vs, alike (key u) (key v) = true := fun u hu' v hv => hasK_alike _ _ k (hk u hu').1 (hk v hv).1
  by_cases hki : k = .int
  · subst hki
    have hint : ∀ v ∈ vs, ∃ i t, key v = .int i ∧ v = .int i t := fun v hv => by
      obtain ⟨as, r⟩ := hr' v hv
      rcases hasK_cases (hk v hv).1 with ⟨i, _, e⟩ | ⟨xs, _, z⟩
      · rw [e] at r
        cases r with
        | int i t => exact ⟨i, t, e, rfl⟩
      · cases xs <;> exact nomatch (show false = true from z)
    refine ⟨oneType', fun Q E hq => ?_, fun p q hp hq => ?_⟩
    · exact kas_kind (s := { s with heap := h' }) (T := .type "int") h2 (fun v hv => by
        obtain ⟨i, t, _, rfl⟩ := hint v hv
        exact Looks.now) (by rfl) (by rfl) hq
    · obtain ⟨as, r1⟩ := hr' p.1 hp
      obtain ⟨bs, r2⟩ := hr' q.1 hq
      rw [keyLt'_oneType]
      refine oneLt_alike (s := { s with heap := h' }) (f := true) (fun _ xs z => ?_) r1 r2 (al _ hp _ hq) (fun z => ?_) (room _ hp _) ⟨rfl, rfl⟩
      · obtain ⟨i, t, e, _⟩ := hint _ hp
        rw [e] at z; cases z
      · obtain ⟨i, t, e, _⟩ := hint _ hp
        rw [e] at z; cases z
  · have htup : ∀ v ∈ vs, ∃ xs as, key v = .tuple xs ∧ hasKs k xs = true ∧ Reads h' v (.tuple xs) as := fun v hv => by
      obtain ⟨as, r⟩ := hr' v hv
      rcases hasK_cases (hk v hv).1 with ⟨i, z, e⟩ | ⟨xs, e, z⟩
      · exact absurd z hki
      · rw [e] at r
        exact ⟨xs, as, e, z, r⟩
    by_cases hemp : ∃ v ∈ vs, fstV h' v = none
    · have hne : vs ≠ [] := by
        intro z
        subst z
        simp at h2
      refine ⟨if ((vs.map (fstV h')).head?.bind id).isSome then general' else oneType', fun Q E hq => ?_, fun p q hp hq => ?_⟩
      · exact kind_mixed (s := { s with heap := h' }) hne (fun v hv => by
          obtain ⟨xs, as, _, _, r⟩ := htup v hv
          exact ⟨xs, as, r⟩) hemp hq
      · obtain ⟨xs, as, e1, k1, r1⟩ := htup _ hp
        obtain ⟨ys, bs, e2, k2, r2⟩ := htup _ hq
        have hal := hasKs_alike xs ys k k1 k2
        have rm := room _ hp q.1
        rw [e1, e2] at rm
        have hgoal : SrtO.lt2 (fun u v => ltD (key u) (key v)) p q = dataLt (.tuple xs) (.tuple ys) := by
          show ltD (key p.1) (key q.1) = _
          rw [e1, e2]
          rfl
        rw [hgoal]
        split
        · rw [keyLt_general]
          exact oneLt_alike (s := { s with heap := h' }) (f := false) (fun z => nomatch z) r1 r2 (by simp only [alike]; exact hal) (fun z => nomatch z) rm ⟨rfl, rfl⟩
        · rw [keyLt'_oneType]
          exact oneLt_tup (s := { s with heap := h' }) r1 r2 hal rm ⟨rfl, rfl⟩
    · have hne : ∀ v ∈ vs, ∃ x xs as, key v = .tuple (x :: xs) ∧ hasK (kHd k) x = true ∧ hasKs k (x :: xs) = true ∧ Reads h' v (.tuple (x :: xs)) as := fun v hv => by
        obtain ⟨xs, as, e, z, r⟩ := htup v hv
        cases xs with
        | nil => exact absurd ⟨v, hv, fst_none r⟩ hemp
        | cons x xs => exact ⟨x, xs, as, e, (hasKs_cons z).1, z, r⟩
      obtain ⟨fs, q1, q2, q3⟩ := kat_all (h := h') (key := key) vs fun v hv => by
        obtain ⟨x, xs, as, e, _, _, r⟩ := hne v hv
        exact ⟨x, xs, as, e, r⟩
      have fk : ∀ f ∈ fs, ∃ x bs, hasK (kHd k) x = true ∧ Reads h' f x bs := fun f hf => by
        obtain ⟨v, hv, x, xs, bs, e, r⟩ := q3 f hf
        obtain ⟨x', xs', as, e', hx', _, _⟩ := hne v hv
        rw [e] at e'
        cases e'
        exact ⟨x, bs, hx', r⟩
      have hT : ∃ T : Value, (∀ f ∈ fs, ∀ M : Model, Looks M h' (typeOf f) T) ∧ (T == T) = true ∧ ((T != Value.type "tuple") = true → ∀ v ∈ vs, ∀ x r t, key v = .tuple (x :: r) → x ≠ .tuple t) := by
        by_cases hk0 : kHd k = .int
        · refine ⟨.type "int", fun f hf M => ?_, by rfl, fun _ v hv x r t e => ?_⟩
          · obtain ⟨x, bs, hx, r⟩ := fk f hf
            rw [hk0] at hx
            rcases hasK_cases hx with ⟨i, _, rfl⟩ | ⟨xs, _, z⟩
            · cases r with
              | int i t => exact Looks.now
            · cases xs <;> exact nomatch (show false = true from z)
          · obtain ⟨x', xs', as, e', hx', _, _⟩ := hne v hv
            rw [e] at e'
            cases e'
            rw [hk0] at hx'
            rcases hasK_cases hx' with ⟨i, _, rfl⟩ | ⟨xs, _, z⟩
            · exact fun z => nomatch z
            · cases xs <;> exact nomatch (show false = true from z)
        · refine ⟨.type "tuple", fun f hf M => ?_, by rfl, fun z => absurd z (by decide)⟩
          obtain ⟨x, bs, hx, r⟩ := fk f hf
          rcases hasK_cases hx with ⟨i, z, _⟩ | ⟨xs, rfl, z⟩
          · exact absurd z hk0
          · exact type_tup r
      obtain ⟨T, t1, t2, t3⟩ := hT
      refine ⟨tuples' (T != Value.type "tuple"), fun Q E hq => ?_, fun p q hp hq => ?_⟩
      · exact kat_kind (s := { s with heap := h' }) q1 (by omega) (fun f hf => t1 f hf _) t2 hq
      · obtain ⟨x, xs, as, e1, _, z1, r1⟩ := hne _ hp
        obtain ⟨y, ys, bs, e2, _, z2, r2⟩ := hne _ hq
        have rm := room _ hp q.1
        rw [e1, e2] at rm
        have hgoal : SrtO.lt2 (fun u v => ltD (key u) (key v)) p q = PyProof.Rows.lexLt itemOrd (keyToksAll (x :: xs)) (keyToksAll (y :: ys)) := by
          show ltD (key p.1) (key q.1) = _
          rw [e1, e2]
          exact dataLt_tuple _ _
        have hfst := fun (hb : (T != Value.type "tuple") = true) => t3 hb _ hp x xs
        rw [hgoal]
        generalize p.1 = pv at r1 e1 hfst
        generalize q.1 = qv at r2 e2
        cases r1 with
        | @tuple l o vs1 n _ as₁ h1 h2' h3 h4 =>
          cases r2 with
          | @tuple l' o' vs2 n' _ bs₁ k1 k2 k3 k4 =>
            have n1 : vs1.size = (x :: xs).length := by simpa using ReadsAll.length _ _ _ h4
            have n2 : vs2.size = (y :: ys).length := by simpa using ReadsAll.length _ _ _ k4
            refine kat_lt (s := { s with heap := h' }) h1 h3 k1 k3 ?_
            refine katLex_alike (s := { s with heap := h' }) (x :: xs) (y :: ys) 0 _ _ _ _ h4 k4 (hasKs_alike _ _ k z1 z2) ?_ ?_ ?_ ⟨rfl, rfl⟩
            · have := rm
              simp only [PyData.depth] at this
              omega
            · intro hb _ x' r' t' e'
              cases e'
              exact hfst hb t' e1
            · rw [n1, n2]
end
end TB
set_option maxHeartbeats 4000000
namespace TB
open PySem L2
/-- what a value reads as -/
theorem key_of (h : Heap) (k : Kd) : ∃ key : Value → PyData, ∀ v d as, hasK k d = true → Reads h v d as → key v = d := by
  have h1 : ∀ v : Value, ∃ d : PyData, ∀ d' as, hasK k d' = true → Reads h v d' as → d = d' := fun v => by
    by_cases q : ∃ d as, hasK k d = true ∧ Reads h v d as
    · obtain ⟨d, as, k1, r⟩ := q
      exact ⟨d, fun d' as' k2 r' => PySem.W.alike_unique d d' v as as' (hasK_alike d d' k k1 k2) r r'⟩
    · exact ⟨.none, fun d' as' k2 r' => absurd ⟨d', as', k2, r'⟩ q⟩
  obtain ⟨key, hk⟩ := Classical.axiomOfChoice h1
  exact ⟨key, fun v d as k1 r => hk v d as k1 r⟩
section
variable {X : Cx} {pins : List (Addr × Obj)} {σ : St} {H : Hp} {s : Shared}
theorem vals_mem {F : Hp} (I : Inv X pins σ H s) (hF : ∀ a o, F a = some o → H a = some o) {k : Kd} {key : Value → PyData} (hkey : ∀ v d as, hasK k d = true → Reads s.heap v d as → key v = d) : ∀ {xs : List V} {us : List Value} {ds : List PyData}, Vals xs us → DqAll F xs ds → (∀ d ∈ ds, hasK k d = true) →
    us.map key = ds ∧ ∀ u ∈ us, ∃ x, RelV x u ∧ Dq F x (key u) ∧ ∃ as, Reads s.heap u (key u) as := by
  intro xs us ds r
  induction r generalizing ds with
  | nil =>
    intro q _
    cases q
    exact ⟨rfl, fun _ m => nomatch m⟩
  | @cons x u xs us h r ih =>
    intro q hd
    cases q with
    | @cons _ _ d ds qd qs =>
      obtain ⟨as, rd⟩ := Dp.reads I d x u (qd.mono hF).dp h
      have e := hkey u d as (hd d List.mem_cons_self) rd
      obtain ⟨i1, i2⟩ := ih qs fun d' m => hd d' (List.mem_cons_of_mem _ m)
      refine ⟨by rw [List.map_cons, e, i1], fun v m => ?_⟩
      rcases List.mem_cons.mp m with rfl | m
      · exact ⟨x, h, by rw [e]; exact qd, as, by rw [e]; exact rd⟩
      · exact i2 v m
theorem vals_back {F : Hp} {key : Value → PyData} : ∀ {out : List Value}, (∀ u ∈ out, ∃ x, RelV x u ∧ Dq F x (key u)) → ∃ ys, Vals ys out ∧ DqAll F ys (out.map key)
  | [], _ => ⟨[], .nil, .nil⟩
  | u :: out, h => by
    obtain ⟨ys, k1, k2⟩ := vals_back (out := out) fun v m => h v (List.mem_cons_of_mem _ m)
    obtain ⟨x, r, q⟩ := h u List.mem_cons_self
    exact ⟨x :: ys, .cons r k1, .cons q k2⟩
end
/-! ### a tuple, sorted -/
section
variable {prog : Program} {w : World} {A : Around} {E : Value → Shared → Prop} {s : Shared}
open PyProof.Rows
/-- the heap in which what is walked was gathered -/
abbrev gathered (h : Heap) (vs : List Value) : Heap := (h.push (seqObj "list" #[] 0)).update h.objs.size (Obj.mapSeq (· ++ vs.toArray))
theorem gather_tuple {l : Addr} {vs : List Value} {Q : List Value → Shared → Prop} (hl : s.heap.IsTuple l vs.toArray) (sz : vs.length ≤ sizeLine) (q : Q vs { s with heap := gathered s.heap vs }) : wpAny (model prog w) A (collect (.ref l)) Q E s := by
  obtain ⟨o, g, c, n, d⟩ := id hl
  have gN : (s.heap.push (seqObj "list" #[] 0)).get? s.heap.objs.size = some (seqObj "list" #[] 0) := Heap.get?_push_size _ rfl
  have g' : (s.heap.push (seqObj "list" #[] 0)).get? l = some o := Heap.get?_push_of_some _ g
  unfold collect
  refine wpAny_bind (wpAny_runValue (codeAny_builtin entry_proto_collect' ?_))
  refine wpAny_bind (m := newList []) (wpAny_newList (wpAny_pure ⟨Code.quiet_builtin _ (by decide +kernel), codeAny_builtin entry_list_iadd' ?_⟩))
  show wpAny _ _ (Builtin.List.listExtendWith (.ref s.heap.objs.size) (.ref l) (.ref s.heap.objs.size)) _ _ _
  unfold Builtin.List.listExtendWith
  refine wpAny_bind (wpAny_typeOf (T := "tuple") ⟨o, g', c⟩ ?_)
  have yes : (Value.type "tuple" == Value.type "tuple") = true := by rfl
  rw [if_pos (by simp [yes])]
  refine wpAny_bind (listItems_at g' d (wpAny_bind (listItems_at (xs := #[]) (n := 0) gN rfl ?_)))
  rw [if_neg (by simp)]
  refine wpAny_bind (listUpdate_at (xs := #[]) (n := 0) gN rfl (wpAny_pure ?_) (Nat.zero_le _) (by simp; omega))
  refine wpAny_bind (m := load s.heap.objs.size) (wpAny_load (get?_update_seq gN _) ?_)
  have e : ((#[] : Array Value) ++ vs.toArray).toList = vs := by simp
  show wpAny _ _ (pure ((#[] : Array Value) ++ vs.toArray).toList) Q E _
  rw [e]
  exact wpAny_pure q
/-- sorted(x), from what is gathered of x -/
theorem sorted_of_gather {l : Addr} {vs : List Value} {ltv : Value → Value → Bool} {Q : Value → Shared → Prop} (O : SrtO.Swo ltv) (sz : vs.length ≤ sizeLine)
    (col : ∀ (Q' : List Value → Shared → Prop) (E' : Value → Shared → Prop), Q' vs { s with heap := gathered s.heap vs } → wpAny (model prog w) A.in1 (collect (.ref l)) Q' E' s)
    (hS : 2 ≤ vs.length → ∀ (h₁ : Heap) (a : Addr), (∀ b o, s.heap.get? b = some o → b ≠ a ∧ h₁.get? b = some o) → SrtO.SortableO prog w A.in1.in1 { s with heap := h₁ } a vs ltv)
    (q : ∀ (out : List Value) (h' : Heap) (p : Addr) (c : Nat), SrtO.Srtd ltv out → SrtO.Stb ltv out vs → (∀ b o, s.heap.get? b = some o → h'.get? b = some o) → s.heap.objs.size ≤ p → h'.get? p = some (seqObj "list" out.toArray c) → Q (.ref p) { s with heap := h' }) :
    wpAny (model prog w) A (call (.builtin "sorted") [.ref l]) Q E s := by
  refine Calls.call_function_entry kind_sorted plain_sorted entry_sorted (args_sorted1 _) ?_
  unfold Builtin.«sorted»
  refine wpAny_bind (m := checkCount "sorted" 1 1 _) (wpAny_pure (wpAny_bind (col _ _ (wpAny_bind (wpAny_newList ?_ sz)))))
  have size1 : (gathered s.heap vs).objs.size = s.heap.objs.size + 1 := by rw [Heap.size_update, size_push']
  have gL : ((gathered s.heap vs).push (seqObj "list" vs.toArray 0)).get? (gathered s.heap vs).objs.size = some (seqObj "list" vs.toArray 0) := Heap.get?_push_size _ rfl
  have old : ∀ b o, s.heap.get? b = some o → (gathered s.heap vs).get? b = some o := fun b o e => by
    rw [Heap.get?_update_ne _ _ _ _ (Nat.ne_of_lt (Heap.lt_size e))]
    exact Heap.get?_push_of_some _ e
  have keep : ∀ b o, s.heap.get? b = some o → b ≠ (gathered s.heap vs).objs.size ∧ ((gathered s.heap vs).push (seqObj "list" vs.toArray 0)).get? b = some o := fun b o e =>
    ⟨Nat.ne_of_lt (Heap.lt_size (old b o e)), Heap.get?_push_of_some _ (old b o e)⟩
  refine wpAny_bind (wpAny_holding (wpAny_call_entry slot_list_sort ⟨_, gL, rfl⟩ entry_list_sort (SrtO.list_sort_ord (s := { s with heap := (gathered s.heap vs).push (seqObj "list" vs.toArray 0) }) O gL sz (fun h2 => hS h2 _ _ keep) fun out h1 h2 => ⟨_, rfl, ?_⟩) (args_list_sort _)))
  obtain ⟨c, hc⟩ := sortedHeap_at (vs := vs) (out := out.toArray) gL
  refine wpAny_pure ⟨_, rfl, q out _ (gathered s.heap vs).objs.size c h1 h2 (fun b o e => ?_) (by rw [size1]; exact Nat.le_succ _) hc⟩
  have lt := Heap.lt_size (old b o e)
  show (sortedHeap ((gathered s.heap vs).push (seqObj "list" vs.toArray 0)) (gathered s.heap vs).objs.size vs out.toArray).get? b = some o
  rw [sortedHeap_old (Nat.ne_of_lt lt) (by rw [size_push']; exact Nat.lt_succ_of_lt lt)]
  exact (keep b o e).2
end
/-- sorted(xs), data of one kind -/
def rSortedK (k : Kd) : List V → Hp → VK → Prop := fun vs H Q => ∃ (F : Hp) (a : Addr) (xs : List V) (ds : List PyData), (∀ a o, F a = some o → H a = some o) ∧ vs = [V.ref a] ∧ (Rd H a (.lst xs) ∨ Rd H a (.tup xs)) ∧ DqAll F xs ds ∧ (∀ d ∈ ds, hasK k d = true ∧ d.depth ≤ 64) ∧
  ∀ (ys : List V) (p : Addr), DqAll F ys (sortD ds) → H p = none → Q (.ref p) (upd H p (.lst ys))
theorem cr_sortedK {X : Cx} (k : Kd) (hu : X.A.units + 70 < cLine) : CallR X (.builtin "sorted") (rSortedK k) := by
  intro pins s σ H vs us Q I r h
  obtain ⟨F, a, xs, ds, hF, rfl, hs, qd, hk, q⟩ := h
  rw [Vals.ref1 r]
  obtain ⟨its, rv, hz, col⟩ : ∃ its : List Value, Vals xs its ∧ xs.length ≤ sizeLine ∧ ∀ (Q' : List Value → Shared → Prop) (E' : Value → Shared → Prop), Q' its { s with heap := gathered s.heap its } → wpAny (model X.prog X.w) X.A.in1 (collect (.ref a)) Q' E' s := by
    rcases hs with hs | hs
    · obtain ⟨its, rv, hl, hz⟩ := I.list (.inl hs)
      exact ⟨its, rv, hz, fun Q' E' z => PyProof.Rows.collect_list hl.isList z (by rw [← rv.length]; exact hz)⟩
    · obtain ⟨its, rv, hl, hz⟩ := I.tuple (.inl hs)
      exact ⟨its, rv, hz, fun Q' E' z => gather_tuple hl (by rw [← rv.length]; exact hz) z⟩
  obtain ⟨key, hkey⟩ := key_of s.heap k
  obtain ⟨e1, e2⟩ := vals_mem I hF hkey rv qd fun d m => (hk d m).1
  have hkk : ∀ v ∈ its, hasK k (key v) = true ∧ (key v).depth ≤ 64 := fun v m => hk (key v) (by rw [← e1]; exact List.mem_map_of_mem m)
  refine sorted_of_gather (swo_data key) (by rw [← rv.length]; exact hz) col (fun h2 h₁ a' kk => data_sortable (h0 := s.heap) h2 (by show X.A.units + 1 + 1 + 64 < cLine; omega) kk hkk fun v m => by
    obtain ⟨_, _, _, z⟩ := e2 v m
    exact z) fun out h' p c h1 h2 kp sz hp => ?_
  have hmem : ∀ u ∈ out, u ∈ its := fun u m => h2.perm.mem_iff.mp m
  obtain ⟨ys, k1, k2⟩ := vals_back (F := F) (key := key) (out := out) fun u m => by
    obtain ⟨x, z1, z2, _⟩ := e2 u (hmem u m)
    exact ⟨x, z1, z2⟩
  have hout : out.map key = sortD ds := by
    refine srt_uniq (k := k) _ _ ?_ (List.pairwise_map.mpr h1) (sortD_srt ds) fun d m => ?_
    · exact ((h2.perm.map key).trans (by rw [e1])).trans (sortD_perm ds).symm
    · obtain ⟨u, mu, rfl⟩ := List.mem_map.mp m
      exact (hkk u (hmem u mu)).1
  rw [hout] at k2
  have hlen : ys.length ≤ sizeLine := by
    rw [k1.length, h2.perm.length_eq, ← rv.length]
    exact hz
  exact ⟨.ref p, upd H p (.lst ys), I.laid (t' := s.toks) kp sz ⟨hlen, out, c, k1, hp⟩, rfl, q _ _ k2 (I.hok.fresh sz)⟩
theorem keys_of {k : Kd} {ds : List PyData} (h : ds.all (fun x => hasK k x && okD x) = true) : ∀ d ∈ ds, hasK k d = true ∧ d.depth ≤ 64 := fun d m => by
  have := List.all_eq_true.mp h d m
  rw [Bool.and_eq_true] at this
  exact ⟨this.1, (okD_room this.2).2⟩
section
variable {X : Cx} {W : WX} {cl : Nat → Value} {pos : Pos} {a : Expr} {ra : SE}
theorem pe_sortedC (k : Kd) {p : Pos} (hu : X.A.units + 70 < cLine) (hg : Gl X "sorted") (hm : X.mg "sorted" = none) (ha0 : noSet a = true) (ha : PE X a (tE W cl ra)) : PE X (.Call (.Name "sorted" p) [a] [] pos) (tE W cl fun ρ h => (ra ρ h).bind fun x h => ofOpt ((dat1 h x).bind (sortedD k)) h) := by
  refine PE.imp (pe_callB (cr_sortedK k hu) hg hm boot_sorted (pa_cons ha pa_nil (star1 ha0)) (by decide) (by decide) (star1 ha0) rfl) fun σ H Q p => ?_
  refine tE_one (r := fun x H1 Q => rSortedK k [x] H1 Q) (fun F H A h x vx H0 R rx p => ?_) p
  obtain ⟨r, er, p⟩ := p.opt
  obtain ⟨d, e1, er⟩ := opt_bind er
  obtain ⟨ds, ei, er⟩ := opt_bind (show ((itemsD d).bind fun xs => if xs.all (fun x => hasK k x && okD x) = true then some (RV.new (sortD xs)) else none) = some r from er)
  obtain ⟨hc, rfl⟩ := if_some er
  obtain ⟨a, vs, rfl, q1, q2⟩ := rx.elems R e1 ei
  refine ⟨F, a, vs, ds, R.sub, rfl, ?_, q1, keys_of hc, fun ys p' hy hp => p.newL R hy p' hp⟩
  rcases q2 with ⟨_, q2⟩ | ⟨_, q2⟩
  · exact .inl q2
  · exact .inr q2
end
end TB
set_option maxHeartbeats 4000000
namespace TB
open PySem PySem.Spec PyProof.Rows L2
/-! ### keys of data -/
mutual
def toK : PyData → NestedKey
  | .int i => .num i
  | .tuple xs => .tup (toKs xs)
  | _ => .none
def toKs : List PyData → List NestedKey
  | [] => []
  | x :: xs => toK x :: toKs xs
end
mutual
theorem toK_num : ∀ (d : PyData) (k : Kd), hasK k d = true → numK (toK d) = true ∧ (toK d).depth = d.depth
  | .int i, k, _ => ⟨rfl, by simp [toK, NestedKey.depth, PyData.depth]⟩
  | .tuple xs, k, h => by
    obtain ⟨a, b⟩ := toKs_num xs k (hasK_tup h)
    exact ⟨a, by simp only [toK, NestedKey.depth, PyData.depth]; rw [b]⟩
  | .none, k, h => by cases k <;> exact nomatch (show false = true from h)
  | .bool _, k, h => by cases k <;> exact nomatch (show false = true from h)
  | .str _, k, h => by cases k <;> exact nomatch (show false = true from h)
  | .list _, k, h => by cases k <;> exact nomatch (show false = true from h)
  | .dict _, k, h => by cases k <;> exact nomatch (show false = true from h)
theorem toKs_num : ∀ (xs : List PyData) (k : Kd), hasKs k xs = true → numKs (toKs xs) = true ∧ NestedKey.depthAll (toKs xs) = PyData.depthAll xs
  | [], k, _ => ⟨rfl, by simp [toKs, NestedKey.depthAll, PyData.depthAll]⟩
  | x :: xs, k, h => by
    obtain ⟨h1, h2⟩ := hasKs_cons h
    obtain ⟨a, b⟩ := toK_num x _ h1
    obtain ⟨c, d⟩ := toKs_num xs _ h2
    refine ⟨?_, ?_⟩
    · show (numK (toK x) && numKs (toKs xs)) = true
      rw [a, c]; rfl
    · simp only [toKs, NestedKey.depthAll, PyData.depthAll]
      rw [b, d]
end
mutual
theorem toK_inj : ∀ (d e : PyData) (k : Kd), hasK k d = true → hasK k e = true → toK d = toK e → d = e
  | .int i, e, k, h, h', q => by
    rcases hasK_cases h' with ⟨j, _, rfl⟩ | ⟨ys, rfl, _⟩
    · simp only [toK, NestedKey.num.injEq] at q; rw [q]
    · simp [toK] at q
  | .tuple xs, e, k, h, h', q => by
    rcases hasK_cases h' with ⟨j, _, rfl⟩ | ⟨ys, rfl, hy⟩
    · simp [toK] at q
    · simp only [toK, NestedKey.tup.injEq] at q
      rw [toKs_inj xs ys k (hasK_tup h) hy q]
  | .none, _, k, h, _, _ => by cases k <;> exact nomatch (show false = true from h)
  | .bool _, _, k, h, _, _ => by cases k <;> exact nomatch (show false = true from h)
  | .str _, _, k, h, _, _ => by cases k <;> exact nomatch (show false = true from h)
  | .list _, _, k, h, _, _ => by cases k <;> exact nomatch (show false = true from h)
  | .dict _, _, k, h, _, _ => by cases k <;> exact nomatch (show false = true from h)
theorem toKs_inj : ∀ (xs ys : List PyData) (k : Kd), hasKs k xs = true → hasKs k ys = true → toKs xs = toKs ys → xs = ys
  | [], [], _, _, _, _ => rfl
  | [], y :: ys, _, _, _, q => by simp [toKs] at q
  | x :: xs, [], _, _, _, q => by simp [toKs] at q
  | x :: xs, y :: ys, k, h, h', q => by
    obtain ⟨a, b⟩ := hasKs_cons h
    obtain ⟨a', b'⟩ := hasKs_cons h'
    simp only [toKs, List.cons.injEq] at q
    rw [toK_inj x y _ a a' q.1, toKs_inj xs ys _ b b' q.2]
end
mutual
theorem nested_of {h : Heap} : ∀ (d : PyData) (k : Kd) (v : Value) (as : List Addr), hasK k d = true → Reads h v d as → NestedIs h (toK d) v
  | .int i, k, v, as, _, r => by cases r; exact .int _ _
  | .tuple xs, k, v, as, hk, r => by
    cases r with
    | tuple g c d q => exact .tup g c d (nesteds_of xs k _ _ (hasK_tup hk) q)
  | .none, k, _, _, h, _ => by cases k <;> exact nomatch (show false = true from h)
  | .bool _, k, _, _, h, _ => by cases k <;> exact nomatch (show false = true from h)
  | .str _, k, _, _, h, _ => by cases k <;> exact nomatch (show false = true from h)
  | .list _, k, _, _, h, _ => by cases k <;> exact nomatch (show false = true from h)
  | .dict _, k, _, _, h, _ => by cases k <;> exact nomatch (show false = true from h)
theorem nesteds_of {h : Heap} : ∀ (xs : List PyData) (k : Kd) (vs : List Value) (as : List Addr), hasKs k xs = true → ReadsAll h vs xs as → NestedAll h (toKs xs) vs
  | [], _, _, _, _, r => by cases r; exact .nil
  | x :: xs, k, _, _, hk, r => by
    obtain ⟨a, b⟩ := hasKs_cons hk
    cases r with
    | cons r1 r2 => exact .cons (nested_of x _ _ _ a r1) (nesteds_of xs _ _ _ b r2)
end
/-! ### without doubles -/
theorem eqv_iff {d e : PyData} {k : Kd} (h : hasK k d = true) (h' : hasK k e = true) : PyData.eqv d e = true ↔ d = e := by
  constructor
  · intro q
    have t := (PySem.W.toks_eqv d e (hasK_alike d e k h h')).1 q
    exact (toks_inj d e k [] [] h h' (by rw [t])).1
  · rintro rfl
    exact PySem.W.eqv_refl_alike d (hasK_alike d d k h h)
theorem dedup_ok {k : Kd} : ∀ l : List PyData, (∀ d ∈ l, hasK k d = true) → (dedup l).Nodup ∧ ∀ d, d ∈ dedup l ↔ d ∈ l
  | [], _ => ⟨List.nodup_nil, fun _ => Iff.rfl⟩
  | x :: xs, h => by
    obtain ⟨i1, i2⟩ := dedup_ok xs fun d m => h d (List.mem_cons_of_mem _ m)
    have hx := h x (List.mem_cons_self ..)
    have e : (xs.any fun y => PyData.eqv y x) = true ↔ x ∈ xs := by
      rw [List.any_eq_true]
      constructor
      · rintro ⟨y, m, q⟩
        rw [← (eqv_iff (h y (List.mem_cons_of_mem _ m)) hx).mp q]
        exact m
      · intro m
        exact ⟨x, m, (eqv_iff hx hx).mpr rfl⟩
    show (if (xs.any fun y => PyData.eqv y x) = true then dedup xs else x :: dedup xs).Nodup ∧ ∀ d, d ∈ (if (xs.any fun y => PyData.eqv y x) = true then dedup xs else x :: dedup xs) ↔ _
    by_cases c : (xs.any fun y => PyData.eqv y x) = true
    · rw [if_pos c]
      refine ⟨i1, fun d => ?_⟩
      rw [i2, List.mem_cons]
      exact ⟨.inr, fun z => z.elim (fun z => z ▸ e.mp c) id⟩
    · rw [if_neg c]
      refine ⟨List.nodup_cons.mpr ⟨fun z => c (e.mpr ((i2 x).mp z)), i1⟩, fun d => ?_⟩
      rw [List.mem_cons, List.mem_cons, i2]
section
variable {P : Program} {w : World} {A : Around} {E : Value → Shared → Prop} {s : Shared}
/-- sorted(s), s a set of data of one kind -/
theorem sorted_setD {k : Kd} {key : Value → PyData} {a : Addr} {es : Array (Int × Value)} {ep : Nat} {t : SetTable} {Q : Value → Shared → Prop} (hh : A.handled = none) (hu : A.units + 70 < cLine) (sa : SetAt s.heap a es ep t) (fit : t.fits es.size = true) (few : es.size < scanBound) (rs : Ris t.place.toList)
    (ld : w.params.followText "set-order" = true ∨ t.led = true) (hk : ∀ v ∈ es.toList.map (·.2), hasK k (key v) = true ∧ (key v).depth ≤ 64 ∧ ∃ as, Reads s.heap v (key v) as)
    (q : ∀ (s' : Shared) (p : Addr) (out : List Value) (c : Nat), (∀ b o, s.heap.get? b = some o → s'.heap.get? b = some o) → s'.gens = s.gens → s'.os = s.os → s.heap.objs.size ≤ p → s'.heap.get? p = some (seqObj "list" out.toArray c) → out.Perm (es.toList.map (·.2)) → out.map key = sortD ((es.toList.map (·.2)).map key) → Q (.ref p) s') :
    wpAny (model P w) A (call (.builtin "sorted") [.ref a]) Q E s := by
  refine Calls.call_function_entry kind_sorted plain_sorted entry_sorted (args_sorted1 _) ?_
  unfold Builtin.«sorted»
  refine wpAny_bind (m := checkCount "sorted" 1 1 _) (wpAny_pure ?_)
  refine wpAny_bind (collect_set (A := A.in1) hh sa fit few rs ld fun s1 vs kp sz g1 o1 pm => ?_)
  have vl : vs.length ≤ sizeLine := by
    rw [pm.length_eq, List.length_map, Array.length_toList, sizeLine_eq]
    unfold scanBound at few
    omega
  refine wpAny_bind (wpAny_newList ?_ vl)
  have gL : (s1.heap.push (seqObj "list" vs.toArray 0)).get? s1.heap.objs.size = some (seqObj "list" vs.toArray 0) := Heap.get?_push_size _ rfl
  have hk1 : ∀ v ∈ vs, hasK k (key v) = true ∧ (key v).depth ≤ 64 := fun v m => ⟨(hk v (pm.mem_iff.mp m)).1, (hk v (pm.mem_iff.mp m)).2.1⟩
  refine wpAny_bind (wpAny_holding (wpAny_call_entry slot_list_sort ⟨_, gL, rfl⟩ entry_list_sort (SrtO.list_sort_ord (s := { s1 with heap := s1.heap.push (seqObj "list" vs.toArray 0) }) (swo_data key) gL vl (fun h2 => data_sortable (h0 := s1.heap) h2 (by show A.units + 1 + 1 + 64 < cLine; omega) (fun b o e => ⟨Nat.ne_of_lt (Heap.lt_size e), Heap.get?_push_of_some _ e⟩) hk1 fun v m => ?_) fun out h1 h2 => ⟨_, rfl, ?_⟩) (args_list_sort _)))
  · obtain ⟨as, r⟩ := (hk v (pm.mem_iff.mp m)).2.2
    exact ⟨as, PyProof.Rows.Reads.keeps kp r⟩
  · obtain ⟨c, hc⟩ := sortedHeap_at (vs := vs) (out := out.toArray) gL
    have pv : out.Perm (es.toList.map (·.2)) := h2.perm.trans pm
    refine wpAny_pure ⟨_, rfl, q _ s1.heap.objs.size out c (fun b u e => ?_) g1 o1 sz hc pv ?_⟩
    · have e1 := kp b u e
      have lt := Heap.lt_size e1
      show (sortedHeap (s1.heap.push (seqObj "list" vs.toArray 0)) s1.heap.objs.size vs out.toArray).get? b = some u
      rw [sortedHeap_old (Nat.ne_of_lt lt) (by rw [size_push']; exact Nat.lt_succ_of_lt lt)]
      exact Heap.get?_push_of_some _ e1
    · refine srt_uniq (k := k) _ _ ((pv.map key).trans (sortD_perm _).symm) (List.pairwise_map.mpr h1) (sortD_srt _) fun d m => ?_
      obtain ⟨u, mu, rfl⟩ := List.mem_map.mp m
      exact (hk u (pv.mem_iff.mp mu)).1
end
/-! ### the rule -/
section
variable {X : Cx} {W : WX} {cl : Nat → Value} {pos : Pos} {a : Expr} {ra : SE}
theorem inv_drawn {pins : List (Addr × Obj)} {σ : L2.St} {H : Hp} {s s' : Shared} (I : Inv X pins σ H s) (h1 : s'.heap = s.heap) (h2 : s'.gens = s.gens) (h3 : s'.os = s.os) : Inv X pins σ H s' := by
  obtain ⟨h, g, d, t, o⟩ := s
  obtain ⟨h', g', d', t', o'⟩ := s'
  dsimp only at h1 h2 h3
  subst h1 h2 h3
  exact ⟨I.ok, I.os, I.bare, I.base, I.loc, I.cell, I.free, I.freeC, I.pin, I.hok, I.len⟩
/-- what the call of sorted(set(..)) asks, xs a list or a tuple -/
def rSortedSetK (k : Kd) : V → Hp → VK → Prop := fun x H Q => ∃ (F : Hp) (a : Addr) (xs : List V) (ds : List PyData), (∀ a o, F a = some o → H a = some o) ∧ x = V.ref a ∧ (Rd H a (.lst xs) ∨ Rd H a (.tup xs)) ∧ DqAll F xs ds ∧ (∀ d ∈ ds, hasK k d = true ∧ d.depth ≤ 8) ∧ ds.length < 64 ∧
  ∀ (ys : List V) (p : Addr), DqAll F ys (sortD (dedup ds)) → H p = none → Q (.ref p) (upd H p (.lst ys))
def tSortedSet (k : Kd) (ta : TE) : TE := fun σ H Q => ta σ H fun x H1 => rSortedSetK k x H1 Q
theorem perm_sets {k : Kd} {l ds : List PyData} (h : ∀ d ∈ ds, hasK k d = true) (nd : l.Nodup) (m : ∀ d, d ∈ l ↔ d ∈ ds) : sortD l = sortD (dedup ds) := by
  obtain ⟨i1, i2⟩ := dedup_ok ds h
  have pm : l.Perm (dedup ds) := (List.perm_ext_iff_of_nodup nd i1).mpr fun d => by rw [m, i2]
  exact srt_uniq (k := k) _ _ (((sortD_perm l).trans pm).trans (sortD_perm _).symm) (sortD_srt _) (sortD_srt _) fun d md => h d ((m d).mp ((sortD_perm l).mem_iff.mp md))
theorem pe_sortedSetK (k : Kd) {p p2 pos2 : Pos} (hc : X.calm = true) (hu : X.A.units + 80 < cLine) (hg : Gl X "sorted") (hm : X.mg "sorted" = none) (hg2 : Gl X "set") (hm2 : X.mg "set" = none) (ha0 : noSet a = true) {ta : TE} (ha : PE X a ta) :
    PE X (.Call (.Name "sorted" p) [.Call (.Name "set" p2) [a] [] pos2] [] pos) (tSortedSet k ta) := by
  refine ⟨fun pins s σ H Q I h => ?_⟩
  refine Call_ (ld_blt I hg hm boot_sorted ?_)
  refine PyProof.Rows.callWith_builtin1 (PyProof.Rows.args_cons ?_ rfl) rfl rfl
  refine Call_ (ld_blt I hg2 hm2 PyProof.Rows.boot_set ?_)
  refine PyProof.Rows.callWith_type1 (PyProof.Rows.args_cons (thn (ha.run pins s σ H _ I h) fun v s1 ⟨x, H1, I1, r1, q1⟩ => PyProof.Rows.args_nil ?_) (star1 ha0)) (star1 ha0) rfl
  obtain ⟨F, l, xs, ds, hF, rfl, hq, qd, hk, few, q⟩ := q1
  cases r1
  have hh : X.A.handled = none := I1.ok.hd hc
  obtain ⟨its, rv, hl, hz⟩ : ∃ its : List Value, Vals xs its ∧ (s1.heap.IsList l its.toArray ∨ s1.heap.IsTuple l its.toArray) ∧ xs.length ≤ sizeLine := by
    rcases hq with hq | hq
    · obtain ⟨its, rv, pl, hz⟩ := I1.list (.inl hq)
      exact ⟨its, rv, .inl pl.isList, hz⟩
    · obtain ⟨its, rv, pl, hz⟩ := I1.tuple (.inl hq)
      exact ⟨its, rv, .inr pl, hz⟩
  obtain ⟨key, hkey⟩ := key_of s1.heap k
  obtain ⟨e1, e2⟩ := vals_mem I1 hF hkey rv qd fun d m => (hk d m).1
  have hkk : ∀ v ∈ its, hasK k (key v) = true ∧ (key v).depth ≤ 8 := fun v m => hk (key v) (by rw [← e1]; exact List.mem_map_of_mem m)
  have il : its.length = ds.length := by rw [← e1, List.length_map]
  -- the end, from a set whose items are the list's
  have fin : ∀ (h' : Heap) (tk : Nat) (es : Array (Int × Value)) (ep : Nat) (t : SetTable) (o : Obj), h'.get? s1.heap.objs.size = some o → o.ExactSet → o.data = .set es ep t → t.fits es.size = true → es.size < scanBound → Ris t.place.toList → (X.w.params.followText "set-order" = true ∨ t.led = true) →
      (∀ b o, s1.heap.get? b = some o → h'.get? b = some o) → (∀ v ∈ es.toList.map (·.2), hasK k (key v) = true ∧ (key v).depth ≤ 8 ∧ (∃ as, Reads s1.heap v (key v) as) ∧ ∃ x, RelV x v ∧ Dq F x (key v)) → ((es.toList.map (·.2)).map key).Nodup → (∀ d, d ∈ (es.toList.map (·.2)).map key ↔ d ∈ ds) →
      wpAny (model X.prog X.w) X.A (call (.builtin "sorted") [.ref s1.heap.objs.size]) (EP X pins σ Q) X.xe { s1 with heap := h', toks := tk } := by
    intro h' tk es ep t o g ex d fit few' rs ld kp hv nd mem
    refine sorted_setD (s := { s1 with heap := h', toks := tk }) (k := k) (key := key) hh (by omega) ⟨o, g, ex.1, d⟩ fit few' rs ld (fun v m => ?_) fun s' p out c kp' gs os sz hp pm hs => ?_
    · obtain ⟨z1, z2, ⟨as, z3⟩, _⟩ := hv v m
      exact ⟨z1, by omega, as, PyProof.Rows.Reads.keeps kp z3⟩
    · obtain ⟨ys, k1, k2⟩ := vals_back (F := F) (key := key) (out := out) fun u m => (hv u (pm.mem_iff.mp m)).2.2.2
      rw [hs, perm_sets (fun d m => (hk d m).1) nd mem] at k2
      have I2 : Inv X pins σ H1 { s1 with heap := h', toks := tk } := I1.kept kp
      have hlen : ys.length ≤ sizeLine := by
        rw [k1.length, pm.length_eq, List.length_map, Array.length_toList, sizeLine_eq]
        unfold scanBound at few'
        omega
      have I3 : Inv X pins σ (upd H1 p (.lst ys)) { s1 with heap := s'.heap, toks := s'.toks } := I2.laid (t' := s'.toks) kp' sz ⟨hlen, out, c, k1, hp⟩
      exact ⟨.ref p, upd H1 p (.lst ys), inv_drawn I3 rfl gs os, rfl, q ys p k2 (I2.hok.fresh sz)⟩
  have u3 : X.A.in1.in1.in1.units + 8 < cLine := by show X.A.units + 1 + 1 + 1 + 8 < cLine; omega
  by_cases hki : k = .int
  · subst hki
    have hint : ∀ v ∈ its, ∃ i t, key v = .int i ∧ v = .int i t := fun v m => by
      obtain ⟨_, _, _, as, r⟩ := e2 v m
      rcases hasK_cases (hkk v m).1 with ⟨i, _, e⟩ | ⟨xs, _, z⟩
      · rw [e] at r
        cases r with
        | int i t => exact ⟨i, t, e, rfl⟩
      · cases xs <;> exact nomatch (show false = true from z)
    have asInts : ∀ l : List Value, (∀ v ∈ l, ∃ i t, key v = .int i ∧ v = .int i t) → ∃ ns, IntsAre l ns ∧ l.map key = ns.map PyData.int := by
      intro l
      induction l with
      | nil => intro _; exact ⟨[], .nil, rfl⟩
      | cons v l ih =>
        intro hv
        obtain ⟨ns, z1, z2⟩ := ih fun u m => hv u (List.mem_cons_of_mem _ m)
        obtain ⟨i, t, ek, rfl⟩ := hv v (List.mem_cons_self ..)
        exact ⟨i :: ns, .cons i t z1, by rw [List.map_cons, List.map_cons, ek, z2]⟩
    obtain ⟨ns, n1, n2⟩ := asInts its hint
    have nl : ns.length < 64 := by
      have := congrArg List.length n2
      rw [List.length_map, List.length_map] at this
      omega
    have inj : ∀ i ∈ ns, ∃ v ∈ its, key v = .int i ∧ ∃ t, v = .int i t := fun i m => by
      have : PyData.int i ∈ its.map key := by rw [n2]; exact List.mem_map_of_mem m
      obtain ⟨v, mv, ev⟩ := List.mem_map.mp this
      obtain ⟨j, t, e, z⟩ := hint v mv
      rw [e] at ev
      cases ev
      exact ⟨v, mv, e, t, z⟩
    refine call_set_seq hh hl (fills_ints ns (by simpa using n1) (by unfold scanBound; omega)) fun h' tk ⟨c, hc', hS⟩ kp => ?_
    obtain ⟨o, es, ep, t, g, ex, d, gd, nd, mem, few', fit, hn, rs, ld⟩ := hS
    refine PyProof.Rows.args_nil ?_
    have vk : ∀ v ∈ es.toList.map (·.2), ∃ i t, v = .int i t ∧ i ∈ ns := fun v m => by
      obtain ⟨e, me, rfl⟩ := List.mem_map.mp m
      obtain ⟨i, tk, z1, z2⟩ := gd e me
      refine ⟨i, tk, z1, ?_⟩
      have : i ∈ es.toList.map keyOf := List.mem_map.mpr ⟨e, me, by unfold keyOf; rw [z1]⟩
      simpa using (mem i).mpr this
    have kv : ∀ i t, key (.int i t) = .int i := fun i t => hkey _ _ [] rfl (.int i t)
    have vk2 : ∀ v ∈ es.toList.map (·.2), key v = .int (match v with | .int k _ => k | _ => 0) := fun v m => by
      obtain ⟨i, t, rfl, _⟩ := vk v m
      exact kv i t
    have keyE : (es.toList.map (·.2)).map key = (es.toList.map keyOf).map PyData.int := by
      rw [List.map_map, List.map_map]
      refine List.map_congr_left fun e me => ?_
      exact vk2 e.2 (List.mem_map_of_mem me)
    refine fin h' tk es ep t o g ex d fit few' rs ld kp (fun v m => ?_) ?_ fun d => ?_
    · obtain ⟨i, t, rfl, mi⟩ := vk v m
      obtain ⟨v', mv, ev, t', _⟩ := inj i mi
      refine ⟨by rw [kv]; rfl, by rw [kv, ← ev]; exact (hkk v' mv).2, ⟨[], by rw [kv]; exact .int i t⟩, .int i, ⟨t, rfl⟩, by rw [kv]; exact .int i⟩
    · rw [keyE]
      exact List.pairwise_map.mpr (nd.imp fun hne z => hne (by cases z; rfl))
    · rw [keyE, ← e1, n2]
      constructor
      · intro m
        obtain ⟨i, mi, rfl⟩ := List.mem_map.mp m
        exact List.mem_map_of_mem (by simpa using (mem i).mpr mi)
      · intro m
        obtain ⟨i, mi, rfl⟩ := List.mem_map.mp m
        exact List.mem_map_of_mem ((mem i).mp (by simpa using mi))
  · have htup : ∀ v ∈ its, ∃ b, v = .ref b ∧ KAt s1.heap (toK (key v)) b := fun v m => by
      obtain ⟨_, _, _, as, r⟩ := e2 v m
      have z0 := hkk v m
      rcases hasK_cases z0.1 with ⟨i, z, _⟩ | ⟨xs, e, z⟩
      · exact absurd z hki
      · have n0 := nested_of (key v) k v as z0.1 r
        obtain ⟨t1, t2⟩ := toK_num (key v) k z0.1
        rw [e] at r
        cases r with
        | tuple g c d q => exact ⟨_, rfl, n0, by rw [t2]; exact z0.2, t1⟩
    have kls : ∀ l : List Value, (∀ v ∈ l, ∃ b, v = .ref b ∧ KAt s1.heap (toK (key v)) b) → ∃ ks : KL, l = ks.map (fun p => Value.ref p.1) ∧ ∀ p ∈ ks, Value.ref p.1 ∈ l ∧ p.2 = toK (key (.ref p.1)) ∧ KAt s1.heap p.2 p.1 := by
      intro l
      induction l with
      | nil => intro _; exact ⟨[], rfl, fun _ m => absurd m (by simp)⟩
      | cons v l ih =>
        intro hv
        obtain ⟨ks, z1, z2⟩ := ih fun u m => hv u (List.mem_cons_of_mem _ m)
        obtain ⟨b, rfl, kb⟩ := hv v (List.mem_cons_self ..)
        refine ⟨(b, toK (key (.ref b))) :: ks, by rw [List.map_cons, ← z1], fun p m => ?_⟩
        rcases List.mem_cons.mp m with rfl | m
        · exact ⟨List.mem_cons_self .., rfl, kb⟩
        · obtain ⟨y1, y2⟩ := z2 p m
          exact ⟨List.mem_cons_of_mem _ y1, y2⟩
    obtain ⟨ks, k1, k2⟩ := kls its htup
    have kl : ks.length < 64 := by
      have := congrArg List.length k1
      rw [List.length_map] at this
      omega
    refine call_set_seq hh hl (fills_keys ks (by simpa using k1) (fun p m => (k2 p m).2.2) kl (by
      cases z : s1.heap.get? s1.heap.objs.size with
      | none => rfl
      | some o => exact absurd (Heap.lt_size z) (Nat.lt_irrefl _)) u3) fun h' tk ⟨L, es, ep, t, KS, had⟩ kp => ?_
    refine PyProof.Rows.args_nil ?_
    obtain ⟨o, g, ex, d⟩ := KS.obj
    have vE : es.toList.map (·.2) = L.map fun p => Value.ref p.1 := by
      rw [KS.ent]
      unfold entriesOf
      rw [List.map_map]
      rfl
    have kE : (es.toList.map (·.2)).map key = L.map fun p => key (.ref p.1) := by
      rw [vE, List.map_map]
      rfl
    have few' := KS.few
    have sz := ent_size KS.ent
    refine fin h' tk es ep t o g ex d (tab_fits KS.tab KS.ent (by have := KS.load; omega)) (by unfold scanBound; omega) KS.tab.ris KS.led kp (fun v m => ?_) ?_ fun d => ?_
    · rw [vE] at m
      obtain ⟨p, mp, rfl⟩ := List.mem_map.mp m
      have mi := (k2 p (had.sub p mp)).1
      obtain ⟨x, z1, z2, z3⟩ := e2 _ mi
      exact ⟨(hkk _ mi).1, (hkk _ mi).2, z3, x, z1, z2⟩
    · rw [kE]
      have nd := KS.nd
      rw [List.Nodup, List.pairwise_map] at nd
      rw [List.Nodup, List.pairwise_map]
      refine nd.imp_of_mem fun {p r} mp mr hne z => hne ?_
      rw [(k2 p (had.sub p mp)).2.1, (k2 r (had.sub r mr)).2.1, z]
    · rw [kE, ← e1]
      constructor
      · intro m
        obtain ⟨p, mp, rfl⟩ := List.mem_map.mp m
        exact List.mem_map_of_mem (k2 p (had.sub p mp)).1
      · intro m
        obtain ⟨v, mv, rfl⟩ := List.mem_map.mp m
        have mv' := mv
        rw [k1] at mv'
        obtain ⟨p, mp, rfl⟩ := List.mem_map.mp mv'
        have := had.all p (by rw [List.take_length]; exact mp)
        obtain ⟨r, mr, er⟩ := List.mem_map.mp this
        have y1 := (k2 p mp).2.1
        have y2 := (k2 r (had.sub r mr)).2.1
        have m1 := (k2 p mp).1
        have m2 := (k2 r (had.sub r mr)).1
        have : key (.ref r.1) = key (.ref p.1) := toK_inj _ _ k (hkk _ m2).1 (hkk _ m1).1 (by rw [← y1, ← y2, er])
        rw [← this]
        exact List.mem_map.mpr ⟨r, mr, rfl⟩
theorem pe_sortedSetC (k : Kd) {p p2 pos2 : Pos} (hc : X.calm = true) (hu : X.A.units + 80 < cLine) (hg : Gl X "sorted") (hm : X.mg "sorted" = none) (hg2 : Gl X "set") (hm2 : X.mg "set" = none) (ha0 : noSet a = true) (ha : PE X a (tE W cl ra)) :
    PE X (.Call (.Name "sorted" p) [.Call (.Name "set" p2) [a] [] pos2] [] pos) (tE W cl fun ρ h => (ra ρ h).bind fun x h => ofOpt ((dat1 h x).bind (sortedSetD k)) h) := by
  refine PE.imp (pe_sortedSetK k hc hu hg hm hg2 hm2 ha0 ha) fun σ H Q p => ?_
  refine tE_one (r := fun x H1 Q => rSortedSetK k x H1 Q) (fun F H A h x vx H0 R rx p => ?_) p
  obtain ⟨r, er, p⟩ := p.opt
  obtain ⟨d, e1, er⟩ := opt_bind er
  obtain ⟨ds, ei, er⟩ := opt_bind (show ((itemsD d).bind fun xs => if (xs.all (fun x => hasK k x && decide (x.depth ≤ 8)) && decide (xs.length < 64)) = true then some (RV.new (sortD (dedup xs))) else none) = some r from er)
  obtain ⟨hc', rfl⟩ := if_some er
  rw [Bool.and_eq_true] at hc'
  obtain ⟨a, vs, rfl, q1, q2⟩ := rx.elems R e1 ei
  refine ⟨F, a, vs, ds, R.sub, rfl, ?_, q1, fun d m => ?_, of_decide_eq_true hc'.2, fun ys p' hy hp => p.newL R hy p' hp⟩
  · rcases q2 with ⟨_, q2⟩ | ⟨_, q2⟩
    · exact .inl q2
    · exact .inr q2
  · have := List.all_eq_true.mp hc'.1 d m
    rw [Bool.and_eq_true] at this
    exact ⟨this.1, of_decide_eq_true this.2⟩
end
end TB
set_option maxHeartbeats 4000000
namespace TB
open PySem PySem.Spec PyProof.Rows L2 PySem.W
section
variable {X : Cx} {W : WX} {cl : Nat → Value} {pos : Pos} {a : Expr} {ra : SE}
/-- what the call of len(set(..)) asks -/
def rLenSetK (k : Kd) : V → Hp → VK → Prop := fun x H Q => ∃ (F : Hp) (a : Addr) (xs : List V) (ds : List PyData), (∀ a o, F a = some o → H a = some o) ∧ x = V.ref a ∧ (Rd H a (.lst xs) ∨ Rd H a (.tup xs)) ∧ DqAll F xs ds ∧ (∀ d ∈ ds, hasK k d = true ∧ d.depth ≤ 8) ∧ ds.length < 64 ∧ Q (.int (dedup ds).length) H
def tLenSet (k : Kd) (ta : TE) : TE := fun σ H Q => ta σ H fun x H1 => rLenSetK k x H1 Q
theorem pe_lenSetK (k : Kd) {p p2 pos2 : Pos} (hc : X.calm = true) (hu : X.A.units + 80 < cLine) (hg : Gl X "len") (hm : X.mg "len" = none) (hg2 : Gl X "set") (hm2 : X.mg "set" = none) (ha0 : noSet a = true) {ta : TE} (ha : PE X a ta) :
    PE X (.Call (.Name "len" p) [.Call (.Name "set" p2) [a] [] pos2] [] pos) (tLenSet k ta) := by
  refine ⟨fun pins s σ H Q I h => ?_⟩
  refine Call_ (ld_blt I hg hm boot_len ?_)
  refine PyProof.Rows.callWith_builtin1 (PyProof.Rows.args_cons ?_ rfl) rfl rfl
  refine Call_ (ld_blt I hg2 hm2 PyProof.Rows.boot_set ?_)
  refine PyProof.Rows.callWith_type1 (PyProof.Rows.args_cons (thn (ha.run pins s σ H _ I h) fun v s1 ⟨x, H1, I1, r1, q1⟩ => PyProof.Rows.args_nil ?_) (star1 ha0)) (star1 ha0) rfl
  obtain ⟨F, l, xs, ds, hF, rfl, hq, qd, hk, few, q⟩ := q1
  cases r1
  have hh : X.A.handled = none := I1.ok.hd hc
  obtain ⟨its, rv, hl, hz⟩ : ∃ its : List Value, Vals xs its ∧ (s1.heap.IsList l its.toArray ∨ s1.heap.IsTuple l its.toArray) ∧ xs.length ≤ sizeLine := by
    rcases hq with hq | hq
    · obtain ⟨its, rv, pl, hz⟩ := I1.list (.inl hq)
      exact ⟨its, rv, .inl pl.isList, hz⟩
    · obtain ⟨its, rv, pl, hz⟩ := I1.tuple (.inl hq)
      exact ⟨its, rv, .inr pl, hz⟩
  obtain ⟨key, hkey⟩ := key_of s1.heap k
  obtain ⟨e1, e2⟩ := vals_mem I1 hF hkey rv qd fun d m => (hk d m).1
  have hkk : ∀ v ∈ its, hasK k (key v) = true ∧ (key v).depth ≤ 8 := fun v m => hk (key v) (by rw [← e1]; exact List.mem_map_of_mem m)
  have il : its.length = ds.length := by rw [← e1, List.length_map]
  -- the end, from a set whose items are the list's
  have fin : ∀ (h' : Heap) (tk : Nat) (es : Array (Int × Value)) (ep : Nat) (t : SetTable) (o : Obj), h'.get? s1.heap.objs.size = some o → o.ExactSet → o.data = .set es ep t → t.fits es.size = true → es.size < scanBound → Ris t.place.toList → (X.w.params.followText "set-order" = true ∨ t.led = true) →
      (∀ b o, s1.heap.get? b = some o → h'.get? b = some o) → (∀ v ∈ es.toList.map (·.2), hasK k (key v) = true ∧ (key v).depth ≤ 8 ∧ (∃ as, Reads s1.heap v (key v) as) ∧ ∃ x, RelV x v ∧ Dq F x (key v)) → ((es.toList.map (·.2)).map key).Nodup → (∀ d, d ∈ (es.toList.map (·.2)).map key ↔ d ∈ ds) →
      wpAny (model X.prog X.w) X.A (call (.builtin "len") [.ref s1.heap.objs.size]) (EP X pins σ Q) X.xe { s1 with heap := h', toks := tk } := by
    intro h' tk es ep t o g ex d fit few' rs ld kp hv nd mem
    have I2 : Inv X pins σ H1 { s1 with heap := h', toks := tk } := I1.kept kp
    have hn : es.size = (dedup ds).length := by
      obtain ⟨i1, i2⟩ := dedup_ok ds fun d m => (hk d m).1
      have pm : ((es.toList.map (·.2)).map key).Perm (dedup ds) := (List.perm_ext_iff_of_nodup nd i1).mpr fun d => by rw [mem, i2]
      have := pm.length_eq
      rw [List.length_map, List.length_map, Array.length_toList] at this
      exact this
    refine call_len_set (s := { s1 with heap := h', toks := tk }) g ex d fit (by unfold scanBound at few'; omega) ⟨.int (dedup ds).length, H1, I2.tok _, ⟨_, by rw [hn]⟩, q⟩
  have u3 : X.A.in1.in1.in1.units + 8 < cLine := by show X.A.units + 1 + 1 + 1 + 8 < cLine; omega
  by_cases hki : k = .int
  · subst hki
    have hint : ∀ v ∈ its, ∃ i t, key v = .int i ∧ v = .int i t := fun v m => by
      obtain ⟨_, _, _, as, r⟩ := e2 v m
      rcases hasK_cases (hkk v m).1 with ⟨i, _, e⟩ | ⟨xs, _, z⟩
      · rw [e] at r
        cases r with
        | int i t => exact ⟨i, t, e, rfl⟩
      · cases xs <;> exact nomatch (show false = true from z)
    have asInts : ∀ l : List Value, (∀ v ∈ l, ∃ i t, key v = .int i ∧ v = .int i t) → ∃ ns, IntsAre l ns ∧ l.map key = ns.map PyData.int := by
      intro l
      induction l with
      | nil => intro _; exact ⟨[], .nil, rfl⟩
      | cons v l ih =>
        intro hv
        obtain ⟨ns, z1, z2⟩ := ih fun u m => hv u (List.mem_cons_of_mem _ m)
        obtain ⟨i, t, ek, rfl⟩ := hv v (List.mem_cons_self ..)
        exact ⟨i :: ns, .cons i t z1, by rw [List.map_cons, List.map_cons, ek, z2]⟩
    obtain ⟨ns, n1, n2⟩ := asInts its hint
    have nl : ns.length < 64 := by
      have := congrArg List.length n2
      rw [List.length_map, List.length_map] at this
      omega
    have inj : ∀ i ∈ ns, ∃ v ∈ its, key v = .int i ∧ ∃ t, v = .int i t := fun i m => by
      have : PyData.int i ∈ its.map key := by rw [n2]; exact List.mem_map_of_mem m
      obtain ⟨v, mv, ev⟩ := List.mem_map.mp this
      obtain ⟨j, t, e, z⟩ := hint v mv
      rw [e] at ev
      cases ev
      exact ⟨v, mv, e, t, z⟩
    refine call_set_seq hh hl (fills_ints ns (by simpa using n1) (by unfold scanBound; omega)) fun h' tk ⟨c, hc', hS⟩ kp => ?_
    obtain ⟨o, es, ep, t, g, ex, d, gd, nd, mem, few', fit, hn, rs, ld⟩ := hS
    refine PyProof.Rows.args_nil ?_
    have vk : ∀ v ∈ es.toList.map (·.2), ∃ i t, v = .int i t ∧ i ∈ ns := fun v m => by
      obtain ⟨e, me, rfl⟩ := List.mem_map.mp m
      obtain ⟨i, tk, z1, z2⟩ := gd e me
      refine ⟨i, tk, z1, ?_⟩
      have : i ∈ es.toList.map keyOf := List.mem_map.mpr ⟨e, me, by unfold keyOf; rw [z1]⟩
      simpa using (mem i).mpr this
    have kv : ∀ i t, key (.int i t) = .int i := fun i t => hkey _ _ [] rfl (.int i t)
    have vk2 : ∀ v ∈ es.toList.map (·.2), key v = .int (match v with | .int k _ => k | _ => 0) := fun v m => by
      obtain ⟨i, t, rfl, _⟩ := vk v m
      exact kv i t
    have keyE : (es.toList.map (·.2)).map key = (es.toList.map keyOf).map PyData.int := by
      rw [List.map_map, List.map_map]
      refine List.map_congr_left fun e me => ?_
      exact vk2 e.2 (List.mem_map_of_mem me)
    refine fin h' tk es ep t o g ex d fit few' rs ld kp (fun v m => ?_) ?_ fun d => ?_
    · obtain ⟨i, t, rfl, mi⟩ := vk v m
      obtain ⟨v', mv, ev, t', _⟩ := inj i mi
      refine ⟨by rw [kv]; rfl, by rw [kv, ← ev]; exact (hkk v' mv).2, ⟨[], by rw [kv]; exact .int i t⟩, .int i, ⟨t, rfl⟩, by rw [kv]; exact .int i⟩
    · rw [keyE]
      exact List.pairwise_map.mpr (nd.imp fun hne z => hne (by cases z; rfl))
    · rw [keyE, ← e1, n2]
      constructor
      · intro m
        obtain ⟨i, mi, rfl⟩ := List.mem_map.mp m
        exact List.mem_map_of_mem (by simpa using (mem i).mpr mi)
      · intro m
        obtain ⟨i, mi, rfl⟩ := List.mem_map.mp m
        exact List.mem_map_of_mem ((mem i).mp (by simpa using mi))
  · have htup : ∀ v ∈ its, ∃ b, v = .ref b ∧ KAt s1.heap (toK (key v)) b := fun v m => by
      obtain ⟨_, _, _, as, r⟩ := e2 v m
      have z0 := hkk v m
      rcases hasK_cases z0.1 with ⟨i, z, _⟩ | ⟨xs, e, z⟩
      · exact absurd z hki
      · have n0 := nested_of (key v) k v as z0.1 r
        obtain ⟨t1, t2⟩ := toK_num (key v) k z0.1
        rw [e] at r
        cases r with
        | tuple g c d q => exact ⟨_, rfl, n0, by rw [t2]; exact z0.2, t1⟩
    have kls : ∀ l : List Value, (∀ v ∈ l, ∃ b, v = .ref b ∧ KAt s1.heap (toK (key v)) b) → ∃ ks : KL, l = ks.map (fun p => Value.ref p.1) ∧ ∀ p ∈ ks, Value.ref p.1 ∈ l ∧ p.2 = toK (key (.ref p.1)) ∧ KAt s1.heap p.2 p.1 := by
      intro l
      induction l with
      | nil => intro _; exact ⟨[], rfl, fun _ m => absurd m (by simp)⟩
      | cons v l ih =>
        intro hv
        obtain ⟨ks, z1, z2⟩ := ih fun u m => hv u (List.mem_cons_of_mem _ m)
        obtain ⟨b, rfl, kb⟩ := hv v (List.mem_cons_self ..)
        refine ⟨(b, toK (key (.ref b))) :: ks, by rw [List.map_cons, ← z1], fun p m => ?_⟩
        rcases List.mem_cons.mp m with rfl | m
        · exact ⟨List.mem_cons_self .., rfl, kb⟩
        · obtain ⟨y1, y2⟩ := z2 p m
          exact ⟨List.mem_cons_of_mem _ y1, y2⟩
    obtain ⟨ks, k1, k2⟩ := kls its htup
    have kl : ks.length < 64 := by
      have := congrArg List.length k1
      rw [List.length_map] at this
      omega
    refine call_set_seq hh hl (fills_keys ks (by simpa using k1) (fun p m => (k2 p m).2.2) kl (by
      cases z : s1.heap.get? s1.heap.objs.size with
      | none => rfl
      | some o => exact absurd (Heap.lt_size z) (Nat.lt_irrefl _)) u3) fun h' tk ⟨L, es, ep, t, KS, had⟩ kp => ?_
    refine PyProof.Rows.args_nil ?_
    obtain ⟨o, g, ex, d⟩ := KS.obj
    have vE : es.toList.map (·.2) = L.map fun p => Value.ref p.1 := by
      rw [KS.ent]
      unfold entriesOf
      rw [List.map_map]
      rfl
    have kE : (es.toList.map (·.2)).map key = L.map fun p => key (.ref p.1) := by
      rw [vE, List.map_map]
      rfl
    have few' := KS.few
    have sz := ent_size KS.ent
    refine fin h' tk es ep t o g ex d (tab_fits KS.tab KS.ent (by have := KS.load; omega)) (by unfold scanBound; omega) KS.tab.ris KS.led kp (fun v m => ?_) ?_ fun d => ?_
    · rw [vE] at m
      obtain ⟨p, mp, rfl⟩ := List.mem_map.mp m
      have mi := (k2 p (had.sub p mp)).1
      obtain ⟨x, z1, z2, z3⟩ := e2 _ mi
      exact ⟨(hkk _ mi).1, (hkk _ mi).2, z3, x, z1, z2⟩
    · rw [kE]
      have nd := KS.nd
      rw [List.Nodup, List.pairwise_map] at nd
      rw [List.Nodup, List.pairwise_map]
      refine nd.imp_of_mem fun {p r} mp mr hne z => hne ?_
      rw [(k2 p (had.sub p mp)).2.1, (k2 r (had.sub r mr)).2.1, z]
    · rw [kE, ← e1]
      constructor
      · intro m
        obtain ⟨p, mp, rfl⟩ := List.mem_map.mp m
        exact List.mem_map_of_mem (k2 p (had.sub p mp)).1
      · intro m
        obtain ⟨v, mv, rfl⟩ := List.mem_map.mp m
        have mv' := mv
        rw [k1] at mv'
        obtain ⟨p, mp, rfl⟩ := List.mem_map.mp mv'
        have := had.all p (by rw [List.take_length]; exact mp)
        obtain ⟨r, mr, er⟩ := List.mem_map.mp this
        have y1 := (k2 p mp).2.1
        have y2 := (k2 r (had.sub r mr)).2.1
        have m1 := (k2 p mp).1
        have m2 := (k2 r (had.sub r mr)).1
        have : key (.ref r.1) = key (.ref p.1) := toK_inj _ _ k (hkk _ m2).1 (hkk _ m1).1 (by rw [← y1, ← y2, er])
        rw [← this]
        exact List.mem_map.mpr ⟨r, mr, rfl⟩
theorem pe_lenSetC (k : Kd) {p p2 pos2 : Pos} (hc : X.calm = true) (hu : X.A.units + 80 < cLine) (hg : Gl X "len") (hm : X.mg "len" = none) (hg2 : Gl X "set") (hm2 : X.mg "set" = none) (ha0 : noSet a = true) (ha : PE X a (tE W cl ra)) :
    PE X (.Call (.Name "len" p) [.Call (.Name "set" p2) [a] [] pos2] [] pos) (tE W cl fun ρ h => (ra ρ h).bind fun x h => ofOpt ((dat1 h x).bind (lenSetD k)) h) := by
  refine PE.imp (pe_lenSetK k hc hu hg hm hg2 hm2 ha0 ha) fun σ H Q p => ?_
  refine tE_one (r := fun x H1 Q => rLenSetK k x H1 Q) (fun F H A h x vx H0 R rx p => ?_) p
  obtain ⟨r, er, p⟩ := p.opt
  obtain ⟨d, e1, er⟩ := opt_bind er
  obtain ⟨ds, ei, er⟩ := opt_bind (show ((itemsD d).bind fun xs => if (xs.all (fun x => hasK k x && decide (x.depth ≤ 8)) && decide (xs.length < 64)) = true then some (RV.v (.dat (.int (dedup xs).length))) else none) = some r from er)
  obtain ⟨hc', rfl⟩ := if_some er
  rw [Bool.and_eq_true] at hc'
  obtain ⟨a, vs, rfl, q1, q2⟩ := rx.elems R e1 ei
  refine ⟨F, a, vs, ds, R.sub, rfl, ?_, q1, fun d m => ?_, of_decide_eq_true hc'.2, p.atom R (.int _)⟩
  · rcases q2 with ⟨_, q2⟩ | ⟨_, q2⟩
    · exact .inl q2
    · exact .inr q2
  · have := List.all_eq_true.mp hc'.1 d m
    rw [Bool.and_eq_true] at this
    exact ⟨this.1, of_decide_eq_true this.2⟩
theorem reads_all {pins : List (Addr × Obj)} {σ : L2.St} {H F : Hp} {s : Shared} (I : Inv X pins σ H s) (hF : ∀ a o, F a = some o → H a = some o) : ∀ {xs : List V} {us : List Value} {ds : List PyData}, Vals xs us → DqAll F xs ds → ∃ as, ReadsAll s.heap us ds as := by
  intro xs us ds r
  induction r generalizing ds with
  | nil =>
    intro q
    cases q
    exact ⟨_, .nil⟩
  | @cons x u xs us h r ih =>
    intro q
    cases q with
    | @cons _ _ d ds qd qs =>
      obtain ⟨as, rd⟩ := Dp.reads I d x u (qd.mono hF).dp h
      obtain ⟨bs, rs⟩ := ih qs
      exact ⟨_, .cons rd rs⟩
theorem bestD_mem (mx : Bool) : ∀ (xs : List PyData) (m : PyData), bestD mx m xs ∈ m :: xs
  | [], m => List.mem_cons_self
  | x :: xs, m => by
    have ih := bestD_mem mx xs (if (if mx then ltD m x else ltD x m) then x else m)
    show bestD mx (if (if mx then ltD m x else ltD x m) then x else m) xs ∈ m :: x :: xs
    rcases List.mem_cons.mp ih with e | e
    · rw [e]
      generalize (if mx then ltD m x else ltD x m) = b
      cases b
      · exact List.mem_cons_self
      · exact List.mem_cons_of_mem _ List.mem_cons_self
    · exact List.mem_cons_of_mem _ (List.mem_cons_of_mem _ e)
theorem best_min : ∀ (xs : List PyData) (m : PyData), bestD false m xs = minD m xs
  | [], m => rfl
  | x :: xs, m => best_min xs _
theorem best_max : ∀ (xs : List PyData) (m : PyData), bestD true m xs = maxD m xs
  | [], m => rfl
  | x :: xs, m => best_max xs _
theorem depths_le {n : Nat} : ∀ xs : List PyData, (∀ x ∈ xs, x.depth ≤ n) → PyData.depthAll xs ≤ n
  | [], _ => by simp [PyData.depthAll]
  | x :: xs, h => by
    have := depths_le xs fun y m => h y (List.mem_cons_of_mem _ m)
    have h2 := h x List.mem_cons_self
    simp only [PyData.depthAll]
    omega
def rMiniK (mx : Bool) (k : Kd) : List V → Hp → VK → Prop := fun vs H Q => ∃ (F : Hp) (a : Addr) (xs : List V) (d : PyData) (ds : List PyData), (∀ a o, F a = some o → H a = some o) ∧ vs = [V.ref a] ∧ Rd H a (.lst xs) ∧ DqAll F xs (d :: ds) ∧ (∀ e ∈ d :: ds, hasK k e = true ∧ e.depth ≤ 64) ∧
  ∀ y, Dq F y (bestD mx d ds) → Q y H
theorem cr_miniK (mx : Bool) (k : Kd) (hc : X.calm = true) (hu : X.A.units + 70 < cLine) : CallR X (.builtin (if mx then "max" else "min")) (rMiniK mx k) := by
  intro pins s σ H vs us Q I r h
  obtain ⟨F, a, xs, d, ds, hF, rfl, hs, qd, hk, q⟩ := h
  rw [Vals.ref1 r]
  obtain ⟨its, rv, hl, hz⟩ := I.list (.inl hs)
  obtain ⟨as, ra⟩ := reads_all I hF rv qd
  have hh : X.A.handled = none := I.ok.hd hc
  have al : AlikeAll (d :: ds) := ⟨fun x mx y my => hasK_alike x y k (hk x mx).1 (hk y my).1, fun x mx z => by
    have := (hk x mx).1
    rw [z] at this
    cases k <;> exact nomatch (show false = true from this)⟩
  have du : X.A.units + 1 + PyData.depthAll (d :: ds) < cLine := by
    have := depths_le (d :: ds) fun x m => (hk x m).2
    omega
  have fin : ∀ (i : Nat) (v : Value) (h' : Heap) (tk : Nat) (bs : List Addr), its.toArray[i]? = some v → Reads h' v (bestD mx d ds) bs → (∀ b o, s.heap.get? b = some o → h'.get? b = some o) → EP X pins σ Q v { s with heap := h', toks := tk } := by
    intro i v h' tk bs e rd kp
    have e' : its[i]? = some v := by rw [← Array.getElem?_toList] at e; simpa using e
    obtain ⟨e, ed, z1, z2, z3⟩ : ∃ x e, RelV x v ∧ Dq F x e ∧ e ∈ d :: ds ∧ ∃ as, Reads s.heap v e as := by
      have : ∀ {xs : List V} {us : List Value} {es : List PyData} {i : Nat}, Vals xs us → DqAll F xs es → us[i]? = some v → ∃ x e, RelV x v ∧ Dq F x e ∧ e ∈ es := by
        intro xs us es i r
        induction r generalizing es i with
        | nil => intro _ z; simp at z
        | @cons x u xs us h r ih =>
          intro q z
          cases q with
          | @cons _ _ d ds qd qs =>
            cases i with
            | zero => simp at z; subst z; exact ⟨x, d, h, qd, List.mem_cons_self⟩
            | succ i =>
              obtain ⟨x', e', k1, k2, k3⟩ := ih qs (by simpa using z)
              exact ⟨x', e', k1, k2, List.mem_cons_of_mem _ k3⟩
      obtain ⟨x, e, k1, k2, k3⟩ := this rv qd e'
      exact ⟨x, e, k1, k2, k3, Dp.reads I e x v (k2.mono hF).dp k1⟩
    obtain ⟨z3, as', rd'⟩ := z3
    have hb := hk _ (bestD_mem mx ds d)
    have : ed = bestD mx d ds := PySem.W.alike_unique ed (bestD mx d ds) v as' bs (hasK_alike _ _ k (hk _ z3).1 hb.1) (PyProof.Rows.Reads.keeps kp rd') rd
    subst this
    exact ⟨e, H, I.kept kp, z1, q e z2⟩
  cases mx with
  | false => exact min_list_data hh hl.isList ra al du fun i v h' tk bs e rd kp => fin i v h' tk bs e (by rw [best_min]; exact rd) kp
  | true => exact max_list_data hh hl.isList ra al du fun i v h' tk bs e rd kp => fin i v h' tk bs e (by rw [best_max]; exact rd) kp
theorem pe_miniC (mx : Bool) (k : Kd) {p : Pos} (hc : X.calm = true) (hu : X.A.units + 70 < cLine) (hg : Gl X (Str.ofString (if mx then "max" else "min"))) (hm : X.mg (Str.ofString (if mx then "max" else "min")) = none) (ha0 : noSet a = true) (ha : PE X a (tE W cl ra)) :
    PE X (.Call (.Name (Str.ofString (if mx then "max" else "min")) p) [a] [] pos) (tE W cl fun ρ h => (ra ρ h).bind fun x h => ofOpt ((dat1 h x).bind (miniD mx k)) h) := by
  have key : ∀ σ H Q, tE W cl (fun ρ h => (ra ρ h).bind fun x h => ofOpt ((dat1 h x).bind (miniD mx k)) h) σ H Q → (tE W cl ra) σ H fun x H1 => rMiniK mx k [x] H1 Q := fun σ H Q p => by
    refine tE_one (r := fun x H1 Q => rMiniK mx k [x] H1 Q) (fun F H A h x vx H0 R rx p => ?_) p
    obtain ⟨r, er, p⟩ := p.opt
    obtain ⟨d, e1, er⟩ := opt_bind er
    cases d with
    | list ds =>
      cases ds with
      | nil => cases er
      | cons d ds =>
        obtain ⟨hc, rfl⟩ := if_some (show (if (d :: ds).all (fun x => hasK k x && okD x) = true then some (RV.v (.dat (bestD mx d ds))) else none) = some r from er)
        obtain ⟨a, vs, rfl, q1, q2⟩ := rx.elems R e1 rfl
        rcases q2 with ⟨_, q2⟩ | ⟨z, _⟩
        · exact ⟨F, a, vs, d, ds, R.sub, rfl, q2, q1, keys_of hc, fun y hy => p F H y Ext.refl R hy⟩
        · cases z
    | _ => cases er
  cases mx with
  | false => exact PE.imp (pe_callB (cr_miniK false k hc hu) hg hm boot_min (pa_cons ha pa_nil (star1 ha0)) (by decide) (by decide) (star1 ha0) rfl) fun σ H Q p => key σ H Q p
  | true => exact PE.imp (pe_callB (cr_miniK true k hc hu) hg hm boot_max (pa_cons ha pa_nil (star1 ha0)) (by decide) (by decide) (star1 ha0) rfl) fun σ H Q p => key σ H Q p
/-! ### list(range(i, j)), tuple(range(i, j)) -/
theorem small_rg2 {i j : Int} (h : (smallI i && smallI j) = true) : RgOk i j := by
  rw [Bool.and_eq_true] at h
  have h1 := of_decide_eq_true (show decide (-1000000 ≤ i ∧ i ≤ 1000000) = true from h.1)
  have h2 := of_decide_eq_true (show decide (-1000000 ≤ j ∧ j ≤ 1000000) = true from h.2)
  exact ⟨by omega, by omega, by omega, by omega, by omega⟩
def conv2R (tup : Bool) (ra rb : SE) : SE := fun ρ h => (ra ρ h).bind fun x h => (rb ρ h).bind fun y h => ofOpt ((dat1 h x).bind fun d => (intOf d).bind fun i => (dat1 h y).bind fun e => (intOf e).bind fun j => conv2D tup i j) h
theorem pe_conv2C (tup : Bool) {b : Expr} {rb : SE} {p p2 : Pos} {pos2 : Pos} (hc : X.calm = true) (hg : Gl X (Str.ofString (if tup then "tuple" else "list"))) (hm : X.mg (Str.ofString (if tup then "tuple" else "list")) = none) (hg2 : Gl X "range") (hm2 : X.mg "range" = none) (ha0 : noSet a = true) (hb0 : noSet b = true) (ha : PE X a (tE W cl ra)) (hb : PE X b (tE W cl rb)) :
    PE X (.Call (.Name (Str.ofString (if tup then "tuple" else "list")) p) [.Call (.Name "range" p2) [a, b] [] pos2] [] pos) (tE W cl (conv2R tup ra rb)) := by
  have rg := prg_2 (pos := pos2) (p := p2) hg2 hm2 ha hb (by rw [star1 ha0]) (star1 hb0) (noAny1 hb0)
  have two : ∀ {r' : Int → Int → Hp → VK → Prop} {σ : L2.St} {H : Hp} {Q : VK}, (∀ i j F H A h r, Rl F H A h → conv2D tup i j = some r → PostE W cl σ F H A Q (.ok r h) → r' i j H Q) → tE W cl (conv2R tup ra rb) σ H Q →
      tOp (fun x y H Q => ∃ i j, x = .int i ∧ y = .int j ∧ r' i j H Q) (tE W cl ra) (tE W cl rb) σ H Q := fun {r' σ H Q} hr p => by
    refine tE_two (fun F H A h x y vx vy H0 R rx ry p => ?_) p
    obtain ⟨r, er, p⟩ := p.opt
    obtain ⟨d, e1, er⟩ := opt_bind er
    obtain ⟨i, ei, er⟩ := opt_bind er
    obtain ⟨e, e2, er⟩ := opt_bind er
    obtain ⟨j, ej, er⟩ := opt_bind er
    have := int_of ei
    subst this
    have := int_of ej
    subst this
    exact ⟨i, j, (rx.dq R e1).int_inv, (ry.dq R e2).int_inv, hr i j F H A h r R er p⟩
  cases tup with
  | false =>
    refine PE.imp (pe_listRg hc hg hm rg) fun σ H Q p => ?_
    refine two (r' := fun i j H1 Q => RgOk i j ∧ ∀ q, H1 q = none → Q (.ref q) (upd H1 q (.lst (rgV i j)))) (fun i j F H A h r R er p => ?_) p
    obtain ⟨hs, rfl⟩ := if_some (show (if (smallI i && smallI j) = true then some (RV.new (rangeD i j)) else none) = some r from er)
    exact ⟨small_rg2 hs, p.newL R (rg_dq i j)⟩
  | true =>
    refine PE.imp (pe_tupRg hc hg hm rg) fun σ H Q p => ?_
    refine two (r' := fun i j H1 Q => RgOk i j ∧ ∀ q, H1 q = none → Q (.ref q) (upd H1 q (.tup (rgV i j)))) (fun i j F H A h r R er p => ?_) p
    obtain ⟨hs, rfl⟩ := if_some (show (if (smallI i && smallI j) = true then some (RV.v (.dat (.tuple (rangeD i j)))) else none) = some r from er)
    exact ⟨small_rg2 hs, p.newT R (rg_dq i j)⟩
end
end TB
set_option maxHeartbeats 4000000
namespace TB
open PySem L2
section
variable {G : Glb} {k : Nat}
theorem eBO_inv {a : BO} {b : Operator} (h : eBO a b = true) : b = opOf a := by
  unfold eBO at h
  exact (by simpa using h : opOf a = b).symm
theorem eCO_inv {a : CO} {b : CmpOp} (h : eCO a b = true) : b = cOf a := by
  unfold eCO at h
  exact (by simpa using h : cOf a = b).symm
theorem str_eq {a b : Str} (h : (a == b) = true) : a = b := by simpa using h
theorem opt_eq {a b : Option Str} (h : (a == b) = true) : a = b := by simpa using h
theorem bf_eq {a : Bool} (h : (a == false) = true) : a = false := by simpa using h
theorem cst_ok {X : Cx} {d : PyData} {c : Const} {j : Nat} {p : Pos} (h : cstB d c = true) : ∃ v, PE X (.Constant c j p) (tC v) ∧ ∀ F, Dq F v d := by
  cases d with
  | none =>
    cases c <;> first | exact ⟨.non, pe_non, fun F => .non⟩ | cases h
  | bool b =>
    cases c with
    | bool b' =>
      have : b = b' := by simpa [cstB] using h
      subst this
      exact ⟨.bl b, pe_bl, fun F => .bl b⟩
    | _ => cases h
  | int i =>
    cases c with
    | int i' =>
      have : i = i' := by simpa [cstB] using h
      subst this
      exact ⟨.int i, pe_int, fun F => .int i⟩
    | _ => cases h
  | str x =>
    cases c with
    | str x' =>
      have : x = x' := by simpa [cstB] using h
      subst this
      exact ⟨.str x, pe_str, fun F => .str x⟩
    | _ => cases h
  | list _ => cases h
  | tuple _ => cases h
  | dict _ => cases h
theorem Good.units {X : Cx} {W : WX} (g : Good G X W k) : X.A.units + 80 < cLine := by have := g.room.un; omega

mutual
theorem sG : ∀ (t : Tg) {X : Cx} {W : WX} {sc : Scope} {e : Expr}, Good G X W k → ScOk X sc → chkG X.N sc t e = true → PG X e (tG t)
  | .name i, X, W, sc, e, g, s, h => by
    have h' : (match sName e with | some x => X.N[i]? == some x && locB sc x | none => false) = true := h
    cases en : sName e with
    | none => rw [en] at h'; cases h'
    | some x =>
      rw [en] at h'
      dsimp only at h'
      rw [Bool.and_eq_true] at h'
      obtain ⟨p, rfl⟩ := sName_inv en
      obtain ⟨l1, l2⟩ := s.loc x h'.2
      exact pg_nameC g.nd (opt_eq h'.1) l1 l2
  | .nil, X, W, sc, e, g, s, h => by
    cases e with
    | Tuple xs kk p =>
      cases xs with
      | nil => exact pg_tupC g.calm rfl rfl rfl pgs_nilC
      | cons _ _ => exact nomatch (show false = true from h)
    | _ => exact nomatch (show false = true from h)
  | .cons t u, X, W, sc, e, g, s, h => by
    cases e with
    | Tuple xs kk p =>
      cases xs with
      | nil => exact nomatch (show false = true from h)
      | cons x xs =>
        have h' : (noStar x && chkG X.N sc t x && chkGs X.N sc u xs) = true := h
        rw [Bool.and_eq_true, Bool.and_eq_true] at h'
        obtain ⟨q1, q2, q3⟩ := sGs u g s h'.2
        refine pg_tupC g.calm ?_ ?_ rfl (pgs_consC h'.1.1 (sG t g s h'.1.2) q1)
        · rw [List.all_cons, h'.1.1, q2]; rfl
        · rw [List.length_cons, q3]; rfl
    | _ => exact nomatch (show false = true from h)
theorem sGs : ∀ (t : Tg) {X : Cx} {W : WX} {sc : Scope} {es : List Expr}, Good G X W k → ScOk X sc → chkGs X.N sc t es = true → PGs X es (tGs t) ∧ es.all noStar = true ∧ es.length = tgLen t
  | .name i, X, W, sc, es, g, s, h => nomatch (show false = true from h)
  | .nil, X, W, sc, es, g, s, h => by
    cases es with
    | nil => exact ⟨pgs_nilC, rfl, rfl⟩
    | cons _ _ => exact nomatch (show false = true from h)
  | .cons t u, X, W, sc, es, g, s, h => by
    cases es with
    | nil => exact nomatch (show false = true from h)
    | cons x xs =>
      have h' : (noStar x && chkG X.N sc t x && chkGs X.N sc u xs) = true := h
      rw [Bool.and_eq_true, Bool.and_eq_true] at h'
      obtain ⟨q1, q2, q3⟩ := sGs u g s h'.2
      refine ⟨pgs_consC h'.1.1 (sG t g s h'.1.2) q1, ?_, ?_⟩
      · rw [List.all_cons, h'.1.1, q2]; rfl
      · rw [List.length_cons, q3]; rfl
end
end
end TB
set_option maxHeartbeats 8000000
namespace TB
open PySem L2
section
variable {G : Glb} {k : Nat}
theorem no {p : Prop} (h : false = true) : p := nomatch h
theorem blt_mem {X : Cx} {W : WX} (g : Good G X W k) {x : Str} (h : bltNames.contains x = true) : X.mg x = none := g.blt x (by simpa using h)
theorem evVs_len (call : CallF) : ∀ (es : CEs) (xs : List Expr) (ρ : EV) (h : HP) (ys : List Vl) (h' : HP) (P : Prog) (N : List Str) (sc : Scope), chkEs P N es sc xs = true → evVs call es ρ h = .ok ys h' → ys.length = xs.length
  | .nil, xs, ρ, h, ys, h', P, N, sc, hc, e => by
    cases xs with
    | nil =>
      have e' : (Res.ok [] h : Res (List Vl)) = .ok ys h' := e
      cases e'
      rfl
    | cons _ _ => exact no (show false = true from hc)
  | .cons c es, xs, ρ, h, ys, h', P, N, sc, hc, e => by
    cases xs with
    | nil => exact no (show false = true from hc)
    | cons x xs =>
      have hc' : (noSet x && chkE P N c sc x && chkEs P N es sc xs) = true := hc
      rw [Bool.and_eq_true, Bool.and_eq_true] at hc'
      have e' : ((ev call c ρ h).bind fun x h => (evVs call es ρ h).bind fun xs h => .ok (settle x :: xs) h) = .ok ys h' := e
      cases e1 : ev call c ρ h with
      | bad => rw [e1] at e'; cases e'
      | exc c1 h1 => rw [e1] at e'; cases e'
      | ok y h1 =>
        rw [e1, Res.bind_ok] at e'
        cases e2 : evVs call es ρ h1 with
        | bad => rw [e2] at e'; cases e'
        | exc c1 h2 => rw [e2] at e'; cases e'
        | ok zs h2 =>
          rw [e2, Res.bind_ok] at e'
          cases e'
          rw [List.length_cons, List.length_cons, evVs_len call es xs ρ h1 zs _ P N sc hc'.2 e2]


theorem cmp_bool {ra rb : SE} {op : CO} {ρ : EV} {h : HP} {x : RV} {h1 : HP} (q : ((ra ρ h).bind fun x h => (rb ρ h).bind fun y h => ofOpt ((dat1 h x).bind fun d => (dat1 h y).bind fun e => (cmpD op d e).map fun b => RV.v (.dat (.bool b))) h) = .ok x h1) : ∃ b, x = .v (.dat (.bool b)) := by
  cases e1 : ra ρ h with
  | bad => rw [e1] at q; cases q
  | exc c h2 => rw [e1] at q; cases q
  | ok u h2 =>
    rw [e1, Res.bind_ok] at q
    cases e2 : rb ρ h2 with
    | bad => rw [e2] at q; cases q
    | exc c h3 => rw [e2] at q; cases q
    | ok w h3 =>
      rw [e2, Res.bind_ok] at q
      cases e3 : ((dat1 h3 u).bind fun d => (dat1 h3 w).bind fun e => (cmpD op d e).map fun b => RV.v (.dat (.bool b))) with
      | none => rw [e3] at q; cases q
      | some z =>
        rw [e3] at q
        cases q
        obtain ⟨d, _, e3⟩ := opt_bind e3
        obtain ⟨e, _, e3⟩ := opt_bind e3
        obtain ⟨b, _, rfl⟩ := opt_map e3
        exact ⟨b, rfl⟩
theorem isN_bool {ra : SE} {neg : Bool} {ρ : EV} {h : HP} {x : RV} {h1 : HP} (q : ((ra ρ h).bind fun x h => .ok (RV.v (.dat (.bool (match x with | .v (.dat .none) => !neg | _ => neg)))) h) = .ok x h1) : ∃ b, x = .v (.dat (.bool b)) := by
  cases e1 : ra ρ h with
  | bad => rw [e1] at q; cases q
  | exc c h2 => rw [e1] at q; cases q
  | ok u h2 =>
    rw [e1, Res.bind_ok] at q
    cases q
    exact ⟨_, rfl⟩
theorem pts_imp {X : Cx} {ifs : List Expr} {t t' : TT} (p : PTs X ifs t) (i : ∀ σ H Q, t' σ H Q → t σ H Q) : PTs X ifs t' := ⟨fun pins s σ H Q I h => p.run pins s σ H Q I (i σ H Q h)⟩
theorem folded {iter : Expr} {env : Env} (h : noSet iter = true) : ∀ x, foldedSetIterable iter env x = pure x := by
  intro x
  cases iter <;> first | rfl | cases h
theorem sB1 {X : Cx} {W : WX} {sc : Scope} {e : Expr} {b : B1} {a : CE} {r : SE} (g : Good G X W k) (s : ScOk X sc)
    (h : (match sCall1 e with | some (nm, x) => b1Ok b && nm == b1Name b && glB sc nm && noSet x && chkE G.P X.N a sc x | none => false) = true)
    (f : ∀ x, Gl X (b1Name b) → X.mg (b1Name b) = none → ∀ p q, noSet x = true → chkE G.P X.N a sc x = true → PE X (.Call (.Name (b1Name b) p) [x] [] q) (tE W G.cl r)) : EOk X W G.cl e r := by
  cases en : sCall1 e with
  | none => rw [en] at h; exact no h
  | some q =>
    obtain ⟨nm, x⟩ := q
    rw [en] at h
    dsimp only at h
    simp only [Bool.and_eq_true] at h
    obtain ⟨p, q, rfl⟩ := sCall1_inv en
    obtain ⟨⟨⟨⟨_, n1⟩, g1⟩, hx⟩, hc⟩ := h
    have := str_eq n1
    subst this
    exact .plain (f x (s.gl _ g1) (blt_mem g (by cases b <;> decide)) p q hx hc) rfl
theorem chain_bool {ra rb rc : SE} {o1 o2 : CO} {ρ : EV} {h : HP} {x : RV} {h1 : HP} (q : ((ra ρ h).bind fun x h => (rb ρ h).bind fun y h =>
      (ofOpt ((dat1 h x).bind fun d => (dat1 h y).bind fun e => cmpD o1 d e) h).bind fun t h =>
        if t then (rc ρ h).bind fun z h => ofOpt ((dat1 h y).bind fun d => (dat1 h z).bind fun e => (cmpD o2 d e).map fun b => RV.v (.dat (.bool b))) h
        else .ok (RV.v (.dat (.bool false))) h) = .ok x h1) : ∃ b, x = .v (.dat (.bool b)) := by
  cases e1 : ra ρ h with
  | bad => rw [e1] at q; cases q
  | exc c h2 => rw [e1] at q; cases q
  | ok u h2 =>
    rw [e1, Res.bind_ok] at q
    cases e2 : rb ρ h2 with
    | bad => rw [e2] at q; cases q
    | exc c h3 => rw [e2] at q; cases q
    | ok w h3 =>
      rw [e2, Res.bind_ok] at q
      cases e3 : ((dat1 h3 u).bind fun d => (dat1 h3 w).bind fun e => cmpD o1 d e) with
      | none => rw [e3] at q; cases q
      | some t =>
        rw [e3, ofOpt_some, Res.bind_ok] at q
        cases t with
        | false => rw [if_neg Bool.false_ne_true] at q; cases q; exact ⟨_, rfl⟩
        | true =>
          rw [if_pos rfl] at q
          cases e4 : rc ρ h3 with
          | bad => rw [e4] at q; cases q
          | exc c h4 => rw [e4] at q; cases q
          | ok z h4 =>
            rw [e4, Res.bind_ok] at q
            cases e5 : ((dat1 h4 w).bind fun d => (dat1 h4 z).bind fun e => (cmpD o2 d e).map fun b => RV.v (.dat (.bool b))) with
            | none => rw [e5] at q; cases q
            | some z =>
              rw [e5] at q
              cases q
              obtain ⟨d, _, e5⟩ := opt_bind e5
              obtain ⟨e, _, e5⟩ := opt_bind e5
              obtain ⟨b, _, rfl⟩ := opt_map e5
              exact ⟨b, rfl⟩
theorem pi_box {X : Cx} {W : WX} {sc : Scope} {i : Nat} {t x : Expr} (g : Good G X W k) (s : ScOk X sc) (h : chkB X.N sc i x = true) : PI X t x (tItB i) := by
  unfold chkB at h
  cases en : sName x with
  | none => rw [en] at h; exact no h
  | some y =>
    rw [en] at h
    dsimp only at h
    simp only [Bool.and_eq_true] at h
    obtain ⟨p, rfl⟩ := sName_inv en
    exact pi_boxC (opt_eq h.1.1.1) (s.vis y h.1.1.2) (bf_eq h.1.2) (bf_eq h.2)
mutual
theorem sE : ∀ (c : CE) {X : Cx} {W : WX} {sc : Scope} {e : Expr}, Good G X W k → ScOk X sc → chkE G.P X.N c sc e = true → EOk X W G.cl e (ev (run G.P G.fw k) c)
  | .var i, X, W, sc, e, g, s, h => by
    have h' : (match sName e with | some x => X.N[i]? == some x && visB sc x && (x == ("__debug__" : Str)) == false && (x == ("__classdict__" : Str)) == false | none => false) = true := h
    cases en : sName e with
    | none => rw [en] at h'; exact no h'
    | some x =>
      rw [en] at h'
      dsimp only at h'
      simp only [Bool.and_eq_true] at h'
      obtain ⟨p, rfl⟩ := sName_inv en
      exact .plain (pe_varC (opt_eq h'.1.1.1) (s.vis x h'.1.1.2) (bf_eq h'.1.2) (bf_eq h'.2)) rfl
  | .cst d, X, W, sc, e, g, s, h => by
    cases e with
    | Constant c j p =>
      obtain ⟨v, q1, q2⟩ := cst_ok (X := X) (j := j) (p := p) (show cstB d c = true from h)
      exact .plain (pe_cstC q1 q2) rfl
    | _ => exact no (show false = true from h)
  | .tup es, X, W, sc, e, g, s, h => by
    cases e with
    | Tuple xs kk p =>
      have h' : (decide (xs.length ≤ 1000) && chkEs G.P X.N es sc xs) = true := h
      rw [Bool.and_eq_true] at h'
      have hl := of_decide_eq_true h'.1
      exact .plain (pe_tupC (rs := evVs (run G.P G.fw k) es) (fun ρ h xs' h1 q => by
        rw [evVs_len _ es xs ρ h xs' h1 _ _ sc h'.2 q]
        have : (1000 : Nat) ≤ LIM := by decide
        omega) (sEs es g s h'.2)) rfl
    | _ => exact no (show false = true from h)
  | .lst es, X, W, sc, e, g, s, h => by
    cases e with
    | List xs p =>
      have h' : (decide (xs.length ≤ 1000) && chkEs G.P X.N es sc xs) = true := h
      rw [Bool.and_eq_true] at h'
      have hl := of_decide_eq_true h'.1
      exact .plain (pe_lstC (rs := evVs (run G.P G.fw k) es) (fun ρ h xs' h1 q => by
        rw [evVs_len _ es xs ρ h xs' h1 _ _ sc h'.2 q]
        have : (1000 : Nat) ≤ LIM := by decide
        omega) (sEs es g s h'.2)) rfl
    | _ => exact no (show false = true from h)
  | .bin op a b, X, W, sc, e, g, s, h => by
    cases e with
    | BinOp x o y p =>
      have h' : (eBO op o && chkE G.P X.N a sc x && chkE G.P X.N b sc y) = true := h
      simp only [Bool.and_eq_true] at h'
      have := eBO_inv h'.1.1
      subst this
      exact .plain (pe_binC op (sE a g s h'.1.2).pe (sE b g s h'.2).pe) rfl
    | _ => exact no (show false = true from h)
  | .neg a, X, W, sc, e, g, s, h => by
    cases e with
    | UnaryOp o x p =>
      cases o with
      | USub => exact .plain (pe_negC (sE a g s (show chkE G.P X.N a sc x = true from h)).pe) rfl
      | _ => exact no (show false = true from h)
    | _ => exact no (show false = true from h)
  | .not a, X, W, sc, e, g, s, h => by
    cases e with
    | UnaryOp o x p =>
      cases o with
      | Not =>
        have h' : (noIf x && chkE G.P X.N a sc x) = true := h
        rw [Bool.and_eq_true] at h'
        have ih := sE a (W := W) g s h'.2
        exact ⟨pe_notC ih.pe, fun _ => pt_notC (ih.pt h'.1), fun _ _ _ z => nomatch z⟩
      | _ => exact no (show false = true from h)
    | _ => exact no (show false = true from h)
  | .and a b, X, W, sc, e, g, s, h => by
    have h' : (match sBool e with | some (.And, x, y, rest, p) => noIf x && chkE G.P X.N a sc x && (match rest with | [] => noIf y && chkE G.P X.N b sc y | _ :: _ => chkE G.P X.N b sc (.BoolOp .And (y :: rest) p)) | _ => false) = true := h
    cases en : sBool e with
    | none => rw [en] at h'; exact no h'
    | some q =>
      obtain ⟨op, x, y, rest, p⟩ := q
      rw [en] at h'
      have := sBool_inv en
      subst this
      cases op with
      | Or => exact no h'
      | And =>
        dsimp only at h'
        rw [Bool.and_eq_true, Bool.and_eq_true] at h'
        have ia := sE a (W := W) g s h'.1.2
        cases rest with
        | nil =>
          have h2 := h'.2
          dsimp only at h2
          rw [Bool.and_eq_true] at h2
          have ib := sE b (W := W) g s h2.2
          have pw : PW X (.BoolOp .And [x, y] p) (tT W G.cl (truR (andR (ev (run G.P G.fw k) a) (ev (run G.P G.fw k) b)))) := pw_andC (ia.pt h'.1.1) (pw_and1 (ib.pt h2.1))
          exact ⟨pe_andC ia.pe (pe_one ib.pe), fun _ => pw.pt, fun _ _ _ z => by cases z; exact pw⟩
        | cons r rest =>
          have ib := sE b (W := W) g s h'.2
          have pw : PW X (.BoolOp .And (x :: y :: r :: rest) p) (tT W G.cl (truR (andR (ev (run G.P G.fw k) a) (ev (run G.P G.fw k) b)))) := pw_andC (ia.pt h'.1.1) (ib.pw _ _ _ rfl)
          exact ⟨pe_andC ia.pe ib.pe, fun _ => pw.pt, fun _ _ _ z => by cases z; exact pw⟩
  | .or a b, X, W, sc, e, g, s, h => by
    have h' : (match sBool e with | some (.Or, x, y, rest, p) => noIf x && chkE G.P X.N a sc x && (match rest with | [] => noIf y && chkE G.P X.N b sc y | _ :: _ => chkE G.P X.N b sc (.BoolOp .Or (y :: rest) p)) | _ => false) = true := h
    cases en : sBool e with
    | none => rw [en] at h'; exact no h'
    | some q =>
      obtain ⟨op, x, y, rest, p⟩ := q
      rw [en] at h'
      have := sBool_inv en
      subst this
      cases op with
      | And => exact no h'
      | Or =>
        dsimp only at h'
        rw [Bool.and_eq_true, Bool.and_eq_true] at h'
        have ia := sE a (W := W) g s h'.1.2
        cases rest with
        | nil =>
          have h2 := h'.2
          dsimp only at h2
          rw [Bool.and_eq_true] at h2
          have ib := sE b (W := W) g s h2.2
          have pw : PW X (.BoolOp .Or [x, y] p) (tT W G.cl (truR (orR (ev (run G.P G.fw k) a) (ev (run G.P G.fw k) b)))) := pw_orC (ia.pt h'.1.1) (pw_or1 (ib.pt h2.1))
          exact ⟨pe_orC ia.pe (pe_one ib.pe), fun _ => pw.pt, fun _ _ _ z => by cases z; exact pw⟩
        | cons r rest =>
          have ib := sE b (W := W) g s h'.2
          have pw : PW X (.BoolOp .Or (x :: y :: r :: rest) p) (tT W G.cl (truR (orR (ev (run G.P G.fw k) a) (ev (run G.P G.fw k) b)))) := pw_orC (ia.pt h'.1.1) (ib.pw _ _ _ rfl)
          exact ⟨pe_orC ia.pe ib.pe, fun _ => pw.pt, fun _ _ _ z => by cases z; exact pw⟩
  | .cmp op a b, X, W, sc, e, g, s, h => by
    have h' : (match sCmp1 e with | some (x, o, y) => eCO op o && noSet y && chkE G.P X.N a sc x && chkE G.P X.N b sc y | none => false) = true := h
    cases en : sCmp1 e with
    | none => rw [en] at h'; exact no h'
    | some q =>
      obtain ⟨x, o, y⟩ := q
      rw [en] at h'
      dsimp only at h'
      simp only [Bool.and_eq_true] at h'
      obtain ⟨p, rfl⟩ := sCmp1_inv en
      have := eCO_inv h'.1.1.1
      subst this
      have hu : X.A.units + 65 < cLine := by have := g.units; omega
      have ia := (sE a (W := W) g s h'.1.2).pe
      have ib := (sE b (W := W) g s h'.2).pe
      refine ⟨pe_cmpC op hu h'.1.1.2 ia ib, fun _ => ?_, fun _ _ _ z => nomatch z⟩
      refine pt_boolC (pt_cmpR (op_cmp op hu) ia ib (noMark h'.1.1.2)) (fun σ H Q p => tE_two (fun F H A h x y vx vy H0 R rx ry p => hop_cmp op R rx ry p) p) (fun ρ h x h1 q => ?_)
      exact cmp_bool q
  | .isN neg a, X, W, sc, e, g, s, h => by
    have h' : (match sCmp1 e with | some (x, o, y) => (o == (if neg then .IsNot else .Is)) && sNone y && chkE G.P X.N a sc x | none => false) = true := h
    cases en : sCmp1 e with
    | none => rw [en] at h'; exact no h'
    | some q =>
      obtain ⟨x, o, y⟩ := q
      rw [en] at h'
      dsimp only at h'
      simp only [Bool.and_eq_true] at h'
      obtain ⟨p, rfl⟩ := sCmp1_inv en
      obtain ⟨j, p', rfl⟩ := sNone_inv h'.1.2
      have ho : o = (if neg then .IsNot else .Is) := by simpa using h'.1.1
      subst ho
      have ia := (sE a (W := W) g s h'.2).pe
      obtain ⟨t, q1, q2, q3⟩ := isNC_both (pos := p) (pos' := p') (j := j) neg ia
      exact ⟨PE.imp q1 q3, fun _ => pt_boolC q2 q3 (fun ρ h x h1 q => isN_bool q), fun _ _ _ z => nomatch z⟩
  | .chain o1 o2 a b c, X, W, sc, e, g, s, h => by
    have h' : (match sCmp2 e with | some (x, p1, y, p2, z) => eCO o1 p1 && eCO o2 p2 && noSet z && chkE G.P X.N a sc x && chkE G.P X.N b sc y && chkE G.P X.N c sc z | none => false) = true := h
    cases en : sCmp2 e with
    | none => rw [en] at h'; exact no h'
    | some q =>
      obtain ⟨x, p1, y, p2, z⟩ := q
      rw [en] at h'
      dsimp only at h'
      simp only [Bool.and_eq_true] at h'
      obtain ⟨p, rfl⟩ := sCmp2_inv en
      have := eCO_inv h'.1.1.1.1.1
      subst this
      have := eCO_inv h'.1.1.1.1.2
      subst this
      have hu : X.A.units + 65 < cLine := by have := g.units; omega
      have ia := (sE a (W := W) g s h'.1.1.2).pe
      have ib := (sE b (W := W) g s h'.1.2).pe
      have ic := (sE c (W := W) g s h'.2).pe
      obtain ⟨t, q1, q2, q3⟩ := chainC_both (pos := p) o1 o2 hu h'.1.1.1.2 ia ib ic
      exact ⟨PE.imp q1 q3, fun _ => pt_boolC q2 q3 (fun ρ h x h1 q => chain_bool q), fun _ _ _ z => nomatch z⟩
  | .ite c a b, X, W, sc, e, g, s, h => by
    cases e with
    | IfExp z x y p =>
      have h' : (noIf z && chkE G.P X.N c sc z && chkE G.P X.N a sc x && chkE G.P X.N b sc y) = true := h
      simp only [Bool.and_eq_true] at h'
      refine ⟨pe_iteC ((sE c (W := W) g s h'.1.1.2).pt h'.1.1.1) (sE a g s h'.1.2).pe (sE b g s h'.2).pe, fun q => no q, fun _ _ _ z => nomatch z⟩
    | _ => exact no (show false = true from h)
  | .idx a i, X, W, sc, e, g, s, h => by
    have h' : (match sSub e with | some (x, y) => noSet y && chkE G.P X.N a sc x && chkE G.P X.N i sc y | none => false) = true := h
    cases en : sSub e with
    | none => rw [en] at h'; exact no h'
    | some q =>
      obtain ⟨x, y⟩ := q
      rw [en] at h'
      dsimp only at h'
      simp only [Bool.and_eq_true] at h'
      obtain ⟨p, rfl⟩ := sSub_inv en
      exact .plain (pe_idxC h'.1.1 (sE a g s h'.1.2).pe (sE i g s h'.2).pe) rfl
  | .slice a lo hi, X, W, sc, e, g, s, h => by
    have h' : (match sSlice e with | some (x, l, u) => chkE G.P X.N a sc x && chkP G.P X.N lo sc l && chkP G.P X.N hi sc u | none => false) = true := h
    cases en : sSlice e with
    | none => rw [en] at h'; exact no h'
    | some q =>
      obtain ⟨x, l, u⟩ := q
      rw [en] at h'
      dsimp only at h'
      simp only [Bool.and_eq_true] at h'
      obtain ⟨p, q, rfl⟩ := sSlice_inv en
      exact .plain (pe_sliceC (sE a g s h'.1.1).pe (sP lo g s h'.1.2) (sP hi g s h'.2)) rfl
  | .rev a, X, W, sc, e, g, s, h => by
    have h' : (match sRev e with | some x => chkE G.P X.N a sc x | none => false) = true := h
    cases en : sRev e with
    | none => rw [en] at h'; exact no h'
    | some x =>
      rw [en] at h'
      obtain ⟨kk, p1, p2, p3, p, rfl⟩ := sRev_inv en
      exact .plain (pe_revC (sE a g s h').pe) rfl
  | .call f es, X, W, sc, e, g, s, h => by
    have h' : (match sCallN e, G.P.lookup f with | some (nm, x, xs), some d => nm == d.name && glB sc nm && (nm == ("__debug__" : Str)) == false && (x :: xs).all noSet && decide ((x :: xs).length = d.np) && chkEs G.P X.N es sc (x :: xs) | _, _ => false) = true := h
    cases en : sCallN e with
    | none => rw [en] at h'; exact no h'
    | some q =>
      obtain ⟨nm, x, xs⟩ := q
      rw [en] at h'
      cases ed : G.P.lookup f with
      | none => rw [ed] at h'; exact no h'
      | some d =>
        rw [ed] at h'
        dsimp only at h'
        simp only [Bool.and_eq_true] at h'
        obtain ⟨p, q, rfl⟩ := sCallN_inv en
        obtain ⟨⟨⟨⟨⟨hn, hg⟩, hdb⟩, hns⟩, hl⟩, hes⟩ := h'
        have hn' := str_eq hn
        obtain ⟨fa, fd, hm, hk, hb, Fn⟩ := g.fns f d ed
        have hl' := of_decide_eq_true hl
        have pe := pe_callC (pos := q) (p := p) (rs := evVs (run G.P G.fw k) es) Fn g.room (s.gl nm hg) (by rw [hn']; exact hm) hk hb g.tk (bf_eq hdb) hns (fun ρ h ys h1 z => by rw [evVs_len _ es _ ρ h ys h1 _ _ sc hes z]; exact hl') (sEs es g s hes)
        exact .plain pe rfl
  | .b1 b a, X, W, sc, e, g, s, h => by
    cases b with
    | listRange =>
      have h' : (match sCall1 e with | some (nm, y) => (match sCall1 y with | some (nm2, x) => nm == "list" && nm2 == "range" && glB sc "list" && glB sc "range" && noSet x && chkE G.P X.N a sc x | none => false) | none => false) = true := h
      cases en : sCall1 e with
      | none => rw [en] at h'; exact no h'
      | some q =>
        obtain ⟨nm, y⟩ := q
        rw [en] at h'
        dsimp only at h'
        cases en2 : sCall1 y with
        | none => rw [en2] at h'; exact no h'
        | some q =>
          obtain ⟨nm2, x⟩ := q
          rw [en2] at h'
          dsimp only at h'
          simp only [Bool.and_eq_true] at h'
          obtain ⟨p, q, rfl⟩ := sCall1_inv en
          obtain ⟨p2, q2, rfl⟩ := sCall1_inv en2
          obtain ⟨⟨⟨⟨⟨n1, n2⟩, g1⟩, g2⟩, hx⟩, hc⟩ := h'
          have := str_eq n1
          subst this
          have := str_eq n2
          subst this
          exact .plain (pe_listRgC g.calm (s.gl _ g1) (blt_mem g (by decide)) (s.gl _ g2) (blt_mem g (by decide)) hx (sE a g s hc).pe) rfl
    | tupRange =>
      have h' : (match sCall1 e with | some (nm, y) => (match sCall1 y with | some (nm2, x) => nm == "tuple" && nm2 == "range" && glB sc "tuple" && glB sc "range" && noSet x && chkE G.P X.N a sc x | none => false) | none => false) = true := h
      cases en : sCall1 e with
      | none => rw [en] at h'; exact no h'
      | some q =>
        obtain ⟨nm, y⟩ := q
        rw [en] at h'
        dsimp only at h'
        cases en2 : sCall1 y with
        | none => rw [en2] at h'; exact no h'
        | some q =>
          obtain ⟨nm2, x⟩ := q
          rw [en2] at h'
          dsimp only at h'
          simp only [Bool.and_eq_true] at h'
          obtain ⟨p, q, rfl⟩ := sCall1_inv en
          obtain ⟨p2, q2, rfl⟩ := sCall1_inv en2
          obtain ⟨⟨⟨⟨⟨n1, n2⟩, g1⟩, g2⟩, hx⟩, hc⟩ := h'
          have := str_eq n1
          subst this
          have := str_eq n2
          subst this
          exact .plain (pe_tupRgC g.calm (s.gl _ g1) (blt_mem g (by decide)) (s.gl _ g2) (blt_mem g (by decide)) hx (sE a g s hc).pe) rfl
    | lenSet =>
      have h' : (match sCall1 e with | some (nm, x) => b1Ok .lenSet && nm == b1Name .lenSet && glB sc nm && noSet x && chkE G.P X.N a sc x | none => false) = true := h
      cases en : sCall1 e with
      | none => rw [en] at h'; exact no h'
      | some q =>
        obtain ⟨nm, x⟩ := q
        rw [en] at h'
        dsimp only [b1Ok] at h'
        simp at h'
    | len => exact sB1 g s h fun x g1 n1 p q hx hc => pe_lenC g1 n1 hx (sE a g s hc).pe
    | all => exact sB1 g s h fun x g1 n1 p q hx hc => pe_allC g.calm g1 n1 hx (sE a g s hc).pe
    | any => exact sB1 g s h fun x g1 n1 p q hx hc => pe_anyC g.calm g1 n1 hx (sE a g s hc).pe
    | sum => exact sB1 g s h fun x g1 n1 p q hx hc => pe_sumC g.calm g1 n1 hx (sE a g s hc).pe
    | max => exact sB1 g s h fun x g1 n1 p q hx hc => pe_maxC g.calm g1 n1 hx (sE a g s hc).pe
    | min => exact sB1 g s h fun x g1 n1 p q hx hc => pe_minC g.calm g1 n1 hx (sE a g s hc).pe
    | abs => exact sB1 g s h fun x g1 n1 p q hx hc => pe_absC g1 n1 hx (sE a g s hc).pe
    | tuple => exact sB1 g s h fun x g1 n1 p q hx hc => pe_tupleC g1 n1 hx (sE a g s hc).pe
    | list => exact sB1 g s h fun x g1 n1 p q hx hc => pe_listC g1 n1 hx (sE a g s hc).pe
    | int => exact sB1 g s h fun x g1 n1 p q hx hc => pe_intC g1 n1 hx (sE a g s hc).pe
  | .b2 mx a b, X, W, sc, e, g, s, h => by
    have h' : (match sCall2 e with | some (nm, x, y) => nm == Str.ofString (if mx then "max" else "min") && glB sc nm && noSet x && noSet y && chkE G.P X.N a sc x && chkE G.P X.N b sc y | none => false) = true := h
    cases en : sCall2 e with
    | none => rw [en] at h'; exact no h'
    | some q =>
      obtain ⟨nm, x, y⟩ := q
      rw [en] at h'
      dsimp only at h'
      simp only [Bool.and_eq_true] at h'
      obtain ⟨p, q, rfl⟩ := sCall2_inv en
      obtain ⟨⟨⟨⟨⟨n1, g1⟩, hx⟩, hy⟩, ca⟩, cb⟩ := h'
      have := str_eq n1
      subst this
      exact .plain (pe_b2C mx g.calm (s.gl _ g1) (blt_mem g (by cases mx <;> decide)) hx hy (sE a g s ca).pe (sE b g s cb).pe) rfl
  | .sorted kd a, X, W, sc, e, g, s, h => by
    have h' : (match sCall1 e with | some (nm, x) => nm == "sorted" && glB sc nm && noSet x && chkE G.P X.N a sc x | none => false) = true := h
    cases en : sCall1 e with
    | none => rw [en] at h'; exact no h'
    | some q =>
      obtain ⟨nm, x⟩ := q
      rw [en] at h'
      dsimp only at h'
      simp only [Bool.and_eq_true] at h'
      obtain ⟨p, q, rfl⟩ := sCall1_inv en
      obtain ⟨⟨⟨n1, g1⟩, hx⟩, hc⟩ := h'
      have := str_eq n1
      subst this
      exact .plain (pe_sortedC kd (by have := g.units; omega) (s.gl _ g1) (blt_mem g (by decide)) hx (sE a g s hc).pe) rfl
  | .sortedSet kd a, X, W, sc, e, g, s, h => by
    have h' : (match sCall1 e with | some (nm, y) => (match sCall1 y with | some (nm2, x) => nm == "sorted" && nm2 == "set" && glB sc "sorted" && glB sc "set" && noSet x && chkE G.P X.N a sc x | none => false) | none => false) = true := h
    cases en : sCall1 e with
    | none => rw [en] at h'; exact no h'
    | some q =>
      obtain ⟨nm, y⟩ := q
      rw [en] at h'
      dsimp only at h'
      cases en2 : sCall1 y with
      | none => rw [en2] at h'; exact no h'
      | some q =>
        obtain ⟨nm2, x⟩ := q
        rw [en2] at h'
        dsimp only at h'
        simp only [Bool.and_eq_true] at h'
        obtain ⟨p, q, rfl⟩ := sCall1_inv en
        obtain ⟨p2, q2, rfl⟩ := sCall1_inv en2
        obtain ⟨⟨⟨⟨⟨n1, n2⟩, g1⟩, g2⟩, hx⟩, hc⟩ := h'
        have := str_eq n1
        subst this
        have := str_eq n2
        subst this
        exact .plain (pe_sortedSetC kd g.calm g.units (s.gl _ g1) (blt_mem g (by decide)) (s.gl _ g2) (blt_mem g (by decide)) hx (sE a g s hc).pe) rfl
  | .isinst t a, X, W, sc, e, g, s, h => by
    have h' : (match sCall2 e with | some (nm, x, y) => (match sName y with | some n2 => nm == "isinstance" && glB sc "isinstance" && n2 == Str.ofString (tyName t) && glB sc n2 && noSet x && chkE G.P X.N a sc x | none => false) | none => false) = true := h
    cases en : sCall2 e with
    | none => rw [en] at h'; exact no h'
    | some q =>
      obtain ⟨nm, x, y⟩ := q
      rw [en] at h'
      dsimp only at h'
      cases en2 : sName y with
      | none => rw [en2] at h'; exact no h'
      | some n2 =>
        rw [en2] at h'
        dsimp only at h'
        simp only [Bool.and_eq_true] at h'
        obtain ⟨p, q, rfl⟩ := sCall2_inv en
        obtain ⟨p2, rfl⟩ := sName_inv en2
        obtain ⟨⟨⟨⟨⟨e1, g1⟩, e2⟩, g2⟩, hx⟩, hc⟩ := h'
        have := str_eq e1
        subst this
        have := str_eq e2
        subst this
        exact .plain (pe_isiC t (s.gl _ g1) (blt_mem g (by decide)) (s.gl _ g2) (blt_mem g (by cases t <;> decide)) hx (sE a g s hc).pe) rfl
  | .meth m o a, X, W, sc, e, g, s, h => by
    have h' : (match sMeth1 e with | some (x, nm, y) => nm == mtName m && noCall0 x && noSet y && chkE G.P X.N o sc x && chkE G.P X.N a sc y | none => false) = true := h
    cases en : sMeth1 e with
    | none => rw [en] at h'; exact no h'
    | some q =>
      obtain ⟨x, nm, y⟩ := q
      rw [en] at h'
      dsimp only at h'
      simp only [Bool.and_eq_true] at h'
      obtain ⟨ap, q, rfl, hl⟩ := sMeth1_inv en
      obtain ⟨⟨⟨⟨e1, hx⟩, hy⟩, co⟩, ca⟩ := h'
      have := str_eq e1
      subst this
      exact .plain (pe_methC m hx hy hl (sE o g s co).pe (sE a g s ca).pe) rfl
  | .pop o, X, W, sc, e, g, s, h => by
    have h' : (match sMeth0 e with | some (x, nm) => nm == "pop" && noCall0 x && chkE G.P X.N o sc x | none => false) = true := h
    cases en : sMeth0 e with
    | none => rw [en] at h'; exact no h'
    | some q =>
      obtain ⟨x, nm⟩ := q
      rw [en] at h'
      dsimp only at h'
      simp only [Bool.and_eq_true] at h'
      obtain ⟨ap, q, rfl, hl⟩ := sMeth0_inv en
      have := str_eq h'.1.1
      subst this
      exact .plain (pe_popC h'.1.2 hl (sE o g s h'.2).pe) rfl
  | .comp elt tg it cond own, X, W, sc, e, g, s, h => by
    have h' : (match sComp e with | some (x, t, i, ifs, scope) => blkB X.N sc scope own && noSet i && (slots tg).all (fun j => own.contains j) && chkI G.P X.N it sc t i && chkG X.N scope tg t && chkC G.P X.N cond scope ifs && chkE G.P X.N elt scope x | none => false) = true := h
    cases en : sComp e with
    | none => rw [en] at h'; exact no h'
    | some q =>
      obtain ⟨x, t, i, ifs, scope⟩ := q
      rw [en] at h'
      dsimp only at h'
      simp only [Bool.and_eq_true] at h'
      obtain ⟨p, rfl⟩ := sComp_inv en
      obtain ⟨⟨⟨⟨⟨⟨hb, hi⟩, hs⟩, ci⟩, cg⟩, cc⟩, ce⟩ := h'
      have hsl : ∀ j ∈ slots tg, j ∈ own := fun j hj => by
        have := List.all_eq_true.mp hs j hj
        simpa using this
      have pe : PE X (.ListComp x [⟨t, i, ifs, 0⟩] scope p) (tLc (tIt W G.cl (evI (run G.P G.fw k) it)) (tG tg) (tT W0 G.cl (evC (run G.P G.fw k) cond)) (tE W0 G.cl (ev (run G.P G.fw k) elt)) own) := by
        have q := pe_lc (pos := p) g.calm g.nd (sI it g s ci) (blk_in hb s rfl)
          (fun s' H' C cc' fp => sG tg (g.blk s' H' scope C cc' fp) (ScOk.blk (sc := sc) s' H' scope C cc' fp) cg)
          (fun s' H' C cc' fp => sC cond (g.blk s' H' scope C cc' fp) (ScOk.blk (sc := sc) s' H' scope C cc' fp) cc)
          (fun s' H' C cc' fp => (sE elt (g.blk s' H' scope C cc' fp) (ScOk.blk (sc := sc) s' H' scope C cc' fp) ce).pe) (folded hi)
        rw [own_slots] at q
        exact q
      exact .plain (PE.imp pe fun σ H Q p => tLc_of hsl p) rfl
  | .lenSet kd a, X, W, sc, e, g, s, h => by
    have h' : (match sCall1 e with | some (nm, y) => (match sCall1 y with | some (nm2, x) => nm == "len" && nm2 == "set" && glB sc "len" && glB sc "set" && noSet x && chkE G.P X.N a sc x | none => false) | none => false) = true := h
    cases en : sCall1 e with
    | none => rw [en] at h'; exact no h'
    | some q =>
      obtain ⟨nm, y⟩ := q
      rw [en] at h'
      dsimp only at h'
      cases en2 : sCall1 y with
      | none => rw [en2] at h'; exact no h'
      | some q =>
        obtain ⟨nm2, x⟩ := q
        rw [en2] at h'
        dsimp only at h'
        simp only [Bool.and_eq_true] at h'
        obtain ⟨p, q, rfl⟩ := sCall1_inv en
        obtain ⟨p2, q2, rfl⟩ := sCall1_inv en2
        obtain ⟨⟨⟨⟨⟨n1, n2⟩, g1⟩, g2⟩, hx⟩, hc⟩ := h'
        have := str_eq n1
        subst this
        have := str_eq n2
        subst this
        exact .plain (pe_lenSetC kd g.calm g.units (s.gl _ g1) (blt_mem g (by decide)) (s.gl _ g2) (blt_mem g (by decide)) hx (sE a g s hc).pe) rfl
  | .conv2 tup a b, X, W, sc, e, g, s, h => by
    have h' : (match sCall1 e with | some (nm, y) => (match sCall2 y with | some (nm2, x1, x2) => nm == Str.ofString (if tup then "tuple" else "list") && nm2 == "range" && glB sc nm && glB sc "range" && noSet x1 && noSet x2 && chkE G.P X.N a sc x1 && chkE G.P X.N b sc x2 | none => false) | none => false) = true := h
    cases en : sCall1 e with
    | none => rw [en] at h'; exact no h'
    | some q =>
      obtain ⟨nm, y⟩ := q
      rw [en] at h'
      dsimp only at h'
      cases en2 : sCall2 y with
      | none => rw [en2] at h'; exact no h'
      | some q =>
        obtain ⟨nm2, x1, x2⟩ := q
        rw [en2] at h'
        dsimp only at h'
        simp only [Bool.and_eq_true] at h'
        obtain ⟨p, q, rfl⟩ := sCall1_inv en
        obtain ⟨p2, q2, rfl⟩ := sCall2_inv en2
        obtain ⟨⟨⟨⟨⟨⟨⟨n1, n2⟩, g1⟩, g2⟩, hx⟩, hy⟩, ca⟩, cb⟩ := h'
        have := str_eq n1
        subst this
        have := str_eq n2
        subst this
        exact .plain (pe_conv2C tup g.calm (s.gl _ g1) (blt_mem g (by cases tup <;> decide)) (s.gl _ g2) (blt_mem g (by decide)) hx hy (sE a g s ca).pe (sE b g s cb).pe) rfl
  | .call0 f, X, W, sc, e, g, s, h => by
    have h' : (match sCall0 e, G.P.lookup f with | some nm, some d => nm == d.name && glB sc nm && (nm == ("__debug__" : Str)) == false && decide (d.np = 0) | _, _ => false) = true := h
    cases en : sCall0 e with
    | none => rw [en] at h'; exact no h'
    | some nm =>
      rw [en] at h'
      cases ed : G.P.lookup f with
      | none => rw [ed] at h'; exact no h'
      | some d =>
        rw [ed] at h'
        dsimp only at h'
        simp only [Bool.and_eq_true] at h'
        obtain ⟨p, q, rfl⟩ := sCall0_inv en
        obtain ⟨⟨⟨hn, hg⟩, hdb⟩, hl⟩ := h'
        have hn' := str_eq hn
        obtain ⟨fa, fd, hm, hk, hb, Fn⟩ := g.fns f d ed
        have hl' := of_decide_eq_true hl
        rw [hl'] at Fn hb
        exact .plain (pe_call0C (pos := q) (p := p) Fn g.room (s.gl nm hg) (by rw [hn']; exact hm) hk hb g.tk (bf_eq hdb)) rfl
  | .index _ _, X, W, sc, e, g, s, h => no (show false = true from h)
  | .mini mx kd a, X, W, sc, e, g, s, h => by
    have h' : (match sCall1 e with | some (nm, x) => nm == Str.ofString (if mx then "max" else "min") && glB sc nm && noSet x && chkE G.P X.N a sc x | none => false) = true := h
    cases en : sCall1 e with
    | none => rw [en] at h'; exact no h'
    | some q =>
      obtain ⟨nm, x⟩ := q
      rw [en] at h'
      dsimp only at h'
      simp only [Bool.and_eq_true] at h'
      obtain ⟨p, q, rfl⟩ := sCall1_inv en
      obtain ⟨⟨⟨n1, g1⟩, hx⟩, hc⟩ := h'
      have := str_eq n1
      subst this
      exact .plain (pe_miniC mx kd g.calm (by have := g.units; omega) (s.gl _ g1) (blt_mem g (by cases mx <;> decide)) hx (sE a g s hc).pe) rfl
  | .popAt o i, X, W, sc, e, g, s, h => by
    have h' : (match sMeth1 e with | some (x, nm, y) => nm == "pop" && noCall0 x && noSet y && chkE G.P X.N o sc x && chkE G.P X.N i sc y | none => false) = true := h
    cases en : sMeth1 e with
    | none => rw [en] at h'; exact no h'
    | some q =>
      obtain ⟨x, nm, y⟩ := q
      rw [en] at h'
      dsimp only at h'
      simp only [Bool.and_eq_true] at h'
      obtain ⟨ap, q, rfl, hl⟩ := sMeth1_inv en
      obtain ⟨⟨⟨⟨e1, hx⟩, hy⟩, co⟩, ca⟩ := h'
      have := str_eq e1
      subst this
      exact .plain (pe_popAtC hx hy hl (sE o g s co).pe (sE i g s ca).pe) rfl
  | .comp2 .., X, W, sc, e, g, s, h => no (show false = true from h)
  | .compB elt tg j cond own, X, W, sc, e, g, s, h => by
    have h' : (match sComp e with | some (x, t, i, ifs, scope) => blkB X.N sc scope own && noSet i && (slots tg).all (fun j => own.contains j) && chkB X.N sc j i && chkG X.N scope tg t && chkC G.P X.N cond scope ifs && chkE G.P X.N elt scope x | none => false) = true := h
    cases en : sComp e with
    | none => rw [en] at h'; exact no h'
    | some q =>
      obtain ⟨x, t, i, ifs, scope⟩ := q
      rw [en] at h'
      dsimp only at h'
      simp only [Bool.and_eq_true] at h'
      obtain ⟨p, rfl⟩ := sComp_inv en
      obtain ⟨⟨⟨⟨⟨⟨hb, hi⟩, hs⟩, ci⟩, cg⟩, cc⟩, ce⟩ := h'
      have hsl : ∀ j ∈ slots tg, j ∈ own := fun j hj => by
        have := List.all_eq_true.mp hs j hj
        simpa using this
      have pe : PE X (.ListComp x [⟨t, i, ifs, 0⟩] scope p) (tLc (tItB j) (tG tg) (tT W0 G.cl (evC (run G.P G.fw k) cond)) (tE W0 G.cl (ev (run G.P G.fw k) elt)) own) := by
        have q := pe_lc (pos := p) g.calm g.nd (pi_box g s ci) (blk_in hb s rfl)
          (fun s' H' C cc' fp => sG tg (g.blk s' H' scope C cc' fp) (ScOk.blk (sc := sc) s' H' scope C cc' fp) cg)
          (fun s' H' C cc' fp => sC cond (g.blk s' H' scope C cc' fp) (ScOk.blk (sc := sc) s' H' scope C cc' fp) cc)
          (fun s' H' C cc' fp => (sE elt (g.blk s' H' scope C cc' fp) (ScOk.blk (sc := sc) s' H' scope C cc' fp) ce).pe) (folded hi)
        rw [own_slots] at q
        exact q
      exact .plain (PE.imp pe fun σ H Q p => tLcG_of hsl p) rfl
theorem sEs : ∀ (es : CEs) {X : Cx} {W : WX} {sc : Scope} {xs : List Expr}, Good G X W k → ScOk X sc → chkEs G.P X.N es sc xs = true → PA X xs (tAs W G.cl (evVs (run G.P G.fw k) es))
  | .nil, X, W, sc, xs, g, s, h => by
    cases xs with
    | nil => exact pa_nilC
    | cons _ _ => exact no (show false = true from h)
  | .cons c es, X, W, sc, xs, g, s, h => by
    cases xs with
    | nil => exact no (show false = true from h)
    | cons x xs =>
      have h' : (noSet x && chkE G.P X.N c sc x && chkEs G.P X.N es sc xs) = true := h
      rw [Bool.and_eq_true, Bool.and_eq_true] at h'
      exact pa_consC h'.1.1 (sE c g s h'.1.2).pe (sEs es g s h'.2)
theorem sP : ∀ (c : CP) {X : Cx} {W : WX} {sc : Scope} {o : Option Expr}, Good G X W k → ScOk X sc → chkP G.P X.N c sc o = true → PO X o (tO W G.cl (evP (run G.P G.fw k) c))
  | .none, X, W, sc, o, g, s, h => by
    cases o with
    | none => exact po_noneC
    | some _ => exact no (show false = true from h)
  | .some c, X, W, sc, o, g, s, h => by
    cases o with
    | none => exact no (show false = true from h)
    | some x => exact po_someC (sE c g s (show chkE G.P X.N c sc x = true from h)).pe
theorem sC : ∀ (c : CP) {X : Cx} {W : WX} {sc : Scope} {ifs : List Expr}, Good G X W k → ScOk X sc → chkC G.P X.N c sc ifs = true → PTs X ifs (tT W G.cl (evC (run G.P G.fw k) c))
  | .none, X, W, sc, ifs, g, s, h => by
    cases ifs with
    | nil => exact pts_imp pts_nil fun σ H Q ⟨F, A, h, ρ, R, E, p⟩ => p F H Ext.refl R
    | cons _ _ => exact no (show false = true from h)
  | .some c, X, W, sc, ifs, g, s, h => by
    cases ifs with
    | nil => exact no (show false = true from h)
    | cons x xs =>
      cases xs with
      | cons _ _ => exact no (show false = true from h)
      | nil =>
        have h' : (noIf x && chkE G.P X.N c sc x) = true := h
        rw [Bool.and_eq_true] at h'
        exact pts_one ((sE c g s h'.2).pt h'.1)
theorem sI : ∀ (c : CI) {X : Cx} {W : WX} {sc : Scope} {t x : Expr}, Good G X W k → ScOk X sc → chkI G.P X.N c sc t x = true → PI X t x (tIt W G.cl (evI (run G.P G.fw k) c))
  | .seq c, X, W, sc, t, x, g, s, h => pi_seqC (sE c g s (show chkE G.P X.N c sc x = true from h)).pe
  | .range a, X, W, sc, t, x, g, s, h => by
    have h' : (match sCall1 x with | some (nm, y) => nm == "range" && glB sc "range" && noSet y && chkE G.P X.N a sc y | none => false) = true := h
    cases en : sCall1 x with
    | none => rw [en] at h'; exact no h'
    | some q =>
      obtain ⟨nm, y⟩ := q
      rw [en] at h'
      dsimp only at h'
      simp only [Bool.and_eq_true] at h'
      obtain ⟨p, q, rfl⟩ := sCall1_inv en
      have := str_eq h'.1.1.1
      subst this
      exact pi_rangeC (s.gl _ h'.1.1.2) (blt_mem g (by decide)) h'.1.2 (sE a g s h'.2).pe
  | .range2 a b, X, W, sc, t, x, g, s, h => by
    have h' : (match sCall2 x with | some (nm, y, z) => nm == "range" && glB sc "range" && noSet y && noSet z && chkE G.P X.N a sc y && chkE G.P X.N b sc z | none => false) = true := h
    cases en : sCall2 x with
    | none => rw [en] at h'; exact no h'
    | some q =>
      obtain ⟨nm, y, z⟩ := q
      rw [en] at h'
      dsimp only at h'
      simp only [Bool.and_eq_true] at h'
      obtain ⟨p, q, rfl⟩ := sCall2_inv en
      obtain ⟨⟨⟨⟨⟨n1, g1⟩, hy⟩, hz⟩, ca⟩, cb⟩ := h'
      have := str_eq n1
      subst this
      exact pi_range2C (s.gl _ g1) (blt_mem g (by decide)) hy hz (sE a g s ca).pe (sE b g s cb).pe
  | .enum a, X, W, sc, t, x, g, s, h => by
    have h' : (match sCall1 x with | some (nm, y) => sTup t && nm == "enumerate" && glB sc "enumerate" && noSet y && chkE G.P X.N a sc y | none => false) = true := h
    cases en : sCall1 x with
    | none => rw [en] at h'; exact no h'
    | some q =>
      obtain ⟨nm, y⟩ := q
      rw [en] at h'
      dsimp only at h'
      simp only [Bool.and_eq_true] at h'
      obtain ⟨p, q, rfl⟩ := sCall1_inv en
      obtain ⟨⟨⟨⟨ht, n1⟩, g1⟩, hy⟩, ca⟩ := h'
      have := str_eq n1
      subst this
      obtain ⟨es, kk, tp, rfl⟩ := sTup_inv ht
      exact pi_enumC (s.gl _ g1) (blt_mem g (by decide)) hy (sE a g s ca).pe
  | .zip a b, X, W, sc, t, x, g, s, h => by
    have h' : (match sCall2 x with | some (nm, y, z) => sTup t && nm == "zip" && glB sc "zip" && noSet y && noSet z && chkE G.P X.N a sc y && chkE G.P X.N b sc z | none => false) = true := h
    cases en : sCall2 x with
    | none => rw [en] at h'; exact no h'
    | some q =>
      obtain ⟨nm, y, z⟩ := q
      rw [en] at h'
      dsimp only at h'
      simp only [Bool.and_eq_true] at h'
      obtain ⟨p, q, rfl⟩ := sCall2_inv en
      obtain ⟨⟨⟨⟨⟨⟨ht, n1⟩, g1⟩, hy⟩, hz⟩, ca⟩, cb⟩ := h'
      have := str_eq n1
      subst this
      obtain ⟨es, kk, tp, rfl⟩ := sTup_inv ht
      exact pi_zipC (s.gl _ g1) (blt_mem g (by decide)) hy hz (sE a g s ca).pe (sE b g s cb).pe
end
end
end TB
set_option maxHeartbeats 4000000
namespace TB
open PySem L2
/-! ### statements: the core term against the text -/
def noLC : Expr → Bool
  | .ListComp .. => false
  | .SetComp .. => false
  | .DictComp .. => false
  | _ => true
/-- name = [..]: the store is made inside -/
def swapB (sc : Scope) (x : Str) (px : Pos) : Expr → Bool
  | .ListComp _ _ s pos => sc.names.lookup x == some .local && px.line == pos.line && !(s.names.any fun (n, k) => n == x && (k == .local || k == .cell))
  | _ => false
def swap2B (sc : Scope) (x y : Str) (px py : Pos) (a b : Expr) : Bool :=
  sc.names.lookup x == some .local && sc.names.lookup y == some .local && px.line == py.line && !(x == y) && !(constantsAlone 8 a && constantsAlone 8 b) && !(foldedForSure 8 a && foldedForSure 8 b)
def noSwap2B (sc : Scope) (x y : Str) (a b : Expr) : Bool :=
  !(sc.names.lookup x == some .local) || !(sc.names.lookup y == some .local) || (foldedForSure 8 a && foldedForSure 8 b)
def sAsg : Stmt → Option (Expr × Expr)
  | .Assign [t] e _ => some (t, e)
  | _ => none
def sPair : Expr → Option (Str × Pos × Str × Pos)
  | .Tuple [.Name x px, .Name y py] _ _ => some (x, px, y, py)
  | _ => none
def sPairE : Expr → Option (Expr × Expr)
  | .Tuple [x, y] _ _ => some (x, y)
  | _ => none
def swap3B (sc : Scope) (x y z : Str) (px py pz : Pos) (a b c : Expr) : Bool :=
  sc.names.lookup x == some .local && sc.names.lookup y == some .local && sc.names.lookup z == some .local && px.line == py.line && px.line == pz.line && !(x == y) && !(x == z) && !(y == z) && !(constantsAlone 8 a && constantsAlone 8 b && constantsAlone 8 c) && !(foldedForSure 8 a && foldedForSure 8 b && foldedForSure 8 c)
def sTrio : Expr → Option (Str × Pos × Str × Pos × Str × Pos)
  | .Tuple [.Name x px, .Name y py, .Name z pz] _ _ => some (x, px, y, py, z, pz)
  | _ => none
def sTrioE : Expr → Option (Expr × Expr × Expr)
  | .Tuple [x, y, z] _ _ => some (x, y, z)
  | _ => none
theorem sTrio_inv {e : Expr} {x : Str} {px : Pos} {y : Str} {py : Pos} {z : Str} {pz : Pos} (h : sTrio e = some (x, px, y, py, z, pz)) : ∃ k p, e = .Tuple [.Name x px, .Name y py, .Name z pz] k p := by
  unfold sTrio at h; split at h <;> cases h; exact ⟨_, _, rfl⟩
theorem sTrioE_inv {e x y z : Expr} (h : sTrioE e = some (x, y, z)) : ∃ k p, e = .Tuple [x, y, z] k p := by
  unfold sTrioE at h; split at h <;> cases h; exact ⟨_, _, rfl⟩
def sAug : Stmt → Option (Str × Expr)
  | .AugAssign (.Name x _) .Add e _ => some (x, e)
  | _ => none
def sRaise : Stmt → Option Str
  | .Raise (some (.Call (.Name x _) [] [] _)) none _ => some x
  | _ => none
def sHd : ExceptHandler → Option (Str × Const)
  | ⟨some (.Name x _), none, [.Return (some (.Constant c _ _)) _], _⟩ => some (x, c)
  | _ => none
section
variable (P : Prog) (cn : List Str) (N : List Str)
def chkH (sc : Scope) : List (Nat × PyData) → List ExceptHandler → Bool
  | [], [] => true
  | (c, d) :: hs, h :: hds => match sHd h with
    | some (x, k) => cn[c]? == some x && !(x == "") && glB sc x && (x == ("__debug__" : Str)) == false && cstB d k && chkH sc hs hds
    | none => false
  | _, _ => false
mutual
def chkS : CS → Scope → Stmt → Bool
  | .put i _ e, sc, st => match sAsg st with
    | some (.Name x px, v) => N[i]? == some x && locB sc x && (noLC v || swapB sc x px v || !(sc.names.lookup x == some .local)) && chkE P N e sc v
    | _ => false
  | .asg t e, sc, st => match sAsg st with
    | some (tg, v) => sTup tg && !sTup v && chkG N sc t tg && chkE P N e sc v
    | none => false
  | .par2 i j _ _ e1 e2, sc, st => match sAsg st with
    | some (tg, v) => match sPair tg, sPairE v with
      | some (x, px, y, py), some (v1, v2) => N[i]? == some x && N[j]? == some y && locB sc x && locB sc y && (swap2B sc x y px py v1 v2 || noSwap2B sc x y v1 v2) && noSet v1 && noSet v2 && chkE P N e1 sc v1 && chkE P N e2 sc v2
      | _, _ => false
    | none => false
  | .par3 i j l _ _ _ e1 e2 e3, sc, st => match sAsg st with
    | some (tg, v) => match sTrio tg, sTrioE v with
      | some (x, px, y, py, z, pz), some (v1, v2, v3) => N[i]? == some x && N[j]? == some y && N[l]? == some z && swap3B sc x y z px py pz v1 v2 v3 && noSet v1 && noSet v2 && noSet v3 && chkE P N e1 sc v1 && chkE P N e2 sc v2 && chkE P N e3 sc v3
      | _, _ => false
    | none => false
  | .setIx o i e, sc, st => match sAsg st with
    | some (.Subscript x y _, v) => noSet y && chkE P N o sc x && chkE P N i sc y && chkE P N e sc v
    | _ => false
  | .aug i e, sc, st => match sAug st with
    | some (x, v) => N[i]? == some x && locB sc x && chkE P N e sc v
    | none => false
  | .exp e, sc, st => match st with
    | .Expr v _ => noLC v && chkE P N e sc v
    | _ => false
  | .ite c a b, sc, st => match st with
    | .If x y z _ => noIf x && chkE P N c sc x && chkSs a sc y && chkSs b sc z
    | _ => false
  | .loop t it body, sc, st => match st with
    | .For tg x b [] _ => noSet x && chkI P N it sc tg x && chkG N sc t tg && chkSs body sc b
    | _ => false
  | .loopB t i body, sc, st => match st with
    | .For tg x b [] _ => noSet x && chkB N sc i x && chkG N sc t tg && chkSs body sc b
    | _ => false
  | .while c body, sc, st => match st with
    | .While x b [] _ => noIf x && chkE P N c sc x && chkSs body sc b
    | _ => false
  | .ret e, sc, st => match st with
    | .Return (some v) _ => chkE P N e sc v
    | _ => false
  | .retN, _, st => match st with
    | .Return none _ => true
    | _ => false
  | .raise c, sc, st => match sRaise st with
    | some x => cn[c]? == some x && !(x == "") && glB sc x && (x == ("__debug__" : Str)) == false
    | none => false
  | .try_ body hs, sc, st => match st with
    | .Try b (h :: hds) [] [] _ => chkSs body sc b && chkH cn sc hs (h :: hds)
    | _ => false
  | .pass, _, st => match st with
    | .Pass _ => true
    | _ => false
def chkSs : CSs → Scope → List Stmt → Bool
  | .nil, _, xs => match xs with
    | [] => true
    | _ => false
  | .cons s ss, sc, xs => match xs with
    | x :: xs => chkS s sc x && chkSs ss sc xs
    | [] => false
end
end
theorem sw_no {e : Expr} {t : Expr} {l : Nat} {env : Env} (h : noLC e = true) : swapsWith e (some t) l env = pure false := by
  cases e <;> first | rfl | cases h
theorem sw_no0 {e : Expr} {l : Nat} {env : Env} (h : noLC e = true) : swapsWith e none l env = pure false := by
  cases e <;> first | rfl | cases h
theorem sw_cell {e : Expr} {x : Str} {px : Pos} {l : Nat} {env : Env} (h : env.scope.names.lookup x ≠ some .local) : swapsWith e (some (.Name x px)) l env = pure false := by
  have k : (env.kindOf x == some .local) = false := by
    cases e : env.kindOf x == some .local with
    | false => rfl
    | true =>
      have e' : env.kindOf x = some .local := by simpa using e
      exact absurd e' h
  cases e <;> first | rfl | (unfold swapsWith; simp only [k, Bool.and_false, Bool.false_and]; done) | (unfold swapsWith; simp only [k, Bool.and_false, Bool.false_and]; rfl)
theorem sw_tup {e : Expr} {t : Expr} {l : Nat} {env : Env} (h : sTup t = true) : swapsWith e (some t) l env = pure false := by
  cases t <;> first | cases h | skip
  cases e <;> rfl
theorem sw_sub {e : Expr} {o i : Expr} {p : Pos} {l : Nat} {env : Env} : swapsWith e (some (.Subscript o i p)) l env = pure false := by
  cases e <;> rfl
theorem ss_no {t e : Expr} {env : Env} (h : sTup e = false) : swappedStores [t] e env = pure none := by
  cases e <;> first | cases h | skip
  all_goals (cases t <;> rfl)
theorem ss_sub {o i : Expr} {p : Pos} {e : Expr} {env : Env} : swappedStores [.Subscript o i p] e env = pure none := by
  cases e <;> rfl
theorem blockF {env : Env} (hk : env.scope.kind = .function) : env.blockKind = .function := by unfold Env.blockKind; rw [hk]; rfl
theorem ss_yes {x y : Str} {px py : Pos} {kt : Nat} {pt : Pos} {a b : Expr} {k2 : Nat} {p2 : Pos} {env : Env} (hk : env.scope.kind = .function) (ha : noSet a = true) (hb : noSet b = true) (h : swap2B env.scope x y px py a b = true) : swappedStores [.Tuple [.Name x px, .Name y py] kt pt] (.Tuple [a, b] k2 p2) env = pure (some [x, y]) := by
  unfold swap2B at h
  simp only [Bool.and_eq_true, Bool.not_eq_true'] at h
  obtain ⟨⟨⟨⟨⟨h1, h2⟩, h3⟩, h4⟩, h5⟩, h6⟩ := h
  have k1 : env.scope.names.lookup x = some .local := by simpa using h1
  have k2 : env.scope.names.lookup y = some .local := by simpa using h2
  replace k1 : env.kindOf x = some .local := k1
  replace k2 : env.kindOf y = some .local := k2
  have hxy : x ≠ y := by simpa using h4
  have h3' : px.line = py.line := by simpa using h3
  unfold swappedStores
  simp only [blockF hk, List.length_cons, List.length_nil, List.head?_cons, Option.map_some, Option.getD_some, Expr.pos]
  rw [if_neg (by decide)]
  split
  · rename_i hh
    exfalso
    simp only [List.any_cons, List.any_nil, Bool.or_false, Bool.or_eq_true] at hh
    rcases hh with hh | hh
    · cases a <;> first | exact no (show false = true from hh) | exact no (show false = true from ha)
    · cases b <;> first | exact no (show false = true from hh) | exact no (show false = true from hb)
  · simp only [List.filterMap_cons, k1, k2, h3', BEq.rfl, Bool.and_true, if_true, List.filterMap_nil, List.all_cons, List.all_nil, h5, h6, List.length_cons, List.length_nil]
    have e2 : ([x, y] : List Str).eraseDups = [x, y] := by
      have : (y == x) = false := by simpa using Ne.symm hxy
      simp [List.eraseDups_cons, this]
    rw [e2]
    rfl
theorem ss_yes3 {x y z : Str} {px py pz : Pos} {kt : Nat} {pt : Pos} {a b c : Expr} {k2 : Nat} {p2 : Pos} {env : Env} (hk : env.scope.kind = .function) (ha : noSet a = true) (hb : noSet b = true) (hc : noSet c = true) (h : swap3B env.scope x y z px py pz a b c = true) : swappedStores [.Tuple [.Name x px, .Name y py, .Name z pz] kt pt] (.Tuple [a, b, c] k2 p2) env = pure (some [x, y, z]) := by
  unfold swap3B at h
  simp only [Bool.and_eq_true, Bool.not_eq_true'] at h
  obtain ⟨⟨⟨⟨⟨⟨⟨⟨⟨h1, h2⟩, h2b⟩, h3⟩, h3b⟩, h4⟩, h4b⟩, h4c⟩, h5⟩, h6⟩ := h
  have k1 : env.scope.names.lookup x = some .local := by simpa using h1
  have k2 : env.scope.names.lookup y = some .local := by simpa using h2
  have k3 : env.scope.names.lookup z = some .local := by simpa using h2b
  replace k1 : env.kindOf x = some .local := k1
  replace k2 : env.kindOf y = some .local := k2
  replace k3 : env.kindOf z = some .local := k3
  have hxy : x ≠ y := by simpa using h4
  have hxz : x ≠ z := by simpa using h4b
  have hyz : y ≠ z := by simpa using h4c
  have h3' : py.line = px.line := (by simpa using h3 : px.line = py.line).symm
  have h3b' : pz.line = px.line := (by simpa using h3b : px.line = pz.line).symm
  unfold swappedStores
  simp only [blockF hk, List.length_cons, List.length_nil, List.head?_cons, Option.map_some, Option.getD_some, Expr.pos]
  rw [if_neg (by decide)]
  split
  · rename_i hh
    exfalso
    simp only [List.any_cons, List.any_nil, Bool.or_false, Bool.or_eq_true] at hh
    rcases hh with hh | hh | hh
    · cases a <;> first | exact no (show false = true from hh) | exact no (show false = true from ha)
    · cases b <;> first | exact no (show false = true from hh) | exact no (show false = true from hb)
    · cases c <;> first | exact no (show false = true from hh) | exact no (show false = true from hc)
  · have h5' : (constantsAlone 8 a && (constantsAlone 8 b && constantsAlone 8 c)) = false := by rw [← Bool.and_assoc]; exact h5
    have h6' : (foldedForSure 8 a && (foldedForSure 8 b && foldedForSure 8 c)) = false := by rw [← Bool.and_assoc]; exact h6
    simp only [List.filterMap_cons, k1, k2, k3, h3', h3b', BEq.rfl, Bool.and_true, if_true, List.filterMap_nil, List.all_cons, List.all_nil, h5', h6', List.length_cons, List.length_nil]
    have e2 : ([x, y, z] : List Str).eraseDups = [x, y, z] := by
      have q1 : (y == x) = false := by simpa using Ne.symm hxy
      have q2 : (z == x) = false := by simpa using Ne.symm hxz
      have q3 : (z == y) = false := by simpa using Ne.symm hyz
      simp [List.eraseDups_cons, q1, q2, q3]
    rw [e2]
    rfl
theorem ss_none {x y : Str} {px py : Pos} {kt : Nat} {pt : Pos} {a b : Expr} {k2 : Nat} {p2 : Pos} {env : Env} (h : noSwap2B env.scope x y a b = true) : swappedStores [.Tuple [.Name x px, .Name y py] kt pt] (.Tuple [a, b] k2 p2) env = pure none := by
  unfold noSwap2B at h
  simp only [Bool.or_eq_true, Bool.not_eq_true'] at h
  unfold swappedStores
  dsimp only
  generalize hn : List.filterMap _ _ = names
  split
  · rfl
  split
  · rfl
  split
  · rfl
  rename_i hl
  simp only [Bool.or_eq_true, not_or] at hl
  have hl1 : names.length = 2 := by simpa using hl.1
  rcases h with (h | h) | h
  · exfalso
    have k : (env.kindOf x == some .local) = false := h
    rw [← hn] at hl1
    have := List.length_filterMap_le (fun e => match e with | .Name id pos => if (env.kindOf id == some .local && pos.line == (Option.map (fun x => x.pos.line) (List.head? [Expr.Name x px, .Name y py])).getD 0) = true then some id else none | _ => none) [Expr.Name y py]
    rw [List.filterMap_cons_none (by simp [k])] at hl1
    have h3 := Nat.le_trans (Nat.le_of_eq hl1.symm) this
    simp at h3
  · exfalso
    have k : (env.kindOf y == some .local) = false := h
    rw [← hn] at hl1
    have hl2 := hl1
    rw [List.filterMap_cons] at hl1
    rw [List.filterMap_cons_none (a := Expr.Name y py) (by simp [k])] at hl1
    split at hl1 <;> simp at hl1
  · rw [if_pos (by simpa using h)]
end TB
set_option maxHeartbeats 8000000
namespace TB
open PySem L2
/-- a def's own context -/
structure FOk (X : Cx) (sc : Scope) : Prop where
  sc_eq : X.env.scope = sc
  kind : sc.kind = .function
  stk : X.stack = X.env :: X.outer
  frame : X.env.frame = some X.env.locals
section
variable {G : Glb} {k : Nat}
theorem lookN {x : Str} {sc : Scope} (h : (sc.names.lookup x == some .local) = true) : sc.names.lookup x = some .local := by
  generalize sc.names.lookup x = o at h
  cases o with
  | none => cases h
  | some k => cases k <;> first | rfl | cases h
theorem lookNo {x : Str} {sc : Scope} (h : (!(sc.names.lookup x == some .local)) = true) : sc.names.lookup x ≠ some .local := by
  intro z
  rw [z] at h
  cases h
theorem sAsg_inv {st : Stmt} {t e : Expr} (h : sAsg st = some (t, e)) : ∃ p, st = .Assign [t] e p := by
  unfold sAsg at h; split at h <;> cases h; exact ⟨_, rfl⟩
theorem sPair_inv {e : Expr} {x y : Str} {px py : Pos} (h : sPair e = some (x, px, y, py)) : ∃ k p, e = .Tuple [.Name x px, .Name y py] k p := by
  unfold sPair at h; split at h <;> cases h; exact ⟨_, _, rfl⟩
theorem sPairE_inv {e x y : Expr} (h : sPairE e = some (x, y)) : ∃ k p, e = .Tuple [x, y] k p := by
  unfold sPairE at h; split at h <;> cases h; exact ⟨_, _, rfl⟩
theorem sAug_inv {st : Stmt} {x : Str} {e : Expr} (h : sAug st = some (x, e)) : ∃ p q, st = .AugAssign (.Name x p) .Add e q := by
  unfold sAug at h; split at h <;> cases h; exact ⟨_, _, rfl⟩
theorem sRaise_inv {st : Stmt} {x : Str} (h : sRaise st = some x) : ∃ p q r, st = .Raise (some (.Call (.Name x p) [] [] q)) none r := by
  unfold sRaise at h; split at h <;> cases h; exact ⟨_, _, _, rfl⟩
theorem sHd_inv {h0 : ExceptHandler} {x : Str} {c : Const} (h : sHd h0 = some (x, c)) : ∃ p j q r s, h0 = .ExceptHandler (some (.Name x p)) none [.Return (some (.Constant c j q)) r] s := by
  unfold sHd at h; split at h <;> cases h; exact ⟨_, _, _, _, _, rfl⟩
theorem nat_opt {a : Option Str} {b : Str} (h : (a == some b) = true) : a = some b := by simpa using h
theorem lt_of_get {l : List Str} {i : Nat} {x : Str} (h : l[i]? = some x) : i < l.length := (List.getElem?_eq_some_iff.mp h).1
theorem cst_any {d : PyData} {c : Const} {j : Nat} {p : Pos} (h : cstB d c = true) : ∃ v, (∀ X : Cx, PE X (.Constant c j p) (tC v)) ∧ ∀ F, Dq F v d := by
  cases d with
  | none =>
    cases c <;> first | exact ⟨.non, fun _ => pe_non, fun F => .non⟩ | cases h
  | bool b =>
    cases c with
    | bool b' =>
      have : b = b' := by simpa [cstB] using h
      subst this
      exact ⟨.bl b, fun _ => pe_bl, fun F => .bl b⟩
    | _ => cases h
  | int i =>
    cases c with
    | int i' =>
      have : i = i' := by simpa [cstB] using h
      subst this
      exact ⟨.int i, fun _ => pe_int, fun F => .int i⟩
    | _ => cases h
  | str x =>
    cases c with
    | str x' =>
      have : x = x' := by simpa [cstB] using h
      subst this
      exact ⟨.str x, fun _ => pe_str, fun F => .str x⟩
    | _ => cases h
  | list _ => cases h
  | tuple _ => cases h
  | dict _ => cases h
theorem sH {X : Cx} {W : WX} {sc : Scope} (g : Good G X W k) (s : ScOk X sc) : ∀ (hs : List (Nat × PyData)) (hds : List ExceptHandler), chkH G.cn sc hs hds = true → ∃ l, HdC X G.cl hds hs l ∧ ∀ c d, (c, d) ∈ hs → ∃ x, G.cn[c]? = some x ∧ x ≠ ""
  | [], [], _ => ⟨[], .nil, fun _ _ m => nomatch m⟩
  | [], _ :: _, h => no h
  | (c, d) :: hs, [], h => no h
  | (c, d) :: hs, h0 :: hds, h => by
    have h' : (match sHd h0 with | some (x, k) => G.cn[c]? == some x && !(x == "") && glB sc x && (x == ("__debug__" : Str)) == false && cstB d k && chkH G.cn sc hs hds | none => false) = true := h
    cases en : sHd h0 with
    | none => rw [en] at h'; exact no h'
    | some q =>
      obtain ⟨x, kc⟩ := q
      rw [en] at h'
      dsimp only at h'
      simp only [Bool.and_eq_true] at h'
      obtain ⟨⟨⟨⟨⟨h1, h0⟩, h2⟩, h3⟩, h4⟩, h5⟩ := h'
      have h0' : x ≠ "" := by simpa using h0
      obtain ⟨p, j, q, r, s5, rfl⟩ := sHd_inv en
      obtain ⟨l, hl, hm⟩ := sH g s hs hds h5
      obtain ⟨v, q1, q2⟩ := cst_any (j := j) (p := q) h4
      have h1' := nat_opt h1
      obtain ⟨C, m1, m2, m3, m4, m5⟩ := g.exs c x h1' h0'
      refine ⟨_, .cons ⟨s.gl x h2, bf_eq h3, .inl (by rw [m2]; exact m1)⟩ q1 q2 hl, fun c' d' m => ?_⟩
      rcases List.mem_cons.mp m with z | z
      · cases z
        exact ⟨x, h1', h0'⟩
      · exact hm c' d' z
theorem Good.tr {X : Cx} {W W' : WX} (g : Good G X W k) (pn : List (Addr × Obj)) (xe : Value → Shared → Prop) (tk : Takes (X.tr pn xe) W') (po : PassesOwn (model X.prog X.w) X.A X.env xe) : Good G (X.tr pn xe) W' k :=
  ⟨g.calm, g.nd, g.room, tk, po, g.blt, g.fns, fun c x h h0 => by
    obtain ⟨C, m1, m2, m3, m4, m5⟩ := g.exs c x h h0
    exact ⟨C, m1, m2, m3, m4, m5⟩, g.exm⟩
theorem ScOk.tr {X : Cx} {sc : Scope} (s : ScOk X sc) (pn : List (Addr × Obj)) (xe : Value → Shared → Prop) : ScOk (X.tr pn xe) sc := ⟨s.vis, s.gl, s.loc, s.cf⟩
theorem FOk.tr {X : Cx} {sc : Scope} (s : FOk X sc) (pn : List (Addr × Obj)) (xe : Value → Shared → Prop) : FOk (X.tr pn xe) sc := ⟨s.sc_eq, s.kind, s.stk, s.frame⟩
/-- name = [..] -/
theorem ps_putLc {X : Cx} {W : WX} {sc : Scope} {i : Nat} {b : Bool} {x : Str} {px pos : Pos} {c : CE} {v : Expr} (g : Good G X W k) (s : ScOk X sc) (f : FOk X sc) (hi : X.N[i]? = some x) (hw : swapB sc x px v = true) (h : chkE G.P X.N c sc v = true) :
    PS X (.Assign [.Name x px] v pos) (tS W G.cl (putR i b (ev (run G.P G.fw k) c))) := by
  cases v with
  | ListComp elt gs scope p =>
    have hw' : (sc.names.lookup x == some .local && px.line == p.line && !(scope.names.any fun (n, k) => n == x && (k == .local || k == .cell))) = true := hw
    simp only [Bool.and_eq_true] at hw'
    have hxl : X.env.scope.names.lookup x = some .local := by rw [f.sc_eq]; exact lookN hw'.1.1
    cases c with
    | comp ce tg it cond own =>
      have h' : (match sComp (.ListComp elt gs scope p) with | some (x, t, i, ifs, scope) => blkB X.N sc scope own && noSet i && (slots tg).all (fun j => own.contains j) && chkI G.P X.N it sc t i && chkG X.N scope tg t && chkC G.P X.N cond scope ifs && chkE G.P X.N ce scope x | none => false) = true := h
      cases en : sComp (.ListComp elt gs scope p) with
      | none => rw [en] at h'; exact no h'
      | some q =>
        obtain ⟨x', t, i', ifs, scope'⟩ := q
        rw [en] at h'
        dsimp only at h'
        simp only [Bool.and_eq_true] at h'
        obtain ⟨p', e'⟩ := sComp_inv en
        cases e'
        obtain ⟨⟨⟨⟨⟨⟨hb, hi0⟩, hs⟩, ci⟩, cg⟩, cc⟩, ce0⟩ := h'
        have hsl : ∀ j ∈ slots tg, j ∈ own := fun j hj => by
          have := List.all_eq_true.mp hs j hj
          simpa using this
        have q := ps_setLc (pos := p) (spos := pos) (py := px) g.calm g.nd hi hxl (sw_true (by rw [f.sc_eq]; exact f.kind) hxl hw'.1.2 (by simpa using hw'.2)) (sI it (W := W) g s ci) (blk_in hb s rfl)
          (fun s' H' C cc' fp => sG tg (g.blk s' H' scope C cc' fp) (ScOk.blk (sc := sc) s' H' scope C cc' fp) cg)
          (fun s' H' C cc' fp => sC cond (g.blk s' H' scope C cc' fp) (ScOk.blk (sc := sc) s' H' scope C cc' fp) cc)
          (fun s' H' C cc' fp => (sE ce (g.blk s' H' scope C cc' fp) (ScOk.blk (sc := sc) s' H' scope C cc' fp) ce0).pe) (folded hi0)
        rw [own_slots] at q
        refine PS.imp q fun D σ H p => ?_
        have p' := tS_put (te := tE W G.cl (ev (run G.P G.fw k) (.comp ce tg it cond own))) p
        exact tLc_of hsl p'
    | compB ce tg jj cond own =>
      have h' : (match sComp (.ListComp elt gs scope p) with | some (x, t, i, ifs, scope) => blkB X.N sc scope own && noSet i && (slots tg).all (fun j => own.contains j) && chkB X.N sc jj i && chkG X.N scope tg t && chkC G.P X.N cond scope ifs && chkE G.P X.N ce scope x | none => false) = true := h
      cases en : sComp (.ListComp elt gs scope p) with
      | none => rw [en] at h'; exact no h'
      | some q =>
        obtain ⟨x', t, i', ifs, scope'⟩ := q
        rw [en] at h'
        dsimp only at h'
        simp only [Bool.and_eq_true] at h'
        obtain ⟨p', e'⟩ := sComp_inv en
        cases e'
        obtain ⟨⟨⟨⟨⟨⟨hb, hi0⟩, hs⟩, ci⟩, cg⟩, cc⟩, ce0⟩ := h'
        have hsl : ∀ j ∈ slots tg, j ∈ own := fun j hj => by
          have := List.all_eq_true.mp hs j hj
          simpa using this
        have q := ps_setLc (pos := p) (spos := pos) (py := px) g.calm g.nd hi hxl (sw_true (by rw [f.sc_eq]; exact f.kind) hxl hw'.1.2 (by simpa using hw'.2)) (pi_box g s ci) (blk_in hb s rfl)
          (fun s' H' C cc' fp => sG tg (g.blk s' H' scope C cc' fp) (ScOk.blk (sc := sc) s' H' scope C cc' fp) cg)
          (fun s' H' C cc' fp => sC cond (g.blk s' H' scope C cc' fp) (ScOk.blk (sc := sc) s' H' scope C cc' fp) cc)
          (fun s' H' C cc' fp => (sE ce (g.blk s' H' scope C cc' fp) (ScOk.blk (sc := sc) s' H' scope C cc' fp) ce0).pe) (folded hi0)
        rw [own_slots] at q
        refine PS.imp q fun D σ H p => ?_
        have p' := tS_put (te := tE W G.cl (ev (run G.P G.fw k) (.compB ce tg jj cond own))) p
        exact tLcG_of hsl p'
    | _ =>
      exfalso
      revert h
      first
        | exact fun z => no z
        | (intro h; simp [chkE, sName, sCall1, sCall2, sCallN, sMeth1, sMeth0, sCmp1, sCmp2, sBool, sSub, sSlice, sRev] at h; done)
        | (rename_i b0 _; cases b0 <;> exact fun z => no z)
  | _ => exact no hw
mutual
theorem sS : ∀ (c : CS) {X : Cx} {W : WX} {sc : Scope} {st : Stmt}, Good G X W k → ScOk X sc → FOk X sc → chkS G.P G.cn X.N c sc st = true → PS X st (tS W G.cl (ex (run G.P G.fw k) G.fw c))
  | .put i b e, X, W, sc, st, g, s, f, h => by
    have h' : (match sAsg st with | some (.Name x px, v) => X.N[i]? == some x && locB sc x && (noLC v || swapB sc x px v || !(sc.names.lookup x == some .local)) && chkE G.P X.N e sc v | _ => false) = true := h
    cases en : sAsg st with
    | none => rw [en] at h'; exact no h'
    | some q =>
      obtain ⟨t, v⟩ := q
      rw [en] at h'
      obtain ⟨p, rfl⟩ := sAsg_inv en
      cases t with
      | Name x px =>
        dsimp only at h'
        simp only [Bool.and_eq_true] at h'
        obtain ⟨⟨⟨hi, hl⟩, hw⟩, hc⟩ := h'
        have hi' := nat_opt hi
        obtain ⟨l1, l2⟩ := s.loc x hl
        simp only [Bool.or_eq_true] at hw
        rcases hw with (hw | hw) | hw
        · exact ps_putC g.nd hi' l1 l2 (sw_no hw) (sE e g s hc).pe
        · exact ps_putLc g s f hi' hw hc
        · exact ps_putC g.nd hi' l1 l2 (sw_cell (by rw [f.sc_eq]; exact lookNo hw)) (sE e g s hc).pe
      | _ => exact no h'
  | .asg t e, X, W, sc, st, g, s, f, h => by
    have h' : (match sAsg st with | some (tg, v) => sTup tg && !sTup v && chkG X.N sc t tg && chkE G.P X.N e sc v | none => false) = true := h
    cases en : sAsg st with
    | none => rw [en] at h'; exact no h'
    | some q =>
      obtain ⟨tg, v⟩ := q
      rw [en] at h'
      obtain ⟨p, rfl⟩ := sAsg_inv en
      dsimp only at h'
      simp only [Bool.and_eq_true] at h'
      obtain ⟨⟨⟨h1, h2⟩, h3⟩, h4⟩ := h'
      refine ps_asgC (sG t g s h3) (sE e g s h4).pe (sw_tup h1) (ss_no (by simpa using h2)) ?_
      obtain ⟨es, kk, tp, rfl⟩ := sTup_inv h1
      rfl
  | .par2 i j b c e1 e2, X, W, sc, st, g, s, f, h => by
    have h' : (match sAsg st with | some (tg, v) => (match sPair tg, sPairE v with | some (x, px, y, py), some (v1, v2) => X.N[i]? == some x && X.N[j]? == some y && locB sc x && locB sc y && (swap2B sc x y px py v1 v2 || noSwap2B sc x y v1 v2) && noSet v1 && noSet v2 && chkE G.P X.N e1 sc v1 && chkE G.P X.N e2 sc v2 | _, _ => false) | none => false) = true := h
    cases en : sAsg st with
    | none => rw [en] at h'; exact no h'
    | some q =>
      obtain ⟨tg, v⟩ := q
      rw [en] at h'
      obtain ⟨p, rfl⟩ := sAsg_inv en
      dsimp only at h'
      cases ep : sPair tg with
      | none => rw [ep] at h'; exact no h'
      | some q =>
        obtain ⟨x, px, y, py⟩ := q
        cases eq : sPairE v with
        | none => rw [ep, eq] at h'; exact no h'
        | some q =>
          obtain ⟨v1, v2⟩ := q
          rw [ep, eq] at h'
          dsimp only at h'
          simp only [Bool.and_eq_true] at h'
          obtain ⟨⟨⟨⟨⟨⟨⟨⟨h1, h2⟩, h3⟩, h4⟩, h5⟩, h6⟩, h7⟩, h8⟩, h9⟩ := h'
          obtain ⟨k1, t1, rfl⟩ := sPair_inv ep
          obtain ⟨k2, t2, rfl⟩ := sPairE_inv eq
          have h1' := nat_opt h1
          have h2' := nat_opt h2
          rw [Bool.or_eq_true] at h5
          rcases h5 with h5 | h5
          · have h5' := h5
            unfold swap2B at h5'
            simp only [Bool.and_eq_true] at h5'
            have hxy : x ≠ y := by simpa using h5'.1.1.2
            have hij : i ≠ j := fun z => by
              subst z
              rw [h1'] at h2'
              exact hxy (Option.some.inj h2')
            exact ps_par2C g.calm g.nd h1' h2' hij (by rw [f.sc_eq]; exact lookN h5'.1.1.1.1.1) (by rw [f.sc_eq]; exact lookN h5'.1.1.1.1.2) h6 h7 (sE e1 g s h8).pe (sE e2 g s h9).pe (ss_yes (by rw [f.sc_eq]; exact f.kind) h6 h7 (by rw [f.sc_eq]; exact h5))
          · obtain ⟨l1, l2⟩ := s.loc x h3
            obtain ⟨m1, m2⟩ := s.loc y h4
            exact ps_par2D g.calm g.nd h1' h2' l1 m1 l2 m2 h6 h7 (sE e1 g s h8).pe (sE e2 g s h9).pe (ss_none (by rw [f.sc_eq]; exact h5))
  | .par3 i j l b c d e1 e2 e3, X, W, sc, st, g, s, f, h => by
    have h' : (match sAsg st with | some (tg, v) => (match sTrio tg, sTrioE v with | some (x, px, y, py, z, pz), some (v1, v2, v3) => X.N[i]? == some x && X.N[j]? == some y && X.N[l]? == some z && swap3B sc x y z px py pz v1 v2 v3 && noSet v1 && noSet v2 && noSet v3 && chkE G.P X.N e1 sc v1 && chkE G.P X.N e2 sc v2 && chkE G.P X.N e3 sc v3 | _, _ => false) | none => false) = true := h
    cases en : sAsg st with
    | none => rw [en] at h'; exact no h'
    | some q =>
      obtain ⟨tg, v⟩ := q
      rw [en] at h'
      obtain ⟨p, rfl⟩ := sAsg_inv en
      dsimp only at h'
      cases ep : sTrio tg with
      | none => rw [ep] at h'; exact no h'
      | some q =>
        obtain ⟨x, px, y, py, z, pz⟩ := q
        cases eq : sTrioE v with
        | none => rw [ep, eq] at h'; exact no h'
        | some q =>
          obtain ⟨v1, v2, v3⟩ := q
          rw [ep, eq] at h'
          dsimp only at h'
          simp only [Bool.and_eq_true] at h'
          obtain ⟨⟨⟨⟨⟨⟨⟨⟨⟨h1, h2⟩, h3⟩, h5⟩, h6⟩, h7⟩, h7b⟩, h8⟩, h9⟩, h10⟩ := h'
          obtain ⟨k1, t1, rfl⟩ := sTrio_inv ep
          obtain ⟨k2, t2, rfl⟩ := sTrioE_inv eq
          have h1' := nat_opt h1
          have h2' := nat_opt h2
          have h3' := nat_opt h3
          have h5' := h5
          unfold swap3B at h5'
          simp only [Bool.and_eq_true] at h5'
          obtain ⟨⟨⟨⟨⟨⟨⟨⟨⟨l1, l2⟩, l3⟩, _⟩, _⟩, n1⟩, n2⟩, n3⟩, _⟩, _⟩ := h5'
          have hxy : x ≠ y := by simpa using n1
          have hxz : x ≠ z := by simpa using n2
          have hyz : y ≠ z := by simpa using n3
          have hij : i ≠ j := fun w => by subst w; rw [h1'] at h2'; exact hxy (Option.some.inj h2')
          have hil : i ≠ l := fun w => by subst w; rw [h1'] at h3'; exact hxz (Option.some.inj h3')
          have hjl : j ≠ l := fun w => by subst w; rw [h2'] at h3'; exact hyz (Option.some.inj h3')
          exact ps_par3C g.calm g.nd h1' h2' h3' hij hil hjl (by rw [f.sc_eq]; exact lookN l1) (by rw [f.sc_eq]; exact lookN l2) (by rw [f.sc_eq]; exact lookN l3) h6 h7 h7b (sE e1 g s h8).pe (sE e2 g s h9).pe (sE e3 g s h10).pe (ss_yes3 (by rw [f.sc_eq]; exact f.kind) h6 h7 h7b (by rw [f.sc_eq]; exact h5))
  | .setIx o i e, X, W, sc, st, g, s, f, h => by
    have h' : (match sAsg st with | some (.Subscript x y _, v) => noSet y && chkE G.P X.N o sc x && chkE G.P X.N i sc y && chkE G.P X.N e sc v | _ => false) = true := h
    cases en : sAsg st with
    | none => rw [en] at h'; exact no h'
    | some q =>
      obtain ⟨t, v⟩ := q
      rw [en] at h'
      obtain ⟨p, rfl⟩ := sAsg_inv en
      cases t with
      | Subscript x y px =>
        dsimp only at h'
        simp only [Bool.and_eq_true] at h'
        obtain ⟨⟨⟨h1, h2⟩, h3⟩, h4⟩ := h'
        exact ps_setC (sE o g s h2).pe (sE i g s h3).pe h1 (sE e g s h4).pe (sw_sub (o := x) (i := y) (p := px) (l := p.line) (env := X.env)) ss_sub
      | _ => exact no h'
  | .aug i e, X, W, sc, st, g, s, f, h => by
    have h' : (match sAug st with | some (x, v) => X.N[i]? == some x && locB sc x && chkE G.P X.N e sc v | none => false) = true := h
    cases en : sAug st with
    | none => rw [en] at h'; exact no h'
    | some q =>
      obtain ⟨x, v⟩ := q
      rw [en] at h'
      obtain ⟨p, q, rfl⟩ := sAug_inv en
      dsimp only at h'
      simp only [Bool.and_eq_true] at h'
      obtain ⟨l1, l2⟩ := s.loc x h'.1.2
      exact ps_augC g.nd (nat_opt h'.1.1) l1 l2 (sE e g s h'.2).pe
  | .exp e, X, W, sc, st, g, s, f, h => by
    cases st with
    | Expr v p =>
      have h' : (noLC v && chkE G.P X.N e sc v) = true := h
      rw [Bool.and_eq_true] at h'
      exact ps_expC (sE e g s h'.2).pe (sw_no0 h'.1)
    | _ => exact no (show false = true from h)
  | .ite c a b, X, W, sc, st, g, s, f, h => by
    cases st with
    | If x y z p =>
      have h' : (noIf x && chkE G.P X.N c sc x && chkSs G.P G.cn X.N a sc y && chkSs G.P G.cn X.N b sc z) = true := h
      simp only [Bool.and_eq_true] at h'
      exact ps_ifC ((sE c g s h'.1.1.2).pt h'.1.1.1) (sSs a g s f h'.1.2) (sSs b g s f h'.2)
    | _ => exact no (show false = true from h)
  | .loop t it body, X, W, sc, st, g, s, f, h => by
    cases st with
    | For tg x b oe p =>
      cases oe with
      | cons _ _ => exact no (show false = true from h)
      | nil =>
        have h' : (noSet x && chkI G.P X.N it sc tg x && chkG X.N sc t tg && chkSs G.P G.cn X.N body sc b) = true := h
        simp only [Bool.and_eq_true] at h'
        exact ps_forC g.po g.calm (sI it g s h'.1.1.2) (sG t g s h'.1.2) (sSs body g s f h'.2) (folded h'.1.1.1)
    | _ => exact no (show false = true from h)
  | .loopB t jj body, X, W, sc, st, g, s, f, h => by
    cases st with
    | For tg x b oe p =>
      cases oe with
      | cons _ _ => exact no (show false = true from h)
      | nil =>
        have h' : (noSet x && chkB X.N sc jj x && chkG X.N sc t tg && chkSs G.P G.cn X.N body sc b) = true := h
        simp only [Bool.and_eq_true] at h'
        exact ps_forB g.po g.calm (pi_box g s h'.1.1.2) (sG t g s h'.1.2) (sSs body g s f h'.2) (folded h'.1.1.1)
    | _ => exact no (show false = true from h)
  | .while c body, X, W, sc, st, g, s, f, h => by
    cases st with
    | While x b oe p =>
      cases oe with
      | cons _ _ => exact no (show false = true from h)
      | nil =>
        have h' : (noIf x && chkE G.P X.N c sc x && chkSs G.P G.cn X.N body sc b) = true := h
        simp only [Bool.and_eq_true] at h'
        exact ps_whileC g.po ((sE c g s h'.1.2).pt h'.1.1) (sSs body g s f h'.2)
    | _ => exact no (show false = true from h)
  | .ret e, X, W, sc, st, g, s, f, h => by
    cases st with
    | Return o p =>
      cases o with
      | none => exact no (show false = true from h)
      | some v => exact ps_retC (sE e g s (show chkE G.P X.N e sc v = true from h)).pe
    | _ => exact no (show false = true from h)
  | .retN, X, W, sc, st, g, s, f, h => by
    cases st with
    | Return o p =>
      cases o with
      | none => exact ps_retNC
      | some v => exact no (show false = true from h)
    | _ => exact no (show false = true from h)
  | .raise c, X, W, sc, st, g, s, f, h => by
    have h' : (match sRaise st with | some x => G.cn[c]? == some x && !(x == "") && glB sc x && (x == ("__debug__" : Str)) == false | none => false) = true := h
    cases en : sRaise st with
    | none => rw [en] at h'; exact no h'
    | some x =>
      rw [en] at h'
      obtain ⟨p, q, r, rfl⟩ := sRaise_inv en
      dsimp only at h'
      simp only [Bool.and_eq_true] at h'
      obtain ⟨C, m1, m2, m3, m4, m5⟩ := g.exs c x (nat_opt h'.1.1.1) (by simpa using h'.1.1.2)
      exact ps_raiseC g.calm g.tk PySem.F.excBase_ValueError m4 m1 m3 m5 (s.gl x h'.1.2) (bf_eq h'.2) m2
  | .try_ body hs, X, W, sc, st, g, s, f, h => by
    cases st with
    | Try b hds oe fi p =>
      cases hds with
      | nil => exact no (show false = true from h)
      | cons h0 hds =>
        cases oe with
        | cons _ _ => exact no (show false = true from h)
        | nil =>
          cases fi with
          | cons _ _ => exact no (show false = true from h)
          | nil =>
            have h' : (chkSs G.P G.cn X.N body sc b && chkH G.cn sc hs (h0 :: hds)) = true := h
            rw [Bool.and_eq_true] at h'
            obtain ⟨l, hl, hm⟩ := sH g s hs _ h'.2
            exact ps_tryC f.stk f.frame g.tk (fun W' pn xe tk po => sSs body (g.tr pn xe tk po) (s.tr pn xe) (f.tr pn xe) h'.1) hl (fun c k d m => by
              obtain ⟨x, q1, q2⟩ := hm k d m
              exact g.exm c k x q1 q2)
    | _ => exact no (show false = true from h)
  | .pass, X, W, sc, st, g, s, f, h => by
    cases st with
    | Pass p => exact ps_passC
    | _ => exact no (show false = true from h)
theorem sSs : ∀ (c : CSs) {X : Cx} {W : WX} {sc : Scope} {st : List Stmt}, Good G X W k → ScOk X sc → FOk X sc → chkSs G.P G.cn X.N c sc st = true → PSs X st (tS W G.cl (exs (run G.P G.fw k) G.fw c))
  | .nil, X, W, sc, st, g, s, f, h => by
    cases st with
    | nil => exact pss_nilC
    | cons _ _ => exact no (show false = true from h)
  | .cons c cs, X, W, sc, st, g, s, f, h => by
    cases st with
    | nil => exact no (show false = true from h)
    | cons x xs =>
      have h' : (chkS G.P G.cn X.N c sc x && chkSs G.P G.cn X.N cs sc xs) = true := h
      rw [Bool.and_eq_true] at h'
      exact pss_consC (sS c g s f h'.1) (sSs cs g s f h'.2)
end
end
end TB
set_option maxHeartbeats 8000000
namespace TB
open PySem L2
/-! ### a def's run -/
section
variable {F H F' H' : Hp} {A A' : List Addr} {h h' : HP}
theorem take_al (e : Ext F H A F' H' A') : A = A'.take A.length := by
  obtain ⟨B, hB, _⟩ := e.al
  rw [hB, List.take_left]
theorem Ext.cut (e : Ext F H A F' H' A') : Ext F H A F' H' A := ⟨e.fz, ⟨[], by simp, fun _ hb => absurd hb (by simp)⟩, e.hp, e.nw⟩
theorem pre_get (e : Ext F H A F' H' A') {n : Nat} (hn : n < A.length) : A'[n]? = A[n]? := by
  obtain ⟨B, hB, _⟩ := e.al
  rw [hB, List.getElem?_append_left hn]
theorem Rl.cut (e : Ext F H A F' H' A') (R : Rl F' H' A' h') : Rl F' H' A (h'.take A.length) := by
  obtain ⟨B, hB, _⟩ := e.al
  have inA : ∀ b, b ∈ A → b ∈ A' := fun b hb => by rw [hB]; exact List.mem_append_left _ hb
  refine ⟨R.sub, ?_, ?_, fun a ha => R.off a (inA a ha), fun n a ds ha hd => ?_⟩
  · have := R.nd
    rw [hB] at this
    exact (List.nodup_append.mp this).1
  · rw [List.length_take, ← R.len, hB, List.length_append]
    omega
  · have hn := (List.getElem?_eq_some_iff.mp ha).1
    rw [List.getElem?_take_of_lt hn] at hd
    exact R.cell n a ds (by rw [pre_get e hn]; exact ha) hd
theorem RVR.out (e : Ext F H A F' H' A') (R : Rl F' H' A' h') {r r' : RV} {v : V} (rv : RVR H F' H' A' r v) (ho : outOf A.length h' r = some r') : RVR H F' H' A r' v := by
  obtain ⟨B, hB, nB⟩ := e.al
  have notA : ∀ b, b ∉ A' → b ∉ A := fun b hb z => hb (by rw [hB]; exact List.mem_append_left _ z)
  cases r with
  | new ds =>
    have : r' = .new ds := (Option.some.inj ho).symm
    subst this
    obtain ⟨a, vs, k1, k2, k3, k4, k5, k6⟩ := rv
    exact ⟨a, vs, k1, k2, k3, k4, notA a k5, k6⟩
  | v x =>
    cases x with
    | dat d =>
      have : r' = .v (.dat d) := (Option.some.inj ho).symm
      subst this
      exact rv
    | loc n =>
      obtain ⟨a, ha, rfl⟩ := rv
      have ho' : (if n < A.length then some (RV.v (.loc n)) else (h'[n]?).map .new) = some r' := ho
      by_cases hn : n < A.length
      · rw [if_pos hn] at ho'
        cases ho'
        exact ⟨a, by rw [← pre_get e hn]; exact ha, rfl⟩
      · rw [if_neg hn] at ho'
        obtain ⟨ds, hd, rfl⟩ := opt_map ho'
        obtain ⟨vs, q1, q2⟩ := R.cell n a ds ha hd
        have hm : a ∈ A' := List.mem_iff_getElem?.mpr ⟨n, ha⟩
        have hB' : B[n - A.length]? = some a := by
          rw [hB, List.getElem?_append_right (by omega)] at ha
          exact ha
        have hmB : a ∈ B := List.mem_iff_getElem?.mpr ⟨_, hB'⟩
        refine ⟨a, vs, rfl, q1, q2, R.off a hm, fun z => ?_, nB a hmB⟩
        have nd := R.nd
        rw [hB] at nd
        exact (List.nodup_append.mp nd).2.2 a z a hmB rfl
end
/-- what is given of a def -/
structure DOk (G : Glb) (K : PySem.W.Frag) (mg : Str → Option Value) (d : Def) (st : Stmt) (qual : Str) (fa : Addr) (fd : FuncData) : Prop where
  fn : Fun K d.name qual st fa fd
  sc : FnScope d.N (d.N.take d.np) (defScope st)
  mg_eq : mg d.name = some (.ref fa)
  binds : Binds K fd (d.N.take d.np) []
  np : d.np ≤ d.N.length
  chk : chkSs G.P G.cn d.N d.body (defScope st) (defBody st) = true
structure GOk (G : Glb) (K : PySem.W.Frag) (mg : Str → Option Value) : Prop where
  blt : ∀ x ∈ bltNames, mg x = none
  exs : ∀ (c : Nat) (x : Str), G.cn[c]? = some x → x ≠ "" → ∃ C, mg x = some (.ref C) ∧ G.cl c = .ref C ∧ PySem.W.keepIn K (.ref C) = true ∧ PySem.W.excIn K C veB "ValueError.__new__" = true ∧ PySem.W.subIn K (.ref C) (.type "BaseException") = some true ∧ PySem.W.typeIn K (.ref C) = some (.type "type")
  exm : ∀ (c k : Nat) (x : Str), G.cn[k]? = some x → x ≠ "" → PySem.W.exmOne K (G.cl c) (G.cl k) = some (decide (c = k ∨ k = 0))
theorem VRs.envR {F : Hp} {A : List Addr} {d : Def} {xs : List Vl} {vs : List V} (q : VRs F A xs vs) : EnvR F A (startE d xs) (L2.start d.N vs) := by
  have hl := q.length
  unfold startE L2.start
  refine ⟨by simp [hl], fun i x e => ?_⟩
  by_cases hi : i < xs.length
  · rw [List.getElem?_append_left (by simpa using hi)] at e
    rw [List.getElem?_append_left (by simpa [← hl] using hi)]
    rw [List.getElem?_map] at e ⊢
    cases ex : xs[i]? with
    | none => rw [ex] at e; cases e
    | some x' =>
      rw [ex] at e
      have : x' = x := by simpa using e
      subst this
      clear e
      have : ∀ {xs : List Vl} {vs : List V}, VRs F A xs vs → ∀ {i : Nat} {x : Vl}, xs[i]? = some x → ∃ v, vs[i]? = some v ∧ VR F A x v := by
        intro xs vs q
        induction q with
        | nil => intro i x e; simp at e
        | cons h _ ih =>
          intro i x e
          cases i with
          | zero => simp at e; subst e; exact ⟨_, rfl, h⟩
          | succ i => simp at e; simpa using ih e
      obtain ⟨v, k1, k2⟩ := this q ex
      exact ⟨v, by rw [k1]; rfl, k2⟩
  · rw [List.getElem?_append_right (by simpa using hi)] at e
    rw [List.getElem?_replicate] at e
    split at e <;> cases e
section
variable {G : Glb} {P : Program} {w : World} {K : PySem.W.Frag} {mg : Str → Option Value} {base : Heap} {FA : Nat → Addr} {FD : Nat → FuncData} {ST : Nat → Stmt} {QU : Nat → Str}
theorem fns_ok (g : GOk G K mg) (ds : ∀ f d, G.P.lookup f = some d → DOk G K mg d (ST f) (QU f) (FA f) (FD f)) : ∀ (k f : Nat) (d : Def), G.P.lookup f = some d →
    FnOk P w K mg base (L2.CX P w) k (FA f) (FD f) (d.N.take d.np) (spOf G.cl d.np (run G.P G.fw k f)) := by
  intro k
  induction k with
  | zero =>
    intro f d hd
    refine ⟨fun vs H Q E h => ?_, fun A outer s H args us vs Q E _ _ _ _ h => ?_⟩
    · rw [h.1, List.length_take]
      have := (ds f d hd).np
      omega
    · obtain ⟨_, F, A, h, xs, _, _, z⟩ := h
      exact z.elim
  | succ k ih =>
    intro f d hd
    have D := ds f d hd
    have hlen : (d.N.take d.np).length = d.np := by rw [List.length_take]; have := D.np; omega
    refine Fun.okX D.fn D.sc (fun vs H Q E h => by rw [h.1, hlen]) fun cdv A outer s H vs Q E hr hsp => ?_
    obtain ⟨hvl, F, As, h, xs, R, q, p⟩ := hsp
    have hxl : xs.length = d.np := by rw [q.length]; exact hvl
    have gd : Good G (cxOf (L2.CX P w) P w K mg base d.N (QU f) (defScope (ST f)) (FA f) cdv A outer s H E) (fun cls d _ H => E cls d H) k :=
      ⟨rfl, D.sc.nd, hr, takes_of rfl rfl rfl rfl, passes_of rfl, g.blt, fun f' d' hd' => ⟨FA f', FD f', (ds f' d' hd').mg_eq, (ds f' d' hd').fn.kp, (ds f' d' hd').binds, ih f' d' hd'⟩, fun c x hc h0 => by
        obtain ⟨C, m1, m2, m3, m4, m5, m6⟩ := g.exs c x hc h0
        exact ⟨C, m1, m2, m3, m4, raises_own m5 m6⟩, g.exm⟩
    have sk : ScOk (cxOf (L2.CX P w) P w K mg base d.N (QU f) (defScope (ST f)) (FA f) cdv A outer s H E) (defScope (ST f)) := by
      refine ⟨fun x h => ?_, fun x h => ?_, fun x h => ?_, fun x h => ?_⟩
      · unfold visB at h
        show Vis (defScope (ST f)) x
        unfold Vis
        split at h <;> first | (rename_i e; rw [e]; simp; done) | cases h
      · unfold glB at h
        show (defScope (ST f)).names.lookup x = _
        split at h <;> first | (rename_i e; rw [e]) | cases h
      · unfold locB at h
        show L2.Loc (defScope (ST f)) x ∧ (true = true ∨ _)
        unfold L2.Loc
        split at h <;> first | (rename_i e; rw [e]; simp; done) | cases h
      · unfold cfB at h
        show (defScope (ST f)).names.lookup x = _ ∨ (defScope (ST f)).names.lookup x = _
        split at h <;> first | (rename_i e; rw [e]; simp; done) | cases h
    refine ⟨_, sSs d.body gd sk ⟨rfl, D.sc.kind, rfl, rfl⟩ D.chk, F, As, h, startE d xs, R, q.envR, ?_⟩
    have pr : run G.P G.fw (k + 1) f xs h = leave h.length (exs (run G.P G.fw k) G.fw d.body (startE d xs) h) := by
      show (match G.P.lookup f with | some d => if xs.length = d.np then leave h.length (exs (run G.P G.fw k) G.fw d.body (startE d xs) h) else .bad | none => .bad) = _
      rw [hd]
      dsimp only
      rw [if_pos hxl]
    rw [pr] at p
    cases er : exs (run G.P G.fw k) G.fw d.body (startE d xs) h with
    | bad => rw [er] at p; exact p
    | exc c h' =>
      rw [er] at p
      intro F' H' A' σ' e R'
      refine p F' H' e.cut ?_
      rw [← R.len]
      exact R'.cut e
    | ok fl h' =>
      cases fl with
      | next ρ =>
        rw [er] at p
        intro F' H' A' σ' e R' _
        refine p F' H' .non e.cut ?_ .non
        rw [← R.len]
        exact R'.cut e
      | ret r =>
        rw [er] at p
        intro F' H' A' v e R' rv
        have p' : PostC G.cl F H As Q E (ofOpt (outOf h.length h' r) (h'.take h.length)) := p
        cases eo : outOf h.length h' r with
        | none => rw [eo] at p'; exact p'.elim
        | some r' =>
          rw [eo, ofOpt_some] at p'
          have hR := R'.cut e
          rw [R.len] at hR
          refine p' F' H' v e.cut hR (rv.out e R' ?_)
          rw [R.len]
          exact eo
end
end TB
set_option maxHeartbeats 8000000
namespace TB
open PySem PySem.Spec PyProof.Rows L2
/-! ### what the top leaves -/
def noL (K : PySem.W.Frag) : Bool := K.all fun p => match p.2.cls with
  | .type s => !(s == "list")
  | _ => true
theorem noL_ok {K : PySem.W.Frag} (h : noL K = true) {a : Addr} {o : Obj} (e : K.lookup a = some o) (hc : o.cls = .type "list") : False := by
  have : ∀ (K : PySem.W.Frag), K.lookup a = some o → ∃ p ∈ K, p.2 = o := by
    intro K
    induction K with
    | nil => intro z; cases z
    | cons p r ih =>
      obtain ⟨b, o'⟩ := p
      intro z
      rw [List.lookup_cons] at z
      split at z
      · cases z
        exact ⟨(b, o), List.mem_cons_self, rfl⟩
      · obtain ⟨p, m, e⟩ := ih z
        exact ⟨p, List.mem_cons_of_mem _ m, e⟩
  obtain ⟨p, m, rfl⟩ := this K e
  have := List.all_eq_true.mp h p m
  rw [hc] at this
  cases this
abbrev AlT : Type := Bool × He.AlD
def obsT (n : Nat) (fa : List He.Fa) (fn : List He.DefD) (g : Addr → Option Obj) : AlT := (noL (He.frG g (He.asD g n)), He.obsDG n fa fn g)
def hookT (n : Nat) (fa : List He.Fa) (fn : List He.DefD) : PySem.W.Hook where
  α := AlT
  obs := fun s => obsT n fa fn s.heap.get?
  val := fun _ => (true, He.valD fn)
  says := fun _ h => ∃ K : PySem.W.Frag, K.In h ∧ noL K = true ∧ He.SaysD fa fn K
  of := fun _ _ e => ⟨_, He.frG_in, congrArg (fun z : AlT => z.1) e, congrArg (fun z : AlT => z.2) e⟩
  keeps := fun _ _ _ ⟨K, hK, c⟩ k => ⟨K, PySem.W.Frag.In.keeps hK k, c⟩
theorem obsT_eq {n : Nat} {fa : List He.Fa} {fn : List He.DefD} {g : Addr → Option Obj} {s : Shared} (h : ∀ a, g a = s.heap.get? a) : obsT n fa fn g = (hookT n fa fn).obs s := by
  have e : g = s.heap.get? := funext h
  rw [e] <;> rfl
/-! ### the facts of a program -/
def mkD (st : Stmt) (d : Def) : He.DefD := ⟨(d.name, none), d.name, d.name, defArgs st, defBody st, defScope st, [], []⟩
/-- the names that are there, with their numbers -/
def there (cn : List Str) : List (Str × Nat) := cn.zipIdx.filter fun p => !(p.1 == "")
def exmF (cn : List Str) : List He.Fa := (there cn).flatMap fun p => (there cn).map fun q => .exm p.1 q.1 (decide (p.2 = q.2 ∨ q.2 = 0))
def faOf (P : Prog) (cn : List Str) : List He.Fa := P.map (fun p => .glo p.2.name) ++ bltNames.map .free ++ (there cn).map (fun p => .glo p.1) ++ (there cn).map (fun p => .exc p.1) ++ exmF cn
def fnOf (ST : Nat → Stmt) (P : Prog) : List He.DefD := P.map fun p => mkD (ST p.1) p.2
def nmOf (cn : List Str) (c : Nat) : Str := match cn[c]? with
  | some x => if x == "" then cn.getD 0 "" else x
  | none => cn.getD 0 ""
def clOf (K : PySem.W.Frag) (cn : List Str) (c : Nat) : Value := .ref (He.ga K (nmOf cn c))
def glOf (P : Prog) (fw : Nat) (cn : List Str) (K : PySem.W.Frag) : Glb := ⟨P, fw, cn, clOf K cn⟩
/-- what is given of a def, by its text alone -/
structure DStat (P : Prog) (cn : List Str) (d : Def) (st : Stmt) : Prop where
  sc : FnScope d.N (d.N.take d.np) (defScope st)
  np : d.np ≤ d.N.length
  chk : chkSs P cn d.N d.body (defScope st) (defBody st) = true
  bind : ∀ (kV doc pm : Value) (an : Option Addr) (cdv ct : Value) (us : List Value), us.length = (d.N.take d.np).length → bindArgs (PySem.W.fnOf d.name d.name (defArgs st) (defBody st) (defScope st) .none kV doc pm an cdv ct) ⟨us, []⟩ = pure ((d.N.take d.np).zip us)
theorem mem_lookup {P : Prog} {f : Nat} {d : Def} (h : P.lookup f = some d) : (f, d) ∈ P := by
  induction P with
  | nil => cases h
  | cons p r ih =>
    obtain ⟨b, o'⟩ := p
    rw [List.lookup_cons] at h
    split at h
    · rename_i e
      have : f = b := by simpa using e
      cases h
      subst this
      exact List.mem_cons_self
    · exact List.mem_cons_of_mem _ (ih h)
section
variable {P : Prog} {fw : Nat} {cn : List Str} {K : PySem.W.Frag} {mg : Str → Option Value} {h : Heap} {ST : Nat → Stmt}
theorem fact_in (c : He.SaysD (faOf P cn) (fnOf ST P) K) {f : He.Fa} (m : f ∈ faOf P cn) : f.ok K = true := by
  obtain ⟨i, hi, e⟩ := List.mem_iff_getElem.mp m
  exact c.fact i (f := f) (by rw [List.getElem?_eq_getElem hi, e])
theorem there_in {x : Str} {i : Nat} (h : cn[i]? = some x) (h0 : x ≠ "") : (x, i) ∈ there cn := by
  unfold there
  refine List.mem_filter.mpr ⟨?_, by simpa using h0⟩
  rw [List.mem_zipIdx_iff_getElem?]
  exact h
theorem nm_in {x : Str} {i : Nat} (h : cn[i]? = some x) (h0 : x ≠ "") : nmOf cn i = x := by
  unfold nmOf
  rw [h]
  dsimp only
  rw [if_neg (by simpa using h0)]
theorem GOk.mk' (hc0 : cn = [] ∨ ∃ x0 : Str, cn[0]? = some x0 ∧ x0 ≠ "") (X : K.In h) (Gn : h.Ns mainGlobals mg) (c : He.SaysD (faOf P cn) (fnOf ST P) K) : GOk (glOf P fw cn K) K mg := by
  refine ⟨fun x hx => ?_, fun i x hx h0 => ?_, fun i k x hk h0 => ?_⟩
  · exact He.free_ok X Gn (fact_in c (f := .free x) (by
      unfold faOf
      exact List.mem_append_left _ (List.mem_append_left _ (List.mem_append_left _ (List.mem_append_right _ (List.mem_map_of_mem hx))))))
  · have hx' : cn[i]? = some x := hx
    have m := there_in hx' h0
    have e1 := He.exc_ok (fact_in c (f := .exc x) (by
      unfold faOf
      exact List.mem_append_left _ (List.mem_append_right _ (List.mem_map.mpr ⟨_, m, rfl⟩))))
    have e2 := He.glo_ok X Gn (fact_in c (f := .glo x) (by
      unfold faOf
      exact List.mem_append_left _ (List.mem_append_left _ (List.mem_append_right _ (List.mem_map.mpr ⟨_, m, rfl⟩)))))
    refine ⟨He.ga K x, e2, ?_, e1.2.1, e1.1, e1.2.2.1, e1.2.2.2⟩
    show clOf K cn i = _
    unfold clOf
    rw [nm_in hx' h0]
  · have hk' : cn[k]? = some x := hk
    have mk := there_in hk' h0
    have key : ∀ (i : Nat) (y : Str), cn[i]? = some y → y ≠ "" → PySem.W.exmOne K (clOf K cn i) (clOf K cn k) = some (decide (i = k ∨ k = 0)) := fun i y hi hy => by
      have e := He.exm_ok (fact_in c (f := .exm y x (decide (i = k ∨ k = 0))) (by
        unfold faOf exmF
        refine List.mem_append_right _ (List.mem_flatMap.mpr ⟨_, there_in hi hy, List.mem_map.mpr ⟨_, mk, rfl⟩⟩)))
      unfold clOf
      rw [nm_in hi hy, nm_in hk' h0]
      exact e
    obtain ⟨x0, hx0, n0⟩ : ∃ x0 : Str, cn[0]? = some x0 ∧ x0 ≠ "" := by
      rcases hc0 with z | z
      · subst z
        simp at hk'
      · exact z
    have viaZero : (∀ y : Str, cn[i]? = some y → y = "") → PySem.W.exmOne K (clOf K cn i) (clOf K cn k) = some (decide (i = k ∨ k = 0)) := fun hz => by
      have e := key 0 x0 hx0 n0
      have e2 : clOf K cn i = clOf K cn 0 := by
        unfold clOf
        have : nmOf cn i = nmOf cn 0 := by
          rw [nm_in hx0 n0]
          unfold nmOf
          have g0 : cn.getD 0 "" = x0 := by rw [List.getD_eq_getElem?_getD, hx0]; rfl
          cases ei : cn[i]? with
          | none => exact g0
          | some y =>
            have := hz y ei
            subst this
            exact g0
        rw [this]
      rw [e2, e]
      congr 1
      apply decide_eq_decide.mpr
      constructor
      · rintro (z | z)
        · exact .inr z.symm
        · exact .inr z
      · rintro (z | z)
        · subst z
          exact absurd (hz x hk') h0
        · exact .inr z
    cases ei : cn[i]? with
    | none => exact viaZero fun y z => by rw [ei] at z; cases z
    | some y =>
      by_cases hy : y = ""
      · exact viaZero fun y' z => by rw [ei] at z; cases z; exact hy
      · exact key i y ei hy
theorem fun_ofD {x qual : PySem.Str} {st : Stmt} {f : Addr} {fd : FuncData} {kws : List (PySem.Str × L2.V)} (F : L2.FunD K x qual (L2.defArgs st) (L2.defBody st) (L2.defScope st) [] kws f fd) : L2.Fun K x qual st f fd := by
  obtain ⟨oc, od, dV, kV, doc, pm, an, cdv, ct, osl, e, l, c, hd, _⟩ := F.ex
  rcases hd with ⟨_, e2⟩ | ⟨e2, _⟩
  · subst e2
    exact ⟨⟨oc, od, kV, doc, pm, an, cdv, ct, osl, e, l, c⟩, F.kp⟩
  · exact absurd rfl e2
theorem DOk.mk' (X : K.In h) (Gn : h.Ns mainGlobals mg) (c : He.SaysD (faOf P cn) (fnOf ST P) K) {f : Nat} {d : Def} (hd : P.lookup f = some d) (s : DStat P cn d (ST f)) : ∃ fd, DOk (glOf P fw cn K) K mg d (ST f) d.name (He.ga K d.name) fd := by
  have m : (f, d) ∈ P := mem_lookup hd
  obtain ⟨i, hi, e⟩ := List.mem_iff_getElem.mp m
  have hfn : (fnOf ST P)[i]? = some (mkD (ST f) d) := by
    unfold fnOf
    rw [List.getElem?_map, List.getElem?_eq_getElem hi, e]
    rfl
  obtain ⟨fd, F⟩ := c.def_ i hfn
  have F' : Fun K d.name d.name (ST f) (He.ga K d.name) fd := fun_ofD F
  refine ⟨fd, F', s.sc, ?_, F'.binds s.bind, s.np, s.chk⟩
  exact He.glo_ok X Gn (fact_in c (f := .glo d.name) (by
    unfold faOf
    exact List.mem_append_left _ (List.mem_append_left _ (List.mem_append_left _ (List.mem_append_left _ (List.mem_map.mpr ⟨(f, d), m, rfl⟩))))))
/-- all defs keep their core terms' runs -/
theorem all_ok {Pm : Program} {w : World} {base : Heap} (hc0 : cn = [] ∨ ∃ x0 : Str, cn[0]? = some x0 ∧ x0 ≠ "") (X : K.In h) (Gn : h.Ns mainGlobals mg) (c : He.SaysD (faOf P cn) (fnOf ST P) K) (s : ∀ f d, P.lookup f = some d → DStat P cn d (ST f)) {f : Nat} {d : Def} (hd : P.lookup f = some d) :
    ∃ fd, Fun K d.name d.name (ST f) (He.ga K d.name) fd ∧ Binds K fd (d.N.take d.np) [] ∧ mg d.name = some (.ref (He.ga K d.name)) ∧ ∀ k, FnOk Pm w K mg base (L2.CX Pm w) k (He.ga K d.name) fd (d.N.take d.np) (spOf (clOf K cn) d.np (run P fw k f)) := by
  obtain ⟨fd0, _⟩ := DOk.mk' (fw := fw) X Gn c hd (s f d hd)
  have h1 : ∀ f, ∃ fd, ∀ d, P.lookup f = some d → DOk (glOf P fw cn K) K mg d (ST f) d.name (He.ga K d.name) fd := fun f => by
    cases e : P.lookup f with
    | none => exact ⟨fd0, fun d z => by cases z⟩
    | some d' =>
      obtain ⟨fd, q⟩ := DOk.mk' (fw := fw) X Gn c e (s f d' e)
      exact ⟨fd, fun d z => by cases z; exact q⟩
  obtain ⟨FD, hFD⟩ := Classical.axiomOfChoice h1
  have gk := GOk.mk' (fw := fw) hc0 X Gn c
  have ds : ∀ f d, (glOf P fw cn K).P.lookup f = some d → DOk (glOf P fw cn K) K mg d (ST f) (match P.lookup f with | some d => d.name | none => "") (match P.lookup f with | some d => He.ga K d.name | none => 0) (FD f) := fun f d e => by
    have e' : P.lookup f = some d := e
    rw [e']
    exact hFD f d e'
  refine ⟨FD f, (hFD f d hd).fn, (hFD f d hd).binds, (hFD f d hd).mg_eq, fun k => ?_⟩
  have q := fns_ok (P := Pm) (w := w) (base := base) gk ds k f d hd
  rw [hd] at q
  exact q
end
theorem ints_dqL {F : Hp} : ∀ ns : List Int, DqAll F (ns.map V.int) (ns.map PyData.int)
  | [] => .nil
  | n :: ns => .cons (.int n) (ints_dqL ns)
/-- the law's end -/
theorem walk_ofT {l : PySem.W.OpenLaw} {q : Program} {loose : List Str} {XP : (Str → Option Value) → Heap → Prop} {d : DefRec} {P : Prog} {fw k fl n : Nat} {cn : List Str} {ST : Nat → Stmt} {dl : Def} {x : Str}
    (hc0 : cn = [] ∨ ∃ x0 : Str, cn[0]? = some x0 ∧ x0 ≠ "") (hn : l.most = some 63) (hdf : d.params.defaults = []) (hr : Room k callerA) (hdl : P.lookup fl = some dl) (hnm : d.name = dl.name) (hps : dl.N.take dl.np = [x]) (s : ∀ f d, P.lookup f = some d → DStat P cn d (ST f))
    (hlaw : ∀ ns : List Int, ns.length ≤ 63 → ∃ h', run P fw k fl [.dat (.list (ns.map PyData.int))] [] = .ok (.v (.dat (.bool true))) h') :
    PySem.W.WalkO q loose XP (hookT n (faOf P cn) (fnOf ST P)).says l.row.toRowW d [] (fun f vs => PySem.call f vs) := by
  refine Att.attach_call hn hdf fun w s₀ s₁ mg mb fa o pm cd doc a vs ns G Y ho hd hcd hmg hobj hints hlen hg => ?_
  obtain ⟨K, KX, hL, c⟩ := Y
  obtain ⟨fd, F, hB, hm, _⟩ := all_ok (Pm := l.prog) (w := w) (base := s₁.heap) (fw := fw) hc0 KX G.T.g c s hdl
  rw [hnm] at hmg
  have hfa : fa = He.ga K dl.name := by
    rw [hm] at hmg
    cases hmg
    rfl
  subst hfa
  have st := (s fl dl hdl).bind
  have hb : ∀ (sh : Shared) (u : Value), BindsTo sh fd ⟨[u], []⟩ [(x, u)] := fun sh u => by
    obtain ⟨oc, od, kV, doc, pm, an, cdv, ct, osl, rfl, lk, hcd⟩ := F.ex
    have := st kV doc pm an cdv ct [u] (by rw [hps]; rfl)
    rw [hps] at this
    exact .of_eq this
  have np1 : dl.np = 1 := by
    have h1 := congrArg List.length hps
    rw [List.length_take] at h1
    have := (s fl dl hdl).np
    simp at h1
    omega
  have hF : ∀ base : Heap, K.In base → base.Ns mainGlobals mg → FnOk l.prog w K mg base (L2.CX l.prog w) k (He.ga K dl.name) fd [x] (spOf (clOf K cn) dl.np (run P fw k fl)) := fun base KB GB => by
    obtain ⟨fd', F', _, _, q⟩ := all_ok (Pm := l.prog) (w := w) (base := base) (fw := fw) hc0 KX G.T.g c s hdl
    have hfd : fd' = fd := by
      obtain ⟨oc, od, kV, doc, pm, an, cdv, ct, osl, e1, lk, hcd⟩ := F.ex
      obtain ⟨oc', od', kV', doc', pm', an', cdv', ct', osl', e1', lk', hcd'⟩ := F'.ex
      rw [lk] at lk'
      injection lk' with z
      injection z with _ _ z _
      injection z with z
      exact z.symm
    have q' := q k
    rw [hps, hfd] at q'
    exact q'
  refine law_call KX G.T.g G.T.b G.T.builtins G.T.nolimit hg hobj hints (Nat.le_trans hlen (by decide)) hr hF hb (fun H hO hS => ?_) fun H e s' => ?_
  · rcases hS with hS | ⟨o, its, n', hk, hcl, _⟩
    · obtain ⟨h', e⟩ := hlaw ns hlen
      refine ⟨by rw [np1]; rfl, H, [], [], [.dat (.list (ns.map PyData.int))], ⟨fun _ _ e => e, List.nodup_nil, rfl, (fun _ m => absurd m (by simp)), (fun n a ds z => by simp at z)⟩, .cons (Dq.lst hS (ints_dqL ns)) .nil, ?_⟩
      rw [e]
      intro F' H' v _ _ rv
      have rv' : Dq F' v (.bool true) := rv
      exact rv'.bool_inv
    · exact (noL_ok hL hk hcl).elim
  · rintro ⟨_, _, _, _, _, _, _, _, _, _, _, _, z⟩
    exact z
end TB
set_option maxHeartbeats 4000000
namespace TB
open PySem
/-! ### runs, in plain words -/
/-- a def's run, whatever the depth that is left beyond K -/
def Runs (P : Prog) (fw K f : Nat) (args : List Vl) (h : HP) (r : Res RV) : Prop := ∀ k, K ≤ k → run P fw k f args h = r
section
variable {P : Prog} {fw K K' f : Nat} {args : List Vl} {h : HP} {r : Res RV} {d : Def}
theorem Runs.intro (hd : P.lookup f = some d) (ha : args.length = d.np) (b : ∀ k, K ≤ k → leave h.length (exs (run P fw k) fw d.body (startE d args) h) = r) : Runs P fw (K + 1) f args h r := by
  intro k hk
  obtain ⟨j, rfl⟩ : ∃ j, k = j + 1 := ⟨k - 1, by omega⟩
  show (match P.lookup f with | some d => if args.length = d.np then leave h.length (exs (run P fw j) fw d.body (startE d args) h) else .bad | none => .bad) = r
  rw [hd]
  dsimp only
  rw [if_pos ha]
  exact b j (by omega)
theorem Runs.start {ρ : EV} {b : CSs} (hd : P.lookup f = some d) (ha : args.length = d.np) (hρ : startE d args = ρ) (hb : d.body = b) (go : ∀ k, K ≤ k → leave h.length (exs (run P fw k) fw b ρ h) = r) : Runs P fw (K + 1) f args h r := by
  subst hρ hb
  exact Runs.intro hd ha go
theorem run_at {ρ : EV} {b : CSs} {k : Nat} (hk : 1 ≤ k) (hd : P.lookup f = some d) (ha : args.length = d.np) (hρ : startE d args = ρ) (hb : d.body = b) : run P fw k f args h = leave h.length (exs (run P fw (k - 1)) fw b ρ h) := by
  subst hρ hb
  obtain ⟨j, rfl⟩ : ∃ j, k = j + 1 := ⟨k - 1, by omega⟩
  show (match P.lookup f with | some d => if args.length = d.np then leave h.length (exs (run P fw j) fw d.body (startE d args) h) else .bad | none => .bad) = _
  rw [hd]
  dsimp only
  rw [if_pos ha]
  rfl
theorem Runs.mono (r0 : Runs P fw K f args h r) (hk : K ≤ K') : Runs P fw K' f args h r := fun k h' => r0 k (Nat.le_trans hk h')
end
@[simp] theorem getV_zero (x : Option Vl) (ρ : EV) : getV (x :: ρ) 0 = x := by
  cases x <;> rfl
@[simp] theorem getV_succ (x : Option Vl) (ρ : EV) (n : Nat) : getV (x :: ρ) (n + 1) = getV ρ n := rfl
@[simp] theorem bind_ite {α β : Type} (c : Prop) [Decidable c] (a b : Res α) (f : α → HP → Res β) : (if c then a else b).bind f = if c then a.bind f else b.bind f := by split <;> rfl
@[simp] theorem leave_ite (n : Nat) (c : Prop) [Decidable c] (a b : Res Fl) : leave n (if c then a else b) = if c then leave n a else leave n b := by split <;> rfl
@[simp] theorem leave_next (n : Nat) (ρ : EV) (h : HP) : leave n (.ok (.next ρ) h) = .ok (.v (.dat .none)) (h.take n) := rfl
@[simp] theorem leave_dat (n : Nat) (d : PyData) (h : HP) : leave n (.ok (.ret (.v (.dat d))) h) = .ok (.v (.dat d)) (h.take n) := rfl
@[simp] theorem leave_new (n : Nat) (ds : List PyData) (h : HP) : leave n (.ok (.ret (.new ds)) h) = .ok (.new ds) (h.take n) := rfl
@[simp] theorem leave_exc (n c : Nat) (h : HP) : leave n (.exc c h) = .exc c (h.take n) := rfl
@[simp] theorem take_len (h : HP) : List.take h.length h = h := List.take_length
@[simp] theorem take_app (h g : HP) : List.take h.length (h ++ g) = h := by simp
@[simp] theorem settle_v (x : Vl) : settle (.v x) = x := rfl
@[simp] theorem settle_new (ds : List PyData) : settle (.new ds) = .dat (.list ds) := rfl
@[simp] theorem dat1_dat (h : HP) (d : PyData) : dat1 h (.v (.dat d)) = some d := rfl
@[simp] theorem dat1_new (h : HP) (ds : List PyData) : dat1 h (.new ds) = some (.list ds) := rfl
@[simp] theorem dat1_loc (h : HP) (n : Nat) : dat1 h (.v (.loc n)) = (h[n]?).map .list := rfl
@[simp] theorem datOf_dat (h : HP) (d : PyData) : datOf h (.dat d) = some d := rfl
@[simp] theorem datOf_loc (h : HP) (n : Nat) : datOf h (.loc n) = (h[n]?).map .list := rfl
@[simp] theorem asD_dat (d : PyData) : asD (.v (.dat d)) = some d := rfl
@[simp] theorem asD_new (ds : List PyData) : asD (.new ds) = some (.list ds) := rfl
@[simp] theorem locOf_loc (n : Nat) : locOf (.v (.loc n)) = some n := rfl
@[simp] theorem itemsD_list (xs : List PyData) : itemsD (.list xs) = some xs := rfl
@[simp] theorem itemsD_tuple (xs : List PyData) : itemsD (.tuple xs) = some xs := rfl
@[simp] theorem truth_bool (b : Bool) : truthD (.bool b) = some b := rfl
@[simp] theorem truth_none : truthD .none = some false := rfl
@[simp] theorem truth_int (i : Int) : truthD (.int i) = some (i != 0) := rfl
@[simp] theorem truth_list (xs : List PyData) : truthD (.list xs) = some (!xs.isEmpty) := rfl
@[simp] theorem truth_tuple (xs : List PyData) : truthD (.tuple xs) = some (!xs.isEmpty) := rfl
@[simp] theorem intOf_int (i : Int) : intOf (.int i) = some i := rfl
@[simp] theorem cmp_le (a b : Int) : cmpD .le (.int a) (.int b) = some (decide (a ≤ b)) := rfl
@[simp] theorem cmp_lt (a b : Int) : cmpD .lt (.int a) (.int b) = some (decide (a < b)) := rfl
@[simp] theorem cmp_gt (a b : Int) : cmpD .gt (.int a) (.int b) = some (decide (b < a)) := rfl
@[simp] theorem cmp_ge (a b : Int) : cmpD .ge (.int a) (.int b) = some (decide (b ≤ a)) := rfl
@[simp] theorem add_int (a b : Int) : binD .add (.int a) (.int b) = some (.v (.dat (.int (a + b)))) := rfl
@[simp] theorem sub_int (a b : Int) : binD .sub (.int a) (.int b) = some (.v (.dat (.int (a - b)))) := rfl
@[simp] theorem len_list (xs : List PyData) : b1D .len (.list xs) = some (.v (.dat (.int xs.length))) := rfl
@[simp] theorem len_tuple (xs : List PyData) : b1D .len (.tuple xs) = some (.v (.dat (.int xs.length))) := rfl
@[simp] theorem tuple_list (xs : List PyData) : b1D .tuple (.list xs) = some (.v (.dat (.tuple xs))) := rfl
@[simp] theorem tuple_tuple (xs : List PyData) : b1D .tuple (.tuple xs) = some (.v (.dat (.tuple xs))) := rfl
@[simp] theorem list_list (xs : List PyData) : b1D .list (.list xs) = some (.new xs) := rfl
@[simp] theorem list_tuple (xs : List PyData) : b1D .list (.tuple xs) = some (.new xs) := rfl
@[simp] theorem allDat_nil : allDat [] = some [] := rfl
@[simp] theorem allDat_dat (d : PyData) (xs : List Vl) : allDat (.dat d :: xs) = (allDat xs).map (d :: ·) := rfl
@[simp] theorem bindT_name (i : Nat) (d : PyData) (ρ : EV) : bindT (.name i) d ρ = if i < ρ.length then some (ρ.set i (some (.dat d))) else none := by unfold bindT; rfl
@[simp] theorem wipeE_nil (ρ : EV) : wipeE ρ [] = ρ := rfl
@[simp] theorem wipeE_cons (ρ : EV) (v : Nat) (vs : List Nat) : wipeE ρ (v :: vs) = (wipeE ρ vs).set v none := rfl
@[simp] theorem noExc_ok {α : Type} (a : α) (h : HP) : noExc (.ok a h) = .ok a h := rfl
@[simp] theorem putS_dat (i : Nat) (d : PyData) (ρ : EV) (h : HP) : putS i false (.v (.dat d)) ρ h = if i < ρ.length then .ok (.next (ρ.set i (some (.dat d)))) h else .bad := by
  unfold putS putB
  by_cases hi : i < ρ.length
  · simp only [if_pos hi, settle]
  · simp only [if_neg hi]
@[simp] theorem putS_newF (i : Nat) (ds : List PyData) (ρ : EV) (h : HP) : putS i false (.new ds) ρ h = if i < ρ.length then .ok (.next (ρ.set i (some (.dat (.list ds))))) h else .bad := by
  unfold putS putB
  by_cases hi : i < ρ.length
  · simp only [if_pos hi, settle]
  · simp only [if_neg hi]
@[simp] theorem putS_newT (i : Nat) (ds : List PyData) (ρ : EV) (h : HP) : putS i true (.new ds) ρ h = if i < ρ.length then .ok (.next (ρ.set i (some (.loc h.length)))) (h ++ [ds]) else .bad := by
  unfold putS putB
  by_cases hi : i < ρ.length
  · simp only [if_pos hi, settle]
  · simp only [if_neg hi]
section
variable (call : CallF) (fw : Nat) (ρ : EV) (h : HP)
@[simp] theorem ev_var (i : Nat) : ev call (.var i) ρ h = ofOpt ((getV ρ i).map .v) h := by rfl
@[simp] theorem ev_cst (d : PyData) : ev call (.cst d) ρ h = .ok (.v (.dat d)) h := by rfl
@[simp] theorem ev_tup (es : CEs) : ev call (.tup es) ρ h = (evVs call es ρ h).bind fun xs h => ofOpt ((allDat xs).map fun ds => .v (.dat (.tuple ds))) h := by rfl
@[simp] theorem ev_lst (es : CEs) : ev call (.lst es) ρ h = (evVs call es ρ h).bind fun xs h => ofOpt ((allDat xs).map .new) h := by rfl
@[simp] theorem ev_bin (op : BO) (a b : CE) : ev call (.bin op a b) ρ h = (ev call a ρ h).bind fun x h => (ev call b ρ h).bind fun y h => ofOpt ((dat1 h x).bind fun d => (dat1 h y).bind fun e => binD op d e) h := by rfl
@[simp] theorem ev_neg (a : CE) : ev call (.neg a) ρ h = (ev call a ρ h).bind fun x h => ofOpt ((dat1 h x).bind fun d => (intOf d).map fun i => .v (.dat (.int (-i)))) h := by rfl
@[simp] theorem ev_not (a : CE) : ev call (.not a) ρ h = (ev call a ρ h).bind fun x h => ofOpt ((dat1 h x).bind fun d => (truthD d).map fun b => .v (.dat (.bool (!b)))) h := by rfl
@[simp] theorem ev_and (a b : CE) : ev call (.and a b) ρ h = (ev call a ρ h).bind fun x h => (ofOpt ((dat1 h x).bind truthD) h).bind fun t h => if t then ev call b ρ h else .ok (.v (settle x)) h := by rfl
@[simp] theorem ev_or (a b : CE) : ev call (.or a b) ρ h = (ev call a ρ h).bind fun x h => (ofOpt ((dat1 h x).bind truthD) h).bind fun t h => if t then .ok (.v (settle x)) h else ev call b ρ h := by rfl
@[simp] theorem ev_cmp (op : CO) (a b : CE) : ev call (.cmp op a b) ρ h = (ev call a ρ h).bind fun x h => (ev call b ρ h).bind fun y h => ofOpt ((dat1 h x).bind fun d => (dat1 h y).bind fun e => (cmpD op d e).map fun b => .v (.dat (.bool b))) h := by rfl
@[simp] theorem ev_isN (neg : Bool) (a : CE) : ev call (.isN neg a) ρ h = (ev call a ρ h).bind fun x h => .ok (.v (.dat (.bool (match x with | .v (.dat .none) => !neg | _ => neg)))) h := by rfl
@[simp] theorem ev_chain (o1 o2 : CO) (a b c : CE) : ev call (.chain o1 o2 a b c) ρ h = (ev call a ρ h).bind fun x h => (ev call b ρ h).bind fun y h =>
      (ofOpt ((dat1 h x).bind fun d => (dat1 h y).bind fun e => cmpD o1 d e) h).bind fun t h =>
        if t then (ev call c ρ h).bind fun z h => ofOpt ((dat1 h y).bind fun d => (dat1 h z).bind fun e => (cmpD o2 d e).map fun b => .v (.dat (.bool b))) h
        else .ok (.v (.dat (.bool false))) h := by rfl
@[simp] theorem ev_ite (c a b : CE) : ev call (.ite c a b) ρ h = ((ev call c ρ h).bind fun x h => ofOpt ((dat1 h x).bind truthD) h).bind fun t h => if t then ev call a ρ h else ev call b ρ h := by rfl
@[simp] theorem ev_idx (a i : CE) : ev call (.idx a i) ρ h = (ev call a ρ h).bind fun x h => (ev call i ρ h).bind fun y h => ofOpt ((dat1 h x).bind fun d => (dat1 h y).bind fun e => (idxD d e).map fun z => .v (.dat z)) h := by rfl
@[simp] theorem ev_slice (a : CE) (lo hi : CP) : ev call (.slice a lo hi) ρ h = (ev call a ρ h).bind fun x h => (evP call lo ρ h).bind fun l h => (evP call hi ρ h).bind fun u h => ofOpt ((dat1 h x).bind fun d => sliceD d l u) h := by rfl
@[simp] theorem ev_rev (a : CE) : ev call (.rev a) ρ h = (ev call a ρ h).bind fun x h => ofOpt ((dat1 h x).bind revD) h := by rfl
@[simp] theorem ev_call (f : Nat) (es : CEs) : ev call (.call f es) ρ h = (evVs call es ρ h).bind fun xs h => call f xs h := by rfl
@[simp] theorem ev_b1 (b : B1) (a : CE) : ev call (.b1 b a) ρ h = (ev call a ρ h).bind fun x h => ofOpt ((dat1 h x).bind (b1D b)) h := by rfl
@[simp] theorem ev_sorted (k : Kd) (a : CE) : ev call (.sorted k a) ρ h = (ev call a ρ h).bind fun x h => ofOpt ((dat1 h x).bind (sortedD k)) h := by rfl
@[simp] theorem ev_sortedSet (k : Kd) (a : CE) : ev call (.sortedSet k a) ρ h = (ev call a ρ h).bind fun x h => ofOpt ((dat1 h x).bind (sortedSetD k)) h := by rfl
@[simp] theorem ev_isinst (t : TY) (a : CE) : ev call (.isinst t a) ρ h = (ev call a ρ h).bind fun x h => ofOpt ((dat1 h x).map fun d => .v (.dat (.bool (isinstD t d)))) h := by rfl
@[simp] theorem ev_meth (m : MT) (o a : CE) : ev call (.meth m o a) ρ h = (ev call o ρ h).bind fun x h => match locOf x with
      | some n => (ev call a ρ h).bind fun y h => (ofOpt (methD m h n y) h).bind fun h' _ => .ok (.v (.dat .none)) h'
      | none => .bad := by rfl
@[simp] theorem ev_pop (o : CE) : ev call (.pop o) ρ h = (ev call o ρ h).bind fun x h => match locOf x with
      | some n => (ofOpt (popD h n) h).bind fun p _ => .ok (.v (.dat p.1)) p.2
      | none => .bad := by rfl
@[simp] theorem ev_comp (elt : CE) (tg : Tg) (it : CI) (cond : CP) (own : List Nat) : ev call (.comp elt tg it cond own) ρ h = noExc ((evI call it ρ h).bind fun items h =>
      (compL (fun x h => (ofOpt (bindT tg x (wipeE ρ own)) h).bind fun ρ' h => (evC call cond ρ' h).bind fun t h =>
        if t then (ev call elt ρ' h).bind fun y h => ofOpt ((asD y).map some) h else .ok none h) items [] h).bind fun ds h => .ok (.new ds) h) := by rfl
@[simp] theorem evVs_nil : evVs call .nil ρ h = .ok [] h := by rfl
@[simp] theorem evVs_cons (e : CE) (es : CEs) : evVs call (.cons e es) ρ h = (ev call e ρ h).bind fun x h => (evVs call es ρ h).bind fun xs h => .ok (settle x :: xs) h := by rfl
@[simp] theorem evP_none : evP call .none ρ h = .ok none h := by rfl
@[simp] theorem evP_some (e : CE) : evP call (.some e) ρ h = (ev call e ρ h).bind fun x h => ofOpt ((dat1 h x).bind fun d => (intOf d).bind fun i => if smallI i then some (some i) else none) h := by rfl
@[simp] theorem evC_none : evC call .none ρ h = .ok true h := by rfl
@[simp] theorem evC_some (e : CE) : evC call (.some e) ρ h = (ev call e ρ h).bind fun x h => ofOpt ((dat1 h x).bind truthD) h := by rfl
@[simp] theorem evI_seq (e : CE) : evI call (.seq e) ρ h = (ev call e ρ h).bind fun x h => ofOpt ((asD x).bind itemsD) h := by rfl
@[simp] theorem evI_range (a : CE) : evI call (.range a) ρ h = (ev call a ρ h).bind fun x h => ofOpt ((dat1 h x).bind fun d => (intOf d).bind fun i => if smallI i then some (rangeD 0 i) else none) h := by rfl
@[simp] theorem evI_range2 (a b : CE) : evI call (.range2 a b) ρ h = (ev call a ρ h).bind fun x h => (ev call b ρ h).bind fun y h => ofOpt ((dat1 h x).bind fun d => (intOf d).bind fun i => (dat1 h y).bind fun e => (intOf e).bind fun j =>
      if smallI i && smallI j then some (rangeD i j) else none) h := by rfl
@[simp] theorem evI_zip (a b : CE) : evI call (.zip a b) ρ h = (ev call a ρ h).bind fun x h => (ofOpt (asD x) h).bind fun d h => (ev call b ρ h).bind fun y h => ofOpt ((asD y).bind fun e => zipI d e) h := by rfl
@[simp] theorem ex_put (i : Nat) (b : Bool) (e : CE) : ex call fw (.put i b e) ρ h = (ev call e ρ h).bind fun x h => putS i b x ρ h := by rfl
@[simp] theorem ex_asg (t : Tg) (e : CE) : ex call fw (.asg t e) ρ h = (ev call e ρ h).bind fun x h => (ofOpt ((asD x).bind fun d => bindT t d ρ) h).bind fun ρ h => .ok (.next ρ) h := by rfl
@[simp] theorem ex_par2 (i j : Nat) (b c : Bool) (e1 e2 : CE) : ex call fw (.par2 i j b c e1 e2) ρ h = (ev call e1 ρ h).bind fun x h => (ev call e2 ρ h).bind fun y h => parS [(i, b), (j, c)] [x, y] ρ h := by rfl
@[simp] theorem ex_setIx (o i e : CE) : ex call fw (.setIx o i e) ρ h = (ev call e ρ h).bind fun z h => (ofOpt (asD z) h).bind fun d h => (ev call o ρ h).bind fun x h => (ev call i ρ h).bind fun y h => (ofOpt (setD h x y d) h).bind fun h' _ => .ok (.next ρ) h' := by rfl
@[simp] theorem ex_aug (i : Nat) (e : CE) : ex call fw (.aug i e) ρ h = (ofOpt ((getV ρ i).bind fun o => (datOf h o).bind intOf) h).bind fun a h => (ev call e ρ h).bind fun x h => (ofOpt ((dat1 h x).bind intOf) h).bind fun b h =>
      .ok (.next (ρ.set i (some (.dat (.int (a + b)))))) h := by rfl
@[simp] theorem ex_exp (e : CE) : ex call fw (.exp e) ρ h = (ev call e ρ h).bind fun _ h => .ok (.next ρ) h := by rfl
@[simp] theorem ex_ite (c : CE) (a b : CSs) : ex call fw (.ite c a b) ρ h = ((ev call c ρ h).bind fun x h => ofOpt ((dat1 h x).bind truthD) h).bind fun t h => if t then exs call fw a ρ h else exs call fw b ρ h := by rfl
@[simp] theorem ex_loop (t : Tg) (it : CI) (body : CSs) : ex call fw (.loop t it body) ρ h = (evI call it ρ h).bind fun items h => forL (fun x ρ h => (ofOpt (bindT t x ρ) h).bind fun ρ h => exs call fw body ρ h) items ρ h := by rfl
@[simp] theorem ex_while (c : CE) (body : CSs) : ex call fw (.while c body) ρ h = whileL (fun ρ h => (ev call c ρ h).bind fun x h => ofOpt ((dat1 h x).bind truthD) h) (fun ρ h => exs call fw body ρ h) fw ρ h := by rfl
@[simp] theorem ex_ret (e : CE) : ex call fw (.ret e) ρ h = (ev call e ρ h).bind fun x h => .ok (.ret x) h := by rfl
@[simp] theorem ex_retN : ex call fw .retN ρ h = .ok (.ret (.v (.dat .none))) h := by rfl
@[simp] theorem ex_raise (c : Nat) : ex call fw (.raise c) ρ h = .exc c h := by rfl
@[simp] theorem ex_pass : ex call fw .pass ρ h = .ok (.next ρ) h := by rfl
@[simp] theorem exs_nil : exs call fw .nil ρ h = .ok (.next ρ) h := by rfl
theorem exs_cons (s : CS) (ss : CSs) : exs call fw (.cons s ss) ρ h = (ex call fw s ρ h).bind fun f h => match f with
    | .next ρ => exs call fw ss ρ h
    | .ret r => .ok (.ret r) h := by rfl
end
@[simp] theorem ex_try (call : CallF) (fw : Nat) (ρ : EV) (h : HP) (body : CSs) (hs : List (Nat × PyData)) : ex call fw (.try_ body hs) ρ h = match exs call fw body ρ h with
      | .exc c h' => (match handle 0 c hs with
          | some d => .ok (.ret (.v (.dat d))) h'
          | none => .exc c h')
      | r => r := by rfl
theorem ev_comp_of {call : CallF} {ρ : EV} {h h1 h2 : HP} {elt : CE} {tg : Tg} {it : CI} {cond : CP} {own : List Nat} {items ds : List PyData} (e1 : evI call it ρ h = .ok items h1)
    (e2 : compL (fun x h => (ofOpt (bindT tg x (wipeE ρ own)) h).bind fun ρ' h => (evC call cond ρ' h).bind fun t h => if t then (ev call elt ρ' h).bind fun y h => ofOpt ((asD y).map some) h else .ok none h) items [] h1 = .ok ds h2) : ev call (.comp elt tg it cond own) ρ h = .ok (.new ds) h2 := by
  rw [ev_comp, e1, Res.bind_ok, e2]
  rfl
theorem ex_loop_of {call : CallF} {fw : Nat} {ρ : EV} {h h1 : HP} {t : Tg} {it : CI} {body : CSs} {items : List PyData} {r : Res Fl} (e1 : evI call it ρ h = .ok items h1) (e2 : forL (fun x ρ h => (ofOpt (bindT t x ρ) h).bind fun ρ h => exs call fw body ρ h) items ρ h1 = r) : ex call fw (.loop t it body) ρ h = r := by
  rw [ex_loop, e1, Res.bind_ok, e2]
/-- what follows a statement -/
def andThen (r : Res Fl) (k : EV → HP → Res Fl) : Res Fl := r.bind fun f h => match f with
  | .next ρ => k ρ h
  | .ret r => .ok (.ret r) h
@[simp] theorem andThen_next (ρ : EV) (h : HP) (k : EV → HP → Res Fl) : andThen (.ok (.next ρ) h) k = k ρ h := rfl
@[simp] theorem andThen_ret (r : RV) (h : HP) (k : EV → HP → Res Fl) : andThen (.ok (.ret r) h) k = .ok (.ret r) h := rfl
@[simp] theorem andThen_exc (c : Nat) (h : HP) (k : EV → HP → Res Fl) : andThen (.exc c h) k = .exc c h := rfl
@[simp] theorem andThen_ite (c : Prop) [Decidable c] (a b : Res Fl) (k : EV → HP → Res Fl) : andThen (if c then a else b) k = if c then andThen a k else andThen b k := by split <;> rfl
@[simp] theorem exs_cons' (call : CallF) (fw : Nat) (ρ : EV) (h : HP) (s : CS) (ss : CSs) : exs call fw (.cons s ss) ρ h = andThen (ex call fw s ρ h) fun ρ h => exs call fw ss ρ h := by rfl
/-- a comprehension that changes nothing -/
theorem compL_pure {turn : PyData → HP → Res (Option PyData)} {f : PyData → Option PyData} {h : HP} : ∀ {items acc : List PyData}, (∀ x ∈ items, turn x h = .ok (f x) h) → compL turn items acc h = .ok (acc.reverse ++ items.filterMap f) h
  | [], acc, _ => by simp [compL]
  | x :: xs, acc, ht => by
    have ih : ∀ acc', compL turn xs acc' h = .ok (acc'.reverse ++ xs.filterMap f) h := fun acc' => compL_pure fun y m => ht y (List.mem_cons_of_mem _ m)
    show (turn x h).bind _ = _
    rw [ht x (List.mem_cons_self ..), Res.bind_ok, ih]
    cases e : f x with
    | none => simp [e]
    | some y => simp [e]
theorem compL_map {turn : PyData → HP → Res (Option PyData)} {f : PyData → PyData} {h : HP} {items : List PyData} (ht : ∀ x ∈ items, turn x h = .ok (some (f x)) h) : compL turn items [] h = .ok (items.map f) h := by
  rw [compL_pure (f := fun x => some (f x)) ht, List.filterMap_eq_map']
  rfl
theorem compL_filter {turn : PyData → HP → Res (Option PyData)} {p : PyData → Bool} {h : HP} {items : List PyData} (ht : ∀ x ∈ items, turn x h = .ok (if p x then some x else none) h) : compL turn items [] h = .ok (items.filter p) h := by
  rw [compL_pure (f := fun x => if p x then some x else none) ht]
  simp only [List.reverse_nil, List.nil_append]
  congr 1
  induction items with
  | nil => rfl
  | cons x xs ih =>
    rw [List.filterMap_cons, List.filter_cons, ih fun y m => ht y (List.mem_cons_of_mem _ m)]
    cases p x <;> rfl
theorem boolsOf_map {α : Type} (f : α → Bool) : ∀ l : List α, boolsOf (l.map fun x => .bool (f x)) = some (l.map f)
  | [] => rfl
  | x :: xs => by
    show (boolsOf (xs.map fun x => .bool (f x))).map (f x :: ·) = _
    rw [boolsOf_map f xs]
    rfl
theorem intsOf_map : ∀ l : List Int, intsOf (l.map .int) = some l
  | [] => rfl
  | x :: xs => by
    show (intsOf (xs.map .int)).map (x :: ·) = _
    rw [intsOf_map xs]
    rfl
end TB
set_option maxHeartbeats 4000000
namespace TB
open PySem
/-! ### typed data -/
class Enc (α : Type) [DecidableEq α] where
  enc : α → PyData
  dp : Nat
  lay : ∀ a, (enc a).canLay0 = true
  dep : ∀ a, (enc a).depth ≤ dp
  eqv : ∀ a b, PyData.eqv (enc a) (enc b) = decide (a = b)
  kd : Kd
  has : ∀ a, hasK kd (enc a) = true
open Enc (enc)
section
variable {α β : Type} [DecidableEq α] [DecidableEq β] [Enc α] [Enc β]
theorem lay_all : ∀ l : List α, PyData.canLayAll0 (l.map enc) = true
  | [] => rfl
  | x :: xs => by
    show (PyData.canLay0 (enc x) && PyData.canLayAll0 (xs.map enc)) = true
    rw [Enc.lay, lay_all xs]; rfl
theorem dep_all : ∀ l : List α, PyData.depthAll (l.map enc) ≤ Enc.dp α
  | [] => Nat.zero_le _
  | x :: xs => by
    have h1 := Enc.dep x
    have h2 := dep_all xs
    simp only [List.map_cons, PyData.depthAll]
    omega
theorem eqv_all : ∀ l m : List α, PyData.eqvAll (l.map enc) (m.map enc) = decide (l = m)
  | [], [] => by simp [PyData.eqvAll]
  | [], y :: ys => by simp [PyData.eqvAll]
  | x :: xs, [] => by simp [PyData.eqvAll]
  | x :: xs, y :: ys => by
    simp only [List.map_cons, PyData.eqvAll, Enc.eqv, eqv_all xs ys, List.cons.injEq, Bool.decide_and]
theorem has_all : ∀ l : List α, hasKs (.many (Enc.kd α)) (l.map enc) = true
  | [] => rfl
  | x :: xs => by
    show (hasK (Enc.kd α) (enc x) && hasKs (.many (Enc.kd α)) (xs.map enc)) = true
    rw [Enc.has, has_all xs]; rfl
instance : Enc Int where
  enc := .int
  dp := 0
  lay := fun _ => rfl
  dep := fun _ => by simp [PyData.depth]
  eqv := fun a b => by simp only [PyData.eqv]; exact (by by_cases h : a = b <;> simp [h])
  kd := .int
  has := fun _ => rfl
instance : Enc (List α) where
  enc := fun l => .tuple (l.map enc)
  dp := Enc.dp α + 1
  lay := fun l => by simp only [PyData.canLay0]; exact lay_all l
  dep := fun l => by simp only [PyData.depth]; have := dep_all l; omega
  eqv := fun a b => by simp only [PyData.eqv]; exact eqv_all a b
  kd := .many (Enc.kd α)
  has := fun l => by
    show hasKs (.many (Enc.kd α)) (l.map enc) = true
    exact has_all l
instance : Enc (α × β) where
  enc := fun p => .tuple [enc p.1, enc p.2]
  dp := max (Enc.dp α) (Enc.dp β) + 1
  lay := fun p => by simp only [PyData.canLay0, PyData.canLayAll0, Enc.lay]; rfl
  dep := fun p => by
    have h1 := Enc.dep p.1
    have h2 := Enc.dep p.2
    simp only [PyData.depth, PyData.depthAll]
    omega
  eqv := fun a b => by
    obtain ⟨a1, a2⟩ := a
    obtain ⟨b1, b2⟩ := b
    simp only [PyData.eqv, PyData.eqvAll, Enc.eqv, Bool.and_true, Prod.mk.injEq, Bool.decide_and]
  kd := .cons (Enc.kd α) (.cons (Enc.kd β) .nil)
  has := fun p => by
    show (hasK (Enc.kd α) (enc p.1) && (hasK (Enc.kd β) (enc p.2) && true)) = true
    rw [Enc.has, Enc.has]; rfl
theorem enc_int (i : Int) : (enc i : PyData) = .int i := rfl
theorem enc_list (l : List α) : (enc l : PyData) = .tuple (l.map enc) := rfl
theorem enc_pair (p : α × β) : (enc p : PyData) = .tuple [enc p.1, enc p.2] := rfl
theorem ok_enc (h : Enc.dp α ≤ 64) (a : α) : okD (enc a) = true := by
  show ((enc a).canLay0 && decide ((enc a).depth ≤ 64)) = true
  rw [Enc.lay]
  have := Enc.dep a
  simp
  omega
theorem ok_list (h : Enc.dp α + 1 ≤ 64) (l : List α) : okD (.list (l.map enc)) = true := by
  show (PyData.canLay0 (.list (l.map enc)) && decide (PyData.depth (.list (l.map enc)) ≤ 64)) = true
  have h2 := dep_all l
  have e1 : PyData.canLay0 (.list (l.map enc)) = true := by simp only [PyData.canLay0]; exact lay_all l
  have e2 : PyData.depth (.list (l.map enc)) = PyData.depthAll (l.map enc) + 1 := by simp only [PyData.depth]
  rw [e1, e2, Bool.true_and, decide_eq_true_eq]
  omega
theorem ok_tup (h : Enc.dp α + 1 ≤ 64) (l : List α) : okD (.tuple (l.map enc)) = true := ok_enc (α := List α) h l
theorem any_eqv (a : α) : ∀ l : List α, ((l.map enc).any fun z => PyData.eqv z (enc a)) = decide (a ∈ l)
  | [] => by simp
  | x :: xs => by
    rw [List.map_cons, List.any_cons, any_eqv a xs, Enc.eqv]
    by_cases h : x = a
    · subst h; simp
    · have h' : a ≠ x := fun z => h z.symm
      simp [h, h']
theorem enc_inj {a b : α} (h : (enc a : PyData) = enc b) : a = b := by
  have := Enc.eqv a b
  rw [h, Enc.eqv b b] at this
  simpa using this
/-! comparisons -/
theorem cmp_in_list (h : Enc.dp α + 1 ≤ 64) (a : α) (l : List α) : cmpD .isin (enc a) (.list (l.map enc)) = some (decide (a ∈ l)) := by
  show (if (okD (enc a) && okD (.list (l.map enc))) = true then some ((l.map enc).any fun z => PyData.eqv z (enc a)) else none) = _
  rw [ok_enc (by omega), ok_list h, any_eqv]; rfl
theorem cmp_in_tup (h : Enc.dp α + 1 ≤ 64) (a : α) (l : List α) : cmpD .isin (enc a) (.tuple (l.map enc)) = some (decide (a ∈ l)) := by
  show (if (okD (enc a) && okD (.tuple (l.map enc))) = true then some ((l.map enc).any fun z => PyData.eqv z (enc a)) else none) = _
  rw [ok_enc (by omega), ok_tup h, any_eqv]; rfl
theorem cmp_nin_list (h : Enc.dp α + 1 ≤ 64) (a : α) (l : List α) : cmpD .notin (enc a) (.list (l.map enc)) = some (!decide (a ∈ l)) := by
  show (if (okD (enc a) && okD (.list (l.map enc))) = true then some (!(l.map enc).any fun z => PyData.eqv z (enc a)) else none) = _
  rw [ok_enc (by omega), ok_list h, any_eqv]; rfl
theorem cmp_nin_tup (h : Enc.dp α + 1 ≤ 64) (a : α) (l : List α) : cmpD .notin (enc a) (.tuple (l.map enc)) = some (!decide (a ∈ l)) := by
  show (if (okD (enc a) && okD (.tuple (l.map enc))) = true then some (!(l.map enc).any fun z => PyData.eqv z (enc a)) else none) = _
  rw [ok_enc (by omega), ok_tup h, any_eqv]; rfl
theorem cmp_eq (h : Enc.dp α ≤ 64) (a b : α) : cmpD .eq (enc a) (enc b) = some (decide (a = b)) := by
  show (if (okD (enc a) && okD (enc b)) = true then some (PyData.eqv (enc a) (enc b)) else none) = _
  rw [ok_enc h, ok_enc h, Enc.eqv]; rfl
theorem cmp_ne (h : Enc.dp α ≤ 64) (a b : α) : cmpD .ne (enc a) (enc b) = some (!decide (a = b)) := by
  show (if (okD (enc a) && okD (enc b)) = true then some (!PyData.eqv (enc a) (enc b)) else none) = _
  rw [ok_enc h, ok_enc h, Enc.eqv]; rfl
theorem cmp_eqL (h : Enc.dp α + 1 ≤ 64) (a b : List α) : cmpD .eq (.list (a.map enc)) (.list (b.map enc)) = some (decide (a = b)) := by
  show (if (okD (.list (a.map enc)) && okD (.list (b.map enc))) = true then some (PyData.eqv (.list (a.map enc)) (.list (b.map enc))) else none) = _
  rw [ok_list h, ok_list h]
  simp only [PyData.eqv, eqv_all]
  rfl
theorem cmp_neL (h : Enc.dp α + 1 ≤ 64) (a b : List α) : cmpD .ne (.list (a.map enc)) (.list (b.map enc)) = some (!decide (a = b)) := by
  show (if (okD (.list (a.map enc)) && okD (.list (b.map enc))) = true then some (!PyData.eqv (.list (a.map enc)) (.list (b.map enc))) else none) = _
  rw [ok_list h, ok_list h]
  simp only [PyData.eqv, eqv_all]
  rfl
/-! order -/
def ltE (a b : α) : Bool := ltD (enc a) (enc b)
theorem ltE_total {a b : α} (h1 : ltE a b = false) (h2 : ltE b a = false) : a = b := enc_inj (ltD_total (Enc.has a) (Enc.has b) h1 h2)
theorem ltE_tr {a b c : α} (h1 : ltE a b = true) (h2 : ltE b c = true) : ltE a c = true := ltD_tr h1 h2
theorem ltE_irr (a : α) : ltE a a = false := ltD_irr _
theorem ltE_asym {a b : α} (h : ltE a b = true) : ltE b a = false := ltD_asym h
def insE (x : α) : List α → List α
  | [] => [x]
  | y :: ys => if ltE y x then y :: insE x ys else x :: y :: ys
def sortE : List α → List α
  | [] => []
  | x :: xs => insE x (sortE xs)
theorem insL_enc (x : α) : ∀ l : List α, sortD.insL (enc x) (l.map enc) = (insE x l).map enc
  | [] => rfl
  | y :: ys => by
    show (if ltD (enc y) (enc x) then enc y :: sortD.insL (enc x) (ys.map enc) else enc x :: enc y :: ys.map enc) = _
    rw [insL_enc x ys]
    show _ = List.map enc (if ltE y x then y :: insE x ys else x :: y :: ys)
    unfold ltE
    split <;> rfl
theorem sortD_enc : ∀ l : List α, sortD (l.map enc) = (sortE l).map enc
  | [] => rfl
  | x :: xs => by
    show sortD.insL (enc x) (sortD (xs.map enc)) = _
    rw [sortD_enc xs, insL_enc]
    rfl
theorem insE_perm (x : α) : ∀ l : List α, (insE x l).Perm (x :: l)
  | [] => List.Perm.refl _
  | y :: ys => by
    show (if ltE y x then y :: insE x ys else x :: y :: ys).Perm _
    split
    · exact ((insE_perm x ys).cons y).trans (List.Perm.swap x y ys)
    · exact List.Perm.refl _
theorem sortE_perm : ∀ l : List α, (sortE l).Perm l
  | [] => List.Perm.refl _
  | x :: xs => (insE_perm x _).trans ((sortE_perm xs).cons x)
abbrev SrE (l : List α) : Prop := l.Pairwise fun x y => ltE y x = false
theorem sortE_srt (l : List α) : SrE (sortE l) := by
  have := sortD_srt (l.map (enc : α → PyData))
  rw [sortD_enc] at this
  exact List.pairwise_map.mp this
theorem srtE_uniq {l m : List α} (p : l.Perm m) (h1 : SrE l) (h2 : SrE m) : l = m := by
  have := srt_uniq (k := Enc.kd α) (l.map enc) (m.map enc) (p.map enc) (List.pairwise_map.mpr h1) (List.pairwise_map.mpr h2) (fun d md => by
    obtain ⟨a, _, rfl⟩ := List.mem_map.mp md
    exact Enc.has a)
  have e : ∀ l m : List α, l.map (enc : α → PyData) = m.map enc → l = m := by
    intro l
    induction l with
    | nil => intro m h; cases m with | nil => rfl | cons _ _ => cases h
    | cons x xs ih =>
      intro m h
      cases m with
      | nil => cases h
      | cons y ys =>
        simp only [List.map_cons, List.cons.injEq] at h
        rw [enc_inj h.1, ih ys h.2]
  exact e l m this
theorem sortE_eq {l m : List α} (p : l.Perm m) : sortE l = sortE m := srtE_uniq (((sortE_perm l).trans p).trans (sortE_perm m).symm) (sortE_srt l) (sortE_srt m)
theorem sortE_self {l : List α} (h : SrE l) : sortE l = l := srtE_uniq (sortE_perm l) (sortE_srt l) h
/-- rising, no doubles -/
abbrev RisE (l : List α) : Prop := l.Pairwise fun x y => ltE x y = true
theorem risE_srt {l : List α} (h : RisE l) : SrE l := h.imp fun z => ltE_asym z
theorem risE_nodup {l : List α} (h : RisE l) : l.Nodup := h.imp fun {a b} z e => by
  subst e
  rw [ltE_irr] at z
  cases z
theorem srt_rise {l : List α} (h : SrE l) (nd : l.Nodup) : RisE l := by
  refine (h.and nd).imp fun {a b} ⟨z1, z2⟩ => ?_
  cases e : ltE a b with
  | true => rfl
  | false => exact absurd (ltE_total e z1) z2
theorem risE_ext {l m : List α} (h1 : RisE l) (h2 : RisE m) (h : ∀ x, x ∈ l ↔ x ∈ m) : l = m :=
  srtE_uniq ((List.perm_ext_iff_of_nodup (risE_nodup h1) (risE_nodup h2)).mpr h) (risE_srt h1) (risE_srt h2)
/-- without doubles -/
def dedE : List α → List α
  | [] => []
  | x :: xs => if x ∈ xs then dedE xs else x :: dedE xs
theorem dedup_enc : ∀ l : List α, dedup (l.map enc) = (dedE l).map enc
  | [] => rfl
  | x :: xs => by
    show (if ((xs.map enc).any fun y => PyData.eqv y (enc x)) = true then dedup (xs.map enc) else enc x :: dedup (xs.map enc)) = _
    rw [any_eqv, dedup_enc xs]
    show _ = List.map enc (if x ∈ xs then dedE xs else x :: dedE xs)
    by_cases h : x ∈ xs <;> simp [h]
theorem dedE_ok : ∀ l : List α, (dedE l).Nodup ∧ ∀ x, x ∈ dedE l ↔ x ∈ l
  | [] => ⟨List.nodup_nil, fun _ => Iff.rfl⟩
  | x :: xs => by
    obtain ⟨h1, h2⟩ := dedE_ok xs
    show (if x ∈ xs then dedE xs else x :: dedE xs).Nodup ∧ ∀ z, z ∈ (if x ∈ xs then dedE xs else x :: dedE xs) ↔ _
    by_cases h : x ∈ xs
    · rw [if_pos h]
      refine ⟨h1, fun z => ?_⟩
      rw [h2, List.mem_cons]
      exact ⟨.inr, fun q => q.elim (fun q => q ▸ h) id⟩
    · rw [if_neg h]
      refine ⟨List.nodup_cons.mpr ⟨fun z => h ((h2 x).mp z), h1⟩, fun z => ?_⟩
      rw [List.mem_cons, List.mem_cons, h2]
/-- sorted(set(l)) -/
def sdE (l : List α) : List α := sortE (dedE l)
theorem dedE_len : ∀ l : List α, (dedE l).length ≤ l.length
  | [] => Nat.le_refl _
  | x :: xs => by
    show (if x ∈ xs then dedE xs else x :: dedE xs).length ≤ _
    split
    · exact Nat.le_succ_of_le (dedE_len xs)
    · exact Nat.succ_le_succ (dedE_len xs)
theorem sdE_len (l : List α) : (sdE l).length ≤ l.length := by
  rw [sdE, (sortE_perm _).length_eq]
  exact dedE_len l
theorem sdE_rise (l : List α) : RisE (sdE l) := srt_rise (sortE_srt _) ((sortE_perm _).nodup_iff.mpr (dedE_ok l).1)
theorem mem_sdE (l : List α) (x : α) : x ∈ sdE l ↔ x ∈ l := by
  rw [sdE, (sortE_perm _).mem_iff, (dedE_ok l).2]
theorem sdE_self {l : List α} (h : RisE l) : sdE l = l := risE_ext (sdE_rise l) h fun x => mem_sdE l x
theorem all_has (h : Enc.dp α ≤ 64) (l : List α) : ((l.map enc).all fun x => hasK (Enc.kd α) x && okD x) = true := by
  rw [List.all_eq_true]
  intro d md
  obtain ⟨a, _, rfl⟩ := List.mem_map.mp md
  rw [Enc.has, ok_enc h]; rfl
theorem sorted_enc (h : Enc.dp α ≤ 64) (l : List α) : sortedD (Enc.kd α) (.list (l.map enc)) = some (.new ((sortE l).map enc)) := by
  show (if ((l.map enc).all fun x => hasK (Enc.kd α) x && okD x) = true then some (RV.new (sortD (l.map enc))) else none) = _
  rw [all_has h, if_pos rfl, sortD_enc]
theorem sorted_encD (h : Enc.dp α ≤ 64) (l : List α) {d : PyData} (hd : itemsD d = some (l.map enc)) : sortedD (Enc.kd α) d = some (.new ((sortE l).map enc)) := by
  unfold sortedD
  rw [hd]
  show (if ((l.map enc).all fun x => hasK (Enc.kd α) x && okD x) = true then some (RV.new (sortD (l.map enc))) else none) = _
  rw [all_has h, if_pos rfl, sortD_enc]
theorem sdD_enc (h : Enc.dp α ≤ 8) (l : List α) (hl : l.length < 64) {d : PyData} (hd : itemsD d = some (l.map enc)) : sortedSetD (Enc.kd α) d = some (.new ((sdE l).map enc)) := by
  unfold sortedSetD
  rw [hd]
  show (if (((l.map enc).all fun x => hasK (Enc.kd α) x && decide (x.depth ≤ 8)) && decide ((l.map enc).length < 64)) = true then some (RV.new (sortD (dedup (l.map enc)))) else none) = _
  have e : ((l.map enc).all fun x => hasK (Enc.kd α) x && decide (x.depth ≤ 8)) = true := by
    rw [List.all_eq_true]
    intro d md
    obtain ⟨a, _, rfl⟩ := List.mem_map.mp md
    have := Enc.dep a
    rw [Enc.has, Bool.true_and, decide_eq_true_eq]
    omega
  rw [e, List.length_map, decide_eq_true hl, Bool.and_true, if_pos rfl, dedup_enc, sortD_enc]
  rfl
end
theorem ltE_int (a b : Int) : ltE a b = decide (a < b) := PySem.W.dataLt_int a b
end TB
set_option maxHeartbeats 4000000
namespace TB
open PySem
open Enc (enc)
/-! ### basics of dependencies -/
def d_is_integer : Def := ⟨"is_integer", ["candidate", "least", "most"], 3, (.cons (.ret (.and (.isinst .int (.var 0)) (.and (.not (.isinst .bool (.var 0))) (.chain .le .le (.var 1) (.var 0) (.var 2))))) .nil)⟩
def d_is_rising : Def := ⟨"is_rising", ["candidate", "one", "other"], 1, (.cons (.ret (.b1 .all (.comp (.cmp .lt (.var 1) (.var 2)) (.cons (.name 1) (.cons (.name 2) .nil)) (.zip (.var 0) (.slice (.var 0) (.some (.cst (.int 1))) .none)) .none [1, 2]))) .nil)⟩
def d_are_columns : Def := ⟨"are_columns", ["width", "candidate", "one"], 2, (.cons (.ite (.or (.not (.isinst .tuple (.var 1))) (.not (.b1 .all (.comp (.call 0 (.cons (.var 2) (.cons (.cst (.int 0)) (.cons (.bin .sub (.var 0) (.cst (.int 1))) .nil)))) (.name 2) (.seq (.var 1)) .none [2])))) (.cons (.ret (.cst (.bool false))) .nil) .nil) (.cons (.ret (.call 1 (.cons (.var 1) .nil))) .nil))⟩
def d_is_valid_dependency : Def := ⟨"is_valid_dependency", ["width", "candidate", "one"], 2, (.cons (.ite (.or (.not (.isinst .tuple (.var 1))) (.cmp .ne (.b1 .len (.var 1)) (.cst (.int 2)))) (.cons (.ret (.cst (.bool false))) .nil) .nil) (.cons (.ret (.and (.b1 .all (.comp (.call 2 (.cons (.var 0) (.cons (.var 2) .nil))) (.name 2) (.seq (.var 1)) .none [2])) (.cmp .ne (.idx (.var 1) (.cst (.int 1))) (.tup .nil)))) .nil))⟩
def d_are_valid_dependencies : Def := ⟨"are_valid_dependencies", ["width", "candidate", "one"], 2, (.cons (.ite (.or (.not (.isinst .tuple (.var 1))) (.cmp .gt (.b1 .len (.var 1)) (.cst (.int 8)))) (.cons (.ret (.cst (.bool false))) .nil) .nil) (.cons (.ret (.and (.b1 .all (.comp (.call 3 (.cons (.var 0) (.cons (.var 2) .nil))) (.name 2) (.seq (.var 1)) .none [2])) (.call 1 (.cons (.var 1) .nil)))) .nil))⟩
def d_require_width : Def := ⟨"require_width", ["width"], 1, (.cons (.ite (.not (.call 0 (.cons (.var 0) (.cons (.cst (.int 1)) (.cons (.cst (.int 6)) .nil))))) (.cons (.raise 1) .nil) .nil) .nil)⟩
def d_require_dependencies : Def := ⟨"require_dependencies", ["width", "dependencies"], 2, (.cons (.exp (.call 5 (.cons (.var 0) .nil))) (.cons (.ite (.not (.call 4 (.cons (.var 0) (.cons (.var 1) .nil)))) (.cons (.raise 2) .nil) .nil) .nil))⟩
def d_is_part : Def := ⟨"is_part", ["some", "columns", "one"], 2, (.cons (.ret (.b1 .all (.comp (.cmp .isin (.var 2) (.var 1)) (.name 2) (.seq (.var 0)) .none [2]))) .nil)⟩
@[simp] theorem bindT_cons (t u : Tg) (x : PyData) (xs : List PyData) (ρ : EV) : bindT (.cons t u) (.tuple (x :: xs)) ρ = (bindT t x ρ).bind fun ρ' => bindTs u xs ρ' := by rw [bindT]
@[simp] theorem bindTs_cons (t u : Tg) (x : PyData) (xs : List PyData) (ρ : EV) : bindTs (.cons t u) (x :: xs) ρ = (bindT t x ρ).bind fun ρ' => bindTs u xs ρ' := by rw [bindTs]
@[simp] theorem bindTs_nil (ρ : EV) : bindTs .nil [] ρ = some ρ := by rw [bindTs]
theorem small_one : smallI 1 = true := rfl
theorem cut_one (ds : List PyData) : cutD ds (some 1) none = ds.tail := by
  unfold cutD HT.sIx
  cases ds with
  | nil => rfl
  | cons x xs => simp
theorem zipD_enc {α β : Type} [DecidableEq α] [DecidableEq β] [Enc α] [Enc β] : ∀ (xs : List α) (ys : List β), zipD (xs.map enc) (ys.map enc) = (xs.zip ys).map fun p => .tuple [enc p.1, enc p.2]
  | [], _ => by cases ‹List β› <;> rfl
  | _ :: _, [] => rfl
  | x :: xs, y :: ys => by
    show PyData.tuple [enc x, enc y] :: zipD (xs.map enc) (ys.map enc) = _
    rw [zipD_enc xs ys]
    rfl
section
variable {α : Type} [DecidableEq α] [Enc α]
theorem cmp_ltE (h : Enc.dp α ≤ 64) (a b : α) : cmpD .lt (enc a) (enc b) = some (ltE a b) := by
  have ha := Enc.has a
  have hb := Enc.has b
  have oa := ok_enc h a
  have ob := ok_enc h b
  have al := hasK_alike _ _ _ ha hb
  unfold ltE
  generalize (enc a : PyData) = x at *
  generalize (enc b : PyData) = y at *
  rcases hasK_cases ha with ⟨i, hk, rfl⟩ | ⟨xs, rfl, h1⟩
  · rcases hasK_cases hb with ⟨j, _, rfl⟩ | ⟨ys, rfl, h2⟩
    · show some (decide (i < j)) = _
      rw [show ltD (.int i) (.int j) = decide (i < j) from PySem.W.dataLt_int i j]
    · rw [hk] at h2
      cases ys <;> exact nomatch (show false = true from h2)
  · rcases hasK_cases hb with ⟨j, hk, rfl⟩ | ⟨ys, rfl, h2⟩
    · rw [hk] at h1
      cases xs <;> exact nomatch (show false = true from h1)
    · show (if (okD (.tuple xs) && okD (.tuple ys) && PySem.W.alike (.tuple xs) (.tuple ys)) = true then some (ltD (.tuple xs) (.tuple ys)) else none) = _
      rw [oa, ob, al]
      rfl
/-- one after the other -/
def riseB (xs : List α) : Bool := (xs.zip xs.tail).all fun p => ltE p.1 p.2
theorem riseB_iff : ∀ xs : List α, riseB xs = true ↔ RisE xs
  | [] => by simp [riseB]
  | [x] => by simp [riseB]
  | x :: y :: ys => by
    have ih := riseB_iff (y :: ys)
    have e : riseB (x :: y :: ys) = (ltE x y && riseB (y :: ys)) := by simp [riseB]
    rw [e, Bool.and_eq_true, ih]
    constructor
    · rintro ⟨h1, h2⟩
      refine List.pairwise_cons.mpr ⟨fun z m => ?_, h2⟩
      rcases List.mem_cons.mp m with rfl | m
      · exact h1
      · exact ltE_tr h1 ((List.pairwise_cons.mp h2).1 z m)
    · intro h
      obtain ⟨h1, h2⟩ := List.pairwise_cons.mp h
      exact ⟨h1 y (List.mem_cons_self ..), h2⟩
end
@[simp] theorem all_bools {α : Type} (f : α → Bool) (l : List α) : b1D .all (.list (l.map fun x => .bool (f x))) = some (.v (.dat (.bool (l.all f)))) := by
  show (boolsOf (l.map fun x => .bool (f x))).map (fun bs => RV.v (.dat (.bool (bs.all id)))) = _
  rw [boolsOf_map]
  simp [List.all_map]
@[simp] theorem any_bools {α : Type} (f : α → Bool) (l : List α) : b1D .any (.list (l.map fun x => .bool (f x))) = some (.v (.dat (.bool (l.any f)))) := by
  show (boolsOf (l.map fun x => .bool (f x))).map (fun bs => RV.v (.dat (.bool (bs.any id)))) = _
  rw [boolsOf_map]
  simp [List.any_map]
/-- a comprehension over typed items -/
theorem comp_map {α : Type} {g : α → PyData} {turn : PyData → HP → Res (Option PyData)} {f : α → PyData} {h : HP} {items : List α} (ht : ∀ x ∈ items, turn (g x) h = .ok (some (f x)) h) : compL turn (items.map g) [] h = .ok (items.map f) h := by
  have : ∀ (l : List α) (acc : List PyData), (∀ x ∈ l, turn (g x) h = .ok (some (f x)) h) → compL turn (l.map g) acc h = .ok (acc.reverse ++ l.map f) h := by
    intro l
    induction l with
    | nil => intro acc _; simp [compL]
    | cons x l ih =>
      intro acc hl
      show (turn (g x) h).bind _ = _
      rw [hl x (List.mem_cons_self ..), Res.bind_ok, ih _ fun y m => hl y (List.mem_cons_of_mem _ m)]
      simp
  simpa using this items [] ht
theorem comp_filter {α : Type} {g : α → PyData} {turn : PyData → HP → Res (Option PyData)} {f : α → PyData} {p : α → Bool} {h : HP} {items : List α} (ht : ∀ x ∈ items, turn (g x) h = .ok (if p x then some (f x) else none) h) : compL turn (items.map g) [] h = .ok ((items.filter p).map f) h := by
  have : ∀ (l : List α) (acc : List PyData), (∀ x ∈ l, turn (g x) h = .ok (if p x then some (f x) else none) h) → compL turn (l.map g) acc h = .ok (acc.reverse ++ (l.filter p).map f) h := by
    intro l
    induction l with
    | nil => intro acc _; simp [compL]
    | cons x l ih =>
      intro acc hl
      show (turn (g x) h).bind _ = _
      rw [hl x (List.mem_cons_self ..), Res.bind_ok, ih _ fun y m => hl y (List.mem_cons_of_mem _ m)]
      cases e : p x <;> simp [e]
  simpa using this items [] ht
abbrev okB (b : Bool) (h : HP) : Res RV := .ok (.v (.dat (.bool b))) h
section
variable {P : Prog} {fw : Nat}
def isIntB : PyData → Int → Int → Bool
  | .int i, a, b => decide (a ≤ i) && decide (i ≤ b)
  | _, _, _ => false
theorem run_is_integer (hP : P.lookup 0 = some d_is_integer) (c : PyData) (a b : Int) (h : HP) : Runs P fw 1 0 [.dat c, .dat (.int a), .dat (.int b)] h (okB (isIntB c a b) h) := by
  refine Runs.start (K := 0) (ρ := [some (.dat c), some (.dat (.int a)), some (.dat (.int b))]) hP rfl rfl rfl fun k _ => ?_
  cases c <;> simp [d_is_integer, isinstD, isIntB]
  rename_i i
  by_cases h1 : a ≤ i <;> simp [h1]
theorem run_is_rising {α : Type} [DecidableEq α] [Enc α] (hd : Enc.dp α ≤ 64) (hP : P.lookup 1 = some d_is_rising) (xs : List α) (hl : xs.length ≤ LIM) (h : HP) : Runs P fw 1 1 [.dat (.tuple (xs.map enc))] h (okB (riseB xs) h) := by
  refine Runs.start (K := 0) (ρ := [some (.dat (.tuple (xs.map enc))), none, none]) hP rfl rfl rfl fun k _ => ?_
  have e : (List.map enc xs).tail = (xs.tail).map (enc : α → PyData) := by cases xs <;> rfl
  have e2 : zipI (.tuple (xs.map enc)) (.tuple ((xs.tail).map (enc : α → PyData))) = some ((xs.zip xs.tail).map fun p => .tuple [enc p.1, enc p.2]) := by
    show (if (xs.map enc).length ≤ LIM then some (zipD (xs.map enc) ((xs.tail).map enc)) else none) = _
    rw [if_pos (by rw [List.length_map]; exact hl), zipD_enc]
  simp [d_is_rising, sliceD, cut_one, e, e2, small_one, -List.map_tail]
  rw [comp_map (f := fun p : α × α => .bool (ltE p.1 p.2)) (fun p _ => by simp [cmp_ltE hd])]
  simp [riseB]
/-! sets of columns, rules -/
abbrev Cols := List Int
abbrev Rule := Cols × Cols
def decC : PyData → Cols
  | .tuple xs => (intsOf xs).getD []
  | _ => []
def decR : PyData → Rule
  | .tuple [a, b] => (decC a, decC b)
  | _ => ([], [])
theorem decC_enc (c : Cols) : decC (enc c) = c := by
  show (intsOf (c.map .int)).getD [] = c
  rw [intsOf_map]; rfl
theorem decR_enc (r : Rule) : decR (enc r) = r := by
  show (decC (enc r.1), decC (enc r.2)) = r
  rw [decC_enc, decC_enc]
def areColsB (w : Int) : PyData → Bool
  | .tuple xs => xs.all (fun x => isIntB x 0 (w - 1)) && riseB (decC (.tuple xs))
  | _ => false
theorem ints_all {a b : Int} : ∀ {xs : List PyData}, xs.all (fun x => isIntB x a b) = true → ∃ ns : List Int, xs = ns.map .int ∧ ∀ n ∈ ns, a ≤ n ∧ n ≤ b
  | [], _ => ⟨[], rfl, fun _ m => absurd m (by simp)⟩
  | x :: xs, h => by
    rw [List.all_cons, Bool.and_eq_true] at h
    obtain ⟨ns, e, hn⟩ := ints_all h.2
    cases x with
    | int i =>
      refine ⟨i :: ns, by rw [e]; rfl, fun n m => ?_⟩
      rcases List.mem_cons.mp m with rfl | m
      · have := h.1
        simp only [isIntB, Bool.and_eq_true, decide_eq_true_eq] at this
        exact this
      · exact hn n m
    | _ => simp [isIntB] at h
theorem areCols_enc {w : Int} {d : PyData} (h : areColsB w d = true) : d = enc (decC d) ∧ (∀ n ∈ decC d, 0 ≤ n ∧ n ≤ w - 1) ∧ RisE (decC d) := by
  cases d with
  | tuple xs =>
    have h' : (xs.all (fun x => isIntB x 0 (w - 1)) && riseB (decC (.tuple xs))) = true := h
    rw [Bool.and_eq_true] at h'
    obtain ⟨ns, rfl, hn⟩ := ints_all h'.1
    have e : decC (.tuple (ns.map .int)) = ns := decC_enc ns
    rw [e]
    rw [e] at h'
    exact ⟨rfl, hn, (riseB_iff ns).mp h'.2⟩
  | _ => exact nomatch (show false = true from h)
/-- columns of a table of width w, rising -/
def GoodC (w : Int) (c : Cols) : Prop := (∀ n ∈ c, 0 ≤ n ∧ n ≤ w - 1) ∧ RisE c
theorem areCols_good {w : Int} {c : Cols} (h : GoodC w c) : areColsB w (enc c) = true := by
  show ((c.map .int).all (fun x => isIntB x 0 (w - 1)) && riseB (decC (enc c))) = true
  rw [decC_enc, (riseB_iff c).mpr h.2, Bool.and_true, List.all_eq_true]
  intro d md
  obtain ⟨n, mn, rfl⟩ := List.mem_map.mp md
  have := h.1 n mn
  simp [isIntB, this.1, this.2]
def lenOk : PyData → Prop
  | .tuple xs => xs.length ≤ LIM
  | _ => True
theorem run_are_columns (h0 : P.lookup 0 = some d_is_integer) (h1 : P.lookup 1 = some d_is_rising) (h2 : P.lookup 2 = some d_are_columns) (w : Int) (c : PyData) (hl : lenOk c) (h : HP) : Runs P fw 2 2 [.dat (.int w), .dat c] h (okB (areColsB w c) h) := by
  refine Runs.start (K := 1) (ρ := [some (.dat (.int w)), some (.dat c), none]) h2 rfl rfl rfl fun k hk => ?_
  cases c with
  | tuple xs =>
    simp [d_are_columns, isinstD]
    rw [compL_map (f := fun x => .bool (isIntB x 0 (w - 1))) (fun x _ => by simp [run_is_integer h0 x 0 (w - 1) h k hk])]
    simp only [noExc_ok, Res.bind_ok, dat1_new, Option.bind_some, all_bools, ofOpt_some]
    have ec : areColsB w (.tuple xs) = (xs.all (fun x => isIntB x 0 (w - 1)) && riseB (decC (.tuple xs))) := rfl
    cases e : xs.all fun x => isIntB x 0 (w - 1) with
    | false =>
      rw [e, Bool.false_and] at ec
      simp [ec]
    | true =>
      obtain ⟨ns, rfl, hn⟩ := ints_all e
      have hr := run_is_rising (α := Int) (fw := fw) (by decide) h1 ns (by have := hl; simpa [lenOk] using this) h k hk
      have : areColsB w (.tuple (ns.map .int)) = riseB ns := by
        show (_ && riseB (decC (enc ns))) = _
        rw [e, decC_enc]; rfl
      rw [this]
      have hr' : run P fw k 1 [.dat (.tuple (ns.map .int))] h = okB (riseB ns) h := hr
      simp [hr']
  | _ => simp [d_are_columns, isinstD, areColsB]
def isUnit : PyData → Bool
  | .tuple [] => true
  | _ => false
def validB (w : Int) : PyData → Bool
  | .tuple [a, b] => areColsB w a && areColsB w b && !isUnit b
  | _ => false
theorem valid_enc {w : Int} {d : PyData} (h : validB w d = true) : d = enc (decR d) ∧ GoodC w (decR d).1 ∧ GoodC w (decR d).2 ∧ (decR d).2 ≠ [] := by
  unfold validB at h
  split at h
  · rename_i a b
    simp only [Bool.and_eq_true] at h
    obtain ⟨⟨h1, h2⟩, h3⟩ := h
    obtain ⟨a1, a2⟩ := areCols_enc h1
    obtain ⟨b1, b2⟩ := areCols_enc h2
    refine ⟨?_, a2, b2, fun z => ?_⟩
    · show PyData.tuple [a, b] = .tuple [enc (decC a), enc (decC b)]
      rw [← a1, ← b1]
    · have z' : decC b = [] := z
      rw [z'] at b1
      rw [b1] at h3
      cases h3
  · cases h
theorem run_is_valid (h0 : P.lookup 0 = some d_is_integer) (h1 : P.lookup 1 = some d_is_rising) (h2 : P.lookup 2 = some d_are_columns) (h3 : P.lookup 3 = some d_is_valid_dependency) (w : Int) (c : PyData) (hl : ∀ xs, c = .tuple xs → ∀ x ∈ xs, lenOk x) (h : HP) :
    Runs P fw 3 3 [.dat (.int w), .dat c] h (okB (validB w c) h) := by
  refine Runs.start (K := 2) (ρ := [some (.dat (.int w)), some (.dat c), none]) h3 rfl rfl rfl fun k hk => ?_
  cases c with
  | tuple xs =>
    have ne2 : ∀ n : Nat, cmpD .ne (.int n) (.int 2) = some (!decide ((n : Int) = 2)) := fun n => cmp_ne (α := Int) (by decide) n 2
    simp [d_is_valid_dependency, isinstD, ne2]
    by_cases hx : (xs.length : Int) = 2
    · have hx' : xs.length = 2 := by omega
      simp [hx]
      match xs, hx' with
      | [a, b], _ =>
        rw [compL_map (f := fun x => .bool (areColsB w x)) (fun x m => by simp [run_are_columns h0 h1 h2 w x (hl _ rfl x m) h k hk])]
        simp only [noExc_ok, Res.bind_ok, dat1_new, Option.bind_some, all_bools, ofOpt_some]
        cases ea : areColsB w a with
        | false => simp [validB, ea]
        | true =>
          cases eb : areColsB w b with
          | false => simp [validB, ea, eb]
          | true =>
            obtain ⟨b1, _⟩ := areCols_enc eb
            have hi : idxD (.tuple [a, b]) (.int 1) = some b := rfl
            have hn : cmpD .ne b (.tuple []) = some (!isUnit b) := by
              rw [b1]
              have := cmp_ne (α := Cols) (by decide) (decC b) []
              rw [show (enc ([] : Cols) : PyData) = .tuple [] from rfl] at this
              rw [this]
              cases e : decC b with
              | nil => rfl
              | cons x l => rfl
            simp [hi, hn, validB, ea, eb]
    · simp [hx]
      have : validB w (.tuple xs) = false := by
        unfold validB
        split
        · rename_i a b e
          cases e
          simp at hx
        · rfl
      exact this
  | _ => simp [d_is_valid_dependency, isinstD, validB]
def depsB (w : Int) : PyData → Bool
  | .tuple xs => decide (xs.length ≤ 8) && (xs.all (validB w) && riseB (xs.map decR))
  | _ => false
/-- lists in lists are short -/
def lenOk2 : PyData → Prop
  | .tuple xs => ∀ x ∈ xs, ∀ ys, x = .tuple ys → ∀ y ∈ ys, lenOk y
  | _ => True
theorem rules_all {w : Int} : ∀ {xs : List PyData}, xs.all (validB w) = true → xs = (xs.map decR).map enc ∧ ∀ r ∈ xs.map decR, GoodC w r.1 ∧ GoodC w r.2 ∧ r.2 ≠ []
  | [], _ => ⟨rfl, fun _ m => absurd m (by simp)⟩
  | x :: xs, h => by
    rw [List.all_cons, Bool.and_eq_true] at h
    obtain ⟨e, hr⟩ := rules_all h.2
    obtain ⟨e1, h1⟩ := valid_enc h.1
    refine ⟨by rw [List.map_cons, List.map_cons, ← e1, ← e], fun r m => ?_⟩
    rcases List.mem_cons.mp m with rfl | m
    · exact h1
    · exact hr r m
theorem run_are_valid (h0 : P.lookup 0 = some d_is_integer) (h1 : P.lookup 1 = some d_is_rising) (h2 : P.lookup 2 = some d_are_columns) (h3 : P.lookup 3 = some d_is_valid_dependency) (h4 : P.lookup 4 = some d_are_valid_dependencies) (w : Int) (c : PyData) (hl : lenOk2 c) (h : HP) :
    Runs P fw 4 4 [.dat (.int w), .dat c] h (okB (depsB w c) h) := by
  refine Runs.start (K := 3) (ρ := [some (.dat (.int w)), some (.dat c), none]) h4 rfl rfl rfl fun k hk => ?_
  cases c with
  | tuple xs =>
    simp [d_are_valid_dependencies, isinstD]
    have ed : depsB w (.tuple xs) = (decide (xs.length ≤ 8) && (xs.all (validB w) && riseB (xs.map decR))) := rfl
    by_cases hx : 8 < (xs.length : Int)
    · have hx' : ¬ xs.length ≤ 8 := by omega
      rw [decide_eq_false hx', Bool.false_and] at ed
      simp [hx, ed]
    · have hx' : xs.length ≤ 8 := by omega
      rw [decide_eq_true hx', Bool.true_and] at ed
      simp [hx]
      rw [compL_map (f := fun x => .bool (validB w x)) (fun x m => by simp [run_is_valid h0 h1 h2 h3 w x (hl x m) h k hk])]
      simp only [noExc_ok, Res.bind_ok, dat1_new, Option.bind_some, all_bools, ofOpt_some]
      cases e : xs.all (validB w) with
      | false =>
        rw [e, Bool.false_and] at ed
        simp [ed]
      | true =>
        rw [e, Bool.true_and] at ed
        obtain ⟨e1, _⟩ := rules_all e
        have hr := run_is_rising (α := Rule) (fw := fw) (by decide) h1 (xs.map decR) (by
          rw [List.length_map]
          have : (8 : Nat) ≤ LIM := by decide
          omega) h k (by omega)
        rw [← e1] at hr
        simp [hr, ed]
  | _ => simp [d_are_valid_dependencies, isinstD, depsB]
abbrev okN (h : HP) : Res RV := .ok (.v (.dat .none)) h
theorem run_require_width (h0 : P.lookup 0 = some d_is_integer) (h5 : P.lookup 5 = some d_require_width) (c : PyData) (h : HP) : Runs P fw 2 5 [.dat c] h (if isIntB c 1 6 then okN h else .exc 1 h) := by
  refine Runs.start (K := 1) (ρ := [some (.dat c)]) h5 rfl rfl rfl fun k hk => ?_
  simp [d_require_width, run_is_integer h0 c 1 6 h k hk]
  cases isIntB c 1 6 <;> simp
/-- what require_dependencies does -/
def reqR (c r : PyData) (h : HP) : Res RV := match c with
  | .int w => if isIntB (.int w) 1 6 then (if depsB w r then okN h else .exc 2 h) else .exc 1 h
  | _ => .exc 1 h
theorem run_require_deps (h0 : P.lookup 0 = some d_is_integer) (h1 : P.lookup 1 = some d_is_rising) (h2 : P.lookup 2 = some d_are_columns) (h3 : P.lookup 3 = some d_is_valid_dependency) (h4 : P.lookup 4 = some d_are_valid_dependencies) (h5 : P.lookup 5 = some d_require_width)
    (h19 : P.lookup 19 = some d_require_dependencies) (c r : PyData) (hl : lenOk2 r) (h : HP) :
    Runs P fw 5 19 [.dat c, .dat r] h (reqR c r h) := by
  unfold reqR
  refine Runs.start (K := 4) (ρ := [some (.dat c), some (.dat r)]) h19 rfl rfl rfl fun k hk => ?_
  simp [d_require_dependencies, run_require_width h0 h5 c h k (by omega)]
  cases c with
  | int w =>
    simp [run_are_valid h0 h1 h2 h3 h4 w r hl h k hk]
    cases isIntB (.int w) 1 6 <;> cases depsB w r <;> simp
  | _ => simp [isIntB]
/-- valid rules -/
structure GoodR (w : Int) (rs : List Rule) : Prop where
  cols : ∀ r ∈ rs, GoodC w r.1 ∧ GoodC w r.2 ∧ r.2 ≠ []
  rise : RisE rs
  few : rs.length ≤ 8
theorem deps_good {w : Int} {rs : List Rule} (g : GoodR w rs) : depsB w (enc rs) = true := by
  show (decide ((rs.map enc).length ≤ 8) && ((rs.map enc).all (validB w) && riseB ((rs.map enc).map decR))) = true
  have e : (rs.map (enc : Rule → PyData)).map decR = rs := by
    rw [List.map_map]
    conv => rhs; rw [← List.map_id rs]
    exact List.map_congr_left fun r _ => decR_enc r
  rw [e, (riseB_iff rs).mpr g.rise, List.length_map, decide_eq_true g.few, Bool.true_and, Bool.and_true, List.all_eq_true]
  intro d md
  obtain ⟨r, mr, rfl⟩ := List.mem_map.mp md
  obtain ⟨c1, c2, c3⟩ := g.cols r mr
  show (areColsB w (enc r.1) && areColsB w (enc r.2) && !isUnit (enc r.2)) = true
  rw [areCols_good c1, areCols_good c2]
  cases e : r.2 with
  | nil => exact absurd e c3
  | cons x l => rfl
theorem deps_enc {w : Int} {d : PyData} (h : depsB w d = true) : ∃ rs, d = enc rs ∧ GoodR w rs := by
  cases d with
  | tuple xs =>
    have h' : (decide (xs.length ≤ 8) && (xs.all (validB w) && riseB (xs.map decR))) = true := h
    simp only [Bool.and_eq_true, decide_eq_true_eq] at h'
    obtain ⟨e, hr⟩ := rules_all h'.2.1
    exact ⟨xs.map decR, by rw [enc_list, ← e], hr, (riseB_iff _).mp h'.2.2, by rw [List.length_map]; exact h'.1⟩
  | _ => exact nomatch (show false = true from h)
/-- a part of -/
def partB (xs ys : Cols) : Bool := xs.all fun x => decide (x ∈ ys)
theorem partB_iff {xs ys : Cols} : partB xs ys = true ↔ ∀ x ∈ xs, x ∈ ys := by
  unfold partB
  rw [List.all_eq_true]
  exact ⟨fun h x m => of_decide_eq_true (h x m), fun h x m => decide_eq_true (h x m)⟩
theorem run_is_part (hP : P.lookup 22 = some d_is_part) (xs ys : Cols) (h : HP) (v : Vl) (hv : datOf h v = some (.list (ys.map enc)) ∨ datOf h v = some (.tuple (ys.map enc))) : Runs P fw 1 22 [.dat (enc xs), v] h (okB (partB xs ys) h) := by
  refine Runs.start (K := 0) (ρ := [some (.dat (.tuple (xs.map enc))), some v, none]) hP rfl rfl rfl fun k _ => ?_
  have hv' : ∀ x : Int, ((dat1 h (.v v)).bind fun e => (cmpD .isin (enc x) e).map fun b => RV.v (.dat (.bool b))) = some (.v (.dat (.bool (decide (x ∈ ys))))) := fun x => by
    show ((datOf h v).bind _) = _
    rcases hv with e | e
    · rw [e, Option.bind_some, cmp_in_list (by decide)]; rfl
    · rw [e, Option.bind_some, cmp_in_tup (by decide)]; rfl
  simp [d_is_part]
  rw [comp_map (g := enc) (f := fun x : Int => .bool (decide (x ∈ ys))) (fun x _ => by simp [hv' x])]
  simp only [noExc_ok, Res.bind_ok, dat1_new, Option.bind_some, all_bools, ofOpt_some]
  simp [partB]
end
end TB
set_option maxHeartbeats 4000000
namespace TB
open PySem
open Enc (enc)
/-! ### what a law draws -/
def d_law_draw : Def := ⟨"_law_draw", ["script", "state", "many", "k", "cell", "digits", "number", "more"], 3, (.cons (.ite (.not (.var 1)) (.cons (.exp (.meth .append (.var 1) (.b1 .max (.bin .add (.comp (.b1 .abs (.var 4)) (.name 4) (.seq (.var 0)) .none [4]) (.lst (.cons (.cst (.int 0)) .nil)))))) .nil) .nil) (.cons (.exp (.meth .append (.var 1) (.cst (.int 0)))) (.cons (.put 3 false (.b1 .len (.var 1))) (.cons (.put 4 false (.ite (.var 0) (.idx (.var 0) (.bin .mod (.var 3) (.b1 .len (.var 0)))) (.cst (.int 0)))) (.cons (.put 5 false (.bin .mod (.idx (.var 1) (.cst (.int 0))) (.cst (.int 65536)))) (.cons (.setIx (.var 1) (.cst (.int 0)) (.bin .fdiv (.idx (.var 1) (.cst (.int 0))) (.cst (.int 65536)))) (.cons (.put 6 false (.bin .mod (.bin .add (.bin .add (.var 4) (.bin .mul (.cst (.int 40503)) (.var 5))) (.bin .mul (.cst (.int 104729)) (.var 3))) (.cst (.int 4294967291)))) (.cons (.put 6 false (.bin .mod (.bin .mul (.bin .mod (.bin .mul (.var 6) (.var 6)) (.cst (.int 4294967279))) (.cst (.int 48271))) (.cst (.int 4294967291)))) (.cons (.put 7 false (.bin .mod (.bin .mul (.bin .mod (.bin .mul (.var 6) (.var 6)) (.cst (.int 4294967279))) (.cst (.int 69621))) (.cst (.int 4294967291)))) (.cons (.ret (.bin .mod (.bin .add (.bin .mul (.bin .fdiv (.var 6) (.cst (.int 64))) (.cst (.int 67108864))) (.bin .fdiv (.var 7) (.cst (.int 64)))) (.var 2))) .nil))))))))))⟩
def d_law_columns : Def := ⟨"_law_columns", ["script", "state", "width", "few", "found", "column"], 4, (.cons (.put 4 false (.comp (.var 5) (.name 5) (.range (.var 2)) (.some (.cmp .lt (.call 8 (.cons (.var 0) (.cons (.var 1) (.cons (.cst (.int 5)) .nil)))) (.cst (.int 2)))) [5])) (.cons (.ite (.cmp .lt (.b1 .len (.var 4)) (.var 3)) (.cons (.put 4 false (.lst (.cons (.call 8 (.cons (.var 0) (.cons (.var 1) (.cons (.var 2) .nil)))) .nil))) .nil) .nil) (.cons (.ret (.b1 .tuple (.var 4))) .nil)))⟩
def d_law_rules : Def := ⟨"_law_rules", ["script", "state", "width", "most", "found", "step", "left"], 4, (.cons (.put 4 true (.lst .nil)) (.cons (.loop (.name 5) (.range (.call 8 (.cons (.var 0) (.cons (.var 1) (.cons (.bin .add (.var 3) (.cst (.int 1))) .nil))))) (.cons (.put 6 false (.call 11 (.cons (.var 0) (.cons (.var 1) (.cons (.var 2) (.cons (.cst (.int 0)) .nil)))))) (.cons (.exp (.meth .append (.var 4) (.tup (.cons (.var 6) (.cons (.call 11 (.cons (.var 0) (.cons (.var 1) (.cons (.var 2) (.cons (.cst (.int 1)) .nil))))) .nil))))) .nil))) (.cons (.ret (.b1 .tuple (.sortedSet (.cons (.many .int) (.cons (.many .int) .nil)) (.var 4)))) .nil)))⟩
theorem mod_int (a b : Int) (h : 0 < b) : binD .mod (.int a) (.int b) = some (.v (.dat (.int (a % b)))) := if_pos h
theorem fdiv_int (a b : Int) (h : 0 < b ∧ b < 1073741824) : binD .fdiv (.int a) (.int b) = some (.v (.dat (.int (a / b)))) := if_pos h
theorem mul_int (a b : Int) (h : -(2 ^ 64) < a ∧ a < 2 ^ 64) : binD .mul (.int a) (.int b) = some (.v (.dat (.int (a * b)))) := if_pos h
/-- the number drawn, from the k-th state -/
def drawN (cell s0 : Int) (k : Int) (many : Int) : Int :=
  let number := (cell + 40503 * (s0 % 65536) + 104729 * k) % 4294967291
  let number := number * number % 4294967279 * 48271 % 4294967291
  let more := number * number % 4294967279 * 69621 % 4294967291
  (number / 64 * 67108864 + more / 64) % many
def drawB : CSs := .cons (.exp (.meth .append (.var 1) (.cst (.int 0)))) (.cons (.put 3 false (.b1 .len (.var 1))) (.cons (.put 4 false (.ite (.var 0) (.idx (.var 0) (.bin .mod (.var 3) (.b1 .len (.var 0)))) (.cst (.int 0)))) (.cons (.put 5 false (.bin .mod (.idx (.var 1) (.cst (.int 0))) (.cst (.int 65536)))) (.cons (.setIx (.var 1) (.cst (.int 0)) (.bin .fdiv (.idx (.var 1) (.cst (.int 0))) (.cst (.int 65536)))) (.cons (.put 6 false (.bin .mod (.bin .add (.bin .add (.var 4) (.bin .mul (.cst (.int 40503)) (.var 5))) (.bin .mul (.cst (.int 104729)) (.var 3))) (.cst (.int 4294967291)))) (.cons (.put 6 false (.bin .mod (.bin .mul (.bin .mod (.bin .mul (.var 6) (.var 6)) (.cst (.int 4294967279))) (.cst (.int 48271))) (.cst (.int 4294967291)))) (.cons (.put 7 false (.bin .mod (.bin .mul (.bin .mod (.bin .mul (.var 6) (.var 6)) (.cst (.int 4294967279))) (.cst (.int 69621))) (.cst (.int 4294967291)))) (.cons (.ret (.bin .mod (.bin .add (.bin .mul (.bin .fdiv (.var 6) (.cst (.int 64))) (.cst (.int 67108864))) (.bin .fdiv (.var 7) (.cst (.int 64)))) (.var 2))) .nil))))))))
@[simp] theorem put_get {h : HP} {n : Nat} {xs : List PyData} (hn : n < h.length) : (h.set n xs)[n]? = some xs := by
  rw [List.getElem?_set_self hn]
theorem append_loc {h : HP} {n : Nat} {xs : List PyData} (hn : h[n]? = some xs) (hl : xs.length < LIM) (d : PyData) : methD .append h n (.v (.dat d)) = some (h.set n (xs ++ [d])) := by
  unfold methD
  simp only [hn, Option.bind_some, asD_dat, if_pos hl]
theorem append_new {h : HP} {n : Nat} {xs : List PyData} (hn : h[n]? = some xs) (hl : xs.length < LIM) (ds : List PyData) : methD .append h n (.new ds) = some (h.set n (xs ++ [.list ds])) := by
  unfold methD
  simp only [hn, Option.bind_some, asD_new, if_pos hl]
theorem idx_zero (x : PyData) (xs : List PyData) : idxD (.list (x :: xs)) (.int 0) = some x := by
  simp [idxD, ixOf]
theorem idx_nat (xs : List PyData) (i : Int) (h0 : 0 ≤ i) (h1 : i < xs.length) : idxD (.list xs) (.int i) = xs[i.toNat]? := by
  simp [idxD, ixOf, h0, h1]
theorem idx_natT (xs : List PyData) (i : Int) (h0 : 0 ≤ i) (h1 : i < xs.length) : idxD (.tuple xs) (.int i) = xs[i.toNat]? := by
  simp [idxD, ixOf, h0, h1]
theorem draw_rest {call : CallF} {fw : Nat} {ns : List Int} {h : HP} {n : Nat} {s0 : Int} {st : List Int} {many : Int} (hn : h[n]? = some ((s0 :: st).map .int)) (hl : st.length + 1 < LIM) (hm : 0 < many) (o : Option Vl) (o4 : Option Vl) :
    ∃ (v : Int) (st' : List Int), 0 ≤ v ∧ v < many ∧ st'.length = st.length + 2 ∧ exs call fw drawB [some (.dat (.list (ns.map .int))), some (.loc n), some (.dat (.int many)), none, o4, none, none, o] h = .ok (.ret (.v (.dat (.int v)))) (h.set n (st'.map .int)) := by
  have hlt : n < h.length := (List.getElem?_eq_some_iff.mp hn).1
  have ha := append_loc hn (by simpa using hl) (.int 0)
  rw [show List.map PyData.int (s0 :: st) ++ [.int 0] = (s0 :: (st ++ [0])).map .int by simp] at ha
  have hn2 : (h.set n ((s0 :: (st ++ [0])).map .int))[n]? = some ((s0 :: (st ++ [0])).map .int) := put_get hlt
  have hc : ∃ cell : Int, (if (!(List.isEmpty (ns.map PyData.int))) = true then ofOpt (Option.map (fun z => RV.v (Vl.dat z)) (idxD (.list (ns.map PyData.int)) (.int (((st.length : Int) + 1 + 1) % (ns.length : Int))))) (h.set n ((s0 :: (st ++ [0])).map .int)) else .ok (.v (.dat (.int 0))) (h.set n ((s0 :: (st ++ [0])).map .int))) = .ok (.v (.dat (.int cell))) (h.set n ((s0 :: (st ++ [0])).map .int)) := by
    cases ns with
    | nil => exact ⟨0, rfl⟩
    | cons z zs =>
      have h0 : (0 : Int) < ((z :: zs).length : Int) := by simp
      have h1 := Int.emod_nonneg ((st.length : Int) + 1 + 1) (Int.ne_of_gt h0)
      have h2 := Int.emod_lt_of_pos ((st.length : Int) + 1 + 1) h0
      have hi : (((st.length : Int) + 1 + 1) % ((z :: zs).length : Int)).toNat < (z :: zs).length := by omega
      refine ⟨(z :: zs)[(((st.length : Int) + 1 + 1) % ((z :: zs).length : Int)).toNat], ?_⟩
      rw [idx_nat _ _ h1 (by rw [List.length_map]; exact h2), List.getElem?_map, List.getElem?_eq_getElem hi]
      rfl
  obtain ⟨cell, hcell⟩ := hc
  have hdv : setD (h.set n ((s0 :: (st ++ [0])).map .int)) (.v (.loc n)) (.v (.dat (.int 0))) (.int (s0 / 65536)) = some (h.set n (((s0 / 65536) :: (st ++ [0])).map .int)) := by
    unfold setD
    simp only [locOf_loc, Option.bind_some, hn2, dat1_dat, intOf_int, setAt, List.length_map]
    simp [ixOf, List.set_set]
    omega
  have nn : ∀ a b : Int, 0 < b → -(2 ^ 64) < a % b ∧ (b ≤ 2 ^ 64 → a % b < 2 ^ 64) := fun a b hb => by
    have := Int.emod_nonneg a (Int.ne_of_gt hb)
    have h2 := Int.emod_lt_of_pos a hb
    exact ⟨by omega, fun z => by omega⟩
  generalize hN1 : (cell + 40503 * (s0 % 65536) + 104729 * ((st.length : Int) + 1 + 1)) % 4294967291 = N1
  have r1 : 0 ≤ N1 ∧ N1 < 4294967291 := by rw [← hN1]; exact ⟨Int.emod_nonneg _ (by decide), Int.emod_lt_of_pos _ (by decide)⟩
  generalize hN2 : N1 * N1 % 4294967279 * 48271 % 4294967291 = N2
  have r2 : 0 ≤ N2 ∧ N2 < 4294967291 := by rw [← hN2]; exact ⟨Int.emod_nonneg _ (by decide), Int.emod_lt_of_pos _ (by decide)⟩
  generalize hN3 : N2 * N2 % 4294967279 * 69621 % 4294967291 = N3
  have r3 : 0 ≤ N3 ∧ N3 < 4294967291 := by rw [← hN3]; exact ⟨Int.emod_nonneg _ (by decide), Int.emod_lt_of_pos _ (by decide)⟩
  have m1 : 0 ≤ N1 * N1 % 4294967279 ∧ N1 * N1 % 4294967279 < 4294967279 := ⟨Int.emod_nonneg _ (by decide), Int.emod_lt_of_pos _ (by decide)⟩
  have m2 : 0 ≤ N2 * N2 % 4294967279 ∧ N2 * N2 % 4294967279 < 4294967279 := ⟨Int.emod_nonneg _ (by decide), Int.emod_lt_of_pos _ (by decide)⟩
  have d2 : 0 ≤ N2 / 64 ∧ N2 / 64 < 4294967291 := by omega
  refine ⟨(N2 / 64 * 67108864 + N3 / 64) % many, (s0 / 65536) :: (st ++ [0]), Int.emod_nonneg _ (Int.ne_of_gt hm), Int.emod_lt_of_pos _ hm, by simp, ?_⟩
  have t1 : ∀ ρ : EV, getV ρ 1 = some (.loc n) → ex call fw (.exp (.meth .append (.var 1) (.cst (.int 0)))) ρ h = .ok (.next ρ) (h.set n ((s0 :: (st ++ [0])).map .int)) := fun ρ e => by
    simp only [ex_exp, ev_meth, ev_var, e, Option.map_some, ofOpt_some, Res.bind_ok, locOf_loc, ev_cst, ha]
  unfold drawB
  rw [exs_cons', t1 _ rfl, andThen_next]
  have t2 : ∀ ρ : EV, getV ρ 1 = some (.loc n) → 3 < ρ.length → ex call fw (.put 3 false (.b1 .len (.var 1))) ρ (h.set n ((s0 :: (st ++ [0])).map .int)) = .ok (.next (ρ.set 3 (some (.dat (.int ((st.length : Int) + 1 + 1)))))) (h.set n ((s0 :: (st ++ [0])).map .int)) := fun ρ e l => by
    simp only [ex_put, ev_b1, ev_var, e, Option.map_some, ofOpt_some, Res.bind_ok, dat1_loc, hn2, Option.bind_some, len_list, putS_dat, if_pos l]
    simp
  rw [exs_cons', t2 _ rfl (by simp), andThen_next]
  have t3 : ∀ ρ : EV, getV ρ 0 = some (.dat (.list (ns.map .int))) → getV ρ 3 = some (.dat (.int ((st.length : Int) + 1 + 1))) → 4 < ρ.length → ex call fw (.put 4 false (.ite (.var 0) (.idx (.var 0) (.bin .mod (.var 3) (.b1 .len (.var 0)))) (.cst (.int 0)))) ρ (h.set n ((s0 :: (st ++ [0])).map .int)) = .ok (.next (ρ.set 4 (some (.dat (.int cell))))) (h.set n ((s0 :: (st ++ [0])).map .int)) := fun ρ e e3 l => by
    simp only [ex_put, ev_ite, ev_idx, ev_bin, ev_b1, ev_var, e, e3, Option.map_some, ofOpt_some, Res.bind_ok, dat1_dat, Option.bind_some, len_list, truth_list, ev_cst, List.length_map]
    cases hns : ns with
    | nil =>
      rw [hns] at hcell
      have : cell = 0 := by
        have z : Res.ok (RV.v (Vl.dat (.int 0))) (h.set n ((s0 :: (st ++ [0])).map .int)) = Res.ok (RV.v (Vl.dat (.int cell))) (h.set n ((s0 :: (st ++ [0])).map .int)) := hcell
        simp only [Res.ok.injEq, RV.v.injEq, Vl.dat.injEq, PyData.int.injEq, and_true] at z
        exact z.symm
      subst this
      simp [l]
    | cons z zs =>
      rw [hns] at hcell
      have hp : (0 : Int) < ((z :: zs).length : Int) := by simp
      rw [mod_int _ _ hp]
      simp only [ofOpt_some, Res.bind_ok, dat1_dat, Option.bind_some]
      rw [hcell]
      simp [l]
  rw [exs_cons', t3 _ rfl rfl (by simp), andThen_next]
  simp only [List.set_cons_succ, List.set_cons_zero]
  have g0 : ∀ hh : HP, hh[n]? = some ((s0 :: (st ++ [0])).map .int) → ((dat1 hh (.v (.loc n))).bind fun d => (dat1 hh (.v (.dat (.int 0)))).bind fun e => (idxD d e).map fun z => RV.v (.dat z)) = some (.v (.dat (.int s0))) := fun hh e => by
    simp only [dat1_loc, e, Option.map_some, Option.bind_some, dat1_dat, List.map_cons, idx_zero]
  have t4 : ∀ ρ : EV, getV ρ 1 = some (.loc n) → 5 < ρ.length → ex call fw (.put 5 false (.bin .mod (.idx (.var 1) (.cst (.int 0))) (.cst (.int 65536)))) ρ (h.set n ((s0 :: (st ++ [0])).map .int)) = .ok (.next (ρ.set 5 (some (.dat (.int (s0 % 65536)))))) (h.set n ((s0 :: (st ++ [0])).map .int)) := fun ρ e l => by
    have e1 : ev call (.idx (.var 1) (.cst (.int 0))) ρ (h.set n ((s0 :: (st ++ [0])).map .int)) = .ok (.v (.dat (.int s0))) (h.set n ((s0 :: (st ++ [0])).map .int)) := by
      simp only [ev_idx, ev_var, ev_cst, e, Option.map_some, ofOpt_some, Res.bind_ok]
      rw [g0 _ hn2]
      rfl
    simp only [ex_put, ev_bin, e1, ev_cst, Res.bind_ok, dat1_dat, Option.bind_some, mod_int _ _ (show (0:Int) < 65536 by decide), ofOpt_some, putS_dat, if_pos l]
  rw [exs_cons', t4 _ rfl (by simp), andThen_next]
  have t5 : ∀ ρ : EV, getV ρ 1 = some (.loc n) → ex call fw (.setIx (.var 1) (.cst (.int 0)) (.bin .fdiv (.idx (.var 1) (.cst (.int 0))) (.cst (.int 65536)))) ρ (h.set n ((s0 :: (st ++ [0])).map .int)) = .ok (.next ρ) (h.set n (((s0 / 65536) :: (st ++ [0])).map .int)) := fun ρ e => by
    have e1 : ev call (.idx (.var 1) (.cst (.int 0))) ρ (h.set n ((s0 :: (st ++ [0])).map .int)) = .ok (.v (.dat (.int s0))) (h.set n ((s0 :: (st ++ [0])).map .int)) := by
      simp only [ev_idx, ev_var, ev_cst, e, Option.map_some, ofOpt_some, Res.bind_ok]
      rw [g0 _ hn2]
      rfl
    simp only [ex_setIx, ev_bin, e1, ev_cst, Res.bind_ok, dat1_dat, Option.bind_some, fdiv_int _ _ (show (0:Int) < 65536 ∧ (65536:Int) < 1073741824 by decide), ofOpt_some, asD_dat, ev_var, e, Option.map_some, hdv]
  rw [exs_cons', t5 _ rfl, andThen_next]
  simp only [List.set_cons_succ, List.set_cons_zero]
  have q1 := mul_int N1 N1 (by omega)
  have q2 := mul_int (N1 * N1 % 4294967279) 48271 (by omega)
  have q3 := mul_int N2 N2 (by omega)
  have q4 := mul_int (N2 * N2 % 4294967279) 69621 (by omega)
  have q5 := mul_int (N2 / 64) 67108864 (by omega)
  simp [mul_int, mod_int, fdiv_int, hN1, hN2, hN3, q1, q2, q3, q4, q5, hm]
/-- how a law's state lies: at place n, ints, not many -/
def Stt (h : HP) (n b : Nat) : Prop := ∃ st : List Int, h[n]? = some (st.map .int) ∧ st.length ≤ b
theorem absL (ns : List Int) : ∃ m : Int, b1D .max (.list ((ns.map fun i => PyData.int (if i < 0 then -i else i)) ++ [.int 0])) = some (.v (.dat (.int m))) := by
  have e : (ns.map fun i => PyData.int (if i < 0 then -i else i)) ++ [.int 0] = ((ns.map fun i => if i < 0 then -i else i) ++ [0]).map .int := by simp
  rw [e]
  show ∃ m : Int, ((intsOf (((ns.map fun i => if i < 0 then -i else i) ++ [0]).map .int)).bind fun is => match is with | [] => none | i :: is => some (RV.v (.dat (.int (maxL i is))))) = _
  rw [intsOf_map]
  cases ns with
  | nil => exact ⟨_, rfl⟩
  | cons z zs => exact ⟨_, rfl⟩
theorem run_draw {P : Prog} {fw k : Nat} (hk : 1 ≤ k) (h8 : P.lookup 8 = some d_law_draw) {ns : List Int} (hns : ns.length ≤ 63) {h : HP} {n b : Nat} (hs : Stt h n b) (hb : b + 2 < LIM) {many : Int} (hm : 0 < many) :
    ∃ (v : Int) (st : List Int), 0 ≤ v ∧ v < many ∧ st.length ≤ b + 2 ∧ run P fw k 8 [.dat (.list (ns.map .int)), .loc n, .dat (.int many)] h = .ok (.v (.dat (.int v))) (h.set n (st.map .int)) := by
  obtain ⟨st, hn, hl⟩ := hs
  have hlt : n < h.length := (List.getElem?_eq_some_iff.mp hn).1
  obtain ⟨m, hmax⟩ := absL ns
  rw [run_at (ρ := [some (.dat (.list (ns.map .int))), some (.loc n), some (.dat (.int many)), none, none, none, none, none]) hk h8 rfl rfl rfl]
  have hbody : d_law_draw.body = .cons (.ite (.not (.var 1)) (.cons (.exp (.meth .append (.var 1) (.b1 .max (.bin .add (.comp (.b1 .abs (.var 4)) (.name 4) (.seq (.var 0)) .none [4]) (.lst (.cons (.cst (.int 0)) .nil)))))) .nil) .nil) drawB := rfl
  rw [hbody, exs_cons']
  cases st with
  | nil =>
    have ha := append_loc (h := h) (n := n) (xs := []) hn (by decide) (.int m)
    have hadd : binD .add (.list (ns.map fun i => PyData.int (if i < 0 then -i else i))) (.list [.int 0]) = some (.new ((ns.map fun i => PyData.int (if i < 0 then -i else i)) ++ [.int 0])) := if_pos (by
      simp only [List.length_map, List.length_cons, List.length_nil]
      have : (64 : Nat) ≤ LIM := by decide
      omega)
    have e1 : ex (run P fw (k - 1)) fw (.ite (.not (.var 1)) (.cons (.exp (.meth .append (.var 1) (.b1 .max (.bin .add (.comp (.b1 .abs (.var 4)) (.name 4) (.seq (.var 0)) .none [4]) (.lst (.cons (.cst (.int 0)) .nil)))))) .nil) .nil) [some (.dat (.list (ns.map .int))), some (.loc n), some (.dat (.int many)), none, none, none, none, none] h = .ok (.next [some (.dat (.list (ns.map .int))), some (.loc n), some (.dat (.int many)), none, none, none, none, none]) (h.set n [.int m]) := by
      simp [hn]
      rw [comp_map (f := fun i : Int => PyData.int (if i < 0 then -i else i)) (fun i _ => by simp [b1D])]
      simp only [noExc_ok, Res.bind_ok, dat1_new, Option.bind_some, hadd, ofOpt_some, hmax]
      simp at ha
      simp [ha]
    rw [e1, andThen_next]
    have hn' : (h.set n [PyData.int m])[n]? = some (([m] : List Int).map .int) := put_get hlt
    obtain ⟨v, st', v0, v1, l1, e⟩ := draw_rest (call := run P fw (k - 1)) (fw := fw) (ns := ns) (s0 := m) (st := []) hn' (by decide) hm none none
    refine ⟨v, st', v0, v1, ?_, ?_⟩
    · rw [l1]; simp
    · rw [e]
      simp [List.take_of_length_le]
  | cons s0 st =>
    have e1 : ex (run P fw (k - 1)) fw (.ite (.not (.var 1)) (.cons (.exp (.meth .append (.var 1) (.b1 .max (.bin .add (.comp (.b1 .abs (.var 4)) (.name 4) (.seq (.var 0)) .none [4]) (.lst (.cons (.cst (.int 0)) .nil)))))) .nil) .nil) [some (.dat (.list (ns.map .int))), some (.loc n), some (.dat (.int many)), none, none, none, none, none] h = .ok (.next [some (.dat (.list (ns.map .int))), some (.loc n), some (.dat (.int many)), none, none, none, none, none]) h := by
      simp [hn]
    rw [e1, andThen_next]
    simp only [List.length_cons] at hl
    obtain ⟨v, st', v0, v1, l1, e⟩ := draw_rest (call := run P fw (k - 1)) (fw := fw) (ns := ns) (s0 := s0) (st := st) hn (by omega) hm none none
    refine ⟨v, st', v0, v1, ?_, ?_⟩
    · rw [l1]; omega
    · rw [e]
      simp [List.take_of_length_le]
/-- a comprehension whose turns change the heap -/
theorem comp_inv {α : Type} {g : α → PyData} {turn : PyData → HP → Res (Option PyData)} {f : α → PyData} (I : Nat → HP → Prop) : ∀ (xs : List α) (i : Nat) (h : HP) (acc : List PyData),
    (∀ (j : Nat) (x : α) (h : HP), xs[j]? = some x → I (i + j) h → ∃ (b : Bool) (h' : HP), turn (g x) h = .ok (if b then some (f x) else none) h' ∧ I (i + j + 1) h') → I i h →
    ∃ (ys : List α) (h' : HP), ys.Sublist xs ∧ compL turn (xs.map g) acc h = .ok (acc.reverse ++ ys.map f) h' ∧ I (i + xs.length) h'
  | [], i, h, acc, _, hi => ⟨[], h, List.Sublist.refl _, by simp [compL], hi⟩
  | x :: xs, i, h, acc, ht, hi => by
    obtain ⟨b, h1, e1, i1⟩ := ht 0 x h rfl hi
    obtain ⟨ys, h2, s2, e2, i2⟩ := comp_inv I xs (i + 1) h1 (match (if b then some (f x) else none : Option PyData) with | some y => y :: acc | none => acc) (fun j y h hj hI => by
      have := ht (j + 1) y h (by simpa using hj) (by rw [show i + (j + 1) = i + 1 + j by omega]; exact hI)
      rw [show i + (j + 1) + 1 = i + 1 + j + 1 by omega] at this
      exact this) i1
    refine ⟨if b then x :: ys else ys, h2, ?_, ?_, by rw [List.length_cons, show i + (xs.length + 1) = i + 1 + xs.length by omega]; exact i2⟩
    · cases b
      · exact s2.cons x
      · exact s2.cons_cons x
    · show (turn (g x) h).bind _ = _
      rw [e1, Res.bind_ok]
      cases b <;> simpa using e2
theorem for_inv {α : Type} {g : α → PyData} {body : PyData → EV → HP → Res Fl} (I : Nat → EV → HP → Prop) : ∀ (xs : List α) (i : Nat) (ρ : EV) (h : HP),
    (∀ (j : Nat) (x : α) (ρ : EV) (h : HP), xs[j]? = some x → I (i + j) ρ h → ∃ (ρ' : EV) (h' : HP), body (g x) ρ h = .ok (.next ρ') h' ∧ I (i + j + 1) ρ' h') → I i ρ h →
    ∃ (ρ' : EV) (h' : HP), forL body (xs.map g) ρ h = .ok (.next ρ') h' ∧ I (i + xs.length) ρ' h'
  | [], i, ρ, h, _, hi => ⟨ρ, h, rfl, hi⟩
  | x :: xs, i, ρ, h, ht, hi => by
    obtain ⟨ρ1, h1, e1, i1⟩ := ht 0 x ρ h rfl hi
    obtain ⟨ρ2, h2, e2, i2⟩ := for_inv I xs (i + 1) ρ1 h1 (fun j y ρ h hj hI => by
      have := ht (j + 1) y ρ h (by simpa using hj) (by rw [show i + (j + 1) = i + 1 + j by omega]; exact hI)
      rw [show i + (j + 1) + 1 = i + 1 + j + 1 by omega] at this
      exact this) i1
    refine ⟨ρ2, h2, ?_, by rw [List.length_cons, show i + (xs.length + 1) = i + 1 + xs.length by omega]; exact i2⟩
    show (body (g x) ρ h).bind _ = _
    rw [e1, Res.bind_ok]
    exact e2
/-- the heap h0, but for the law's state at n: ints, at most b -/
def St (h0 : HP) (n b : Nat) (h : HP) : Prop := n < h0.length ∧ ∃ st : List Int, h = h0.set n (st.map .int) ∧ st.length ≤ b
theorem St.len {h0 h : HP} {n b : Nat} (s : St h0 n b h) : h.length = h0.length := by
  obtain ⟨_, st, rfl, _⟩ := s
  simp
theorem St.mono {h0 h : HP} {n b c : Nat} (s : St h0 n b h) (hb : b ≤ c) : St h0 n c h := by
  obtain ⟨l, st, e, hl⟩ := s
  exact ⟨l, st, e, by omega⟩
/-- from one heap on to the next -/
theorem St.trans {h0 h1 h2 : HP} {n b c : Nat} (s : St h0 n b h1) (t : St h1 n c h2) : St h0 n c h2 := by
  obtain ⟨l, st, rfl, hl⟩ := s
  obtain ⟨l2, st2, rfl, hl2⟩ := t
  exact ⟨l, st2, by rw [List.set_set], hl2⟩
theorem draw {P : Prog} {fw k : Nat} (hk : 1 ≤ k) (h8 : P.lookup 8 = some d_law_draw) {ns : List Int} (hns : ns.length ≤ 63) {h0 h : HP} {n b : Nat} (hs : St h0 n b h) (hb : b + 2 < LIM) {many : Int} (hm : 0 < many) :
    ∃ (v : Int) (h' : HP), 0 ≤ v ∧ v < many ∧ St h0 n (b + 2) h' ∧ run P fw k 8 [.dat (.list (ns.map .int)), .loc n, .dat (.int many)] h = .ok (.v (.dat (.int v))) h' := by
  obtain ⟨hl, st, rfl, hst⟩ := hs
  obtain ⟨v, st', v0, v1, l1, e⟩ := run_draw (fw := fw) hk h8 hns (h := h0.set n (st.map .int)) (n := n) (b := b) ⟨st, put_get hl, hst⟩ hb hm
  exact ⟨v, _, v0, v1, ⟨hl, st', by rw [List.set_set], l1⟩, e⟩
/-- 0, 1, .. -/
def upTo (w : Nat) : List Int := (List.range w).map fun (k : Nat) => (k : Int)
theorem mem_upTo {w : Nat} {x : Int} : x ∈ upTo w ↔ 0 ≤ x ∧ x < w := by
  unfold upTo
  rw [List.mem_map]
  constructor
  · rintro ⟨k, m, rfl⟩
    have := List.mem_range.mp m
    omega
  · rintro ⟨h1, h2⟩
    exact ⟨x.toNat, List.mem_range.mpr (by omega), by omega⟩
theorem upTo_rise (w : Nat) : RisE (upTo w) := by
  unfold upTo RisE
  rw [List.pairwise_map]
  refine List.pairwise_lt_range.imp fun h => ?_
  rw [ltE_int]
  exact decide_eq_true (by omega)
theorem rangeD_upTo (w : Nat) : rangeD 0 (w : Int) = (upTo w).map enc := by
  unfold rangeD upTo
  rw [List.map_map]
  simp only [Int.sub_zero, Int.toNat_natCast]
  refine List.map_congr_left fun k _ => ?_
  show PyData.int (0 + (k : Int)) = .int k
  rw [Int.zero_add]
theorem small_nat {w : Nat} (h : w ≤ 1000) : smallI (w : Int) = true := decide_eq_true (by omega)
theorem draw_columns {P : Prog} {fw k : Nat} (hk : 2 ≤ k) (h8 : P.lookup 8 = some d_law_draw) (h11 : P.lookup 11 = some d_law_columns) {ns : List Int} (hns : ns.length ≤ 63) {h0 h : HP} {n b : Nat} {w : Nat} (hw : 1 ≤ w ∧ w ≤ 64) (hs : St h0 n b h) (hb : b + 2 * w + 2 < LIM) {few : Int} (hf : few ≤ 1) :
    ∃ (c : Cols) (h' : HP), GoodC w c ∧ few ≤ c.length ∧ St h0 n (b + (2 * w + 2)) h' ∧ run P fw k 11 [.dat (.list (ns.map .int)), .loc n, .dat (.int w), .dat (.int few)] h = .ok (.v (.dat (enc c))) h' := by
  rw [run_at (ρ := [some (.dat (.list (ns.map .int))), some (.loc n), some (.dat (.int w)), some (.dat (.int few)), none, none]) (by omega) h11 rfl rfl rfl]
  obtain ⟨ys, h1, s1, e1, i1⟩ := comp_inv (g := enc) (f := enc) (turn := fun x h => (ofOpt (bindT (.name 5) x [some (.dat (.list (ns.map .int))), some (.loc n), some (.dat (.int w)), some (.dat (.int few)), none, none]) h).bind fun ρ' h => (evC (run P fw (k - 1)) (.some (.cmp .lt (.call 8 (.cons (.var 0) (.cons (.var 1) (.cons (.cst (.int 5)) .nil)))) (.cst (.int 2)))) ρ' h).bind fun t h =>
        if t then (ev (run P fw (k - 1)) (.var 5) ρ' h).bind fun y h => ofOpt ((asD y).map some) h else .ok none h) (fun i h' => St h0 n (b + 2 * i) h') (upTo w) 0 h [] (fun j x h' hj hI => by
    have hjw : j < w := by
      have := (List.getElem?_eq_some_iff.mp hj).1
      simpa [upTo] using this
    obtain ⟨v, h2, v0, v1, s2, e⟩ := draw (fw := fw) (k := k - 1) (by omega) h8 hns hI (by omega) (many := 5) (by decide)
    refine ⟨decide (v < 2), h2, ?_, by rw [show b + 2 * (0 + j + 1) = b + 2 * (0 + j) + 2 by omega]; exact s2⟩
    simp [e]
    split <;> rfl) (by simpa using hs)
  simp only [List.reverse_nil, List.nil_append, Nat.zero_add] at e1 i1
  have l1 : (upTo w).length = w := by simp [upTo]
  rw [l1] at i1
  have cmp1 : ex (run P fw (k - 1)) fw (.put 4 false (.comp (.var 5) (.name 5) (.range (.var 2)) (.some (.cmp .lt (.call 8 (.cons (.var 0) (.cons (.var 1) (.cons (.cst (.int 5)) .nil)))) (.cst (.int 2)))) [5])) [some (.dat (.list (ns.map .int))), some (.loc n), some (.dat (.int w)), some (.dat (.int few)), none, none] h = .ok (.next [some (.dat (.list (ns.map .int))), some (.loc n), some (.dat (.int w)), some (.dat (.int few)), some (.dat (.list (ys.map enc))), none]) h1 := by
    rw [ex_put, ev_comp_of (h1 := h) (items := (upTo w).map enc) (by simp [small_nat (show w ≤ 1000 by omega), rangeD_upTo]) e1]
    simp
  have gy : GoodC w ys := by
    refine ⟨fun x m => ?_, (upTo_rise w).sublist s1⟩
    have := mem_upTo.mp (s1.subset m)
    omega
  have hb1 : d_law_columns.body = .cons (.put 4 false (.comp (.var 5) (.name 5) (.range (.var 2)) (.some (.cmp .lt (.call 8 (.cons (.var 0) (.cons (.var 1) (.cons (.cst (.int 5)) .nil)))) (.cst (.int 2)))) [5])) (.cons (.ite (.cmp .lt (.b1 .len (.var 4)) (.var 3)) (.cons (.put 4 false (.lst (.cons (.call 8 (.cons (.var 0) (.cons (.var 1) (.cons (.var 2) .nil)))) .nil))) .nil) .nil) (.cons (.ret (.b1 .tuple (.var 4))) .nil)) := rfl
  rw [hb1, exs_cons', cmp1, andThen_next]
  by_cases hlen : (ys.length : Int) < few
  · obtain ⟨v, h2, v0, v1, s2, e⟩ := draw (fw := fw) (k := k - 1) (by omega) h8 hns i1 (by omega) (many := (w : Int)) (by omega)
    refine ⟨[v], h2, ⟨fun x m => ?_, List.pairwise_singleton _ _⟩, by simpa using hf, s2.mono (by omega), ?_⟩
    · rw [List.mem_singleton.mp m]; omega
    · have l2 : h.length = h2.length := by rw [hs.len, s2.len]
      simp [hlen, e, l2]
      rfl
  · refine ⟨ys, h1, gy, by omega, i1.mono (by omega), ?_⟩
    have l2 : h.length = h1.length := by rw [hs.len, i1.len]
    simp [hlen, l2]
    rfl
theorem St.push {h0 h : HP} {n b : Nat} (s : St h0 n b h) (A : List PyData) : St (h0 ++ [A]) n b (h ++ [A]) := by
  obtain ⟨l, st, rfl, hl⟩ := s
  exact ⟨by simp; omega, st, by rw [List.set_append_left _ _ l], hl⟩
theorem St.top {h0 h : HP} {n b : Nat} {A : List PyData} (s : St (h0 ++ [A]) n b h) (l : n < h0.length) : h[h0.length]? = some A := by
  obtain ⟨_, st, rfl, hl⟩ := s
  rw [List.getElem?_set_ne (by omega)]
  simp
theorem St.setTop {h0 h : HP} {n b : Nat} {A : List PyData} (s : St (h0 ++ [A]) n b h) (l : n < h0.length) (B : List PyData) : St (h0 ++ [B]) n b (h.set h0.length B) := by
  obtain ⟨_, st, rfl, hl⟩ := s
  refine ⟨by simp; omega, st, ?_, hl⟩
  rw [List.set_append_left _ _ l, List.set_append_left _ _ l]
  have e : (h0.set n (st.map PyData.int)).length = h0.length := by simp
  rw [← e, List.set_append_right _ _ (Nat.le_refl _)]
  simp
theorem St.drop {h0 h : HP} {n b : Nat} {A : List PyData} (s : St (h0 ++ [A]) n b h) (l : n < h0.length) : St h0 n b (h.take h0.length) := by
  obtain ⟨_, st, rfl, hl⟩ := s
  refine ⟨l, st, ?_, hl⟩
  rw [List.set_append_left _ _ l]
  have e : (h0.set n (st.map PyData.int)).length = h0.length := by simp
  rw [← e, List.take_left]
theorem draw_rules {P : Prog} {fw k : Nat} (hk : 3 ≤ k) (h8 : P.lookup 8 = some d_law_draw) (h11 : P.lookup 11 = some d_law_columns) (h12 : P.lookup 12 = some d_law_rules) {ns : List Int} (hns : ns.length ≤ 63) {h0 h : HP} {n b w : Nat} (hw : 1 ≤ w ∧ w ≤ 64) {most : Nat} (hm : most < 64) (hs : St h0 n b h)
    (hb : b + 2 + most * (2 * (2 * w + 2)) + 2 < LIM) :
    ∃ (rs : List Rule) (h' : HP), ((∀ r ∈ rs, GoodC w r.1 ∧ GoodC w r.2 ∧ r.2 ≠ []) ∧ RisE rs ∧ rs.length ≤ most) ∧ St h0 n (b + 2 + most * (2 * (2 * w + 2))) h' ∧ run P fw k 12 [.dat (.list (ns.map .int)), .loc n, .dat (.int w), .dat (.int most)] h = .ok (.v (.dat (enc rs))) h' := by
  have hn : n < h0.length := hs.1
  have hl0 := hs.len
  have hLIM : (1000 : Nat) ≤ LIM := by decide
  rw [run_at (ρ := [some (.dat (.list (ns.map .int))), some (.loc n), some (.dat (.int w)), some (.dat (.int most)), none, none, none]) (by omega) h12 rfl rfl rfl]
  obtain ⟨v, h1, v0, v1, s1, e1⟩ := draw (fw := fw) (k := k - 1) (by omega) h8 hns (hs.push []) (by omega) (many := (most : Int) + 1) (by omega)
  obtain ⟨u, rfl⟩ : ∃ u : Nat, v = u := ⟨v.toNat, by omega⟩
  have hu : u ≤ most := by omega
  obtain ⟨ρ2, h2, e2, o5, o6, rs, rfl, r1, r2, r3⟩ := for_inv (g := enc) (body := fun x ρ h => (ofOpt (bindT (.name 5) x ρ) h).bind fun ρ h => exs (run P fw (k - 1)) fw (.cons (.put 6 false (.call 11 (.cons (.var 0) (.cons (.var 1) (.cons (.var 2) (.cons (.cst (.int 0)) .nil)))))) (.cons (.exp (.meth .append (.var 4) (.tup (.cons (.var 6) (.cons (.call 11 (.cons (.var 0) (.cons (.var 1) (.cons (.var 2) (.cons (.cst (.int 1)) .nil))))) .nil))))) .nil)) ρ h)
    (fun i ρ hh => ∃ (o5 o6 : Option Vl) (rs : List Rule), ρ = [some (.dat (.list (ns.map .int))), some (.loc n), some (.dat (.int w)), some (.dat (.int most)), some (.loc h0.length), o5, o6] ∧ rs.length = i ∧ (∀ r ∈ rs, GoodC w r.1 ∧ GoodC w r.2 ∧ r.2 ≠ []) ∧ St (h0 ++ [rs.map enc]) n (b + 2 + i * (2 * (2 * w + 2))) hh) (upTo u) 0 _ h1
    (fun j x ρ hh hj hI => by
      obtain ⟨o5, o6, rs, rfl, r1, r2, r3⟩ := hI
      have hju : j < u := by
        have := (List.getElem?_eq_some_iff.mp hj).1
        simpa [upTo] using this
      have hmul : (0 + j + 1) * (2 * (2 * w + 2)) = (0 + j) * (2 * (2 * w + 2)) + 2 * (2 * w + 2) := Nat.succ_mul _ _
      have hle : (0 + j + 1) * (2 * (2 * w + 2)) ≤ most * (2 * (2 * w + 2)) := Nat.mul_le_mul_right _ (by omega)
      obtain ⟨c1, g1, k1, _, t1, f1⟩ := draw_columns (fw := fw) (k := k - 1) (by omega) h8 h11 hns hw r3 (by omega) (few := 0) (by decide)
      obtain ⟨c2, g2, k2, k3, t2, f2⟩ := draw_columns (fw := fw) (k := k - 1) (by omega) h8 h11 hns hw t1 (by omega) (few := 1) (by decide)
      have ha := append_loc (t2.top hn) (by rw [List.length_map, r1]; omega) (.tuple [enc c1, enc c2])
      refine ⟨_, g2.set h0.length (rs.map enc ++ [.tuple [enc c1, enc c2]]), ?_, some (.dat (enc x)), some (.dat (enc c1)), rs ++ [(c1, c2)], rfl, by simp [r1], fun r m => ?_, ?_⟩
      · simp [f1, f2, ha]
      · rcases List.mem_append.mp m with m | m
        · exact r2 r m
        · rw [List.mem_singleton.mp m]
          refine ⟨k1, k2, fun z => ?_⟩
          have z' : c2 = [] := z
          rw [z'] at k3
          simp at k3
      · have := t2.setTop hn (rs.map enc ++ [.tuple [enc c1, enc c2]])
        rw [List.map_append]
        exact this.mono (by omega)) ⟨none, none, [], rfl, rfl, fun _ m => absurd m (by simp), s1.mono (by omega)⟩
  have lu : (upTo u).length = u := by simp [upTo]
  rw [lu] at r1 r3
  have hmu : u * (2 * (2 * w + 2)) ≤ most * (2 * (2 * w + 2)) := Nat.mul_le_mul_right _ hu
  rw [Nat.zero_add] at r1 r3
  refine ⟨sdE rs, h2.take h0.length, ⟨fun r m => r2 r ((mem_sdE rs r).mp m), sdE_rise rs, ?_⟩, (r3.drop hn).mono (by omega), ?_⟩
  · have := sdE_len rs
    omega
  · have hb1 : d_law_rules.body = .cons (.put 4 true (.lst .nil)) (.cons (.loop (.name 5) (.range (.call 8 (.cons (.var 0) (.cons (.var 1) (.cons (.bin .add (.var 3) (.cst (.int 1))) .nil))))) (.cons (.put 6 false (.call 11 (.cons (.var 0) (.cons (.var 1) (.cons (.var 2) (.cons (.cst (.int 0)) .nil)))))) (.cons (.exp (.meth .append (.var 4) (.tup (.cons (.var 6) (.cons (.call 11 (.cons (.var 0) (.cons (.var 1) (.cons (.var 2) (.cons (.cst (.int 1)) .nil))))) .nil))))) .nil))) (.cons (.ret (.b1 .tuple (.sortedSet (.cons (.many .int) (.cons (.many .int) .nil)) (.var 4)))) .nil)) := rfl
    have p1 : ex (run P fw (k - 1)) fw (.put 4 true (.lst .nil)) [some (.dat (.list (ns.map .int))), some (.loc n), some (.dat (.int w)), some (.dat (.int most)), none, none, none] h = .ok (.next [some (.dat (.list (ns.map .int))), some (.loc n), some (.dat (.int w)), some (.dat (.int most)), some (.loc h0.length), none, none]) (h ++ [[]]) := by
      simp [hl0]
    rw [hb1, exs_cons', p1, andThen_next, exs_cons', ex_loop_of (h1 := h1) (items := (upTo u).map enc) (by simp [e1, small_nat (show u ≤ 1000 by omega), rangeD_upTo]) e2, andThen_next]
    have hsd := sdD_enc (α := Rule) (by decide) rs (by omega) (d := .list (rs.map enc)) rfl
    have hsd' : sortedSetD (.cons (.many .int) (.cons (.many .int) .nil)) (.list (rs.map enc)) = some (.new ((sdE rs).map enc)) := hsd
    simp [r3.top hn, hsd', hl0]
    rfl
end TB
set_option maxHeartbeats 4000000
namespace TB
open PySem
open Enc (enc)
/-! ### closures -/
def d_all_sets : Def := ⟨"all_sets", ["columns", "found", "column", "old"], 1, (.cons (.put 1 false (.lst (.cons (.tup .nil) .nil))) (.cons (.loop (.name 2) (.seq (.var 0)) (.cons (.put 1 false (.bin .add (.var 1) (.comp (.bin .add (.var 3) (.tup (.cons (.var 2) .nil))) (.name 3) (.seq (.var 1)) .none [3]))) .nil)) (.cons (.ret (.sorted (.many .int) (.var 1))) .nil)))⟩
def d_closure_of : Def := ⟨"closure_of", ["dependencies", "columns", "known", "grown", "left", "right", "one"], 2, (.cons (.put 2 true (.b1 .list (.var 1))) (.cons (.put 3 false (.cst (.bool true))) (.cons (.while (.var 3) (.cons (.put 3 false (.cst (.bool false))) (.cons (.loop (.cons (.name 4) (.cons (.name 5) .nil)) (.seq (.var 0)) (.cons (.ite (.and (.call 22 (.cons (.var 4) (.cons (.var 2) .nil))) (.not (.call 22 (.cons (.var 5) (.cons (.var 2) .nil))))) (.cons (.exp (.meth .extend (.var 2) (.comp (.var 6) (.name 6) (.seq (.var 5)) (.some (.cmp .notin (.var 6) (.var 2))) [6]))) (.cons (.put 3 false (.cst (.bool true))) .nil)) .nil) .nil)) .nil))) (.cons (.ret (.b1 .tuple (.sorted .int (.var 2)))) .nil))))⟩
/-- one rule, seen at what is known -/
def stepK (K : Cols) (r : Rule) : Cols := if partB r.1 K && !partB r.2 K then K ++ r.2.filter (fun x => !decide (x ∈ K)) else K
def passK (rs : List Rule) (K : Cols) : Cols := rs.foldl stepK K
def closF (rs : List Rule) : Nat → Cols → Cols
  | 0, K => K
  | n + 1, K => if passK rs K = K then K else closF rs n (passK rs K)
/-- what is not known yet of the rules' rights -/
def meas (rs : List Rule) (K : Cols) : Nat := ((rs.flatMap (·.2)).filter fun x => !decide (x ∈ K)).length
def rights (rs : List Rule) : Nat := (rs.flatMap (·.2)).length
theorem stepK_sub (K : Cols) (r : Rule) : ∀ x ∈ K, x ∈ stepK K r := fun x m => by
  unfold stepK
  split
  · exact List.mem_append_left _ m
  · exact m
theorem passK_sub (rs : List Rule) : ∀ (K : Cols), ∀ x ∈ K, x ∈ passK rs K := by
  induction rs with
  | nil => intro K x m; exact m
  | cons r rs ih => intro K x m; exact ih _ x (stepK_sub K r x m)
theorem stepK_len (K : Cols) (r : Rule) : K.length ≤ (stepK K r).length := by
  unfold stepK
  split
  · simp
  · exact Nat.le_refl _
theorem passK_len (rs : List Rule) : ∀ (K : Cols), K.length ≤ (passK rs K).length := by
  induction rs with
  | nil => intro K; exact Nat.le_refl _
  | cons r rs ih => intro K; exact Nat.le_trans (stepK_len K r) (ih _)
theorem stepK_fire {K : Cols} {r : Rule} (h : (partB r.1 K && !partB r.2 K) = true) : ∃ x ∈ r.2, x ∉ K ∧ x ∈ stepK K r := by
  rw [Bool.and_eq_true] at h
  have h2 : partB r.2 K = false := by simpa using h.2
  have : ∃ x ∈ r.2, x ∉ K := by
    by_cases q : ∀ x ∈ r.2, x ∈ K
    · rw [partB_iff.mpr q] at h2; cases h2
    · simpa using q
  obtain ⟨x, m, nx⟩ := this
  refine ⟨x, m, nx, ?_⟩
  unfold stepK
  rw [if_pos (by rw [h.1, h2]; rfl)]
  exact List.mem_append_right _ (List.mem_filter.mpr ⟨m, by simpa using nx⟩)
theorem stepK_same {K : Cols} {r : Rule} : stepK K r = K ↔ ¬ (partB r.1 K && !partB r.2 K) = true := by
  constructor
  · intro e h
    obtain ⟨x, _, nx, mx⟩ := stepK_fire h
    rw [e] at mx
    exact nx mx
  · intro h
    unfold stepK
    rw [if_neg h]
theorem passK_fix {rs : List Rule} : ∀ {K : Cols}, passK rs K = K → ∀ r ∈ rs, stepK K r = K := by
  induction rs with
  | nil => intro K _ r m; cases m
  | cons r rs ih =>
    intro K e q m
    have e' : passK rs (stepK K r) = K := e
    have h1 : stepK K r = K := by
      by_cases hf : (partB r.1 K && !partB r.2 K) = true
      · exfalso
        obtain ⟨x, _, nx, mx⟩ := stepK_fire hf
        have := passK_sub rs _ x mx
        rw [e'] at this
        exact nx this
      · exact stepK_same.mpr hf
    rw [h1] at e'
    rcases List.mem_cons.mp m with rfl | m
    · exact h1
    · exact ih e' q m
/-- closed under the rules -/
def Closed (rs : List Rule) (K : Cols) : Prop := ∀ r ∈ rs, (∀ x ∈ r.1, x ∈ K) → ∀ x ∈ r.2, x ∈ K
theorem closed_of_fix {rs : List Rule} {K : Cols} (h : passK rs K = K) : Closed rs K := by
  intro r m hl
  have := stepK_same.mp (passK_fix h r m)
  rw [partB_iff.mpr hl, Bool.true_and] at this
  have h2 : partB r.2 K = true := by simpa using this
  exact partB_iff.mp h2
theorem fix_of_closed {rs : List Rule} {K : Cols} (h : Closed rs K) : passK rs K = K := by
  have : ∀ rs' : List Rule, (∀ r ∈ rs', r ∈ rs) → passK rs' K = K := by
    intro rs'
    induction rs' with
    | nil => intro _; rfl
    | cons r rs' ih =>
      intro hs
      have e : stepK K r = K := stepK_same.mpr fun z => by
        rw [Bool.and_eq_true] at z
        have := h r (hs r (List.mem_cons_self ..)) (partB_iff.mp z.1)
        rw [partB_iff.mpr this] at z
        exact absurd z.2 (by simp)
      show passK rs' (stepK K r) = K
      rw [e]
      exact ih fun q m => hs q (List.mem_cons_of_mem _ m)
  exact this rs fun _ m => m
theorem stepK_in {rs : List Rule} {K C : Cols} {r : Rule} (hr : r ∈ rs) (hc : Closed rs C) (hk : ∀ x ∈ K, x ∈ C) : ∀ x ∈ stepK K r, x ∈ C := by
  intro x m
  unfold stepK at m
  split at m
  · rename_i h
    rw [Bool.and_eq_true] at h
    rcases List.mem_append.mp m with m | m
    · exact hk x m
    · exact hc r hr (fun y my => hk y (partB_iff.mp h.1 y my)) x (List.mem_filter.mp m).1
  · exact hk x m
theorem passK_in {rs : List Rule} {C : Cols} (hc : Closed rs C) : ∀ (rs' : List Rule) (K : Cols), (∀ r ∈ rs', r ∈ rs) → (∀ x ∈ K, x ∈ C) → ∀ x ∈ passK rs' K, x ∈ C := by
  intro rs'
  induction rs' with
  | nil => intro K _ hk; exact hk
  | cons r rs' ih => intro K hs hk; exact ih _ (fun q m => hs q (List.mem_cons_of_mem _ m)) (stepK_in (hs r (List.mem_cons_self ..)) hc hk)
theorem closF_in {rs : List Rule} {C : Cols} (hc : Closed rs C) : ∀ (n : Nat) (K : Cols), (∀ x ∈ K, x ∈ C) → ∀ x ∈ closF rs n K, x ∈ C := by
  intro n
  induction n with
  | zero => intro K hk; exact hk
  | succ n ih =>
    intro K hk
    unfold closF
    split
    · exact hk
    · exact ih _ (passK_in hc rs K (fun _ m => m) hk)
theorem closF_sub {rs : List Rule} : ∀ (n : Nat) (K : Cols), ∀ x ∈ K, x ∈ closF rs n K := by
  intro n
  induction n with
  | zero => intro K x m; exact m
  | succ n ih =>
    intro K x m
    unfold closF
    split
    · exact m
    · exact ih _ x (passK_sub rs K x m)
theorem filter_lt {α : Type} {p q : α → Bool} : ∀ (l : List α), (∀ x ∈ l, q x = true → p x = true) → (∃ x ∈ l, p x = true ∧ q x = false) → (l.filter q).length < (l.filter p).length
  | [], _, h => by obtain ⟨x, m, _⟩ := h; cases m
  | y :: ys, hs, h => by
    have hs' := fun x m => hs x (List.mem_cons_of_mem y m)
    have le : (ys.filter q).length ≤ (ys.filter p).length := by
      clear h hs
      induction ys with
      | nil => exact Nat.le_refl _
      | cons z zs ih =>
        have i := ih fun x m => hs' x (List.mem_cons_of_mem z m)
        have hz := hs' z (List.mem_cons_self ..)
        cases eq : q z <;> cases ep : p z <;> simp [eq, ep] at hz ⊢ <;> omega
    have hy := hs y (List.mem_cons_self ..)
    obtain ⟨x, m, h1, h2⟩ := h
    rcases List.mem_cons.mp m with rfl | m
    · simp [h1, h2]; omega
    · have := filter_lt ys hs' ⟨x, m, h1, h2⟩
      cases eq : q y <;> cases ep : p y <;> simp [eq, ep] at hy ⊢ <;> omega
theorem meas_lt {rs : List Rule} {K : Cols} (h : passK rs K ≠ K) : meas rs (passK rs K) < meas rs K := by
  have hx : ∃ r ∈ rs, ∃ x ∈ r.2, x ∉ K ∧ x ∈ passK rs K := by
    by_cases q : ∃ r ∈ rs, ∃ x ∈ r.2, x ∉ K ∧ x ∈ passK rs K
    · exact q
    · exfalso
      apply h
      have : ∀ (rs' : List Rule), (∀ r ∈ rs', r ∈ rs) → ∀ K', (∀ x ∈ K', x ∈ K) → (∀ x ∈ passK rs' K', x ∈ passK rs K) → K' = K → passK rs' K' = K := by
        intro rs'
        induction rs' with
        | nil => intro _ K' _ _ e; exact e
        | cons r rs' ih =>
          intro hs K' hK hp e
          subst e
          have e1 : stepK K' r = K' := stepK_same.mpr fun z => by
            obtain ⟨x, m, nx, mx⟩ := stepK_fire z
            exact q ⟨r, hs r (List.mem_cons_self ..), x, m, nx, hp x (passK_sub rs' _ x mx)⟩
          show passK rs' (stepK K' r) = K'
          have hp' : ∀ x ∈ passK rs' (stepK K' r), x ∈ passK rs K' := hp
          rw [e1] at hp' ⊢
          exact ih (fun s m => hs s (List.mem_cons_of_mem _ m)) K' hK hp' rfl
      exact this rs (fun _ m => m) K (fun _ m => m) (fun _ m => m) rfl
  obtain ⟨r, mr, x, mx, nx, px⟩ := hx
  unfold meas
  refine filter_lt _ (fun y _ hy => ?_) ⟨x, List.mem_flatMap.mpr ⟨r, mr, mx⟩, by simpa using nx, by simpa using px⟩
  have : y ∉ passK rs K := by simpa using hy
  simpa using fun z => this (passK_sub rs K y z)
theorem closF_fix {rs : List Rule} : ∀ (n : Nat) (K : Cols), meas rs K ≤ n → passK rs (closF rs n K) = closF rs n K := by
  intro n
  induction n with
  | zero =>
    intro K h
    show passK rs K = K
    by_cases e : passK rs K = K
    · exact e
    · have := meas_lt e; omega
  | succ n ih =>
    intro K h
    unfold closF
    split
    · assumption
    · rename_i e
      exact ih _ (by have := meas_lt e; omega)
theorem meas_le (rs : List Rule) (K : Cols) : meas rs K ≤ rights rs := List.length_filter_le _ _
/-- the closure, as it comes -/
def clos (rs : List Rule) (K : Cols) : Cols := closF rs (rights rs) K
theorem clos_closed (rs : List Rule) (K : Cols) : Closed rs (clos rs K) := closed_of_fix (closF_fix _ K (meas_le rs K))
theorem clos_sub (rs : List Rule) (K : Cols) : ∀ x ∈ K, x ∈ clos rs K := closF_sub _ K
theorem clos_least {rs : List Rule} {K C : Cols} (hc : Closed rs C) (hk : ∀ x ∈ K, x ∈ C) : ∀ x ∈ clos rs K, x ∈ C := closF_in hc _ K hk
theorem stepK_nodup {K : Cols} {r : Rule} (h : K.Nodup) (hr : r.2.Nodup) : (stepK K r).Nodup := by
  unfold stepK
  split
  · refine List.nodup_append.mpr ⟨h, hr.sublist (List.filter_sublist), fun a ma b mb e => ?_⟩
    subst e
    have := (List.mem_filter.mp mb).2
    simp at this
    exact this ma
  · exact h
theorem passK_nodup {rs : List Rule} (hr : ∀ r ∈ rs, r.2.Nodup) : ∀ {K : Cols}, K.Nodup → (passK rs K).Nodup := by
  induction rs with
  | nil => intro K h; exact h
  | cons r rs ih => intro K h; exact ih (fun q m => hr q (List.mem_cons_of_mem _ m)) (stepK_nodup h (hr r (List.mem_cons_self ..)))
theorem closF_nodup {rs : List Rule} (hr : ∀ r ∈ rs, r.2.Nodup) : ∀ (n : Nat) {K : Cols}, K.Nodup → (closF rs n K).Nodup := by
  intro n
  induction n with
  | zero => intro K h; exact h
  | succ n ih =>
    intro K h
    unfold closF
    split
    · exact h
    · exact ih (passK_nodup hr h)
/-- the closure, rising -/
def clo (rs : List Rule) (K : Cols) : Cols := sortE (clos rs K)
theorem mem_clo {rs : List Rule} {K : Cols} {x : Int} : x ∈ clo rs K ↔ x ∈ clos rs K := (sortE_perm _).mem_iff
theorem clo_rise {rs : List Rule} (hr : ∀ r ∈ rs, r.2.Nodup) {K : Cols} (h : K.Nodup) : RisE (clo rs K) := srt_rise (sortE_srt _) ((sortE_perm _).nodup_iff.mpr (closF_nodup hr _ h))
theorem nodup_len {α : Type} [DecidableEq α] : ∀ (l m : List α), l.Nodup → (∀ x ∈ l, x ∈ m) → l.length ≤ m.length
  | [], _, _, _ => Nat.zero_le _
  | x :: l, m, nd, hs => by
    obtain ⟨n1, n2⟩ := List.nodup_cons.mp nd
    have hx := hs x (List.mem_cons_self ..)
    have := nodup_len l (m.erase x) n2 fun y my => (List.mem_erase_of_ne (fun e => n1 (by rw [← e]; exact my))).mpr (hs y (List.mem_cons_of_mem _ my))
    rw [List.length_erase_of_mem hx] at this
    have : 0 < m.length := List.length_pos_of_mem hx
    simp only [List.length_cons]
    omega
section
variable {P : Prog} {fw : Nat}
def closBody : CSs := (.cons (.ite (.and (.call 22 (.cons (.var 4) (.cons (.var 2) .nil))) (.not (.call 22 (.cons (.var 5) (.cons (.var 2) .nil))))) (.cons (.exp (.meth .extend (.var 2) (.comp (.var 6) (.name 6) (.seq (.var 5)) (.some (.cmp .notin (.var 6) (.var 2))) [6]))) (.cons (.put 3 false (.cst (.bool true))) .nil)) .nil) .nil)
theorem clos_step {k : Nat} (hk : 1 ≤ k) (h22 : P.lookup 22 = some d_is_part) {v0 v1 : Option Vl} {g : Bool} {o4 o5 : Option Vl} {h : HP} {K : Cols} {r : Rule} (hl : K.length + r.2.length ≤ LIM) :
    (ofOpt (bindT (.cons (.name 4) (.cons (.name 5) .nil)) (enc r) [v0, v1, some (.loc h.length), some (.dat (.bool g)), o4, o5, none]) (h ++ [K.map enc])).bind (fun ρ h => exs (run P fw k) fw closBody ρ h) =
      .ok (.next [v0, v1, some (.loc h.length), some (.dat (.bool (g || decide (stepK K r ≠ K)))), some (.dat (enc r.1)), some (.dat (enc r.2)), none]) (h ++ [(stepK K r).map enc]) := by
  have hK : datOf (h ++ [K.map enc]) (.loc h.length) = some (.list (K.map enc)) := by simp
  have p1 := run_is_part (fw := fw) h22 r.1 K (h ++ [K.map enc]) (.loc h.length) (.inl hK) k hk
  have p2 := run_is_part (fw := fw) h22 r.2 K (h ++ [K.map enc]) (.loc h.length) (.inl hK) k hk
  have b1 : (ofOpt (bindT (.cons (.name 4) (.cons (.name 5) .nil)) (enc r) [v0, v1, some (.loc h.length), some (.dat (.bool g)), o4, o5, none]) (h ++ [K.map enc])) = .ok [v0, v1, some (.loc h.length), some (.dat (.bool g)), some (.dat (enc r.1)), some (.dat (enc r.2)), none] (h ++ [K.map enc]) := by
    rw [enc_pair]
    simp
  rw [b1, Res.bind_ok]
  have test : ((ev (run P fw k) (.and (.call 22 (.cons (.var 4) (.cons (.var 2) .nil))) (.not (.call 22 (.cons (.var 5) (.cons (.var 2) .nil))))) [v0, v1, some (.loc h.length), some (.dat (.bool g)), some (.dat (enc r.1)), some (.dat (enc r.2)), none] (h ++ [K.map enc])).bind fun x h => ofOpt ((dat1 h x).bind truthD) h) = .ok (partB r.1 K && !partB r.2 K) (h ++ [K.map enc]) := by
    simp [p1, p2]
    cases partB r.1 K <;> simp
  unfold closBody
  rw [exs_cons', ex_ite, test, Res.bind_ok]
  cases hf : (partB r.1 K && !partB r.2 K) with
  | false =>
    have e : stepK K r = K := stepK_same.mpr (by rw [hf]; simp)
    simp [e]
  | true =>
    have ne : stepK K r ≠ K := fun e => by
      have := stepK_same.mp e
      rw [hf] at this
      exact this rfl
    have es : stepK K r = K ++ r.2.filter (fun x => !decide (x ∈ K)) := by
      unfold stepK
      rw [if_pos hf]
    have comp : ev (run P fw k) (.comp (.var 6) (.name 6) (.seq (.var 5)) (.some (.cmp .notin (.var 6) (.var 2))) [6]) [v0, v1, some (.loc h.length), some (.dat (.bool g)), some (.dat (enc r.1)), some (.dat (enc r.2)), none] (h ++ [K.map enc]) = .ok (.new ((r.2.filter (fun x => !decide (x ∈ K))).map enc)) (h ++ [K.map enc]) := by
      refine ev_comp_of (items := r.2.map enc) (h1 := h ++ [K.map enc]) (by simp [enc_list]) ?_
      refine comp_filter (g := enc) (f := enc) fun x _ => ?_
      simp [cmp_nin_list (α := Int) (by decide)]
      split <;> rfl
    have me : methD .extend (h ++ [K.map enc]) h.length (.new ((r.2.filter (fun x => !decide (x ∈ K))).map enc)) = some (h ++ [(stepK K r).map enc]) := by
      unfold methD
      have hl2 : (K.map (enc : Int → PyData)).length + ((r.2.filter (fun x => !decide (x ∈ K))).map (enc : Int → PyData)).length ≤ LIM := by
        have := List.length_filter_le (fun x => !decide (x ∈ K)) r.2
        simp only [List.length_map]
        omega
      simp only [List.getElem?_concat_length, Option.bind_some, dat1_new, itemsD_list, if_pos hl2]
      rw [es, List.map_append]
      simp
    have ex1 : ex (run P fw k) fw (.exp (.meth .extend (.var 2) (.comp (.var 6) (.name 6) (.seq (.var 5)) (.some (.cmp .notin (.var 6) (.var 2))) [6]))) [v0, v1, some (.loc h.length), some (.dat (.bool g)), some (.dat (enc r.1)), some (.dat (enc r.2)), none] (h ++ [K.map enc]) = .ok (.next [v0, v1, some (.loc h.length), some (.dat (.bool g)), some (.dat (enc r.1)), some (.dat (enc r.2)), none]) (h ++ [(stepK K r).map enc]) := by
      rw [ex_exp, ev_meth, ev_var]
      simp only [getV_succ, getV_zero, Option.map_some, ofOpt_some, Res.bind_ok, locOf_loc, comp, me]
    rw [if_pos rfl, exs_cons', ex1]
    simp [ne]
theorem clos_for {k : Nat} (hk : 1 ≤ k) (h22 : P.lookup 22 = some d_is_part) {v0 v1 : Option Vl} {h : HP} (rs : List Rule) : ∀ (K : Cols) (g : Bool) (o4 o5 : Option Vl), (∀ rs1 r, rs1 ++ [r] <+: rs → (passK rs1 K).length + r.2.length ≤ LIM) →
    ∃ o4' o5', forL (fun x ρ h => (ofOpt (bindT (.cons (.name 4) (.cons (.name 5) .nil)) x ρ) h).bind fun ρ h => exs (run P fw k) fw closBody ρ h) (rs.map enc) [v0, v1, some (.loc h.length), some (.dat (.bool g)), o4, o5, none] (h ++ [K.map enc]) =
      .ok (.next [v0, v1, some (.loc h.length), some (.dat (.bool (g || decide (passK rs K ≠ K)))), o4', o5', none]) (h ++ [(passK rs K).map enc]) := by
  induction rs with
  | nil => intro K g o4 o5 _; exact ⟨o4, o5, by simp [forL, passK]⟩
  | cons r rs ih =>
    intro K g o4 o5 hl
    obtain ⟨p4, p5, e⟩ := ih (stepK K r) (g || decide (stepK K r ≠ K)) (some (.dat (enc r.1))) (some (.dat (enc r.2))) (fun rs1 q hp => by
      have := hl (r :: rs1) q (by
        obtain ⟨t, ht⟩ := hp
        exact ⟨t, by rw [← ht]; simp⟩)
      exact this)
    refine ⟨p4, p5, ?_⟩
    have st := clos_step (fw := fw) (v0 := v0) (v1 := v1) (g := g) (o4 := o4) (o5 := o5) (h := h) (K := K) (r := r) hk h22 (hl [] r ⟨rs, by simp⟩)
    refine (congrArg (fun z => Res.bind z _) st).trans ?_
    simp only [Res.bind_ok]
    rw [e]
    have eg : (g || decide (stepK K r ≠ K) || decide (passK rs (stepK K r) ≠ stepK K r)) = (g || decide (passK (r :: rs) K ≠ K)) := by
      rw [Bool.or_assoc]
      congr 1
      show _ = decide (passK rs (stepK K r) ≠ K)
      by_cases h1 : stepK K r = K
      · rw [h1]; simp
      · have h2 : passK rs (stepK K r) ≠ K := fun z => by
          have hf : (partB r.1 K && !partB r.2 K) = true := by
            cases q : (partB r.1 K && !partB r.2 K) with
            | true => rfl
            | false => exact absurd (stepK_same.mpr (by rw [q]; simp)) h1
          obtain ⟨x, _, nx, mx⟩ := stepK_fire hf
          have := passK_sub rs _ x mx
          rw [z] at this
          exact nx this
        simp [h1, h2]
    rw [eg]
    rfl
theorem clos_while {k : Nat} (hk : 1 ≤ k) (h22 : P.lookup 22 = some d_is_part) {v1 : Option Vl} {h : HP} {rs : List Rule} : ∀ (n : Nat) (K : Cols) (f : Nat) (o4 o5 : Option Vl), meas rs K ≤ n → n + 2 ≤ f → (∀ m, (closF rs m K).length + rights rs ≤ LIM) → (∀ m rs1, rs1 <+: rs → (passK rs1 (closF rs m K)).length + rights rs ≤ LIM) →
    ∃ o4' o5', whileL (fun ρ h => (ev (run P fw k) (.var 3) ρ h).bind fun x h => ofOpt ((dat1 h x).bind truthD) h) (fun ρ h => exs (run P fw k) fw (.cons (.put 3 false (.cst (.bool false))) (.cons (.loop (.cons (.name 4) (.cons (.name 5) .nil)) (.seq (.var 0)) closBody) .nil)) ρ h) f [some (.dat (enc rs)), v1, some (.loc h.length), some (.dat (.bool true)), o4, o5, none] (h ++ [K.map enc]) =
      .ok (.next [some (.dat (enc rs)), v1, some (.loc h.length), some (.dat (.bool false)), o4', o5', none]) (h ++ [(closF rs n K).map enc]) := by
  have body : ∀ (K : Cols) (o4 o5 : Option Vl), (∀ rs1, rs1 <+: rs → (passK rs1 K).length + rights rs ≤ LIM) → ∃ o4' o5', exs (run P fw k) fw (.cons (.put 3 false (.cst (.bool false))) (.cons (.loop (.cons (.name 4) (.cons (.name 5) .nil)) (.seq (.var 0)) closBody) .nil)) [some (.dat (enc rs)), v1, some (.loc h.length), some (.dat (.bool true)), o4, o5, none] (h ++ [K.map enc]) = .ok (.next [some (.dat (enc rs)), v1, some (.loc h.length), some (.dat (.bool (decide (passK rs K ≠ K)))), o4', o5', none]) (h ++ [(passK rs K).map enc]) := by
    intro K o4 o5 hl
    obtain ⟨p4, p5, e⟩ := clos_for (fw := fw) (v0 := some (.dat (enc rs))) (v1 := v1) (h := h) hk h22 rs K false o4 o5 (fun rs1 r hp => by
      have h1 := hl rs1 ((List.prefix_append rs1 [r]).trans hp)
      have h2 : r.2.length ≤ rights rs := by
        obtain ⟨t, ht⟩ := hp
        unfold rights
        rw [← ht]
        simp
        omega
      omega)
    refine ⟨p4, p5, ?_⟩
    rw [exs_cons']
    have e1 : ex (run P fw k) fw (.put 3 false (.cst (.bool false))) [some (.dat (enc rs)), v1, some (.loc h.length), some (.dat (.bool true)), o4, o5, none] (h ++ [K.map enc]) = .ok (.next [some (.dat (enc rs)), v1, some (.loc h.length), some (.dat (.bool false)), o4, o5, none]) (h ++ [K.map enc]) := by simp
    rw [e1, andThen_next, exs_cons', ex_loop_of (h1 := h ++ [K.map enc]) (items := rs.map enc) (by simp [enc_list]) e]
    simp
  intro n
  induction n with
  | zero =>
    intro K f o4 o5 hm hf hl hl2
    obtain ⟨f', rfl⟩ : ∃ f', f = f' + 1 + 1 := ⟨f - 2, by omega⟩
    have e0 : passK rs K = K := by
      by_cases e : passK rs K = K
      · exact e
      · have := meas_lt e; omega
    obtain ⟨p4, p5, e⟩ := body K o4 o5 (hl2 0)
    refine ⟨p4, p5, ?_⟩
    rw [e0] at e
    show Res.bind _ _ = _
    simp only [ev_var, getV_succ, getV_zero, Option.map_some, ofOpt_some, Res.bind_ok, dat1_dat, Option.bind_some, truth_bool, if_true, e]
    show Res.bind _ _ = _
    simp
    rfl
  | succ n ih =>
    intro K f o4 o5 hm hf hl hl2
    obtain ⟨f', rfl⟩ : ∃ f', f = f' + 1 := ⟨f - 1, by omega⟩
    obtain ⟨p4, p5, e⟩ := body K o4 o5 (hl2 0)
    by_cases e0 : passK rs K = K
    · obtain ⟨f'', rfl⟩ : ∃ f'', f' = f'' + 1 := ⟨f' - 1, by omega⟩
      refine ⟨p4, p5, ?_⟩
      rw [e0] at e
      have ec : closF rs (n + 1) K = K := by unfold closF; rw [if_pos e0]
      rw [ec]
      show Res.bind _ _ = _
      simp only [ev_var, getV_succ, getV_zero, Option.map_some, ofOpt_some, Res.bind_ok, dat1_dat, Option.bind_some, truth_bool, if_true, e]
      show Res.bind _ _ = _
      simp
    · have ec : ∀ m, closF rs (m + 1) K = closF rs m (passK rs K) := fun m => by
        show (if passK rs K = K then K else closF rs m (passK rs K)) = _
        rw [if_neg e0]
      obtain ⟨q4, q5, e2⟩ := ih (passK rs K) f' p4 p5 (by have := meas_lt e0; omega) (by omega) (fun m => by have := hl (m + 1); rw [ec] at this; exact this) (fun m rs1 hp => by have := hl2 (m + 1) rs1 hp; rw [ec] at this; exact this)
      refine ⟨q4, q5, ?_⟩
      rw [ec]
      show Res.bind _ _ = _
      have ed : decide (passK rs K ≠ K) = true := decide_eq_true e0
      rw [ed] at e
      simp only [ev_var, getV_succ, getV_zero, Option.map_some, ofOpt_some, Res.bind_ok, dat1_dat, Option.bind_some, truth_bool, if_true, e]
      exact e2
theorem kd_int : (Kd.int) = Enc.kd Int := rfl
theorem run_closure (h22 : P.lookup 22 = some d_is_part) (h23 : P.lookup 23 = some d_closure_of) (hf : 200 ≤ fw) {rs : List Rule} (hr : ∀ r ∈ rs, r.2.Nodup) (hR : rights rs ≤ 100) {K : Cols} (hK : K.Nodup) (hKl : K.length ≤ 100) {d : PyData} (hd : itemsD d = some (K.map enc)) (h : HP) :
    Runs P fw 2 23 [.dat (enc rs), .dat d] h (.ok (.v (.dat (enc (clo rs K)))) h) := by
  refine Runs.start (K := 1) (ρ := [some (.dat (enc rs)), some (.dat d), none, none, none, none, none]) h23 rfl rfl rfl fun k hk => ?_
  have hLIM : (1000 : Nat) ≤ LIM := by decide
  have uni : ∀ K' : Cols, K'.Nodup → (∀ x ∈ K', x ∈ K ++ rs.flatMap (·.2)) → K'.length ≤ 200 := fun K' nd hs => by
    have := nodup_len K' _ nd hs
    rw [List.length_append] at this
    have hR' : (rs.flatMap (·.2)).length ≤ 100 := hR
    omega
  have hC : Closed rs (K ++ rs.flatMap (·.2)) := fun r m _ x mx => List.mem_append_right _ (List.mem_flatMap.mpr ⟨r, m, mx⟩)
  have inC : ∀ m, ∀ x ∈ closF rs m K, x ∈ K ++ rs.flatMap (·.2) := fun m => closF_in hC m K fun x mx => List.mem_append_left _ mx
  obtain ⟨p4, p5, e⟩ := clos_while (fw := fw) (v1 := some (.dat d)) (h := h) (rs := rs) hk h22 (rights rs) K fw none none (meas_le rs K) (by omega) (fun m => by
    have := uni _ (closF_nodup hr m hK) (inC m)
    omega) (fun m rs1 hp => by
    have hs : ∀ r ∈ rs1, r ∈ rs := fun r mr => hp.subset mr
    have := uni _ (passK_nodup (fun r mr => hr r (hs r mr)) (closF_nodup hr m hK)) (passK_in hC rs1 _ hs (inC m))
    omega)
  have hb : d_closure_of.body = .cons (.put 2 true (.b1 .list (.var 1))) (.cons (.put 3 false (.cst (.bool true))) (.cons (.while (.var 3) (.cons (.put 3 false (.cst (.bool false))) (.cons (.loop (.cons (.name 4) (.cons (.name 5) .nil)) (.seq (.var 0)) closBody) .nil))) (.cons (.ret (.b1 .tuple (.sorted .int (.var 2)))) .nil))) := rfl
  have lst : b1D .list d = some (.new (K.map enc)) := by
    show (itemsD d).map (fun xs => RV.new xs) = _
    rw [hd]; rfl
  have e1 : ex (run P fw k) fw (.put 2 true (.b1 .list (.var 1))) [some (.dat (enc rs)), some (.dat d), none, none, none, none, none] h = .ok (.next [some (.dat (enc rs)), some (.dat d), some (.loc h.length), none, none, none, none]) (h ++ [K.map enc]) := by
    simp [lst]
  have e2 : ex (run P fw k) fw (.put 3 false (.cst (.bool true))) [some (.dat (enc rs)), some (.dat d), some (.loc h.length), none, none, none, none] (h ++ [K.map enc]) = .ok (.next [some (.dat (enc rs)), some (.dat d), some (.loc h.length), some (.dat (.bool true)), none, none, none]) (h ++ [K.map enc]) := by
    simp
  have srt : sortedD .int (.list ((closF rs (rights rs) K).map enc)) = some (.new ((clo rs K).map enc)) := sorted_enc (α := Int) (by decide) _
  rw [hb, exs_cons', e1, andThen_next, exs_cons', e2, andThen_next, exs_cons', ex_while, e, andThen_next]
  simp [srt, enc_list]
/-! ### all sets of columns -/
def powers (cs : Cols) : List Cols := cs.foldl (fun found c => found ++ found.map (· ++ [c])) [[]]
def allSets (cs : Cols) : List Cols := sortE (powers cs)
theorem powers_len (cs : Cols) : ∀ (f : List Cols), (cs.foldl (fun found c => found ++ found.map (· ++ [c])) f).length = f.length * 2 ^ cs.length := by
  induction cs with
  | nil => intro f; simp
  | cons c cs ih =>
    intro f
    rw [List.foldl_cons, ih]
    simp [Nat.pow_succ]
    rw [Nat.mul_comm (2 ^ cs.length) 2, ← Nat.mul_assoc]
    congr 1
    omega
def setsBody : CSs := (.cons (.put 1 false (.bin .add (.var 1) (.comp (.bin .add (.var 3) (.tup (.cons (.var 2) .nil))) (.name 3) (.seq (.var 1)) .none [3]))) .nil)
theorem sets_for {call : CallF} {v0 : Option Vl} {h : HP} : ∀ (cs : Cols) (f : List Cols) (o2 : Option Vl), f.length * 2 ^ cs.length ≤ LIM → (∀ c ∈ f, c.length + cs.length ≤ LIM) →
    ∃ o2', forL (fun x ρ h => (ofOpt (bindT (.name 2) x ρ) h).bind fun ρ h => exs call fw setsBody ρ h) (cs.map enc) [v0, some (.dat (.list (f.map enc))), o2, none] h = .ok (.next [v0, some (.dat (.list ((cs.foldl (fun found c => found ++ found.map (· ++ [c])) f).map enc))), o2', none]) h := by
  intro cs
  induction cs with
  | nil => intro f o2 _ _; exact ⟨o2, rfl⟩
  | cons c cs ih =>
    intro f o2 hl hc
    have hp : 1 ≤ 2 ^ cs.length := Nat.one_le_two_pow
    have hl' : f.length + f.length ≤ LIM := by
      have : f.length * 2 ^ (c :: cs).length = (f.length + f.length) * 2 ^ cs.length := by
        rw [List.length_cons, Nat.pow_succ, Nat.mul_comm (2 ^ cs.length) 2, ← Nat.mul_assoc]
        congr 1
        omega
      rw [this] at hl
      exact Nat.le_trans (Nat.le_mul_of_pos_right _ hp) hl
    have comp : ev call (.comp (.bin .add (.var 3) (.tup (.cons (.var 2) .nil))) (.name 3) (.seq (.var 1)) .none [3]) [v0, some (.dat (.list (f.map enc))), some (.dat (enc c)), none] h = .ok (.new ((f.map (· ++ [c])).map enc)) h := by
      refine ev_comp_of (items := f.map enc) (h1 := h) (by simp) ?_
      rw [List.map_map]
      refine comp_map (g := enc) fun x mx => ?_
      have add : binD .add (enc x) (.tuple [enc c]) = some (.v (.dat (enc (x ++ [c])))) := by
        rw [enc_list, enc_list]
        show (if (x.map (enc : Int → PyData)).length + 1 ≤ LIM then some (RV.v (.dat (.tuple (x.map enc ++ [enc c])))) else none) = _
        rw [if_pos (by have := hc x mx; simp only [List.length_cons] at this; rw [List.length_map]; omega), List.map_append]
        rfl
      simp [add]
    have addL : binD .add (.list (f.map enc)) (.list ((f.map (· ++ [c])).map enc)) = some (.new ((f ++ f.map (· ++ [c])).map enc)) := by
      show (if (f.map (enc : Cols → PyData)).length + ((f.map (· ++ [c])).map (enc : Cols → PyData)).length ≤ LIM then some (RV.new (f.map enc ++ (f.map (· ++ [c])).map enc)) else none) = _
      rw [if_pos (by simp only [List.length_map]; exact hl'), List.map_append]
    have step : ex call fw (.put 1 false (.bin .add (.var 1) (.comp (.bin .add (.var 3) (.tup (.cons (.var 2) .nil))) (.name 3) (.seq (.var 1)) .none [3]))) [v0, some (.dat (.list (f.map enc))), some (.dat (enc c)), none] h = .ok (.next [v0, some (.dat (.list ((f ++ f.map (· ++ [c])).map enc))), some (.dat (enc c)), none]) h := by
      rw [ex_put, ev_bin, ev_var]
      simp only [getV_succ, getV_zero, Option.map_some, ofOpt_some, Res.bind_ok, comp, dat1_dat, dat1_new, Option.bind_some, addL, putS_newF]
      simp
    obtain ⟨p2, e⟩ := ih (f ++ f.map (· ++ [c])) (some (.dat (enc c))) (by
      rw [List.length_append, List.length_map]
      have : f.length * 2 ^ (c :: cs).length = (f.length + f.length) * 2 ^ cs.length := by
        rw [List.length_cons, Nat.pow_succ, Nat.mul_comm (2 ^ cs.length) 2, ← Nat.mul_assoc]
        congr 1
        omega
      rw [← this]
      exact hl) (fun x mx => by
      rcases List.mem_append.mp mx with mx | mx
      · have := hc x mx
        simp only [List.length_cons] at this
        omega
      · obtain ⟨y, my, rfl⟩ := List.mem_map.mp mx
        have := hc y my
        simp only [List.length_cons, List.length_append, List.length_nil] at this ⊢
        omega)
    refine ⟨p2, ?_⟩
    have b1 : (ofOpt (bindT (.name 2) (enc c) [v0, some (.dat (.list (f.map enc))), o2, none]) h).bind (fun ρ h => exs call fw setsBody ρ h) = .ok (.next [v0, some (.dat (.list ((f ++ f.map (· ++ [c])).map enc))), some (.dat (enc c)), none]) h := by
      simp only [bindT_name, List.length_cons, List.length_nil]
      rw [if_pos (by omega)]
      simp only [List.set_cons_succ, List.set_cons_zero, ofOpt_some, Res.bind_ok]
      unfold setsBody
      rw [exs_cons', step]
      rfl
    refine (congrArg (fun z => Res.bind z _) b1).trans ?_
    simp only [Res.bind_ok]
    exact e
theorem run_sets {fid : Nat} {dd : Def} (hP : P.lookup fid = some dd) (hnp : dd.np = 1) (hN : dd.N.length = 4) (hb : dd.body = .cons (.put 1 false (.lst (.cons (.tup .nil) .nil))) (.cons (.loop (.name 2) (.seq (.var 0)) setsBody) (.cons (.ret (.sorted (.many .int) (.var 1))) .nil))) {cs : Cols} (hc : cs.length ≤ 16) {d : PyData} (hd : itemsD d = some (cs.map enc)) (h : HP) :
    Runs P fw 1 fid [.dat d] h (.ok (.new ((allSets cs).map enc)) h) := by
  refine Runs.start (K := 0) (ρ := [some (.dat d), none, none, none]) hP (by rw [hnp]; rfl) (by unfold startE; rw [hN]; rfl) hb fun k hk => ?_
  obtain ⟨p2, e⟩ := sets_for (fw := fw) (call := run P fw k) (v0 := some (.dat d)) (h := h) cs [[]] none (by
    have : 2 ^ cs.length ≤ 2 ^ 16 := Nat.pow_le_pow_right (by omega) hc
    have h2 : 2 ^ 16 ≤ LIM := by decide
    simp
    omega) (fun x mx => by
    have : (1000 : Nat) ≤ LIM := by decide
    rw [List.mem_singleton.mp mx]
    simp
    omega)
  have e1 : ex (run P fw k) fw (.put 1 false (.lst (.cons (.tup .nil) .nil))) [some (.dat d), none, none, none] h = .ok (.next [some (.dat d), some (.dat (.list (([[]] : List Cols).map enc))), none, none]) h := by
    simp [enc_list]
  have srt : sortedD (.many .int) (.list ((powers cs).map enc)) = some (.new ((allSets cs).map enc)) := sorted_enc (α := Cols) (by decide) _
  rw [exs_cons', e1, andThen_next, exs_cons', ex_loop_of (h1 := h) (items := cs.map enc) (by simp [hd]) e, andThen_next]
  have pw : cs.foldl (fun found c => found ++ found.map (· ++ [c])) [[]] = powers cs := rfl
  simp [pw, srt]
/-- the members -/
theorem mem_powers (cs : Cols) : ∀ (f : List Cols) (x : Cols), x ∈ cs.foldl (fun found c => found ++ found.map (· ++ [c])) f ↔ ∃ y ∈ f, ∃ z : Cols, z.Sublist cs ∧ x = y ++ z := by
  induction cs with
  | nil =>
    intro f x
    constructor
    · intro m; exact ⟨x, m, [], List.Sublist.refl _, by simp⟩
    · rintro ⟨y, my, z, hz, rfl⟩
      rw [List.sublist_nil.mp hz]
      simpa using my
  | cons c cs ih =>
    intro f x
    rw [List.foldl_cons, ih]
    constructor
    · rintro ⟨y, my, z, hz, rfl⟩
      rcases List.mem_append.mp my with my | my
      · exact ⟨y, my, z, hz.cons c, rfl⟩
      · obtain ⟨y', my', rfl⟩ := List.mem_map.mp my
        exact ⟨y', my', c :: z, hz.cons_cons c, by simp⟩
    · rintro ⟨y, my, z, hz, rfl⟩
      cases hz with
      | cons _ h => exact ⟨y, List.mem_append_left _ my, z, h, rfl⟩
      | cons_cons _ h => exact ⟨y ++ [c], List.mem_append_right _ (List.mem_map.mpr ⟨y, my, rfl⟩), _, h, by simp⟩
theorem mem_allSets {cs x : Cols} : x ∈ allSets cs ↔ x.Sublist cs := by
  rw [allSets, (sortE_perm _).mem_iff, powers, mem_powers]
  constructor
  · rintro ⟨y, my, z, hz, rfl⟩
    rw [List.mem_singleton.mp my]
    simpa using hz
  · intro h
    exact ⟨[], by simp, x, h, by simp⟩
end
end TB
set_option maxHeartbeats 4000000
namespace TB
open PySem
open Enc (enc)
/-! ### closed sets -/
def d_find_closed : Def := ⟨"find_closed", ["width", "dependencies", "one"], 2, (.cons (.ret (.comp (.var 2) (.name 2) (.seq (.call 55 (.cons (.b1 .listRange (.var 0)) .nil))) (.some (.cmp .eq (.call 23 (.cons (.var 1) (.cons (.var 2) .nil))) (.var 2))) [2])) .nil)⟩
def d_closed_sets : Def := ⟨"closed_sets", ["width", "dependencies"], 2, (.cons (.exp (.call 19 (.cons (.var 0) (.cons (.var 1) .nil)))) (.cons (.ret (.call 66 (.cons (.var 0) (.cons (.var 1) .nil)))) .nil))⟩
def d_law_sets : Def := ⟨"_law_sets", ["columns", "found", "column", "old"], 1, (.cons (.put 1 false (.lst (.cons (.tup .nil) .nil))) (.cons (.loop (.name 2) (.seq (.var 0)) (.cons (.put 1 false (.bin .add (.var 1) (.comp (.bin .add (.var 3) (.tup (.cons (.var 2) .nil))) (.name 3) (.seq (.var 1)) .none [3]))) .nil)) (.cons (.ret (.sorted (.many .int) (.var 1))) .nil)))⟩
def d_law_within : Def := ⟨"_law_within", ["some", "others", "one"], 2, (.cons (.ret (.cmp .eq (.comp (.var 2) (.name 2) (.seq (.var 0)) (.some (.cmp .notin (.var 2) (.var 1))) [2]) (.lst .nil))) .nil)⟩
def d_law_closed : Def := ⟨"_law_closed", ["width", "rules", "found", "own", "left", "right"], 2, (.cons (.put 2 true (.lst .nil)) (.cons (.loop (.name 3) (.seq (.call 28 (.cons (.b1 .listRange (.var 0)) .nil))) (.cons (.ite (.cmp .eq (.comp (.cst (.int 1)) (.cons (.name 4) (.cons (.name 5) .nil)) (.seq (.var 1)) (.some (.and (.call 29 (.cons (.var 4) (.cons (.var 3) .nil))) (.not (.call 29 (.cons (.var 5) (.cons (.var 3) .nil)))))) [4, 5]) (.lst .nil)) (.cons (.exp (.meth .append (.var 2) (.var 3))) .nil) .nil) .nil)) (.cons (.ret (.var 2)) .nil)))⟩
/-- closed under the rules, as the law looks -/
def closedB (rs : List Rule) (s : Cols) : Bool := rs.all fun r => !(partB r.1 s && !partB r.2 s)
theorem closedB_iff {rs : List Rule} {s : Cols} : closedB rs s = true ↔ Closed rs s := by
  unfold closedB Closed
  rw [List.all_eq_true]
  constructor
  · intro h r m hl
    have := h r m
    rw [partB_iff.mpr hl, Bool.true_and, Bool.not_not] at this
    exact partB_iff.mp this
  · intro h r m
    cases e : partB r.1 s with
    | false => rfl
    | true => rw [partB_iff.mpr (h r m (partB_iff.mp e))]; rfl
theorem closed_ext {rs : List Rule} {s t : Cols} (h : ∀ x, x ∈ s ↔ x ∈ t) (c : Closed rs s) : Closed rs t := fun r m hl x mx => (h x).mp (c r m (fun y my => (h y).mpr (hl y my)) x mx)
theorem clo_eq_iff {rs : List Rule} {s : Cols} (hs : RisE s) : clo rs s = s ↔ Closed rs s := by
  constructor
  · intro e
    have hc := clos_closed rs s
    refine closed_ext (fun x => ?_) hc
    rw [← mem_clo, e]
  · intro hc
    have e : closF rs (rights rs) s = s := by
      cases rights rs with
      | zero => rfl
      | succ n => unfold closF; rw [if_pos (fix_of_closed hc)]
    unfold clo clos
    rw [e, sortE_self (risE_srt hs)]
theorem rise_of_sub {w : Nat} {s : Cols} (h : s.Sublist (upTo w)) : RisE s := (upTo_rise w).sublist h
/-- a rising list of such columns is among all sets -/
theorem sub_of_rise : ∀ {l m : Cols}, RisE l → RisE m → (∀ x ∈ l, x ∈ m) → l.Sublist m
  | [], m, _, _, _ => List.nil_sublist m
  | x :: l, [], _, _, hs => absurd (hs x (List.mem_cons_self ..)) (by simp)
  | x :: l, y :: m, hl, hm, hs => by
    obtain ⟨l1, l2⟩ := List.pairwise_cons.mp hl
    obtain ⟨m1, m2⟩ := List.pairwise_cons.mp hm
    by_cases e : x = y
    · subst e
      refine (sub_of_rise l2 m2 fun z mz => ?_).cons_cons x
      rcases List.mem_cons.mp (hs z (List.mem_cons_of_mem _ mz)) with q | q
      · subst q
        have := l1 z mz
        rw [ltE_irr] at this
        cases this
      · exact q
    · refine (sub_of_rise hl m2 fun z mz => ?_).cons y
      rcases List.mem_cons.mp (hs z mz) with q | q
      · exfalso
        subst q
        have hx : x ∈ m := by
          rcases List.mem_cons.mp (hs x (List.mem_cons_self ..)) with q | q
          · exact absurd q e
          · exact q
        have h1 := m1 x hx
        rcases List.mem_cons.mp mz with q | q
        · exact e q.symm
        · have := l1 z q
          rw [ltE_asym h1] at this
          cases this
      · exact q
theorem good_sub {w : Nat} {s : Cols} : GoodC w s ↔ s.Sublist (upTo w) := by
  constructor
  · intro g
    exact sub_of_rise g.2 (upTo_rise w) fun x m => mem_upTo.mpr (by have := g.1 x m; omega)
  · intro h
    refine ⟨fun x m => ?_, rise_of_sub h⟩
    have := mem_upTo.mp (h.subset m)
    omega
theorem mem_sets {w : Nat} {s : Cols} : s ∈ allSets (upTo w) ↔ GoodC w s := by rw [mem_allSets, good_sub]
section
variable {P : Prog} {fw : Nat}
theorem listRange_upTo {w : Nat} (h : w ≤ 1000) : b1D .listRange (.int (w : Int)) = some (.new ((upTo w).map enc)) := by
  show (if smallI (w : Int) then some (RV.new (rangeD 0 w)) else none) = _
  rw [small_nat h, if_pos rfl, rangeD_upTo]
theorem len_upTo (w : Nat) : (upTo w).length = w := by simp [upTo]
theorem nodup_right {w : Int} {rs : List Rule} (g : ∀ r ∈ rs, GoodC w r.1 ∧ GoodC w r.2 ∧ r.2 ≠ []) : ∀ r ∈ rs, r.2.Nodup := fun r m => risE_nodup (g r m).2.1.2
theorem good_len {w : Nat} {s : Cols} (g : GoodC w s) : s.length ≤ w := by
  have := (good_sub.mp g).length_le
  rw [len_upTo] at this
  exact this
theorem rights_le {w : Nat} : ∀ {rs : List Rule}, (∀ r ∈ rs, GoodC w r.1 ∧ GoodC w r.2 ∧ r.2 ≠ []) → rights rs ≤ rs.length * w
  | [], _ => by simp [rights]
  | r :: rs, g => by
    have := rights_le fun q m => g q (List.mem_cons_of_mem _ m)
    have h2 := good_len (g r (List.mem_cons_self ..)).2.1
    unfold rights at *
    rw [List.flatMap_cons, List.length_append, List.length_cons, Nat.succ_mul]
    omega
theorem run_find_closed (h22 : P.lookup 22 = some d_is_part) (h23 : P.lookup 23 = some d_closure_of) (h55 : P.lookup 55 = some d_all_sets) (h66 : P.lookup 66 = some d_find_closed) (hf : 200 ≤ fw) {w : Nat} (hw : w ≤ 6) {rs : List Rule} (g : GoodR w rs) (h : HP) :
    Runs P fw 3 66 [.dat (.int w), .dat (enc rs)] h (.ok (.new (((allSets (upTo w)).filter (closedB rs)).map enc)) h) := by
  refine Runs.start (K := 2) (ρ := [some (.dat (.int w)), some (.dat (enc rs)), none]) h66 rfl rfl rfl fun k hk => ?_
  have hR : rights rs ≤ 100 := by
    have h1 := rights_le g.cols
    have h2 : rs.length * w ≤ 8 * 6 := Nat.mul_le_mul g.few hw
    omega
  have sets := run_sets (fw := fw) h55 rfl rfl rfl (cs := upTo w) (by rw [len_upTo]; omega) (d := .list ((upTo w).map enc)) rfl h k (by omega)
  have comp : ev (run P fw k) (.comp (.var 2) (.name 2) (.seq (.call 55 (.cons (.b1 .listRange (.var 0)) .nil))) (.some (.cmp .eq (.call 23 (.cons (.var 1) (.cons (.var 2) .nil))) (.var 2))) [2]) [some (.dat (.int w)), some (.dat (enc rs)), none] h = .ok (.new (((allSets (upTo w)).filter (closedB rs)).map enc)) h := by
    refine ev_comp_of (items := (allSets (upTo w)).map enc) (h1 := h) ?_ ?_
    · simp [listRange_upTo (show w ≤ 1000 by omega), sets]
    · refine comp_filter (g := enc) (f := enc) fun s ms => ?_
      have gs := mem_sets.mp ms
      have cl := run_closure (fw := fw) h22 h23 hf (nodup_right g.cols) hR (risE_nodup gs.2) (by have := good_len gs; omega) (d := enc s) (by rw [enc_list]; rfl) h k hk
      have ce : decide (clo rs s = s) = closedB rs s := by
        cases e : closedB rs s with
        | true => exact decide_eq_true ((clo_eq_iff gs.2).mpr (closedB_iff.mp e))
        | false =>
          refine decide_eq_false fun z => ?_
          rw [closedB_iff.mpr ((clo_eq_iff gs.2).mp z)] at e
          cases e
      simp [cl, cmp_eq (α := Cols) (by decide), ce]
      split <;> rfl
  have hb : d_find_closed.body = .cons (.ret (.comp (.var 2) (.name 2) (.seq (.call 55 (.cons (.b1 .listRange (.var 0)) .nil))) (.some (.cmp .eq (.call 23 (.cons (.var 1) (.cons (.var 2) .nil))) (.var 2))) [2])) .nil := rfl
  rw [hb, exs_cons', ex_ret, comp]
  simp
theorem run_within (h29 : P.lookup 29 = some d_law_within) (xs ys : Cols) (h : HP) {d1 d2 : PyData} (hd1 : itemsD d1 = some (xs.map enc)) (hd2 : d2 = .tuple (ys.map enc) ∨ d2 = .list (ys.map enc)) : Runs P fw 1 29 [.dat d1, .dat d2] h (okB (partB xs ys) h) := by
  refine Runs.start (K := 0) (ρ := [some (.dat d1), some (.dat d2), none]) h29 rfl rfl rfl fun k hk => ?_
  have comp : ev (run P fw k) (.comp (.var 2) (.name 2) (.seq (.var 0)) (.some (.cmp .notin (.var 2) (.var 1))) [2]) [some (.dat d1), some (.dat d2), none] h = .ok (.new ((xs.filter fun x => !decide (x ∈ ys)).map enc)) h := by
    refine ev_comp_of (items := xs.map enc) (h1 := h) (by simp [hd1]) (comp_filter (g := enc) (f := enc) fun x _ => ?_)
    rcases hd2 with rfl | rfl
    · simp [cmp_nin_tup (α := Int) (by decide)]
      split <;> rfl
    · simp [cmp_nin_list (α := Int) (by decide)]
      split <;> rfl
  have hb : d_law_within.body = .cons (.ret (.cmp .eq (.comp (.var 2) (.name 2) (.seq (.var 0)) (.some (.cmp .notin (.var 2) (.var 1))) [2]) (.lst .nil))) .nil := rfl
  have ce := cmp_eqL (α := Int) (by decide) (xs.filter fun x => !decide (x ∈ ys)) []
  have eb : decide ((xs.filter fun x => !decide (x ∈ ys)) = []) = partB xs ys := by
    cases e : partB xs ys with
    | true =>
      refine decide_eq_true (List.filter_eq_nil_iff.mpr fun x m => ?_)
      simpa using partB_iff.mp e x m
    | false =>
      refine decide_eq_false fun z => ?_
      have : partB xs ys = true := partB_iff.mpr fun x m => by
        have := List.filter_eq_nil_iff.mp z x m
        simpa using this
      rw [this] at e
      cases e
  rw [eb] at ce
  rw [hb, exs_cons', ex_ret, ev_cmp, comp]
  simp at ce
  simp [ce]
def lclBody : CSs := (.cons (.ite (.cmp .eq (.comp (.cst (.int 1)) (.cons (.name 4) (.cons (.name 5) .nil)) (.seq (.var 1)) (.some (.and (.call 29 (.cons (.var 4) (.cons (.var 3) .nil))) (.not (.call 29 (.cons (.var 5) (.cons (.var 3) .nil)))))) [4, 5]) (.lst .nil)) (.cons (.exp (.meth .append (.var 2) (.var 3))) .nil) .nil) .nil)
theorem lcl_for {k : Nat} (hk : 1 ≤ k) (h29 : P.lookup 29 = some d_law_within) {v0 : Option Vl} {rs : List Rule} {h : HP} : ∀ (ss : List Cols) (f : List Cols) (o3 : Option Vl), f.length + ss.length ≤ LIM →
    ∃ o3', forL (fun x ρ h => (ofOpt (bindT (.name 3) x ρ) h).bind fun ρ h => exs (run P fw k) fw lclBody ρ h) (ss.map enc) [v0, some (.dat (enc rs)), some (.loc h.length), o3, none, none] (h ++ [f.map enc]) = .ok (.next [v0, some (.dat (enc rs)), some (.loc h.length), o3', none, none]) (h ++ [(f ++ ss.filter (closedB rs)).map enc]) := by
  intro ss
  induction ss with
  | nil => intro f o3 _; exact ⟨o3, by simp [forL]⟩
  | cons s ss ih =>
    intro f o3 hl
    have comp : ev (run P fw k) (.comp (.cst (.int 1)) (.cons (.name 4) (.cons (.name 5) .nil)) (.seq (.var 1)) (.some (.and (.call 29 (.cons (.var 4) (.cons (.var 3) .nil))) (.not (.call 29 (.cons (.var 5) (.cons (.var 3) .nil)))))) [4, 5]) [v0, some (.dat (enc rs)), some (.loc h.length), some (.dat (enc s)), none, none] (h ++ [f.map enc]) = .ok (.new ((rs.filter fun r => partB r.1 s && !partB r.2 s).map fun _ => .int 1)) (h ++ [f.map enc]) := by
      refine ev_comp_of (items := rs.map enc) (h1 := h ++ [f.map enc]) (by simp [enc_list]) (comp_filter (g := enc) fun r _ => ?_)
      have w1 := run_within (fw := fw) h29 r.1 s (h ++ [f.map enc]) (d1 := enc r.1) (d2 := enc s) rfl (.inl rfl) k hk
      have w2 := run_within (fw := fw) h29 r.2 s (h ++ [f.map enc]) (d1 := enc r.2) (d2 := enc s) rfl (.inl rfl) k hk
      rw [enc_pair]
      simp [w1, w2]
      cases partB r.1 s <;> cases partB r.2 s <;> simp
    have ce : cmpD .eq (.list ((rs.filter fun r => partB r.1 s && !partB r.2 s).map fun _ => PyData.int 1)) (.list []) = some (closedB rs s) := by
      have e1 : ((rs.filter fun r => partB r.1 s && !partB r.2 s).map fun _ => PyData.int 1) = ((rs.filter fun r => partB r.1 s && !partB r.2 s).map fun _ => (1 : Int)).map enc := by rw [List.map_map]; rfl
      have e2 := cmp_eqL (α := Int) (by decide) ((rs.filter fun r => partB r.1 s && !partB r.2 s).map fun _ => (1 : Int)) []
      rw [← e1] at e2
      have e3 : decide (((rs.filter fun r => partB r.1 s && !partB r.2 s).map fun _ => (1 : Int)) = []) = closedB rs s := by
        cases e : closedB rs s with
        | true =>
          refine decide_eq_true ?_
          rw [List.map_eq_nil_iff, List.filter_eq_nil_iff]
          intro r m
          have := List.all_eq_true.mp e r m
          cases e1 : partB r.1 s <;> cases e2 : partB r.2 s <;> simp [e1, e2] at this ⊢
        | false =>
          refine decide_eq_false fun z => ?_
          rw [List.map_eq_nil_iff, List.filter_eq_nil_iff] at z
          have : closedB rs s = true := List.all_eq_true.mpr fun r m => by
            have := z r m
            cases e1 : partB r.1 s <;> cases e2 : partB r.2 s <;> simp [e1, e2] at this ⊢
          rw [this] at e
          cases e
      rw [e3] at e2
      exact e2
    have b1 : (ofOpt (bindT (.name 3) (enc s) [v0, some (.dat (enc rs)), some (.loc h.length), o3, none, none]) (h ++ [f.map enc])).bind (fun ρ h => exs (run P fw k) fw lclBody ρ h) = .ok (.next [v0, some (.dat (enc rs)), some (.loc h.length), some (.dat (enc s)), none, none]) (h ++ [(if closedB rs s then f ++ [s] else f).map enc]) := by
      simp only [bindT_name, List.length_cons, List.length_nil]
      rw [if_pos (by omega)]
      simp only [List.set_cons_succ, List.set_cons_zero, ofOpt_some, Res.bind_ok]
      unfold lclBody
      rw [exs_cons', ex_ite, ev_cmp, comp]
      simp only [Res.bind_ok, ev_lst, evVs_nil, allDat_nil, Option.map_some, ofOpt_some, dat1_new, Option.bind_some, ce, dat1_dat, truth_bool]
      cases closedB rs s with
      | false => simp
      | true =>
        have ha := append_loc (h := h ++ [f.map enc]) (n := h.length) (xs := f.map enc) (by simp) (by simp only [List.length_map, List.length_cons] at hl ⊢; omega) (enc s)
        simp [ha]
    obtain ⟨p3, e⟩ := ih (if closedB rs s then f ++ [s] else f) (some (.dat (enc s))) (by
      simp only [List.length_cons] at hl
      split
      · simp; omega
      · omega)
    refine ⟨p3, ?_⟩
    refine (congrArg (fun z => Res.bind z _) b1).trans ?_
    simp only [Res.bind_ok]
    rw [e, List.filter_cons]
    cases closedB rs s <;> simp
theorem sets_len (w : Nat) : (allSets (upTo w)).length = 2 ^ w := by
  rw [allSets, (sortE_perm _).length_eq, powers, powers_len, len_upTo]
  simp
theorem run_law_closed (h28 : P.lookup 28 = some d_law_sets) (h29 : P.lookup 29 = some d_law_within) (h30 : P.lookup 30 = some d_law_closed) {w : Nat} (hw : w ≤ 16) (rs : List Rule) (h : HP) :
    Runs P fw 2 30 [.dat (.int w), .dat (enc rs)] h (.ok (.new (((allSets (upTo w)).filter (closedB rs)).map enc)) h) := by
  refine Runs.start (K := 1) (ρ := [some (.dat (.int w)), some (.dat (enc rs)), none, none, none, none]) h30 rfl rfl rfl fun k hk => ?_
  have sets := run_sets (fw := fw) h28 rfl rfl rfl (cs := upTo w) (by rw [len_upTo]; omega) (d := .list ((upTo w).map enc)) rfl (h ++ [[]]) k hk
  obtain ⟨p3, e⟩ := lcl_for (fw := fw) (v0 := some (.dat (.int w))) (rs := rs) (h := h) hk h29 (allSets (upTo w)) [] none (by
    rw [sets_len]
    have : 2 ^ w ≤ 2 ^ 16 := Nat.pow_le_pow_right (by omega) hw
    have h2 : 2 ^ 16 ≤ LIM := by decide
    simp
    omega)
  have hb : d_law_closed.body = .cons (.put 2 true (.lst .nil)) (.cons (.loop (.name 3) (.seq (.call 28 (.cons (.b1 .listRange (.var 0)) .nil))) lclBody) (.cons (.ret (.var 2)) .nil)) := rfl
  have e1 : ex (run P fw k) fw (.put 2 true (.lst .nil)) [some (.dat (.int w)), some (.dat (enc rs)), none, none, none, none] h = .ok (.next [some (.dat (.int w)), some (.dat (enc rs)), some (.loc h.length), none, none, none]) (h ++ [[]]) := by simp
  rw [hb, exs_cons', e1, andThen_next, exs_cons', ex_loop_of (h1 := h ++ [[]]) (items := (allSets (upTo w)).map enc) (by simp [listRange_upTo (show w ≤ 1000 by omega), sets]) e, andThen_next]
  simp [leave, outOf]
/-- what is asked of a program that has these defs -/
structure HasBasics (P : Prog) : Prop where
  f0 : P.lookup 0 = some d_is_integer
  f1 : P.lookup 1 = some d_is_rising
  f2 : P.lookup 2 = some d_are_columns
  f3 : P.lookup 3 = some d_is_valid_dependency
  f4 : P.lookup 4 = some d_are_valid_dependencies
  f5 : P.lookup 5 = some d_require_width
  f19 : P.lookup 19 = some d_require_dependencies
theorem width_ok {w : Nat} (h : 1 ≤ w ∧ w ≤ 6) : isIntB (.int (w : Int)) 1 6 = true := by
  simp only [isIntB, Bool.and_eq_true, decide_eq_true_eq]
  omega
theorem run_closed_sets (B : HasBasics P) (h22 : P.lookup 22 = some d_is_part) (h23 : P.lookup 23 = some d_closure_of) (h55 : P.lookup 55 = some d_all_sets) (h66 : P.lookup 66 = some d_find_closed) (h67 : P.lookup 67 = some d_closed_sets) (hf : 200 ≤ fw) {w : Nat} (hw : 1 ≤ w ∧ w ≤ 6) {rs : List Rule} (g : GoodR w rs) (h : HP) :
    Runs P fw 6 67 [.dat (.int w), .dat (enc rs)] h (.ok (.new (((allSets (upTo w)).filter (closedB rs)).map enc)) h) := by
  refine Runs.start (K := 5) (ρ := [some (.dat (.int w)), some (.dat (enc rs))]) h67 rfl rfl rfl fun k hk => ?_
  have r1 := run_require_deps (fw := fw) B.f0 B.f1 B.f2 B.f3 B.f4 B.f5 B.f19 (.int w) (enc rs) (by
    intro x mx ys e y my
    obtain ⟨r, mr, rfl⟩ := List.mem_map.mp mx
    rw [enc_pair] at e
    cases e
    have hl : (6 : Nat) ≤ LIM := by decide
    obtain ⟨g1, g2, _⟩ := g.cols r mr
    rcases List.mem_cons.mp my with rfl | my
    · show (r.1.map (enc : Int → PyData)).length ≤ LIM
      rw [List.length_map]
      have := good_len g1
      omega
    · rw [List.mem_singleton.mp my]
      show (r.2.map (enc : Int → PyData)).length ≤ LIM
      rw [List.length_map]
      have := good_len g2
      omega) h k (by omega)
  simp only [reqR, width_ok hw, deps_good g, if_true] at r1
  have r2 := run_find_closed (fw := fw) h22 h23 h55 h66 hf hw.2 g h k (by omega)
  simp [d_closed_sets, r1, r2]
theorem run_closed_sets_bad (B : HasBasics P) (h67 : P.lookup 67 = some d_closed_sets) (c r : PyData) (hl : lenOk2 r) (h : HP) {e : Nat} (he : reqR c r h = .exc e h) :
    Runs P fw 6 67 [.dat c, .dat r] h (.exc e h) := by
  refine Runs.start (K := 5) (ρ := [some (.dat c), some (.dat r)]) h67 rfl rfl rfl fun k hk => ?_
  have r1 := run_require_deps (fw := fw) B.f0 B.f1 B.f2 B.f3 B.f4 B.f5 B.f19 c r hl h k (by omega)
  rw [he] at r1
  simp [d_closed_sets, r1]
end
end TB
set_option maxHeartbeats 4000000
namespace TB
open PySem
open Enc (enc)
/-! ### closure, implies -/
def d_require_dependency : Def := ⟨"require_dependency", ["width", "dependency"], 2, (.cons (.ite (.not (.call 3 (.cons (.var 0) (.cons (.var 1) .nil)))) (.cons (.raise 3) .nil) .nil) .nil)⟩
def d_require_columns : Def := ⟨"require_columns", ["width", "columns", "least"], 3, (.cons (.ite (.or (.not (.call 2 (.cons (.var 0) (.cons (.var 1) .nil)))) (.cmp .lt (.b1 .len (.var 1)) (.var 2))) (.cons (.raise 4) .nil) .nil) .nil)⟩
def d_closure : Def := ⟨"closure", ["width", "dependencies", "columns"], 3, (.cons (.exp (.call 19 (.cons (.var 0) (.cons (.var 1) .nil)))) (.cons (.exp (.call 21 (.cons (.var 0) (.cons (.var 2) (.cons (.cst (.int 0)) .nil))))) (.cons (.ret (.call 23 (.cons (.var 1) (.cons (.var 2) .nil)))) .nil)))⟩
def d_is_implied : Def := ⟨"is_implied", ["dependencies", "dependency"], 2, (.cons (.ret (.call 22 (.cons (.idx (.var 1) (.cst (.int 1))) (.cons (.call 23 (.cons (.var 0) (.cons (.idx (.var 1) (.cst (.int 0))) .nil))) .nil)))) .nil)⟩
def d_require_all : Def := ⟨"require_all", ["width", "dependencies", "dependency"], 3, (.cons (.exp (.call 19 (.cons (.var 0) (.cons (.var 1) .nil)))) (.cons (.exp (.call 20 (.cons (.var 0) (.cons (.var 2) .nil)))) .nil))⟩
def d_implies : Def := ⟨"implies", ["width", "dependencies", "dependency"], 3, (.cons (.exp (.call 26 (.cons (.var 0) (.cons (.var 1) (.cons (.var 2) .nil))))) (.cons (.ret (.call 25 (.cons (.var 1) (.cons (.var 2) .nil)))) .nil))⟩
theorem clo_sub {rs : List Rule} {K : Cols} : ∀ x ∈ K, x ∈ clo rs K := fun x m => mem_clo.mpr (clos_sub rs K x m)
theorem clo_closed {rs : List Rule} {K : Cols} : Closed rs (clo rs K) := closed_ext (fun x => mem_clo.symm) (clos_closed rs K)
theorem clo_least {rs : List Rule} {K C : Cols} (hc : Closed rs C) (hk : ∀ x ∈ K, x ∈ C) : ∀ x ∈ clo rs K, x ∈ C := fun x m => clos_least hc hk x (mem_clo.mp m)
theorem clo_good {w : Nat} {rs : List Rule} (g : ∀ r ∈ rs, GoodC w r.1 ∧ GoodC w r.2 ∧ r.2 ≠ []) {K : Cols} (gk : GoodC w K) : GoodC w (clo rs K) := by
  refine ⟨fun x m => ?_, clo_rise (nodup_right g) (risE_nodup gk.2)⟩
  have hc : Closed rs (upTo w) := fun r mr _ y my => mem_upTo.mpr (by have := (g r mr).2.1.1 y my; omega)
  have := mem_upTo.mp (clo_least hc (fun y my => mem_upTo.mpr (by have := gk.1 y my; omega)) x m)
  omega
/-- the closure is what all closed sets around have in common -/
theorem clo_common {w : Nat} {rs : List Rule} (g : ∀ r ∈ rs, GoodC w r.1 ∧ GoodC w r.2 ∧ r.2 ≠ []) {K : Cols} (gk : GoodC w K) :
    (upTo w).filter (fun x => ((allSets (upTo w)).filter (closedB rs)).all fun own => !partB K own || decide (x ∈ own)) = clo rs K := by
  have gc := clo_good g gk
  refine risE_ext ((upTo_rise w).sublist List.filter_sublist) gc.2 fun x => ?_
  rw [List.mem_filter, List.all_eq_true]
  constructor
  · rintro ⟨_, h⟩
    have := h (clo rs K) (List.mem_filter.mpr ⟨mem_sets.mpr gc, closedB_iff.mpr clo_closed⟩)
    rw [partB_iff.mpr clo_sub] at this
    simpa using this
  · intro m
    refine ⟨mem_upTo.mpr (by have := gc.1 x m; omega), fun own mo => ?_⟩
    obtain ⟨_, co⟩ := List.mem_filter.mp mo
    cases e : partB K own with
    | false => rfl
    | true =>
      have := clo_least (closedB_iff.mp co) (partB_iff.mp e) x m
      simpa using this
section
variable {P : Prog} {fw : Nat}
theorem run_require_dep (B : HasBasics P) (h20 : P.lookup 20 = some d_require_dependency) (w : Int) (d : PyData) (hl : ∀ xs, d = .tuple xs → ∀ x ∈ xs, lenOk x) (h : HP) : Runs P fw 4 20 [.dat (.int w), .dat d] h (if validB w d then okN h else .exc 3 h) := by
  refine Runs.start (K := 3) (ρ := [some (.dat (.int w)), some (.dat d)]) h20 rfl rfl rfl fun k hk => ?_
  simp [d_require_dependency, run_is_valid B.f0 B.f1 B.f2 B.f3 w d hl h k hk]
  cases validB w d <;> simp
theorem run_require_cols (B : HasBasics P) (h21 : P.lookup 21 = some d_require_columns) (w : Int) (c : PyData) (least : Int) (hl : lenOk c) (h : HP) : Runs P fw 3 21 [.dat (.int w), .dat c, .dat (.int least)] h (if areColsB w c && decide (least ≤ (decC c).length) then okN h else .exc 4 h) := by
  refine Runs.start (K := 2) (ρ := [some (.dat (.int w)), some (.dat c), some (.dat (.int least))]) h21 rfl rfl rfl fun k hk => ?_
  have r1 := run_are_columns (fw := fw) B.f0 B.f1 B.f2 w c hl h k hk
  cases e : areColsB w c with
  | false => simp [d_require_columns, r1, e]
  | true =>
    obtain ⟨e1, _⟩ := areCols_enc e
    have el : b1D .len c = some (.v (.dat (.int (decC c).length))) := by
      conv => lhs; rw [e1]
      rw [enc_list, len_tuple, List.length_map]
    simp [d_require_columns, r1, e, el]
    by_cases hl : ((decC c).length : Int) < least
    · simp [hl, show ¬ least ≤ ((decC c).length : Int) by omega]
    · simp [hl, show least ≤ ((decC c).length : Int) by omega]
/-- a dependency is implied -/
def impB (rs : List Rule) (r : Rule) : Bool := partB r.2 (clo rs r.1)
theorem rights_few {w : Nat} {rs : List Rule} (hw : w ≤ 6) (g : GoodR w rs) : rights rs ≤ 100 := by
  have h1 := rights_le g.cols
  have h2 : rs.length * w ≤ 8 * 6 := Nat.mul_le_mul g.few hw
  omega
theorem run_is_implied (h22 : P.lookup 22 = some d_is_part) (h23 : P.lookup 23 = some d_closure_of) (h25 : P.lookup 25 = some d_is_implied) (hf : 200 ≤ fw) {w : Nat} (hw : w ≤ 6) {rs : List Rule} (g : GoodR w rs) {r : Rule} (gr : GoodC w r.1) (h : HP) : Runs P fw 3 25 [.dat (enc rs), .dat (enc r)] h (okB (impB rs r) h) := by
  refine Runs.start (K := 2) (ρ := [some (.dat (enc rs)), some (.dat (enc r))]) h25 rfl rfl rfl fun k hk => ?_
  have c1 := run_closure (fw := fw) h22 h23 hf (nodup_right g.cols) (rights_few hw g) (risE_nodup gr.2) (by have := good_len gr; omega) (d := enc r.1) rfl h k hk
  have c2 := run_is_part (fw := fw) h22 r.2 (clo rs r.1) h (.dat (enc (clo rs r.1))) (.inr rfl) k (by omega)
  have i0 : idxD (enc r) (.int 0) = some (enc r.1) := by rw [enc_pair]; rfl
  have i1 : idxD (enc r) (.int 1) = some (enc r.2) := by rw [enc_pair]; rfl
  simp [d_is_implied, i0, i1, c1, c2, impB]
theorem good_lenOk2 {w : Nat} (hw : w ≤ 6) {rs : List Rule} (g : ∀ r ∈ rs, GoodC w r.1 ∧ GoodC w r.2 ∧ r.2 ≠ []) : lenOk2 (enc rs) := by
  intro x mx ys e y my
  obtain ⟨r, mr, rfl⟩ := List.mem_map.mp mx
  rw [enc_pair] at e
  cases e
  have hl : (6 : Nat) ≤ LIM := by decide
  obtain ⟨g1, g2, _⟩ := g r mr
  rcases List.mem_cons.mp my with rfl | my
  · show (r.1.map (enc : Int → PyData)).length ≤ LIM
    rw [List.length_map]
    have := good_len g1
    omega
  · rw [List.mem_singleton.mp my]
    show (r.2.map (enc : Int → PyData)).length ≤ LIM
    rw [List.length_map]
    have := good_len g2
    omega
theorem req_good (B : HasBasics P) {w : Nat} (hw : 1 ≤ w ∧ w ≤ 6) {rs : List Rule} (g : GoodR w rs) (h : HP) : Runs P fw 5 19 [.dat (.int w), .dat (enc rs)] h (okN h) := by
  have r1 := run_require_deps (fw := fw) B.f0 B.f1 B.f2 B.f3 B.f4 B.f5 B.f19 (.int w) (enc rs) (good_lenOk2 hw.2 g.cols) h
  simp only [reqR, width_ok hw, deps_good g, if_true] at r1
  exact r1
theorem run_closure24 (B : HasBasics P) (h21 : P.lookup 21 = some d_require_columns) (h22 : P.lookup 22 = some d_is_part) (h23 : P.lookup 23 = some d_closure_of) (h24 : P.lookup 24 = some d_closure) (hf : 200 ≤ fw) {w : Nat} (hw : 1 ≤ w ∧ w ≤ 6) {rs : List Rule} (g : GoodR w rs) {c : Cols} (gc : GoodC w c) (h : HP) :
    Runs P fw 6 24 [.dat (.int w), .dat (enc rs), .dat (enc c)] h (.ok (.v (.dat (enc (clo rs c)))) h) := by
  refine Runs.start (K := 5) (ρ := [some (.dat (.int w)), some (.dat (enc rs)), some (.dat (enc c))]) h24 rfl rfl rfl fun k hk => ?_
  have r1 := req_good (fw := fw) B hw g h k hk
  have hl : lenOk (enc c) := by
    show (c.map (enc : Int → PyData)).length ≤ LIM
    have hl : (6 : Nat) ≤ LIM := by decide
    have := good_len gc
    rw [List.length_map]
    omega
  have r2 := run_require_cols (fw := fw) B h21 w (enc c) 0 hl h k (by omega)
  rw [areCols_good gc, if_pos (by simp)] at r2
  have r3 := run_closure (fw := fw) h22 h23 hf (nodup_right g.cols) (rights_few hw.2 g) (risE_nodup gc.2) (by have := good_len gc; omega) (d := enc c) rfl h k (by omega)
  simp [d_closure, r1, r2, r3]
theorem run_closure24_bad1 (B : HasBasics P) (h24 : P.lookup 24 = some d_closure) (c r d : PyData) (hl : lenOk2 r) (h : HP) {e : Nat} (he : reqR c r h = .exc e h) : Runs P fw 6 24 [.dat c, .dat r, .dat d] h (.exc e h) := by
  refine Runs.start (K := 5) (ρ := [some (.dat c), some (.dat r), some (.dat d)]) h24 rfl rfl rfl fun k hk => ?_
  have r1 := run_require_deps (fw := fw) B.f0 B.f1 B.f2 B.f3 B.f4 B.f5 B.f19 c r hl h k (by omega)
  rw [he] at r1
  simp [d_closure, r1]
theorem run_closure24_bad2 (B : HasBasics P) (h21 : P.lookup 21 = some d_require_columns) (h24 : P.lookup 24 = some d_closure) {w : Nat} (hw : 1 ≤ w ∧ w ≤ 6) {rs : List Rule} (g : GoodR w rs) (d : PyData) (hl : lenOk d) (hd : areColsB w d = false) (h : HP) : Runs P fw 6 24 [.dat (.int w), .dat (enc rs), .dat d] h (.exc 4 h) := by
  refine Runs.start (K := 5) (ρ := [some (.dat (.int w)), some (.dat (enc rs)), some (.dat d)]) h24 rfl rfl rfl fun k hk => ?_
  have r1 := req_good (fw := fw) B hw g h k hk
  have r2 := run_require_cols (fw := fw) B h21 w d 0 hl h k (by omega)
  rw [hd] at r2
  simp at r2
  simp [d_closure, r1, r2]
theorem valid_good {w : Int} {r : Rule} (h1 : GoodC w r.1) (h2 : GoodC w r.2) (h3 : r.2 ≠ []) : validB w (enc r) = true := by
  show (areColsB w (enc r.1) && areColsB w (enc r.2) && !isUnit (enc r.2)) = true
  rw [areCols_good h1, areCols_good h2]
  cases e : r.2 with
  | nil => exact absurd e h3
  | cons x l => rfl
theorem rule_lenOk {w : Nat} (hw : w ≤ 6) {r : Rule} (g1 : GoodC w r.1) (g2 : GoodC w r.2) : ∀ xs, (enc r : PyData) = .tuple xs → ∀ x ∈ xs, lenOk x := by
  intro xs e y my
  rw [enc_pair] at e
  cases e
  have hl : (6 : Nat) ≤ LIM := by decide
  rcases List.mem_cons.mp my with rfl | my
  · show (r.1.map (enc : Int → PyData)).length ≤ LIM
    rw [List.length_map]
    have := good_len g1
    omega
  · rw [List.mem_singleton.mp my]
    show (r.2.map (enc : Int → PyData)).length ≤ LIM
    rw [List.length_map]
    have := good_len g2
    omega
theorem run_implies (B : HasBasics P) (h20 : P.lookup 20 = some d_require_dependency) (h22 : P.lookup 22 = some d_is_part) (h23 : P.lookup 23 = some d_closure_of) (h25 : P.lookup 25 = some d_is_implied) (h26 : P.lookup 26 = some d_require_all) (h27 : P.lookup 27 = some d_implies) (hf : 200 ≤ fw) {w : Nat} (hw : 1 ≤ w ∧ w ≤ 6) {rs : List Rule} (g : GoodR w rs) {r : Rule} (g1 : GoodC w r.1) (g2 : GoodC w r.2) (g3 : r.2 ≠ []) (h : HP) :
    Runs P fw 7 27 [.dat (.int w), .dat (enc rs), .dat (enc r)] h (okB (impB rs r) h) := by
  have all : Runs P fw 6 26 [.dat (.int w), .dat (enc rs), .dat (enc r)] h (okN h) := by
    refine Runs.start (K := 5) (ρ := [some (.dat (.int w)), some (.dat (enc rs)), some (.dat (enc r))]) h26 rfl rfl rfl fun k hk => ?_
    have r1 := req_good (fw := fw) B hw g h k hk
    have r2 := run_require_dep (fw := fw) B h20 w (enc r) (rule_lenOk hw.2 g1 g2) h k (by omega)
    rw [valid_good g1 g2 g3] at r2
    simp at r2
    simp [d_require_all, r1, r2]
  refine Runs.start (K := 6) (ρ := [some (.dat (.int w)), some (.dat (enc rs)), some (.dat (enc r))]) h27 rfl rfl rfl fun k hk => ?_
  have r1 := all k hk
  have r2 := run_is_implied (fw := fw) h22 h23 h25 hf hw.2 g g1 h k (by omega)
  simp [d_implies, r1, r2]
theorem run_implies_bad1 (B : HasBasics P) (h26 : P.lookup 26 = some d_require_all) (h27 : P.lookup 27 = some d_implies) (c r d : PyData) (hl : lenOk2 r) (h : HP) {e : Nat} (he : reqR c r h = .exc e h) : Runs P fw 7 27 [.dat c, .dat r, .dat d] h (.exc e h) := by
  have all : Runs P fw 6 26 [.dat c, .dat r, .dat d] h (.exc e h) := by
    refine Runs.start (K := 5) (ρ := [some (.dat c), some (.dat r), some (.dat d)]) h26 rfl rfl rfl fun k hk => ?_
    have r1 := run_require_deps (fw := fw) B.f0 B.f1 B.f2 B.f3 B.f4 B.f5 B.f19 c r hl h k (by omega)
    rw [he] at r1
    simp [d_require_all, r1]
  refine Runs.start (K := 6) (ρ := [some (.dat c), some (.dat r), some (.dat d)]) h27 rfl rfl rfl fun k hk => ?_
  simp [d_implies, all k hk]
theorem run_implies_bad2 (B : HasBasics P) (h20 : P.lookup 20 = some d_require_dependency) (h26 : P.lookup 26 = some d_require_all) (h27 : P.lookup 27 = some d_implies) {w : Nat} (hw : 1 ≤ w ∧ w ≤ 6) {rs : List Rule} (g : GoodR w rs) (d : PyData) (hl : ∀ xs, d = .tuple xs → ∀ x ∈ xs, lenOk x) (hd : validB w d = false) (h : HP) : Runs P fw 7 27 [.dat (.int w), .dat (enc rs), .dat d] h (.exc 3 h) := by
  have all : Runs P fw 6 26 [.dat (.int w), .dat (enc rs), .dat d] h (.exc 3 h) := by
    refine Runs.start (K := 5) (ρ := [some (.dat (.int w)), some (.dat (enc rs)), some (.dat d)]) h26 rfl rfl rfl fun k hk => ?_
    have r1 := req_good (fw := fw) B hw g h k hk
    have r2 := run_require_dep (fw := fw) B h20 w d hl h k (by omega)
    rw [hd] at r2
    simp at r2
    simp [d_require_all, r1, r2]
  refine Runs.start (K := 6) (ρ := [some (.dat (.int w)), some (.dat (enc rs)), some (.dat d)]) h27 rfl rfl rfl fun k hk => ?_
  simp [d_implies, all k hk]
end
/-- a loop that only looks -/
theorem forL_same {body : PyData → EV → HP → Res Fl} {mk : Option Vl → EV} {h : HP} : ∀ (items : List PyData), (∀ x ∈ items, ∀ o, body x (mk o) h = .ok (.next (mk (some (.dat x)))) h) → ∀ o, ∃ o', forL body items (mk o) h = .ok (.next (mk o')) h
  | [], _, o => ⟨o, rfl⟩
  | x :: xs, hb, o => by
    obtain ⟨o', e⟩ := forL_same xs (fun y m => hb y (List.mem_cons_of_mem _ m)) (some (.dat x))
    refine ⟨o', ?_⟩
    refine (congrArg (fun z => Res.bind z _) (hb x (List.mem_cons_self ..) o)).trans ?_
    simp only [Res.bind_ok]
    exact e
theorem nm_dep : cmpD .ne (.str "InvalidDependencies") (.str "InvalidDependencies") = some false := by decide +kernel
theorem nm_wid : cmpD .ne (.str "InvalidWidth") (.str "InvalidWidth") = some false := by decide +kernel
theorem nm_cols : cmpD .ne (.str "InvalidColumns") (.str "InvalidColumns") = some false := by decide +kernel
theorem nm_one : cmpD .ne (.str "InvalidDependency") (.str "InvalidDependency") = some false := by decide +kernel
theorem em_wid : cmpD .eq (.str "InvalidWidth") (.str "InvalidWidth") = some true := by decide +kernel
theorem req_bad {w : Nat} (hw : 1 ≤ w ∧ w ≤ 6) {x : PyData} (hx : depsB w x = false) (h : HP) : reqR (.int (w : Int)) x h = .exc 2 h := by
  show (if isIntB (.int (w : Int)) 1 6 then (if depsB w x then okN h else .exc 2 h) else .exc 1 h) = _
  rw [width_ok hw, hx]; rfl
theorem areCols_over {w : Nat} : areColsB w (.tuple [.int (w : Int)]) = false := by
  show (([PyData.int (w : Int)].all (fun x => isIntB x 0 ((w : Int) - 1))) && _) = false
  have : isIntB (.int (w : Int)) 0 ((w : Int) - 1) = false := by
    simp only [isIntB, Bool.and_eq_false_iff, decide_eq_false_iff_not]
    omega
  simp [this]
end TB
set_option maxHeartbeats 4000000
namespace TB
open PySem
open Enc (enc)
/-! ### equivalent -/
def d_equivalent : Def := ⟨"equivalent", ["width", "one", "other", "own"], 3, (.cons (.exp (.call 19 (.cons (.var 0) (.cons (.var 1) .nil)))) (.cons (.ite (.not (.call 4 (.cons (.var 0) (.cons (.var 2) .nil)))) (.cons (.raise 2) .nil) .nil) (.cons (.ite (.not (.b1 .all (.comp (.call 25 (.cons (.var 1) (.cons (.var 3) .nil))) (.name 3) (.seq (.var 2)) .none [3]))) (.cons (.ret (.cst (.bool false))) .nil) .nil) (.cons (.ret (.b1 .all (.comp (.call 25 (.cons (.var 2) (.cons (.var 3) .nil))) (.name 3) (.seq (.var 1)) .none [3]))) .nil))))⟩
def eqvB (one other : List Rule) : Bool := other.all (impB one) && one.all (impB other)
theorem impB_iff {rs : List Rule} {r : Rule} : impB rs r = true ↔ ∀ C, Closed rs C → (∀ x ∈ r.1, x ∈ C) → ∀ x ∈ r.2, x ∈ C := by
  unfold impB
  rw [partB_iff]
  constructor
  · intro h C hc hl x m
    exact clo_least hc hl x (h x m)
  · intro h x m
    exact h _ clo_closed clo_sub x m
/-- of such columns alone -/
theorem impB_good {w : Nat} {rs : List Rule} (g : ∀ r ∈ rs, GoodC w r.1 ∧ GoodC w r.2 ∧ r.2 ≠ []) {r : Rule} (gr : GoodC w r.1) (h : ∀ C, GoodC w C → Closed rs C → (∀ x ∈ r.1, x ∈ C) → ∀ x ∈ r.2, x ∈ C) : impB rs r = true := by
  unfold impB
  rw [partB_iff]
  exact h _ (clo_good g gr) clo_closed clo_sub
theorem all_imp {one other : List Rule} : other.all (impB one) = true ↔ ∀ C, Closed one C → Closed other C := by
  rw [List.all_eq_true]
  constructor
  · intro h C hc r m hl
    exact impB_iff.mp (h r m) C hc hl
  · intro h r m
    exact impB_iff.mpr fun C hc hl => h C hc r m hl
theorem eqvB_iff {w : Nat} {one other : List Rule} (g1 : ∀ r ∈ one, GoodC w r.1 ∧ GoodC w r.2 ∧ r.2 ≠ []) (g2 : ∀ r ∈ other, GoodC w r.1 ∧ GoodC w r.2 ∧ r.2 ≠ []) :
    eqvB one other = decide ((allSets (upTo w)).filter (closedB one) = (allSets (upTo w)).filter (closedB other)) := by
  have h1 : eqvB one other = true ↔ ∀ C, Closed one C ↔ Closed other C := by
    unfold eqvB
    rw [Bool.and_eq_true, all_imp, all_imp]
    exact ⟨fun ⟨a, b⟩ C => ⟨a C, b C⟩, fun h => ⟨fun C => (h C).mp, fun C => (h C).mpr⟩⟩
  by_cases e : (allSets (upTo w)).filter (closedB one) = (allSets (upTo w)).filter (closedB other)
  · rw [decide_eq_true e]
    have pt : ∀ C, GoodC w C → (Closed one C ↔ Closed other C) := fun C gC => by
      have m := mem_sets.mpr gC
      have : C ∈ (allSets (upTo w)).filter (closedB one) ↔ C ∈ (allSets (upTo w)).filter (closedB other) := by rw [e]
      rw [List.mem_filter, List.mem_filter] at this
      rw [← closedB_iff, ← closedB_iff]
      exact ⟨fun z => (this.mp ⟨m, z⟩).2, fun z => (this.mpr ⟨m, z⟩).2⟩
    unfold eqvB
    rw [Bool.and_eq_true, List.all_eq_true, List.all_eq_true]
    refine ⟨fun r m => impB_good g1 (g2 r m).1 fun C gC hc hl => ?_, fun r m => impB_good g2 (g1 r m).1 fun C gC hc hl => ?_⟩
    · exact (pt C gC).mp hc r m hl
    · exact (pt C gC).mpr hc r m hl
  · rw [decide_eq_false e]
    cases q : eqvB one other with
    | false => rfl
    | true =>
      exfalso
      apply e
      refine List.filter_congr fun C _ => ?_
      have := h1.mp q C
      cases a : closedB one C <;> cases b : closedB other C
      · rfl
      · rw [closedB_iff.mpr (this.mpr (closedB_iff.mp b))] at a; cases a
      · rw [closedB_iff.mpr (this.mp (closedB_iff.mp a))] at b; cases b
      · rfl
section
variable {P : Prog} {fw : Nat}
theorem run_equivalent (B : HasBasics P) (h22 : P.lookup 22 = some d_is_part) (h23 : P.lookup 23 = some d_closure_of) (h25 : P.lookup 25 = some d_is_implied) (h50 : P.lookup 50 = some d_equivalent) (hf : 200 ≤ fw) {w : Nat} (hw : 1 ≤ w ∧ w ≤ 6) {one other : List Rule} (g1 : GoodR w one) (g2 : GoodR w other) (h : HP) :
    Runs P fw 6 50 [.dat (.int w), .dat (enc one), .dat (enc other)] h (okB (eqvB one other) h) := by
  refine Runs.start (K := 5) (ρ := [some (.dat (.int w)), some (.dat (enc one)), some (.dat (enc other)), none]) h50 rfl rfl rfl fun k hk => ?_
  have r1 := req_good (fw := fw) B hw g1 h k hk
  have r2 := run_are_valid (fw := fw) B.f0 B.f1 B.f2 B.f3 B.f4 w (enc other) (good_lenOk2 hw.2 g2.cols) h k (by omega)
  rw [deps_good g2] at r2
  have c1 : ev (run P fw k) (.comp (.call 25 (.cons (.var 1) (.cons (.var 3) .nil))) (.name 3) (.seq (.var 2)) .none [3]) [some (.dat (.int w)), some (.dat (enc one)), some (.dat (enc other)), none] h = .ok (.new (other.map fun r => .bool (impB one r))) h := by
    refine ev_comp_of (items := other.map enc) (h1 := h) (by simp [enc_list]) (comp_map (g := enc) fun r m => ?_)
    have := run_is_implied (fw := fw) h22 h23 h25 hf hw.2 g1 (g2.cols r m).1 h k (by omega)
    simp [this]
  have c2 : ev (run P fw k) (.comp (.call 25 (.cons (.var 2) (.cons (.var 3) .nil))) (.name 3) (.seq (.var 1)) .none [3]) [some (.dat (.int w)), some (.dat (enc one)), some (.dat (enc other)), none] h = .ok (.new (one.map fun r => .bool (impB other r))) h := by
    refine ev_comp_of (items := one.map enc) (h1 := h) (by simp [enc_list]) (comp_map (g := enc) fun r m => ?_)
    have := run_is_implied (fw := fw) h22 h23 h25 hf hw.2 g2 (g1.cols r m).1 h k (by omega)
    simp [this]
  have a1 := all_bools (impB one) other
  have a2 := all_bools (impB other) one
  have ee : eqvB one other = (other.all (impB one) && one.all (impB other)) := rfl
  rw [ee]
  generalize other.all (impB one) = b1 at a1
  generalize one.all (impB other) = b2 at a2
  cases b1 with
  | false => simp [-ev_comp, -all_bools, d_equivalent, r1, r2, c1, a1]
  | true => simp [-ev_comp, -all_bools, d_equivalent, r1, r2, c1, c2, a1, a2]
theorem run_equivalent_bad1 (B : HasBasics P) (h50 : P.lookup 50 = some d_equivalent) (c r d : PyData) (hl : lenOk2 r) (h : HP) {e : Nat} (he : reqR c r h = .exc e h) : Runs P fw 6 50 [.dat c, .dat r, .dat d] h (.exc e h) := by
  refine Runs.start (K := 5) (ρ := [some (.dat c), some (.dat r), some (.dat d), none]) h50 rfl rfl rfl fun k hk => ?_
  have r1 := run_require_deps (fw := fw) B.f0 B.f1 B.f2 B.f3 B.f4 B.f5 B.f19 c r hl h k (by omega)
  rw [he] at r1
  simp [d_equivalent, r1]
theorem run_equivalent_bad2 (B : HasBasics P) (h50 : P.lookup 50 = some d_equivalent) {w : Nat} (hw : 1 ≤ w ∧ w ≤ 6) {one : List Rule} (g1 : GoodR w one) (d : PyData) (hl : lenOk2 d) (hd : depsB w d = false) (h : HP) : Runs P fw 6 50 [.dat (.int w), .dat (enc one), .dat d] h (.exc 2 h) := by
  refine Runs.start (K := 5) (ρ := [some (.dat (.int w)), some (.dat (enc one)), some (.dat d), none]) h50 rfl rfl rfl fun k hk => ?_
  have r1 := req_good (fw := fw) B hw g1 h k hk
  have r2 := run_are_valid (fw := fw) B.f0 B.f1 B.f2 B.f3 B.f4 w d hl h k (by omega)
  rw [hd] at r2
  simp [d_equivalent, r1, r2]
end
end TB
set_option maxHeartbeats 4000000
namespace TB
open PySem
open Enc (enc)
/-! ### keys -/
def d_smallest : Def := ⟨"smallest", ["sets", "one", "other"], 1, (.cons (.ret (.comp (.var 1) (.name 1) (.seq (.var 0)) (.some (.not (.b1 .any (.comp (.and (.cmp .ne (.var 2) (.var 1)) (.call 22 (.cons (.var 2) (.cons (.var 1) .nil)))) (.name 2) (.seq (.var 0)) .none [2])))) [1])) .nil)⟩
def d_keys_within : Def := ⟨"keys_within", ["dependencies", "columns", "one"], 2, (.cons (.ret (.call 56 (.cons (.comp (.var 2) (.name 2) (.seq (.call 55 (.cons (.var 1) .nil))) (.some (.call 22 (.cons (.var 1) (.cons (.call 23 (.cons (.var 0) (.cons (.var 2) .nil))) .nil)))) [2]) .nil))) .nil)⟩
def d_find_keys : Def := ⟨"find_keys", ["width", "dependencies"], 2, (.cons (.ret (.call 57 (.cons (.var 1) (.cons (.b1 .tupRange (.var 0)) .nil)))) .nil)⟩
def d_is_key : Def := ⟨"is_key", ["width", "dependencies", "columns"], 3, (.cons (.exp (.call 19 (.cons (.var 0) (.cons (.var 1) .nil)))) (.cons (.exp (.call 21 (.cons (.var 0) (.cons (.var 2) (.cons (.cst (.int 0)) .nil))))) (.cons (.ret (.cmp .isin (.var 2) (.call 58 (.cons (.var 0) (.cons (.var 1) .nil))))) .nil)))⟩
def d_keys : Def := ⟨"keys", ["width", "dependencies"], 2, (.cons (.exp (.call 19 (.cons (.var 0) (.cons (.var 1) .nil)))) (.cons (.ret (.call 58 (.cons (.var 0) (.cons (.var 1) .nil)))) .nil))⟩
def d_prime : Def := ⟨"prime", ["width", "dependencies", "found", "column", "one"], 2, (.cons (.put 2 false (.call 60 (.cons (.var 0) (.cons (.var 1) .nil)))) (.cons (.ret (.b1 .tuple (.comp (.var 3) (.name 3) (.range (.var 0)) (.some (.b1 .any (.comp (.cmp .isin (.var 3) (.var 4)) (.name 4) (.seq (.var 2)) .none [4]))) [3]))) .nil))⟩
def d_law_closure : Def := ⟨"_law_closure", ["width", "rules", "some", "wide", "own", "column"], 3, (.cons (.put 3 false (.comp (.var 4) (.name 4) (.seq (.call 30 (.cons (.var 0) (.cons (.var 1) .nil)))) (.some (.call 29 (.cons (.var 2) (.cons (.var 4) .nil)))) [4])) (.cons (.ret (.b1 .tuple (.comp (.var 5) (.name 5) (.range (.var 0)) (.some (.cmp .eq (.comp (.cst (.int 1)) (.name 4) (.seq (.var 3)) (.some (.cmp .notin (.var 5) (.var 4))) [4]) (.lst .nil))) [5]))) .nil))⟩
theorem ones_nil {α : Type} (l : List α) (p : α → Bool) : cmpD .eq (.list ((l.filter p).map fun _ => PyData.int 1)) (.list []) = some (l.all fun x => !p x) := by
  have e1 : ((l.filter p).map fun _ => PyData.int 1) = ((l.filter p).map fun _ => (1 : Int)).map enc := by rw [List.map_map]; rfl
  have e2 := cmp_eqL (α := Int) (by decide) ((l.filter p).map fun _ => (1 : Int)) []
  rw [← e1] at e2
  have e3 : decide (((l.filter p).map fun _ => (1 : Int)) = []) = l.all fun x => !p x := by
    cases e : l.all fun x => !p x with
    | true =>
      refine decide_eq_true ?_
      rw [List.map_eq_nil_iff, List.filter_eq_nil_iff]
      intro r m
      have := List.all_eq_true.mp e r m
      simpa using this
    | false =>
      refine decide_eq_false fun z => ?_
      rw [List.map_eq_nil_iff, List.filter_eq_nil_iff] at z
      have : (l.all fun x => !p x) = true := List.all_eq_true.mpr fun r m => by
        have := z r m
        simpa using this
      rw [this] at e
      cases e
  rw [e3] at e2
  exact e2
theorem run_law_closure {P : Prog} {fw : Nat} (h28 : P.lookup 28 = some d_law_sets) (h29 : P.lookup 29 = some d_law_within) (h30 : P.lookup 30 = some d_law_closed) (h31 : P.lookup 31 = some d_law_closure) {w : Nat} (hw : w ≤ 6) {rs : List Rule} (g : GoodR w rs) {c : Cols} (gc : GoodC w c) (h : HP) : Runs P fw 3 31 [.dat (.int w), .dat (enc rs), .dat (enc c)] h (.ok (.v (.dat (enc (clo rs c)))) h) := by
  refine Runs.start (K := 2) (d := d_law_closure) (ρ := [some (.dat (.int w)), some (.dat (enc rs)), some (.dat (enc c)), none, none, none]) h31 rfl rfl rfl fun k hk => ?_
  have lc := run_law_closed (fw := fw) h28 h29 h30 (w := w) (by omega) rs h k hk
  generalize hwide : ((allSets (upTo w)).filter (closedB rs)).filter (fun own => partB c own) = wide
  have c1 : ev (run P fw k) (.comp (.var 4) (.name 4) (.seq (.call 30 (.cons (.var 0) (.cons (.var 1) .nil)))) (.some (.call 29 (.cons (.var 2) (.cons (.var 4) .nil)))) [4]) [some (.dat (.int w)), some (.dat (enc rs)), some (.dat (enc c)), none, none, none] h = .ok (.new (wide.map enc)) h := by
    rw [← hwide]
    refine ev_comp_of (items := ((allSets (upTo w)).filter (closedB rs)).map enc) (h1 := h) (by simp [lc]) (comp_filter (g := enc) (f := enc) fun own _ => ?_)
    have r := run_within (fw := fw) h29 c own h (d1 := enc c) (d2 := enc own) rfl (.inl rfl) k (by omega)
    simp [r]
    split <;> rfl
  have c2 : ev (run P fw k) (.comp (.var 5) (.name 5) (.range (.var 0)) (.some (.cmp .eq (.comp (.cst (.int 1)) (.name 4) (.seq (.var 3)) (.some (.cmp .notin (.var 5) (.var 4))) [4]) (.lst .nil))) [5]) [some (.dat (.int w)), some (.dat (enc rs)), some (.dat (enc c)), some (.dat (.list (wide.map enc))), none, none] h = .ok (.new ((clo rs c).map enc)) h := by
    have ec : (upTo w).filter (fun x => wide.all fun own => !!decide (x ∈ own)) = clo rs c := by
      rw [← clo_common g.cols gc, ← hwide]
      refine List.filter_congr fun x _ => ?_
      simp only [Bool.not_not]
      rw [List.all_filter]
    rw [← ec]
    refine ev_comp_of (items := (upTo w).map enc) (h1 := h) (by simp [small_nat (show w ≤ 1000 by omega), rangeD_upTo]) (comp_filter (g := enc) (f := enc) fun x _ => ?_)
    have c3 : ev (run P fw k) (.comp (.cst (.int 1)) (.name 4) (.seq (.var 3)) (.some (.cmp .notin (.var 5) (.var 4))) [4]) [some (.dat (.int w)), some (.dat (enc rs)), some (.dat (enc c)), some (.dat (.list (wide.map enc))), none, some (.dat (enc x))] h = .ok (.new ((wide.filter fun own => !decide (x ∈ own)).map fun _ => .int 1)) h := by
      refine ev_comp_of (items := wide.map enc) (h1 := h) (by simp) (comp_filter (g := enc) fun own _ => ?_)
      rw [enc_list]
      simp [cmp_nin_tup (α := Int) (by decide)]
      split <;> rfl
    have one := ones_nil wide fun own => !decide (x ∈ own)
    simp [-ev_comp, c3, one]
    split <;> rfl
  have hb : d_law_closure.body = .cons (.put 3 false (.comp (.var 4) (.name 4) (.seq (.call 30 (.cons (.var 0) (.cons (.var 1) .nil)))) (.some (.call 29 (.cons (.var 2) (.cons (.var 4) .nil)))) [4])) (.cons (.ret (.b1 .tuple (.comp (.var 5) (.name 5) (.range (.var 0)) (.some (.cmp .eq (.comp (.cst (.int 1)) (.name 4) (.seq (.var 3)) (.some (.cmp .notin (.var 5) (.var 4))) [4]) (.lst .nil))) [5]))) .nil) := rfl
  simp [-ev_comp, hb, c1, c2]
  rfl
/-- no other one is within -/
def smallB (ss : List Cols) (one : Cols) : Bool := !ss.any fun other => !decide (other = one) && partB other one
def smallestL (ss : List Cols) : List Cols := ss.filter (smallB ss)
section
variable {P : Prog} {fw : Nat}
theorem run_smallest (h22 : P.lookup 22 = some d_is_part) (h56 : P.lookup 56 = some d_smallest) (ss : List Cols) (h : HP) : Runs P fw 2 56 [.dat (.list (ss.map enc))] h (.ok (.new ((smallestL ss).map enc)) h) := by
  refine Runs.start (K := 1) (ρ := [some (.dat (.list (ss.map enc))), none, none]) h56 rfl rfl rfl fun k hk => ?_
  have c1 : ev (run P fw k) (.comp (.var 1) (.name 1) (.seq (.var 0)) (.some (.not (.b1 .any (.comp (.and (.cmp .ne (.var 2) (.var 1)) (.call 22 (.cons (.var 2) (.cons (.var 1) .nil)))) (.name 2) (.seq (.var 0)) .none [2])))) [1]) [some (.dat (.list (ss.map enc))), none, none] h = .ok (.new ((smallestL ss).map enc)) h := by
    refine ev_comp_of (items := ss.map enc) (h1 := h) (by simp) (comp_filter (g := enc) (f := enc) fun one _ => ?_)
    have c2 : ev (run P fw k) (.comp (.and (.cmp .ne (.var 2) (.var 1)) (.call 22 (.cons (.var 2) (.cons (.var 1) .nil)))) (.name 2) (.seq (.var 0)) .none [2]) [some (.dat (.list (ss.map enc))), some (.dat (enc one)), none] h = .ok (.new (ss.map fun other => .bool (!decide (other = one) && partB other one))) h := by
      refine ev_comp_of (items := ss.map enc) (h1 := h) (by simp) (comp_map (g := enc) fun other _ => ?_)
      have p1 := run_is_part (fw := fw) h22 other one h (.dat (enc one)) (.inr rfl) k hk
      simp [cmp_ne (α := Cols) (by decide), p1]
      by_cases e : other = one <;> simp [e]
    have a1 := any_bools (fun other => !decide (other = one) && partB other one) ss
    have e1 : smallB ss one = !ss.any fun other => !decide (other = one) && partB other one := rfl
    rw [e1]
    generalize (ss.any fun other => !decide (other = one) && partB other one) = b at a1
    simp [-ev_comp, -any_bools, c2, a1]
    cases b <;> rfl
  unfold d_smallest
  simp [-ev_comp, c1]
/-- what determines all columns -/
def wideL (w : Nat) (rs : List Rule) : List Cols := (allSets (upTo w)).filter fun s => partB (upTo w) (clo rs s)
def keysL (w : Nat) (rs : List Rule) : List Cols := smallestL (wideL w rs)
theorem tupRange_upTo {w : Nat} (h : w ≤ 1000) : b1D .tupRange (.int (w : Int)) = some (.v (.dat (.tuple ((upTo w).map enc)))) := by
  show (if smallI (w : Int) then some (RV.v (.dat (.tuple (rangeD 0 w)))) else none) = _
  rw [small_nat h, if_pos rfl, rangeD_upTo]
theorem run_find_keys (h22 : P.lookup 22 = some d_is_part) (h23 : P.lookup 23 = some d_closure_of) (h55 : P.lookup 55 = some d_all_sets) (h56 : P.lookup 56 = some d_smallest) (h57 : P.lookup 57 = some d_keys_within) (h58 : P.lookup 58 = some d_find_keys) (hf : 200 ≤ fw) {w : Nat} (hw : w ≤ 6) {rs : List Rule} (g : GoodR w rs) (h : HP) :
    Runs P fw 4 58 [.dat (.int w), .dat (enc rs)] h (.ok (.new ((keysL w rs).map enc)) h) := by
  have kw : Runs P fw 3 57 [.dat (enc rs), .dat (.tuple ((upTo w).map enc))] h (.ok (.new ((keysL w rs).map enc)) h) := by
    refine Runs.start (K := 2) (ρ := [some (.dat (enc rs)), some (.dat (.tuple ((upTo w).map enc))), none]) h57 rfl rfl rfl fun k hk => ?_
    have sets := run_sets (fw := fw) h55 rfl rfl rfl (cs := upTo w) (by rw [len_upTo]; omega) (d := .tuple ((upTo w).map enc)) rfl h k (by omega)
    have c1 : ev (run P fw k) (.comp (.var 2) (.name 2) (.seq (.call 55 (.cons (.var 1) .nil))) (.some (.call 22 (.cons (.var 1) (.cons (.call 23 (.cons (.var 0) (.cons (.var 2) .nil))) .nil)))) [2]) [some (.dat (enc rs)), some (.dat (.tuple ((upTo w).map enc))), none] h = .ok (.new ((wideL w rs).map enc)) h := by
      refine ev_comp_of (items := (allSets (upTo w)).map enc) (h1 := h) (by simp [sets]) (comp_filter (g := enc) (f := enc) fun s ms => ?_)
      have gs := mem_sets.mp ms
      have cl := run_closure (fw := fw) h22 h23 hf (nodup_right g.cols) (rights_few hw g) (risE_nodup gs.2) (by have := good_len gs; omega) (d := enc s) rfl h k hk
      have p1 := run_is_part (fw := fw) h22 (upTo w) (clo rs s) h (.dat (enc (clo rs s))) (.inr rfl) k (by omega)
      have p1' : run P fw k 22 [.dat (.tuple ((upTo w).map enc)), .dat (enc (clo rs s))] h = okB (partB (upTo w) (clo rs s)) h := p1
      simp [cl, p1']
      split <;> rfl
    have sm := run_smallest (fw := fw) h22 h56 (wideL w rs) h k hk
    unfold d_keys_within
    simp [-ev_comp, c1, sm, keysL]
  refine Runs.start (K := 3) (ρ := [some (.dat (.int w)), some (.dat (enc rs))]) h58 rfl rfl rfl fun k hk => ?_
  have := kw k hk
  simp [d_find_keys, tupRange_upTo (show w ≤ 1000 by omega), this]
theorem run_keys (B : HasBasics P) (h22 : P.lookup 22 = some d_is_part) (h23 : P.lookup 23 = some d_closure_of) (h55 : P.lookup 55 = some d_all_sets) (h56 : P.lookup 56 = some d_smallest) (h57 : P.lookup 57 = some d_keys_within) (h58 : P.lookup 58 = some d_find_keys) (h60 : P.lookup 60 = some d_keys) (hf : 200 ≤ fw) {w : Nat} (hw : 1 ≤ w ∧ w ≤ 6) {rs : List Rule} (g : GoodR w rs) (h : HP) :
    Runs P fw 6 60 [.dat (.int w), .dat (enc rs)] h (.ok (.new ((keysL w rs).map enc)) h) := by
  refine Runs.start (K := 5) (ρ := [some (.dat (.int w)), some (.dat (enc rs))]) h60 rfl rfl rfl fun k hk => ?_
  have r1 := req_good (fw := fw) B hw g h k hk
  have r2 := run_find_keys (fw := fw) h22 h23 h55 h56 h57 h58 hf hw.2 g h k (by omega)
  simp [d_keys, r1, r2]
theorem run_keys_bad (B : HasBasics P) (h60 : P.lookup 60 = some d_keys) (c r : PyData) (hl : lenOk2 r) (h : HP) {e : Nat} (he : reqR c r h = .exc e h) : Runs P fw 6 60 [.dat c, .dat r] h (.exc e h) := by
  refine Runs.start (K := 5) (ρ := [some (.dat c), some (.dat r)]) h60 rfl rfl rfl fun k hk => ?_
  have r1 := run_require_deps (fw := fw) B.f0 B.f1 B.f2 B.f3 B.f4 B.f5 B.f19 c r hl h k (by omega)
  rw [he] at r1
  simp [d_keys, r1]
theorem run_is_key (B : HasBasics P) (h21 : P.lookup 21 = some d_require_columns) (h22 : P.lookup 22 = some d_is_part) (h23 : P.lookup 23 = some d_closure_of) (h55 : P.lookup 55 = some d_all_sets) (h56 : P.lookup 56 = some d_smallest) (h57 : P.lookup 57 = some d_keys_within) (h58 : P.lookup 58 = some d_find_keys) (h59 : P.lookup 59 = some d_is_key) (hf : 200 ≤ fw) {w : Nat} (hw : 1 ≤ w ∧ w ≤ 6) {rs : List Rule} (g : GoodR w rs) {c : Cols} (gc : GoodC w c) (h : HP) :
    Runs P fw 6 59 [.dat (.int w), .dat (enc rs), .dat (enc c)] h (okB (decide (c ∈ keysL w rs)) h) := by
  refine Runs.start (K := 5) (ρ := [some (.dat (.int w)), some (.dat (enc rs)), some (.dat (enc c))]) h59 rfl rfl rfl fun k hk => ?_
  have r1 := req_good (fw := fw) B hw g h k hk
  have hl : lenOk (enc c) := by
    show (c.map (enc : Int → PyData)).length ≤ LIM
    have hl : (6 : Nat) ≤ LIM := by decide
    have := good_len gc
    rw [List.length_map]
    omega
  have r2 := run_require_cols (fw := fw) B h21 w (enc c) 0 hl h k (by omega)
  rw [areCols_good gc, if_pos (by simp)] at r2
  have r3 := run_find_keys (fw := fw) h22 h23 h55 h56 h57 h58 hf hw.2 g h k (by omega)
  simp [d_is_key, r1, r2, r3, cmp_in_list (α := Cols) (by decide)]
theorem run_is_key_bad1 (B : HasBasics P) (h59 : P.lookup 59 = some d_is_key) (c r d : PyData) (hl : lenOk2 r) (h : HP) {e : Nat} (he : reqR c r h = .exc e h) : Runs P fw 6 59 [.dat c, .dat r, .dat d] h (.exc e h) := by
  refine Runs.start (K := 5) (ρ := [some (.dat c), some (.dat r), some (.dat d)]) h59 rfl rfl rfl fun k hk => ?_
  have r1 := run_require_deps (fw := fw) B.f0 B.f1 B.f2 B.f3 B.f4 B.f5 B.f19 c r hl h k (by omega)
  rw [he] at r1
  simp [d_is_key, r1]
theorem run_is_key_bad2 (B : HasBasics P) (h21 : P.lookup 21 = some d_require_columns) (h59 : P.lookup 59 = some d_is_key) {w : Nat} (hw : 1 ≤ w ∧ w ≤ 6) {rs : List Rule} (g : GoodR w rs) (d : PyData) (hl : lenOk d) (hd : areColsB w d = false) (h : HP) : Runs P fw 6 59 [.dat (.int w), .dat (enc rs), .dat d] h (.exc 4 h) := by
  refine Runs.start (K := 5) (ρ := [some (.dat (.int w)), some (.dat (enc rs)), some (.dat d)]) h59 rfl rfl rfl fun k hk => ?_
  have r1 := req_good (fw := fw) B hw g h k hk
  have r2 := run_require_cols (fw := fw) B h21 w d 0 hl h k (by omega)
  rw [hd] at r2
  simp at r2
  simp [d_is_key, r1, r2]
/-- the columns of any key -/
def primeL (w : Nat) (rs : List Rule) : Cols := (upTo w).filter fun x => (keysL w rs).any fun own => decide (x ∈ own)
theorem run_prime (B : HasBasics P) (h22 : P.lookup 22 = some d_is_part) (h23 : P.lookup 23 = some d_closure_of) (h55 : P.lookup 55 = some d_all_sets) (h56 : P.lookup 56 = some d_smallest) (h57 : P.lookup 57 = some d_keys_within) (h58 : P.lookup 58 = some d_find_keys) (h60 : P.lookup 60 = some d_keys) (h61 : P.lookup 61 = some d_prime) (hf : 200 ≤ fw) {w : Nat} (hw : 1 ≤ w ∧ w ≤ 6) {rs : List Rule} (g : GoodR w rs) (h : HP) :
    Runs P fw 7 61 [.dat (.int w), .dat (enc rs)] h (.ok (.v (.dat (enc (primeL w rs)))) h) := by
  refine Runs.start (K := 6) (ρ := [some (.dat (.int w)), some (.dat (enc rs)), none, none, none]) h61 rfl rfl rfl fun k hk => ?_
  have r1 := run_keys (fw := fw) B h22 h23 h55 h56 h57 h58 h60 hf hw g h k hk
  have c1 : ev (run P fw k) (.comp (.var 3) (.name 3) (.range (.var 0)) (.some (.b1 .any (.comp (.cmp .isin (.var 3) (.var 4)) (.name 4) (.seq (.var 2)) .none [4]))) [3]) [some (.dat (.int w)), some (.dat (enc rs)), some (.dat (.list ((keysL w rs).map enc))), none, none] h = .ok (.new ((primeL w rs).map enc)) h := by
    refine ev_comp_of (items := (upTo w).map enc) (h1 := h) (by simp [small_nat (show w ≤ 1000 by omega), rangeD_upTo]) (comp_filter (g := enc) (f := enc) fun x _ => ?_)
    have c2 : ev (run P fw k) (.comp (.cmp .isin (.var 3) (.var 4)) (.name 4) (.seq (.var 2)) .none [4]) [some (.dat (.int w)), some (.dat (enc rs)), some (.dat (.list ((keysL w rs).map enc))), some (.dat (enc x)), none] h = .ok (.new ((keysL w rs).map fun own => .bool (decide (x ∈ own)))) h := by
      refine ev_comp_of (items := (keysL w rs).map enc) (h1 := h) (by simp) (comp_map (g := enc) fun own _ => ?_)
      rw [enc_list]
      simp [cmp_in_tup (α := Int) (by decide)]
    have a1 := any_bools (fun own : Cols => decide (x ∈ own)) (keysL w rs)
    generalize ((keysL w rs).any fun own => decide (x ∈ own)) = b at a1
    simp [-ev_comp, -any_bools, c2, a1]
    cases b <;> rfl
  unfold d_prime
  simp [-ev_comp, r1, c1]
  rfl
theorem run_prime_bad (B : HasBasics P) (h60 : P.lookup 60 = some d_keys) (h61 : P.lookup 61 = some d_prime) (c r : PyData) (hl : lenOk2 r) (h : HP) {e : Nat} (he : reqR c r h = .exc e h) : Runs P fw 7 61 [.dat c, .dat r] h (.exc e h) := by
  refine Runs.start (K := 6) (ρ := [some (.dat c), some (.dat r), none, none, none]) h61 rfl rfl rfl fun k hk => ?_
  have r1 := run_keys_bad (fw := fw) B h60 c r hl h he k hk
  simp [d_prime, r1]
end
end TB
set_option maxHeartbeats 4000000
namespace TB
open PySem
open Enc (enc)
/-! ### what keys are like -/
theorem wide_iff {w : Nat} {rs : List Rule} {s : Cols} : s ∈ wideL w rs ↔ GoodC w s ∧ ∀ x ∈ upTo w, x ∈ clo rs s := by
  unfold wideL
  rw [List.mem_filter, mem_sets, partB_iff]
theorem key_iff {w : Nat} {rs : List Rule} {s : Cols} : s ∈ keysL w rs ↔ s ∈ wideL w rs ∧ ∀ t ∈ wideL w rs, t ≠ s → ¬ ∀ x ∈ t, x ∈ s := by
  unfold keysL smallestL
  rw [List.mem_filter]
  refine and_congr_right fun _ => ?_
  unfold smallB
  rw [Bool.not_eq_true', List.any_eq_false]
  refine forall_congr' fun t => forall_congr' fun _ => ?_
  simp only [Bool.and_eq_true, Bool.not_eq_true', decide_eq_false_iff_not, not_and, partB_iff]
theorem len_lt {w : Nat} {t s : Cols} (gt : GoodC w t) (gs : GoodC w s) (hs : ∀ x ∈ t, x ∈ s) (hne : t ≠ s) : t.length < s.length := by
  have sub := sub_of_rise gt.2 gs.2 hs
  have hle := sub.length_le
  rcases Nat.lt_or_ge t.length s.length with h | h
  · exact h
  · exact absurd (sub.eq_of_length (Nat.le_antisymm hle h)) hne
theorem key_below {w : Nat} {rs : List Rule} : ∀ (n : Nat) {s : Cols}, s.length ≤ n → s ∈ wideL w rs → ∃ k ∈ keysL w rs, ∀ x ∈ k, x ∈ s
  | n, s, hn, hs => by
    by_cases hk : s ∈ keysL w rs
    · exact ⟨s, hk, fun _ m => m⟩
    · have : ¬ ∀ t ∈ wideL w rs, t ≠ s → ¬ ∀ x ∈ t, x ∈ s := fun z => hk (key_iff.mpr ⟨hs, z⟩)
      obtain ⟨t, ht⟩ := Classical.not_forall.mp this
      obtain ⟨mt, ht⟩ := Classical.not_imp.mp ht
      obtain ⟨hne, ht⟩ := Classical.not_imp.mp ht
      have hsub := Classical.not_not.mp ht
      have lt := len_lt (wide_iff.mp mt).1 (wide_iff.mp hs).1 hsub hne
      cases n with
      | zero => omega
      | succ n =>
        obtain ⟨k, mk, hk'⟩ := key_below n (by omega) mt
        exact ⟨k, mk, fun x m => hsub x (hk' x m)⟩
theorem all_wide {w : Nat} {rs : List Rule} : upTo w ∈ wideL w rs :=
  wide_iff.mpr ⟨⟨fun n m => by have := mem_upTo.mp m; omega, upTo_rise w⟩, fun x m => clo_sub x m⟩
theorem keys_some {w : Nat} {rs : List Rule} : keysL w rs ≠ [] := fun z => by
  obtain ⟨k, mk, _⟩ := key_below _ (Nat.le_refl _) (all_wide (w := w) (rs := rs))
  rw [z] at mk
  exact absurd mk (by simp)
theorem keys_srt {w : Nat} {rs : List Rule} : sortE (keysL w rs) = keysL w rs := by
  refine sortE_self ?_
  have h : SrE (allSets (upTo w)) := sortE_srt _
  exact List.Pairwise.sublist (List.Sublist.trans List.filter_sublist List.filter_sublist) h
/-- a column of the closure is there, or on a right -/
theorem clo_in {rs : List Rule} {s : Cols} {x : Int} (h : x ∈ clo rs s) : x ∈ s ∨ ∃ r ∈ rs, x ∈ r.2 := by
  have := clo_least (rs := rs) (K := s) (C := s ++ rs.flatMap (·.2)) (fun r mr _ y my => List.mem_append_right _ (List.mem_flatMap.mpr ⟨r, mr, my⟩)) (fun y my => List.mem_append_left _ my) x h
  rcases List.mem_append.mp this with m | m
  · exact .inl m
  · obtain ⟨r, mr, mx⟩ := List.mem_flatMap.mp m
    exact .inr ⟨r, mr, mx⟩
theorem alone_in {w : Nat} {rs : List Rule} {k : Cols} (hk : k ∈ keysL w rs) {x : Int} (hx : x ∈ upTo w) (ha : ∀ r ∈ rs, x ∉ r.2) : x ∈ k := by
  have hw := (wide_iff.mp (key_iff.mp hk).1).2 x hx
  rcases clo_in hw with m | ⟨r, mr, m⟩
  · exact m
  · exact absurd m (ha r mr)
theorem key_good {w : Nat} {rs : List Rule} {k : Cols} (hk : k ∈ keysL w rs) : GoodC w k := (wide_iff.mp (key_iff.mp hk).1).1
/-- it determines all just if a key is within it -/
theorem every_iff {w : Nat} {rs : List Rule} (g : GoodR w rs) {s : Cols} (gs : GoodC w s) : clo rs s = upTo w ↔ ∃ k ∈ keysL w rs, ∀ x ∈ k, x ∈ s := by
  constructor
  · intro e
    exact key_below _ (Nat.le_refl _) (wide_iff.mpr ⟨gs, fun x m => by rw [e]; exact m⟩)
  · rintro ⟨k, mk, hk⟩
    have gc := clo_good g.cols gs
    refine risE_ext gc.2 (upTo_rise w) fun x => ⟨fun m => mem_upTo.mpr (by have := gc.1 x m; omega), fun m => ?_⟩
    have hx := (wide_iff.mp (key_iff.mp mk).1).2 x m
    exact clo_least (clo_closed (K := s)) (fun y my => clo_sub y (hk y my)) x hx
theorem powers_nodup : ∀ (cs : Cols) (f : List Cols), cs.Nodup → f.Nodup → (∀ y ∈ f, ∀ c ∈ cs, c ∉ y) → (cs.foldl (fun found c => found ++ found.map (· ++ [c])) f).Nodup
  | [], f, _, hf, _ => hf
  | c :: cs, f, hc, hf, hy => by
    rw [List.nodup_cons] at hc
    refine powers_nodup cs (f ++ f.map (· ++ [c])) hc.2 ?_ fun y m d md => ?_
    · rw [List.nodup_append]
      refine ⟨hf, ?_, fun y my z mz e => ?_⟩
      · refine List.Pairwise.map _ (fun a b hab e => hab ?_) hf
        exact List.append_cancel_right e
      · obtain ⟨u, _, rfl⟩ := List.mem_map.mp mz
        subst e
        exact hy _ my c List.mem_cons_self (List.mem_append_right _ (List.mem_singleton.mpr rfl))
    · rcases List.mem_append.mp m with m | m
      · exact hy y m d (List.mem_cons_of_mem _ md)
      · obtain ⟨u, mu, rfl⟩ := List.mem_map.mp m
        intro z
        rcases List.mem_append.mp z with z | z
        · exact hy u mu d (List.mem_cons_of_mem _ md) z
        · rw [List.mem_singleton.mp z] at md
          exact hc.1 md
theorem sets_nodup (w : Nat) : (allSets (upTo w)).Nodup := (sortE_perm _).nodup_iff.mpr (powers_nodup (upTo w) [[]] (risE_nodup (upTo_rise w)) (by simp) fun y m d _ => by
  rw [List.mem_singleton.mp m]
  exact List.not_mem_nil)
theorem nodup_one {α : Type} {l : List α} {a : α} (nd : l.Nodup) (h : ∀ x, x ∈ l ↔ x = a) : l = [a] := by
  cases l with
  | nil => exact absurd ((h a).mpr rfl) (by simp)
  | cons x xs =>
    have hx := (h x).mp List.mem_cons_self
    subst hx
    cases xs with
    | nil => rfl
    | cons y ys =>
      have hy := (h y).mp (List.mem_cons_of_mem _ List.mem_cons_self)
      subst hy
      rw [List.nodup_cons] at nd
      exact absurd List.mem_cons_self nd.1
theorem keys_free (w : Nat) : keysL w [] = [upTo w] := by
  have only : ∀ s, s ∈ wideL w [] ↔ s = upTo w := fun s => by
    constructor
    · intro m
      obtain ⟨gs, hs⟩ := wide_iff.mp m
      refine risE_ext gs.2 (upTo_rise w) fun x => ⟨fun m => mem_upTo.mpr (by have := gs.1 x m; omega), fun m => ?_⟩
      rcases clo_in (hs x m) with m | ⟨r, mr, _⟩
      · exact m
      · exact absurd mr (by simp)
    · rintro rfl
      exact all_wide
  refine nodup_one ?_ fun s => ?_
  · exact List.Nodup.sublist (List.Sublist.trans List.filter_sublist List.filter_sublist) (sets_nodup w)
  · rw [key_iff, only]
    constructor
    · exact fun h => h.1
    · rintro rfl
      exact ⟨rfl, fun t mt hne => absurd ((only t).mp mt) hne⟩
theorem closed_inter {rs : List Rule} {a b : Cols} (ha : Closed rs a) (hb : Closed rs b) : Closed rs (a.filter fun x => decide (x ∈ b)) := fun r mr hl x mx => by
  rw [List.mem_filter]
  have h1 := ha r mr (fun y my => (List.mem_filter.mp (hl y my)).1) x mx
  have h2 := hb r mr (fun y my => of_decide_eq_true (List.mem_filter.mp (hl y my)).2) x mx
  exact ⟨h1, decide_eq_true h2⟩
end TB
set_option maxHeartbeats 4000000
namespace TB
open PySem
open Enc (enc)
section
variable (call : CallF) (fw : Nat) (ρ : EV) (h : HP)
@[simp] theorem ex_par3 (i j l : Nat) (b c d : Bool) (e1 e2 e3 : CE) : ex call fw (.par3 i j l b c d e1 e2 e3) ρ h = (ev call e1 ρ h).bind fun x h => (ev call e2 ρ h).bind fun y h => (ev call e3 ρ h).bind fun z h => parS [(i, b), (j, c), (l, d)] [x, y, z] ρ h := by rfl
@[simp] theorem ev_lenSet (k : Kd) (a : CE) : ev call (.lenSet k a) ρ h = (ev call a ρ h).bind fun x h => ofOpt ((dat1 h x).bind (lenSetD k)) h := by rfl
@[simp] theorem ev_mini (mx : Bool) (k : Kd) (a : CE) : ev call (.mini mx k a) ρ h = (ev call a ρ h).bind fun x h => ofOpt ((dat1 h x).bind (miniD mx k)) h := by rfl
@[simp] theorem ev_conv2 (tup : Bool) (a b : CE) : ev call (.conv2 tup a b) ρ h = (ev call a ρ h).bind fun x h => (ev call b ρ h).bind fun y h => ofOpt ((dat1 h x).bind fun d => (intOf d).bind fun i => (dat1 h y).bind fun e => (intOf e).bind fun j => conv2D tup i j) h := by rfl
@[simp] theorem ev_call0 (f : Nat) : ev call (.call0 f) ρ h = call f [] h := by rfl
@[simp] theorem ev_index (a b : CE) : ev call (.index a b) ρ h = (ev call a ρ h).bind fun x h => (ev call b ρ h).bind fun y h => ofOpt ((dat1 h x).bind fun d => (dat1 h y).bind fun e => indexD d e) h := by rfl
@[simp] theorem evI_enum (a : CE) : evI call (.enum a) ρ h = (ev call a ρ h).bind fun x h => ofOpt ((asD x).bind fun d => (itemsD d).map (enumD 0)) h := by rfl
@[simp] theorem ev_popAt (o i : CE) : ev call (.popAt o i) ρ h = (ev call o ρ h).bind fun x h => match locOf x with
      | some n => (ev call i ρ h).bind fun y h => (ofOpt ((dat1 h y).bind fun d => (intOf d).bind fun i => popAtD h n i) h).bind fun p _ => .ok (.v (.dat p.1)) p.2
      | none => .bad := by rfl
end
theorem parS_dat (i j : Nat) (a b : PyData) (ρ : EV) (h : HP) (hi : i < ρ.length) (hj : j < ρ.length) : parS [(i, false), (j, false)] [.v (.dat a), .v (.dat b)] ρ h = .ok (.next ((ρ.set i (some (.dat a))).set j (some (.dat b)))) h := by
  simp [parS, putPar, putB, hi, hj]
theorem parS2 (i j : Nat) (a b : RV) (ρ : EV) (h : HP) (hi : i < ρ.length) (hj : j < ρ.length) : parS [(i, false), (j, false)] [a, b] ρ h = .ok (.next ((ρ.set i (some (settle a))).set j (some (settle b)))) h := by
  simp [parS, putPar, putB, hi, hj]
theorem parS3 (i j l : Nat) (a b c : RV) (ρ : EV) (h : HP) (hi : i < ρ.length) (hj : j < ρ.length) (hl : l < ρ.length) : parS [(i, false), (j, false), (l, false)] [a, b, c] ρ h = .ok (.next (((ρ.set i (some (settle a))).set j (some (settle b))).set l (some (settle c)))) h := by
  simp [parS, putPar, putB, hi, hj, hl]
theorem range_lit (n : Nat) (h : n ≤ 1000) (call : CallF) (ρ : EV) (hh : HP) : evI call (.range (.cst (.int (n : Int)))) ρ hh = .ok ((upTo n).map enc) hh := by
  simp [small_nat h, rangeD_upTo]
theorem range_var {w : Nat} (h : w ≤ 1000) (call : CallF) {ρ : EV} {i : Nat} (hi : getV ρ i = some (.dat (.int (w : Int)))) (hh : HP) : evI call (.range (.var i)) ρ hh = .ok ((upTo w).map enc) hh := by
  simp [hi, small_nat h, rangeD_upTo]
theorem cmp_nb (a b : Bool) : cmpD .ne (.bool a) (.bool b) = some (a != b) := by cases a <;> cases b <;> decide +kernel
theorem cmp_eb (a b : Bool) : cmpD .eq (.bool a) (.bool b) = some (a == b) := by cases a <;> cases b <;> decide +kernel
theorem truth_map {α : Type} (f : α → PyData) (l : List α) : truthD (.list (l.map f)) = some (!l.isEmpty) := by
  show some (!(List.map f l).isEmpty) = _
  rw [List.isEmpty_map]
theorem empty_filter {α : Type} {l : List α} {p : α → Bool} (h : ∀ x ∈ l, p x = false) : (l.filter p) = [] := by
  rw [List.filter_eq_nil_iff]
  intro x m
  rw [h x m]
  exact Bool.false_ne_true
theorem cut_to (n : Nat) (ds : List PyData) : cutD ds none (some (n : Int)) = ds.take n := by
  unfold cutD HT.sIx
  simp
  rw [if_neg (by omega)]
  omega
theorem St.split {h0 L h : HP} {n b : Nat} (s : St (h0 ++ L) n b h) (l : n < h0.length) : ∃ hs, h = hs ++ L ∧ St h0 n b hs := by
  obtain ⟨_, st, rfl, hl⟩ := s
  exact ⟨h0.set n (st.map .int), by rw [List.set_append_left _ _ l], l, st, rfl, hl⟩
theorem St.join {h0 h : HP} {n b : Nat} (s : St h0 n b h) (L : HP) : St (h0 ++ L) n b (h ++ L) := by
  obtain ⟨l, st, rfl, hl⟩ := s
  exact ⟨by simp; omega, st, by rw [List.set_append_left _ _ l], hl⟩
theorem setsL {P : Prog} {fw : Nat} (h28 : P.lookup 28 = some d_law_sets) {w : Nat} (hw : w ≤ 16) (h : HP) : Runs P fw 1 28 [.dat (.list ((upTo w).map enc))] h (.ok (.new ((allSets (upTo w)).map enc)) h) :=
  run_sets (P := P) (fw := fw) (fid := 28) (dd := d_law_sets) (d := .list ((upTo w).map enc)) h28 rfl rfl rfl (cs := upTo w) (by rw [len_upTo]; omega) rfl h
end TB
set_option maxHeartbeats 4000000
namespace TB
open PySem
open Enc (enc)
/-! ### derivations -/
def d_is_derivation : Def := ⟨"is_derivation", ["width", "dependencies", "dependency", "candidate", "known", "index", "one"], 4, (.cons (.exp (.call 26 (.cons (.var 0) (.cons (.var 1) (.cons (.var 2) .nil))))) (.cons (.ite (.or (.not (.isinst .list (.var 3))) (.not (.b1 .all (.comp (.call 0 (.cons (.var 6) (.cons (.cst (.int 0)) (.cons (.bin .sub (.b1 .len (.var 1)) (.cst (.int 1))) .nil)))) (.name 6) (.seq (.var 3)) .none [6])))) (.cons (.ret (.cst (.bool false))) .nil) .nil) (.cons (.put 4 true (.b1 .list (.idx (.var 2) (.cst (.int 0))))) (.cons (.loop (.name 5) (.seq (.var 3)) (.cons (.ite (.not (.call 22 (.cons (.idx (.idx (.var 1) (.var 5)) (.cst (.int 0))) (.cons (.var 4) .nil)))) (.cons (.ret (.cst (.bool false))) .nil) .nil) (.cons (.exp (.meth .extend (.var 4) (.idx (.idx (.var 1) (.var 5)) (.cst (.int 1))))) .nil))) (.cons (.ret (.call 22 (.cons (.idx (.var 2) (.cst (.int 1))) (.cons (.var 4) .nil)))) .nil)))))⟩
def d_derivation : Def := ⟨"derivation", ["width", "dependencies", "dependency", "known", "found", "some", "index", "left", "right"], 3, (.cons (.exp (.call 26 (.cons (.var 0) (.cons (.var 1) (.cons (.var 2) .nil))))) (.cons (.par2 3 4 true true (.b1 .list (.idx (.var 2) (.cst (.int 0)))) (.lst .nil)) (.cons (.while (.not (.call 22 (.cons (.idx (.var 2) (.cst (.int 1))) (.cons (.var 3) .nil)))) (.cons (.put 5 true (.lst .nil)) (.cons (.loop (.cons (.name 6) (.cons (.cons (.name 7) (.cons (.name 8) .nil)) .nil)) (.enum (.var 1)) (.cons (.ite (.and (.call 22 (.cons (.var 7) (.cons (.var 3) .nil))) (.not (.call 22 (.cons (.var 8) (.cons (.var 3) .nil))))) (.cons (.exp (.meth .append (.var 5) (.var 6))) .nil) .nil) .nil)) (.cons (.ite (.not (.var 5)) (.cons (.ret (.cst .none)) .nil) .nil) (.cons (.exp (.meth .append (.var 4) (.idx (.var 5) (.cst (.int 0))))) (.cons (.exp (.meth .extend (.var 3) (.idx (.idx (.var 1) (.idx (.var 5) (.cst (.int 0)))) (.cst (.int 1))))) .nil)))))) (.cons (.ret (.var 4)) .nil))))⟩
def ruleAt (rs : List Rule) (i : Int) : Rule := rs.getD i.toNat ([], [])
theorem rule_get {rs : List Rule} {i : Int} (h0 : 0 ≤ i) (h1 : i < rs.length) : idxD (enc rs) (.int i) = some (enc (ruleAt rs i)) := by
  rw [enc_list, idx_natT _ _ h0 (by rw [List.length_map]; exact h1), List.getElem?_map]
  unfold ruleAt
  rw [List.getD_eq_getElem?_getD, List.getElem?_eq_getElem (show i.toNat < rs.length by omega)]
  rfl
theorem ruleAt_mem {rs : List Rule} {i : Int} (h0 : 0 ≤ i) (h1 : i < rs.length) : ruleAt rs i ∈ rs := by
  unfold ruleAt
  rw [List.getD_eq_getElem?_getD, List.getElem?_eq_getElem (show i.toNat < rs.length by omega)]
  exact List.getElem_mem _
def derGo (rs : List Rule) (right : Cols) : Cols → List Int → Bool
  | K, [] => partB right K
  | K, i :: is => if partB (ruleAt rs i).1 K then derGo rs right (K ++ (ruleAt rs i).2) is else false
def rightB (rs : List Rule) (r : Rule) : PyData → Bool
  | .list xs => if xs.all (fun x => isIntB x 0 ((rs.length : Int) - 1)) then derGo rs r.2 r.1 (decC (.tuple xs)) else false
  | _ => false
theorem idx_fst (r : Rule) : idxD (enc r) (.int 0) = some (enc r.1) := by rw [enc_pair]; rfl
theorem idx_snd (r : Rule) : idxD (enc r) (.int 1) = some (enc r.2) := by rw [enc_pair]; rfl
theorem extend_tup {h : HP} {n : Nat} {xs : List PyData} {c : Cols} (hn : h[n]? = some xs) (hl : xs.length + c.length ≤ LIM) : methD .extend h n (.v (.dat (enc c))) = some (h.set n (xs ++ c.map enc)) := by
  show (h[n]?).bind _ = _
  rw [hn]
  show (if xs.length + (c.map (enc : Int → PyData)).length ≤ LIM then some (h.set n (xs ++ c.map enc)) else none) = _
  rw [List.length_map, if_pos hl]
section
variable {P : Prog} {fw : Nat}

theorem der_for {k : Nat} (hk : 1 ≤ k) (h22 : P.lookup 22 = some d_is_part) {w : Nat} (hw : w ≤ 6) {rs : List Rule} (g : GoodR w rs) {r : Rule} {d : PyData} {h : HP} : ∀ (is : List Int) (K : Cols) (o5 : Option Vl), (∀ i ∈ is, 0 ≤ i ∧ i < rs.length) → K.length + 6 * is.length ≤ LIM →
    (∃ o5' K', derGo rs r.2 K is = partB r.2 K' ∧ forL (fun x ρ h => (ofOpt (bindT (.name 5) x ρ) h).bind fun ρ h => exs (run P fw k) fw (.cons (.ite (.not (.call 22 (.cons (.idx (.idx (.var 1) (.var 5)) (.cst (.int 0))) (.cons (.var 4) .nil)))) (.cons (.ret (.cst (.bool false))) .nil) .nil) (.cons (.exp (.meth .extend (.var 4) (.idx (.idx (.var 1) (.var 5)) (.cst (.int 1))))) .nil)) ρ h) (is.map enc) [some (.dat (.int w)), some (.dat (enc rs)), some (.dat (enc r)), some (.dat d), some (.loc h.length), o5, none] (h ++ [K.map enc]) = .ok (.next [some (.dat (.int w)), some (.dat (enc rs)), some (.dat (enc r)), some (.dat d), some (.loc h.length), o5', none]) (h ++ [K'.map enc])) ∨
    (derGo rs r.2 K is = false ∧ ∃ L, forL (fun x ρ h => (ofOpt (bindT (.name 5) x ρ) h).bind fun ρ h => exs (run P fw k) fw (.cons (.ite (.not (.call 22 (.cons (.idx (.idx (.var 1) (.var 5)) (.cst (.int 0))) (.cons (.var 4) .nil)))) (.cons (.ret (.cst (.bool false))) .nil) .nil) (.cons (.exp (.meth .extend (.var 4) (.idx (.idx (.var 1) (.var 5)) (.cst (.int 1))))) .nil)) ρ h) (is.map enc) [some (.dat (.int w)), some (.dat (enc rs)), some (.dat (enc r)), some (.dat d), some (.loc h.length), o5, none] (h ++ [K.map enc]) = .ok (.ret (.v (.dat (.bool false)))) (h ++ [L])) := by
  intro is
  induction is with
  | nil => intro K o5 _ _; exact .inl ⟨o5, K, rfl, rfl⟩
  | cons i is ih =>
    intro K o5 hi hl
    obtain ⟨i0, i1⟩ := hi i List.mem_cons_self
    have gr := g.cols _ (ruleAt_mem i0 i1)
    have l2 := good_len gr.2.1
    have ix := rule_get i0 i1
    have cl : (h ++ [K.map (enc : Int → PyData)])[h.length]? = some (K.map enc) := by simp
    have p1 := run_is_part (fw := fw) h22 (ruleAt rs i).1 K (h ++ [K.map enc]) (.loc h.length) (.inl (by show ((h ++ [K.map (enc : Int → PyData)])[h.length]?).map PyData.list = _; rw [cl]; rfl)) k hk
    show (∃ o5' K', _ ∧ Res.bind _ _ = _) ∨ (_ ∧ ∃ L, Res.bind _ _ = _)
    cases hp : partB (ruleAt rs i).1 K with
    | false =>
      rw [hp] at p1
      refine .inr ⟨?_, K.map enc, ?_⟩
      · show (if partB (ruleAt rs i).1 K then _ else false) = false
        rw [hp]; rfl
      · simp [enc_int, ix, idx_fst, p1]
    | true =>
      rw [hp] at p1
      have ex := extend_tup (h := h ++ [K.map enc]) (n := h.length) (xs := K.map enc) (c := (ruleAt rs i).2) cl (by rw [List.length_map]; simp only [List.length_cons] at hl; omega)
      have st : (h ++ [K.map (enc : Int → PyData)]).set h.length (K.map enc ++ (ruleAt rs i).2.map enc) = h ++ [(K ++ (ruleAt rs i).2).map enc] := by simp
      rw [st] at ex
      have b : ((ofOpt (bindT (.name 5) (enc i) [some (.dat (.int w)), some (.dat (enc rs)), some (.dat (enc r)), some (.dat d), some (.loc h.length), o5, none]) (h ++ [K.map enc])).bind fun ρ h => exs (run P fw k) fw (.cons (.ite (.not (.call 22 (.cons (.idx (.idx (.var 1) (.var 5)) (.cst (.int 0))) (.cons (.var 4) .nil)))) (.cons (.ret (.cst (.bool false))) .nil) .nil) (.cons (.exp (.meth .extend (.var 4) (.idx (.idx (.var 1) (.var 5)) (.cst (.int 1))))) .nil)) ρ h) = .ok (.next [some (.dat (.int w)), some (.dat (enc rs)), some (.dat (enc r)), some (.dat d), some (.loc h.length), some (.dat (enc i)), none]) (h ++ [(K ++ (ruleAt rs i).2).map enc]) := by
        simp [-List.map_append, enc_int, ix, idx_fst, idx_snd, p1, ex]
      have e : derGo rs r.2 K (i :: is) = derGo rs r.2 (K ++ (ruleAt rs i).2) is := by
        show (if partB (ruleAt rs i).1 K then _ else false) = _
        rw [hp]; rfl
      have := ih (K ++ (ruleAt rs i).2) (some (.dat (enc i))) (fun j m => hi j (List.mem_cons_of_mem _ m)) (by rw [List.length_append]; simp only [List.length_cons] at hl; omega)
      rw [e]
      rcases this with ⟨o, K', q1, q2⟩ | ⟨q1, L, q2⟩
      · refine .inl ⟨o, K', q1, ?_⟩
        refine (congrArg (fun z => Res.bind z _) b).trans ?_
        exact q2
      · refine .inr ⟨q1, L, ?_⟩
        refine (congrArg (fun z => Res.bind z _) b).trans ?_
        exact q2
def fewT : PyData → Prop
  | .list xs => xs.length ≤ 1000
  | _ => True
theorem req_all (B : HasBasics P) (h20 : P.lookup 20 = some d_require_dependency) (h26 : P.lookup 26 = some d_require_all) {w : Nat} (hw : 1 ≤ w ∧ w ≤ 6) {rs : List Rule} (g : GoodR w rs) {r : Rule} (g1 : GoodC w r.1) (g2 : GoodC w r.2) (g3 : r.2 ≠ []) (h : HP) : Runs P fw 6 26 [.dat (.int w), .dat (enc rs), .dat (enc r)] h (okN h) := by
  refine Runs.start (K := 5) (ρ := [some (.dat (.int w)), some (.dat (enc rs)), some (.dat (enc r))]) h26 rfl rfl rfl fun k hk => ?_
  have r1 := req_good (fw := fw) B hw g h k hk
  have r2 := run_require_dep (fw := fw) B h20 w (enc r) (rule_lenOk hw.2 g1 g2) h k (by omega)
  rw [valid_good g1 g2 g3] at r2
  simp at r2
  simp [d_require_all, r1, r2]
theorem req_all_bad1 (B : HasBasics P) (h26 : P.lookup 26 = some d_require_all) (c r d : PyData) (hl : lenOk2 r) (h : HP) {e : Nat} (he : reqR c r h = .exc e h) : Runs P fw 6 26 [.dat c, .dat r, .dat d] h (.exc e h) := by
  refine Runs.start (K := 5) (ρ := [some (.dat c), some (.dat r), some (.dat d)]) h26 rfl rfl rfl fun k hk => ?_
  have r1 := run_require_deps (fw := fw) B.f0 B.f1 B.f2 B.f3 B.f4 B.f5 B.f19 c r hl h k (by omega)
  rw [he] at r1
  simp [d_require_all, r1]
theorem req_all_bad2 (B : HasBasics P) (h20 : P.lookup 20 = some d_require_dependency) (h26 : P.lookup 26 = some d_require_all) {w : Nat} (hw : 1 ≤ w ∧ w ≤ 6) {rs : List Rule} (g : GoodR w rs) (d : PyData) (hl : ∀ xs, d = .tuple xs → ∀ x ∈ xs, lenOk x) (hd : validB w d = false) (h : HP) : Runs P fw 6 26 [.dat (.int w), .dat (enc rs), .dat d] h (.exc 3 h) := by
  refine Runs.start (K := 5) (ρ := [some (.dat (.int w)), some (.dat (enc rs)), some (.dat d)]) h26 rfl rfl rfl fun k hk => ?_
  have r1 := req_good (fw := fw) B hw g h k hk
  have r2 := run_require_dep (fw := fw) B h20 w d hl h k (by omega)
  rw [hd] at r2
  simp at r2
  simp [d_require_all, r1, r2]
theorem run_is_derivation (B : HasBasics P) (h20 : P.lookup 20 = some d_require_dependency) (h22 : P.lookup 22 = some d_is_part) (h26 : P.lookup 26 = some d_require_all) (h35 : P.lookup 35 = some d_is_derivation) {w : Nat} (hw : 1 ≤ w ∧ w ≤ 6) {rs : List Rule} (g : GoodR w rs) {r : Rule} (g1 : GoodC w r.1) (g2 : GoodC w r.2) (g3 : r.2 ≠ []) (d : PyData) (hd : fewT d) (h : HP) :
    Runs P fw 7 35 [.dat (.int w), .dat (enc rs), .dat (enc r), .dat d] h (okB (rightB rs r d) h) := by
  refine Runs.start (K := 6) (ρ := [some (.dat (.int w)), some (.dat (enc rs)), some (.dat (enc r)), some (.dat d), none, none, none]) h35 rfl rfl rfl fun k hk => ?_
  have r1 := req_all (fw := fw) B h20 h26 hw g g1 g2 g3 h k hk
  have lim : (10000 : Nat) ≤ LIM := by decide
  cases d with
  | list xs =>
    have c1 : ev (run P fw k) (.comp (.call 0 (.cons (.var 6) (.cons (.cst (.int 0)) (.cons (.bin .sub (.b1 .len (.var 1)) (.cst (.int 1))) .nil)))) (.name 6) (.seq (.var 3)) .none [6]) [some (.dat (.int w)), some (.dat (enc rs)), some (.dat (enc r)), some (.dat (.list xs)), none, none, none] h = .ok (.new (xs.map fun x => .bool (isIntB x 0 ((rs.length : Int) - 1)))) h := by
      have ln : b1D .len (enc rs) = some (.v (.dat (.int rs.length))) := by
        show some (RV.v (.dat (.int (rs.map (enc : Rule → PyData)).length))) = _
        rw [List.length_map]
      have su : binD .sub (.int rs.length) (.int 1) = some (.v (.dat (.int ((rs.length : Int) - 1)))) := rfl
      have hm : xs = xs.map id := (List.map_id xs).symm
      refine ev_comp_of (items := xs.map id) (h1 := h) (by simp) (comp_map (g := id) fun x _ => ?_)
      have q := run_is_integer (fw := fw) B.f0 x 0 ((rs.length : Int) - 1) h k (by omega)
      simp [ln, su, q]
    have a1 := all_bools (fun x => isIntB x 0 ((rs.length : Int) - 1)) xs
    have e0 : rightB rs r (.list xs) = if xs.all (fun x => isIntB x 0 ((rs.length : Int) - 1)) then derGo rs r.2 r.1 (decC (.tuple xs)) else false := rfl
    rw [e0]
    cases ha : xs.all (fun x => isIntB x 0 ((rs.length : Int) - 1)) with
    | false =>
      rw [ha] at a1
      unfold d_is_derivation
      simp [-ev_comp, -all_bools, r1, isinstD, c1, a1]
    | true =>
      rw [ha] at a1
      obtain ⟨ns, rfl, hn⟩ := ints_all ha
      have ed : decC (.tuple (ns.map .int)) = ns := decC_enc ns
      rw [ed, if_pos rfl]
      have t0 : ex (run P fw k) fw (.exp (.call 26 (.cons (.var 0) (.cons (.var 1) (.cons (.var 2) .nil))))) [some (.dat (.int w)), some (.dat (enc rs)), some (.dat (enc r)), some (.dat (.list (ns.map .int))), none, none, none] h = .ok (.next [some (.dat (.int w)), some (.dat (enc rs)), some (.dat (enc r)), some (.dat (.list (ns.map .int))), none, none, none]) h := by simp [r1]
      have t1 : ex (run P fw k) fw (.ite (.or (.not (.isinst .list (.var 3))) (.not (.b1 .all (.comp (.call 0 (.cons (.var 6) (.cons (.cst (.int 0)) (.cons (.bin .sub (.b1 .len (.var 1)) (.cst (.int 1))) .nil)))) (.name 6) (.seq (.var 3)) .none [6])))) (.cons (.ret (.cst (.bool false))) .nil) .nil) [some (.dat (.int w)), some (.dat (enc rs)), some (.dat (enc r)), some (.dat (.list (ns.map .int))), none, none, none] h = .ok (.next [some (.dat (.int w)), some (.dat (enc rs)), some (.dat (enc r)), some (.dat (.list (ns.map .int))), none, none, none]) h := by
        simp only [ex_ite, ev_or, ev_not, ev_isinst, ev_var, getV_succ, getV_zero, Option.map_some, ofOpt_some, Res.bind_ok, dat1_dat, isinstD, Option.bind_some, truth_bool, Bool.not_true]
        generalize (List.map (fun x => PyData.bool (isIntB x 0 ((rs.length : Int) - 1))) (ns.map PyData.int)) = bl at c1 a1
        simp [-ev_comp, -all_bools, c1, a1]
      have t2 : ex (run P fw k) fw (.put 4 true (.b1 .list (.idx (.var 2) (.cst (.int 0))))) [some (.dat (.int w)), some (.dat (enc rs)), some (.dat (enc r)), some (.dat (.list (ns.map .int))), none, none, none] h = .ok (.next [some (.dat (.int w)), some (.dat (enc rs)), some (.dat (enc r)), some (.dat (.list (ns.map .int))), some (.loc h.length), none, none]) (h ++ [r.1.map enc]) := by
        have bl : b1D .list (enc r.1) = some (.new (r.1.map enc)) := rfl
        simp [idx_fst, bl]
      have hd' : (ns.map PyData.int).length ≤ 1000 := hd
      rw [List.length_map] at hd'
      have l1 := good_len g1
      have := der_for (P := P) (fw := fw) (k := k) (by omega) h22 hw.2 g (r := r) (d := .list (ns.map .int)) (h := h) ns r.1 none (fun i m => by have := hn i m; omega) (by omega)
      unfold d_is_derivation
      dsimp only
      rw [exs_cons', t0, andThen_next, exs_cons', t1, andThen_next, exs_cons', t2, andThen_next, exs_cons']
      rcases this with ⟨o5, K', q1, q2⟩ | ⟨q1, L, q2⟩
      · have lp := ex_loop_of (call := run P fw k) (fw := fw) (it := .seq (.var 3)) (h1 := h ++ [r.1.map enc]) (h := h ++ [r.1.map enc]) (items := ns.map enc) (by simp; intro a _; rfl) q2
        rw [lp, andThen_next]
        have cl : (h ++ [K'.map (enc : Int → PyData)])[h.length]? = some (K'.map enc) := by simp
        have p1 := run_is_part (fw := fw) h22 r.2 K' (h ++ [K'.map enc]) (.loc h.length) (.inl (by show ((h ++ [K'.map (enc : Int → PyData)])[h.length]?).map PyData.list = _; rw [cl]; rfl)) k (by omega)
        rw [q1]
        simp [idx_snd, p1, leave, outOf]
      · have lp := ex_loop_of (call := run P fw k) (fw := fw) (it := .seq (.var 3)) (h1 := h ++ [r.1.map enc]) (h := h ++ [r.1.map enc]) (items := ns.map enc) (by simp; intro a _; rfl) q2
        rw [lp, q1]
        simp [leave, outOf]
  | none => simp [d_is_derivation, r1, isinstD, rightB]
  | bool _ => simp [d_is_derivation, r1, isinstD, rightB]
  | int _ => simp [d_is_derivation, r1, isinstD, rightB]
  | str _ => simp [d_is_derivation, r1, isinstD, rightB]
  | tuple _ => simp [d_is_derivation, r1, isinstD, rightB]
  | dict _ => simp [d_is_derivation, r1, isinstD, rightB]
end
/-! numbered items -/
def enumE {α : Type} : Nat → List α → List (Int × α)
  | _, [] => []
  | n, x :: xs => ((n : Int), x) :: enumE (n + 1) xs
theorem enumD_enc {α : Type} [DecidableEq α] [Enc α] : ∀ (l : List α) (n : Nat), enumD n (l.map enc) = (enumE n l).map fun p => .tuple [.int p.1, enc p.2]
  | [], _ => rfl
  | x :: xs, n => by
    show PyData.tuple [.int n, enc x] :: enumD (n + 1) (xs.map enc) = PyData.tuple [.int n, enc x] :: _
    rw [enumD_enc xs (n + 1)]
theorem mem_enumE {α : Type} : ∀ {l : List α} {n : Nat} {p : Int × α}, p ∈ enumE n l → ∃ i : Nat, p.1 = ((n + i : Nat) : Int) ∧ l[i]? = some p.2
  | x :: xs, n, p, h => by
    rcases List.mem_cons.mp h with rfl | h
    · exact ⟨0, rfl, rfl⟩
    · obtain ⟨i, e1, e2⟩ := mem_enumE h
      exact ⟨i + 1, by rw [e1, show n + 1 + i = n + (i + 1) by omega], e2⟩
theorem len_enumE {α : Type} : ∀ (l : List α) (n : Nat), (enumE n l).length = l.length
  | [], _ => rfl
  | x :: xs, n => by show (enumE (n + 1) xs).length + 1 = _; rw [len_enumE xs (n + 1)]; rfl
section
variable {h T : HP} {a b s x : List PyData}
theorem dcell0 : (h ++ a :: b :: T)[h.length]? = some a := by simp
theorem dcell1 : (h ++ a :: b :: T)[h.length + 1]? = some b := by simp
theorem dset0 : (h ++ a :: b :: T).set h.length x = h ++ x :: b :: T := by rw [List.set_append_right _ _ (Nat.le_refl _), Nat.sub_self]; rfl
theorem dset1 : (h ++ a :: b :: T).set (h.length + 1) x = h ++ a :: x :: T := by rw [List.set_append_right _ _ (by omega), show h.length + 1 - h.length = 1 by omega]; rfl
theorem dpushT : (h ++ a :: b :: T) ++ [s] = h ++ a :: b :: (T ++ [s]) := by simp
theorem dlenT : (h ++ a :: b :: T).length = h.length + (T.length + 2) := by simp
theorem dcellT : (h ++ a :: b :: (T ++ [s]))[h.length + (T.length + 2)]? = some s := by
  rw [List.getElem?_append_right (by omega), show h.length + (T.length + 2) - h.length = T.length + 2 by omega]
  simp
theorem dsetT : (h ++ a :: b :: (T ++ [s])).set (h.length + (T.length + 2)) x = h ++ a :: b :: (T ++ [x]) := by
  rw [List.set_append_right _ _ (by omega), show h.length + (T.length + 2) - h.length = T.length + 2 by omega]
  simp
end
def fireB (K : Cols) (p : Int × Rule) : Bool := partB p.2.1 K && !partB p.2.2 K
def fires (rs : List Rule) (K : Cols) : List Int := ((enumE 0 rs).filter (fireB K)).map (·.1)
theorem fires_at {rs : List Rule} {K : Cols} {i : Int} (m : i ∈ fires rs K) : (0 ≤ i ∧ i < rs.length) ∧ ¬ ∀ x ∈ (ruleAt rs i).2, x ∈ K := by
  obtain ⟨p, mp, rfl⟩ := List.mem_map.mp m
  obtain ⟨m1, m2⟩ := List.mem_filter.mp mp
  obtain ⟨j, e1, e2⟩ := mem_enumE m1
  have hj := (List.getElem?_eq_some_iff.mp e2).1
  have er : ruleAt rs p.1 = p.2 := by
    unfold ruleAt
    rw [e1, List.getD_eq_getElem?_getD, show (((0 + j : Nat) : Int)).toNat = j by omega, e2]
    rfl
  refine ⟨by omega, fun z => ?_⟩
  unfold fireB at m2
  rw [Bool.and_eq_true] at m2
  rw [er] at z
  rw [partB_iff.mpr z] at m2
  exact absurd m2.2 (by decide)
def mW (w : Nat) (K : Cols) : Nat := ((upTo w).filter fun x => !decide (x ∈ K)).length
theorem mW_lt {w : Nat} {K c : Cols} (gc : GoodC w c) (h : ¬ ∀ x ∈ c, x ∈ K) : mW w (K ++ c) < mW w K := by
  obtain ⟨x, hx⟩ := Classical.not_forall.mp h
  obtain ⟨mx, nx⟩ := Classical.not_imp.mp hx
  refine filter_lt (upTo w) (fun y _ q => ?_) ⟨x, mem_upTo.mpr (by have := gc.1 x mx; omega), by simp [nx], by simp [mx]⟩
  simp at q ⊢
  exact q.1
section
variable {P : Prog} {fw : Nat}

theorem der_inner {k : Nat} (hk : 1 ≤ k) (h22 : P.lookup 22 = some d_is_part) {w : Nat} {rs : List Rule} (hr : rs.length ≤ 8) {r : Rule} {h T : HP} {K : Cols} {b : List PyData} (o6 o7 o8 : Option Vl) :
    ∃ p6 p7 p8, ex (run P fw k) fw (.loop (.cons (.name 6) (.cons (.cons (.name 7) (.cons (.name 8) .nil)) .nil)) (.enum (.var 1)) (.cons (.ite (.and (.call 22 (.cons (.var 7) (.cons (.var 3) .nil))) (.not (.call 22 (.cons (.var 8) (.cons (.var 3) .nil))))) (.cons (.exp (.meth .append (.var 5) (.var 6))) .nil) .nil) .nil)) [some (.dat (.int w)), some (.dat (enc rs)), some (.dat (enc r)), some (.loc h.length), some (.loc (h.length + 1)), some (.loc (h.length + (T.length + 2))), o6, o7, o8] (h ++ K.map enc :: b :: (T ++ [[]])) = .ok (.next [some (.dat (.int w)), some (.dat (enc rs)), some (.dat (enc r)), some (.loc h.length), some (.loc (h.length + 1)), some (.loc (h.length + (T.length + 2))), p6, p7, p8]) (h ++ K.map enc :: b :: (T ++ [(fires rs K).map .int])) := by
  have lim : (1000 : Nat) ≤ LIM := by decide
  obtain ⟨ρ', h', e, p6, p7, p8, rfl, eh⟩ := for_inv (g := fun p : Int × Rule => PyData.tuple [.int p.1, enc p.2]) (body := fun x ρ h => (ofOpt (bindT (.cons (.name 6) (.cons (.cons (.name 7) (.cons (.name 8) .nil)) .nil)) x ρ) h).bind fun ρ h => exs (run P fw k) fw (.cons (.ite (.and (.call 22 (.cons (.var 7) (.cons (.var 3) .nil))) (.not (.call 22 (.cons (.var 8) (.cons (.var 3) .nil))))) (.cons (.exp (.meth .append (.var 5) (.var 6))) .nil) .nil) .nil) ρ h)
    (fun j ρ hh => ∃ o6 o7 o8, ρ = [some (.dat (.int w)), some (.dat (enc rs)), some (.dat (enc r)), some (.loc h.length), some (.loc (h.length + 1)), some (.loc (h.length + (T.length + 2))), o6, o7, o8] ∧ hh = h ++ K.map enc :: b :: (T ++ [(((enumE 0 rs).take j).filter (fireB K)).map fun p => .int p.1])) (enumE 0 rs) 0 [some (.dat (.int w)), some (.dat (enc rs)), some (.dat (enc r)), some (.loc h.length), some (.loc (h.length + 1)), some (.loc (h.length + (T.length + 2))), o6, o7, o8] (h ++ K.map enc :: b :: (T ++ [[]])) (fun j p ρ hh hj hI => by
      obtain ⟨o6, o7, o8, rfl, rfl⟩ := hI
      generalize hS : (((enumE 0 rs).take (0 + j)).filter (fireB K)) = S
      have sl : S.length ≤ 8 := by
        rw [← hS]
        have h1 := List.length_filter_le (fireB K) ((enumE 0 rs).take (0 + j))
        have h2 : ((enumE 0 rs).take (0 + j)).length ≤ 8 := by rw [List.length_take, len_enumE]; omega
        omega
      have nx : (((enumE 0 rs).take (0 + j + 1)).filter (fireB K)) = if fireB K p then S ++ [p] else S := by
        have e0 : 0 + j = j := by omega
        rw [List.take_add_one, e0, hj, List.filter_append, ← hS, e0]
        simp [List.filter_cons]
        split <;> simp
      have dk : datOf (h ++ K.map enc :: b :: (T ++ [S.map fun p => PyData.int p.1])) (.loc h.length) = some (.list (K.map enc)) := by
        show ((h ++ K.map (enc : Int → PyData) :: b :: (T ++ [S.map fun p => PyData.int p.1]))[h.length]?).map PyData.list = _
        rw [dcell0]; rfl
      have q1 := run_is_part (fw := fw) h22 p.2.1 K _ (.loc h.length) (.inl dk) k hk
      have q2 := run_is_part (fw := fw) h22 p.2.2 K _ (.loc h.length) (.inl dk) k hk
      refine ⟨[some (.dat (.int w)), some (.dat (enc rs)), some (.dat (enc r)), some (.loc h.length), some (.loc (h.length + 1)), some (.loc (h.length + (T.length + 2))), some (.dat (.int p.1)), some (.dat (enc p.2.1)), some (.dat (enc p.2.2))], h ++ K.map enc :: b :: (T ++ [(if fireB K p then S ++ [p] else S).map fun p => .int p.1]), ?_, _, _, _, rfl, by rw [nx]⟩
      have ap := append_loc (h := h ++ K.map enc :: b :: (T ++ [S.map fun p => PyData.int p.1])) (n := h.length + (T.length + 2)) (xs := S.map fun p => PyData.int p.1) dcellT (by rw [List.length_map]; omega) (.int p.1)
      rw [dsetT] at ap
      have bt : bindT (.cons (.name 6) (.cons (.cons (.name 7) (.cons (.name 8) .nil)) .nil)) (PyData.tuple [.int p.1, enc p.2]) [some (.dat (.int w)), some (.dat (enc rs)), some (.dat (enc r)), some (.loc h.length), some (.loc (h.length + 1)), some (.loc (h.length + (T.length + 2))), o6, o7, o8] = some [some (.dat (.int w)), some (.dat (enc rs)), some (.dat (enc r)), some (.loc h.length), some (.loc (h.length + 1)), some (.loc (h.length + (T.length + 2))), some (.dat (.int p.1)), some (.dat (enc p.2.1)), some (.dat (enc p.2.2))] := by
        rw [enc_pair]
        simp
      show (ofOpt _ _).bind _ = _
      rw [bt, ofOpt_some, Res.bind_ok]
      unfold fireB
      have lo : ∀ q, locOf (RV.v (Vl.loc q)) = some q := fun _ => rfl
      cases z1 : partB p.2.1 K <;> cases z2 : partB p.2.2 K <;> rw [z1] at q1 <;> rw [z2] at q2 <;> simp [q1, q2, lo, ap]) ⟨o6, o7, o8, rfl, by simp⟩
  subst eh
  refine ⟨p6, p7, p8, ?_⟩
  have tk : (enumE 0 rs).take (0 + (enumE 0 rs).length) = enumE 0 rs := by rw [Nat.zero_add]; exact List.take_length
  rw [tk] at e
  have ef : (fires rs K).map PyData.int = ((enumE 0 rs).filter (fireB K)).map fun p => .int p.1 := by unfold fires; rw [List.map_map]; rfl
  rw [ef]
  exact ex_loop_of (h1 := h ++ K.map enc :: b :: (T ++ [[]])) (by simp [enc_list, enumD_enc]) e


theorem der_while {k : Nat} (hk : 1 ≤ k) (h22 : P.lookup 22 = some d_is_part) {w : Nat} (hw : w ≤ 6) {rs : List Rule} (g : GoodR w rs) {r : Rule} {h : HP} : ∀ (n : Nat) (K : Cols) (F : List Int) (T : HP) (f : Nat) (o5 o6 o7 o8 : Option Vl), mW w K ≤ n → n + 1 ≤ f → K.length + 6 * n ≤ 1000 → (∀ i ∈ F, 0 ≤ i ∧ i < rs.length) → F.length + n ≤ 100 →
    (∃ (F' : List Int) (K' : Cols) (T' : HP) (p5 p6 p7 p8 : Option Vl), (∀ i ∈ F', 0 ≤ i ∧ i < rs.length) ∧ F'.length ≤ F.length + n ∧ whileL (fun ρ h => (ev (run P fw k) (.not (.call 22 (.cons (.idx (.var 2) (.cst (.int 1))) (.cons (.var 3) .nil)))) ρ h).bind fun x h => ofOpt ((dat1 h x).bind truthD) h) (fun ρ h => exs (run P fw k) fw (.cons (.put 5 true (.lst .nil)) (.cons (.loop (.cons (.name 6) (.cons (.cons (.name 7) (.cons (.name 8) .nil)) .nil)) (.enum (.var 1)) (.cons (.ite (.and (.call 22 (.cons (.var 7) (.cons (.var 3) .nil))) (.not (.call 22 (.cons (.var 8) (.cons (.var 3) .nil))))) (.cons (.exp (.meth .append (.var 5) (.var 6))) .nil) .nil) .nil)) (.cons (.ite (.not (.var 5)) (.cons (.ret (.cst .none)) .nil) .nil) (.cons (.exp (.meth .append (.var 4) (.idx (.var 5) (.cst (.int 0))))) (.cons (.exp (.meth .extend (.var 3) (.idx (.idx (.var 1) (.idx (.var 5) (.cst (.int 0)))) (.cst (.int 1))))) .nil))))) ρ h) f [some (.dat (.int w)), some (.dat (enc rs)), some (.dat (enc r)), some (.loc h.length), some (.loc (h.length + 1)), o5, o6, o7, o8] (h ++ K.map enc :: F.map enc :: T) = .ok (.next [some (.dat (.int w)), some (.dat (enc rs)), some (.dat (enc r)), some (.loc h.length), some (.loc (h.length + 1)), p5, p6, p7, p8]) (h ++ K'.map enc :: F'.map enc :: T')) ∨
    (∃ L, whileL (fun ρ h => (ev (run P fw k) (.not (.call 22 (.cons (.idx (.var 2) (.cst (.int 1))) (.cons (.var 3) .nil)))) ρ h).bind fun x h => ofOpt ((dat1 h x).bind truthD) h) (fun ρ h => exs (run P fw k) fw (.cons (.put 5 true (.lst .nil)) (.cons (.loop (.cons (.name 6) (.cons (.cons (.name 7) (.cons (.name 8) .nil)) .nil)) (.enum (.var 1)) (.cons (.ite (.and (.call 22 (.cons (.var 7) (.cons (.var 3) .nil))) (.not (.call 22 (.cons (.var 8) (.cons (.var 3) .nil))))) (.cons (.exp (.meth .append (.var 5) (.var 6))) .nil) .nil) .nil)) (.cons (.ite (.not (.var 5)) (.cons (.ret (.cst .none)) .nil) .nil) (.cons (.exp (.meth .append (.var 4) (.idx (.var 5) (.cst (.int 0))))) (.cons (.exp (.meth .extend (.var 3) (.idx (.idx (.var 1) (.idx (.var 5) (.cst (.int 0)))) (.cst (.int 1))))) .nil))))) ρ h) f [some (.dat (.int w)), some (.dat (enc rs)), some (.dat (enc r)), some (.loc h.length), some (.loc (h.length + 1)), o5, o6, o7, o8] (h ++ K.map enc :: F.map enc :: T) = .ok (.ret (.v (.dat .none))) (h ++ L)) := by
  intro n
  have lim : (10000 : Nat) ≤ LIM := by decide
  induction n with
  | zero =>
    intro K F T f o5 o6 o7 o8 hm hf hK hF hl
    exact dstep 0 (fun K' F' T' f' p5 p6 p7 p8 z => absurd z (by omega)) K F T f o5 o6 o7 o8 hm hf hK hF hl
  | succ n ih => exact dstep (n + 1) (fun K F T f o5 o6 o7 o8 hm => ih K F T f o5 o6 o7 o8 (by omega))
where
  dstep (n : Nat) (ih : ∀ (K : Cols) (F : List Int) (T : HP) (f : Nat) (o5 o6 o7 o8 : Option Vl), mW w K < n → n ≤ f → K.length + 6 * (n - 1) ≤ 1000 → (∀ i ∈ F, 0 ≤ i ∧ i < rs.length) → F.length + (n - 1) ≤ 100 →
    (∃ (F' : List Int) (K' : Cols) (T' : HP) (p5 p6 p7 p8 : Option Vl), (∀ i ∈ F', 0 ≤ i ∧ i < rs.length) ∧ F'.length ≤ F.length + (n - 1) ∧ whileL (fun ρ h => (ev (run P fw k) (.not (.call 22 (.cons (.idx (.var 2) (.cst (.int 1))) (.cons (.var 3) .nil)))) ρ h).bind fun x h => ofOpt ((dat1 h x).bind truthD) h) (fun ρ h => exs (run P fw k) fw (.cons (.put 5 true (.lst .nil)) (.cons (.loop (.cons (.name 6) (.cons (.cons (.name 7) (.cons (.name 8) .nil)) .nil)) (.enum (.var 1)) (.cons (.ite (.and (.call 22 (.cons (.var 7) (.cons (.var 3) .nil))) (.not (.call 22 (.cons (.var 8) (.cons (.var 3) .nil))))) (.cons (.exp (.meth .append (.var 5) (.var 6))) .nil) .nil) .nil)) (.cons (.ite (.not (.var 5)) (.cons (.ret (.cst .none)) .nil) .nil) (.cons (.exp (.meth .append (.var 4) (.idx (.var 5) (.cst (.int 0))))) (.cons (.exp (.meth .extend (.var 3) (.idx (.idx (.var 1) (.idx (.var 5) (.cst (.int 0)))) (.cst (.int 1))))) .nil))))) ρ h) f [some (.dat (.int w)), some (.dat (enc rs)), some (.dat (enc r)), some (.loc h.length), some (.loc (h.length + 1)), o5, o6, o7, o8] (h ++ K.map enc :: F.map enc :: T) = .ok (.next [some (.dat (.int w)), some (.dat (enc rs)), some (.dat (enc r)), some (.loc h.length), some (.loc (h.length + 1)), p5, p6, p7, p8]) (h ++ K'.map enc :: F'.map enc :: T')) ∨
    (∃ L, whileL (fun ρ h => (ev (run P fw k) (.not (.call 22 (.cons (.idx (.var 2) (.cst (.int 1))) (.cons (.var 3) .nil)))) ρ h).bind fun x h => ofOpt ((dat1 h x).bind truthD) h) (fun ρ h => exs (run P fw k) fw (.cons (.put 5 true (.lst .nil)) (.cons (.loop (.cons (.name 6) (.cons (.cons (.name 7) (.cons (.name 8) .nil)) .nil)) (.enum (.var 1)) (.cons (.ite (.and (.call 22 (.cons (.var 7) (.cons (.var 3) .nil))) (.not (.call 22 (.cons (.var 8) (.cons (.var 3) .nil))))) (.cons (.exp (.meth .append (.var 5) (.var 6))) .nil) .nil) .nil)) (.cons (.ite (.not (.var 5)) (.cons (.ret (.cst .none)) .nil) .nil) (.cons (.exp (.meth .append (.var 4) (.idx (.var 5) (.cst (.int 0))))) (.cons (.exp (.meth .extend (.var 3) (.idx (.idx (.var 1) (.idx (.var 5) (.cst (.int 0)))) (.cst (.int 1))))) .nil))))) ρ h) f [some (.dat (.int w)), some (.dat (enc rs)), some (.dat (enc r)), some (.loc h.length), some (.loc (h.length + 1)), o5, o6, o7, o8] (h ++ K.map enc :: F.map enc :: T) = .ok (.ret (.v (.dat .none))) (h ++ L))) (K : Cols) (F : List Int) (T : HP) (f : Nat) (o5 o6 o7 o8 : Option Vl) (hm : mW w K ≤ n) (hf : n + 1 ≤ f) (hK : K.length + 6 * n ≤ 1000) (hF : ∀ i ∈ F, 0 ≤ i ∧ i < rs.length) (hl : F.length + n ≤ 100) :
    (∃ (F' : List Int) (K' : Cols) (T' : HP) (p5 p6 p7 p8 : Option Vl), (∀ i ∈ F', 0 ≤ i ∧ i < rs.length) ∧ F'.length ≤ F.length + n ∧ whileL (fun ρ h => (ev (run P fw k) (.not (.call 22 (.cons (.idx (.var 2) (.cst (.int 1))) (.cons (.var 3) .nil)))) ρ h).bind fun x h => ofOpt ((dat1 h x).bind truthD) h) (fun ρ h => exs (run P fw k) fw (.cons (.put 5 true (.lst .nil)) (.cons (.loop (.cons (.name 6) (.cons (.cons (.name 7) (.cons (.name 8) .nil)) .nil)) (.enum (.var 1)) (.cons (.ite (.and (.call 22 (.cons (.var 7) (.cons (.var 3) .nil))) (.not (.call 22 (.cons (.var 8) (.cons (.var 3) .nil))))) (.cons (.exp (.meth .append (.var 5) (.var 6))) .nil) .nil) .nil)) (.cons (.ite (.not (.var 5)) (.cons (.ret (.cst .none)) .nil) .nil) (.cons (.exp (.meth .append (.var 4) (.idx (.var 5) (.cst (.int 0))))) (.cons (.exp (.meth .extend (.var 3) (.idx (.idx (.var 1) (.idx (.var 5) (.cst (.int 0)))) (.cst (.int 1))))) .nil))))) ρ h) f [some (.dat (.int w)), some (.dat (enc rs)), some (.dat (enc r)), some (.loc h.length), some (.loc (h.length + 1)), o5, o6, o7, o8] (h ++ K.map enc :: F.map enc :: T) = .ok (.next [some (.dat (.int w)), some (.dat (enc rs)), some (.dat (enc r)), some (.loc h.length), some (.loc (h.length + 1)), p5, p6, p7, p8]) (h ++ K'.map enc :: F'.map enc :: T')) ∨
    (∃ L, whileL (fun ρ h => (ev (run P fw k) (.not (.call 22 (.cons (.idx (.var 2) (.cst (.int 1))) (.cons (.var 3) .nil)))) ρ h).bind fun x h => ofOpt ((dat1 h x).bind truthD) h) (fun ρ h => exs (run P fw k) fw (.cons (.put 5 true (.lst .nil)) (.cons (.loop (.cons (.name 6) (.cons (.cons (.name 7) (.cons (.name 8) .nil)) .nil)) (.enum (.var 1)) (.cons (.ite (.and (.call 22 (.cons (.var 7) (.cons (.var 3) .nil))) (.not (.call 22 (.cons (.var 8) (.cons (.var 3) .nil))))) (.cons (.exp (.meth .append (.var 5) (.var 6))) .nil) .nil) .nil)) (.cons (.ite (.not (.var 5)) (.cons (.ret (.cst .none)) .nil) .nil) (.cons (.exp (.meth .append (.var 4) (.idx (.var 5) (.cst (.int 0))))) (.cons (.exp (.meth .extend (.var 3) (.idx (.idx (.var 1) (.idx (.var 5) (.cst (.int 0)))) (.cst (.int 1))))) .nil))))) ρ h) f [some (.dat (.int w)), some (.dat (enc rs)), some (.dat (enc r)), some (.loc h.length), some (.loc (h.length + 1)), o5, o6, o7, o8] (h ++ K.map enc :: F.map enc :: T) = .ok (.ret (.v (.dat .none))) (h ++ L)) := by
    have lim : (10000 : Nat) ≤ LIM := by decide
    obtain ⟨f, rfl⟩ : ∃ q, f = q + 1 := ⟨f - 1, by omega⟩
    have dk : datOf (h ++ K.map enc :: F.map enc :: T) (.loc h.length) = some (.list (K.map enc)) := by
      show ((h ++ K.map (enc : Int → PyData) :: F.map enc :: T)[h.length]?).map PyData.list = _
      rw [dcell0]; rfl
    have q1 := run_is_part (fw := fw) h22 r.2 K _ (.loc h.length) (.inl dk) k hk
    cases hp : partB r.2 K with
    | true =>
      rw [hp] at q1
      refine .inl ⟨F, K, T, o5, o6, o7, o8, hF, by omega, ?_⟩
      show (Res.bind _ _).bind _ = _
      simp [idx_snd, q1]
    | false =>
      rw [hp] at q1
      have cnd : (fun ρ h => (ev (run P fw k) (.not (.call 22 (.cons (.idx (.var 2) (.cst (.int 1))) (.cons (.var 3) .nil)))) ρ h).bind fun x h => ofOpt ((dat1 h x).bind truthD) h) [some (.dat (.int w)), some (.dat (enc rs)), some (.dat (enc r)), some (.loc h.length), some (.loc (h.length + 1)), o5, o6, o7, o8] (h ++ K.map enc :: F.map enc :: T) = .ok true (h ++ K.map enc :: F.map enc :: T) := by
        simp [idx_snd, q1]
      obtain ⟨p6, p7, p8, e1⟩ := der_inner (P := P) (fw := fw) (k := k) hk h22 (w := w) (rs := rs) g.few (r := r) (h := h) (T := T) (K := K) (b := F.map enc) o6 o7 o8
      have e0 : ex (run P fw k) fw (.put 5 true (.lst .nil)) [some (.dat (.int w)), some (.dat (enc rs)), some (.dat (enc r)), some (.loc h.length), some (.loc (h.length + 1)), o5, o6, o7, o8] (h ++ K.map enc :: F.map enc :: T) = .ok (.next [some (.dat (.int w)), some (.dat (enc rs)), some (.dat (enc r)), some (.loc h.length), some (.loc (h.length + 1)), some (.loc (h.length + (T.length + 2))), o6, o7, o8]) (h ++ K.map enc :: F.map enc :: (T ++ [[]])) := by
        simp [putB]
      have lo : ∀ q, locOf (RV.v (Vl.loc q)) = some q := fun _ => rfl
      have ds : dat1 (h ++ K.map enc :: F.map enc :: (T ++ [(fires rs K).map PyData.int])) (.v (.loc (h.length + (T.length + 2)))) = some (.list ((fires rs K).map .int)) := by
        show ((h ++ K.map (enc : Int → PyData) :: F.map enc :: (T ++ [(fires rs K).map PyData.int]))[h.length + (T.length + 2)]?).map PyData.list = _
        rw [dcellT]; rfl
      cases ef : fires rs K with
      | nil =>
        rw [ef, List.map_nil] at e1
        refine .inr ⟨K.map enc :: F.map enc :: (T ++ [[]]), ?_⟩
        show (Res.bind _ _).bind _ = _
        have e2 : ex (run P fw k) fw (.ite (.not (.var 5)) (.cons (.ret (.cst .none)) .nil) .nil) [some (.dat (.int w)), some (.dat (enc rs)), some (.dat (enc r)), some (.loc h.length), some (.loc (h.length + 1)), some (.loc (h.length + (T.length + 2))), p6, p7, p8] (h ++ K.map enc :: F.map enc :: (T ++ [[]])) = .ok (.ret (.v (.dat .none))) (h ++ K.map enc :: F.map enc :: (T ++ [[]])) := by
          have ds' : ((h ++ K.map (enc : Int → PyData) :: F.map enc :: (T ++ [[]]))[h.length + (T.length + 2)]?) = some [] := dcellT
          simp [ds']
        have bd : (fun ρ h => exs (run P fw k) fw (.cons (.put 5 true (.lst .nil)) (.cons (.loop (.cons (.name 6) (.cons (.cons (.name 7) (.cons (.name 8) .nil)) .nil)) (.enum (.var 1)) (.cons (.ite (.and (.call 22 (.cons (.var 7) (.cons (.var 3) .nil))) (.not (.call 22 (.cons (.var 8) (.cons (.var 3) .nil))))) (.cons (.exp (.meth .append (.var 5) (.var 6))) .nil) .nil) .nil)) (.cons (.ite (.not (.var 5)) (.cons (.ret (.cst .none)) .nil) .nil) (.cons (.exp (.meth .append (.var 4) (.idx (.var 5) (.cst (.int 0))))) (.cons (.exp (.meth .extend (.var 3) (.idx (.idx (.var 1) (.idx (.var 5) (.cst (.int 0)))) (.cst (.int 1))))) .nil))))) ρ h) [some (.dat (.int w)), some (.dat (enc rs)), some (.dat (enc r)), some (.loc h.length), some (.loc (h.length + 1)), o5, o6, o7, o8] (h ++ K.map enc :: F.map enc :: T) = .ok (.ret (.v (.dat .none))) (h ++ K.map enc :: F.map enc :: (T ++ [[]])) := by
          show exs _ _ _ _ _ = _
          rw [exs_cons', e0, andThen_next, exs_cons']
          refine (congrArg (fun z => andThen z _) e1).trans ?_
          rw [andThen_next, exs_cons', e2, andThen_ret]
        refine (congrArg (fun z => Res.bind z _) cnd).trans ?_
        show Res.bind ((fun ρ h => exs (run P fw k) fw (.cons (.put 5 true (.lst .nil)) (.cons (.loop (.cons (.name 6) (.cons (.cons (.name 7) (.cons (.name 8) .nil)) .nil)) (.enum (.var 1)) (.cons (.ite (.and (.call 22 (.cons (.var 7) (.cons (.var 3) .nil))) (.not (.call 22 (.cons (.var 8) (.cons (.var 3) .nil))))) (.cons (.exp (.meth .append (.var 5) (.var 6))) .nil) .nil) .nil)) (.cons (.ite (.not (.var 5)) (.cons (.ret (.cst .none)) .nil) .nil) (.cons (.exp (.meth .append (.var 4) (.idx (.var 5) (.cst (.int 0))))) (.cons (.exp (.meth .extend (.var 3) (.idx (.idx (.var 1) (.idx (.var 5) (.cst (.int 0)))) (.cst (.int 1))))) .nil))))) ρ h) _ _) _ = _
        rw [bd]
        rfl
      | cons i is =>
        obtain ⟨hi, hn⟩ := fires_at (show i ∈ fires rs K by rw [ef]; exact List.mem_cons_self)
        have gr := g.cols _ (ruleAt_mem hi.1 hi.2)
        have l2 := good_len gr.2.1
        have lt := mW_lt (K := K) gr.2.1 hn
        rw [ef] at e1
        have cS : ((h ++ K.map (enc : Int → PyData) :: F.map enc :: (T ++ [(i :: is).map PyData.int]))[h.length + (T.length + 2)]?) = some ((i :: is).map .int) := dcellT
        have e2 : ex (run P fw k) fw (.ite (.not (.var 5)) (.cons (.ret (.cst .none)) .nil) .nil) [some (.dat (.int w)), some (.dat (enc rs)), some (.dat (enc r)), some (.loc h.length), some (.loc (h.length + 1)), some (.loc (h.length + (T.length + 2))), p6, p7, p8] (h ++ K.map enc :: F.map enc :: (T ++ [(i :: is).map .int])) = .ok (.next [some (.dat (.int w)), some (.dat (enc rs)), some (.dat (enc r)), some (.loc h.length), some (.loc (h.length + 1)), some (.loc (h.length + (T.length + 2))), p6, p7, p8]) (h ++ K.map enc :: F.map enc :: (T ++ [(i :: is).map .int])) := by
          simp [cS]
        have i0 : idxD (.list ((i :: is).map PyData.int)) (.int 0) = some (.int i) := idx_zero _ _
        have ap := append_loc (h := h ++ K.map enc :: F.map enc :: (T ++ [(i :: is).map PyData.int])) (n := h.length + 1) (xs := F.map enc) dcell1 (by rw [List.length_map]; omega) (.int i)
        rw [dset1] at ap
        have e3 : ex (run P fw k) fw (.exp (.meth .append (.var 4) (.idx (.var 5) (.cst (.int 0))))) [some (.dat (.int w)), some (.dat (enc rs)), some (.dat (enc r)), some (.loc h.length), some (.loc (h.length + 1)), some (.loc (h.length + (T.length + 2))), p6, p7, p8] (h ++ K.map enc :: F.map enc :: (T ++ [(i :: is).map .int])) = .ok (.next [some (.dat (.int w)), some (.dat (enc rs)), some (.dat (enc r)), some (.loc h.length), some (.loc (h.length + 1)), some (.loc (h.length + (T.length + 2))), p6, p7, p8]) (h ++ K.map enc :: (F.map enc ++ [.int i]) :: (T ++ [(i :: is).map .int])) := by
          simp only [ex_exp, ev_meth, ev_var, getV_succ, getV_zero, Option.map_some, ofOpt_some, Res.bind_ok, lo, ev_idx, ev_cst, dat1, settle, datOf, cS, Option.bind_some, i0, ap]
        have cS2 : ((h ++ K.map (enc : Int → PyData) :: (F.map enc ++ [PyData.int i]) :: (T ++ [(i :: is).map PyData.int]))[h.length + (T.length + 2)]?) = some ((i :: is).map .int) := dcellT
        have ix := rule_get hi.1 hi.2
        have xt := extend_tup (h := h ++ K.map enc :: (F.map enc ++ [PyData.int i]) :: (T ++ [(i :: is).map PyData.int])) (n := h.length) (xs := K.map enc) (c := (ruleAt rs i).2) dcell0 (by rw [List.length_map]; omega)
        rw [dset0] at xt
        have e4 : ex (run P fw k) fw (.exp (.meth .extend (.var 3) (.idx (.idx (.var 1) (.idx (.var 5) (.cst (.int 0)))) (.cst (.int 1))))) [some (.dat (.int w)), some (.dat (enc rs)), some (.dat (enc r)), some (.loc h.length), some (.loc (h.length + 1)), some (.loc (h.length + (T.length + 2))), p6, p7, p8] (h ++ K.map enc :: (F.map enc ++ [.int i]) :: (T ++ [(i :: is).map .int])) = .ok (.next [some (.dat (.int w)), some (.dat (enc rs)), some (.dat (enc r)), some (.loc h.length), some (.loc (h.length + 1)), some (.loc (h.length + (T.length + 2))), p6, p7, p8]) (h ++ (K ++ (ruleAt rs i).2).map enc :: (F ++ [i]).map enc :: (T ++ [(i :: is).map .int])) := by
          rw [List.map_append, List.map_append]
          simp only [ex_exp, ev_meth, ev_var, getV_succ, getV_zero, Option.map_some, ofOpt_some, Res.bind_ok, lo, ev_idx, ev_cst, dat1, settle, datOf, cS2, Option.bind_some, i0, ix, idx_snd, xt]
          rfl
        have bd : (fun ρ h => exs (run P fw k) fw (.cons (.put 5 true (.lst .nil)) (.cons (.loop (.cons (.name 6) (.cons (.cons (.name 7) (.cons (.name 8) .nil)) .nil)) (.enum (.var 1)) (.cons (.ite (.and (.call 22 (.cons (.var 7) (.cons (.var 3) .nil))) (.not (.call 22 (.cons (.var 8) (.cons (.var 3) .nil))))) (.cons (.exp (.meth .append (.var 5) (.var 6))) .nil) .nil) .nil)) (.cons (.ite (.not (.var 5)) (.cons (.ret (.cst .none)) .nil) .nil) (.cons (.exp (.meth .append (.var 4) (.idx (.var 5) (.cst (.int 0))))) (.cons (.exp (.meth .extend (.var 3) (.idx (.idx (.var 1) (.idx (.var 5) (.cst (.int 0)))) (.cst (.int 1))))) .nil))))) ρ h) [some (.dat (.int w)), some (.dat (enc rs)), some (.dat (enc r)), some (.loc h.length), some (.loc (h.length + 1)), o5, o6, o7, o8] (h ++ K.map enc :: F.map enc :: T) = .ok (.next [some (.dat (.int w)), some (.dat (enc rs)), some (.dat (enc r)), some (.loc h.length), some (.loc (h.length + 1)), some (.loc (h.length + (T.length + 2))), p6, p7, p8]) (h ++ (K ++ (ruleAt rs i).2).map enc :: (F ++ [i]).map enc :: (T ++ [(i :: is).map .int])) := by
          show exs _ _ _ _ _ = _
          rw [exs_cons', e0, andThen_next, exs_cons']
          refine (congrArg (fun z => andThen z _) e1).trans ?_
          rw [andThen_next, exs_cons', e2, andThen_next, exs_cons', e3, andThen_next, exs_cons', e4, andThen_next]
          rfl
        have st : whileL (fun ρ h => (ev (run P fw k) (.not (.call 22 (.cons (.idx (.var 2) (.cst (.int 1))) (.cons (.var 3) .nil)))) ρ h).bind fun x h => ofOpt ((dat1 h x).bind truthD) h) (fun ρ h => exs (run P fw k) fw (.cons (.put 5 true (.lst .nil)) (.cons (.loop (.cons (.name 6) (.cons (.cons (.name 7) (.cons (.name 8) .nil)) .nil)) (.enum (.var 1)) (.cons (.ite (.and (.call 22 (.cons (.var 7) (.cons (.var 3) .nil))) (.not (.call 22 (.cons (.var 8) (.cons (.var 3) .nil))))) (.cons (.exp (.meth .append (.var 5) (.var 6))) .nil) .nil) .nil)) (.cons (.ite (.not (.var 5)) (.cons (.ret (.cst .none)) .nil) .nil) (.cons (.exp (.meth .append (.var 4) (.idx (.var 5) (.cst (.int 0))))) (.cons (.exp (.meth .extend (.var 3) (.idx (.idx (.var 1) (.idx (.var 5) (.cst (.int 0)))) (.cst (.int 1))))) .nil))))) ρ h) (f + 1) [some (.dat (.int w)), some (.dat (enc rs)), some (.dat (enc r)), some (.loc h.length), some (.loc (h.length + 1)), o5, o6, o7, o8] (h ++ K.map enc :: F.map enc :: T) = whileL (fun ρ h => (ev (run P fw k) (.not (.call 22 (.cons (.idx (.var 2) (.cst (.int 1))) (.cons (.var 3) .nil)))) ρ h).bind fun x h => ofOpt ((dat1 h x).bind truthD) h) (fun ρ h => exs (run P fw k) fw (.cons (.put 5 true (.lst .nil)) (.cons (.loop (.cons (.name 6) (.cons (.cons (.name 7) (.cons (.name 8) .nil)) .nil)) (.enum (.var 1)) (.cons (.ite (.and (.call 22 (.cons (.var 7) (.cons (.var 3) .nil))) (.not (.call 22 (.cons (.var 8) (.cons (.var 3) .nil))))) (.cons (.exp (.meth .append (.var 5) (.var 6))) .nil) .nil) .nil)) (.cons (.ite (.not (.var 5)) (.cons (.ret (.cst .none)) .nil) .nil) (.cons (.exp (.meth .append (.var 4) (.idx (.var 5) (.cst (.int 0))))) (.cons (.exp (.meth .extend (.var 3) (.idx (.idx (.var 1) (.idx (.var 5) (.cst (.int 0)))) (.cst (.int 1))))) .nil))))) ρ h) f [some (.dat (.int w)), some (.dat (enc rs)), some (.dat (enc r)), some (.loc h.length), some (.loc (h.length + 1)), some (.loc (h.length + (T.length + 2))), p6, p7, p8] (h ++ (K ++ (ruleAt rs i).2).map enc :: (F ++ [i]).map enc :: (T ++ [(i :: is).map .int])) := by
          refine (congrArg (fun z => Res.bind z _) cnd).trans ?_
          show Res.bind ((fun ρ h => exs (run P fw k) fw (.cons (.put 5 true (.lst .nil)) (.cons (.loop (.cons (.name 6) (.cons (.cons (.name 7) (.cons (.name 8) .nil)) .nil)) (.enum (.var 1)) (.cons (.ite (.and (.call 22 (.cons (.var 7) (.cons (.var 3) .nil))) (.not (.call 22 (.cons (.var 8) (.cons (.var 3) .nil))))) (.cons (.exp (.meth .append (.var 5) (.var 6))) .nil) .nil) .nil)) (.cons (.ite (.not (.var 5)) (.cons (.ret (.cst .none)) .nil) .nil) (.cons (.exp (.meth .append (.var 4) (.idx (.var 5) (.cst (.int 0))))) (.cons (.exp (.meth .extend (.var 3) (.idx (.idx (.var 1) (.idx (.var 5) (.cst (.int 0)))) (.cst (.int 1))))) .nil))))) ρ h) _ _) _ = _
          rw [bd]
          rfl
        rw [st]
        have res := ih (K ++ (ruleAt rs i).2) (F ++ [i]) (T ++ [(i :: is).map .int]) f (some (.loc (h.length + (T.length + 2)))) p6 p7 p8 (by omega) (by omega) (by rw [List.length_append]; omega) (fun j mj => by
          rcases List.mem_append.mp mj with mj | mj
          · exact hF j mj
          · rw [List.mem_singleton.mp mj]; exact hi) (by simp; omega)
        rcases res with ⟨F', K', T', a, b, c, d, z1, z2, z3⟩ | ⟨L, z⟩
        · refine .inl ⟨F', K', T', a, b, c, d, z1, ?_, z3⟩
          simp at z2
          omega
        · exact .inr ⟨L, z⟩
theorem run_derivation (B : HasBasics P) (h20 : P.lookup 20 = some d_require_dependency) (h22 : P.lookup 22 = some d_is_part) (h26 : P.lookup 26 = some d_require_all) (h36 : P.lookup 36 = some d_derivation) (hf : 200 ≤ fw) {w : Nat} (hw : 1 ≤ w ∧ w ≤ 6) {rs : List Rule} (g : GoodR w rs) {r : Rule} (g1 : GoodC w r.1) (g2 : GoodC w r.2) (g3 : r.2 ≠ []) {k : Nat} (hk : 8 ≤ k) (h : HP) :
    run P fw k 36 [.dat (.int w), .dat (enc rs), .dat (enc r)] h = .ok (.v (.dat .none)) h ∨ ∃ F : List Int, (∀ i ∈ F, 0 ≤ i ∧ i < rs.length) ∧ F.length ≤ 6 ∧ run P fw k 36 [.dat (.int w), .dat (enc rs), .dat (enc r)] h = .ok (.new (F.map enc)) h := by
  have r1 := req_all (fw := fw) B h20 h26 hw g g1 g2 g3 h (k - 1) (by omega)
  rw [run_at (d := d_derivation) (ρ := [some (.dat (.int w)), some (.dat (enc rs)), some (.dat (enc r)), none, none, none, none, none, none]) (by omega) h36 rfl rfl rfl]
  have l1 := good_len g1
  have mw : mW w r.1 ≤ 6 := by
    have := List.length_filter_le (fun x => !decide (x ∈ r.1)) (upTo w)
    rw [len_upTo] at this
    unfold mW
    omega
  have res := der_while (P := P) (fw := fw) (k := k - 1) (by omega) h22 hw.2 g (r := r) (h := h) 6 r.1 [] [] fw none none none none mw (by omega) (by omega) (fun _ m => absurd m (by simp)) (by simp)
  have t0 : ex (run P fw (k - 1)) fw (.exp (.call 26 (.cons (.var 0) (.cons (.var 1) (.cons (.var 2) .nil))))) [some (.dat (.int w)), some (.dat (enc rs)), some (.dat (enc r)), none, none, none, none, none, none] h = .ok (.next [some (.dat (.int w)), some (.dat (enc rs)), some (.dat (enc r)), none, none, none, none, none, none]) h := by simp [r1]
  have t1 : ex (run P fw (k - 1)) fw (.par2 3 4 true true (.b1 .list (.idx (.var 2) (.cst (.int 0)))) (.lst .nil)) [some (.dat (.int w)), some (.dat (enc rs)), some (.dat (enc r)), none, none, none, none, none, none] h = .ok (.next [some (.dat (.int w)), some (.dat (enc rs)), some (.dat (enc r)), some (.loc h.length), some (.loc (h.length + 1)), none, none, none, none]) (h ++ r.1.map enc :: [].map (enc : Int → PyData) :: []) := by
    have bl : b1D .list (enc r.1) = some (.new (r.1.map enc)) := rfl
    simp [idx_fst, bl, parS, putPar, putB]
  unfold d_derivation
  dsimp only
  rw [exs_cons', t0, andThen_next, exs_cons', t1, andThen_next, exs_cons', ex_while]
  rcases res with ⟨F', K', T', a, b, c, d, z1, z2, z3⟩ | ⟨L, z⟩
  · refine .inr ⟨F', z1, by simpa using z2, ?_⟩
    rw [z3, andThen_next]
    have c1 : (h ++ K'.map (enc : Int → PyData) :: F'.map enc :: T')[h.length + 1]? = some (F'.map enc) := dcell1
    simp [leave, outOf, c1]
    rw [if_neg (by omega)]
    rfl
  · refine .inl ?_
    rw [z]
    simp [leave, outOf]
end
end TB
set_option maxHeartbeats 0
namespace TB
open PySem L2
open Enc (enc)
def d_law_is_right_1 : Def := ⟨"_law_is_right", ["rules", "dependency", "thing", "known", "index", "one"], 3, (.cons (.ite (.not (.isinst .list (.var 2))) (.cons (.ret (.cst (.bool false))) .nil) .nil) (.cons (.ite (.comp (.var 5) (.name 5) (.seq (.var 2)) (.some (.or (.not (.isinst .int (.var 5))) (.isinst .bool (.var 5)))) [5]) (.cons (.ret (.cst (.bool false))) .nil) .nil) (.cons (.ite (.comp (.var 5) (.name 5) (.seq (.var 2)) (.some (.not (.chain .le .lt (.cst (.int 0)) (.var 5) (.b1 .len (.var 0))))) [5]) (.cons (.ret (.cst (.bool false))) .nil) .nil) (.cons (.put 3 false (.b1 .list (.idx (.var 1) (.cst (.int 0))))) (.cons (.loop (.name 4) (.seq (.var 2)) (.cons (.ite (.not (.call 29 (.cons (.idx (.idx (.var 0) (.var 4)) (.cst (.int 0))) (.cons (.var 3) .nil)))) (.cons (.ret (.cst (.bool false))) .nil) .nil) (.cons (.put 3 false (.bin .add (.var 3) (.b1 .list (.idx (.idx (.var 0) (.var 4)) (.cst (.int 1)))))) .nil))) (.cons (.ret (.call 29 (.cons (.idx (.var 1) (.cst (.int 1))) (.cons (.var 3) .nil)))) .nil))))))⟩
def d_law_is_derivation_or : Def := ⟨"_law_is_derivation_or", ["width", "rules", "dependency", "thing"], 4, (.cons (.try_ (.cons (.ret (.call 35 (.cons (.var 0) (.cons (.var 1) (.cons (.var 2) (.cons (.var 3) .nil)))))) .nil) [(1, (.str "InvalidWidth")), (2, (.str "InvalidDependencies")), (3, (.str "InvalidDependency"))]) .nil)⟩
def d_law_derivation_or : Def := ⟨"_law_derivation_or", ["width", "rules", "dependency"], 3, (.cons (.try_ (.cons (.ret (.call 36 (.cons (.var 0) (.cons (.var 1) (.cons (.var 2) .nil))))) .nil) [(1, (.str "InvalidWidth")), (2, (.str "InvalidDependencies")), (3, (.str "InvalidDependency"))]) .nil)⟩
def d_law_2 : Def := ⟨"law", ["script", "state", "k", "width", "rules", "dependency", "things", "found", "step", "thing", "size"], 1, (.cons (.put 1 true (.lst .nil)) (.cons (.loop (.name 2) (.range (.cst (.int 8))) (.cons (.put 3 false (.bin .add (.cst (.int 2)) (.call 8 (.cons (.var 0) (.cons (.var 1) (.cons (.cst (.int 5)) .nil)))))) (.cons (.put 4 false (.call 12 (.cons (.var 0) (.cons (.var 1) (.cons (.var 3) (.cons (.cst (.int 7)) .nil)))))) (.cons (.put 5 false (.tup (.cons (.call 11 (.cons (.var 0) (.cons (.var 1) (.cons (.var 3) (.cons (.cst (.int 0)) .nil))))) (.cons (.call 11 (.cons (.var 0) (.cons (.var 1) (.cons (.var 3) (.cons (.cst (.int 1)) .nil))))) .nil)))) (.cons (.put 6 true (.lst (.cons (.lst .nil) (.cons (.lst (.cons (.cst (.int 0)) .nil)) (.cons (.lst (.cons (.neg (.cst (.int 1))) .nil)) (.cons (.lst (.cons (.b1 .len (.var 4)) .nil)) (.cons (.lst (.cons (.cst (.int 0)) (.cons (.cst (.int 0)) .nil))) (.cons (.cst .none) (.cons (.tup (.cons (.cst (.int 0)) .nil)) (.cons (.lst (.cons (.cst (.str "0")) .nil)) (.cons (.lst (.cons (.cst (.bool true)) .nil)) (.cons (.lst (.cons (.lst (.cons (.cst (.int 0)) .nil)) .nil)) (.cons (.b1 .listRange (.b1 .len (.var 4))) (.cons (.cst (.int 0)) .nil)))))))))))))) (.cons (.put 7 false (.call 36 (.cons (.var 3) (.cons (.var 4) (.cons (.var 5) .nil))))) (.cons (.ite (.isN true (.var 7)) (.cons (.put 6 true (.bin .add (.var 6) (.lst (.cons (.var 7) (.cons (.slice (.var 7) (.some (.cst (.int 1))) .none) (.cons (.slice (.var 7) .none (.some (.neg (.cst (.int 1))))) (.cons (.rev (.var 7)) (.cons (.bin .add (.var 7) (.var 7)) (.cons (.b1 .tuple (.var 7)) .nil))))))))) .nil) .nil) (.cons (.loop (.name 8) (.range (.cst (.int 6))) (.cons (.ite (.var 4) (.cons (.exp (.meth .append (.var 6) (.comp (.call 8 (.cons (.var 0) (.cons (.var 1) (.cons (.b1 .len (.var 4)) .nil)))) (.name 10) (.range (.call 8 (.cons (.var 0) (.cons (.var 1) (.cons (.cst (.int 4)) .nil))))) .none [10]))) .nil) .nil) .nil)) (.cons (.loopB (.name 9) 6 (.cons (.ite (.cmp .ne (.call 35 (.cons (.var 3) (.cons (.var 4) (.cons (.var 5) (.cons (.var 9) .nil))))) (.call 14 (.cons (.var 4) (.cons (.var 5) (.cons (.var 9) .nil))))) (.cons (.ret (.cst (.bool false))) .nil) .nil) .nil)) (.cons (.ite (.cmp .ne (.call 37 (.cons (.var 3) (.cons (.var 4) (.cons (.tup (.cons (.tup .nil) (.cons (.tup .nil) .nil))) (.cons (.cst (.int 1)) .nil))))) (.cst (.str "InvalidDependency"))) (.cons (.ret (.cst (.bool false))) .nil) .nil) (.cons (.ite (.cmp .ne (.call 37 (.cons (.cst (.int 9)) (.cons (.cst (.int 1)) (.cons (.cst (.int 1)) (.cons (.cst (.int 1)) .nil))))) (.cst (.str "InvalidWidth"))) (.cons (.ret (.cst (.bool false))) .nil) .nil) (.cons (.ite (.cmp .ne (.call 38 (.cons (.var 3) (.cons (.var 4) (.cons (.cst .none) .nil)))) (.cst (.str "InvalidDependency"))) (.cons (.ret (.cst (.bool false))) .nil) .nil) (.cons (.ite (.cmp .ne (.call 38 (.cons (.var 3) (.cons (.cst .none) (.cons (.cst (.int 1)) .nil)))) (.cst (.str "InvalidDependencies"))) (.cons (.ret (.cst (.bool false))) .nil) .nil) .nil))))))))))))) (.cons (.ret (.cst (.bool true))) .nil)))⟩
namespace K03
def top (i : Nat) : Stmt := PySem.Challenge.pw_tablebonds_k03_derivations_judged.main.body.getD i (.Pass ⟨0, 0, 0, 0⟩)
def PR : Prog := [(0, d_is_integer), (1, d_is_rising), (2, d_are_columns), (3, d_is_valid_dependency), (4, d_are_valid_dependencies), (5, d_require_width), (19, d_require_dependencies), (20, d_require_dependency), (22, d_is_part), (26, d_require_all), (35, d_is_derivation), (36, d_derivation), (8, d_law_draw), (11, d_law_columns), (12, d_law_rules), (29, d_law_within), (14, d_law_is_right_1), (37, d_law_is_derivation_or), (38, d_law_derivation_or), (18, d_law_2)]
def ST : Nat → Stmt
  | 0 => top 6
  | 1 => top 7
  | 2 => top 8
  | 3 => top 9
  | 4 => top 10
  | 5 => top 11
  | 19 => top 12
  | 20 => top 13
  | 22 => top 14
  | 26 => top 16
  | 35 => top 17
  | 36 => top 18
  | 8 => top 20
  | 11 => top 21
  | 12 => top 22
  | 29 => top 23
  | 14 => top 24
  | 37 => top 25
  | 38 => top 26
  | 18 => top 27
  | _ => top 0
def cn : List Str := ["RuleError", "InvalidWidth", "InvalidDependencies", "InvalidDependency"]
theorem st_0 : DStat PR cn d_is_integer (ST 0) := ⟨⟨rfl, rfl, rfl, by decide +kernel, rfl, by decide +kernel, by decide +kernel⟩, by decide, by decide +kernel, fun _ _ _ _ _ _ us hl => match us, hl with | [_, _, _], _ => rfl⟩
theorem st_1 : DStat PR cn d_is_rising (ST 1) := ⟨⟨rfl, rfl, rfl, by decide +kernel, rfl, by decide +kernel, by decide +kernel⟩, by decide, by decide +kernel, fun _ _ _ _ _ _ us hl => match us, hl with | [_], _ => rfl⟩
theorem st_2 : DStat PR cn d_are_columns (ST 2) := ⟨⟨rfl, rfl, rfl, by decide +kernel, rfl, by decide +kernel, by decide +kernel⟩, by decide, by decide +kernel, fun _ _ _ _ _ _ us hl => match us, hl with | [_, _], _ => rfl⟩
theorem st_3 : DStat PR cn d_is_valid_dependency (ST 3) := ⟨⟨rfl, rfl, rfl, by decide +kernel, rfl, by decide +kernel, by decide +kernel⟩, by decide, by decide +kernel, fun _ _ _ _ _ _ us hl => match us, hl with | [_, _], _ => rfl⟩
theorem st_4 : DStat PR cn d_are_valid_dependencies (ST 4) := ⟨⟨rfl, rfl, rfl, by decide +kernel, rfl, by decide +kernel, by decide +kernel⟩, by decide, by decide +kernel, fun _ _ _ _ _ _ us hl => match us, hl with | [_, _], _ => rfl⟩
theorem st_5 : DStat PR cn d_require_width (ST 5) := ⟨⟨rfl, rfl, rfl, by decide +kernel, rfl, by decide +kernel, by decide +kernel⟩, by decide, by decide +kernel, fun _ _ _ _ _ _ us hl => match us, hl with | [_], _ => rfl⟩
theorem st_19 : DStat PR cn d_require_dependencies (ST 19) := ⟨⟨rfl, rfl, rfl, by decide +kernel, rfl, by decide +kernel, by decide +kernel⟩, by decide, by decide +kernel, fun _ _ _ _ _ _ us hl => match us, hl with | [_, _], _ => rfl⟩
theorem st_20 : DStat PR cn d_require_dependency (ST 20) := ⟨⟨rfl, rfl, rfl, by decide +kernel, rfl, by decide +kernel, by decide +kernel⟩, by decide, by decide +kernel, fun _ _ _ _ _ _ us hl => match us, hl with | [_, _], _ => rfl⟩
theorem st_22 : DStat PR cn d_is_part (ST 22) := ⟨⟨rfl, rfl, rfl, by decide +kernel, rfl, by decide +kernel, by decide +kernel⟩, by decide, by decide +kernel, fun _ _ _ _ _ _ us hl => match us, hl with | [_, _], _ => rfl⟩
theorem st_26 : DStat PR cn d_require_all (ST 26) := ⟨⟨rfl, rfl, rfl, by decide +kernel, rfl, by decide +kernel, by decide +kernel⟩, by decide, by decide +kernel, fun _ _ _ _ _ _ us hl => match us, hl with | [_, _, _], _ => rfl⟩
theorem st_35 : DStat PR cn d_is_derivation (ST 35) := ⟨⟨rfl, rfl, rfl, by decide +kernel, rfl, by decide +kernel, by decide +kernel⟩, by decide, by decide +kernel, fun _ _ _ _ _ _ us hl => match us, hl with | [_, _, _, _], _ => rfl⟩
theorem st_36 : DStat PR cn d_derivation (ST 36) := ⟨⟨rfl, rfl, rfl, by decide +kernel, rfl, by decide +kernel, by decide +kernel⟩, by decide, by decide +kernel, fun _ _ _ _ _ _ us hl => match us, hl with | [_, _, _], _ => rfl⟩
theorem st_8 : DStat PR cn d_law_draw (ST 8) := ⟨⟨rfl, rfl, rfl, by decide +kernel, rfl, by decide +kernel, by decide +kernel⟩, by decide, by decide +kernel, fun _ _ _ _ _ _ us hl => match us, hl with | [_, _, _], _ => rfl⟩
theorem st_11 : DStat PR cn d_law_columns (ST 11) := ⟨⟨rfl, rfl, rfl, by decide +kernel, rfl, by decide +kernel, by decide +kernel⟩, by decide, by decide +kernel, fun _ _ _ _ _ _ us hl => match us, hl with | [_, _, _, _], _ => rfl⟩
theorem st_12 : DStat PR cn d_law_rules (ST 12) := ⟨⟨rfl, rfl, rfl, by decide +kernel, rfl, by decide +kernel, by decide +kernel⟩, by decide, by decide +kernel, fun _ _ _ _ _ _ us hl => match us, hl with | [_, _, _, _], _ => rfl⟩
theorem st_29 : DStat PR cn d_law_within (ST 29) := ⟨⟨rfl, rfl, rfl, by decide +kernel, rfl, by decide +kernel, by decide +kernel⟩, by decide, by decide +kernel, fun _ _ _ _ _ _ us hl => match us, hl with | [_, _], _ => rfl⟩
theorem st_14 : DStat PR cn d_law_is_right_1 (ST 14) := ⟨⟨rfl, rfl, rfl, by decide +kernel, rfl, by decide +kernel, by decide +kernel⟩, by decide, by decide +kernel, fun _ _ _ _ _ _ us hl => match us, hl with | [_, _, _], _ => rfl⟩
theorem st_37 : DStat PR cn d_law_is_derivation_or (ST 37) := ⟨⟨rfl, rfl, rfl, by decide +kernel, rfl, by decide +kernel, by decide +kernel⟩, by decide, by decide +kernel, fun _ _ _ _ _ _ us hl => match us, hl with | [_, _, _, _], _ => rfl⟩
theorem st_38 : DStat PR cn d_law_derivation_or (ST 38) := ⟨⟨rfl, rfl, rfl, by decide +kernel, rfl, by decide +kernel, by decide +kernel⟩, by decide, by decide +kernel, fun _ _ _ _ _ _ us hl => match us, hl with | [_, _, _], _ => rfl⟩
theorem st_18 : DStat PR cn d_law_2 (ST 18) := ⟨⟨rfl, rfl, rfl, by decide +kernel, rfl, by decide +kernel, by decide +kernel⟩, by decide, by decide +kernel, fun _ _ _ _ _ _ us hl => match us, hl with | [_], _ => rfl⟩
theorem st_mem : ∀ p ∈ PR, DStat PR cn p.2 (ST p.1) := by
  exact List.forall_mem_cons.2 ⟨st_0, List.forall_mem_cons.2 ⟨st_1, List.forall_mem_cons.2 ⟨st_2, List.forall_mem_cons.2 ⟨st_3, List.forall_mem_cons.2 ⟨st_4, List.forall_mem_cons.2 ⟨st_5, List.forall_mem_cons.2 ⟨st_19, List.forall_mem_cons.2 ⟨st_20, List.forall_mem_cons.2 ⟨st_22, List.forall_mem_cons.2 ⟨st_26, List.forall_mem_cons.2 ⟨st_35, List.forall_mem_cons.2 ⟨st_36, List.forall_mem_cons.2 ⟨st_8, List.forall_mem_cons.2 ⟨st_11, List.forall_mem_cons.2 ⟨st_12, List.forall_mem_cons.2 ⟨st_29, List.forall_mem_cons.2 ⟨st_14, List.forall_mem_cons.2 ⟨st_37, List.forall_mem_cons.2 ⟨st_38, List.forall_mem_cons.2 ⟨st_18, fun _ h => absurd h (by simp)⟩⟩⟩⟩⟩⟩⟩⟩⟩⟩⟩⟩⟩⟩⟩⟩⟩⟩⟩⟩
theorem st_all : ∀ f d, PR.lookup f = some d → DStat PR cn d (ST f) := fun f d h => st_mem (f, d) (mem_lookup h)
def loose0 : List Str := ["RuleError", "InvalidWidth", "InvalidDependencies", "InvalidDependency", "is_integer", "is_rising", "are_columns", "is_valid_dependency", "are_valid_dependencies", "require_width", "require_dependencies", "require_dependency", "is_part", "require_all", "is_derivation", "derivation", "_law_draw", "_law_columns", "_law_rules", "_law_within"]
def loose1 : List Str := ["_law_is_right", "_law_is_derivation_or", "_law_derivation_or"]
def loose : List Str := loose0 ++ loose1
abbrev RW : PySem.W.OpenRow := PySem.W.OpenLaw.row PySem.Challenge.rw_tablebonds_k03_derivations_judged
abbrev hk : PySem.W.Hook := hookT 4 (faOf PR cn) (fnOf ST PR)
def ob (s : PySem.W.SharedT) : AlT := obsT 4 (faOf PR cn) (fnOf ST PR) (HandSHeadRun.getT s)
theorem ob_eq (s : PySem.W.SharedT) : ob s = hk.obs s.abs := obsT_eq (HandSHeadRun.getT_eq s)
theorem runs (w : World) : HandSHeadRun.RunEq RW (PySem.W.view RW.prog [27]) hk ob 20000 loose w := by
  intro os
  kernel_rfl
theorem B : HasBasics PR := ⟨rfl, rfl, rfl, rfl, rfl, rfl, rfl⟩
theorem comp_any {turn : PyData → HP → Res (Option PyData)} (I : Nat → HP → Prop) : ∀ (xs : List PyData) (i : Nat) (h : HP) (acc : List PyData),
    (∀ (j : Nat) (x : PyData) (h : HP), xs[j]? = some x → I (i + j) h → ∃ (y : PyData) (h' : HP), turn x h = .ok (some y) h' ∧ I (i + j + 1) h') → I i h →
    ∃ (ys : List PyData) (h' : HP), ys.length = xs.length ∧ compL turn xs acc h = .ok (acc.reverse ++ ys) h' ∧ I (i + xs.length) h'
  | [], i, h, acc, _, hi => ⟨[], h, rfl, by simp [compL], hi⟩
  | x :: xs, i, h, acc, ht, hi => by
    obtain ⟨y, h1, e1, i1⟩ := ht 0 x h rfl hi
    obtain ⟨ys, h2, l2, e2, i2⟩ := comp_any I xs (i + 1) h1 (y :: acc) (fun j x h hj hI => by
      have := ht (j + 1) x h (by simpa using hj) (by rw [show i + (j + 1) = i + 1 + j by omega]; exact hI)
      rw [show i + (j + 1) + 1 = i + 1 + j + 1 by omega] at this
      exact this) i1
    refine ⟨y :: ys, h2, by simp [l2], ?_, by rw [List.length_cons, show i + (xs.length + 1) = i + 1 + xs.length by omega]; exact i2⟩
    show (turn x h).bind _ = _
    rw [e1, Res.bind_ok]
    simpa using e2
mutual
theorem eqD_refl : ∀ a : PyData, eqD a a = true
  | .none => rfl
  | .bool b => by simp [eqD]
  | .int b => by simp [eqD]
  | .str b => by simp [eqD]
  | .list xs => by simp only [eqD]; exact eqDs_refl xs
  | .tuple xs => by simp only [eqD]; exact eqDs_refl xs
  | .dict xs => by simp only [eqD]; exact eqKv_refl xs
theorem eqDs_refl : ∀ a : List PyData, eqDs a a = true
  | [] => rfl
  | x :: xs => by simp only [eqDs]; rw [eqD_refl x, eqDs_refl xs]; rfl
theorem eqKv_refl : ∀ a : List (PyData × PyData), eqKv a a = true
  | [] => rfl
  | (a, b) :: xs => by simp only [eqKv]; rw [eqD_refl a, eqD_refl b, eqKv_refl xs]; rfl
end
theorem forG_same {gd : HP → Bool} {body : PyData → EV → HP → Res Fl} {mk : Option Vl → EV} {h : HP} (hg : gd h = true) : ∀ (items : List PyData), (∀ x ∈ items, ∀ o, body x (mk o) h = .ok (.next (mk (some (.dat x)))) h) → ∀ o, ∃ o', forG gd body items (mk o) h = .ok (.next (mk o')) h
  | [], _, o => ⟨o, by show (if gd h = true then _ else _) = _; rw [hg]; rfl⟩
  | x :: xs, hx, o => by
    obtain ⟨o', e⟩ := forG_same hg xs (fun y m => hx y (List.mem_cons_of_mem _ m)) (some (.dat x))
    refine ⟨o', ?_⟩
    show (if gd h = true then _ else _) = _
    rw [hg, if_pos rfl, hx x List.mem_cons_self o]
    exact e
def isI (x : PyData) : Bool := isinstD .int x && !isinstD .bool x

theorem right_for {fw k : Nat} (hk : 1 ≤ k) {w : Nat} (hw : w ≤ 6) {rs : List Rule} (g : GoodR w rs) {r : Rule} {d : PyData} {h : HP} : ∀ (is : List Int) (K : Cols) (o4 : Option Vl), (∀ i ∈ is, 0 ≤ i ∧ i < rs.length) → K.length + 6 * is.length ≤ LIM →
    (∃ o4' K', derGo rs r.2 K is = partB r.2 K' ∧ forL (fun x ρ h => (ofOpt (bindT (.name 4) x ρ) h).bind fun ρ h => exs (run PR fw k) fw (.cons (.ite (.not (.call 29 (.cons (.idx (.idx (.var 0) (.var 4)) (.cst (.int 0))) (.cons (.var 3) .nil)))) (.cons (.ret (.cst (.bool false))) .nil) .nil) (.cons (.put 3 false (.bin .add (.var 3) (.b1 .list (.idx (.idx (.var 0) (.var 4)) (.cst (.int 1)))))) .nil)) ρ h) (is.map enc) [some (.dat (enc rs)), some (.dat (enc r)), some (.dat d), some (.dat (.list (K.map enc))), o4, none] h = .ok (.next [some (.dat (enc rs)), some (.dat (enc r)), some (.dat d), some (.dat (.list (K'.map enc))), o4', none]) h) ∨
    (derGo rs r.2 K is = false ∧ forL (fun x ρ h => (ofOpt (bindT (.name 4) x ρ) h).bind fun ρ h => exs (run PR fw k) fw (.cons (.ite (.not (.call 29 (.cons (.idx (.idx (.var 0) (.var 4)) (.cst (.int 0))) (.cons (.var 3) .nil)))) (.cons (.ret (.cst (.bool false))) .nil) .nil) (.cons (.put 3 false (.bin .add (.var 3) (.b1 .list (.idx (.idx (.var 0) (.var 4)) (.cst (.int 1)))))) .nil)) ρ h) (is.map enc) [some (.dat (enc rs)), some (.dat (enc r)), some (.dat d), some (.dat (.list (K.map enc))), o4, none] h = .ok (.ret (.v (.dat (.bool false)))) h) := by
  intro is
  induction is with
  | nil => intro K o5 _ _; exact .inl ⟨o5, K, rfl, rfl⟩
  | cons i is ih =>
    intro K o5 hi hl
    obtain ⟨i0, i1⟩ := hi i List.mem_cons_self
    have gr := g.cols _ (ruleAt_mem i0 i1)
    have l2 := good_len gr.2.1
    have ix := rule_get i0 i1
    have p1 := run_within (P := PR) (fw := fw) rfl (ruleAt rs i).1 K h (d1 := enc (ruleAt rs i).1) (d2 := .list (K.map enc)) rfl (.inr rfl) k hk
    show (∃ o5' K', _ ∧ Res.bind _ _ = _) ∨ (_ ∧ Res.bind _ _ = _)
    cases hp : partB (ruleAt rs i).1 K with
    | false =>
      rw [hp] at p1
      refine .inr ⟨?_, ?_⟩
      · show (if partB (ruleAt rs i).1 K then _ else false) = false
        rw [hp]; rfl
      · simp [enc_int, ix, idx_fst, p1]
    | true =>
      rw [hp] at p1
      have bl : b1D .list (enc (ruleAt rs i).2) = some (.new ((ruleAt rs i).2.map enc)) := rfl
      have ad : binD .add (.list (K.map enc)) (.list ((ruleAt rs i).2.map enc)) = some (.new ((K ++ (ruleAt rs i).2).map enc)) := by
        rw [List.map_append]
        exact if_pos (by rw [List.length_map, List.length_map]; simp only [List.length_cons] at hl; omega)
      have b : ((ofOpt (bindT (.name 4) (enc i) [some (.dat (enc rs)), some (.dat (enc r)), some (.dat d), some (.dat (.list (K.map enc))), o5, none]) h).bind fun ρ h => exs (run PR fw k) fw (.cons (.ite (.not (.call 29 (.cons (.idx (.idx (.var 0) (.var 4)) (.cst (.int 0))) (.cons (.var 3) .nil)))) (.cons (.ret (.cst (.bool false))) .nil) .nil) (.cons (.put 3 false (.bin .add (.var 3) (.b1 .list (.idx (.idx (.var 0) (.var 4)) (.cst (.int 1)))))) .nil)) ρ h) = .ok (.next [some (.dat (enc rs)), some (.dat (enc r)), some (.dat d), some (.dat (.list ((K ++ (ruleAt rs i).2).map enc))), some (.dat (enc i)), none]) h := by
        simp [-List.map_append, enc_int, ix, idx_fst, idx_snd, p1, bl, ad]
      have e : derGo rs r.2 K (i :: is) = derGo rs r.2 (K ++ (ruleAt rs i).2) is := by
        show (if partB (ruleAt rs i).1 K then _ else false) = _
        rw [hp]; rfl
      have := ih (K ++ (ruleAt rs i).2) (some (.dat (enc i))) (fun j m => hi j (List.mem_cons_of_mem _ m)) (by rw [List.length_append]; simp only [List.length_cons] at hl; omega)
      rw [e]
      rcases this with ⟨o, K', q1, q2⟩ | ⟨q1, q2⟩
      · refine .inl ⟨o, K', q1, ?_⟩
        refine (congrArg (fun z => Res.bind z _) b).trans ?_
        exact q2
      · refine .inr ⟨q1, ?_⟩
        refine (congrArg (fun z => Res.bind z _) b).trans ?_
        exact q2
theorem run_right {fw : Nat} {w : Nat} (hw : w ≤ 6) {rs : List Rule} (g : GoodR w rs) {r : Rule} (g1 : GoodC w r.1) (d : PyData) (hd : fewT d) (h : HP) : Runs PR fw 2 14 [.dat (enc rs), .dat (enc r), .dat d] h (okB (rightB rs r d) h) := by
  refine Runs.start (K := 1) (P := PR) (d := d_law_is_right_1) (ρ := [some (.dat (enc rs)), some (.dat (enc r)), some (.dat d), none, none, none]) rfl rfl rfl rfl fun k hk => ?_
  have lim : (10000 : Nat) ≤ LIM := by decide
  cases d with
  | list xs =>
    have c1 : ev (run PR fw k) (.comp (.var 5) (.name 5) (.seq (.var 2)) (.some (.or (.not (.isinst .int (.var 5))) (.isinst .bool (.var 5)))) [5]) [some (.dat (enc rs)), some (.dat (enc r)), some (.dat (.list xs)), none, none, none] h = .ok (.new ((xs.filter fun x => !isI x).map id)) h := by
      refine ev_comp_of (items := xs.map id) (h1 := h) (by simp) (comp_filter (g := id) (f := id) fun x _ => ?_)
      cases x <;> simp [isI, isinstD]
    have t0 : ex (run PR fw k) fw (.ite (.not (.isinst .list (.var 2))) (.cons (.ret (.cst (.bool false))) .nil) .nil) [some (.dat (enc rs)), some (.dat (enc r)), some (.dat (.list xs)), none, none, none] h = .ok (.next [some (.dat (enc rs)), some (.dat (enc r)), some (.dat (.list xs)), none, none, none]) h := by simp [isinstD]
    have tr1 := truth_map id (xs.filter fun x => !isI x)
    have e0 : rightB rs r (.list xs) = if xs.all (fun x => isIntB x 0 ((rs.length : Int) - 1)) then derGo rs r.2 r.1 (decC (.tuple xs)) else false := rfl
    unfold d_law_is_right_1
    dsimp only
    rw [exs_cons', t0, andThen_next]
    cases hf : (xs.filter fun x => !isI x) with
    | cons y ys =>
      have my : y ∈ xs.filter fun x => !isI x := by rw [hf]; exact List.mem_cons_self
      obtain ⟨m1, m2⟩ := List.mem_filter.mp my
      have ha : xs.all (fun x => isIntB x 0 ((rs.length : Int) - 1)) = false := by
        rw [List.all_eq_false]
        refine ⟨y, m1, ?_⟩
        cases y <;> simp [isI, isinstD, isIntB] at m2 ⊢
      rw [e0, ha]
      rw [hf] at c1 tr1
      generalize (y :: ys).map id = L at c1 tr1
      simp only [List.isEmpty_cons, Bool.not_false] at tr1
      simp [-ev_comp, c1, tr1]
    | nil =>
      rw [hf] at c1
      have hall : ∀ x ∈ xs, ∃ n, x = .int n := fun x m => by
        have := List.filter_eq_nil_iff.mp hf x m
        cases x <;> simp [isI, isinstD] at this ⊢
      obtain ⟨ns, rfl⟩ : ∃ ns : List Int, xs = ns.map .int := by
        clear c1 t0 tr1 e0 hf hd
        induction xs with
        | nil => exact ⟨[], rfl⟩
        | cons x xs ih =>
          obtain ⟨n, rfl⟩ := hall x List.mem_cons_self
          obtain ⟨ns, rfl⟩ := ih fun y m => hall y (List.mem_cons_of_mem _ m)
          exact ⟨n :: ns, rfl⟩
      have ln : b1D .len (enc rs) = some (.v (.dat (.int rs.length))) := by
        show some (RV.v (.dat (.int (rs.map (enc : Rule → PyData)).length))) = _
        rw [List.length_map]
      have c2 : ev (run PR fw k) (.comp (.var 5) (.name 5) (.seq (.var 2)) (.some (.not (.chain .le .lt (.cst (.int 0)) (.var 5) (.b1 .len (.var 0))))) [5]) [some (.dat (enc rs)), some (.dat (enc r)), some (.dat (.list (ns.map .int))), none, none, none] h = .ok (.new ((ns.filter fun n : Int => !(decide (0 ≤ n) && decide (n < (rs.length : Int)))).map PyData.int)) h := by
        refine ev_comp_of (items := ns.map .int) (h1 := h) (by simp) (comp_filter (g := PyData.int) (f := PyData.int) fun n _ => ?_)
        have q1 : cmpD .le (.int 0) (.int n) = some (decide (0 ≤ n)) := rfl
        have q2 : cmpD .lt (.int n) (.int rs.length) = some (decide (n < rs.length)) := rfl
        by_cases z1 : 0 ≤ n <;> by_cases z2 : n < rs.length <;> simp [z1, z2] at q1 q2 <;> simp [ln, q1, q2, z1, z2]
      have t1 : ex (run PR fw k) fw (.ite (.comp (.var 5) (.name 5) (.seq (.var 2)) (.some (.or (.not (.isinst .int (.var 5))) (.isinst .bool (.var 5)))) [5]) (.cons (.ret (.cst (.bool false))) .nil) .nil) [some (.dat (enc rs)), some (.dat (enc r)), some (.dat (.list (ns.map .int))), none, none, none] h = .ok (.next [some (.dat (enc rs)), some (.dat (enc r)), some (.dat (.list (ns.map .int))), none, none, none]) h := by
        simp only [List.map_nil] at c1
        simp [-ev_comp, c1]
      rw [exs_cons', t1, andThen_next]
      have ai : (ns.map PyData.int).all (fun x => isIntB x 0 ((rs.length : Int) - 1)) = ns.all fun n : Int => decide (0 ≤ n) && decide (n < (rs.length : Int)) := by
        rw [List.all_map]
        congr 1
        funext n
        show (decide (0 ≤ n) && decide (n ≤ (rs.length : Int) - 1)) = _
        congr 1
        exact decide_eq_decide.mpr (by omega)
      have tr2 := truth_map PyData.int (ns.filter fun n : Int => !(decide (0 ≤ n) && decide (n < (rs.length : Int))))
      cases hf2 : (ns.filter fun n : Int => !(decide (0 ≤ n) && decide (n < (rs.length : Int)))) with
      | cons y ys =>
        have my : y ∈ ns.filter fun n : Int => !(decide (0 ≤ n) && decide (n < (rs.length : Int))) := by rw [hf2]; exact List.mem_cons_self
        obtain ⟨m1, m2⟩ := List.mem_filter.mp my
        have ha : ns.all (fun n : Int => decide (0 ≤ n) && decide (n < (rs.length : Int))) = false := by
          rw [List.all_eq_false]
          refine ⟨y, m1, ?_⟩
          intro z
          rw [z] at m2
          exact absurd m2 (by decide)
        rw [e0, ai, ha]
        rw [hf2] at c2 tr2
        generalize (y :: ys).map PyData.int = L at c2 tr2
        simp only [List.isEmpty_cons, Bool.not_false] at tr2
        simp [-ev_comp, c2, tr2]
      | nil =>
        rw [hf2] at c2
        have hin : ∀ i ∈ ns, 0 ≤ i ∧ i < (rs.length : Int) := fun i m => by
          have := List.filter_eq_nil_iff.mp hf2 i m
          simp at this
          exact this
        have ha : ns.all (fun n : Int => decide (0 ≤ n) && decide (n < (rs.length : Int))) = true := List.all_eq_true.mpr fun i m => by
          have := hin i m
          simp [this]
        have ed : decC (.tuple (ns.map .int)) = ns := decC_enc ns
        rw [e0, ai, ha, if_pos rfl, ed]
        have t2 : ex (run PR fw k) fw (.ite (.comp (.var 5) (.name 5) (.seq (.var 2)) (.some (.not (.chain .le .lt (.cst (.int 0)) (.var 5) (.b1 .len (.var 0))))) [5]) (.cons (.ret (.cst (.bool false))) .nil) .nil) [some (.dat (enc rs)), some (.dat (enc r)), some (.dat (.list (ns.map .int))), none, none, none] h = .ok (.next [some (.dat (enc rs)), some (.dat (enc r)), some (.dat (.list (ns.map .int))), none, none, none]) h := by
          simp only [List.map_nil] at c2
          simp [-ev_comp, c2]
        have bl : b1D .list (enc r.1) = some (.new (r.1.map enc)) := rfl
        have t3 : ex (run PR fw k) fw (.put 3 false (.b1 .list (.idx (.var 1) (.cst (.int 0))))) [some (.dat (enc rs)), some (.dat (enc r)), some (.dat (.list (ns.map .int))), none, none, none] h = .ok (.next [some (.dat (enc rs)), some (.dat (enc r)), some (.dat (.list (ns.map .int))), some (.dat (.list (r.1.map enc))), none, none]) h := by
          simp [idx_fst, bl]
        rw [exs_cons', t2, andThen_next, exs_cons', t3, andThen_next, exs_cons']
        have hd' : (ns.map PyData.int).length ≤ 1000 := hd
        rw [List.length_map] at hd'
        have l1 := good_len g1
        have := right_for (fw := fw) (k := k) hk hw g (r := r) (d := .list (ns.map .int)) (h := h) ns r.1 none hin (by omega)
        rcases this with ⟨o5, K', q1, q2⟩ | ⟨q1, q2⟩
        · have lp := ex_loop_of (call := run PR fw k) (fw := fw) (it := .seq (.var 2)) (h1 := h) (h := h) (items := ns.map enc) (by simp; intro a _; rfl) q2
          rw [lp, andThen_next]
          have p1 := run_within (P := PR) (fw := fw) rfl r.2 K' h (d1 := enc r.2) (d2 := .list (K'.map enc)) rfl (.inr rfl) k hk
          rw [q1]
          simp [idx_snd, p1]
        · have lp := ex_loop_of (call := run PR fw k) (fw := fw) (it := .seq (.var 2)) (h1 := h) (h := h) (items := ns.map enc) (by simp; intro a _; rfl) q2
          rw [lp, q1]
          simp
  | none => simp [d_law_is_right_1, isinstD, rightB]
  | bool _ => simp [d_law_is_right_1, isinstD, rightB]
  | int _ => simp [d_law_is_right_1, isinstD, rightB]
  | str _ => simp [d_law_is_right_1, isinstD, rightB]
  | tuple _ => simp [d_law_is_right_1, isinstD, rightB]
  | dict _ => simp [d_law_is_right_1, isinstD, rightB]
theorem run_is_or {fw : Nat} (c r e f : PyData) (h : HP) {x : Nat} (he : Runs PR fw 6 26 [.dat c, .dat r, .dat e] h (.exc x h)) {y : PyData} (hy : handle 0 x [(1, .str "InvalidWidth"), (2, .str "InvalidDependencies"), (3, .str "InvalidDependency")] = some y) : Runs PR fw 8 37 [.dat c, .dat r, .dat e, .dat f] h (.ok (.v (.dat y)) h) := by
  have h35 : Runs PR fw 7 35 [.dat c, .dat r, .dat e, .dat f] h (.exc x h) := by
    refine Runs.start (K := 6) (ρ := [some (.dat c), some (.dat r), some (.dat e), some (.dat f), none, none, none]) (P := PR) (d := d_is_derivation) rfl rfl rfl rfl fun k hk => ?_
    simp [d_is_derivation, he k hk]
  refine Runs.start (K := 7) (ρ := [some (.dat c), some (.dat r), some (.dat e), some (.dat f)]) (P := PR) (d := d_law_is_derivation_or) rfl rfl rfl rfl fun k hk => ?_
  simp [d_law_is_derivation_or, h35 k hk, hy]
theorem run_der_or {fw : Nat} (c r e : PyData) (h : HP) {x : Nat} (he : Runs PR fw 6 26 [.dat c, .dat r, .dat e] h (.exc x h)) {y : PyData} (hy : handle 0 x [(1, .str "InvalidWidth"), (2, .str "InvalidDependencies"), (3, .str "InvalidDependency")] = some y) : Runs PR fw 8 38 [.dat c, .dat r, .dat e] h (.ok (.v (.dat y)) h) := by
  have h36 : Runs PR fw 7 36 [.dat c, .dat r, .dat e] h (.exc x h) := by
    refine Runs.start (K := 6) (ρ := [some (.dat c), some (.dat r), some (.dat e), none, none, none, none, none, none]) (P := PR) (d := d_derivation) rfl rfl rfl rfl fun k hk => ?_
    simp [d_derivation, he k hk]
  refine Runs.start (K := 7) (ρ := [some (.dat c), some (.dat r), some (.dat e)]) (P := PR) (d := d_law_derivation_or) rfl rfl rfl rfl fun k hk => ?_
  simp [d_law_derivation_or, h36 k hk, hy]
def L0 (n : Nat) : List PyData := [.list [], .list [.int 0], .list [.int (-1)], .list [.int n], .list [.int 0, .int 0], .none, .tuple [.int 0], .list [.str "0"], .list [.bool true], .list [.list [.int 0]], .list ((upTo n).map enc), .int 0]
def L1 (n : Nat) (F : List Int) : List PyData := L0 n ++ [.list (F.map enc), .list (cutD (F.map enc) (some 1) none), .list (cutD (F.map enc) none (some (-1))), .list (F.map enc).reverse, .list (F.map enc ++ F.map enc), .tuple (F.map enc)]
theorem cut_len (xs : List PyData) (l u : Option Int) : (cutD xs l u).length ≤ xs.length := by
  unfold cutD
  rw [List.length_take, List.length_drop]
  omega
theorem L0_few {n : Nat} (hn : n ≤ 8) : ∀ x ∈ L0 n, fewT x := by
  intro x m
  simp only [L0, List.mem_cons, List.not_mem_nil, or_false] at m
  rcases m with rfl | rfl | rfl | rfl | rfl | rfl | rfl | rfl | rfl | rfl | rfl | rfl <;> first | trivial | (show _ ≤ 1000; simp [len_upTo] <;> omega)
theorem L1_few {n : Nat} (hn : n ≤ 8) {F : List Int} (hF : F.length ≤ 6) : ∀ x ∈ L1 n F, fewT x := by
  intro x m
  rcases List.mem_append.mp m with m | m
  · exact L0_few hn x m
  · simp only [List.mem_cons, List.not_mem_nil, or_false] at m
    have c1 := cut_len (F.map enc) (some 1) none
    have c2 := cut_len (F.map enc) none (some (-1))
    rw [List.length_map] at c1 c2
    rcases m with rfl | rfl | rfl | rfl | rfl | rfl
    · show (F.map (enc : Int → PyData)).length ≤ 1000; rw [List.length_map]; omega
    · show (cutD (F.map enc) (some 1) none).length ≤ 1000; omega
    · show (cutD (F.map enc) none (some (-1))).length ≤ 1000; omega
    · show (F.map (enc : Int → PyData)).reverse.length ≤ 1000; rw [List.length_reverse, List.length_map]; omega
    · show (F.map (enc : Int → PyData) ++ F.map enc).length ≤ 1000; rw [List.length_append, List.length_map]; omega
    · trivial




theorem law_ok : ∀ ns : List Int, ns.length ≤ 63 → ∃ h', run PR 1000 20 18 [.dat (.list (ns.map PyData.int))] [] = .ok (.v (.dat (.bool true))) h' := by
  intro ns hns
  have hLIM : (100000 : Nat) ≤ LIM := by decide
  rw [run_at (d := d_law_2) (ρ := [some (.dat (.list (ns.map .int))), none, none, none, none, none, none, none, none, none, none]) (by decide) rfl rfl rfl rfl]
  obtain ⟨ρ2, h2, e2, hz, o2, o3, o4, o5, o6, o7, o8, o9, rfl, s2⟩ := for_inv (g := enc) (body := fun x ρ h => (ofOpt (bindT (.name 2) x ρ) h).bind fun ρ h => exs (run PR 1000 19) 1000 (.cons (.put 3 false (.bin .add (.cst (.int 2)) (.call 8 (.cons (.var 0) (.cons (.var 1) (.cons (.cst (.int 5)) .nil)))))) (.cons (.put 4 false (.call 12 (.cons (.var 0) (.cons (.var 1) (.cons (.var 3) (.cons (.cst (.int 7)) .nil)))))) (.cons (.put 5 false (.tup (.cons (.call 11 (.cons (.var 0) (.cons (.var 1) (.cons (.var 3) (.cons (.cst (.int 0)) .nil))))) (.cons (.call 11 (.cons (.var 0) (.cons (.var 1) (.cons (.var 3) (.cons (.cst (.int 1)) .nil))))) .nil)))) (.cons (.put 6 true (.lst (.cons (.lst .nil) (.cons (.lst (.cons (.cst (.int 0)) .nil)) (.cons (.lst (.cons (.neg (.cst (.int 1))) .nil)) (.cons (.lst (.cons (.b1 .len (.var 4)) .nil)) (.cons (.lst (.cons (.cst (.int 0)) (.cons (.cst (.int 0)) .nil))) (.cons (.cst .none) (.cons (.tup (.cons (.cst (.int 0)) .nil)) (.cons (.lst (.cons (.cst (.str "0")) .nil)) (.cons (.lst (.cons (.cst (.bool true)) .nil)) (.cons (.lst (.cons (.lst (.cons (.cst (.int 0)) .nil)) .nil)) (.cons (.b1 .listRange (.b1 .len (.var 4))) (.cons (.cst (.int 0)) .nil)))))))))))))) (.cons (.put 7 false (.call 36 (.cons (.var 3) (.cons (.var 4) (.cons (.var 5) .nil))))) (.cons (.ite (.isN true (.var 7)) (.cons (.put 6 true (.bin .add (.var 6) (.lst (.cons (.var 7) (.cons (.slice (.var 7) (.some (.cst (.int 1))) .none) (.cons (.slice (.var 7) .none (.some (.neg (.cst (.int 1))))) (.cons (.rev (.var 7)) (.cons (.bin .add (.var 7) (.var 7)) (.cons (.b1 .tuple (.var 7)) .nil))))))))) .nil) .nil) (.cons (.loop (.name 8) (.range (.cst (.int 6))) (.cons (.ite (.var 4) (.cons (.exp (.meth .append (.var 6) (.comp (.call 8 (.cons (.var 0) (.cons (.var 1) (.cons (.b1 .len (.var 4)) .nil)))) (.name 10) (.range (.call 8 (.cons (.var 0) (.cons (.var 1) (.cons (.cst (.int 4)) .nil))))) .none [10]))) .nil) .nil) .nil)) (.cons (.loopB (.name 9) 6 (.cons (.ite (.cmp .ne (.call 35 (.cons (.var 3) (.cons (.var 4) (.cons (.var 5) (.cons (.var 9) .nil))))) (.call 14 (.cons (.var 4) (.cons (.var 5) (.cons (.var 9) .nil))))) (.cons (.ret (.cst (.bool false))) .nil) .nil) .nil)) (.cons (.ite (.cmp .ne (.call 37 (.cons (.var 3) (.cons (.var 4) (.cons (.tup (.cons (.tup .nil) (.cons (.tup .nil) .nil))) (.cons (.cst (.int 1)) .nil))))) (.cst (.str "InvalidDependency"))) (.cons (.ret (.cst (.bool false))) .nil) .nil) (.cons (.ite (.cmp .ne (.call 37 (.cons (.cst (.int 9)) (.cons (.cst (.int 1)) (.cons (.cst (.int 1)) (.cons (.cst (.int 1)) .nil))))) (.cst (.str "InvalidWidth"))) (.cons (.ret (.cst (.bool false))) .nil) .nil) (.cons (.ite (.cmp .ne (.call 38 (.cons (.var 3) (.cons (.var 4) (.cons (.cst .none) .nil)))) (.cst (.str "InvalidDependency"))) (.cons (.ret (.cst (.bool false))) .nil) .nil) (.cons (.ite (.cmp .ne (.call 38 (.cons (.var 3) (.cons (.cst .none) (.cons (.cst (.int 1)) .nil)))) (.cst (.str "InvalidDependencies"))) (.cons (.ret (.cst (.bool false))) .nil) .nil) .nil)))))))))))) ρ h)
    (fun i ρ hh => ∃ (h0 : HP) (o2 o3 o4 o5 o6 o7 o8 o9 : Option Vl), ρ = [some (.dat (.list (ns.map .int))), some (.loc 0), o2, o3, o4, o5, o6, o7, o8, o9, none] ∧ St h0 0 (i * 400) hh) (upTo 8) 0 [some (.dat (.list (ns.map .int))), some (.loc 0), none, none, none, none, none, none, none, none, none] [[]]
    (fun j x ρ hh hj hI => by
      obtain ⟨h0, o2, o3, o4, o5, o6, o7, o8, o9, rfl, s⟩ := hI
      have hj6 : j < 8 := by
        have := (List.getElem?_eq_some_iff.mp hj).1
        simpa [upTo] using this
      obtain ⟨v, h1, v0, v1, s1, e1⟩ := draw (P := PR) (fw := 1000) (k := 19) (by decide) rfl hns s (by omega) (many := 5) (by decide)
      obtain ⟨w, hw⟩ : ∃ w : Nat, 2 + v = (w : Int) := ⟨(2 + v).toNat, by omega⟩
      have hw6 : 1 ≤ w ∧ w ≤ 6 := by omega
      obtain ⟨rs, h3, ⟨g1, g2, g3⟩, s3, e3⟩ := draw_rules (P := PR) (fw := 1000) (k := 19) (by decide) rfl rfl rfl hns (w := w) (by omega) (most := 7) (by decide) s1 (by omega)
      have G : GoodR w rs := ⟨g1, g2, by omega⟩
      obtain ⟨ra, h4, ga, _, s4, e4⟩ := draw_columns (P := PR) (fw := 1000) (k := 19) (by decide) rfl rfl hns (w := w) (by omega) s3 (by omega) (few := 0) (by decide)
      obtain ⟨rb, h5, gb, lb, s5, e5⟩ := draw_columns (P := PR) (fw := 1000) (k := 19) (by decide) rfl rfl hns (w := w) (by omega) s4 (by omega) (few := 1) (by decide)
      have hb : rb ≠ [] := fun z => by rw [z] at lb; simp at lb
      have e3' : run PR 1000 19 12 [.dat (.list (ns.map .int)), .loc 0, .dat (.int w), .dat (.int 7)] h1 = .ok (.v (.dat (enc rs))) h3 := e3
      obtain ⟨r, hr⟩ : ∃ r : Rule, r = (ra, rb) := ⟨_, rfl⟩
      have gr1 : GoodC w r.1 := by rw [hr]; exact ga
      have gr2 : GoodC w r.2 := by rw [hr]; exact gb
      have gr3 : r.2 ≠ [] := by rw [hr]; exact hb
      have er : PyData.tuple [enc ra, enc rb] = enc r := by rw [hr]; rfl
      have t0 : ex (run PR 1000 19) 1000 (.put 3 false (.bin .add (.cst (.int 2)) (.call 8 (.cons (.var 0) (.cons (.var 1) (.cons (.cst (.int 5)) .nil)))))) [some (.dat (.list (ns.map .int))), some (.loc 0), some (.dat (enc x)), o3, o4, o5, o6, o7, o8, o9, none] hh = .ok (.next [some (.dat (.list (ns.map .int))), some (.loc 0), some (.dat (enc x)), some (.dat (.int w)), o4, o5, o6, o7, o8, o9, none]) h1 := by
        simp [e1, hw]
      have t1 : ex (run PR 1000 19) 1000 (.put 4 false (.call 12 (.cons (.var 0) (.cons (.var 1) (.cons (.var 3) (.cons (.cst (.int 7)) .nil)))))) [some (.dat (.list (ns.map .int))), some (.loc 0), some (.dat (enc x)), some (.dat (.int w)), o4, o5, o6, o7, o8, o9, none] h1 = .ok (.next [some (.dat (.list (ns.map .int))), some (.loc 0), some (.dat (enc x)), some (.dat (.int w)), some (.dat (enc rs)), o5, o6, o7, o8, o9, none]) h3 := by
        simp [e3']
      have t2 : ex (run PR 1000 19) 1000 (.put 5 false (.tup (.cons (.call 11 (.cons (.var 0) (.cons (.var 1) (.cons (.var 3) (.cons (.cst (.int 0)) .nil))))) (.cons (.call 11 (.cons (.var 0) (.cons (.var 1) (.cons (.var 3) (.cons (.cst (.int 1)) .nil))))) .nil)))) [some (.dat (.list (ns.map .int))), some (.loc 0), some (.dat (enc x)), some (.dat (.int w)), some (.dat (enc rs)), o5, o6, o7, o8, o9, none] h3 = .ok (.next [some (.dat (.list (ns.map .int))), some (.loc 0), some (.dat (enc x)), some (.dat (.int w)), some (.dat (enc rs)), some (.dat (enc r)), o6, o7, o8, o9, none]) h5 := by
        simp [e4, e5, er]
      have ln : b1D .len (enc rs) = some (.v (.dat (.int rs.length))) := by
        show some (RV.v (.dat (.int (rs.map (enc : Rule → PyData)).length))) = _
        rw [List.length_map]
      have lr := listRange_upTo (w := rs.length) (by omega)
      have iv : ∀ i : Int, intOf (.int i) = some i := fun _ => rfl
      have t3 : ex (run PR 1000 19) 1000 (.put 6 true (.lst (.cons (.lst .nil) (.cons (.lst (.cons (.cst (.int 0)) .nil)) (.cons (.lst (.cons (.neg (.cst (.int 1))) .nil)) (.cons (.lst (.cons (.b1 .len (.var 4)) .nil)) (.cons (.lst (.cons (.cst (.int 0)) (.cons (.cst (.int 0)) .nil))) (.cons (.cst .none) (.cons (.tup (.cons (.cst (.int 0)) .nil)) (.cons (.lst (.cons (.cst (.str "0")) .nil)) (.cons (.lst (.cons (.cst (.bool true)) .nil)) (.cons (.lst (.cons (.lst (.cons (.cst (.int 0)) .nil)) .nil)) (.cons (.b1 .listRange (.b1 .len (.var 4))) (.cons (.cst (.int 0)) .nil)))))))))))))) [some (.dat (.list (ns.map .int))), some (.loc 0), some (.dat (enc x)), some (.dat (.int w)), some (.dat (enc rs)), some (.dat (enc r)), o6, o7, o8, o9, none] h5 = .ok (.next [some (.dat (.list (ns.map .int))), some (.loc 0), some (.dat (enc x)), some (.dat (.int w)), some (.dat (enc rs)), some (.dat (enc r)), some (.loc h5.length), o7, o8, o9, none]) (h5 ++ [L0 rs.length]) := by
        simp [ln, lr, iv, L0, putB]
      -- found, and all that is tried of it
      obtain ⟨f7, Gb, L, hL, lL, t45⟩ : ∃ (f7 : Option Vl) (Gb : HP) (L : List PyData), (∀ x ∈ L, fewT x) ∧ L.length ≤ 20 ∧ andThen (ex (run PR 1000 19) 1000 (.put 7 false (.call 36 (.cons (.var 3) (.cons (.var 4) (.cons (.var 5) .nil))))) [some (.dat (.list (ns.map .int))), some (.loc 0), some (.dat (enc x)), some (.dat (.int w)), some (.dat (enc rs)), some (.dat (enc r)), some (.loc h5.length), o7, o8, o9, none] (h5 ++ [L0 rs.length])) (fun ρ h => ex (run PR 1000 19) 1000 (.ite (.isN true (.var 7)) (.cons (.put 6 true (.bin .add (.var 6) (.lst (.cons (.var 7) (.cons (.slice (.var 7) (.some (.cst (.int 1))) .none) (.cons (.slice (.var 7) .none (.some (.neg (.cst (.int 1))))) (.cons (.rev (.var 7)) (.cons (.bin .add (.var 7) (.var 7)) (.cons (.b1 .tuple (.var 7)) .nil))))))))) .nil) .nil) ρ h) = .ok (.next [some (.dat (.list (ns.map .int))), some (.loc 0), some (.dat (enc x)), some (.dat (.int w)), some (.dat (enc rs)), some (.dat (enc r)), some (.loc (h5.length + Gb.length)), f7, o8, o9, none]) (h5 ++ Gb ++ [L]) := by
        have rd := run_derivation (P := PR) (fw := 1000) B rfl rfl rfl rfl (by decide) hw6 G gr1 gr2 gr3 (k := 19) (by decide) (h5 ++ [L0 rs.length])
        rcases rd with rd | ⟨F, hF, lF, rd⟩
        · refine ⟨some (.dat .none), [], L0 rs.length, L0_few (by omega), by simp [L0], ?_⟩
          simp [rd]
        · refine ⟨some (.dat (.list (F.map enc))), [L0 rs.length], L1 rs.length F, L1_few (by omega) lF, by simp [L1, L0], ?_⟩
          have s1 : smallI 1 = true := rfl
          have sm : smallI (-1) = true := rfl
          have q1 : sliceD (.list (F.map (enc : Int → PyData))) (some 1) none = some (.new (cutD (F.map enc) (some 1) none)) := rfl
          have q2 : sliceD (.list (F.map (enc : Int → PyData))) none (some (-1)) = some (.new (cutD (F.map enc) none (some (-1)))) := rfl
          have q3 : revD (.list (F.map (enc : Int → PyData))) = some (.new (F.map enc).reverse) := rfl
          have q4 : binD .add (.list (F.map (enc : Int → PyData))) (.list (F.map enc)) = some (.new (F.map enc ++ F.map enc)) := if_pos (by rw [List.length_map]; omega)
          have q5 : b1D .tuple (.list (F.map (enc : Int → PyData))) = some (.v (.dat (.tuple (F.map enc)))) := rfl
          have q6 : ∀ M : List PyData, M.length ≤ 10 → binD .add (.list (L0 rs.length)) (.list M) = some (.new (L0 rs.length ++ M)) := fun M hM => if_pos (by simp [L0]; omega)
          have c6 : (h5 ++ [L0 rs.length])[h5.length]? = some (L0 rs.length) := by simp
          generalize hFE : (F.map (enc : Int → PyData)) = FE at rd q1 q2 q3 q4 q5
          have e5 : ex (run PR 1000 19) 1000 (.ite (.isN true (.var 7)) (.cons (.put 6 true (.bin .add (.var 6) (.lst (.cons (.var 7) (.cons (.slice (.var 7) (.some (.cst (.int 1))) .none) (.cons (.slice (.var 7) .none (.some (.neg (.cst (.int 1))))) (.cons (.rev (.var 7)) (.cons (.bin .add (.var 7) (.var 7)) (.cons (.b1 .tuple (.var 7)) .nil))))))))) .nil) .nil) [some (.dat (.list (ns.map .int))), some (.loc 0), some (.dat (enc x)), some (.dat (.int w)), some (.dat (enc rs)), some (.dat (enc r)), some (.loc h5.length), some (.dat (.list FE)), o8, o9, none] (h5 ++ [L0 rs.length]) = .ok (.next [some (.dat (.list (ns.map .int))), some (.loc 0), some (.dat (enc x)), some (.dat (.int w)), some (.dat (enc rs)), some (.dat (enc r)), some (.loc (h5.length + 1)), some (.dat (.list FE)), o8, o9, none]) (h5 ++ [L0 rs.length] ++ [L0 rs.length ++ [.list FE, .list (cutD FE (some 1) none), .list (cutD FE none (some (-1))), .list FE.reverse, .list (FE ++ FE), .tuple FE]]) := by
            have q7 := q6 [.list FE, .list (cutD FE (some 1) none), .list (cutD FE none (some (-1))), .list FE.reverse, .list (FE ++ FE), .tuple FE] (by simp)
            generalize L0 rs.length = LL at c6 q7
            simp [iv, s1, sm, q1, q2, q3, q4, q5, c6, q7, putB]
          have e4 : ex (run PR 1000 19) 1000 (.put 7 false (.call 36 (.cons (.var 3) (.cons (.var 4) (.cons (.var 5) .nil))))) [some (.dat (.list (ns.map .int))), some (.loc 0), some (.dat (enc x)), some (.dat (.int w)), some (.dat (enc rs)), some (.dat (enc r)), some (.loc h5.length), o7, o8, o9, none] (h5 ++ [L0 rs.length]) = .ok (.next [some (.dat (.list (ns.map .int))), some (.loc 0), some (.dat (enc x)), some (.dat (.int w)), some (.dat (enc rs)), some (.dat (enc r)), some (.loc h5.length), some (.dat (.list FE)), o8, o9, none]) (h5 ++ [L0 rs.length]) := by
            simp [rd]
          rw [e4, andThen_next, e5]
          unfold L1
          rw [hFE]
          rfl
      have sH : St (h0 ++ Gb ++ [L]) 0 (j * 400 + 300) (h5 ++ Gb ++ [L]) := by
        have := s5.join (Gb ++ [L])
        rw [← List.append_assoc, ← List.append_assoc] at this
        exact this.mono (by omega)
      have hlen : h5.length + Gb.length = (h0 ++ Gb).length := by rw [List.length_append, s5.len]
      have h0p : 0 < h0.length := s.1
      obtain ⟨ρ6, h6, e6, p8, M, rfl, hM, lM, s6⟩ := for_inv (g := enc) (body := fun x ρ h => (ofOpt (bindT (.name 8) x ρ) h).bind fun ρ h => exs (run PR 1000 19) 1000 (.cons (.ite (.var 4) (.cons (.exp (.meth .append (.var 6) (.comp (.call 8 (.cons (.var 0) (.cons (.var 1) (.cons (.b1 .len (.var 4)) .nil)))) (.name 10) (.range (.call 8 (.cons (.var 0) (.cons (.var 1) (.cons (.cst (.int 4)) .nil))))) .none [10]))) .nil) .nil) .nil) ρ h)
        (fun i ρ hq => ∃ (o8 : Option Vl) (M : List PyData), ρ = [some (.dat (.list (ns.map .int))), some (.loc 0), some (.dat (enc x)), some (.dat (.int w)), some (.dat (enc rs)), some (.dat (enc r)), some (.loc (h5.length + Gb.length)), f7, o8, o9, none] ∧ (∀ x ∈ M, fewT x) ∧ M.length ≤ 20 + i ∧ St (h0 ++ Gb ++ [M]) 0 (j * 400 + 300 + i * 10) hq) (upTo 6) 0 [some (.dat (.list (ns.map .int))), some (.loc 0), some (.dat (enc x)), some (.dat (.int w)), some (.dat (enc rs)), some (.dat (enc r)), some (.loc (h5.length + Gb.length)), f7, o8, o9, none] (h5 ++ Gb ++ [L])
        (fun i st ρ hq hi hI => by
          obtain ⟨o8, M, rfl, hM, lM, sq⟩ := hI
          have hi6 : i < 6 := by
            have := (List.getElem?_eq_some_iff.mp hi).1
            simpa [upTo] using this
          have tr : truthD (enc rs) = some (!(rs.map (enc : Rule → PyData)).isEmpty) := rfl
          by_cases ne : rs = []
          · have tr' : truthD (enc rs) = some false := by rw [tr, ne]; rfl
            refine ⟨_, hq, ?_, some (.dat (enc st)), M, rfl, hM, by omega, sq.mono (by omega)⟩
            simp [tr']
          · have tr' : truthD (enc rs) = some true := by
              rw [tr]
              cases e : rs with
              | nil => exact absurd e ne
              | cons _ _ => rfl
            have pos : 0 < rs.length := List.length_pos_iff.mpr ne
            obtain ⟨u, hu, u0, u1, su, eu⟩ := draw (P := PR) (fw := 1000) (k := 19) (by decide) rfl hns sq (by omega) (many := 4) (by decide)
            obtain ⟨m, hm⟩ : ∃ m : Nat, u = (m : Int) := ⟨u.toNat, by omega⟩
            subst hm
            obtain ⟨ys, hv, ly, evv, sv⟩ := comp_any (turn := fun z h => (ofOpt (bindT (.name 10) z (wipeE [some (.dat (.list (ns.map .int))), some (.loc 0), some (.dat (enc x)), some (.dat (.int w)), some (.dat (enc rs)), some (.dat (enc r)), some (.loc (h5.length + Gb.length)), f7, some (.dat (enc st)), o9, none] [10])) h).bind fun ρ' h => (evC (run PR 1000 19) .none ρ' h).bind fun t h => if t then (ev (run PR 1000 19) (.call 8 (.cons (.var 0) (.cons (.var 1) (.cons (.b1 .len (.var 4)) .nil)))) ρ' h).bind fun y h => ofOpt ((asD y).map some) h else .ok none h)
              (fun q h => St (h0 ++ Gb ++ [M]) 0 (j * 400 + 300 + (0 + i) * 10 + 2 + q * 2) h) ((upTo m).map enc) 0 hu [] (fun q z h hq hI => by
                have hq3 : q < m := by
                  have := (List.getElem?_eq_some_iff.mp hq).1
                  simpa [upTo] using this
                obtain ⟨v2, h2, _, _, s2, e2⟩ := draw (P := PR) (fw := 1000) (k := 19) (by decide) rfl hns hI (by omega) (many := (rs.length : Int)) (by omega)
                exact ⟨.int v2, h2, by simp [ln, e2], s2.mono (by omega)⟩) su
            have cev : ev (run PR 1000 19) (.comp (.call 8 (.cons (.var 0) (.cons (.var 1) (.cons (.b1 .len (.var 4)) .nil)))) (.name 10) (.range (.call 8 (.cons (.var 0) (.cons (.var 1) (.cons (.cst (.int 4)) .nil))))) .none [10]) [some (.dat (.list (ns.map .int))), some (.loc 0), some (.dat (enc x)), some (.dat (.int w)), some (.dat (enc rs)), some (.dat (enc r)), some (.loc (h5.length + Gb.length)), f7, some (.dat (enc st)), o9, none] hq = .ok (.new ys) hv := by
              refine ev_comp_of (items := (upTo m).map enc) (h1 := hu) ?_ ?_
              · simp [eu, iv, small_nat (show m ≤ 1000 by omega), rangeD_upTo]
              · simpa using evv
            have lm : ((upTo m).map (enc : Int → PyData)).length = m := by rw [List.length_map, len_upTo]
            have top := St.top sv (by simp; omega)
            have ap := append_new (h := hv) (n := (h0 ++ Gb).length) (xs := M) top (by omega) ys
            have sn := St.setTop sv (by simp; omega) (M ++ [.list ys])
            refine ⟨_, hv.set (h0 ++ Gb).length (M ++ [.list ys]), ?_, some (.dat (enc st)), M ++ [.list ys], rfl, fun z mz => ?_, by simp; omega, sn.mono (by rw [lm]; omega)⟩
            · have lo : ∀ q, locOf (RV.v (Vl.loc q)) = some q := fun _ => rfl
              rw [← hlen] at ap ⊢
              simp [-ev_comp, tr', lo, cev, ap]
            · rcases List.mem_append.mp mz with mz | mz
              · exact hM z mz
              · rw [List.mem_singleton.mp mz]
                show ys.length ≤ 1000
                rw [ly, lm]
                omega) ⟨o8, L, rfl, hL, by omega, by simpa using sH⟩
      have l6 := ex_loop_of (fw := 1000) (h1 := h5 ++ Gb ++ [L]) (range_lit 6 (by decide) (run PR 1000 19) [some (.dat (.list (ns.map .int))), some (.loc 0), some (.dat (enc x)), some (.dat (.int w)), some (.dat (enc rs)), some (.dat (enc r)), some (.loc (h5.length + Gb.length)), f7, o8, o9, none] (h5 ++ Gb ++ [L])) e6
      have top : h6[h5.length + Gb.length]? = some M := by rw [hlen]; exact St.top s6 (by simp; omega)
      have gd : guardD (some (h5.length + Gb.length)) M h6 = true := by
        show (match h6[h5.length + Gb.length]? with | some es => eqDs es M | none => false) = true
        rw [top]
        exact eqDs_refl M
      obtain ⟨p9, e7⟩ := forG_same (h := h6) (gd := guardD (some (h5.length + Gb.length)) M) (mk := fun o9 => [some (.dat (.list (ns.map .int))), some (.loc 0), some (.dat (enc x)), some (.dat (.int w)), some (.dat (enc rs)), some (.dat (enc r)), some (.loc (h5.length + Gb.length)), f7, p8, o9, none]) (body := fun x ρ h => (ofOpt (bindT (.name 9) x ρ) h).bind fun ρ h => exs (run PR 1000 19) 1000 (.cons (.ite (.cmp .ne (.call 35 (.cons (.var 3) (.cons (.var 4) (.cons (.var 5) (.cons (.var 9) .nil))))) (.call 14 (.cons (.var 4) (.cons (.var 5) (.cons (.var 9) .nil))))) (.cons (.ret (.cst (.bool false))) .nil) .nil) .nil) ρ h) gd M (fun d m o => by
        have a1 := run_is_derivation (P := PR) (fw := 1000) B rfl rfl rfl rfl hw6 G gr1 gr2 gr3 d (hM d m) h6 19 (by decide)
        have a2 := run_right (fw := 1000) hw6.2 G gr1 d (hM d m) h6 19 (by decide)
        simp [a1, a2, cmp_nb]) o9
      have l7 : ex (run PR 1000 19) 1000 (.loopB (.name 9) 6 (.cons (.ite (.cmp .ne (.call 35 (.cons (.var 3) (.cons (.var 4) (.cons (.var 5) (.cons (.var 9) .nil))))) (.call 14 (.cons (.var 4) (.cons (.var 5) (.cons (.var 9) .nil))))) (.cons (.ret (.cst (.bool false))) .nil) .nil) .nil)) [some (.dat (.list (ns.map .int))), some (.loc 0), some (.dat (enc x)), some (.dat (.int w)), some (.dat (enc rs)), some (.dat (enc r)), some (.loc (h5.length + Gb.length)), f7, p8, o9, none] h6 = .ok (.next [some (.dat (.list (ns.map .int))), some (.loc 0), some (.dat (enc x)), some (.dat (.int w)), some (.dat (enc rs)), some (.dat (enc r)), some (.loc (h5.length + Gb.length)), f7, p8, p9, none]) h6 := by
        have bx : boxI [some (.dat (.list (ns.map .int))), some (.loc 0), some (.dat (enc x)), some (.dat (.int w)), some (.dat (enc rs)), some (.dat (enc r)), some (.loc (h5.length + Gb.length)), f7, p8, o9, none] h6 6 = some (some (h5.length + Gb.length), M) := by
          unfold boxI
          simp [top]
        have : ex (run PR 1000 19) 1000 (.loopB (.name 9) 6 (.cons (.ite (.cmp .ne (.call 35 (.cons (.var 3) (.cons (.var 4) (.cons (.var 5) (.cons (.var 9) .nil))))) (.call 14 (.cons (.var 4) (.cons (.var 5) (.cons (.var 9) .nil))))) (.cons (.ret (.cst (.bool false))) .nil) .nil) .nil)) [some (.dat (.list (ns.map .int))), some (.loc 0), some (.dat (enc x)), some (.dat (.int w)), some (.dat (enc rs)), some (.dat (enc r)), some (.loc (h5.length + Gb.length)), f7, p8, o9, none] h6 = match boxI [some (.dat (.list (ns.map .int))), some (.loc 0), some (.dat (enc x)), some (.dat (.int w)), some (.dat (enc rs)), some (.dat (enc r)), some (.loc (h5.length + Gb.length)), f7, p8, o9, none] h6 6 with
          | some (o, items) => forG (guardD o items) (fun x ρ h => (ofOpt (bindT (.name 9) x ρ) h).bind fun ρ h => exs (run PR 1000 19) 1000 (.cons (.ite (.cmp .ne (.call 35 (.cons (.var 3) (.cons (.var 4) (.cons (.var 5) (.cons (.var 9) .nil))))) (.call 14 (.cons (.var 4) (.cons (.var 5) (.cons (.var 9) .nil))))) (.cons (.ret (.cst (.bool false))) .nil) .nil) .nil) ρ h) items [some (.dat (.list (ns.map .int))), some (.loc 0), some (.dat (enc x)), some (.dat (.int w)), some (.dat (enc rs)), some (.dat (enc r)), some (.loc (h5.length + Gb.length)), f7, p8, o9, none] h6
          | none => .bad := rfl
        rw [this, bx]
        exact e7
      have vb : ∀ w : Nat, validB w (.tuple [.tuple [], .tuple []]) = false := fun w => by simp [validB, isUnit]
      have x8 := run_is_or (fw := 1000) (.int w) (enc rs) (.tuple [.tuple [], .tuple []]) (.int 1) h6 (req_all_bad2 B rfl rfl hw6 G _ (fun xs e y my => by
        cases e
        rcases List.mem_cons.mp my with rfl | my
        · exact Nat.zero_le _
        · rw [List.mem_singleton.mp my]; exact Nat.zero_le _) (vb w) h6) (y := .str "InvalidDependency") rfl 19 (by decide)
      have x9 := run_is_or (fw := 1000) (.int 9) (.int 1) (.int 1) (.int 1) h6 (req_all_bad1 B rfl (.int 9) (.int 1) (.int 1) trivial h6 (e := 1) rfl) (y := .str "InvalidWidth") rfl 19 (by decide)
      have x10 := run_der_or (fw := 1000) (.int w) (enc rs) .none h6 (req_all_bad2 B rfl rfl hw6 G .none (fun xs e => nomatch e) rfl h6) (y := .str "InvalidDependency") rfl 19 (by decide)
      have x11 := run_der_or (fw := 1000) (.int w) .none (.int 1) h6 (req_all_bad1 B rfl (.int w) .none (.int 1) trivial h6 (req_bad hw6 (by rfl) h6)) (y := .str "InvalidDependencies") rfl 19 (by decide)
      refine ⟨_, h6, ?_, h0 ++ Gb ++ [M], some (.dat (enc x)), some (.dat (.int w)), some (.dat (enc rs)), some (.dat (enc r)), some (.loc (h5.length + Gb.length)), f7, p8, p9, rfl, s6.mono (by rw [show (upTo 6).length = 6 from rfl]; omega)⟩
      simp only [bindT_name, List.length_cons, List.length_nil]
      rw [if_pos (by omega)]
      simp only [List.set_cons_succ, List.set_cons_zero, ofOpt_some, Res.bind_ok]
      rw [exs_cons', t0, andThen_next, exs_cons', t1, andThen_next, exs_cons', t2, andThen_next, exs_cons', t3, andThen_next, exs_cons']
      have asc : ∀ (a : Res Fl) (f g : EV → HP → Res Fl), andThen a (fun ρ h => andThen (f ρ h) g) = andThen (andThen a f) g := fun a f g => by
        cases a with
        | ok q h => cases q <;> rfl
        | exc _ _ => rfl
        | bad => rfl
      have go := asc (ex (run PR 1000 19) 1000 (.put 7 false (.call 36 (.cons (.var 3) (.cons (.var 4) (.cons (.var 5) .nil))))) [some (.dat (.list (ns.map .int))), some (.loc 0), some (.dat (enc x)), some (.dat (.int w)), some (.dat (enc rs)), some (.dat (enc r)), some (.loc h5.length), o7, o8, o9, none] (h5 ++ [L0 rs.length])) (fun ρ h => ex (run PR 1000 19) 1000 (.ite (.isN true (.var 7)) (.cons (.put 6 true (.bin .add (.var 6) (.lst (.cons (.var 7) (.cons (.slice (.var 7) (.some (.cst (.int 1))) .none) (.cons (.slice (.var 7) .none (.some (.neg (.cst (.int 1))))) (.cons (.rev (.var 7)) (.cons (.bin .add (.var 7) (.var 7)) (.cons (.b1 .tuple (.var 7)) .nil))))))))) .nil) .nil) ρ h) (fun ρ h => exs (run PR 1000 19) 1000 (.cons (.loop (.name 8) (.range (.cst (.int 6))) (.cons (.ite (.var 4) (.cons (.exp (.meth .append (.var 6) (.comp (.call 8 (.cons (.var 0) (.cons (.var 1) (.cons (.b1 .len (.var 4)) .nil)))) (.name 10) (.range (.call 8 (.cons (.var 0) (.cons (.var 1) (.cons (.cst (.int 4)) .nil))))) .none [10]))) .nil) .nil) .nil)) (.cons (.loopB (.name 9) 6 (.cons (.ite (.cmp .ne (.call 35 (.cons (.var 3) (.cons (.var 4) (.cons (.var 5) (.cons (.var 9) .nil))))) (.call 14 (.cons (.var 4) (.cons (.var 5) (.cons (.var 9) .nil))))) (.cons (.ret (.cst (.bool false))) .nil) .nil) .nil)) (.cons (.ite (.cmp .ne (.call 37 (.cons (.var 3) (.cons (.var 4) (.cons (.tup (.cons (.tup .nil) (.cons (.tup .nil) .nil))) (.cons (.cst (.int 1)) .nil))))) (.cst (.str "InvalidDependency"))) (.cons (.ret (.cst (.bool false))) .nil) .nil) (.cons (.ite (.cmp .ne (.call 37 (.cons (.cst (.int 9)) (.cons (.cst (.int 1)) (.cons (.cst (.int 1)) (.cons (.cst (.int 1)) .nil))))) (.cst (.str "InvalidWidth"))) (.cons (.ret (.cst (.bool false))) .nil) .nil) (.cons (.ite (.cmp .ne (.call 38 (.cons (.var 3) (.cons (.var 4) (.cons (.cst .none) .nil)))) (.cst (.str "InvalidDependency"))) (.cons (.ret (.cst (.bool false))) .nil) .nil) (.cons (.ite (.cmp .ne (.call 38 (.cons (.var 3) (.cons (.cst .none) (.cons (.cst (.int 1)) .nil)))) (.cst (.str "InvalidDependencies"))) (.cons (.ret (.cst (.bool false))) .nil) .nil) .nil)))))) ρ h)
      refine Eq.trans go ?_
      rw [t45, andThen_next, exs_cons']
      refine (congrArg (fun z => andThen z _) l6).trans ?_
      rw [andThen_next, exs_cons', l7, andThen_next]
      simp [x8, x9, x10, x11, nm_one, nm_wid, nm_dep]) ⟨[[]], none, none, none, none, none, none, none, none, rfl, by decide, [], rfl, by decide⟩
  refine ⟨[], ?_⟩
  have lp := ex_loop_of (fw := 1000) (h1 := [[]]) (range_lit 8 (by decide) (run PR 1000 19) [some (.dat (.list (ns.map .int))), some (.loc 0), none, none, none, none, none, none, none, none, none] [[]]) e2
  have p1 : ex (run PR 1000 19) 1000 (.put 1 true (.lst .nil)) [some (.dat (.list (ns.map .int))), none, none, none, none, none, none, none, none, none, none] [] = .ok (.next [some (.dat (.list (ns.map .int))), some (.loc 0), none, none, none, none, none, none, none, none, none]) [[]] := by simp
  unfold d_law_2
  dsimp only
  rw [exs_cons', p1, andThen_next, exs_cons']
  refine (congrArg (fun z => leave 0 (andThen z _)) lp).trans ?_
  simp
end K03
end TB
open PySem PySem.W PySem.Calls PyProof.Rows
theorem PySem.Challenge.cw_tablebonds_k03_derivations_judged_holds : PySem.Challenge.rw_tablebonds_k03_derivations_judged.Holds := by
  w_on; o_law
  refine HandSHeadRun.head_any (r := OpenLaw.row PySem.Challenge.rw_tablebonds_k03_derivations_judged) (q := view (OpenLaw.row PySem.Challenge.rw_tablebonds_k03_derivations_judged).prog [27]) (H := TB.K03.hk) (ob := TB.K03.ob) (M := 20000) (loose := TB.K03.loose) (d := HandSHeadRun.topDef (OpenLaw.row PySem.Challenge.rw_tablebonds_k03_derivations_judged).prog 27) (kwd := []) TB.K03.ob_eq
    (by kernel_rfl) (fun s => by kernel_rfl) TB.K03.runs (by kernel_rfl) (by kernel_rfl) (by kernel_rfl) (by rfl) (by first | assumption | decide +kernel) (by decide +kernel) ⟨rfl, rfl, rfl, rfl, rfl, by decide +kernel⟩ ?hw ?hc
  case hw => w_witness2
  case hc => exact TB.walk_ofT (l := PySem.Challenge.rw_tablebonds_k03_derivations_judged) (P := TB.K03.PR) (fw := 1000) (k := 20) (fl := 18) (dl := TB.d_law_2) (x := "script") (.inr ⟨_, rfl, by decide⟩) rfl (by kernel_rfl) ⟨rfl, by decide, by decide⟩ rfl (by kernel_rfl) rfl TB.K03.st_all TB.K03.law_ok
