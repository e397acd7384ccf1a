import PyProof.Rows.All
import Wide.All
import OpenK.AllK
import Wide.FinOn
import HandS.ForMost
import PySem.Challenge.RW_ringkiln_k02_whole_heats_that_fire_and_o
import HandS.TupSets
import KE.KeyNested
import KE.SortData
import HandS.Zip
import HandS.NoneIn
import HandS.Style
import HandS.IsInst
import HandS.TupAny
import HandS.TupMul
import HandS.Flow
import HandS.Conv
import HandS.Walk
import KE.GoesEnum
set_option Elab.async false
set_option linter.all false
set_option maxRecDepth 100000
set_option maxHeartbeats 4000000
namespace RK
open PySem PySem.Spec PyProof.Rows L2
def topS (i : Nat) : Stmt := PySem.Challenge.pw_ringkiln_k02_whole_heats_that_fire_and_o.main.body.getD i (.Pass ⟨0, 0, 0, 0⟩)
abbrev sTupled : Stmt := topS 1
abbrev NTupled : List Str := ["matter", "bit"]
theorem scTupled : FnScope NTupled ["matter"] (defScope sTupled) := ⟨rfl, rfl, rfl, by decide +kernel, rfl, by decide +kernel, by decide +kernel⟩
abbrev sCourseHeats : Stmt := topS 3
abbrev NCourseHeats : List Str := ["make", "heat", "many", "place"]
theorem scCourseHeats : FnScope NCourseHeats ["make", "heat", "many"] (defScope sCourseHeats) := ⟨rfl, rfl, rfl, by decide +kernel, rfl, by decide +kernel, by decide +kernel⟩
abbrev sBricksOf : Stmt := topS 4
abbrev NBricksOf : List Str := ["load", "_", "count"]
theorem scBricksOf : FnScope NBricksOf ["load"] (defScope sBricksOf) := ⟨rfl, rfl, rfl, by decide +kernel, rfl, by decide +kernel, by decide +kernel⟩
abbrev sLoadMarked : Stmt := topS 5
abbrev NLoadMarked : List Str := ["make", "load", "heat", "found", "kind", "count", "stood", "own", "mark", "_", "melt"]
theorem scLoadMarked : FnScope NLoadMarked ["make", "load", "heat"] (defScope sLoadMarked) := ⟨rfl, rfl, rfl, by decide +kernel, rfl, by decide +kernel, by decide +kernel⟩
abbrev sLoadBehind : Stmt := topS 6
abbrev NLoadBehind : List Str := ["make", "load", "heats", "own", "found", "heat"]
theorem scLoadBehind : FnScope NLoadBehind ["make", "load", "heats"] (defScope sLoadBehind) := ⟨rfl, rfl, rfl, by decide +kernel, rfl, by decide +kernel, by decide +kernel⟩
abbrev sFiringHeats : Stmt := topS 7
abbrev NFiringHeats : List Str := ["make", "green", "kinds", "lag", "least", "greatest", "place", "kind", "_"]
theorem scFiringHeats : FnScope NFiringHeats ["make", "green"] (defScope sFiringHeats) := ⟨rfl, rfl, rfl, by decide +kernel, rfl, by decide +kernel, by decide +kernel⟩
abbrev sOrdersOf : Stmt := topS 8
abbrev NOrdersOf : List Str := ["row", "found", "own", "longer", "near", "place"]
theorem scOrdersOf : FnScope NOrdersOf ["row"] (defScope sOrdersOf) := ⟨rfl, rfl, rfl, by decide +kernel, rfl, by decide +kernel, by decide +kernel⟩
abbrev sOrdersThatFire : Stmt := topS 9
abbrev NOrdersThatFire : List Str := ["make", "green", "own"]
theorem scOrdersThatFire : FnScope NOrdersThatFire ["make", "green"] (defScope sOrdersThatFire) := ⟨rfl, rfl, rfl, by decide +kernel, rfl, by decide +kernel, by decide +kernel⟩
abbrev sLBox : Stmt := topS 11
abbrev NLBox : List Str := ["_law_script", "_law_k", "_law_cell_so"]
theorem scLBox : FnScope NLBox ["_law_script", "_law_k"] (defScope sLBox) := ⟨rfl, rfl, rfl, by decide +kernel, rfl, by decide +kernel, by decide +kernel⟩
abbrev sLTake : Stmt := topS 12
abbrev NLTake : List Str := ["_law_tin", "_law_below_so", "_law_drawn", "_law_once_so", "_law_wide_so", "_law_twice_so"]
theorem scLTake : FnScope NLTake ["_law_tin", "_law_below_so"] (defScope sLTake) := ⟨rfl, rfl, rfl, by decide +kernel, rfl, by decide +kernel, by decide +kernel⟩
abbrev sLCells : Stmt := topS 13
abbrev NLCells : List Str := ["_law_script", "_law_most_so", "_law_cells_so", "_law_k", "_law_cell_so", "_law_at_so"]
theorem scLCells : FnScope NLCells ["_law_script", "_law_most_so"] (defScope sLCells) := ⟨rfl, rfl, rfl, by decide +kernel, rfl, by decide +kernel, by decide +kernel⟩
abbrev sLOf : Stmt := topS 14
abbrev NLOf : List Str := ["_law_tin", "_law_goods_so"]
theorem scLOf : FnScope NLOf ["_law_tin", "_law_goods_so"] (defScope sLOf) := ⟨rfl, rfl, rfl, by decide +kernel, rfl, by decide +kernel, by decide +kernel⟩
abbrev sLLists : Stmt := topS 15
abbrev NLLists : List Str := ["_law_matter", "_law_bit"]
theorem scLLists : FnScope NLLists ["_law_matter"] (defScope sLLists) := ⟨rfl, rfl, rfl, by decide +kernel, rfl, by decide +kernel, by decide +kernel⟩
abbrev sLSame : Stmt := topS 16
abbrev NLSame : List Str := ["_law_got", "_law_due", "_law_mine", "_law_its"]
theorem scLSame : FnScope NLSame ["_law_got", "_law_due"] (defScope sLSame) := ⟨rfl, rfl, rfl, by decide +kernel, rfl, by decide +kernel, by decide +kernel⟩
abbrev sLKinds : Stmt := topS 17
abbrev NLKinds : List Str := ["_law_tin", "_law_found", "_law_lap", "_law_mark", "_law_lag_so", "_law_earth_so"]
theorem scLKinds : FnScope NLKinds ["_law_tin"] (defScope sLKinds) := ⟨rfl, rfl, rfl, by decide +kernel, rfl, by decide +kernel, by decide +kernel⟩
abbrev sLGreen : Stmt := topS 18
abbrev NLGreen : List Str := ["_law_tin", "_law_make_so", "_law_most_so", "_law_lap"]
theorem scLGreen : FnScope NLGreen ["_law_tin", "_law_make_so", "_law_most_so"] (defScope sLGreen) := ⟨rfl, rfl, rfl, by decide +kernel, rfl, by decide +kernel, by decide +kernel⟩
abbrev sLAllOrders : Stmt := topS 21
abbrev NLAllOrders : List Str := ["_law_row_so", "_law_found", "_law_k", "_law_own"]
theorem scLAllOrders : FnScope NLAllOrders ["_law_row_so"] (defScope sLAllOrders) := ⟨rfl, rfl, rfl, by decide +kernel, rfl, by decide +kernel, by decide +kernel⟩
abbrev sLFiresAt : Stmt := topS 22
abbrev NLFiresAt : List Str := ["_law_make_so", "_law_green_so", "_law_heat_so", "_law_k", "_law_own", "_law_share"]
theorem scLFiresAt : FnScope NLFiresAt ["_law_make_so", "_law_green_so", "_law_heat_so"] (defScope sLFiresAt) := ⟨rfl, rfl, rfl, by decide +kernel, rfl, by decide +kernel, by decide +kernel⟩
abbrev sLEndsBy : Stmt := topS 23
abbrev NLEndsBy : List Str := ["_law_make_so", "_law_green_so", "_law_found", "_law_heat_so"]
theorem scLEndsBy : FnScope NLEndsBy ["_law_make_so", "_law_green_so"] (defScope sLEndsBy) := ⟨rfl, rfl, rfl, by decide +kernel, rfl, by decide +kernel, by decide +kernel⟩
abbrev sLGreenRight : Stmt := topS 24
abbrev NLGreenRight : List Str := ["_law_make_so", "_law_green_so", "_law_due", "_law_orders", "_law_told", "_law_raw", "_law_heat_so", "_law_own"]
theorem scLGreenRight : FnScope NLGreenRight ["_law_make_so", "_law_green_so"] (defScope sLGreenRight) := ⟨rfl, rfl, rfl, by decide +kernel, rfl, by decide +kernel, by decide +kernel⟩
abbrev sLByHandRight : Stmt := topS 25
abbrev NLByHandRight : List Str := ["_law_brick", "_law_tile", "_law_stone", "_law_own", "_law_steep", "_law_four", "_law_got", "_law_due"]
theorem scLByHandRight : FnScope NLByHandRight [] (defScope sLByHandRight) := ⟨rfl, rfl, rfl, by decide +kernel, rfl, by decide +kernel, by decide +kernel⟩
abbrev sLRight : Stmt := topS 26
abbrev NLRight : List Str := ["_law_tin", "_law_make_so", "_law_green_so"]
theorem scLRight : FnScope NLRight ["_law_tin"] (defScope sLRight) := ⟨rfl, rfl, rfl, by decide +kernel, rfl, by decide +kernel, by decide +kernel⟩
abbrev sLaw : Stmt := topS 27
abbrev NLaw : List Str := ["_law_script", "_law_cells_here", "_law_k"]
theorem scLaw : FnScope NLaw ["_law_script"] (defScope sLaw) := ⟨rfl, rfl, rfl, by decide +kernel, rfl, by decide +kernel, by decide +kernel⟩
end RK

/-! Sets of nested tuples of numbers: made of a list by set(xs), and sorted. -/
namespace RK
open PySem PySem.Spec PyProof.Rows L2

/-! ### what may be a member -/
mutual
def numK : NestedKey → Bool
  | .num _ => true
  | .tup ks => numKs ks
  | .none => false
  | .text _ => false
def numKs : List NestedKey → Bool
  | [] => true
  | k :: ks => numK k && numKs ks
end
section
variable {P : Program} {w : World}
/-- the model's two small questions about a member -/
def Plainly (P : Program) (w : World) (n : Nat) (s : Shared) (v : Value) : Prop :=
  (∀ (A : Around) (E : Value → Shared → Prop) (Q : Bool → Shared → Prop), Q false s → wpAny (model P w) A (ofAClassStatement n v) Q E s) ∧
  ∀ (A : Around) (E : Value → Shared → Prop) (Q : Bool → Shared → Prop), Q true s → wpAny (model P w) A (hashByValue n v) Q E s
theorem plainly_int (n : Nat) (s : Shared) (i : Int) (t : Tok) : Plainly P w n s (.int i t) := by
  refine ⟨fun A E Q q => ?_, fun A E Q q => ?_⟩ <;> cases n <;> exact wpAny_pure q
theorem plainly_bool (n : Nat) (s : Shared) (b : Bool) : Plainly P w n s (.bool b) := by
  refine ⟨fun A E Q q => ?_, fun A E Q q => ?_⟩ <;> cases n <;> exact wpAny_pure q
theorem plainly_tup {n : Nat} {s : Shared} {a : Addr} {o : Obj} {vs : Array Value} {m : Nat} (hg : s.heap.get? a = some o) (hc : o.cls = .type "tuple") (hd : o.data = .seq vs m)
    (hv : ∀ v ∈ vs.toList, Plainly P w n s v) : Plainly P w (n + 1) s (.ref a) := by
  have ty : s.TypeIs (.ref a) "tuple" := ⟨o, hg, hc⟩
  refine ⟨fun A E Q q => ?_, fun A E Q q => ?_⟩
  · unfold ofAClassStatement
    refine wpAny_bind (wpAny_typeOf ty ?_)
    dsimp only
    have e : (("tuple" : String) == "tuple") = true := by decide
    simp only [e, if_true, Bool.not_true, Bool.false_eq_true, if_false]
    try refine wpAny_bind (wpAny_pure ?_)
    try simp only [Bool.not_true, Bool.false_eq_true, if_false]
    show wpAny _ _ (seqItems? (.ref a) >>= _) _ _ s
    refine wpAny_bind (wpAny_seqItems hg hd ?_)
    dsimp only
    refine wpAny_bind ?_
    show wpAny _ _ (forIn vs _ _) _ _ s
    rw [← Array.forIn_toList]
    refine wpAny_forIn_list _ (fun l r s1 => s1 = s ∧ r.1 = none ∧ ∀ v ∈ l, Plainly P w n s v) _ ?_ ?_ _ _ ⟨rfl, rfl, hv⟩
    · rintro v l r s1 ⟨rfl, hr, all⟩
      refine wpAny_bind ((all v List.mem_cons_self).1 A E _ ?_)
      simp only [Bool.false_eq_true, if_false]
      exact wpAny_pure ⟨rfl, rfl, fun u hu => all u (List.mem_cons_of_mem _ hu)⟩
    · rintro ⟨r1, r2⟩ s1 ⟨rfl, hr, _⟩
      simp only at hr
      subst hr
      exact wpAny_pure q
  · unfold hashByValue
    refine wpAny_bind (wpAny_specialOf ty F.slot_tuple_hash.lookup ?_)
    show wpAny _ _ (seqItems? (.ref a) >>= _) _ _ s
    refine wpAny_bind (wpAny_seqItems hg hd ?_)
    refine wpAny_bind ?_
    show wpAny _ _ (forIn vs _ _) _ _ s
    rw [← Array.forIn_toList]
    refine wpAny_forIn_list _ (fun l r s1 => s1 = s ∧ r.1 = none ∧ ∀ v ∈ l, Plainly P w n s v) _ ?_ ?_ _ _ ⟨rfl, rfl, hv⟩
    · rintro v l r s1 ⟨rfl, hr, all⟩
      refine wpAny_bind ((all v List.mem_cons_self).2 A E _ ?_)
      simp only [Bool.not_true, Bool.false_eq_true, if_false]
      exact wpAny_pure ⟨rfl, rfl, fun u hu => all u (List.mem_cons_of_mem _ hu)⟩
    · rintro ⟨r1, r2⟩ s1 ⟨rfl, hr, _⟩
      simp only at hr
      subst hr
      exact wpAny_pure q
mutual
theorem plainly_key : ∀ (k : NestedKey) (v : Value) (n : Nat) (s : Shared), NestedIs s.heap k v → k.depth ≤ n → numK k = true → Plainly P w n s v
  | .num _, _, n, s, x, _, _ => by
    cases x with
    | bool e => exact plainly_bool n s _
    | int _ t => exact plainly_int n s _ t
  | .none, _, _, _, _, _, e => nomatch e
  | .text _, _, _, _, _, _, e => nomatch e
  | .tup ks, _, n, s, x, hn, e => by
    cases x with
    | tup hg hc hd hk =>
      simp only [NestedKey.depth] at hn
      cases n with
      | zero => omega
      | succ n => exact plainly_tup hg hc hd (plainly_keys ks _ n s hk (by omega) e)
theorem plainly_keys : ∀ (ks : List NestedKey) (vs : List Value) (n : Nat) (s : Shared), NestedAll s.heap ks vs → NestedKey.depthAll ks ≤ n → numKs ks = true → ∀ v ∈ vs, Plainly P w n s v
  | [], _, _, _, x, _, _, v, hv => by
    cases x
    cases hv
  | k :: ks, _, n, s, x, hn, e, v, hv => by
    cases x with
    | cons x1 x2 =>
      simp only [NestedKey.depthAll] at hn
      have e' : (numK k && numKs ks) = true := e
      rw [Bool.and_eq_true] at e'
      rcases List.mem_cons.mp hv with z | z
      · rw [z]
        exact plainly_key k _ n s x1 (by omega) e'.1
      · exact plainly_keys ks _ n s x2 (by omega) e'.2 v z
end
end

/-- the tuple at b is the key k, of numbers alone -/
structure KeyAt (h : Heap) (k : NestedKey) (b : Addr) : Prop where
  is : NestedIs h k (.ref b)
  dp : k.depth ≤ 8
  nm : numK k = true
theorem KeyAt.inj {h : Heap} {k k' : NestedKey} {b : Addr} (x : KeyAt h k b) (y : KeyAt h k' b) : k = k' := NestedIs.inj _ _ _ x.is y.is
theorem KeyAt.kept {h h' : Heap} {k : NestedKey} {b : Addr} (x : KeyAt h k b) (f : ∀ c o, h.get? c = some o → h'.get? c = some o) : KeyAt h' k b :=
  ⟨NestedIs.at (fun c o _ _ e _ => f c o e) k _ x.is, x.dp, x.nm⟩
/-- a set that changes is none of the key's tuples -/
theorem KeyAt.beside {h h' : Heap} {k : NestedKey} {b a : Addr} {o : Obj} {es : Array (Int × Value)} {ep : Nat} {t : SetTable} (x : KeyAt h k b) (ho : h.get? a = some o) (hd : o.data = .set es ep t) (sb : Heap.SameBut a h h') : KeyAt h' k b := by
  refine ⟨NestedIs.at (fun c oc vs n e ed => ?_) k _ x.is, x.dp, x.nm⟩
  have ne : c ≠ a := fun z => by
    rw [z, ho] at e
    rw [← Option.some.inj e, hd] at ed
    cases ed
  exact (sb.2 c ne).trans e
section
variable {P : Program} {w : World} {A : Around} {E : Value → Shared → Prop} {s : Shared}
theorem seen_key {x : Addr} {k : NestedKey} {Q : Bool → Shared → Prop} (hx : KeyAt s.heap k x) {ys : List Value} (hy : ∀ y ∈ ys, ∃ k' c, y = Value.ref c ∧ KeyAt s.heap k' c) (q : Q false s) :
    wpAny (model P w) A (searchCouldBeSeen (.ref x) ys) Q E s := by
  unfold searchCouldBeSeen
  refine wpAny_bind ?_
  refine wpAny_forIn_list _ (fun l r s1 => s1 = s ∧ r.1 = none ∧ ∀ y ∈ l, ∃ k' c, y = Value.ref c ∧ KeyAt s.heap k' c) _ ?_ ?_ _ _ ⟨rfl, rfl, hy⟩
  · rintro y l r s1 ⟨rfl, hr, all⟩
    obtain ⟨k', c, rfl, hc⟩ := all y List.mem_cons_self
    have more : ∀ u ∈ l, ∃ k' c, u = Value.ref c ∧ KeyAt s1.heap k' c := fun u hu => all u (List.mem_cons_of_mem _ hu)
    dsimp only
    by_cases hv : (x == c || (carriedByValue (.ref x) && carriedByValue (.ref c))) = true
    · exact wp_if_pos hv (wpAny_pure ⟨rfl, rfl, more⟩)
    · refine wp_if_neg hv ?_
      refine wpAny_bind (quiet_key k _ 8 s1 hx.is hx.dp A E _ ?_)
      simp only [Bool.not_true, Bool.false_eq_true, if_false]
      refine wpAny_bind (quiet_key k' _ 8 s1 hc.is hc.dp A E _ ?_)
      simp only [Bool.not_true, Bool.false_eq_true, if_false]
      refine wpAny_bind ((plainly_key k _ 8 s1 hx.is hx.dp hx.nm).1 A E _ ?_)
      simp only [Bool.false_eq_true, if_false]
      refine wpAny_bind ((plainly_key k' _ 8 s1 hc.is hc.dp hc.nm).1 A E _ ?_)
      simp only [Bool.false_eq_true, if_false]
      exact wpAny_pure ⟨rfl, rfl, more⟩
  · rintro ⟨r1, r2⟩ s1 ⟨rfl, hr, _⟩
    simp only at hr
    subst hr
    exact wpAny_pure q
end

/-! ### the set at a: its members L, in the table's order -/
abbrev entK (w : World) (p : Addr × NestedKey) : Int × Value := (NestedKey.hash w p.2, Value.ref p.1)
structure TabSet (w : World) (h : Heap) (a : Addr) (L : List (Addr × NestedKey)) (es : Array (Int × Value)) (ep : Nat) (t : SetTable) : Prop where
  obj : ∃ o, h.get? a = some o ∧ o.ExactSet ∧ o.data = .set es ep t
  ent : es.toList = L.map (entK w)
  tab : TabOk t (L.map fun p => NestedKey.hash w p.2)
  dis : (L.map (·.2)).Nodup
  pl : t.plain = true
  ord : w.params.followText "set-order" = true ∨ t.led = true
  slack : L.length * 5 < t.mask * 3
  few : L.length < 64
section
variable {P : Program} {w : World} {A : Around} {E : Value → Shared → Prop} {s : Shared} {a : Addr} {L : List (Addr × NestedKey)} {es : Array (Int × Value)} {ep : Nat} {t : SetTable}
theorem ent_size {L : List (Addr × NestedKey)} {es : Array (Int × Value)} (e : es.toList = L.map (entK w)) : es.size = L.length := by
  rw [← Array.length_toList, e, List.length_map]
theorem TabSet.fits {h : Heap} (R : TabSet w h a L es ep t) : t.fits es.size = true := by
  have h1 := R.tab.sz
  have h2 := ent_size R.ent
  have h3 := R.slack
  rw [List.length_map] at h1
  unfold SetTable.fits SetTable.fill
  rw [R.tab.dm, Bool.and_eq_true, beq_iff_eq, decide_eq_true_eq]
  refine ⟨by omega, ?_⟩
  show t.place.size + 0 ≤ t.mask
  omega
theorem TabSet.at_ {h : Heap} (R : TabSet w h a L es ep t) {i : Nat} {p : Addr × NestedKey} (hi : L[i]? = some p) : es[i]? = some (entK w p) := by
  rw [← Array.getElem?_toList, R.ent, List.getElem?_map, hi]
  rfl
theorem TabSet.whole {h : Heap} (R : TabSet w h a L es ep t) : ¬ t.gaveWay = true := by
  unfold SetTable.gaveWay
  rw [mask_odd R.tab.mok]
  decide
theorem TabSet.lenPlace {h : Heap} (R : TabSet w h a L es ep t) : t.place.toList.length = L.length := by
  have h2 := R.tab.sz
  rw [List.length_map] at h2
  rw [Array.length_toList, h2]
/-- the start of a search bears no dummy, nor do its steps -/
theorem way_clean (m : Nat) : ∀ (n : Nat) (p : SetTable.Probe), p.dummy = none → (nth m p n).dummy = none
  | 0, _, e => e
  | n + 1, p, e => way_clean m n (adv m p) (by unfold adv; split <;> exact e)

/-- the search for a key, from the c-th step of its way on; K: the first empty place of the way -/
theorem look_from (R : TabSet w s.heap a L es ep t) (hL : ∀ p ∈ L, KeyAt s.heap p.2 p.1) {x : Addr} {k : NestedKey} (hx : KeyAt s.heap k x) (hu : A.units + 8 < cLine) {η : Int} (eη : NestedKey.hash w k = η) {K : Nat} (kf : K < 10 * SetTable.turns t.mask)
    (kn : way t.mask η K ∉ t.place.toList) (kb : ∀ c, c < K → way t.mask η c ∈ t.place.toList) {Q : SetFound → Shared → Prop} (yes : k ∈ L.map (·.2) → Q (.there none) s) (no : k ∉ L.map (·.2) → Q (.free (way t.mask η K) false) s) :
    ∀ (f c : Nat) (st : Option SetTable.Probe), st.getD (t.probeStart η) = nth t.mask (t.probeStart η) c → c ≤ K → K - c < f →
      (∀ (i : Nat) p, L[i]? = some p → p.2 = k → ∃ c', c ≤ c' ∧ c' < K ∧ t.place.toList[i]? = some (way t.mask η c')) →
      wpAny (model P w) A (setSearchFrom a (.ref x) η true f st) Q E s
  | 0, _, _, _, _, z, _ => absurd z (Nat.not_lt_zero _)
  | f + 1, c, st, est, hc, hf, mine => by
    obtain ⟨o, ho, hex, hd⟩ := R.obj
    rw [setSearchFrom_succ]
    refine wpAny_bind (wpAny_setState_of ho hd R.fits ?_)
    dsimp only
    refine wp_if_neg R.whole ?_
    try refine wpAny_bind (wpAny_pure ?_)
    have shift : ∀ q, nth t.mask (nth t.mask (t.probeStart η) c) q = nth t.mask (t.probeStart η) (c + q) := fun q => (nth_add t.mask c _ q).symm
    have jAt : ∀ q, (nth t.mask (nth t.mask (t.probeStart η) c) q).j = way t.mask η (c + q) := fun q => by rw [shift]; rfl
    have hK0 : c + (K - c) = K := by omega
    have hashAt : ∀ (i : Nat) p, L[i]? = some p → (es[i]?.map (·.1)).getD 0 = NestedKey.hash w p.2 := fun i p hp => by
      rw [R.at_ hp]
      rfl
    rcases go_spec t R.tab.ris R.tab.dm (fun i => (es[i]?.map (·.1)).getD 0) η (10 * SetTable.turns t.mask) (K - c) _ (way_clean t.mask c _ rfl) (by omega)
      (fun q hq => by rw [jAt]; exact kb _ (by omega)) (by rw [jAt, hK0]; exact kn) with ⟨q, i, hq, hi, hh, ahead, pr⟩ | ⟨ahead, pr⟩
    · have pr' : t.probe (fun i => (es[i]?.map (·.1)).getD 0) η (st.getD (t.probeStart η)) = some (.candidate (way t.mask η (c + q)) i (nth t.mask (t.probeStart η) (c + (q + 1)))) := by
        rw [est, ← jAt, ← shift]
        exact pr
      rw [pr']
      dsimp only
      rw [jAt] at hi
      have il : i < L.length := by
        rw [← R.lenPlace]
        exact (List.getElem?_eq_some_iff.mp hi).1
      obtain ⟨p, hp⟩ : ∃ p, L[i]? = some p := ⟨_, List.getElem?_eq_getElem il⟩
      have pm : p ∈ L := List.mem_of_getElem? hp
      have tail : wpAny (model P w) A (searchRest a (.ref x) η true f es t (way t.mask η (c + q)) i (nth t.mask (t.probeStart η) (c + (q + 1)))) Q E s := by
        unfold searchRest
        rw [R.at_ hp]
        dsimp only
        refine wpAny_bind (wpAny_holding ((nestedKind P w).eqBool (x := p.2) (y := k) hu ⟨(hL p pm).is, (hL p pm).dp⟩ ⟨hx.is, hx.dp⟩ ?_))
        refine wpAny_bind (wpAny_setState_of ho hd R.fits ?_)
        dsimp only
        by_cases same : p.2 = k
        · exact wp_if_pos (by simp [same]) (wpAny_pure (yes (List.mem_map.mpr ⟨p, pm, same⟩)))
        · refine wp_if_neg (by simp [same]) ?_
          try refine wpAny_bind (wpAny_pure ?_)
          rw [sameMem]
          dsimp only
          have live : t.slot (way t.mask η (c + q)) = .live i := slot_live R.tab.ris hi
          simp only [if_true, live, R.at_ hp]
          refine wpAny_bind (wpAny_isSame_ref_self (wpAny_bind (wpAny_pure ?_)))
          simp only [if_true]
          refine wp_if_neg (by simp [same]) ?_
          refine look_from R hL hx hu eη kf kn kb yes no f (c + (q + 1)) _ rfl (by omega) (by omega) fun j r hj hr => ?_
          obtain ⟨c', z1, z2, z3⟩ := mine j r hj hr
          refine ⟨c', ?_, z2, z3⟩
          rcases Nat.lt_trichotomy c' (c + q) with y | y | y
          · refine absurd ((hashAt j r hj).trans (by rw [hr, eη])) (ahead (c' - c) j (by omega) ?_)
            rw [jAt, show c + (c' - c) = c' by omega]
            exact z3
          · rw [y] at z3
            have l2 := slot_live R.tab.ris z3
            rw [live] at l2
            injection l2 with l2
            rw [← l2, hp] at hj
            exact absurd ((congrArg Prod.snd (Option.some.inj hj)).trans hr) same
          · omega
      by_cases ld : t.led = true
      · refine wp_if_neg (by simp [ld]) ?_
        try refine wpAny_bind (wpAny_pure ?_)
        exact tail
      · refine wp_if_pos (by simp [ld]) ?_
        refine wpAny_bind (seen_key hx (fun y hy => ?_) ?_)
        · obtain ⟨e, he, rfl⟩ := List.mem_map.mp hy
          have he1 : e ∈ es.toList := by
            have z : e ∈ es ∧ e.1 = η := by simpa using he
            simpa using z.1
          rw [R.ent] at he1
          obtain ⟨r, hr, rfl⟩ := List.mem_map.mp he1
          exact ⟨r.2, r.1, rfl, hL r hr⟩
        · refine wp_if_neg (by decide) ?_
          try refine wpAny_bind (wpAny_pure ?_)
          exact tail
    · have pr' : t.probe (fun i => (es[i]?.map (·.1)).getD 0) η (st.getD (t.probeStart η)) = some (.empty (way t.mask η K) none) := by
        have e2 : way t.mask η K = (nth t.mask (nth t.mask (t.probeStart η) c) (K - c)).j := by rw [jAt, hK0]
        rw [est, e2]
        exact pr
      rw [pr']
      dsimp only
      refine wpAny_pure (no fun hm => ?_)
      obtain ⟨r, hr, hrk⟩ := List.mem_map.mp hm
      obtain ⟨j, hj, ej⟩ := List.getElem_of_mem hr
      have hj' : L[j]? = some r := by rw [List.getElem?_eq_getElem hj, ej]
      obtain ⟨c', z1, z2, z3⟩ := mine j r hj' hrk
      refine ahead (c' - c) j (by omega) ?_ ((hashAt j r hj').trans (by rw [hrk, eη]))
      rw [jAt, show c + (c' - c) = c' by omega]
      exact z3
theorem look_up (R : TabSet w s.heap a L es ep t) (hL : ∀ p ∈ L, KeyAt s.heap p.2 p.1) {x : Addr} {k : NestedKey} (hx : KeyAt s.heap k x) (hu : A.units + 8 < cLine) {η : Int} (eη : NestedKey.hash w k = η) {Q : SetFound → Shared → Prop} (yes : k ∈ L.map (·.2) → Q (.there none) s)
    (no : ∀ K, k ∉ L.map (·.2) → way t.mask η K ∉ t.place.toList → (∀ c, c < K → way t.mask η c ∈ t.place.toList) → Q (.free (way t.mask η K) false) s) :
    wpAny (model P w) A (setSearch a (.ref x) η true) Q E s := by
  have room := R.slack
  obtain ⟨K, kf, kn, kb⟩ := R.tab.first (by rw [List.length_map]; omega) η
  have kbig : K < 100000 := by
    have : 10 * SetTable.turns t.mask ≤ 1420 := by
      unfold SetTable.turns
      rcases R.tab.mok with e | e | e <;> omega
    omega
  unfold setSearch
  refine look_from R hL hx hu eη kf kn kb yes (fun n => no K n kn kb) 100000 0 none rfl (Nat.zero_le _) (by omega) fun i p hp hk => ?_
  have hi : (L.map fun p => NestedKey.hash w p.2)[i]? = some η := by
    rw [List.getElem?_map, hp, ← eη, ← hk]
    rfl
  have il : i < t.place.toList.length := by
    rw [R.lenPlace]
    exact (List.getElem?_eq_some_iff.mp hp).1
  obtain ⟨c, hc, e⟩ := R.tab.before kn hi (List.getElem?_eq_getElem il)
  exact ⟨c, Nat.zero_le _, hc, by rw [List.getElem?_eq_getElem il, e]⟩

/-! ### laid anew -/
theorem range_all {α : Type} (l : List α) : ∀ n, (List.range n).filterMap (fun i => l[i]?) = l.take n
  | 0 => rfl
  | n + 1 => by
    rw [List.range_succ, List.filterMap_append, range_all l n, List.take_add_one]
    cases e : l[n]? <;> simp [e]
theorem pick_fst {L : List (Addr × NestedKey)} {es : Array (Int × Value)} (e : es.toList = L.map (entK w)) : ∀ l : List Nat, (∀ i ∈ l, i < L.length) →
    (l.filterMap fun i => L[i]?).map (fun p => NestedKey.hash w p.2) = l.map fun i => (es.map (·.1)).getD i 0
  | [], _ => rfl
  | i :: l, hl => by
    have hi := hl i List.mem_cons_self
    have e1 : (es.map (·.1)).getD i 0 = NestedKey.hash w (L[i]).2 := by
      have e2 : (es.map (·.1))[i]? = some (NestedKey.hash w (L[i]).2) := by
        rw [Array.getElem?_map, ← Array.getElem?_toList, e, List.getElem?_map, List.getElem?_eq_getElem hi]
        rfl
      simp [Array.getD_eq_getD_getElem?, e2]
    rw [List.filterMap_cons_some (List.getElem?_eq_getElem hi), List.map_cons, List.map_cons, e1, pick_fst e l fun j hj => hl j (List.mem_cons_of_mem _ hj)]
theorem picked {L : List (Addr × NestedKey)} {es : Array (Int × Value)} (e : es.toList = L.map (entK w)) {order : Array Nat} (hp : order.toList.Perm (List.range L.length)) :
    ∃ L' : List (Addr × NestedKey), (order.filterMap (es[·]?)).toList = L'.map (entK w) ∧ L'.Perm L ∧ (L'.map fun p => NestedKey.hash w p.2) = order.toList.map fun i => (es.map (·.1)).getD i 0 := by
  refine ⟨order.toList.filterMap fun i => L[i]?, ?_, ?_, pick_fst e _ fun i hi => List.mem_range.mp (hp.mem_iff.mp hi)⟩
  · rw [Array.toList_filterMap, List.map_filterMap]
    refine congrArg (fun f => List.filterMap f order.toList) (funext fun i => ?_)
    show es[i]? = Option.map (entK w) L[i]?
    rw [← Array.getElem?_toList, e, List.getElem?_map]
  · have q := range_all L L.length
    rw [List.take_length] at q
    have z := hp.filterMap fun i => L[i]?
    rw [q] at z
    exact z
theorem lay_anew {o : Obj} (ho : s.heap.get? a = some o) (hex : o.ExactSet) (hd : o.data = .set es ep t) (hent : es.toList = L.map (entK w)) (hsz : t.place.size = es.size) (hdm : t.dummies = #[]) (hfl : es.size ≤ t.mask)
    (dis : (L.map (·.2)).Nodup) (pl : t.plain = true) (ord : w.params.followText "set-order" = true ∨ t.led = true) (few : L.length < 64) {wanted M : Nat} (hw : SetTable.sizeAbove wanted - 1 = M) (hM : MaskOk M)
    (hw2 : SetTable.sizeAbove wanted ≤ 128) (slack : L.length * 5 < M * 3) {Q : Unit → Shared → Prop}
    (q : ∀ h' L' es' ep' t', Heap.SameBut a s.heap h' → TabSet w h' a L' es' ep' t' → L'.Perm L → Q () { s with heap := h' }) : wpAny (model P w) A (setRelay a wanted) Q E s := by
  have sz := ent_size hent
  have fits : t.fits es.size = true := by
    unfold SetTable.fits SetTable.fill
    rw [hdm, Bool.and_eq_true, beq_iff_eq, decide_eq_true_eq]
    refine ⟨hsz, ?_⟩
    show t.place.size + 0 ≤ t.mask
    omega
  obtain ⟨t', order, e, hp, T, em, el, epl, ed⟩ := relaid_ok t (hs := es.map (·.1)) (wanted := wanted) hw hM (by rw [Array.size_map, sz]; omega)
  rw [Array.size_map, sz] at hp
  obtain ⟨L', r1, r2, r3⟩ := picked hent hp
  rw [← r3] at T
  have sz' : (order.filterMap (es[·]?)).size = es.size := by
    rw [ent_size r1, r2.length_eq, sz]
  rw [setRelay_eq]
  refine wpAny_bind (wpAny_setState_of ho hd fits ?_)
  dsimp only
  refine wp_if_neg (by rw [sizeLine_eq]; omega) ?_
  try refine wpAny_bind (wpAny_pure ?_)
  rw [e]
  dsimp only
  refine wpAny_bind ?_
  refine wp_if_neg (by rw [sz']; simp) ?_
  try refine wpAny_bind (wpAny_pure ?_)
  refine wpAny_pure ?_
  dsimp only
  refine wpAny_storeSet_of ho hd ?_ (by rw [sz', sz, sizeLine_eq]; omega)
  refine q _ L' _ (ep + 1) t' (Heap.SameBut.update ..) ⟨⟨_, store_at ho hd, ⟨hex.1, hex.2.1, hex.2.2⟩, rfl⟩, r1, T, (r2.map (·.2)).nodup_iff.mpr dis, by rw [epl]; exact pl, by rw [el]; exact ord, ?_, by rw [r2.length_eq]; exact few⟩ r2
  rw [r2.length_eq, em]
  exact slack

/-! ### one more member -/
theorem put_in (R : TabSet w s.heap a L es ep t) (hL : ∀ p ∈ L, KeyAt s.heap p.2 p.1) {x : Addr} {k : NestedKey} (hx : KeyAt s.heap k x) (hu : A.units + 8 < cLine) (few : L.length + 1 < 64) {Q : Bool → Shared → Prop}
    (q : ∀ b h' L' es' ep' t', Heap.SameBut a s.heap h' → TabSet w h' a L' es' ep' t' → (k ∈ L.map (·.2) → L' = L) → (k ∉ L.map (·.2) → L'.Perm ((x, k) :: L)) → Q b { s with heap := h' }) :
    wpAny (model P w) A (setAddHashed a (.ref x) (NestedKey.hash w k)) Q E s := by
  obtain ⟨o, ho, hex, hd⟩ := R.obj
  have sz := ent_size R.ent
  have slack := R.slack
  unfold setAddHashed
  refine wpAny_holding ?_
  rw [show (100000 : Nat) = 99999 + 1 from rfl, setAddHashedIn_succ]
  refine wpAny_bind (wpAny_setState_of ho hd R.fits ?_)
  dsimp only
  refine wp_if_neg (by simp [byScan, Value.scannable]) ?_
  try refine wpAny_bind (wpAny_pure ?_)
  obtain ⟨η, eη⟩ : ∃ η, NestedKey.hash w k = η := ⟨_, rfl⟩
  rw [eη]
  refine wpAny_bind (look_up R hL hx hu eη (fun hm => ?_) fun K hm kn kb => ?_)
  · dsimp only
    exact wpAny_pure (q false s.heap L es ep t (Heap.SameBut.refl a s.heap) R (fun _ => rfl) fun z => absurd hm z)
  · dsimp only
    refine wpAny_bind (wpAny_setState_of ho hd R.fits ?_)
    dsimp only
    obtain ⟨p1, p2, p3, p4, p5, p6, p7, p8, p9⟩ := R.tab.put kn kb
    obtain ⟨j, ej⟩ : ∃ j, way t.mask η K = j := ⟨_, rfl⟩
    rw [ej] at p1 p2 p3 p4 p5 p6 p7 p8 p9 ⊢
    have plain1 : (t.put j).1.plain = true := p6.trans R.pl
    generalize t.put j = pt at p1 p3 p4 p5 p6 p7 p8 p9 plain1 ⊢
    obtain ⟨t1, at1⟩ := pt
    dsimp only at p1 p3 p4 p5 p6 p7 p8 p9 plain1 ⊢
    subst p1
    generalize SetTable.below t.place j = b at p2 p3 ⊢
    have byv : ∀ Q', Q' true s → wpAny (model P w) A (hashByValue 8 (.ref x)) Q' E s := fun Q' z => (plainly_key k _ 8 s hx.is hx.dp hx.nm).2 A E Q' z
    first
      | (refine wpAny_bind ?_; refine wp_if_pos plain1 ?_; refine byv _ ?_)
      | refine wp_if_pos plain1 (wpAny_bind (byv _ ?_))
    simp only [if_true]
    have pm := put_perm L b (x, k)
    have ent1 : (SetTable.insertAt es b (η, Value.ref x)).toList = (L.take b ++ (x, k) :: L.drop b).map (entK w) := by
      rw [SetTable.toList_insertAt, R.ent, List.map_append, List.map_cons, List.map_take, List.map_drop, ← eη]
    have len1 : (L.take b ++ (x, k) :: L.drop b).length = L.length + 1 := pm.length_eq
    have tab1 : TabOk t1 ((L.take b ++ (x, k) :: L.drop b).map fun p => NestedKey.hash w p.2) := by
      rw [List.map_append, List.map_cons, List.map_take, List.map_drop]
      show TabOk t1 (_ ++ NestedKey.hash w k :: _)
      rw [eη]
      exact p3
    have dis1 : ((L.take b ++ (x, k) :: L.drop b).map (·.2)).Nodup := by
      refine (pm.map (·.2)).nodup_iff.mpr ?_
      rw [List.map_cons]
      exact List.nodup_cons.mpr ⟨hm, R.dis⟩
    generalize L.take b ++ (x, k) :: L.drop b = L1 at pm ent1 len1 tab1 dis1
    generalize SetTable.insertAt es b (η, Value.ref x) = es1 at ent1 ⊢
    have sz1 : es1.size = L.length + 1 := (ent_size ent1).trans len1
    refine wpAny_bind (wpAny_storeSet_of ho hd ?_ (by rw [sz1, sizeLine_eq]; omega))
    have sb : Heap.SameBut a s.heap (s.heap.update a (Obj.putSet es1 t1)) := Heap.SameBut.update ..
    have ho1 := store_at (es' := es1) (t' := t1) ho hd
    generalize s.heap.update a (Obj.putSet es1 t1) = h1 at sb ho1 ⊢
    have ord1 : w.params.followText "set-order" = true ∨ t1.led = true := by rw [p5]; exact R.ord
    have full : t1.tooFull = decide ((L.length + 1) * 5 ≥ t1.mask * 3) := by
      unfold SetTable.tooFull
      rw [p9, List.length_map]
    by_cases hf : t1.tooFull = true
    · first
        | (refine wpAny_bind ?_; refine wp_if_pos (by simp [hf]) ?_)
        | (refine wp_if_pos (by simp [hf]) ?_; refine wpAny_bind ?_)
      rw [full, decide_eq_true_eq] at hf
      rw [sz]
      have psz : t1.place.size = es1.size := by
        have z := tab1.sz
        rw [List.length_map, len1] at z
        rw [z, sz1]
      have grow : ∀ M, SetTable.sizeAbove (SetTable.grown (L.length + 1)) - 1 = M → MaskOk M → SetTable.sizeAbove (SetTable.grown (L.length + 1)) ≤ 128 → (L.length + 1) * 5 < M * 3 → L.length + 1 ≤ t1.mask →
          wpAny (model P w) A (setRelay a (SetTable.grown (L.length + 1))) (fun _ s' => wpAny (model P w) A (pure true) Q E s') E { s with heap := h1 } := fun M m1 m2 m3 m4 m5 => by
        refine lay_anew (s := { s with heap := h1 }) ho1 ⟨hex.1, hex.2.1, hex.2.2⟩ rfl ent1 psz tab1.dm (by rw [sz1]; exact m5) dis1 plain1 ord1 (by rw [len1]; exact few) m1 m2 m3 (by rw [len1]; exact m4) ?_
        intro h2 L2 es2 ep2 t2 sb2 R2 pm2
        exact wpAny_pure (q true h2 L2 es2 ep2 t2 (sb.trans sb2) R2 (fun z => absurd z hm) fun _ => pm2.trans pm)
      rcases R.tab.mok with e | e | e
      · have l4 : L.length = 4 := by rw [p4, e] at hf; rw [e] at slack; omega
        refine grow 31 (by rw [l4, size_20]) (.inr (.inl rfl)) (by rw [l4, size_20]; decide) (by omega) (by rw [p4, e]; omega)
      · have l18 : L.length = 18 := by rw [p4, e] at hf; rw [e] at slack; omega
        refine grow 127 (by rw [l18, size_76]) (.inr (.inr rfl)) (by rw [l18, size_76]; decide) (by omega) (by rw [p4, e]; omega)
      · exfalso
        rw [p4, e] at hf
        omega
    · first
        | refine wp_if_neg (by simp [hf]) ?_
        | (refine wpAny_bind ?_; refine wp_if_neg (by simp [hf]) ?_; refine wpAny_pure ?_)
      refine wpAny_pure (q true h1 L1 es1 (ep + 1) t1 sb ⟨⟨_, ho1, ⟨hex.1, hex.2.1, hex.2.2⟩, rfl⟩, ent1, tab1, dis1, plain1, ord1, ?_, by rw [len1]; exact few⟩ (fun z => absurd z hm) fun _ => pm)
      rw [full, decide_eq_true_eq] at hf
      rw [len1]
      omega
end
end RK

namespace RK
open PySem PySem.Spec PyProof.Rows L2

/-! ### set(xs), xs a list of keys -/
/-- L holds what stands among the first i of ks -/
structure Has (ks : List (Addr × NestedKey)) (i : Nat) (L : List (Addr × NestedKey)) : Prop where
  sub : ∀ p ∈ L, p ∈ ks.take i
  all : ∀ p ∈ ks.take i, p.2 ∈ L.map (·.2)
  len : L.length ≤ i
theorem Has.none (ks : List (Addr × NestedKey)) : Has ks 0 [] := ⟨fun _ h => (nomatch h), fun p h => by simp at h, Nat.le_refl _⟩
theorem Has.next {ks L L' : List (Addr × NestedKey)} {i : Nat} {x : Addr × NestedKey} (g : Has ks i L) (h : ks[i]? = some x) (c1 : x.2 ∈ L.map (·.2) → L' = L) (c2 : x.2 ∉ L.map (·.2) → L'.Perm (x :: L)) : Has ks (i + 1) L' := by
  have ht : ks.take (i + 1) = ks.take i ++ [x] := by rw [List.take_add_one, h]; rfl
  rcases Classical.em (x.2 ∈ L.map (·.2)) with c | c
  · rw [c1 c]
    refine ⟨fun p hp => by rw [ht]; exact List.mem_append_left _ (g.sub p hp), fun p hp => ?_, Nat.le_succ_of_le g.len⟩
    rw [ht] at hp
    rcases List.mem_append.mp hp with z | z
    · exact g.all p z
    · rw [List.mem_singleton.mp z]
      exact c
  · have pm := c2 c
    refine ⟨fun p hp => ?_, fun p hp => ?_, by rw [pm.length_eq, List.length_cons]; exact Nat.succ_le_succ g.len⟩
    · rw [ht]
      rcases List.mem_cons.mp (pm.mem_iff.mp hp) with z | z
      · rw [z]
        exact List.mem_append_right _ (List.mem_singleton.mpr rfl)
      · exact List.mem_append_left _ (g.sub p z)
    · rw [(pm.map (·.2)).mem_iff, List.map_cons]
      rw [ht] at hp
      rcases List.mem_append.mp hp with z | z
      · exact List.mem_cons_of_mem _ (g.all p z)
      · rw [List.mem_singleton.mp z]
        exact List.mem_cons_self
/-- the set object just made -/
abbrev setNew (w : World) : Obj := { cls := .type "set", dict := none, data := .set #[] 0 (.fresh 0 0 (!w.params.followText "set-order")) }
section
variable {P : Program} {w : World} {A : Around} {E : Value → Shared → Prop} {s : Shared}
theorem TabSet.moved {h h' : Heap} {a : Addr} {L : List (Addr × NestedKey)} {es : Array (Int × Value)} {ep : Nat} {t : SetTable} (R : TabSet w h a L es ep t) (f : ∀ o, h.get? a = some o → h'.get? a = some o) : TabSet w h' a L es ep t := by
  obtain ⟨o, ho, r⟩ := R.obj
  exact ⟨⟨o, f o ho, r⟩, R.ent, R.tab, R.dis, R.pl, R.ord, R.slack, R.few⟩
theorem tabSet_new {h : Heap} {a : Addr} (ho : h.get? a = some (setNew w)) : TabSet w h a [] #[] 0 (.fresh 0 0 (!w.params.followText "set-order")) where
  obj := ⟨_, ho, ⟨rfl, rfl, rfl⟩, rfl⟩
  ent := rfl
  tab := ⟨List.Pairwise.nil, rfl, rfl, .inl rfl, fun x hx => (nomatch hx), fun i h j hi => by simp at hi⟩
  dis := List.nodup_nil
  pl := rfl
  ord := by
    show _ ∨ (!w.params.followText "set-order") = true
    cases w.params.followText "set-order" <;> simp
  slack := by
    show 0 * 5 < 7 * 3
    decide
  few := by
    show 0 < 64
    decide
theorem upd_keys {I : Addr} {fp wr : List Addr} {G : Array GenState → Array GenState → Prop} {n : Nat} {Pv : Nat → Value → Prop} {St : Nat → Shared → Prop} {R : Result → Shared → Prop}
    (W : WalksS P w A.in1 I fp wr G n Pv St) (S : Addr) (out : S ∉ fp) (ks : List (Addr × NestedKey)) (hn : n = ks.length) (few : ks.length < 64) (val : ∀ i v, Pv i v → ∃ p, ks[i]? = some p ∧ v = .ref p.1)
    (g0 : Heap) (hk : ∀ p ∈ ks, KeyAt g0 p.2 p.1) (n1 : g0.get? S = none) (n2 : ∀ b ∈ wr, g0.get? b = none) (hu : A.in1.units + 8 < cLine) :
    ∀ (k i : Nat) (s : Shared), n - i = k → i ≤ n → St i s → (∀ b o, g0.get? b = some o → s.heap.get? b = some o) → (∃ L es ep t, TabSet w s.heap S L es ep t ∧ Has ks i L) →
      (∀ s' L es ep t, Moved (S :: wr) G s s' → TabSet w s'.heap S L es ep t → Has ks n L → (∀ b o, g0.get? b = some o → s'.heap.get? b = some o) → R (.ok (.ret .none)) s') →
      codeAny (model P w) A (.builtin "set.update.loop" ⟨[.ref S, .ref I], []⟩) R s := by
  have outW : S ∉ wr := fun h => out (W.sub _ h)
  have wider : ∀ b ∈ wr, b ∈ S :: wr := fun b hb => List.mem_cons_of_mem _ hb
  have stays : ∀ {s s' : Shared}, Moved wr G s s' → (∀ b o, g0.get? b = some o → s.heap.get? b = some o) → ∀ b o, g0.get? b = some o → s'.heap.get? b = some o := fun hm f b o e => by
    refine hm.heap b o (fun hb => ?_) (f b o e)
    rw [n2 b hb] at e
    cases e
  have inKs : ∀ {i : Nat} {L : List (Addr × NestedKey)}, Has ks i L → ∀ p ∈ L, p ∈ ks := fun g p hp => List.mem_of_mem_take (g.sub p hp)
  intro k
  induction k with
  | zero =>
    intro i s hki hi st f ⟨L, es, ep, t, T, g⟩ q
    obtain rfl : i = n := by omega
    refine codeAny_builtin F.entry_set_update_loop ?_
    rw [Around.under_plainId F.plain_set_update_loop _]
    show wpAny _ A.in1 (pyNext (.ref I) >>= _) _ _ s
    refine wpAny_bind (W.done s _ _ st fun s1 hm => ?_)
    show wpAny _ A.in1 (ret Value.none) _ _ s1
    exact wpAny_pure (q s1 L es ep t (hm.mono wider) (T.moved fun o e => hm.heap S o outW e) g (stays hm f))
  | succ k ih =>
    intro i s hki hi st f ⟨L, es, ep, t, T, g⟩ q
    have lt : i < n := by omega
    refine codeAny_builtin F.entry_set_update_loop ?_
    rw [Around.under_plainId F.plain_set_update_loop _]
    show wpAny _ A.in1 (pyNext (.ref I) >>= _) _ _ s
    refine wpAny_bind (W.item i s _ _ lt st fun v s1 hP st1 hm => ?_)
    obtain ⟨p, hp, rfl⟩ := val i v hP
    have f1 := stays hm f
    have T1 : TabSet w s1.heap S L es ep t := T.moved fun o e => hm.heap S o outW e
    have hx : KeyAt s1.heap p.2 p.1 := (hk p (List.mem_of_getElem? hp)).kept f1
    show wpAny _ A.in1 (holding [Value.ref p.1] (setAdd S (.ref p.1)) >>= _) _ _ s1
    refine wpAny_bind (wpAny_holding ?_)
    unfold setAdd
    refine wpAny_holding ?_
    refine wpAny_bind ((nestedKind P w).pyHash (k := p.2) hu ⟨hx.is, hx.dp⟩ ?_)
    refine put_in (s := { s1 with toks := s1.toks + NestedKey.draws p.2 }) T1 (fun r hr => (hk r (inKs g r hr)).kept f1) hx hu (by have := g.len; omega) fun b h2 L2 es2 ep2 t2 sb T2 c1 c2 => ?_
    have f2 : ∀ b o, g0.get? b = some o → h2.get? b = some o := fun b o e => by
      refine (sb.2 b fun z => ?_).trans (f1 b o e)
      rw [z, n1] at e
      cases e
    refine wpAny_pure ⟨plainId_quiet F.plain_set_update_loop _, ih (i + 1) _ (by omega) lt (W.frame _ s1 _ _ st1 (Nat.le_add_right _ _) fun b hb o e => ?_) f2 ⟨L2, es2, ep2, t2, T2, g.next hp c1 c2⟩ fun s3 L3 es3 ep3 t3 hm3 T3 g3 f3 => ?_⟩
    · rw [sb.2 b (fun z : b = S => out (by rw [← z]; exact hb))]
      exact e
    · refine q s3 L3 es3 ep3 t3 (Moved.trans W.gtrans ((hm.mono wider).then_heap (Nat.le_add_right _ _) fun b o hb e => ?_) hm3) T3 g3 f3
      rw [sb.2 b (fun z : b = S => hb (by rw [z]; exact List.mem_cons_self))]
      exact e
end
end RK

namespace RK
open PySem PySem.Spec PyProof.Rows L2
section
variable {P : Program} {w : World} {A : Around} {E : Value → Shared → Prop} {s : Shared}
/-- what set(xs) leaves: a new object at the heap's end -/
def SetMade (w : World) (ks : List (Addr × NestedKey)) (s s2 : Shared) : Prop :=
  ∃ h' tk L es ep t, s2 = { s with heap := h', toks := tk } ∧ TabSet w h' s.heap.objs.size L es ep t ∧ Has ks ks.length L ∧ ∀ b o, s.heap.get? b = some o → h'.get? b = some o
/-- set.__init__ of the new set and the list -/
theorem init_keys {l : Addr} {items : Array Value} (ks : List (Addr × NestedKey)) (calm : A.handled = none) (hl : s.heap.IsList l items) (hit : items.toList = ks.map fun p => Value.ref p.1)
    (hk : ∀ p ∈ ks, KeyAt s.heap p.2 p.1) (few : ks.length < 64) (hu : A.units + 12 < cLine) :
    wpAny (model P w) A (Builtin.«set.__init__» ⟨[.ref s.heap.objs.size, .ref l], []⟩) (fun fin s2 => ∃ r, fin = .done (.ret r) ∧ r = .none ∧ SetMade w ks s s2) E { s with heap := s.heap.push (setNew w) } := by
  have isz : items.size = ks.length := by rw [← Array.length_toList, hit, List.length_map]
  obtain ⟨⟨c, d, dat, sl⟩, hol, hcl, nl, hdl⟩ := hl
  simp only at hcl hdl
  subst hcl hdl
  have atS : (s.heap.push (setNew w)).get? s.heap.objs.size = some (setNew w) := Heap.get?_push_size _ rfl
  have atL : (s.heap.push (setNew w)).get? l = some { cls := .type "list", dict := d, data := .seq items nl, slots := sl } := Heap.get?_push_of_some _ hol
  have isL : (s.heap.push (setNew w)).IsList l items := ⟨_, atL, rfl, nl, rfl⟩
  have sub1 := F.sub_list_set
  have sub2 := F.sub_list_frozenset
  have noDict : (Value.type "list" == Value.type "dict") = false := by decide
  have ll : l < s.heap.objs.size := Heap.lt_size hol
  have z1 : (s.heap.push (setNew w)).objs.size = s.heap.objs.size + 1 := Heap.size_push ..
  have old : ∀ b, s.heap.objs.size ≤ b → s.heap.get? b = none := fun b hb => by
    cases e : s.heap.get? b with
    | none => rfl
    | some o => exact absurd (Nat.lt_of_lt_of_le (Heap.lt_size e) hb) (Nat.lt_irrefl _)
  unfold Builtin.«set.__init__» noKeywords Builtin.Frozenset.updateFrom
  generalize hIt : pyIter = It
  wp_walk
  subst hIt
  refine wpAny_pyIter_list isL ?_
  refine wpAny_bind (wpAny_runValue ?_)
  have nIt : l ≠ (s.heap.push (setNew w)).objs.size := by rw [z1]; exact Nat.ne_of_lt (Nat.lt_succ_of_lt ll)
  refine upd_keys ((Walks.list (by simp [calm]) _ l nIt items).toS) s.heap.objs.size (fun z => ?_) ks isz few (fun i v hv => ?_) s.heap hk (old _ (Nat.le_refl _)) (fun b hb => old b ?_) ?_ (items.size - 0) 0 _ (by omega) (Nat.zero_le _)
    ⟨⟨_, Heap.get?_push_size _ rfl, rfl, rfl⟩, isL.push _⟩ (fun b o e => Heap.get?_push_of_some _ (Heap.get?_push_of_some _ e)) ?_ ?_
  · rw [z1] at z
    rcases List.mem_cons.mp z with e | e
    · exact Nat.ne_of_lt (Nat.lt_succ_self _) e
    · rw [List.mem_singleton] at e
      exact Nat.ne_of_gt ll e
  · have e : items.toList[i]? = some v := by rw [Array.getElem?_toList]; exact hv
    rw [hit, List.getElem?_map] at e
    cases h : ks[i]? with
    | none =>
      rw [h] at e
      cases e
    | some p =>
      rw [h] at e
      exact ⟨p, rfl, (Option.some.inj e).symm⟩
  · rw [List.mem_singleton.mp hb, z1]
    exact Nat.le_succ _
  · show A.units + 1 + 8 < cLine
    omega
  · exact ⟨[], #[], 0, _, tabSet_new (Heap.get?_push_of_some _ atS), Has.none ks⟩
  · intro s2 L es ep t hm T g f
    obtain ⟨h2, g2, d2, t2, o2⟩ := s2
    obtain rfl : g2 = s.gens := hm.gens
    obtain rfl : d2 = s.drawn := hm.drawn
    obtain rfl : o2 = s.os := hm.os
    show wpAny _ _ _ _ _ _
    refine wpAny_pure ?_
    show wpAny _ _ (ret Value.none) _ _ _
    rw [isz] at g
    exact wpAny_pure ⟨_, rfl, rfl, h2, t2, L, es, ep, t, rfl, T, g, f⟩

set_option maxHeartbeats 8000000 in
theorem call_set_keys {l : Addr} {items : Array Value} (ks : List (Addr × NestedKey)) {Q : Value → Shared → Prop} (calm : A.handled = none) (hl : s.heap.IsList l items) (hit : items.toList = ks.map fun p => Value.ref p.1)
    (hk : ∀ p ∈ ks, KeyAt s.heap p.2 p.1) (few : ks.length < 64) (hu : A.units + 20 < cLine) (q : ∀ s2, SetMade w ks s s2 → Q (.ref s.heap.objs.size) s2) :
    wpAny (model P w) A (call (.type "set") [.ref l]) Q E s := by
  obtain ⟨c, tl, hmro⟩ := F.called_set.mro
  have a1 := F.called_set.made
  have a2 := F.called_set.sub
  have a3 := F.called_set.notType
  have a4 := F.called_set.canCreate
  have a5 := F.typeCall_set_1 (.ref l)
  refine wpAny_call (codeAny_of_tree ?_)
  show wpAny _ _ (callAny (.type "set") _) _ _ _
  refine wpAny_pure ⟨Code.quiet_builtin _ (by decide +kernel), codeAny_builtin F.entry_type_call ?_⟩
  rw [Around.under_plain (weight_type_call_type "set" [.ref l] []) rfl]
  repeat (any_goals (first | assumption | wp_step))
  refine codeAny_mono (code_set_led1 (.ref l) (E := E) (Q₁ := fun v s1 => v = .ref s.heap.objs.size ∧ s1 = { s with heap := s.heap.push (setNew w) }) ⟨rfl, rfl⟩) fun r s1 hr => ?_
  cases r with
  | error e => exact hr
  | ok fl =>
    cases fl with
    | ret v =>
      obtain ⟨rfl, rfl⟩ := hr
      have ty : Shared.TypeIs { s with heap := s.heap.push (setNew w) } (.ref s.heap.objs.size) "set" := ⟨_, Heap.get?_push_size _ rfl, rfl⟩
      have b1 := F.called_set.init.lookup
      have b2 := F.called_set.init.bind (.ref s.heap.objs.size)
      repeat (any_goals (first | assumption | wp_step))
      refine codeAny_mono (codeAny_call_builtin (R := wants (fun r s2 => r = .none ∧ SetMade w ks s s2) E) F.called_set.init.plain F.entry_set_init (check_set_init_1 ty ?_)) fun r2 s2 hr2 => ?_
      · refine wpAny_mono (init_keys (E := E) ks (by simp [calm]) hl hit hk few (by simp only [Around.in1_units]; omega)) (fun fin s2 h => ?_) (fun _ _ h => h)
        obtain ⟨r, rfl, e, m⟩ := h
        exact ⟨e, m⟩
      · cases r2 with
        | error e => exact hr2
        | ok fl2 =>
          cases fl2 with
          | ret r =>
            obtain ⟨rfl, m⟩ := hr2
            repeat (any_goals (first | assumption | wp_step))
            exact q _ m
          | _ => exact hr2.elim
    | _ => exact hr.elim
end
end RK

namespace RK
open PySem PySem.Spec PyProof.Rows L2

/-! ### sorted(set) -/
mutual
theorem reads_live {h : Heap} : ∀ {v : Value} {d : PyData} {as : List Addr}, Reads h v d as → ∀ a ∈ as, ∃ o, h.get? a = some o
  | _, _, _, .none, _, m => nomatch m
  | _, _, _, .bool _, _, m => nomatch m
  | _, _, _, .int _ _, _, m => nomatch m
  | _, _, _, .str _ _, _, m => nomatch m
  | _, _, _, .list e _ _ r, a, m => by
    rcases List.mem_cons.mp m with z | z
    · exact ⟨_, by rw [z]; exact e⟩
    · exact readsAll_live r a z
  | _, _, _, .tuple _ _ _ r, a, m => readsAll_live r a m
  | _, _, _, .dict e _ _ r1 r2, a, m => by
    rcases List.mem_append.mp m with z | z
    · rcases List.mem_cons.mp z with y | y
      · exact ⟨_, by rw [y]; exact e⟩
      · exact readsAll_live r1 a y
    · exact readsAll_live r2 a z
theorem readsAll_live {h : Heap} : ∀ {vs : List Value} {ds : List PyData} {as : List Addr}, ReadsAll h vs ds as → ∀ a ∈ as, ∃ o, h.get? a = some o
  | _, _, _, .nil, _, m => nomatch m
  | _, _, _, .cons r rs, a, m => by
    rcases List.mem_append.mp m with z | z
    · exact reads_live r a z
    · exact readsAll_live rs a z
end
theorem perm_lift {α β : Type} (f : α → β) {l m : List β} (h : l.Perm m) : ∀ M : List α, m = M.map f → ∃ M' : List α, l = M'.map f ∧ M'.Perm M := by
  induction h with
  | nil =>
    intro M e
    cases M with
    | nil => exact ⟨[], rfl, .refl _⟩
    | cons _ _ => cases e
  | cons x h ih =>
    intro M e
    cases M with
    | nil => cases e
    | cons y M =>
      rw [List.map_cons] at e
      obtain ⟨M', e1, p1⟩ := ih M (List.cons.inj e).2
      exact ⟨y :: M', by rw [List.map_cons, ← e1, (List.cons.inj e).1], p1.cons y⟩
  | swap x y l =>
    intro M e
    cases M with
    | nil => cases e
    | cons u M =>
      cases M with
      | nil => cases e
      | cons v M =>
        rw [List.map_cons, List.map_cons] at e
        have e1 := (List.cons.inj e).1
        have e2 := (List.cons.inj (List.cons.inj e).2).1
        have e3 := (List.cons.inj (List.cons.inj e).2).2
        exact ⟨v :: u :: M, by rw [List.map_cons, List.map_cons, e1, e2, e3], .swap u v M⟩
  | trans h1 h2 ih1 ih2 =>
    intro M e
    obtain ⟨M2, e2, p2⟩ := ih2 M e
    obtain ⟨M1, e1, p1⟩ := ih1 M2 e2
    exact ⟨M1, e1, p1.trans p2⟩
theorem each_of {α β : Type} {R : α → β → Prop} (f : β → α) : ∀ l : List β, (∀ b ∈ l, R (f b) b) → PySem.W.EachIs R (l.map f) l
  | [], _ => .nil
  | b :: l, h => .cons (h b List.mem_cons_self) (each_of f l fun c hc => h c (List.mem_cons_of_mem _ hc))
theorem each_eq {α β : Type} (f : β → α) : ∀ {vs : List α} {bs : List β}, PySem.W.EachIs (fun v b => v = f b) vs bs → vs = bs.map f
  | _, _, .nil => rfl
  | _, _, .cons e t => by rw [List.map_cons, e, each_eq f t]
/-- the order in which sorted lays them -/
abbrev leK : Addr × NestedKey → Addr × NestedKey → Bool := PySem.W.dataLe false fun p => NestedKey.data p.2
section
variable {P : Program} {w : World} {A : Around} {E : Value → Shared → Prop} {s : Shared}
theorem sorted_keys {a : Addr} {L : List (Addr × NestedKey)} {es : Array (Int × Value)} {ep : Nat} {t : SetTable} {Q : Value → Shared → Prop} (T : TabSet w s.heap a L es ep t) (calm : A.handled = none)
    (rd : ∀ p ∈ L, ∃ as, Reads s.heap (.ref p.1) (NestedKey.data p.2) as) (al : ∀ p ∈ L, ∀ r ∈ L, PySem.W.alike (NestedKey.data p.2) (NestedKey.data r.2) = true) (st : ∀ p ∈ L, ∃ x r, NestedKey.data p.2 = .tuple (x :: r))
    (hu : ∀ p ∈ L, A.units + 8 + (NestedKey.data p.2).depth < cLine)
    (q : ∀ s' p (out : Array Value) (c : Nat) (L1 : List (Addr × NestedKey)), (∀ b o, s.heap.get? b = some o → s'.heap.get? b = some o) → s'.gens = s.gens → s'.os = s.os → s.heap.objs.size ≤ p →
      s'.heap.get? p = some (seqObj "list" out c) → L1.Perm L → out.toList = (L1.mergeSort leK).map (fun p => Value.ref p.1) → Q (.ref p) s') :
    wpAny (model P w) A (call (.builtin "sorted") [.ref a]) Q E s := by
  obtain ⟨o, ho, hex, hd⟩ := T.obj
  have sz := ent_size T.ent
  have few := T.few
  refine Calls.call_function_entry kind_sorted plain_sorted entry_sorted (args_sorted1 _) ?_
  unfold Builtin.«sorted»
  refine wpAny_bind (m := checkCount "sorted" 1 1 _) (wpAny_pure ?_)
  refine wpAny_bind (collect_set (A := A.in1) calm ⟨o, ho, hex.1, hd⟩ T.fits (by unfold scanBound; omega) T.tab.ris T.ord fun s1 vs k1 z1 g1 o1 pm => ?_)
  have em : es.toList.map (·.2) = L.map fun p => Value.ref p.1 := by
    rw [T.ent, List.map_map]
    rfl
  rw [em] at pm
  obtain ⟨L1, e1, p1⟩ := perm_lift _ pm L rfl
  have len1 : L1.length = L.length := p1.length_eq
  have vlen : vs.length = L.length := by rw [e1, List.length_map, len1]
  have inL : ∀ r ∈ L1, r ∈ L := fun r hr => p1.mem_iff.mp hr
  refine wpAny_bind (wpAny_newList ?_ (by rw [sizeLine_eq]; omega))
  have atL : (s1.heap.push (seqObj "list" vs.toArray 0)).get? s1.heap.objs.size = some (seqObj "list" vs.toArray 0) := Heap.get?_push_size _ rfl
  have k2 : ∀ b u, s.heap.get? b = some u → (s1.heap.push (seqObj "list" vs.toArray 0)).get? b = some u := fun b u e => Heap.get?_push_of_some _ (k1 b u e)
  have reads1 : ∀ g : Heap, (∀ b u, s.heap.get? b = some u → g.get? b = some u) → PySem.W.EachIs (fun v (p : Addr × NestedKey) => ∃ as, Reads g v (NestedKey.data p.2) as ∧ s1.heap.objs.size ∉ as) vs L1 := by
    intro g kg
    rw [e1]
    refine each_of (fun p : Addr × NestedKey => Value.ref p.1) L1 fun p hp => ?_
    obtain ⟨as, r⟩ := rd p (inL p hp)
    refine ⟨as, Reads.keeps kg r, fun m => ?_⟩
    obtain ⟨u, hu'⟩ := reads_live r _ m
    exact absurd (Nat.lt_of_lt_of_le (Heap.lt_size hu') z1) (Nat.lt_irrefl _)
  have readsAt := reads1 _ k2
  have isRef : PySem.W.EachIs (fun v (p : Addr × NestedKey) => v = Value.ref p.1) vs L1 := by
    rw [e1]
    exact each_of (fun p : Addr × NestedKey => Value.ref p.1) L1 fun _ _ => rfl
  have alk : PySem.W.AllAlike (L1.map fun p => NestedKey.data p.2) := by
    intro d hd' d' hd''
    obtain ⟨p, hp, rfl⟩ := List.mem_map.mp hd'
    obtain ⟨r, hr, rfl⟩ := List.mem_map.mp hd''
    exact al p (inL p hp) r (inL r hr)
  have srt : PySem.W.Sortable (L1.map fun p => NestedKey.data p.2) := by
    refine .inl fun d hd' => ?_
    obtain ⟨p, hp, rfl⟩ := List.mem_map.mp hd'
    exact st p (inL p hp)
  refine wpAny_bind (wpAny_holding (PySem.W.list_sort_data (s := { s1 with heap := s1.heap.push (seqObj "list" vs.toArray 0) }) (enc := fun p : Addr × NestedKey => NestedKey.data p.2) atL isRef readsAt alk srt (by rw [sizeLine_eq]; omega) (fun p hp => ?_) fun out hlen eo => ?_))
  · have := hu p (inL p hp)
    simp only [Around.in1_units]
    omega
  · obtain ⟨c, hc⟩ := sortedHeap_at (vs := vs) (out := out.toArray) atL
    refine wpAny_pure ⟨_, rfl, q _ s1.heap.objs.size out.toArray c L1 (fun b u e => ?_) g1 o1 z1 hc p1 (each_eq (fun p : Addr × NestedKey => Value.ref p.1) eo)⟩
    have lt : b < s1.heap.objs.size := Heap.lt_size (k1 b u e)
    show (sortedHeap (s1.heap.push (seqObj "list" vs.toArray 0)) s1.heap.objs.size vs out.toArray).get? b = some u
    rw [sortedHeap_old (Nat.ne_of_lt lt) (by rw [size_push']; exact Nat.lt_succ_of_lt lt)]
    exact k2 b u e
end
end RK

namespace RK
open PySem PySem.Spec PyProof.Rows L2

/-! ### data by the abstract heap, of three kinds -/
abbrev RelK := HO → List V → List PyData → PyData → Prop
mutual
inductive DX (r : RelK) (H : Hp) : V → PyData → Prop
  | non : DX r H .non .none
  | int (i : Int) : DX r H (.int i) (.int i)
  | seq {a : Addr} {o : HO} {xs : List V} {ds : List PyData} {d : PyData} : H a = some o → r o xs ds d → DXs r H xs ds → DX r H (.ref a) d
inductive DXs (r : RelK) (H : Hp) : List V → List PyData → Prop
  | nil : DXs r H [] []
  | cons {x : V} {xs : List V} {d : PyData} {ds : List PyData} : DX r H x d → DXs r H xs ds → DXs r H (x :: xs) (d :: ds)
end
/-- as it stands -/
def rkD : RelK := fun o xs ds d => (o = .lst xs ∧ d = .list ds) ∨ (o = .tup xs ∧ d = .tuple ds)
/-- lists told as tuples -/
def rkT : RelK := fun o xs ds d => (o = .lst xs ∨ o = .tup xs) ∧ d = .tuple ds
/-- tuples alone -/
def rkU : RelK := fun o xs ds d => o = .tup xs ∧ d = .tuple ds
abbrev DD := DX rkD
abbrev DDs := DXs rkD
abbrev DT := DX rkT
abbrev DTs := DXs rkT
abbrev TT := DX rkU
abbrev TTs := DXs rkU
mutual
theorem DX.mono {r r' : RelK} {H H' : Hp} (f : ∀ a o xs ds d, r o xs ds d → H a = some o → r' o xs ds d ∧ H' a = some o) : ∀ {x : V} {d : PyData}, DX r H x d → DX r' H' x d
  | _, _, .non => .non
  | _, _, .int i => .int i
  | _, _, .seq e q t => .seq (f _ _ _ _ _ q e).2 (f _ _ _ _ _ q e).1 (DXs.mono f t)
theorem DXs.mono {r r' : RelK} {H H' : Hp} (f : ∀ a o xs ds d, r o xs ds d → H a = some o → r' o xs ds d ∧ H' a = some o) : ∀ {xs : List V} {ds : List PyData}, DXs r H xs ds → DXs r' H' xs ds
  | _, _, .nil => .nil
  | _, _, .cons h t => .cons (DX.mono f h) (DXs.mono f t)
end
/-- the tuples stay -/
def TupS (H H' : Hp) : Prop := ∀ b xs, H b = some (.tup xs) → H' b = some (.tup xs)
theorem TupS.refl (H : Hp) : TupS H H := fun _ _ e => e
theorem TupS.trans {H H1 H2 : Hp} (a : TupS H H1) (b : TupS H1 H2) : TupS H H2 := fun c xs e => b c xs (a c xs e)
theorem same_tupS {H H' : Hp} (s : Same H H') : TupS H H' := fun b _ e => s b _ e
theorem same_upd {H : Hp} {p : Addr} {o : HO} (n : H p = none) : Same H (upd H p o) := fun b u e => by
  rw [upd_ne (ne_of_none e n)]
  exact e
/-- a list changes: the tuples stay -/
theorem tupS_lst {H : Hp} {p : Addr} {xs : List V} {o : HO} (e : H p = some (.lst xs)) : TupS H (upd H p o) := fun b ys q => by
  rw [upd_ne (ne_of q e (by intro z; cases z))]
  exact q
section
variable {H H' : Hp} {x : V} {xs : List V} {d : PyData} {ds : List PyData} {r : RelK}
theorem DX.same (s : Same H H') (h : DX r H x d) : DX r H' x d := h.mono fun a o _ _ _ q e => ⟨q, s a o e⟩
theorem DXs.same (s : Same H H') (h : DXs r H xs ds) : DXs r H' xs ds := h.mono fun a o _ _ _ q e => ⟨q, s a o e⟩
theorem TT.stay (s : TupS H H') (h : TT H x d) : TT H' x d := h.mono fun a o ys _ _ q e => ⟨q, by rw [q.1]; exact s a ys (by rw [← q.1]; exact e)⟩
theorem TTs.stay (s : TupS H H') (h : TTs H xs ds) : TTs H' xs ds := h.mono fun a o ys _ _ q e => ⟨q, by rw [q.1]; exact s a ys (by rw [← q.1]; exact e)⟩
theorem TT.dd (h : TT H x d) : DD H x d := h.mono fun _ _ _ _ _ q e => ⟨.inr q, e⟩
theorem TTs.dd (h : TTs H xs ds) : DDs H xs ds := h.mono fun _ _ _ _ _ q e => ⟨.inr q, e⟩
theorem TT.dt (h : TT H x d) : DT H x d := h.mono fun _ _ _ _ _ q e => ⟨⟨.inr q.1, q.2⟩, e⟩
theorem TTs.dt (h : TTs H xs ds) : DTs H xs ds := h.mono fun _ _ _ _ _ q e => ⟨⟨.inr q.1, q.2⟩, e⟩
theorem DX.mk_tup {a : Addr} (e : H a = some (.tup xs)) (t : TTs H xs ds) : TT H (.ref a) (.tuple ds) := .seq e ⟨rfl, rfl⟩ t
theorem DX.mk_lst {a : Addr} (e : H a = some (.lst xs)) (t : DDs H xs ds) : DD H (.ref a) (.list ds) := .seq e (.inl ⟨rfl, rfl⟩) t
theorem DX.mk_tupD {a : Addr} (e : H a = some (.tup xs)) (t : DDs H xs ds) : DD H (.ref a) (.tuple ds) := .seq e (.inr ⟨rfl, rfl⟩) t
theorem TT.tup (h : TT H x (.tuple ds)) : ∃ a xs, x = .ref a ∧ H a = some (.tup xs) ∧ TTs H xs ds := by
  cases h with
  | seq e q t =>
    obtain ⟨rfl, q⟩ := q
    cases q
    exact ⟨_, _, rfl, e, t⟩
theorem DT.sq (h : DT H x (.tuple ds)) : ∃ a o xs, x = .ref a ∧ H a = some o ∧ (o = .lst xs ∨ o = .tup xs) ∧ DTs H xs ds := by
  cases h with
  | seq e q t =>
    obtain ⟨q, z⟩ := q
    cases z
    exact ⟨_, _, _, rfl, e, q, t⟩
theorem DD.lst (h : DD H x (.list ds)) : ∃ a xs, x = .ref a ∧ H a = some (.lst xs) ∧ DDs H xs ds := by
  cases h with
  | seq e q t =>
    rcases q with ⟨rfl, q⟩ | ⟨_, q⟩
    · cases q
      exact ⟨_, _, rfl, e, t⟩
    · cases q
theorem DD.tup (h : DD H x (.tuple ds)) : ∃ a xs, x = .ref a ∧ H a = some (.tup xs) ∧ DDs H xs ds := by
  cases h with
  | seq e q t =>
    rcases q with ⟨_, q⟩ | ⟨rfl, q⟩
    · cases q
    · cases q
      exact ⟨_, _, rfl, e, t⟩
theorem DD.int' {i : Int} (h : DD H x (.int i)) : x = .int i := by
  cases h with
  | int => rfl
  | seq e q t => rcases q with ⟨_, q⟩ | ⟨_, q⟩ <;> cases q
theorem DD.non' (h : DD H x .none) : x = .non := by
  cases h with
  | non => rfl
  | seq e q t => rcases q with ⟨_, q⟩ | ⟨_, q⟩ <;> cases q
theorem DT.int' {i : Int} (h : DT H x (.int i)) : x = .int i := by
  cases h with
  | int => rfl
  | seq e q t => exact nomatch q.2
theorem TT.int' {i : Int} (h : TT H x (.int i)) : x = .int i := DT.int' (TT.dt h)
theorem DXs.len : ∀ {xs : List V} {ds : List PyData}, DXs r H xs ds → xs.length = ds.length
  | _, _, .nil => rfl
  | _, _, .cons _ t => by rw [List.length_cons, List.length_cons, DXs.len t]
theorem DXs.get : ∀ {xs : List V} {ds : List PyData} {i : Nat} {d : PyData}, DXs r H xs ds → ds[i]? = some d → ∃ x, xs[i]? = some x ∧ DX r H x d
  | _, _, _, _, .nil, e => by simp at e
  | _, _, 0, _, .cons h _, e => by
    simp at e
    subst e
    exact ⟨_, rfl, h⟩
  | _, _, i + 1, _, .cons _ t, e => by
    obtain ⟨x, h1, h2⟩ := DXs.get (i := i) t (by simpa using e)
    exact ⟨x, by simpa using h1, h2⟩
theorem DXs.at_ : ∀ {xs : List V} {ds : List PyData} {i : Nat} {x : V}, DXs r H xs ds → xs[i]? = some x → ∃ d, ds[i]? = some d ∧ DX r H x d
  | _, _, _, _, .nil, e => by simp at e
  | _, _, 0, _, .cons h _, e => by
    simp at e
    subst e
    exact ⟨_, rfl, h⟩
  | _, _, i + 1, _, .cons _ t, e => by
    obtain ⟨d, h1, h2⟩ := DXs.at_ (i := i) t (by simpa using e)
    exact ⟨d, by simpa using h1, h2⟩
theorem DXs.app : ∀ {xs ys : List V} {ds es : List PyData}, DXs r H xs ds → DXs r H ys es → DXs r H (xs ++ ys) (ds ++ es)
  | _, _, _, _, .nil, s => s
  | _, _, _, _, .cons h t, s => .cons h (DXs.app t s)
theorem DXs.snoc (t : DXs r H xs ds) (h : DX r H x d) : DXs r H (xs ++ [x]) (ds ++ [d]) := t.app (.cons h .nil)
theorem DXs.take : ∀ {xs : List V} {ds : List PyData} (n : Nat), DXs r H xs ds → DXs r H (xs.take n) (ds.take n)
  | _, _, 0, _ => .nil
  | _, _, _ + 1, .nil => .nil
  | _, _, n + 1, .cons h t => .cons h (DXs.take n t)
theorem DXs.drop : ∀ {xs : List V} {ds : List PyData} (n : Nat), DXs r H xs ds → DXs r H (xs.drop n) (ds.drop n)
  | _, _, 0, t => t
  | _, _, _ + 1, .nil => .nil
  | _, _, n + 1, .cons _ t => DXs.drop n t
theorem DXs.rev : ∀ {xs : List V} {ds : List PyData}, DXs r H xs ds → DXs r H xs.reverse ds.reverse
  | _, _, .nil => .nil
  | _, _, .cons h t => by rw [List.reverse_cons, List.reverse_cons]; exact DXs.snoc (DXs.rev t) h
theorem dxs_ints : ∀ ns : List Int, DXs r H (ns.map V.int) (ns.map PyData.int)
  | [] => .nil
  | n :: ns => .cons (.int n) (dxs_ints ns)
theorem ints_of : ∀ {xs : List V} {ns : List Int}, DTs H xs (ns.map PyData.int) → xs = ns.map V.int
  | _, [], .nil => rfl
  | _, n :: ns, .cons h t => by rw [DT.int' h, ints_of t]; rfl
end
mutual
theorem DX.dp {K : PySem.W.Frag} {H : Hp} : ∀ {x : V} {d : PyData}, DD H x d → Dp K H x d
  | _, _, .non => .non
  | _, _, .int i => .int i
  | _, _, .seq e (.inl ⟨q1, q2⟩) t => by
    subst q1 q2
    exact .lst (SqL.of e) (DXs.dp t)
  | _, _, .seq e (.inr ⟨q1, q2⟩) t => by
    subst q1 q2
    exact .tup (SqT.of e) (DXs.dp t)
theorem DXs.dp {K : PySem.W.Frag} {H : Hp} : ∀ {xs : List V} {ds : List PyData}, DDs H xs ds → DpAll K H xs ds
  | _, _, .nil => .nil
  | _, _, .cons h t => .cons (DX.dp h) (DXs.dp t)
end
/-- the last item of a prefix -/
theorem take_snoc {α : Type} {l : List α} {i : Nat} {x : α} (h : l[i]? = some x) : l.take (i + 1) = l.take i ++ [x] := by
  rw [List.take_add_one, h]
  rfl
end RK

namespace RK
open PySem PySem.Spec PyProof.Rows L2

/-! ### enumerate of a tuple -/
set_option maxHeartbeats 4000000 in
theorem meets_enum1 {v : Value} {o : Obj} {G : Heap → Prop} (B : Begins v o G) : Meets (Builtin.«enumerate.__new__» ⟨[.type "enumerate", v], []⟩) (fun _ R s => G s.heap ∧
    R (.ok (.ret (.ref (s.heap.push o).objs.size))) { s with heap := (s.heap.push o).push { cls := .type "enumerate", data := .fields #[.none, .bool false, .ref s.heap.objs.size, rawInt 0, .none, .none] } }) := .of_wp fun prog w A R s h => by
  obtain ⟨hp, g, d, tk, os⟩ := s
  obtain ⟨h1, h⟩ := h
  have sub := sub_enumerate
  have mv : ∀ {A' : Around} {E : Value → Shared → Prop} {Q : Value → Shared → Prop}, Q (.ref hp.objs.size) ⟨hp.push o, g, d, tk, os⟩ → wpAny (model prog w) A' (pyIter v) Q E ⟨hp, g, d, tk, os⟩ :=
    fun q => B.iter prog w _ _ ⟨hp, g, d, tk, os⟩ _ h1 q
  wp_walk using mv
  refine wpAny_stack_any fun st => wpAny_pure ?_
  split
  · rename_i c _ _ _ _ _
    cases (c == Value.type "enumerate") <;> (wp_walk using mv; exact ⟨_, rfl, h⟩)
  · wp_walk using mv
    exact ⟨_, rfl, h⟩
section
variable {prog : Program} {w : World} {A : Around} {E : Value → Shared → Prop} {s : Shared}
theorem call_enumU {t : Addr} {items : Array Value} {Q : Value → Shared → Prop} (ht : s.heap.IsTuple t items)
    (q : ∀ h', IsEnum h' (s.heap.objs.size + 1) s.heap.objs.size 0 .none → h'.IsTupleIter s.heap.objs.size t 0 → (∀ b o, s.heap.get? b = some o → h'.get? b = some o) → Q (.ref (s.heap.objs.size + 1)) { s with heap := h' }) :
    wpAny (model prog w) A (call (.type "enumerate") [.ref t]) Q E s := by
  have B := begins_tuple t items
  generalize ho : ({ cls := .type "tuple_iterator", data := .fields #[.ref t, .int 0 0] } : Obj) = o at B
  refine callType_new F.called_enumerate (by decide) (F.typeCall_enumerate_1 _) (F.newCall_enumerate_1 _) (fun obj => F.args_object_init_2 obj _) F.entry_enumerate_new (meets_enum1 B) ⟨ht, ?_⟩
  have z1 : (s.heap.push o).objs.size = s.heap.objs.size + 1 := Heap.size_push ..
  show _ ∧ _
  rw [z1]
  have en := Heap.get?_push_size (s.heap.push o) (o := { cls := .type "enumerate", data := .fields #[.none, .bool false, .ref s.heap.objs.size, rawInt 0, .none, .none] }) rfl
  rw [z1] at en
  refine ⟨⟨_, en, rfl⟩, q _ en ⟨o, Heap.get?_push_of_some _ (Heap.get?_push_size _ B.free), ?_, ?_⟩ fun b u e => Heap.get?_push_of_some _ (Heap.get?_push_of_some _ e)⟩
  · rw [← ho]
  · rw [← ho]
    rfl
end
/-- the tuple at a, each item in a new pair with its number -/
def IteU (K : PySem.W.Frag) (a : Addr) : It :=
  ⟨fun i H => ∃ (xs : List V) (x : V), SqT K H a xs ∧ xs[i]? = some x, fun i H v H' => ∃ T x, v = .ref T ∧ H T = none ∧ H' = upd H T (.tup [.int (i : Nat), x]) ∧ ∀ xs, SqT K H a xs → xs[i]? = some x, fun i H => ∃ xs : List V, SqT K H a xs ∧ xs.length ≤ i⟩
theorem turn_enumU {P : Program} {w : World} {K : PySem.W.Frag} {elts : List Expr} {kk : Nat} {tpos : Pos} (a e it : Addr) :
    Turn P w K (.Tuple elts kk tpos) (IteU K a) [e, it] e (fun i h => (∃ old, IsEnum h e it ((i : Nat) : Int) old) ∧ h.IsTupleIter it a i ∧ e ≠ it ∧ e ≠ a ∧ a ≠ it) where
  mem := List.mem_cons_self
  obj := fun i h st b hb => by
    obtain ⟨⟨old, en⟩, ⟨o, ho, hc, hd⟩, _⟩ := st
    rcases List.mem_cons.mp hb with z | z
    · rw [z]
      exact ⟨_, en, fun v q => nomatch q⟩
    · rw [List.mem_singleton.mp z]
      exact ⟨o, ho, fun v q => by rw [hd] at q; cases q⟩
  keep := fun i h h' st k => by
    obtain ⟨⟨old, en⟩, ti, ne⟩ := st
    exact ⟨⟨old, k e List.mem_cons_self _ en⟩, ti.at fun o q => k it (List.mem_cons_of_mem _ List.mem_cons_self) o q, ne⟩
  item := by
    intro X eP ew eK calm i pins s σ H E I fp st go
    subst eP ew eK
    obtain ⟨⟨old, en⟩, ti, ne1, ne2, ne3⟩ := st
    obtain ⟨xs, x, hq, hx⟩ := go
    obtain ⟨its, rv, p, hz⟩ := I.tuple hq
    obtain ⟨u, hu, ru⟩ := rv.get hx
    have el : e < s.heap.objs.size := Heap.lt_size en
    have il : it < s.heap.objs.size := by
      obtain ⟨_, q, _⟩ := ti
      exact Heap.lt_size q
    have D := Draws.tuple (prog := X.prog) (w := X.w) (A := X.A.in1) (I.ok.hd calm) it a ne3 its.toArray
    have lt : i < its.toArray.size := by
      rw [List.size_toArray]
      exact (List.getElem?_eq_some_iff.mp hu).1
    refine wpAny_pyNext_enum_itemD D en ⟨ti, p⟩ lt ne1 (by simp [ne1, ne2]) fun x' h' tk hx' ho st' hT hsz hk => ?_
    have ex : x' = u := by
      have q : its.toArray[i]? = some u := by simpa using hu
      rw [q] at hx'
      exact (Option.some.inj hx').symm
    subst ex
    refine ⟨_, rfl, wpAny_letOwnedTupleGo_enum (s := { s with heap := h', toks := tk + 1 }) ho fun h'' en' sb => ?_⟩
    have hT2 := (sb.2 _ (Nat.ne_of_gt el)).trans hT
    have I1 : Inv X pins σ (upd H s.heap.objs.size (.tup [.int (i : Nat), x])) { s with heap := h'', toks := tk + 1 } :=
      I.turnedNew (ch := [e, it]) (fun b ob hb q => (sb.2 b (fun z => hb (by simp [z]))).trans (hk b ob (fun z => hb (by simp [z])) (fun z => hb (by simp [z])) q)) fp (Nat.le_refl _)
        ⟨by show 2 ≤ sizeLine; decide, [.int i tk, x'], .cons ⟨_, rfl⟩ (.cons ru .nil), ⟨_, hT2, rfl, _, rfl⟩⟩
    refine ⟨.ref s.heap.objs.size, _, I1, rfl, ⟨_, x, rfl, I.hok.fresh (Nat.le_refl _), rfl, fun ys hy => by rw [I.tuple_inj hy hq]; exact hx⟩, ⟨⟨x', ?_⟩, st'.1.at fun o q => (sb.2 it (Ne.symm ne1)).trans q, ne1, ne2, ne3⟩, fun b hb => ?_⟩
    · have e1 : ((i + 1 : Nat) : Int) = (i : Int) + 1 := by omega
      rw [e1]
      exact en'
    · have bl : b < s.heap.objs.size := by
        rcases List.mem_cons.mp hb with z | z
        · rw [z]
          exact el
        · rw [List.mem_singleton.mp z]
          exact il
      rw [upd_ne (Nat.ne_of_lt bl)]
      exact (fp b hb).1
  done := by
    intro X eP ew eK calm i pins s σ H E I fp st stop
    subst eP ew eK
    obtain ⟨⟨old, en⟩, ti, ne1, ne2, ne3⟩ := st
    obtain ⟨xs, hq, hx⟩ := stop
    obtain ⟨its, rv, p, hz⟩ := I.tuple hq
    obtain ⟨f0, f1, f2, f3, f4, f5⟩ := fp it (List.mem_cons_of_mem _ List.mem_cons_self)
    have hl := rv.length
    have atEnd : its.toArray[i]? = none := by simp; omega
    have hT : s.TypeIs (.ref e) "enumerate" := ⟨_, en, rfl⟩
    unfold pyNext
    refine wpAny_bind (wpAny_attempt (wpAny_callSpecial?_slot (name := Str.ofString "__next__") hT F.slot_enumerate_next (wpAny_call_entry F.slot_enumerate_next hT F.entry_enumerate_next ?_ (F.args_enumerate_next_1 _))))
    show wpAny _ _ (field (.ref e) 2 >>= _) _ _ _
    refine wpAny_bind (wpAny_field en rfl (x := .ref it) rfl ?_)
    refine wpAny_bind (wpAny_nextOf_tuple_end (show X.A.in1.handled = none from I.ok.hd calm) ti p atEnd fun h' x eb hx' => ?_)
    obtain ⟨o, ho, hc⟩ := hx'
    refine wpAny_bind (wpAny_isInstance (T := "StopIteration") (b := true) ⟨o, ho, hc⟩ isSubtype_stop ?_)
    exact wpAny_pure ⟨rfl, I.turned (t' := s.toks) (fun b o hb q => eb b o hb q) f0 f1 f3 f4 f5⟩
  self := fun A i s Q E st h => let ⟨⟨_, en⟩, _⟩ := st; wpAny_pyIter_enum en h
def iEnumU (K : PySem.W.Frag) (ta : TA) : TI := fun σ H R => ta σ H fun vs H1 => ∃ a xs, vs = [.ref a] ∧ SqT K H1 a xs ∧ R (IteU K a) H1
theorem pi_enumU {X : Cx} {e : Expr} {ta : TA} {p pos tpos : Pos} {elts : List Expr} {kk : Nat} (hg : Gl X "enumerate") (hm : X.mg "enumerate" = none) (ha : PA X [e] ta) (hs : starEach [e] X.env = [(false, eval e X.env)] := by rfl) :
    PI X (.Tuple elts kk tpos) (.Call (.Name "enumerate" p) [e] [] pos) (iEnumU X.K ta) := by
  refine ⟨fun pins s σ H R I h => ?_⟩
  refine Call_ (ld_blt I hg hm boot_enumerate (PyProof.Rows.callWith_type1 (thn (ha.run pos pins s σ H _ I h) fun us s1 ⟨vs, H1, I1, r1, q1⟩ => ?_) hs rfl))
  obtain ⟨a, xs, ex, hq, q⟩ := q1
  subst ex
  obtain rfl := Vals.ref1 r1
  obtain ⟨its, rv, p', hz⟩ := I1.tuple hq
  obtain ⟨oa, hoa, _⟩ := id p'
  have al : a < s1.heap.objs.size := Heap.lt_size hoa
  refine call_enumU (show s1.heap.IsTuple a its.toArray from p') fun h' en ti hk => wpAny_pyIter_enum en ?_
  have I2 : Inv X pins σ H1 { s1 with heap := h' } := I1.kept (t' := s1.toks) hk
  refine ⟨s1.heap.objs.size + 1, [s1.heap.objs.size + 1, s1.heap.objs.size], _, _, H1, rfl, I2, turn_enumU a (s1.heap.objs.size + 1) s1.heap.objs.size, ⟨⟨.none, en⟩, ti, Nat.succ_ne_self _, Nat.ne_of_gt (Nat.lt_succ_of_lt al), Nat.ne_of_lt al⟩, fun b hb => ?_, q⟩
  have le : s1.heap.objs.size ≤ b := by
    rcases List.mem_cons.mp hb with z | z
    · rw [z]
      exact Nat.le_succ _
    · rw [List.mem_singleton.mp z]
      exact Nat.le_refl _
  exact I1.fpOk le (I1.hok.fresh le)
/-- one of two rules for what is walked -/
theorem pi_or {X : Cx} {tg it : Expr} {w1 w2 : TI} (h1 : PI X tg it w1) (h2 : PI X tg it w2) : PI X tg it (fun σ H R => w1 σ H R ∨ w2 σ H R) :=
  ⟨fun pins s σ H R I h => h.elim (h1.run pins s σ H R I) (h2.run pins s σ H R I)⟩
theorem pg_or {X : Cx} {tg : Expr} {g1 g2 : TG} (h1 : PG X tg g1) (h2 : PG X tg g2) : PG X tg (fun v σ H Q => g1 v σ H Q ∨ g2 v σ H Q) :=
  ⟨fun pins s σ H v u Q I r h => h.elim (h1.run pins s σ H v u Q I r) (h2.run pins s σ H v u Q I r)⟩

/-! ### walks -/
section
variable {K : PySem.W.Frag} {a b : Addr} {xs ys : List V} {o o2 : HO}
/-- the i-th of xs with its number, in a new pair -/
abbrev YEnum (xs : List V) : Nat → Hp → V → Hp → Prop := YPair (fun i => some (.int (i : Nat))) (fun i => xs[i]?)
abbrev YZip (xs ys : List V) : Nat → Hp → V → Hp → Prop := YPair (fun i => xs[i]?) (fun i => ys[i]?)
theorem walk_enumU : Walk (IteU K a) xs.length (fun H => SqT K H a xs) (YEnum xs) := by
  refine ⟨fun i _ hi q => ⟨xs, xs[i], q, by simp [hi]⟩, fun _ q => ⟨xs, q, Nat.le_refl _⟩, fun i H v H' _ q y => ?_⟩
  obtain ⟨T, x, h1, h2, h3, h4⟩ := y
  exact ⟨T, .int (i : Nat), x, h1, h2, h3, rfl, h4 xs q⟩
theorem walk_zipU {n : Nat} (hn : n = min xs.length ys.length) : Walk (RZ.ItzT K a b) n (fun H => SqT K H a xs ∧ SqT K H b ys) (YZip xs ys) := by
  subst hn
  refine ⟨fun i _ hi q => ⟨xs, ys, xs[i]'(by omega), ys[i]'(by omega), q.1, q.2, by simp [show i < xs.length by omega], by simp [show i < ys.length by omega]⟩, fun _ q => ⟨xs, ys, q.1, q.2, by omega⟩, fun i H v H' _ q y => ?_⟩
  obtain ⟨T, x, z, h1, h2, h3, h4, h5⟩ := y
  exact ⟨T, x, z, h1, h2, h3, h4 xs q.1, h5 ys q.2⟩
/-- a list or a tuple at a, walked: whichever it is -/
theorem walk_any {R : It → Hp → Prop} {H : Hp} (e : H a = some o) (c : o = .lst xs ∨ o = .tup xs) (r : ∀ J, Walk J xs.length (fun H => H a = some o) (YAt xs) → R J H) :
    (∃ b, V.ref a = .ref b ∧ (∃ zs, SqL K H b zs) ∧ R (Itl K b) H) ∨ (∃ b, V.ref a = .ref b ∧ (∃ zs, SqT K H b zs) ∧ R (Itt K b) H) := by
  rcases c with rfl | rfl
  · exact .inl ⟨a, rfl, ⟨xs, SqL.of e⟩, r _ (walk_list.mono (fun _ h => SqL.of h) fun _ _ _ _ _ _ y => y)⟩
  · exact .inr ⟨a, rfl, ⟨xs, SqT.of e⟩, r _ (walk_tup.mono (fun _ h => SqT.of h) fun _ _ _ _ _ _ y => y)⟩
theorem enum_any {R : It → Hp → Prop} {H : Hp} (e : H a = some o) (c : o = .lst xs ∨ o = .tup xs) (r : ∀ J, Walk J xs.length (fun H => H a = some o) (YEnum xs) → R J H) :
    (∃ b zs, [V.ref a] = [.ref b] ∧ SqL K H b zs ∧ R (Ite K b) H) ∨ (∃ b zs, [V.ref a] = [.ref b] ∧ SqT K H b zs ∧ R (IteU K b) H) := by
  rcases c with rfl | rfl
  · exact .inl ⟨a, xs, rfl, SqL.of e, r _ (walk_enum.mono (fun _ h => SqL.of h) fun _ _ _ _ _ _ y => y)⟩
  · exact .inr ⟨a, xs, rfl, SqT.of e, r _ (walk_enumU.mono (fun _ h => SqT.of h) fun _ _ _ _ _ _ y => y)⟩
theorem zip_any {R : It → Hp → Prop} {H : Hp} (e : H a = some o) (e2 : H b = some o2) (c : (o = .lst xs ∧ o2 = .lst ys) ∨ (o = .tup xs ∧ o2 = .tup ys)) (hl : xs.length = ys.length)
    (r : ∀ J, Walk J xs.length (fun H => H a = some o ∧ H b = some o2) (YZip xs ys) → R J H) :
    ∃ a' b' zs ws, [V.ref a, V.ref b] = [.ref a', .ref b'] ∧ ((SqL K H a' zs ∧ SqL K H b' ws ∧ R (Itz K a' b') H) ∨ (SqT K H a' zs ∧ SqT K H b' ws ∧ R (RZ.ItzT K a' b') H)) := by
  refine ⟨a, b, xs, ys, rfl, ?_⟩
  rcases c with ⟨rfl, rfl⟩ | ⟨rfl, rfl⟩
  · exact .inl ⟨SqL.of e, SqL.of e2, r _ ((walk_zip (by rw [← hl, Nat.min_self])).mono (fun _ h => ⟨SqL.of h.1, SqL.of h.2⟩) fun _ _ _ _ _ _ y => y)⟩
  · exact .inr ⟨SqT.of e, SqT.of e2, r _ ((walk_zipU (by rw [← hl, Nat.min_self])).mono (fun _ h => ⟨SqT.of h.1, SqT.of h.2⟩) fun _ _ _ _ _ _ y => y)⟩
/-- an item of a list or a tuple -/
theorem ix_any {H : Hp} {i : Int} {v : V} {Q : VK} (e : H a = some o) (c : o = .lst xs ∨ o = .tup xs) (h : atI xs i = some v) (q : Q v H) : rIx K (.ref a) (.int i) H Q := by
  rcases c with rfl | rfl
  · exact .inl ⟨a, xs, i, v, rfl, rfl, SqL.of e, h, q⟩
  · exact .inr (.inl ⟨a, xs, i, v, rfl, rfl, SqT.of e, h, q⟩)
theorem sq_any {H : Hp} (e : H a = some o) (c : o = .lst xs ∨ o = .tup xs) : SqL K H a xs ∨ SqT K H a xs := by
  rcases c with rfl | rfl
  · exact .inl (SqL.of e)
  · exact .inr (SqT.of e)
end
/-- names from a list or a tuple of that length -/
def gAny (K : PySem.W.Frag) (n : Nat) (t : TGs) : TG := fun v σ H Q => gTup K n t v σ H Q ∨ gUnl K n t v σ H Q
theorem pg_any {X : Cx} {es : List Expr} {k : Nat} {pos : Pos} {t : TGs} {n : Nat} (hc : X.calm = true) (h : PGs X es t) (hn : (assignEach es X.env).length = n := by rfl) (hst : (assignEach es X.env).findIdx? (·.1) = none := by rfl) : PG X (.Tuple es k pos) (gAny X.K n t) :=
  pg_or (pg_tup hc h hn hst) (pg_unl hc h hn hst)
theorem gAny_of {K : PySem.W.Frag} {a : Addr} {xs : List V} {o : HO} {t : TGs} {σ : L2.St} {H : Hp} {Q : L2.St → Hp → Prop} (e : H a = some o) (c : o = .lst xs ∨ o = .tup xs) (q : t xs σ H Q) : gAny K xs.length t (.ref a) σ H Q := by
  rcases c with rfl | rfl
  · exact .inr ⟨a, xs, rfl, SqL.of e, rfl, q⟩
  · exact .inl ⟨a, xs, rfl, SqT.of e, rfl, q⟩
end RK

/-! ### t[::-1], t a tuple -/
namespace RK
open PySem PySem.Spec PyProof.Rows L2
theorem back_adjust (n : Nat) : Builtin.Slice.sliceAdjust none none (-1) (n : Int) = ((n : Int) - 1, -1) := by
  unfold Builtin.Slice.sliceAdjust
  simp
theorem back_places (n : Nat) : Builtin.Slice.slicePlaces ((n : Int) - 1) (-1) (-1) = n := by
  unfold Builtin.Slice.slicePlaces
  simp
  try omega
theorem fm_congr {α β : Type} {f g : α → Option β} : ∀ l : List α, (∀ k ∈ l, f k = g k) → l.filterMap f = l.filterMap g
  | [], _ => rfl
  | k :: l, h => by
    rw [List.filterMap_cons, List.filterMap_cons, h k List.mem_cons_self, fm_congr l fun j hj => h j (List.mem_cons_of_mem _ hj)]
theorem back_pick {α : Type} (xs : Array α) : ((List.range xs.size).filterMap fun (k : Nat) => xs[((xs.size : Int) - 1 + (k : Int) * (-1)).toNat]?) = xs.toList.reverse := by
  have e : ((List.range xs.size).filterMap fun (k : Nat) => xs[((xs.size : Int) - 1 + (k : Int) * (-1)).toNat]?) = ((List.range xs.size).map fun k => xs.size - 1 - k).filterMap (fun j => xs[j]?) := by
    rw [List.filterMap_map]
    refine fm_congr _ fun k hk => ?_
    have lt := List.mem_range.mp hk
    show xs[((xs.size : Int) - 1 + (k : Int) * (-1)).toNat]? = xs[xs.size - 1 - k]?
    rw [show ((xs.size : Int) - 1 + (k : Int) * (-1)).toNat = xs.size - 1 - k by omega]
  rw [e, PySem.W.krv_range, List.filterMap_reverse, PySem.W.krv_all]
section
variable {prog : Program} {w : World} {A : Around} {E : Value → Shared → Prop} {s : Shared}
theorem getItem_back {t sl : Addr} {items : Array Value} {vl vu vs : Value} {Q : Value → Shared → Prop} (ht : IsTup s.heap t items) (hs : s.heap.IsSliceOf sl vl vu vs) (pl : IsPart vl none) (pu : IsPart vu none) (ps : IsPart vs (some (-1)))
    (hz : items.size ≤ sizeLine) (h : Q (.ref s.heap.objs.size) { s with heap := s.heap.push { cls := .type "tuple", data := .seq items.toList.reverse.toArray } }) : wpAny (model prog w) A (getItem (.ref t) (.ref sl)) Q E s := by
  have ok : sizeOk (.seq items.toList.reverse.toArray) := by
    show items.toList.reverse.toArray.size ≤ sizeLine
    simpa using hz
  obtain ⟨os, hos, hcs, hds⟩ := id hs
  have ty : s.TypeIs (.ref sl) "slice" := ⟨os, hos, hcs⟩
  unfold getItem
  try with_reducible refine wpAny_holding ?_
  first | refine wpAny_bind (wpAny_pure ?_) | skip
  refine wpAny_bind (wpAny_sequenceKey ht.typeIs (by decide) ?_)
  refine wpAny_bind (wpAny_callSpecial?_slot (name := Str.ofString "__getitem__") ht.typeIs PyProof.Rows.slot_tuple_getitem (wpAny_call_entry PyProof.Rows.slot_tuple_getitem ht.typeIs entry_tuple_getitem ?_ (args_tuple_getitem _ _)))
  show wpAny _ _ (Builtin.Tuple.tupleItemsOf (.ref t) >>= _) _ _ s
  refine wpAny_bind (tupleItemsOf_ ht ?_)
  refine wpAny_bind (wpAny_typeOf ty ?_)
  rw [if_pos (by decide)]
  have part : wpAny (model prog w) A.in1 (Builtin.Slice.sliceApplied (.ref sl) (pure (items.size : Int))) (fun r s' => r = ((items.size : Int) - 1, -1, items.size) ∧ s' = s) E s := by
    unfold Builtin.Slice.sliceApplied Builtin.Slice.sliceFields
    refine wpAny_bind (wpAny_bind (wpAny_field hos hds (x := vl) rfl (wpAny_bind (wpAny_field hos hds (x := vu) rfl (wpAny_bind (wpAny_field hos hds (x := vs) rfl (wpAny_pure ?_)))))))
    refine wpAny_bind (HT.slicePart_ ps ?_)
    show wpAny _ _ (if ((-1 : Int) == 0) = true then _ else _) _ _ s
    rw [if_neg (by decide)]
    refine wpAny_bind (HT.slicePart_ pl (wpAny_bind (HT.slicePart_ pu (wpAny_bind (wpAny_pure ?_)))))
    show wpAny _ _ (match Builtin.Slice.sliceAdjust none none (-1) (items.size : Int) with | (lo, hi) => pure (lo, (-1 : Int), Builtin.Slice.slicePlaces lo hi (-1))) _ _ s
    rw [back_adjust]
    show wpAny _ _ (pure ((items.size : Int) - 1, (-1 : Int), Builtin.Slice.slicePlaces ((items.size : Int) - 1) (-1) (-1))) _ _ s
    rw [back_places]
    exact wpAny_pure ⟨rfl, rfl⟩
  refine wpAny_bind (thn part fun r s' hr => ?_)
  obtain ⟨rfl, rfl⟩ := hr
  show wpAny _ _ (if (((items.size : Int) - 1) == 0 && (-1 : Int) == 1 && items.size == items.size) = true then _ else _) _ _ s'
  rw [if_neg (by simp), back_pick]
  first
    | exact wpAny_bind (m := Builtin.Tuple.tupleExact _) (wpAny_newObj_type (wpAny_pure ⟨_, rfl, wpAny_pure h⟩) ok)
    | exact wpAny_bind (m := Builtin.Tuple.tupleExact _) (wpAny_newObj_type (wpAny_bind (wpAny_pure (wpAny_pure ⟨_, rfl, wpAny_pure h⟩))) ok)
end
def tRevT (K : PySem.W.Frag) (te : TE) : TE := fun σ H Q => te σ H fun x H1 => ∃ a xs, x = .ref a ∧ SqT K H1 a xs ∧ ∀ p, H1 p = none → Q (.ref p) (upd H1 p (.tup xs.reverse))
theorem pe_revT {X : Cx} {e : Expr} {te : TE} {k : Nat} {p1 p2 p3 pos : Pos} (he : PE X e te) : PE X (.Subscript e (.Slice none none (some (.UnaryOp .USub (.Constant (.int 1) k p1) p2)) p3) pos) (tRevT X.K te) := by
  refine ⟨fun pins s σ H Q I h => ?_⟩
  refine Subscript_ (thn (he.run pins s σ H _ I h) fun v s1 ⟨x, H1, I1, r1, q1⟩ => ?_)
  obtain ⟨a, xs, ex, hx, q⟩ := q1
  subst ex
  cases r1
  have st : PO X (some (.UnaryOp .USub (.Constant (.int 1) k p1) p2)) (tPart (tUn (rU fun i => .int (-i)) (tC (.int 1)))) := po_some (pe_un un_neg pe_int)
  refine wpAny_Slice (thn (po_none.run pins s1 σ H1 (fun o H2 => o = none ∧ H2 = H1) I1 ⟨rfl, rfl⟩) fun vl s2 ⟨l, H2, I2, pl, el, e2⟩ => ?_)
  subst el e2
  refine thn (po_none.run pins s2 σ H2 (fun o H3 => o = none ∧ H3 = H2) I2 ⟨rfl, rfl⟩) fun vu s3 ⟨u, H3, I3, pu, eu, e3⟩ => ?_
  subst eu e3
  refine thn (st.run pins s3 σ H3 (fun o H4 => o = some (-1) ∧ H4 = H3) I3 ⟨1, rfl, -1, rfl, rfl, rfl⟩) fun vs s4 ⟨o, H4, I4, ps, eo, e4⟩ => ?_
  subst eo e4
  have I5 : Inv X pins σ H4 { s4 with heap := s4.heap.push { cls := .type "slice", data := .fields #[vl, vu, vs] } } := I4.kept (t' := s4.toks) fun b ob z => Heap.get?_push_of_some _ z
  obtain ⟨its, r, ht, hz⟩ := I5.tuple hx
  have hlen := r.length
  show wpAny (model X.prog X.w) X.A (subscriptTail e (.Slice none none (some (.UnaryOp .USub (.Constant (.int 1) k p1) p2)) p3) (.ref a) (.ref s4.heap.objs.size)) (EP X pins σ Q) X.xe { s4 with heap := s4.heap.push { cls := .type "slice", data := .fields #[vl, vu, vs] } }
  refine tail_any (ops := [.ref a, .ref s4.heap.objs.size]) ht.typeIs (PyProof.Rows.slot_tuple_getitem.lookup) ?_ (by with_unfolding_all rfl)
  refine getItem_back ht (Heap.IsSliceOf.new _ vl vu vs) pl pu ps (by rw [List.size_toArray]; omega) ?_
  refine ⟨.ref _, _, I5.laid (t' := s4.toks) (o := .tup xs.reverse) (fun b ob z => Heap.get?_push_of_some _ z) (Nat.le_refl _) ?_, rfl, q _ (I5.hok.fresh (Nat.le_refl _))⟩
  exact ⟨by rw [List.length_reverse]; exact hz, its.reverse, r.reverse, IsTup.new _ _⟩
end RK

/-! ### what is walked, whichever kind it is -/
namespace RK
open PySem PySem.Spec PyProof.Rows L2
theorem pi_imp {X : Cx} {tg it : Expr} {w1 w2 : TI} (h : PI X tg it w2) (f : ∀ σ H R, w1 σ H R → w2 σ H R) : PI X tg it w1 :=
  ⟨fun pins s σ H R I z => h.run pins s σ H R I (f σ H R z)⟩
/-- an expression's reading is monotone -/
def Mon (t : TE) : Prop := ∀ σ H Q Q', (∀ x H1, Q x H1 → Q' x H1) → t σ H Q → t σ H Q'
theorem mon_var (i : Nat) : Mon (tVar i) := fun σ H Q Q' f ⟨v, e, q⟩ => ⟨v, e, f _ _ q⟩
def iSeq (i : Nat) : TI := fun σ H R => ∃ (a : Addr) (o : HO) (xs : List V), σ[i]? = some (some (.ref a)) ∧ H a = some o ∧ (o = .lst xs ∨ o = .tup xs) ∧ ∀ J, Walk J xs.length (fun H => H a = some o) (YAt xs) → R J H
theorem pi_seq {X : Cx} {tg l : Expr} {i : Nat} (h : PE X l (tVar i)) : PI X tg l (iSeq i) := by
  refine pi_imp (pi_or (pi_list h) (pi_tup h)) fun σ H R z => ?_
  obtain ⟨a, o, xs, e, ea, c, r⟩ := z
  exact (walk_any (K := X.K) ea c r).imp (fun z => ⟨_, e, z⟩) fun z => ⟨_, e, z⟩
def iEnumS (i : Nat) : TI := fun σ H R => ∃ (a : Addr) (o : HO) (xs : List V), σ[i]? = some (some (.ref a)) ∧ H a = some o ∧ (o = .lst xs ∨ o = .tup xs) ∧ ∀ J, Walk J xs.length (fun H => H a = some o) (YEnum xs) → R J H
theorem pi_enumS {X : Cx} {e : Expr} {i : Nat} {p pos tpos : Pos} {elts : List Expr} {kk : Nat} (hg : Gl X "enumerate") (hm : X.mg "enumerate" = none) (he : PE X e (tVar i)) (hs : starEach [e] X.env = [(false, eval e X.env)] := by rfl) (hs2 : starEach (e :: []) X.env = (false, eval e X.env) :: starEach [] X.env := by rfl) :
    PI X (.Tuple elts kk tpos) (.Call (.Name "enumerate" p) [e] [] pos) (iEnumS i) := by
  refine pi_imp (pi_or (pi_enum hg hm (pa_cons he pa_nil hs2) hs) (pi_enumU hg hm (pa_cons he pa_nil hs2) hs)) fun σ H R z => ?_
  obtain ⟨a, o, xs, e, ea, c, r⟩ := z
  exact (enum_any (K := X.K) ea c r).imp (fun z => ⟨_, e, z⟩) fun z => ⟨_, e, z⟩
/-- zip of two of one kind and one length -/
def iZipS (ta : TA) : TI := fun σ H R => ta σ H fun vs H1 => ∃ (a b : Addr) (o o2 : HO) (xs ys : List V), vs = [.ref a, .ref b] ∧ H1 a = some o ∧ H1 b = some o2 ∧ ((o = .lst xs ∧ o2 = .lst ys) ∨ (o = .tup xs ∧ o2 = .tup ys)) ∧ xs.length = ys.length ∧
  ∀ J, Walk J xs.length (fun H => H a = some o ∧ H b = some o2) (YZip xs ys) → R J H1
theorem pi_zipS {X : Cx} {e e2 : Expr} {ta : TA} {p pos tpos : Pos} {elts : List Expr} {kk : Nat} (hg : Gl X "zip") (hm : X.mg "zip" = none) (ha : PA X [e, e2] ta) (mon : ∀ σ H Q Q', (∀ vs H1, Q vs H1 → Q' vs H1) → ta σ H Q → ta σ H Q')
    (hs : starEach [e, e2] X.env = (false, eval e X.env) :: starEach [e2] X.env := by rfl) (hpl : (backTo pos (starEach [e2] X.env)).any (·.1) = false := by rfl) : PI X (.Tuple elts kk tpos) (.Call (.Name "zip" p) [e, e2] [] pos) (iZipS ta) := by
  refine pi_imp (RZ.pi_zipA hg hm ha hs hpl) fun σ H R z => ?_
  refine mon σ H _ _ (fun vs H1 q => ?_) z
  obtain ⟨a, b, o, o2, xs, ys, rfl, ea, eb, c, hl, r⟩ := q
  exact zip_any (K := X.K) ea eb c hl r
end RK

namespace RK
open PySem PySem.Spec PyProof.Rows L2

/-! ### orders: lists of pairs of numbers, as data, as members of sets, by sorted's order -/
abbrev Pr := Int × Int
abbrev Odr := List Pr
def prD (c : Pr) : PyData := .tuple [.int c.1, .int c.2]
def odD (o : Odr) : PyData := .tuple (o.map prD)
def prK (c : Pr) : NestedKey := .tup [.num c.1, .num c.2]
def odK (o : Odr) : NestedKey := .tup (o.map prK)
theorem prK_data (c : Pr) : NestedKey.data (prK c) = prD c := by simp [prK, prD, NestedKey.data, NestedKey.datas]
theorem odKs_data : ∀ o : Odr, NestedKey.datas (o.map prK) = o.map prD
  | [] => by simp [NestedKey.datas]
  | c :: o => by simp [NestedKey.datas, prK_data, odKs_data o]
theorem odK_data (o : Odr) : NestedKey.data (odK o) = odD o := by
  show NestedKey.data (.tup (o.map prK)) = .tuple (o.map prD)
  rw [NestedKey.data, odKs_data]
theorem odKs_dp : ∀ o : Odr, NestedKey.depthAll (o.map prK) ≤ 1
  | [] => by simp [NestedKey.depthAll]
  | c :: o => by
    have := odKs_dp o
    simp only [List.map_cons, NestedKey.depthAll, prK, NestedKey.depth]
    omega
theorem odK_dp (o : Odr) : (odK o).depth ≤ 8 := by
  have := odKs_dp o
  show NestedKey.depth (.tup (o.map prK)) ≤ 8
  rw [NestedKey.depth]
  omega
theorem odKs_nm : ∀ o : Odr, numKs (o.map prK) = true
  | [] => by simp [numKs]
  | c :: o => by simp [numKs, prK, numK, odKs_nm o]
theorem odK_nm (o : Odr) : numK (odK o) = true := by
  show numK (.tup (o.map prK)) = true
  rw [numK]
  exact odKs_nm o
theorem odKs_inj : ∀ {o o' : Odr}, o.map prK = o'.map prK → o = o'
  | [], [], _ => rfl
  | [], _ :: _, e => nomatch e
  | _ :: _, [], e => nomatch e
  | c :: o, c' :: o', e => by
    rw [List.map_cons, List.map_cons] at e
    have e1 := (List.cons.inj e).1
    have e2 := odKs_inj (List.cons.inj e).2
    unfold prK at e1
    injection e1 with e1
    injection e1 with x1 e1
    injection x1 with x1
    injection e1 with y1 _
    injection y1 with y1
    rw [e2, Prod.ext x1 y1]
theorem odK_inj {o o' : Odr} (e : odK o = odK o') : o = o' := by
  unfold odK at e
  injection e with e
  exact odKs_inj e
/-- sorted's order -/
abbrev leO : Odr → Odr → Bool := PySem.W.dataLe false odD
theorem toks_pr (c : Pr) : PySem.W.keyToks (prD c) = [.inl 1, .inl c.1, .inl 1, .inl c.2, .inl 0] := by
  simp [prD, PySem.W.keyToks, PySem.W.keyToksAll]
theorem toks_inj : ∀ {o o' : Odr}, PySem.W.keyToksAll (o.map prD) = PySem.W.keyToksAll (o'.map prD) → o = o'
  | [], [], _ => rfl
  | [], _ :: _, e => by
    simp only [List.map_nil, List.map_cons, PySem.W.keyToksAll] at e
    exact absurd (Sum.inl.inj (List.cons.inj e).1) (by decide)
  | _ :: _, [], e => by
    simp only [List.map_nil, List.map_cons, PySem.W.keyToksAll] at e
    exact absurd (Sum.inl.inj (List.cons.inj e).1) (by decide)
  | c :: o, c' :: o', e => by
    simp only [List.map_cons, PySem.W.keyToksAll, toks_pr, List.cons_append, List.nil_append, List.cons.injEq, Sum.inl.injEq, true_and] at e
    obtain ⟨e1, e2, e3⟩ := e
    rw [toks_inj e3, Prod.ext e1 e2]
theorem odD_toks {o o' : Odr} (e : PySem.W.keyToks (odD o) = PySem.W.keyToks (odD o')) : o = o' := by
  simp only [odD, PySem.W.keyToks] at e
  exact toks_inj e
theorem leO_anti {o o' : Odr} (h1 : leO o o' = true) (h2 : leO o' o = true) : o = o' := by
  have a1 : (!(PyProof.Rows.listOrd PyProof.Rows.itemOrd).blt (PySem.W.keyToks (odD o')) (PySem.W.keyToks (odD o))) = true := h1
  have a2 : (!(PyProof.Rows.listOrd PyProof.Rows.itemOrd).blt (PySem.W.keyToks (odD o)) (PySem.W.keyToks (odD o'))) = true := h2
  rw [Bool.not_eq_true'] at a1 a2
  exact odD_toks ((PyProof.Rows.listOrd PyProof.Rows.itemOrd).total _ _ a2 a1)
/-- S is what sorted(set(..)) makes of things with the members of F -/
structure Canon (F S : List Odr) : Prop where
  nd : S.Nodup
  ord : S.Pairwise (fun a b => leO a b = true)
  mem : ∀ o, o ∈ S ↔ o ∈ F
theorem Canon.one {F F' S S' : List Odr} (a : Canon F S) (b : Canon F' S') (e : ∀ o, o ∈ F ↔ o ∈ F') : S = S' := by
  refine List.Perm.eq_of_pairwise (le := fun a b => leO a b = true) (fun _ _ _ _ h1 h2 => leO_anti h1 h2) a.ord b.ord ?_
  exact (List.perm_ext_iff_of_nodup a.nd b.nd).mpr fun o => (a.mem o).trans ((e o).trans (b.mem o).symm)
theorem alike_pr (c c' : Pr) : PySem.W.alike (prD c) (prD c') = true := by simp [prD, PySem.W.alike, PySem.W.alikeAll]
theorem alike_ods : ∀ o o' : Odr, PySem.W.alikeAll (o.map prD) (o'.map prD) = true
  | [], _ => by simp [PySem.W.alikeAll]
  | _ :: _, [] => by simp [PySem.W.alikeAll]
  | c :: o, c' :: o' => by simp [PySem.W.alikeAll, alike_pr, alike_ods o o']
theorem alike_od (o o' : Odr) : PySem.W.alike (odD o) (odD o') = true := by
  show PySem.W.alike (.tuple (o.map prD)) (.tuple (o'.map prD)) = true
  rw [PySem.W.alike]
  exact alike_ods o o'
theorem depth_ods : ∀ o : Odr, PyData.depthAll (o.map prD) ≤ 1
  | [] => by simp [PyData.depthAll]
  | c :: o => by
    have := depth_ods o
    simp only [List.map_cons, PyData.depthAll, prD, PyData.depth]
    omega
theorem depth_od (o : Odr) : (odD o).depth ≤ 2 := by
  have := depth_ods o
  show PyData.depth (.tuple (o.map prD)) ≤ 2
  rw [PyData.depth]
  omega

section
variable {X : Cx} {pins : List (Addr × Obj)} {σ : L2.St} {H : Hp} {s : Shared}
theorem pr_is (I : Inv X pins σ H s) {x : V} {u : Value} {c : Pr} (h : TT H x (prD c)) (r : RelV x u) : NestedIs s.heap (prK c) u := by
  obtain ⟨a, xs, rfl, e, t⟩ := TT.tup h
  cases r
  obtain ⟨its, rv, ⟨o, ho, hc, n, hd⟩, _⟩ := I.tuple (SqT.of e)
  cases t with
  | cons h1 t =>
    cases t with
    | cons h2 t =>
      cases t
      obtain rfl := TT.int' h1
      obtain rfl := TT.int' h2
      cases rv with
      | cons r1 rv =>
        cases rv with
        | cons r2 rv =>
          cases rv
          obtain ⟨t1, rfl⟩ := r1
          obtain ⟨t2, rfl⟩ := r2
          exact .tup ho hc hd (.cons (.int _ _) (.cons (.int _ _) .nil))
theorem ods_is (I : Inv X pins σ H s) : ∀ {xs : List V} {its : List Value} {o : Odr}, TTs H xs (o.map prD) → Vals xs its → NestedAll s.heap (o.map prK) its
  | _, _, [], .nil, .nil => .nil
  | _, _, _ :: _, .cons h t, .cons r rv => .cons (pr_is I h r) (ods_is I t rv)
theorem key_of (I : Inv X pins σ H s) {a : Addr} {o : Odr} (h : TT H (.ref a) (odD o)) : KeyAt s.heap (odK o) a := by
  obtain ⟨b, xs, eb, e, t⟩ := TT.tup h
  cases eb
  obtain ⟨its, rv, ⟨ob, ho, hc, n, hd⟩, _⟩ := I.tuple (SqT.of e)
  exact ⟨.tup ho hc hd (by simpa using ods_is I t rv), odK_dp o, odK_nm o⟩
end

/-! ### set(xs), sorted(set) as rules -/
abbrev kp (p : Addr × Odr) : Addr × NestedKey := (p.1, odK p.2)
abbrev rp (p : Addr × Odr) : V := .ref p.1
def SetK0 (w : World) (h : Heap) (a : Addr) (Lo : List (Addr × Odr)) : Prop := ∃ es ep t, TabSet w h a (Lo.map kp) es ep t
def SetKO (w : World) (a : Addr) (Lo : List (Addr × Odr)) : HO := .ext fun h => SetK0 w h a Lo
theorem setKO_ok {P : Program} {w : World} {H : Hp} {h : Heap} {a : Addr} {Lo : List (Addr × Odr)} (R : SetK0 w h a Lo) : ObjOk P w H h a (SetKO w a Lo) := by
  refine ⟨R, ?_, fun h1 h2 p k => ?_⟩
  · obtain ⟨es, ep, t, T⟩ := R
    obtain ⟨o, ho, _⟩ := T.obj
    exact ⟨o, ho⟩
  · obtain ⟨es, ep, t, T⟩ := (show SetK0 w h1 a Lo from p)
    exact ⟨es, ep, t, T.moved k⟩
theorem vals_rp : ∀ {ps : List (Addr × Odr)} {us : List Value}, Vals (ps.map rp) us → us = ps.map fun p => Value.ref p.1
  | [], _, .nil => rfl
  | p :: ps, _, .cons r t => by
    cases r
    rw [vals_rp t]
    rfl
theorem rp_vals : ∀ ps : List (Addr × Odr), Vals (ps.map rp) (ps.map fun p => Value.ref p.1)
  | [] => .nil
  | _ :: ps => .cons rfl (rp_vals ps)
theorem lift_kp {ps : List (Addr × Odr)} : ∀ L : List (Addr × NestedKey), (∀ p ∈ L, p ∈ ps.map kp) → ∃ Lo : List (Addr × Odr), L = Lo.map kp ∧ ∀ p ∈ Lo, p ∈ ps
  | [], _ => ⟨[], rfl, fun _ h => nomatch h⟩
  | p :: L, h => by
    obtain ⟨Lo, e, m⟩ := lift_kp L fun q hq => h q (List.mem_cons_of_mem _ hq)
    obtain ⟨q, hq, eq⟩ := List.mem_map.mp (h p List.mem_cons_self)
    refine ⟨q :: Lo, by rw [List.map_cons, e, eq], fun r hr => ?_⟩
    rcases List.mem_cons.mp hr with z | z
    · rw [z]
      exact hq
    · exact m r z
section
variable {X : Cx}
def rSetK (w : World) : List V → Hp → VK → Prop := fun xs H Q => ∃ (l : Addr) (ps : List (Addr × Odr)), xs = [V.ref l] ∧ H l = some (.lst (ps.map rp)) ∧ (∀ p ∈ ps, TT H (.ref p.1) (odD p.2)) ∧ ps.length < 64 ∧
  ∀ (a : Addr) (Lo : List (Addr × Odr)), H a = none → (∀ p ∈ Lo, p ∈ ps) → (Lo.map (·.2)).Nodup → (∀ p ∈ ps, p.2 ∈ Lo.map (·.2)) → Q (.ref a) (upd H a (SetKO w a Lo))
theorem cr_setK (hc : X.calm = true) (hu : X.A.units + 64 < cLine) : CallR X (.type "set") (rSetK X.w) := by
  intro pins s σ H xs us Q I r h
  obtain ⟨l, ps, rfl, hl, hk, few, q⟩ := h
  obtain rfl := Vals.ref1 r
  obtain ⟨its, rv, pl, hz⟩ := I.list (SqL.of hl)
  have nw : H s.heap.objs.size = none := I.hok.fresh (Nat.le_refl _)
  refine call_set_keys (ps.map kp) (I.ok.hd hc) pl.isList (by rw [List.map_map]; exact vals_rp rv) (fun p hp => ?_) (by rw [List.length_map]; exact few) (by omega) fun s2 m => ?_
  · obtain ⟨p0, hp0, rfl⟩ := List.mem_map.mp hp
    exact key_of I (hk p0 hp0)
  · obtain ⟨h2, tk, L, es, ep, t, rfl, T, g, f⟩ := m
    obtain ⟨Lo, rfl, sub⟩ := lift_kp L fun p hp => List.mem_of_mem_take (g.sub p hp)
    refine ⟨.ref s.heap.objs.size, upd H s.heap.objs.size (SetKO X.w s.heap.objs.size Lo), I.laid (t' := tk) f (Nat.le_refl _) (setKO_ok ⟨es, ep, t, T⟩), rfl, q _ Lo nw sub ?_ fun p hp => ?_⟩
    · have d := T.dis
      rw [List.map_map] at d
      have d2 : (Lo.map fun p => odK p.2).Nodup := d
      have e2 : (Lo.map fun p => odK p.2) = (Lo.map (·.2)).map odK := by rw [List.map_map]; rfl
      rw [e2] at d2
      exact List.Pairwise.of_map odK (fun _ _ ne e => ne (congrArg odK e)) d2
    · have z := g.all (kp p) (by rw [List.take_length]; exact List.mem_map.mpr ⟨p, hp, rfl⟩)
      rw [List.map_map] at z
      obtain ⟨r, hr, er⟩ := List.mem_map.mp z
      exact List.mem_map.mpr ⟨r, hr, odK_inj er⟩
def rSortK (w : World) : List V → Hp → VK → Prop := fun xs H Q => ∃ (a : Addr) (Lo : List (Addr × Odr)), xs = [V.ref a] ∧ H a = some (SetKO w a Lo) ∧ (∀ p ∈ Lo, TT H (.ref p.1) (odD p.2) ∧ p.2 ≠ []) ∧
  ∀ (r : Addr) (S : List (Addr × Odr)), S.Perm Lo → S.Pairwise (fun p q => leO p.2 q.2 = true) → H r = none → Q (.ref r) (upd H r (.lst (S.map rp)))
theorem cr_sortK (hc : X.calm = true) (hu : X.A.units + 64 < cLine) : CallR X (.builtin "sorted") (rSortK X.w) := by
  intro pins s σ H xs us Q I r h
  obtain ⟨a, Lo, rfl, ha, hk, q⟩ := h
  obtain rfl := Vals.ref1 r
  obtain ⟨es, ep, t, T⟩ : SetK0 X.w s.heap a Lo := (I.hok a _ ha).1
  have each : ∀ {Z : Addr × NestedKey → Prop}, (∀ p ∈ Lo, Z (kp p)) → ∀ p ∈ Lo.map kp, Z p := fun hz p hp => by
    obtain ⟨p0, hp0, rfl⟩ := List.mem_map.mp hp
    exact hz p0 hp0
  refine sorted_keys T (I.ok.hd hc) (each fun p hp => ?_) (each fun p _ => each fun p' _ => ?_) (each fun p hp => ?_) (each fun p _ => ?_) fun s2 b out c L1 f g1 o1 hb hg pm eo => ?_
  · show ∃ as, Reads s.heap (.ref p.1) (NestedKey.data (odK p.2)) as
    rw [odK_data]
    exact Dp.reads I _ _ _ (DX.dp (TT.dd (hk p hp).1)) rfl
  · show PySem.W.alike (NestedKey.data (odK p.2)) (NestedKey.data (odK p'.2)) = true
    rw [odK_data, odK_data]
    exact alike_od _ _
  · show ∃ x r, NestedKey.data (odK p.2) = .tuple (x :: r)
    rw [odK_data]
    obtain ⟨c, o, e⟩ := List.exists_cons_of_ne_nil (hk p hp).2
    exact ⟨prD c, o.map prD, by rw [e]; rfl⟩
  · show X.A.units + 8 + (NestedKey.data (odK p.2)).depth < cLine
    rw [odK_data]
    have := depth_od p.2
    omega
  · obtain ⟨S, eS, pS⟩ := perm_lift kp ((List.mergeSort_perm L1 leK).trans pm) Lo rfl
    have pw : S.Pairwise (fun p q => leO p.2 q.2 = true) := by
      have z : (L1.mergeSort leK).Pairwise (fun p q => leK p q = true) := PySem.W.sort_pairwise (PySem.W.sortLe_total _ _ _) L1
      rw [eS, List.pairwise_map] at z
      refine z.imp fun {p p'} h => ?_
      have e : leK (kp p) (kp p') = leO p.2 p'.2 := by
        show PySem.W.dataLe false (fun p => NestedKey.data p.2) (kp p) (kp p') = PySem.W.dataLe false odD p.2 p'.2
        rw [PySem.W.dataLe_eq, PySem.W.dataLe_eq]
        show (!PySem.W.dataLt (NestedKey.data (odK p'.2)) (NestedKey.data (odK p.2))) = (!PySem.W.dataLt (odD p'.2) (odD p.2))
        rw [odK_data, odK_data]
      rw [← e]
      exact h
    have en : out.toList = S.map fun p => Value.ref p.1 := by
      rw [eo, eS, List.map_map]
      rfl
    have nb : H b = none := I.hok.fresh hb
    have len : S.length ≤ sizeLine := by
      have z := T.few
      rw [List.length_map] at z
      rw [pS.length_eq, sizeLine_eq]
      omega
    have J : Inv X pins σ (upd H b (.lst (S.map rp))) { s with heap := s2.heap, gens := s2.gens, drawn := s2.drawn, toks := s2.toks } :=
      I.call (ch := []) (Un.laid f hb nb) (I.hok.laid f hb ⟨by rw [List.length_map]; exact len, out.toList, c, by rw [en]; exact rp_vals S, hg⟩) (by rw [g1]; exact I.bare) (fun _ z => nomatch z)
    have e2 : s2 = { s with heap := s2.heap, gens := s2.gens, drawn := s2.drawn, toks := s2.toks } := by
      cases s2
      cases s
      cases o1
      rfl
    rw [e2]
    exact ⟨.ref b, _, J, rfl, q b S pS pw nb⟩
end
end RK

namespace RK
open PySem PySem.Spec PyProof.Rows L2

/-! ### a MAKE, its data -/
abbrev Tr := Int × Int × Int
structure Mk where
  kinds : List Tr
  lag : Int
  rest : List Int
def trD (k : Tr) : PyData := .tuple [.int k.1, .int k.2.1, .int k.2.2]
def trsD (l : List Tr) : PyData := .tuple (l.map trD)
def mkD (m : Mk) : PyData := .tuple (trsD m.kinds :: .int m.lag :: m.rest.map .int)
def Mk.at_ (m : Mk) (k : Int) : Tr := m.kinds.getD k.toNat (0, 0, 0)
def Mk.mark (m : Mk) (k : Int) : Int := (m.at_ k).1
def Mk.melt (m : Mk) (k : Int) : Int := (m.at_ k).2.2
/-- the kinds that the courses name are there -/
def Named (m : Mk) (ks : List Int) : Prop := ∀ k ∈ ks, 0 ≤ k ∧ k < m.kinds.length
structure MkOk (m : Mk) : Prop where
  lag : 0 ≤ m.lag ∧ m.lag ≤ 10
  kd : ∀ k ∈ m.kinds, 1 ≤ k.1 ∧ k.1 ≤ k.2.2 ∧ k.2.2 ≤ 50
theorem Mk.atMem {m : Mk} {k : Int} (h : 0 ≤ k ∧ k < m.kinds.length) : m.kinds[k.toNat]? = some (m.at_ k) := by
  have lt : k.toNat < m.kinds.length := by omega
  unfold Mk.at_
  rw [List.getD_eq_getElem?_getD, List.getElem?_eq_getElem lt]
  rfl
theorem MkOk.of {m : Mk} (ok : MkOk m) {k : Int} (h : 0 ≤ k ∧ k < m.kinds.length) : 1 ≤ m.mark k ∧ m.mark k ≤ m.melt k ∧ m.melt k ≤ 50 := ok.kd _ (List.mem_of_getElem? (Mk.atMem h))

/-! ### the greatest, the least -/
def lmax : List Int → Int
  | [] => 0
  | [x] => x
  | x :: y :: r => max x (lmax (y :: r))
def lmin : List Int → Int
  | [] => 0
  | [x] => x
  | x :: y :: r => min x (lmin (y :: r))
theorem lmax_ok : ∀ l : List Int, l ≠ [] → lmax l ∈ l ∧ ∀ y ∈ l, y ≤ lmax l
  | [], h => absurd rfl h
  | [x], _ => ⟨List.mem_cons_self, fun y hy => by rw [List.mem_singleton.mp hy]; exact Int.le_refl _⟩
  | x :: y :: r, _ => by
    obtain ⟨h1, h2⟩ := lmax_ok (y :: r) (List.cons_ne_nil _ _)
    have e : lmax (x :: y :: r) = max x (lmax (y :: r)) := rfl
    rw [e]
    refine ⟨?_, fun z hz => ?_⟩
    · rcases Int.le_total x (lmax (y :: r)) with c | c
      · rw [Int.max_eq_right c]
        exact List.mem_cons_of_mem _ h1
      · rw [Int.max_eq_left c]
        exact List.mem_cons_self
    · rcases List.mem_cons.mp hz with q | q
      · rw [q]
        exact Int.le_max_left _ _
      · exact Int.le_trans (h2 z q) (Int.le_max_right _ _)
theorem lmin_ok : ∀ l : List Int, l ≠ [] → lmin l ∈ l ∧ ∀ y ∈ l, lmin l ≤ y
  | [], h => absurd rfl h
  | [x], _ => ⟨List.mem_cons_self, fun y hy => by rw [List.mem_singleton.mp hy]; exact Int.le_refl _⟩
  | x :: y :: r, _ => by
    obtain ⟨h1, h2⟩ := lmin_ok (y :: r) (List.cons_ne_nil _ _)
    have e : lmin (x :: y :: r) = min x (lmin (y :: r)) := rfl
    rw [e]
    refine ⟨?_, fun z hz => ?_⟩
    · rcases Int.le_total x (lmin (y :: r)) with c | c
      · rw [Int.min_eq_left c]
        exact List.mem_cons_self
      · rw [Int.min_eq_right c]
        exact List.mem_cons_of_mem _ h1
    · rcases List.mem_cons.mp hz with q | q
      · rw [q]
        exact Int.min_le_left _ _
      · exact Int.le_trans (Int.min_le_right _ _) (h2 z q)
theorem lmax_one {l : List Int} {m : Int} (h1 : m ∈ l) (h2 : ∀ y ∈ l, y ≤ m) : m = lmax l := by
  obtain ⟨a, b⟩ := lmax_ok l (List.ne_nil_of_mem h1)
  have := b m h1
  have := h2 _ a
  omega
theorem lmin_one {l : List Int} {m : Int} (h1 : m ∈ l) (h2 : ∀ y ∈ l, m ≤ y) : m = lmin l := by
  obtain ⟨a, b⟩ := lmin_ok l (List.ne_nil_of_mem h1)
  have := b m h1
  have := h2 _ a
  omega

/-! ### firing heats -/
def los (m : Mk) (g : Odr) : List Int := g.mapIdx fun i c => m.mark c.1 + (i : Int) * m.lag
def his (m : Mk) (g : Odr) : List Int := g.mapIdx fun i c => m.melt c.1 + (i : Int) * m.lag
def fire (m : Mk) (g : Odr) : Option Pr := if lmax (los m g) ≤ lmin (his m g) then some (lmax (los m g), lmin (his m g)) else none
def fireD : Option Pr → PyData
  | none => .none
  | some c => prD c
/-- each course fires at h, none melts -/
def Burns (m : Mk) (g : Odr) (h : Int) : Prop := ∀ (i : Nat) (c : Pr), g[i]? = some c → m.mark c.1 + (i : Int) * m.lag ≤ h ∧ h ≤ m.melt c.1 + (i : Int) * m.lag
theorem mem_mapIdx' {α β : Type} {f : Nat → α → β} {l : List α} {y : β} : y ∈ l.mapIdx f ↔ ∃ i c, l[i]? = some c ∧ f i c = y := by
  rw [List.mem_iff_getElem?]
  constructor
  · rintro ⟨i, e⟩
    rw [List.getElem?_mapIdx] at e
    obtain ⟨c, h1, h2⟩ := Option.map_eq_some_iff.mp e
    exact ⟨i, c, h1, h2⟩
  · rintro ⟨i, c, h1, h2⟩
    exact ⟨i, by rw [List.getElem?_mapIdx, h1]; exact congrArg some h2⟩
theorem los_ne {m : Mk} {g : Odr} (hg : g ≠ []) : los m g ≠ [] := fun e => hg (by
  have z := congrArg List.length e
  unfold los at z
  rw [List.length_mapIdx] at z
  exact List.length_eq_zero_iff.mp z)
theorem his_ne {m : Mk} {g : Odr} (hg : g ≠ []) : his m g ≠ [] := fun e => hg (by
  have z := congrArg List.length e
  unfold his at z
  rw [List.length_mapIdx] at z
  exact List.length_eq_zero_iff.mp z)
theorem burns_iff {m : Mk} {g : Odr} (hg : g ≠ []) (h : Int) : Burns m g h ↔ lmax (los m g) ≤ h ∧ h ≤ lmin (his m g) := by
  obtain ⟨a1, a2⟩ := lmax_ok _ (los_ne (m := m) hg)
  obtain ⟨b1, b2⟩ := lmin_ok _ (his_ne (m := m) hg)
  constructor
  · intro x
    obtain ⟨i, c, e1, e2⟩ := mem_mapIdx'.mp a1
    obtain ⟨j, d, f1, f2⟩ := mem_mapIdx'.mp b1
    have := (x i c e1).1
    have := (x j d f1).2
    omega
  · intro x i c e
    have := a2 _ (mem_mapIdx'.mpr ⟨i, c, e, rfl⟩)
    have := b2 _ (mem_mapIdx'.mpr ⟨i, c, e, rfl⟩)
    omega
theorem fire_none {m : Mk} {g : Odr} (hg : g ≠ []) (e : fire m g = none) (h : Int) : ¬ Burns m g h := by
  rw [burns_iff hg]
  unfold fire at e
  split at e
  · cases e
  · omega
theorem fire_some {m : Mk} {g : Odr} (hg : g ≠ []) {c : Pr} (e : fire m g = some c) (h : Int) : Burns m g h ↔ c.1 ≤ h ∧ h ≤ c.2 := by
  rw [burns_iff hg]
  unfold fire at e
  split at e
  · rw [← Option.some.inj e]
  · cases e
theorem fire_le {m : Mk} {g : Odr} {c : Pr} (e : fire m g = some c) : c.1 ≤ c.2 := by
  unfold fire at e
  split at e
  · rename_i q
    rw [← Option.some.inj e]
    exact q
  · cases e
theorem lag_le {m : Mk} (ok : MkOk m) {i : Nat} (h : i ≤ 3) : 0 ≤ (i : Int) * m.lag ∧ (i : Int) * m.lag ≤ 30 := by
  have h1 := ok.lag.1
  have h2 := ok.lag.2
  have e : i = 0 ∨ i = 1 ∨ i = 2 ∨ i = 3 := by omega
  rcases e with e | e | e | e <;> subst e <;> simp <;> omega
theorem fire_bounds {m : Mk} {g : Odr} (ok : MkOk m) (nm : Named m (g.map (·.1))) (hg : g ≠ []) (h4 : g.length ≤ 4) {c : Pr} (e : fire m g = some c) : 1 ≤ c.1 ∧ c.2 ≤ 80 := by
  have le := fire_le e
  have b := (fire_some hg e c.1).mpr ⟨Int.le_refl _, le⟩
  have b2 := (fire_some hg e c.2).mpr ⟨le, Int.le_refl _⟩
  obtain ⟨d, r, ed⟩ := List.exists_cons_of_ne_nil hg
  have at0 : g[0]? = some d := by rw [ed]; rfl
  have in0 : d.1 ∈ g.map (·.1) := List.mem_map.mpr ⟨d, List.mem_of_getElem? at0, rfl⟩
  have k0 := ok.of (nm _ in0)
  have l0 := lag_le ok (i := 0) (by omega)
  have z1 := (b 0 d at0).1
  have z2 := (b2 0 d at0).2
  omega

/-! ### found by all heats -/
theorem filter_run (a b : Nat) (hab : a ≤ b) : ∀ n, ((List.range n).filter fun x => decide (a ≤ x) && decide (x < b)) = List.range' a (min b n - a)
  | 0 => by simp
  | n + 1 => by
    rw [List.range_succ, List.filter_append, filter_run a b hab n, List.filter_cons, List.filter_nil]
    by_cases h1 : n < b
    · by_cases h2 : a ≤ n
      · have e : min b (n + 1) - a = (min b n - a) + 1 := by omega
        have e2 : a + (min b n - a) = n := by omega
        rw [e, List.range'_concat, Nat.one_mul, e2]
        simp [h1, h2]
      · have e : min b (n + 1) - a = 0 := by omega
        have e2 : min b n - a = 0 := by omega
        rw [e, e2]
        simp [h2]
    · have e : min b (n + 1) = min b n := by omega
      rw [e]
      simp [h1]
/-- the numbers from lo on, n of them -/
def runI (lo : Int) (n : Nat) : List Int := (List.range n).map fun i => lo + (i : Nat)
theorem filter_heats {lo hi : Int} (h0 : 0 ≤ lo) (h1 : lo ≤ hi) (h2 : hi ≤ 109) (p : Nat → Bool) (hp : ∀ n, n < 110 → (p n = true ↔ lo ≤ (n : Int) ∧ (n : Int) ≤ hi)) :
    ((List.range 110).filter p).map (fun n : Nat => (n : Int)) = runI lo (hi + 1 - lo).toNat := by
  have e1 : (List.range 110).filter p = (List.range 110).filter fun x => decide (lo.toNat ≤ x) && decide (x < hi.toNat + 1) := by
    refine List.filter_congr fun n hn => ?_
    have lt := List.mem_range.mp hn
    rw [Bool.eq_iff_iff, hp n lt, Bool.and_eq_true, decide_eq_true_eq, decide_eq_true_eq]
    omega
  rw [e1, filter_run _ _ (by omega), runI]
  have e2 : min (hi.toNat + 1) 110 - lo.toNat = (hi + 1 - lo).toNat := by omega
  rw [e2, List.range'_eq_map_range, List.map_map]
  refine List.map_congr_left fun i _ => ?_
  show ((lo.toNat + i : Nat) : Int) = lo + (i : Nat)
  omega
theorem filter_no (p : Nat → Bool) (hp : ∀ n, n < 110 → ¬ p n = true) : (List.range 110).filter p = [] := by
  rw [List.filter_eq_nil_iff]
  exact fun n hn => hp n (List.mem_range.mp hn)

/-! ### all orders, in the two ways -/
def insAll {α : Type} (x : α) (l : List α) : List (List α) := (List.range (l.length + 1)).map fun p => l.take p ++ x :: l.drop p
def ordersOf {α : Type} (row : List α) : List (List α) := row.foldl (fun found own => found.flatMap (insAll own)) [[]]
theorem mem_insAll {α : Type} {x : α} {l o : List α} : o ∈ insAll x l ↔ ∃ s t, l = s ++ t ∧ o = s ++ x :: t := by
  unfold insAll
  rw [List.mem_map]
  constructor
  · rintro ⟨p, _, rfl⟩
    exact ⟨l.take p, l.drop p, (List.take_append_drop p l).symm, rfl⟩
  · rintro ⟨s, t, rfl, rfl⟩
    refine ⟨s.length, List.mem_range.mpr (by rw [List.length_append]; omega), ?_⟩
    rw [List.take_left, List.drop_left]
theorem mem_ordersOf {α : Type} {o : List α} : ∀ n (row : List α), row.length = n → (o ∈ ordersOf row ↔ o.Perm row) := by
  intro n
  induction n generalizing o with
  | zero =>
    intro row h
    rw [List.length_eq_zero_iff.mp h]
    show o ∈ [[]] ↔ _
    rw [List.mem_singleton, List.perm_nil]
  | succ n ih =>
    intro row h
    have ne : row ≠ [] := fun e => by rw [e] at h; cases h
    have e := (List.dropLast_concat_getLast ne).symm
    generalize hx : row.getLast ne = x at e
    generalize hr : row.dropLast = r at e
    have lr : r.length = n := by rw [← hr, List.length_dropLast]; omega
    subst e
    unfold ordersOf
    rw [List.foldl_append]
    show o ∈ (ordersOf r).flatMap (insAll x) ↔ _
    rw [List.mem_flatMap]
    constructor
    · rintro ⟨l, hl, ho⟩
      obtain ⟨s, t, rfl, rfl⟩ := mem_insAll.mp ho
      have p := (ih r lr).mp hl
      exact List.perm_middle.trans ((p.cons x).trans (List.perm_append_singleton x r).symm)
    · intro p
      have hx : x ∈ o := p.mem_iff.mpr (List.mem_append_right _ List.mem_cons_self)
      obtain ⟨s, t, rfl⟩ := List.append_of_mem hx
      have p2 : (x :: (s ++ t)).Perm (x :: r) := List.perm_middle.symm.trans (p.trans (List.perm_append_singleton x r))
      exact ⟨s ++ t, (ih r lr).mpr p2.cons_inv, mem_insAll.mpr ⟨s, t, rfl, rfl⟩⟩
def facto : Nat → Nat
  | 0 => 1
  | n + 1 => facto n * (n + 1)
theorem len_flat {α β : Type} (f : α → List β) (k : Nat) : ∀ l : List α, (∀ x ∈ l, (f x).length = k) → (l.flatMap f).length = l.length * k
  | [], _ => by simp
  | x :: l, h => by
    rw [List.flatMap_cons, List.length_append, h x List.mem_cons_self, len_flat f k l fun y hy => h y (List.mem_cons_of_mem _ hy), List.length_cons, Nat.add_mul, Nat.one_mul, Nat.add_comm]
theorem len_ordersOf {α : Type} : ∀ n (row : List α), row.length = n → (ordersOf row).length = facto n := by
  intro n
  induction n with
  | zero =>
    intro row h
    rw [List.length_eq_zero_iff.mp h]
    rfl
  | succ n ih =>
    intro row h
    have ne : row ≠ [] := fun e => by rw [e] at h; cases h
    have e := (List.dropLast_concat_getLast ne).symm
    generalize row.getLast ne = x at e
    generalize hr : row.dropLast = r at e
    have lr : r.length = n := by rw [← hr, List.length_dropLast]; omega
    subst e
    unfold ordersOf
    rw [List.foldl_append]
    show ((ordersOf r).flatMap (insAll x)).length = _
    rw [len_flat _ (n + 1) _ fun l hl => ?_, ih r lr]
    · rfl
    · unfold insAll
      rw [List.length_map, List.length_range, ((mem_ordersOf n r lr).mp hl).length_eq, lr]
theorem erase_perm {α : Type} {l : List α} {k : Nat} (h : k < l.length) : (l[k] :: l.eraseIdx k).Perm l := by
  have e : l = l.take k ++ l[k] :: l.drop (k + 1) := by
    rw [← List.drop_eq_getElem_cons h, List.take_append_drop]
  rw [List.eraseIdx_eq_take_drop_succ]
  have p : (l[k] :: (l.take k ++ l.drop (k + 1))).Perm (l.take k ++ l[k] :: l.drop (k + 1)) := List.perm_middle.symm
  rw [← e] at p
  exact p
def allO {α : Type} : Nat → List α → List (List α)
  | 0, _ => [[]]
  | n + 1, row => (List.range row.length).flatMap fun k => match row[k]? with
    | some x => (allO n (row.eraseIdx k)).map (x :: ·)
    | none => []
theorem mem_allO {α : Type} {o : List α} : ∀ n (row : List α), row.length = n → (o ∈ allO n row ↔ o.Perm row) := by
  intro n
  induction n generalizing o with
  | zero =>
    intro row h
    rw [List.length_eq_zero_iff.mp h]
    show o ∈ [[]] ↔ _
    rw [List.mem_singleton, List.perm_nil]
  | succ n ih =>
    intro row h
    rw [allO, List.mem_flatMap]
    constructor
    · rintro ⟨k, hk, ho⟩
      have lt := List.mem_range.mp hk
      rw [List.getElem?_eq_getElem lt] at ho
      obtain ⟨l, hl, rfl⟩ := List.mem_map.mp ho
      have p := (ih (row.eraseIdx k) (by rw [List.length_eraseIdx_of_lt lt]; omega)).mp hl
      refine (p.cons _).trans ?_
      have e := erase_perm (l := row) lt
      exact e
    · intro p
      cases o with
      | nil =>
        have z := p.length_eq
        rw [h] at z
        cases z
      | cons x o =>
        have hx : x ∈ row := p.mem_iff.mp List.mem_cons_self
        obtain ⟨k, lt, e⟩ := List.getElem_of_mem hx
        refine ⟨k, List.mem_range.mpr lt, ?_⟩
        rw [List.getElem?_eq_getElem lt, e]
        refine List.mem_map.mpr ⟨o, (ih _ (by rw [List.length_eraseIdx_of_lt lt]; omega)).mpr ?_, rfl⟩
        have q := erase_perm (l := row) lt
        rw [e] at q
        exact (p.trans q.symm).cons_inv
theorem len_allO {α : Type} : ∀ n (row : List α), row.length = n → (allO n row).length = facto n := by
  intro n
  induction n with
  | zero =>
    intro row _
    rfl
  | succ n ih =>
    intro row h
    rw [allO, len_flat _ (facto n) _ fun k hk => ?_, List.length_range, h]
    · exact Nat.mul_comm _ _
    · have lt := List.mem_range.mp hk
      rw [List.getElem?_eq_getElem lt]
      show ((allO n (row.eraseIdx k)).map _).length = _
      rw [List.length_map, ih _ (by rw [List.length_eraseIdx_of_lt lt]; omega)]
theorem facto_le {n : Nat} (h : n ≤ 4) : facto n ≤ 24 := by
  have e : n = 0 ∨ n = 1 ∨ n = 2 ∨ n = 3 ∨ n = 4 := by omega
  rcases e with e | e | e | e | e <;> subst e <;> decide
/-- the orders that fire -/
def good (m : Mk) (os : List Odr) : List Odr := os.filter fun o => (fire m o).isSome

/-! ### a load behind a tick -/
def ownAt (m : Mk) (h : Int) (i : Nat) : Int := max 0 (h - (i : Int) * m.lag)
def Melts (m : Mk) (l : List Tr) (h : Int) : Prop := ∃ (i : Nat) (c : Tr), l[i]? = some c ∧ m.melt c.1 < ownAt m h i
def stoodAt (m : Mk) (l : List Tr) (h : Int) : List Tr := l.mapIdx fun i c => (c.1, c.2.1, c.2.2 + (if m.mark c.1 ≤ ownAt m h i then 1 else 0))
def bricks (l : List Tr) : Int := (l.map (·.2.1)).sum
def rawOf (s : Int) (g : Odr) : List Tr := g.map fun c => (c.1, c.2, s)
theorem trD_inj {c d : Tr} (h : PyData.eqv (trD c) (trD d) = true) : c = d := by
  simp only [trD, PyData.eqv, PyData.eqvAll, Bool.and_eq_true, beq_iff_eq, and_true] at h
  obtain ⟨h1, h2, h3⟩ := h
  exact Prod.ext h1 (Prod.ext h2 h3)
theorem trs_inj : ∀ {l l' : List Tr}, PyData.eqvAll (l.map trD) (l'.map trD) = true → l = l'
  | [], [], _ => rfl
  | [], _ :: _, h => by simp [PyData.eqvAll] at h
  | _ :: _, [], h => by simp [PyData.eqvAll] at h
  | c :: l, d :: l', h => by
    rw [List.map_cons, List.map_cons, PyData.eqvAll, Bool.and_eq_true] at h
    rw [trD_inj h.1, trs_inj h.2]
theorem trsD_inj {l l' : List Tr} (h : PyData.eqv (trsD l) (trsD l') = true) : l = l' := by
  unfold trsD at h
  rw [PyData.eqv] at h
  exact trs_inj h
theorem eqv_ints : ∀ ns ms : List Int, PyData.eqvAll (ns.map PyData.int) (ms.map PyData.int) = decide (ns = ms)
  | [], [] => by simp [PyData.eqvAll]
  | [], _ :: _ => by simp [PyData.eqvAll]
  | _ :: _, [] => by simp [PyData.eqvAll]
  | n :: ns, m :: ms => by
    rw [List.map_cons, List.map_cons, PyData.eqvAll, eqv_ints ns ms, PyData.eqv]
    by_cases h1 : n = m <;> by_cases h2 : ns = ms <;> simp [h1, h2]
section
variable {m : Mk} {g : Odr}
theorem own_ok (ok : MkOk m) {k : Int} (nm : 0 ≤ k ∧ k < m.kinds.length) (h : Int) (i : Nat) : (m.mark k ≤ ownAt m h i ↔ m.mark k + (i : Int) * m.lag ≤ h) ∧ (ownAt m h i ≤ m.melt k ↔ h ≤ m.melt k + (i : Int) * m.lag) := by
  have z := ok.of nm
  unfold ownAt
  generalize (i : Int) * m.lag = q
  omega
theorem raw_at {s : Int} {i : Nat} {c : Tr} (e : (rawOf s g)[i]? = some c) : ∃ d, g[i]? = some d ∧ c = (d.1, d.2, s) := by
  unfold rawOf at e
  rw [List.getElem?_map] at e
  obtain ⟨d, h1, h2⟩ := Option.map_eq_some_iff.mp e
  exact ⟨d, h1, h2.symm⟩
theorem named_at (nm : Named m (g.map (·.1))) {i : Nat} {d : Pr} (e : g[i]? = some d) : 0 ≤ d.1 ∧ d.1 < m.kinds.length := nm _ (List.mem_map.mpr ⟨d, List.mem_of_getElem? e, rfl⟩)
/-- no course melts at a heat not above the greatest -/
theorem no_melt (ok : MkOk m) (nm : Named m (g.map (·.1))) (hg : g ≠ []) {c : Pr} (e : fire m g = some c) {h : Int} (le : h ≤ c.2) (s : Int) : ¬ Melts m (rawOf s g) h := by
  rintro ⟨i, d, hd, lt⟩
  obtain ⟨d', h1, rfl⟩ := raw_at hd
  have b := ((fire_some hg e c.2).mpr ⟨fire_le e, Int.le_refl _⟩) i d' h1
  have o := (own_ok ok (named_at nm h1) h i).2
  have z : h ≤ m.melt d'.1 + (i : Int) * m.lag := by
    generalize (i : Int) * m.lag = q at b ⊢
    omega
  have := o.mpr z
  have lt' : m.melt d'.1 < ownAt m h i := lt
  omega
/-- one melts above it -/
theorem melt_above (ok : MkOk m) (nm : Named m (g.map (·.1))) (hg : g ≠ []) {c : Pr} (e : fire m g = some c) (s : Int) : Melts m (rawOf s g) (c.2 + 1) := by
  have nb : ¬ Burns m g (c.2 + 1) := fun b => by
    have := ((fire_some hg e _).mp b).2
    omega
  have le := fire_le e
  have bl := (fire_some hg e c.1).mpr ⟨Int.le_refl _, le⟩
  refine Classical.byContradiction fun no => nb fun i d hd => ?_
  have z := (own_ok ok (named_at nm hd) (c.2 + 1) i).2
  have b1 := (bl i d hd).1
  have nl : ¬ m.melt d.1 < ownAt m (c.2 + 1) i := fun lt => no ⟨i, (d.1, d.2, s), by unfold rawOf; rw [List.getElem?_map, hd]; rfl, lt⟩
  have y := z.mp (by omega)
  exact ⟨by generalize (i : Int) * m.lag = q at b1 ⊢; omega, y⟩
/-- all stand one tick more in a heat that fires -/
theorem stood_all (ok : MkOk m) (nm : Named m (g.map (·.1))) {h : Int} (b : Burns m g h) : stoodAt m (rawOf 0 g) h = rawOf 1 g := by
  refine List.ext_getElem? fun i => ?_
  unfold stoodAt rawOf
  rw [List.getElem?_mapIdx, List.getElem?_map, List.getElem?_map]
  cases e : g[i]? with
  | none => rfl
  | some d =>
    have z := ((own_ok ok (named_at nm e) h i).1).mpr (b i d e).1
    show some (d.1, d.2, (0 : Int) + (if m.mark d.1 ≤ ownAt m h i then 1 else 0)) = some (d.1, d.2, 1)
    rw [if_pos z]
    rfl
/-- not all below the least -/
theorem stood_not (ok : MkOk m) (nm : Named m (g.map (·.1))) (hg : g ≠ []) {c : Pr} (e : fire m g = some c) : stoodAt m (rawOf 0 g) (c.1 - 1) ≠ rawOf 1 g := by
  intro q
  have nb : ¬ Burns m g (c.1 - 1) := fun b => by
    have := ((fire_some hg e _).mp b).1
    omega
  have le := fire_le e
  have bl := (fire_some hg e c.2).mpr ⟨le, Int.le_refl _⟩
  refine nb fun i d hd => ?_
  have z := congrArg (·[i]?) q
  simp only [stoodAt, rawOf, List.getElem?_mapIdx, List.getElem?_map, hd, Option.map_some, Option.some.injEq, Prod.mk.injEq, true_and] at z
  have y : m.mark d.1 ≤ ownAt m (c.1 - 1) i := by
    refine Classical.byContradiction fun no => ?_
    rw [if_neg no] at z
    omega
  have w := ((own_ok ok (named_at nm hd) (c.1 - 1) i).1).mp y
  have b1 := (bl i d hd).2
  exact ⟨w, by generalize (i : Int) * m.lag = q at b1 ⊢; omega⟩
theorem bricks_raw (s : Int) (g : Odr) : bricks (rawOf s g) = (g.map (·.2)).sum := by
  unfold bricks rawOf
  rw [List.map_map]
  rfl
end
end RK

namespace RK
open PySem PySem.Spec PyProof.Rows L2

theorem tk_small {α β : Type} {l : List α} {f : α → β} {i : Nat} (h : l.length ≤ 1000) : ((l.take i).map f).length < sizeLine := by
  rw [List.length_map, List.length_take]
  exact small1000 (Nat.le_trans (Nat.min_le_right _ _) h)
/-- the built-ins' names are still theirs -/
structure Bl (mg : Str → Option Value) : Prop where
  isi : mg "isinstance" = none
  list : mg "list" = none
  tuple : mg "tuple" = none
  range : mg "range" = none
  max : mg "max" = none
  sum : mg "sum" = none
  zip : mg "zip" = none
  len : mg "len" = none
  int : mg "int" = none
  enum : mg "enumerate" = none
  min : mg "min" = none
  sorted : mg "sorted" = none
  set : mg "set" = none
  abs : mg "abs" = none
  all : mg "all" = none
  bool : mg "bool" = none
  str : mg "str" = none
section
variable {P : Program} {w : World} {K : PySem.W.Frag} {mg : Str → Option Value} {base : Heap} {f : Addr} {fd : FuncData}

/-! ### bricks_of -/
def spBricks : Sp := fun vs H Q _ => ∃ (x : V) (l : List Tr), vs = [x] ∧ TT H x (trsD l) ∧ l.length ≤ 1000 ∧ ∀ H', Same H H' → Q (.int (bricks l)) H'
theorem ok_bricks (F : Fun K "bricks_of" "bricks_of" sBricksOf f fd) (B : Bl mg) : FnOk P w K mg base CX0 1 f fd ["load"] spBricks := by
  refine F.ok scBricksOf (fun vs H Q E h => ?_) (fun cdv A outer s H vs Q E hr h => ?_)
  · obtain ⟨x, l, rfl, _⟩ := h
    rfl
  obtain ⟨x, l, rfl, hx, hl, q⟩ := h
  obtain ⟨a, xs, rfl, ha, ht⟩ := TT.tup hx
  refine ⟨_, pss_one (ps_ret (pe_callB (cr_sum rfl) (by rfl) B.sum (by decide +kernel) (pa_cons (pe_lc (own := [("_", 1), ("count", 2)]) (g := gTup K 3 (gCons (gName 1) (gCons (gName 2) (gCons (gName 1) gNil)))) (tt := tYes) rfl scBricksOf.nd (pi_tup (pv 0)) (blkOk_by (N := NBricksOf) (sc := defScope sBricksOf) (by decide +kernel))
      (fun _ _ _ _ _ => pg_tup rfl (pgs_cons (pg_name (i := 1) scBricksOf.nd rfl (Or.inl rfl)) (pgs_cons (pg_name (i := 2) scBricksOf.nd rfl (Or.inl rfl)) (pgs_cons (pg_name (i := 1) scBricksOf.nd rfl (Or.inl rfl)) pgs_nil)))) (fun _ _ _ _ _ => pts_nil) (fun _ _ _ _ _ => pv 2)) pa_nil))), ?_⟩
  refine ⟨_, rfl, a, rfl, ⟨_, SqT.of ha⟩, fun D hD => ?_⟩
  refine lc_it walk_tup (fun i H' => Same H H' ∧ H' D = some (.lst ((((l.map (·.2.1)).take i)).map V.int))) ⟨same_upd hD, upd_same⟩ (fun i H' _ p => SqT.of (p.1 _ _ ha)) ?_ ?_
  · rintro i y H' H2 hi ⟨sm, eD⟩ ⟨rfl, hy⟩
    obtain ⟨d, hd, ty⟩ := ht.at_ hy
    rw [List.getElem?_map] at hd
    obtain ⟨c, hc, rfl⟩ := Option.map_eq_some_iff.mp hd
    obtain ⟨b, ys, rfl, hb, hys⟩ := TT.tup ty
    cases hys with
    | cons h1 t1 =>
      cases t1 with
      | cons h2 t2 =>
        cases t2 with
        | cons h3 t3 =>
          cases t3
          obtain rfl := TT.int' h1
          obtain rfl := TT.int' h2
          obtain rfl := TT.int' h3
          refine ⟨b, _, rfl, SqT.of (sm _ _ hb), rfl, _, _, rfl, _, _, rfl, _, _, rfl, rfl, ?_⟩
          refine ⟨rfl, _, rfl, _, eD, ?_, ?_⟩
          · exact tk_small (by rw [List.length_map]; exact hl)
          · refine ⟨fun b u e => ?_, ?_⟩
            · have nb : b ≠ D := ne_of_none e hD
              rw [upd_ne nb]
              exact sm _ _ e
            · rw [upd_same, take_snoc (show (l.map (·.2.1))[i]? = some c.2.1 by rw [List.getElem?_map, hc]; rfl), List.map_append]
              rfl
  · rintro H' ⟨sm, eD⟩
    have e : (l.map (·.2.1)).take xs.length = l.map (·.2.1) := List.take_of_length_le (by
      have := ht.len
      rw [List.length_map] at this
      rw [List.length_map]
      omega)
    rw [e] at eD
    exact ⟨D, _, rfl, SqL.of eD, q H' sm⟩

/-! ### course_heats -/
def owns (m : Mk) (h : Int) (n : Nat) : List Int := (List.range n).map fun i => ownAt m h i
def spCourse : Sp := fun vs H Q _ => ∃ (x : V) (m : Mk) (h : Int) (n : Nat), vs = [x, .int h, .int n] ∧ TT H x (mkD m) ∧ n ≤ 1000 ∧ ∀ H' y, Same H H' → TT H' y (.tuple ((owns m h n).map .int)) → Q y H'
theorem max0 (z : Int) : (if z > 0 then z else 0) = max 0 z := by
  split <;> omega
theorem ok_course (F : Fun K "course_heats" "course_heats" sCourseHeats f fd) (B : Bl mg) : FnOk P w K mg base CX0 1 f fd ["make", "heat", "many"] spCourse := by
  refine F.ok scCourseHeats (fun vs H Q E h => ?_) (fun cdv A outer s H vs Q E hr h => ?_)
  · obtain ⟨x, m, h, n, rfl, _⟩ := h
    rfl
  obtain ⟨x, m, ht, n, rfl, hx, hn, q⟩ := h
  obtain ⟨a, xs, rfl, ha, hxs⟩ := TT.tup hx
  obtain ⟨x1, hx1, tx1⟩ := hxs.get (i := 1) rfl
  obtain rfl := TT.int' tx1
  refine ⟨_, pss_one (ps_ret (pe_callTy call_tuple_of (by rfl) B.tuple (by decide +kernel) (pa_cons (pe_lc (own := [("place", 3)]) (g := gName 3) (tt := tYes) rfl scCourseHeats.nd (pi_range1 (by rfl) B.range (pa_cons (pv 2) pa_nil)) (blkOk_by (N := NCourseHeats) (sc := defScope sCourseHeats) (by decide +kernel))
      (fun _ _ _ _ _ => pg_name (i := 3) scCourseHeats.nd rfl (Or.inl rfl)) (fun _ _ _ _ _ => pts_nil)
      (fun _ _ _ _ _ => pe_callB (call_max2 rfl) (by rfl) B.max (by decide +kernel) (pa_cons pe_int (pa_cons (pe_op op_sub (pv 1) (pe_op op_mul (pv 3) (pe_ix (r := rIxT K) ix_tup (pv 0) pe_int (fun _ _ => rfl)))) pa_nil)))) pa_nil))), ?_⟩
  refine ⟨_, rfl, n, rfl, by omega, by omega, fun D hD => ?_⟩
  rw [Int.toNat_natCast]
  refine lc_it walk_range (fun i H' => Same H H' ∧ H' D = some (.lst ((((owns m ht n).take i)).map V.int))) ⟨same_upd hD, upd_same⟩ (fun _ _ _ _ => trivial) ?_ ?_
  · rintro i y H' H2 hi ⟨sm, eD⟩ ⟨rfl, rfl⟩
    refine ⟨rfl, ?_⟩
    refine ⟨_, rfl, _, rfl, _, rfl, a, xs, 1, .int m.lag, rfl, rfl, SqT.of (sm _ _ ha), atI_nat (j := 1) hx1, _, _, rfl, rfl, .inl ⟨by omega, by omega⟩, _, _, rfl, rfl, _, _, rfl, _, eD, tk_small (by unfold owns; rw [List.length_map, List.length_range]; exact hn), ?_, ?_⟩
    · intro b u e
      rw [upd_ne (ne_of_none e hD)]
      exact sm _ _ e
    · rw [upd_same, take_snoc (show (owns m ht n)[i]? = some (ownAt m ht i) by unfold owns; rw [List.getElem?_map, List.getElem?_range hi]; rfl), List.map_append, max0]
      show _ = some (HO.lst (_ ++ [V.int (max 0 (ht - (i : Int) * m.lag))]))
      rw [Int.zero_add]
  · rintro H' ⟨sm, eD⟩
    rw [List.take_of_length_le (by unfold owns; rw [List.length_map, List.length_range]; exact Nat.le_refl _)] at eD
    refine ⟨D, _, rfl, .inl ⟨SqL.of eD, fun p hp => ?_⟩⟩
    exact q _ _ (sm.trans (same_upd hp)) (DX.mk_tup upd_same (dxs_ints _))
end
end RK

namespace RK
open PySem PySem.Spec PyProof.Rows L2

/-! ### isinstance -/
theorem kit2 {K : PySem.W.Frag} {t a b : String} {r1 r2 : Bool} (h1 : kitB t a = some r1) (h2 : kitB t b = some r2) : PySem.W.kitAny K (.type t) [.type a, .type b] = some (r1 || r2) := by
  refine kitAny_cons (kit_ty h1) (fun e => ?_) (fun e => by rw [e]; rfl)
  rw [e]
  refine kitAny_cons (kit_ty h2) (fun e2 => ?_) (fun e2 => by rw [e2]; rfl)
  rw [e2]
  exact kitAny_nil
theorem kit_ll : kitB "list" "list" = some true := by decide +kernel
theorem kit_lt : kitB "list" "tuple" = some false := by decide +kernel
theorem kit_tl : kitB "tuple" "list" = some false := by decide +kernel
theorem kit_tt : kitB "tuple" "tuple" = some true := by decide +kernel
theorem kit_il : kitB "int" "list" = some false := by decide +kernel
theorem kit_it : kitB "int" "tuple" = some false := by decide +kernel
theorem kit_ib : kitB "int" "bool" = some false := by decide +kernel
theorem kit_is : kitB "int" "str" = some false := by decide +kernel
theorem kit_ii : kitB "int" "int" = some true := by decide +kernel
theorem kit_nl : kitB "NoneType" "list" = some false := by decide +kernel
theorem kit_nt : kitB "NoneType" "tuple" = some false := by decide +kernel
theorem kit_nb : kitB "NoneType" "bool" = some false := by decide +kernel
theorem kit_ns : kitB "NoneType" "str" = some false := by decide +kernel

section
variable {K : PySem.W.Frag}
theorem kn_lt : PySem.W.kitAny K (.type "NoneType") [.type "list", .type "tuple"] = some false := kit2 kit_nl kit_nt
theorem ki_lt : PySem.W.kitAny K (.type "int") [.type "list", .type "tuple"] = some false := kit2 kit_il kit_it
theorem kl_lt : PySem.W.kitAny K (.type "list") [.type "list", .type "tuple"] = some true := kit2 kit_ll kit_lt
theorem kt_lt : PySem.W.kitAny K (.type "tuple") [.type "list", .type "tuple"] = some true := kit2 kit_tl kit_tt
theorem kn_bs : PySem.W.kitAny K (.type "NoneType") [.type "bool", .type "str"] = some false := kit2 kit_nb kit_ns
theorem ki_bs : PySem.W.kitAny K (.type "int") [.type "bool", .type "str"] = some false := kit2 kit_ib kit_is
theorem cls2 (a b : String) : Paired ClsV [V.ty a, V.ty b] [.type a, .type b] := .cons (.ty a) (.cons (.ty b) .nil)
theorem seq_lt {H : Hp} {a : Addr} {o : HO} {xs : List V} (e : H a = some o) (c : o = .lst xs ∨ o = .tup xs) : ∃ t, TyX K H (.ref a) t ∧ PySem.W.kitAny K t [.type "list", .type "tuple"] = some true := by
  rcases c with rfl | rfl
  · exact ⟨_, .base (.lst e), kl_lt⟩
  · exact ⟨_, .base (.tup e), kt_lt⟩
end

/-! ### how large data are -/
mutual
def sml : PyData → Bool
  | .tuple xs => decide (xs.length ≤ 1000) && smls xs
  | .list xs => decide (xs.length ≤ 1000) && smls xs
  | _ => true
def smls : List PyData → Bool
  | [] => true
  | x :: xs => sml x && smls xs
end
theorem smls_at : ∀ {ds : List PyData} {d : PyData}, smls ds = true → d ∈ ds → sml d = true
  | x :: xs, d, h, m => by
    rw [smls, Bool.and_eq_true] at h
    rcases List.mem_cons.mp m with e | e
    · rw [e]
      exact h.1
    · exact smls_at h.2 e
theorem depth_at : ∀ {ds : List PyData} {d : PyData}, d ∈ ds → d.depth ≤ PyData.depthAll ds
  | x :: xs, d, m => by
    rw [PyData.depthAll]
    rcases List.mem_cons.mp m with e | e
    · rw [e]
      omega
    · have := depth_at e
      omega
def Fine (n : Nat) (e : PyData) : Prop := sml e = true ∧ e.depth < n
theorem Fine.kid {n : Nat} {ds : List PyData} {d : PyData} (h : Fine (n + 1) (.tuple ds)) (m : d ∈ ds) : Fine n d := by
  obtain ⟨h1, h2⟩ := h
  rw [sml, Bool.and_eq_true] at h1
  rw [PyData.depth] at h2
  have := depth_at m
  exact ⟨smls_at h1.2 m, by omega⟩
theorem Fine.kidL {n : Nat} {ds : List PyData} {d : PyData} (h : Fine (n + 1) (.list ds)) (m : d ∈ ds) : Fine n d := by
  obtain ⟨h1, h2⟩ := h
  rw [sml, Bool.and_eq_true] at h1
  rw [PyData.depth] at h2
  have := depth_at m
  exact ⟨smls_at h1.2 m, by omega⟩
theorem Fine.len {n : Nat} {ds : List PyData} (h : Fine n (.tuple ds)) : ds.length ≤ 1000 := by
  have h1 := h.1
  rw [sml, Bool.and_eq_true] at h1
  exact of_decide_eq_true h1.1
theorem Fine.lenL {n : Nat} {ds : List PyData} (h : Fine n (.list ds)) : ds.length ≤ 1000 := by
  have h1 := h.1
  rw [sml, Bool.and_eq_true] at h1
  exact of_decide_eq_true h1.1
theorem Fine.le {n k : Nat} {e : PyData} (h : Fine n e) (l : n ≤ k) : Fine k e := ⟨h.1, Nat.lt_of_lt_of_le h.2 l⟩
section
variable {P : Program} {w : World} {K : PySem.W.Frag} {mg : Str → Option Value} {base : Heap} {f : Addr} {fd : FuncData}
/-! ### tupled -/
def spTupled (n : Nat) : Sp := fun vs H Q _ => ∃ (x : V) (e : PyData), vs = [x] ∧ DT H x e ∧ Fine n e ∧ ∀ H' y, Same H H' → TT H' y e → Q y H'
theorem tupled_step {n : Nat} (F : Fun K "tupled" "tupled" sTupled f fd) (B : Bl mg) (b : Binds K fd ["matter"] []) (gl : mg "tupled" = some (.ref f)) (G : FnOk P w K mg base CX0 n f fd ["matter"] (spTupled n)) :
    FnOk P w K mg base CX0 (n + 1) f fd ["matter"] (spTupled (n + 1)) := by
  refine F.ok scTupled (fun vs H Q E h => ?_) (fun cdv A outer s H vs Q E hr h => ?_)
  · obtain ⟨x, e, rfl, _⟩ := h
    rfl
  obtain ⟨x, e, rfl, hx, fin, q⟩ := h
  refine ⟨_, pss_one (ps_ret (pe_ifExp (pt_val (pe_callB call_isiT (by rfl) B.isi (by decide +kernel) (pa_cons (pv 0) (pa_cons (pe_tup (pa_cons (pe_bltn (v := .ty "list") (by rfl) B.list (by decide +kernel) rfl) (pa_cons (pe_bltn (v := .ty "tuple") (by rfl) B.tuple (by decide +kernel) rfl) pa_nil))) pa_nil))))
      (pe_callTy call_tuple_of (by rfl) B.tuple (by decide +kernel) (pa_cons (pe_lc (own := [("bit", 1)]) (g := gName 1) (tt := tYes) rfl scTupled.nd (pi_seq (pv 0)) (blkOk_by (N := NTupled) (sc := defScope sTupled) (by decide +kernel))
        (fun _ _ _ _ _ => pg_name (i := 1) scTupled.nd rfl (Or.inl rfl)) (fun _ _ _ _ _ => pts_nil) (fun _ _ _ _ _ => pe_call G hr (by rfl) gl F.kp b .nil pass0 (pa_cons (pv 1) pa_nil))) pa_nil)) (pv 0))), ?_⟩
  refine ⟨_, rfl, by show 2 ≤ sizeLine; decide, fun tp htp => ?_⟩
  have s1 : Same H (upd H tp (.tup [.ty "list", .ty "tuple"])) := same_upd htp
  cases hx with
  | non =>
    refine ⟨_, tp, _, _, _, _, rfl, upd_same, cls2 _ _, .base .non, kn_lt, ?_⟩
    exact ⟨_, rfl, iteF ⟨_, rfl, q _ _ s1 .non⟩⟩
  | int i =>
    refine ⟨_, tp, _, _, _, _, rfl, upd_same, cls2 _ _, .base (.int i), ki_lt, ?_⟩
    exact ⟨_, rfl, iteF ⟨_, rfl, q _ _ s1 (.int i)⟩⟩
  | @seq a o xs ds _ ea c t =>
    obtain ⟨c, rfl⟩ := c
    have e1 := s1 _ _ ea
    obtain ⟨ty0, k1, k2⟩ := seq_lt (K := K) e1 c
    refine ⟨_, tp, _, _, _, _, rfl, upd_same, cls2 _ _, k1, k2, ?_⟩
    refine ⟨_, rfl, iteT ?_⟩
    refine ⟨a, o, xs, rfl, e1, c, fun J wk D hD => ?_⟩
    have len := t.len
    refine lc_it wk (fun i H' => Same (upd H tp (.tup [.ty "list", .ty "tuple"])) H' ∧ ∃ acc, H' D = some (.lst acc) ∧ TTs H' acc (ds.take i)) ⟨same_upd hD, [], upd_same, .nil⟩ (fun i H' _ p => p.1 _ _ e1) ?_ ?_
    · rintro i y H' H2 hi ⟨sm, acc, eD, ta⟩ ⟨rfl, hy⟩
      obtain ⟨d, hd, ty⟩ := t.at_ hy
      refine ⟨rfl, _, rfl, y, d, rfl, DX.same (s1.trans sm) ty, fin.kid (List.mem_of_getElem? hd), fun H3 z sm3 tz => ?_⟩
      have eD3 := sm3 _ _ eD
      refine ⟨acc, eD3, small1000 ?_, ?_, acc ++ [z], upd_same, ?_⟩
      · rw [ta.len, List.length_take]
        exact Nat.le_trans (Nat.min_le_right _ _) fin.len
      · intro u v e
        rw [upd_ne (ne_of_none e hD)]
        exact sm3 _ _ (sm _ _ e)
      · rw [take_snoc hd]
        exact TTs.stay (tupS_lst eD3) (DXs.snoc (DXs.same sm3 ta) tz)
    · rintro H' ⟨sm, acc, eD, ta⟩
      rw [len, List.take_length] at ta
      refine ⟨D, acc, rfl, .inl ⟨SqL.of eD, fun p hp => ?_⟩⟩
      exact q _ _ ((s1.trans sm).trans (same_upd hp)) (DX.mk_tup upd_same (DXs.same (same_upd hp) ta))
theorem ok_tupled (F : Fun K "tupled" "tupled" sTupled f fd) (B : Bl mg) (b : Binds K fd ["matter"] []) (gl : mg "tupled" = some (.ref f)) : ∀ n, FnOk P w K mg base CX0 n f fd ["matter"] (spTupled n)
  | 0 => by
    have no : ∀ vs H Q E, ¬ spTupled 0 vs H Q E := fun vs H Q E h => by
      obtain ⟨x, e, _, _, fin, _⟩ := h
      exact absurd fin.2 (Nat.not_lt_zero _)
    exact ⟨fun vs H Q E h => absurd h (no vs H Q E), fun A outer s H args us vs Q E _ _ _ _ h => absurd h (no vs H Q E)⟩
  | n + 1 => tupled_step F B b gl (ok_tupled F B b gl n)
end
end RK

namespace RK
open PySem PySem.Spec PyProof.Rows L2
/-! ### isinstance of a name, as rules -/
theorem pe_imp {X : Cx} {e : Expr} {t t' : TE} (h : PE X e t') (f : ∀ σ H Q, t σ H Q → t' σ H Q) : PE X e t := ⟨fun pins s σ H Q I z => h.run pins s σ H Q I (f σ H Q z)⟩
section
variable {X : Cx} {e c c2 : Expr} {n n2 : String} {i : Nat} {p pos tpos : Pos} {kk : Nat}
def tIsi (K : PySem.W.Frag) (i : Nat) (n : String) : TE := fun σ H Q => ∃ (v : V) (t : String) (r : Bool), σ[i]? = some (some v) ∧ TyX K H v (.type t) ∧ kitB t n = some r ∧ Q (.bl r) H
theorem pe_isi (hg : Gl X "isinstance") (hm : X.mg "isinstance" = none) (he : PE X e (tVar i)) (hc : PE X c (tC (.ty n))) (h1 : starEach [e, c] X.env = (false, eval e X.env) :: starEach [c] X.env := by rfl) (h2 : starEach [c] X.env = (false, eval c X.env) :: starEach [] X.env := by rfl)
    (h3 : (backTo pos (starEach [c] X.env)).any (·.1) = false := by rfl) : PE X (.Call (.Name "isinstance" p) [e, c] [] pos) (tIsi X.K i n) :=
  pe_imp (pe_callB call_isi hg hm (by decide +kernel) (pa_cons he (pa_cons hc pa_nil h2) h1) (by decide) (by decide) h1 h3) fun σ H Q ⟨v, t, r, e, ty, k, q⟩ => ⟨v, e, v, .ty n, .type t, .type n, r, rfl, .ty n, ty, kit_ty k, q⟩
def tIsi2 (K : PySem.W.Frag) (i : Nat) (a b : String) : TE := fun σ H Q => ∃ (v : V) (t : String) (r : Bool), σ[i]? = some (some v) ∧ (∀ tp, H tp = none → TyX K (upd H tp (.tup [.ty a, .ty b])) v (.type t)) ∧ PySem.W.kitAny K (.type t) [.type a, .type b] = some r ∧
  ∀ tp, H tp = none → Q (.bl r) (upd H tp (.tup [.ty a, .ty b]))
theorem pe_isi2 (hg : Gl X "isinstance") (hm : X.mg "isinstance" = none) (he : PE X e (tVar i)) (hc : PE X c (tC (.ty n))) (hc2 : PE X c2 (tC (.ty n2))) (h1 : starEach [e, .Tuple [c, c2] kk tpos] X.env = (false, eval e X.env) :: starEach [.Tuple [c, c2] kk tpos] X.env := by rfl)
    (h2 : starEach [.Tuple [c, c2] kk tpos] X.env = (false, eval (.Tuple [c, c2] kk tpos) X.env) :: starEach [] X.env := by rfl) (h3 : (backTo pos (starEach [.Tuple [c, c2] kk tpos] X.env)).any (·.1) = false := by rfl)
    (h4 : starEach [c, c2] X.env = (false, eval c X.env) :: starEach [c2] X.env := by rfl) (h5 : starEach [c2] X.env = (false, eval c2 X.env) :: starEach [] X.env := by rfl) : PE X (.Call (.Name "isinstance" p) [e, .Tuple [c, c2] kk tpos] [] pos) (tIsi2 X.K i n n2) :=
  pe_imp (pe_callB call_isiT hg hm (by decide +kernel) (pa_cons he (pa_cons (pe_tup (pa_cons hc (pa_cons hc2 pa_nil h5) h4)) pa_nil h2) h1) (by decide) (by decide) h1 h3) fun σ H Q ⟨v, t, r, e, ty, k, q⟩ =>
    ⟨v, e, by show 2 ≤ sizeLine; decide, fun tp htp => ⟨v, tp, _, .type t, _, r, rfl, upd_same, cls2 _ _, ty tp htp, k, q tp htp⟩⟩
theorem nm_list (B : Bl X.mg) (hg : Gl X "list") : PE X (.Name "list" p) (tC (.ty "list")) := pe_bltn hg B.list (by decide +kernel) rfl
theorem nm_tuple (B : Bl X.mg) (hg : Gl X "tuple") : PE X (.Name "tuple" p) (tC (.ty "tuple")) := pe_bltn hg B.tuple (by decide +kernel) rfl
theorem nm_bool (B : Bl X.mg) (hg : Gl X "bool") : PE X (.Name "bool" p) (tC (.ty "bool")) := pe_bltn hg B.bool (by decide +kernel) rfl
theorem nm_str (B : Bl X.mg) (hg : Gl X "str") : PE X (.Name "str" p) (tC (.ty "str")) := pe_bltn hg B.str (by decide +kernel) rfl
theorem nm_int (B : Bl X.mg) (hg : Gl X "int") : PE X (.Name "int" p) (tC (.ty "int")) := pe_bltn hg B.int (by decide +kernel) rfl
end
section
variable {P : Program} {w : World} {K : PySem.W.Frag} {mg : Str → Option Value} {base : Heap} {f : Addr} {fd : FuncData}
/-! ### _law_lists: what is known (G) of the heap grows by new objects alone -/
def Fresh (G H G' : Hp) : Prop := ∀ b, G' b ≠ none → G b ≠ none ∨ H b = none
def spLists (n : Nat) : Sp := fun vs H Q _ => ∃ (x : V) (e : PyData) (G : Hp), vs = [x] ∧ Same G H ∧ DT G x e ∧ Fine n e ∧ ∀ H' G' y, Same H H' → Same G G' → Same G' H' → Fresh G H G' → DT G' y e → Q y H'
theorem lists_step {n : Nat} (F : Fun K "_law_lists" "_law_lists" sLLists f fd) (B : Bl mg) (b : Binds K fd ["_law_matter"] []) (gl : mg "_law_lists" = some (.ref f)) (G : FnOk P w K mg base CX0 n f fd ["_law_matter"] (spLists n)) :
    FnOk P w K mg base CX0 (n + 1) f fd ["_law_matter"] (spLists (n + 1)) := by
  refine F.ok scLLists (fun vs H Q E h => ?_) (fun cdv A outer s H vs Q E hr h => ?_)
  · obtain ⟨x, e, g, rfl, _⟩ := h
    rfl
  obtain ⟨x, e, g, rfl, sg, hx, fin, q⟩ := h
  refine ⟨_, pss_one (ps_ret (pe_ifExp (pt_val (pe_callB call_isiT (by rfl) B.isi (by decide +kernel) (pa_cons (pv 0) (pa_cons (pe_tup (pa_cons (pe_bltn (v := .ty "list") (by rfl) B.list (by decide +kernel) rfl) (pa_cons (pe_bltn (v := .ty "tuple") (by rfl) B.tuple (by decide +kernel) rfl) pa_nil))) pa_nil))))
      (pe_lc (own := [("_law_bit", 1)]) (g := gName 1) (tt := tYes) rfl scLLists.nd (pi_seq (pv 0)) (blkOk_by (N := NLLists) (sc := defScope sLLists) (by decide +kernel))
        (fun _ _ _ _ _ => pg_name (i := 1) scLLists.nd rfl (Or.inl rfl)) (fun _ _ _ _ _ => pts_nil) (fun _ _ _ _ _ => pe_call G hr (by rfl) gl F.kp b .nil pass0 (pa_cons (pv 1) pa_nil))) (pv 0))), ?_⟩
  refine ⟨_, rfl, by show 2 ≤ sizeLine; decide, fun tp htp => ?_⟩
  have s1 : Same H (upd H tp (.tup [.ty "list", .ty "tuple"])) := same_upd htp
  have stay : Fresh g H g := fun _ z => .inl z
  cases hx with
  | non =>
    refine ⟨_, tp, _, _, _, _, rfl, upd_same, cls2 _ _, .base .non, kn_lt, ?_⟩
    exact ⟨_, rfl, iteF ⟨_, rfl, q _ _ _ s1 (Same.refl _) (sg.trans s1) stay .non⟩⟩
  | int i =>
    refine ⟨_, tp, _, _, _, _, rfl, upd_same, cls2 _ _, .base (.int i), ki_lt, ?_⟩
    exact ⟨_, rfl, iteF ⟨_, rfl, q _ _ _ s1 (Same.refl _) (sg.trans s1) stay (.int i)⟩⟩
  | @seq a o xs ds _ ga c t =>
    obtain ⟨c, rfl⟩ := c
    have e1 := s1 _ _ (sg _ _ ga)
    obtain ⟨ty0, k1, k2⟩ := seq_lt (K := K) e1 c
    refine ⟨_, tp, _, _, _, _, rfl, upd_same, cls2 _ _, k1, k2, ?_⟩
    refine ⟨_, rfl, iteT ?_⟩
    refine ⟨a, o, xs, rfl, e1, c, fun J wk D hD => ?_⟩
    have len := t.len
    have hD0 : H D = none := s1.free hD
    refine lc_it wk (fun i H' => Same (upd H tp (.tup [.ty "list", .ty "tuple"])) H' ∧ ∃ acc g', H' D = some (.lst acc) ∧ Same g g' ∧ Same g' H' ∧ g' D = none ∧ Fresh g H g' ∧ DTs g' acc (ds.take i))
      ⟨same_upd hD, [], g, upd_same, Same.refl _, (sg.trans s1).trans (same_upd hD), sg.free hD0, stay, .nil⟩ (fun i H' _ p => p.1 _ _ e1) ?_ ?_
    · rintro i y H' H2 hi ⟨sm, acc, g', eD, sgg, sgH, nD, fr, ta⟩ ⟨rfl, hy⟩
      obtain ⟨d, hd, ty⟩ := t.at_ hy
      refine ⟨rfl, _, rfl, y, d, g', rfl, sgH, DX.same sgg ty, fin.kid (List.mem_of_getElem? hd), fun H3 g3 z sm3 sg3 sgH3 fr3 tz => ?_⟩
      have eD3 := sm3 _ _ eD
      have nD3 : g3 D = none := by
        refine Classical.byContradiction fun no => ?_
        rcases fr3 D no with z | z
        · exact z nD
        · rw [eD] at z
          cases z
      refine ⟨acc, eD3, small1000 ?_, ?_, acc ++ [z], g3, upd_same, sgg.trans sg3, fun u v e => ?_, nD3, fun u nu => ?_, ?_⟩
      · rw [ta.len, List.length_take]
        exact Nat.le_trans (Nat.min_le_right _ _) fin.len
      · intro u v e
        rw [upd_ne (ne_of_none e hD)]
        exact sm3 _ _ (sm _ _ e)
      · rw [upd_ne (ne_of_none e nD3)]
        exact sgH3 _ _ e
      · rcases fr3 u nu with z | z
        · exact fr u z
        · exact .inr ((s1.trans sm).free z)
      · rw [take_snoc hd]
        exact DXs.snoc (DXs.same sg3 ta) tz
    · rintro H' ⟨sm, acc, g', eD, sgg, sgH, nD, fr, ta⟩
      rw [len, List.take_length] at ta
      refine q H' (upd g' D (.lst acc)) (.ref D) (s1.trans sm) (sgg.trans (same_upd nD)) (fun u v e => ?_) (fun u nu => ?_) (.seq upd_same ⟨.inl rfl, rfl⟩ (DXs.same (same_upd nD) ta))
      · by_cases eu : u = D
        · rw [eu, upd_same] at e
          rw [eu, ← Option.some.inj e]
          exact eD
        · rw [upd_ne eu] at e
          exact sgH _ _ e
      · by_cases eu : u = D
        · rw [eu]
          exact .inr hD0
        · rw [upd_ne eu] at nu
          exact fr u nu
theorem ok_lists (F : Fun K "_law_lists" "_law_lists" sLLists f fd) (B : Bl mg) (b : Binds K fd ["_law_matter"] []) (gl : mg "_law_lists" = some (.ref f)) : ∀ n, FnOk P w K mg base CX0 n f fd ["_law_matter"] (spLists n)
  | 0 => by
    have no : ∀ vs H Q E, ¬ spLists 0 vs H Q E := fun vs H Q E h => by
      obtain ⟨x, e, _, _, _, _, fin, _⟩ := h
      exact absurd fin.2 (Nat.not_lt_zero _)
    exact ⟨fun vs H Q E h => absurd h (no vs H Q E), fun A outer s H args us vs Q E _ _ _ _ h => absurd h (no vs H Q E)⟩
  | n + 1 => lists_step F B b gl (ok_lists F B b gl n)

/-! ### _law_same: of the same data True -/
def spSame (n : Nat) : Sp := fun vs H Q _ => ∃ (x y : V) (e : PyData), vs = [x, y] ∧ DD H x e ∧ DD H y e ∧ Fine n e ∧ ∀ H', Same H H' → Q (.bl true) H'
theorem iteY {c : Bool} {A B : Prop} (hc : c = true) (h : A) : if c = true then A else B := by
  rw [hc]
  exact iteT h
theorem iteN {c : Bool} {A B : Prop} (hc : c = false) (h : B) : if c = true then A else B := by
  rw [hc]
  exact iteF h
theorem bl_of {Q : VK} {H : Hp} {c : Bool} (hc : c = true) (h : Q (.bl true) H) : Q (.bl c) H := by
  rw [hc]
  exact h
/-- the type's name of a list, a tuple -/
def seqN : HO → String
  | .lst _ => "list"
  | _ => "tuple"
theorem ty_seq {H : Hp} {a : Addr} {o : HO} {xs : List V} (e : H a = some o) (c : o = .lst xs ∨ o = .tup xs) : TyX K H (.ref a) (.type (seqN o)) := by
  rcases c with rfl | rfl
  · exact .base (.lst e)
  · exact .base (.tup e)
theorem same_step {n : Nat} (F : Fun K "_law_same" "_law_same" sLSame f fd) (B : Bl mg) (b : Binds K fd ["_law_got", "_law_due"] []) (gl : mg "_law_same" = some (.ref f)) (G : FnOk P w K mg base CX0 n f fd ["_law_got", "_law_due"] (spSame n)) :
    FnOk P w K mg base CX0 (n + 1) f fd ["_law_got", "_law_due"] (spSame (n + 1)) := by
  refine F.ok scLSame (fun vs H Q E h => ?_) (fun cdv A outer s H vs Q E hr h => ?_)
  · obtain ⟨x, y, e, rfl, _⟩ := h
    rfl
  obtain ⟨x, y, e, rfl, hx, hy, fin, q⟩ := h
  have sm : ∀ {tp : Addr} {o : HO}, H tp = none → Same H (upd H tp o) := fun z => same_upd z
  have seq : ∀ {a b' : Addr} {o o2 : HO} {xs ys : List V} {ds : List PyData}, H a = some o → H b' = some o2 → ((o = .lst xs ∧ o2 = .lst ys) ∨ (o = .tup xs ∧ o2 = .tup ys)) → DDs H xs ds → DDs H ys ds → ds.length ≤ 1000 → (∀ d ∈ ds, Fine n d) →
      ∃ t, PSs (cxOf CX0 P w K mg base NLSame "_law_same" (defScope sLSame) f cdv A outer s H E).nox (defBody sLSame) t ∧ t { nx := fun _ H' => Q .non H', rt := Q } (start NLSame [.ref a, .ref b']) H := by
    intro a b' o o2 xs ys ds ea eb c tx ty len fine
    refine ⟨_, pss_cons (ps_if (pt_val (pe_isi2 (by rfl) B.isi (pv 1) (nm_list B (by rfl)) (nm_tuple B (by rfl))))
        (pss_cons (ps_if (PW.pt (pw_or (pt_cmpR op_ne (pe_isi (by rfl) B.isi (pv 0) (nm_list B (by rfl))) (pe_isi (by rfl) B.isi (pv 1) (nm_list B (by rfl))) (nomark _))
            (pw_or1 (pt_cmpR op_ne (pe_isi (by rfl) B.isi (pv 0) (nm_tuple B (by rfl))) (pe_isi (by rfl) B.isi (pv 1) (nm_tuple B (by rfl))) (nomark _))))) pss_never pss_nil)
          (pss_one (ps_ret (pe_and (pe_cmpR op_eq (pe_callB call_len_seq (by rfl) B.len PySem.boot_len (pa_cons (pv 0) pa_nil)) (pe_callB call_len_seq (by rfl) B.len PySem.boot_len (pa_cons (pv 1) pa_nil)) (nomark _))
            (pe_one (pe_callB (cr_all rfl) (by rfl) B.all (by decide +kernel) (pa_cons (pe_lc (own := [("_law_mine", 2), ("_law_its", 3)]) (g := gTup K 2 (gCons (gName 2) (gCons (gName 3) gNil))) (tt := tYes) rfl scLSame.nd (pi_zipS (by rfl) B.zip (pa_cons (pv 0) (pa_cons (pv 1) pa_nil)) (fun σ H Q Q' f ⟨v, e, u, e2, q⟩ => ⟨v, e, u, e2, f _ _ q⟩)) (blkOk_by (N := NLSame) (sc := defScope sLSame) (by decide +kernel))
              (fun _ _ _ _ _ => pg_tup rfl (pgs_cons (pg_name (i := 2) scLSame.nd rfl (Or.inl rfl)) (pgs_cons (pg_name (i := 3) scLSame.nd rfl (Or.inl rfl)) pgs_nil))) (fun _ _ _ _ _ => pts_nil) (fun _ _ _ _ _ => pe_call G hr (by rfl) gl F.kp b .nil pass0 (pa_cons (pv 2) (pa_cons (pv 3) pa_nil)))) pa_nil))))))) pss_nil) pss_never, ?_⟩
    have cy : o2 = .lst ys ∨ o2 = .tup ys := c.imp (·.2) (·.2)
    have cx : o = .lst xs ∨ o = .tup xs := c.imp (·.1) (·.1)
    have eN : seqN o = seqN o2 := by rcases c with ⟨rfl, rfl⟩ | ⟨rfl, rfl⟩ <;> rfl
    have kl : ∃ r, kitB (seqN o2) "list" = some r := by rcases cy with rfl | rfl; exact ⟨_, kit_ll⟩; exact ⟨_, kit_tl⟩
    have kt : ∃ r, kitB (seqN o2) "tuple" = some r := by rcases cy with rfl | rfl; exact ⟨_, kit_lt⟩; exact ⟨_, kit_tt⟩
    have klt : PySem.W.kitAny K (.type (seqN o2)) [.type "list", .type "tuple"] = some true := by rcases cy with rfl | rfl; exact kl_lt; exact kt_lt
    obtain ⟨r1, kl⟩ := kl
    obtain ⟨r2, kt⟩ := kt
    refine ⟨_, _, _, rfl, fun tp htp => ty_seq (sm htp _ _ eb) cy, klt, fun tp htp => ⟨_, rfl, iteT ?_⟩⟩
    have s1 := sm (o := .tup [.ty "list", .ty "tuple"]) htp
    generalize upd H tp (.tup [.ty "list", .ty "tuple"]) = H1 at s1
    have ea1 := s1 _ _ ea
    have eb1 := s1 _ _ eb
    refine ⟨_, _, _, rfl, ty_seq ea1 cx, by rw [eN]; exact kl, _, _, _, rfl, ty_seq eb1 cy, kl, rfl, _, rfl, iteNS rfl ?_⟩
    refine ⟨_, _, _, rfl, ty_seq ea1 cx, by rw [eN]; exact kt, _, _, _, rfl, ty_seq eb1 cy, kt, rfl, _, rfl, iteNS rfl ?_⟩
    have lx := tx.len
    have ly := ty.len
    refine ⟨_, rfl, a, xs, rfl, sq_any ea1 cx, _, rfl, b', ys, rfl, sq_any eb1 cy, rfl, _, rfl, ?_⟩
    rw [lx, ly, decide_eq_true rfl]
    refine iteT ?_
    refine ⟨_, rfl, _, rfl, a, b', o, o2, xs, ys, rfl, ea1, eb1, c, lx.trans ly.symm, fun J wk D hD => ?_⟩
    refine lc_it wk (fun i H' => Same H1 H' ∧ H' D = some (.lst ((List.replicate i true).map V.bl))) ⟨same_upd hD, upd_same⟩ (fun i H' _ p => ⟨p.1 _ _ ea1, p.1 _ _ eb1⟩) ?_ ?_
    · rintro i v H' H2 hi ⟨sm2, eD⟩ ⟨T, x1, y1, rfl, nT, rfl, hx1, hy1⟩
      obtain ⟨d, hd, tx1⟩ := tx.at_ hx1
      obtain ⟨d', hd', ty1⟩ := ty.at_ hy1
      obtain rfl : d = d' := Option.some.inj (hd.symm.trans hd')
      have s3 := (s1.trans sm2).trans (same_upd (o := .tup [x1, y1]) nT)
      refine ⟨T, _, rfl, SqT.of upd_same, rfl, x1, [y1], rfl, y1, [], rfl, rfl, rfl, _, rfl, _, rfl, x1, y1, d, rfl, DX.same s3 tx1, DX.same s3 ty1, fine d (List.mem_of_getElem? hd), fun H3 sm3 => ?_⟩
      have eD3 := sm3 _ _ ((upd_ne (ne_of_none eD nT)).trans eD)
      refine ⟨_, eD3, small1000 ?_, fun u z e => ?_, ?_⟩
      · rw [List.length_map, List.length_replicate]
        omega
      · rw [upd_ne (ne_of_none e hD)]
        exact sm3 _ _ (same_upd nT _ _ (sm2 _ _ e))
      · rw [upd_same, List.replicate_succ', List.map_append]
        rfl
    · rintro H' ⟨sm2, eD⟩
      refine ⟨D, _, rfl, SqL.of eD, ?_⟩
      have all : ∀ k, (List.replicate k true).all id = true := fun k => by
        rw [List.all_eq_true]
        intro x hx
        rw [(List.mem_replicate.mp hx).2]
        rfl
      rw [all]
      exact q H' (s1.trans sm2)
  cases hx with
  | non =>
    obtain rfl := DD.non' hy
    refine ⟨_, pss_cons (ps_if (pt_val (pe_isi2 (by rfl) B.isi (pv 1) (nm_list B (by rfl)) (nm_tuple B (by rfl)))) pss_never pss_nil)
      (pss_cons (ps_if (PW.pt (pw_or (pt_cmpR op_isN (pv 1) pe_non (nomark _)) (pw_or1 (pt_val (pe_isi2 (by rfl) B.isi (pv 1) (nm_bool B (by rfl)) (nm_str B (by rfl)))))))
        (pss_one (ps_ret (pe_and (pe_cmpR op_eq (pv 0) (pv 1) (nomark _)) (pe_and (pe_cmpR op_eq (pe_isi (by rfl) B.isi (pv 0) (nm_bool B (by rfl))) (pe_isi (by rfl) B.isi (pv 1) (nm_bool B (by rfl))) (nomark _))
          (pe_one (pe_cmpR op_eq (pe_cmpR op_isN (pv 0) pe_non (nomark _)) (pe_cmpR op_isN (pv 1) pe_non (nomark _)) (nomark _))))))) pss_nil) pss_never), ?_⟩
    refine ⟨_, _, _, rfl, fun tp _ => .base .non, kn_lt, fun tp htp => ⟨_, rfl, iteF ?_⟩⟩
    refine ⟨_, rfl, rfl, _, rfl, iteY (decide_eq_true rfl) (iteT ?_)⟩
    refine ⟨_, rfl, _, rfl, rfl, _, rfl, iteY (decide_eq_true rfl) ?_⟩
    refine ⟨_, _, _, rfl, .base .non, kit_nb, _, _, _, rfl, .base .non, kit_nb, rfl, _, rfl, iteY (decide_eq_true rfl) ?_⟩
    refine ⟨_, rfl, rfl, _, rfl, rfl, rfl, ?_⟩
    exact bl_of (decide_eq_true rfl) (q _ (sm htp))
  | int i =>
    obtain rfl := DD.int' hy
    refine ⟨_, pss_cons (ps_if (pt_val (pe_isi2 (by rfl) B.isi (pv 1) (nm_list B (by rfl)) (nm_tuple B (by rfl)))) pss_never pss_nil)
      (pss_cons (ps_if (PW.pt (pw_or (pt_cmpR op_isN (pv 1) pe_non (nomark _)) (pw_or1 (pt_val (pe_isi2 (by rfl) B.isi (pv 1) (nm_bool B (by rfl)) (nm_str B (by rfl))))))) pss_never pss_nil)
      (pss_one (ps_ret (pe_and (pe_isi (by rfl) B.isi (pv 0) (nm_int B (by rfl))) (pe_and (pe_not (pe_isi (by rfl) B.isi (pv 0) (nm_bool B (by rfl)))) (pe_one (pe_cmpR op_eq (pv 0) (pv 1) (nomark _)))))))), ?_⟩
    refine ⟨_, _, _, rfl, fun tp _ => .base (.int i), ki_lt, fun tp htp => ⟨_, rfl, iteF ?_⟩⟩
    refine ⟨_, rfl, rfl, _, rfl, iteN (decide_eq_false (by intro z; cases z)) ?_⟩
    refine ⟨_, _, _, rfl, fun tp _ => .base (.int i), ki_bs, fun tp2 htp2 => ⟨_, rfl, iteF ?_⟩⟩
    refine ⟨_, _, _, rfl, .base (.int i), kit_ii, _, rfl, iteT ?_⟩
    refine ⟨_, _, _, rfl, .base (.int i), kit_ib, _, rfl, _, rfl, iteT ?_⟩
    refine ⟨_, rfl, _, rfl, rfl, ?_⟩
    exact bl_of (decide_eq_true rfl) (q _ ((sm htp).trans (same_upd htp2)))
  | @seq a o xs ds _ ea c tx =>
    rcases c with ⟨rfl, rfl⟩ | ⟨rfl, rfl⟩
    · obtain ⟨b', ys, rfl, eb, ty⟩ := DD.lst hy
      exact seq ea eb (.inl ⟨rfl, rfl⟩) tx ty fin.lenL (fun d m => fin.kidL m)
    · obtain ⟨b', ys, rfl, eb, ty⟩ := DD.tup hy
      exact seq ea eb (.inr ⟨rfl, rfl⟩) tx ty fin.len (fun d m => fin.kid m)
theorem ok_same (F : Fun K "_law_same" "_law_same" sLSame f fd) (B : Bl mg) (b : Binds K fd ["_law_got", "_law_due"] []) (gl : mg "_law_same" = some (.ref f)) : ∀ n, FnOk P w K mg base CX0 n f fd ["_law_got", "_law_due"] (spSame n)
  | 0 => by
    have no : ∀ vs H Q E, ¬ spSame 0 vs H Q E := fun vs H Q E h => by
      obtain ⟨_, _, e, _, _, _, fin, _⟩ := h
      exact absurd fin.2 (Nat.not_lt_zero _)
    exact ⟨fun vs H Q E h => absurd h (no vs H Q E), fun A outer s H args us vs Q E _ _ _ _ h => absurd h (no vs H Q E)⟩
  | n + 1 => same_step F B b gl (ok_same F B b gl n)
end
end RK

namespace RK
open PySem PySem.Spec PyProof.Rows L2
/-! ### the parts of a MAKE, of courses -/
theorem tr_of {H : Hp} {x : V} {c : Tr} (h : TT H x (trD c)) : ∃ b, x = .ref b ∧ H b = some (.tup [.int c.1, .int c.2.1, .int c.2.2]) := by
  obtain ⟨b, ys, rfl, hb, hys⟩ := TT.tup h
  cases hys with
  | cons h1 t1 =>
    cases t1 with
    | cons h2 t2 =>
      cases t2 with
      | cons h3 t3 =>
        cases t3
        obtain rfl := TT.int' h1
        obtain rfl := TT.int' h2
        obtain rfl := TT.int' h3
        exact ⟨b, rfl, hb⟩
theorem pr_of {H : Hp} {x : V} {c : Pr} (h : TT H x (prD c)) : ∃ b, x = .ref b ∧ H b = some (.tup [.int c.1, .int c.2]) := by
  obtain ⟨b, ys, rfl, hb, hys⟩ := TT.tup h
  cases hys with
  | cons h1 t1 =>
    cases t1 with
    | cons h2 t2 =>
      cases t2
      obtain rfl := TT.int' h1
      obtain rfl := TT.int' h2
      exact ⟨b, rfl, hb⟩
theorem tr_mk {H : Hp} {b : Addr} {c : Tr} (h : H b = some (.tup [.int c.1, .int c.2.1, .int c.2.2])) : TT H (.ref b) (trD c) := DX.mk_tup h (.cons (.int _) (.cons (.int _) (.cons (.int _) .nil)))
theorem pr_mk {H : Hp} {b : Addr} {c : Pr} (h : H b = some (.tup [.int c.1, .int c.2])) : TT H (.ref b) (prD c) := DX.mk_tup h (.cons (.int _) (.cons (.int _) .nil))
theorem mk_of {H : Hp} {x : V} {m : Mk} (h : TT H x (mkD m)) : ∃ a xs ka kxs, x = .ref a ∧ H a = some (.tup xs) ∧ xs[0]? = some (.ref ka) ∧ xs[1]? = some (.int m.lag) ∧ H ka = some (.tup kxs) ∧
    ∀ k : Int, 0 ≤ k ∧ k < m.kinds.length → ∃ kb, kxs[k.toNat]? = some (.ref kb) ∧ H kb = some (.tup [.int (m.mark k), .int (m.at_ k).2.1, .int (m.melt k)]) := by
  obtain ⟨a, xs, rfl, ha, hxs⟩ := TT.tup h
  obtain ⟨x0, hx0, tx0⟩ := hxs.get (i := 0) rfl
  obtain ⟨x1, hx1, tx1⟩ := hxs.get (i := 1) rfl
  obtain rfl := TT.int' tx1
  obtain ⟨ka, kxs, rfl, hka, hk⟩ := TT.tup tx0
  refine ⟨a, xs, ka, kxs, rfl, ha, hx0, hx1, hka, fun k hk2 => ?_⟩
  obtain ⟨y, hy, ty⟩ := hk.get (i := k.toNat) (d := trD (m.at_ k)) (by rw [List.getElem?_map, Mk.atMem hk2]; rfl)
  obtain ⟨kb, rfl, hkb⟩ := tr_of ty
  exact ⟨kb, hy, hkb⟩
section
variable {P : Program} {w : World} {K : PySem.W.Frag} {mg : Str → Option Value} {base : Heap} {f : Addr} {fd : FuncData}

/-! ### load_marked -/
def spMarked : Sp := fun vs H Q _ => ∃ (x y : V) (h : Int) (m : Mk) (l : List Tr), vs = [x, y, .int h] ∧ TT H x (mkD m) ∧ TT H y (trsD l) ∧ l.length ≤ 1000 ∧ Named m (l.map (·.1)) ∧
  (Melts m l h → ∀ H', Same H H' → Q (.int (bricks l)) H') ∧ (¬ Melts m l h → ∀ H' z, Same H H' → TT H' z (trsD (stoodAt m l h)) → Q z H')
theorem ok_marked {fC fB : Addr} {fdC fdB : FuncData} (F : Fun K "load_marked" "load_marked" sLoadMarked f fd) (B : Bl mg) (FC : Fun K "course_heats" "course_heats" sCourseHeats fC fdC) (bC : Binds K fdC ["make", "heat", "many"] []) (gC : mg "course_heats" = some (.ref fC))
    (FB : Fun K "bricks_of" "bricks_of" sBricksOf fB fdB) (bB : Binds K fdB ["load"] []) (gB : mg "bricks_of" = some (.ref fB)) : FnOk P w K mg base CX0 2 f fd ["make", "load", "heat"] spMarked := by
  have GC : FnOk P w K mg base CX0 1 fC fdC ["make", "heat", "many"] spCourse := ok_course FC B
  have GB : FnOk P w K mg base CX0 1 fB fdB ["load"] spBricks := ok_bricks FB B
  refine F.ok scLoadMarked (fun vs H Q E h => ?_) (fun cdv A outer s H vs Q E hr h => ?_)
  · obtain ⟨x, y, h, m, l, rfl, _⟩ := h
    rfl
  obtain ⟨x, y, h, m, l, rfl, hx, hy, len, nm, q1, q2⟩ := h
  have hx' := hx
  obtain ⟨a, xs, ka, kxs, rfl, ha, hx0, hx1, hka, kinds⟩ := mk_of hx
  obtain ⟨ya, ys, rfl, hya, tys⟩ := TT.tup hy
  have lys := tys.len
  rw [List.length_map] at lys
  have nd := scLoadMarked.nd
  refine ⟨_, pss_cons (ps_if (pt_not (pt_val (pe_isi (by rfl) B.isi (pv 1) (nm_tuple B (by rfl))))) pss_never pss_nil)
    (pss_cons (ps_set (i := 3) nd rfl (Or.inl rfl) (pe_lst pa_nil))
    (pss_cons (ps_for PassesOwn.never rfl (pi_zipS (by rfl) B.zip (pa_cons (pv 1) (pa_cons (pe_call GC hr (by rfl) gC FC.kp bC .nil pass0 (pa_cons (pv 0) (pa_cons (pv 2) (pa_cons (pe_callB call_len_seq (by rfl) B.len PySem.boot_len (pa_cons (pv 1) pa_nil)) pa_nil)))) pa_nil))
          (fun σ H Q Q' g ⟨v, e, v0, e0, v2, e2, v1, e1, p, zs, ep, sq, x', m', h', n', ev, tx, hn, q⟩ => ⟨v, e, v0, e0, v2, e2, v1, e1, p, zs, ep, sq, x', m', h', n', ev, tx, hn, fun H' y s t => g _ _ (q H' y s t)⟩))
        (pg_tup rfl (pgs_cons (pg_tup rfl (pgs_cons (pg_name (i := 4) nd rfl (Or.inl rfl)) (pgs_cons (pg_name (i := 5) nd rfl (Or.inl rfl)) (pgs_cons (pg_name (i := 6) nd rfl (Or.inl rfl)) pgs_nil)))) (pgs_cons (pg_name (i := 7) nd rfl (Or.inl rfl)) pgs_nil)))
      (pss_cons (ps_asg (pe_ix ix_tup (pe_ix ix_tup (pv 0) pe_int (fun _ _ => rfl)) (pv 4) (fun _ _ => rfl)) (pg_tup rfl (pgs_cons (pg_name (i := 8) nd rfl (Or.inl rfl)) (pgs_cons (pg_name (i := 9) nd rfl (Or.inl rfl)) (pgs_cons (pg_name (i := 10) nd rfl (Or.inl rfl)) pgs_nil)))))
      (pss_cons (ps_if (pt_cmpR op_gt (pv 7) (pv 10) (nomark _)) (pss_one (ps_ret (pe_call GB hr (by rfl) gB FB.kp bB .nil pass0 (pa_cons (pv 1) pa_nil)))) pss_nil)
      (pss_one (ps_expr (pe_bm PySem.F.plainAttrs_list PySem.F.slot_list_append PySem.F.type_list_append mt_append (pv 3) (pa_cons (pe_tup (pa_cons (pv 4) (pa_cons (pv 5) (pa_cons (pe_op op_add (pv 6) (pe_callTy call_int1 (by rfl) B.int (by decide +kernel) (pa_cons (pe_cmpR op_ge (pv 7) (pv 8) (nomark _)) pa_nil))) pa_nil)))) pa_nil)))))))
    (pss_one (ps_ret (pe_callTy call_tuple_of (by rfl) B.tuple (by decide +kernel) (pa_cons (pv 3) pa_nil)))))), ?_⟩
  refine ⟨_, _, _, rfl, .base (.tup hya), kit_tt, _, rfl, iteF ?_⟩
  refine ⟨Nat.zero_le _, fun fo hfo => ?_⟩
  have sF : Same H (upd H fo (.lst [])) := same_upd hfo
  refine ⟨_, rfl, _, rfl, _, rfl, _, rfl, ya, ys, rfl, .inr (SqT.of (sF _ _ hya)), .ref a, m, h, ys.length, rfl, DX.same sF hx', by omega, fun H2 z s2 tz => ?_⟩
  obtain ⟨zb, zs, rfl, hzb, tzs⟩ := TT.tup tz
  have lzs := tzs.len
  rw [List.length_map] at lzs
  unfold owns at lzs
  rw [List.length_map, List.length_range] at lzs
  have eF2 : H2 fo = some (.lst []) := s2 _ _ upd_same
  refine ⟨ya, zb, .tup ys, .tup zs, ys, zs, rfl, s2 _ _ (sF _ _ hya), hzb, .inr ⟨rfl, rfl⟩, lzs.symm, fun J wk => ?_⟩
  refine for_it wk (fun i σ H' => ∃ (v4 v5 v6 v7 v8 v9 v10 : Option V) (acc : List V), σ = [some (.ref a), some (.ref ya), some (.int h), some (.ref fo), v4, v5, v6, v7, v8, v9, v10] ∧ Same H H' ∧ H' zb = some (.tup zs) ∧ H' fo = some (.lst acc) ∧
      TTs H' acc (((stoodAt m l h).take i).map trD) ∧ ∀ (j : Nat) c, j < i → l[j]? = some c → ¬ m.melt c.1 < ownAt m h j)
    ⟨none, none, none, none, none, none, none, [], rfl, sF.trans s2, hzb, eF2, .nil, fun j c z => absurd z (Nat.not_lt_zero _)⟩ (fun i σ H' _ ⟨_, _, _, _, _, _, _, _, _, sm, ez, _⟩ => ⟨sm _ _ hya, ez⟩) ?_ ?_
  · rintro i v σ H' H3 hi ⟨v4, v5, v6, v7, v8, v9, v10, acc, rfl, sm, ez, ef, ta, cold⟩ ⟨T, x1, y1, rfl, nT, rfl, hx1, hy1⟩
    obtain ⟨d, hd, tx1⟩ := tys.at_ hx1
    rw [List.getElem?_map] at hd
    obtain ⟨c, hc, rfl⟩ := Option.map_eq_some_iff.mp hd
    obtain ⟨b, rfl, hb⟩ := tr_of tx1
    obtain ⟨d2, hd2, ty1⟩ := tzs.at_ hy1
    have il : i < l.length := (List.getElem?_eq_some_iff.mp hc).1
    have ed2 : d2 = .int (ownAt m h i) := by
      rw [List.getElem?_map] at hd2
      unfold owns at hd2
      rw [List.getElem?_map, List.getElem?_range (by omega)] at hd2
      exact (Option.some.inj hd2).symm
    subst ed2
    obtain rfl := TT.int' ty1
    have sT : Same H' (upd H' T (.tup [.ref b, .int (ownAt m h i)])) := same_upd nT
    have sHT := sm.trans sT
    have nmc := nm c.1 (List.mem_map.mpr ⟨c, List.mem_of_getElem? hc, rfl⟩)
    obtain ⟨kb, hkb, hkt⟩ := kinds c.1 nmc
    refine ⟨T, _, rfl, SqT.of upd_same, rfl, _, _, rfl, ⟨b, _, rfl, SqT.of (sHT _ _ hb), rfl, _, _, rfl, _, _, rfl, _, _, rfl, rfl, _, _, rfl, rfl, ?_⟩⟩
    refine ⟨_, rfl, a, xs, 0, _, rfl, rfl, SqT.of (sHT _ _ ha), atI_nat (j := 0) hx0, _, rfl, ka, kxs, c.1, _, rfl, rfl, SqT.of (sHT _ _ hka), at_of (j := c.1.toNat) (by omega) hkb, kb, _, rfl, SqT.of (sHT _ _ hkt), rfl, _, _, rfl, _, _, rfl, _, _, rfl, rfl, ?_⟩
    refine ⟨_, rfl, _, rfl, _, _, rfl, rfl, _, rfl, ite2 (fun hot => ?_) (fun cool => ?_)⟩
    · have hot' : m.melt c.1 < ownAt m h i := of_decide_eq_true hot
      refine ⟨_, rfl, .ref ya, l, rfl, DX.same sHT hy, len, fun H4 s4 => ?_⟩
      exact q1 ⟨i, c, hc, hot'⟩ H4 (sHT.trans s4)
    · have cool' : ¬ m.melt c.1 < ownAt m h i := of_decide_eq_false (Bool.eq_false_iff.mpr cool)
      have efT := sT _ _ ef
      have int01 : ∀ {Q : VK} {H' : Hp}, Q (.int (if m.mark c.1 ≤ ownAt m h i then 1 else 0)) H' → Q (.int (if decide (m.mark c.1 ≤ ownAt m h i) = true then 1 else 0)) H' := fun z => by simpa using z
      refine ⟨_, rfl, .inl ⟨rfl, _, SqL.of efT⟩, _, rfl, _, rfl, _, rfl, _, rfl, _, rfl, _, _, rfl, rfl, .inr ⟨_, rfl, _, _, rfl, rfl, by show 3 ≤ sizeLine; decide, fun U hU => ?_⟩⟩
      have nUf : fo ≠ U := ne_of_none efT hU
      have sU : Same H (upd (upd H' T (.tup [.ref b, .int (ownAt m h i)])) U (.tup [.int c.1, .int c.2.1, .int (c.2.2 + (if decide (m.mark c.1 ≤ ownAt m h i) = true then 1 else 0))])) := sHT.trans (same_upd hU)
      have efU := same_upd (o := .tup [.int c.1, .int c.2.1, .int (c.2.2 + (if decide (m.mark c.1 ≤ ownAt m h i) = true then 1 else 0))]) hU _ _ efT
      refine ⟨fo, acc, _, rfl, rfl, efU, small1000 ?_, _, _, _, _, _, _, _, acc ++ [.ref U], rfl, fun u z e => ?_, ?_, upd_same, ?_, fun j c' hj hc' => ?_⟩
      · rw [ta.len, List.length_map, List.length_take]
        refine Nat.le_trans (Nat.min_le_right _ _) ?_
        unfold stoodAt
        rw [List.length_mapIdx]
        exact len
      · rw [upd_ne (ne_of_none e hfo)]
        exact sU _ _ e
      · rw [upd_ne (ne_of (o := .tup zs) (same_upd hU _ _ (sT _ _ ez)) efU (by intro z; cases z))]
        exact same_upd hU _ _ (sT _ _ ez)
      · rw [take_snoc (show (stoodAt m l h)[i]? = some (c.1, c.2.1, c.2.2 + (if m.mark c.1 ≤ ownAt m h i then 1 else 0)) by unfold stoodAt; rw [List.getElem?_mapIdx, hc]; rfl), List.map_append]
        refine TTs.stay (tupS_lst efU) (DXs.snoc (DXs.same (sT.trans (same_upd hU)) ta) (tr_mk ?_))
        rw [upd_same]
        simp
      · rcases Nat.lt_or_ge j i with z | z
        · exact cold j c' z hc'
        · have ej : j = i := by omega
          subst ej
          rw [hc] at hc'
          rw [← Option.some.inj hc']
          exact cool'
  · rintro σ H' ⟨v4, v5, v6, v7, v8, v9, v10, acc, rfl, sm, ez, ef, ta, cold⟩
    have cool : ¬ Melts m l h := by
      rintro ⟨j, c, hc, lt⟩
      have jl := (List.getElem?_eq_some_iff.mp hc).1
      exact cold j c (by omega) hc lt
    rw [List.take_of_length_le (by unfold stoodAt; rw [List.length_mapIdx]; omega)] at ta
    refine ⟨_, rfl, fo, acc, rfl, .inl ⟨SqL.of ef, fun p hp => ?_⟩⟩
    exact q2 cool _ _ (sm.trans (same_upd hp)) (DX.mk_tup upd_same (DXs.same (same_upd hp) ta))
end
end RK

namespace RK
open PySem PySem.Spec PyProof.Rows L2
theorem trT_of {H : Hp} {x : V} {c : Tr} (h : DT H x (trD c)) : ∃ b o, x = .ref b ∧ H b = some o ∧ (o = .lst [.int c.1, .int c.2.1, .int c.2.2] ∨ o = .tup [.int c.1, .int c.2.1, .int c.2.2]) := by
  obtain ⟨b, o, ys, rfl, hb, ho, hys⟩ := DT.sq h
  cases hys with
  | cons h1 t1 =>
    cases t1 with
    | cons h2 t2 =>
      cases t2 with
      | cons h3 t3 =>
        cases t3
        obtain rfl := DT.int' h1
        obtain rfl := DT.int' h2
        obtain rfl := DT.int' h3
        exact ⟨b, o, rfl, hb, ho⟩
theorem prT_of {H : Hp} {x : V} {c : Pr} (h : DT H x (prD c)) : ∃ b o, x = .ref b ∧ H b = some o ∧ (o = .lst [.int c.1, .int c.2] ∨ o = .tup [.int c.1, .int c.2]) := by
  obtain ⟨b, o, ys, rfl, hb, ho, hys⟩ := DT.sq h
  cases hys with
  | cons h1 t1 =>
    cases t1 with
    | cons h2 t2 =>
      cases t2
      obtain rfl := DT.int' h1
      obtain rfl := DT.int' h2
      exact ⟨b, o, rfl, hb, ho⟩
theorem mkT_of {H : Hp} {x : V} {m : Mk} (h : DT H x (mkD m)) : ∃ a o xs ka ko kxs, x = .ref a ∧ H a = some o ∧ (o = .lst xs ∨ o = .tup xs) ∧ xs[0]? = some (.ref ka) ∧ xs[1]? = some (.int m.lag) ∧ H ka = some ko ∧ (ko = .lst kxs ∨ ko = .tup kxs) ∧
    ∀ k : Int, 0 ≤ k ∧ k < m.kinds.length → ∃ kb kbo, kxs[k.toNat]? = some (.ref kb) ∧ H kb = some kbo ∧ (kbo = .lst [.int (m.mark k), .int (m.at_ k).2.1, .int (m.melt k)] ∨ kbo = .tup [.int (m.mark k), .int (m.at_ k).2.1, .int (m.melt k)]) := by
  obtain ⟨a, o, xs, rfl, ha, ho, hxs⟩ := DT.sq h
  obtain ⟨x0, hx0, tx0⟩ := hxs.get (i := 0) rfl
  obtain ⟨x1, hx1, tx1⟩ := hxs.get (i := 1) rfl
  obtain rfl := DT.int' tx1
  obtain ⟨ka, ko, kxs, rfl, hka, hko, hk⟩ := DT.sq tx0
  refine ⟨a, o, xs, ka, ko, kxs, rfl, ha, ho, hx0, hx1, hka, hko, fun k hk2 => ?_⟩
  obtain ⟨y, hy, ty⟩ := hk.get (i := k.toNat) (d := trD (m.at_ k)) (by rw [List.getElem?_map, Mk.atMem hk2]; rfl)
  obtain ⟨kb, kbo, rfl, hkb, hkbo⟩ := trT_of ty
  exact ⟨kb, kbo, hy, hkb, hkbo⟩
section
variable {P : Program} {w : World} {K : PySem.W.Frag} {mg : Str → Option Value} {base : Heap} {f : Addr} {fd : FuncData}

/-! ### load_behind one tick -/
def spBehind : Sp := fun vs H Q _ => ∃ (x y : V) (ha : Addr) (h : Int) (m : Mk) (l : List Tr), vs = [x, y, .ref ha] ∧ DT H x (mkD m) ∧ DT H y (trsD l) ∧ Fine 4 (mkD m) ∧ Fine 4 (trsD l) ∧ H ha = some (.tup [.int h]) ∧ Named m (l.map (·.1)) ∧
  (Melts m l h → ∀ H', Same H H' → Q (.int (bricks l)) H') ∧ (¬ Melts m l h → ∀ H' z, Same H H' → TT H' z (trsD (stoodAt m l h)) → Q z H')
theorem fine_trs {n : Nat} {l : List Tr} (h : Fine n (trsD l)) : l.length ≤ 1000 := by
  have z := Fine.len (ds := l.map trD) h
  rw [List.length_map] at z
  exact z
theorem ok_behind {fT fM : Addr} {fdT fdM : FuncData} (F : Fun K "load_behind" "load_behind" sLoadBehind f fd) (B : Bl mg) (GT : FnOk P w K mg base CX0 4 fT fdT ["matter"] (spTupled 4)) (bT : Binds K fdT ["matter"] []) (kT : PySem.W.keepIn K (.ref fT) = true) (gT : mg "tupled" = some (.ref fT))
    (GM : FnOk P w K mg base CX0 2 fM fdM ["make", "load", "heat"] spMarked) (bM : Binds K fdM ["make", "load", "heat"] []) (kM : PySem.W.keepIn K (.ref fM) = true) (gM : mg "load_marked" = some (.ref fM)) : FnOk P w K mg base CX0 5 f fd ["make", "load", "heats"] spBehind := by
  refine F.ok scLoadBehind (fun vs H Q E h => ?_) (fun cdv A outer s H vs Q E hr h => ?_)
  · obtain ⟨x, y, ha, h, m, l, rfl, _⟩ := h
    rfl
  obtain ⟨x, y, ha, h, m, l, rfl, hx, hy, fx, fy, hh, nm, q1, q2⟩ := h
  have nd := scLoadBehind.nd
  refine ⟨_, pss_cons (ps_par (i := 3) (j := 4) rfl nd rfl rfl (by decide) rfl rfl (pa_cons (pe_call GT hr (by rfl) gT kT bT .nil pass0 (pa_cons (pv 0) pa_nil)) (pa_cons (pe_call GT hr (by rfl) gT kT bT .nil pass0 (pa_cons (pv 1) pa_nil)) pa_nil)) (by rfl))
    (pss_cons (ps_for PassesOwn.never rfl (pi_tup (pv 2)) (pg_name (i := 5) nd rfl (Or.inl rfl)) (pss_one (ps_set (i := 4) nd rfl (Or.inl rfl) (pe_call GM (hr.mono (by decide)) (by rfl) gM kM bM .nil pass0 (pa_cons (pv 3) (pa_cons (pv 4) (pa_cons (pv 5) pa_nil)))))))
    (pss_one (ps_ret (pv 4)))), ?_⟩
  refine ⟨_, rfl, x, _, rfl, hx, fx, fun H1 x1 s1 tx1 => ?_⟩
  refine ⟨_, rfl, y, _, rfl, DX.same s1 hy, fy, fun H2 y2 s2 ty2 => ?_⟩
  have s12 := s1.trans s2
  refine ⟨x1, y2, rfl, _, rfl, ha, rfl, ⟨_, SqT.of (s12 _ _ hh)⟩, ?_⟩
  refine for_it (walk_tup (xs := [V.int h])) (fun i σ H' => ∃ (z : V) (v5 : Option V), σ = [some x, some y, some (.ref ha), some x1, some z, v5] ∧ ((i = 0 ∧ z = y2 ∧ H' = H2) ∨ (i = 1 ∧ Same H H' ∧ Q z H'))) ⟨y2, none, rfl, .inl ⟨rfl, rfl, rfl⟩⟩ (fun i σ H' _ ⟨z, v5, _, c⟩ => ?_) ?_ ?_
  · rcases c with ⟨_, _, rfl⟩ | ⟨_, sm, _⟩
    · exact SqT.of (s12 _ _ hh)
    · exact SqT.of (sm _ _ hh)
  · rintro i v σ H' H3 hi ⟨z, v5, rfl, c⟩ ⟨rfl, hv⟩
    have i0 : i = 0 := by
      have z : i < 1 := hi
      omega
    subst i0
    obtain rfl : V.int h = v := Option.some.inj hv
    rcases c with ⟨_, rfl, rfl⟩ | ⟨z1, _⟩
    · refine ⟨_, rfl, _, rfl, _, rfl, x1, z, h, m, l, rfl, DX.same s2 tx1, ty2, fine_trs fy, nm, fun hot H4 s4 => ?_, fun cool H4 z4 s4 t4 => ?_⟩
      · exact ⟨_, _, rfl, .inr ⟨rfl, s12.trans s4, q1 hot H4 (s12.trans s4)⟩⟩
      · exact ⟨_, _, rfl, .inr ⟨rfl, s12.trans s4, q2 cool H4 z4 (s12.trans s4) t4⟩⟩
    · cases z1
  · rintro σ H' ⟨z, v5, rfl, c⟩
    rcases c with ⟨z0, _⟩ | ⟨_, sm, q⟩
    · cases z0
    · exact ⟨z, rfl, q⟩

/-! ### firing_heats -/
def spFiring : Sp := fun vs H Q _ => ∃ (x y : V) (m : Mk) (g : Odr), vs = [x, y] ∧ DT H x (mkD m) ∧ DT H y (odD g) ∧ g ≠ [] ∧ g.length ≤ 1000 ∧ Named m (g.map (·.1)) ∧ ∀ H' z, Same H H' → TT H' z (fireD (fire m g)) → Q z H'
theorem ok_firing (F : Fun K "firing_heats" "firing_heats" sFiringHeats f fd) (B : Bl mg) : FnOk P w K mg base CX0 1 f fd ["make", "green"] spFiring := by
  refine F.ok scFiringHeats (fun vs H Q E h => ?_) (fun cdv A outer s H vs Q E hr h => ?_)
  · obtain ⟨x, y, m, g, rfl, _⟩ := h
    rfl
  obtain ⟨x, y, m, g, rfl, hx, hy, hg, lg, nm, q⟩ := h
  obtain ⟨a, o, xs, ka, ko, kxs, rfl, ha, ho, hx0, hx1, hka, hko, kinds⟩ := mkT_of hx
  obtain ⟨ya, yo, ys, rfl, hya, hyo, tys⟩ := DT.sq hy
  have lys := tys.len
  rw [List.length_map] at lys
  have nd := scFiringHeats.nd
  refine ⟨_, pss_cons (ps_asg (pe_tup (pa_cons (pe_ix ix_seq (pv 0) pe_int (fun _ _ => rfl)) (pa_cons (pe_ix ix_seq (pv 0) pe_int (fun _ _ => rfl)) pa_nil))) (pg_tup rfl (pgs_cons (pg_name (i := 2) nd rfl (Or.inr rfl)) (pgs_cons (pg_name (i := 3) nd rfl (Or.inr rfl)) pgs_nil))))
    (pss_cons (ps_set (i := 4) nd rfl (Or.inl rfl) (pe_callB (cr_max rfl) (by rfl) B.max (by decide +kernel) (pa_cons (pe_lc (own := [("place", 6), ("kind", 7), ("_", 8)]) (g := gTup K 2 (gCons (gName 6) (gCons (gAny K 2 (gCons (gName 7) (gCons (gName 8) gNil))) gNil))) (tt := tYes) rfl nd (pi_enumS (by rfl) B.enum (pv 1)) (blkOk_by (N := NFiringHeats) (sc := defScope sFiringHeats) (by decide +kernel))
      (fun _ _ _ _ _ => pg_tup rfl (pgs_cons (pg_name (i := 6) nd rfl (Or.inl rfl)) (pgs_cons (pg_any rfl (pgs_cons (pg_name (i := 7) nd rfl (Or.inl rfl)) (pgs_cons (pg_name (i := 8) nd rfl (Or.inl rfl)) pgs_nil))) pgs_nil))) (fun _ _ _ _ _ => pts_nil)
      (fun _ _ _ _ _ => pe_op op_add (pe_ix (r := rIx K) ix_seq (pe_ix (r := rIx K) ix_seq (pv 2) (pv 7) (fun _ _ => rfl)) pe_int (fun _ _ => rfl)) (pe_op op_mul (pv 6) (pv 3)))) pa_nil)))
    (pss_cons (ps_set (i := 5) nd rfl (Or.inl rfl) (pe_callB (cr_min rfl) (by rfl) B.min (by decide +kernel) (pa_cons (pe_lc (own := [("place", 6), ("kind", 7), ("_", 8)]) (g := gTup K 2 (gCons (gName 6) (gCons (gAny K 2 (gCons (gName 7) (gCons (gName 8) gNil))) gNil))) (tt := tYes) rfl nd (pi_enumS (by rfl) B.enum (pv 1)) (blkOk_by (N := NFiringHeats) (sc := defScope sFiringHeats) (by decide +kernel))
      (fun _ _ _ _ _ => pg_tup rfl (pgs_cons (pg_name (i := 6) nd rfl (Or.inl rfl)) (pgs_cons (pg_any rfl (pgs_cons (pg_name (i := 7) nd rfl (Or.inl rfl)) (pgs_cons (pg_name (i := 8) nd rfl (Or.inl rfl)) pgs_nil))) pgs_nil))) (fun _ _ _ _ _ => pts_nil)
      (fun _ _ _ _ _ => pe_op op_add (pe_ix (r := rIx K) ix_seq (pe_ix (r := rIx K) ix_seq (pv 2) (pv 7) (fun _ _ => rfl)) pe_int (fun _ _ => rfl)) (pe_op op_mul (pv 6) (pv 3)))) pa_nil)))
    (pss_one (ps_ret (pe_ifExp (pt_cmpR op_le (pv 4) (pv 5) (nomark _)) (pe_tup (pa_cons (pv 4) (pa_cons (pv 5) pa_nil))) pe_non))))), ?_⟩
  refine ⟨_, rfl, ix_any ha ho (atI_nat (j := 0) hx0) ?_⟩
  refine ⟨_, rfl, ix_any ha ho (atI_nat (j := 1) hx1) ?_⟩
  refine ⟨by show 2 ≤ sizeLine; decide, fun T0 hT0 => ?_⟩
  have s1 : Same H (upd H T0 (.tup [.ref ka, .int m.lag])) := same_upd hT0
  refine ⟨T0, _, rfl, SqT.of upd_same, rfl, _, _, rfl, _, _, rfl, rfl, ?_⟩
  generalize upd H T0 (.tup [.ref ka, .int m.lag]) = H1 at s1
  -- los
  refine ⟨ya, yo, ys, rfl, s1 _ _ hya, hyo, fun J wk D hD => ?_⟩
  refine lc_it wk (fun i H' => Same H1 H' ∧ H' D = some (.lst (((los m g).take i).map V.int))) ⟨same_upd hD, upd_same⟩ (fun i H' _ p => p.1 _ _ (s1 _ _ hya)) ?_ ?_
  · rintro i v H' H3 hi ⟨sm, eD⟩ ⟨T, n1, x1, rfl, nT, rfl, hn1, hx1⟩
    obtain rfl : V.int (i : Nat) = n1 := Option.some.inj hn1
    obtain ⟨d, hd, tx1⟩ := tys.at_ hx1
    rw [List.getElem?_map] at hd
    obtain ⟨c, hc, rfl⟩ := Option.map_eq_some_iff.mp hd
    obtain ⟨b, bo, rfl, hb, hbo⟩ := prT_of tx1
    have il : i < g.length := (List.getElem?_eq_some_iff.mp hc).1
    have sT : Same H (upd H' T (.tup [.int (i : Nat), .ref b])) := (s1.trans sm).trans (same_upd nT)
    obtain ⟨kb, kbo, hkb, hkt, hkbo⟩ := kinds c.1 (named_at nm hc)
    refine ⟨T, _, rfl, SqT.of upd_same, rfl, _, _, rfl, _, _, rfl, ?_⟩
    refine gAny_of (sT _ _ hb) hbo ?_
    refine ⟨_, _, rfl, _, _, rfl, rfl, rfl, rfl, _, rfl, _, rfl, ?_⟩
    refine ix_any (sT _ _ hka) hko (at_of (j := c.1.toNat) (by have := (named_at nm hc).1; omega) hkb) ?_
    refine ix_any (sT _ _ hkt) hkbo (atI_nat (j := 0) rfl) ?_
    refine ⟨_, rfl, _, rfl, _, _, rfl, rfl, .inl ⟨by omega, by omega⟩, _, _, rfl, rfl, ?_⟩
    have eD2 := (upd_ne (ne_of_none eD nT) : (upd H' T (.tup [.int (i : Nat), .ref b])) D = H' D).trans eD
    refine ⟨_, eD2, tk_small (by unfold los; rw [List.length_mapIdx]; exact lg), fun u z e => ?_, ?_⟩
    · rw [upd_ne (ne_of_none e hD)]
      exact same_upd nT _ _ (sm _ _ e)
    · rw [upd_same, take_snoc (show (los m g)[i]? = some (m.mark c.1 + (i : Int) * m.lag) by unfold los; rw [List.getElem?_mapIdx, hc]; rfl), List.map_append]
      rfl
  rintro H2 ⟨sm1, eD⟩
  have len1 : (los m g).take ys.length = los m g := List.take_of_length_le (by unfold los; rw [List.length_mapIdx]; omega)
  rw [len1] at eD
  refine ⟨D, los m g, rfl, SqL.of eD, List.length_pos_iff.mpr (los_ne hg), fun lo hlo hle => ?_⟩
  obtain rfl := lmax_one hlo hle
  have s2 := s1.trans sm1
  -- his
  refine ⟨ya, yo, ys, rfl, s2 _ _ hya, hyo, fun J wk D hD => ?_⟩
  refine lc_it wk (fun i H' => Same H2 H' ∧ H' D = some (.lst (((his m g).take i).map V.int))) ⟨same_upd hD, upd_same⟩ (fun i H' _ p => p.1 _ _ (s2 _ _ hya)) ?_ ?_
  · rintro i v H' H3 hi ⟨sm, eD⟩ ⟨T, n1, x1, rfl, nT, rfl, hn1, hx1⟩
    obtain rfl : V.int (i : Nat) = n1 := Option.some.inj hn1
    obtain ⟨d, hd, tx1⟩ := tys.at_ hx1
    rw [List.getElem?_map] at hd
    obtain ⟨c, hc, rfl⟩ := Option.map_eq_some_iff.mp hd
    obtain ⟨b, bo, rfl, hb, hbo⟩ := prT_of tx1
    have il : i < g.length := (List.getElem?_eq_some_iff.mp hc).1
    have sT : Same H (upd H' T (.tup [.int (i : Nat), .ref b])) := (s2.trans sm).trans (same_upd nT)
    obtain ⟨kb, kbo, hkb, hkt, hkbo⟩ := kinds c.1 (named_at nm hc)
    refine ⟨T, _, rfl, SqT.of upd_same, rfl, _, _, rfl, _, _, rfl, ?_⟩
    refine gAny_of (sT _ _ hb) hbo ?_
    refine ⟨_, _, rfl, _, _, rfl, rfl, rfl, rfl, _, rfl, _, rfl, ?_⟩
    refine ix_any (sT _ _ hka) hko (at_of (j := c.1.toNat) (by have := (named_at nm hc).1; omega) hkb) ?_
    refine ix_any (sT _ _ hkt) hkbo (atI_nat (j := 2) rfl) ?_
    refine ⟨_, rfl, _, rfl, _, _, rfl, rfl, .inl ⟨by omega, by omega⟩, _, _, rfl, rfl, ?_⟩
    have eD2 := (upd_ne (ne_of_none eD nT) : (upd H' T (.tup [.int (i : Nat), .ref b])) D = H' D).trans eD
    refine ⟨_, eD2, tk_small (by unfold his; rw [List.length_mapIdx]; exact lg), fun u z e => ?_, ?_⟩
    · rw [upd_ne (ne_of_none e hD)]
      exact same_upd nT _ _ (sm _ _ e)
    · rw [upd_same, take_snoc (show (his m g)[i]? = some (m.melt c.1 + (i : Int) * m.lag) by unfold his; rw [List.getElem?_mapIdx, hc]; rfl), List.map_append]
      rfl
  rintro H3 ⟨sm2, eD3⟩
  have len2 : (his m g).take ys.length = his m g := List.take_of_length_le (by unfold his; rw [List.length_mapIdx]; omega)
  rw [len2] at eD3
  rename_i D3 _
  refine ⟨_, his m g, rfl, SqL.of eD3, List.length_pos_iff.mpr (his_ne hg), fun hi2 hhi hge => ?_⟩
  obtain rfl := lmin_one hhi hge
  have s3 := s2.trans sm2
  refine ⟨_, rfl, _, rfl, _, _, rfl, rfl, _, rfl, ite2 (fun c => ?_) (fun c => ?_)⟩
  · have c' : lmax (los m g) ≤ lmin (his m g) := of_decide_eq_true c
    refine ⟨_, rfl, _, rfl, by show 2 ≤ sizeLine; decide, fun p hp => q _ _ (s3.trans (same_upd hp)) ?_⟩
    unfold fire
    rw [if_pos c']
    exact pr_mk upd_same
  · have c' : ¬ lmax (los m g) ≤ lmin (his m g) := of_decide_eq_false (Bool.eq_false_iff.mpr c)
    refine q _ _ s3 ?_
    unfold fire
    rw [if_neg c']
    exact .non
end
end RK

namespace RK
open PySem PySem.Spec PyProof.Rows L2
/-! ### slices and sums of tuples, read -/
theorem cut_to (xs : List V) (k : Nat) : cutV xs none (some (k : Int)) = xs.take k := by
  unfold cutV
  rw [HT.sIx_none, HT.sIx_nat, List.drop_zero, Nat.sub_zero]
  rcases Nat.le_total k xs.length with c | c
  · rw [Nat.min_eq_left c]
  · rw [Nat.min_eq_right c, List.take_of_length_le (Nat.le_refl _), List.take_of_length_le c]
theorem cut_from (xs : List V) (k : Nat) : cutV xs (some (k : Int)) none = xs.drop k := by
  unfold cutV
  rw [HT.sIx_none, HT.sIx_nat]
  rcases Nat.le_total k xs.length with c | c
  · rw [Nat.min_eq_left c, List.take_of_length_le (by rw [List.length_drop]; omega)]
  · rw [Nat.min_eq_right c, Nat.sub_self, List.take_zero, List.drop_of_length_le c]
theorem cut_all (xs : List V) {lo hi : Option Int} (c : HT.sIx xs.length 0 lo = 0 ∧ HT.sIx xs.length xs.length hi = xs.length) : cutV xs lo hi = xs := by
  unfold cutV
  rw [c.1, c.2, List.drop_zero, Nat.sub_zero, List.take_length]
theorem sl_read {K : PySem.W.Frag} {H : Hp} {a : Addr} {xs : List V} {lo hi : Option Int} {Q : VK} (e : H a = some (.tup xs)) (r : ∀ b H', Same H H' → H' b = some (.tup (cutV xs lo hi)) → Q (.ref b) H') : rSlA K (.ref a) lo hi H Q :=
  ⟨a, xs, rfl, SqT.of e, fun c => r a H (Same.refl _) (by rw [cut_all xs c]; exact e), fun _ p hp => r p _ (same_upd hp) upd_same⟩
theorem cat_read {K : PySem.W.Frag} {H : Hp} {a b : Addr} {xs ys : List V} {Q : VK} (ea : H a = some (.tup xs)) (eb : H b = some (.tup ys)) (hz : xs.length + ys.length ≤ sizeLine) (r : ∀ p H', Same H H' → H' p = some (.tup (xs ++ ys)) → Q (.ref p) H') : rCatA K (.ref a) (.ref b) H Q :=
  ⟨a, b, xs, ys, rfl, rfl, SqT.of ea, SqT.of eb, hz, fun c => r b H (Same.refl _) (by rw [c]; exact eb), fun _ c => r a H (Same.refl _) (by rw [c, List.append_nil]; exact ea), fun _ _ p hp => r p _ (same_upd hp) upd_same⟩
theorem ord_part {g : Odr} {c : Pr} {j i : Nat} (h4 : g.length ≤ 4) (hi : i < g.length) : (((ordersOf (g.take i)).take j).flatMap (insAll c)).length ≤ 24 := by
  have lt : (g.take i).length = i := by rw [List.length_take]; omega
  rw [len_flat _ (i + 1) _ fun l hl => ?_]
  · have e := len_ordersOf i (g.take i) lt
    have z : ((ordersOf (g.take i)).take j).length ≤ facto i := by rw [List.length_take, e]; exact Nat.min_le_right _ _
    exact Nat.le_trans (Nat.mul_le_mul_right _ z) (facto_le (n := i + 1) (by omega))
  · unfold insAll
    rw [List.length_map, List.length_range, ((mem_ordersOf i _ lt).mp (List.mem_of_mem_take hl)).length_eq, lt]
theorem orders_next {g : Odr} {c : Pr} {i : Nat} (hc : g[i]? = some c) : ordersOf (g.take (i + 1)) = (ordersOf (g.take i)).flatMap (insAll c) := by
  rw [take_snoc hc]
  unfold ordersOf
  rw [List.foldl_append]
  rfl
section
variable {P : Program} {w : World} {K : PySem.W.Frag} {mg : Str → Option Value} {base : Heap} {f : Addr} {fd : FuncData}
/-! ### orders_of -/
def spOrders : Sp := fun vs H Q _ => ∃ (x : V) (g : Odr), vs = [x] ∧ TT H x (odD g) ∧ g.length ≤ 4 ∧ ∀ H' r ys, Same H H' → H' r = some (.lst ys) → TTs H' ys ((ordersOf g).map odD) → Q (.ref r) H'
theorem ok_orders (F : Fun K "orders_of" "orders_of" sOrdersOf f fd) (B : Bl mg) : FnOk P w K mg base CX0 1 f fd ["row"] spOrders := by
  refine F.ok scOrdersOf (fun vs H Q E h => ?_) (fun cdv A outer s H vs Q E hr h => ?_)
  · obtain ⟨x, g, rfl, _⟩ := h
    rfl
  obtain ⟨x, g, rfl, hx, h4, q⟩ := h
  obtain ⟨a, xs, rfl, ha, txs⟩ := TT.tup hx
  have lxs := txs.len
  rw [List.length_map] at lxs
  have nd := scOrdersOf.nd
  refine ⟨_, pss_cons (ps_set (i := 1) nd rfl (Or.inl rfl) (pe_lst (pa_cons (pe_tup pa_nil) pa_nil)))
    (pss_cons (ps_for PassesOwn.never rfl (pi_tup (pv 0)) (pg_name (i := 2) nd rfl (Or.inr rfl))
      (pss_cons (ps_set (i := 3) nd rfl (Or.inl rfl) (pe_lst pa_nil))
      (pss_cons (ps_for PassesOwn.never rfl (pi_list (pv 1)) (pg_name (i := 4) nd rfl (Or.inr rfl))
        (pss_one (ps_set (i := 3) nd rfl (Or.inl rfl) (pe_op op_cat (pv 3) (pe_lc (own := [("place", 5)]) (g := gName 5) (tt := tYes) rfl nd (pi_range1 (by rfl) B.range (pa_cons (pe_op op_add (pe_callB call_len_seq (by rfl) B.len PySem.boot_len (pa_cons (pv 4) pa_nil)) pe_int) pa_nil)) (blkOk_by (N := NOrdersOf) (sc := defScope sOrdersOf) (by decide +kernel))
          (fun _ _ _ _ _ => pg_name (i := 5) nd rfl (Or.inl rfl)) (fun _ _ _ _ _ => pts_nil)
          (fun _ _ _ _ _ => pe_op (r := rCatA K) op_catA (pe_op (r := rCatA K) op_catA (pe_slice (r := rSlA K) sl_tupA (pv 4) po_none (po_some (pv 5))) (pe_tup (pa_cons (pv 2) pa_nil))) (pe_slice (r := rSlA K) sl_tupA (pv 4) (po_some (pv 5)) po_none)))))))
      (pss_one (ps_set (i := 1) nd rfl (Or.inl rfl) (pv 3))))))
    (pss_one (ps_ret (pv 1)))), ?_⟩
  refine ⟨Nat.zero_le _, fun p0 hp0 => ⟨by show 1 ≤ sizeLine; decide, fun f0 hf0 => ?_⟩⟩
  have s0 : Same H (upd (upd H p0 (.tup [])) f0 (.lst [.ref p0])) := (same_upd hp0).trans (same_upd hf0)
  refine ⟨_, rfl, a, rfl, ⟨_, SqT.of (s0 _ _ ha)⟩, ?_⟩
  refine for_it walk_tup (fun i σ H' => ∃ (fa : Addr) (acc : List V) (v2 v3 v4 v5 : Option V), σ = [some (.ref a), some (.ref fa), v2, v3, v4, v5] ∧ Same H H' ∧ H' fa = some (.lst acc) ∧ TTs H' acc ((ordersOf (g.take i)).map odD))
    ⟨f0, [.ref p0], none, none, none, none, rfl, s0, upd_same, .cons (DX.mk_tup ((upd_ne (ne_of_none upd_same hf0)).trans upd_same) .nil) .nil⟩ (fun i σ H' _ ⟨_, _, _, _, _, _, _, sm, _⟩ => SqT.of (sm _ _ ha)) ?_ ?_
  · rintro i y σ H' H2 hi ⟨fa, acc, v2, v3, v4, v5, rfl, sm, ef, ta⟩ ⟨rfl, hy⟩
    obtain ⟨d, hd, ty⟩ := txs.at_ hy
    rw [List.getElem?_map] at hd
    obtain ⟨c, hc, rfl⟩ := Option.map_eq_some_iff.mp hd
    have il : i < g.length := (List.getElem?_eq_some_iff.mp hc).1
    have lacc := ta.len
    rw [List.length_map] at lacc
    refine ⟨Nat.zero_le _, fun l0 hl0 => ?_⟩
    have sL : Same H2 (upd H2 l0 (.lst [])) := same_upd hl0
    refine ⟨_, rfl, fa, rfl, ⟨_, SqL.of (sL _ _ ef)⟩, ?_⟩
    refine for_it walk_list (fun j σ H' => ∃ (la : Addr) (ac2 : List V) (u4 u5 : Option V), σ = [some (.ref a), some (.ref fa), some y, some (.ref la), u4, u5] ∧ Same H2 H' ∧ H' la = some (.lst ac2) ∧ TTs H' ac2 ((((ordersOf (g.take i)).take j).flatMap (insAll c)).map odD))
      ⟨l0, [], v4, v5, rfl, sL, upd_same, .nil⟩ (fun j σ H' _ ⟨_, _, _, _, _, sm2, _⟩ => SqL.of (sm2 _ _ ef)) ?_ ?_
    · rintro j z σ H' H3 hj ⟨la, ac2, u4, u5, rfl, sm2, el, tl⟩ ⟨rfl, hz⟩
      obtain ⟨d2, hd2, tz⟩ := ta.at_ hz
      rw [List.getElem?_map] at hd2
      obtain ⟨nr, hnr, rfl⟩ := Option.map_eq_some_iff.mp hd2
      obtain ⟨nb, ns, rfl, hnb, tns⟩ := TT.tup tz
      have lns := tns.len
      rw [List.length_map] at lns
      have ltk : (g.take i).length = i := by rw [List.length_take]; omega
      have lnr : nr.length = i := by rw [((mem_ordersOf i _ ltk).mp (List.mem_of_getElem? hnr)).length_eq, ltk]
      have hnb3 := sm2 _ _ hnb
      refine ⟨_, rfl, _, rfl, nb, ns, rfl, .inr (SqT.of hnb3), _, _, rfl, rfl, ((ns.length : Nat) : Int) + 1, rfl, by omega, by omega, fun D hD => ?_⟩
      have eN : (((ns.length : Nat) : Int) + 1).toNat = ns.length + 1 := by omega
      rw [eN]
      refine lc_it walk_range (fun p H' => Same H3 H' ∧ ∃ ac3, H' D = some (.lst ac3) ∧ TTs H' ac3 (((insAll c nr).take p).map odD)) ⟨same_upd hD, [], upd_same, .nil⟩ (fun _ _ _ _ => trivial) ?_ ?_
      · rintro p v H4 H5 hp ⟨sm4, ac3, eD, t3⟩ ⟨rfl, hv⟩
        obtain rfl : v = V.int (p : Nat) := hv.trans (congrArg V.int (Int.zero_add _))
        have hnb5 := sm4 _ _ hnb3
        refine ⟨rfl, _, rfl, _, rfl, _, rfl, ?_⟩
        refine sl_read hnb5 fun b1 H6 s6 e6 => ?_
        refine ⟨_, rfl, by show 1 ≤ sizeLine; decide, fun T hT => ?_⟩
        have sT := same_upd (o := .tup [y]) hT
        have z1 : (cutV ns none (some (p : Int))).length ≤ ns.length := cutV_length _ _ _
        refine cat_read (sT _ _ e6) upd_same (by rw [sizeLine_eq]; show _ + 1 ≤ _; omega) fun b2 H7 s7 e7 => ?_
        have s57 := (s6.trans sT).trans s7
        refine ⟨_, rfl, _, rfl, _, rfl, ?_⟩
        dsimp only [tNoPart]
        refine sl_read (s57 _ _ hnb5) fun b3 H8 s8 e8 => ?_
        have z2 : (cutV ns (some (p : Int)) none).length ≤ ns.length := cutV_length _ _ _
        refine cat_read (s8 _ _ e7) e8 (by rw [List.length_append, sizeLine_eq]; show _ + 1 + _ ≤ _; omega) fun b4 H9 s9 e9 => ?_
        have s59 := (s57.trans s8).trans s9
        have eD9 := s59 _ _ eD
        have hin : (insAll c nr)[p]? = some (nr.take p ++ c :: nr.drop p) := by
          unfold insAll
          rw [List.getElem?_map, List.getElem?_range (by omega)]
          rfl
        refine ⟨ac3, eD9, small1000 ?_, fun u z e => ?_, ac3 ++ [.ref b4], upd_same, ?_⟩
        · have := t3.len
          rw [List.length_map, List.length_take] at this
          have : (insAll c nr).length = nr.length + 1 := by unfold insAll; rw [List.length_map, List.length_range]
          omega
        · rw [upd_ne (ne_of_none e hD)]
          exact s59 _ _ (sm4 _ _ e)
        · rw [take_snoc hin, List.map_append]
          refine TTs.stay (tupS_lst eD9) (DXs.snoc (DXs.same s59 t3) (DX.mk_tup e9 ?_))
          rw [cut_to, cut_from, List.map_append, List.map_cons, List.append_assoc, List.map_take, List.map_drop]
          have tn : TTs H9 ns (nr.map prD) := DXs.same ((sm2.trans sm4).trans s59) tns
          exact (tn.take p).app (.cons (DX.same (((sm.trans sm2).trans sm4).trans s59) ty) (tn.drop p))
      · rintro H4 ⟨sm4, ac3, eD, t3⟩
        have lin : (insAll c nr).length = ns.length + 1 := by unfold insAll; rw [List.length_map, List.length_range]; omega
        rw [List.take_of_length_le (by omega)] at t3
        have el4 := sm4 _ _ el
        have l1 := tl.len
        have l2 := t3.len
        rw [List.length_map] at l1 l2
        have b1 := ord_part (c := c) (j := j) h4 il
        refine ⟨la, D, ac2, ac3, rfl, rfl, el4, eD, by rw [sizeLine_eq]; omega, fun p hp => ?_⟩
        refine ⟨p, ac2 ++ ac3, _, _, rfl, (sm2.trans sm4).trans (same_upd hp), upd_same, ?_⟩
        rw [take_snoc hnr, List.flatMap_append, List.map_append]
        have e1 : [nr].flatMap (insAll c) = insAll c nr := by simp
        rw [e1]
        exact DXs.same (same_upd hp) ((DXs.same sm4 tl).app t3)
    · rintro σ H' ⟨la, ac2, u4, u5, rfl, sm2, el, tl⟩
      rw [List.take_of_length_le (by omega), ← orders_next hc] at tl
      exact ⟨_, rfl, la, ac2, _, _, _, _, rfl, sm.trans sm2, el, tl⟩
  · rintro σ H' ⟨fa, acc, v2, v3, v4, v5, rfl, sm, ef, ta⟩
    rw [List.take_of_length_le (by omega)] at ta
    exact ⟨_, rfl, q H' fa acc sm ef ta⟩
end
end RK

namespace RK
open PySem PySem.Spec PyProof.Rows L2
theorem ps_of {H : Hp} : ∀ {xs : List V} {os : List Odr}, TTs H xs (os.map odD) → ∃ ps : List (Addr × Odr), xs = ps.map rp ∧ ps.map (·.2) = os ∧ ∀ p ∈ ps, TT H (.ref p.1) (odD p.2)
  | _, [], .nil => ⟨[], rfl, rfl, fun _ h => nomatch h⟩
  | _, o :: os, .cons h t => by
    obtain ⟨ps, e1, e2, hp⟩ := ps_of t
    obtain ⟨a, ys, rfl, _, _⟩ := TT.tup h
    refine ⟨(a, o) :: ps, by rw [List.map_cons, e1], by rw [List.map_cons, e2], fun p m => ?_⟩
    rcases List.mem_cons.mp m with z | z
    · rw [z]
      exact h
    · exact hp p z
theorem ps_to {H : Hp} : ∀ ps : List (Addr × Odr), (∀ p ∈ ps, TT H (.ref p.1) (odD p.2)) → TTs H (ps.map rp) ((ps.map (·.2)).map odD)
  | [], _ => .nil
  | p :: ps, h => .cons (h p List.mem_cons_self) (ps_to ps fun q hq => h q (List.mem_cons_of_mem _ hq))
theorem good_snoc {m : Mk} {os : List Odr} {i : Nat} {o : Odr} (h : os[i]? = some o) : good m (os.take (i + 1)) = good m (os.take i) ++ (if (fire m o).isSome = true then [o] else []) := by
  rw [take_snoc h]
  unfold good
  rw [List.filter_append, List.filter_cons, List.filter_nil]
theorem perm_named {m : Mk} {o g : Odr} (p : o.Perm g) (nm : Named m (g.map (·.1))) : Named m (o.map (·.1)) := fun k hk => nm k ((p.map (·.1)).mem_iff.mp hk)
theorem perm_ne {o g : Odr} (p : o.Perm g) (hg : g ≠ []) : o ≠ [] := fun e => hg (by
  rw [e] at p
  exact p.symm.eq_nil)
theorem is_none_of {H : Hp} {z : V} {r : Option Pr} (h : TT H z (fireD r)) : decide (z = V.non) = !r.isSome := by
  cases r with
  | none =>
    obtain rfl := DD.non' (TT.dd h)
    rfl
  | some c =>
    obtain ⟨b, rfl, _⟩ := pr_of h
    rfl
/-- what sorted(set(list of orders)) comes to, once the list is there -/
theorem sorted_of {w : World} {H0 H : Hp} {D : Addr} {acc : List V} {F : List Odr} {Q : VK} (sm : Same H0 H) (eD : H D = some (.lst acc)) (ta : TTs H acc (F.map odD)) (few : F.length < 64) (ne : ∀ o ∈ F, o ≠ [])
    (q : ∀ H' r ys S, Same H0 H' → H0 r = none → H' r = some (.lst ys) → TTs H' ys (S.map odD) → Canon F S → Q (.ref r) H') : rSetK w [.ref D] H fun x H1 => rSortK w [x] H1 Q := by
  obtain ⟨ps, rfl, e2, hp⟩ := ps_of ta
  have e3 : ∀ o, o ∈ F ↔ o ∈ ps.map (·.2) := fun o => by rw [e2]
  refine ⟨D, ps, rfl, eD, hp, by have := congrArg List.length e2; rw [List.length_map] at this; omega, fun a Lo ha sub nd all => ?_⟩
  have sa : Same H (upd H a (SetKO w a Lo)) := same_upd ha
  have inF : ∀ p ∈ Lo, p.2 ∈ F := fun p hp' => (e3 _).mpr (List.mem_map.mpr ⟨p, sub p hp', rfl⟩)
  refine ⟨a, Lo, rfl, upd_same, fun p hp' => ⟨DX.same sa (hp p (sub p hp')), ne _ (inF p hp')⟩, fun r S pS pw hr => ?_⟩
  have sr := same_upd (o := .lst (S.map rp)) hr
  refine q _ r _ (S.map (·.2)) ((sm.trans sa).trans sr) ((sm.trans sa).free hr) upd_same (ps_to S fun p hp' => DX.same (sa.trans sr) (hp p (sub p (pS.mem_iff.mp hp')))) ⟨?_, ?_, fun o => ?_⟩
  · exact ((pS.map (·.2)).nodup_iff).mpr nd
  · rw [List.pairwise_map]
    exact pw
  · rw [(pS.map (·.2)).mem_iff]
    constructor
    · intro h
      obtain ⟨p, hp', rfl⟩ := List.mem_map.mp h
      exact inF p hp'
    · intro h
      obtain ⟨p, hp', rfl⟩ := List.mem_map.mp ((e3 o).mp h)
      exact all p hp'
section
variable {P : Program} {w : World} {K : PySem.W.Frag} {mg : Str → Option Value} {base : Heap} {f : Addr} {fd : FuncData}
/-! ### orders_that_fire -/
def spOTF : Sp := fun vs H Q _ => ∃ (x y : V) (m : Mk) (g : Odr), vs = [x, y] ∧ DT H x (mkD m) ∧ DT H y (odD g) ∧ Fine 4 (odD g) ∧ g ≠ [] ∧ g.length ≤ 4 ∧ Named m (g.map (·.1)) ∧
  ∀ H' r ys S, Same H H' → H r = none → H' r = some (.lst ys) → TTs H' ys (S.map odD) → Canon (good m (ordersOf g)) S → Q (.ref r) H'
theorem ok_otf {fT fO fF : Addr} {fdT fdO fdF : FuncData} (F : Fun K "orders_that_fire" "orders_that_fire" sOrdersThatFire f fd) (B : Bl mg) (GT : FnOk P w K mg base CX0 4 fT fdT ["matter"] (spTupled 4)) (bT : Binds K fdT ["matter"] []) (kT : PySem.W.keepIn K (.ref fT) = true) (gT : mg "tupled" = some (.ref fT))
    (GO : FnOk P w K mg base CX0 1 fO fdO ["row"] spOrders) (bO : Binds K fdO ["row"] []) (kO : PySem.W.keepIn K (.ref fO) = true) (gO : mg "orders_of" = some (.ref fO))
    (GF : FnOk P w K mg base CX0 1 fF fdF ["make", "green"] spFiring) (bF : Binds K fdF ["make", "green"] []) (kF : PySem.W.keepIn K (.ref fF) = true) (gF : mg "firing_heats" = some (.ref fF)) : FnOk P w K mg base CX0 5 f fd ["make", "green"] spOTF := by
  refine F.ok scOrdersThatFire (fun vs H Q E h => ?_) (fun cdv A outer s H vs Q E hr h => ?_)
  · obtain ⟨x, y, m, g, rfl, _⟩ := h
    rfl
  obtain ⟨x, y, m, g, rfl, hx, hy, fy, hg, h4, nm, q⟩ := h
  have nd := scOrdersThatFire.nd
  have hr1 : Room 1 _ := hr.mono (by decide)
  refine ⟨_, pss_one (ps_ret (pe_callB (cr_sortK rfl hr.units) (by rfl) B.sorted (by decide +kernel) (pa_cons (pe_callTy (cr_setK rfl hr.units) (by rfl) B.set (by decide +kernel) (pa_cons
    (pe_lc (own := [("own", 2)]) (g := gName 2) rfl nd (pi_list (pe_call GO hr1 (by rfl) gO kO bO .nil pass0 (pa_cons (pe_call GT hr (by rfl) gT kT bT .nil pass0 (pa_cons (pv 1) pa_nil)) pa_nil))) (blkOk_by (N := NOrdersThatFire) (sc := defScope sOrdersThatFire) (by decide +kernel))
      (fun _ _ _ _ _ => pg_name (i := 2) nd rfl (Or.inl rfl)) (fun _ _ _ _ _ => pts_one (pt_cmpR op_notN (pe_call GF hr1 (by rfl) gF kF bF .nil pass0 (pa_cons (pv 0) (pa_cons (pv 2) pa_nil))) pe_non (nomark _))) (fun _ _ _ _ _ => pv 2)) pa_nil)) pa_nil))), ?_⟩
  refine ⟨_, rfl, y, odD g, rfl, hy, fy, fun H1 z1 s1 tz1 => ⟨z1, g, rfl, tz1, h4, fun H2 r2 ys2 s2 er2 t2 => ⟨r2, rfl, ⟨_, SqL.of er2⟩, fun D hD => ?_⟩⟩⟩
  have s12 := s1.trans s2
  have lys := t2.len
  rw [List.length_map] at lys
  refine lc_it walk_list (fun i H' => Same H2 H' ∧ ∃ acc, H' D = some (.lst acc) ∧ TTs H' acc ((good m ((ordersOf g).take i)).map odD)) ⟨same_upd hD, [], upd_same, .nil⟩ (fun i H' _ p => SqL.of (p.1 _ _ er2)) ?_ ?_
  · rintro i v H' H3 hi ⟨sm, acc, eD, ta⟩ ⟨rfl, hv⟩
    obtain ⟨d, hd, tv⟩ := t2.at_ hv
    rw [List.getElem?_map] at hd
    obtain ⟨o, ho, rfl⟩ := Option.map_eq_some_iff.mp hd
    have po := (mem_ordersOf _ g rfl).mp (List.mem_of_getElem? ho)
    refine ⟨rfl, _, rfl, _, rfl, x, v, m, o, rfl, DX.same (s12.trans sm) hx, TT.dt (DX.same sm tv), perm_ne po hg, by have := po.length_eq; omega, perm_named po nm, fun H4 z s4 tz => ?_⟩
    refine ⟨rfl, _, rfl, ?_⟩
    rw [is_none_of tz, Bool.not_not]
    have eD4 := s4 _ _ eD
    have la : acc.length ≤ 1000 := by
      have z1 := ta.len
      rw [List.length_map] at z1
      have z2 : (good m ((ordersOf g).take i)).length ≤ ((ordersOf g).take i).length := List.length_filter_le _ _
      have z3 := len_ordersOf _ g rfl
      have z4 := facto_le h4
      rw [List.length_take] at z2
      have z5 := Nat.min_le_right i (ordersOf g).length
      omega
    refine ite2 (fun c => ?_) (fun c => ?_)
    · refine ⟨_, rfl, acc, eD4, small1000 la, fun u w' e => ?_, acc ++ [v], upd_same, ?_⟩
      · rw [upd_ne (ne_of_none e hD)]
        exact s4 _ _ (sm _ _ e)
      · rw [good_snoc ho, if_pos c, List.map_append]
        exact TTs.stay (tupS_lst eD4) (DXs.snoc (DXs.same s4 ta) (DX.same (sm.trans s4) tv))
    · refine ⟨sm.trans s4, acc, eD4, ?_⟩
      rw [good_snoc ho, if_neg c, List.append_nil]
      exact DXs.same s4 ta
  · rintro H' ⟨sm, acc, eD, ta⟩
    rw [List.take_of_length_le (by omega)] at ta
    refine sorted_of (H0 := H) (s12.trans sm) eD ta ?_ (fun o ho => ?_) q
    · have z2 : (good m (ordersOf g)).length ≤ (ordersOf g).length := List.length_filter_le _ _
      have z3 := len_ordersOf _ g rfl
      have z4 := facto_le h4
      omega
    · exact perm_ne ((mem_ordersOf _ g rfl).mp (List.mem_filter.mp ho).1) hg
end
end RK

namespace RK
open PySem PySem.Spec PyProof.Rows L2
/-! ### data that == looks through -/
theorem depth_ints : ∀ ns : List Int, PyData.depthAll (ns.map PyData.int) = 0
  | [] => rfl
  | n :: ns => by rw [List.map_cons, PyData.depthAll, depth_ints ns]; rfl
theorem lay_ints : ∀ ns : List Int, PyData.canLayAll0 (ns.map PyData.int) = true
  | [] => rfl
  | n :: ns => by rw [List.map_cons, PyData.canLayAll0, lay_ints ns]; rfl
theorem shp_ints (ns : List Int) : SeqAt.shaped (.list (ns.map PyData.int)) = true := by
  unfold SeqAt.shaped
  rw [PyData.canLay0, lay_ints, PyData.depth, depth_ints]
  rfl
theorem depth_trs : ∀ l : List Tr, PyData.depthAll (l.map trD) ≤ 1
  | [] => by decide
  | c :: l => by
    have z := depth_trs l
    have y : (trD c).depth = 1 := rfl
    rw [List.map_cons, PyData.depthAll, y]
    omega
theorem lay_trs : ∀ l : List Tr, PyData.canLayAll0 (l.map trD) = true
  | [] => rfl
  | c :: l => by rw [List.map_cons, PyData.canLayAll0, lay_trs l]; rfl
theorem shp_trs (l : List Tr) : SeqAt.shaped (trsD l) = true := by
  unfold SeqAt.shaped trsD
  have z := depth_trs l
  rw [PyData.canLay0, lay_trs, PyData.depth]
  simp
  omega
theorem dd_ints {H : Hp} {a : Addr} {ns : List Int} (e : H a = some (.lst (ns.map V.int))) : DD H (.ref a) (.list (ns.map PyData.int)) := DX.mk_lst e (dxs_ints ns)
/-- the heats that burn, by trial -/
def heatsOf (m : Mk) (g : Odr) : List Int :=
  match fire m g with
  | none => []
  | some c => runI c.1 (c.2 + 1 - c.1).toNat
theorem heats_are {m : Mk} {g : Odr} (ok : MkOk m) (nm : Named m (g.map (·.1))) (hg : g ≠ []) (h4 : g.length ≤ 4) (p : Nat → Bool) (hp : ∀ n, n < 110 → (p n = true ↔ Burns m g n)) : ((List.range 110).filter p).map (fun n : Nat => (n : Int)) = heatsOf m g := by
  unfold heatsOf
  cases e : fire m g with
  | none =>
    show List.map (fun n : Nat => (n : Int)) _ = []
    rw [filter_no p fun n hn z => fire_none hg e n ((hp n hn).mp z)]
    rfl
  | some c =>
    have b := fire_bounds ok nm hg h4 e
    have le := fire_le e
    exact filter_heats (by omega) le (by omega) p fun n hn => (hp n hn).trans (fire_some hg e n)
theorem rg_run (a b : Int) : rgV a b = (runI a (b - a).toNat).map V.int := by
  unfold rgV runI
  rw [List.map_map]
  rfl
theorem run_ne {a : Int} {n : Nat} (h : 0 < n) : (runI a n)[0]? = some a := by
  unfold runI
  rw [List.getElem?_map, List.getElem?_range h]
  show some (a + ((0 : Nat) : Int)) = some a
  rw [show a + ((0 : Nat) : Int) = a by omega]
theorem run_last {a : Int} {n : Nat} : runI a (n + 1) = runI a n ++ [a + (n : Nat)] := by
  unfold runI
  rw [List.range_succ, List.map_append]
  rfl
/-- what all_orders lays down for one place -/
def headed (n : Nat) (row : Odr) (k : Nat) : List Odr := match row[k]? with
  | some x => (allO n (row.eraseIdx k)).map (x :: ·)
  | none => []
theorem allO_s (n : Nat) (row : Odr) : allO (n + 1) row = (List.range row.length).flatMap (headed n row) := by
  rw [allO]
  refine congrArg (fun f => List.flatMap f (List.range row.length)) (funext fun k => ?_)
  unfold headed
  cases row[k]? <;> rfl
theorem range_snoc {α : Type} (f : Nat → List α) (k : Nat) : (List.range (k + 1)).flatMap f = (List.range k).flatMap f ++ f k := by
  rw [List.range_succ, List.flatMap_append]
  simp
section
variable {P : Program} {w : World} {K : PySem.W.Frag} {mg : Str → Option Value} {base : Heap} {f : Addr} {fd : FuncData}
/-! ### _law_fires_at -/
def spFires : Sp := fun vs H Q _ => ∃ (x y : V) (h : Int) (m : Mk) (g : Odr), vs = [x, y, .int h] ∧ TT H x (mkD m) ∧ TT H y (odD g) ∧ MkOk m ∧ g.length ≤ 1000 ∧ Named m (g.map (·.1)) ∧ ∀ (b : Bool) H', (b = true ↔ Burns m g h) → Same H H' → Q (.bl b) H'
theorem ok_fires (F : Fun K "_law_fires_at" "_law_fires_at" sLFiresAt f fd) (B : Bl mg) : FnOk P w K mg base CX0 1 f fd ["_law_make_so", "_law_green_so", "_law_heat_so"] spFires := by
  refine F.ok scLFiresAt (fun vs H Q E h => ?_) (fun cdv A outer s H vs Q E hr h => ?_)
  · obtain ⟨x, y, h, m, g, rfl, _⟩ := h
    rfl
  obtain ⟨x, y, h, m, g, rfl, hx, hy, ok, len, nm, q⟩ := h
  have nd := scLFiresAt.nd
  obtain ⟨a, xs, ka, kxs, rfl, ha, hx0, hx1, hka, kinds⟩ := mk_of hx
  obtain ⟨ya, ys, rfl, hya, tys⟩ := TT.tup hy
  have lys := tys.len
  rw [List.length_map] at lys
  refine ⟨_, pss_cons (ps_for PassesOwn.never rfl (pi_enumS (by rfl) B.enum (pv 1)) (pg_tup rfl (pgs_cons (pg_name (i := 3) nd rfl (Or.inl rfl)) (pgs_cons (pg_name (i := 4) nd rfl (Or.inl rfl)) pgs_nil)))
      (pss_cons (ps_set (i := 5) nd rfl (Or.inl rfl) (pe_callB (call_max2 rfl) (by rfl) B.max (by decide +kernel) (pa_cons pe_int (pa_cons (pe_op op_sub (pv 2) (pe_op op_mul (pv 3) (pe_ix (r := rIxT K) ix_tup (pv 0) pe_int (fun _ _ => rfl)))) pa_nil))))
      (pss_one (ps_if (pt_not (pt_chain op_le op_le (pe_ix (r := rIxT K) ix_tup (pe_ix (r := rIxT K) ix_tup (pe_ix (r := rIxT K) ix_tup (pv 0) pe_int (fun _ _ => rfl)) (pe_ix (r := rIxT K) ix_tup (pv 4) pe_int (fun _ _ => rfl)) (fun _ _ => rfl)) pe_int (fun _ _ => rfl)) (pv 5)
          (pe_ix (r := rIxT K) ix_tup (pe_ix (r := rIxT K) ix_tup (pe_ix (r := rIxT K) ix_tup (pv 0) pe_int (fun _ _ => rfl)) (pe_ix (r := rIxT K) ix_tup (pv 4) pe_int (fun _ _ => rfl)) (fun _ _ => rfl)) pe_int (fun _ _ => rfl)))) (pss_one (ps_ret pe_bl)) pss_nil))))
    (pss_one (ps_ret pe_bl)), ?_⟩
  refine ⟨ya, _, ys, rfl, hya, .inr rfl, fun J wk => ?_⟩
  refine for_it wk (fun i σ H' => ∃ v3 v4 v5 : Option V, σ = [some (.ref a), some (.ref ya), some (.int h), v3, v4, v5] ∧ Same H H' ∧ ∀ (j : Nat) (c : Pr), j < i → g[j]? = some c → m.mark c.1 + (j : Int) * m.lag ≤ h ∧ h ≤ m.melt c.1 + (j : Int) * m.lag)
    ⟨none, none, none, rfl, Same.refl _, fun j c z => absurd z (Nat.not_lt_zero _)⟩ (fun i σ H' _ ⟨_, _, _, _, sm, _⟩ => sm _ _ hya) ?_ ?_
  · rintro i v σ H' H3 hi ⟨v3, v4, v5, rfl, sm, cold⟩ ⟨T, n1, x1, rfl, nT, rfl, hn1, hx1'⟩
    obtain rfl : V.int (i : Nat) = n1 := Option.some.inj hn1
    obtain ⟨d, hd, tx1⟩ := tys.at_ hx1'
    rw [List.getElem?_map] at hd
    obtain ⟨c, hc, rfl⟩ := Option.map_eq_some_iff.mp hd
    obtain ⟨b, rfl, hb⟩ := pr_of tx1
    have il : i < g.length := (List.getElem?_eq_some_iff.mp hc).1
    have sT : Same H (upd H' T (.tup [.int (i : Nat), .ref b])) := sm.trans (same_upd nT)
    have nmc := named_at nm hc
    obtain ⟨kb, hkb, hkt⟩ := kinds c.1 nmc
    have z := own_ok ok nmc h i
    have eo : (if h - (i : Int) * m.lag > 0 then h - (i : Int) * m.lag else 0) = ownAt m h i := max0 _
    refine ⟨T, _, rfl, SqT.of upd_same, rfl, _, _, rfl, _, _, rfl, rfl, ?_⟩
    refine ⟨_, rfl, _, rfl, _, rfl, a, xs, 1, _, rfl, rfl, SqT.of (sT _ _ ha), atI_nat (j := 1) hx1, _, _, rfl, rfl, .inl ⟨by omega, by omega⟩, _, _, rfl, rfl, _, _, rfl, ?_⟩
    rw [eo]
    refine ⟨_, rfl, a, xs, 0, _, rfl, rfl, SqT.of (sT _ _ ha), atI_nat (j := 0) hx0, _, rfl, b, _, 0, _, rfl, rfl, SqT.of (sT _ _ hb), atI_nat (j := 0) rfl, ka, kxs, c.1, _, rfl, rfl, SqT.of (sT _ _ hka), at_of (j := c.1.toNat) (by omega) hkb,
      kb, _, 0, _, rfl, rfl, SqT.of (sT _ _ hkt), atI_nat (j := 0) rfl, _, rfl, _, _, rfl, rfl, _, rfl, ite2 (fun c1 => ?_) (fun c1 => ?_)⟩
    · have c1' : m.mark c.1 ≤ ownAt m h i := of_decide_eq_true c1
      refine ⟨_, rfl, a, xs, 0, _, rfl, rfl, SqT.of (sT _ _ ha), atI_nat (j := 0) hx0, _, rfl, b, _, 0, _, rfl, rfl, SqT.of (sT _ _ hb), atI_nat (j := 0) rfl, ka, kxs, c.1, _, rfl, rfl, SqT.of (sT _ _ hka), at_of (j := c.1.toNat) (by omega) hkb,
        kb, _, 2, _, rfl, rfl, SqT.of (sT _ _ hkt), atI_nat (j := 2) rfl, _, _, rfl, rfl, _, rfl, ?_⟩
      by_cases c2 : ownAt m h i ≤ m.melt c.1
      · rw [decide_eq_true c2]
        refine ⟨_, _, _, rfl, sT, fun j c' hj hc' => ?_⟩
        rcases Nat.lt_or_ge j i with y | y
        · exact cold j c' y hc'
        · have ej : j = i := by omega
          subst ej
          rw [hc] at hc'
          rw [← Option.some.inj hc']
          exact ⟨z.1.mp c1', z.2.mp c2⟩
      · rw [decide_eq_false c2]
        refine q false _ ⟨fun e => (nomatch e), fun bn => absurd (z.2.mpr (bn i c hc).2) c2⟩ sT
    · have c1' : ¬ m.mark c.1 ≤ ownAt m h i := of_decide_eq_false (Bool.eq_false_iff.mpr c1)
      refine ⟨_, rfl, ?_⟩
      refine q false _ ⟨fun e => (nomatch e), fun bn => absurd (z.1.mpr (bn i c hc).1) c1'⟩ sT
  · rintro σ H' ⟨v3, v4, v5, rfl, sm, cold⟩
    refine q true _ ⟨fun _ i c hc => cold i c ?_ hc, fun _ => rfl⟩ sm
    have := (List.getElem?_eq_some_iff.mp hc).1
    omega
end
end RK

namespace RK
open PySem PySem.Spec PyProof.Rows L2
theorem filt_snoc (p : Nat → Bool) (n : Nat) : ((List.range (n + 1)).filter p).map (fun n : Nat => (n : Int)) = ((List.range n).filter p).map (fun n : Nat => (n : Int)) ++ (if p n = true then [(n : Int)] else []) := by
  rw [List.range_succ, List.filter_append, List.map_append, List.filter_cons, List.filter_nil]
  split <;> rfl
theorem len_filt (p : Nat → Bool) (n : Nat) : (((List.range n).filter p).map (fun n : Nat => (n : Int))).length ≤ n := by
  rw [List.length_map]
  exact Nat.le_trans (List.length_filter_le _ _) (by rw [List.length_range]; exact Nat.le_refl _)
section
variable {P : Program} {w : World} {K : PySem.W.Frag} {mg : Str → Option Value} {base : Heap} {f : Addr} {fd : FuncData}
/-! ### _law_ends_by -/
def spEnds : Sp := fun vs H Q _ => ∃ (x y : V) (m : Mk) (g : Odr), vs = [x, y] ∧ TT H x (mkD m) ∧ TT H y (odD g) ∧ MkOk m ∧ g ≠ [] ∧ g.length ≤ 4 ∧ Named m (g.map (·.1)) ∧ ∀ H' z, Same H H' → TT H' z (fireD (fire m g)) → Q z H'
theorem ok_ends {fF : Addr} {fdF : FuncData} (F : Fun K "_law_ends_by" "_law_ends_by" sLEndsBy f fd) (B : Bl mg) (GF : FnOk P w K mg base CX0 1 fF fdF ["_law_make_so", "_law_green_so", "_law_heat_so"] spFires) (bF : Binds K fdF ["_law_make_so", "_law_green_so", "_law_heat_so"] []) (kF : PySem.W.keepIn K (.ref fF) = true) (gF : mg "_law_fires_at" = some (.ref fF)) :
    FnOk P w K mg base CX0 2 f fd ["_law_make_so", "_law_green_so"] spEnds := by
  refine F.ok scLEndsBy (fun vs H Q E h => ?_) (fun cdv A outer s H vs Q E hr h => ?_)
  · obtain ⟨x, y, m, g, rfl, _⟩ := h
    rfl
  obtain ⟨x, y, m, g, rfl, hx, hy, ok, hg, h4, nm, q⟩ := h
  have nd := scLEndsBy.nd
  refine ⟨_, pss_cons (ps_setLc (i := 2) (own := [("_law_heat_so", 3)]) (g := gName 3) rfl nd rfl rfl (sw_true rfl rfl rfl rfl) (pi_range1 (by rfl) B.range (pa_cons pe_int pa_nil)) (blkOk_by (N := NLEndsBy) (sc := defScope sLEndsBy) (by decide +kernel))
      (fun _ _ _ _ _ => pg_name (i := 3) nd rfl (Or.inl rfl)) (fun _ _ _ _ _ => pts_one (pt_val (pe_call GF hr (by rfl) gF kF bF .nil pass0 (pa_cons (pv 0) (pa_cons (pv 1) (pa_cons (pv 3) pa_nil)))))) (fun _ _ _ _ _ => pv 3))
    (pss_cons (ps_if (pt_cmpR (op_eqD hr.units) (pv 2) (pe_lst pa_nil) (nomark _)) (pss_one (ps_ret pe_non)) pss_nil)
    (pss_one (ps_ret (pe_ifExp (pt_cmpR (op_eqD hr.units) (pv 2) (pe_listRg rfl (by rfl) B.list (prg_2 (by rfl) B.range (pe_ix (r := rIxL K) ix_list (pv 2) pe_int (fun _ _ => rfl)) (pe_op op_add (pe_ix (r := rIxL K) ix_list (pv 2) (pe_un un_neg pe_int) (fun _ _ => rfl)) pe_int))) (nomark _))
      (pe_tup (pa_cons (pe_ix (r := rIxL K) ix_list (pv 2) pe_int (fun _ _ => rfl)) (pa_cons (pe_ix (r := rIxL K) ix_list (pv 2) (pe_un un_neg pe_int) (fun _ _ => rfl)) pa_nil))) pe_str)))), ?_⟩
  refine ⟨110, rfl, by decide, by decide, fun D hD => ?_⟩
  refine lc_it walk_range (fun i H' => Same H H' ∧ ∃ p : Nat → Bool, (∀ n, n < i → (p n = true ↔ Burns m g n)) ∧ H' D = some (.lst ((((List.range i).filter p).map (fun n : Nat => (n : Int))).map V.int))) ⟨same_upd hD, fun _ => false, fun n h => absurd h (Nat.not_lt_zero _), upd_same⟩ (fun _ _ _ _ => trivial) ?_ ?_
  · rintro i v H' H3 hi ⟨sm, p, hp, eD⟩ ⟨rfl, hv⟩
    obtain rfl : v = V.int (i : Nat) := hv.trans (congrArg V.int (Int.zero_add _))
    refine ⟨rfl, _, rfl, _, rfl, _, rfl, x, y, (i : Nat), m, g, rfl, TT.stay (same_tupS sm) hx, TT.stay (same_tupS sm) hy, ok, by omega, nm, fun b H4 hb s4 => ?_⟩
    have eD4 := s4 _ _ eD
    let p2 : Nat → Bool := fun n => if n = i then b else p n
    have p2i : p2 i = b := if_pos rfl
    have p2l : ∀ n, n < i → p2 n = p n := fun n hn => if_neg (Nat.ne_of_lt hn)
    have hp2 : ∀ n, n < i + 1 → (p2 n = true ↔ Burns m g n) := fun n hn => by
      rcases Nat.lt_or_ge n i with z | z
      · rw [p2l n z]
        exact hp n z
      · have e : n = i := by omega
        subst e
        rw [p2i]
        exact hb
    have efl : (List.range i).filter p = (List.range i).filter p2 := List.filter_congr fun n hn => (p2l n (List.mem_range.mp hn)).symm
    rw [efl] at eD4
    have i110 : i < 110 := hi
    refine ⟨b, rfl, ite2 (fun c => ?_) (fun c => ?_)⟩
    · refine ⟨_, rfl, _, eD4, small1000 ?_, fun u w' e => ?_, p2, hp2, ?_⟩
      · rw [List.length_map]
        have := len_filt p2 i
        omega
      · rw [upd_ne (ne_of_none e hD)]
        exact s4 _ _ (sm _ _ e)
      · rw [upd_same, filt_snoc, if_pos (p2i.trans c), List.map_append]
        rfl
    · refine ⟨sm.trans s4, p2, hp2, ?_⟩
      rw [filt_snoc, if_neg (by rw [p2i]; exact c), List.append_nil]
      exact eD4
  · rintro H' ⟨sm, p, hp, eD⟩
    have hp' : ∀ n, n < 110 → (p n = true ↔ Burns m g n) := hp
    have eh := heats_are ok nm hg h4 p hp'
    have eD' : H' D = some (.lst ((heatsOf m g).map V.int)) := by
      rw [← eh]
      exact eD
    refine ⟨_, rfl, Nat.zero_le _, fun e0 he0 => ?_⟩
    have s1 := same_upd (o := .lst []) he0
    refine ⟨_, .list [], DX.dp (dd_ints (s1 _ _ eD')), DX.dp (DX.mk_lst upd_same .nil), shp_ints _, rfl, _, rfl, ?_⟩
    rw [show PyData.eqv (.list ((heatsOf m g).map .int)) (.list []) = decide (heatsOf m g = []) from eqv_ints _ []]
    cases e : fire m g with
    | none =>
      have e2 : heatsOf m g = [] := by unfold heatsOf; rw [e]
      refine iteY (decide_eq_true e2) (q _ _ (sm.trans s1) ?_)
      rw [e]
      exact .non
    | some c =>
      have e2 : heatsOf m g = runI c.1 (c.2 + 1 - c.1).toNat := by unfold heatsOf; rw [e]
      have b := fire_bounds ok nm hg h4 e
      have le := fire_le e
      obtain ⟨k, hk⟩ : ∃ k, (c.2 + 1 - c.1).toNat = k + 1 := ⟨(c.2 - c.1).toNat, by omega⟩
      rw [hk] at e2
      have h0 : (heatsOf m g)[0]? = some c.1 := by rw [e2]; exact run_ne (Nat.succ_pos _)
      have ne : heatsOf m g ≠ [] := fun z => by rw [z] at h0; cases h0
      have el : heatsOf m g = runI c.1 k ++ [c.2] := by
        rw [e2, run_last, show c.1 + (k : Int) = c.2 by omega]
      have at0 : atI ((heatsOf m g).map V.int) 0 = some (.int c.1) := atI_nat (j := 0) (by rw [List.getElem?_map, h0]; rfl)
      have atl : atI ((heatsOf m g).map V.int) (-1) = some (.int c.2) := by
        rw [el, List.map_append]
        exact atI_last _ _
      have eD1 := s1 _ _ eD'
      refine iteN (decide_eq_false ne) ?_
      refine ⟨_, rfl, _, rfl, D, _, 0, _, rfl, rfl, SqL.of eD1, at0, _, rfl, 1, rfl, D, _, -1, _, rfl, rfl, SqL.of eD1, atl, _, _, rfl, rfl, _, _, rfl, rfl, RgOk.of_le (by omega) (by omega) (by omega) (by omega), fun r hr' => ?_⟩
      have s2 := same_upd (o := .lst (rgV c.1 (c.2 + 1))) hr'
      have eD2 := s2 _ _ eD1
      have er : (upd (upd H' e0 (.lst [])) r (.lst (rgV c.1 (c.2 + 1)))) r = some (.lst ((heatsOf m g).map V.int)) := by
        rw [upd_same, rg_run, hk, ← e2]
      refine ⟨_, _, DX.dp (dd_ints eD2), DX.dp (dd_ints er), shp_ints _, shp_ints _, _, rfl, ?_⟩
      refine iteY ((eqv_ints _ _).trans (decide_eq_true rfl)) ?_
      refine ⟨_, rfl, D, _, 0, _, rfl, rfl, SqL.of eD2, at0, _, rfl, 1, rfl, D, _, -1, _, rfl, rfl, SqL.of eD2, atl, by show 2 ≤ sizeLine; decide, fun t ht => ?_⟩
      refine q _ _ (((sm.trans s1).trans s2).trans (same_upd ht)) ?_
      rw [e]
      exact pr_mk upd_same
/-! ### _law_all_orders -/
def spAll (n : Nat) : Sp := fun vs H Q _ => ∃ (x : V) (row : Odr), vs = [x] ∧ TT H x (odD row) ∧ row.length < n ∧ row.length ≤ 4 ∧ ∀ H' r ys, Same H H' → H' r = some (.lst ys) → TTs H' ys ((allO row.length row).map odD) → Q (.ref r) H'
theorem all_few {n : Nat} {row : Odr} (h : row.length = n + 1) (h4 : row.length ≤ 4) (i : Nat) (hi : i ≤ row.length) : ((List.range i).flatMap (headed n row)).length ≤ 24 := by
  rw [len_flat _ (facto n) _ fun k hk => ?_, List.length_range]
  · have z : facto (n + 1) ≤ 24 := facto_le (by omega)
    have y : i * facto n ≤ facto n * (n + 1) := by
      rw [Nat.mul_comm]
      exact Nat.mul_le_mul_left _ (by omega)
    exact Nat.le_trans y z
  · have lt : k < row.length := Nat.lt_of_lt_of_le (List.mem_range.mp hk) hi
    unfold headed
    rw [List.getElem?_eq_getElem lt]
    show ((allO n (row.eraseIdx k)).map _).length = _
    rw [List.length_map, len_allO _ _ (by rw [List.length_eraseIdx_of_lt lt]; omega)]
theorem all_step {n : Nat} (F : Fun K "_law_all_orders" "_law_all_orders" sLAllOrders f fd) (B : Bl mg) (b : Binds K fd ["_law_row_so"] []) (gl : mg "_law_all_orders" = some (.ref f)) (G : FnOk P w K mg base CX0 n f fd ["_law_row_so"] (spAll n)) :
    FnOk P w K mg base CX0 (n + 1) f fd ["_law_row_so"] (spAll (n + 1)) := by
  refine F.ok scLAllOrders (fun vs H Q E h => ?_) (fun cdv A outer s H vs Q E hr h => ?_)
  · obtain ⟨x, row, rfl, _⟩ := h
    rfl
  obtain ⟨x, row, rfl, hx, hn, h4, q⟩ := h
  obtain ⟨a, xs, rfl, ha, txs⟩ := TT.tup hx
  have lxs := txs.len
  rw [List.length_map] at lxs
  have nd := scLAllOrders.nd
  refine ⟨_, pss_cons (ps_if (pt_cmpR op_eq (pe_callB call_len_seq (by rfl) B.len PySem.boot_len (pa_cons (pv 0) pa_nil)) pe_int (nomark _)) (pss_one (ps_ret (pe_lst (pa_cons (pe_tup pa_nil) pa_nil)))) pss_nil)
    (pss_cons (ps_set (i := 1) nd rfl (Or.inl rfl) (pe_lst pa_nil))
    (pss_cons (ps_for PassesOwn.never rfl (pi_range1 (by rfl) B.range (pa_cons (pe_callB call_len_seq (by rfl) B.len PySem.boot_len (pa_cons (pv 0) pa_nil)) pa_nil)) (pg_name (i := 2) nd rfl (Or.inr rfl))
      (pss_one (ps_set (i := 1) nd rfl (Or.inl rfl) (pe_op op_cat (pv 1) (pe_lc (own := [("_law_own", 3)]) (g := gName 3) (tt := tYes) rfl nd
        (pi_list (pe_call G hr (by rfl) gl F.kp b .nil pass0 (pa_cons (pe_op (r := rCatA K) op_catA (pe_slice (r := rSlA K) sl_tupA (pv 0) po_none (po_some (pv 2))) (pe_slice (r := rSlA K) sl_tupA (pv 0) (po_some (pe_op op_add (pv 2) pe_int)) po_none)) pa_nil))) (blkOk_by (N := NLAllOrders) (sc := defScope sLAllOrders) (by decide +kernel))
        (fun _ _ _ _ _ => pg_name (i := 3) nd rfl (Or.inl rfl)) (fun _ _ _ _ _ => pts_nil)
        (fun _ _ _ _ _ => pe_op (r := rCatA K) op_catA (pe_tup (pa_cons (pe_ix (r := rIxT K) ix_tup (pv 0) (pv 2) (fun _ _ => rfl)) pa_nil)) (pv 3)))))))
    (pss_one (ps_ret (pv 1))))), ?_⟩
  refine ⟨_, rfl, a, xs, rfl, .inr (SqT.of ha), rfl, _, rfl, ?_⟩
  cases row with
  | nil =>
    refine iteY (decide_eq_true (by rw [lxs]; rfl)) ?_
    refine ⟨Nat.zero_le _, fun p0 hp0 => ⟨by show 1 ≤ sizeLine; decide, fun f0 hf0 => ?_⟩⟩
    refine q _ f0 [.ref p0] ((same_upd hp0).trans (same_upd hf0)) upd_same (.cons (DX.mk_tup ((upd_ne (ne_of_none upd_same hf0)).trans upd_same) .nil) .nil)
  | cons c0 rest =>
    generalize er : c0 :: rest = row at *
    have lrow : row.length = rest.length + 1 := by rw [← er]; rfl
    refine iteN (decide_eq_false (fun z => by have z := V.int.inj z; omega)) ?_
    refine ⟨Nat.zero_le _, fun f0 hf0 => ?_⟩
    have s0 := same_upd (o := .lst []) hf0
    refine ⟨_, rfl, a, xs, rfl, .inr (SqT.of (s0 _ _ ha)), _, rfl, by omega, by omega, ?_⟩
    rw [Int.toNat_natCast]
    refine for_it walk_range (fun i σ H' => ∃ (fa : Addr) (acc : List V) (v2 v3 : Option V), σ = [some (.ref a), some (.ref fa), v2, v3] ∧ Same H H' ∧ H' fa = some (.lst acc) ∧ TTs H' acc (((List.range i).flatMap (headed rest.length row)).map odD))
      ⟨f0, [], none, none, rfl, s0, upd_same, .nil⟩ (fun _ _ _ _ _ => trivial) ?_ ?_
    · rintro i v σ H1 H2 hi ⟨fa, acc, v2, v3, rfl, sm, ef, ta⟩ ⟨rfl, hv⟩
      obtain rfl : v = V.int (i : Nat) := hv.trans (congrArg V.int (Int.zero_add _))
      have il : i < row.length := by omega
      have lacc := ta.len
      rw [List.length_map] at lacc
      have ha1 := sm _ _ ha
      refine ⟨_, rfl, _, rfl, _, rfl, _, rfl, ?_⟩
      refine sl_read ha1 fun b1 H3 s3 e3 => ?_
      refine ⟨_, rfl, _, rfl, _, _, rfl, rfl, _, rfl, ?_⟩
      dsimp only [tNoPart]
      refine sl_read (s3 _ _ ha1) fun b2 H4 s4 e4 => ?_
      have z1 : (cutV xs none (some (i : Int))).length ≤ xs.length := cutV_length _ _ _
      have z2 : (cutV xs (some ((i : Int) + 1)) none).length ≤ xs.length := cutV_length _ _ _
      refine cat_read (s4 _ _ e3) e4 (by rw [sizeLine_eq]; omega) fun b3 H5 s5 e5 => ?_
      have s25 := (s3.trans s4).trans s5
      have le : (row.eraseIdx i).length = rest.length := by rw [List.length_eraseIdx_of_lt il]; omega
      have tx2 : TTs H2 xs (row.map prD) := DXs.same sm txs
      have e5' : TT H5 (.ref b3) (odD (row.eraseIdx i)) := by
        refine DX.mk_tup e5 ?_
        rw [cut_to, show (i : Int) + 1 = ((i + 1 : Nat) : Int) by omega, cut_from, List.eraseIdx_eq_take_drop_succ, List.map_append, List.map_take, List.map_drop]
        exact DXs.same s25 ((tx2.take i).app (tx2.drop (i + 1)))
      refine ⟨_, row.eraseIdx i, rfl, e5', by omega, by omega, fun H6 r ys s6 er6 tys => ⟨r, rfl, ⟨_, SqL.of er6⟩, fun D hD => ?_⟩⟩
      rw [le] at tys
      have lys := tys.len
      rw [List.length_map] at lys
      have s26 := s25.trans s6
      obtain ⟨y, hy, ty⟩ := tx2.get (i := i) (d := prD row[i]) (by rw [List.getElem?_map, List.getElem?_eq_getElem il]; rfl)
      have eh : headed rest.length row i = (allO rest.length (row.eraseIdx i)).map (row[i] :: ·) := by
        unfold headed
        rw [List.getElem?_eq_getElem il]
      refine lc_it walk_list (fun j H' => Same H6 H' ∧ ∃ ac2, H' D = some (.lst ac2) ∧ TTs H' ac2 (((headed rest.length row i).take j).map odD)) ⟨same_upd hD, [], upd_same, .nil⟩ (fun j H' _ p => SqL.of (p.1 _ _ er6)) ?_ ?_
      · rintro j z H' H7 hj ⟨sm7, ac2, eD, t2⟩ ⟨rfl, hz⟩
        obtain ⟨d, hd, tz⟩ := tys.at_ hz
        rw [List.getElem?_map] at hd
        obtain ⟨o, ho, rfl⟩ := Option.map_eq_some_iff.mp hd
        obtain ⟨ob, os, rfl, hob, tos⟩ := TT.tup tz
        have s27 := s26.trans sm7
        have los := tos.len
        rw [List.length_map] at los
        have lo : o.length = rest.length := by rw [((mem_allO _ _ le).mp (List.mem_of_getElem? ho)).length_eq, le]
        refine ⟨rfl, _, rfl, _, rfl, a, xs, _, y, rfl, rfl, SqT.of (s27 _ _ ha1), atI_nat hy, by show 1 ≤ sizeLine; decide, fun T hT => ?_⟩
        have sT := same_upd (o := .tup [y]) hT
        refine ⟨_, rfl, ?_⟩
        refine cat_read upd_same (sT _ _ (sm7 _ _ hob)) (by rw [sizeLine_eq]; show 1 + _ ≤ _; omega) fun b4 H8 s8 e8 => ?_
        have eD8 := s8 _ _ (sT _ _ eD)
        have l2 := t2.len
        rw [List.length_map, List.length_take] at l2
        have lh : (headed rest.length row i).length = ys.length := by rw [eh, List.length_map, lys]
        refine ⟨_, eD8, small1000 ?_, fun u z e => ?_, ac2 ++ [.ref b4], upd_same, ?_⟩
        · have := len_allO rest.length (row.eraseIdx i) le
          have := facto_le (n := rest.length) (by omega)
          omega
        · rw [upd_ne (ne_of_none e hD)]
          exact s8 _ _ (sT _ _ (sm7 _ _ e))
        · have hin : (headed rest.length row i)[j]? = some (row[i] :: o) := by
            rw [eh, List.getElem?_map, ho]
            rfl
          rw [take_snoc hin, List.map_append]
          refine TTs.stay (tupS_lst eD8) (DXs.snoc (DXs.same (sT.trans s8) t2) (DX.mk_tup e8 ?_))
          exact .cons (DX.same ((s27.trans sT).trans s8) ty) (DXs.same ((sm7.trans sT).trans s8) tos)
      · rintro H' ⟨sm7, ac2, eD, t2⟩
        have lh : (headed rest.length row i).length = ys.length := by rw [eh, List.length_map, lys]
        rw [List.take_of_length_le (by omega)] at t2
        have l2 := t2.len
        rw [List.length_map] at l2
        have ef7 := sm7 _ _ (s26 _ _ ef)
        have b1 := all_few lrow h4 (i + 1) il
        rw [range_snoc, List.length_append] at b1
        refine ⟨fa, D, acc, ac2, rfl, rfl, ef7, eD, by rw [sizeLine_eq]; omega, fun p hp => ?_⟩
        refine ⟨p, acc ++ ac2, _, _, rfl, sm.trans ((s26.trans sm7).trans (same_upd hp)), upd_same, ?_⟩
        rw [range_snoc, List.map_append]
        exact DXs.same (same_upd hp) ((DXs.same (s26.trans sm7) ta).app t2)
    · rintro σ H' ⟨fa, acc, v2, v3, rfl, sm, ef, ta⟩
      rw [lxs, ← allO_s, ← lrow] at ta
      exact ⟨_, rfl, q H' fa acc sm ef ta⟩
theorem ok_allO (F : Fun K "_law_all_orders" "_law_all_orders" sLAllOrders f fd) (B : Bl mg) (b : Binds K fd ["_law_row_so"] []) (gl : mg "_law_all_orders" = some (.ref f)) : ∀ n, FnOk P w K mg base CX0 n f fd ["_law_row_so"] (spAll n)
  | 0 => by
    have no : ∀ vs H Q E, ¬ spAll 0 vs H Q E := fun vs H Q E h => by
      obtain ⟨_, row, _, _, lt, _⟩ := h
      exact absurd lt (Nat.not_lt_zero _)
    exact ⟨fun vs H Q E h => absurd h (no vs H Q E), fun A outer s H args us vs Q E _ _ _ _ h => absurd h (no vs H Q E)⟩
  | n + 1 => all_step F B b gl (ok_allO F B b gl n)
end
end RK

namespace RK
open PySem PySem.Spec PyProof.Rows L2
/-! ### how large the data are -/
theorem smls_map {α : Type} {f : α → PyData} (h : ∀ x, sml (f x) = true) : ∀ l : List α, smls (l.map f) = true
  | [] => rfl
  | x :: l => by rw [List.map_cons, smls, h x, smls_map h l]; rfl
theorem depth_map {α : Type} {f : α → PyData} {k : Nat} (h : ∀ x, (f x).depth ≤ k) : ∀ l : List α, PyData.depthAll (l.map f) ≤ k
  | [] => Nat.zero_le _
  | x :: l => by
    have z := depth_map h l
    have y := h x
    rw [List.map_cons, PyData.depthAll]
    omega
theorem fine_od {n : Nat} {g : Odr} (h : g.length ≤ 1000) (hn : 2 < n) : Fine n (odD g) := by
  refine ⟨?_, ?_⟩
  · unfold odD
    rw [sml, smls_map (fun _ => rfl), List.length_map, decide_eq_true h]
    rfl
  · exact Nat.lt_of_le_of_lt (depth_od g) hn
theorem fine_trs' {l : List Tr} (h : l.length ≤ 1000) : Fine 4 (trsD l) := by
  refine ⟨?_, ?_⟩
  · unfold trsD
    rw [sml, smls_map (fun _ => rfl), List.length_map, decide_eq_true h]
    rfl
  · have z := depth_trs l
    unfold trsD
    rw [PyData.depth]
    omega
theorem fine_mk {m : Mk} (h : m.kinds.length ≤ 1000) (h2 : m.rest.length ≤ 900) : Fine 4 (mkD m) := by
  refine ⟨?_, ?_⟩
  · unfold mkD
    have z := (fine_trs' h).1
    have y : sml (.int m.lag) = true := rfl
    rw [sml, smls, smls, z, y, smls_map (fun _ => rfl), List.length_cons, List.length_cons, List.length_map, decide_eq_true (by omega)]
    rfl
  · have z := (fine_trs' h).2
    have y : (PyData.int m.lag).depth = 0 := rfl
    unfold mkD
    rw [PyData.depth, PyData.depthAll, PyData.depthAll, y, depth_ints]
    have x : (trsD m.kinds).depth ≤ 2 := by
      have := depth_trs m.kinds
      unfold trsD
      rw [PyData.depth]
      omega
    omega
theorem fine_ods {n : Nat} {S : List Odr} (h : S.length ≤ 1000) (hS : ∀ o ∈ S, o.length ≤ 1000) (hn : 3 < n) : Fine n (.list (S.map odD)) := by
  refine ⟨?_, ?_⟩
  · have z : ∀ S : List Odr, (∀ o ∈ S, o.length ≤ 1000) → smls (S.map odD) = true := fun S => by
      induction S with
      | nil => exact fun _ => rfl
      | cons o S ih =>
        intro hS
        rw [List.map_cons, smls, (fine_od (n := 3) (hS o List.mem_cons_self) (by omega)).1, ih fun p hp => hS p (List.mem_cons_of_mem _ hp)]
        rfl
    rw [sml, z S hS, List.length_map, decide_eq_true h]
    rfl
  · have z : PyData.depthAll (S.map odD) ≤ 2 := depth_map depth_od S
    rw [PyData.depth]
    omega
theorem fine_two {n : Nat} {d : PyData} (h : Fine n d) : Fine (n + 1) (.list [d, d]) := by
  refine ⟨?_, ?_⟩
  · rw [sml, smls, smls, smls, h.1]
    rfl
  · have z := h.2
    rw [PyData.depth, PyData.depthAll, PyData.depthAll, PyData.depthAll]
    omega
theorem fine_fire {n : Nat} (r : Option Pr) (hn : 1 < n) : Fine n (fireD r) := by
  cases r with
  | none => exact ⟨rfl, Nat.lt_of_lt_of_le (by decide : 0 < 1) (by omega)⟩
  | some c => exact ⟨rfl, hn⟩
theorem dd_two {H : Hp} {a : Addr} {x y : V} {d : PyData} (e : H a = some (.lst [x, y])) (h1 : DD H x d) (h2 : DD H y d) : DD H (.ref a) (.list [d, d]) := DX.mk_lst e (.cons h1 (.cons h2 .nil))
/-- what sorted told is of the orders of one row -/
theorem canon_few {m : Mk} {F S : List Odr} (c : Canon (good m F) S) (h : ∀ o ∈ F, o.length ≤ 4) (hF : F.length ≤ 24) : S.length ≤ 1000 ∧ ∀ o ∈ S, o.length ≤ 1000 := by
  have inF : ∀ o ∈ S, o ∈ F := fun o ho => (List.mem_filter.mp ((c.mem o).mp ho)).1
  refine ⟨?_, fun o ho => by have := h o (inF o ho); omega⟩
  have z : S.length ≤ F.length := List.Nodup.length_le_of_subset c.nd inF
  omega
/-! ### (own + (s,) for own in green) -/
abbrev rTO (K : PySem.W.Frag) : List V → Hp → VK → Prop := fun xs H Q => ∃ p ys, xs = [.ref p] ∧ ((SqL K H p ys ∧ ∀ l, H l = none → Q (.ref l) (upd H l (.tup ys))) ∨ (SqT K H p ys ∧ Q (.ref p) H))
def tRaw (s : Int) : TE := fun σ H Q => ∃ (v0 : Option V) (y : V) (v2 v3 v4 v5 v6 v7 : Option V) (g : Odr), σ = [v0, some y, v2, v3, v4, v5, v6, v7] ∧ TT H y (odD g) ∧ g.length ≤ 1000 ∧ ∀ H' z, Same H H' → TT H' z (trsD (rawOf s g)) → Q z H'
theorem pe_raw {X : Cx} {e : Expr} {s : Int} (h : PE X e (tCB (rTO X.K) (tCons (tLc (iTup X.K (tVar 1)) (gName 7) tYes (tOp (rCatA X.K) (tVar 7) (tTup (tCons (tC (.int s)) tNil))) [7]) tNil))) : PE X e (tRaw s) := by
  refine pe_imp h fun σ H Q z => ?_
  obtain ⟨v0, y, v2, v3, v4, v5, v6, v7, g, rfl, hy, len, q⟩ := z
  obtain ⟨ya, ys, rfl, hya, tys⟩ := TT.tup hy
  have lys := tys.len
  rw [List.length_map] at lys
  refine ⟨_, rfl, ya, rfl, ⟨_, SqT.of hya⟩, fun D hD => ?_⟩
  refine lc_it walk_tup (fun i H' => Same H H' ∧ ∃ acc, H' D = some (.lst acc) ∧ TTs H' acc (((rawOf s g).take i).map trD)) ⟨same_upd hD, [], upd_same, .nil⟩ (fun i H' _ p => SqT.of (p.1 _ _ hya)) ?_ ?_
  · rintro i v H' H3 hi ⟨sm, acc, eD, ta⟩ ⟨rfl, hv⟩
    obtain ⟨d, hd, tv⟩ := tys.at_ hv
    rw [List.getElem?_map] at hd
    obtain ⟨c, hc, rfl⟩ := Option.map_eq_some_iff.mp hd
    obtain ⟨b, rfl, hb⟩ := pr_of (DX.same sm tv)
    refine ⟨rfl, _, rfl, by show 1 ≤ sizeLine; decide, fun T hT => ?_⟩
    have sT := same_upd (o := .tup [.int s]) hT
    refine cat_read (sT _ _ hb) upd_same (by show 3 ≤ sizeLine; decide) fun b2 H4 s4 e4 => ?_
    have eD4 := s4 _ _ (sT _ _ eD)
    have l2 := ta.len
    rw [List.length_map, List.length_take] at l2
    have lr : (rawOf s g).length = g.length := by unfold rawOf; rw [List.length_map]
    refine ⟨_, eD4, small1000 (by omega), fun u z e => ?_, acc ++ [.ref b2], upd_same, ?_⟩
    · rw [upd_ne (ne_of_none e hD)]
      exact s4 _ _ (sT _ _ (sm _ _ e))
    · rw [take_snoc (show (rawOf s g)[i]? = some (c.1, c.2, s) by unfold rawOf; rw [List.getElem?_map, hc]; rfl), List.map_append]
      refine TTs.stay (tupS_lst eD4) (DXs.snoc (DXs.same (sT.trans s4) ta) (tr_mk e4))
  · rintro H' ⟨sm, acc, eD, ta⟩
    rw [List.take_of_length_le (by unfold rawOf; rw [List.length_map]; omega)] at ta
    refine ⟨D, _, rfl, .inl ⟨SqL.of eD, fun p hp => ?_⟩⟩
    exact q _ _ (sm.trans (same_upd hp)) (DX.mk_tup upd_same (DXs.same (same_upd hp) ta))
end RK

namespace RK
open PySem PySem.Spec PyProof.Rows L2
theorem mem_good_allO {m : Mk} {g o : Odr} : o ∈ good m (allO g.length g) ↔ o ∈ good m (ordersOf g) := by
  unfold good
  rw [List.mem_filter, List.mem_filter, mem_allO _ g rfl, mem_ordersOf _ g rfl]
theorem mem_good_rev {m : Mk} {g o : Odr} : o ∈ good m (ordersOf g.reverse) ↔ o ∈ good m (ordersOf g) := by
  unfold good
  rw [List.mem_filter, List.mem_filter, mem_ordersOf _ g rfl, mem_ordersOf _ g.reverse rfl]
  exact and_congr_left fun _ => ⟨fun h => h.trans (List.reverse_perm g), fun h => h.trans (List.reverse_perm g).symm⟩
theorem named_rev {m : Mk} {g : Odr} (nm : Named m (g.map (·.1))) : Named m (g.reverse.map (·.1)) := perm_named (List.reverse_perm g) nm
theorem named_raw {m : Mk} {g : Odr} {s : Int} (nm : Named m (g.map (·.1))) : Named m ((rawOf s g).map (·.1)) := by
  unfold rawOf
  rw [List.map_map]
  exact nm
section
variable {P : Program} {w : World} {K : PySem.W.Frag} {mg : Str → Option Value} {base : Heap} {f : Addr} {fd : FuncData}
/-- a promise and how its name is bound -/
structure HasF (P : Program) (w : World) (K : PySem.W.Frag) (mg : Str → Option Value) (base : Heap) (n : Nat) (x : Str) (ps : List Str) (sp : Sp) where
  a : Addr
  d : FuncData
  ok : FnOk P w K mg base CX0 n a d ps sp
  bd : Binds K d ps []
  kp : PySem.W.keepIn K (.ref a) = true
  at_ : mg x = some (.ref a)
/-! ### _law_green_right -/
def spGreen : Sp := fun vs H Q _ => ∃ (x y : V) (m : Mk) (g : Odr), vs = [x, y] ∧ TT H x (mkD m) ∧ TT H y (odD g) ∧ Fine 4 (mkD m) ∧ MkOk m ∧ g ≠ [] ∧ g.length ≤ 4 ∧ Named m (g.map (·.1)) ∧ ∀ H', Same H H' → Q (.bl true) H'
set_option maxHeartbeats 16000000 in
theorem ok_green (F : Fun K "_law_green_right" "_law_green_right" sLGreenRight f fd) (B : Bl mg) (GE : HasF P w K mg base 2 "_law_ends_by" ["_law_make_so", "_law_green_so"] spEnds) (GF : HasF P w K mg base 1 "firing_heats" ["make", "green"] spFiring)
    (GL : HasF P w K mg base 4 "_law_lists" ["_law_matter"] (spLists 4)) (GS : HasF P w K mg base 5 "_law_same" ["_law_got", "_law_due"] (spSame 5)) (GA : HasF P w K mg base 5 "_law_all_orders" ["_law_row_so"] (spAll 5))
    (GO : HasF P w K mg base 5 "orders_that_fire" ["make", "green"] spOTF) (GB : HasF P w K mg base 5 "load_behind" ["make", "load", "heats"] spBehind) : FnOk P w K mg base CX0 6 f fd ["_law_make_so", "_law_green_so"] spGreen := by
  refine F.ok scLGreenRight (fun vs H Q E h => ?_) (fun cdv A outer s H vs Q E hr h => ?_)
  · obtain ⟨x, y, m, g, rfl, _⟩ := h
    rfl
  obtain ⟨x, y, m, g, rfl, hx, hy, fm, ok, hg, h4, nm, q⟩ := h
  have nd := scLGreenRight.nd
  have hr1 : Room 1 _ := hr.mono (by decide)
  have hr2 : Room 2 _ := hr.mono (by decide)
  have hr4 : Room 4 _ := hr.mono (by decide)
  refine ⟨_, pss_cons (ps_set (i := 2) nd rfl (Or.inl rfl) (pe_call GE.ok hr2 (by rfl) GE.at_ GE.kp GE.bd .nil pass0 (pa_cons (pv 0) (pa_cons (pv 1) pa_nil))))
    (pss_cons (ps_if (pt_not (pt_val (pe_call GS.ok hr (by rfl) GS.at_ GS.kp GS.bd .nil pass0 (pa_cons (pe_lst (pa_cons (pe_call GF.ok hr1 (by rfl) GF.at_ GF.kp GF.bd .nil pass0 (pa_cons (pv 0) (pa_cons (pv 1) pa_nil)))
        (pa_cons (pe_call GF.ok hr1 (by rfl) GF.at_ GF.kp GF.bd .nil pass0 (pa_cons (pe_call GL.ok hr4 (by rfl) GL.at_ GL.kp GL.bd .nil pass0 (pa_cons (pv 0) pa_nil)) (pa_cons (pe_call GL.ok hr4 (by rfl) GL.at_ GL.kp GL.bd .nil pass0 (pa_cons (pv 1) pa_nil)) pa_nil))) pa_nil)))
        (pa_cons (pe_lst (pa_cons (pv 2) (pa_cons (pv 2) pa_nil))) pa_nil))))) pss_never pss_nil)
    (pss_cons (ps_set (i := 3) nd rfl (Or.inl rfl) (pe_callB (cr_sortK rfl hr.units) (by rfl) B.sorted (by decide +kernel) (pa_cons (pe_callTy (cr_setK rfl hr.units) (by rfl) B.set (by decide +kernel) (pa_cons
      (pe_lc (own := [("_law_own", 7)]) (g := gName 7) rfl nd (pi_list (pe_call GA.ok hr (by rfl) GA.at_ GA.kp GA.bd .nil pass0 (pa_cons (pv 1) pa_nil))) (blkOk_by (N := NLGreenRight) (sc := defScope sLGreenRight) (by decide +kernel))
        (fun _ _ _ _ _ => pg_name (i := 7) nd rfl (Or.inl rfl)) (fun _ _ _ _ _ => pts_one (pt_cmpR op_notN (pe_call GE.ok hr2 (by rfl) GE.at_ GE.kp GE.bd .nil pass0 (pa_cons (pv 0) (pa_cons (pv 7) pa_nil))) pe_non (nomark _))) (fun _ _ _ _ _ => pv 7)) pa_nil)) pa_nil)))
    (pss_cons (ps_set (i := 4) nd rfl (Or.inl rfl) (pe_call GO.ok hr (by rfl) GO.at_ GO.kp GO.bd .nil pass0 (pa_cons (pv 0) (pa_cons (pv 1) pa_nil))))
    (pss_cons (ps_if (pt_not (pt_val (pe_call GS.ok hr (by rfl) GS.at_ GS.kp GS.bd .nil pass0 (pa_cons (pe_lst (pa_cons (pv 4)
        (pa_cons (pe_call GO.ok hr (by rfl) GO.at_ GO.kp GO.bd .nil pass0 (pa_cons (pe_call GL.ok hr4 (by rfl) GL.at_ GL.kp GL.bd .nil pass0 (pa_cons (pv 0) pa_nil)) (pa_cons (pe_call GL.ok hr4 (by rfl) GL.at_ GL.kp GL.bd .nil pass0 (pa_cons (pe_revT (pv 1)) pa_nil)) pa_nil))) pa_nil)))
        (pa_cons (pe_lst (pa_cons (pv 3) (pa_cons (pv 3) pa_nil))) pa_nil))))) pss_never pss_nil)
    (pss_cons (ps_expr (pe_bm PySem.F.plainAttrs_list PySem.F.slot_list_append PySem.F.type_list_append mt_append (pv 4) (pa_cons pe_int pa_nil)))
    (pss_cons (ps_if (pt_not (pt_val (pe_call GS.ok hr (by rfl) GS.at_ GS.kp GS.bd .nil pass0 (pa_cons (pe_call GO.ok hr (by rfl) GO.at_ GO.kp GO.bd .nil pass0 (pa_cons (pv 0) (pa_cons (pv 1) pa_nil))) (pa_cons (pv 3) pa_nil))))) pss_never pss_nil)
    (pss_cons (ps_set (i := 5) nd rfl (Or.inl rfl) (pe_raw (s := 0) (pe_callTy call_tuple_of (by rfl) B.tuple (by decide +kernel) (pa_cons (pe_lc (own := [("_law_own", 7)]) (g := gName 7) (tt := tYes) rfl nd (pi_tup (pv 1)) (blkOk_by (N := NLGreenRight) (sc := defScope sLGreenRight) (by decide +kernel))
        (fun _ _ _ _ _ => pg_name (i := 7) nd rfl (Or.inl rfl)) (fun _ _ _ _ _ => pts_nil) (fun _ _ _ _ _ => pe_op (r := rCatA K) op_catA (pv 7) (pe_tup (pa_cons pe_int pa_nil)))) pa_nil))))
    (pss_cons (ps_for PassesOwn.never rfl (pi_list (pe_ifExp (pt_cmpR op_isN (pv 2) pe_non (nomark _)) (pe_lst pa_nil) (pe_lst (pa_cons (pe_ix (r := rIxT K) ix_tup (pv 2) pe_int (fun _ _ => rfl)) (pa_cons (pe_ix (r := rIxT K) ix_tup (pv 2) pe_int (fun _ _ => rfl)) pa_nil))))) (pg_name (i := 6) nd rfl (Or.inl rfl))
      (pss_one (ps_if (pt_not (pt_val (pe_call GS.ok hr (by rfl) GS.at_ GS.kp GS.bd .nil pass0 (pa_cons (pe_call GB.ok hr (by rfl) GB.at_ GB.kp GB.bd .nil pass0 (pa_cons (pv 0) (pa_cons (pv 5) (pa_cons (pe_tup (pa_cons (pv 6) pa_nil)) pa_nil))))
        (pa_cons (pe_raw (s := 1) (pe_callTy call_tuple_of (by rfl) B.tuple (by decide +kernel) (pa_cons (pe_lc (own := [("_law_own", 7)]) (g := gName 7) (tt := tYes) rfl nd (pi_tup (pv 1)) (blkOk_by (N := NLGreenRight) (sc := defScope sLGreenRight) (by decide +kernel))
          (fun _ _ _ _ _ => pg_name (i := 7) nd rfl (Or.inl rfl)) (fun _ _ _ _ _ => pts_nil) (fun _ _ _ _ _ => pe_op (r := rCatA K) op_catA (pv 7) (pe_tup (pa_cons pe_int pa_nil)))) pa_nil))) pa_nil))))) pss_never pss_nil)))
    (pss_cons (ps_if (PW.pt (pw_and (pt_cmpR op_notN (pv 2) pe_non (nomark _)) (pw_and (pt_cmpR op_gt (pe_ix (r := rIxT K) ix_tup (pv 2) pe_int (fun _ _ => rfl)) pe_int (nomark _)) (pw_and1 (pt_cmpR (op_eqD hr.units)
        (pe_call GB.ok hr (by rfl) GB.at_ GB.kp GB.bd .nil pass0 (pa_cons (pv 0) (pa_cons (pv 5) (pa_cons (pe_tup (pa_cons (pe_op op_sub (pe_ix (r := rIxT K) ix_tup (pv 2) pe_int (fun _ _ => rfl)) pe_int) pa_nil)) pa_nil))))
        (pe_raw (s := 1) (pe_callTy call_tuple_of (by rfl) B.tuple (by decide +kernel) (pa_cons (pe_lc (own := [("_law_own", 7)]) (g := gName 7) (tt := tYes) rfl nd (pi_tup (pv 1)) (blkOk_by (N := NLGreenRight) (sc := defScope sLGreenRight) (by decide +kernel))
          (fun _ _ _ _ _ => pg_name (i := 7) nd rfl (Or.inl rfl)) (fun _ _ _ _ _ => pts_nil) (fun _ _ _ _ _ => pe_op (r := rCatA K) op_catA (pv 7) (pe_tup (pa_cons pe_int pa_nil)))) pa_nil))) (nomark _)))))) pss_never pss_nil)
    (pss_one (ps_ret (pe_or (pe_cmpR op_isN (pv 2) pe_non (nomark _)) (pe_one (pe_cmpR op_eq (pe_call GB.ok hr (by rfl) GB.at_ GB.kp GB.bd .nil pass0 (pa_cons (pv 0) (pa_cons (pv 5) (pa_cons (pe_tup (pa_cons (pe_op op_add (pe_ix (r := rIxT K) ix_tup (pv 2) pe_int (fun _ _ => rfl)) pe_int) pa_nil)) pa_nil))))
        (pe_callB (cr_sum rfl) (by rfl) B.sum (by decide +kernel) (pa_cons (pe_lc (own := [("_law_own", 7)]) (g := gName 7) (tt := tYes) rfl nd (pi_tup (pv 1)) (blkOk_by (N := NLGreenRight) (sc := defScope sLGreenRight) (by decide +kernel))
          (fun _ _ _ _ _ => pg_name (i := 7) nd rfl (Or.inl rfl)) (fun _ _ _ _ _ => pts_nil) (fun _ _ _ _ _ => pe_ix (r := rIxT K) ix_tup (pv 7) pe_int (fun _ _ => rfl))) pa_nil)) (nomark _))))))))))))))), ?_⟩
  -- due
  have hx0 := hx
  obtain ⟨xa, xxs, rfl, hxa, _⟩ := TT.tup hx
  obtain ⟨ya, ys, rfl, hya, tys⟩ := TT.tup hy
  have lys := tys.len
  rw [List.length_map] at lys
  have f4 : Fine 4 (odD g) := fine_od (by omega) (by decide)
  refine ⟨_, rfl, _, rfl, .ref xa, .ref ya, m, g, rfl, hx, hy, ok, hg, h4, nm, fun H1 z s1 tz => ?_⟩
  -- firing_heats, of tuples and of lists
  have x1 := DX.same s1 hx
  have y1 := DX.same s1 hy
  refine ⟨_, rfl, _, rfl, .ref xa, .ref ya, m, g, rfl, TT.dt x1, TT.dt y1, hg, by omega, nm, fun H2 z2 s2 tz2 => ?_⟩
  refine ⟨_, rfl, .ref xa, mkD m, H2, rfl, Same.refl _, TT.dt (DX.same s2 x1), fm, fun H3 G3 x3 s3 sg3 sh3 fr3 tx3 => ?_⟩
  have y3 := DX.same (s2.trans s3) y1
  refine ⟨_, rfl, .ref ya, odD g, H3, rfl, Same.refl _, TT.dt y3, f4, fun H4 G4 y4 s4 sg4 sh4 fr4 ty4 => ?_⟩
  refine ⟨x3, y4, m, g, rfl, DX.same (sh3.trans s4) tx3, DX.same sh4 ty4, hg, by omega, nm, fun H5 z5 s5 tz5 => ?_⟩
  refine ⟨by show 2 ≤ sizeLine; decide, fun L hL => ?_⟩
  have sL := same_upd (o := .lst [z2, z5]) hL
  refine ⟨_, rfl, _, rfl, by show 2 ≤ sizeLine; decide, fun L2 hL2 => ?_⟩
  have sL2 := same_upd (o := .lst [z, z]) hL2
  have s25 := (s3.trans s4).trans s5
  have tzL : TT (upd (upd H5 L (.lst [z2, z5])) L2 (.lst [z, z])) z (fireD (fire m g)) := DX.same ((((s2.trans s25).trans sL).trans sL2)) tz
  refine ⟨.ref L, .ref L2, .list [fireD (fire m g), fireD (fire m g)], rfl, dd_two (sL2 _ _ upd_same) (TT.dd (DX.same ((s25.trans sL).trans sL2) tz2)) (TT.dd (DX.same (sL.trans sL2) tz5)), dd_two upd_same (TT.dd tzL) (TT.dd tzL), fine_two (fine_fire _ (by decide)), fun H6 s6 => ?_⟩
  have tz6 := DX.same s6 tzL
  have s16 : Same H H6 := ((((s1.trans s2).trans s25).trans sL).trans sL2).trans s6
  clear tzL
  generalize upd (upd H5 L (.lst [z2, z5])) L2 (.lst [z, z]) = H5' at s6
  refine ⟨_, rfl, iteF ?_⟩
  -- orders
  refine ⟨_, rfl, .ref ya, g, rfl, DX.same s16 hy, by omega, h4, fun H7 r7 ys7 s7 er7 t7 => ⟨r7, rfl, ⟨_, SqL.of er7⟩, fun D hD => ?_⟩⟩
  have s17 := s16.trans s7
  have l7 := t7.len
  rw [List.length_map] at l7
  refine lc_it walk_list (fun i H' => Same H7 H' ∧ ∃ acc, H' D = some (.lst acc) ∧ TTs H' acc ((good m ((allO g.length g).take i)).map odD)) ⟨same_upd hD, [], upd_same, .nil⟩ (fun i H' _ p => SqL.of (p.1 _ _ er7)) ?_ ?_
  · rintro i v H' H8 hi ⟨sm, acc, eD, ta⟩ ⟨rfl, hv⟩
    obtain ⟨d, hd, tv⟩ := t7.at_ hv
    rw [List.getElem?_map] at hd
    obtain ⟨o, ho, rfl⟩ := Option.map_eq_some_iff.mp hd
    have po := (mem_allO _ g rfl).mp (List.mem_of_getElem? ho)
    refine ⟨rfl, _, rfl, _, rfl, .ref xa, v, m, o, rfl, DX.same (s17.trans sm) hx, DX.same sm tv, ok, perm_ne po hg, by have := po.length_eq; omega, perm_named po nm, fun H9 z9 s9 tz9 => ?_⟩
    refine ⟨rfl, _, rfl, ?_⟩
    rw [is_none_of tz9, Bool.not_not]
    have eD9 := s9 _ _ eD
    have la : acc.length ≤ 1000 := by
      have z1 := ta.len
      rw [List.length_map] at z1
      have z2 : (good m ((allO g.length g).take i)).length ≤ ((allO g.length g).take i).length := List.length_filter_le _ _
      have z3 := len_allO _ g rfl
      have z4 := facto_le h4
      rw [List.length_take] at z2
      have z5 := Nat.min_le_right i (allO g.length g).length
      omega
    refine ite2 (fun c => ?_) (fun c => ?_)
    · refine ⟨_, rfl, acc, eD9, small1000 la, fun u w' e => ?_, acc ++ [v], upd_same, ?_⟩
      · rw [upd_ne (ne_of_none e hD)]
        exact s9 _ _ (sm _ _ e)
      · rw [good_snoc ho, if_pos c, List.map_append]
        exact TTs.stay (tupS_lst eD9) (DXs.snoc (DXs.same s9 ta) (DX.same (sm.trans s9) tv))
    · refine ⟨sm.trans s9, acc, eD9, ?_⟩
      rw [good_snoc ho, if_neg c, List.append_nil]
      exact DXs.same s9 ta
  rintro H8 ⟨sm8, acc, eD, ta⟩
  rw [List.take_of_length_le (by omega)] at ta
  dsimp only [tNil]
  refine sorted_of (H0 := H6) (s7.trans sm8) eD ta ?_ (fun o ho => perm_ne ((mem_allO _ g rfl).mp (List.mem_filter.mp ho).1) hg) fun H9 ro yso S s9 nro ero to cS => ?_
  · have z2 : (good m (allO g.length g)).length ≤ (allO g.length g).length := List.length_filter_le _ _
    have z3 := len_allO _ g rfl
    have z4 := facto_le h4
    omega
  have fewO := canon_few cS (fun o ho => by have := ((mem_allO _ g rfl).mp ho).length_eq; omega) (by rw [len_allO _ g rfl]; exact facto_le h4)
  have fS : Fine 4 (.list (S.map odD)) := fine_ods fewO.1 fewO.2 (by decide)
  have s19 := s16.trans s9
  -- told
  refine ⟨_, rfl, _, rfl, .ref xa, .ref ya, m, g, rfl, TT.dt (DX.same s19 hx), TT.dt (DX.same s19 hy), f4, hg, h4, nm, fun H10 rt yst S1 s10 nrt ert tt1 cS1 => ?_⟩
  obtain rfl : S = S1 := cS.one cS1 fun o => mem_good_allO
  have s110 := s19.trans s10
  have nrt0 : H rt = none := s19.free nrt
  refine ⟨_, rfl, ?_⟩
  refine ⟨_, rfl, .ref xa, mkD m, H10, rfl, Same.refl _, TT.dt (DX.same s110 hx), fm, fun H11 G11 x11 s11 sg11 sh11 fr11 tx11 => ?_⟩
  have s111 := s110.trans s11
  refine ⟨_, rfl, ya, _, rfl, SqT.of (s111 _ _ hya), fun T hT => ?_⟩
  have sT := same_upd (o := .tup ys.reverse) hT
  have tR : TT (upd H11 T (.tup ys.reverse)) (.ref T) (odD g.reverse) := by
    refine DX.mk_tup upd_same ?_
    rw [List.map_reverse]
    exact DXs.rev (DXs.same (s111.trans sT) tys)
  refine ⟨.ref T, odD g.reverse, _, rfl, Same.refl _, TT.dt tR, fine_od (by rw [List.length_reverse]; omega) (by decide), fun H12 G12 y12 s12 sg12 sh12 fr12 ty12 => ?_⟩
  refine ⟨x11, y12, m, g.reverse, rfl, DX.same ((sh11.trans sT).trans s12) tx11, DX.same sh12 ty12, fine_od (by rw [List.length_reverse]; omega) (by decide), (fun e => hg (List.reverse_eq_nil_iff.mp e)), by rw [List.length_reverse]; exact h4, named_rev nm, fun H13 r2 ys2 S2 s13 nr2 er2 tt2 cS2 => ?_⟩
  obtain rfl : S = S2 := cS1.one cS2 fun o => mem_good_rev.symm
  refine ⟨by show 2 ≤ sizeLine; decide, fun L3 hL3 => ?_⟩
  have sL3 := same_upd (o := .lst [.ref rt, .ref r2]) hL3
  refine ⟨_, rfl, _, rfl, by show 2 ≤ sizeLine; decide, fun L4 hL4 => ?_⟩
  have sL4 := same_upd (o := .lst [.ref ro, .ref ro]) hL4
  generalize eM : upd (upd H13 L3 (.lst [.ref rt, .ref r2])) L4 (.lst [.ref ro, .ref ro]) = M at *
  have s10M : Same H10 M := ((((s11.trans sT).trans s12).trans s13).trans sL3).trans sL4
  have s13M : Same H13 M := sL3.trans sL4
  have s9M : Same H9 M := s10.trans s10M
  have dro : DD M (.ref ro) (.list (S.map odD)) := DX.mk_lst (s9M _ _ ero) (TTs.dd (DXs.same s9M to))
  have drt : DD M (.ref rt) (.list (S.map odD)) := DX.mk_lst (s10M _ _ ert) (TTs.dd (DXs.same s10M tt1))
  have dr2 : DD M (.ref r2) (.list (S.map odD)) := DX.mk_lst (s13M _ _ er2) (TTs.dd (DXs.same s13M tt2))
  refine ⟨.ref L3, .ref L4, .list [.list (S.map odD), .list (S.map odD)], rfl, dd_two (sL4 _ _ upd_same) drt dr2, dd_two (by rw [← eM]; exact upd_same) dro dro, fine_two fS, fun H14 s14 => ?_⟩
  refine ⟨_, rfl, iteF ?_⟩
  -- told.append(0)
  have ert14 : H14 rt = some (.lst yst) := s14 _ _ (s10M _ _ ert)
  have ero14 : H14 ro = some (.lst yso) := s14 _ _ (s9M _ _ ero)
  have lyst := tt1.len
  rw [List.length_map] at lyst
  have nro : ro ≠ rt := ne_of_none ero nrt
  have s914 : Same H9 H14 := s9M.trans s14
  refine ⟨_, rfl, .inl ⟨rfl, _, SqL.of ert14⟩, rt, yst, _, rfl, rfl, ert14, small1000 (by rw [lyst]; exact fewO.1), ?_⟩
  have sN : Same H (upd H14 rt (.lst (yst ++ [.int 0]))) := fun b u e => by
    rw [upd_ne (ne_of_none e nrt0)]
    exact s914 _ _ (s19 _ _ e)
  have tN : TupS H14 (upd H14 rt (.lst (yst ++ [.int 0]))) := tupS_lst ert14
  have tzN := TT.stay tN (DX.same (s9.trans s914) tz6)
  have toN := TTs.stay tN (DXs.same s914 to)
  have eroN : upd H14 rt (.lst (yst ++ [.int 0])) ro = some (.lst yso) := (upd_ne nro).trans ero14
  generalize upd H14 rt (.lst (yst ++ [.int 0])) = N at sN tN tzN toN eroN
  -- told again
  refine ⟨_, rfl, _, rfl, .ref xa, .ref ya, m, g, rfl, TT.dt (DX.same sN hx), TT.dt (DX.same sN hy), f4, hg, h4, nm, fun H15 r3 ys3 S3 s15 nr3 er3 tt3 cS3 => ?_⟩
  obtain rfl : S = S3 := cS1.one cS3 fun _ => Iff.rfl
  refine ⟨_, rfl, .ref r3, .ref ro, .list (S.map odD), rfl, DX.mk_lst er3 (TTs.dd tt3), DX.mk_lst (s15 _ _ eroN) (TTs.dd (DXs.same s15 toN)), fS.le (by decide), fun H16 s16' => ?_⟩
  refine ⟨_, rfl, iteF ?_⟩
  have sH16 := sN.trans (s15.trans s16')
  -- raw
  refine ⟨_, .ref ya, _, _, _, _, _, _, g, rfl, DX.same sH16 hy, by omega, fun H17 rw17 s17' traw => ?_⟩
  have sH17 := sH16.trans s17'
  have tz17 := DX.same (s15.trans (s16'.trans s17')) tzN
  have lraw : ∀ s : Int, (rawOf s g).length ≤ 1000 := fun s => by unfold rawOf; rw [List.length_map]; omega
  cases e : fire m g with
  | none =>
    rw [e] at tz17
    obtain rfl := DD.non' (TT.dd tz17)
    refine ⟨_, rfl, rfl, _, rfl, iteY (decide_eq_true rfl) ⟨Nat.zero_le _, fun l0 hl0 => ⟨l0, rfl, ⟨_, SqL.of upd_same⟩, ?_⟩⟩⟩
    have sl := same_upd (o := .lst []) hl0
    refine for_it (walk_list (xs := [])) (fun i σ H' => σ = [some (.ref xa), some (.ref ya), some .non, some (.ref ro), some (.ref rt), some rw17, none, none] ∧ Same (upd H17 l0 (.lst [])) H') ⟨rfl, Same.refl _⟩ (fun i σ H' _ p => SqL.of (p.2 _ _ upd_same)) ?_ ?_
    · rintro i v σ H' H3 hi
      exact absurd hi (Nat.not_lt_zero _)
    · rintro σ H' ⟨rfl, sm⟩
      refine ⟨_, rfl, rfl, _, rfl, iteN (by rw [decide_eq_true rfl]; rfl) (iteF ?_)⟩
      refine ⟨_, rfl, rfl, _, rfl, iteY (decide_eq_true rfl) ?_⟩
      exact q _ (sH17.trans (sl.trans sm))
  | some c =>
    rw [e] at tz17
    obtain ⟨zb, rfl, hzb⟩ := pr_of tz17
    have bnd := fire_bounds ok nm hg h4 e
    have le := fire_le e
    refine ⟨_, rfl, rfl, _, rfl, iteN (decide_eq_false (fun h => nomatch h)) ⟨_, rfl, zb, _, 0, _, rfl, rfl, SqT.of hzb, atI_nat (j := 0) rfl, _, rfl, zb, _, 1, _, rfl, rfl, SqT.of hzb, atI_nat (j := 1) rfl, by show 2 ≤ sizeLine; decide, fun l0 hl0 => ⟨l0, rfl, ⟨_, SqL.of upd_same⟩, ?_⟩⟩⟩
    have sl := same_upd (o := .lst [.int c.1, .int c.2]) hl0
    refine for_it (walk_list (xs := [V.int c.1, V.int c.2])) (fun i σ H' => ∃ v6, σ = [some (.ref xa), some (.ref ya), some (.ref zb), some (.ref ro), some (.ref rt), some rw17, v6, none] ∧ Same (upd H17 l0 (.lst [.int c.1, .int c.2])) H') ⟨none, rfl, Same.refl _⟩ (fun i σ H' _ ⟨_, _, sm⟩ => SqL.of (sm _ _ upd_same)) ?_ ?_
    · rintro i v σ H18 H3 hi ⟨v6, rfl, sm⟩ ⟨rfl, hv⟩
      obtain ⟨h, rfl, hb⟩ : ∃ h, v = V.int h ∧ (c.1 ≤ h ∧ h ≤ c.2) := by
        have i2 : i = 0 ∨ i = 1 := by
          have z : i < 2 := hi
          omega
        rcases i2 with rfl | rfl
        · exact ⟨c.1, (Option.some.inj hv).symm, Int.le_refl _, le⟩
        · exact ⟨c.2, (Option.some.inj hv).symm, le, Int.le_refl _⟩
      have s18 := sl.trans sm
      refine ⟨_, rfl, _, rfl, _, rfl, by show 1 ≤ sizeLine; decide, fun t ht => ?_⟩
      have st := same_upd (o := .tup [.int h]) ht
      refine ⟨.ref xa, rw17, t, h, m, rawOf 0 g, rfl, TT.dt (DX.same (sH17.trans (s18.trans st)) hx), TT.dt (DX.same (s18.trans st) traw), fm, fine_trs' (lraw 0), upd_same, named_raw nm, fun hot => absurd hot (no_melt ok nm hg e hb.2 0), fun _ H19 z19 s19' tz19 => ?_⟩
      rw [stood_all ok nm ((fire_some hg e h).mpr hb)] at tz19
      refine ⟨_, .ref ya, _, _, _, _, _, _, g, rfl, DX.same (sH17.trans ((s18.trans st).trans s19')) hy, by omega, fun H20 r20 s20 tr20 => ?_⟩
      refine ⟨z19, r20, trsD (rawOf 1 g), rfl, TT.dd (DX.same s20 tz19), TT.dd tr20, (fine_trs' (lraw 1)).le (by decide), fun H21 s21 => ?_⟩
      exact ⟨_, rfl, iteF ⟨_, rfl, sm.trans (((st.trans s19').trans s20).trans s21)⟩⟩
    · rintro σ H18 ⟨v6, rfl, sm⟩
      have s18 := sl.trans sm
      have nn : decide (V.ref zb = V.non) = false := decide_eq_false (fun h => nomatch h)
      have hzb18 := s18 _ _ hzb
      refine ⟨_, rfl, rfl, _, rfl, iteY (by rw [nn]; rfl) ?_⟩
      refine ⟨_, rfl, zb, _, 0, _, rfl, rfl, SqT.of hzb18, atI_nat (j := 0) rfl, _, _, rfl, rfl, _, rfl, iteY (decide_eq_true (by omega)) ?_⟩
      refine ⟨_, rfl, _, rfl, _, rfl, zb, _, 0, _, rfl, rfl, SqT.of hzb18, atI_nat (j := 0) rfl, _, _, rfl, rfl, by show 1 ≤ sizeLine; decide, fun t ht => ?_⟩
      have st := same_upd (o := .tup [.int (c.1 - 1)]) ht
      refine ⟨.ref xa, rw17, t, c.1 - 1, m, rawOf 0 g, rfl, TT.dt (DX.same (sH17.trans (s18.trans st)) hx), TT.dt (DX.same (s18.trans st) traw), fm, fine_trs' (lraw 0), upd_same, named_raw nm, fun hot => absurd hot (no_melt ok nm hg e (by omega) 0), fun _ H19 z19 s19' tz19 => ?_⟩
      refine ⟨_, .ref ya, _, _, _, _, _, _, g, rfl, DX.same (sH17.trans ((s18.trans st).trans s19')) hy, by omega, fun H20 r20 s20 tr20 => ?_⟩
      refine ⟨_, _, DX.dp (TT.dd (DX.same s20 tz19)), DX.dp (TT.dd tr20), shp_trs _, shp_trs _, _, rfl, iteN (Bool.eq_false_iff.mpr fun z => stood_not ok nm hg e (trsD_inj z)) ?_⟩
      have s1820 := (st.trans s19').trans s20
      have hzb20 := s1820 _ _ hzb18
      refine ⟨_, rfl, rfl, _, rfl, iteN nn ?_⟩
      refine ⟨_, rfl, _, rfl, _, rfl, zb, _, 1, _, rfl, rfl, SqT.of hzb20, atI_nat (j := 1) rfl, _, _, rfl, rfl, by show 1 ≤ sizeLine; decide, fun t2 ht2 => ?_⟩
      have st2 := same_upd (o := .tup [.int (c.2 + 1)]) ht2
      have s1721 := (s18.trans s1820).trans st2
      refine ⟨.ref xa, rw17, t2, c.2 + 1, m, rawOf 0 g, rfl, TT.dt (DX.same (sH17.trans s1721) hx), TT.dt (DX.same s1721 traw), fm, fine_trs' (lraw 0), upd_same, named_raw nm, fun _ H22 s22 => ?_, fun no => absurd (melt_above ok nm hg e 0) no⟩
      have sH22 := sH17.trans (s1721.trans s22)
      have hya22 := sH22 _ _ hya
      refine ⟨_, rfl, ya, rfl, ⟨_, SqT.of hya22⟩, fun D hD => ?_⟩
      refine lc_it walk_tup (fun i H' => Same H22 H' ∧ H' D = some (.lst (((g.map (·.2)).take i).map V.int))) ⟨same_upd hD, upd_same⟩ (fun i H' _ p => SqT.of (p.1 _ _ hya22)) ?_ ?_
      · rintro i v H' H3 hi ⟨sm2, eD⟩ ⟨rfl, hv⟩
        obtain ⟨d, hd, tv⟩ := tys.at_ hv
        rw [List.getElem?_map] at hd
        obtain ⟨o, ho, rfl⟩ := Option.map_eq_some_iff.mp hd
        obtain ⟨b, rfl, hb⟩ := pr_of (DX.same (sH22.trans sm2) tv)
        refine ⟨rfl, _, rfl, b, _, 1, _, rfl, rfl, SqT.of hb, atI_nat (j := 1) rfl, _, eD, tk_small (by rw [List.length_map]; omega), fun u z e => ?_, ?_⟩
        · rw [upd_ne (ne_of_none e hD)]
          exact sm2 _ _ e
        · rw [upd_same, take_snoc (show (g.map (·.2))[i]? = some o.2 by rw [List.getElem?_map, ho]; rfl), List.map_append]
          rfl
      · rintro H' ⟨sm2, eD⟩
        rw [List.take_of_length_le (by rw [List.length_map]; omega)] at eD
        refine ⟨D, _, rfl, SqL.of eD, rfl, ?_⟩
        exact bl_of (decide_eq_true (congrArg V.int (bricks_raw 0 g))) (q _ (sH22.trans sm2))
end
end RK

namespace RK
open PySem PySem.Spec PyProof.Rows L2
/-! ### the tin of draws: a list that changes -/
def Tin (H : Hp) (a : Addr) (k : Int) : Prop := ∃ b m c : Int, H a = some (.lst [.int b, .int m, .int c]) ∧ 0 ≤ b ∧ 0 ≤ m ∧ m < 4611686018427387904 ∧ 0 ≤ c ∧ c ≤ k
/-- all but the tin stays -/
def Oth (a : Addr) (H H' : Hp) : Prop := ∀ x o, x ≠ a → H x = some o → H' x = some o
theorem Oth.refl (a : Addr) (H : Hp) : Oth a H H := fun _ _ _ e => e
theorem Oth.trans {a : Addr} {H H1 H2 : Hp} (s : Oth a H H1) (t : Oth a H1 H2) : Oth a H H2 := fun x o n e => t x o n (s x o n e)
theorem Oth.of {a : Addr} {H H1 : Hp} (s : Same H H1) : Oth a H H1 := fun x o _ e => s x o e
theorem Tin.mono {H : Hp} {a : Addr} {k k' : Int} (t : Tin H a k) (h : k ≤ k') : Tin H a k' := by
  obtain ⟨b, m, c, e, h1, h2, h3, h4, h5⟩ := t
  exact ⟨b, m, c, e, h1, h2, h3, h4, Int.le_trans h5 h⟩
theorem Tin.same {H H' : Hp} {a : Addr} {k : Int} (t : Tin H a k) (s : Same H H') : Tin H' a k := by
  obtain ⟨b, m, c, e, h⟩ := t
  exact ⟨b, m, c, s _ _ e, h⟩
theorem Tin.tup {H H' : Hp} {a : Addr} {k : Int} (t : Tin H a k) (s : Oth a H H') : TupS H H' := fun x ys e => by
  obtain ⟨b, m, c, e2, _⟩ := t
  refine s x _ (fun z => ?_) e
  rw [z, e2] at e
  cases e
theorem Tin.ne {H : Hp} {a D : Addr} {k : Int} (t : Tin H a k) (n : H D = none) : D ≠ a := fun z => by
  obtain ⟨b, m, c, e2, _⟩ := t
  rw [z, e2] at n
  cases n
/-- what a draw leaves -/
theorem Oth.free {a x : Addr} {H H' : Hp} {k : Int} (t : Tin H a k) (s : Oth a H H') (n : H' x = none) (t' : Tin H' a k) : H x = none := by
  cases e : H x with
  | none => rfl
  | some o =>
    have ne : x ≠ a := fun z => by
      obtain ⟨b, m, c, e2, _⟩ := t'
      rw [z, e2] at n
      cases n
    rw [s x o ne e] at n
    cases n
section
variable {P : Program} {w : World} {K : PySem.W.Frag} {mg : Str → Option Value} {base : Heap} {f : Addr} {fd : FuncData}
/-! ### _law_take -/
def spTake : Sp := fun vs H Q _ => ∃ (a : Addr) (n k : Int), vs = [.ref a, .int n] ∧ Tin H a k ∧ k ≤ 900 ∧ 0 < n ∧ n < 1073741824 ∧ ∀ H' r, 0 ≤ r → r < n → Tin H' a (k + 1) → Oth a H H' → (∀ x, H' x = none → H x = none) → Q (.int r) H'
theorem ok_take (F : Fun K "_law_take" "_law_take" sLTake f fd) (B : Bl mg) : FnOk P w K mg base CX0 1 f fd ["_law_tin", "_law_below_so"] spTake := by
  refine F.ok scLTake (fun vs H Q E h => ?_) (fun cdv A outer s H vs Q E hr h => ?_)
  · obtain ⟨a, n, k, rfl, _⟩ := h
    rfl
  obtain ⟨a, n, k, rfl, ⟨b, m, c, ha, b0, m0, m1, c0, ck⟩, k9, n0, n1, q⟩ := h
  have nd := scLTake.nd
  refine ⟨_, pss_cons (ps_if (pt_cmpR op_gt (pe_ix (r := rIxL K) ix_list (pv 0) pe_int (fun _ _ => rfl)) pe_int (nomark _))
      (pss_cons (ps_set (i := 2) nd rfl (Or.inl rfl) (pe_op op_mod (pe_callTy call_int1 (by rfl) B.int (by decide +kernel) (pa_cons (pe_ix (r := rIxL K) ix_list (pv 0) pe_int (fun _ _ => rfl)) pa_nil)) (pv 1)))
      (pss_cons (ps_asg (pe_op op_fdiv (pe_ix (r := rIxL K) ix_list (pv 0) pe_int (fun _ _ => rfl)) (pv 1)) (pg_sub (pv 0) pe_int set_list))
      (pss_one (ps_ret (pv 2))))) pss_nil)
    (pss_cons (ps_asg (pe_op op_add (pe_ix (r := rIxL K) ix_list (pv 0) pe_int (fun _ _ => rfl)) pe_int) (pg_sub (pv 0) pe_int set_list))
    (pss_cons (ps_set (i := 3) nd rfl (Or.inl rfl) (pe_op op_mod (pe_callTy call_int1 (by rfl) B.int (by decide +kernel) (pa_cons (pe_op op_mul (pe_op op_add (pe_ix (r := rIxL K) ix_list (pv 0) pe_int (fun _ _ => rfl)) (pe_op op_mul pe_int (pe_ix (r := rIxL K) ix_list (pv 0) pe_int (fun _ _ => rfl)))) (pe_op op_add pe_int (pe_ix (r := rIxL K) ix_list (pv 0) pe_int (fun _ _ => rfl)))) pa_nil)) pe_int))
    (pss_cons (ps_set (i := 4) nd rfl (Or.inl rfl) (pe_op op_add (pe_op op_mod (pe_callTy call_int1 (by rfl) B.int (by decide +kernel) (pa_cons (pv 3) pa_nil)) pe_int) pe_int))
    (pss_cons (ps_set (i := 5) nd rfl (Or.inl rfl) (pe_op op_mod (pe_callTy call_int1 (by rfl) B.int (by decide +kernel) (pa_cons (pe_op op_mul (pe_op op_add (pe_op op_add (pv 3) (pe_ix (r := rIxL K) ix_list (pv 0) pe_int (fun _ _ => rfl))) (pe_op op_fdiv (pe_ix (r := rIxL K) ix_list (pv 0) pe_int (fun _ _ => rfl)) pe_int)) (pv 4)) pa_nil)) pe_int))
    (pss_one (ps_ret (pe_op op_mod (pe_callTy call_int1 (by rfl) B.int (by decide +kernel) (pa_cons (pe_op op_fdiv (pe_op op_mod (pe_callTy call_int1 (by rfl) B.int (by decide +kernel) (pa_cons (pe_op op_add (pe_op op_mul (pv 5) pe_int) (pv 3)) pa_nil)) pe_int) pe_int) pa_nil)) (pv 1)))))))), ?_⟩
  have oth : ∀ xs : List V, Oth a H (upd H a (.lst xs)) := fun xs x o ne e => by
    rw [upd_ne ne]
    exact e
  have fre : ∀ (xs : List V) x, upd H a (.lst xs) x = none → H x = none := fun xs x e => by
    by_cases z : x = a
    · rw [z, upd_same] at e
      cases e
    · rw [upd_ne z] at e
      exact e
  refine ⟨_, rfl, a, _, 0, _, rfl, rfl, SqL.of ha, atI_nat (j := 0) rfl, _, _, rfl, rfl, _, rfl, ite2 (fun c1 => ?_) (fun c1 => ?_)⟩
  · have b1 : 0 < b := of_decide_eq_true c1
    refine ⟨_, rfl, a, _, 0, _, rfl, rfl, SqL.of ha, atI_nat (j := 0) rfl, .inl ⟨_, rfl, _, rfl, _, _, rfl, rfl, n0, ?_⟩⟩
    refine ⟨_, rfl, a, _, 0, _, rfl, rfl, SqL.of ha, atI_nat (j := 0) rfl, _, rfl, _, _, rfl, rfl, ⟨n0, n1⟩, _, rfl, a, _, 0, 0, rfl, rfl, ha, rfl, ?_⟩
    refine ⟨_, rfl, q _ _ (Int.emod_nonneg _ (by omega)) (Int.emod_lt_of_pos _ n0) ⟨b / n, m, c, upd_same, Int.ediv_nonneg b0 (by omega), m0, m1, c0, by omega⟩ (oth _) (fre _)⟩
  · refine ⟨_, rfl, a, _, 2, _, rfl, rfl, SqL.of ha, atI_nat (j := 2) rfl, _, _, rfl, rfl, _, rfl, a, _, 2, 2, rfl, rfl, ha, rfl, ?_⟩
    have ha2 : upd H a (.lst ([V.int b, .int m, .int c].set 2 (.int (c + 1)))) a = some (.lst [.int b, .int m, .int (c + 1)]) := upd_same
    have qq := fun r (r0 : 0 ≤ r) (r1 : r < n) => q (upd H a (.lst ([V.int b, .int m, .int c].set 2 (.int (c + 1))))) r r0 r1 ⟨b, m, c + 1, upd_same, b0, m0, m1, by omega, by omega⟩ (oth _) (fre _)
    generalize upd H a (.lst ([V.int b, .int m, .int c].set 2 (.int (c + 1)))) = H2 at ha2 qq
    refine ⟨_, rfl, a, _, 1, _, rfl, rfl, SqL.of ha2, atI_nat (j := 1) rfl, _, rfl, a, _, 2, _, rfl, rfl, SqL.of ha2, atI_nat (j := 2) rfl, _, _, rfl, rfl, .inl ⟨by decide, by decide⟩, _, _, rfl, rfl,
      _, rfl, a, _, 2, _, rfl, rfl, SqL.of ha2, atI_nat (j := 2) rfl, _, _, rfl, rfl, _, _, rfl, rfl, .inr ⟨by omega, by omega⟩, .inl ⟨_, rfl, _, _, rfl, rfl, (by show (0 : Int) < _; decide), ?_⟩⟩
    generalize ho : (m + 48271 * (c + 1)) * (39373 + (c + 1)) % 2147483647 = once
    have o1 : 0 ≤ once ∧ once < 2147483647 := by rw [← ho]; exact ⟨Int.emod_nonneg _ (by decide), Int.emod_lt_of_pos _ (by decide)⟩
    refine ⟨_, rfl, .inl ⟨_, rfl, _, _, rfl, rfl, (by show (0 : Int) < _; decide), _, _, rfl, rfl, ?_⟩⟩
    generalize hw : once % 40009 + 7 = wide
    have w1 : 7 ≤ wide ∧ wide < 40016 := by
      have z1 := Int.emod_nonneg once (b := 40009) (by decide)
      have z2 := Int.emod_lt_of_pos once (b := 40009) (by decide)
      omega
    refine ⟨_, rfl, _, rfl, a, _, 2, _, rfl, rfl, SqL.of ha2, atI_nat (j := 2) rfl, _, _, rfl, rfl, _, rfl, a, _, 1, _, rfl, rfl, SqL.of ha2, atI_nat (j := 1) rfl, _, _, rfl, rfl, ⟨by decide, by decide⟩, _, _, rfl, rfl,
      _, rfl, _, _, rfl, rfl, .inr ⟨by omega, by omega⟩, .inl ⟨_, rfl, _, _, rfl, rfl, (by show (0 : Int) < _; decide), ?_⟩⟩
    generalize ht : (once + (c + 1) + m / 1000003) * wide % 2147483629 = twice
    have t1 : 0 ≤ twice ∧ twice < 2147483629 := by rw [← ht]; exact ⟨Int.emod_nonneg _ (by decide), Int.emod_lt_of_pos _ (by decide)⟩
    refine ⟨_, rfl, _, _, rfl, rfl, .inl ⟨by omega, by omega⟩, _, rfl, _, _, rfl, rfl, .inl ⟨_, rfl, _, _, rfl, rfl, (by show (0 : Int) < _; decide), _, _, rfl, rfl, ⟨by decide, by decide⟩, .inl ⟨_, rfl, _, rfl, _, _, rfl, rfl, n0, ?_⟩⟩⟩
    exact qq _ (Int.emod_nonneg _ (by omega)) (Int.emod_lt_of_pos _ n0)
/-! ### _law_of, of a list of whole numbers -/
def spOf : Sp := fun vs H Q _ => ∃ (a l : Addr) (ns : List Int) (k : Int), vs = [.ref a, .ref l] ∧ Tin H a k ∧ k ≤ 900 ∧ l ≠ a ∧ H l = some (.lst (ns.map V.int)) ∧ ns ≠ [] ∧ ns.length ≤ 1000 ∧ ∀ H' r, r ∈ ns → Tin H' a (k + 1) → Oth a H H' → (∀ x, H' x = none → H x = none) → Q (.int r) H'
theorem ok_of (F : Fun K "_law_of" "_law_of" sLOf f fd) (B : Bl mg) (GT : HasF P w K mg base 1 "_law_take" ["_law_tin", "_law_below_so"] spTake) : FnOk P w K mg base CX0 2 f fd ["_law_tin", "_law_goods_so"] spOf := by
  refine F.ok scLOf (fun vs H Q E h => ?_) (fun cdv A outer s H vs Q E hr h => ?_)
  · obtain ⟨a, l, ns, k, rfl, _⟩ := h
    rfl
  obtain ⟨a, l, ns, k, rfl, t, k9, nl, hl, ne, len, q⟩ := h
  refine ⟨_, pss_one (ps_ret (pe_ix (r := rIxL K) ix_list (pv 1) (pe_call GT.ok hr (by rfl) GT.at_ GT.kp GT.bd .nil pass0 (pa_cons (pv 0) (pa_cons (pe_callB call_len_seq (by rfl) B.len PySem.boot_len (pa_cons (pv 1) pa_nil)) pa_nil))) (fun _ _ => rfl))), ?_⟩
  have pos := List.length_pos_iff.mpr ne
  have lm : (ns.map V.int).length = ns.length := List.length_map _
  refine ⟨_, rfl, _, rfl, _, rfl, l, _, rfl, .inl (SqL.of hl), a, ((ns.map V.int).length : Nat), k, rfl, t, k9, by omega, by omega, fun H' r r0 r1 t' o fr => ?_⟩
  have lt : r.toNat < ns.length := by omega
  refine ⟨l, _, r, .int ns[r.toNat], rfl, rfl, SqL.of (o _ _ nl hl), at_of (j := r.toNat) (by omega) (by rw [List.getElem?_map, List.getElem?_eq_getElem lt]; rfl), ?_⟩
  exact q H' _ (List.getElem_mem lt) t' o fr
end
end RK

namespace RK
open PySem PySem.Spec PyProof.Rows L2
section
variable {P : Program} {w : World} {K : PySem.W.Frag} {mg : Str → Option Value} {base : Heap} {f : Addr} {fd : FuncData}
/-! ### _law_box -/
def spBox : Sp := fun vs H Q _ => ∃ (l : Addr) (ns : List Int) (k : Nat), vs = [.ref l, .int (k : Nat)] ∧ H l = some (.lst (ns.map V.int)) ∧ k < ns.length ∧ k ≤ 1 ∧ ∀ H' a, Same H H' → H a = none → Tin H' a 0 → Q (.ref a) H'
theorem abs_nn (i : Int) : 0 ≤ (if i < 0 then -i else i) := by split <;> omega
theorem b01 (b : Bool) : 0 ≤ (if b = true then (1 : Int) else 0) ∧ (if b = true then (1 : Int) else 0) ≤ 1 := by cases b <;> decide
theorem ok_box (F : Fun K "_law_box" "_law_box" sLBox f fd) (B : Bl mg) : FnOk P w K mg base CX0 1 f fd ["_law_script", "_law_k"] spBox := by
  refine F.ok scLBox (fun vs H Q E h => ?_) (fun cdv A outer s H vs Q E hr h => ?_)
  · obtain ⟨l, ns, k, rfl, _⟩ := h
    rfl
  obtain ⟨l, ns, k, rfl, hl, lt, k1, q⟩ := h
  have nd := scLBox.nd
  refine ⟨_, pss_cons (ps_set (i := 2) nd rfl (Or.inl rfl) (pe_ifExp (pt_cmpR op_lt (pv 1) (pe_callB call_len_seq (by rfl) B.len PySem.boot_len (pa_cons (pv 0) pa_nil)) (nomark _)) (pe_ix (r := rIxL K) ix_list (pv 0) (pv 1) (fun _ _ => rfl)) pe_int))
    (pss_one (ps_ret (pe_lst (pa_cons (pe_op op_mul (pe_callB call_abs (by rfl) B.abs (by decide +kernel) (pa_cons (pv 2) pa_nil)) (pe_callTy call_int1 (by rfl) B.int (by decide +kernel) (pa_cons (pe_cmpR op_ge (pe_callB call_abs (by rfl) B.abs (by decide +kernel) (pa_cons (pv 2) pa_nil)) (pe_op op_pow pe_int pe_int) (nomark _)) pa_nil)))
      (pa_cons (pe_op op_add (pe_op op_add (pe_op op_mod (pe_callTy call_int1 (by rfl) B.int (by decide +kernel) (pa_cons (pv 2) pa_nil)) pe_int) (pe_op op_mul pe_int (pv 1))) pe_int) (pa_cons pe_int pa_nil)))))), ?_⟩
  have lm : (ns.map V.int).length = ns.length := List.length_map _
  refine ⟨_, rfl, _, rfl, l, _, rfl, .inl (SqL.of hl), _, _, rfl, rfl, _, rfl, iteY (decide_eq_true (by omega)) ?_⟩
  refine ⟨_, rfl, _, rfl, l, _, _, .int ns[k], rfl, rfl, SqL.of hl, atI_nat (by rw [List.getElem?_map, List.getElem?_eq_getElem lt]; rfl), ?_⟩
  generalize ns[k] = c
  refine ⟨_, rfl, _, rfl, _, rfl, _, rfl, _, _, rfl, rfl, ⟨by decide, by decide, by decide⟩, _, _, rfl, rfl, .inr ⟨_, rfl, _, _, rfl, rfl, .inr ?_, ?_⟩⟩
  · have z := b01 (decide ((10 : Int) ^ (18 : Int).toNat ≤ (if c < 0 then -c else c)))
    omega
  refine ⟨_, rfl, .inl ⟨_, rfl, _, _, rfl, rfl, (by show (0 : Int) < _; decide), _, rfl, _, _, rfl, rfl, .inl ⟨by decide, by decide⟩, _, _, rfl, rfl, _, _, rfl, rfl, by show 3 ≤ sizeLine; decide, fun p hp => ?_⟩⟩
  have m0 := Int.emod_nonneg c (b := 2305843009213693951) (by decide)
  have m1 := Int.emod_lt_of_pos c (b := 2305843009213693951) (by decide)
  exact q _ p (same_upd hp) hp ⟨_, _, 0, upd_same, Int.mul_nonneg (abs_nn c) (b01 _).1, by omega, by omega, Int.le_refl _, Int.le_refl _⟩
/-! ### _law_cells -/
def tCell0 (K : PySem.W.Frag) : TE := fun σ H Q => ∃ (a : Addr) (ns : List Int), σ[0]? = some (some (.ref a)) ∧ σ[1]? = some (some (.int 2)) ∧ SqL K H a (ns.map V.int) ∧ ∀ (H' : Hp) (l : Addr) (ms : List Int), Same H H' → H l = none → H' l = some (.lst (ms.map V.int)) → 1 ≤ ms.length → ms.length ≤ 2 → (3 ≤ ns.length → ms.length = 2) → Q (.ref l) H'
theorem cut_map (ns : List Int) (lo hi : Option Int) : ∃ ns2 : List Int, cutV (ns.map V.int) lo hi = ns2.map V.int ∧ ns2.length ≤ ns.length - HT.sIx ns.length 0 lo := by
  refine ⟨(ns.drop (HT.sIx ns.length 0 lo)).take (HT.sIx ns.length ns.length hi - HT.sIx ns.length 0 lo), ?_, ?_⟩
  · unfold cutV
    rw [List.length_map, List.map_take, List.map_drop]
  · rw [List.length_take, List.length_drop]
    exact Nat.min_le_right _ _
theorem ix_nn {n : Nat} {k : Int} (h0 : 0 ≤ k) (h1 : k < n) : ixN n k = some k.toNat := by
  unfold ixN
  rw [if_pos h0, if_pos h1]
def spCells (K : PySem.W.Frag) : Sp := fun vs H Q _ => ∃ (a : Addr) (ns : List Int), vs = [.ref a, .int 2] ∧ SqL K H a (ns.map V.int) ∧ ns.length ≤ 63 ∧ ∀ (H' : Hp) (l : Addr) (ms : List Int), Same H H' → H l = none → H' l = some (.lst (ms.map V.int)) → 1 ≤ ms.length → ms.length ≤ 2 → Q (.ref l) H'
theorem ok_cells (F : Fun K "_law_cells" "_law_cells" sLCells f fd) (B : Bl mg) : FnOk P w K mg base CX0 1 f fd ["_law_script", "_law_most_so"] (spCells K) := by
  refine F.ok scLCells (fun vs H Q E h => ?_) (fun cdv A outer s H vs Q E hr h => ?_)
  · obtain ⟨a, ns, rfl, _⟩ := h
    rfl
  obtain ⟨a, ns, rfl, hS, len, q⟩ := h
  have nd := scLCells.nd
  refine ⟨_, pss_cons (ps_set (i := 2) nd rfl (Or.inl rfl) (pe_imp (t := tCell0 K) (pe_orT (pe_callTy call_list_of (by rfl) B.list (by decide +kernel) (pa_cons (pe_slice (r := rSlL K) sl_list (pv 0) po_none (po_some (pv 1))) pa_nil)) (pe_one (pe_lst (pa_cons pe_int pa_nil)))) (fun σ H Q z => by
      obtain ⟨a, ns, e0, e1, hS, q⟩ := z
      refine ⟨_, e0, _, e1, _, rfl, a, _, rfl, hS, fun p hp => ⟨p, _, rfl, .inl (SqL.of upd_same), fun l hl => ⟨_, .inl ⟨_, SqL.of upd_same, rfl⟩, ?_⟩⟩⟩
      have s1 := same_upd (o := .lst (cutV (ns.map V.int) none (some 2))) hp
      have s2 := same_upd (o := .lst (cutV (ns.map V.int) none (some 2))) hl
      have ec : cutV (ns.map V.int) none (some 2) = (ns.take 2).map V.int := by
        rw [show (2 : Int) = ((2 : Nat) : Int) from rfl, cut_to, List.map_take]
      cases ns with
      | nil =>
        refine iteN (by rw [ec]; rfl) ⟨by show 1 ≤ sizeLine; decide, fun l2 hl2 => ?_⟩
        exact q _ l2 [0] ((s1.trans s2).trans (same_upd hl2)) ((s1.trans s2).free hl2) upd_same (by decide) (by decide) (fun z => by simp at z)
      | cons n rest =>
        refine iteY (by rw [ec]; rfl) ?_
        refine q _ l ((n :: rest).take 2) (s1.trans s2) (s1.free hl) (by rw [upd_same, ec]) ?_ ?_ (fun z => ?_)
        · rw [List.length_take, List.length_cons]
          omega
        · rw [List.length_take]
          exact Nat.min_le_left _ _
        · rw [List.length_take]
          omega)))
    (pss_cons (ps_for PassesOwn.never rfl (pi_enum (by rfl) B.enum (pa_cons (pe_slice (r := rSlL K) sl_list (pv 0) (po_some (pv 1)) (po_some pe_int)) pa_nil)) (pg_tup rfl (pgs_cons (pg_name (i := 3) nd rfl (Or.inl rfl)) (pgs_cons (pg_name (i := 4) nd rfl (Or.inl rfl)) pgs_nil)))
      (pss_cons (ps_set (i := 5) nd rfl (Or.inl rfl) (pe_op op_mod (pe_callTy call_int1 (by rfl) B.int (by decide +kernel) (pa_cons (pv 3) pa_nil)) (pv 1)))
      (pss_one (ps_asg (pe_op op_add (pe_ix (r := rIxL K) ix_list (pv 2) (pv 5) (fun _ _ => rfl)) (pe_op op_mul (pv 4) (pe_op op_add (pv 3) pe_int))) (pg_sub (pv 2) (pv 5) set_list)))))
    (pss_one (ps_ret (pv 2)))), ?_⟩
  refine ⟨a, ns, rfl, rfl, hS, fun H1 l ms s1 nl el l1 l2 l3 => ?_⟩
  refine ⟨_, rfl, _, rfl, _, rfl, _, rfl, a, _, rfl, s1.seq hS, fun p hp => ⟨p, _, rfl, SqL.of upd_same, ?_⟩⟩
  obtain ⟨ns2, ec, len2⟩ := cut_map ns (some 2) (some 63)
  rw [show HT.sIx ns.length 0 (some 2) = min 2 ns.length from HT.sIx_nat ns.length 0 2] at len2
  rw [ec]
  have lp : l ≠ p := ne_of_none el hp
  have s2 := same_upd (o := .lst (ns2.map V.int)) hp
  have len3 : (ns2.map V.int).length = ns2.length := List.length_map _
  refine for_it walk_enum (fun i σ H' => ∃ (v3 v4 v5 : Option V) (ms' : List Int), σ = [some (.ref a), some (.int 2), some (.ref l), v3, v4, v5] ∧ Same H H' ∧ H' p = some (.lst (ns2.map V.int)) ∧ H' l = some (.lst (ms'.map V.int)) ∧ ms'.length = ms.length)
    ⟨none, none, none, ms, rfl, s1.trans s2, upd_same, (upd_ne lp).trans el, rfl⟩ (fun i σ H' _ ⟨_, _, _, _, _, _, e, _⟩ => SqL.of e) ?_ ?_
  · rintro i v σ H' H3 hi ⟨v3, v4, v5, ms', rfl, sm, ep, el', lm⟩ ⟨T, n1, x1, rfl, nT, rfl, hn1, hx1⟩
    obtain rfl : V.int (i : Nat) = n1 := Option.some.inj hn1
    replace hx1 : (ns2.map V.int)[i]? = some x1 := hx1
    rw [List.getElem?_map] at hx1
    obtain ⟨c, hc, rfl⟩ := Option.map_eq_some_iff.mp hx1
    have il : i < ns2.length := (List.getElem?_eq_some_iff.mp hc).1
    have n3 : ms'.length = 2 := by rw [lm]; exact l3 (by omega)
    have sT := same_upd (o := .tup [.int (i : Nat), .int c]) nT
    have elT := sT _ _ el'
    refine ⟨T, _, rfl, SqT.of upd_same, rfl, _, _, rfl, _, _, rfl, rfl, ?_⟩
    refine ⟨_, rfl, .inl ⟨_, rfl, _, rfl, _, _, rfl, rfl, (by show (0 : Int) < _; decide), ?_⟩⟩
    have r0 := Int.emod_nonneg (i : Int) (b := 2) (by decide)
    have r1 := Int.emod_lt_of_pos (i : Int) (b := 2) (by decide)
    generalize hr : (i : Int) % 2 = r at r0 r1
    have lt : r.toNat < ms'.length := by omega
    have lm2 : (ms'.map V.int).length = ms'.length := List.length_map _
    refine ⟨_, rfl, _, rfl, l, _, r, .int ms'[r.toNat], rfl, by rw [← hr], SqL.of elT, at_of (j := r.toNat) (by omega) (by rw [List.getElem?_map, List.getElem?_eq_getElem lt]; rfl), ?_⟩
    refine ⟨_, rfl, _, rfl, _, _, rfl, rfl, _, _, rfl, rfl, .inr ⟨by omega, by omega⟩, _, _, rfl, rfl, _, rfl, _, rfl, l, _, r, r.toNat, rfl, by rw [← hr], elT, ix_nn r0 (by omega), ?_⟩
    refine ⟨_, _, _, ms'.set r.toNat (ms'[r.toNat] + c * ((i : Int) + 2)), rfl, fun x o e => ?_, ?_, ?_, ?_⟩
    · rw [upd_ne (ne_of_none e nl)]
      exact sT _ _ (sm _ _ e)
    · rw [upd_ne lp.symm]
      exact sT _ _ ep
    · rw [upd_same, List.map_set]
    · rw [List.length_set]
      exact lm
  · rintro σ H' ⟨v3, v4, v5, ms', rfl, sm, ep, el', lm⟩
    exact ⟨_, rfl, q H' l ms' sm nl el' (by omega) (by omega)⟩
end
end RK

namespace RK
open PySem PySem.Spec PyProof.Rows L2
theorem tr_oth {a : Addr} {k : Int} {H H' : Hp} (t : Tin H a k) (s : Oth a H H') {x : V} {d : PyData} (h : TT H x d) : TT H' x d := TT.stay (t.tup s) h
theorem trs_oth {a : Addr} {k : Int} {H H' : Hp} (t : Tin H a k) (s : Oth a H H') {x : List V} {d : List PyData} (h : TTs H x d) : TTs H' x d := TTs.stay (t.tup s) h
/-- a new list is written: all but the tin stays -/
theorem Oth.put {a D : Addr} {H H1 : Hp} {o : HO} (s : Oth a H H1) (n : H D = none) : Oth a H (upd H1 D o) := fun x u ne e => by
  rw [upd_ne (ne_of_none e n)]
  exact s x u ne e
theorem Tin.put {a D : Addr} {H : Hp} {k : Int} {o : HO} (t : Tin H a k) (n : D ≠ a) : Tin (upd H D o) a k := by
  obtain ⟨b, m, c, e, h⟩ := t
  exact ⟨b, m, c, (upd_ne n.symm).trans e, h⟩
section
variable {P : Program} {w : World} {K : PySem.W.Frag} {mg : Str → Option Value} {base : Heap} {f : Addr} {fd : FuncData}
/-! ### _law_kinds -/
def spKinds : Sp := fun vs H Q _ => ∃ a : Addr, vs = [.ref a] ∧ Tin H a 0 ∧ ∀ (H' : Hp) (x : V) (m : Mk), TT H' x (mkD m) → MkOk m → 1 ≤ m.kinds.length → m.kinds.length ≤ 3 → m.rest.length = 4 → Tin H' a 30 → Oth a H H' → Q x H'
theorem ok_kinds (F : Fun K "_law_kinds" "_law_kinds" sLKinds f fd) (B : Bl mg) (GT : HasF P w K mg base 1 "_law_take" ["_law_tin", "_law_below_so"] spTake) (GO : HasF P w K mg base 2 "_law_of" ["_law_tin", "_law_goods_so"] spOf) : FnOk P w K mg base CX0 3 f fd ["_law_tin"] spKinds := by
  refine F.ok scLKinds (fun vs H Q E h => ?_) (fun cdv A outer s H vs Q E hr h => ?_)
  · obtain ⟨a, rfl, _⟩ := h
    rfl
  obtain ⟨a, rfl, t0, q⟩ := h
  have nd := scLKinds.nd
  have hr1 : Room 1 _ := hr.mono (by decide)
  refine ⟨_, pss_cons (ps_set (i := 1) nd rfl (Or.inl rfl) (pe_lst pa_nil))
    (pss_cons (ps_for PassesOwn.never rfl (pi_range1 (by rfl) B.range (pa_cons (pe_op op_add pe_int (pe_call GT.ok hr1 (by rfl) GT.at_ GT.kp GT.bd .nil pass0 (pa_cons (pv 0) (pa_cons pe_int pa_nil)))) pa_nil)) (pg_name (i := 2) nd rfl (Or.inl rfl))
      (pss_cons (ps_set (i := 3) nd rfl (Or.inl rfl) (pe_op op_add pe_int (pe_call GT.ok hr1 (by rfl) GT.at_ GT.kp GT.bd .nil pass0 (pa_cons (pv 0) (pa_cons pe_int pa_nil)))))
      (pss_one (ps_expr (pe_bm PySem.F.plainAttrs_list PySem.F.slot_list_append PySem.F.type_list_append mt_append (pv 1) (pa_cons (pe_tup (pa_cons (pv 3) (pa_cons (pe_op op_add pe_int (pe_call GT.ok hr1 (by rfl) GT.at_ GT.kp GT.bd .nil pass0 (pa_cons (pv 0) (pa_cons pe_int pa_nil))))
        (pa_cons (pe_op op_add (pv 3) (pe_call GO.ok hr (by rfl) GO.at_ GO.kp GO.bd .nil pass0 (pa_cons (pv 0) (pa_cons (pe_lst (pa_cons pe_int (pa_cons pe_int (pa_cons pe_int (pa_cons pe_int pa_nil))))) pa_nil)))) pa_nil)))) pa_nil))))))
    (pss_cons (ps_par (i := 4) (j := 5) rfl nd rfl rfl (by decide) rfl rfl (pa_cons (pe_call GO.ok hr (by rfl) GO.at_ GO.kp GO.bd .nil pass0 (pa_cons (pv 0) (pa_cons (pe_lst (pa_cons pe_int (pa_cons pe_int (pa_cons pe_int (pa_cons pe_int (pa_cons pe_int pa_nil)))))) pa_nil)))
      (pa_cons (pe_call GO.ok hr (by rfl) GO.at_ GO.kp GO.bd .nil pass0 (pa_cons (pv 0) (pa_cons (pe_lst (pa_cons pe_int (pa_cons pe_int (pa_cons pe_int (pa_cons pe_int (pa_cons pe_int pa_nil)))))) pa_nil))) pa_nil)) (by rfl))
    (pss_one (ps_ret (pe_tup (pa_cons (pe_callTy call_tuple_of (by rfl) B.tuple (by decide +kernel) (pa_cons (pv 1) pa_nil)) (pa_cons (pv 4) (pa_cons (pe_op op_add pe_int (pe_call GT.ok hr1 (by rfl) GT.at_ GT.kp GT.bd .nil pass0 (pa_cons (pv 0) (pa_cons pe_int pa_nil))))
      (pa_cons (pe_op op_add pe_int (pe_call GT.ok hr1 (by rfl) GT.at_ GT.kp GT.bd .nil pass0 (pa_cons (pv 0) (pa_cons pe_int pa_nil)))) (pa_cons (pe_op op_add pe_int (pe_call GT.ok hr1 (by rfl) GT.at_ GT.kp GT.bd .nil pass0 (pa_cons (pv 0) (pa_cons pe_int pa_nil)))) (pa_cons (pv 5) pa_nil))))))))))), ?_⟩
  refine ⟨Nat.zero_le _, fun fo hfo => ?_⟩
  have nfa : fo ≠ a := t0.ne hfo
  have t1 : Tin (upd H fo (.lst [])) a 0 := t0.put nfa
  refine ⟨_, rfl, a, 3, 0, rfl, t1, by decide, by decide, by decide, fun H1 n n0 n3 t2 o1 fr1 => ?_⟩
  have eF1 : H1 fo = some (.lst []) := o1 _ _ nfa upd_same
  have oH1 : Oth a H H1 := (Oth.of (same_upd hfo)).trans o1
  refine ⟨_, _, rfl, rfl, _, rfl, by omega, by omega, ?_⟩
  have e1 : (1 + n).toNat = n.toNat + 1 := by omega
  rw [e1]
  refine for_it walk_range (fun i σ H' => ∃ (v2 v3 : Option V) (acc : List V) (ks : List Tr), σ = [some (.ref a), some (.ref fo), v2, v3, none, none] ∧ Oth a H H' ∧ Tin H' a (1 + 3 * (i : Int)) ∧ H' fo = some (.lst acc) ∧ TTs H' acc (ks.map trD) ∧ ks.length = i ∧ ∀ k ∈ ks, 1 ≤ k.1 ∧ k.1 ≤ k.2.2 ∧ k.2.2 ≤ 50)
    ⟨none, none, [], [], rfl, oH1, t2.mono (by omega), eF1, .nil, rfl, fun _ h => (nomatch h)⟩ (fun _ _ _ _ _ => trivial) ?_ ?_
  · rintro i v σ H0 H2 hi ⟨v2, v3, acc, ks, rfl, oo, tt, ef, ta, lk, kk⟩ ⟨rfl, hv⟩
    have i3 : i < 4 := by omega
    refine ⟨_, rfl, a, 25, _, rfl, tt, by omega, by decide, by decide, fun H4 mk mk0 mk1 t4 o4 _ => ?_⟩
    have ef4 := o4 _ _ nfa ef
    refine ⟨_, _, rfl, rfl, ?_⟩
    refine ⟨_, rfl, .inl ⟨rfl, _, SqL.of ef4⟩, ?_⟩
    refine ⟨_, rfl, _, rfl, a, 4, _, rfl, t4, by omega, by decide, by decide, fun H5 c2 c20 c24 t5 o5 _ => ?_⟩
    refine ⟨_, _, rfl, rfl, _, rfl, _, rfl, by show 4 ≤ sizeLine; decide, fun L hL => ?_⟩
    have nLa : L ≠ a := t5.ne hL
    refine ⟨a, L, [0, 3, 8, 20], _, rfl, t5.put nLa, by omega, nLa, upd_same, (fun h => nomatch h), by decide, fun H6 c3 c3m t6 o6 _ => ?_⟩
    have o46 : Oth a H4 H6 := (o5.trans (Oth.of (same_upd hL))).trans o6
    have o26 : Oth a H2 H6 := o4.trans o46
    have ef6 := o46 _ _ nfa ef4
    refine ⟨_, _, rfl, rfl, by show 3 ≤ sizeLine; decide, fun T hT => ?_⟩
    have nTa : T ≠ a := t6.ne hT
    have sT := same_upd (o := .tup [.int (1 + mk), .int (1 + c2), .int (1 + mk + c3)]) hT
    have ef7 := sT _ _ ef6
    have lacc := ta.len
    rw [List.length_map] at lacc
    have c3b : 0 ≤ c3 ∧ c3 ≤ 20 := by
      simp only [List.mem_cons, List.not_mem_nil, or_false] at c3m
      omega
    refine ⟨fo, acc, _, rfl, rfl, ef7, small1000 (by omega), _, _, acc ++ [.ref T], ks ++ [(1 + mk, 1 + c2, 1 + mk + c3)], rfl, ?_, ?_, upd_same, ?_, ?_, ?_⟩
    · exact ((oo.trans o26).trans (Oth.of sT)).put hfo
    · exact ((t6.same sT).put nfa).mono (by omega)
    · rw [List.map_append]
      exact TTs.stay (tupS_lst ef7) (DXs.snoc (DXs.same sT (trs_oth tt o26 ta)) (tr_mk upd_same))
    · rw [List.length_append, lk]
      rfl
    · intro k hk
      rcases List.mem_append.mp hk with z | z
      · exact kk k z
      · rw [List.mem_singleton.mp z]
        show 1 ≤ 1 + mk ∧ 1 + mk ≤ 1 + mk + c3 ∧ 1 + mk + c3 ≤ 50
        omega
  · rintro σ H2 ⟨v2, v3, acc, ks, rfl, oo, tt, ef, ta, lk, kk⟩
    refine ⟨_, rfl, by show 5 ≤ sizeLine; decide, fun L hL => ?_⟩
    have nLa : L ≠ a := tt.ne hL
    refine ⟨a, L, [0, 1, 3, 5, 8], _, rfl, tt.put nLa, by omega, nLa, upd_same, (fun h => nomatch h), by decide, fun H3 lag lagm t3 o3 _ => ?_⟩
    have o23 : Oth a H2 H3 := (Oth.of (same_upd hL)).trans o3
    refine ⟨_, rfl, by show 5 ≤ sizeLine; decide, fun L2 hL2 => ?_⟩
    have nLa2 : L2 ≠ a := t3.ne hL2
    refine ⟨a, L2, [0, 0, 2, 5, 10], _, rfl, t3.put nLa2, by omega, nLa2, upd_same, (fun h => nomatch h), by decide, fun H4 ear earm t4 o4 _ => ?_⟩
    have o24 : Oth a H2 H4 := o23.trans ((Oth.of (same_upd hL2)).trans o4)
    have ef4 := o24 _ _ nfa ef
    refine ⟨_, _, rfl, ?_⟩
    refine ⟨_, rfl, fo, acc, rfl, .inl ⟨SqL.of ef4, fun kt hkt => ?_⟩⟩
    have nka : kt ≠ a := t4.ne hkt
    have skt := same_upd (o := .tup acc) hkt
    have tk : TT (upd H4 kt (.tup acc)) (.ref kt) (trsD ks) := DX.mk_tup upd_same (DXs.same skt (trs_oth tt o24 ta))
    refine ⟨_, rfl, _, rfl, a, 20, _, rfl, t4.put nka, by omega, by decide, by decide, fun H5 x1 _ _ t5 o5 _ => ?_⟩
    refine ⟨_, _, rfl, rfl, _, rfl, a, 20, _, rfl, t5, by omega, by decide, by decide, fun H6 x2 _ _ t6 o6 _ => ?_⟩
    refine ⟨_, _, rfl, rfl, _, rfl, a, 40, _, rfl, t6, by omega, by decide, by decide, fun H7 x3 _ _ t7 o7 _ => ?_⟩
    refine ⟨_, _, rfl, rfl, _, rfl, by show 6 ≤ sizeLine; decide, fun r hr' => ?_⟩
    have o57 := (o5.trans o6).trans o7
    have sr := same_upd (o := .tup [.ref kt, .int lag, .int (1 + x1), .int (1 + x2), .int (5 + x3), .int ear]) hr'
    have tk7 : TT H7 (.ref kt) (trsD ks) := tr_oth (t4.put (o := .tup acc) nka) o57 tk
    have lagb : 0 ≤ lag ∧ lag ≤ 10 := by
      simp only [List.mem_cons, List.not_mem_nil, or_false] at lagm
      omega
    refine q _ _ ⟨ks, lag, [1 + x1, 1 + x2, 5 + x3, ear]⟩ ?_ ⟨lagb, kk⟩ (by show 1 ≤ ks.length; omega) (by show ks.length ≤ 3; omega) rfl ((t7.same sr).mono (by omega)) (((oo.trans o24).trans ((Oth.of skt).trans o57)).trans (Oth.of sr))
    exact DX.mk_tup upd_same (.cons (DX.same sr tk7) (.cons (.int _) (dxs_ints [1 + x1, 1 + x2, 5 + x3, ear])))
end
end RK

namespace RK
open PySem PySem.Spec PyProof.Rows L2
theorem named_sub {m : Mk} {g g' : Odr} (nm : Named m (g.map (·.1))) (h : ∀ c ∈ g', c ∈ g) : Named m (g'.map (·.1)) := fun k hk => by
  obtain ⟨c, hc, rfl⟩ := List.mem_map.mp hk
  exact nm _ (List.mem_map.mpr ⟨c, h c hc, rfl⟩)
abbrev rLenK (K : PySem.W.Frag) : List V → Hp → VK → Prop := fun xs H Q => ∃ p ys, xs = [V.ref p] ∧ (SqL K H p ys ∨ SqT K H p ys) ∧ Q (V.int (ys.length : Nat)) H
section
variable {P : Program} {w : World} {K : PySem.W.Frag} {mg : Str → Option Value} {base : Heap} {f : Addr} {fd : FuncData}
/-! ### _law_green -/
def spGr : Sp := fun vs H Q _ => ∃ (a : Addr) (x : V) (m : Mk), vs = [.ref a, x, .int 4] ∧ Tin H a 30 ∧ TT H x (mkD m) ∧ 1 ≤ m.kinds.length ∧ m.kinds.length ≤ 3 ∧ ∀ (H' : Hp) (y : V) (g : Odr), TT H' y (odD g) → g ≠ [] → g.length ≤ 4 → Named m (g.map (·.1)) → Tin H' a 60 → Oth a H H' → Q y H'
theorem ok_gr (F : Fun K "_law_green" "_law_green" sLGreen f fd) (B : Bl mg) (GT : HasF P w K mg base 1 "_law_take" ["_law_tin", "_law_below_so"] spTake) : FnOk P w K mg base CX0 2 f fd ["_law_tin", "_law_make_so", "_law_most_so"] spGr := by
  refine F.ok scLGreen (fun vs H Q E h => ?_) (fun cdv A outer s H vs Q E hr h => ?_)
  · obtain ⟨a, x, m, rfl, _⟩ := h
    rfl
  obtain ⟨a, x, m, rfl, t0, hx, k1, k3, q⟩ := h
  have nd := scLGreen.nd
  refine ⟨_, pss_one (ps_ret (pe_callTy call_tuple_of (by rfl) B.tuple (by decide +kernel) (pa_cons (pe_lc (own := [("_law_lap", 3)]) (g := gName 3) (tt := tYes) rfl nd (pi_range1 (by rfl) B.range (pa_cons (pe_op op_add pe_int (pe_call GT.ok hr (by rfl) GT.at_ GT.kp GT.bd .nil pass0 (pa_cons (pv 0) (pa_cons (pv 2) pa_nil)))) pa_nil)) (blkOk_by (N := NLGreen) (sc := defScope sLGreen) (by decide +kernel))
      (fun _ _ _ _ _ => pg_name (i := 3) nd rfl (Or.inl rfl)) (fun _ _ _ _ _ => pts_nil)
      (fun _ _ _ _ _ => pe_tup (pa_cons (pe_call GT.ok hr (by rfl) GT.at_ GT.kp GT.bd .nil pass0 (pa_cons (pv 0) (pa_cons (pe_callB (r := rLenK K) call_len_seq (by rfl) B.len PySem.boot_len (pa_cons (pe_ix (r := rIxT K) ix_tup (pv 1) pe_int (fun _ _ => rfl)) pa_nil)) pa_nil)))
        (pa_cons (pe_op op_add pe_int (pe_call GT.ok hr (by rfl) GT.at_ GT.kp GT.bd .nil pass0 (pa_cons (pv 0) (pa_cons pe_int pa_nil)))) pa_nil)))) pa_nil))), ?_⟩
  refine ⟨_, rfl, _, rfl, a, 4, 30, rfl, t0, by decide, by decide, by decide, fun H1 n n0 n4 t1 o1 fr1 => ?_⟩
  refine ⟨_, _, rfl, rfl, _, rfl, by omega, by omega, fun D hD => ?_⟩
  have e1 : (1 + n).toNat = n.toNat + 1 := by omega
  rw [e1]
  have nDa : D ≠ a := t1.ne hD
  have hD0 : H D = none := fr1 D hD
  have hx' := hx
  obtain ⟨xa, xs, ka, kxs, rfl, hxa, hx0, hx1, hka, kinds⟩ := mk_of hx
  have lk : kxs.length = m.kinds.length := by
    obtain ⟨_, ys, e, h1, h2⟩ := TT.tup hx'
    cases e
    rw [hxa] at h1
    cases h1
    obtain ⟨z, hz, tz⟩ := h2.get (i := 0) rfl
    rw [hx0] at hz
    cases hz
    obtain ⟨_, zs, e2, h3, h4⟩ := TT.tup tz
    cases e2
    rw [hka] at h3
    cases h3
    have := h4.len
    rw [List.length_map] at this
    exact this
  refine lc_it walk_range (fun i H' => Oth a H H' ∧ Tin H' a (31 + 2 * (i : Int)) ∧ ∃ (acc : List V) (g : Odr), H' D = some (.lst acc) ∧ TTs H' acc (g.map prD) ∧ g.length = i ∧ Named m (g.map (·.1)))
    ⟨o1.put hD0, (t1.put nDa).mono (by omega), [], [], upd_same, .nil, rfl, fun k hk => (nomatch hk)⟩ (fun _ _ _ _ => trivial) ?_ ?_
  · rintro i v H2 H3 hi ⟨oo, tt, acc, g, eD, ta, lg, nm⟩ ⟨rfl, hv⟩
    have tup2 := t0.tup oo
    refine ⟨rfl, _, rfl, _, rfl, xa, xs, 0, _, rfl, rfl, SqT.of (tup2 _ _ hxa), atI_nat (j := 0) hx0, ka, kxs, rfl, .inr (SqT.of (tup2 _ _ hka)), a, ((kxs.length : Nat) : Int), _, rfl, tt, by omega, by omega, by omega, fun H4 c1 c10 c1n t4 o4 _ => ?_⟩
    refine ⟨_, rfl, a, 9, _, rfl, t4, by omega, by decide, by decide, fun H5 c2 c20 c29 t5 o5 _ => ?_⟩
    refine ⟨_, _, rfl, rfl, by show 2 ≤ sizeLine; decide, fun T hT => ?_⟩
    have o25 := o4.trans o5
    have sT := same_upd (o := .tup [.int c1, .int (1 + c2)]) hT
    have eD6 := sT _ _ (o25 _ _ nDa eD)
    have lacc := ta.len
    rw [List.length_map] at lacc
    refine ⟨acc, eD6, small1000 (by omega), ?_, ?_, acc ++ [.ref T], g ++ [(c1, 1 + c2)], upd_same, ?_, ?_, ?_⟩
    · exact ((oo.trans o25).trans (Oth.of sT)).put hD0
    · exact ((t5.same sT).put nDa).mono (by omega)
    · rw [List.map_append]
      exact TTs.stay (tupS_lst eD6) (DXs.snoc (DXs.same sT (trs_oth tt o25 ta)) (pr_mk upd_same))
    · rw [List.length_append, lg]
      rfl
    · intro k hk
      rw [List.map_append] at hk
      rcases List.mem_append.mp hk with z | z
      · exact nm k z
      · rw [List.mem_singleton.mp z]
        show 0 ≤ c1 ∧ c1 < _
        omega
  · rintro H2 ⟨oo, tt, acc, g, eD, ta, lg, nm⟩
    refine ⟨D, acc, rfl, .inl ⟨SqL.of eD, fun p hp => ?_⟩⟩
    have sp := same_upd (o := .tup acc) hp
    refine q _ _ g (DX.mk_tup upd_same (DXs.same sp ta)) (fun e => ?_) (by omega) nm ((tt.same sp).mono (by omega)) (oo.trans (Oth.of sp))
    rw [e] at lg
    cases lg
/-! ### _law_right -/
def spRight : Sp := fun vs H Q _ => ∃ a : Addr, vs = [.ref a] ∧ Tin H a 0 ∧ ∀ H', Oth a H H' → Q (.bl true) H'
theorem ok_right (F : Fun K "_law_right" "_law_right" sLRight f fd) (B : Bl mg) (GT : HasF P w K mg base 1 "_law_take" ["_law_tin", "_law_below_so"] spTake) (GK : HasF P w K mg base 3 "_law_kinds" ["_law_tin"] spKinds)
    (GG : HasF P w K mg base 2 "_law_green" ["_law_tin", "_law_make_so", "_law_most_so"] spGr) (GR : HasF P w K mg base 6 "_law_green_right" ["_law_make_so", "_law_green_so"] spGreen) : FnOk P w K mg base CX0 7 f fd ["_law_tin"] spRight := by
  refine F.ok scLRight (fun vs H Q E h => ?_) (fun cdv A outer s H vs Q E hr h => ?_)
  · obtain ⟨a, rfl, _⟩ := h
    rfl
  obtain ⟨a, rfl, t0, q⟩ := h
  have nd := scLRight.nd
  refine ⟨_, pss_cons (ps_set (i := 1) nd rfl (Or.inl rfl) (pe_call GK.ok (hr.mono (by decide)) (by rfl) GK.at_ GK.kp GK.bd .nil pass0 (pa_cons (pv 0) pa_nil)))
    (pss_cons (ps_set (i := 2) nd rfl (Or.inl rfl) (pe_call GG.ok (hr.mono (by decide)) (by rfl) GG.at_ GG.kp GG.bd .nil pass0 (pa_cons (pv 0) (pa_cons (pv 1) (pa_cons pe_int pa_nil)))))
    (pss_cons (ps_if (PW.pt (pw_and (pt_cmpR op_gt (pe_callB call_len_seq (by rfl) B.len PySem.boot_len (pa_cons (pv 2) pa_nil)) pe_int (nomark _)) (pw_and1 (pt_cmpR op_eq (pe_call GT.ok (hr.mono (by decide)) (by rfl) GT.at_ GT.kp GT.bd .nil pass0 (pa_cons (pv 0) (pa_cons pe_int pa_nil))) pe_int (nomark _)))))
      (pss_one (ps_set (i := 2) nd rfl (Or.inl rfl) (pe_op (r := rCatA K) op_catA (pe_slice (r := rSlA K) sl_tupA (pv 2) po_none (po_some pe_int)) (pe_slice (r := rSlA K) sl_tupA (pv 2) po_none (po_some pe_int))))) pss_nil)
    (pss_one (ps_ret (pe_call GR.ok hr (by rfl) GR.at_ GR.kp GR.bd .nil pass0 (pa_cons (pv 1) (pa_cons (pv 2) pa_nil))))))), ?_⟩
  refine ⟨_, rfl, a, rfl, t0, fun H1 x m hx ok k1 k3 kr t1 o1 => ?_⟩
  refine ⟨_, rfl, _, rfl, a, x, m, rfl, t1, hx, k1, k3, fun H2 y g hy hg h4 nm t2 o2 => ?_⟩
  have fm : Fine 4 (mkD m) := fine_mk (by omega) (by omega)
  have hx2 := tr_oth t1 o2 hx
  have hy' := hy
  obtain ⟨ya, ys, rfl, hya, tys⟩ := TT.tup hy
  have lys := tys.len
  rw [List.length_map] at lys
  refine ⟨_, rfl, ya, ys, rfl, .inr (SqT.of hya), _, _, rfl, rfl, _, rfl, ite2 (fun c => ?_) (fun c => ?_)⟩
  · have c' : (2 : Int) < ys.length := of_decide_eq_true c
    refine ⟨_, rfl, a, 3, 60, rfl, t2, by decide, by decide, by decide, fun H3 r _ _ t3 o3 _ => ?_⟩
    have hx3 := tr_oth t2 o3 hx2
    have hy3 := tr_oth t2 o3 hy'
    have o13 := (o1.trans o2).trans o3
    refine ⟨rfl, _, rfl, ite2 (fun _ => ?_) (fun _ => ?_)⟩
    · obtain ⟨_, _, e, hya3, tys3⟩ := TT.tup hy3
      cases e
      refine ⟨_, rfl, _, rfl, ?_⟩
      refine sl_read hya3 fun b1 H4 s4 e4 => ?_
      refine ⟨_, rfl, ?_⟩
      dsimp only [tNoPart]
      refine ⟨_, rfl, ?_⟩
      refine sl_read (s4 _ _ hya3) fun b2 H5 s5 e5 => ?_
      rename_i ys3
      rw [show (2 : Int) = ((2 : Nat) : Int) from rfl, cut_to] at e4
      rw [show (1 : Int) = ((1 : Nat) : Int) from rfl, cut_to] at e5
      have z1 : (ys3.take 2).length ≤ 2 := by rw [List.length_take]; exact Nat.min_le_left _ _
      have z2 : (ys3.take 1).length ≤ 1 := by rw [List.length_take]; exact Nat.min_le_left _ _
      refine cat_read (s5 _ _ e4) e5 (by rw [sizeLine_eq]; omega) fun b3 H6 s6 e6 => ?_
      have s36 := (s4.trans s5).trans s6
      have hg2 : ∀ c ∈ g.take 2 ++ g.take 1, c ∈ g := fun c hc => by
        rcases List.mem_append.mp hc with z | z
        · exact List.mem_of_mem_take z
        · exact List.mem_of_mem_take z
      have ty6 : TT H6 (.ref b3) (odD (g.take 2 ++ g.take 1)) := by
        refine DX.mk_tup e6 ?_
        rw [List.map_append, List.map_take, List.map_take]
        have z := DXs.same s36 tys3
        exact (z.take 2).app (z.take 1)
      refine ⟨_, rfl, _, rfl, x, .ref b3, m, g.take 2 ++ g.take 1, rfl, DX.same s36 hx3, ty6, fm, ok, (fun e => ?_), ?_, named_sub nm hg2, fun H7 s7 => q H7 (o13.trans (Oth.of (s36.trans s7)))⟩
      · have z := congrArg List.length e
        rw [List.length_append, List.length_take, List.length_take] at z
        have z0 : ([] : Odr).length = 0 := rfl
        have z1 := List.length_pos_iff.mpr hg
        omega
      · rw [List.length_append, List.length_take, List.length_take]
        omega
    · exact ⟨_, rfl, _, rfl, x, .ref ya, m, g, rfl, hx3, hy3, fm, ok, hg, h4, nm, fun H7 s7 => q H7 (o13.trans (Oth.of s7))⟩
  · refine iteF ?_
    exact ⟨_, rfl, _, rfl, x, .ref ya, m, g, rfl, hx2, hy', fm, ok, hg, h4, nm, fun H7 s7 => q H7 ((o1.trans o2).trans (Oth.of s7))⟩
/-! ### law -/
def spHand : Sp := fun vs H Q _ => vs = [] ∧ ∀ H', Same H H' → Q (.bl true) H'
def spLaw (K : PySem.W.Frag) : Sp := fun vs H Q _ => ∃ (a : Addr) (ns : List Int), vs = [.ref a] ∧ SqL K H a (ns.map V.int) ∧ ns.length ≤ 63 ∧ ∀ H', Q (.bl true) H'
theorem ok_law (F : Fun K "law" "law" sLaw f fd) (B : Bl mg) (GH : HasF P w K mg base 8 "_law_by_hand_right" [] spHand) (GC : HasF P w K mg base 1 "_law_cells" ["_law_script", "_law_most_so"] (spCells K))
    (GB : HasF P w K mg base 1 "_law_box" ["_law_script", "_law_k"] spBox) (GR : HasF P w K mg base 7 "_law_right" ["_law_tin"] spRight) : FnOk P w K mg base CX0 9 f fd ["_law_script"] (spLaw K) := by
  refine F.ok scLaw (fun vs H Q E h => ?_) (fun cdv A outer s H vs Q E hr h => ?_)
  · obtain ⟨a, ns, rfl, _⟩ := h
    rfl
  obtain ⟨a, ns, rfl, hS, len, q⟩ := h
  have nd := scLaw.nd
  refine ⟨_, pss_cons (ps_if (pt_not (pt_val (pe_call0 GH.ok hr (by rfl) GH.at_ GH.kp GH.bd .nil pass0))) pss_never pss_nil)
    (pss_cons (ps_set (i := 1) nd rfl (Or.inr rfl) (pe_call GC.ok (hr.mono (by decide)) (by rfl) GC.at_ GC.kp GC.bd .nil pass0 (pa_cons (pv 0) (pa_cons pe_int pa_nil))))
    (pss_one (ps_ret (pe_callB (cr_all rfl) (by rfl) B.all (by decide +kernel) (pa_cons (pe_lc (own := [("_law_k", 2)]) (g := gName 2) (tt := tYes) rfl nd (pi_range1 (by rfl) B.range (pa_cons (pe_callB call_len_seq (by rfl) B.len PySem.boot_len (pa_cons (pv 1) pa_nil)) pa_nil)) (blkOk_by (N := NLaw) (sc := defScope sLaw) (by decide +kernel))
      (fun _ _ _ _ _ => pg_name (i := 2) nd rfl (Or.inl rfl)) (fun _ _ _ _ _ => pts_nil)
      (fun _ _ _ _ _ => pe_call GR.ok (hr.mono (by decide)) (by rfl) GR.at_ GR.kp GR.bd .nil pass0 (pa_cons (pe_call GB.ok (hr.mono (by decide)) (by rfl) GB.at_ GB.kp GB.bd .nil pass0 (pa_cons (pv 1) (pa_cons (pv 2) pa_nil))) pa_nil))) pa_nil))))), ?_⟩
  refine ⟨rfl, fun H1 s1 => ⟨_, rfl, iteF ?_⟩⟩
  refine ⟨_, rfl, a, ns, rfl, s1.seq hS, len, fun H2 l ms s2 nl el l1 l2 => ?_⟩
  have lm : (ms.map V.int).length = ms.length := List.length_map _
  refine ⟨_, rfl, l, _, rfl, .inl (SqL.of el), _, rfl, by omega, by omega, fun D hD => ?_⟩
  rw [Int.toNat_natCast]
  have lD : l ≠ D := ne_of_none el hD
  refine lc_it walk_range (fun i H' => H' l = some (.lst (ms.map V.int)) ∧ H' D = some (.lst ((List.replicate i true).map V.bl))) ⟨(upd_ne lD).trans el, upd_same⟩ (fun _ _ _ _ => trivial) ?_ ?_
  · rintro i v H3 H4 hi ⟨el4, eD⟩ ⟨rfl, hv⟩
    obtain rfl : v = V.int (i : Nat) := hv.trans (congrArg V.int (Int.zero_add _))
    refine ⟨rfl, _, rfl, _, rfl, l, ms, i, rfl, el4, by omega, by omega, fun H5 b s5 nb t5 => ?_⟩
    refine ⟨b, rfl, t5, fun H6 o6 => ?_⟩
    have lb : l ≠ b := ne_of_none el4 nb
    have Db : D ≠ b := ne_of_none eD nb
    have eD6 := o6 _ _ Db (s5 _ _ eD)
    have el6 := o6 _ _ lb (s5 _ _ el4)
    refine ⟨_, eD6, small1000 ?_, (upd_ne lD).trans el6, ?_⟩
    · rw [List.length_map, List.length_replicate]
      omega
    · rw [upd_same, List.replicate_succ', List.map_append]
      rfl
  · rintro H3 ⟨el3, eD⟩
    refine ⟨D, _, rfl, SqL.of eD, ?_⟩
    refine bl_of ?_ (q H3)
    rw [List.all_eq_true]
    intro x hx
    rw [(List.mem_replicate.mp hx).2]
    rfl
end
end RK

namespace RK
open PySem PySem.Spec PyProof.Rows L2
/-! ### the cases by hand: plain -/
def kBrick : Tr := (20, 2, 40)
def kTile : Tr := (25, 1, 35)
def kStone : Tr := (30, 3, 50)
def mOwn : Mk := ⟨[kBrick, kTile], 5, [10, 8, 30, 0]⟩
def mSteep : Mk := ⟨[kBrick, kTile], 18, [10, 8, 30, 0]⟩
def mFour : Mk := ⟨[kBrick, kTile, kStone], 10, [10, 8, 30, 0]⟩
theorem canon_of {F S : List Odr} (h1 : S.Nodup) (h2 : S.Pairwise (fun a b => leO a b = true)) (h3 : ∀ o ∈ S, o ∈ F) (h4 : ∀ o ∈ F, o ∈ S) : Canon F S := ⟨h1, h2, fun o => ⟨h3 o, h4 o⟩⟩
theorem fire1 : fire mOwn [(0, 100), (1, 50)] = some (30, 40) := by decide +kernel
theorem fire2 : fire mOwn [(1, 50), (0, 100)] = some (25, 35) := by decide +kernel
theorem fire3 : fire mSteep [(0, 1), (1, 1)] = none := by decide +kernel
theorem fire4 : fire mOwn [(0, 1), (0, 1), (0, 1), (0, 1)] = some (35, 40) := by decide +kernel
theorem fire5 : fire mOwn [(0, 1), (0, 2), (0, 3), (1, 4)] = some (40, 40) := by decide +kernel
abbrev cS1 : List Odr := []
abbrev cS2 : List Odr := [[(0, 100), (1, 50)], [(1, 50), (0, 100)]]
abbrev cS3 : List Odr := [[(0, 3), (0, 3)]]
abbrev cS4 : List Odr := [[(2, 1), (0, 1), (1, 1)], [(2, 1), (1, 1), (0, 1)]]
theorem canon1 : Canon (good mSteep (ordersOf [(1, 1), (0, 1)])) cS1 := canon_of (by decide +kernel) (by decide +kernel) (by decide +kernel) (by decide +kernel)
theorem canon2 : Canon (good mOwn (ordersOf [(1, 50), (0, 100)])) cS2 := canon_of (by decide +kernel) (by decide +kernel) (by decide +kernel) (by decide +kernel)
theorem canon3 : Canon (good mOwn (ordersOf [(0, 3), (0, 3)])) cS3 := canon_of (by decide +kernel) (by decide +kernel) (by decide +kernel) (by decide +kernel)
theorem canon4 : Canon (good mFour (ordersOf [(1, 1), (0, 1), (2, 1)])) cS4 := canon_of (by decide +kernel) (by decide +kernel) (by decide +kernel) (by decide +kernel)
theorem named_dec {m : Mk} {ks : List Int} (h : ks.all (fun k => decide (0 ≤ k) && decide (k < m.kinds.length)) = true) : Named m ks := fun k hk => by
  have z := List.all_eq_true.mp h k hk
  rw [Bool.and_eq_true, decide_eq_true_eq, decide_eq_true_eq] at z
  exact z
theorem ok_own : MkOk mOwn := ⟨by decide, by decide⟩
theorem ok_four : MkOk mFour := ⟨by decide, by decide⟩
theorem fine_own : Fine 4 (mkD mOwn) := fine_mk (by decide) (by decide)
theorem fine_steep : Fine 4 (mkD mSteep) := fine_mk (by decide) (by decide)
theorem fine_four : Fine 4 (mkD mFour) := fine_mk (by decide) (by decide)
/-! ### displays of whole numbers, None, tuples, lists -/
def tLit (r : RelK) (d : PyData) : TE := fun _ H Q => ∀ (H' : Hp) (z : V), Same H H' → DX r H' z d → Q z H'
def tLits (r : RelK) (ds : List PyData) : TA := fun _ H Q => ∀ (H' : Hp) (zs : List V), Same H H' → DXs r H' zs ds → Q zs H'
section
variable {X : Cx} {r : RelK} {e : Expr} {es : List Expr} {d : PyData} {ds : List PyData} {pos : Pos} {k : Nat}
theorem lit_int {i : Int} {j : Nat} : PE X (.Constant (.int i) j pos) (tLit r (.int i)) := pe_imp pe_int fun σ H Q z => z H _ (Same.refl _) (.int i)
theorem lit_non {j : Nat} : PE X (.Constant .none j pos) (tLit r .none) := pe_imp pe_non fun σ H Q z => z H _ (Same.refl _) .non
theorem lit_tup (h : PA X es (tLits r ds)) (n : ds.length ≤ 1000) (hr : ∀ xs : List V, r (.tup xs) xs ds d) : PE X (.Tuple es k pos) (tLit r d) := pe_imp (pe_tup h) fun σ H Q z H1 zs s1 t1 =>
  ⟨by rw [t1.len, sizeLine_eq]; omega, fun p hp => z _ _ (s1.trans (same_upd hp)) (.seq upd_same (hr zs) (DXs.same (same_upd hp) t1))⟩
theorem lit_lst (h : PA X es (tLits r ds)) (n : ds.length ≤ 1000) (hr : ∀ xs : List V, r (.lst xs) xs ds d) : PE X (.List es pos) (tLit r d) := pe_imp (pe_lst h) fun σ H Q z H1 zs s1 t1 =>
  ⟨by rw [t1.len, sizeLine_eq]; omega, fun p hp => z _ _ (s1.trans (same_upd hp)) (.seq upd_same (hr zs) (DXs.same (same_upd hp) t1))⟩
theorem pa_imp {t t' : TA} (h : PA X es t) (f : ∀ σ H Q, t' σ H Q → t σ H Q) : PA X es t' := ⟨fun pos pins s σ H Q I z => h.run pos pins s σ H Q I (f σ H Q z)⟩
theorem lits_nil : PA X [] (tLits r []) := pa_imp pa_nil fun σ H Q z => z H [] (Same.refl _) .nil
theorem lits_cons (h : PE X e (tLit r d)) (t : PA X es (tLits r ds)) (hs : starEach (e :: es) X.env = (false, eval e X.env) :: starEach es X.env := by rfl) : PA X (e :: es) (tLits r (d :: ds)) :=
  pa_imp (pa_cons h t hs) fun σ H Q z H1 y s1 ty H2 ys s2 tys => z H2 (y :: ys) (s1.trans s2) (.cons (DX.same s2 ty) tys)
end
end RK

namespace RK
open PySem PySem.Spec PyProof.Rows L2
theorem tt1 {H : Hp} {xs : List V} {d : PyData} (h : TTs H xs [d]) : ∃ x, xs = [x] ∧ TT H x d := by
  cases h with
  | cons h t =>
    cases t
    exact ⟨_, rfl, h⟩
theorem tt3 {H : Hp} {xs : List V} {d d2 d3 : PyData} (h : TTs H xs [d, d2, d3]) : ∃ x y z, xs = [x, y, z] ∧ TT H x d ∧ TT H y d2 ∧ TT H z d3 := by
  cases h with
  | cons h t =>
    cases t with
    | cons h2 t2 =>
      obtain ⟨z, rfl, h3⟩ := tt1 t2
      exact ⟨_, _, z, rfl, h, h2, h3⟩
theorem put2 {H : Hp} {p : Addr} {o : HO} (h : H p = none) : Same H (upd H p o) ∧ upd H p o p = some o := ⟨same_upd h, upd_same⟩
theorem mk_lay {H : Hp} {p1 p2 : Addr} {ks : List V} {m : Mk} (h1 : H p1 = none) (h2 : upd H p1 (.tup ks) p2 = none) (tk : TTs H ks (m.kinds.map trD)) :
    Same H (upd (upd H p1 (.tup ks)) p2 (.tup (.ref p1 :: .int m.lag :: m.rest.map V.int))) ∧ TT (upd (upd H p1 (.tup ks)) p2 (.tup (.ref p1 :: .int m.lag :: m.rest.map V.int))) (.ref p2) (mkD m) := by
  have s1 := same_upd (o := .tup ks) h1
  have s2 := same_upd (o := .tup (.ref p1 :: .int m.lag :: m.rest.map V.int)) h2
  exact ⟨s1.trans s2, DX.mk_tup upd_same (.cons (DX.same s2 (DX.mk_tup upd_same (DXs.same s1 tk))) (.cons (.int _) (dxs_ints _)))⟩
def handD : List PyData := [prD (30, 40), prD (25, 35), .none, prD (35, 40), .list [], .list (cS2.map odD), .list (cS3.map odD), .list (cS4.map odD), prD (30, 40), prD (40, 40)]
theorem fine_hand : Fine 7 (.list handD) := ⟨by decide +kernel, by decide +kernel⟩
section
variable {P : Program} {w : World} {K : PySem.W.Frag} {mg : Str → Option Value} {base : Heap} {f : Addr} {fd : FuncData}
theorem ok_hand (F : Fun K "_law_by_hand_right" "_law_by_hand_right" sLByHandRight f fd) (B : Bl mg) (GF : HasF P w K mg base 1 "firing_heats" ["make", "green"] spFiring) (GO : HasF P w K mg base 5 "orders_that_fire" ["make", "green"] spOTF)
    (GS : HasF P w K mg base 7 "_law_same" ["_law_got", "_law_due"] (spSame 7)) (GR : HasF P w K mg base 6 "_law_green_right" ["_law_make_so", "_law_green_so"] spGreen) : FnOk P w K mg base CX0 8 f fd [] spHand := by
  refine F.ok scLByHandRight (fun vs H Q E h => ?_) (fun cdv A outer s H vs Q E hr h => ?_)
  · obtain ⟨rfl, _⟩ := h
    rfl
  obtain ⟨rfl, q⟩ := h
  have nd := scLByHandRight.nd
  refine ⟨_, (pss_cons (ps_asg (lit_tup (r := rkU) (d := .tuple [.tuple [.int 20, .int 2, .int 40], .tuple [.int 25, .int 1, .int 35], .tuple [.int 30, .int 3, .int 50]]) (lits_cons (lit_tup (r := rkU) (d := .tuple [.int 20, .int 2, .int 40]) (lits_cons lit_int (lits_cons lit_int (lits_cons lit_int lits_nil))) (by decide) (fun _ => ⟨rfl, rfl⟩)) (lits_cons (lit_tup (r := rkU) (d := .tuple [.int 25, .int 1, .int 35]) (lits_cons lit_int (lits_cons lit_int (lits_cons lit_int lits_nil))) (by decide) (fun _ => ⟨rfl, rfl⟩)) (lits_cons (lit_tup (r := rkU) (d := .tuple [.int 30, .int 3, .int 50]) (lits_cons lit_int (lits_cons lit_int (lits_cons lit_int lits_nil))) (by decide) (fun _ => ⟨rfl, rfl⟩)) lits_nil))) (by decide) (fun _ => ⟨rfl, rfl⟩)) (pg_tup rfl (pgs_cons (pg_name (i := 0) nd rfl (Or.inl rfl)) (pgs_cons (pg_name (i := 1) nd rfl (Or.inl rfl)) (pgs_cons (pg_name (i := 2) nd rfl (Or.inl rfl)) pgs_nil)))))
    (pss_cons (ps_par3 (i := 3) (j := 4) (l := 5) rfl nd rfl rfl rfl (by decide) (by decide) (by decide) rfl rfl rfl (pa_cons (pe_tup (pa_cons (pe_tup (pa_cons (pv 0) (pa_cons (pv 1) pa_nil))) (pa_cons pe_int (pa_cons pe_int (pa_cons pe_int (pa_cons pe_int (pa_cons pe_int pa_nil))))))) (pa_cons (pe_tup (pa_cons (pe_tup (pa_cons (pv 0) (pa_cons (pv 1) pa_nil))) (pa_cons pe_int (pa_cons pe_int (pa_cons pe_int (pa_cons pe_int (pa_cons pe_int pa_nil))))))) (pa_cons (pe_tup (pa_cons (pe_tup (pa_cons (pv 0) (pa_cons (pv 1) (pa_cons (pv 2) pa_nil)))) (pa_cons pe_int (pa_cons pe_int (pa_cons pe_int (pa_cons pe_int (pa_cons pe_int pa_nil))))))) pa_nil))) (by rfl))
    (pss_cons (ps_set (i := 6) nd rfl (Or.inl rfl) (pe_lst (pa_cons (pe_call GF.ok (hr.mono (by decide)) (by rfl) GF.at_ GF.kp GF.bd .nil pass0 (pa_cons (pv 3) (pa_cons (lit_tup (r := rkU) (d := .tuple [.tuple [.int 0, .int 100], .tuple [.int 1, .int 50]]) (lits_cons (lit_tup (r := rkU) (d := .tuple [.int 0, .int 100]) (lits_cons lit_int (lits_cons lit_int lits_nil)) (by decide) (fun _ => ⟨rfl, rfl⟩)) (lits_cons (lit_tup (r := rkU) (d := .tuple [.int 1, .int 50]) (lits_cons lit_int (lits_cons lit_int lits_nil)) (by decide) (fun _ => ⟨rfl, rfl⟩)) lits_nil)) (by decide) (fun _ => ⟨rfl, rfl⟩)) pa_nil))) (pa_cons (pe_call GF.ok (hr.mono (by decide)) (by rfl) GF.at_ GF.kp GF.bd .nil pass0 (pa_cons (pv 3) (pa_cons (lit_tup (r := rkU) (d := .tuple [.tuple [.int 1, .int 50], .tuple [.int 0, .int 100]]) (lits_cons (lit_tup (r := rkU) (d := .tuple [.int 1, .int 50]) (lits_cons lit_int (lits_cons lit_int lits_nil)) (by decide) (fun _ => ⟨rfl, rfl⟩)) (lits_cons (lit_tup (r := rkU) (d := .tuple [.int 0, .int 100]) (lits_cons lit_int (lits_cons lit_int lits_nil)) (by decide) (fun _ => ⟨rfl, rfl⟩)) lits_nil)) (by decide) (fun _ => ⟨rfl, rfl⟩)) pa_nil))) (pa_cons (pe_call GF.ok (hr.mono (by decide)) (by rfl) GF.at_ GF.kp GF.bd .nil pass0 (pa_cons (pv 4) (pa_cons (lit_tup (r := rkU) (d := .tuple [.tuple [.int 0, .int 1], .tuple [.int 1, .int 1]]) (lits_cons (lit_tup (r := rkU) (d := .tuple [.int 0, .int 1]) (lits_cons lit_int (lits_cons lit_int lits_nil)) (by decide) (fun _ => ⟨rfl, rfl⟩)) (lits_cons (lit_tup (r := rkU) (d := .tuple [.int 1, .int 1]) (lits_cons lit_int (lits_cons lit_int lits_nil)) (by decide) (fun _ => ⟨rfl, rfl⟩)) lits_nil)) (by decide) (fun _ => ⟨rfl, rfl⟩)) pa_nil))) pa_nil)))))
    (pss_cons (ps_set (i := 6) nd rfl (Or.inl rfl) (pe_op op_cat (pv 6) (pe_lst (pa_cons (pe_call GF.ok (hr.mono (by decide)) (by rfl) GF.at_ GF.kp GF.bd .nil pass0 (pa_cons (pv 3) (pa_cons (pe_op (r := rRepT K) op_repT (lit_tup (r := rkU) (d := .tuple [.tuple [.int 0, .int 1]]) (lits_cons (lit_tup (r := rkU) (d := .tuple [.int 0, .int 1]) (lits_cons lit_int (lits_cons lit_int lits_nil)) (by decide) (fun _ => ⟨rfl, rfl⟩)) lits_nil) (by decide) (fun _ => ⟨rfl, rfl⟩)) pe_int) pa_nil))) (pa_cons (pe_call GO.ok (hr.mono (by decide)) (by rfl) GO.at_ GO.kp GO.bd .nil pass0 (pa_cons (pv 4) (pa_cons (lit_tup (r := rkU) (d := .tuple [.tuple [.int 1, .int 1], .tuple [.int 0, .int 1]]) (lits_cons (lit_tup (r := rkU) (d := .tuple [.int 1, .int 1]) (lits_cons lit_int (lits_cons lit_int lits_nil)) (by decide) (fun _ => ⟨rfl, rfl⟩)) (lits_cons (lit_tup (r := rkU) (d := .tuple [.int 0, .int 1]) (lits_cons lit_int (lits_cons lit_int lits_nil)) (by decide) (fun _ => ⟨rfl, rfl⟩)) lits_nil)) (by decide) (fun _ => ⟨rfl, rfl⟩)) pa_nil))) pa_nil)))))
    (pss_cons (ps_set (i := 7) nd rfl (Or.inl rfl) (lit_lst (r := rkD) (d := .list [.tuple [.int 30, .int 40], .tuple [.int 25, .int 35], .none, .tuple [.int 35, .int 40], .list []]) (lits_cons (lit_tup (r := rkD) (d := .tuple [.int 30, .int 40]) (lits_cons lit_int (lits_cons lit_int lits_nil)) (by decide) (fun _ => .inr ⟨rfl, rfl⟩)) (lits_cons (lit_tup (r := rkD) (d := .tuple [.int 25, .int 35]) (lits_cons lit_int (lits_cons lit_int lits_nil)) (by decide) (fun _ => .inr ⟨rfl, rfl⟩)) (lits_cons lit_non (lits_cons (lit_tup (r := rkD) (d := .tuple [.int 35, .int 40]) (lits_cons lit_int (lits_cons lit_int lits_nil)) (by decide) (fun _ => .inr ⟨rfl, rfl⟩)) (lits_cons (lit_lst (r := rkD) (d := .list []) lits_nil (by decide) (fun _ => .inl ⟨rfl, rfl⟩)) lits_nil))))) (by decide) (fun _ => .inl ⟨rfl, rfl⟩)))
    (pss_cons (ps_set (i := 6) nd rfl (Or.inl rfl) (pe_op op_cat (pv 6) (pe_lst (pa_cons (pe_call GO.ok (hr.mono (by decide)) (by rfl) GO.at_ GO.kp GO.bd .nil pass0 (pa_cons (pv 3) (pa_cons (lit_tup (r := rkU) (d := .tuple [.tuple [.int 1, .int 50], .tuple [.int 0, .int 100]]) (lits_cons (lit_tup (r := rkU) (d := .tuple [.int 1, .int 50]) (lits_cons lit_int (lits_cons lit_int lits_nil)) (by decide) (fun _ => ⟨rfl, rfl⟩)) (lits_cons (lit_tup (r := rkU) (d := .tuple [.int 0, .int 100]) (lits_cons lit_int (lits_cons lit_int lits_nil)) (by decide) (fun _ => ⟨rfl, rfl⟩)) lits_nil)) (by decide) (fun _ => ⟨rfl, rfl⟩)) pa_nil))) (pa_cons (pe_call GO.ok (hr.mono (by decide)) (by rfl) GO.at_ GO.kp GO.bd .nil pass0 (pa_cons (pv 3) (pa_cons (lit_tup (r := rkU) (d := .tuple [.tuple [.int 0, .int 3], .tuple [.int 0, .int 3]]) (lits_cons (lit_tup (r := rkU) (d := .tuple [.int 0, .int 3]) (lits_cons lit_int (lits_cons lit_int lits_nil)) (by decide) (fun _ => ⟨rfl, rfl⟩)) (lits_cons (lit_tup (r := rkU) (d := .tuple [.int 0, .int 3]) (lits_cons lit_int (lits_cons lit_int lits_nil)) (by decide) (fun _ => ⟨rfl, rfl⟩)) lits_nil)) (by decide) (fun _ => ⟨rfl, rfl⟩)) pa_nil))) pa_nil)))))
    (pss_cons (ps_set (i := 6) nd rfl (Or.inl rfl) (pe_op op_cat (pv 6) (pe_lst (pa_cons (pe_call GO.ok (hr.mono (by decide)) (by rfl) GO.at_ GO.kp GO.bd .nil pass0 (pa_cons (pv 5) (pa_cons (lit_tup (r := rkU) (d := .tuple [.tuple [.int 1, .int 1], .tuple [.int 0, .int 1], .tuple [.int 2, .int 1]]) (lits_cons (lit_tup (r := rkU) (d := .tuple [.int 1, .int 1]) (lits_cons lit_int (lits_cons lit_int lits_nil)) (by decide) (fun _ => ⟨rfl, rfl⟩)) (lits_cons (lit_tup (r := rkU) (d := .tuple [.int 0, .int 1]) (lits_cons lit_int (lits_cons lit_int lits_nil)) (by decide) (fun _ => ⟨rfl, rfl⟩)) (lits_cons (lit_tup (r := rkU) (d := .tuple [.int 2, .int 1]) (lits_cons lit_int (lits_cons lit_int lits_nil)) (by decide) (fun _ => ⟨rfl, rfl⟩)) lits_nil))) (by decide) (fun _ => ⟨rfl, rfl⟩)) pa_nil))) (pa_cons (pe_call GF.ok (hr.mono (by decide)) (by rfl) GF.at_ GF.kp GF.bd .nil pass0 (pa_cons (pv 3) (pa_cons (lit_tup (r := rkT) (d := .tuple [.tuple [.int 0, .int 100], .tuple [.int 1, .int 50]]) (lits_cons (lit_lst (r := rkT) (d := .tuple [.int 0, .int 100]) (lits_cons lit_int (lits_cons lit_int lits_nil)) (by decide) (fun _ => ⟨.inl rfl, rfl⟩)) (lits_cons (lit_tup (r := rkT) (d := .tuple [.int 1, .int 50]) (lits_cons lit_int (lits_cons lit_int lits_nil)) (by decide) (fun _ => ⟨.inr rfl, rfl⟩)) lits_nil)) (by decide) (fun _ => ⟨.inr rfl, rfl⟩)) pa_nil))) pa_nil)))))
    (pss_cons (ps_set (i := 6) nd rfl (Or.inl rfl) (pe_op op_cat (pv 6) (pe_lst (pa_cons (pe_call GF.ok (hr.mono (by decide)) (by rfl) GF.at_ GF.kp GF.bd .nil pass0 (pa_cons (pv 3) (pa_cons (lit_tup (r := rkU) (d := .tuple [.tuple [.int 0, .int 1], .tuple [.int 0, .int 2], .tuple [.int 0, .int 3], .tuple [.int 1, .int 4]]) (lits_cons (lit_tup (r := rkU) (d := .tuple [.int 0, .int 1]) (lits_cons lit_int (lits_cons lit_int lits_nil)) (by decide) (fun _ => ⟨rfl, rfl⟩)) (lits_cons (lit_tup (r := rkU) (d := .tuple [.int 0, .int 2]) (lits_cons lit_int (lits_cons lit_int lits_nil)) (by decide) (fun _ => ⟨rfl, rfl⟩)) (lits_cons (lit_tup (r := rkU) (d := .tuple [.int 0, .int 3]) (lits_cons lit_int (lits_cons lit_int lits_nil)) (by decide) (fun _ => ⟨rfl, rfl⟩)) (lits_cons (lit_tup (r := rkU) (d := .tuple [.int 1, .int 4]) (lits_cons lit_int (lits_cons lit_int lits_nil)) (by decide) (fun _ => ⟨rfl, rfl⟩)) lits_nil)))) (by decide) (fun _ => ⟨rfl, rfl⟩)) pa_nil))) pa_nil))))
    (pss_cons (ps_set (i := 7) nd rfl (Or.inl rfl) (pe_op op_cat (pv 7) (lit_lst (r := rkD) (d := .list [.list [.tuple [.tuple [.int 0, .int 100], .tuple [.int 1, .int 50]], .tuple [.tuple [.int 1, .int 50], .tuple [.int 0, .int 100]]], .list [.tuple [.tuple [.int 0, .int 3], .tuple [.int 0, .int 3]]], .list [.tuple [.tuple [.int 2, .int 1], .tuple [.int 0, .int 1], .tuple [.int 1, .int 1]], .tuple [.tuple [.int 2, .int 1], .tuple [.int 1, .int 1], .tuple [.int 0, .int 1]]], .tuple [.int 30, .int 40]]) (lits_cons (lit_lst (r := rkD) (d := .list [.tuple [.tuple [.int 0, .int 100], .tuple [.int 1, .int 50]], .tuple [.tuple [.int 1, .int 50], .tuple [.int 0, .int 100]]]) (lits_cons (lit_tup (r := rkD) (d := .tuple [.tuple [.int 0, .int 100], .tuple [.int 1, .int 50]]) (lits_cons (lit_tup (r := rkD) (d := .tuple [.int 0, .int 100]) (lits_cons lit_int (lits_cons lit_int lits_nil)) (by decide) (fun _ => .inr ⟨rfl, rfl⟩)) (lits_cons (lit_tup (r := rkD) (d := .tuple [.int 1, .int 50]) (lits_cons lit_int (lits_cons lit_int lits_nil)) (by decide) (fun _ => .inr ⟨rfl, rfl⟩)) lits_nil)) (by decide) (fun _ => .inr ⟨rfl, rfl⟩)) (lits_cons (lit_tup (r := rkD) (d := .tuple [.tuple [.int 1, .int 50], .tuple [.int 0, .int 100]]) (lits_cons (lit_tup (r := rkD) (d := .tuple [.int 1, .int 50]) (lits_cons lit_int (lits_cons lit_int lits_nil)) (by decide) (fun _ => .inr ⟨rfl, rfl⟩)) (lits_cons (lit_tup (r := rkD) (d := .tuple [.int 0, .int 100]) (lits_cons lit_int (lits_cons lit_int lits_nil)) (by decide) (fun _ => .inr ⟨rfl, rfl⟩)) lits_nil)) (by decide) (fun _ => .inr ⟨rfl, rfl⟩)) lits_nil)) (by decide) (fun _ => .inl ⟨rfl, rfl⟩)) (lits_cons (lit_lst (r := rkD) (d := .list [.tuple [.tuple [.int 0, .int 3], .tuple [.int 0, .int 3]]]) (lits_cons (lit_tup (r := rkD) (d := .tuple [.tuple [.int 0, .int 3], .tuple [.int 0, .int 3]]) (lits_cons (lit_tup (r := rkD) (d := .tuple [.int 0, .int 3]) (lits_cons lit_int (lits_cons lit_int lits_nil)) (by decide) (fun _ => .inr ⟨rfl, rfl⟩)) (lits_cons (lit_tup (r := rkD) (d := .tuple [.int 0, .int 3]) (lits_cons lit_int (lits_cons lit_int lits_nil)) (by decide) (fun _ => .inr ⟨rfl, rfl⟩)) lits_nil)) (by decide) (fun _ => .inr ⟨rfl, rfl⟩)) lits_nil) (by decide) (fun _ => .inl ⟨rfl, rfl⟩)) (lits_cons (lit_lst (r := rkD) (d := .list [.tuple [.tuple [.int 2, .int 1], .tuple [.int 0, .int 1], .tuple [.int 1, .int 1]], .tuple [.tuple [.int 2, .int 1], .tuple [.int 1, .int 1], .tuple [.int 0, .int 1]]]) (lits_cons (lit_tup (r := rkD) (d := .tuple [.tuple [.int 2, .int 1], .tuple [.int 0, .int 1], .tuple [.int 1, .int 1]]) (lits_cons (lit_tup (r := rkD) (d := .tuple [.int 2, .int 1]) (lits_cons lit_int (lits_cons lit_int lits_nil)) (by decide) (fun _ => .inr ⟨rfl, rfl⟩)) (lits_cons (lit_tup (r := rkD) (d := .tuple [.int 0, .int 1]) (lits_cons lit_int (lits_cons lit_int lits_nil)) (by decide) (fun _ => .inr ⟨rfl, rfl⟩)) (lits_cons (lit_tup (r := rkD) (d := .tuple [.int 1, .int 1]) (lits_cons lit_int (lits_cons lit_int lits_nil)) (by decide) (fun _ => .inr ⟨rfl, rfl⟩)) lits_nil))) (by decide) (fun _ => .inr ⟨rfl, rfl⟩)) (lits_cons (lit_tup (r := rkD) (d := .tuple [.tuple [.int 2, .int 1], .tuple [.int 1, .int 1], .tuple [.int 0, .int 1]]) (lits_cons (lit_tup (r := rkD) (d := .tuple [.int 2, .int 1]) (lits_cons lit_int (lits_cons lit_int lits_nil)) (by decide) (fun _ => .inr ⟨rfl, rfl⟩)) (lits_cons (lit_tup (r := rkD) (d := .tuple [.int 1, .int 1]) (lits_cons lit_int (lits_cons lit_int lits_nil)) (by decide) (fun _ => .inr ⟨rfl, rfl⟩)) (lits_cons (lit_tup (r := rkD) (d := .tuple [.int 0, .int 1]) (lits_cons lit_int (lits_cons lit_int lits_nil)) (by decide) (fun _ => .inr ⟨rfl, rfl⟩)) lits_nil))) (by decide) (fun _ => .inr ⟨rfl, rfl⟩)) lits_nil)) (by decide) (fun _ => .inl ⟨rfl, rfl⟩)) (lits_cons (lit_tup (r := rkD) (d := .tuple [.int 30, .int 40]) (lits_cons lit_int (lits_cons lit_int lits_nil)) (by decide) (fun _ => .inr ⟨rfl, rfl⟩)) lits_nil)))) (by decide) (fun _ => .inl ⟨rfl, rfl⟩))))
    (pss_cons (ps_set (i := 7) nd rfl (Or.inl rfl) (pe_op op_cat (pv 7) (lit_lst (r := rkD) (d := .list [.tuple [.int 40, .int 40]]) (lits_cons (lit_tup (r := rkD) (d := .tuple [.int 40, .int 40]) (lits_cons lit_int (lits_cons lit_int lits_nil)) (by decide) (fun _ => .inr ⟨rfl, rfl⟩)) lits_nil) (by decide) (fun _ => .inl ⟨rfl, rfl⟩))))
    (pss_one (ps_ret (pe_and (pe_call GS.ok hr (by rfl) GS.at_ GS.kp GS.bd .nil pass0 (pa_cons (pv 6) (pa_cons (pv 7) pa_nil))) (pe_and (pe_call GR.ok (hr.mono (by decide)) (by rfl) GR.at_ GR.kp GR.bd .nil pass0 (pa_cons (pv 5) (pa_cons (lit_tup (r := rkU) (d := .tuple [.tuple [.int 0, .int 1], .tuple [.int 1, .int 2], .tuple [.int 2, .int 3]]) (lits_cons (lit_tup (r := rkU) (d := .tuple [.int 0, .int 1]) (lits_cons lit_int (lits_cons lit_int lits_nil)) (by decide) (fun _ => ⟨rfl, rfl⟩)) (lits_cons (lit_tup (r := rkU) (d := .tuple [.int 1, .int 2]) (lits_cons lit_int (lits_cons lit_int lits_nil)) (by decide) (fun _ => ⟨rfl, rfl⟩)) (lits_cons (lit_tup (r := rkU) (d := .tuple [.int 2, .int 3]) (lits_cons lit_int (lits_cons lit_int lits_nil)) (by decide) (fun _ => ⟨rfl, rfl⟩)) lits_nil))) (by decide) (fun _ => ⟨rfl, rfl⟩)) pa_nil))) (pe_one (pe_call GR.ok (hr.mono (by decide)) (by rfl) GR.at_ GR.kp GR.bd .nil pass0 (pa_cons (pv 3) (pa_cons (lit_tup (r := rkU) (d := .tuple [.tuple [.int 1, .int 2], .tuple [.int 1, .int 2], .tuple [.int 0, .int 1]]) (lits_cons (lit_tup (r := rkU) (d := .tuple [.int 1, .int 2]) (lits_cons lit_int (lits_cons lit_int lits_nil)) (by decide) (fun _ => ⟨rfl, rfl⟩)) (lits_cons (lit_tup (r := rkU) (d := .tuple [.int 1, .int 2]) (lits_cons lit_int (lits_cons lit_int lits_nil)) (by decide) (fun _ => ⟨rfl, rfl⟩)) (lits_cons (lit_tup (r := rkU) (d := .tuple [.int 0, .int 1]) (lits_cons lit_int (lits_cons lit_int lits_nil)) (by decide) (fun _ => ⟨rfl, rfl⟩)) lits_nil))) (by decide) (fun _ => ⟨rfl, rfl⟩)) pa_nil)))))))))))))))))), ?_⟩
  refine fun G1 z1 s1 t1 => ?_
  obtain ⟨a1, xs1, rfl, e1, tx1⟩ := TT.tup t1
  obtain ⟨b1, b2, b3, rfl, tb1, tb2, tb3⟩ := tt3 tx1
  refine ⟨a1, _, rfl, SqT.of e1, rfl, _, _, rfl, _, _, rfl, _, _, rfl, rfl, ?_⟩
  have c := s1
  refine ⟨_, rfl, _, rfl, by show 2 ≤ sizeLine; decide, fun k2 hk2 => ⟨by show 6 ≤ sizeLine; decide, fun po hpo => ?_⟩⟩
  obtain ⟨s2, tOwn⟩ := mk_lay (m := mOwn) hk2 hpo (.cons tb1 (.cons tb2 .nil))
  replace c := c.trans s2
  replace tb1 := DX.same s2 tb1
  replace tb2 := DX.same s2 tb2
  replace tb3 := DX.same s2 tb3
  refine ⟨_, rfl, _, rfl, by show 2 ≤ sizeLine; decide, fun k3 hk3 => ⟨by show 6 ≤ sizeLine; decide, fun ps hps => ?_⟩⟩
  obtain ⟨s3, tSteep⟩ := mk_lay (m := mSteep) hk3 hps (.cons tb1 (.cons tb2 .nil))
  replace c := c.trans s3
  replace tb1 := DX.same s3 tb1
  replace tb2 := DX.same s3 tb2
  replace tb3 := DX.same s3 tb3
  replace tOwn := DX.same s3 tOwn
  refine ⟨_, rfl, _, rfl, _, rfl, by show 3 ≤ sizeLine; decide, fun k4 hk4 => ⟨by show 6 ≤ sizeLine; decide, fun pf hpf => ?_⟩⟩
  obtain ⟨s4, tFour⟩ := mk_lay (m := mFour) hk4 hpf (.cons tb1 (.cons tb2 (.cons tb3 .nil)))
  replace c := c.trans s4
  replace tb1 := DX.same s4 tb1
  replace tb2 := DX.same s4 tb2
  replace tb3 := DX.same s4 tb3
  replace tOwn := DX.same s4 tOwn
  replace tSteep := DX.same s4 tSteep
  refine ⟨_, _, _, rfl, ?_⟩
  clear tb1 tb2 tb3
  refine ⟨_, rfl, fun G5 y5 s5 u5 => ?_⟩
  replace c := c.trans s5
  replace tOwn := DX.same s5 tOwn
  replace tSteep := DX.same s5 tSteep
  replace tFour := DX.same s5 tFour
  refine ⟨.ref po, y5, mOwn, [(0, 100), (1, 50)], rfl, TT.dt tOwn, TT.dt u5, by decide, by decide, named_dec (by decide), fun G6 z6 s6 v6 => ?_⟩
  replace c := c.trans s6
  replace tOwn := DX.same s6 tOwn
  replace tSteep := DX.same s6 tSteep
  replace tFour := DX.same s6 tFour
  rw [fire1] at v6
  replace v6 := TT.dd v6
  refine ⟨_, rfl, fun G7 y7 s7 u7 => ?_⟩
  replace c := c.trans s7
  replace tOwn := DX.same s7 tOwn
  replace tSteep := DX.same s7 tSteep
  replace tFour := DX.same s7 tFour
  replace v6 := DX.same s7 v6
  refine ⟨.ref po, y7, mOwn, [(1, 50), (0, 100)], rfl, TT.dt tOwn, TT.dt u7, by decide, by decide, named_dec (by decide), fun G8 z8 s8 v8 => ?_⟩
  replace c := c.trans s8
  replace tOwn := DX.same s8 tOwn
  replace tSteep := DX.same s8 tSteep
  replace tFour := DX.same s8 tFour
  replace v6 := DX.same s8 v6
  rw [fire2] at v8
  replace v8 := TT.dd v8
  refine ⟨_, rfl, fun G9 y9 s9 u9 => ?_⟩
  replace c := c.trans s9
  replace tOwn := DX.same s9 tOwn
  replace tSteep := DX.same s9 tSteep
  replace tFour := DX.same s9 tFour
  replace v6 := DX.same s9 v6
  replace v8 := DX.same s9 v8
  refine ⟨.ref ps, y9, mSteep, [(0, 1), (1, 1)], rfl, TT.dt tSteep, TT.dt u9, by decide, by decide, named_dec (by decide), fun G10 z10 s10 v10 => ?_⟩
  replace c := c.trans s10
  replace tOwn := DX.same s10 tOwn
  replace tSteep := DX.same s10 tSteep
  replace tFour := DX.same s10 tFour
  replace v6 := DX.same s10 v6
  replace v8 := DX.same s10 v8
  rw [fire3] at v10
  replace v10 := TT.dd v10
  refine ⟨by show 3 ≤ sizeLine; decide, fun L11 hL11 => ?_⟩
  obtain ⟨s11, e11⟩ := put2 (o := .lst [z6, z8, z10]) hL11
  replace c := c.trans s11
  replace tOwn := DX.same s11 tOwn
  replace tSteep := DX.same s11 tSteep
  replace tFour := DX.same s11 tFour
  replace v6 := DX.same s11 v6
  replace v8 := DX.same s11 v8
  replace v10 := DX.same s11 v10
  have tn11 : DDs _ [z6, z8, z10] _ := (.cons v6 (.cons v8 (.cons v10 .nil)))
  clear v6
  clear v8
  clear v10
  have eg := e11
  have tg := tn11
  clear e11 tn11
  refine ⟨_, rfl, ?_⟩
  refine ⟨_, rfl, fun G12 y12 s12 u12 => ?_⟩
  replace c := c.trans s12
  replace tOwn := DX.same s12 tOwn
  replace tSteep := DX.same s12 tSteep
  replace tFour := DX.same s12 tFour
  replace eg := s12 _ _ eg
  replace tg := DXs.same s12 tg
  obtain ⟨l12, xl12, rfl, el12, tl12⟩ := TT.tup u12
  obtain ⟨w12, rfl, tw12⟩ := tt1 tl12
  refine ⟨l12, 4, _, rfl, rfl, SqT.of el12, (fun e => nomatch e), by decide, by decide, (by show 1 ≤ 1000; decide), fun p13 hp13 => ?_⟩
  obtain ⟨s13, e13⟩ := put2 (o := .tup [w12, w12, w12, w12]) hp13
  replace tw12 := DX.same s13 tw12
  have u13 : TT _ (.ref p13) (odD [(0, 1), (0, 1), (0, 1), (0, 1)]) := DX.mk_tup e13 (.cons tw12 (.cons tw12 (.cons tw12 (.cons tw12 .nil))))
  replace c := c.trans s13
  replace tOwn := DX.same s13 tOwn
  replace tSteep := DX.same s13 tSteep
  replace tFour := DX.same s13 tFour
  replace eg := s13 _ _ eg
  replace tg := DXs.same s13 tg
  refine ⟨.ref po, .ref p13, mOwn, [(0, 1), (0, 1), (0, 1), (0, 1)], rfl, TT.dt tOwn, TT.dt u13, by decide, by decide, named_dec (by decide), fun G14 z14 s14 v14 => ?_⟩
  replace c := c.trans s14
  replace tOwn := DX.same s14 tOwn
  replace tSteep := DX.same s14 tSteep
  replace tFour := DX.same s14 tFour
  replace eg := s14 _ _ eg
  replace tg := DXs.same s14 tg
  rw [fire4] at v14
  replace v14 := TT.dd v14
  refine ⟨_, rfl, fun G15 y15 s15 u15 => ?_⟩
  replace c := c.trans s15
  replace tOwn := DX.same s15 tOwn
  replace tSteep := DX.same s15 tSteep
  replace tFour := DX.same s15 tFour
  replace v14 := DX.same s15 v14
  replace eg := s15 _ _ eg
  replace tg := DXs.same s15 tg
  refine ⟨.ref ps, y15, mSteep, [(1, 1), (0, 1)], rfl, TT.dt tSteep, TT.dt u15, fine_od (by decide) (by decide), by decide, by decide, named_dec (by decide), fun G16 r16 ys16 S16 s16 nr16 er16 tt16 cS16 => ?_⟩
  replace c := c.trans s16
  replace tOwn := DX.same s16 tOwn
  replace tSteep := DX.same s16 tSteep
  replace tFour := DX.same s16 tFour
  replace v14 := DX.same s16 v14
  replace eg := s16 _ _ eg
  replace tg := DXs.same s16 tg
  obtain rfl : S16 = cS1 := cS16.one canon1 fun _ => Iff.rfl
  have v16 := DX.mk_lst er16 (TTs.dd tt16)
  refine ⟨by show 2 ≤ sizeLine; decide, fun L17 hL17 => ?_⟩
  obtain ⟨s17, e17⟩ := put2 (o := .lst [z14, .ref r16]) hL17
  replace c := c.trans s17
  replace tOwn := DX.same s17 tOwn
  replace tSteep := DX.same s17 tSteep
  replace tFour := DX.same s17 tFour
  replace v14 := DX.same s17 v14
  replace v16 := DX.same s17 v16
  replace eg := s17 _ _ eg
  replace tg := DXs.same s17 tg
  have tn17 : DDs _ [z14, .ref r16] _ := (.cons v14 (.cons v16 .nil))
  clear v14
  clear v16
  refine ⟨L11, L17, _, _, rfl, rfl, eg, e17, by rw [tg.len, tn17.len, sizeLine_eq]; decide, fun p18 hp18 => ?_⟩
  obtain ⟨s18, e18⟩ := put2 (o := .lst ([z6, z8, z10] ++ [z14, .ref r16])) hp18
  replace tg := DXs.same s18 (tg.app tn17)
  replace eg := e18
  clear e18 tn17 e17
  replace c := c.trans s18
  replace tOwn := DX.same s18 tOwn
  replace tSteep := DX.same s18 tSteep
  replace tFour := DX.same s18 tFour
  refine fun G19 y19 s19 u19 => ?_
  replace c := c.trans s19
  replace tOwn := DX.same s19 tOwn
  replace tSteep := DX.same s19 tSteep
  replace tFour := DX.same s19 tFour
  replace eg := s19 _ _ eg
  replace tg := DXs.same s19 tg
  obtain ⟨da, xd, rfl, ed, td⟩ := DD.lst u19
  refine ⟨_, rfl, ?_⟩
  refine ⟨_, rfl, fun G20 y20 s20 u20 => ?_⟩
  replace c := c.trans s20
  replace tOwn := DX.same s20 tOwn
  replace tSteep := DX.same s20 tSteep
  replace tFour := DX.same s20 tFour
  replace eg := s20 _ _ eg
  replace tg := DXs.same s20 tg
  replace ed := s20 _ _ ed
  replace td := DXs.same s20 td
  refine ⟨.ref po, y20, mOwn, [(1, 50), (0, 100)], rfl, TT.dt tOwn, TT.dt u20, fine_od (by decide) (by decide), by decide, by decide, named_dec (by decide), fun G21 r21 ys21 S21 s21 nr21 er21 tt21 cS21 => ?_⟩
  replace c := c.trans s21
  replace tOwn := DX.same s21 tOwn
  replace tSteep := DX.same s21 tSteep
  replace tFour := DX.same s21 tFour
  replace eg := s21 _ _ eg
  replace tg := DXs.same s21 tg
  replace ed := s21 _ _ ed
  replace td := DXs.same s21 td
  obtain rfl : S21 = cS2 := cS21.one canon2 fun _ => Iff.rfl
  have v21 := DX.mk_lst er21 (TTs.dd tt21)
  refine ⟨_, rfl, fun G22 y22 s22 u22 => ?_⟩
  replace c := c.trans s22
  replace tOwn := DX.same s22 tOwn
  replace tSteep := DX.same s22 tSteep
  replace tFour := DX.same s22 tFour
  replace v21 := DX.same s22 v21
  replace eg := s22 _ _ eg
  replace tg := DXs.same s22 tg
  replace ed := s22 _ _ ed
  replace td := DXs.same s22 td
  refine ⟨.ref po, y22, mOwn, [(0, 3), (0, 3)], rfl, TT.dt tOwn, TT.dt u22, fine_od (by decide) (by decide), by decide, by decide, named_dec (by decide), fun G23 r23 ys23 S23 s23 nr23 er23 tt23 cS23 => ?_⟩
  replace c := c.trans s23
  replace tOwn := DX.same s23 tOwn
  replace tSteep := DX.same s23 tSteep
  replace tFour := DX.same s23 tFour
  replace v21 := DX.same s23 v21
  replace eg := s23 _ _ eg
  replace tg := DXs.same s23 tg
  replace ed := s23 _ _ ed
  replace td := DXs.same s23 td
  obtain rfl : S23 = cS3 := cS23.one canon3 fun _ => Iff.rfl
  have v23 := DX.mk_lst er23 (TTs.dd tt23)
  refine ⟨by show 2 ≤ sizeLine; decide, fun L24 hL24 => ?_⟩
  obtain ⟨s24, e24⟩ := put2 (o := .lst [.ref r21, .ref r23]) hL24
  replace c := c.trans s24
  replace tOwn := DX.same s24 tOwn
  replace tSteep := DX.same s24 tSteep
  replace tFour := DX.same s24 tFour
  replace v21 := DX.same s24 v21
  replace v23 := DX.same s24 v23
  replace eg := s24 _ _ eg
  replace tg := DXs.same s24 tg
  replace ed := s24 _ _ ed
  replace td := DXs.same s24 td
  have tn24 : DDs _ [.ref r21, .ref r23] _ := (.cons v21 (.cons v23 .nil))
  clear v21
  clear v23
  refine ⟨p18, L24, _, _, rfl, rfl, eg, e24, by rw [tg.len, tn24.len, sizeLine_eq]; decide, fun p25 hp25 => ?_⟩
  obtain ⟨s25, e25⟩ := put2 (o := .lst (([z6, z8, z10] ++ [z14, .ref r16]) ++ [.ref r21, .ref r23])) hp25
  replace tg := DXs.same s25 (tg.app tn24)
  replace eg := e25
  clear e25 tn24 e24
  replace c := c.trans s25
  replace tOwn := DX.same s25 tOwn
  replace tSteep := DX.same s25 tSteep
  replace tFour := DX.same s25 tFour
  replace ed := s25 _ _ ed
  replace td := DXs.same s25 td
  refine ⟨_, rfl, ?_⟩
  refine ⟨_, rfl, fun G26 y26 s26 u26 => ?_⟩
  replace c := c.trans s26
  replace tOwn := DX.same s26 tOwn
  replace tSteep := DX.same s26 tSteep
  replace tFour := DX.same s26 tFour
  replace ed := s26 _ _ ed
  replace td := DXs.same s26 td
  replace eg := s26 _ _ eg
  replace tg := DXs.same s26 tg
  refine ⟨.ref pf, y26, mFour, [(1, 1), (0, 1), (2, 1)], rfl, TT.dt tFour, TT.dt u26, fine_od (by decide) (by decide), by decide, by decide, named_dec (by decide), fun G27 r27 ys27 S27 s27 nr27 er27 tt27 cS27 => ?_⟩
  replace c := c.trans s27
  replace tOwn := DX.same s27 tOwn
  replace tSteep := DX.same s27 tSteep
  replace tFour := DX.same s27 tFour
  replace ed := s27 _ _ ed
  replace td := DXs.same s27 td
  replace eg := s27 _ _ eg
  replace tg := DXs.same s27 tg
  obtain rfl : S27 = cS4 := cS27.one canon4 fun _ => Iff.rfl
  have v27 := DX.mk_lst er27 (TTs.dd tt27)
  refine ⟨_, rfl, fun G28 y28 s28 u28 => ?_⟩
  replace c := c.trans s28
  replace tOwn := DX.same s28 tOwn
  replace tSteep := DX.same s28 tSteep
  replace tFour := DX.same s28 tFour
  replace v27 := DX.same s28 v27
  replace ed := s28 _ _ ed
  replace td := DXs.same s28 td
  replace eg := s28 _ _ eg
  replace tg := DXs.same s28 tg
  refine ⟨.ref po, y28, mOwn, [(0, 100), (1, 50)], rfl, TT.dt tOwn, u28, by decide, by decide, named_dec (by decide), fun G29 z29 s29 v29 => ?_⟩
  replace c := c.trans s29
  replace tOwn := DX.same s29 tOwn
  replace tSteep := DX.same s29 tSteep
  replace tFour := DX.same s29 tFour
  replace v27 := DX.same s29 v27
  replace ed := s29 _ _ ed
  replace td := DXs.same s29 td
  replace eg := s29 _ _ eg
  replace tg := DXs.same s29 tg
  rw [fire1] at v29
  replace v29 := TT.dd v29
  refine ⟨by show 2 ≤ sizeLine; decide, fun L30 hL30 => ?_⟩
  obtain ⟨s30, e30⟩ := put2 (o := .lst [.ref r27, z29]) hL30
  replace c := c.trans s30
  replace tOwn := DX.same s30 tOwn
  replace tSteep := DX.same s30 tSteep
  replace tFour := DX.same s30 tFour
  replace v27 := DX.same s30 v27
  replace v29 := DX.same s30 v29
  replace ed := s30 _ _ ed
  replace td := DXs.same s30 td
  replace eg := s30 _ _ eg
  replace tg := DXs.same s30 tg
  have tn30 : DDs _ [.ref r27, z29] _ := (.cons v27 (.cons v29 .nil))
  clear v27
  clear v29
  refine ⟨p25, L30, _, _, rfl, rfl, eg, e30, by rw [tg.len, tn30.len, sizeLine_eq]; decide, fun p31 hp31 => ?_⟩
  obtain ⟨s31, e31⟩ := put2 (o := .lst ((([z6, z8, z10] ++ [z14, .ref r16]) ++ [.ref r21, .ref r23]) ++ [.ref r27, z29])) hp31
  replace tg := DXs.same s31 (tg.app tn30)
  replace eg := e31
  clear e31 tn30 e30
  replace c := c.trans s31
  replace tOwn := DX.same s31 tOwn
  replace tSteep := DX.same s31 tSteep
  replace tFour := DX.same s31 tFour
  replace ed := s31 _ _ ed
  replace td := DXs.same s31 td
  refine ⟨_, rfl, ?_⟩
  refine ⟨_, rfl, fun G32 y32 s32 u32 => ?_⟩
  replace c := c.trans s32
  replace tOwn := DX.same s32 tOwn
  replace tSteep := DX.same s32 tSteep
  replace tFour := DX.same s32 tFour
  replace ed := s32 _ _ ed
  replace td := DXs.same s32 td
  replace eg := s32 _ _ eg
  replace tg := DXs.same s32 tg
  refine ⟨.ref po, y32, mOwn, [(0, 1), (0, 2), (0, 3), (1, 4)], rfl, TT.dt tOwn, TT.dt u32, by decide, by decide, named_dec (by decide), fun G33 z33 s33 v33 => ?_⟩
  replace c := c.trans s33
  replace tOwn := DX.same s33 tOwn
  replace tSteep := DX.same s33 tSteep
  replace tFour := DX.same s33 tFour
  replace ed := s33 _ _ ed
  replace td := DXs.same s33 td
  replace eg := s33 _ _ eg
  replace tg := DXs.same s33 tg
  rw [fire5] at v33
  replace v33 := TT.dd v33
  refine ⟨by show 1 ≤ sizeLine; decide, fun L34 hL34 => ?_⟩
  obtain ⟨s34, e34⟩ := put2 (o := .lst [z33]) hL34
  replace c := c.trans s34
  replace tOwn := DX.same s34 tOwn
  replace tSteep := DX.same s34 tSteep
  replace tFour := DX.same s34 tFour
  replace v33 := DX.same s34 v33
  replace ed := s34 _ _ ed
  replace td := DXs.same s34 td
  replace eg := s34 _ _ eg
  replace tg := DXs.same s34 tg
  have tn34 : DDs _ [z33] _ := (.cons v33 .nil)
  clear v33
  refine ⟨p31, L34, _, _, rfl, rfl, eg, e34, by rw [tg.len, tn34.len, sizeLine_eq]; decide, fun p35 hp35 => ?_⟩
  obtain ⟨s35, e35⟩ := put2 (o := .lst (((([z6, z8, z10] ++ [z14, .ref r16]) ++ [.ref r21, .ref r23]) ++ [.ref r27, z29]) ++ [z33])) hp35
  replace tg := DXs.same s35 (tg.app tn34)
  replace eg := e35
  clear e35 tn34 e34
  replace c := c.trans s35
  replace tOwn := DX.same s35 tOwn
  replace tSteep := DX.same s35 tSteep
  replace tFour := DX.same s35 tFour
  replace ed := s35 _ _ ed
  replace td := DXs.same s35 td
  refine ⟨_, rfl, fun G36 y36 s36 u36 => ?_⟩
  replace c := c.trans s36
  replace tOwn := DX.same s36 tOwn
  replace tSteep := DX.same s36 tSteep
  replace tFour := DX.same s36 tFour
  replace ed := s36 _ _ ed
  replace td := DXs.same s36 td
  replace eg := s36 _ _ eg
  replace tg := DXs.same s36 tg
  obtain ⟨L36, xl36, rfl, el36, tl36⟩ := DD.lst u36
  refine ⟨da, L36, _, _, rfl, rfl, ed, el36, by rw [td.len, tl36.len, sizeLine_eq]; decide, fun p37 hp37 => ?_⟩
  obtain ⟨s37, e37⟩ := put2 (o := .lst (xd ++ xl36)) hp37
  replace td := DXs.same s37 (td.app tl36)
  replace ed := e37
  clear e37 tl36 el36
  replace c := c.trans s37
  replace tOwn := DX.same s37 tOwn
  replace tSteep := DX.same s37 tSteep
  replace tFour := DX.same s37 tFour
  replace eg := s37 _ _ eg
  replace tg := DXs.same s37 tg
  refine ⟨_, rfl, fun G38 y38 s38 u38 => ?_⟩
  replace c := c.trans s38
  replace tOwn := DX.same s38 tOwn
  replace tSteep := DX.same s38 tSteep
  replace tFour := DX.same s38 tFour
  replace eg := s38 _ _ eg
  replace tg := DXs.same s38 tg
  replace ed := s38 _ _ ed
  replace td := DXs.same s38 td
  obtain ⟨L38, xl38, rfl, el38, tl38⟩ := DD.lst u38
  refine ⟨p37, L38, _, _, rfl, rfl, ed, el38, by rw [td.len, tl38.len, sizeLine_eq]; decide, fun p39 hp39 => ?_⟩
  obtain ⟨s39, e39⟩ := put2 (o := .lst ((xd ++ xl36) ++ xl38)) hp39
  replace td := DXs.same s39 (td.app tl38)
  replace ed := e39
  clear e39 tl38 el38
  replace c := c.trans s39
  replace tOwn := DX.same s39 tOwn
  replace tSteep := DX.same s39 tSteep
  replace tFour := DX.same s39 tFour
  replace eg := s39 _ _ eg
  replace tg := DXs.same s39 tg
  refine ⟨_, rfl, _, rfl, .ref p35, .ref p39, .list handD, rfl, DX.mk_lst eg tg, DX.mk_lst ed td, fine_hand, fun G40 s40 => ⟨_, rfl, iteT ?_⟩⟩
  replace c := c.trans s40
  replace tOwn := DX.same s40 tOwn
  replace tSteep := DX.same s40 tSteep
  replace tFour := DX.same s40 tFour
  refine ⟨_, rfl, fun G41 y41 s41 u41 => ?_⟩
  replace c := c.trans s41
  replace tOwn := DX.same s41 tOwn
  replace tSteep := DX.same s41 tSteep
  replace tFour := DX.same s41 tFour
  refine ⟨.ref pf, y41, mFour, [(0, 1), (1, 2), (2, 3)], rfl, tFour, u41, fine_four, ok_four, by decide, by decide, named_dec (by decide), fun G42 s42 => ?_⟩
  replace c := c.trans s42
  replace tOwn := DX.same s42 tOwn
  replace tSteep := DX.same s42 tSteep
  replace tFour := DX.same s42 tFour
  refine ⟨_, rfl, iteT ?_⟩
  refine ⟨_, rfl, fun G43 y43 s43 u43 => ?_⟩
  replace c := c.trans s43
  replace tOwn := DX.same s43 tOwn
  replace tSteep := DX.same s43 tSteep
  replace tFour := DX.same s43 tFour
  refine ⟨.ref po, y43, mOwn, [(1, 2), (1, 2), (0, 1)], rfl, tOwn, u43, fine_own, ok_own, by decide, by decide, named_dec (by decide), fun G44 s44 => ?_⟩
  replace c := c.trans s44
  replace tOwn := DX.same s44 tOwn
  replace tSteep := DX.same s44 tSteep
  replace tFour := DX.same s44 tFour
  exact q _ c
end
end RK

namespace RK
open PySem PySem.Spec PyProof.Rows L2
/-- a def of the top: where it stands, how it binds -/
def DefF (K : PySem.W.Frag) (mg : Str → Option Value) (x : Str) (st : Stmt) (ps : List Str) : Prop := ∃ (f : Addr) (fd : FuncData), Fun K x x st f fd ∧ Binds K fd ps [] ∧ mg x = some (.ref f)
theorem defF {K : PySem.W.Frag} {h : Heap} {mg : Str → Option Value} {x : Str} {st : Stmt} {ps : List Str} {f : Addr} {oc : Value} {od an : Option Addr} {osl : Array (Option Value)} {kV doc pm cdv ct : Value} (X : K.In h) (G : h.Ns mainGlobals mg)
    (hb : ∀ (kV doc pm : Value) (an : Option Addr) (cdv ct : Value) (us : List Value), us.length = ps.length → bindArgs (PySem.W.fnOf x x (defArgs st) (defBody st) (defScope st) .none kV doc pm an cdv ct) ⟨us, []⟩ = pure (ps.zip us))
    (a : PySem.W.nsIn K mainGlobals x = some (some (.ref f))) (l : K.lookup f = some ⟨oc, od, .func (PySem.W.fnOf x x (defArgs st) (defBody st) (defScope st) .none kV doc pm an cdv ct), osl⟩)
    (c : PySem.W.codeIn K cdv x = true) (k : PySem.W.keepIn K (.ref f) = true) : DefF K mg x st ps := ⟨f, _, fun_mk l c k, (fun_mk l c k).binds hb, PySem.W.mg_of X G a⟩
theorem all_mk {l : PySem.W.OpenLaw} {w : World} {K : PySem.W.Frag} {mg : Str → Option Value} {fa : Addr} (hfa : mg "law" = some (.ref fa)) (B : Bl mg) (hTu : DefF K mg "tupled" sTupled ["matter"]) (hCh : DefF K mg "course_heats" sCourseHeats ["make", "heat", "many"]) (hBr : DefF K mg "bricks_of" sBricksOf ["load"]) (hLm : DefF K mg "load_marked" sLoadMarked ["make", "load", "heat"]) (hLb : DefF K mg "load_behind" sLoadBehind ["make", "load", "heats"]) (hFi : DefF K mg "firing_heats" sFiringHeats ["make", "green"]) (hOo : DefF K mg "orders_of" sOrdersOf ["row"]) (hOf : DefF K mg "orders_that_fire" sOrdersThatFire ["make", "green"]) (hLBox : DefF K mg "_law_box" sLBox ["_law_script", "_law_k"]) (hLTake : DefF K mg "_law_take" sLTake ["_law_tin", "_law_below_so"]) (hLCells : DefF K mg "_law_cells" sLCells ["_law_script", "_law_most_so"]) (hLOf : DefF K mg "_law_of" sLOf ["_law_tin", "_law_goods_so"]) (hLLists : DefF K mg "_law_lists" sLLists ["_law_matter"]) (hLSame : DefF K mg "_law_same" sLSame ["_law_got", "_law_due"]) (hLKinds : DefF K mg "_law_kinds" sLKinds ["_law_tin"]) (hLGreen : DefF K mg "_law_green" sLGreen ["_law_tin", "_law_make_so", "_law_most_so"]) (hLAll : DefF K mg "_law_all_orders" sLAllOrders ["_law_row_so"]) (hLFires : DefF K mg "_law_fires_at" sLFiresAt ["_law_make_so", "_law_green_so", "_law_heat_so"]) (hLEnds : DefF K mg "_law_ends_by" sLEndsBy ["_law_make_so", "_law_green_so"]) (hLGR : DefF K mg "_law_green_right" sLGreenRight ["_law_make_so", "_law_green_so"]) (hLHand : DefF K mg "_law_by_hand_right" sLByHandRight []) (hLRight : DefF K mg "_law_right" sLRight ["_law_tin"]) (hLaw : DefF K mg "law" sLaw ["_law_script"]) :
    ∃ fd : FuncData, (∀ (s : Shared) (v : Value), BindsTo s fd ⟨[v], []⟩ [("_law_script", v)]) ∧ ∀ base : Heap, K.In base → base.Ns mainGlobals mg → FnOk l.prog w K mg base CX0 9 fa fd ["_law_script"] (spLaw K) := by
  obtain ⟨fTu, dTu, FTu, bTu, gTu⟩ := hTu
  obtain ⟨fCh, dCh, FCh, bCh, gCh⟩ := hCh
  obtain ⟨fBr, dBr, FBr, bBr, gBr⟩ := hBr
  obtain ⟨fLm, dLm, FLm, bLm, gLm⟩ := hLm
  obtain ⟨fLb, dLb, FLb, bLb, gLb⟩ := hLb
  obtain ⟨fFi, dFi, FFi, bFi, gFi⟩ := hFi
  obtain ⟨fOo, dOo, FOo, bOo, gOo⟩ := hOo
  obtain ⟨fOf, dOf, FOf, bOf, gOf⟩ := hOf
  obtain ⟨fLBox, dLBox, FLBox, bLBox, gLBox⟩ := hLBox
  obtain ⟨fLTake, dLTake, FLTake, bLTake, gLTake⟩ := hLTake
  obtain ⟨fLCells, dLCells, FLCells, bLCells, gLCells⟩ := hLCells
  obtain ⟨fLOf, dLOf, FLOf, bLOf, gLOf⟩ := hLOf
  obtain ⟨fLLists, dLLists, FLLists, bLLists, gLLists⟩ := hLLists
  obtain ⟨fLSame, dLSame, FLSame, bLSame, gLSame⟩ := hLSame
  obtain ⟨fLKinds, dLKinds, FLKinds, bLKinds, gLKinds⟩ := hLKinds
  obtain ⟨fLGreen, dLGreen, FLGreen, bLGreen, gLGreen⟩ := hLGreen
  obtain ⟨fLAll, dLAll, FLAll, bLAll, gLAll⟩ := hLAll
  obtain ⟨fLFires, dLFires, FLFires, bLFires, gLFires⟩ := hLFires
  obtain ⟨fLEnds, dLEnds, FLEnds, bLEnds, gLEnds⟩ := hLEnds
  obtain ⟨fLGR, dLGR, FLGR, bLGR, gLGR⟩ := hLGR
  obtain ⟨fLHand, dLHand, FLHand, bLHand, gLHand⟩ := hLHand
  obtain ⟨fLRight, dLRight, FLRight, bLRight, gLRight⟩ := hLRight
  obtain ⟨fLaw, dLaw, FLaw, bLaw, gLaw⟩ := hLaw
  obtain rfl : fa = fLaw := Value.ref.inj (Option.some.inj (hfa.symm.trans gLaw))
  obtain ⟨oc, od, kV, doc, pm, an, cdv, ct, osl, rfl, _, _⟩ := FLaw.ex
  refine ⟨PySem.W.fnOf "law" "law" (defArgs sLaw) (defBody sLaw) (defScope sLaw) .none kV doc pm an cdv ct, fun s v => .of_eq rfl, fun base _ _ => ?_⟩
  have oTu := ok_tupled (P := l.prog) (w := w) (base := base) FTu B bTu gTu 4
  have oLm := ok_marked (P := l.prog) (w := w) (base := base) FLm B FCh bCh gCh FBr bBr gBr
  have GB : HasF l.prog w K mg base 5 "load_behind" ["make", "load", "heats"] spBehind := ⟨fLb, dLb, ok_behind FLb B oTu bTu FTu.kp gTu oLm bLm FLm.kp gLm, bLb, FLb.kp, gLb⟩
  have GF : HasF l.prog w K mg base 1 "firing_heats" ["make", "green"] spFiring := ⟨fFi, dFi, ok_firing FFi B, bFi, FFi.kp, gFi⟩
  have GO : HasF l.prog w K mg base 5 "orders_that_fire" ["make", "green"] spOTF := ⟨fOf, dOf, ok_otf FOf B oTu bTu FTu.kp gTu (ok_orders FOo B) bOo FOo.kp gOo (ok_firing FFi B) bFi FFi.kp gFi, bOf, FOf.kp, gOf⟩
  have GL : HasF l.prog w K mg base 4 "_law_lists" ["_law_matter"] (spLists 4) := ⟨fLLists, dLLists, ok_lists FLLists B bLLists gLLists 4, bLLists, FLLists.kp, gLLists⟩
  have GS5 : HasF l.prog w K mg base 5 "_law_same" ["_law_got", "_law_due"] (spSame 5) := ⟨fLSame, dLSame, ok_same FLSame B bLSame gLSame 5, bLSame, FLSame.kp, gLSame⟩
  have GS7 : HasF l.prog w K mg base 7 "_law_same" ["_law_got", "_law_due"] (spSame 7) := ⟨fLSame, dLSame, ok_same FLSame B bLSame gLSame 7, bLSame, FLSame.kp, gLSame⟩
  have GA : HasF l.prog w K mg base 5 "_law_all_orders" ["_law_row_so"] (spAll 5) := ⟨fLAll, dLAll, ok_allO FLAll B bLAll gLAll 5, bLAll, FLAll.kp, gLAll⟩
  have GE : HasF l.prog w K mg base 2 "_law_ends_by" ["_law_make_so", "_law_green_so"] spEnds := ⟨fLEnds, dLEnds, ok_ends FLEnds B (ok_fires FLFires B) bLFires FLFires.kp gLFires, bLEnds, FLEnds.kp, gLEnds⟩
  have GR : HasF l.prog w K mg base 6 "_law_green_right" ["_law_make_so", "_law_green_so"] spGreen := ⟨fLGR, dLGR, ok_green FLGR B GE GF GL GS5 GA GO GB, bLGR, FLGR.kp, gLGR⟩
  have GH : HasF l.prog w K mg base 8 "_law_by_hand_right" [] spHand := ⟨fLHand, dLHand, ok_hand FLHand B GF GO GS7 GR, bLHand, FLHand.kp, gLHand⟩
  have GT : HasF l.prog w K mg base 1 "_law_take" ["_law_tin", "_law_below_so"] spTake := ⟨fLTake, dLTake, ok_take FLTake B, bLTake, FLTake.kp, gLTake⟩
  have GOf : HasF l.prog w K mg base 2 "_law_of" ["_law_tin", "_law_goods_so"] spOf := ⟨fLOf, dLOf, ok_of FLOf B GT, bLOf, FLOf.kp, gLOf⟩
  have GK : HasF l.prog w K mg base 3 "_law_kinds" ["_law_tin"] spKinds := ⟨fLKinds, dLKinds, ok_kinds FLKinds B GT GOf, bLKinds, FLKinds.kp, gLKinds⟩
  have GG : HasF l.prog w K mg base 2 "_law_green" ["_law_tin", "_law_make_so", "_law_most_so"] spGr := ⟨fLGreen, dLGreen, ok_gr FLGreen B GT, bLGreen, FLGreen.kp, gLGreen⟩
  have GRt : HasF l.prog w K mg base 7 "_law_right" ["_law_tin"] spRight := ⟨fLRight, dLRight, ok_right FLRight B GT GK GG GR, bLRight, FLRight.kp, gLRight⟩
  have GC : HasF l.prog w K mg base 1 "_law_cells" ["_law_script", "_law_most_so"] (spCells K) := ⟨fLCells, dLCells, ok_cells FLCells B, bLCells, FLCells.kp, gLCells⟩
  have GBx : HasF l.prog w K mg base 1 "_law_box" ["_law_script", "_law_k"] spBox := ⟨fLBox, dLBox, ok_box FLBox B, bLBox, FLBox.kp, gLBox⟩
  exact ok_law FLaw B GH GC GBx GRt
end RK

open PySem PySem.W PyProof.Rows
set_option maxHeartbeats 0 in
theorem PySem.Challenge.cw_ringkiln_k02_whole_heats_that_fire_and_o_holds : PySem.Challenge.rw_ringkiln_k02_whole_heats_that_fire_and_o.Holds := by
  w_on; o_law; k_head; (case hw => w_witness2)
  k_fill
  refine L2.walk_of (l := PySem.Challenge.rw_ringkiln_k02_whole_heats_that_fire_and_o) (n := 63) (k := 9) (x := "_law_script") (CX := fun _ => L2.CX0) (sp := fun w => RK.spLaw _) rfl (by decide) rfl ⟨rfl, by decide, by decide⟩ (fun w h Y => PySem.W.kIn_of Y) ?F (fun _ _ a ns hl _ hS => ⟨a, ns, rfl, hS, hl, fun _ => rfl⟩) (fun _ _ _ _ _ z => z)
  case F =>
    intro w mg fa h KX G hmg
    refine' RK.all_mk hmg ⟨PySem.W.mg_none_of KX G ?z0, PySem.W.mg_none_of KX G ?z1, PySem.W.mg_none_of KX G ?z2, PySem.W.mg_none_of KX G ?z3, PySem.W.mg_none_of KX G ?z4, PySem.W.mg_none_of KX G ?z5, PySem.W.mg_none_of KX G ?z6, PySem.W.mg_none_of KX G ?z7, PySem.W.mg_none_of KX G ?z8, PySem.W.mg_none_of KX G ?z9, PySem.W.mg_none_of KX G ?z10, PySem.W.mg_none_of KX G ?z11, PySem.W.mg_none_of KX G ?z12, PySem.W.mg_none_of KX G ?z13, PySem.W.mg_none_of KX G ?z14, PySem.W.mg_none_of KX G ?z15, PySem.W.mg_none_of KX G ?z16⟩
      (RK.defF (x := "tupled") (st := RK.sTupled) (ps := ["matter"]) KX G (fun _ _ _ _ _ _ us hl => match us, hl with | [_], _ => rfl) ?a0 ?l0 ?c0 ?k0)
      (RK.defF (x := "course_heats") (st := RK.sCourseHeats) (ps := ["make", "heat", "many"]) KX G (fun _ _ _ _ _ _ us hl => match us, hl with | [_, _, _], _ => rfl) ?a1 ?l1 ?c1 ?k1)
      (RK.defF (x := "bricks_of") (st := RK.sBricksOf) (ps := ["load"]) KX G (fun _ _ _ _ _ _ us hl => match us, hl with | [_], _ => rfl) ?a2 ?l2 ?c2 ?k2)
      (RK.defF (x := "load_marked") (st := RK.sLoadMarked) (ps := ["make", "load", "heat"]) KX G (fun _ _ _ _ _ _ us hl => match us, hl with | [_, _, _], _ => rfl) ?a3 ?l3 ?c3 ?k3)
      (RK.defF (x := "load_behind") (st := RK.sLoadBehind) (ps := ["make", "load", "heats"]) KX G (fun _ _ _ _ _ _ us hl => match us, hl with | [_, _, _], _ => rfl) ?a4 ?l4 ?c4 ?k4)
      (RK.defF (x := "firing_heats") (st := RK.sFiringHeats) (ps := ["make", "green"]) KX G (fun _ _ _ _ _ _ us hl => match us, hl with | [_, _], _ => rfl) ?a5 ?l5 ?c5 ?k5)
      (RK.defF (x := "orders_of") (st := RK.sOrdersOf) (ps := ["row"]) KX G (fun _ _ _ _ _ _ us hl => match us, hl with | [_], _ => rfl) ?a6 ?l6 ?c6 ?k6)
      (RK.defF (x := "orders_that_fire") (st := RK.sOrdersThatFire) (ps := ["make", "green"]) KX G (fun _ _ _ _ _ _ us hl => match us, hl with | [_, _], _ => rfl) ?a7 ?l7 ?c7 ?k7)
      (RK.defF (x := "_law_box") (st := RK.sLBox) (ps := ["_law_script", "_law_k"]) KX G (fun _ _ _ _ _ _ us hl => match us, hl with | [_, _], _ => rfl) ?a8 ?l8 ?c8 ?k8)
      (RK.defF (x := "_law_take") (st := RK.sLTake) (ps := ["_law_tin", "_law_below_so"]) KX G (fun _ _ _ _ _ _ us hl => match us, hl with | [_, _], _ => rfl) ?a9 ?l9 ?c9 ?k9)
      (RK.defF (x := "_law_cells") (st := RK.sLCells) (ps := ["_law_script", "_law_most_so"]) KX G (fun _ _ _ _ _ _ us hl => match us, hl with | [_, _], _ => rfl) ?a10 ?l10 ?c10 ?k10)
      (RK.defF (x := "_law_of") (st := RK.sLOf) (ps := ["_law_tin", "_law_goods_so"]) KX G (fun _ _ _ _ _ _ us hl => match us, hl with | [_, _], _ => rfl) ?a11 ?l11 ?c11 ?k11)
      (RK.defF (x := "_law_lists") (st := RK.sLLists) (ps := ["_law_matter"]) KX G (fun _ _ _ _ _ _ us hl => match us, hl with | [_], _ => rfl) ?a12 ?l12 ?c12 ?k12)
      (RK.defF (x := "_law_same") (st := RK.sLSame) (ps := ["_law_got", "_law_due"]) KX G (fun _ _ _ _ _ _ us hl => match us, hl with | [_, _], _ => rfl) ?a13 ?l13 ?c13 ?k13)
      (RK.defF (x := "_law_kinds") (st := RK.sLKinds) (ps := ["_law_tin"]) KX G (fun _ _ _ _ _ _ us hl => match us, hl with | [_], _ => rfl) ?a14 ?l14 ?c14 ?k14)
      (RK.defF (x := "_law_green") (st := RK.sLGreen) (ps := ["_law_tin", "_law_make_so", "_law_most_so"]) KX G (fun _ _ _ _ _ _ us hl => match us, hl with | [_, _, _], _ => rfl) ?a15 ?l15 ?c15 ?k15)
      (RK.defF (x := "_law_all_orders") (st := RK.sLAllOrders) (ps := ["_law_row_so"]) KX G (fun _ _ _ _ _ _ us hl => match us, hl with | [_], _ => rfl) ?a16 ?l16 ?c16 ?k16)
      (RK.defF (x := "_law_fires_at") (st := RK.sLFiresAt) (ps := ["_law_make_so", "_law_green_so", "_law_heat_so"]) KX G (fun _ _ _ _ _ _ us hl => match us, hl with | [_, _, _], _ => rfl) ?a17 ?l17 ?c17 ?k17)
      (RK.defF (x := "_law_ends_by") (st := RK.sLEndsBy) (ps := ["_law_make_so", "_law_green_so"]) KX G (fun _ _ _ _ _ _ us hl => match us, hl with | [_, _], _ => rfl) ?a18 ?l18 ?c18 ?k18)
      (RK.defF (x := "_law_green_right") (st := RK.sLGreenRight) (ps := ["_law_make_so", "_law_green_so"]) KX G (fun _ _ _ _ _ _ us hl => match us, hl with | [_, _], _ => rfl) ?a19 ?l19 ?c19 ?k19)
      (RK.defF (x := "_law_by_hand_right") (st := RK.sLByHandRight) (ps := []) KX G (fun _ _ _ _ _ _ us hl => match us, hl with | [], _ => rfl) ?a20 ?l20 ?c20 ?k20)
      (RK.defF (x := "_law_right") (st := RK.sLRight) (ps := ["_law_tin"]) KX G (fun _ _ _ _ _ _ us hl => match us, hl with | [_], _ => rfl) ?a21 ?l21 ?c21 ?k21)
      (RK.defF (x := "law") (st := RK.sLaw) (ps := ["_law_script"]) KX G (fun _ _ _ _ _ _ us hl => match us, hl with | [_], _ => rfl) ?a22 ?l22 ?c22 ?k22)
    (case a0 => k_is); (case l0 => k_is); (case c0 => k_is); (case k0 => k_is)
    (case a1 => k_is); (case l1 => k_is); (case c1 => k_is); (case k1 => k_is)
    (case a2 => k_is); (case l2 => k_is); (case c2 => k_is); (case k2 => k_is)
    (case a3 => k_is); (case l3 => k_is); (case c3 => k_is); (case k3 => k_is)
    (case a4 => k_is); (case l4 => k_is); (case c4 => k_is); (case k4 => k_is)
    (case a5 => k_is); (case l5 => k_is); (case c5 => k_is); (case k5 => k_is)
    (case a6 => k_is); (case l6 => k_is); (case c6 => k_is); (case k6 => k_is)
    (case a7 => k_is); (case l7 => k_is); (case c7 => k_is); (case k7 => k_is)
    (case a8 => k_is); (case l8 => k_is); (case c8 => k_is); (case k8 => k_is)
    (case a9 => k_is); (case l9 => k_is); (case c9 => k_is); (case k9 => k_is)
    (case a10 => k_is); (case l10 => k_is); (case c10 => k_is); (case k10 => k_is)
    (case a11 => k_is); (case l11 => k_is); (case c11 => k_is); (case k11 => k_is)
    (case a12 => k_is); (case l12 => k_is); (case c12 => k_is); (case k12 => k_is)
    (case a13 => k_is); (case l13 => k_is); (case c13 => k_is); (case k13 => k_is)
    (case a14 => k_is); (case l14 => k_is); (case c14 => k_is); (case k14 => k_is)
    (case a15 => k_is); (case l15 => k_is); (case c15 => k_is); (case k15 => k_is)
    (case a16 => k_is); (case l16 => k_is); (case c16 => k_is); (case k16 => k_is)
    (case a17 => k_is); (case l17 => k_is); (case c17 => k_is); (case k17 => k_is)
    (case a18 => k_is); (case l18 => k_is); (case c18 => k_is); (case k18 => k_is)
    (case a19 => k_is); (case l19 => k_is); (case c19 => k_is); (case k19 => k_is)
    (case a20 => k_is); (case l20 => k_is); (case c20 => k_is); (case k20 => k_is)
    (case a21 => k_is); (case l21 => k_is); (case c21 => k_is); (case k21 => k_is)
    (case a22 => k_is); (case l22 => k_is); (case c22 => k_is); (case k22 => k_is)
    (case z0 => k_is)
    (case z1 => k_is)
    (case z2 => k_is)
    (case z3 => k_is)
    (case z4 => k_is)
    (case z5 => k_is)
    (case z6 => k_is)
    (case z7 => k_is)
    (case z8 => k_is)
    (case z9 => k_is)
    (case z10 => k_is)
    (case z11 => k_is)
    (case z12 => k_is)
    (case z13 => k_is)
    (case z14 => k_is)
    (case z15 => k_is)
    (case z16 => k_is)
