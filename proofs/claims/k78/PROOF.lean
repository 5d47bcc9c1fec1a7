import PyProof.Rows.All
import Wide.All
import OpenK.AllK
import Wide.FinOn
import HandS.ForMost
import KE.LtData
import HandS.ForExc
import HandS.Walk
import HandS.TupAny
import HandS.Flow
import HandS.IsInst
import HandS.TupLe
import HandS.Conv
import HandS.Wide
import KE.DataEq
import HandS.ExcOwn
import HandS.WordsExc
import HandS.Ends
import PyProof.Rows.StrJoinMade
import PyProof.FitsReplace
import HandS.TupSets
import KE.KeyNested
import HandS.Zip
import KE.SortData
import HandS.Lambda
import HandS.Text
import HandS.Codes
import KE.KExcSuper
import HandS.ExcInit
import HandS.ExcField
import HandS.TryMany
import HandS.ClsMeth
import KE.KRevSl
import HandS.Property
import HandS.MakeKwOnly
import HandS.OwnEq
import HandS.Star
import PyProof.Rows.StrBoot
import PyProof.CallFns
import HandS.TupMul
import PyProof.StrOps2
import PyProof.Rows.StrPadFill
import HandS.Style
import HandS.Defaults
import HandS.ExcIs
import HandS.EndBits
import HandS.EndTab
import PySem.Challenge.RW_goneunseen_k78_rows_in_columns
import PyProof.Rows.StrSplitCount
set_option Elab.async false
set_option autoImplicit false
set_option linter.all false
set_option maxRecDepth 100000
set_option maxHeartbeats 1000000

namespace Ns
open PySem PySem.Spec PyProof.Rows L2
variable {P : Program} {w : World} {A : Around} {E : Value → Shared → Prop} {s : Shared}
/-- the tuple at b stands for the key k -/
def Is (h : Heap) (k : NestedKey) (b : Addr) : Prop := NestedIs h k (.ref b) ∧ k.depth ≤ 8
/-! ### what is asked of such a tuple -/
def Whole (P : Program) (w : World) (n : Nat) (s : Shared) (v : Value) : Prop := ∀ (A : Around) (E : Value → Shared → Prop) (Q : Bool → Shared → Prop), Q false s → wpAny (model P w) A (ofAClassStatement n v) Q E s
theorem Whole.flat {n : Nat} {v : Value} (h : ofAClassStatement n v = pure false) : Whole P w n s v := fun A E Q q => by rw [h]; exact wpAny_pure q
def Told (P : Program) (w : World) (n : Nat) (s : Shared) (v : Value) : Prop := ∀ (A : Around) (E : Value → Shared → Prop) (Q : Bool → Shared → Prop), (∀ b, Q b s) → wpAny (model P w) A (hashByValue n v) Q E s
theorem Told.flat {n : Nat} {v : Value} {b : Bool} (h : hashByValue n v = pure b) : Told P w n s v := fun A E Q q => by rw [h]; exact wpAny_pure (q b)
theorem Whole.seq {n m : Nat} {a : Addr} {o : Obj} {xs : Array Value} (ho : s.heap.get? a = some o) (hc : o.cls = .type "tuple") (hd : o.data = .seq xs m) (hq : ∀ v ∈ xs.toList, Whole P w n s v) : Whole P w (n + 1) s (.ref a) := fun A E Q q => by
  have T : s.TypeIs (.ref a) "tuple" := ⟨o, ho, hc⟩
  unfold ofAClassStatement
  refine wpAny_bind (wpAny_typeOf T ?_)
  dsimp only
  simp only [show (("tuple" : String) == "tuple") = true by decide, if_true, Bool.not_true, Bool.false_eq_true, if_false]
  try refine wpAny_bind (wpAny_pure ?_)
  try simp only [Bool.not_true, Bool.false_eq_true, if_false]
  show wpAny _ _ (seqItems? (.ref a) >>= _) _ _ s
  refine wpAny_bind (wpAny_seqItems ho hd ?_)
  dsimp only
  refine wpAny_bind ?_
  show wpAny _ _ (forIn xs _ _) _ _ s
  rw [← Array.forIn_toList]
  refine wpAny_forIn_list _ (fun left r z => r.1 = none ∧ z = s ∧ ∀ v ∈ left, Whole P w n s v) _ ?_ ?_ _ _ ⟨rfl, rfl, hq⟩
  · rintro v left r z ⟨hr, rfl, al⟩
    refine wpAny_bind (al v List.mem_cons_self _ _ _ ?_)
    simp only [Bool.false_eq_true, if_false]
    exact wpAny_pure ⟨rfl, rfl, fun u hu => al u (List.mem_cons_of_mem _ hu)⟩
  · rintro ⟨r1, r2⟩ z ⟨hr, rfl, _⟩
    cases (show r1 = none from hr)
    exact wpAny_pure q
theorem Told.seq {n m : Nat} {a : Addr} {o : Obj} {xs : Array Value} (ho : s.heap.get? a = some o) (hc : o.cls = .type "tuple") (hd : o.data = .seq xs m) (hq : ∀ v ∈ xs.toList, Told P w n s v) : Told P w (n + 1) s (.ref a) := fun A E Q q => by
  have T : s.TypeIs (.ref a) "tuple" := ⟨o, ho, hc⟩
  unfold hashByValue
  refine wpAny_bind (wpAny_specialOf T F.slot_tuple_hash.lookup ?_)
  show wpAny _ _ (seqItems? (.ref a) >>= _) _ _ s
  refine wpAny_bind (wpAny_seqItems ho hd ?_)
  refine wpAny_bind ?_
  show wpAny _ _ (forIn xs _ _) _ _ s
  rw [← Array.forIn_toList]
  refine wpAny_forIn_list _ (fun left r z => r.1 = none ∧ z = s ∧ ∀ v ∈ left, Told P w n s v) _ ?_ ?_ _ _ ⟨rfl, rfl, hq⟩
  · rintro v left r z ⟨_, rfl, al⟩
    refine wpAny_bind (al v List.mem_cons_self _ _ _ fun b => ?_)
    cases b
    · simp only [Bool.not_false, if_true]
      exact wpAny_pure (wpAny_pure (q false))
    · simp only [Bool.not_true, Bool.false_eq_true, if_false]
      exact wpAny_pure ⟨rfl, rfl, fun u hu => al u (List.mem_cons_of_mem _ hu)⟩
  · rintro ⟨r1, r2⟩ z ⟨hr, rfl, _⟩
    cases (show r1 = none from hr)
    exact wpAny_pure (q true)
mutual
theorem whole_key : ∀ (k : NestedKey) (v : Value) (n : Nat) (s : Shared), NestedIs s.heap k v → k.depth ≤ n → Whole P w n s v
  | .none, _, n, s, x, _ => by cases x; cases n <;> exact .flat rfl
  | .num i, _, n, s, x, _ => by cases x <;> cases n <;> exact .flat rfl
  | .text y, _, n, s, x, _ => by cases x; cases n <;> exact .flat rfl
  | .tup ks, _, n, s, x, hn => by
    cases x with
    | tup hg hc hd hk =>
      obtain ⟨n, rfl⟩ : ∃ m, n = m + 1 := ⟨n - 1, by simp only [NestedKey.depth] at hn; omega⟩
      exact .seq hg hc hd (whole_keys ks _ n s hk (by simp only [NestedKey.depth] at hn; omega))
theorem whole_keys : ∀ (ks : List NestedKey) (vs : List Value) (n : Nat) (s : Shared), NestedAll s.heap ks vs → NestedKey.depthAll ks ≤ n → ∀ v ∈ vs, Whole P w n s v
  | [], _, n, s, x, _, v, hv => by cases x; cases hv
  | k :: ks, _, n, s, x, hn, v, hv => by
    simp only [NestedKey.depthAll] at hn
    cases x with
    | cons a b => exact (List.mem_cons.mp hv).elim (fun e => e ▸ whole_key k _ n s a (by omega)) fun z => whole_keys ks _ n s b (by omega) v z
end
mutual
theorem told_key : ∀ (k : NestedKey) (v : Value) (n : Nat) (s : Shared), NestedIs s.heap k v → k.depth ≤ n → Told P w n s v
  | .none, _, n, s, x, _ => by cases x; cases n <;> exact .flat (b := true) rfl
  | .num i, _, n, s, x, _ => by cases x <;> cases n <;> exact .flat (b := true) rfl
  | .text y, _, n, s, x, _ => by cases x; cases n <;> exact .flat (b := false) rfl
  | .tup ks, _, n, s, x, hn => by
    cases x with
    | tup hg hc hd hk =>
      obtain ⟨n, rfl⟩ : ∃ m, n = m + 1 := ⟨n - 1, by simp only [NestedKey.depth] at hn; omega⟩
      exact .seq hg hc hd (told_keys ks _ n s hk (by simp only [NestedKey.depth] at hn; omega))
theorem told_keys : ∀ (ks : List NestedKey) (vs : List Value) (n : Nat) (s : Shared), NestedAll s.heap ks vs → NestedKey.depthAll ks ≤ n → ∀ v ∈ vs, Told P w n s v
  | [], _, n, s, x, _, v, hv => by cases x; cases hv
  | k :: ks, _, n, s, x, hn, v, hv => by
    simp only [NestedKey.depthAll] at hn
    cases x with
    | cons a b => exact (List.mem_cons.mp hv).elim (fun e => e ▸ told_key k _ n s a (by omega)) fun z => told_keys ks _ n s b (by omega) v z
end
/-- a search among such tuples shows nothing -/
theorem unseen {k : NestedKey} {b : Addr} {Q : Bool → Shared → Prop} (hk : Is s.heap k b) {ys : List Value} (hy : ∀ y ∈ ys, ∃ i c, y = Value.ref c ∧ Is s.heap i c) (q : Q false s) : wpAny (model P w) A (searchCouldBeSeen (.ref b) ys) Q E s := by
  unfold searchCouldBeSeen
  refine wpAny_bind ?_
  refine wpAny_forIn_list _ (fun left r z => r.1 = none ∧ z = s ∧ ∀ y ∈ left, ∃ i c, y = Value.ref c ∧ Is s.heap i c) _ ?_ ?_ _ _ ⟨rfl, rfl, hy⟩
  · rintro v left r z ⟨_, rfl, al⟩
    obtain ⟨i, c, rfl, hc⟩ := al v List.mem_cons_self
    have go : r.1 = r.1 ∧ ∀ y ∈ left, ∃ i c, y = Value.ref c ∧ Is z.heap i c := ⟨rfl, fun u hu => al u (List.mem_cons_of_mem _ hu)⟩
    dsimp only
    by_cases hv : (b == c || (carriedByValue (.ref b) && carriedByValue (.ref c))) = true
    · exact wp_if_pos hv (wpAny_pure ⟨rfl, rfl, go.2⟩)
    refine wp_if_neg hv (wpAny_bind (quiet_key _ _ 8 z hk.1 hk.2 _ _ _ ?_))
    simp only [Bool.not_true, Bool.false_eq_true, if_false]
    refine wpAny_bind (quiet_key _ _ 8 z hc.1 hc.2 _ _ _ ?_)
    simp only [Bool.not_true, Bool.false_eq_true, if_false]
    refine wpAny_bind (whole_key _ _ 8 z hk.1 hk.2 _ _ _ ?_)
    simp only [Bool.false_eq_true, if_false]
    refine wpAny_bind (whole_key _ _ 8 z hc.1 hc.2 _ _ _ ?_)
    simp only [Bool.false_eq_true, if_false]
    exact wpAny_pure ⟨rfl, rfl, go.2⟩
  · rintro ⟨r1, r2⟩ z ⟨hr, rfl, _⟩
    cases (show r1 = none from hr)
    exact wpAny_pure q
theorem Is.stay {h h' : Heap} {k : NestedKey} {b a : Addr} {o : Obj} {es : Array (Int × Value)} {ep : Nat} {t : SetTable} (x : Is h k b) (ho : h.get? a = some o) (hd : o.data = .set es ep t) (hs : Heap.SameBut a h h') : Is h' k b :=
  ⟨NestedIs.at (fun c u vs n e1 e2 => (hs.2 c fun z => by rw [z, ho] at e1; cases e1; rw [hd] at e2; cases e2).trans e1) k _ x.1, x.2⟩
theorem Is.keep {h h' : Heap} {k : NestedKey} {b : Addr} (x : Is h k b) (hk : ∀ c o, h.get? c = some o → h'.get? c = some o) : Is h' k b := ⟨NestedIs.at (fun c u _ _ e _ => hk c u e) k _ x.1, x.2⟩

/-! ### a set of at most four such tuples -/
/-- the set at a: keys and where they stand -/
structure NSet (w : World) (h : Heap) (a : Addr) (L : List (NestedKey × Addr)) (es : Array (Int × Value)) (ep : Nat) (t : SetTable) : Prop where
  obj : ∃ o, h.get? a = some o ∧ o.ExactSet ∧ o.data = .set es ep t
  ent : es.toList = L.map fun p => (p.1.hash w, Value.ref p.2)
  tab : TabOk t (L.map fun p => p.1.hash w)
  dif : (L.map (·.1)).Nodup
  keys : ∀ p ∈ L, Is h p.1 p.2
  led : w.params.followText "set-order" = true ∨ t.led = true
  m7 : t.mask = 7
  few : L.length ≤ 4
variable {a : Addr} {L : List (NestedKey × Addr)} {es : Array (Int × Value)} {ep : Nat} {t : SetTable}
theorem NSet.es_len (N : NSet w s.heap a L es ep t) : es.size = L.length := by
  simpa using congrArg List.length N.ent
theorem NSet.pl_len (N : NSet w s.heap a L es ep t) : t.place.size = L.length := by simpa using N.tab.sz
theorem NSet.fits (N : NSet w s.heap a L es ep t) : t.fits es.size = true := by
  have a1 := N.es_len
  have a2 := N.pl_len
  have a3 := N.few
  have a4 := N.m7
  simp only [SetTable.fits, SetTable.fill, N.tab.dm, Bool.and_eq_true, beq_iff_eq, decide_eq_true_eq]
  exact ⟨by omega, by show t.place.size + 0 ≤ t.mask; omega⟩
theorem NSet.at (N : NSet w s.heap a L es ep t) {i : Nat} {p : NestedKey × Addr} (h : L[i]? = some p) : es[i]? = some (p.1.hash w, Value.ref p.2) := by
  rw [← Array.getElem?_toList, N.ent, List.getElem?_map, h]; rfl
theorem same_mem (t : SetTable) : t.sameMemory t.moves t.mask = some true := by simp [SetTable.sameMemory]
theorem clean (m : Nat) : ∀ (n : Nat) (p : SetTable.Probe), p.dummy = none → (nth m p n).dummy = none
  | 0, _, h => h
  | n + 1, p, h => clean m n (adv m p) (by unfold adv; split <;> exact h)
abbrev way0 (m : Nat) (H : Int) : Nat → SetTable.Probe := nth m (runAt m (SetTable.bits H % (m + 1)) (SetTable.bits H))
/-- from its c-th step on the search ends as it should -/
theorem seek (N : NSet w s.heap a L es ep t) {x : Addr} {k : NestedKey} (hx : Is s.heap k x) (hu : A.units + 8 < cLine) {K : Nat} (hKf : K < 10 * SetTable.turns t.mask)
    (free : way t.mask (k.hash w) K ∉ t.place.toList) (full : ∀ c, c < K → way t.mask (k.hash w) c ∈ t.place.toList) {Q : SetFound → Shared → Prop}
    (yes : k ∈ L.map (·.1) → Q (.there none) s) (no : k ∉ L.map (·.1) → Q (.free (way t.mask (k.hash w) K) false) s) :
    ∀ (f c : Nat) (sp : Option SetTable.Probe), sp.getD (t.probeStart (k.hash w)) = way0 t.mask (k.hash w) c → c ≤ K → K - c < f →
      (∀ (i : Nat) p, L[i]? = some p → p.1 = k → ∃ d, c ≤ d ∧ d < K ∧ t.place.toList[i]? = some (way t.mask (k.hash w) d)) → wpAny (model P w) A (setSearchFrom a (.ref x) (k.hash w) true f sp) Q E s
  | 0, _, _, _, _, hf, _ => absurd hf (Nat.not_lt_zero _)
  | f + 1, c, sp, hsp, hc, hf, before => by
    obtain ⟨o, ho, hex, hd⟩ := N.obj
    have here : ∀ q, (nth t.mask (way0 t.mask (k.hash w) c) q) = way0 t.mask (k.hash w) (c + q) := fun q => (nth_add t.mask c _ q).symm
    have slotH : ∀ (i : Nat) p, L[i]? = some p → (es[i]?.map (·.1)).getD 0 = p.1.hash w := fun i p hp => by rw [N.at hp]; rfl
    have G := go_spec t N.tab.ris N.tab.dm (fun i => (es[i]?.map (·.1)).getD 0) (k.hash w) (10 * SetTable.turns t.mask) (K - c) _ (clean t.mask c _ rfl) (by omega)
      (fun q hq => by rw [here]; exact full (c + q) (by omega)) (by rw [here, show c + (K - c) = K by omega]; exact free)
    rw [setSearchFrom_succ]
    refine wpAny_bind (wpAny_setState_of ho hd N.fits ?_)
    dsimp only
    refine wp_if_neg (by simp [SetTable.gaveWay, mask_odd N.tab.mok]) ?_
    try refine wpAny_bind (wpAny_pure ?_)
    rcases G with ⟨q, i, hq, hi, hh, early, pr⟩ | ⟨early, pr⟩
    · have pr2 : t.probe (fun i => (es[i]?.map (·.1)).getD 0) (k.hash w) (sp.getD (t.probeStart (k.hash w))) = some (.candidate (way t.mask (k.hash w) (c + q)) i (way0 t.mask (k.hash w) (c + (q + 1)))) := by
        rw [hsp]
        have := pr
        rw [here, here] at this
        exact this
      rw [pr2]
      dsimp only
      rw [here] at hi
      obtain ⟨p, hp⟩ : ∃ p, L[i]? = some p := by
        have j1 := (List.getElem?_eq_some_iff.mp hi).1
        have j2 := N.pl_len
        rw [Array.length_toList] at j1
        exact ⟨L[i]'(by omega), List.getElem?_eq_getElem _⟩
      have hm : p ∈ L := List.mem_of_getElem? hp
      have rest : wpAny (model P w) A (searchRest a (.ref x) (k.hash w) true f es t (way t.mask (k.hash w) (c + q)) i (way0 t.mask (k.hash w) (c + (q + 1)))) Q E s := by
        unfold searchRest
        rw [N.at hp]
        dsimp only
        refine wpAny_bind (wpAny_holding ((nestedKind P w).eqBool hu (N.keys p hm) hx ?_))
        refine wpAny_bind (wpAny_setState_of ho hd N.fits ?_)
        dsimp only
        by_cases e : p.1 = k
        · exact wp_if_pos (by simp [e]) (wpAny_pure (yes (List.mem_map.mpr ⟨p, hm, e⟩)))
        refine wp_if_neg (by simp [e]) ?_
        try refine wpAny_bind (wpAny_pure ?_)
        rw [same_mem]
        have live := slot_live N.tab.ris hi
        simp only [if_true, live, N.at hp]
        refine wpAny_bind (wpAny_isSame_ref_self (wpAny_bind (wpAny_pure ?_)))
        simp only [if_true]
        refine wp_if_neg (by simp [e]) (seek N hx hu hKf free full yes no f (c + (q + 1)) _ rfl (by omega) (by omega) fun i0 p0 h0 k0 => ?_)
        obtain ⟨d, d1, d2, d3⟩ := before i0 p0 h0 k0
        refine ⟨d, ?_, d2, d3⟩
        rcases Nat.lt_trichotomy d (c + q) with z | z | z
        · exact absurd ((slotH i0 p0 h0).trans (congrArg (NestedKey.hash w) k0)) (early (d - c) i0 (by omega) (by rw [here, show c + (d - c) = d by omega]; exact d3))
        · rw [z] at d3
          have l2 := slot_live N.tab.ris d3
          rw [live] at l2
          injection l2 with l2
          rw [← l2, hp] at h0
          cases h0
          exact absurd k0 e
        · omega
      by_cases hl : t.led = true
      · refine wp_if_neg (by simp [hl]) ?_
        try refine wpAny_bind (wpAny_pure ?_)
        exact rest
      · refine wp_if_pos (by simp [hl]) (wpAny_bind (unseen hx (fun y hy => ?_) ?_))
        · obtain ⟨e, he, rfl⟩ := List.mem_map.mp hy
          have e2 : e ∈ es.toList := by
            have : e ∈ es ∧ e.1 = k.hash w := by simpa using he
            simpa using this.1
          rw [N.ent] at e2
          obtain ⟨p2, hp2, rfl⟩ := List.mem_map.mp e2
          exact ⟨p2.1, p2.2, rfl, N.keys p2 hp2⟩
        · refine wp_if_neg (by decide) ?_
          try refine wpAny_bind (wpAny_pure ?_)
          exact rest
    · have pr2 : t.probe (fun i => (es[i]?.map (·.1)).getD 0) (k.hash w) (sp.getD (t.probeStart (k.hash w))) = some (.empty (way t.mask (k.hash w) K) none) := by
        rw [hsp]
        have := pr
        rw [here, show c + (K - c) = K by omega] at this
        exact this
      rw [pr2]
      dsimp only
      refine wpAny_pure (no fun m => ?_)
      obtain ⟨p0, h0, k0⟩ := List.mem_map.mp m
      obtain ⟨i0, j0, e0⟩ := List.getElem_of_mem h0
      have h00 : L[i0]? = some p0 := by rw [List.getElem?_eq_getElem j0, e0]
      obtain ⟨d, d1, d2, d3⟩ := before i0 p0 h00 k0
      exact early (d - c) i0 (by omega) (by rw [here, show c + (d - c) = d by omega]; exact d3) ((slotH i0 p0 h00).trans (congrArg (NestedKey.hash w) k0))
end Ns

namespace Ns
open PySem PySem.Spec PyProof.Rows L2
variable {P : Program} {w : World} {A : Around} {E : Value → Shared → Prop} {s : Shared}
variable {a : Addr} {L : List (NestedKey × Addr)} {es : Array (Int × Value)} {ep : Nat} {t : SetTable}
theorem seek0 (N : NSet w s.heap a L es ep t) {x : Addr} {k : NestedKey} (hx : Is s.heap k x) (hu : A.units + 8 < cLine) {Q : SetFound → Shared → Prop} (yes : k ∈ L.map (·.1) → Q (.there none) s)
    (no : ∀ K, k ∉ L.map (·.1) → way t.mask (k.hash w) K ∉ t.place.toList → (∀ c, c < K → way t.mask (k.hash w) c ∈ t.place.toList) → Q (.free (way t.mask (k.hash w) K) false) s) :
    wpAny (model P w) A (setSearch a (.ref x) (k.hash w) true) Q E s := by
  have f1 := N.few
  have f2 := N.m7
  obtain ⟨K, b1, b2, b3⟩ := N.tab.first (by rw [List.length_map]; omega) (k.hash w)
  have b4 : K < 100000 := by
    have : 10 * SetTable.turns t.mask ≤ 1420 := by rw [f2]; decide
    omega
  unfold setSearch
  refine seek N hx hu b1 b2 b3 yes (fun n => no K n b2 b3) 100000 0 none rfl (Nat.zero_le _) (by omega) fun i p hp hk => ?_
  have e1 : (L.map fun p => p.1.hash w)[i]? = some (k.hash w) := by rw [List.getElem?_map, hp, ← hk]; rfl
  have e2 : i < t.place.toList.length := by
    have := (List.getElem?_eq_some_iff.mp hp).1
    rw [Array.length_toList, N.pl_len]; exact this
  obtain ⟨c, hc, e⟩ := N.tab.before b2 e1 (List.getElem?_eq_getElem e2)
  exact ⟨c, Nat.zero_le _, hc, by rw [List.getElem?_eq_getElem e2, e]⟩
theorem tab_plain {t : SetTable} {hs : List Int} (b : Bool) (T : TabOk t hs) : TabOk (if b = true then t else { t with plain := false }) hs := by
  cases b
  · exact ⟨T.ris, T.dm, T.sz, T.mok, T.bd, T.reach⟩
  · exact T
/-- one more is put in -/
theorem put_in (N : NSet w s.heap a L es ep t) {x : Addr} {k : NestedKey} (hx : Is s.heap k x) (hu : A.units + 8 < cLine) (room : L.length < 4) {Q : Bool → Shared → Prop}
    (hQ : ∀ b h' L' es' ep' t', Heap.SameBut a s.heap h' → NSet w h' a L' es' ep' t' → (k ∈ L.map (·.1) → L' = L) → (k ∉ L.map (·.1) → L'.Perm ((k, x) :: L)) → Q b { s with heap := h' }) :
    wpAny (model P w) A (setAddHashed a (.ref x) (k.hash w)) Q E s := by
  obtain ⟨o, ho, hex, hd⟩ := N.obj
  unfold setAddHashed
  refine wpAny_holding ?_
  rw [show (100000 : Nat) = 99999 + 1 from rfl, setAddHashedIn_succ]
  refine wpAny_bind (wpAny_setState_of ho hd N.fits ?_)
  dsimp only
  refine wp_if_neg (by simp [byScan, Value.scannable]) ?_
  try refine wpAny_bind (wpAny_pure ?_)
  refine wpAny_bind (seek0 N hx hu (fun hm => ?_) fun K hm hK hb => ?_)
  · dsimp only
    exact wpAny_pure (hQ false s.heap L es ep t (Heap.SameBut.refl a s.heap) N (fun _ => rfl) fun z => absurd hm z)
  dsimp only
  refine wpAny_bind (wpAny_setState_of ho hd N.fits ?_)
  dsimp only
  obtain ⟨q1, q2, q3, q4, q5, q6, q7, q8, q9⟩ := N.tab.put hK hb
  generalize hpt : t.put (way t.mask (k.hash w) K) = pt at q1 q3 q4 q5 q6 q7 q8 q9 ⊢
  obtain ⟨t1, p⟩ := pt
  dsimp only at q1 q3 q4 q5 q6 q7 q8 q9 ⊢
  subst q1
  generalize hpp : SetTable.below t.place (way t.mask (k.hash w) K) = p at q2 q3 ⊢
  have pm := put_perm L p (k, x)
  have rows : (SetTable.insertAt es p (k.hash w, Value.ref x)).toList = (L.take p ++ (k, x) :: L.drop p).map fun p => (p.1.hash w, Value.ref p.2) := by
    rw [SetTable.toList_insertAt, N.ent, List.map_append, List.map_cons, List.map_take, List.map_drop]
  have hhs : (L.take p ++ (k, x) :: L.drop p).map (fun p => p.1.hash w) = (L.map fun p => p.1.hash w).take p ++ k.hash w :: (L.map fun p => p.1.hash w).drop p := by
    rw [List.map_append, List.map_cons, List.map_take, List.map_drop]
  rw [← hhs] at q3
  have hlen : (L.take p ++ (k, x) :: L.drop p).length = L.length + 1 := pm.length_eq
  have nd : ((L.take p ++ (k, x) :: L.drop p).map (·.1)).Nodup := (pm.map (·.1)).nodup_iff.mpr (by rw [List.map_cons]; exact List.nodup_cons.mpr ⟨hm, N.dif⟩)
  have hsz : (SetTable.insertAt es p (k.hash w, Value.ref x)).size = L.length + 1 := by
    have := congrArg List.length rows
    rw [List.length_map, hlen, Array.length_toList] at this
    exact this
  generalize SetTable.insertAt es p (k.hash w, Value.ref x) = es1 at rows hsz ⊢
  generalize L.take p ++ (k, x) :: L.drop p = L1 at pm hlen q3 nd rows
  have m7 := N.m7
  have tail : ∀ b : Bool, wpAny (model P w) A (do
      storeSet a es1 (if b = true then t1 else { t1 with plain := false })
      if (!false && (if b = true then t1 else { t1 with plain := false }).tooFull) = true then setRelay a (SetTable.grown (es.size + 1))
      return true : Sem Bool) Q E s := fun b => by
    have T := tab_plain b q3
    have t7 : (if b = true then t1 else { t1 with plain := false }).mask = 7 := by cases b <;> exact q4.trans m7
    have tl : (if b = true then t1 else { t1 with plain := false }).led = t.led := by cases b <;> exact q5
    have tf : (if b = true then t1 else { t1 with plain := false }).tooFull = t1.tooFull := by cases b <;> rfl
    have nf : t1.tooFull = false := by
      unfold SetTable.tooFull
      rw [q9, List.length_map, q4, m7]
      simp only [decide_eq_false_iff_not]
      omega
    rw [tf, nf]
    generalize (if b = true then t1 else { t1 with plain := false }) = t2 at T t7 tl ⊢
    refine wpAny_bind (wpAny_storeSet_of ho hd ?_ (by rw [hsz, sizeLine_eq]; omega))
    have sb : Heap.SameBut a s.heap (s.heap.update a (Obj.putSet es1 t2)) := Heap.SameBut.update ..
    have ho1 := store_at (es' := es1) (t' := t2) ho hd
    generalize s.heap.update a (Obj.putSet es1 t2) = h1 at sb ho1 ⊢
    simp only [Bool.not_false, Bool.true_and, Bool.false_eq_true, if_false]
    have ks : ∀ p ∈ L1, Is h1 p.1 p.2 := fun p hp => by
      rcases List.mem_cons.mp (pm.mem_iff.mp hp) with e | hp
      · rw [e]; exact hx.stay ho hd sb
      · exact (N.keys p hp).stay ho hd sb
    have fin : Q true { s with heap := h1 } := hQ true h1 L1 es1 (ep + 1) t2 sb ⟨⟨_, ho1, ⟨hex.1, hex.2.1, hex.2.2⟩, rfl⟩, rows, T, nd, ks, by rw [tl]; exact N.led, t7, by omega⟩ (fun z => absurd z hm) fun _ => pm
    first
      | exact wpAny_pure fin
      | exact wpAny_bind (wpAny_pure (wpAny_pure fin))
  by_cases hp1 : t1.plain = true
  · first
      | (refine wp_if_pos hp1 (wpAny_bind (told_key _ _ 8 s hx.1 hx.2 _ _ _ fun b => ?_)); exact tail b)
      | (refine wpAny_bind ?_; refine wp_if_pos hp1 (told_key _ _ 8 s hx.1 hx.2 _ _ _ fun b => ?_); exact tail b)
  · first
      | (refine wp_if_neg hp1 (wpAny_bind (wpAny_pure ?_)); exact tail true)
      | (refine wpAny_bind ?_; refine wp_if_neg hp1 (wpAny_pure ?_); exact tail true)

/-- what the set holds when i of the items were put in -/
structure Upto (ks : List (NestedKey × Addr)) (i : Nat) (L : List (NestedKey × Addr)) : Prop where
  sub : ∀ p ∈ L, p ∈ ks.take i
  all : ∀ p ∈ ks.take i, p.1 ∈ L.map (·.1)
  len : L.length ≤ i
theorem Upto.zero (ks : List (NestedKey × Addr)) : Upto ks 0 [] := ⟨fun p h => (by cases h), fun p h => (by simp at h), Nat.le_refl _⟩
theorem Upto.next {ks L L' : List (NestedKey × Addr)} {i : Nat} {p : NestedKey × Addr} (u : Upto ks i L) (h : ks[i]? = some p) (c1 : p.1 ∈ L.map (·.1) → L' = L) (c2 : p.1 ∉ L.map (·.1) → L'.Perm (p :: L)) : Upto ks (i + 1) L' := by
  have tk : ks.take (i + 1) = ks.take i ++ [p] := by rw [List.take_succ, h]; rfl
  rcases Classical.em (p.1 ∈ L.map (·.1)) with c | c
  · rw [c1 c]
    refine ⟨fun q hq => by rw [tk]; exact List.mem_append_left _ (u.sub q hq), fun q hq => ?_, Nat.le_succ_of_le u.len⟩
    rw [tk] at hq
    exact (List.mem_append.mp hq).elim (u.all q) fun z => by rw [List.mem_singleton.mp z]; exact c
  · have pm := c2 c
    refine ⟨fun q hq => ?_, fun q hq => ?_, by rw [pm.length_eq]; exact Nat.succ_le_succ u.len⟩
    · rw [tk]
      exact (List.mem_cons.mp (pm.mem_iff.mp hq)).elim (fun e => by rw [e]; simp) fun z => List.mem_append_left _ (u.sub q z)
    · rw [(pm.map (·.1)).mem_iff, List.map_cons]
      rw [tk] at hq
      exact (List.mem_append.mp hq).elim (fun z => List.mem_cons_of_mem _ (u.all q z)) fun z => by rw [List.mem_singleton.mp z]; exact List.mem_cons_self
theorem NSet.moved {h h' : Heap} (N : NSet w h a L es ep t) (ha : ∀ o, h.get? a = some o → h'.get? a = some o) (hk : ∀ p ∈ L, Is h' p.1 p.2) : NSet w h' a L es ep t := by
  obtain ⟨o, ho, r⟩ := N.obj
  exact { N with obj := ⟨o, ha o ho, r⟩, keys := hk }
abbrev set0 (w : World) : Obj := { cls := .type "set", dict := none, data := .set #[] 0 (.fresh 0 0 (!w.params.followText "set-order")) }
theorem NSet.new {h : Heap} (ho : h.get? a = some (set0 w)) : NSet w h a [] #[] 0 (.fresh 0 0 (!w.params.followText "set-order")) where
  obj := ⟨_, ho, ⟨rfl, rfl, rfl⟩, rfl⟩
  ent := rfl
  tab := ⟨List.Pairwise.nil, rfl, rfl, .inl rfl, fun x hx => (by cases hx), fun i h j hi => (by simp at hi)⟩
  dif := List.nodup_nil
  keys := fun p hp => by cases hp
  led := by
    cases e : w.params.followText "set-order"
    · exact .inr (by simp [SetTable.fresh])
    · exact .inl rfl
  m7 := rfl
  few := Nat.zero_le _
/-- the loop of set.update -/
theorem fill {I : Addr} {fp wr : List Addr} {G : Array GenState → Array GenState → Prop} {n : Nat} {Pv : Nat → Value → Prop} {St : Nat → Shared → Prop} {R : Result → Shared → Prop} (W : WalksS P w A.in1 I fp wr G n Pv St) (S : Addr) (hSf : S ∉ fp)
    (ks : List (NestedKey × Addr)) (hn : n = ks.length) (hfew : ks.length ≤ 4) (hval : ∀ i v, Pv i v → ∃ p, ks[i]? = some p ∧ v = .ref p.2) (h0 : Heap) (hk : ∀ p ∈ ks, Is h0 p.1 p.2) (hS0 : h0.get? S = none) (hw0 : ∀ b ∈ wr, h0.get? b = none) (hu : A.in1.units + 8 < cLine) :
    ∀ (k i : Nat) (s : Shared), n - i = k → i ≤ n → St i s → (∀ b o, h0.get? b = some o → s.heap.get? b = some o) → (∃ L es ep t, NSet w s.heap S L es ep t ∧ Upto ks i L) →
      (∀ z L es ep t, Moved (S :: wr) G s z → NSet w z.heap S L es ep t → Upto ks n L → (∀ b o, h0.get? b = some o → z.heap.get? b = some o) → R (.ok (.ret .none)) z) →
      codeAny (model P w) A (.builtin "set.update.loop" ⟨[.ref S, .ref I], []⟩) R s := by
  have hSw : S ∉ wr := fun h => hSf (W.sub _ h)
  have hsub : ∀ b ∈ wr, b ∈ S :: wr := fun b hb => List.mem_cons_of_mem _ hb
  have old : ∀ {z z' : Shared}, Moved wr G z z' → (∀ b o, h0.get? b = some o → z.heap.get? b = some o) → ∀ b o, h0.get? b = some o → z'.heap.get? b = some o := fun hm hp b o e => hm.heap b o (fun hb => by rw [hw0 b hb] at e; cases e) (hp b o e)
  intro k
  induction k with
  | zero =>
    intro i s hk' hi hst hp ⟨L, es, ep, t, N, g⟩ hR
    obtain rfl : i = n := by omega
    refine codeAny_builtin F.entry_set_update_loop ?_
    rw [Around.under_plainId F.plain_set_update_loop _]
    show wpAny _ A.in1 (pyNext (.ref I) >>= _) _ _ s
    refine wpAny_bind (W.done s _ _ hst fun z hm => ?_)
    have hp' := old hm hp
    exact wpAny_pure (hR z L es ep t (hm.mono hsub) (N.moved (fun o e => hm.heap S o hSw e) fun p hpL => (hk p (List.mem_of_mem_take (g.sub p hpL))).keep hp') g hp')
  | succ k ih =>
    intro i s hk' hi hst hp ⟨L, es, ep, t, N, g⟩ hR
    have hlt : i < n := by omega
    refine codeAny_builtin F.entry_set_update_loop ?_
    rw [Around.under_plainId F.plain_set_update_loop _]
    show wpAny _ A.in1 (pyNext (.ref I) >>= _) _ _ s
    refine wpAny_bind (W.item i s _ _ hlt hst fun v z hP hst' hm => ?_)
    obtain ⟨p, hpi, rfl⟩ := hval i v hP
    have hp' := old hm hp
    have N' : NSet w z.heap S L es ep t := N.moved (fun o e => hm.heap S o hSw e) fun q hq => (hk q (List.mem_of_mem_take (g.sub q hq))).keep hp'
    have hx : Is z.heap p.1 p.2 := (hk p (List.mem_of_getElem? hpi)).keep hp'
    show wpAny _ A.in1 (holding [Value.ref p.2] (setAdd S (.ref p.2)) >>= _) _ _ z
    refine wpAny_bind (wpAny_holding ?_)
    unfold setAdd
    refine wpAny_holding (wpAny_bind (pyHash_key _ _ _ _ _ hx.1 (by have := hx.2; omega) ?_))
    refine put_in (s := { z with toks := z.toks + p.1.draws }) N' hx hu (by have := g.len; omega) fun b h' L' es' ep' t' sb N2 c1 c2 => ?_
    have hp2 : ∀ b o, h0.get? b = some o → h'.get? b = some o := fun b o e => (sb.2 b fun z => by rw [z, hS0] at e; cases e).trans (hp' b o e)
    refine wpAny_pure ⟨plainId_quiet F.plain_set_update_loop _, ih (i + 1) _ (by omega) hlt (W.frame _ z _ _ hst' (Nat.le_add_right _ _) fun b hb o e => ?_) hp2 ⟨L', es', ep', t', N2, g.next hpi c1 c2⟩ fun z2 L2 es2 ep2 t2 hm2 N3 g2 hp3 => ?_⟩
    · rw [sb.2 b fun h : b = S => hSf (h ▸ hb)]; exact e
    · refine hR z2 L2 es2 ep2 t2 (Moved.trans W.gtrans ((hm.mono hsub).then_heap (Nat.le_add_right _ _) fun b o hb e => ?_) hm2) N3 g2 hp3
      rw [sb.2 b fun h : b = S => hb (h ▸ List.mem_cons_self)]; exact e
set_option maxHeartbeats 3200000 in
/-- set(xs), xs a tuple -/
theorem set_tup {l : Addr} {items : Array Value} (ks : List (NestedKey × Addr)) {Q : Value → Shared → Prop} (hh : A.handled = none) (hl : s.heap.IsTuple l items) (hit : items.toList = ks.map fun p => Value.ref p.2) (hk : ∀ p ∈ ks, Is s.heap p.1 p.2) (hfew : ks.length ≤ 4) (hu : A.units + 11 < cLine)
    (h : ∀ (h' : Heap) (tk : Nat) L es ep t, NSet w h' s.heap.objs.size L es ep t → Upto ks ks.length L → (∀ b o, s.heap.get? b = some o → h'.get? b = some o) → Q (.ref s.heap.objs.size) { s with heap := h', toks := tk }) :
    wpAny (model P w) A (call (.type "set") [.ref l]) Q E s := by
  have hisz : items.size = ks.length := by simpa using congrArg List.length hit
  obtain ⟨c, tl, hmro⟩ := F.called_set.mro
  have hmade := F.called_set.made
  have hsub := F.called_set.sub
  refine wpAny_call (codeAny_of_tree ?_)
  show wpAny _ _ (callAny (.type "set") _) _ _ _
  refine wpAny_pure ⟨Code.quiet_builtin _ (by decide +kernel), codeAny_builtin F.entry_type_call ?_⟩
  rw [Around.under_plain (weight_type_call_type "set" [.ref l] []) rfl]
  have h1 := F.called_set.notType
  have h2 := F.called_set.canCreate
  have hct := F.typeCall_set_1 (.ref l)
  repeat (any_goals (first | assumption | wp_step))
  refine codeAny_mono (code_set_led1 (.ref l) (E := E) (Q₁ := fun u z => u = .ref s.heap.objs.size ∧ z = { s with heap := s.heap.push (set0 w) }) ⟨rfl, rfl⟩) fun r z hr => ?_
  cases r with
  | error e => exact hr
  | ok fl =>
    cases fl with
    | ret u =>
      obtain ⟨rfl, rfl⟩ := hr
      have hS : (s.heap.push (set0 w)).get? s.heap.objs.size = some (set0 w) := Heap.get?_push_size _ rfl
      have hT : Shared.TypeIs { s with heap := s.heap.push (set0 w) } (.ref s.heap.objs.size) "set" := ⟨_, hS, rfl⟩
      have hli := F.called_set.init.lookup
      have hbi := F.called_set.init.bind (.ref s.heap.objs.size)
      repeat (any_goals (first | assumption | wp_step))
      refine codeAny_mono (codeAny_call_builtin (R := wants (fun r z => r = .none ∧ ∃ h' tk L es ep t, z = { s with heap := h', toks := tk } ∧ NSet w h' s.heap.objs.size L es ep t ∧ Upto ks ks.length L ∧ (∀ b o, s.heap.get? b = some o → h'.get? b = some o)) E)
        F.called_set.init.plain F.entry_set_init (check_set_init_1 hT ?_)) fun r2 z2 hr2 => ?_
      · obtain ⟨⟨ocls, odict, odata, oslots⟩, hol, hcl, nl, hdl⟩ := hl
        simp only at hcl hdl
        subst hcl; subst hdl
        have hol' : (s.heap.push (set0 w)).get? l = some { cls := .type "tuple", dict := odict, data := .seq items nl, slots := oslots } := Heap.get?_push_of_some _ hol
        have hsls := F.sub_tuple_set
        have hslf := F.sub_tuple_frozenset
        have hne : (Value.type "tuple" == Value.type "dict") = false := by decide
        have hl1 : (s.heap.push (set0 w)).IsTuple l items := ⟨_, hol', rfl, nl, rfl⟩
        unfold Builtin.«set.__init__» noKeywords Builtin.Frozenset.updateFrom
        generalize hPI : pyIter = PI
        wp_walk
        subst hPI
        refine wpAny_pyIter_tuple hl1 (wpAny_bind (wpAny_runValue ?_))
        have hlS : l < s.heap.objs.size := Heap.lt_size hol
        have hh3 : A.in1.in1.in1.handled = none := by simp [hh]
        have sz1 : (s.heap.push (set0 w)).objs.size = s.heap.objs.size + 1 := Heap.size_push ..
        have none_of : ∀ b, s.heap.objs.size ≤ b → s.heap.get? b = none := fun b hb => by
          cases q : s.heap.get? b with
          | none => rfl
          | some o => exact absurd (Nat.lt_of_lt_of_le (Heap.lt_size q) hb) (Nat.lt_irrefl _)
        refine fill ((Walks.tuple hh3 _ l (by rw [sz1]; exact Nat.ne_of_lt (Nat.lt_succ_of_lt hlS)) items).toS) s.heap.objs.size (by rw [sz1]; simp only [List.mem_cons, List.not_mem_nil, or_false, not_or]; exact ⟨Nat.ne_of_lt (Nat.lt_succ_self _), Nat.ne_of_gt hlS⟩) ks hisz hfew (fun i v hv => ?_) s.heap hk (none_of _ (Nat.le_refl _)) (fun b hb => none_of b (by rw [List.mem_singleton.mp hb, sz1]; omega)) hu (items.size - 0) 0 _ (by omega) (Nat.zero_le _)
          ⟨⟨_, Heap.get?_push_size _ rfl, rfl, rfl⟩, (hl1.push _)⟩ (fun b o e => Heap.get?_push_of_some _ (Heap.get?_push_of_some _ e)) ⟨[], #[], 0, _, NSet.new (Heap.get?_push_of_some _ hS), Upto.zero ks⟩ ?_
        · have q : items.toList[i]? = some v := by rw [Array.getElem?_toList]; exact hv
          rw [hit, List.getElem?_map] at q
          cases e : ks[i]? with
          | none => rw [e] at q; cases q
          | some p => rw [e] at q; exact ⟨p, rfl, (Option.some.inj q).symm⟩
        · rintro ⟨h', g2, d', tk', os'⟩ L es ep t hm N g hp
          obtain rfl : g2 = s.gens := hm.gens
          obtain rfl : d' = s.drawn := hm.drawn
          obtain rfl : os' = s.os := hm.os
          rw [hisz] at g
          show wpAny _ _ _ _ _ _
          refine wpAny_pure ?_
          show wpAny _ _ (ret Value.none) _ _ _
          exact wpAny_pure ⟨rfl, h', tk', L, es, ep, t, rfl, N, g, hp⟩
      · cases r2 with
        | error e => exact hr2
        | ok fl2 =>
          cases fl2 with
          | ret r =>
            obtain ⟨rfl, h', tk, L, es, ep, t, rfl, N, g, hp⟩ := hr2
            repeat (any_goals (first | assumption | wp_step))
            exact h _ _ _ _ _ _ N g hp
          | _ => exact hr2.elim
    | _ => exact hr.elim
/-- how many different keys there are -/
theorem sub_len {α : Type} [DecidableEq α] : ∀ (l m : List α), l.Nodup → (∀ x ∈ l, x ∈ m) → l.length ≤ m.length
  | [], _, _, _ => Nat.zero_le _
  | x :: l, m, nd, h => by
    have hx := h x List.mem_cons_self
    have q := sub_len l (m.erase x) (List.nodup_cons.mp nd).2 fun y hy => (List.mem_erase_of_ne fun e => (List.nodup_cons.mp nd).1 (by rw [← e]; exact hy)).mpr (h y (List.mem_cons_of_mem _ hy))
    rw [List.length_erase_of_mem hx] at q
    have := List.length_pos_of_mem hx
    simp only [List.length_cons]
    omega
/-- the different ones -/
def uniq {α : Type} [DecidableEq α] : List α → List α
  | [] => []
  | x :: l => if x ∈ l then uniq l else x :: uniq l
theorem mem_uniq {α : Type} [DecidableEq α] {x : α} : ∀ {l : List α}, x ∈ uniq l ↔ x ∈ l
  | [] => Iff.rfl
  | y :: l => by
    unfold uniq
    split
    · rename_i h
      rw [mem_uniq, List.mem_cons]
      exact ⟨.inr, fun z => z.elim (fun e => e ▸ h) id⟩
    · rw [List.mem_cons, List.mem_cons, mem_uniq]
theorem uniq_nodup {α : Type} [DecidableEq α] : ∀ (l : List α), (uniq l).Nodup
  | [] => List.nodup_nil
  | y :: l => by
    unfold uniq
    split
    · exact uniq_nodup l
    · rename_i h
      exact List.nodup_cons.mpr ⟨fun z => h (mem_uniq.mp z), uniq_nodup l⟩
theorem count_keys {ks L : List (NestedKey × Addr)} (g : Upto ks ks.length L) (nd : (L.map (·.1)).Nodup) : L.length = (uniq (ks.map (·.1))).length := by
  have e : ks.take ks.length = ks := List.take_length
  have a1 : ∀ x ∈ L.map (·.1), x ∈ uniq (ks.map (·.1)) := fun x hx => by
    obtain ⟨p, hp, rfl⟩ := List.mem_map.mp hx
    exact mem_uniq.mpr (List.mem_map.mpr ⟨p, e ▸ g.sub p hp, rfl⟩)
  have a2 : ∀ x ∈ uniq (ks.map (·.1)), x ∈ L.map (·.1) := fun x hx => by
    obtain ⟨p, hp, rfl⟩ := List.mem_map.mp (mem_uniq.mp hx)
    exact g.all p (e.symm ▸ hp)
  have b1 := sub_len _ _ nd a1
  have b2 := sub_len _ _ (uniq_nodup _) a2
  rw [List.length_map] at b1 b2
  exact Nat.le_antisymm b1 b2
end Ns

/-! Mp.Z: zip of a list and a tuple, by two sources of any kind. -/
namespace Mp.Z
open PySem PySem.Spec PyProof.Rows L2
open PySem.Sem (wp)
open Builtin.SmallTypes (nextOf)
/-- an iterator and what it walks -/
structure Src (it l : Addr) (I : Nat → Heap → Prop) (g : Nat → Option Value) : Prop where
  item : ∀ {pr : Program} {w : World} {A : Around} {E : Value → Shared → Prop} {s : Shared} {k : Nat} {x : Value} {Q : Value → Shared → Prop}, I k s.heap → g k = some x → (∀ h', I (k + 1) h' → Heap.SameBut it s.heap h' → Q x { s with heap := h' }) → wpAny (model pr w) A (nextOf (.ref it)) Q E s
  stop : ∀ {pr : Program} {w : World} {A : Around} {E : Value → Shared → Prop} {s : Shared} {k : Nat} {Q : Value → Shared → Prop}, A.handled = none → I k s.heap → g k = none →
    (∀ h' e, Heap.ExtBut it s.heap h' → (∃ o, h'.get? e = some o ∧ o.cls = .type "StopIteration") → E (.ref e) { s with heap := h' }) → wpAny (model pr w) A (nextOf (.ref it)) Q E s
  keep : ∀ {h h' : Heap} {k : Nat}, I k h → (∀ c, c = it ∨ c = l → ∀ o, h.get? c = some o → h'.get? c = some o) → I k h'
theorem srcL {it l : Addr} {xs : Array Value} (n : l ≠ it) : Src it l (fun k h => h.IsListIter it l k ∧ h.IsList l xs) (fun k => xs[k]?) where
  item := fun ⟨h1, h2⟩ hx q => wpAny_nextOf_list_item h1 h2 hx fun h' a sb => q h' ⟨a, h2.extBut sb.extBut n⟩ sb
  stop := fun hh ⟨h1, h2⟩ hx q => wpAny_nextOf_list_end hh h1 h2 hx q
  keep := fun ⟨h1, h2⟩ f => ⟨h1.at fun o e => f _ (.inl rfl) o e, h2.at fun o e => f _ (.inr rfl) o e⟩
theorem srcT {it l : Addr} {xs : Array Value} (n : l ≠ it) : Src it l (fun k h => h.IsTupleIter it l k ∧ h.IsTuple l xs) (fun k => xs[k]?) where
  item := fun ⟨h1, h2⟩ hx q => RZ.nextOf_tuple_item h1 h2 hx fun h' a sb => q h' ⟨a, h2.extBut sb.extBut n⟩ sb
  stop := fun hh ⟨h1, h2⟩ hx q => RZ.nextOf_tuple_end hh h1 h2 hx q
  keep := fun ⟨h1, h2⟩ f => ⟨h1.at fun o e => f _ (.inl rfl) o e, h2.at fun o e => f _ (.inr rfl) o e⟩
/-- a heap changed at some places alone -/
def Off (cs : List Addr) (h h' : Heap) : Prop := ∀ c, c ∉ cs → ∀ o, h.get? c = some o → h'.get? c = some o
theorem Off.trans {cs : List Addr} {h h1 h2 : Heap} (a : Off cs h h1) (b : Off cs h1 h2) : Off cs h h2 := fun c n o e => b c n o (a c n o e)
theorem Off.ext {cs : List Addr} {c : Addr} {h h1 : Heap} (m : c ∈ cs) (a : Heap.ExtBut c h h1) : Off cs h h1 := fun b n o e => a b o (fun z => n (z ▸ m)) e
section
variable {pr : Program} {w : World} {A : Around} {E : Value → Shared → Prop} {s : Shared} {z TI TO i1 i2 l1 l2 : Addr} {I1 I2 : Nat → Heap → Prop} {g1 g2 : Nat → Option Value} {k1 k2 : Nat}
/-- the parts of a zip that stands ahead of a turn -/
structure Stand (z TI TO i1 i2 : Addr) (I1 I2 : Nat → Heap → Prop) (k1 k2 : Nat) (f a b : Value) (h : Heap) : Prop where
  zip : IsZip h z TI TO f
  its : IsPair h TI (.ref i1) (.ref i2)
  own : IsPair h TO a b
  one : I1 k1 h
  two : I2 k2 h
/-- the walk to the first iterator -/
theorem begin_ {a b : Value} {Q : Fin → Shared → Prop} (D : ZipApart z TI TO i1 i2 l1 l2) (S1 : Src i1 l1 I1 g1) (S2 : Src i2 l2 I2 g2) (h : Stand z TI TO i1 i2 I1 I2 k1 k2 .none a b s.heap)
    (next : ∀ h', Stand z TI TO i1 i2 I1 I2 k1 k2 .ellipsis a b h' → h'.objs.size = s.heap.objs.size → Off [z] s.heap h' →
      wpAny (model pr w) A (nextOf (.ref i1)) (fun x s1 => ∃ T : Unit, Stand z TI TO i1 i2 I1 I2 (k1 + 1) k2 .ellipsis a b s1.heap ∧ s1.heap.objs.size = s.heap.objs.size ∧
        ∀ h', Stand z TI TO i1 i2 I1 I2 (k1 + 1) k2 .ellipsis x b h' → h'.objs.size = s1.heap.objs.size → Off [TO] s1.heap h' → wpAny (model pr w) A (nextOf (.ref i2)) (fun y s2 => Stand z TI TO i1 i2 I1 I2 (k1 + 1) (k2 + 1) .ellipsis x b s2.heap ∧ s2.heap.objs.size = s.heap.objs.size ∧
          ∀ h', IsPair h' s.heap.objs.size x y → IsPair h' TO x y → IsZip h' z TI TO (rawInt s.heap.objs.size) → h'.objs.size = s.heap.objs.size + 1 → Off [z, TO] s2.heap h' → Q (.done (.ret (.ref s.heap.objs.size))) { s2 with heap := h' })
          (fun e s2 => IsZip s2.heap z TI TO .ellipsis ∧ ∀ h', Off [z] s2.heap h' → E e { s2 with heap := h' }) { s1 with heap := h' })
        (fun e s2 => IsZip s2.heap z TI TO .ellipsis ∧ ∀ h', Off [z] s2.heap h' → E e { s2 with heap := h' }) { s with heap := h' }) : wpAny (model pr w) A (Builtin.«zip.__next__» ⟨[.ref z], []⟩) Q E s := by
  obtain ⟨gz, gI, gO, q1, q2⟩ := h
  have iz := D.i1z
  refine (show wpAny _ _ (field (.ref z) 2 >>= _) _ _ _ from ?_)
  refine wpAny_bind (wpAny_field gz rfl (x := .bool false) rfl (show wpAny _ _ (field (.ref z) 3 >>= _) _ _ _ from wpAny_bind (wpAny_field gz rfl (x := .ref TI) rfl (wpAny_bind (wpAny_seqItems gI rfl ?_)))))
  refine (show wpAny _ _ (Builtin.SmallTypes.ownedTupleIsFree (.ref z) >>= _) _ _ _ from wpAny_bind ?_)
  unfold Builtin.SmallTypes.ownedTupleIsFree
  refine wpAny_bind (wpAny_field gz rfl (x := .none) rfl (wpAny_pure (by
    simp only [if_true]
    refine wpAny_bind (wpAny_rule (wpAny_bind (wpAny_field gz rfl (x := .ref TO) rfl (wpAny_bind (wpAny_setField_rec gz (by simp) fun ha za sa => ?_)))))
    have oa : Off [z] s.heap ha := .ext List.mem_cons_self sa.extBut
    have out : ∀ {c : Addr}, c ≠ z → c ∉ [z] := fun n m => n (by simpa using m)
    have Sa : Stand z TI TO i1 i2 I1 I2 k1 k2 .ellipsis a b ha := ⟨za, oa _ (out D.TIz) _ gI, oa _ (out D.TOz) _ gO, S1.keep q1 fun c hc o e => oa c (out (by rcases hc with rfl | rfl; exact D.i1z; exact D.l1z)) o e, S2.keep q2 fun c hc o e => oa c (out (by rcases hc with rfl | rfl; exact D.i2z; exact D.l2z)) o e⟩
    refine wpAny_bind ?_
    simp only [List.zipIdx_cons, List.zipIdx_nil, List.forIn_cons, List.forIn_nil]
    have back : ∀ {e : Value} {t : Shared}, IsZip t.heap z TI TO .ellipsis → (∀ h', Off [z] t.heap h' → E e { t with heap := h' }) → wpAny (model pr w) A (setField (.ref z) 0 .none) (fun _ t' => E e t') E t := fun gz' f => wpAny_setField_rec gz' (by simp) fun hb _ sb => f hb (.ext List.mem_cons_self sb.extBut)
    refine wpAny_bind (wpAny_bind (wpAny_onRaise ?_))
    refine (show wpAny _ _ (nextOf (.ref i1) >>= _) _ _ _ from wpAny_bind (wpAny_mono (next ha Sa sa.1 oa) (fun x t ⟨_, Sb, nb, next2⟩ => wpAny_pure ?_) fun e t ⟨g, f⟩ => back g f))
    refine wpAny_bind (wpAny_seqItems Sb.own rfl (wpAny_bind (wpAny_updateSeq_pair Sb.own fun hc gc sc => wpAny_bind (wpAny_letGo (wpAny_pure ?_)))))
    replace gc : IsPair hc TO x b := gc
    have oc : Off [TO] t.heap hc := .ext List.mem_cons_self sc.extBut
    have out2 : ∀ {c : Addr}, c ≠ TO → c ∉ [TO] := fun n m => n (by simpa using m)
    have Sc : Stand z TI TO i1 i2 I1 I2 (k1 + 1) k2 .ellipsis x b hc := ⟨oc _ (out2 D.TOz.symm) _ Sb.zip, oc _ (out2 D.TITO) _ Sb.its, gc, S1.keep Sb.one fun c hc' o e => oc c (out2 (by rcases hc' with rfl | rfl; exact D.TOi1.symm; exact D.l1TO)) o e, S2.keep Sb.two fun c hc' o e => oc c (out2 (by rcases hc' with rfl | rfl; exact D.TOi2.symm; exact D.l2TO)) o e⟩
    refine wpAny_bind (wpAny_bind (wpAny_onRaise ?_))
    refine (show wpAny _ _ (nextOf (.ref i2) >>= _) _ _ _ from wpAny_bind (wpAny_mono (next2 hc Sc sc.1 oc) (fun y t2 ⟨Sd, nd, fin⟩ => wpAny_pure ?_) fun e t2 ⟨g, f⟩ => back g f))
    refine wpAny_bind (wpAny_seqItems Sd.own rfl (wpAny_bind (wpAny_updateSeq_pair Sd.own fun he ge se => ?_)))
    replace ge : IsPair he TO x y := ge
    refine wpAny_bind (wpAny_letGo (wpAny_pure (wpAny_pure ?_)))
    refine wpAny_bind (wpAny_seqItems ge rfl ?_)
    refine wpAny_bind (wpAny_newTuple ?_)
    have oe : Off [TO] t2.heap he := .ext List.mem_cons_self se.extBut
    have ne : he.objs.size = s.heap.objs.size := se.1.trans nd
    have ze : IsZip he z TI TO .ellipsis := oe _ (out2 D.TOz.symm) _ Sd.zip
    have lz : z < he.objs.size := Heap.lt_size ze
    refine (show wpAny _ _ (Builtin.SmallTypes.ownedTupleHandOut (.ref z) (.ref he.objs.size) >>= _) _ _ _ from wpAny_bind ?_)
    unfold Builtin.SmallTypes.ownedTupleHandOut
    refine wpAny_bind (wpAny_setField_rec (show IsZip (he.push _) z TI TO .ellipsis from Heap.get?_push_of_some _ ze) (by simp) fun hf zf sf => wpAny_setField_rec zf (by simp) fun hg zg sg => ?_)
    have op : ∀ c, c ≠ z → ∀ o, he.get? c = some o → hg.get? c = some o := fun c n o e => sg.extBut _ _ n (sf.extBut _ _ n (Heap.get?_push_of_some _ e))
    have pT : IsPair hg he.objs.size x y := sg.extBut _ _ (Nat.ne_of_gt lz) (sf.extBut _ _ (Nat.ne_of_gt lz) (Heap.get?_push_size _ rfl))
    have ng : hg.objs.size = he.objs.size + 1 := by rw [sg.1, sf.1, Heap.size_push]
    have zg' : IsZip hg z TI TO (rawInt he.objs.size) := zg
    have pO := op TO D.TOz _ ge
    rw [ne] at pT ng zg'
    refine wpAny_pure ?_
    rw [ne]
    exact fin hg pT pO zg' ng fun c n o e => op c (fun q => n (by simp [q])) o (oe c (fun q => n (by simp at q; simp [q])) o e))))
theorem Off.mono {cs ds : List Addr} {h h' : Heap} (a : Off cs h h') (m : ∀ c ∈ cs, c ∈ ds) : Off ds h h' := fun c n o e => a c (fun q => n (m c q)) o e
theorem Stand.lt {f a b : Value} {h : Heap} (S : Stand z TI TO i1 i2 I1 I2 k1 k2 f a b h) : z < h.objs.size := Heap.lt_size S.zip
/-- behind the first iterator's step -/
theorem Stand.fst {f a b : Value} {h h' : Heap} (D : ZipApart z TI TO i1 i2 l1 l2) (S2 : Src i2 l2 I2 g2) (S : Stand z TI TO i1 i2 I1 I2 k1 k2 f a b h) (q : I1 (k1 + 1) h') (o : Off [i1] h h') : Stand z TI TO i1 i2 I1 I2 (k1 + 1) k2 f a b h' :=
  have n : ∀ {c : Addr}, c ≠ i1 → c ∉ [i1] := fun n m => n (by simpa using m)
  ⟨o _ (n D.i1z.symm) _ S.zip, o _ (n D.TIi1) _ S.its, o _ (n D.TOi1) _ S.own, q, S2.keep S.two fun c hc u e => o c (n (by rcases hc with rfl | rfl; exact D.i12.symm; exact D.l2i1)) u e⟩
theorem Stand.snd {f a b : Value} {h h' : Heap} (D : ZipApart z TI TO i1 i2 l1 l2) (S1 : Src i1 l1 I1 g1) (S : Stand z TI TO i1 i2 I1 I2 k1 k2 f a b h) (q : I2 (k2 + 1) h') (o : Off [i2] h h') : Stand z TI TO i1 i2 I1 I2 k1 (k2 + 1) f a b h' :=
  have n : ∀ {c : Addr}, c ≠ i2 → c ∉ [i2] := fun n m => n (by simpa using m)
  ⟨o _ (n D.i2z.symm) _ S.zip, o _ (n D.TIi2) _ S.its, o _ (n D.TOi2) _ S.own, S1.keep S.one fun c hc u e => o c (n (by rcases hc with rfl | rfl; exact D.i12; exact D.l1i2)) u e, q⟩
/-- a turn -/
theorem turn_next {a b x y : Value} {Q : Value → Shared → Prop} (D : ZipApart z TI TO i1 i2 l1 l2) (S1 : Src i1 l1 I1 g1) (S2 : Src i2 l2 I2 g2) (h : Stand z TI TO i1 i2 I1 I2 k1 k2 .none a b s.heap) (hx : g1 k1 = some x) (hy : g2 k2 = some y)
    (q : ∀ h', Stand z TI TO i1 i2 I1 I2 (k1 + 1) (k2 + 1) (rawInt s.heap.objs.size) x y h' → IsPair h' s.heap.objs.size x y → h'.objs.size = s.heap.objs.size + 1 → Off [z, TO, i1, i2] s.heap h' → Q (.ref s.heap.objs.size) { s with heap := h' }) :
    wpAny (model pr w) A (Builtin.«zip.__next__» ⟨[.ref z], []⟩) (fun fin s' => ∃ v, fin = .done (.ret v) ∧ Q v s') E s := by
  refine begin_ D S1 S2 h fun ha Sa na oa => S1.item (s := { s with heap := ha }) Sa.one hx fun hb qb sb => ?_
  have ob : Off [i1] ha hb := .ext List.mem_cons_self sb.extBut
  have Sb := Sa.fst D S2 qb ob
  refine ⟨(), Sb, sb.1.trans na, fun hc Sc nc oc => S2.item (s := { s with heap := hc }) Sc.two hy fun hd qd sd => ?_⟩
  have od : Off [i2] hc hd := .ext List.mem_cons_self sd.extBut
  have Sd := Sc.snd D S1 qd od
  refine ⟨Sd, (sd.1.trans nc).trans (sb.1.trans na), fun he e1 e2 e3 e4 oe => ⟨_, rfl, ?_⟩⟩
  have m1 : ∀ {c : Addr}, c ≠ z → c ≠ TO → c ∉ [z, TO] := fun n1 n2 m => by simp at m; rcases m with m | m; exact n1 m; exact n2 m
  have all : Off [z, TO, i1, i2] s.heap he := (((oa.mono fun c m => by simp at m; simp [m]).trans (ob.mono fun c m => by simp at m; simp [m])).trans (oc.mono fun c m => by simp at m; simp [m])).trans ((od.mono fun c m => by simp at m; simp [m]).trans (oe.mono fun c m => by simp at m; rcases m with m | m <;> simp [m]))
  exact q he ⟨e3, oe _ (m1 D.TIz D.TITO) _ Sd.its, e2, S1.keep Sd.one fun c hc' o e => oe c (m1 (by rcases hc' with rfl | rfl; exact D.i1z; exact D.l1z) (by rcases hc' with rfl | rfl; exact D.TOi1.symm; exact D.l1TO)) o e,
    S2.keep Sd.two fun c hc' o e => oe c (m1 (by rcases hc' with rfl | rfl; exact D.i2z; exact D.l2z) (by rcases hc' with rfl | rfl; exact D.TOi2.symm; exact D.l2TO)) o e⟩ e1 e4 all
/-- the end -/
theorem end_next {a b : Value} {Q : Fin → Shared → Prop} (hh : A.handled = none) (D : ZipApart z TI TO i1 i2 l1 l2) (S1 : Src i1 l1 I1 g1) (S2 : Src i2 l2 I2 g2) (h : Stand z TI TO i1 i2 I1 I2 k1 k2 .none a b s.heap) (he : g1 k1 = none ∨ g2 k2 = none)
    (q : ∀ h' e, Off [z, TO, i1, i2] s.heap h' → (∃ o, h'.get? e = some o ∧ o.cls = .type "StopIteration") → E (.ref e) { s with heap := h' }) : wpAny (model pr w) A (Builtin.«zip.__next__» ⟨[.ref z], []⟩) Q E s := by
  have other : ∀ {h' : Heap} {e : Addr} {o : Obj}, IsZip h' z TI TO .ellipsis → h'.get? e = some o → o.cls = .type "StopIteration" → e ≠ z := fun g e1 e2 x => by
    subst x
    rw [g] at e1
    cases e1
    simp at e2
  refine begin_ D S1 S2 h fun ha Sa na oa => ?_
  cases hx : g1 k1 with
  | none =>
    refine S1.stop (s := { s with heap := ha }) hh Sa.one hx fun hb e ob ⟨o, e1, e2⟩ => ?_
    have gz : IsZip hb z TI TO .ellipsis := ob _ _ D.i1z.symm Sa.zip
    exact ⟨gz, fun hc oc => q hc e ((oa.mono fun c m => by simp at m; simp [m]).trans ((Off.ext (by simp) ob).trans (oc.mono fun c m => by simp at m; simp [m]))) ⟨o, oc _ (by simpa using other gz e1 e2) _ e1, e2⟩⟩
  | some x =>
    have hy : g2 k2 = none := by rcases he with z | z; rw [hx] at z; cases z; exact z
    refine S1.item (s := { s with heap := ha }) Sa.one hx fun hb qb sb => ?_
    have ob : Off [i1] ha hb := .ext List.mem_cons_self sb.extBut
    refine ⟨(), Sa.fst D S2 qb ob, sb.1.trans na, fun hc Sc nc oc => S2.stop (s := { s with heap := hc }) hh Sc.two hy fun hd e od ⟨o, e1, e2⟩ => ?_⟩
    have gz : IsZip hd z TI TO .ellipsis := od _ _ D.i2z.symm Sc.zip
    exact ⟨gz, fun hf of_ => q hf e ((((oa.mono fun c m => by simp at m; simp [m]).trans (ob.mono fun c m => by simp at m; simp [m])).trans (oc.mono fun c m => by simp at m; simp [m])).trans ((Off.ext (by simp) od).trans (of_.mono fun c m => by simp at m; simp [m]))) ⟨o, of_ _ (by simpa using other gz e1 e2) _ e1, e2⟩⟩
theorem py_next {Q : Option Value → Shared → Prop} (hT : s.TypeIs (.ref z) "zip") (h : wpAny (model pr w) A.in1 (Builtin.«zip.__next__» ⟨[.ref z], []⟩) (fun fin s' => ∃ v, fin = .done (.ret v) ∧ Q (some v) s') (fun e s' => (∃ a o, e = .ref a ∧ s'.heap.get? a = some o ∧ o.cls = .type "StopIteration") ∧ Q none s') s) :
    wpAny (model pr w) A (pyNext (.ref z)) Q E s := by
  unfold pyNext
  refine wpAny_bind (wpAny_attempt (wpAny_callSpecial?_slot (name := Str.ofString "__next__") hT F.slot_zip_next (wpAny_call_entry F.slot_zip_next hT F.entry_zip_next (wpAny_mono h ?_ ?_) (F.args_zip_next_1 _))))
  · rintro fin s' ⟨v, e, q⟩
    exact ⟨v, e, wpAny_pure q⟩
  · rintro e s' ⟨⟨a, o, rfl, e2, e3⟩, q⟩
    exact wpAny_bind (wpAny_isInstance (T := "StopIteration") (b := true) ⟨o, e2, e3⟩ isSubtype_stop (wpAny_pure q))
end

/-! ### a list and a tuple -/
section
variable {pr : Program} {w : World} {A : Around} {E : Value → Shared → Prop} {s : Shared}
abbrev hp1 (h : Heap) (a : Addr) : Heap := h.push { cls := .type "list_iterator", data := .fields #[.ref a, .int 0 0] }
abbrev hp2 (h : Heap) (a b : Addr) : Heap := (hp1 h a).push { cls := .type "tuple_iterator", data := .fields #[.ref b, .int 0 0] }
abbrev hp3 (h : Heap) (a b : Addr) : Heap := (hp2 h a b).push { cls := .type "tuple", data := .seq #[.ref h.objs.size, .ref (hp1 h a).objs.size] }
abbrev hp4 (h : Heap) (a b : Addr) : Heap := (hp3 h a b).push { cls := .type "tuple", data := .seq #[.none, .none] }
abbrev hp5 (h : Heap) (a b : Addr) : Heap := (hp4 h a b).push { cls := .type "zip", data := .fields #[.none, .bool false, .bool false, .ref (hp2 h a b).objs.size, .ref (hp3 h a b).objs.size] }
theorem meets_new (a b : Addr) (xs ys : Array Value) : Meets (Builtin.«zip.__new__» ⟨[.type "zip", .ref a, .ref b], []⟩) (fun _ R s => s.heap.IsList a xs ∧ s.heap.IsTuple b ys ∧ R (.ok (.ret (.ref (hp4 s.heap a b).objs.size))) { s with heap := hp5 s.heap a b }) :=
  .of_wp fun _ _ _ R s q => by
    obtain ⟨hp, g, d, tk, os⟩ := s
    obtain ⟨ha, hb, q⟩ := q
    have hsub := sub_zip
    have hL : Heap.IsList (Shared.heap ⟨hp, g, d, tk, os⟩) a xs := ha
    have hT : Heap.IsTuple (Shared.heap ⟨hp.push { cls := .type "list_iterator", data := .fields #[.ref a, .int 0 0] }, g, d, tk, os⟩) b ys := Heap.IsTuple.push hb _
    wp_walk using wpAny_pyIter_list hL, wpAny_pyIter_tuple hT
    exact ⟨_, rfl, q⟩
theorem call_zipM {a b : Addr} {xs ys : Array Value} {Q : Value → Shared → Prop} (ha : s.heap.IsList a xs) (hb : s.heap.IsTuple b ys)
    (q : ∀ h', Stand (s.heap.objs.size + 4) (s.heap.objs.size + 2) (s.heap.objs.size + 3) s.heap.objs.size (s.heap.objs.size + 1) (fun k h => h.IsListIter s.heap.objs.size a k ∧ h.IsList a xs) (fun k h => h.IsTupleIter (s.heap.objs.size + 1) b k ∧ h.IsTuple b ys) 0 0 .none .none .none h' →
      (∀ c o, s.heap.get? c = some o → h'.get? c = some o) → Q (.ref (s.heap.objs.size + 4)) { s with heap := h' }) : wpAny (model pr w) A (call (.type "zip") [.ref a, .ref b]) Q E s := by
  refine callType_new F.called_zip (by decide) (F.typeCall_zip_2 _ _) (F.newCall_zip_2 _ _) (fun obj => F.args_object_init_3 obj _ _) F.entry_zip_new (meets_new a b xs ys) ⟨ha, hb, ?_⟩
  have n1 : (hp1 s.heap a).objs.size = s.heap.objs.size + 1 := Heap.size_push ..
  have n2 : (hp2 s.heap a b).objs.size = s.heap.objs.size + 2 := (Heap.size_push ..).trans (by rw [n1])
  have n3 : (hp3 s.heap a b).objs.size = s.heap.objs.size + 3 := (Heap.size_push ..).trans (by rw [n2])
  have n4 : (hp4 s.heap a b).objs.size = s.heap.objs.size + 4 := (Heap.size_push ..).trans (by rw [n3])
  have up : ∀ c o, s.heap.get? c = some o → (hp5 s.heap a b).get? c = some o := fun c o e => Heap.get?_push_of_some _ (Heap.get?_push_of_some _ (Heap.get?_push_of_some _ (Heap.get?_push_of_some _ (Heap.get?_push_of_some _ e))))
  have p5 : (hp5 s.heap a b).get? (hp4 s.heap a b).objs.size = _ := Heap.get?_push_size _ rfl
  have p4 : (hp5 s.heap a b).get? (hp3 s.heap a b).objs.size = _ := Heap.get?_push_of_some _ (Heap.get?_push_size _ rfl)
  have p3 : (hp5 s.heap a b).get? (hp2 s.heap a b).objs.size = _ := Heap.get?_push_of_some _ (Heap.get?_push_of_some _ (Heap.get?_push_size _ rfl))
  have p2 : (hp5 s.heap a b).get? (hp1 s.heap a).objs.size = _ := Heap.get?_push_of_some _ (Heap.get?_push_of_some _ (Heap.get?_push_of_some _ (Heap.get?_push_size _ rfl)))
  have p1 : (hp5 s.heap a b).get? s.heap.objs.size = _ := Heap.get?_push_of_some _ (Heap.get?_push_of_some _ (Heap.get?_push_of_some _ (Heap.get?_push_of_some _ (Heap.get?_push_size _ rfl))))
  simp only [n1, n2, n3, n4] at p2 p3 p4 p5
  rw [n4]
  exact ⟨⟨_, p5, rfl⟩, q _ ⟨p5, p3, p4, ⟨⟨_, p1, rfl, rfl⟩, ha.at fun o e => up a o e⟩, ⟨⟨_, p2, rfl, rfl⟩, hb.at fun o e => up b o e⟩⟩ up⟩
end
/-- the list at a and the tuple at b as they stand at each turn -/
def Itm (K : PySem.W.Frag) (a b : Addr) : It :=
  ⟨fun i H => ∃ (xs ys : List V) (x y : V), SqL K H a xs ∧ SqT K H b ys ∧ xs[i]? = some x ∧ ys[i]? = some y,
    fun i H v H' => ∃ T x y, v = .ref T ∧ H T = none ∧ H' = upd H T (.tup [x, y]) ∧ (∀ xs, SqL K H a xs → xs[i]? = some x) ∧ ∀ ys, SqT K H b ys → ys[i]? = some y,
    fun i H => ∃ xs ys : List V, SqL K H a xs ∧ SqT K H b ys ∧ (xs.length ≤ i ∨ ys.length ≤ i)⟩
/-- what stands between the turns, the list and the tuple aside -/
def Tn (z TI TO i1 i2 a b : Addr) (k : Nat) (h : Heap) : Prop := Stand z TI TO i1 i2 (fun k h => h.IsListIter i1 a k) (fun k h => h.IsTupleIter i2 b k) k k .none .none .none h ∨ ∃ x y, Stand z TI TO i1 i2 (fun k h => h.IsListIter i1 a k) (fun k h => h.IsTupleIter i2 b k) k k .none x y h
theorem Tn.at {z TI TO i1 i2 a b : Addr} {k : Nat} {h : Heap} (t : Tn z TI TO i1 i2 a b k h) : ∃ x y, Stand z TI TO i1 i2 (fun k h => h.IsListIter i1 a k) (fun k h => h.IsTupleIter i2 b k) k k .none x y h := by
  rcases t with t | t
  · exact ⟨_, _, t⟩
  · exact t
theorem turnM {P : Program} {w : World} {K : PySem.W.Frag} {elts : List Expr} {kk : Nat} {tpos : Pos} {a b z TI TO i1 i2 : Addr} (D : ZipApart z TI TO i1 i2 a b) : Turn P w K (.Tuple elts kk tpos) (Itm K a b) [z, TI, TO, i1, i2] z (Tn z TI TO i1 i2 a b) where
  mem := by simp
  obj := fun i h t c hc => by
    obtain ⟨x, y, S⟩ := t.at
    simp only [List.mem_cons, List.not_mem_nil, or_false] at hc
    rcases hc with rfl | rfl | rfl | rfl | rfl
    · exact ⟨_, S.zip, fun v q => nomatch q⟩
    · exact ⟨_, S.its, fun v q => nomatch q⟩
    · exact ⟨_, S.own, fun v q => nomatch q⟩
    · obtain ⟨o, e, _, d⟩ := S.one
      exact ⟨o, e, fun v q => by rw [d] at q; cases q⟩
    · obtain ⟨o, e, _, d⟩ := S.two
      exact ⟨o, e, fun v q => by rw [d] at q; cases q⟩
  keep := fun i h h' t k => by
    obtain ⟨x, y, S⟩ := t.at
    exact .inr ⟨x, y, k z (by simp) _ S.zip, k TI (by simp) _ S.its, k TO (by simp) _ S.own, S.one.at fun o e => k i1 (by simp) o e, S.two.at fun o e => k i2 (by simp) o e⟩
  item := by
    rintro X rfl rfl rfl hc i pins s σ H E I hf t ⟨xs, ys, x, y, hqx, hqy, hx, hy⟩
    obtain ⟨a0, b0, S⟩ := t.at
    obtain ⟨its, rv, p, _⟩ := I.list hqx
    obtain ⟨its2, rv2, p2, _⟩ := I.tuple hqy
    obtain ⟨u, hu, ru⟩ := rv.get hx
    obtain ⟨u2, hu2, ru2⟩ := rv2.get hy
    have lz : z < s.heap.objs.size := S.lt
    have S' : Stand z TI TO i1 i2 (fun k h => h.IsListIter i1 a k ∧ h.IsList a its.toArray) (fun k h => h.IsTupleIter i2 b k ∧ h.IsTuple b its2.toArray) i i .none a0 b0 s.heap := ⟨S.zip, S.its, S.own, ⟨S.one, p.isList⟩, ⟨S.two, p2⟩⟩
    refine py_next ⟨_, S.zip, rfl⟩ (turn_next (x := u) (y := u2) D (srcL D.l1i1) (srcT D.l2i2) S' (by simpa using hu) (by simpa using hu2) fun h' Sn pT nz off => ⟨_, rfl, wpAny_letOwnedTupleGo_zip (s := { s with heap := h' }) Sn.zip fun h'' gz sb => ?_⟩)
    have off2 : ∀ c o, c ∉ [z, TI, TO, i1, i2] → s.heap.get? c = some o → h''.get? c = some o := fun c o n e => sb.extBut _ _ (fun q => n (by simp [q])) (off c (fun q => n (by simp at q; rcases q with q | q | q | q <;> simp [q])) o e)
    have pT2 : h''.get? s.heap.objs.size = some { cls := .type "tuple", data := .seq #[u, u2] } := (sb.2 _ (Nat.ne_of_gt lz)).trans pT
    have fr : H s.heap.objs.size = none := I.hok.fresh (Nat.le_refl _)
    refine ⟨.ref s.heap.objs.size, _, I.turnedNew (t' := s.toks) (ch := [z, TI, TO, i1, i2]) (ob := .tup [x, y]) (fun c o n e => off2 c o n e) hf (Nat.le_refl _) ⟨by show 2 ≤ sizeLine; decide, [u, u2], .cons ru (.cons ru2 .nil), ⟨_, pT2, rfl, _, rfl⟩⟩, rfl,
      ⟨_, x, y, rfl, fr, rfl, fun l hl => by rw [I.list_inj hl hqx]; exact hx, fun l hl => by rw [I.tuple_inj hl hqy]; exact hy⟩,
      .inr ⟨u, u2, gz, sb.extBut _ _ D.TIz Sn.its, sb.extBut _ _ D.TOz Sn.own, Sn.one.1.at fun o e => sb.extBut _ _ D.i1z e, Sn.two.1.at fun o e => sb.extBut _ _ D.i2z e⟩, fun c m => ?_⟩
    have lt : c ≠ s.heap.objs.size := by
      intro q
      have := (hf c m).1
      obtain ⟨o, e, _⟩ : ∃ o, s.heap.get? c = some o ∧ True := by
        simp only [List.mem_cons, List.not_mem_nil, or_false] at m
        rcases m with rfl | rfl | rfl | rfl | rfl
        · exact ⟨_, S.zip, trivial⟩
        · exact ⟨_, S.its, trivial⟩
        · exact ⟨_, S.own, trivial⟩
        · exact S.one.imp fun o z => ⟨z.1, trivial⟩
        · exact S.two.imp fun o z => ⟨z.1, trivial⟩
      exact Nat.lt_irrefl _ (q ▸ Heap.lt_size e)
    rw [upd_ne lt]
    exact (hf c m).1
  done := by
    rintro X rfl rfl rfl hc i pins s σ H E I hf t ⟨xs, ys, hqx, hqy, hend⟩
    obtain ⟨a0, b0, S⟩ := t.at
    obtain ⟨its, rv, p, _⟩ := I.list hqx
    obtain ⟨its2, rv2, p2, _⟩ := I.tuple hqy
    have n1 := rv.length
    have n2 := rv2.length
    have S' : Stand z TI TO i1 i2 (fun k h => h.IsListIter i1 a k ∧ h.IsList a its.toArray) (fun k h => h.IsTupleIter i2 b k ∧ h.IsTuple b its2.toArray) i i .none a0 b0 s.heap := ⟨S.zip, S.its, S.own, ⟨S.one, p.isList⟩, ⟨S.two, p2⟩⟩
    have he : its.toArray[i]? = none ∨ its2.toArray[i]? = none := by
      rcases hend with q | q
      · exact .inl (by simp; omega)
      · exact .inr (by simp; omega)
    refine py_next ⟨_, S.zip, rfl⟩ (end_next (show X.A.in1.handled = none from I.ok.hd hc) D (srcL D.l1i1) (srcT D.l2i2) S' he fun h' e off hs => ⟨⟨e, hs.choose, rfl, hs.choose_spec⟩, rfl, I.turnedL (t' := s.toks) (ch := [z, TI, TO, i1, i2]) (fun c o n e => off c (fun q => n (by simp at q; rcases q with q | q | q | q <;> simp [q])) o e) hf⟩)
  self := fun A i s Q E t h => by
    obtain ⟨x, y, S⟩ := t.at
    exact wpAny_pyIter_zip S.zip h
def iZipM (K : PySem.W.Frag) (ta : TA) : TI := fun σ H R => ta σ H fun vs H1 => ∃ a b xs ys, vs = [.ref a, .ref b] ∧ SqL K H1 a xs ∧ SqT K H1 b ys ∧ R (Itm K a b) H1
theorem pi_zipM {X : Cx} {e e2 : Expr} {ta : TA} {p pos tpos : Pos} {elts : List Expr} {kk : Nat} (hg : Gl X "zip") (hm : X.mg "zip" = none) (ha : PA X [e, e2] ta) (hs : starEach [e, e2] X.env = (false, eval e X.env) :: starEach [e2] X.env) (hpl : (backTo pos (starEach [e2] X.env)).any (·.1) = false) :
    PI X (.Tuple elts kk tpos) (.Call (.Name "zip" p) [e, e2] [] pos) (iZipM X.K ta) := by
  refine ⟨fun pins s σ H R I h => Call_ (ld_blt I hg hm PyProof.Rows.boot_zip (PyProof.Rows.callWith_type1 (thn (ha.run pos pins s σ H _ I h) fun us s1 ⟨vs, H1, I1, r1, a, b, xs, ys, ex, hx, hy, q⟩ => ?_) hs hpl))⟩
  subst ex
  cases r1 with
  | cons ra r1 =>
    cases r1 with
    | cons rb r1 =>
      cases r1
      cases ra
      cases rb
      obtain ⟨its, rv, p1, _⟩ := I1.list hx
      obtain ⟨its2, rv2, p2, _⟩ := I1.tuple hy
      have lb : b < s1.heap.objs.size := by
        obtain ⟨o, e, _⟩ := id p2
        exact Heap.lt_size e
      refine call_zipM p1.isList p2 fun h' S up => wpAny_pyIter_zip S.zip ⟨_, [s1.heap.objs.size + 4, s1.heap.objs.size + 2, s1.heap.objs.size + 3, s1.heap.objs.size, s1.heap.objs.size + 1], _, _, H1, rfl, I1.kept (t' := s1.toks) up, turnM (PySem.W.ktu_apart s1.heap.objs.size a b p1.lt lb),
        .inl ⟨S.zip, S.its, S.own, S.one.1, S.two.1⟩, fun c m => ?_, q⟩
      have le : s1.heap.objs.size ≤ c := by
        simp only [List.mem_cons, List.not_mem_nil, or_false] at m
        rcases m with rfl | rfl | rfl | rfl | rfl
        · exact Nat.le_add_right _ _
        · exact Nat.le_add_right _ _
        · exact Nat.le_add_right _ _
        · exact Nat.le_refl _
        · exact Nat.le_add_right _ _
      exact I1.fpOk le (I1.hok.fresh le)
end Mp.Z

/-! Mp.Z: enumerate of a tuple. -/
namespace Mp.Z
open PySem PySem.Spec PyProof.Rows L2
open PySem.Sem (wp)
open Builtin.SmallTypes (nextOf)
section
variable {pr : Program} {w : World} {A : Around} {E : Value → Shared → Prop} {s : Shared} {e it l : Addr} {I : Nat → Heap → Prop} {g : Nat → Option Value} {k : Nat} {x old : Value}
/-- a turn of enumerate -/
theorem enum_turn {Q : Value → Shared → Prop} (S : Src it l I g) (he : IsEnum s.heap e it k old) (hi : I k s.heap) (hx : g k = some x) (n1 : e ≠ it) (n2 : l ≠ e)
    (q : ∀ h', IsEnumOut h' e it ((k : Int) + 1) x s.heap.objs.size → I (k + 1) h' → h'.get? s.heap.objs.size = some { cls := .type "tuple", data := .seq #[.int k s.toks, x] } → Off [e, it] s.heap h' → Q (.ref s.heap.objs.size) { s with heap := h', toks := s.toks + 1 }) :
    wpAny (model pr w) A (Builtin.«enumerate.__next__» ⟨[.ref e], []⟩) (fun fin s' => ∃ v, fin = .done (.ret v) ∧ Q v s') E s := by
  obtain ⟨hp, gn, dr, tk, os⟩ := s
  have out : ∀ {c : Addr}, c ≠ e → c ∉ [e] := fun n m => n (by simpa using m)
  have big : ∀ {c : Addr}, c ∉ [e, it] → c ∉ [e] := fun n m => n (by simp at m; simp [m])
  have big2 : ∀ {c : Addr}, c ∉ [e, it] → c ∉ [it] := fun n m => n (by simp at m; simp [m])
  refine (show wpAny _ _ (field (.ref e) 2 >>= _) _ _ _ from wpAny_bind (wpAny_field he rfl (x := .ref it) rfl (wpAny_bind (S.item hi hx fun ha ia sa => ?_))))
  have oa : Off [it] hp ha := .ext List.mem_cons_self sa.extBut
  have ea : IsEnum ha e it k old := oa _ (by simpa using n1) _ he
  refine (show wpAny _ _ (field (.ref e) 3 >>= _) _ _ ⟨ha, gn, dr, tk, os⟩ from wpAny_bind (wpAny_field ea rfl (x := rawInt k) rfl ?_))
  refine (show wpAny _ _ (field (.ref e) 4 >>= _) _ _ ⟨ha, gn, dr, tk, os⟩ from wpAny_bind (wpAny_field ea rfl (x := .none) rfl ?_))
  refine (show wpAny _ _ (mkInt k >>= _) _ _ ⟨ha, gn, dr, tk, os⟩ from wpAny_bind (wpAny_mkInt ?_))
  refine (show wpAny _ _ (setField (.ref e) 3 (rawInt ((k : Int) + 1)) >>= _) _ _ ⟨ha, gn, dr, tk + 1, os⟩ from wpAny_bind (wpAny_setField_rec ea (by simp) fun hb eb sb => ?_))
  replace eb : IsEnum hb e it ((k : Int) + 1) old := eb
  replace sb : Heap.SameBut e ha hb := sb
  refine (show wpAny _ _ (setField (.ref e) 4 .none >>= _) _ _ ⟨hb, gn, dr, tk + 1, os⟩ from wpAny_bind (wpAny_setField_rec eb (by simp) fun hc ec sc => ?_))
  replace ec : IsEnum hc e it ((k : Int) + 1) old := ec
  replace sc : Heap.SameBut e hb hc := sc
  refine (show wpAny _ _ (newTuple [.int k tk, x] >>= _) _ _ ⟨hc, gn, dr, tk + 1, os⟩ from wpAny_bind (wpAny_newTuple ?_))
  have nc : hc.objs.size = hp.objs.size := by rw [sc.1, sb.1]; exact sa.1
  have oc : Off [e] ha hc := (Off.ext List.mem_cons_self sb.extBut).trans (Off.ext List.mem_cons_self sc.extBut)
  have od : Off [e] ha (hc.push { cls := .type "tuple", data := .seq #[.int k tk, x] }) := fun c n o z => Heap.get?_push_of_some _ (oc c n o z)
  have ed : IsEnum (hc.push { cls := .type "tuple", data := .seq #[.int k tk, x] }) e it ((k : Int) + 1) old := Heap.get?_push_of_some _ ec
  have pd : (hc.push { cls := .type "tuple", data := .seq #[.int k tk, x] }).get? hp.objs.size = some { cls := .type "tuple", data := .seq #[.int k tk, x] } := by rw [← nc]; exact Heap.get?_push_size _ rfl
  have le : e < hp.objs.size := Heap.lt_size he
  refine (show wpAny _ _ (Builtin.SmallTypes.ownedTupleIsFree (.ref e) >>= _) _ _ ⟨hc.push _, gn, dr, tk + 1, os⟩ from wpAny_bind ?_)
  rw [nc]
  generalize hc.push { cls := .type "tuple", data := .seq #[.int k tk, x] } = hd at od ed pd
  unfold Builtin.SmallTypes.ownedTupleIsFree
  refine wpAny_bind (wpAny_field ed rfl (x := .none) rfl (wpAny_pure ?_))
  simp only [if_true]
  refine wpAny_bind (wpAny_rule (wpAny_bind (wpAny_field ed rfl (x := old) rfl (wpAny_bind (wpAny_setField_rec ed (by simp) fun hf ef sf => ?_)))))
  replace ef : IsEnum hf e it ((k : Int) + 1) x := ef
  refine (show wpAny _ _ (Builtin.SmallTypes.ownedTupleHandOut (.ref e) (.ref hp.objs.size) >>= _) _ _ ⟨hf, gn, dr, tk + 1, os⟩ from wpAny_bind ?_)
  unfold Builtin.SmallTypes.ownedTupleHandOut
  refine wpAny_bind (wpAny_setField_rec ef (by simp) fun hg eg sg => ?_)
  replace eg : IsEnumOut hg e it ((k : Int) + 1) x hp.objs.size := eg
  refine wpAny_setField_rec eg (by simp) fun hh eh sh => ?_
  replace eh : IsEnumOut hh e it ((k : Int) + 1) x hp.objs.size := eh
  have oh : Off [e] hd hh := ((Off.ext List.mem_cons_self sf.extBut).trans (Off.ext List.mem_cons_self sg.extBut)).trans (Off.ext List.mem_cons_self sh.extBut)
  refine wpAny_bind (wpAny_letGo (wpAny_pure ⟨_, rfl, q hh eh ?_ ?_ fun c n o z => oh c (big n) o (od c (big n) o (oa c (big2 n) o z))⟩))
  · exact S.keep ia fun c hc' o z => oh c (out (by rcases hc' with rfl | rfl; exact n1.symm; exact n2)) o (od c (out (by rcases hc' with rfl | rfl; exact n1.symm; exact n2)) o z)
  · exact oh _ (out (Nat.ne_of_gt le)) _ pd
theorem enum_end {Q : Fin → Shared → Prop} (hh : A.handled = none) (S : Src it l I g) (he : IsEnum s.heap e it k old) (hi : I k s.heap) (hx : g k = none)
    (q : ∀ h' a, Off [it] s.heap h' → (∃ o, h'.get? a = some o ∧ o.cls = .type "StopIteration") → E (.ref a) { s with heap := h' }) : wpAny (model pr w) A (Builtin.«enumerate.__next__» ⟨[.ref e], []⟩) Q E s :=
  show wpAny _ _ (field (.ref e) 2 >>= _) _ _ _ from wpAny_bind (wpAny_field he rfl (x := .ref it) rfl (wpAny_bind (S.stop hh hi hx fun h' a ob hs => q h' a (.ext List.mem_cons_self ob) hs)))
theorem py_nextE {Q : Option Value → Shared → Prop} (hT : s.TypeIs (.ref e) "enumerate") (h : wpAny (model pr w) A.in1 (Builtin.«enumerate.__next__» ⟨[.ref e], []⟩) (fun fin s' => ∃ v, fin = .done (.ret v) ∧ Q (some v) s') (fun e s' => (∃ a o, e = .ref a ∧ s'.heap.get? a = some o ∧ o.cls = .type "StopIteration") ∧ Q none s') s) :
    wpAny (model pr w) A (pyNext (.ref e)) Q E s := by
  unfold pyNext
  refine wpAny_bind (wpAny_attempt (wpAny_callSpecial?_slot (name := Str.ofString "__next__") hT F.slot_enumerate_next (wpAny_call_entry F.slot_enumerate_next hT F.entry_enumerate_next (wpAny_mono h ?_ ?_) (F.args_enumerate_next_1 _))))
  · rintro fin s' ⟨v, e, q⟩
    exact ⟨v, e, wpAny_pure q⟩
  · rintro e s' ⟨⟨a, o, rfl, e2, e3⟩, q⟩
    exact wpAny_bind (wpAny_isInstance (T := "StopIteration") (b := true) ⟨o, e2, e3⟩ isSubtype_stop (wpAny_pure q))
abbrev he1 (h : Heap) (a : Addr) : Heap := h.push { cls := .type "tuple_iterator", data := .fields #[.ref a, .int 0 0] }
abbrev he2 (h : Heap) (a : Addr) : Heap := (he1 h a).push { cls := .type "enumerate", data := .fields #[.none, .bool false, .ref h.objs.size, rawInt 0, .none, .none] }
theorem meets_newE (a : Addr) (xs : Array Value) : Meets (Builtin.«enumerate.__new__» ⟨[.type "enumerate", .ref a], []⟩) (fun _ R s => s.heap.IsTuple a xs ∧ R (.ok (.ret (.ref (he1 s.heap a).objs.size))) { s with heap := he2 s.heap a }) :=
  .of_wp fun _ _ _ R s q => by
    obtain ⟨hp, g, d, tk, os⟩ := s
    obtain ⟨ha, q⟩ := q
    have hsub := sub_enumerate
    have hT : Heap.IsTuple (Shared.heap ⟨hp, g, d, tk, os⟩) a xs := ha
    wp_walk
    refine wpAny_stack_any fun st => wpAny_pure ?_
    split
    · rename_i c _ _ _ _ _
      cases (c == Value.type "enumerate") <;> (wp_walk using wpAny_pyIter_tuple hT; exact ⟨_, rfl, q⟩)
    · wp_walk using wpAny_pyIter_tuple hT
      exact ⟨_, rfl, q⟩
theorem call_enumT {a : Addr} {xs : Array Value} {Q : Value → Shared → Prop} (ha : s.heap.IsTuple a xs)
    (q : ∀ h', IsEnum h' (s.heap.objs.size + 1) s.heap.objs.size 0 .none → h'.IsTupleIter s.heap.objs.size a 0 → (∀ c o, s.heap.get? c = some o → h'.get? c = some o) → Q (.ref (s.heap.objs.size + 1)) { s with heap := h' }) :
    wpAny (model pr w) A (call (.type "enumerate") [.ref a]) Q E s := by
  refine callType_new F.called_enumerate (by decide) (F.typeCall_enumerate_1 _) (F.newCall_enumerate_1 _) (fun obj => F.args_object_init_2 obj _) F.entry_enumerate_new (meets_newE a xs) ⟨ha, ?_⟩
  have n1 : (he1 s.heap a).objs.size = s.heap.objs.size + 1 := Heap.size_push ..
  have p2 : (he2 s.heap a).get? (he1 s.heap a).objs.size = _ := Heap.get?_push_size _ rfl
  have p1 : (he2 s.heap a).get? s.heap.objs.size = _ := Heap.get?_push_of_some _ (Heap.get?_push_size _ rfl)
  rw [n1] at p2 ⊢
  exact ⟨⟨_, p2, rfl⟩, q _ p2 ⟨_, p1, rfl, rfl⟩ fun c o z => Heap.get?_push_of_some _ (Heap.get?_push_of_some _ z)⟩
end
/-- the tuple at a as it stands at each turn, its items with their numbers -/
def Itn (K : PySem.W.Frag) (a : Addr) : It :=
  ⟨fun i H => ∃ (xs : List V) (x : V), SqT K H a xs ∧ xs[i]? = some x, fun i H v H' => ∃ T x, v = .ref T ∧ H T = none ∧ H' = upd H T (.tup [.int (i : Nat), x]) ∧ ∀ xs, SqT K H a xs → xs[i]? = some x, fun i H => ∃ xs : List V, SqT K H a xs ∧ xs.length ≤ i⟩
theorem turnN {P : Program} {w : World} {K : PySem.W.Frag} {elts : List Expr} {kk : Nat} {tpos : Pos} (a e it : Addr) (n1 : e ≠ it) (n2 : a ≠ e) (n3 : a ≠ it) :
    Turn P w K (.Tuple elts kk tpos) (Itn K a) [e, it] e (fun i h => (∃ old, IsEnum h e it ((i : Nat) : Int) old) ∧ h.IsTupleIter it a i) where
  mem := by simp
  obj := fun i h ⟨⟨old, h1⟩, ⟨o, h2, _, d⟩⟩ c hc => by
    simp only [List.mem_cons, List.not_mem_nil, or_false] at hc
    rcases hc with rfl | rfl
    · exact ⟨_, h1, fun v q => nomatch q⟩
    · exact ⟨o, h2, fun v q => by rw [d] at q; cases q⟩
  keep := fun i h h' ⟨⟨old, h1⟩, h2⟩ k => ⟨⟨old, k e (by simp) _ h1⟩, h2.at fun o q => k it (by simp) o q⟩
  item := by
    rintro X rfl rfl rfl hc i pins s σ H E I hf ⟨⟨old, h1⟩, h2⟩ ⟨xs, x, hq, hx⟩
    obtain ⟨its, rv, p, _⟩ := I.tuple hq
    obtain ⟨u, hu, ru⟩ := rv.get hx
    have le : e < s.heap.objs.size := Heap.lt_size h1
    refine py_nextE ⟨_, h1, rfl⟩ (enum_turn (l := a) (x := u) (srcT n3) h1 ⟨h2, p⟩ (by simpa using hu) n1 n2 fun h' eo ⟨ti, _⟩ pT off => ⟨_, rfl, wpAny_letOwnedTupleGo_enum (s := { s with heap := h', toks := s.toks + 1 }) eo fun h'' ge sb => ?_⟩)
    have off2 : ∀ c o, c ∉ [e, it] → s.heap.get? c = some o → h''.get? c = some o := fun c o n z => sb.extBut _ _ (fun q => n (by simp [q])) (off c n o z)
    have pT2 : h''.get? s.heap.objs.size = some { cls := .type "tuple", data := .seq #[.int i s.toks, u] } := (sb.2 _ (Nat.ne_of_gt le)).trans pT
    refine ⟨.ref s.heap.objs.size, _, I.turnedNew (t' := s.toks + 1) (ch := [e, it]) (ob := .tup [.int (i : Nat), x]) off2 hf (Nat.le_refl _) ⟨by show 2 ≤ sizeLine; decide, [.int i s.toks, u], .cons ⟨_, rfl⟩ (.cons ru .nil), ⟨_, pT2, rfl, _, rfl⟩⟩, rfl,
      ⟨_, x, rfl, I.hok.fresh (Nat.le_refl _), rfl, fun ys hy => by rw [I.tuple_inj hy hq]; exact hx⟩, ⟨⟨u, ?_⟩, ti.at fun o q => sb.extBut _ _ n1.symm q⟩, fun c m => ?_⟩
    · have z : ((i + 1 : Nat) : Int) = (i : Int) + 1 := by omega
      rw [z]
      exact ge
    · have lt : c ≠ s.heap.objs.size := by
        intro q
        obtain ⟨o, z, _⟩ : ∃ o, s.heap.get? c = some o ∧ True := by
          simp only [List.mem_cons, List.not_mem_nil, or_false] at m
          rcases m with rfl | rfl
          · exact ⟨_, h1, trivial⟩
          · exact h2.imp fun o z => ⟨z.1, trivial⟩
        exact Nat.lt_irrefl _ (q ▸ Heap.lt_size z)
      rw [upd_ne lt]
      exact (hf c m).1
  done := by
    rintro X rfl rfl rfl hc i pins s σ H E I hf ⟨⟨old, h1⟩, h2⟩ ⟨xs, hq, hx⟩
    obtain ⟨its, rv, p, _⟩ := I.tuple hq
    have n := rv.length
    refine py_nextE ⟨_, h1, rfl⟩ (enum_end (show X.A.in1.handled = none from I.ok.hd hc) (srcT n3) h1 ⟨h2, p⟩ (by simp; omega) fun h' a off hs => ⟨⟨a, hs.choose, rfl, hs.choose_spec⟩, rfl, I.turnedL (t' := s.toks) (ch := [e, it]) (fun c o n z => off c (fun q => n (by simp at q; simp [q])) o z) hf⟩)
  self := fun A i s Q E ⟨⟨_, h1⟩, _⟩ h => wpAny_pyIter_enum h1 h
def iEnumT (K : PySem.W.Frag) (ta : TA) : TI := fun σ H R => ta σ H fun vs H1 => ∃ a xs, vs = [.ref a] ∧ SqT K H1 a xs ∧ R (Itn K a) H1
theorem pi_enumT {X : Cx} {e : Expr} {ta : TA} {p pos tpos : Pos} {elts : List Expr} {kk : Nat} (hg : Gl X "enumerate") (hm : X.mg "enumerate" = none) (ha : PA X [e] ta) (hs : starEach [e] X.env = [(false, eval e X.env)]) :
    PI X (.Tuple elts kk tpos) (.Call (.Name "enumerate" p) [e] [] pos) (iEnumT X.K ta) := by
  refine ⟨fun pins s σ H R I h => Call_ (ld_blt I hg hm PyProof.Rows.boot_enumerate (PyProof.Rows.callWith_type1 (thn (ha.run pos pins s σ H _ I h) fun us s1 ⟨vs, H1, I1, r1, a, xs, ex, hx, q⟩ => ?_) hs rfl))⟩
  subst ex
  cases r1 with
  | cons ra r1 =>
    cases r1
    cases ra
    obtain ⟨its, rv, p1, _⟩ := I1.tuple hx
    have la : a < s1.heap.objs.size := by
      obtain ⟨o, z, _⟩ := id p1
      exact Heap.lt_size z
    refine call_enumT p1 fun h' h1 h2 up => wpAny_pyIter_enum h1 ⟨_, [s1.heap.objs.size + 1, s1.heap.objs.size], _, _, H1, rfl, I1.kept (t' := s1.toks) up, turnN a (s1.heap.objs.size + 1) s1.heap.objs.size (Nat.succ_ne_self _) (Nat.ne_of_lt (Nat.lt_succ_of_lt la)) (Nat.ne_of_lt la), ⟨⟨.none, h1⟩, h2⟩, fun c m => ?_, q⟩
    have le : s1.heap.objs.size ≤ c := by
      simp only [List.mem_cons, List.not_mem_nil, or_false] at m
      rcases m with rfl | rfl
      · exact Nat.le_add_right _ _
      · exact Nat.le_refl _
    exact I1.fpOk le (I1.hok.fresh le)
end Mp.Z

/-! Mp: a small evaluator over data trees. -/
namespace Mp
open PySem (Str PyData)

/-! data -/
/-- persistent data; `ref n` names the n-th shared cell; `scr` is the law's own argument -/
inductive D where
  | non | bl (b : Bool) | int (i : Int) | str (s : Str)
  | tup (xs : List D) | lst (xs : List D) | dct (ks vs : List D)
  | ins (c : Nat) (ns : List Nat) (vs : List D) | cls (c : Nat) | ty (n : String) | fn (f : Nat) | clo (i : Nat) (xs : List D)
  | ref (n : Nat) | scr (xs : List D)
deriving Inhabited

/-- a temporary: data, or a list that this frame alone holds -/
inductive Val where
  | d (x : D) | own (j : Nat)
deriving Inhabited

inductive Cell where
  | lst (xs : List D) | dct (ks vs : List D) | ins (c : Str) (ns : List Str) (vs : List D) | dead
deriving Inhabited

structure S where
  env : List (Option Val)
  fs : List Cell
  gs : List Cell

structure Ex where
  c : Str
  ns : List Str
  vs : List D

inductive R (α : Type) where
  | ok (a : α) (s : S) | ex (e : Ex) (s : S) | bad
inductive RG where
  | ok (d : D) (gs : List Cell) | ex (e : Ex) (gs : List Cell) | bad

/-- as bind, but nothing may be raised -/
@[simp] def R.bindN {α β : Type} (r : R α) (f : α → S → R β) : R β :=
  match r with
  | .ok a s => f a s
  | _ => .bad
@[simp] def R.bind {α β : Type} (r : R α) (f : α → S → R β) : R β :=
  match r with
  | .ok a s => f a s
  | .ex e s => .ex e s
  | .bad => .bad

mutual
def D.same : D → D → Bool
  | .non, .non => true
  | .bl a, .bl b => a == b
  | .int a, .int b => decide (a = b)
  | .str a, .str b => decide (a = b)
  | .tup a, .tup b => D.sames a b
  | _, _ => false
def D.sames : List D → List D → Bool
  | [], [] => true
  | x :: xs, y :: ys => D.same x y && D.sames xs ys
  | _, _ => false
end
mutual
theorem D.same_eq : ∀ (a b : D), D.same a b = true → a = b
  | .non, .non, _ => rfl
  | .bl a, .bl b, h => by simp only [D.same, beq_iff_eq] at h; rw [h]
  | .int a, .int b, h => by simp only [D.same, decide_eq_true_eq] at h; rw [h]
  | .str a, .str b, h => by simp only [D.same, decide_eq_true_eq] at h; rw [h]
  | .tup a, .tup b, h => by simp only [D.same] at h; rw [D.sames_eq a b h]
theorem D.sames_eq : ∀ (a b : List D), D.sames a b = true → a = b
  | [], [], _ => rfl
  | x :: xs, y :: ys, h => by
    simp only [D.sames, Bool.and_eq_true] at h
    rw [D.same_eq x y h.1, D.sames_eq xs ys h.2]
end
/-! ### data as the library's data -/
mutual
def D.py : D → Option PyData
  | .non => some .none
  | .bl b => some (.bool b)
  | .int i => some (.int i)
  | .str x => some (.str x)
  | .tup xs => (D.pys xs).map .tuple
  | .lst xs => (D.pys xs).map .list
  | .scr xs => (D.pys xs).map .list
  | _ => none
def D.pys : List D → Option (List PyData)
  | [] => some []
  | x :: xs => match x.py, D.pys xs with
    | some a, some l => some (a :: l)
    | _, _ => none
end

/-- the items of a list or tuple (true: a list) -/
def seqv (v : Val) (s : S) : Option (Bool × List D) :=
  match v with
  | .d (.lst xs) => some (true, xs)
  | .d (.tup xs) => some (false, xs)
  | .d (.scr xs) => some (true, xs)
  | .own j => match s.fs[j]? with
    | some (.lst xs) => some (true, xs)
    | _ => none
  | .d (.ref n) => match s.gs[n]? with
    | some (.lst xs) => some (true, xs)
    | _ => none
  | _ => none

/-- the items of a list that is not the law's argument -/
def lsto (v : Val) (s : S) : Option (List D) :=
  match v with
  | .d (.lst xs) => some xs
  | .own j => match s.fs[j]? with
    | some (.lst xs) => some xs
    | _ => none
  | .d (.ref n) => match s.gs[n]? with
    | some (.lst xs) => some xs
    | _ => none
  | _ => none

def Val.py (v : Val) (s : S) : Option PyData :=
  match v with
  | .d (.ref n) => match s.gs[n]? with
    | some (.lst xs) => (D.pys xs).map .list
    | _ => none
  | .own j => match s.fs[j]? with
    | some (.lst xs) => (D.pys xs).map .list
    | _ => none
  | .d x => x.py

inductive Bo where
  | add | sub | mul | fdiv | mod | pow
deriving DecidableEq
inductive Co where
  | eq | ne | lt | le | gt | ge | is | isnot | in_ | notin
deriving DecidableEq
inductive Tg where
  | str | int | bool | tup | lst | dct | own (c : Nat)
deriving DecidableEq
/-- built-in functions, methods -/
inductive Bf where
  | len | int | abs | max | min | str | tuple | all | any | sum | bool
deriving DecidableEq
inductive Bm where
  | join | append | pop
deriving DecidableEq

def LINE : Nat := 1000000
/-- numbers that may be multiplied, divided by -/
def BIG : Nat := 2 ^ 9000
def okI (i : Int) : Bool := decide (i.natAbs < BIG)


/-! ### operators -/
def binop (op : Bo) (x y : Val) (s : S) : R Val :=
  match op, x, y with
  | .add, .d (.int i), .d (.int j) => .ok (.d (.int (i + j))) s
  | .sub, .d (.int i), .d (.int j) => .ok (.d (.int (i - j))) s
  | .mul, .d (.int i), .d (.int j) => if okI i && okI j then .ok (.d (.int (i * j))) s else .bad
  | .fdiv, .d (.int i), .d (.int j) => if decide (0 < j) && okI j then .ok (.d (.int (i / j))) s else .bad
  | .mod, .d (.int i), .d (.int j) => if decide (0 < j) then .ok (.d (.int (i % j))) s else .bad
  | .pow, .d (.int i), .d (.int j) => if decide (0 ≤ j) && decide (j ≤ 1000) && okI i then .ok (.d (.int (i ^ j.toNat))) s else .bad
  | .add, .d (.str a), .d (.str b) => if a.length + b.length ≤ LINE then .ok (.d (.str (a ++ b))) s else .bad
  | .add, .d (.tup xs), .d (.tup ys) => if xs.length + ys.length ≤ LINE then .ok (.d (.tup (xs ++ ys))) s else .bad
  | .add, x, y => match lsto x s, lsto y s with
    | some xs, some ys => if xs.length + ys.length ≤ LINE then .ok (.d (.lst (xs ++ ys))) s else .bad
    | _, _ => .bad
  | _, _, _ => .bad

def eqVal (x y : Val) (s : S) : Option Bool :=
  match x.py s, y.py s with
  | some a, some b => if min a.depth b.depth ≤ 100 then some (PyData.eqv a b) else none
  | _, _ => match seqv x s, seqv y s with
    | some (true, xs), some (true, ys) => if xs.length = ys.length then none else some false
    | some (false, _ :: _), some (false, []) => some false
    | _, _ => none

def inSeq (a : PyData) : List PyData → Bool := fun l => l.any fun y => PyData.eqv y a
def inVal (x y : Val) (s : S) : Option Bool :=
  match x, y with
  | .d (.str a), .d (.str b) => if a.length = 1 then (a.cps[0]?).map fun c => decide (c ∈ b.cps.toList) else none
  | x, y => match x.py s, seqv y s with
    | some a, some (_, ys) => match D.pys ys with
      | some l => if a.depth ≤ 100 then some (inSeq a l) else none
      | none => none
    | _, _ => none

def isVal (x y : Val) : Option Bool :=
  match x, y with
  | .d .non, .d .non => some true
  | .d (.bl a), .d (.bl b) => some (a == b)
  | .d (.bl _), .d .non => some false
  | .d (.int _), .d .non => some false
  | .d (.str _), .d .non => some false
  | .d (.tup _), .d .non => some false
  | .d (.lst _), .d .non => some false
  | .d (.dct _ _), .d .non => some false
  | .d (.ins _ _ _), .d .non => some false
  | .d (.ref _), .d .non => some false
  | .own _, .d .non => some false
  | _, _ => none

def ordI (op : Co) (i j : Int) : Option Bool :=
  match op with
  | .lt => some (decide (i < j))
  | .le => some (decide (i ≤ j))
  | .gt => some (decide (j < i))
  | .ge => some (decide (j ≤ i))
  | _ => none

def ordS (op : Co) (a b : Str) : Option Bool :=
  match op with
  | .lt => some (decide (a.cps.toList < b.cps.toList))
  | .le => some (!decide (b.cps.toList < a.cps.toList))
  | .gt => some (decide (b.cps.toList < a.cps.toList))
  | .ge => some (!decide (a.cps.toList < b.cps.toList))
  | _ => none

def cmpop (op : Co) (x y : Val) (s : S) : Option Bool :=
  match op with
  | .eq => eqVal x y s
  | .ne => (eqVal x y s).map (!·)
  | .is => isVal x y
  | .isnot => (isVal x y).map (!·)
  | .in_ => inVal x y s
  | .notin => (inVal x y s).map (!·)
  | op => match x, y with
    | .d (.int i), .d (.int j) => ordI op i j
    | .d (.str a), .d (.str b) => ordS op a b
    | _, _ => none

def truth (v : Val) (s : S) : Option Bool :=
  match v with
  | .d .non => some false
  | .d (.bl b) => some b
  | .d (.int i) => some (i != 0)
  | .d (.str x) => if x.length ≤ LINE then some (x.length != 0) else none
  | v => (seqv v s).map fun p => !p.2.isEmpty

def optR {α : Type} (o : Option α) (s : S) : R α :=
  match o with
  | some a => .ok a s
  | none => .bad

/-- an index of any sign -/
def atI {α : Type} (xs : List α) (i : Int) : Option α :=
  if 0 ≤ i then xs[i.toNat]? else if i + xs.length < 0 then none else xs[(i + xs.length).toNat]?

def subVal (x i : Val) (s : S) : Option Val :=
  match x, i with
  | .d (.str a), .d (.int k) => if a.length ≤ LINE then (atI a.cps.toList k).map fun c => .d (.str ⟨#[c]⟩) else none
  | x, .d (.int k) => match seqv x s with
    | some (_, xs) => (atI xs k).map .d
    | none => none
  | _, _ => none

/-- xs[lo:hi] -/
def cutD (xs : List D) (lo hi : Option Int) : List D := (xs.drop (HT.sIx xs.length 0 lo)).take (HT.sIx xs.length xs.length hi - HT.sIx xs.length 0 lo)
def revV (x : Val) (s : S) : Option Val :=
  match seqv x s with
  | some (true, xs) => some (.d (.lst xs.reverse))
  | some (false, xs) => some (.d (.tup xs.reverse))
  | none => none
def slVal (x : Val) (lo hi : Option Int) (s : S) : Option Val :=
  match x with
  | .d (.str z) => if z.length ≤ LINE then some (.d (.str (L2.cutS z lo hi))) else none
  | .d (.tup xs) => some (.d (.tup (cutD xs lo hi)))
  | x => match seqv x s with
    | some (true, xs) => some (.d (.lst (cutD xs lo hi)))
    | _ => none

def isTag (cs : List Str) (v : Val) (s : S) (t : Tg) : Option Bool :=
  match v with
  | .own j => match s.fs[j]? with
    | some (.lst _) => some (t == .lst)
    | _ => none
  | .d (.ref n) => match s.gs[n]? with
    | some (.lst _) => some (t == .lst)
    | some (.ins c _ _) => if c ∈ cs then some false else none
    | _ => none
  | .d .non => some false
  | .d (.bl _) => some (t == .bool || t == .int)
  | .d (.int _) => some (t == .int)
  | .d (.str _) => some (t == .str)
  | .d (.tup _) => some (t == .tup)
  | .d (.lst _) => some (t == .lst)
  | .d (.scr _) => some (t == .lst)
  | .d (.dct _ _) => some (t == .dct)
  | _ => none

/-! ### built-ins -/
def allB : List D → Option (List Bool)
  | [] => some []
  | .bl b :: r => (allB r).map (b :: ·)
  | _ => none
def allI : List D → Option (List Int)
  | [] => some []
  | .int x :: r => (allI r).map (x :: ·)
  | _ => none
def allS : List D → Option (List Str)
  | [] => some []
  | .str x :: r => (allS r).map (x :: ·)
  | _ => none
def toDs : List Val → Option (List D)
  | [] => some []
  | .d x :: r => (toDs r).map (x :: ·)
  | _ => none

/-- the keys of a plain dict as data -/
def keyD : L2.Key → D
  | .inl i => .int i
  | .inr x => .str x
/-- key, value, key, value .. -/
def pairsK : List D → Option (List (L2.Key × D))
  | [] => some []
  | .int i :: v :: r => (pairsK r).map ((.inl i, v) :: ·)
  | .str x :: v :: r => (pairsK r).map ((.inr x, v) :: ·)
  | _ => none
def nodupK (l : List L2.Key) : Bool := decide l.Nodup

def bfn (b : Bf) (vs : List Val) (s : S) : R Val :=
  match b, vs with
  | .len, [.d (.str x)] => if x.length ≤ LINE then .ok (.d (.int x.length)) s else .bad
  | .len, [v] => match seqv v s with
    | some (_, xs) => .ok (.d (.int xs.length)) s
    | none => .bad
  | .int, [.d (.int i)] => .ok (.d (.int i)) s
  | .int, [.d (.bl b)] => .ok (.d (.int (if b then 1 else 0))) s
  | .abs, [.d (.int i)] => .ok (.d (.int (if i < 0 then -i else i))) s
  | .max, [.d (.int i), .d (.int j)] => .ok (.d (.int (if j > i then j else i))) s
  | .max, [v] => match seqv v s with
    | some (true, xs) => match allI xs with
      | some (n :: ns) => .ok (.d (.int (ns.foldl (fun a b => if a < b then b else a) n))) s
      | _ => .bad
    | _ => .bad
  | .min, [.d (.int i), .d (.int j)] => .ok (.d (.int (if j < i then j else i))) s
  | .str, [.d (.int i)] => if i.natAbs.log2 < 1900 then .ok (.d (.str (Str.ofString (toString i)))) s else .bad
  | .tuple, [.d (.tup xs)] => .ok (.d (.tup xs)) s
  | .tuple, [v] => match seqv v s with
    | some (_, xs) => .ok (.d (.tup xs)) s
    | none => .bad
  | .all, [v] => match seqv v s with
    | some (true, xs) => match allB xs with
      | some bs => .ok (.d (.bl (bs.all id))) s
      | none => .bad
    | _ => .bad
  | .any, [v] => match seqv v s with
    | some (true, xs) => match allB xs with
      | some bs => .ok (.d (.bl (bs.any id))) s
      | none => .bad
    | _ => .bad
  | _, _ => .bad

def bmth (m : Bm) (x : Val) (vs : List Val) (s : S) : R Val :=
  match m, x, vs with
  | .join, .d (.str sep), [v] => match seqv v s with
    | some (true, xs) => match allS xs with
      | some ss => if (ss.map (·.length)).sum + ss.length * sep.length ≤ LINE then .ok (.d (.str (PySem.Builtin.Str.glued sep ss))) s else .bad
      | none => .bad
    | _ => .bad
  | .append, .own j, [.d d] => match s.fs[j]? with
    | some (.lst xs) => if xs.length < LINE then .ok (.d .non) { s with fs := s.fs.set j (.lst (xs ++ [d])) } else .bad
    | _ => .bad
  | .append, .d (.ref n), [.d d] => match s.gs[n]? with
    | some (.lst xs) => if xs.length < LINE then .ok (.d .non) { s with gs := s.gs.set n (.lst (xs ++ [d])) } else .bad
    | _ => .bad
  | .pop, .own j, [.d (.int i)] => match s.fs[j]? with
    | some (.lst xs) => if 0 ≤ i ∧ i ≤ (LINE : Int) then match xs[i.toNat]? with
      | some d => .ok (.d d) { s with fs := s.fs.set j (.lst (xs.eraseIdx i.toNat)) }
      | none => .bad
      else .bad
    | _ => .bad
  | .pop, .d (.ref n), [.d (.int i)] => match s.gs[n]? with
    | some (.lst xs) => if 0 ≤ i ∧ i ≤ (LINE : Int) then match xs[i.toNat]? with
      | some d => .ok (.d d) { s with gs := s.gs.set n (.lst (xs.eraseIdx i.toNat)) }
      | none => .bad
      else .bad
    | _ => .bad
  | _, _, _ => .bad

/-- has it such a method? -/
def recv (m : Bm) (x : Val) (s : S) : Bool :=
  match m, x with
  | .join, .d (.str _) => true
  | .join, _ => false
  | _, x => (lsto x s).isSome

/-- x[i] = v -/
def setIx (x i v : Val) (s : S) : R Unit :=
  match x, i, v with
  | .own j, .d (.int k), .d d => match s.fs[j]? with
    | some (.lst xs) => if 0 ≤ k && decide (k < xs.length) then .ok () { s with fs := s.fs.set j (.lst (xs.set k.toNat d)) } else .bad
    | _ => .bad
  | .d (.ref n), .d (.int k), .d d => match s.gs[n]? with
    | some (.lst xs) => if 0 ≤ k && decide (k < xs.length) then .ok () { s with gs := s.gs.set n (.lst (xs.set k.toNat d)) } else .bad
    | _ => .bad
  | _, _, _ => .bad

/-! ### syntax -/
/-- what a def that calls a lambda hands back: a constant, what was handed to it, a pair of both -/
inductive MOk where
  | con (d : D) | self | pair (d : D)
deriving Inhabited
inductive E where
  | cst (d : D) | var (i : Nat) | gc (d : D)
  | tup (es : E) | fz (f : E) | mk (f : E) | gl (f : E) | dct (kvs : E)
  | bin (op : Bo) (a b : E) | cmp (op : Co) (a b : E) | chain (o1 o2 : Co) (a b c : E)
  | and_ (a b : E) | or_ (a b : E) | not_ (a : E) | ife (t a b : E) | neg (a : E)
  | sub (a i : E) | call (f : Nat) (es : E) | bm (m : Bm) (a es : E) | bf (b : Bf) (es : E) | isi (cs : List Str) (a : E) (t : Tg)
  | lst (es : E) | lc (own : List Nat) (tg : List Nat) (it cnd elt : E) | lof (e : E) | cat (a b : E)
  | it (e : E) | rng (es : E) | zip (es : E) | enm (es : E)
  | sl (a lo hi : E) | rev (a : E) | tupS (a es : E) | umd (tab : List (Str × Nat)) (m : Str) (a : E) (ds : List D)
  | att (cs : List Str) (f : Str) (a : E) | prp (tab : List (Str × Nat)) (f : Str) (a : E) | um (tab : List (Str × Nat)) (m : Str) (a es : E) | nw (c : Str) (f : Nat) (es : E)
  | lset (a : E) | srt (a : E) | oq (neg : Bool) (tab : List (Str × Nat)) (a b : E) | nwk (c : Str) (f n : Nat) (pat : List Bool) (ds : List D) (ks : List Str) (es kes : E) | stc (c m : Str) (f : Nat) (es : E)
  | isC (cs : List Str) (a : E) (c : Str) | ccs (c n : Str) (d : D) | lor (a : E)
  | met (f : Nat) (e : E) (ok : MOk) (hs : E) | hdE (c : Str) (subs : List Str) (i : Option Nat) (he r : E)
  | callk (f n : Nat) (pat : List (Option Nat)) (ds : List D) (ks : List Str) (es kes : E) | lc2 (own tg : List Nat) (it : E) (tg1 : List Nat) (it1 elt : E) | jst (right : Bool) (a i f : E) | spl (a b : E)
  | rpr (a : E) | tor (a : E) | rep (a b : E) | insm (a i x : E)
  | nil | cons (h t : E)
deriving Inhabited

/-- what is stored to -/
inductive Tgt where
  | nm (i : Nat) | ix (a i : E) | fd (cs : List Str) (f : Str) (a : E)
deriving Inhabited

inductive T where
  | asg (i : Nat) (e : E) | par (i j : Nat) (a b : E) | seti (a i e : E)
  | ite (t : E) (b o : T) | for_ (tg : List Nat) (it : E) (b : T) | while_ (t : E) (b : T)
  | ret (e : E) | retN | exp (e : E) | brk | cnt | pass | rs
  | par3 (i j l : Nat) (a b c : E) | parn (tg : List Nat) (es : E) | unp (tg : List Nat) (e : E) | frz (i : Nat) (t : T) | seta (cs : List Str) (f : Str) (a e : E)
  | nil | cons (h t : T) | tgs (gs : List Tgt) (es : E)
  | rsx (c : Str) (np : Nat) (fl : List (Str × Nat)) (es : E) | tryx (b hs : T) | hd (c : Str) (subs : List Str) (i : Option Nat) (he : E) (r : T)
deriving Inhabited

inductive Fl where
  | nx | rt (v : Val) | bk | ct

abbrev Callee := Nat → List D → List Cell → RG

def wipeE (e : List (Option Val)) : List Nat → List (Option Val)
  | [] => e
  | v :: vs => (wipeE e vs).set v none

/-- names bound: one name, or a tuple of names -/
def bindTs (tg : List Nat) (x : D) (s : S) : Option S :=
  match tg with
  | [i] => some { s with env := s.env.set i (some (.d x)) }
  | tg => match x with
    | .tup xs => if xs.length = tg.length then some { s with env := (tg.zip xs).foldl (fun e p => e.set p.1 (some (.d p.2))) s.env } else none
    | _ => none

def setAll (tg : List Nat) (vs : List Val) (e : List (Option Val)) : List (Option Val) := (tg.zip vs).foldl (fun e p => e.set p.1 (some p.2)) e
def getVar (i : Nat) (s : S) : R Val :=
  match s.env[i]? with
  | some (some v) => .ok v s
  | _ => .bad

def callR (Γ : Callee) (f : Nat) (vs : List Val) (s : S) : R Val :=
  match toDs vs with
  | some ds => match Γ f ds s.gs with
    | .ok d gs => .ok (.d d) { s with gs := gs }
    | .ex e gs => .ex e { s with gs := gs }
    | .bad => .bad
  | none => .bad

/-! instances: shared cells -/
def insOf (v : Val) (s : S) : Option (Nat × Str × List Str × List D) :=
  match v with
  | .d (.ref n) => match s.gs[n]? with
    | some (.ins c ns vs) => some (n, c, ns, vs)
    | _ => none
  | _ => none
def lookF (f : Str) : List Str → List D → Option D
  | g :: ns, v :: vs => if g = f then some v else lookF f ns vs
  | _, _ => none
def putN (f : Str) : List Str → List Str
  | [] => [f]
  | g :: ns => if g = f then g :: ns else g :: putN f ns
def putD (f : Str) (d : D) : List Str → List D → List D
  | g :: ns, v :: vs => if g = f then d :: vs else v :: putD f d ns vs
  | _, _ => [d]
def attV (cs : List Str) (f : Str) (v : Val) (s : S) : Option Val :=
  match insOf v s with
  | some (_, c, ns, vs) => if c ∈ cs then (lookF f ns vs).map .d else none
  | none => none
/-- the method of an instance -/
def methV (tab : List (Str × Nat)) (m : Str) (v : Val) (s : S) : Option Nat :=
  match insOf v s with
  | some (_, c, ns, _) => if m ∈ ns then none else tab.lookup c
  | none => none
def newR (Γ : Callee) (c : Str) (f : Nat) (vs : List Val) (s : S) : R Val :=
  (callR Γ f (.d (.ref s.gs.length) :: vs) { s with gs := s.gs ++ [.ins c [] []] }).bind fun v s1 => match v with
    | .d .non => .ok (.d (.ref s.gs.length)) s1
    | _ => .bad
/-- the values of keyword-only parameters: a default (true) or what is given -/
def fillV {α : Type} : List Bool → List α → List α → List α
  | true :: p, d :: ds, zs => d :: fillV p ds zs
  | false :: p, ds, z :: zs => z :: fillV p ds zs
  | _, _, _ => []
/-- the same, the keywords in any order -/
def fillK {α : Type} : List (Option Nat) → List α → List α → List α
  | none :: p, d :: ds, zs => d :: fillK p ds zs
  | some j :: p, ds, zs => match zs[j]? with
    | some z => z :: fillK p ds zs
    | none => []
  | _, _, _ => []
/-- x.rjust(i, f), x.ljust(i, f) -/
def padS (right : Bool) (x : Str) (n c : Nat) : Str := ⟨(if right then List.replicate (n - x.length) c ++ x.cps.toList else x.cps.toList ++ List.replicate (n - x.length) c).toArray⟩
def jstV (right : Bool) (x i f : Val) : Option Val := match x, i, f with
  | .d (.str x), .d (.int i), .d (.str f) => if f.length = 1 ∧ x.length ≤ 1000 ∧ 0 ≤ i ∧ i ≤ 1000 then some (.d (.str (padS right x i.toNat (f.cps.getD 0 0)))) else none
  | _, _, _ => none
/-- x.split(y) -/
def splV (x y : Val) : Option (List D) := match x, y with
  | .d (.str x), .d (.str y) => if y.length ≠ 0 ∧ x.length + 2 ≤ LINE then some ((PySem.Txt.split x y).map D.str) else none
  | _, _ => none
/-! tuples of data as keys -/
mutual
def keyN : D → Option PySem.NestedKey
  | .non => some .none
  | .bl b => some (.num (if b = true then 1 else 0))
  | .int i => some (.num i)
  | .str x => some (.text x)
  | .tup xs => (keysN xs).map .tup
  | _ => none
def keysN : List D → Option (List PySem.NestedKey)
  | [] => some []
  | x :: xs => match keyN x, keysN xs with
    | some k, some ks => some (k :: ks)
    | _, _ => none
end
def isTup : D → Bool
  | .tup _ => true
  | _ => false
/-- len(set(v)), v a tuple of tuples -/
def lsetV (v : Val) : Option Val :=
  match v with
  | .d (.tup xs) => if xs.length ≤ 4 && xs.all isTup then match keysN xs with
      | some ks => if ks.all (fun k => decide (k.depth ≤ 8)) then some (.d (.int (Ns.uniq ks).length)) else none
      | none => none
    else none
  | _ => none
def pyG (d : D) : PyData := d.py.getD .none
def fullT : PyData → Bool
  | .tuple (_ :: _) => true
  | _ => false
def noT : PyData → Bool
  | .tuple _ => false
  | .none => false
  | _ => true
def leD : D → D → Bool := PySem.W.dataLe false pyG
def sortB (ds : List PyData) : Bool := ds.all (fun d => decide (d.depth ≤ 100)) && ds.all (fun d => ds.all (PySem.W.alike d)) && (ds.all fullT || ds.all noT)
/-- sorted(v) -/
def srtV (v : Val) (s : S) : Option Val :=
  match seqv v s with
  | some (_, xs) => if xs.length ≤ LINE then match D.pys xs with
      | some ds => if sortB ds then some (.d (.lst (xs.mergeSort leD))) else none
      | none => none
    else none
  | none => none
/-- isinstance(v, c), c a class of the program -/
def isCls (cs : List Str) (c : Str) (v : Val) (s : S) : Option Bool :=
  match v with
  | .own j => match s.fs[j]? with
    | some (.lst _) => some false
    | _ => none
  | .d (.ref n) => match s.gs[n]? with
    | some (.lst _) => some false
    | some (.ins d _ _) => if d ∈ cs then some (decide (d = c)) else none
    | _ => none
  | .d .non => some false
  | .d (.bl _) => some false
  | .d (.int _) => some false
  | .d (.str _) => some false
  | .d (.tup _) => some false
  | .d (.lst _) => some false
  | .d (.scr _) => some false
  | .d (.dct _ _) => some false
  | _ => none
/-- which values may stand beside an own == -/
def eqBy (cs : List Str) (u : Val) (s : S) : Bool :=
  match u with
  | .own j => match s.fs[j]? with
    | some (.lst _) => true
    | _ => false
  | .d (.ref n) => match s.gs[n]? with
    | some (.lst _) => true
    | some (.ins c _ _) => decide (c ∈ cs)
    | _ => false
  | .d .non => true
  | .d (.bl _) => true
  | .d (.int _) => true
  | .d (.str _) => true
  | .d (.tup _) => true
  | .d (.lst _) => true
  | .d (.scr _) => true
  | .d (.dct _ _) => true
  | _ => false
/-- o.f = v -/
def setAtt (cs : List Str) (f : Str) (o v : Val) (s : S) : R Unit :=
  match insOf o s, v with
  | some (n, c, ns, vs), .d d => if c ∈ cs ∧ ns.length < 100 then .ok () { s with gs := s.gs.set n (.ins c (putN f ns) (putD f d ns vs)) } else .bad
  | _, _ => .bad

/-! an except clause: return of a value made of constants and the error's fields -/
def plainD : D → Bool
  | .non => true
  | .bl _ => true
  | .int _ => true
  | .str _ => true
  | _ => false
/-- repr(v) -/
def shownD : D → Option Str
  | .non => some "None"
  | .bl b => some (if b = true then "True" else "False")
  | .int i => if i.natAbs.log2 < 1900 then some (Str.ofString (toString i)) else none
  | .str x => if (PySem.reprText x).length ≤ LINE then some (PySem.reprText x) else none
  | _ => none
def rprV (v : Val) : Option Val := match v with
  | .d x => (shownD x).map fun z => .d (.str z)
  | .own _ => none
mutual
def hvE (e : Ex) : E → Option D
  | .bin .add a b => match hvE e a, hvE e b with
    | some (.str x), some (.str y) => if x.length + y.length ≤ LINE then some (.str (x ++ y)) else none
    | _, _ => none
  | .rpr a => (hvE e a).bind fun v => (shownD v).map D.str
  | .cst d => if plainD d then some d else none
  | .att _ f _ => lookF f e.ns e.vs
  | .fz (.lst es) => (hvL e es).bind fun l => if l.length ≤ LINE then some (.lst l) else none
  | .tup es => (hvL e es).bind fun l => if l.length ≤ LINE then some (.tup l) else none
  | _ => none
def hvL (e : Ex) : E → Option (List D)
  | .nil => some []
  | .cons h t => (hvE e h).bind fun x => (hvL e t).map (x :: ·)
  | _ => none
end
def clrS (s : S) : Option Nat → S
  | none => s
  | some i => { s with env := s.env.set i none }
def hnd : T → Ex → S → R Fl
  | .hd _ subs i he r, e, s => if e.c ∈ subs then match hvE e he with
      | some d => .ok (.rt (.d d)) (clrS s i)
      | none => .bad
    else hnd r e s
  | .nil, e, s => .ex e s
  | _, _, _ => .bad
/-- the clauses of a def that calls a lambda -/
def hsT : E → T
  | .hdE c subs i he r => .hd c subs i he (hsT r)
  | _ => .nil
def okV : MOk → D → D
  | .con d, _ => d
  | .self, v => v
  | .pair d, v => .tup [d, v]
def repL (n : Nat) (xs : List D) : List D := (List.replicate n xs).flatten
def strRep (n : Nat) (x : Str) : Str := ⟨(List.replicate n x.cps).foldl (· ++ ·) #[]⟩
def repV (x k : Val) (s : S) : Option Val := match x, k with
  | .d (.str x), .d (.int k) => if 0 ≤ k ∧ k ≤ 1000 ∧ x.length ≤ 1000 then some (.d (.str (strRep k.toNat x))) else none
  | .d (.tup xs), .d (.int k) => if 2 ≤ k ∧ k ≤ 1000 ∧ xs.length ≤ 1000 ∧ xs ≠ [] then some (.d (.tup (repL k.toNat xs))) else none
  | .d (.lst xs), .d (.int k) => if 0 ≤ k ∧ k ≤ 1000 ∧ xs.length ≤ 1000 then some (.d (.lst (repL k.toNat xs))) else none
  | _, _ => none
/-- a.insert(i, x) -/
def insV (x i v : Val) (s : S) : R Val := match x, i, v with
  | .own j, .d (.int k), .d d => match s.fs[j]? with
    | some (.lst xs) => if xs.length < LINE ∧ 0 ≤ k ∧ k ≤ (LINE : Int) then .ok (.d .non) { s with fs := s.fs.set j (.lst (xs.take k.toNat ++ d :: xs.drop k.toNat)) } else .bad
    | _ => .bad
  | _, _, _ => .bad
/-- one list after another, in frames whose own names are wiped each time -/
def lcGo (env : List (Option Val)) (tg : List Nat) (cnd : S → R Bool) (elt : S → R Val) : List D → S → R (List D)
  | [], s => .ok [] s
  | x :: r, s => match bindTs tg x { s with env := env } with
    | none => .bad
    | some s1 => (cnd s1).bindN fun b s2 =>
      if b then (elt s2).bindN fun v s3 => match v with
        | .d y => (lcGo env tg cnd elt r s3).bind fun ys s4 => .ok (y :: ys) s4
        | .own _ => .bad
      else lcGo env tg cnd elt r s2

/-- two fors in one comprehension, the second walks a tuple -/
def lc2Go (env : List (Option Val)) (tg tg1 : List Nat) (it1 elt : S → R Val) : List D → S → R (List D)
  | [], s => .ok [] s
  | x :: r, s => match bindTs tg x { s with env := env } with
    | none => .bad
    | some s1 => (it1 s1).bindN fun v s2 => match v with
      | .d (.tup xs) => if xs.length ≤ 1000 then (lcGo (wipeE s2.env tg1) tg1 (fun s => .ok true s) elt xs s2).bindN fun ys s3 => (lc2Go env tg tg1 it1 elt r s3).bindN fun zs s4 => .ok (ys ++ zs) s4 else .bad
      | _ => .bad

def rngL (lo hi : Int) : List D := (List.range (hi - lo).toNat).map fun (i : Nat) => .int (lo + i)
def rngV (vs : List Val) (s : S) : R (List D) :=
  match vs with
  | [.d (.int n)] => if decide (-LINE ≤ n) && decide (n ≤ LINE) then .ok (rngL 0 n) s else .bad
  | [.d (.int a), .d (.int b)] => if decide (-LINE ≤ a) && decide (a ≤ LINE) && decide (-LINE ≤ b) && decide (b ≤ LINE) then .ok (rngL a b) s else .bad
  | _ => .bad

def pairD (x y : D) : D := .tup [x, y]
def zipD (xs ys : List D) : List D := (xs.zip ys).map fun p => .tup [p.1, p.2]
def zipV (vs : List Val) (s : S) : R (List D) :=
  match vs with
  | [.d (.lst xs), .d (.lst ys)] => .ok (zipD xs ys) s
  | [.d (.tup xs), .d (.tup ys)] => .ok (zipD xs ys) s
  | [.d (.lst xs), .d (.tup ys)] => .ok (zipD xs ys) s
  | _ => .bad
def enmD (n : Nat) : List D → List D
  | [] => []
  | x :: r => .tup [.int n, x] :: enmD (n + 1) r
def enmV (vs : List Val) (s : S) : R (List D) :=
  match vs with
  | [.d (.lst xs)] => .ok (enmD 0 xs) s
  | [.d (.tup xs)] => .ok (enmD 0 xs) s
  | _ => .bad

mutual
def ev (Γ : Callee) : E → S → R Val
  | .cst d, s => .ok (.d d) s
  | .var i, s => getVar i s
  | .gc d, s => .ok (.d d) s
  | .tup es, s => (evs Γ es s).bind fun vs s => match toDs vs with
    | some ds => if ds.length ≤ LINE then .ok (.d (.tup ds)) s else .bad
    | none => .bad
  | .fz f, s => (evF Γ f s).bind fun xs s => .ok (.d (.lst xs)) s
  | .mk f, s => (evF Γ f s).bind fun xs s => .ok (.own s.fs.length) { s with fs := s.fs ++ [.lst xs] }
  | .gl f, s => (evF Γ f s).bind fun xs s => .ok (.d (.ref s.gs.length)) { s with gs := s.gs ++ [.lst xs] }
  | .dct kvs, s => (evs Γ kvs s).bindN fun vs s => match toDs vs with
    | some ds => match pairsK ds with
      | some kvs => if kvs.length ≤ 15 && nodupK (kvs.map Prod.fst) then .ok (.d (.dct (kvs.map fun p => keyD p.1) (kvs.map Prod.snd))) s else .bad
      | none => .bad
    | none => .bad
  | .bin op a b, s => (ev Γ a s).bind fun x s => (ev Γ b s).bind fun y s => binop op x y s
  | .cmp op a b, s => (ev Γ a s).bind fun x s => (ev Γ b s).bind fun y s => (optR (cmpop op x y s) s).bind fun b s => .ok (.d (.bl b)) s
  | .chain o1 o2 a b c, s => (ev Γ a s).bind fun x s => (ev Γ b s).bind fun y s => (optR (cmpop o1 x y s) s).bind fun k s =>
      if k then (ev Γ c s).bind fun z s => (optR (cmpop o2 y z s) s).bind fun b s => .ok (.d (.bl b)) s else .ok (.d (.bl false)) s
  | .and_ a b, s => (ev Γ a s).bind fun x s => (optR (truth x s) s).bind fun k s => if k then ev Γ b s else .ok x s
  | .or_ a b, s => (ev Γ a s).bind fun x s => (optR (truth x s) s).bind fun k s => if k then .ok x s else ev Γ b s
  | .not_ a, s => (ev Γ a s).bind fun x s => (optR (truth x s) s).bind fun k s => .ok (.d (.bl (!k))) s
  | .ife t a b, s => (evT Γ t s).bind fun k s => if k then ev Γ a s else ev Γ b s
  | .neg a, s => (ev Γ a s).bind fun x s => match x with
    | .d (.int i) => .ok (.d (.int (-i))) s
    | _ => .bad
  | .sub a i, s => (ev Γ a s).bind fun x s => (ev Γ i s).bind fun y s => optR (subVal x y s) s
  | .call f es, s => (evs Γ es s).bind fun vs s => callR Γ f vs s
  | .bm m a es, s => (ev Γ a s).bind fun x s => if recv m x s = true then (evs Γ es s).bind fun vs s => bmth m x vs s else .bad
  | .bf b es, s => (evs Γ es s).bind fun vs s => bfn b vs s
  | .isi cs a t, s => (ev Γ a s).bind fun x s => (optR (isTag cs x s t) s).bind fun b s => .ok (.d (.bl b)) s
  | .sl a lo hi, s => (ev Γ a s).bind fun x s => (evO Γ lo s).bind fun l s => (evO Γ hi s).bind fun h s => optR (slVal x l h s) s
  | .att cs f a, s => (ev Γ a s).bind fun v s => optR (attV cs f v s) s
  | .prp tab f a, s => (ev Γ a s).bind fun v s => match methV tab f v s with
    | some g => (callR Γ g [v] s).bindN fun u s1 => .ok u s1
    | none => .bad
  | .um tab m a es, s => (ev Γ a s).bind fun v s => match methV tab m v s with
    | some g => (evs Γ es s).bind fun vs s => callR Γ g (v :: vs) s
    | none => .bad
  | .nw c f es, s => (evs Γ es s).bind fun vs s => newR Γ c f vs s
  | .rev a, s => (ev Γ a s).bind fun x s => optR (revV x s) s
  | .tupS a es, s => (ev Γ a s).bind fun x s => match x with
    | .d (.tup ys) => (evs Γ es s).bind fun vs s => match toDs vs with
      | some ds => if ys.length + ds.length ≤ LINE then .ok (.d (.tup (ys ++ ds))) s else .bad
      | none => .bad
    | _ => .bad
  | .umd tab m a ds, s => (ev Γ a s).bind fun v s => match methV tab m v s with
    | some g => callR Γ g (v :: ds.map .d) s
    | none => .bad
  | .lset a, s => (ev Γ a s).bind fun x s => optR (lsetV x) s
  | .srt a, s => (ev Γ a s).bind fun x s => optR (srtV x s) s
  | .oq neg tab a b, s => (ev Γ a s).bind fun x s => (ev Γ b s).bind fun y s => match methV tab "__eq__" x s with
    | some g => if eqBy (tab.map Prod.fst) y s then (callR Γ g [x, y] s).bindN fun u s1 => match u with
      | .d (.bl r) => .ok (.d (.bl (if neg then !r else r))) s1
      | _ => .bad else .bad
    | none => .bad
  | .nwk c f n pat ds ks es kes, s => (evs Γ es s).bind fun vs s => (evs Γ kes s).bind fun zs s => if vs.length = n ∧ zs.length = ks.length then newR Γ c f (vs ++ fillV pat (ds.map .d) zs) s else .bad
  | .stc c m f es, s => (evs Γ es s).bind fun vs s => callR Γ f vs s
  | .isC cs a c, s => (ev Γ a s).bind fun x s => (optR (isCls cs c x s) s).bind fun b s => .ok (.d (.bl b)) s
  | .ccs _ _ d, s => .ok (.d d) s
  | .met _ e ok hs, s => match ev Γ e s with
    | .ok (.d v) s1 => .ok (.d (okV ok v)) s1
    | .ex x s1 => match hnd (hsT hs) x ⟨[], [], []⟩ with
      | .ok (.rt (.d y)) _ => .ok (.d y) s1
      | _ => .bad
    | _ => .bad
  | .callk f n pat ds ks es kes, s => (evs Γ es s).bind fun vs s => (evs Γ kes s).bind fun zs s => if vs.length = n ∧ zs.length = ks.length then callR Γ f (vs ++ fillK pat (ds.map .d) zs) s else .bad
  | .jst right a i f, s => (ev Γ a s).bind fun x s => (match x with
    | .d (.str _) => (ev Γ i s).bind fun n s => (ev Γ f s).bind fun c s => optR (jstV right x n c) s
    | _ => .bad)
  | .rpr a, s => (ev Γ a s).bind fun x s => optR (rprV x) s
  | .tor a, s => (ev Γ a s).bind fun x s => match x with
    | .d (.int n) => if decide (-LINE ≤ n) && decide (n ≤ LINE) then .ok (.d (.tup (rngL 0 n))) s else .bad
    | _ => .bad
  | .rep a b, s => (ev Γ a s).bind fun x s => (ev Γ b s).bind fun y s => optR (repV x y s) s
  | .insm a i x, s => (ev Γ a s).bind fun o s => (match o with
    | .own _ => (ev Γ i s).bind fun k s => (ev Γ x s).bind fun v s => insV o k v s
    | _ => .bad)
  | _, _ => .bad
def evO (Γ : Callee) : E → S → R (Option Int)
  | .nil, s => .ok none s
  | e, s => (ev Γ e s).bind fun v s => match v with
    | .d (.int i) => .ok (some i) s
    | _ => .bad
def evs (Γ : Callee) : E → S → R (List Val)
  | .nil, s => .ok [] s
  | .cons h t, s => (ev Γ h s).bind fun x s => (evs Γ t s).bind fun xs s => .ok (x :: xs) s
  | _, _ => .bad
/-- as a test -/
def evT (Γ : Callee) : E → S → R Bool
  | .and_ a b, s => (evT Γ a s).bind fun k s => if k then evT Γ b s else .ok false s
  | .or_ a b, s => (evT Γ a s).bind fun k s => if k then .ok true s else evT Γ b s
  | .not_ a, s => (evT Γ a s).bind fun k s => .ok (!k) s
  | .nil, s => .ok true s
  | .cons t _, s => evT Γ t s
  | e, s => (ev Γ e s).bind fun x s => optR (truth x s) s
/-- a new list's items -/
def evF (Γ : Callee) : E → S → R (List D)
  | .lst es, s => (evs Γ es s).bind fun vs s => match toDs vs with
    | some ds => if ds.length ≤ LINE then .ok ds s else .bad
    | none => .bad
  | .lc own tg it cnd elt, s => (evI Γ it s).bind fun xs s1 => if xs.length ≤ LINE then
      (lcGo (wipeE s1.env own) tg (evT Γ cnd) (ev Γ elt) xs s1).bind fun ys s2 => .ok ys { s2 with env := s1.env } else .bad
  | .lc2 own tg it tg1 it1 elt, s => (evI Γ it s).bind fun xs s1 => if xs.length < 1000 then
      (lc2Go (wipeE s1.env own) tg tg1 (ev Γ it1) (ev Γ elt) xs s1).bind fun ys s2 => .ok ys { s2 with env := s1.env } else .bad
  | .spl a b, s => (ev Γ a s).bind fun x s => (match x with
    | .d (.str _) => (ev Γ b s).bind fun y s => optR (splV x y) s
    | _ => .bad)
  | .lof e, s => (ev Γ e s).bind fun x s => match seqv x s with
    | some (_, xs) => .ok xs s
    | none => .bad
  | .lor a, s => (ev Γ a s).bind fun x s => match x with
    | .d (.int n) => if decide (-LINE ≤ n) && decide (n ≤ LINE) then .ok (rngL 0 n) s else .bad
    | _ => .bad
  | .cat a b, s => (ev Γ a s).bind fun x s => (ev Γ b s).bind fun y s => match lsto x s, lsto y s with
    | some xs, some ys => if xs.length + ys.length ≤ LINE then .ok (xs ++ ys) s else .bad
    | _, _ => .bad
  | _, _ => .bad
/-- what a for walks -/
def evI (Γ : Callee) : E → S → R (List D)
  | .it e, s => (ev Γ e s).bind fun x s => match x with
    | .d (.lst xs) => .ok xs s
    | .d (.tup xs) => .ok xs s
    | .d (.scr xs) => .ok xs s
    | .d (.str z) => if z.length ≤ LINE then .ok (z.cps.toList.map fun c => .str ⟨#[c]⟩) s else .bad
    | _ => .bad
  | .rng es, s => (evs Γ es s).bind fun vs s => rngV vs s
  | .zip es, s => (evs Γ es s).bind fun vs s => zipV vs s
  | .enm es, s => (evs Γ es s).bind fun vs s => enmV vs s
  | _, _ => .bad
end

/-- the turns of a for -/
def forGo (tg : List Nat) (body : S → R Fl) : List D → S → R Fl
  | [], s => .ok .nx s
  | x :: r, s => match bindTs tg x s with
    | none => .bad
    | some s1 => (body s1).bind fun f s2 => match f with
      | .nx => forGo tg body r s2
      | .ct => forGo tg body r s2
      | .bk => .ok .nx s2
      | .rt v => .ok (.rt v) s2
def whileGo (t : S → R Bool) (body : S → R Fl) : Nat → S → R Fl
  | 0, _ => .bad
  | n + 1, s => (t s).bind fun k s1 => if k then (body s1).bind fun f s2 => match f with
      | .nx => whileGo t body n s2
      | .ct => whileGo t body n s2
      | .bk => .ok .nx s2
      | .rt v => .ok (.rt v) s2
    else .ok .nx s1

def unown (j : Nat) (xs : List D) : Option Val → Option Val
  | some (.own k) => if k = j then some (.d (.lst xs)) else some (.own k)
  | o => o
/-- an own list is no longer written: from now on it is data -/
def frzS (i : Nat) (s : S) : S :=
  match s.env[i]? with
  | some (some (.own j)) => match s.fs[j]? with
    | some (.lst xs) => { s with env := s.env.map (unown j xs), fs := s.fs.set j .dead }
    | _ => s
  | _ => s
def asg1 (Γ : Callee) (v : Val) : Tgt → S → R Unit
  | .nm i, s => .ok () { s with env := s.env.set i (some v) }
  | .ix a i, s => (ev Γ a s).bind fun x s => (ev Γ i s).bind fun k s => setIx x k v s
  | .fd cs f a, s => (ev Γ a s).bind fun x s => setAtt cs f x v s
def asgs (Γ : Callee) : List Tgt → List Val → S → R Fl
  | [], [], s => .ok .nx s
  | g :: gs, v :: vs, s => (asg1 Γ v g s).bind fun _ s => asgs Γ gs vs s
  | _, _, _ => .bad
def ex (Γ : Callee) : T → S → R Fl
  | .asg i e, s => (ev Γ e s).bind fun v s => .ok .nx { s with env := s.env.set i (some v) }
  | .par i j a b, s => (ev Γ a s).bind fun v s => (ev Γ b s).bind fun w s => .ok .nx { s with env := (s.env.set i (some v)).set j (some w) }
  | .seti a i e, s => (ev Γ e s).bind fun v s => (ev Γ a s).bind fun x s => (ev Γ i s).bind fun k s => (setIx x k v s).bind fun _ s => .ok .nx s
  | .ite t b o, s => (evT Γ t s).bind fun k s => if k then ex Γ b s else ex Γ o s
  | .for_ tg it b, s => (evI Γ it s).bind fun xs s => forGo tg (ex Γ b) xs s
  | .while_ t b, s => whileGo (evT Γ t) (ex Γ b) LINE s
  | .ret e, s => (ev Γ e s).bind fun v s => .ok (.rt v) s
  | .retN, s => .ok (.rt (.d .non)) s
  | .exp e, s => (ev Γ e s).bind fun _ s => .ok .nx s
  | .brk, s => .ok .bk s
  | .cnt, s => .ok .ct s
  | .pass, s => .ok .nx s
  | .rs, _ => .bad
  | .tgs gs es, s => (evs Γ es s).bind fun vs s => if vs.length = gs.length ∧ vs.length ≤ LINE then asgs Γ gs vs s else .bad
  | .rsx c np fl es, s => (evs Γ es s).bind fun vs s => match toDs vs with
    | some ds => if ds.length = np ∧ np ≤ 900 then .ex ⟨c, (fl.map Prod.fst).reverse, (fl.map fun p => ds.getD (p.2 - 1) .non).reverse⟩ s else .bad
    | none => .bad
  | .tryx b hs, s => match ex Γ b s with
    | .ex e s => hnd hs e s
    | r => r
  | .seta cs f a e, s => (ev Γ e s).bind fun v s => (ev Γ a s).bind fun x s => (setAtt cs f x v s).bind fun _ s => .ok .nx s
  | .frz i t, s => ex Γ t (frzS i s)
  | .par3 i j l a b c, s => (evs Γ (.cons a (.cons b (.cons c .nil))) s).bind fun vs s => match vs with
    | [u, v, w] => .ok .nx { s with env := ((s.env.set i (some u)).set j (some v)).set l (some w) }
    | _ => .bad
  | .parn tg es, s => (evs Γ es s).bind fun vs s => if vs.length = tg.length ∧ vs.length ≤ LINE then .ok .nx { s with env := setAll tg vs s.env } else .bad
  | .unp tg e, s => (ev Γ e s).bind fun v s => match v with
    | .d x => match bindTs tg x s with
      | some s' => .ok .nx s'
      | none => .bad
    | _ => .bad
  | .nil, s => .ok .nx s
  | .cons h t, s => (ex Γ h s).bind fun f s => match f with
    | .nx => ex Γ t s
    | f => .ok f s
  | _, _ => .bad

structure Fn where
  np : Nat
  nl : Nat
  body : T

/-- what a def hands back: an own list is let go -/
def handed (v : Val) (s : S) : Option D :=
  match v with
  | .d x => some x
  | .own j => match s.fs[j]? with
    | some (.lst xs) => some (.lst xs)
    | _ => none

def runF (Γ : Callee) (fn : Fn) (args : List D) (gs : List Cell) : RG :=
  if args.length = fn.np then
    match ex Γ fn.body ⟨args.map (fun x => some (.d x)) ++ List.replicate (fn.nl - fn.np) none, [], gs⟩ with
    | .ok (.rt v) s => match handed v s with
      | some d => .ok d s.gs
      | none => .bad
    | .ok .nx s => .ok .non s.gs
    | .ex e s => .ex e s.gs
    | _ => .bad
  else .bad
def run (Pg : Nat → Fn) : Nat → Callee
  | 0 => fun _ _ _ => .bad
  | k + 1 => fun f args gs => runF (run Pg k) (Pg f) args gs
end Mp

/-! Mp: how the evaluator's states lie in the abstract heap. -/
namespace Mp
open PySem (Addr Value)
open L2 (V HO Hp upd upd_same upd_ne SqT SqL Rd)

/-- the tables of code objects in which lambdas are noted -/
class TabT where
  T : List (Addr × PySem.Str)
  C : List (Addr × Addr)
/-- a thing that is no table -/
def Liv (H : Hp) (a : Addr) : Prop := ∃ o, H a = some o ∧ ∀ ps, o ≠ .tbl ps
theorem not_liv {H : Hp} {a : Addr} (h : H a = none) : ¬ Liv H a := fun ⟨o, e, _⟩ => by rw [h] at e; cases e
theorem liv_of {H : Hp} {a : Addr} {o : HO} (h : H a = some o) (n : ∀ ps, o ≠ .tbl ps) : Liv H a := ⟨o, h, n⟩
/-- neither a table nor code -/
def Pl (o : Option HO) : Prop := ∀ u, o = some u → (∀ ps, u ≠ .tbl ps) ∧ ∀ f, u ≠ .ext f
theorem pl_none {o : Option HO} (h : o = none) : Pl o := fun u e => by rw [h] at e; cases e
theorem pl_lst {o : Option HO} {vs : List V} (h : o = some (.lst vs)) : Pl o := fun u e => by
  rw [h] at e; cases e
  exact ⟨fun _ z => (by cases z), fun _ z => (by cases z)⟩
theorem pl_dK {o : Option HO} {vs : List (L2.Key × V)} (h : o = some (.dK vs)) : Pl o := fun u e => by
  rw [h] at e; cases e
  exact ⟨fun _ z => (by cases z), fun _ z => (by cases z)⟩
theorem pl_ins {o : Option HO} {C dx : Addr} {fs : List (PySem.Str × V)} (h : o = some (.ins C dx fs)) : Pl o := fun u e => by
  rw [h] at e; cases e
  exact ⟨fun _ z => (by cases z), fun _ z => (by cases z)⟩
theorem tabs_upd {T : List (Addr × PySem.Str)} {H : Hp} {a : Addr} {o : HO} (h : Pl (H a)) (t : LamX.Tabs T H) : LamX.Tabs T (upd H a o) := fun p hp => by
  obtain ⟨ps, h1, h2, h3⟩ := t p hp
  have n1 : p.1 ≠ a := fun z => (h _ (z ▸ h1)).1 ps rfl
  refine ⟨ps, by rw [upd_ne n1]; exact h1, h2, fun pos cv hc => ?_⟩
  obtain ⟨c, e1, e2⟩ := h3 pos cv hc
  have n2 : c ≠ a := fun z => (h _ (z ▸ e2)).2 _ rfl
  exact ⟨c, e1, by rw [upd_ne n2]; exact e2⟩
/-- B: lists that others hold; H0, p0: heap and shared cells at the entry of the def; pf, pg: where this frame's and the shared cells lie; tm: lists being made -/
structure Gh where
  B : Addr → Prop
  H0 : Hp
  p0 : List Addr
  pf : List (Option Addr)
  pg : List Addr
  tm : List Addr
def Gh.Bad (γ : Gh) (a : Addr) : Prop := (γ.B a ∨ a ∈ γ.tm) ∨ some a ∈ γ.pf ∨ a ∈ γ.pg

/-- a list that the module's top has written -/
def KLst (K : PySem.W.Frag) (a : Addr) (vs : List V) : Prop := ∀ H : Hp, SqL K H a vs

mutual
inductive RelD (K : PySem.W.Frag) (γ : Gh) (H : Hp) : D → V → Prop
  | non : RelD K γ H .non .non
  | bl (b : Bool) : RelD K γ H (.bl b) (.bl b)
  | int (i : Int) : RelD K γ H (.int i) (.int i)
  | str (x : PySem.Str) : RelD K γ H (.str x) (.str x)
  | tup {a : Addr} {xs : List D} {vs : List V} (h : SqT K H a vs) (r : RelDs K γ H xs vs) : RelD K γ H (.tup xs) (.ref a)
  | lst {a : Addr} {xs : List D} {vs : List V} (h : H a = some (.lst vs)) (nb : ¬ γ.Bad a) (r : RelDs K γ H xs vs) : RelD K γ H (.lst xs) (.ref a)
  | scr {a : Addr} {xs : List D} {vs : List V} (h : Rd H a (.lst vs)) (nb : ¬ γ.Bad a) (r : RelDs K γ H xs vs) : RelD K γ H (.scr xs) (.ref a)
  | scrK {a : Addr} {xs : List D} {vs : List V} (h : KLst K a vs) (r : RelDs K γ H xs vs) : RelD K γ H (.scr xs) (.ref a)
  | dct {a : Addr} {ks xs : List D} {kvs : List (L2.Key × V)} (h : H a = some (.dK kvs)) (nb : ¬ γ.Bad a) (hk : ks = kvs.map fun p => keyD p.1) (r : RelDs K γ H xs (kvs.map Prod.snd)) : RelD K γ H (.dct ks xs) (.ref a)
  | ref {n : Nat} {a : Addr} (h : γ.pg[n]? = some a) : RelD K γ H (.ref n) (.ref a)
inductive RelDs (K : PySem.W.Frag) (γ : Gh) (H : Hp) : List D → List V → Prop
  | nil : RelDs K γ H [] []
  | cons {x : D} {v : V} {xs : List D} {vs : List V} (h : RelD K γ H x v) (t : RelDs K γ H xs vs) : RelDs K γ H (x :: xs) (v :: vs)
end

def RelVal (K : PySem.W.Frag) (γ : Gh) (H : Hp) : Val → V → Prop
  | .d x, v => RelD K γ H x v
  | .own j, v => ∃ a, v = .ref a ∧ γ.pf[j]? = some (some a)
inductive RelVals (K : PySem.W.Frag) (γ : Gh) (H : Hp) : List Val → List V → Prop
  | nil : RelVals K γ H [] []
  | cons {x : Val} {v : V} {xs : List Val} {vs : List V} (h : RelVal K γ H x v) (t : RelVals K γ H xs vs) : RelVals K γ H (x :: xs) (v :: vs)

def CellOk (K : PySem.W.Frag) (γ : Gh) (H : Hp) (a : Addr) : Cell → Prop
  | .lst xs => ∃ vs, H a = some (.lst vs) ∧ RelDs K γ H xs vs
  | _ => False

/-- the class that the module's top has under a name -/
def clsOf (K : PySem.W.Frag) (nm : PySem.Str) : Addr := match PySem.W.nsIn K PySem.mainGlobals nm with
  | some (some (.ref C)) => C
  | _ => 0
/-- an instance, shared -/
def InsOk (K : PySem.W.Frag) (γ : Gh) (H : Hp) (a : Addr) (c : Cell) : Prop := ∃ nm ns vs dx fs, c = .ins nm ns vs ∧ H a = some (.ins (clsOf K nm) dx fs) ∧ ns = fs.map Prod.fst ∧ RelDs K γ H vs (fs.map Prod.snd)
def CellG (K : PySem.W.Frag) (γ : Gh) (H : Hp) (a : Addr) (c : Cell) : Prop := CellOk K γ H a c ∨ InsOk K γ H a c

variable [TabT]
structure Rel (K : PySem.W.Frag) (γ : Gh) (s : S) (σ : L2.St) (H : Hp) : Prop where
  len : s.env.length = σ.length
  slot : ∀ (i : Nat) (v : Val), s.env[i]? = some (some v) → ∃ x : V, σ[i]? = some (some x) ∧ RelVal K γ H v x
  fl : γ.pf.length = s.fs.length
  fc : ∀ (j : Nat) (a : Addr) (c : Cell), γ.pf[j]? = some (some a) → s.fs[j]? = some c → CellOk K γ H a c
  gl : γ.pg.length = s.gs.length
  gc : ∀ (n : Nat) (a : Addr) (c : Cell), γ.pg[n]? = some a → s.gs[n]? = some c → CellG K γ H a c
  ndf : ∀ (i j : Nat) (a : Addr), γ.pf[i]? = some (some a) → γ.pf[j]? = some (some a) → i = j
  ndg : ∀ (i j : Nat) (a : Addr), γ.pg[i]? = some a → γ.pg[j]? = some a → i = j
  dis : ∀ a, some a ∈ γ.pf → a ∉ γ.pg
  bo : ∀ a, γ.B a → Liv γ.H0 a ∧ a ∉ γ.p0
  fnew : ∀ a, some a ∈ γ.pf → ¬ Liv γ.H0 a
  gnew : ∀ a, a ∈ γ.pg → a ∈ γ.p0 ∨ ¬ Liv γ.H0 a
  pre : γ.p0 <+: γ.pg
  frame : ∀ a o, γ.H0 a = some o → (∀ ps, o ≠ .tbl ps) → a ∉ γ.p0 → H a = some o
  trk : ∀ a, Liv γ.H0 a → Liv H a
  tb : LamX.Tabs TabT.T H
  tm : ∀ a, a ∈ γ.tm → Liv H a ∧ some a ∉ γ.pf ∧ a ∉ γ.pg

/-- from one point to a later one within a def -/
structure Sts (γ : Gh) (H : Hp) (γ' : Gh) (H' : Hp) : Prop where
  b : γ'.B = γ.B
  h0 : γ'.H0 = γ.H0
  p0 : γ'.p0 = γ.p0
  tm : ∀ a, a ∈ γ'.tm → a ∈ γ.tm ∨ ¬ Liv H a
  pg : γ.pg <+: γ'.pg
  frame : ∀ a o, H a = some o → (∀ ps, o ≠ .tbl ps) → some a ∉ γ.pf → a ∉ γ.pg → H' a = some o
  trk : ∀ a, Liv H a → Liv H' a
  fn : ∀ a, some a ∈ γ'.pf → some a ∈ γ.pf ∨ ¬ Liv H a
  gn : ∀ a, a ∈ γ'.pg → a ∈ γ.pg ∨ ¬ Liv H a
  tb : LamX.Tabs TabT.T H → LamX.Tabs TabT.T H'
/-- .. nothing in the making is left or new -/
structure Stm (γ : Gh) (H : Hp) (γ' : Gh) (H' : Hp) : Prop extends Sts γ H γ' H' where
  tmE : γ'.tm = γ.tm
/-- .. within an expression -/
structure Stp (γ : Gh) (H : Hp) (γ' : Gh) (H' : Hp) : Prop extends Stm γ H γ' H' where
  pf : γ.pf <+: γ'.pf

theorem Sts.refl (γ : Gh) (H : Hp) : Sts γ H γ H := ⟨rfl, rfl, rfl, fun _ h => .inl h, List.prefix_refl _, fun _ _ h _ _ _ => h, fun _ h => h, fun _ h => .inl h, fun _ h => .inl h, fun t => t⟩
theorem Stp.refl (γ : Gh) (H : Hp) : Stp γ H γ H := ⟨⟨Sts.refl γ H, rfl⟩, List.prefix_refl _⟩
theorem mem_pre {α : Type} {l m : List α} (h : l <+: m) {a : α} (ha : a ∈ l) : a ∈ m := h.subset ha
theorem get_pre {α : Type} {l m : List α} (h : l <+: m) {i : Nat} {a : α} (ha : l[i]? = some a) : m[i]? = some a := by
  obtain ⟨t, rfl⟩ := h
  rw [List.getElem?_append_left (List.getElem?_eq_some_iff.mp ha).1]
  exact ha
theorem Sts.trans {γ γ1 γ2 : Gh} {H H1 H2 : Hp} (a : Sts γ H γ1 H1) (b : Sts γ1 H1 γ2 H2) : Sts γ H γ2 H2 where
  b := b.b.trans a.b
  h0 := b.h0.trans a.h0
  p0 := b.p0.trans a.p0
  tm := fun x m => by
    rcases b.tm x m with z | z
    · exact a.tm x z
    · exact .inr fun q => z (a.trk x q)
  pg := a.pg.trans b.pg
  frame := fun x o h nt n1 n2 => by
    refine b.frame x o (a.frame x o h nt n1 n2) nt (fun m => ?_) fun m => ?_
    · rcases a.fn x m with z | z
      · exact n1 z
      · exact z ⟨o, h, nt⟩
    · rcases a.gn x m with z | z
      · exact n2 z
      · exact z ⟨o, h, nt⟩
  trk := fun x h => b.trk x (a.trk x h)
  fn := fun x m => by
    rcases b.fn x m with z | z
    · exact a.fn x z
    · exact .inr fun q => z (a.trk x q)
  gn := fun x m => by
    rcases b.gn x m with z | z
    · exact a.gn x z
    · exact .inr fun q => z (a.trk x q)
  tb := fun t => b.tb (a.tb t)
theorem Stp.trans {γ γ1 γ2 : Gh} {H H1 H2 : Hp} (a : Stp γ H γ1 H1) (b : Stp γ1 H1 γ2 H2) : Stp γ H γ2 H2 := ⟨⟨a.toSts.trans b.toSts, b.tmE.trans a.tmE⟩, a.pf.trans b.pf⟩
theorem Stm.trans {γ γ1 γ2 : Gh} {H H1 H2 : Hp} (a : Stm γ H γ1 H1) (b : Stm γ1 H1 γ2 H2) : Stm γ H γ2 H2 := ⟨a.toSts.trans b.toSts, b.tmE.trans a.tmE⟩

theorem Sts.notBad {γ γ1 : Gh} {H H1 : Hp} (a : Sts γ H γ1 H1) {x : Addr} (h : Liv H x) (nb : ¬ γ.Bad x) : ¬ γ1.Bad x := by
  rintro ((z | z) | z | z)
  · rw [a.b] at z; exact nb (.inl (.inl z))
  · rcases a.tm x z with q | q
    · exact nb (.inl (.inr q))
    · exact q h
  · rcases a.fn x z with q | q
    · exact nb (.inr (.inl q))
    · exact q h
  · rcases a.gn x z with q | q
    · exact nb (.inr (.inr q))
    · exact q h
theorem lst_nt {vs : List V} : ∀ ps, HO.lst vs ≠ .tbl ps := fun _ z => by cases z
theorem tup_nt {vs : List V} : ∀ ps, HO.tup vs ≠ .tbl ps := fun _ z => by cases z
theorem frz_nt {o : PySem.Obj} {u : HO} : ∀ ps, HO.frz o u ≠ .tbl ps := fun _ z => by cases z
theorem dK_nt {vs : List (L2.Key × V)} : ∀ ps, HO.dK vs ≠ .tbl ps := fun _ z => by cases z
theorem ins_nt {C dx : Addr} {fs : List (PySem.Str × V)} : ∀ ps, HO.ins C dx fs ≠ .tbl ps := fun _ z => by cases z
theorem Sts.rdL {γ γ1 : Gh} {H H1 : Hp} (a : Sts γ H γ1 H1) {x : Addr} {vs : List V} (h : Rd H x (.lst vs)) (nb : ¬ γ.Bad x) : Rd H1 x (.lst vs) := by
  rcases h with h | ⟨o, h⟩
  · exact .inl (a.frame x _ h lst_nt (fun z => nb (.inr (.inl z))) fun z => nb (.inr (.inr z)))
  · exact .inr ⟨o, a.frame x _ h frz_nt (fun z => nb (.inr (.inl z))) fun z => nb (.inr (.inr z))⟩
theorem Rd.liv {H : Hp} {x : Addr} {vs : List V} (h : Rd H x (.lst vs)) : Liv H x := by
  rcases h with h | ⟨o, h⟩
  · exact ⟨_, h, lst_nt⟩
  · exact ⟨_, h, frz_nt⟩

/-- tuples are never cells -/
def TupOk (γ : Gh) (H : Hp) : Prop := ∀ a, (some a ∈ γ.pf ∨ a ∈ γ.pg) → ∀ xs, H a ≠ some (.tup xs) ∧ ∀ o, H a ≠ some (.frz o (.tup xs))

theorem Sts.sqT {K : PySem.W.Frag} {γ γ1 : Gh} {H H1 : Hp} (a : Sts γ H γ1 H1) (t : TupOk γ H) {x : Addr} {vs : List V} (h : SqT K H x vs) : SqT K H1 x vs := by
  rcases h with (h | ⟨o, h⟩) | h
  · exact .inl (.inl (a.frame x _ h tup_nt (fun z => (t x (.inl z) _).1 h) fun z => (t x (.inr z) _).1 h))
  · exact .inl (.inr ⟨o, a.frame x _ h frz_nt (fun z => (t x (.inl z) _).2 o h) fun z => (t x (.inr z) _).2 o h⟩)
  · exact .inr h

mutual
theorem RelD.step {K : PySem.W.Frag} {γ γ1 : Gh} {H H1 : Hp} (a : Sts γ H γ1 H1) (t : TupOk γ H) : ∀ (d : D) (v : V), RelD K γ H d v → RelD K γ1 H1 d v
  | _, _, .non => .non
  | _, _, .bl b => .bl b
  | _, _, .int i => .int i
  | _, _, .str x => .str x
  | .tup xs, _, .tup (vs := vs) h r => .tup (a.sqT t h) (RelDs.step a t xs vs r)
  | .lst xs, _, .lst (vs := vs) h nb r => .lst (a.frame _ _ h lst_nt (fun z => nb (.inr (.inl z))) fun z => nb (.inr (.inr z))) (a.notBad ⟨_, h, lst_nt⟩ nb) (RelDs.step a t xs vs r)
  | .scr xs, _, .scr (vs := vs) h nb r => .scr (a.rdL h nb) (a.notBad (Rd.liv h) nb) (RelDs.step a t xs vs r)
  | .scr xs, _, .scrK (vs := vs) h r => .scrK h (RelDs.step a t xs vs r)
  | .dct _ xs, _, .dct (kvs := kvs) h nb hk r => .dct (a.frame _ _ h dK_nt (fun z => nb (.inr (.inl z))) fun z => nb (.inr (.inr z))) (a.notBad ⟨_, h, dK_nt⟩ nb) hk (RelDs.step a t xs _ r)
  | _, _, .ref h => .ref (get_pre a.pg h)
theorem RelDs.step {K : PySem.W.Frag} {γ γ1 : Gh} {H H1 : Hp} (a : Sts γ H γ1 H1) (t : TupOk γ H) : ∀ (ds : List D) (vs : List V), RelDs K γ H ds vs → RelDs K γ1 H1 ds vs
  | _, _, .nil => .nil
  | x :: xs, _ :: vs, .cons h r => .cons (RelD.step a t x _ h) (RelDs.step a t xs vs r)
end
theorem RelVal.step {K : PySem.W.Frag} {γ γ1 : Gh} {H H1 : Hp} (a : Stp γ H γ1 H1) (t : TupOk γ H) {v : Val} {x : V} (h : RelVal K γ H v x) : RelVal K γ1 H1 v x := by
  cases v with
  | d y => exact RelD.step a.toSts t _ _ h
  | own j =>
    obtain ⟨b, e, q⟩ := h
    exact ⟨b, e, get_pre a.pf q⟩
theorem RelVals.step {K : PySem.W.Frag} {γ γ1 : Gh} {H H1 : Hp} (a : Stp γ H γ1 H1) (t : TupOk γ H) {v : List Val} {x : List V} (h : RelVals K γ H v x) : RelVals K γ1 H1 v x := by
  induction h with
  | nil => exact .nil
  | cons h _ ih => exact .cons (h.step a t) ih

theorem mem_get {α : Type} {l : List α} {a : α} (h : a ∈ l) : ∃ i : Nat, l[i]? = some a := List.mem_iff_getElem?.mp h
theorem get_of_len {α β : Type} {l : List α} {m : List β} (e : l.length = m.length) {i : Nat} {a : α} (h : l[i]? = some a) : ∃ b, m[i]? = some b := by
  have : i < l.length := (List.getElem?_eq_some_iff.mp h).1
  exact ⟨m[i]'(e ▸ this), List.getElem?_eq_getElem _⟩
theorem CellOk.is {K : PySem.W.Frag} {γ : Gh} {H : Hp} {a : Addr} {c : Cell} (h : CellOk K γ H a c) : ∃ xs vs, c = .lst xs ∧ H a = some (.lst vs) ∧ RelDs K γ H xs vs := by
  cases c with
  | lst xs => obtain ⟨vs, e, r⟩ := h; exact ⟨xs, vs, rfl, e, r⟩
  | dead => exact False.elim h
  | dct _ _ => exact False.elim h
  | ins _ _ _ => exact False.elim h
theorem CellOk.step {K : PySem.W.Frag} {γ γ1 : Gh} {H H1 : Hp} (a : Sts γ H γ1 H1) (t : TupOk γ H) {x : Addr} {c : Cell} (h : CellOk K γ H x c) (e : H1 x = H x) : CellOk K γ1 H1 x c := by
  obtain ⟨xs, vs, rfl, h1, r⟩ := h.is
  exact ⟨vs, e.trans h1, RelDs.step a t _ _ r⟩

theorem CellG.step {K : PySem.W.Frag} {γ γ1 : Gh} {H H1 : Hp} (a : Sts γ H γ1 H1) (t : TupOk γ H) {x : Addr} {c : Cell} (h : CellG K γ H x c) (e : H1 x = H x) : CellG K γ1 H1 x c := by
  rcases h with h | ⟨nm, ns, vs, dx, fs, h1, h2, h3, h4⟩
  · exact .inl (h.step a t e)
  · exact .inr ⟨nm, ns, vs, dx, fs, h1, e.trans h2, h3, RelDs.step a t _ _ h4⟩
theorem CellG.lst {K : PySem.W.Frag} {γ : Gh} {H : Hp} {a : Addr} {xs : List D} (h : CellG K γ H a (.lst xs)) : ∃ vs, H a = some (.lst vs) ∧ RelDs K γ H xs vs := by
  rcases h with h | ⟨nm, ns, vs, dx, fs, h1, _⟩
  · exact h
  · cases h1
def noTup (o : HO) : Prop := (∀ xs, o ≠ .tup xs) ∧ (∀ p xs, o ≠ .frz p (.tup xs)) ∧ (∀ ps, o ≠ .tbl ps) ∧ ∀ f, o ≠ .ext f
theorem noTup_lst (vs : List V) : noTup (.lst vs) := ⟨fun _ z => (by cases z), fun _ _ z => (by cases z), lst_nt, fun _ z => (by cases z)⟩
theorem noTup_ins (C dx : Addr) (fs : List (PySem.Str × V)) : noTup (.ins C dx fs) := ⟨fun _ z => (by cases z), fun _ _ z => (by cases z), ins_nt, fun _ z => (by cases z)⟩
theorem CellG.live {K : PySem.W.Frag} {γ : Gh} {H : Hp} {a : Addr} {c : Cell} (h : CellG K γ H a c) : ∃ o, H a = some o ∧ noTup o := by
  rcases h with h | ⟨nm, ns, vs, dx, fs, h1, h2, _⟩
  · obtain ⟨xs, vs, rfl, e, r⟩ := h.is
    exact ⟨_, e, noTup_lst _⟩
  · exact ⟨_, h2, noTup_ins _ _ _⟩
section
variable {K : PySem.W.Frag} {γ : Gh} {s : S} {σ : L2.St} {H : Hp}
theorem Rel.cellF (R : Rel K γ s σ H) {j : Nat} {a : Addr} (h : γ.pf[j]? = some (some a)) : ∃ xs vs, s.fs[j]? = some (.lst xs) ∧ H a = some (.lst vs) ∧ RelDs K γ H xs vs := by
  obtain ⟨c, hc⟩ := get_of_len R.fl h
  obtain ⟨xs, vs, rfl, e, r⟩ := (R.fc j a c h hc).is
  exact ⟨xs, vs, hc, e, r⟩
theorem Rel.cellG (R : Rel K γ s σ H) {n : Nat} {a : Addr} (h : γ.pg[n]? = some a) {xs : List D} (e : s.gs[n]? = some (.lst xs)) : ∃ xs vs, s.gs[n]? = some (.lst xs) ∧ H a = some (.lst vs) ∧ RelDs K γ H xs vs := by
  obtain ⟨vs, h1, h2⟩ := (R.gc n a _ h e).lst
  exact ⟨xs, vs, e, h1, h2⟩
theorem Rel.live (R : Rel K γ s σ H) {a : Addr} (h : some a ∈ γ.pf ∨ a ∈ γ.pg) : ∃ o, H a = some o ∧ noTup o := by
  rcases h with h | h
  · obtain ⟨j, hj⟩ := mem_get h
    obtain ⟨_, vs, _, e, _⟩ := R.cellF hj
    exact ⟨_, e, noTup_lst _⟩
  · obtain ⟨j, hj⟩ := mem_get h
    obtain ⟨c, hc⟩ := get_of_len R.gl hj
    exact (R.gc j a c hj hc).live
theorem Rel.pl (R : Rel K γ s σ H) {a : Addr} (h : some a ∈ γ.pf ∨ a ∈ γ.pg) : Pl (H a) := fun u e => by
  obtain ⟨o, e2, n⟩ := R.live h
  rw [e] at e2; cases e2
  exact n.2.2
theorem Rel.tups (R : Rel K γ s σ H) : TupOk γ H := fun a h xs => by
  obtain ⟨o, e, n⟩ := R.live h
  exact ⟨by rw [e]; exact fun z => n.1 xs (Option.some.inj z), fun p => by rw [e]; exact fun z => n.2.1 p xs (Option.some.inj z)⟩
theorem ref_lst {n : Nat} {s : S} {b : Bool} {xs : List D} (e : seqv (.d (.ref n)) s = some (b, xs)) : s.gs[n]? = some (.lst xs) := by
  simp only [seqv] at e
  split at e
  · rename_i h; cases e; exact h
  · cases e

/-- a new object that is no cell -/
theorem Stp.new (γ : Gh) {H : Hp} {p : Addr} {o : HO} (hp : H p = none) : Stp γ H γ (upd H p o) where
  b := rfl
  h0 := rfl
  p0 := rfl
  tm := fun _ h => .inl h
  tmE := rfl
  pf := List.prefix_refl _
  pg := List.prefix_refl _
  frame := fun a u h _ _ _ => by rw [upd_ne (L2.ne_of_none h hp)]; exact h
  trk := fun a ⟨o', e, n⟩ => ⟨o', by rw [upd_ne (L2.ne_of_none e hp)]; exact e, n⟩
  fn := fun _ h => .inl h
  gn := fun _ h => .inl h
  tb := tabs_upd (pl_none hp)
/-- the state behind a step that leaves the cells as they are -/
theorem Rel.step (R : Rel K γ s σ H) {H1 : Hp} (a : Stp γ H γ H1) (k : ∀ x, (some x ∈ γ.pf ∨ x ∈ γ.pg) → H1 x = H x) : Rel K γ s σ H1 where
  len := R.len
  slot := fun i v h => let ⟨x, e, r⟩ := R.slot i v h; ⟨x, e, r.step a R.tups⟩
  fl := R.fl
  fc := fun j x c h1 h2 => (R.fc j x c h1 h2).step a.toSts R.tups (k x (.inl (List.mem_of_getElem? h1)))
  gl := R.gl
  gc := fun j x c h1 h2 => (R.gc j x c h1 h2).step a.toSts R.tups (k x (.inr (List.mem_of_getElem? h1)))
  ndf := R.ndf
  ndg := R.ndg
  dis := R.dis
  bo := R.bo
  fnew := R.fnew
  gnew := R.gnew
  pre := R.pre
  frame := fun x o h nt n => by
    refine a.frame x o (R.frame x o h nt n) nt (fun z => ?_) fun z => ?_
    · exact R.fnew x z ⟨o, h, nt⟩
    · rcases R.gnew x z with q | q
      · exact n q
      · exact q ⟨o, h, nt⟩
  trk := fun x h => a.trk x (R.trk x h)
  tb := a.tb R.tb
  tm := fun x h => ⟨a.trk x (R.tm x h).1, (R.tm x h).2⟩
theorem Rel.new (R : Rel K γ s σ H) {p : Addr} {o : HO} (hp : H p = none) : Rel K γ s σ (upd H p o) :=
  R.step (Stp.new γ hp) fun x h => by
    obtain ⟨o', e, _⟩ := R.live h
    rw [upd_ne (L2.ne_of_none e hp)]
theorem Rel.notBad (R : Rel K γ s σ H) {p : Addr} (hp : H p = none) : ¬ γ.Bad p := by
  rintro ((z | z) | z)
  · exact absurd (R.trk p (R.bo p z).1) (not_liv hp)
  · exact absurd (R.tm p z).1 (not_liv hp)
  · obtain ⟨o', e, _⟩ := R.live z
    rw [hp] at e; cases e
end

/-! ### a list in the making; it is let go, or becomes a cell -/
def Gh.mk1 (γ : Gh) (a : Addr) : Gh := { γ with tm := a :: γ.tm }
mutual
theorem RelD.mk1 {K : PySem.W.Frag} {γ : Gh} {H : Hp} {p : Addr} {o : HO} (hp : H p = none) (t : TupOk γ H) : ∀ (d : D) (v : V), RelD K γ H d v → RelD K (γ.mk1 p) (upd H p o) d v
  | _, _, .non => .non
  | _, _, .bl b => .bl b
  | _, _, .int i => .int i
  | _, _, .str x => .str x
  | .tup xs, _, .tup (vs := vs) h r => .tup ((Stp.new γ hp).sqT t h) (RelDs.mk1 hp t xs vs r)
  | .lst xs, _, .lst (a := a) (vs := vs) h nb r => .lst ((Stp.new γ hp).frame _ _ h lst_nt (fun z => nb (.inr (.inl z))) fun z => nb (.inr (.inr z))) (fun z => by
      rcases z with (z | z) | z
      · exact nb (.inl (.inl z))
      · rcases List.mem_cons.mp z with z | z
        · rw [z, hp] at h; cases h
        · exact nb (.inl (.inr z))
      · exact nb (.inr z)) (RelDs.mk1 hp t xs vs r)
  | .scr xs, _, .scr (a := a) (vs := vs) h nb r => .scr ((Stp.new γ hp).rdL h nb) (fun z => by
      rcases z with (z | z) | z
      · exact nb (.inl (.inl z))
      · rcases List.mem_cons.mp z with z | z
        · rw [z] at h; exact not_liv hp (Rd.liv h)
        · exact nb (.inl (.inr z))
      · exact nb (.inr z)) (RelDs.mk1 hp t xs vs r)
  | .scr xs, _, .scrK (vs := vs) h r => .scrK h (RelDs.mk1 hp t xs vs r)
  | .dct _ xs, _, .dct (a := a) (kvs := kvs) h nb hk r => .dct ((Stp.new γ hp).frame _ _ h dK_nt (fun z => nb (.inr (.inl z))) fun z => nb (.inr (.inr z))) (fun z => by
      rcases z with (z | z) | z
      · exact nb (.inl (.inl z))
      · rcases List.mem_cons.mp z with z | z
        · rw [z, hp] at h; cases h
        · exact nb (.inl (.inr z))
      · exact nb (.inr z)) hk (RelDs.mk1 hp t xs _ r)
  | _, _, .ref h => .ref h
theorem RelDs.mk1 {K : PySem.W.Frag} {γ : Gh} {H : Hp} {p : Addr} {o : HO} (hp : H p = none) (t : TupOk γ H) : ∀ (ds : List D) (vs : List V), RelDs K γ H ds vs → RelDs K (γ.mk1 p) (upd H p o) ds vs
  | _, _, .nil => .nil
  | x :: xs, _ :: vs, .cons h r => .cons (RelD.mk1 hp t x _ h) (RelDs.mk1 hp t xs vs r)
end
/-- facts with more that is bad hold with less -/
structure Les (γ γ' : Gh) : Prop where
  pg : γ.pg <+: γ'.pg
  bad : ∀ a, γ'.Bad a → γ.Bad a
mutual
theorem RelD.les {K : PySem.W.Frag} {γ γ' : Gh} {H : Hp} (l : Les γ γ') : ∀ (d : D) (v : V), RelD K γ H d v → RelD K γ' H d v
  | _, _, .non => .non
  | _, _, .bl b => .bl b
  | _, _, .int i => .int i
  | _, _, .str x => .str x
  | .tup xs, _, .tup (vs := vs) h r => .tup h (RelDs.les l xs vs r)
  | .lst xs, _, .lst (vs := vs) h nb r => .lst h (fun z => nb (l.bad _ z)) (RelDs.les l xs vs r)
  | .scr xs, _, .scr (vs := vs) h nb r => .scr h (fun z => nb (l.bad _ z)) (RelDs.les l xs vs r)
  | .scr xs, _, .scrK (vs := vs) h r => .scrK h (RelDs.les l xs vs r)
  | .dct _ xs, _, .dct (kvs := kvs) h nb hk r => .dct h (fun z => nb (l.bad _ z)) hk (RelDs.les l xs _ r)
  | _, _, .ref h => .ref (get_pre l.pg h)
theorem RelDs.les {K : PySem.W.Frag} {γ γ' : Gh} {H : Hp} (l : Les γ γ') : ∀ (ds : List D) (vs : List V), RelDs K γ H ds vs → RelDs K γ' H ds vs
  | _, _, .nil => .nil
  | x :: xs, _ :: vs, .cons h r => .cons (RelD.les l x _ h) (RelDs.les l xs vs r)
end
theorem RelVal.les {K : PySem.W.Frag} {γ γ' : Gh} {H : Hp} (l : Les γ γ') (pf : γ.pf <+: γ'.pf) {x : Val} {v : V} (h : RelVal K γ H x v) : RelVal K γ' H x v := by
  cases x with
  | d y => exact RelD.les l _ _ h
  | own j => obtain ⟨b, e, q⟩ := h; exact ⟨b, e, get_pre pf q⟩
theorem les_mk1 (γ : Gh) (a : Addr) : Les (γ.mk1 a) γ := ⟨List.prefix_refl _, fun x h => by
  rcases h with (h | h) | h
  · exact .inl (.inl h)
  · exact .inl (.inr (List.mem_cons_of_mem _ h))
  · exact .inr h⟩
def Gh.ownF (γ : Gh) (a : Addr) : Gh := { γ with pf := γ.pf ++ [some a] }
def Gh.ownG (γ : Gh) (a : Addr) : Gh := { γ with pg := γ.pg ++ [a] }
theorem les_ownF (γ : Gh) (a : Addr) : Les (γ.mk1 a) (γ.ownF a) := ⟨List.prefix_refl _, fun x h => by
  rcases h with (h | h) | h | h
  · exact .inl (.inl h)
  · exact .inl (.inr (List.mem_cons_of_mem _ h))
  · rcases List.mem_append.mp h with h | h
    · exact .inr (.inl h)
    · have e : x = a := by simpa using h
      exact .inl (.inr (by rw [e]; exact List.mem_cons_self))
  · exact .inr (.inr h)⟩
section
variable {K : PySem.W.Frag} {γ : Gh} {s : S} {σ : L2.St} {H : Hp} {a : Addr}
theorem CellOk.les {γ' : Gh} (l : Les γ γ') {c : Cell} (h : CellOk K γ H a c) : CellOk K γ' H a c := by
  obtain ⟨xs, vs, rfl, e, r⟩ := h.is
  exact ⟨vs, e, RelDs.les l _ _ r⟩
theorem CellG.les {γ' : Gh} (l : Les γ γ') {c : Cell} (h : CellG K γ H a c) : CellG K γ' H a c := by
  rcases h with h | ⟨nm, ns, vs, dx, fs, e1, e2, e3, e4⟩
  · exact .inl (h.les l)
  · exact .inr ⟨nm, ns, vs, dx, fs, e1, e2, e3, RelDs.les l _ _ e4⟩
/-- a new list, in the making -/
theorem Rel.mk1 (R : Rel K γ s σ H) {o : HO} (hp : H a = none) (nt : ∀ ps, o ≠ .tbl ps := by intro _ z; cases z) : Rel K (γ.mk1 a) s σ (upd H a o) where
  len := R.len
  slot := fun i v h => by
    obtain ⟨x, e, r⟩ := R.slot i v h
    refine ⟨x, e, ?_⟩
    cases v with
    | d y => exact RelD.mk1 hp R.tups _ _ r
    | own j => exact r
  fl := R.fl
  fc := fun j x c h1 h2 => by
    obtain ⟨xs, vs, rfl, e, r⟩ := (R.fc j x c h1 h2).is
    exact ⟨vs, by rw [upd_ne (L2.ne_of_none e hp)]; exact e, RelDs.mk1 hp R.tups _ _ r⟩
  gl := R.gl
  gc := fun j x c h1 h2 => by
    rcases R.gc j x c h1 h2 with h | ⟨nm, ns, vs, dx, fs, e1, e2, e3, e4⟩
    · obtain ⟨xs, vs, rfl, e, r⟩ := h.is
      exact .inl ⟨vs, by rw [upd_ne (L2.ne_of_none e hp)]; exact e, RelDs.mk1 hp R.tups _ _ r⟩
    · exact .inr ⟨nm, ns, vs, dx, fs, e1, by rw [upd_ne (L2.ne_of_none e2 hp)]; exact e2, e3, RelDs.mk1 hp R.tups _ _ e4⟩
  ndf := R.ndf
  ndg := R.ndg
  dis := R.dis
  bo := R.bo
  fnew := R.fnew
  gnew := R.gnew
  pre := R.pre
  frame := (R.new (o := o) hp).frame
  trk := (R.new (o := o) hp).trk
  tb := (R.new (o := o) hp).tb
  tm := fun x h => by
    rcases List.mem_cons.mp h with e | h
    · subst e
      exact ⟨⟨o, by rw [upd_same], nt⟩, fun z => R.notBad hp (.inr (.inl z)), fun z => R.notBad hp (.inr (.inr z))⟩
    · exact (R.new (o := o) hp).tm x h
theorem Rel.rest (R : Rel K (γ.mk1 a) s σ H) : Rel K γ s σ H where
  len := R.len
  slot := fun i v h => let ⟨x, e, r⟩ := R.slot i v h; ⟨x, e, r.les (les_mk1 γ a) (List.prefix_refl _)⟩
  fl := R.fl
  fc := fun j x c h1 h2 => (R.fc j x c h1 h2).les (les_mk1 γ a)
  gl := R.gl
  gc := fun j x c h1 h2 => (R.gc j x c h1 h2).les (les_mk1 γ a)
  ndf := R.ndf
  ndg := R.ndg
  dis := R.dis
  bo := R.bo
  fnew := R.fnew
  gnew := R.gnew
  pre := R.pre
  frame := R.frame
  trk := R.trk
  tb := R.tb
  tm := fun x h => R.tm x (List.mem_cons_of_mem _ h)
/-- the list made is this frame's own -/
theorem Rel.ownF {xs : List D} {vs : List V} (R : Rel K (γ.mk1 a) s σ H) (h0 : ¬ Liv γ.H0 a) (e : H a = some (.lst vs)) (r : RelDs K (γ.mk1 a) H xs vs) (nt : a ∉ γ.tm) : Rel K (γ.ownF a) { s with fs := s.fs ++ [.lst xs] } σ H where
  len := R.len
  slot := fun i v h => let ⟨x, e, r⟩ := R.slot i v h; ⟨x, e, r.les (les_ownF γ a) (List.prefix_append _ _)⟩
  fl := by simp only [Gh.ownF, List.length_append, List.length_singleton]; rw [show γ.pf.length = s.fs.length from R.fl]
  fc := fun j x c h1 h2 => by
    have l : γ.pf.length = s.fs.length := R.fl
    by_cases hj : j < γ.pf.length
    · rw [show (γ.ownF a).pf = γ.pf ++ [some a] from rfl, List.getElem?_append_left hj] at h1
      rw [List.getElem?_append_left (by omega)] at h2
      exact (R.fc j x c h1 h2).les (les_ownF γ a)
    · rw [show (γ.ownF a).pf = γ.pf ++ [some a] from rfl, List.getElem?_append_right (by omega)] at h1
      rw [List.getElem?_append_right (by omega), ← l] at h2
      cases q : j - γ.pf.length with
      | zero =>
        rw [q] at h1 h2
        simp only [List.getElem?_cons_zero, Option.some.injEq] at h1 h2
        subst h1 h2
        exact ⟨vs, e, RelDs.les (les_ownF γ a) _ _ r⟩
      | succ k => rw [q] at h1; simp at h1
  gl := R.gl
  gc := fun j x c h1 h2 => (R.gc j x c h1 h2).les (les_ownF γ a)
  ndf := fun i j x h1 h2 => by
    have t := (R.tm a List.mem_cons_self).2.1
    have key : ∀ {i : Nat}, (γ.pf ++ [some a])[i]? = some (some x) → (γ.pf[i]? = some (some x) ∧ x ≠ a) ∨ (i = γ.pf.length ∧ x = a) := fun {i} h => by
      by_cases hi : i < γ.pf.length
      · rw [List.getElem?_append_left hi] at h
        refine .inl ⟨h, fun z => t ?_⟩
        rw [← z]; exact List.mem_of_getElem? h
      · rw [List.getElem?_append_right (by omega)] at h
        cases q : i - γ.pf.length with
        | zero =>
          rw [q] at h
          simp only [List.getElem?_cons_zero, Option.some.injEq] at h
          exact .inr ⟨by omega, h.symm⟩
        | succ k => rw [q] at h; simp at h
    rcases key h1 with ⟨h1, n1⟩ | ⟨e1, n1⟩ <;> rcases key h2 with ⟨h2, n2⟩ | ⟨e2, n2⟩
    · exact R.ndf i j x h1 h2
    · exact absurd n2 n1
    · exact absurd n1 n2
    · rw [e1, e2]
  ndg := R.ndg
  dis := fun x h => by
    rcases List.mem_append.mp h with h | h
    · exact R.dis x h
    · have e : x = a := by simpa using h
      rw [e]; exact (R.tm a List.mem_cons_self).2.2
  bo := R.bo
  fnew := fun x h => by
    rcases List.mem_append.mp h with h | h
    · exact R.fnew x h
    · have e : x = a := by simpa using h
      rw [e]; exact h0
  gnew := R.gnew
  pre := R.pre
  frame := R.frame
  trk := R.trk
  tb := R.tb
  tm := fun x h => by
    obtain ⟨h1, h2, h3⟩ := R.tm x (List.mem_cons_of_mem _ h)
    refine ⟨h1, fun z => ?_, h3⟩
    rcases List.mem_append.mp z with z | z
    · exact h2 z
    · have e : x = a := by simpa using z
      exact nt (e ▸ h)
/-- the list made is a shared cell -/
theorem les_ownG (γ : Gh) (a : Addr) : Les (γ.mk1 a) (γ.ownG a) := ⟨List.prefix_append _ _, fun x h => by
  rcases h with (h | h) | h | h
  · exact .inl (.inl h)
  · exact .inl (.inr (List.mem_cons_of_mem _ h))
  · exact .inr (.inl h)
  · rcases List.mem_append.mp h with h | h
    · exact .inr (.inr h)
    · have e : x = a := by simpa using h
      exact .inl (.inr (by rw [e]; exact List.mem_cons_self))⟩
theorem app_key {α : Type} {l : List α} {a : α} {i : Nat} {x : α} (h : (l ++ [a])[i]? = some x) : (i < l.length ∧ l[i]? = some x) ∨ (i = l.length ∧ x = a) := by
  by_cases hi : i < l.length
  · rw [List.getElem?_append_left hi] at h
    exact .inl ⟨hi, h⟩
  · rw [List.getElem?_append_right (by omega)] at h
    cases q : i - l.length with
    | zero =>
      rw [q] at h
      simp only [List.getElem?_cons_zero, Option.some.injEq] at h
      exact .inr ⟨by omega, h.symm⟩
    | succ k => rw [q] at h; simp at h
theorem Rel.ownGC (R : Rel K (γ.mk1 a) s σ H) (h0 : ¬ Liv γ.H0 a) {c : Cell} (hc : CellG K (γ.ownG a) H a c) (nt : a ∉ γ.tm) : Rel K (γ.ownG a) { s with gs := s.gs ++ [c] } σ H where
  len := R.len
  slot := fun i v h => let ⟨x, e, r⟩ := R.slot i v h; ⟨x, e, r.les (les_ownG γ a) (List.prefix_refl _)⟩
  fl := R.fl
  fc := fun j x c h1 h2 => (R.fc j x c h1 h2).les (les_ownG γ a)
  gl := by simp only [Gh.ownG, List.length_append, List.length_singleton]; rw [show γ.pg.length = s.gs.length from R.gl]
  gc := fun j x c h1 h2 => by
    have l : γ.pg.length = s.gs.length := R.gl
    rcases app_key (l := γ.pg) h1 with ⟨hj, h1⟩ | ⟨hj, rfl⟩
    · rw [List.getElem?_append_left (by omega)] at h2
      exact (R.gc j x c h1 h2).les (les_ownG γ a)
    · rcases app_key (l := s.gs) h2 with ⟨hj', _⟩ | ⟨_, rfl⟩
      · omega
      · exact hc
  ndf := R.ndf
  ndg := fun i j x h1 h2 => by
    have t := (R.tm a List.mem_cons_self).2.2
    rcases app_key (l := γ.pg) h1 with ⟨_, h1⟩ | ⟨e1, n1⟩ <;> rcases app_key (l := γ.pg) h2 with ⟨_, h2⟩ | ⟨e2, n2⟩
    · exact R.ndg i j x h1 h2
    · exact absurd (List.mem_of_getElem? h1) (n2 ▸ t)
    · exact absurd (List.mem_of_getElem? h2) (n1 ▸ t)
    · rw [e1, e2]
  dis := fun x h m => by
    rcases List.mem_append.mp m with m | m
    · exact R.dis x h m
    · have e : x = a := by simpa using m
      exact (R.tm a List.mem_cons_self).2.1 (e ▸ h)
  bo := R.bo
  fnew := R.fnew
  gnew := fun x h => by
    rcases List.mem_append.mp h with h | h
    · exact R.gnew x h
    · have e : x = a := by simpa using h
      exact .inr (e ▸ h0)
  pre := List.IsPrefix.trans R.pre (List.prefix_append _ _)
  frame := R.frame
  trk := R.trk
  tb := R.tb
  tm := fun x h => by
    obtain ⟨h1, h2, h3⟩ := R.tm x (List.mem_cons_of_mem _ h)
    refine ⟨h1, h2, fun z => ?_⟩
    rcases List.mem_append.mp z with z | z
    · exact h3 z
    · have e : x = a := by simpa using z
      exact nt (e ▸ h)
theorem Rel.ownG (R : Rel K (γ.mk1 a) s σ H) (h0 : ¬ Liv γ.H0 a) {xs : List D} {vs : List V} (e : H a = some (.lst vs)) (r : RelDs K (γ.mk1 a) H xs vs) (nt : a ∉ γ.tm) : Rel K (γ.ownG a) { s with gs := s.gs ++ [.lst xs] } σ H :=
  R.ownGC h0 (.inl ⟨vs, e, RelDs.les (les_ownG γ _) _ _ r⟩) nt
/-- a thing in the making is written -/
theorem Stp.setTm {γ0 : Gh} {H0 : Hp} {o : HO} (st : Stp γ0 H0 γ H) (h : ¬ Liv H0 a) (hP : Pl (H a)) (nt : ∀ ps, o ≠ .tbl ps := by intro _ z; cases z) : Stp γ0 H0 γ (upd H a o) where
  b := st.b
  h0 := st.h0
  p0 := st.p0
  tm := st.tm
  tmE := st.tmE
  pg := st.pg
  pf := st.pf
  frame := fun x u e nt n1 n2 => by
    have ne : x ≠ a := fun z => h ⟨u, by rw [← z]; exact e, nt⟩
    rw [upd_ne ne]; exact st.frame x u e nt n1 n2
  trk := fun x e => by
    by_cases q : x = a
    · exact ⟨o, by rw [q, upd_same], nt⟩
    · obtain ⟨o', e1, e2⟩ := st.trk x e
      exact ⟨o', by rw [upd_ne q]; exact e1, e2⟩
  fn := st.fn
  gn := st.gn
  tb := fun t => tabs_upd hP (st.tb t)
mutual
theorem RelD.setTm {o : HO} (t : ∀ xs, H a ≠ some (.tup xs)) (t2 : ∀ u xs, H a ≠ some (.frz u (.tup xs))) : ∀ (d : D) (v : V), RelD K (γ.mk1 a) H d v → RelD K (γ.mk1 a) (upd H a o) d v
  | _, _, .non => .non
  | _, _, .bl b => .bl b
  | _, _, .int i => .int i
  | _, _, .str x => .str x
  | .tup xs, _, .tup (a := b) (vs := vs) h r => .tup (by
      rcases h with (h | ⟨u, h⟩) | h
      · have ne : b ≠ a := fun z => by subst z; exact t vs h
        exact .inl (.inl (by rw [upd_ne ne]; exact h))
      · have ne : b ≠ a := fun z => by subst z; exact t2 u vs h
        exact .inl (.inr ⟨u, by rw [upd_ne ne]; exact h⟩)
      · exact .inr h) (RelDs.setTm t t2 xs vs r)
  | .lst xs, _, .lst (a := b) (vs := vs) h nb r => .lst (by rw [upd_ne (fun z => nb (.inl (.inr (by rw [z]; exact List.mem_cons_self))))]; exact h) nb (RelDs.setTm t t2 xs vs r)
  | .scr xs, _, .scr (a := b) (vs := vs) h nb r => .scr (by
      have ne : b ≠ a := fun z => nb (.inl (.inr (by rw [z]; exact List.mem_cons_self)))
      rcases h with h | ⟨u, h⟩
      · exact .inl (by rw [upd_ne ne]; exact h)
      · exact .inr ⟨u, by rw [upd_ne ne]; exact h⟩) nb (RelDs.setTm t t2 xs vs r)
  | .scr xs, _, .scrK (vs := vs) h r => .scrK h (RelDs.setTm t t2 xs vs r)
  | .dct _ xs, _, .dct (a := b) (kvs := kvs) h nb hk r => .dct (by rw [upd_ne (fun z => nb (.inl (.inr (by rw [z]; exact List.mem_cons_self))))]; exact h) nb hk (RelDs.setTm t t2 xs _ r)
  | _, _, .ref h => .ref h
theorem RelDs.setTm {o : HO} (t : ∀ xs, H a ≠ some (.tup xs)) (t2 : ∀ u xs, H a ≠ some (.frz u (.tup xs))) : ∀ (ds : List D) (vs : List V), RelDs K (γ.mk1 a) H ds vs → RelDs K (γ.mk1 a) (upd H a o) ds vs
  | _, _, .nil => .nil
  | x :: xs, _ :: vs, .cons h r => .cons (RelD.setTm t t2 x _ h) (RelDs.setTm t t2 xs vs r)
end
theorem RelVal.setTm {o : HO} (t : ∀ xs, H a ≠ some (.tup xs)) (t2 : ∀ u xs, H a ≠ some (.frz u (.tup xs))) {x : Val} {v : V} (h : RelVal K (γ.mk1 a) H x v) : RelVal K (γ.mk1 a) (upd H a o) x v := by
  cases x with
  | d y => exact RelD.setTm t t2 _ _ h
  | own j => exact h
theorem Rel.setTm {o : HO} (R : Rel K (γ.mk1 a) s σ H) (h0 : ¬ Liv γ.H0 a) (hP : Pl (H a)) (nt : ∀ ps, o ≠ .tbl ps) (t : ∀ xs, H a ≠ some (.tup xs)) (t2 : ∀ u xs, H a ≠ some (.frz u (.tup xs))) : Rel K (γ.mk1 a) s σ (upd H a o) where
  len := R.len
  slot := fun i v h => let ⟨x, e, r⟩ := R.slot i v h; ⟨x, e, r.setTm t t2⟩
  fl := R.fl
  fc := fun j x c h1 h2 => by
    obtain ⟨xs, vs, rfl, e, r⟩ := (R.fc j x c h1 h2).is
    have ne : x ≠ a := fun z => by subst z; exact (R.tm x List.mem_cons_self).2.1 (List.mem_of_getElem? h1)
    exact ⟨vs, by rw [upd_ne ne]; exact e, RelDs.setTm t t2 _ _ r⟩
  gl := R.gl
  gc := fun j x c h1 h2 => by
    have ne : x ≠ a := fun z => by subst z; exact (R.tm x List.mem_cons_self).2.2 (List.mem_of_getElem? h1)
    rcases R.gc j x c h1 h2 with h | ⟨nm, ns, vs, dx, fs, e1, e2, e3, e4⟩
    · obtain ⟨xs, vs, rfl, e, r⟩ := h.is
      exact .inl ⟨vs, by rw [upd_ne ne]; exact e, RelDs.setTm t t2 _ _ r⟩
    · exact .inr ⟨nm, ns, vs, dx, fs, e1, by rw [upd_ne ne]; exact e2, e3, RelDs.setTm t t2 _ _ e4⟩
  ndf := R.ndf
  ndg := R.ndg
  dis := R.dis
  bo := R.bo
  fnew := R.fnew
  gnew := R.gnew
  pre := R.pre
  frame := fun x u e nt n => by
    have ne : x ≠ a := fun z => h0 ⟨u, by rw [← z]; exact e, nt⟩
    rw [upd_ne ne]
    exact R.frame x u e nt n
  trk := fun x e => by
    by_cases q : x = a
    · exact ⟨o, by rw [q, upd_same], nt⟩
    · obtain ⟨o', e1, e2⟩ := R.trk x e
      exact ⟨o', by rw [upd_ne q]; exact e1, e2⟩
  tb := tabs_upd hP R.tb
  tm := fun x h => by
    refine ⟨?_, (R.tm x h).2⟩
    by_cases q : x = a
    · exact ⟨o, by rw [q, upd_same], nt⟩
    · obtain ⟨o', e1, e2⟩ := (R.tm x h).1
      exact ⟨o', by rw [upd_ne q]; exact e1, e2⟩
theorem Rel.nil_of (R : Rel K γ s σ H) (hp : ¬ Liv H a) : ¬ Liv γ.H0 a ∧ a ∉ γ.tm := ⟨fun z => hp (R.trk a z), fun z => hp (R.tm a z).1⟩
end
end Mp

/-! Mp: readings by the evaluator; operators. -/
namespace Mp
open PySem (Addr Value Expr PyData Str CmpOp Operator binaryOp compareOp cLine)
open L2 (V HO Hp upd upd_same upd_ne SqT SqL Rd PE PT PA Cx OpR TE TT TA VK XK WX RelV EP)
variable [TabT]

/-- how an error lies -/
abbrev ExRel := Gh → Hp → Ex → Value → Option Addr → Prop

section
variable (K : PySem.W.Frag) (RX : ExRel) (W : WX)
/-- what is wanted behind -/
def Post {α β : Type} (γ : Gh) (H : Hp) (σ : L2.St) (rel : Gh → Hp → α → β → Prop) (r : R α) (Q : β → Hp → Prop) : Prop :=
  match r with
  | .ok a s' => ∀ (γ' : Gh) (H' : Hp) (b : β), Stp γ H γ' H' → Rel K γ' s' σ H' → rel γ' H' a b → Q b H'
  | .ex e s' => ∀ (γ' : Gh) (H' : Hp) (c : Value) (d : Option Addr), Stp γ H γ' H' → Rel K γ' s' σ H' → RX γ' H' e c d → W c d σ H'
  | .bad => False
def tE (m : S → R Val) : TE := fun σ H Q => ∃ γ s, Rel K γ s σ H ∧ Post K RX W γ H σ (RelVal K) (m s) Q
def tT (m : S → R Bool) : TT := fun σ H Q => ∃ γ s, Rel K γ s σ H ∧ Post K RX W γ H σ (fun _ _ a b => a = b) (m s) Q
def tA (m : S → R (List Val)) : TA := fun σ H Q => ∃ γ s, Rel K γ s σ H ∧ Post K RX W γ H σ (RelVals K) (m s) Q
/-- a list in the making is handed on -/
def tF (m : S → R (List D)) : TE := fun σ H Q => ∃ γ s, Rel K γ s σ H ∧
  match m s with
  | .ok xs s' => ∀ (γ' : Gh) (H' : Hp) (a : Addr) (vs : List V), ¬ Liv H a → Stp γ H γ' H' → Rel K (γ'.mk1 a) s' σ H' → RelDs K (γ'.mk1 a) H' xs vs → H' a = some (.lst vs) → Q (.ref a) H'
  | .ex e s' => ∀ (γ' : Gh) (H' : Hp) (c : Value) (d : Option Addr), Stp γ H γ' H' → Rel K γ' s' σ H' → RX γ' H' e c d → W c d σ H'
  | .bad => False
end

section
variable {K : PySem.W.Frag} {RX : ExRel} {W : WX} {γ : Gh} {H : Hp} {σ : L2.St}
theorem Post.bind {α α' β β' : Type} {r : R α'} {f : α' → S → R α} {rel : Gh → Hp → α → β → Prop} {rel1 : Gh → Hp → α' → β' → Prop} {Q : β → Hp → Prop} {Q1 : β' → Hp → Prop}
    (p : Post K RX W γ H σ rel (r.bind f) Q)
    (h : ∀ a s1 γ1 H1 b, Stp γ H γ1 H1 → Rel K γ1 s1 σ H1 → rel1 γ1 H1 a b → Post K RX W γ1 H1 σ rel (f a s1) Q → Q1 b H1) : Post K RX W γ H σ rel1 r Q1 := by
  cases r with
  | bad => exact p
  | ex e s => exact p
  | ok a s1 =>
    intro γ1 H1 b st R1 r1
    refine h a s1 γ1 H1 b st R1 r1 ?_
    have p' : Post K RX W γ H σ rel (f a s1) Q := p
    cases hf : f a s1 with
    | bad => rw [hf] at p'; exact p'
    | ok y s2 => rw [hf] at p'; exact fun γ2 H2 b2 st2 R2 r2 => p' γ2 H2 b2 (st.trans st2) R2 r2
    | ex e s2 => rw [hf] at p'; exact fun γ2 H2 c d st2 R2 r2 => p' γ2 H2 c d (st.trans st2) R2 r2
/-- a step ahead is forgotten -/
theorem Post.from {α β : Type} {rel : Gh → Hp → α → β → Prop} {Q : β → Hp → Prop} {r : R α} {γ1 : Gh} {H1 : Hp} (st : Stp γ H γ1 H1) (p : Post K RX W γ H σ rel r Q) : Post K RX W γ1 H1 σ rel r Q := by
  cases r with
  | bad => exact p
  | ok y s2 => exact fun γ2 H2 b2 st2 R2 r2 => p γ2 H2 b2 (st.trans st2) R2 r2
  | ex e s2 => exact fun γ2 H2 c d st2 R2 r2 => p γ2 H2 c d (st.trans st2) R2 r2
theorem Post.opt {α β : Type} {o : Option α} {s : S} {rel : Gh → Hp → α → β → Prop} {Q : β → Hp → Prop} (p : Post K RX W γ H σ rel (optR o s) Q) : ∃ a, o = some a ∧ Post K RX W γ H σ rel (.ok a s) Q := by
  cases o with
  | none => exact False.elim p
  | some a => exact ⟨a, rfl, p⟩
/-- it is there -/
theorem Post.here {α β : Type} {a : α} {s : S} {rel : Gh → Hp → α → β → Prop} {Q : β → Hp → Prop} (p : Post K RX W γ H σ rel (.ok a s) Q) (R : Rel K γ s σ H) {b : β} (r : rel γ H a b) : Q b H := p γ H b (Stp.refl γ H) R r
theorem Post.if {α β : Type} {c : Bool} {a : R α} {rel : Gh → Hp → α → β → Prop} {Q : β → Hp → Prop} (p : Post K RX W γ H σ rel (if c = true then a else .bad) Q) : c = true ∧ Post K RX W γ H σ rel a Q := by
  cases c with
  | true => exact ⟨rfl, p⟩
  | false => exact False.elim p
theorem Post.ifP {α β : Type} {c : Prop} [Decidable c] {a : R α} {rel : Gh → Hp → α → β → Prop} {Q : β → Hp → Prop} (p : Post K RX W γ H σ rel (if c then a else .bad) Q) : c ∧ Post K RX W γ H σ rel a Q := by
  by_cases h : c
  · rw [if_pos h] at p; exact ⟨h, p⟩
  · rw [if_neg h] at p; exact False.elim p
end

section
variable {X : Cx}
theorem weakE {e : Expr} {t t' : TE} (h : PE X e t) (w : ∀ σ H Q, t' σ H Q → t σ H Q) : PE X e t' := ⟨fun ps s σ H Q I q => h.run ps s σ H Q I (w σ H Q q)⟩
theorem weakT {e : Expr} {t t' : TT} (h : PT X e t) (w : ∀ σ H Q, t' σ H Q → t σ H Q) : PT X e t' := ⟨fun ps s σ H Q I q => h.run ps s σ H Q I (w σ H Q q)⟩
theorem weakA {e : List Expr} {t t' : TA} (h : PA X e t) (w : ∀ σ H Q, t' σ H Q → t σ H Q) : PA X e t' := ⟨fun pos ps s σ H Q I q => h.run pos ps s σ H Q I (w σ H Q q)⟩
end

/-! ### data -/
section
variable {K : PySem.W.Frag} {γ : Gh} {H : Hp} {s : S} {σ : L2.St}
mutual
theorem dp_of : ∀ (x : D) (v : V) (d : PyData), RelD K γ H x v → x.py = some d → L2.Dp K H v d
  | .non, _, _, .non, e => by cases e; exact .non
  | .bl b, _, _, .bl _, e => by cases e; exact .bl b
  | .int i, _, _, .int _, e => by cases e; exact .int i
  | .str x, _, _, .str _, e => by cases e; exact .str x
  | .tup xs, _, d, .tup (vs := vs) h r, e => by
    simp only [D.py, Option.map_eq_some_iff] at e
    obtain ⟨ds, e1, rfl⟩ := e
    exact .tup h (dps_of xs vs ds r e1)
  | .lst xs, _, d, .lst (vs := vs) h nb r, e => by
    simp only [D.py, Option.map_eq_some_iff] at e
    obtain ⟨ds, e1, rfl⟩ := e
    exact .lst (SqL.of h) (dps_of xs vs ds r e1)
  | .scr xs, _, d, .scr (vs := vs) h nb r, e => by
    simp only [D.py, Option.map_eq_some_iff] at e
    obtain ⟨ds, e1, rfl⟩ := e
    exact .lst (.inl h) (dps_of xs vs ds r e1)
  | .scr xs, _, d, .scrK (vs := vs) h r, e => by
    simp only [D.py, Option.map_eq_some_iff] at e
    obtain ⟨ds, e1, rfl⟩ := e
    exact .lst (h H) (dps_of xs vs ds r e1)
  | .dct _ _, _, _, .dct _ _ _ _, e => by simp [D.py] at e
  | .ref _, _, _, .ref _, e => by simp [D.py] at e
theorem dps_of : ∀ (xs : List D) (vs : List V) (ds : List PyData), RelDs K γ H xs vs → D.pys xs = some ds → L2.DpAll K H vs ds
  | [], _, _, .nil, e => by cases e; exact .nil
  | x :: xs, v :: vs, ds, .cons h r, e => by
    unfold D.pys at e
    cases q : x.py with
    | none => rw [q] at e; simp at e
    | some d =>
      cases q2 : D.pys xs with
      | none => rw [q, q2] at e; simp at e
      | some l =>
        rw [q, q2] at e
        cases e
        exact .cons (dp_of x v d h q) (dps_of xs vs l r q2)
end
mutual
theorem dp_plain : ∀ (d : PyData) (v : V), L2.Dp K H v d → d.plain = true
  | .none, _, _ => rfl
  | .bool _, _, _ => rfl
  | .int _, _, _ => rfl
  | .str _, _, _ => rfl
  | .list ds, _, .lst (xs := xs) _ r => dps_plain ds xs r
  | .tuple ds, _, .tup (xs := xs) _ r => dps_plain ds xs r
theorem dps_plain : ∀ (ds : List PyData) (vs : List V), L2.DpAll K H vs ds → PyData.plainAll ds = true
  | [], _, _ => rfl
  | d :: ds, _, .cons (v := v) (vs := vs) h r => by
    unfold PyData.plainAll
    rw [dp_plain d v h, dps_plain ds vs r]
    rfl
end
theorem relDs_len {xs : List D} {vs : List V} (h : RelDs K γ H xs vs) : xs.length = vs.length := by
  induction xs generalizing vs with
  | nil => cases h; rfl
  | cons x xs ih =>
    cases h with
    | cons _ t => simp only [List.length_cons, ih t]
theorem relDs_get {xs : List D} {vs : List V} (h : RelDs K γ H xs vs) : ∀ {i : Nat} {x : D}, xs[i]? = some x → ∃ v, vs[i]? = some v ∧ RelD K γ H x v := by
  induction xs generalizing vs with
  | nil => intro i x e; simp at e
  | cons y ys ih =>
    cases h with
    | cons h t =>
      intro i x e
      cases i with
      | zero => simp at e; subst e; exact ⟨_, rfl, h⟩
      | succ i => simp at e; exact ih t e
theorem relDs_app {xs ys : List D} {vs us : List V} (h : RelDs K γ H xs vs) (g : RelDs K γ H ys us) : RelDs K γ H (xs ++ ys) (vs ++ us) := by
  induction xs generalizing vs with
  | nil => cases h; exact g
  | cons x xs ih =>
    cases h with
    | cons h t => exact .cons h (ih t)
theorem relDs_set {xs : List D} {vs : List V} (h : RelDs K γ H xs vs) {x : D} {v : V} (r : RelD K γ H x v) : ∀ (i : Nat), RelDs K γ H (xs.set i x) (vs.set i v) := by
  induction xs generalizing vs with
  | nil => cases h; intro i; exact .nil
  | cons y ys ih =>
    cases h with
    | cons h t =>
      intro i
      cases i with
      | zero => exact .cons r t
      | succ i => exact .cons h (ih t i)
theorem toDs_rel : ∀ {vs : List Val} {us : List V} {ds : List D}, RelVals K γ H vs us → toDs vs = some ds → RelDs K γ H ds us
  | [], _, _, .nil, e => by cases e; exact .nil
  | .d x :: vs, _ :: us, ds, .cons h t, e => by
    simp only [toDs, Option.map_eq_some_iff] at e
    obtain ⟨l, e1, rfl⟩ := e
    exact .cons h (toDs_rel t e1)
  | .own _ :: _, _ :: _, _, .cons _ _, e => by simp [toDs] at e

/-- what seqv says, in the heap -/
theorem seq_rel (R : Rel K γ s σ H) {v : Val} {x : V} {b : Bool} {xs : List D} (r : RelVal K γ H v x) (e : seqv v s = some (b, xs)) :
    ∃ a vs, x = .ref a ∧ RelDs K γ H xs vs ∧ (if b = true then SqL K H a vs else SqT K H a vs) := by
  cases v with
  | own j =>
    obtain ⟨a, rfl, ha⟩ := r
    obtain ⟨ys, vs, hc, hh, rr⟩ := R.cellF ha
    simp only [seqv, hc] at e
    cases e
    exact ⟨a, vs, rfl, rr, SqL.of hh⟩
  | d y =>
    cases y with
    | tup ys =>
      cases r with
      | tup h rr => cases e; exact ⟨_, _, rfl, rr, h⟩
    | lst ys =>
      cases r with
      | lst h nb rr => cases e; exact ⟨_, _, rfl, rr, SqL.of h⟩
    | scr ys =>
      cases r with
      | scr h nb rr => cases e; exact ⟨_, _, rfl, rr, .inl h⟩
      | scrK h rr => cases e; exact ⟨_, _, rfl, rr, h H⟩
    | ref n =>
      cases r with
      | ref ha =>
        obtain ⟨ys, vs, hc, hh, rr⟩ := R.cellG ha (ref_lst e)
        simp only [seqv, hc] at e
        cases e
        exact ⟨_, vs, rfl, rr, SqL.of hh⟩
    | _ => simp [seqv] at e
theorem val_dp (R : Rel K γ s σ H) {v : Val} {x : V} {d : PyData} (r : RelVal K γ H v x) (e : v.py s = some d) : L2.Dp K H x d := by
  cases v with
  | own j =>
    obtain ⟨a, rfl, ha⟩ := r
    obtain ⟨ys, vs, hc, hh, rr⟩ := R.cellF ha
    simp only [Val.py, hc, Option.map_eq_some_iff] at e
    obtain ⟨ds, e1, rfl⟩ := e
    exact .lst (SqL.of hh) (dps_of _ _ _ rr e1)
  | d y =>
    cases y with
    | ref n =>
      cases r with
      | ref ha =>
        have hz : ∃ zs, s.gs[n]? = some (.lst zs) := by
          simp only [Val.py] at e
          split at e
          · exact ⟨_, by assumption⟩
          · cases e
        obtain ⟨ys, vs, hc, hh, rr⟩ := R.cellG ha hz.choose_spec
        simp only [Val.py, hc, Option.map_eq_some_iff] at e
        obtain ⟨ds, e1, rfl⟩ := e
        exact .lst (SqL.of hh) (dps_of _ _ _ rr e1)
    | _ => exact dp_of _ _ _ r e
end

/-! ### operators by values -/
section
variable {X : Cx} {RX : ExRel} {W : WX}
theorem op_eqP (hu : X.A.units + 200 < cLine) : OpR X (compareOp .Eq) (fun x y H Q => ∃ d e, L2.Dp X.K H x d ∧ L2.Dp X.K H y e ∧ min d.depth e.depth ≤ 100 ∧ Q (.bl (PyData.eqv d e)) H) := by
  intro ps s σ H x y v u Q I rx ry ⟨d, e, hd, he, hm, q⟩
  obtain ⟨as, r1⟩ := L2.Dp.reads I d x v hd rx
  obtain ⟨bs, r2⟩ := L2.Dp.reads I e y u he ry
  exact PySem.SeqAt.eq_plain r1 r2 (dp_plain d x hd) (dp_plain e y he) (by omega) ⟨.bl _, H, I, rfl, q⟩
theorem op_neP (hu : X.A.units + 200 < cLine) : OpR X (compareOp .NotEq) (fun x y H Q => ∃ d e, L2.Dp X.K H x d ∧ L2.Dp X.K H y e ∧ min d.depth e.depth ≤ 100 ∧ Q (.bl (!PyData.eqv d e)) H) := by
  intro ps s σ H x y v u Q I rx ry ⟨d, e, hd, he, hm, q⟩
  obtain ⟨as, r1⟩ := L2.Dp.reads I d x v hd rx
  obtain ⟨bs, r2⟩ := L2.Dp.reads I e y u he ry
  exact PySem.SeqAt.ne_plain r1 r2 (dp_plain d x hd) (dp_plain e y he) (by omega) ⟨.bl _, H, I, rfl, q⟩
/-- two lists of other lengths -/
def rLenP (K : PySem.W.Frag) (f : Bool → Bool) : L2.R2 := fun x y H Q => ∃ (a b : Addr) (xs ys : List V), x = .ref a ∧ y = .ref b ∧ SqL K H a xs ∧ SqL K H b ys ∧ xs.length ≠ ys.length ∧ Q (.bl (f false)) H
theorem op_eqL (hu : X.A.units + 200 < cLine) : OpR X (compareOp .Eq) (rLenP X.K id) := by
  intro ps s σ H x y v u Q I rx ry h
  obtain ⟨a, b, xs, ys, rfl, rfl, h1, h2, hn, q⟩ := h
  cases rx; cases ry
  obtain ⟨is, r1, ⟨o1, n1, ho1, hc1, _, hd1⟩, _⟩ := I.list h1
  obtain ⟨js, r2, ⟨o2, n2, ho2, hc2, _, hd2⟩, _⟩ := I.list h2
  have l1 : xs.length = is.length := r1.length
  have l2 : ys.length = js.length := r2.length
  exact PySem.SeqAt.RcAt.lists_lengths ⟨o1, ho1, hc1, n1, hd1⟩ ⟨o2, ho2, hc2, n2, hd2⟩ (by simp only [bne_iff_ne, ne_eq, List.size_toArray]; omega) (by omega) _ _ _ _ ⟨.bl false, H, I, rfl, q⟩
theorem op_neL (hu : X.A.units + 200 < cLine) : OpR X (compareOp .NotEq) (rLenP X.K not) := by
  intro ps s σ H x y v u Q I rx ry h
  obtain ⟨a, b, xs, ys, rfl, rfl, h1, h2, hn, q⟩ := h
  cases rx; cases ry
  obtain ⟨is, r1, ⟨o1, n1, ho1, hc1, _, hd1⟩, _⟩ := I.list h1
  obtain ⟨js, r2, ⟨o2, n2, ho2, hc2, _, hd2⟩, _⟩ := I.list h2
  have l1 : xs.length = is.length := r1.length
  have l2 : ys.length = js.length := r2.length
  exact PySem.SeqAt.RcNeAt.lists_lengths ⟨o1, ho1, hc1, n1, hd1⟩ ⟨o2, ho2, hc2, n2, hd2⟩ (by simp only [bne_iff_ne, ne_eq, List.size_toArray]; omega) (by omega) _ _ _ _ ⟨.bl true, H, I, rfl, q⟩
/-- a tuple with items is not the empty tuple -/
def rEmpP (K : PySem.W.Frag) (f : Bool → Bool) : L2.R2 := fun x y H Q => ∃ (a b : Addr) (xs : List V), x = .ref a ∧ y = .ref b ∧ SqT K H a xs ∧ SqT K H b [] ∧ xs ≠ [] ∧ Q (.bl (f false)) H
theorem op_eqE (hu : X.A.units + 200 < cLine) : OpR X (compareOp .Eq) (rEmpP X.K id) := by
  intro ps s σ H x y v u Q I rx ry h
  obtain ⟨a, b, xs, rfl, rfl, h1, h2, hn, q⟩ := h
  cases rx; cases ry
  obtain ⟨is, r1, ⟨o1, ho1, hc1, n1, hd1⟩, _⟩ := I.tuple h1
  obtain ⟨js, r2, ⟨o2, ho2, hc2, n2, hd2⟩, _⟩ := I.tuple h2
  cases r2
  have l1 : is.length ≠ 0 := by rw [← r1.length]; exact fun z => hn (List.length_eq_zero_iff.mp z)
  have := PySem.SeqAt.RcAt.tuples (A := X.A) (s := s) (e := fun _ => true) ⟨o1, ho1, hc1, n1, hd1⟩ ⟨o2, ho2, hc2, n2, hd2⟩ (by omega) (fun j h1 h2 => absurd h2 (by simp))
  refine this _ _ _ _ ⟨.bl false, H, I, ?_, q⟩
  show _ = _
  simp [l1]
theorem op_neE (hu : X.A.units + 200 < cLine) : OpR X (compareOp .NotEq) (rEmpP X.K not) := by
  intro ps s σ H x y v u Q I rx ry h
  obtain ⟨a, b, xs, rfl, rfl, h1, h2, hn, q⟩ := h
  cases rx; cases ry
  obtain ⟨is, r1, ⟨o1, ho1, hc1, n1, hd1⟩, _⟩ := I.tuple h1
  obtain ⟨js, r2, ⟨o2, ho2, hc2, n2, hd2⟩, _⟩ := I.tuple h2
  cases r2
  have l1 : is.length ≠ 0 := by rw [← r1.length]; exact fun z => hn (List.length_eq_zero_iff.mp z)
  have := PySem.SeqAt.RcNeAt.tuples (A := X.A) (s := s) (e := fun _ => true) ⟨o1, ho1, hc1, n1, hd1⟩ ⟨o2, ho2, hc2, n2, hd2⟩ (by omega) (fun j h1 h2 => absurd h2 (by simp))
  refine this _ _ _ _ ⟨.bl true, H, I, ?_, q⟩
  show _ = _
  simp [l1]
/-- x in a list | tuple of data -/
def rInP (K : PySem.W.Frag) (f : Bool → Bool) : L2.R2 := fun x y H Q => ∃ (d : PyData) (a : Addr) (vs : List V) (l : List PyData), L2.Dp K H x d ∧ y = .ref a ∧ (SqL K H a vs ∨ SqT K H a vs) ∧ L2.DpAll K H vs l ∧ d.depth ≤ 100 ∧ Q (.bl (f (inSeq d l))) H
theorem op_inP (hu : X.A.units + 200 < cLine) : OpR X (compareOp .In) (rInP X.K id) := by
  intro ps s σ H x y v u Q I rx ry h
  obtain ⟨d, a, vs, l, hd, rfl, hs, hl, hm, q⟩ := h
  obtain ⟨as, r1⟩ := L2.Dp.reads I d x v hd rx
  have hb : X.A.units + 1 + min (PyData.depthAll l) d.depth < cLine := by omega
  rcases hs with hs | hs
  · obtain ⟨bs, r2⟩ := L2.Dp.reads I _ _ u (.lst hs hl) ry
    exact PySem.SeqAt.in_list_data r2 r1 (dps_plain l vs hl) (dp_plain d x hd) hb ⟨.bl _, H, I, rfl, q⟩
  · obtain ⟨bs, r2⟩ := L2.Dp.reads I _ _ u (.tup hs hl) ry
    exact PySem.SeqAt.in_tuple_data r2 r1 (dps_plain l vs hl) (dp_plain d x hd) hb ⟨.bl _, H, I, rfl, q⟩
theorem op_notinP (hu : X.A.units + 200 < cLine) : OpR X (compareOp .NotIn) (rInP X.K not) := by
  intro ps s σ H x y v u Q I rx ry h
  obtain ⟨d, a, vs, l, hd, rfl, hs, hl, hm, q⟩ := h
  obtain ⟨as, r1⟩ := L2.Dp.reads I d x v hd rx
  have hb : X.A.units + 1 + min (PyData.depthAll l) d.depth < cLine := by omega
  rcases hs with hs | hs
  · obtain ⟨bs, r2⟩ := L2.Dp.reads I _ _ u (.lst hs hl) ry
    exact PySem.SeqAt.notIn_list_data r2 r1 (dps_plain l vs hl) (dp_plain d x hd) hb ⟨.bl _, H, I, rfl, q⟩
  · obtain ⟨bs, r2⟩ := L2.Dp.reads I _ _ u (.tup hs hl) ry
    exact PySem.SeqAt.notIn_tuple_data r2 r1 (dps_plain l vs hl) (dp_plain d x hd) hb ⟨.bl _, H, I, rfl, q⟩

def opP : Bo → Operator
  | .add => .Add | .sub => .Sub | .mul => .Mult | .fdiv => .FloorDiv | .mod => .Mod | .pow => .Pow
def coP : Co → CmpOp
  | .eq => .Eq | .ne => .NotEq | .lt => .Lt | .le => .LtE | .gt => .Gt | .ge => .GtE | .is => .Is | .isnot => .IsNot | .in_ => .In | .notin => .NotIn

theorem okI_lt {i : Int} (h : okI i = true) : i.natAbs < BIG := by
  unfold okI at h
  exact of_decide_eq_true h
theorem okI_log {i : Int} (h : okI i = true) : i.natAbs.log2 < 9000 := by
  have h2 : i.natAbs < 2 ^ 9000 := okI_lt h
  exact PySem.Flt.log2_lt_of (by decide) h2
theorem okI_bits {i : Int} (h : okI i = true) : PySem.Builtin.Int.intBits i ≤ 9000 := by
  have := okI_log h
  unfold PySem.Builtin.Int.intBits
  split
  · exact Nat.zero_le _
  · omega
theorem op_powP : OpR X (binaryOp .Pow) (L2.rI (fun i j => 0 ≤ j ∧ j ≤ 1000 ∧ okI i = true) fun i j => .int (i ^ j.toNat)) :=
  L2.opI fun i j _ _ _ _ _ hc q => PyProof.Rows.pow_int hc.1 (by
    have h1 := okI_bits hc.2.2
    have h2 := hc.2.1
    have h3 : (PySem.Builtin.Int.intBits i : Int) ≤ 9000 := by omega
    have h4 : (PySem.Builtin.Int.intBits i : Int) * j ≤ 9000 * 1000 := Int.mul_le_mul h3 h2 hc.1 (by omega)
    omega) q
/-- two values of the evaluator, then its operator -/
def rB (K : PySem.W.Frag) (RX : ExRel) (W : WX) (m : Val → Val → S → R Val) : L2.R2 := fun x y H Q => ∃ γ s σ v w, Rel K γ s σ H ∧ RelVal K γ H v x ∧ RelVal K γ H w y ∧ Post K RX W γ H σ (RelVal K) (m v w s) Q

theorem relDs_nil {K : PySem.W.Frag} {γ : Gh} {H : Hp} {vs : List V} (h : RelDs K γ H [] vs) : vs = [] := by cases h; rfl

theorem line_le {n : Nat} (h : n ≤ LINE) : n ≤ PySem.sizeLine := Nat.le_trans h (by decide)
theorem line_lt {n : Nat} (h : n < LINE) : n < PySem.sizeLine := Nat.lt_of_lt_of_le h (by decide)
/-- a new list, let go -/
theorem new_lst {K : PySem.W.Frag} {γ : Gh} {s : S} {σ : L2.St} {H : Hp} {p : Addr} {xs : List D} {vs : List V} (R : Rel K γ s σ H) (hp : H p = none) (r : RelDs K γ H xs vs) :
    RelD K γ (upd H p (.lst vs)) (.lst xs) (.ref p) := .lst upd_same (R.notBad hp) (RelDs.step (Stp.new γ hp).toSts R.tups _ _ r)
theorem new_tup {K : PySem.W.Frag} {γ : Gh} {s : S} {σ : L2.St} {H : Hp} {p : Addr} {xs : List D} {vs : List V} (R : Rel K γ s σ H) (hp : H p = none) (r : RelDs K γ H xs vs) :
    RelD K γ (upd H p (.tup vs)) (.tup xs) (.ref p) := .tup (SqT.of upd_same) (RelDs.step (Stp.new γ hp).toSts R.tups _ _ r)

theorem lsto_rel {K : PySem.W.Frag} {γ : Gh} {s : S} {σ : L2.St} {H : Hp} (R : Rel K γ s σ H) {v : Val} {x : V} {xs : List D} (r : RelVal K γ H v x) (e : lsto v s = some xs) : ∃ a vs, x = .ref a ∧ H a = some (.lst vs) ∧ RelDs K γ H xs vs := by
  cases v with
  | own j =>
    obtain ⟨a, rfl, ha⟩ := r
    obtain ⟨ys, vs, hc, hh, rr⟩ := R.cellF ha
    simp only [lsto, hc] at e
    cases e
    exact ⟨a, vs, rfl, hh, rr⟩
  | d y =>
    cases y with
    | lst ys =>
      cases r with
      | lst h nb rr => cases e; exact ⟨_, _, rfl, h, rr⟩
    | ref n =>
      cases r with
      | ref ha =>
        have hz : ∃ zs, s.gs[n]? = some (.lst zs) := by
          simp only [lsto] at e
          split at e
          · exact ⟨_, by assumption⟩
          · cases e
        obtain ⟨ys, vs, hc, hh, rr⟩ := R.cellG ha hz.choose_spec
        simp only [lsto, hc] at e
        cases e
        exact ⟨_, vs, rfl, hh, rr⟩
    | _ => simp [lsto] at e

theorem opR_bin (op : Bo) : OpR X (binaryOp (opP op)) (rB X.K RX W (binop op)) := by
  intro ps st τ H x y v u Q I rx ry h
  obtain ⟨γ, s, σ, a, b, R, ra, rb, p⟩ := h
  unfold binop at p
  split at p
  · cases ra; cases rb
    exact L2.op_add ps st τ H _ _ v u Q I rx ry ⟨_, _, rfl, rfl, p.here R (.int _)⟩
  · cases ra; cases rb
    exact L2.op_sub ps st τ H _ _ v u Q I rx ry ⟨_, _, rfl, rfl, p.here R (.int _)⟩
  · obtain ⟨hc, p⟩ := Post.if p
    rw [Bool.and_eq_true] at hc
    cases ra; cases rb
    have h1 := okI_log hc.1
    have h2 := okI_log hc.2
    exact L2.op_mulW ps st τ H _ _ v u Q I rx ry ⟨_, _, rfl, rfl, (by unfold L2.CMulW; omega), p.here R (.int _)⟩
  · obtain ⟨hc, p⟩ := Post.if p
    rw [Bool.and_eq_true, decide_eq_true_eq] at hc
    cases ra; cases rb
    exact L2.op_fdivW ps st τ H _ _ v u Q I rx ry ⟨_, _, rfl, rfl, ⟨hc.1, okI_log hc.2⟩, p.here R (.int _)⟩
  · obtain ⟨hc, p⟩ := Post.if p
    rw [decide_eq_true_eq] at hc
    cases ra; cases rb
    exact L2.op_mod ps st τ H _ _ v u Q I rx ry ⟨_, _, rfl, rfl, hc, p.here R (.int _)⟩
  · obtain ⟨hc, p⟩ := Post.if p
    rw [Bool.and_eq_true, Bool.and_eq_true, decide_eq_true_eq, decide_eq_true_eq] at hc
    cases ra; cases rb
    exact op_powP ps st τ H _ _ v u Q I rx ry ⟨_, _, rfl, rfl, ⟨hc.1.1, hc.1.2, hc.2⟩, p.here R (.int _)⟩
  · obtain ⟨hl, p⟩ := Post.ifP p
    cases ra; cases rb
    exact L2.op_add_str ps st τ H _ _ v u Q I rx ry ⟨_, _, rfl, rfl, line_le hl, p.here R (.str _)⟩
  · obtain ⟨hl, p⟩ := Post.ifP p
    cases ra with
    | tup t1 r1 =>
      cases rb with
      | tup t2 r2 =>
        have l1 := relDs_len r1
        have l2 := relDs_len r2
        refine L2.op_catA ps st τ H _ _ v u Q I rx ry ⟨_, _, _, _, rfl, rfl, t1, t2, line_le (by omega), fun hv => ?_, fun hv hu => ?_, fun hv hu p1 hp => ?_⟩
        · subst hv
          have := List.length_eq_zero_iff.mp (l1.trans rfl)
          subst this
          exact p.here R (.tup t2 r2)
        · subst hu
          have := List.length_eq_zero_iff.mp (l2.trans rfl)
          subst this
          rw [List.append_nil] at p
          exact p.here R (.tup t1 r1)
        · exact p γ _ _ (Stp.new γ hp) (R.new hp) (new_tup R hp (relDs_app r1 r2))
  · split at p
    · rename_i xs ys e1 e2
      obtain ⟨hl, p⟩ := Post.ifP p
      obtain ⟨a1, vs, rfl, h1, r1⟩ := lsto_rel R ra e1
      obtain ⟨a2, us, rfl, h2, r2⟩ := lsto_rel R rb e2
      have l1 := relDs_len r1
      have l2 := relDs_len r2
      exact L2.op_cat ps st τ H _ _ v u Q I rx ry ⟨a1, a2, vs, us, rfl, rfl, h1, h2, line_le (by omega), fun p1 hp => p γ _ _ (Stp.new γ hp) (R.new hp) (new_lst R hp (relDs_app r1 r2))⟩
    · exact False.elim p
  · exact False.elim p

/-! ### comparisons -/
def rC (K : PySem.W.Frag) (RX : ExRel) (W : WX) (op : Co) : L2.R2 := fun x y H Q => ∃ γ s σ v w b, Rel K γ s σ H ∧ RelVal K γ H v x ∧ RelVal K γ H w y ∧ cmpop op v w s = some b ∧ Q (.bl b) H
theorem is_none {K : PySem.W.Frag} {γ : Gh} {H : Hp} {v w : Val} {x y : V} {b : Bool} (ra : RelVal K γ H v x) (rb : RelVal K γ H w y) (e : isVal v w = some b) : (y = .non ∧ b = decide (x = .non)) ∨ ∃ i j, x = .bl i ∧ y = .bl j ∧ b = decide (i = j) := by
  unfold isVal at e
  split at e
  · cases ra; cases rb; cases e; exact .inl ⟨rfl, by simp⟩
  · cases ra; cases rb; cases e; exact .inr ⟨_, _, rfl, rfl, by rw [Bool.beq_eq_decide_eq]⟩
  · cases ra; cases rb; cases e; exact .inl ⟨rfl, by simp⟩
  · cases ra; cases rb; cases e; exact .inl ⟨rfl, by simp⟩
  · cases ra; cases rb; cases e; exact .inl ⟨rfl, by simp⟩
  · cases ra; cases rb; cases e; exact .inl ⟨rfl, by simp⟩
  · cases ra <;> cases rb <;> cases e <;> exact .inl ⟨rfl, by simp⟩
  · cases ra; cases rb; cases e; exact .inl ⟨rfl, by simp⟩
  · cases ra
  · cases ra; cases rb; cases e; exact .inl ⟨rfl, by simp⟩
  · obtain ⟨a, rfl, _⟩ := ra
    cases rb; cases e; exact .inl ⟨rfl, by simp⟩
  · cases e
theorem in_cases {K : PySem.W.Frag} {γ : Gh} {s : S} {σ : L2.St} {H : Hp} (R : Rel K γ s σ H) {v w : Val} {x y : V} {b : Bool} (ra : RelVal K γ H v x) (rb : RelVal K γ H w y) (e : inVal v w s = some b) :
    (∃ c z, x = .str ⟨#[c]⟩ ∧ y = .str z ∧ b = decide (c ∈ z.cps.toList)) ∨ ∃ (d : PyData) (a : Addr) (vs : List V) (l : List PyData), L2.Dp K H x d ∧ y = .ref a ∧ (SqL K H a vs ∨ SqT K H a vs) ∧ L2.DpAll K H vs l ∧ d.depth ≤ 100 ∧ b = inSeq d l := by
  unfold inVal at e
  split at e
  · rename_i a z
    cases ra; cases rb
    split at e
    · rename_i h1
      obtain ⟨c, hc, rfl⟩ := Option.map_eq_some_iff.mp e
      refine .inl ⟨c, z, ?_, rfl, rfl⟩
      have : a = ⟨#[c]⟩ := by
        obtain ⟨cs⟩ := a
        congr 1
        have h1' : cs.size = 1 := h1
        obtain ⟨h2, h3⟩ := Array.getElem?_eq_some_iff.mp hc
        apply Array.ext
        · simpa using h1'
        · intro i hi hj
          have : i = 0 := by omega
          subst this
          simpa using h3
      rw [this]
    · cases e
  · split at e
    · rename_i d _ ys e1 e2
      split at e
      · rename_i l e3
        split at e
        · rename_i hd
          cases e
          obtain ⟨a, vs, rfl, r1, t1⟩ := seq_rel R rb e2
          refine .inr ⟨d, a, vs, l, val_dp R ra e1, rfl, ?_, dps_of _ _ _ r1 e3, hd, rfl⟩
          split at t1
          · exact .inl t1
          · exact .inr t1
        · cases e
      · cases e
    · cases e
theorem opR_cmp (hu : X.A.units + 200 < cLine) (op : Co) : OpR X (compareOp (coP op)) (rC X.K RX W op) := by
  intro ps st τ H x y v u Q I rx ry h
  obtain ⟨γ, s, σ, a, b, k, R, ra, rb, e, q⟩ := h
  have eqs : ∀ {k : Bool}, eqVal a b s = some k → (∃ d e, L2.Dp X.K H x d ∧ L2.Dp X.K H y e ∧ min d.depth e.depth ≤ 100 ∧ k = PyData.eqv d e) ∨ (∃ (a' b' : Addr) (xs ys : List V), x = .ref a' ∧ y = .ref b' ∧ SqL X.K H a' xs ∧ SqL X.K H b' ys ∧ xs.length ≠ ys.length ∧ k = false) ∨
      (∃ (a' b' : Addr) (xs : List V), x = .ref a' ∧ y = .ref b' ∧ SqT X.K H a' xs ∧ SqT X.K H b' [] ∧ xs ≠ [] ∧ k = false) := fun {k} h => by
    unfold eqVal at h
    split at h
    · rename_i d1 d2 h1 h2
      split at h
      · rename_i hm
        cases h
        exact .inl ⟨d1, d2, val_dp R ra h1, val_dp R rb h2, hm, rfl⟩
      · cases h
    · split at h
      · rename_i xs ys e1 e2
        split at h
        · cases h
        · rename_i hl
          cases h
          obtain ⟨a1, vs1, rfl, r1, t1⟩ := seq_rel R ra e1
          obtain ⟨a2, vs2, rfl, r2, t2⟩ := seq_rel R rb e2
          refine .inr (.inl ⟨a1, a2, vs1, vs2, rfl, rfl, t1, t2, ?_, rfl⟩)
          rw [← relDs_len r1, ← relDs_len r2]
          exact hl
      · rename_i x0 xs0 e1 e2
        cases h
        obtain ⟨a1, vs1, rfl, r1, t1⟩ := seq_rel R ra e1
        obtain ⟨a2, vs2, rfl, r2, t2⟩ := seq_rel R rb e2
        cases r2
        refine .inr (.inr ⟨a1, a2, vs1, rfl, rfl, t1, t2, fun z => ?_, rfl⟩)
        subst z
        cases r1
      · cases h
  cases op with
  | eq =>
    rcases eqs e with ⟨d1, d2, h1, h2, hm, rfl⟩ | ⟨a', b', xs, ys, rfl, rfl, h1, h2, hl, rfl⟩ | ⟨a', b', xs, rfl, rfl, h1, h2, hl, rfl⟩
    case inr.inl => exact op_eqL hu ps st τ H _ _ v u Q I rx ry ⟨a', b', xs, ys, rfl, rfl, h1, h2, hl, q⟩
    case inr.inr => exact op_eqE hu ps st τ H _ _ v u Q I rx ry ⟨a', b', xs, rfl, rfl, h1, h2, hl, q⟩
    exact op_eqP hu ps st τ H x y v u Q I rx ry ⟨d1, d2, h1, h2, hm, q⟩
  | ne =>
    obtain ⟨k', e', rfl⟩ := Option.map_eq_some_iff.mp e
    rcases eqs e' with ⟨d1, d2, h1, h2, hm, rfl⟩ | ⟨a', b', xs, ys, rfl, rfl, h1, h2, hl, rfl⟩ | ⟨a', b', xs, rfl, rfl, h1, h2, hl, rfl⟩
    case inr.inl => exact op_neL hu ps st τ H _ _ v u Q I rx ry ⟨a', b', xs, ys, rfl, rfl, h1, h2, hl, q⟩
    case inr.inr => exact op_neE hu ps st τ H _ _ v u Q I rx ry ⟨a', b', xs, rfl, rfl, h1, h2, hl, q⟩
    exact op_neP hu ps st τ H x y v u Q I rx ry ⟨d1, d2, h1, h2, hm, q⟩
  | is =>
    rcases is_none ra rb e with ⟨rfl, rfl⟩ | ⟨i, j, rfl, rfl, rfl⟩
    · exact L2.op_isN ps st τ H _ _ v u Q I rx ry ⟨rfl, q⟩
    · exact L2.op_is_bl ps st τ H _ _ v u Q I rx ry ⟨_, _, rfl, rfl, q⟩
  | isnot =>
    obtain ⟨k', e', rfl⟩ := Option.map_eq_some_iff.mp e
    rcases is_none ra rb e' with ⟨rfl, rfl⟩ | ⟨i, j, rfl, rfl, rfl⟩
    · exact L2.op_notN ps st τ H _ _ v u Q I rx ry ⟨rfl, q⟩
    · exact L2.op_isnot_bl ps st τ H _ _ v u Q I rx ry ⟨_, _, rfl, rfl, q⟩
  | in_ =>
    rcases in_cases R ra rb e with ⟨c, z, rfl, rfl, rfl⟩ | ⟨d, a', vs, l, hd, rfl, hs, hl, hm, rfl⟩
    · exact L2.op_in_sign ps st τ H _ _ v u Q I rx ry ⟨c, z, rfl, rfl, q⟩
    · exact op_inP hu ps st τ H _ _ v u Q I rx ry ⟨d, a', vs, l, hd, rfl, hs, hl, hm, q⟩
  | notin =>
    obtain ⟨k', e', rfl⟩ := Option.map_eq_some_iff.mp e
    rcases in_cases R ra rb e' with ⟨c, z, rfl, rfl, rfl⟩ | ⟨d, a', vs, l, hd, rfl, hs, hl, hm, rfl⟩
    · exact L2.op_notIn_sign ps st τ H _ _ v u Q I rx ry ⟨c, z, rfl, rfl, q⟩
    · exact op_notinP hu ps st τ H _ _ v u Q I rx ry ⟨d, a', vs, l, hd, rfl, hs, hl, hm, q⟩
  | _ =>
    simp only [cmpop] at e
    split at e
    · cases ra; cases rb
      cases e
      first
        | exact L2.op_lt ps st τ H _ _ v u Q I rx ry ⟨_, _, rfl, rfl, q⟩
        | exact L2.op_le ps st τ H _ _ v u Q I rx ry ⟨_, _, rfl, rfl, q⟩
        | exact L2.op_gt ps st τ H _ _ v u Q I rx ry ⟨_, _, rfl, rfl, q⟩
        | exact L2.op_ge ps st τ H _ _ v u Q I rx ry ⟨_, _, rfl, rfl, q⟩
    · cases ra; cases rb
      cases e
      first
        | exact L2.op_lt_str ps st τ H _ _ v u Q I rx ry ⟨_, _, rfl, rfl, q⟩
        | exact L2.op_le_str ps st τ H _ _ v u Q I rx ry ⟨_, _, rfl, rfl, q⟩
        | exact L2.op_gt_str ps st τ H _ _ v u Q I rx ry ⟨_, _, rfl, rfl, q⟩
        | exact L2.op_ge_str ps st τ H _ _ v u Q I rx ry ⟨_, _, rfl, rfl, q⟩
    · cases e
end
end Mp

/-! Mp: built-ins, truth, subscripts by values. -/
namespace Mp
open PySem (Addr Value Expr PyData Str CmpOp Operator binaryOp compareOp cLine)
open L2 (V HO Hp upd upd_same upd_ne SqT SqL Rd PE PT PA Cx OpR TE TT TA VK XK WX RelV EP CallR MtR IxR Gl)
variable [TabT]

section
variable {X : Cx} {RX : ExRel} {W : WX}
theorem truth_rel {K : PySem.W.Frag} {γ : Gh} {s : S} {σ : L2.St} {H : Hp} (R : Rel K γ s σ H) {v : Val} {x : V} {k : Bool} (r : RelVal K γ H v x) (e : truth v s = some k) : L2.TruV K x H k := by
  have sq : ∀ {v : Val}, RelVal K γ H v x → (seqv v s).map (fun p => !p.2.isEmpty) = some k → L2.TruV K x H k := fun {v} r e => by
    obtain ⟨⟨b, xs⟩, e1, rfl⟩ := Option.map_eq_some_iff.mp e
    obtain ⟨a, vs, rfl, rr, t⟩ := seq_rel R r e1
    have l := relDs_len rr
    have em : (!xs.isEmpty) = !vs.isEmpty := by cases xs <;> cases vs <;> simp at l <;> rfl
    cases b with
    | true => exact .inl ⟨vs, t, em⟩
    | false => exact .inr (.inl ⟨vs, t, em⟩)
  unfold truth at e
  split at e
  · cases r; cases e; exact rfl
  · cases r; cases e; exact rfl
  · cases r; cases e; exact rfl
  · cases r
    split at e
    · rename_i hl
      cases e
      refine ⟨line_le hl, ?_⟩
      rename_i x
      rw [Bool.eq_iff_iff]
      simp only [bne_iff_ne, ne_eq]
      omega
    · cases e
  · exact sq r e

/-! ### subscripts -/
def rIxP (K : PySem.W.Frag) (RX : ExRel) (W : WX) : L2.R2 := fun x y H Q => ∃ γ s σ v w z, Rel K γ s σ H ∧ RelVal K γ H v x ∧ RelVal K γ H w y ∧ subVal v w s = some z ∧ ∀ u, RelVal K γ H z u → Q u H
theorem atI_eq {α : Type} (xs : List α) (i : Int) : atI xs i = L2.atI xs i := by
  unfold atI L2.atI L2.ixN
  by_cases h : 0 ≤ i
  · rw [if_pos h, if_pos h]
    by_cases h2 : i < xs.length
    · rw [if_pos h2]; rfl
    · rw [if_neg h2]
      rw [List.getElem?_eq_none (by omega)]
      rfl
  · rw [if_neg h, if_neg h]
    by_cases h2 : i + xs.length < 0
    · rw [if_pos h2, if_neg (by omega)]; rfl
    · rw [if_neg h2, if_pos (by omega)]; rfl
theorem atI_rel {K : PySem.W.Frag} {γ : Gh} {H : Hp} {xs : List D} {vs : List V} (r : RelDs K γ H xs vs) {i : Int} {z : D} (e : atI xs i = some z) : ∃ v, L2.atI vs i = some v ∧ RelD K γ H z v := by
  rw [← atI_eq]
  have l := relDs_len r
  unfold atI at e ⊢
  rw [← l]
  split at e
  · rename_i h; rw [if_pos h]; exact relDs_get r e
  · rename_i h
    rw [if_neg h]
    split at e
    · cases e
    · rename_i h2; rw [if_neg h2]; exact relDs_get r e
theorem ixR_sub : IxR X (rIxP X.K RX W) := by
  intro va sl ps st τ H x y v u Q I rx ry h hs
  obtain ⟨γ, s, σ, a, b, z, R, ra, rb, e, q⟩ := h
  unfold subVal at e
  split at e
  · split at e
    · rename_i hl
      obtain ⟨c, hc, rfl⟩ := Option.map_eq_some_iff.mp e
      cases ra; cases rb
      exact L2.ix_str va sl ps st τ H _ _ v u Q I rx ry ⟨_, _, c, rfl, rfl, line_le hl, (atI_eq _ _).symm.trans hc, q _ (.str _)⟩ hs
    · cases e
  · split at e
    · rename_i k _ b' xs e1
      obtain ⟨z', hz, rfl⟩ := Option.map_eq_some_iff.mp e
      obtain ⟨a1, vs, rfl, r1, t⟩ := seq_rel R ra e1
      cases rb
      obtain ⟨w, hw, rw'⟩ := atI_rel r1 hz
      cases b' with
      | true => exact L2.ix_list va sl ps st τ H _ _ v u Q I rx ry ⟨a1, vs, _, w, rfl, rfl, t, hw, q w rw'⟩ hs
      | false => exact L2.ix_tup va sl ps st τ H _ _ v u Q I rx ry ⟨a1, vs, _, w, rfl, rfl, t, hw, q w rw'⟩ hs
    · cases e
  · cases e

/-! ### built-in functions -/
def bfN : Bf → Str
  | .len => "len" | .int => "int" | .abs => "abs" | .max => "max" | .min => "min" | .str => "str" | .tuple => "tuple" | .all => "all" | .any => "any" | .sum => "sum" | .bool => "bool"
def bfV : Bf → Value
  | .len => .builtin "len" | .int => .type "int" | .abs => .builtin "abs" | .max => .builtin "max" | .min => .builtin "min" | .str => .type "str" | .tuple => .type "tuple" | .all => .builtin "all" | .any => .builtin "any" | .sum => .builtin "sum" | .bool => .type "bool"
theorem bf_boot (b : Bf) : PySem.bootBuiltins (bfN b) = some (bfV b) := by cases b <;> decide +kernel
theorem bf_name (b : Bf) : bfN b ≠ "__name__" := by cases b <;> decide +kernel
theorem bf_debug (b : Bf) : (bfN b == ("__debug__" : Str)) = false := by cases b <;> decide +kernel
def rBf (K : PySem.W.Frag) (RX : ExRel) (W : WX) (b : Bf) : List V → Hp → VK → Prop := fun xs H Q => ∃ γ s σ vs, Rel K γ s σ H ∧ RelVals K γ H vs xs ∧ Post K RX W γ H σ (RelVal K) (bfn b vs s) Q
theorem relVals_one {K : PySem.W.Frag} {γ : Gh} {H : Hp} {v : Val} {xs : List V} (h : RelVals K γ H [v] xs) : ∃ x, xs = [x] ∧ RelVal K γ H v x := by
  cases h with
  | cons h t => cases t; exact ⟨_, rfl, h⟩
theorem relVals_two {K : PySem.W.Frag} {γ : Gh} {H : Hp} {v w : Val} {xs : List V} (h : RelVals K γ H [v, w] xs) : ∃ x y, xs = [x, y] ∧ RelVal K γ H v x ∧ RelVal K γ H w y := by
  cases h with
  | cons h t => cases t with
    | cons h2 t => cases t; exact ⟨_, _, rfl, h, h2⟩
theorem bools_rel {K : PySem.W.Frag} {γ : Gh} {H : Hp} : ∀ {xs : List D} {vs : List V} {bs : List Bool}, RelDs K γ H xs vs → allB xs = some bs → vs = bs.map V.bl
  | [], _, _, .nil, e => by cases e; rfl
  | .bl b :: xs, _ :: vs, _, .cons (.bl _) t, e => by
    simp only [allB, Option.map_eq_some_iff] at e
    obtain ⟨l, e1, rfl⟩ := e
    rw [bools_rel t e1]
    rfl
theorem ints_relD {K : PySem.W.Frag} {γ : Gh} {H : Hp} : ∀ {xs : List D} {vs : List V} {bs : List Int}, RelDs K γ H xs vs → allI xs = some bs → vs = bs.map V.int
  | [], _, _, .nil, e => by cases e; rfl
  | .int b :: xs, _ :: vs, _, .cons (.int _) t, e => by
    simp only [allI, Option.map_eq_some_iff] at e
    obtain ⟨l, e1, rfl⟩ := e
    rw [ints_relD t e1]
    rfl
theorem maxF_spec : ∀ (ns : List Int) (n : Int), ns.foldl (fun a b => if a < b then b else a) n ∈ n :: ns ∧ ∀ y ∈ n :: ns, y ≤ ns.foldl (fun a b => if a < b then b else a) n
  | [], n => by simp
  | m :: ns, n => by
    rw [List.foldl_cons]
    obtain ⟨h1, h2⟩ := maxF_spec ns (if n < m then m else n)
    have h3 := h2 _ List.mem_cons_self
    refine ⟨?_, fun y hy => ?_⟩
    · rcases List.mem_cons.mp h1 with z | z
      · rw [z]
        split <;> simp
      · exact List.mem_cons_of_mem _ (List.mem_cons_of_mem _ z)
    · have key : n ≤ (if n < m then m else n) ∧ m ≤ (if n < m then m else n) := by split <;> omega
      rcases List.mem_cons.mp hy with rfl | hy
      · exact Int.le_trans key.1 h3
      · rcases List.mem_cons.mp hy with rfl | hy
        · exact Int.le_trans key.2 h3
        · exact h2 y (List.mem_cons_of_mem _ hy)
theorem strs_rel {K : PySem.W.Frag} {γ : Gh} {H : Hp} : ∀ {xs : List D} {vs : List V} {bs : List Str}, RelDs K γ H xs vs → allS xs = some bs → vs = bs.map V.str
  | [], _, _, .nil, e => by cases e; rfl
  | .str b :: xs, _ :: vs, _, .cons (.str _) t, e => by
    simp only [allS, Option.map_eq_some_iff] at e
    obtain ⟨l, e1, rfl⟩ := e
    rw [strs_rel t e1]
    rfl
theorem len_rel {K : PySem.W.Frag} {γ : Gh} {s : S} {σ : L2.St} {H : Hp} (R : Rel K γ s σ H) {v : Val} {x : V} {b : Bool} {xs : List D} (r : RelVal K γ H v x) (e : seqv v s = some (b, xs)) : L2.LenV K x H xs.length := by
  obtain ⟨a, vs, rfl, rr, t⟩ := seq_rel R r e
  rw [relDs_len rr]
  cases b with
  | true => exact .inl ⟨vs, t, rfl⟩
  | false => exact .inr ⟨vs, t, rfl⟩
theorem callR_bf (hc : X.calm = true) (b : Bf) : CallR X (bfV b) (rBf X.K RX W b) := by
  intro ps st τ H xs us Q I r h
  obtain ⟨γ, s, σ, vs, R, rv, p⟩ := h
  unfold bfn at p
  split at p
  · obtain ⟨hl, p⟩ := Post.ifP p
    obtain ⟨x, rfl, rx⟩ := relVals_one rv
    cases rx
    exact L2.call_len ps st τ H _ us Q I r ⟨_, _, rfl, ⟨line_le hl, rfl⟩, p.here R (.int _)⟩
  · split at p
    · rename_i e
      obtain ⟨x, rfl, rx⟩ := relVals_one rv
      exact L2.call_len ps st τ H _ us Q I r ⟨_, _, rfl, len_rel R rx e, p.here R (.int _)⟩
    · exact False.elim p
  · obtain ⟨x, rfl, rx⟩ := relVals_one rv
    cases rx
    exact L2.call_int1 ps st τ H _ us Q I r (.inl ⟨_, rfl, p.here R (.int _)⟩)
  · obtain ⟨x, rfl, rx⟩ := relVals_one rv
    cases rx
    exact L2.call_int1 ps st τ H _ us Q I r (.inr ⟨_, rfl, p.here R (.int _)⟩)
  · obtain ⟨x, rfl, rx⟩ := relVals_one rv
    cases rx
    exact L2.call_abs ps st τ H _ us Q I r ⟨_, rfl, p.here R (.int _)⟩
  · obtain ⟨x, y, rfl, rx, ry⟩ := relVals_two rv
    cases rx; cases ry
    exact L2.call_max2 hc ps st τ H _ us Q I r ⟨_, _, rfl, p.here R (.int _)⟩
  · split at p
    · rename_i xs e
      split at p
      · rename_i n ns e2
        obtain ⟨x, rfl, rx⟩ := relVals_one rv
        obtain ⟨a, vs, rfl, rr, t⟩ := seq_rel R rx e
        have := ints_relD rr e2
        subst this
        obtain ⟨m1, m2⟩ := maxF_spec ns n
        refine L2.cr_max hc ps st τ H _ us Q I r ⟨a, n :: ns, rfl, t, by simp, fun m hm hy => ?_⟩
        have : m = ns.foldl (fun a b => if a < b then b else a) n := Int.le_antisymm (m2 m hm) (hy _ m1)
        subst this
        exact p.here R (.int _)
      · exact False.elim p
    · exact False.elim p
  · obtain ⟨x, y, rfl, rx, ry⟩ := relVals_two rv
    cases rx; cases ry
    exact L2.call_min2 hc ps st τ H _ us Q I r ⟨_, _, rfl, p.here R (.int _)⟩
  · obtain ⟨hl, p⟩ := Post.ifP p
    obtain ⟨x, rfl, rx⟩ := relVals_one rv
    cases rx
    exact L2.call_str_int ps st τ H _ us Q I r ⟨_, rfl, by omega, p.here R (.str _)⟩
  · obtain ⟨x, rfl, rx⟩ := relVals_one rv
    cases rx with
    | tup h1 r1 => exact L2.call_tupleT ps st τ H _ us Q I r ⟨_, _, rfl, h1, p.here R (.tup h1 r1)⟩
  · split at p
    · rename_i b' xs' e
      obtain ⟨x, rfl, rx⟩ := relVals_one rv
      obtain ⟨a, ws, rfl, r1, t⟩ := seq_rel R rx e
      cases b' with
      | true => exact L2.call_tuple_of ps st τ H _ us Q I r ⟨_, ws, rfl, .inl ⟨t, fun l hl => p γ _ _ (Stp.new γ hl) (R.new hl) (new_tup R hl r1)⟩⟩
      | false => exact L2.call_tupleT ps st τ H _ us Q I r ⟨_, _, rfl, t, p.here R (.tup t r1)⟩
    · exact False.elim p
  · split at p
    · rename_i xs' e
      obtain ⟨x, rfl, rx⟩ := relVals_one rv
      obtain ⟨a, ws, rfl, r1, t⟩ := seq_rel R rx e
      split at p
      · rename_i bs eb
        have := bools_rel r1 eb
        subst this
        exact L2.cr_all hc ps st τ H _ us Q I r ⟨a, bs, rfl, t, p.here R (.bl _)⟩
      · exact False.elim p
    · exact False.elim p
  · split at p
    · rename_i xs' e
      obtain ⟨x, rfl, rx⟩ := relVals_one rv
      obtain ⟨a, ws, rfl, r1, t⟩ := seq_rel R rx e
      split at p
      · rename_i bs eb
        have := bools_rel r1 eb
        subst this
        exact L2.cr_any hc ps st τ H _ us Q I r ⟨a, bs, rfl, t, p.here R (.bl _)⟩
      · exact False.elim p
    · exact False.elim p
  · exact False.elim p

/-! ### isinstance -/
def tgN : Tg → String
  | .str => "str" | .int => "int" | .bool => "bool" | .tup => "tuple" | .lst => "list" | .dct => "dict" | .own _ => ""
def tgOk : Tg → Bool
  | .own _ => false
  | _ => true
def tgS : Tg → Str
  | .str => "str" | .int => "int" | .bool => "bool" | .tup => "tuple" | .lst => "list" | .dct => "dict" | .own _ => ""
theorem tg_boot (t : Tg) (h : tgOk t = true) : PySem.bootBuiltins (tgS t) = some (.type (tgN t)) := by cases t <;> first | decide +kernel | cases h
theorem tg_name (t : Tg) : tgS t ≠ "__name__" := by
  have h : ("" : Str) ≠ "__name__" := by decide +kernel
  cases t <;> first | exact h | decide +kernel
theorem tg_debug (t : Tg) : (tgS t == ("__debug__" : Str)) = false := by
  have h : (("" : Str) == ("__debug__" : Str)) = false := by decide +kernel
  cases t <;> first | exact h | decide +kernel
theorem isTag_rel {K : PySem.W.Frag} {γ : Gh} {s : S} {σ : L2.St} {H : Hp} (R : Rel K γ s σ H) {v : Val} {x : V} {t : Tg} {b : Bool} {cs : List Str} (ht : tgOk t = true) (hC : ∀ c ∈ cs, C8.InsC K (clsOf K c) ∧ PySem.W.kitOne K (.ref (clsOf K c)) (.type (tgN t)) = some false) (r : RelVal K γ H v x) (e : isTag cs v s t = some b) :
    ∃ u, L2.TyX K H x u ∧ PySem.W.kitOne K u (.type (tgN t)) = some b := by
  have k1 : PySem.W.kitOne K (.type "list") (.type (tgN t)) = some (t == .lst) := L2.kit_ty (by cases t <;> first | decide +kernel | cases ht)
  have k2 : PySem.W.kitOne K (.type "tuple") (.type (tgN t)) = some (t == .tup) := L2.kit_ty (by cases t <;> first | decide +kernel | cases ht)
  have k3 : PySem.W.kitOne K (.type "dict") (.type (tgN t)) = some (t == .dct) := L2.kit_ty (by cases t <;> first | decide +kernel | cases ht)
  have k4 : PySem.W.kitOne K (.type "str") (.type (tgN t)) = some (t == .str) := L2.kit_ty (by cases t <;> first | decide +kernel | cases ht)
  have k5 : PySem.W.kitOne K (.type "int") (.type (tgN t)) = some (t == .int) := L2.kit_ty (by cases t <;> first | decide +kernel | cases ht)
  have k6 : PySem.W.kitOne K (.type "bool") (.type (tgN t)) = some (t == .bool || t == .int) := L2.kit_ty (by cases t <;> first | decide +kernel | cases ht)
  have k7 : PySem.W.kitOne K (.type "NoneType") (.type (tgN t)) = some false := L2.kit_ty (by cases t <;> first | decide +kernel | cases ht)
  unfold isTag at e
  split at e
  · split at e
    · cases e
      obtain ⟨a, rfl, ha⟩ := r
      obtain ⟨ys, vs, hc, hh, rr⟩ := R.cellF ha
      exact ⟨_, .base (.lst hh), k1⟩
    · cases e
  · split at e
    · rename_i hgs
      cases e
      cases r with
      | ref ha =>
        obtain ⟨ys, vs, hc, hh, rr⟩ := R.cellG ha hgs
        exact ⟨_, .base (.lst hh), k1⟩
    · rename_i c ns vs hgs
      by_cases hm : c ∈ cs
      · rw [if_pos hm] at e
        cases e
        cases r with
        | ref ha =>
          rcases R.gc _ _ _ ha hgs with h | ⟨nm, ns', vs', dx, fs, e1, hh, _⟩
          · exact False.elim h
          · cases e1
            obtain ⟨IC, kb⟩ := hC c hm
            exact ⟨_, .base (.ins hh IC.cl IC.ha IC.hn IC.htk IC.hm), kb⟩
      · rw [if_neg hm] at e; cases e
    · cases e
  · cases r; cases e; exact ⟨_, .base .non, k7⟩
  · cases r; cases e; exact ⟨_, .base (.bl _), k6⟩
  · cases r; cases e; exact ⟨_, .base (.int _), k5⟩
  · cases r; cases e; exact ⟨_, .base (.str _), k4⟩
  · cases e
    cases r with
    | tup h rr =>
      rcases h with (h | ⟨o, h⟩) | ⟨o, its, n, h1, h2, _⟩
      · exact ⟨_, .base (.tup h), k2⟩
      · exact ⟨_, .fTuple h, k2⟩
      · exact ⟨_, .kTuple h1 h2, k2⟩
  · cases e
    cases r with
    | lst h nb rr => exact ⟨_, .base (.lst h), k1⟩
  · cases e
    have ls : ∀ {a : Addr} {vs : List V}, SqL K H a vs → ∃ u, L2.TyX K H (.ref a) u ∧ PySem.W.kitOne K u (.type (tgN t)) = some (t == .lst) := fun {a vs} h => by
      rcases h with (h | ⟨o, h⟩) | ⟨o, its, n, h1, h2, _⟩
      · exact ⟨_, .base (.lst h), k1⟩
      · exact ⟨_, .base (.frz h), k1⟩
      · exact ⟨_, .kList h1 h2, k1⟩
    cases r with
    | scr h nb rr => exact ls (.inl h)
    | scrK h rr => exact ls (h H)
  · cases e
    cases r with
    | dct h nb hk rr => exact ⟨_, .base (.dK h), k3⟩
  · cases e

/-! ### methods of built-in types -/
def bmN : Bm → Str
  | .join => "join" | .append => "append" | .pop => "pop"
def rBm (K : PySem.W.Frag) (RX : ExRel) (W : WX) (m : Bm) : V → List V → Hp → VK → Prop := fun x xs H Q => ∃ γ s σ v vs, Rel K γ s σ H ∧ RelVal K γ H v x ∧ RelVals K γ H vs xs ∧ Post K RX W γ H σ (RelVal K) (bmth m v vs s) Q
end
end Mp

/-! Mp: methods, calls of defs, their promises. -/
namespace Mp
open PySem (Addr Value Expr PyData Str CmpOp Operator binaryOp compareOp cLine)
open L2 (V HO Hp upd upd_same upd_ne SqT SqL Rd PE PT PA Cx OpR TE TT TA VK XK WX RelV EP CallR MtR IxR Gl Sp)
variable [TabT]

/-! ### methods -/
def bmT : Bm → String
  | .join => "str" | .append => "list" | .pop => "list"
def bmI : Bm → String
  | .join => "str.join" | .append => "list.append" | .pop => "list.pop"
section
variable {X : Cx} {RX : ExRel} {W : WX}
theorem mtR_join : MtR X "str.join" (rBm X.K RX W .join) := by
  intro ps st τ H x xs v us Q I rx r h
  obtain ⟨γ, s, σ, y, vs, R, ry, rv, p⟩ := h
  unfold bmth at p
  split at p
  · split at p
    · rename_i e
      split at p
      · rename_i ss es
        obtain ⟨hl, p⟩ := Post.ifP p
        obtain ⟨x', rfl, rx'⟩ := relVals_one rv
        obtain ⟨a, ws, rfl, r1, t⟩ := seq_rel R rx' e
        have := strs_rel r1 es
        subst this
        cases ry
        exact L2.mt_join ps st τ H _ _ v us Q I rx r ⟨_, a, ss, rfl, rfl, .inl t, Nat.le_trans hl (by decide), p.here R (.str _)⟩
      · exact False.elim p
    · exact False.elim p
  · contradiction
  · contradiction
  · contradiction
  · contradiction
  · exact False.elim p

theorem stp_cell {γ : Gh} {s : S} {σ : L2.St} {H : Hp} {a : Addr} {o : HO} {K : PySem.W.Frag} (R : Rel K γ s σ H) (ha : some a ∈ γ.pf ∨ a ∈ γ.pg) (nt : ∀ ps, o ≠ .tbl ps := by intro _ z; cases z) : Stp γ H γ (upd H a o) where
  b := rfl
  h0 := rfl
  p0 := rfl
  tm := fun _ h => .inl h
  tmE := rfl
  pf := List.prefix_refl _
  pg := List.prefix_refl _
  frame := fun x u h _ n1 n2 => by
    have ne : x ≠ a := fun z => by subst z; exact ha.elim n1 n2
    rw [upd_ne ne]; exact h
  trk := fun x h => by
    by_cases e : x = a
    · exact ⟨o, by rw [e, upd_same], nt⟩
    · obtain ⟨o', e1, e2⟩ := h
      exact ⟨o', by rw [upd_ne e]; exact e1, e2⟩
  fn := fun _ h => .inl h
  gn := fun _ h => .inl h
  tb := tabs_upd (R.pl ha)
/-- an own list is written -/
theorem Rel.setF {γ : Gh} {s : S} {σ : L2.St} {H : Hp} {a : Addr} {K : PySem.W.Frag} (R : Rel K γ s σ H) {j : Nat} (ha : γ.pf[j]? = some (some a)) {xs : List D} {vs : List V} (r : RelDs K γ H xs vs) :
    Rel K γ { s with fs := s.fs.set j (.lst xs) } σ (upd H a (.lst vs)) where
  len := R.len
  slot := fun i v h => let ⟨x, e, r⟩ := R.slot i v h; ⟨x, e, r.step (stp_cell R (.inl (List.mem_of_getElem? ha))) R.tups⟩
  fl := by rw [List.length_set]; exact R.fl
  fc := fun i b c h1 h2 => by
    have st := stp_cell (o := .lst vs) R (.inl (List.mem_of_getElem? ha))
    by_cases e : j = i
    · subst e
      rw [ha] at h1; cases h1
      have hl : j < s.fs.length := by rw [← R.fl]; exact (List.getElem?_eq_some_iff.mp ha).1
      rw [List.getElem?_set_self hl] at h2; cases h2
      exact ⟨vs, upd_same, RelDs.step st.toSts R.tups _ _ r⟩
    · rw [List.getElem?_set_ne e] at h2
      refine (R.fc i b c h1 h2).step st.toSts R.tups (upd_ne fun z => e ?_)
      subst z
      exact R.ndf _ _ _ ha h1
  gl := R.gl
  gc := fun i b c h1 h2 => by
    have st := stp_cell (o := .lst vs) R (.inl (List.mem_of_getElem? ha))
    refine (R.gc i b c h1 h2).step st.toSts R.tups (upd_ne fun z => ?_)
    subst z
    exact R.dis _ (List.mem_of_getElem? ha) (List.mem_of_getElem? h1)
  ndf := R.ndf
  ndg := R.ndg
  dis := R.dis
  bo := R.bo
  fnew := R.fnew
  gnew := R.gnew
  pre := R.pre
  frame := fun x u h nt n => by
    have ne : x ≠ a := fun z => by subst z; exact R.fnew x (List.mem_of_getElem? ha) ⟨u, h, nt⟩
    rw [upd_ne ne]; exact R.frame x u h nt n
  tb := tabs_upd (R.pl (.inl (List.mem_of_getElem? ha))) R.tb
  trk := fun x h => (stp_cell R (.inl (List.mem_of_getElem? ha))).trk x (R.trk x h)
  tm := fun x h => ⟨(stp_cell R (.inl (List.mem_of_getElem? ha))).trk x (R.tm x h).1, (R.tm x h).2⟩
/-- a shared list is written -/
theorem Rel.setG {γ : Gh} {s : S} {σ : L2.St} {H : Hp} {a : Addr} {K : PySem.W.Frag} (R : Rel K γ s σ H) {j : Nat} (ha : γ.pg[j]? = some a) {xs : List D} {vs : List V} (r : RelDs K γ H xs vs) :
    Rel K γ { s with gs := s.gs.set j (.lst xs) } σ (upd H a (.lst vs)) where
  len := R.len
  slot := fun i v h => let ⟨x, e, r⟩ := R.slot i v h; ⟨x, e, r.step (stp_cell R (.inr (List.mem_of_getElem? ha))) R.tups⟩
  gl := by rw [List.length_set]; exact R.gl
  gc := fun i b c h1 h2 => by
    have st := stp_cell (o := .lst vs) R (.inr (List.mem_of_getElem? ha))
    by_cases e : j = i
    · subst e
      rw [ha] at h1; cases h1
      have hl : j < s.gs.length := by rw [← R.gl]; exact (List.getElem?_eq_some_iff.mp ha).1
      rw [List.getElem?_set_self hl] at h2; cases h2
      exact .inl ⟨vs, upd_same, RelDs.step st.toSts R.tups _ _ r⟩
    · rw [List.getElem?_set_ne e] at h2
      refine (R.gc i b c h1 h2).step st.toSts R.tups (upd_ne fun z => e ?_)
      subst z
      exact R.ndg _ _ _ ha h1
  fl := R.fl
  fc := fun i b c h1 h2 => by
    have st := stp_cell (o := .lst vs) R (.inr (List.mem_of_getElem? ha))
    refine (R.fc i b c h1 h2).step st.toSts R.tups (upd_ne fun z => ?_)
    subst z
    exact R.dis _ (List.mem_of_getElem? h1) (List.mem_of_getElem? ha)
  ndf := R.ndf
  ndg := R.ndg
  dis := R.dis
  bo := R.bo
  fnew := R.fnew
  gnew := R.gnew
  pre := R.pre
  frame := fun x u h nt n => by
    have ne : x ≠ a := fun z => by
      subst z
      rcases R.gnew x (List.mem_of_getElem? ha) with q | q
      · exact n q
      · exact q ⟨u, h, nt⟩
    rw [upd_ne ne]; exact R.frame x u h nt n
  tb := tabs_upd (R.pl (.inr (List.mem_of_getElem? ha))) R.tb
  trk := fun x h => (stp_cell R (.inr (List.mem_of_getElem? ha))).trk x (R.trk x h)
  tm := fun x h => ⟨(stp_cell R (.inr (List.mem_of_getElem? ha))).trk x (R.tm x h).1, (R.tm x h).2⟩

theorem mtR_append : MtR X "list.append" (rBm X.K RX W .append) := by
  intro ps st τ H x xs v us Q I rx r h
  obtain ⟨γ, s, σ, y, vs, R, ry, rv, p⟩ := h
  unfold bmth at p
  split at p
  · contradiction
  · split at p
    · rename_i j d ys e
      obtain ⟨hl, p⟩ := Post.ifP p
      obtain ⟨x', rfl, rx'⟩ := relVals_one rv
      obtain ⟨a, rfl, ha⟩ := ry
      obtain ⟨zs, ws, hc, hh, rr⟩ := R.cellF ha
      rw [e] at hc; cases hc
      refine L2.mt_append ps st τ H _ _ v us Q I rx r ⟨a, ws, x', rfl, rfl, hh, line_lt (by rw [← relDs_len rr]; exact hl), ?_⟩
      exact p γ _ _ (stp_cell R (.inl (List.mem_of_getElem? ha))) (R.setF ha (relDs_app rr (.cons rx' .nil))) .non
    · exact False.elim p
  · split at p
    · rename_i j d ys e
      obtain ⟨hl, p⟩ := Post.ifP p
      obtain ⟨x', rfl, rx'⟩ := relVals_one rv
      cases ry with
      | ref ha =>
        obtain ⟨zs, ws, hc, hh, rr⟩ := R.cellG ha e
        rw [e] at hc; cases hc
        refine L2.mt_append ps st τ H _ _ v us Q I rx r ⟨_, ws, x', rfl, rfl, hh, line_lt (by rw [← relDs_len rr]; exact hl), ?_⟩
        exact p γ _ _ (stp_cell R (.inr (List.mem_of_getElem? ha))) (R.setG ha (relDs_app rr (.cons rx' .nil))) .non
    · exact False.elim p
  · contradiction
  · contradiction
  · exact False.elim p
theorem relDs_erase {K : PySem.W.Frag} {γ : Gh} {H : Hp} {xs : List D} {vs : List V} (h : RelDs K γ H xs vs) : ∀ (i : Nat), RelDs K γ H (xs.eraseIdx i) (vs.eraseIdx i) := by
  induction xs generalizing vs with
  | nil => intro i; cases h; exact .nil
  | cons x xs ih =>
    intro i
    cases h with
    | cons a t =>
      cases i with
      | zero => exact t
      | succ i => exact .cons a (ih t i)
theorem six_nat {i : Int} {n : Nat} (h0 : 0 ≤ i) (h : i.toNat < n) : PySem.seqIndex? i n = some i.toNat := by
  unfold PySem.seqIndex?
  have h1 : ¬ i < 0 := by omega
  have h2 : i < n := by omega
  simp [h1, h0, h2]
theorem mtR_pop : MtR X "list.pop" (rBm X.K RX W .pop) := by
  intro ps st τ H x xs v us Q I rx r h
  obtain ⟨γ, s, σ, y, vs, R, ry, rv, p⟩ := h
  unfold bmth at p
  split at p
  · contradiction
  · contradiction
  · contradiction
  · rename_i j i _
    split at p
    · rename_i _ ys e
      obtain ⟨hl, p⟩ := Post.ifP p
      split at p
      · rename_i d ed
        obtain ⟨x', rfl, rx'⟩ := relVals_one rv
        obtain ⟨a, rfl, ha⟩ := ry
        obtain ⟨zs, ws, hc, hh, rr⟩ := R.cellF ha
        rw [e] at hc; cases hc
        cases rx'
        obtain ⟨y, hy, ry⟩ := relDs_get rr ed
        have hlen : i.toNat < ws.length := (List.getElem?_eq_some_iff.mp hy).1
        have st1 := stp_cell (o := .lst (ws.eraseIdx i.toNat)) R (.inl (List.mem_of_getElem? ha))
        have hL : (LINE : Int) = 1000000 := rfl
        refine L2.mt_popAt ps st τ H _ _ v us Q I rx r ⟨a, ws, i, i.toNat, y, rfl, rfl, hh, by omega, by omega, six_nat hl.1 hlen, hy, ?_⟩
        exact p γ _ _ st1 (R.setF ha (relDs_erase rr _)) (ry.step st1.toSts R.tups)
      · exact False.elim p
    · exact False.elim p
  · rename_i j i _
    split at p
    · rename_i _ ys e
      obtain ⟨hl, p⟩ := Post.ifP p
      split at p
      · rename_i d ed
        obtain ⟨x', rfl, rx'⟩ := relVals_one rv
        cases ry with
        | ref ha =>
          obtain ⟨zs, ws, hc, hh, rr⟩ := R.cellG ha e
          rw [e] at hc; cases hc
          cases rx'
          obtain ⟨y, hy, ry⟩ := relDs_get rr ed
          have hlen : i.toNat < ws.length := (List.getElem?_eq_some_iff.mp hy).1
          have st1 := stp_cell (o := .lst (ws.eraseIdx i.toNat)) R (.inr (List.mem_of_getElem? ha))
          have hL : (LINE : Int) = 1000000 := rfl
          refine L2.mt_popAt ps st τ H _ _ v us Q I rx r ⟨_, ws, i, i.toNat, y, rfl, rfl, hh, by omega, by omega, six_nat hl.1 hlen, hy, ?_⟩
          exact p γ _ _ st1 (R.setG ha (relDs_erase rr _)) (ry.step st1.toSts R.tups)
      · exact False.elim p
    · exact False.elim p
  · exact False.elim p

/-! ### instances -/
section
variable {K : PySem.W.Frag} {γ : Gh} {s : S} {σ : L2.St} {H : Hp}
/-- a shared cell is written -/
theorem Rel.setGC {a : Addr} {o : HO} {c : Cell} (R : Rel K γ s σ H) {j : Nat} (ha : γ.pg[j]? = some a) (r : CellG K γ (upd H a o) a c) (nt : ∀ ps, o ≠ .tbl ps := by intro _ z; cases z) : Rel K γ { s with gs := s.gs.set j c } σ (upd H a o) where
  len := R.len
  slot := fun i v h => let ⟨x, e, r⟩ := R.slot i v h; ⟨x, e, r.step (stp_cell R (.inr (List.mem_of_getElem? ha)) nt) R.tups⟩
  gl := by rw [List.length_set]; exact R.gl
  gc := fun i b c' h1 h2 => by
    have st := stp_cell (o := o) R (.inr (List.mem_of_getElem? ha)) nt
    by_cases e : j = i
    · subst e
      rw [ha] at h1; cases h1
      have hl : j < s.gs.length := by rw [← R.gl]; exact (List.getElem?_eq_some_iff.mp ha).1
      rw [List.getElem?_set_self hl] at h2; cases h2
      exact r
    · rw [List.getElem?_set_ne e] at h2
      refine (R.gc i b c' h1 h2).step st.toSts R.tups (upd_ne fun z => e ?_)
      subst z
      exact R.ndg _ _ _ ha h1
  fl := R.fl
  fc := fun i b c' h1 h2 => by
    have st := stp_cell (o := o) R (.inr (List.mem_of_getElem? ha)) nt
    refine (R.fc i b c' h1 h2).step st.toSts R.tups (upd_ne fun z => ?_)
    subst z
    exact R.dis _ (List.mem_of_getElem? h1) (List.mem_of_getElem? ha)
  ndf := R.ndf
  ndg := R.ndg
  dis := R.dis
  bo := R.bo
  fnew := R.fnew
  gnew := R.gnew
  pre := R.pre
  frame := fun x u h nt n => by
    have ne : x ≠ a := fun z => by
      subst z
      rcases R.gnew x (List.mem_of_getElem? ha) with q | q
      · exact n q
      · exact q ⟨u, h, nt⟩
    rw [upd_ne ne]; exact R.frame x u h nt n
  tb := tabs_upd (R.pl (.inr (List.mem_of_getElem? ha))) R.tb
  trk := fun x h => (stp_cell R (.inr (List.mem_of_getElem? ha)) nt).trk x (R.trk x h)
  tm := fun x h => ⟨(stp_cell R (.inr (List.mem_of_getElem? ha)) nt).trk x (R.tm x h).1, (R.tm x h).2⟩
theorem ins_rel (R : Rel K γ s σ H) {v : Val} {x : V} {n : Nat} {c : Str} {ns : List Str} {vs : List D} (r : RelVal K γ H v x) (e : insOf v s = some (n, c, ns, vs)) :
    ∃ a dx fs, x = .ref a ∧ v = .d (.ref n) ∧ γ.pg[n]? = some a ∧ s.gs[n]? = some (.ins c ns vs) ∧ H a = some (.ins (clsOf K c) dx fs) ∧ ns = fs.map Prod.fst ∧ RelDs K γ H vs (fs.map Prod.snd) := by
  unfold insOf at e
  split at e
  · split at e
    · rename_i hg
      cases e
      cases r with
      | ref ha =>
        rcases R.gc _ _ _ ha hg with h | ⟨nm, ns', vs', dx, fs, h1, h2, h3, h4⟩
        · exact h.elim
        · cases h1
          exact ⟨_, dx, fs, rfl, rfl, ha, hg, h2, h3, h4⟩
    · cases e
  · cases e
theorem lookF_rel {f : Str} : ∀ {fs : List (Str × V)} {vs : List D} {d : D}, lookF f (fs.map Prod.fst) vs = some d → RelDs K γ H vs (fs.map Prod.snd) → ∃ v, fs.lookup f = some v ∧ RelD K γ H d v
  | [], _, _, h, _ => by simp [lookF] at h
  | (g, x) :: fs, ws, d, h, r => by
    rw [List.map_cons] at r h
    cases r with
    | cons a t =>
      simp only [lookF] at h
      by_cases e : g = f
      · rw [if_pos e] at h; cases h
        exact ⟨x, by rw [List.lookup_cons, beq_iff_eq.mpr e.symm], a⟩
      · rw [if_neg e] at h
        obtain ⟨v, h1, h2⟩ := lookF_rel h t
        exact ⟨v, by rw [List.lookup_cons, beq_eq_false_iff_ne.mpr (Ne.symm e)]; exact h1, h2⟩
theorem putF_rel {f : Str} {d : D} {y : V} (rd : RelD K γ H d y) : ∀ {fs : List (Str × V)} {vs : List D}, RelDs K γ H vs (fs.map Prod.snd) → putN f (fs.map Prod.fst) = (L2.putF f y fs).map Prod.fst ∧ RelDs K γ H (putD f d (fs.map Prod.fst) vs) ((L2.putF f y fs).map Prod.snd)
  | [], _, .nil => ⟨rfl, .cons rd .nil⟩
  | (g, x) :: fs, ws, r => by
    rw [List.map_cons] at r ⊢
    cases r with
    | cons a t =>
      by_cases e : g = f
      · simp only [putN, putD, L2.putF, if_pos e, List.map_cons]
        exact ⟨trivial, .cons rd t⟩
      · obtain ⟨h1, h2⟩ := putF_rel (f := f) rd t
        simp only [putN, putD, L2.putF, if_neg e, List.map_cons]
        exact ⟨by rw [h1], .cons a h2⟩
end

/-! ### calls of defs -/
/-- the ghost at a callee's entry -/
def Gh.enter (γ : Gh) (H : Hp) : Gh := { B := fun a => (γ.B a ∨ a ∈ γ.tm) ∨ some a ∈ γ.pf, H0 := H, p0 := γ.pg, pf := [], pg := γ.pg, tm := [] }
theorem enter_bad (γ : Gh) (H : Hp) (a : Addr) : (γ.enter H).Bad a ↔ γ.Bad a := by
  unfold Gh.Bad Gh.enter
  simp only [List.not_mem_nil, or_false, false_or]
  constructor
  · rintro ((h | h) | h)
    · exact .inl h
    · exact .inr (.inl h)
    · exact .inr (.inr h)
  · rintro (h | h | h)
    · exact .inl (.inl h)
    · exact .inl (.inr h)
    · exact .inr h
theorem les_enter (γ : Gh) (H : Hp) : Les γ (γ.enter H) := ⟨List.prefix_refl _, fun x h => (enter_bad γ H x).mp h⟩
theorem les_iff {γ γ' : Gh} (h : ∀ a, γ'.Bad a ↔ γ.Bad a) (e : γ'.pg = γ.pg) : Les γ γ' := ⟨by rw [e]; exact List.prefix_refl _, fun x q => (h x).mp q⟩
/-- outside of the frames: the shared cells alone -/
abbrev outS (gs : List Cell) : S := ⟨[], [], gs⟩
theorem Rel.enter {K : PySem.W.Frag} {γ : Gh} {s : S} {σ : L2.St} {H : Hp} (R : Rel K γ s σ H) : Rel K (γ.enter H) (outS s.gs) [] H where
  len := rfl
  slot := fun i v h => by simp [outS] at h
  fl := rfl
  fc := fun j a c h => by simp [Gh.enter] at h
  gl := R.gl
  gc := fun j a c h1 h2 => (R.gc j a c h1 h2).les (les_enter γ H)
  ndf := fun i j a h => by simp [Gh.enter] at h
  ndg := R.ndg
  dis := fun a h => by simp [Gh.enter] at h
  bo := fun a h => by
    rcases h with (h | h) | h
    · refine ⟨R.trk a (R.bo a h).1, fun z => ?_⟩
      rcases R.gnew a z with q | q
      · exact (R.bo a h).2 q
      · exact q (R.bo a h).1
    · exact ⟨(R.tm a h).1, (R.tm a h).2.2⟩
    · obtain ⟨o', e, n⟩ := R.live (.inl h)
      exact ⟨⟨o', e, n.2.2.1⟩, R.dis a h⟩
  fnew := fun a h => by simp [Gh.enter] at h
  gnew := fun a h => .inl h
  pre := List.prefix_refl _
  frame := fun a o h _ _ => h
  trk := fun a h => h
  tb := R.tb
  tm := fun a h => by simp [Gh.enter] at h
/-- back from a callee -/
theorem Rel.leave {K : PySem.W.Frag} {γ γx : Gh} {s : S} {σ : L2.St} {H H' : Hp} {gs : List Cell} (R : Rel K γ s σ H) (hb : γx.B = (γ.enter H).B) (h0 : γx.H0 = H) (hp : γx.p0 = γ.pg) (hf : γx.pf = []) (ht : γx.tm = []) (Rx : Rel K γx (outS gs) [] H') :
    Stp γ H { γ with pg := γx.pg } H' ∧ Rel K { γ with pg := γx.pg } { s with gs := gs } σ H' ∧ ∀ a, ({ γ with pg := γx.pg } : Gh).Bad a ↔ γx.Bad a := by
  have bad : ∀ a, ({ γ with pg := γx.pg } : Gh).Bad a ↔ γx.Bad a := fun a => by
    unfold Gh.Bad
    rw [hb, hf, ht]
    simp only [Gh.enter, List.not_mem_nil, or_false, false_or]
    constructor
    · rintro (h | h | h)
      · exact .inl (.inl h)
      · exact .inl (.inr h)
      · exact .inr h
    · rintro ((h | h) | h)
      · exact .inl h
      · exact .inr (.inl h)
      · exact .inr (.inr h)
  have bn : ∀ a, γx.B a → a ∉ γx.pg := fun a h z => by
    rcases Rx.gnew a z with q | q
    · exact (Rx.bo a h).2 q
    · exact q (Rx.bo a h).1
  have fr : ∀ a o, H a = some o → (∀ ps, o ≠ .tbl ps) → a ∉ γ.pg → H' a = some o := fun a o h nt n => Rx.frame a o (by rw [h0]; exact h) nt (by rw [hp]; exact n)
  have tr : ∀ a, Liv H a → Liv H' a := fun a h => Rx.trk a (by rw [h0]; exact h)
  have gn : ∀ a, a ∈ γx.pg → a ∈ γ.pg ∨ ¬ Liv H a := fun a h => by
    have := Rx.gnew a h
    rw [hp, h0] at this
    exact this
  have st : Stp γ H { γ with pg := γx.pg } H' := ⟨⟨⟨rfl, rfl, rfl, fun _ h => .inl h, by rw [← hp]; exact Rx.pre, fun a o h nt _ n => fr a o h nt n, tr, fun a h => .inl h, gn, fun _ => Rx.tb⟩, rfl⟩, List.prefix_refl _⟩
  refine ⟨st, ?_, bad⟩
  exact {
    len := R.len
    slot := fun i v h => let ⟨x, e, r⟩ := R.slot i v h; ⟨x, e, r.step st R.tups⟩
    fl := R.fl
    fc := fun j a c h1 h2 => by
      refine (R.fc j a c h1 h2).step st.toSts R.tups ?_
      obtain ⟨o', e, n⟩ := R.live (.inl (List.mem_of_getElem? h1))
      rw [e]
      exact fr a _ e n.2.2.1 (R.dis a (List.mem_of_getElem? h1))
    gl := Rx.gl
    gc := fun j a c h1 h2 => (Rx.gc j a c h1 h2).les (les_iff bad rfl)
    ndf := R.ndf
    ndg := Rx.ndg
    dis := fun a h => bn a (by rw [hb]; exact .inr h)
    bo := R.bo
    fnew := R.fnew
    gnew := fun a h => by
      rcases gn a h with q | q
      · exact R.gnew a q
      · exact .inr fun z => q (R.trk a z)
    pre := List.IsPrefix.trans R.pre st.pg
    frame := fun a o h nt n => by
      refine fr a o (R.frame a o h nt n) nt fun z => ?_
      rcases R.gnew a z with q | q
      · exact n q
      · exact q ⟨o, h, nt⟩
    trk := fun a h => tr a (R.trk a h)
    tb := Rx.tb
    tm := fun a h => ⟨tr a (R.tm a h).1, (R.tm a h).2.1, bn a (by rw [hb]; exact .inl (.inr h))⟩ }

/-- what a def of the text promises: what the evaluator says of it -/
def spG (K : PySem.W.Frag) (RX : ExRel) (Γ : Callee) (f : Nat) : Sp := fun vs H Q E => ∃ (γ : Gh) (gs : List Cell) (ds : List D), γ.pf = [] ∧ γ.tm = [] ∧ γ.H0 = H ∧ γ.p0 = γ.pg ∧ Rel K γ (outS gs) [] H ∧ RelDs K γ H ds vs ∧
  match Γ f ds gs with
  | .ok d gs' => ∀ (γ' : Gh) (H' : Hp) (v : V), γ'.pf = [] → γ'.tm = [] → γ'.B = γ.B → γ'.H0 = H → γ'.p0 = γ.p0 → Rel K γ' (outS gs') [] H' → RelD K γ' H' d v → Q v H'
  | .ex e gs' => ∀ (γ' : Gh) (H' : Hp) (c : Value) (d : Option Addr), γ'.pf = [] → γ'.tm = [] → γ'.B = γ.B → γ'.H0 = H → γ'.p0 = γ.p0 → Rel K γ' (outS gs') [] H' → RX γ' H' e c d → E c d H'
  | .bad => False
/-- errors are told whatever is bad -/
def ExSteady (K : PySem.W.Frag) (RX : ExRel) : Prop := ∀ (γ γ' : Gh) (H : Hp) (e : Ex) (c : Value) (d : Option Addr), Les γ γ' → RX γ H e c d → RX γ' H e c d
theorem call_reading {K : PySem.W.Frag} {Γ : Callee} {f : Nat} (hX : ExSteady K RX) {γ : Gh} {s : S} {σ : L2.St} {H : Hp} {vs : List Val} {us : List V} {Q : VK} (R : Rel K γ s σ H) (rv : RelVals K γ H vs us) (p : Post K RX W γ H σ (RelVal K) (callR Γ f vs s) Q) :
    spG K RX Γ f us H Q (L2.WE W σ) := by
  unfold callR at p
  cases hd : toDs vs with
  | none => rw [hd] at p; exact False.elim p
  | some ds =>
    rw [hd] at p
    refine ⟨γ.enter H, s.gs, ds, rfl, rfl, rfl, rfl, R.enter, RelDs.les (les_enter γ H) _ _ (toDs_rel rv hd), ?_⟩
    cases hr : Γ f ds s.gs with
    | bad => simp only [hr] at p; exact False.elim p
    | ok d gs' =>
      simp only [hr] at p
      intro γx H' v h1 h2 h3 h4 h5 Rx rd
      obtain ⟨st, R', bad⟩ := R.leave h3 h4 h5 h1 h2 Rx
      exact p _ _ v st R' (RelD.les (les_iff bad rfl) _ _ rd)
    | ex e gs' =>
      simp only [hr] at p
      intro γx H' c d h1 h2 h3 h4 h5 Rx rd
      obtain ⟨st, R', bad⟩ := R.leave h3 h4 h5 h1 h2 Rx
      exact p _ _ c d st R' (hX _ _ _ _ _ _ (les_iff bad rfl) rd)
end
end Mp

/-! Mp: what is walked; comprehensions. -/
namespace Mp
open PySem (Addr Value Expr PyData Str CmpOp Operator binaryOp compareOp cLine)
open L2 (V HO Hp upd upd_same upd_ne SqT SqL Rd PE PT PA PI PG Cx OpR TE TT TA TI TG VK XK WX RelV EP CallR MtR IxR Gl Sp It)
variable [TabT]

/-- the iterator J yields the data xs, whatever is done meanwhile -/
structure Wk (K : PySem.W.Frag) (γ0 : Gh) (H0 : Hp) (J : It) (xs : List D) : Prop where
  go : ∀ i γ H, Sts γ0 H0 γ H → i < xs.length → J.go i H
  stop : ∀ γ H, Sts γ0 H0 γ H → J.stop xs.length H
  yld : ∀ i γ H x H' d, Sts γ0 H0 γ H → J.yld i H x H' → xs[i]? = some d → (H' = H ∨ ∃ T o, H T = none ∧ H' = upd H T o) ∧ RelD K γ H' d x

section
variable {K : PySem.W.Frag} {γ : Gh} {s : S} {σ : L2.St} {H : Hp}
theorem wk_list (t : TupOk γ H) {a : Addr} {xs : List D} {vs : List V} (hp : ∀ γ' H', Sts γ H γ' H' → SqL K H' a vs) (r : RelDs K γ H xs vs) : Wk K γ H (L2.Itl K a) xs where
  go := fun i γ' H' st hi => by
    rw [relDs_len r] at hi
    exact ⟨vs, vs[i], hp γ' H' st, List.getElem?_eq_getElem hi⟩
  stop := fun γ' H' st => ⟨vs, hp γ' H' st, by rw [relDs_len r]; exact Nat.le_refl _⟩
  yld := fun i γ' H' x H2 d st y e => by
    obtain ⟨rfl, f⟩ := y
    obtain ⟨v, hv, rv⟩ := relDs_get (RelDs.step st t _ _ r) e
    have := f vs (hp γ' H2 st)
    rw [hv] at this; cases this
    exact ⟨.inl rfl, rv⟩
theorem wk_tup (t : TupOk γ H) {a : Addr} {xs : List D} {vs : List V} (h : SqT K H a vs) (r : RelDs K γ H xs vs) : Wk K γ H (L2.Itt K a) xs where
  go := fun i γ' H' st hi => by
    rw [relDs_len r] at hi
    exact ⟨vs, vs[i], st.sqT t h, List.getElem?_eq_getElem hi⟩
  stop := fun γ' H' st => ⟨vs, st.sqT t h, by rw [relDs_len r]; exact Nat.le_refl _⟩
  yld := fun i γ' H' x H2 d st y e => by
    obtain ⟨rfl, f⟩ := y
    obtain ⟨v, hv, rv⟩ := relDs_get (RelDs.step st t _ _ r) e
    have := f vs (st.sqT t h)
    rw [hv] at this; cases this
    exact ⟨.inl rfl, rv⟩
theorem wk_of {J : It} {n : Nat} {Y : Nat → Hp → V → Hp → Prop} {xs : List D} (w : L2.Walk J n (fun _ => True) Y) (hn : n = xs.length) (hy : ∀ i H x H' d, Y i H x H' → xs[i]? = some d → H' = H ∧ ∀ γ, RelD K γ H d x) : Wk K γ H J xs where
  go := fun i γ' H' _ hi => w.goes i H' (by omega) trivial
  stop := fun γ' H' _ => by rw [← hn]; exact w.stops H' trivial
  yld := fun i γ' H' x H2 d _ y e => by
    have hi := (List.getElem?_eq_some_iff.mp e).1
    obtain ⟨rfl, f⟩ := hy i H' x H2 d (w.yields i H' x H2 (by omega) trivial y) e
    exact ⟨.inl rfl, f γ'⟩
end

theorem zipD_get {xs ys : List D} {i : Nat} {d : D} (h : (zipD xs ys)[i]? = some d) : ∃ x y, xs[i]? = some x ∧ ys[i]? = some y ∧ d = .tup [x, y] := by
  unfold zipD at h
  rw [List.getElem?_map, Option.map_eq_some_iff] at h
  obtain ⟨⟨x, y⟩, h1, rfl⟩ := h
  rw [List.getElem?_zip_eq_some] at h1
  exact ⟨x, y, h1.1, h1.2, rfl⟩
theorem zipD_len (xs ys : List D) : (zipD xs ys).length = min xs.length ys.length := by
  unfold zipD
  rw [List.length_map, List.length_zip]
theorem enmD_get : ∀ {xs : List D} {n i : Nat} {d : D}, (enmD n xs)[i]? = some d → ∃ x, xs[i]? = some x ∧ d = .tup [.int ((n + i : Nat)), x]
  | [], n, i, d, h => by simp [enmD] at h
  | x :: r, n, 0, d, h => by
    simp only [enmD, List.getElem?_cons_zero] at h
    cases h
    exact ⟨x, rfl, rfl⟩
  | x :: r, n, i + 1, d, h => by
    simp only [enmD, List.getElem?_cons_succ] at h
    obtain ⟨y, h1, h2⟩ := enmD_get h
    refine ⟨y, by simpa using h1, ?_⟩
    rw [h2]
    have : n + 1 + i = n + (i + 1) := by omega
    rw [this]
theorem enmD_len : ∀ (xs : List D) (n : Nat), (enmD n xs).length = xs.length
  | [], _ => rfl
  | x :: r, n => by simp only [enmD, List.length_cons, enmD_len r]
section
variable {K : PySem.W.Frag} {γ : Gh} {s : S} {σ : L2.St} {H : Hp}
theorem pair_new (t : TupOk γ H) {γ' : Gh} {H' : Hp} (st : Sts γ H γ' H') {T : Addr} {x y : D} {u v : V} (hT : H' T = none) (r1 : RelD K γ H x u) (r2 : RelD K γ H y v) : RelD K γ' (upd H' T (.tup [u, v])) (.tup [x, y]) (.ref T) :=
  have st2 := st.trans (Stp.new γ' hT).toSts
  .tup (.inl (.inl upd_same)) (.cons (RelD.step st2 t _ _ r1) (.cons (RelD.step st2 t _ _ r2) .nil))
theorem wk_zip (t : TupOk γ H) {a b : Addr} {xs ys : List D} {vs us : List V} (hp : ∀ γ' H', Sts γ H γ' H' → SqL K H' a vs) (hq : ∀ γ' H', Sts γ H γ' H' → SqL K H' b us) (r : RelDs K γ H xs vs) (q : RelDs K γ H ys us) : Wk K γ H (L2.Itz K a b) (zipD xs ys) where
  go := fun i γ' H' st hi => by
    rw [zipD_len, relDs_len r, relDs_len q] at hi
    exact ⟨vs, us, vs[i]'(by omega), us[i]'(by omega), hp γ' H' st, hq γ' H' st, List.getElem?_eq_getElem _, List.getElem?_eq_getElem _⟩
  stop := fun γ' H' st => ⟨vs, us, hp γ' H' st, hq γ' H' st, by rw [zipD_len, relDs_len r, relDs_len q]; omega⟩
  yld := fun i γ' H' x H2 d st y e => by
    obtain ⟨T, u, v, rfl, hT, rfl, f1, f2⟩ := y
    obtain ⟨dx, dy, h1, h2, rfl⟩ := zipD_get e
    obtain ⟨u', hu, ru⟩ := relDs_get r h1
    obtain ⟨v', hv, rv⟩ := relDs_get q h2
    have := f1 vs (hp γ' H' st); rw [hu] at this; cases this
    have := f2 us (hq γ' H' st); rw [hv] at this; cases this
    exact ⟨.inr ⟨T, _, hT, rfl⟩, pair_new t st hT ru rv⟩
theorem wk_zipT (t : TupOk γ H) {a b : Addr} {xs ys : List D} {vs us : List V} (hp : SqT K H a vs) (hq : SqT K H b us) (r : RelDs K γ H xs vs) (q : RelDs K γ H ys us) : Wk K γ H (RZ.ItzT K a b) (zipD xs ys) where
  go := fun i γ' H' st hi => by
    rw [zipD_len, relDs_len r, relDs_len q] at hi
    exact ⟨vs, us, vs[i]'(by omega), us[i]'(by omega), st.sqT t hp, st.sqT t hq, List.getElem?_eq_getElem _, List.getElem?_eq_getElem _⟩
  stop := fun γ' H' st => ⟨vs, us, st.sqT t hp, st.sqT t hq, by rw [zipD_len, relDs_len r, relDs_len q]; omega⟩
  yld := fun i γ' H' x H2 d st y e => by
    obtain ⟨T, u, v, rfl, hT, rfl, f1, f2⟩ := y
    obtain ⟨dx, dy, h1, h2, rfl⟩ := zipD_get e
    obtain ⟨u', hu, ru⟩ := relDs_get r h1
    obtain ⟨v', hv, rv⟩ := relDs_get q h2
    have := f1 vs (st.sqT t hp); rw [hu] at this; cases this
    have := f2 us (st.sqT t hq); rw [hv] at this; cases this
    exact ⟨.inr ⟨T, _, hT, rfl⟩, pair_new t st hT ru rv⟩
theorem wk_zipM (t : TupOk γ H) {a b : Addr} {xs ys : List D} {vs us : List V} (hp : ∀ γ' H', Sts γ H γ' H' → SqL K H' a vs) (hq : SqT K H b us) (r : RelDs K γ H xs vs) (q : RelDs K γ H ys us) : Wk K γ H (Z.Itm K a b) (zipD xs ys) where
  go := fun i γ' H' st hi => by
    rw [zipD_len, relDs_len r, relDs_len q] at hi
    exact ⟨vs, us, vs[i]'(by omega), us[i]'(by omega), hp γ' H' st, st.sqT t hq, List.getElem?_eq_getElem _, List.getElem?_eq_getElem _⟩
  stop := fun γ' H' st => ⟨vs, us, hp γ' H' st, st.sqT t hq, by rw [zipD_len, relDs_len r, relDs_len q]; omega⟩
  yld := fun i γ' H' x H2 d st y e => by
    obtain ⟨T, u, v, rfl, hT, rfl, f1, f2⟩ := y
    obtain ⟨dx, dy, h1, h2, rfl⟩ := zipD_get e
    obtain ⟨u', hu, ru⟩ := relDs_get r h1
    obtain ⟨v', hv, rv⟩ := relDs_get q h2
    have := f1 vs (hp γ' H' st); rw [hu] at this; cases this
    have := f2 us (st.sqT t hq); rw [hv] at this; cases this
    exact ⟨.inr ⟨T, _, hT, rfl⟩, pair_new t st hT ru rv⟩
theorem wk_enm (t : TupOk γ H) {a : Addr} {xs : List D} {vs : List V} (hp : ∀ γ' H', Sts γ H γ' H' → SqL K H' a vs) (r : RelDs K γ H xs vs) : Wk K γ H (L2.Ite K a) (enmD 0 xs) where
  go := fun i γ' H' st hi => by
    rw [enmD_len, relDs_len r] at hi
    exact ⟨vs, vs[i], hp γ' H' st, List.getElem?_eq_getElem hi⟩
  stop := fun γ' H' st => ⟨vs, hp γ' H' st, by rw [enmD_len, relDs_len r]; exact Nat.le_refl _⟩
  yld := fun i γ' H' x H2 d st y e => by
    obtain ⟨T, u, rfl, hT, rfl, f⟩ := y
    obtain ⟨dx, h1, rfl⟩ := enmD_get e
    obtain ⟨u', hu, ru⟩ := relDs_get r h1
    have := f vs (hp γ' H' st); rw [hu] at this; cases this
    refine ⟨.inr ⟨T, _, hT, rfl⟩, ?_⟩
    rw [Nat.zero_add]
    exact pair_new t st hT (.int _) ru
theorem wk_enmT (t : TupOk γ H) {a : Addr} {xs : List D} {vs : List V} (hp : SqT K H a vs) (r : RelDs K γ H xs vs) : Wk K γ H (Z.Itn K a) (enmD 0 xs) where
  go := fun i γ' H' st hi => by
    rw [enmD_len, relDs_len r] at hi
    exact ⟨vs, vs[i], st.sqT t hp, List.getElem?_eq_getElem hi⟩
  stop := fun γ' H' st => ⟨vs, st.sqT t hp, by rw [enmD_len, relDs_len r]; exact Nat.le_refl _⟩
  yld := fun i γ' H' x H2 d st y e => by
    obtain ⟨T, u, rfl, hT, rfl, f⟩ := y
    obtain ⟨dx, h1, rfl⟩ := enmD_get e
    obtain ⟨u', hu, ru⟩ := relDs_get r h1
    have := f vs (st.sqT t hp); rw [hu] at this; cases this
    refine ⟨.inr ⟨T, _, hT, rfl⟩, ?_⟩
    rw [Nat.zero_add]
    exact pair_new t st hT (.int _) ru
end
section
variable (K : PySem.W.Frag) (RX : ExRel) (W : WX)
def tI (m : S → R (List D)) : TI := fun σ H Q => ∃ γ s, Rel K γ s σ H ∧
  match m s with
  | .ok xs s' => ∀ (γ' : Gh) (H' : Hp) (J : It), Stp γ H γ' H' → Rel K γ' s' σ H' → Wk K γ' H' J xs → Q J H'
  | .ex e s' => ∀ (γ' : Gh) (H' : Hp) (c : Value) (d : Option Addr), Stp γ H γ' H' → Rel K γ' s' σ H' → RX γ' H' e c d → W c d σ H'
  | .bad => False
end
theorem weakI {X : Cx} {tg e : Expr} {t t' : TI} (h : PI X tg e t) (w : ∀ σ H Q, t' σ H Q → t σ H Q) : PI X tg e t' := ⟨fun ps s σ H Q I q => h.run ps s σ H Q I (w σ H Q q)⟩

/-! ### slots -/
section
variable {K : PySem.W.Frag} {γ : Gh} {s : S} {σ : L2.St} {H : Hp}
theorem wipe_len (e : List (Option Val)) : ∀ l, (wipeE e l).length = e.length
  | [] => rfl
  | v :: vs => by unfold wipeE; rw [List.length_set, wipe_len e vs]
theorem wipe_get {e : List (Option Val)} : ∀ {l : List Nat} {i : Nat} {v : Val}, (wipeE e l)[i]? = some (some v) → e[i]? = some (some v) ∧ i ∉ l
  | [], i, v, h => ⟨h, by simp⟩
  | w :: l, i, v, h => by
    unfold wipeE at h
    by_cases e1 : w = i
    · subst e1
      by_cases hl : w < (wipeE e l).length
      · rw [List.getElem?_set_self hl] at h; cases h
      · rw [List.getElem?_eq_none (by rw [List.length_set]; omega)] at h; cases h
    · rw [List.getElem?_set_ne e1] at h
      obtain ⟨h1, h2⟩ := wipe_get h
      exact ⟨h1, by simp only [List.mem_cons, not_or]; exact ⟨fun z => e1 z.symm, h2⟩⟩
theorem wipeV_get {e : L2.St} : ∀ {l : List Nat} {i : Nat} {v : V}, e[i]? = some (some v) → i ∉ l → (L2.wipe e l)[i]? = some (some v)
  | [], i, v, h, _ => h
  | w :: l, i, v, h, n => by
    unfold L2.wipe
    simp only [List.mem_cons, not_or] at n
    rw [List.getElem?_set_ne (Ne.symm n.1)]
    exact wipeV_get h n.2
theorem Rel.reenv (R : Rel K γ s σ H) {e : List (Option Val)} {σ' : L2.St} (hl : e.length = σ'.length) (h : ∀ (i : Nat) (v : Val), e[i]? = some (some v) → ∃ x : V, σ'[i]? = some (some x) ∧ RelVal K γ H v x) : Rel K γ { s with env := e } σ' H :=
  { R with len := hl, slot := h, fl := R.fl, fc := R.fc, gl := R.gl, gc := R.gc }
theorem Rel.wipe (R : Rel K γ s σ H) (own : List Nat) : Rel K γ { s with env := wipeE s.env own } (L2.wipe σ own) H :=
  R.reenv (by rw [wipe_len, L2.wipe_length]; exact R.len) fun i v h => by
    obtain ⟨h1, h2⟩ := wipe_get h
    obtain ⟨x, e, r⟩ := R.slot i v h1
    exact ⟨x, wipeV_get e h2, r⟩
theorem Rel.set (R : Rel K γ s σ H) (i : Nat) {v : Val} {x : V} (r : RelVal K γ H v x) : Rel K γ { s with env := s.env.set i (some v) } (σ.set i (some x)) H :=
  R.reenv (by rw [List.length_set, List.length_set]; exact R.len) fun j w h => by
    by_cases e : i = j
    · subst e
      by_cases hl : i < s.env.length
      · rw [List.getElem?_set_self hl] at h; cases h
        exact ⟨x, by rw [List.getElem?_set_self (by rw [← R.len]; exact hl)], r⟩
      · rw [List.getElem?_eq_none (by rw [List.length_set]; omega)] at h; cases h
    · rw [List.getElem?_set_ne e] at h
      obtain ⟨y, e1, r1⟩ := R.slot j w h
      exact ⟨y, by rw [List.getElem?_set_ne e]; exact e1, r1⟩
/-- what was in the slots ahead of a step -/
theorem Rel.back {γ' : Gh} {s' : S} {σ' : L2.St} {H' : Hp} (R : Rel K γ s σ H) (st : Stp γ H γ' H') (R' : Rel K γ' s' σ' H') : Rel K γ' { s' with env := s.env } σ H' :=
  R'.reenv R.len fun i v h => let ⟨x, e, r⟩ := R.slot i v h; ⟨x, e, r.step st R.tups⟩
end

/-! ### targets -/
def gT (K : PySem.W.Frag) (tg : List Nat) : TG := fun v σ H Q => ∃ γ s x s', Rel K γ s σ H ∧ RelD K γ H x v ∧ bindTs tg x s = some s' ∧ ∀ σ', Rel K γ s' σ' H → (∀ own, (∀ i ∈ tg, i ∈ own) → L2.wipe σ' own = L2.wipe σ own) → Q σ' H
theorem wipe_set (σ : L2.St) (x : Option V) : ∀ {own : List Nat} {i : Nat}, i ∈ own → L2.wipe (σ.set i x) own = L2.wipe σ own
  | w :: own, i, h => by
    unfold L2.wipe
    by_cases e : i ∈ own
    · rw [wipe_set σ x e]
    · have : i = w := by rcases List.mem_cons.mp h with h | h; exact h; exact absurd h e
      subst this
      have : ∀ (l : List Nat) (σ : L2.St), i ∉ l → L2.wipe (σ.set i x) l = (L2.wipe σ l).set i x := by
        intro l
        induction l with
        | nil => intro σ _; rfl
        | cons w l ih =>
          intro σ hn
          simp only [List.mem_cons, not_or] at hn
          unfold L2.wipe
          rw [ih σ hn.2, List.set_comm _ _ hn.1]
      rw [this own σ e, List.set_set]
theorem wipe_idem (σ : L2.St) (own : List Nat) : L2.wipe (L2.wipe σ own) own = L2.wipe σ own := by
  apply List.ext_getElem?
  intro i
  have none_at : ∀ (l : List Nat) (τ : L2.St) (i : Nat), i ∈ l → i < τ.length → (L2.wipe τ l)[i]? = some none := by
    intro l
    induction l with
    | nil => intro τ i h; cases h
    | cons w l ih =>
      intro τ i h hl
      unfold L2.wipe
      by_cases e : w = i
      · subst e
        rw [List.getElem?_set_self (by rw [L2.wipe_length]; exact hl)]
      · rw [List.getElem?_set_ne e]
        rcases List.mem_cons.mp h with h | h
        · exact absurd h.symm e
        · exact ih τ i h hl
  have same : ∀ (l : List Nat) (τ : L2.St) (i : Nat), i ∉ l → (L2.wipe τ l)[i]? = τ[i]? := by
    intro l
    induction l with
    | nil => intro τ i _; rfl
    | cons w l ih =>
      intro τ i h
      simp only [List.mem_cons, not_or] at h
      unfold L2.wipe
      rw [List.getElem?_set_ne (Ne.symm h.1)]
      exact ih τ i h.2
  by_cases h : i ∈ own
  · by_cases hl : i < σ.length
    · rw [none_at own _ i h (by rw [L2.wipe_length]; exact hl), none_at own σ i h hl]
    · rw [List.getElem?_eq_none (by rw [L2.wipe_length, L2.wipe_length]; omega), List.getElem?_eq_none (by rw [L2.wipe_length]; omega)]
  · rw [same own _ i h]
section
variable {X : Cx}
theorem weakG {e : Expr} {t t' : TG} (h : PG X e t) (w : ∀ v σ H Q, t' v σ H Q → t v σ H Q) : PG X e t' := ⟨fun ps s σ H v u Q I r q => h.run ps s σ H v u Q I r (w v σ H Q q)⟩
def setV (tg : List Nat) (vs : List V) (σ : L2.St) : L2.St := (tg.zip vs).foldl (fun e p => e.set p.1 (some p.2)) σ
theorem setV_rel {K : PySem.W.Frag} {γ : Gh} {H : Hp} : ∀ (tg : List Nat) {xs : List D} {vs : List V} {s : S} {σ : L2.St}, Rel K γ s σ H → RelDs K γ H xs vs → Rel K γ { s with env := (tg.zip xs).foldl (fun e p => e.set p.1 (some (.d p.2))) s.env } (setV tg vs σ) H
  | [], _, _, _, _, R, _ => R
  | i :: tg, _, _, _, _, R, .nil => R
  | i :: tg, _, _, s, σ, R, .cons (x := x) (v := v) h t => setV_rel tg (s := { s with env := s.env.set i (some (.d x)) }) (σ := σ.set i (some v)) (R.set i (v := .d x) h) t
theorem setV_relA {K : PySem.W.Frag} {γ : Gh} {H : Hp} : ∀ (tg : List Nat) {xs : List Val} {vs : List V} {s : S} {σ : L2.St}, Rel K γ s σ H → RelVals K γ H xs vs → Rel K γ { s with env := setAll tg xs s.env } (setV tg vs σ) H
  | [], _, _, _, _, R, _ => R
  | i :: tg, _, _, _, _, R, .nil => R
  | i :: tg, _, _, s, σ, R, .cons (x := x) (v := v) h t => setV_relA tg (s := { s with env := s.env.set i (some x) }) (σ := σ.set i (some v)) (R.set i h) t
theorem setV_wipe : ∀ (tg : List Nat) (vs : List V) (σ : L2.St) (own : List Nat), (∀ i ∈ tg, i ∈ own) → L2.wipe (setV tg vs σ) own = L2.wipe σ own
  | [], _, _, _, _ => rfl
  | i :: tg, [], _, _, _ => rfl
  | i :: tg, v :: vs, σ, own, h => (setV_wipe tg vs (σ.set i (some v)) own (fun j hj => h j (List.mem_cons_of_mem _ hj))).trans (wipe_set σ (some v) (h i (List.mem_cons_self ..)))
theorem gT_tup {K : PySem.W.Frag} {tg : List Nat} {v : V} {σ : L2.St} {H : Hp} {Q : L2.St → Hp → Prop} (h2 : tg.length ≠ 1) (h : gT K tg v σ H Q) : L2.gTup K tg.length (fun vs σ H Q => vs.length = tg.length ∧ Q (setV tg vs σ) H) v σ H Q := by
  obtain ⟨γ, s, x, s', R, r, hb, q⟩ := h
  unfold bindTs at hb
  split at hb
  · exact absurd rfl h2
  · split at hb
    · rename_i xs
      split at hb
      · rename_i hl
        cases hb
        cases r with
        | tup hh rr =>
          have hl2 : _ = tg.length := (relDs_len rr).symm.trans hl
          exact ⟨_, _, rfl, hh, hl2, hl2, q _ (setV_rel tg R rr) fun own ho => setV_wipe tg _ σ own ho⟩
      · cases hb
    · cases hb
theorem gT_one {i : Nat} (v : V) (σ : L2.St) (H : Hp) (Q : L2.St → Hp → Prop) (h : gT X.K [i] v σ H Q) : L2.gName i v σ H Q := by
  obtain ⟨γ, s, x, s', R, r, e, q⟩ := h
  cases e
  exact q _ (R.set i (v := .d x) r) fun own ho => wipe_set σ _ (ho i List.mem_cons_self)
end

theorem lcGo_noex {env : List (Option Val)} {tg : List Nat} {cnd : S → R Bool} {elt : S → R Val} : ∀ {xs : List D} {s : S} {e : Ex} {s' : S}, lcGo env tg cnd elt xs s ≠ .ex e s'
  | [], s, e, s', h => by simp [lcGo] at h
  | x :: r, s, e, s', h => by
    unfold lcGo at h
    split at h
    · cases h
    · rename_i s1 _
      cases hc : cnd s1 with
      | bad => rw [hc] at h; simp at h
      | ex _ _ => rw [hc] at h; simp at h
      | ok b s2 =>
        rw [hc] at h
        simp only [R.bindN] at h
        split at h
        · cases he : elt s2 with
          | bad => rw [he] at h; simp at h
          | ex _ _ => rw [he] at h; simp at h
          | ok v s3 =>
            rw [he] at h
            cases v with
            | own _ => simp at h
            | d y =>
              simp only [R.bindN] at h
              cases hr : lcGo env tg cnd elt r s3 with
              | bad => rw [hr] at h; simp at h
              | ok _ _ => rw [hr] at h; simp at h
              | ex e2 s4 => exact lcGo_noex hr
        · exact lcGo_noex h

def W0 : WX := fun _ _ _ _ => False

section
variable {K : PySem.W.Frag} {RX : ExRel} {W : WX}
def Gh.wtm (γ : Gh) (t : List Addr) : Gh := { γ with tm := t }
theorem Stp.tmf {γ γ' : Gh} {H H' : Hp} (st : Stp γ H γ' H') (t : List Addr) : Stp (γ.wtm t) H (γ'.wtm t) H' where
  b := st.b
  h0 := st.h0
  p0 := st.p0
  tm := fun _ h => .inl h
  tmE := rfl
  pg := st.pg
  pf := st.pf
  frame := st.frame
  trk := st.trk
  fn := st.fn
  gn := st.gn
  tb := st.tb
theorem unmk_eq {γ γ2 : Gh} {a : Addr} (h : γ2.tm = a :: γ.tm) : (γ2.wtm γ.tm).mk1 a = γ2 := by
  cases γ2
  simp only [Gh.mk1, Gh.wtm] at h ⊢
  rw [← h]
/-- as seen from ahead of the making -/
theorem Stp.sts1 {γ γ2 : Gh} {H H2 : Hp} {a : Addr} (st : Stp γ H (γ2.wtm γ.tm) H2) (e : γ2.tm = a :: γ.tm) (h : ¬ Liv H a) : Sts γ H γ2 H2 where
  b := st.b
  h0 := st.h0
  p0 := st.p0
  pg := st.pg
  frame := st.frame
  trk := st.trk
  fn := st.fn
  gn := st.gn
  tb := st.tb
  tm := fun x m => by
    rw [e] at m
    rcases List.mem_cons.mp m with e | m
    · exact .inr (e ▸ h)
    · exact .inl m
theorem RelVal.stepS {γ γ1 : Gh} {H H1 : Hp} (a : Sts γ H γ1 H1) (pf : γ.pf <+: γ1.pf) (t : TupOk γ H) {v : Val} {x : V} (h : RelVal K γ H v x) : RelVal K γ1 H1 v x := by
  cases v with
  | d y => exact RelD.step a t _ _ h
  | own j =>
    obtain ⟨b, e, q⟩ := h
    exact ⟨b, e, get_pre pf q⟩
theorem Rel.backS {γ γ' : Gh} {s s' : S} {σ σ' : L2.St} {H H' : Hp} (R : Rel K γ s σ H) (st : Sts γ H γ' H') (pf : γ.pf <+: γ'.pf) (R' : Rel K γ' s' σ' H') : Rel K γ' { s' with env := s.env } σ H' :=
  R'.reenv R.len fun i v h => let ⟨x, e, r⟩ := R.slot i v h; ⟨x, e, r.stepS st pf R.tups⟩

/-- a comprehension's turns -/
theorem lc_sound {tg own : List Nat} {it : S → R (List D)} {cnd : S → R Bool} {elt : S → R Val} (ho : ∀ i ∈ tg, i ∈ own) (σ : L2.St) (H : Hp) (Q : VK)
    (h : tF K RX W (fun s => (it s).bind fun xs s1 => if xs.length ≤ LINE then (lcGo (wipeE s1.env own) tg cnd elt xs s1).bind fun ys s2 => .ok ys { s2 with env := s1.env } else .bad) σ H Q) :
    L2.tLc (tI K RX W it) (gT K tg) (tT K RX W0 cnd) (tE K RX W0 elt) own σ H Q := by
  obtain ⟨γ, s, R0, p⟩ := h
  refine ⟨γ, s, R0, ?_⟩
  cases hi : it s with
  | bad => simp only [hi, R.bind] at p
  | ex e s' => simp only [hi, R.bind] at p; exact p
  | ok xs s1 =>
    simp only [hi, R.bind] at p
    intro γ1 H1 J st1 R1 wk a ha
    by_cases hl : xs.length ≤ LINE
    · rw [if_pos hl] at p
      cases hg : lcGo (wipeE s1.env own) tg cnd elt xs s1 with
      | bad => simp only [hg] at p
      | ex e s' => exact absurd hg lcGo_noex
      | ok ys s2 =>
        simp only [hg] at p
        have h0 : ¬ Liv H a := fun z => not_liv ha (st1.trk a z)
        have n0 := R1.nil_of (not_liv ha)
        have Iv : ∃ Iv : Nat → Hp → Prop, ∀ i H', Iv i H' ↔ (i ≤ xs.length ∧ ∃ (γ2 : Gh) (si : S) (acc : List D) (vs : List V) (yr : List D), γ2.tm = a :: γ1.tm ∧ Stp γ1 H1 (γ2.wtm γ1.tm) H' ∧ Rel K γ2 { si with env := wipeE s1.env own } (L2.wipe σ own) H' ∧
            H' a = some (.lst vs) ∧ RelDs K γ2 H' acc vs ∧ lcGo (wipeE s1.env own) tg cnd elt (xs.drop i) si = .ok yr s2 ∧ ys = acc ++ yr ∧ acc.length ≤ i) := ⟨_, fun _ _ => Iff.rfl⟩
        obtain ⟨Iv, hIv⟩ := Iv
        refine ⟨fun i m H' => m = xs.length - i ∧ Iv i H', ⟨xs.length, by simp, (hIv _ _).mpr ⟨Nat.zero_le _, γ1.mk1 a, s1, [], [], ys, rfl, Stp.new γ1 ha, (R1.mk1 ha).wipe own, upd_same, .nil, by simpa using hg, rfl, Nat.zero_le _⟩⟩, ?_⟩
        rintro i m H' ⟨rfl, iv⟩
        obtain ⟨hi2, γ2, si, acc, vs, yr, htm, st2, R2, hv, rv, hgo, hy, hac⟩ := (hIv _ _).mp iv
        have sts := st2.sts1 htm (not_liv ha)
        by_cases hlt : i < xs.length
        · -- one more turn
          have hx : xs[i]? = some xs[i] := List.getElem?_eq_getElem hlt
          refine .inr ⟨wk.go i γ2 H' sts hlt, Iv (i + 1), fun H'' q => ⟨xs.length - (i + 1), by omega, rfl, q⟩, fun x H3 hyd => ?_⟩
          obtain ⟨hnew, rx⟩ := wk.yld i γ2 H' x H3 xs[i] sts hyd hx
          rw [List.drop_eq_getElem_cons hlt] at hgo
          unfold lcGo at hgo
          -- the state at the turn's start
          obtain ⟨st3, R3, hv3, rv3⟩ : Stp γ1 H1 (γ2.wtm γ1.tm) H3 ∧ Rel K γ2 { si with env := wipeE s1.env own } (L2.wipe σ own) H3 ∧ H3 a = some (.lst vs) ∧ RelDs K γ2 H3 acc vs := by
            rcases hnew with rfl | ⟨T, o, hT, rfl⟩
            · exact ⟨st2, R2, hv, rv⟩
            · exact ⟨st2.trans ((Stp.new γ2 hT).tmf _), R2.new hT, by rw [upd_ne (L2.ne_of_none hv hT)]; exact hv, RelDs.step (Stp.new γ2 hT).toSts R2.tups _ _ rv⟩
          cases hb : bindTs tg xs[i] { si with env := wipeE s1.env own } with
          | none => rw [hb] at hgo; cases hgo
          | some sb =>
            rw [hb] at hgo
            simp only at hgo
            refine ⟨γ2, _, xs[i], sb, R3, rx, hb, fun σ2 Rb hw => ⟨(hw own ho).trans (wipe_idem σ own), γ2, sb, Rb, ?_⟩⟩
            cases hc : cnd sb with
            | bad => rw [hc] at hgo; simp at hgo
            | ex _ _ => rw [hc] at hgo; simp at hgo
            | ok b sc =>
              rw [hc] at hgo
              simp only [R.bindN] at hgo
              intro γ4 H4 b' st4 R4 eb
              subst eb
              have tma := R3.tm a (by rw [htm]; exact List.mem_cons_self)
              have hv4 : H4 a = some (.lst vs) := st4.frame a _ hv3 lst_nt (fun z => tma.2.1 z) (fun z => tma.2.2 z)
              have rv4 := RelDs.step st4.toSts Rb.tups _ _ rv3
              have htm4 : γ4.tm = a :: γ1.tm := st4.tmE.trans htm
              cases b with
              | false =>
                simp only [Bool.false_eq_true, if_false] at hgo ⊢
                exact (hIv _ _).mpr ⟨hlt, γ4, sc, acc, vs, yr, htm4, st3.trans (st4.tmf _), R3.back st4 R4, hv4, rv4, hgo, hy, by omega⟩
              | true =>
                simp only [if_true] at hgo ⊢
                refine ⟨γ4, sc, R4, ?_⟩
                cases he : elt sc with
                | bad => rw [he] at hgo; simp at hgo
                | ex _ _ => rw [he] at hgo; simp at hgo
                | ok v sd =>
                  rw [he] at hgo
                  cases v with
                  | own _ => simp at hgo
                  | d y =>
                    simp only [R.bindN] at hgo
                    cases hr : lcGo (wipeE s1.env own) tg cnd elt (xs.drop (i + 1)) sd with
                    | bad => rw [hr] at hgo; simp at hgo
                    | ex _ _ => exact absurd hr lcGo_noex
                    | ok yr' s' =>
                      rw [hr] at hgo
                      simp only [R.bind] at hgo
                      cases hgo
                      intro γ5 H5 w st5 R5 rw5
                      have htm5 : γ5.tm = a :: γ1.tm := st5.tmE.trans htm4
                      have tm4 := R4.tm a (by rw [htm4]; exact List.mem_cons_self)
                      have hv5 : H5 a = some (.lst vs) := st5.frame a _ hv4 lst_nt (fun z => tm4.2.1 z) (fun z => tm4.2.2 z)
                      have rv5 := RelDs.step st5.toSts R4.tups _ _ rv4
                      have e5 : (γ5.wtm γ1.tm).mk1 a = γ5 := unmk_eq htm5
                      have nt : ∀ zs, H5 a ≠ some (.tup zs) := fun zs => by rw [hv5]; simp
                      have nf : ∀ u zs, H5 a ≠ some (.frz u (.tup zs)) := fun u zs => by rw [hv5]; simp
                      have R5' := R3.back (st4.trans st5) R5
                      have rall : RelDs K γ5 H5 (acc ++ [y]) (vs ++ [w]) := relDs_app rv5 (.cons rw5 .nil)
                      have st6 := st3.trans ((st4.trans st5).tmf _)
                      have h05 : ¬ Liv (γ5.wtm γ1.tm).H0 a := by
                        rw [st6.h0]
                        exact n0.1
                      refine ⟨vs, hv5, line_lt (by rw [← relDs_len rv5]; omega), (hIv _ _).mpr ⟨hlt, γ5, sd, acc ++ [y], vs ++ [w], yr', htm5, st6.setTm (not_liv ha) (pl_lst hv5), ?_, upd_same, ?_, hr, ?_, ?_⟩⟩
                      · rw [← e5] at R5' ⊢
                        exact R5'.setTm h05 (pl_lst hv5) lst_nt nt nf
                      · rw [← e5] at rall ⊢
                        exact RelDs.setTm nt nf _ _ rall
                      · rw [hy, List.append_assoc]; rfl
                      · rw [List.length_append]; simp only [List.length_singleton]; omega
        · -- the end
          have e : i = xs.length := by omega
          subst e
          refine .inl ⟨wk.stop γ2 H' sts, ?_⟩
          rw [List.drop_length] at hgo
          simp only [lcGo] at hgo
          cases hgo
          rw [List.append_nil] at hy
          subst hy
          have e2 : (γ2.wtm γ1.tm).mk1 a = γ2 := unmk_eq htm
          refine p (γ2.wtm γ1.tm) H' a vs h0 (st1.trans st2) ?_ (by rw [e2]; exact rv) hv
          rw [e2]
          exact R1.backS (s' := { s2 with env := wipeE s1.env own }) sts st2.pf R2
    · rw [if_neg hl] at p; exact False.elim p
end
end Mp

/-! Mp: an own exception's __init__ says super().__init__(..). -/
namespace Mp
open PySem (Addr Value Obj Heap Shared Sem Expr Stmt Str Scope Env Pos Program World Around Args ClassData FuncData Arguments Arg Flow Tok DictEntry GenState Drawn OsState Code)
open PySem (wpAny codeAny wpAt model eval exec execs wpAny_bind wpAny_pure wpAny_call wpAny_load)
open L2 (V HO Hp upd upd_same upd_ne PE PA PS PSs Cx Inv TE TT TA TS VK XK WX RelV Vals AP EP SP Gl Sp Room Binds FnOk FnR Env0 OexC exo exd thn Ends CXT)
open PySem.W (ksEnv ksFn ks_superObj ks_superIn kxs_mw methodObj)

/-- the def at f closes over __class__, the class at D -/
structure SupF (P : Program) (K : PySem.W.Frag) (mg : Str → Option Value) (f D cc cda : Addr) (fd : FuncData) (me : Str) : Prop where
  lk : ∃ oc od osl, K.lookup f = some ⟨oc, od, .func fd, osl⟩
  par : ∃ ar : Arg, (fd.params.posonlyargs ++ fd.params.args).head? = some ar ∧ ar.arg = me
  code : ∃ ccl cdd vs ccs file tf, K.lookup cda = some ⟨ccl, cdd, .fields vs, ccs⟩ ∧ vs[2]? = some (.str file tf) ∧ ((P.main.file : Str) == file) = true
  cell : ∃ cl cld csl, K.lookup cc = some ⟨cl, cld, .cell (some (.ref D)), csl⟩
  cls : ∃ cd, PySem.W.clsIn K D = some cd
  top : (P.main.scope.names.lookup ("super" : Str)).isSome = false
  blt : mg "super" = none
  opq : PySem.W.nsIn K PySem.cStatics "thirdparty.any" = some none

section
variable {X : Cx} {pins : List (Addr × Obj)} {σ : L2.St} {H : Hp} {s : Shared} {C D x f cc cda : Addr} {fd : FuncData} {me : Str} {u : Value} {Q : Value → Shared → Prop} {E : Value → Shared → Prop}
/-- what the frame's env must be -/
structure SupE (X : Cx) (f cda cc : Addr) (me : Str) : Prop where
  fu : X.env.func = some f
  co : X.env.code = .ref cda
  ce : X.env.cells = [(("__class__" : Str), cc)]
  ks : X.env.kindOf "super" = some .globalImplicit
  kc : X.env.kindOf "__class__" = some .free
  n0 : X.N[0]? = some me
  me : X.env.kindOf me = some .local
theorem sup_base {body : List Stmt} {p0 p1 : Pos} {attr : Str} {whole : Sem Value} (S : SupF X.prog X.K X.mg f D cc cda fd me) (Z : SupE X f cda cc me) (I : Inv X pins σ H s) (hσ : σ[0]? = some (some (.ref x)))
    (e : H x = some (exo x C none)) (hsub : PySem.W.mroIn X.K C (.ref D) = some true) (hat : (attr == ("__class__" : Str)) = false)
    (h : ∀ h', h'.get? s.heap.objs.size = some (ks_superObj D x C) → (∀ b o, s.heap.get? b = some o → h'.get? b = some o) → Q (.ref s.heap.objs.size) { s with heap := h' }) :
    wpAt (model X.prog X.w) X.A (.func body X.env) (PySem.attributeBase (.Call (.Name "super" p0) [] [] p1) attr X.env whole) Q E s := by
  obtain ⟨oc, od, osl, hlk⟩ := S.lk
  obtain ⟨ar, har, hme⟩ := S.par
  obtain ⟨ccl, cdd, vs, ccs, file, tf, hco, hvs, hfile⟩ := S.code
  obtain ⟨cl, cld, csl, hce⟩ := S.cell
  obtain ⟨cdD, hD⟩ := S.cls
  obtain ⟨t1, hx⟩ := L2.exo_at I.hok e
  have KX := I.kIn
  obtain ⟨mb, hb1, hb2⟩ := I.ok.mod.blt
  obtain ⟨m, hns, hloc⟩ := I.loc
  have hv : m ar.arg = some (.ref x) := by
    obtain ⟨u, ru, lu⟩ := hloc 0 me _ Z.n0 hσ (.inl Z.me)
    cases ru
    rw [hme]
    rcases lu with ⟨_, q⟩ | ⟨q | q, _⟩
    · exact q
    · rw [Z.me] at q; cases q
    · rw [Z.me] at q; cases q
  have bk := I.bk
  have ok := I.ok
  obtain ⟨hh, g, d, t, os⟩ := s
  obtain ⟨oD, hD1, hD2⟩ : ∃ oD, hh.get? D = some oD ∧ oD.data = .cls cdD := by
    unfold PySem.W.clsIn at hD
    split at hD
    · rename_i ho
      cases hD
      exact ⟨_, KX _ _ ho, rfl⟩
    · cases hD
  refine PySem.ks_wpAt_super_base Z.ks Z.kc hat Z.fu (KX _ _ hlk) rfl har Z.co (KX _ _ hco) rfl hvs hfile S.top ?_
  refine PySem.W.ks_loadName_global ok.kind Z.ks (PySem.Calls.loadGlobal_builtin (by rw [ok.glob]; exact ok.mod.glob.keeps bk) S.blt (by rw [ok.blt]; exact hb1.keeps bk) ((hb2 "super" (by decide)).trans (show PySem.bootBuiltins "super" = some (.type "super") from by first | rfl | kernel_rfl | decide +kernel)) ⟨rfl, ?_⟩)
  refine PySem.wpAny_loadName_free ok.kind Z.kc (by rw [Z.ce]; rfl) ⟨_, KX _ _ hce, rfl⟩ ?_
  refine PySem.wpAny_loadName_local ok.kind (by rw [hme]; exact Z.me) hns hv ?_
  refine PySem.ks_wpAny_isType_cls hD1 hD2 ⟨rfl, ?_⟩
  exact PySem.ks_wpAny_call_super hD1 hD2 hx rfl (fun c z => nomatch z) (PySem.W.looks_mroIn KX hsub) fun h' e1 k => h h' e1 k

/-- the built-in __init__ bound to the exception, called -/
theorem mw_call {w : Addr} {us : List Value} (T : OexC X.K C) (I : Inv X ((w, kxs_mw "ValueError.__init__" x) :: pins) σ H s) (e : H x = some (exo x C none)) (hl : us.length ≤ PySem.sizeLine)
    (h : ∀ s', Inv X pins σ H s' → Q .none s') : wpAny (model X.prog X.w) X.A (PySem.call (.ref w) us) Q E s := by
  obtain ⟨nm, q, N, bs, bm, sn, sub, ab, col, dd, k0, k1, k2, k3, k5, hC, hbm⟩ := T.cls
  obtain ⟨t1, ho⟩ := L2.exo_at I.hok e
  have hw := ClX.pin_at I
  have hCg := I.kIn _ _ hC
  have J0 := ClX.unpin I
  obtain ⟨hp, g, d, t, os⟩ := s
  have fin : ∀ h' t2, (∀ b o, b ≠ x → hp.get? b = some o → h'.get? b = some o) → h'.get? x = some (PySem.HandSPX.excO C t2) → Q .none ⟨h', g, d, t, os⟩ := fun h' t2 k hx => by
    have J := J0.write (t' := t) (x := x) (e := x) (o := exo x C none) (by rw [e]; exact True.intro) (.inl rfl) k ⟨_, hx⟩ (L2.exo_ok hx)
    have eu : upd H x (exo x C none) = H := by
      funext b
      by_cases hb : b = x
      · rw [hb, upd_same, e]
      · rw [upd_ne hb]
    rw [eu] at J
    exact h _ J
  refine wpAny_call (PySem.codeAny_of_tree ?_)
  show wpAny _ X.A.in1 (PySem.callAny (.ref w) ⟨us, []⟩) _ _ _
  simp only [PySem.callAny]
  refine wpAny_bind (wpAny_load hw ?_)
  simp only [kxs_mw, show (Value.type "method-wrapper" == Value.type "method" || Value.type "method-wrapper" == Value.type "builtin_function_or_method" || Value.type "method-wrapper" == Value.type "method-wrapper") = true by decide, if_true]
  refine PySem.W.KFB.if_so (by decide) ?_
  refine wpAny_bind (PySem.W.check_bound_init PySem.F.excBase_ValueError.toExcCallFacts hCg ho rfl ?_)
  refine wpAny_bind (wpAny_pure (wpAny_pure ?_))
  refine ⟨PySem.plainId_quiet PySem.F.excBase_ValueError.init.plain _, PySem.codeAny_builtin PySem.F.excBase_ValueError.initEntry ?_⟩
  exact PySem.W.exc_init_tree (cls := .ref C) (t0 := t1) (dv := none) (c2 := .none) (c3 := .none) (b4 := .bool false) ho hl fun h' k hx _ => fin h' _ k hx
end
end Mp
namespace Mp
open PySem (Addr Value Obj Heap Shared Sem Expr Stmt Str Scope Env Pos Program World Around Args ClassData FuncData Arguments Arg Flow Tok DictEntry GenState Drawn OsState Code)
open PySem (wpAny codeAny wpAt model eval exec execs wpAny_bind wpAny_pure wpAny_call wpAny_load)
open L2 (V HO Hp upd upd_same upd_ne PE PA PS PSs Cx Inv TE TT TA TS VK XK WX RelV Vals AP EP SP Gl Sp Room Binds FnOk FnR Env0 OexC exo exd thn Ends CXT)
open PySem.W (ksEnv ksFn ks_superObj ks_superIn kxs_mw methodObj)
section
variable {X : Cx} {pins : List (Addr × Obj)} {σ : L2.St} {H : Hp} {s : Shared} {C D x f cc cda : Addr} {fd : FuncData} {me : Str} {u : Value} {R : Flow → Shared → Prop} {body rest : List Stmt} {a1 : Expr} {ta : TA} {p0 p1 p2 p3 p4 : Pos}
theorem exo_inst {t1 : Addr} {h : Heap} (hx : h.get? x = some (PySem.HandSPX.excO C t1)) : PySem.W.InstAt h x (PySem.HandSPX.excO C t1) C none := ⟨hx, rfl, rfl, trivial⟩
theorem sup_eval {env : Env} (hst : PySem.starEach [a1] env = [(false, eval a1 env)]) (hpos : (p2.endLine == p3.line) = true) : eval (.Call (.Attribute (.Call (.Name "super" p0) [] [] p1) "__init__" p2) [a1] [] p3) env = (do
      let obj ← PySem.attributeBase (.Call (.Name "super" p0) [] [] p1) "__init__" env (eval (.Call (.Name "super" p0) [] [] p1) env)
      PySem.standAt p2.atName
      let (fn, lead) ← PySem.holding [obj] (PySem.getMethod obj "__init__" (do return (← PySem.importBound (.Call (.Name "super" p0) [] [] p1) env).getD true))
      PySem.callWith p3 fn lead (PySem.backTo p3 (PySem.starEach [a1] env)) []) := by
  show (do
    let obj ← PySem.attributeBase (.Call (.Name "super" p0) [] [] p1) "__init__" env (eval (.Call (.Name "super" p0) [] [] p1) env)
    PySem.standAt p2.atName
    PySem.methodCall (.Call (.Name "super" p0) [] [] p1) "__init__" p2 p3 env obj (1 + ([] : List PySem.Keyword).length) (PySem.backTo p3 (PySem.starEach [a1] env)) (PySem.backToKw p3 (PySem.keywordEach [] env))) = _
  have hf : PySem.methodCallForm (1 + ([] : List PySem.Keyword).length) (PySem.backTo p3 (PySem.starEach [a1] env)) (PySem.backToKw p3 (PySem.keywordEach [] env)) = true := by rw [hst]; rfl
  unfold PySem.methodCall
  simp only [hf, PySem.calleeOf, PySem.methodCallPos, hpos, if_true, Bool.not_true, Bool.false_or, pure_bind]
  rfl
theorem sup_blt (hpos : (p2.endLine == p3.line) = true) (S : SupF X.prog X.K X.mg f D cc cda fd me) (Z : SupE X f cda cc me) (T : OexC X.K C) (I : Inv X pins σ H s) (hσ : σ[0]? = some (some (.ref x))) (ex : H x = some (exo x C none)) (hsub : PySem.W.mroIn X.K C (.ref D) = some true)
    (hm : ks_superIn X.K C D "__init__" = some (some (.builtin "ValueError.__init__"))) (hB : PySem.W.subIn X.K (.ref C) (.type "ValueError") = some true) (ha : PA X [a1] ta) (hst : PySem.starEach [a1] X.env = [(false, eval a1 X.env)])
    {N1 : Hp → Prop} (hq : ta σ H fun vs H1 => vs.length ≤ 1000 ∧ H1 x = some (exo x C none) ∧ N1 H1)
    (hr : ∀ s' H1, Inv X pins σ H1 s' → N1 H1 → wpAt (model X.prog X.w) X.A (.func body X.env) (execs rest X.env) R X.xe s') :
    wpAt (model X.prog X.w) X.A (.func body X.env) (execs (.Expr (.Call (.Attribute (.Call (.Name "super" p0) [] [] p1) "__init__" p2) [a1] [] p3) p4 :: rest) X.env) R X.xe s := by
  refine PySem.ks_wpAt_execs_cons (PySem.ks_wpAt_Expr_any (PySem.ks_wpAt_MethodCall (sup_base S Z I hσ ex hsub (by decide) fun h1 e1 k => ?_) (sup_eval hst hpos)) (hi := by unfold PySem.interactive; rw [I.ok.kind]; rfl))
  have I1 : Inv X pins σ H { s with heap := h1, toks := s.toks } := I.kept k
  obtain ⟨t1, hx⟩ := L2.exo_at I1.hok ex
  have J := exo_inst hx
  have hI : PySem.W.Looks (model X.prog X.w) h1 (PySem.isInstance (.ref x) (.type "ValueError")) true := J.type.andThen (PySem.W.looks_subIn I1.kIn hB)
  have KX := I1.kIn
  obtain ⟨cd, hc, hal⟩ := Option.bind_eq_some_iff.mp hm
  obtain ⟨hp, g, d, t, os⟩ := s
  refine PySem.W.kxs_getMethod PySem.W.kxs_ValueError e1 (PySem.W.looks_opaque KX S.opq) (l₀ := cd.mro) (fun A Q E s k q => wpAny_bind ((PySem.W.looks_clsIn KX hc) A _ E s k (wpAny_pure q))) rfl KX hal hI (PySem.W.ks_ne KX J hc) (by decide) ?_
  have I2 : Inv X ((h1.objs.size, kxs_mw "ValueError.__init__" x) :: pins) σ H ⟨h1.push (kxs_mw "ValueError.__init__" x), g, d, t + 1, os⟩ :=
    ClX.pin_new I1 (t' := t + 1) (fun _ _ z => Heap.get?_push_of_some _ z) (Nat.le_refl _) (Heap.get?_push_size h1 rfl) (fun v z => nomatch z)
  show wpAny _ _ (PySem.callWith p3 (.ref h1.objs.size) [] (PySem.backTo p3 (PySem.starEach [a1] X.env)) []) _ _ _
  have go := thn (ha.run p3 _ _ σ H _ I2 hq) (Q' := fun us s1 => PySem.W.KxsAt "ValueError.__init__" h1.objs.size x s1.heap ∧ wpAny (model X.prog X.w) X.A (PySem.call (.ref h1.objs.size) us) (fun _ s' => wpAt (model X.prog X.w) X.A (.func body X.env) (execs rest X.env) R X.xe s') X.xe s1)
    fun us s1 ⟨vs, H1, I3, r, hl, e3, n1⟩ => ⟨ClX.pin_at I3, mw_call T I3 e3 (by rw [← Vals.length r, PySem.sizeLine_eq]; omega) fun s2 J2 => hr s2 H1 J2 n1⟩
  rw [hst] at go ⊢
  exact PySem.W.kxs_callWith (i := "ValueError.__init__") (x := x) rfl (PySem.Calls.evalArgs_plain go)
theorem sup_own (hpos : (p2.endLine == p3.line) = true) {CXQ : CXT} {k : Nat} {g : Addr} {sp : Sp} (S : SupF X.prog X.K X.mg f D cc cda fd me) (Z : SupE X f cda cc me) (I : Inv X pins σ H s) (hσ : σ[0]? = some (some (.ref x))) (ex : H x = some (exo x C none)) (hsub : PySem.W.mroIn X.K C (.ref D) = some true)
    (hm : ks_superIn X.K C D "__init__" = some (some (.ref g))) (ht : PySem.W.typeIn X.K (.ref g) = some (.type "function")) (hf : PySem.W.fnIn X.K g = true) (F : FnR X.prog X.w X.K X.mg X.base CXQ k g sp) (hro : Room k X.A) (hp : L2.Passes CXQ X (fun _ _ _ => False))
    (ha : PA X [a1] ta) (hst : PySem.starEach [a1] X.env = [(false, eval a1 X.env)]) {N1 : Hp → Prop} (hq : ta σ H fun vs H1 => sp (.ref x :: vs) H1 (fun _ H2 => N1 H2) (fun _ _ _ => False))
    (hr : ∀ s' H1, Inv X pins σ H1 s' → N1 H1 → wpAt (model X.prog X.w) X.A (.func body X.env) (execs rest X.env) R X.xe s') :
    wpAt (model X.prog X.w) X.A (.func body X.env) (execs (.Expr (.Call (.Attribute (.Call (.Name "super" p0) [] [] p1) "__init__" p2) [a1] [] p3) p4 :: rest) X.env) R X.xe s := by
  refine PySem.ks_wpAt_execs_cons (PySem.ks_wpAt_Expr_any (PySem.ks_wpAt_MethodCall (sup_base S Z I hσ ex hsub (by decide) fun h1 e1 k => ?_) (sup_eval hst hpos)) (hi := by unfold PySem.interactive; rw [I.ok.kind]; rfl))
  have I1 : Inv X pins σ H { s with heap := h1, toks := s.toks } := I.kept k
  obtain ⟨t1, hx⟩ := L2.exo_at I1.hok ex
  have J := exo_inst hx
  have KX := I1.kIn
  obtain ⟨cd, hc, hal⟩ := Option.bind_eq_some_iff.mp hm
  obtain ⟨of, hof, hofc⟩ : ∃ of, h1.get? g = some of ∧ of.cls = .type "function" := by
    have ht' : (X.K.lookup g).map (·.cls) = some (.type "function") := ht
    cases z : X.K.lookup g with
    | none => rw [z] at ht'; cases ht'
    | some o => rw [z] at ht'; exact ⟨o, KX _ _ z, Option.some.inj ht'⟩
  obtain ⟨hh, g', d, t, os⟩ := s
  refine PySem.ks_wpAny_getMethod_super e1 (PySem.W.looks_opaque KX S.opq) (l₀ := cd.mro) (fun A Q E s k q => wpAny_bind ((PySem.W.looks_clsIn KX hc) A _ E s k (wpAny_pure q))) rfl KX hal hof hofc (PySem.W.ks_ne KX J hc) (by decide) ?_
  have I2 := ClX.met_new (g := g) (C := x) I1
  show wpAny _ _ (PySem.callWith p3 (.ref h1.objs.size) [] (PySem.backTo p3 (PySem.starEach [a1] X.env)) []) _ _ _
  refine ClX.callwith_cm I2 (ClX.base_none I1 (Nat.le_refl _)) hf (thn (ha.run p3 _ _ σ H _ I2 hq) fun us s1 ⟨vs, H1, I3, r, q⟩ => ⟨⟨ClX.pin_at I3, I3.kIn⟩, ?_⟩) hst rfl
  exact thn (ClX.run_cm F hro hp I3 r q) fun u s2 ⟨v, H2, I4, _, n1⟩ => hr s2 H2 I4 n1
end
end Mp
namespace Mp
open PySem (Addr Value Obj Heap Shared Sem Expr Stmt Str Scope Env Pos Program World Around Args ClassData FuncData Arguments Arg Flow Tok DictEntry GenState Drawn OsState Code)
open PySem (wpAny codeAny wpAt model eval exec execs wpAny_bind wpAny_pure wpAny_call wpAny_load)
open L2 (V HO Hp upd upd_same upd_ne PE PA PS PSs Cx Inv TE TT TA TS VK XK WX RelV Vals AP EP SP Gl Sp Room Binds FnOk FnR Env0 OexC exo exd thn Ends CXT CR CE)
open PySem.W (ksEnv ksFn ks_superObj ks_superIn kxs_mw methodObj)
/-- the context of such a def's body -/
def cxS (Cq : CXT) (P : Program) (w : World) (K : PySem.W.Frag) (mg : Str → Option Value) (base : Heap) (N : List Str) (qual : Str) (sc : Scope) (f cda cc : Addr) (A : Around) (outer : List Env) (s : Shared) (H : Hp) (E : XK) : Cx :=
  { prog := P, w := w, K := K, mg := mg, base := base, A := A.deeper (ksEnv qual sc s.heap.objs.size f (.ref cda) cc), N := N, s_0 := s, H_0 := H, env := ksEnv qual sc s.heap.objs.size f (.ref cda) cc, outer := outer,
    stack := ksEnv qual sc s.heap.objs.size f (.ref cda) cc :: outer, ex := [], calm := true, fn := fun _ => false, pn := [],
    xe := fun e s1 => wpAny (model P w) (A.deeper (ksEnv qual sc s.heap.objs.size f (.ref cda) cc)) (PySem.leaving (ksEnv qual sc s.heap.objs.size f (.ref cda) cc) e) (fun _ s2 => Cq outer H s E e s2) (fun e2 s2 => Cq outer H s E e2 s2) s1 }
/-- how its scope must be -/
structure SupS (N : List Str) (sc : Scope) : Prop where
  kind : sc.kind = .function
  co : sc.isCoroutine = false
  gen : sc.isGenerator = false
  nd : N.Nodup
  par : ∀ x ∈ N, sc.names.lookup x = some .local
  nocell : ∀ y ∈ sc.names, y.2 ≠ .cell
  free : ∀ y ∈ sc.names, y.2 = .free → y.1 = "__class__"
theorem look_mem : ∀ {l : List (Str × Value)} {x : Str} {u : Value}, (l.map Prod.fst).Nodup → (x, u) ∈ l → l.lookup x = some u
  | (y, v) :: l, x, u, nd, h => by
    rw [List.map_cons, List.nodup_cons] at nd
    by_cases e : x = y
    · subst e
      rcases List.mem_cons.mp h with h | h
      · cases h; simp [List.lookup]
      · exact absurd (List.mem_map_of_mem h) nd.1
    · have hne : (x == y) = false := by simpa using e
      rw [List.lookup_cons, hne]
      rcases List.mem_cons.mp h with h | h
      · cases h; exact absurd rfl e
      · exact look_mem nd.2 h
theorem zip_look {N : List Str} {us : List Value} (nd : N.Nodup) (hl : us.length = N.length) {i : Nat} {x : Str} {u : Value} (h1 : N[i]? = some x) (h2 : us[i]? = some u) : (N.zip us).reverse.lookup x = some u := by
  refine look_mem ?_ (List.mem_reverse.mpr ?_)
  · rw [List.map_reverse, List.map_fst_zip (by omega)]
    exact List.pairwise_reverse.mpr (nd.imp fun h z => h z.symm)
  · refine List.mem_iff_getElem?.mpr ⟨i, ?_⟩
    rw [List.getElem?_zip_eq_some]
    exact ⟨h1, h2⟩
theorem inv_sup {Cq : CXT} {P : Program} {w : World} {K : PySem.W.Frag} {mg : Str → Option Value} {base h1 : Heap} {N : List Str} {qual : Str} {sc : Scope} {f cda cc : Addr} {A : Around} {outer : List Env} {s : Shared} {H : Hp} {E : XK} {us : List Value} {vs : List V} {tk : Nat}
    (S : SupS N sc) (hd : A.handled = none) (e0 : Env0 P w K mg base A outer s H) (hl : vs.length = N.length) (r : Vals vs us) {oc : Value} {od : Option Addr} {uu : Option Value} {osl : Array (Option Value)} (hcc : K.lookup cc = some ⟨oc, od, .cell uu, osl⟩)
    (hns : h1.Ns s.heap.objs.size fun x => (N.zip us).reverse.lookup x) (hk : ∀ b o, s.heap.get? b = some o → h1.get? b = some o) :
    Inv (cxS Cq P w K mg base N qual sc f cda cc A outer s H E) [] (L2.start N vs) H { s with heap := h1, toks := tk } := by
  have kb := e0.mod.kin _ _ hcc
  have celled : ∀ x c, (cxS Cq P w K mg base N qual sc f cda cc A outer s H E).env.cells.lookup x = some c → x = "__class__" ∧ c = cc := fun x c h => by
    have h : List.lookup x [(("__class__" : Str), cc)] = some c := h
    by_cases e : x = "__class__"
    · subst e; simp [List.lookup] at h; exact ⟨rfl, h.symm⟩
    · have hne : (x == ("__class__" : Str)) = false := by simpa using e
      rw [List.lookup_cons, hne] at h; cases h
  have noA : ∀ b : Addr, b ∉ (cxS Cq P w K mg base N qual sc f cda cc A outer s H E).ex := fun b z => absurd (show b ∈ ([] : List Addr) from z) (by simp)
  refine ⟨⟨e0.mod, S.kind, rfl, rfl, Nat.le_refl _, fun y z c h1 h2 => (celled y c h1).1.trans (celled z c h2).1.symm, fun y hy => ?_, fun y c h _ => (nomatch h), fun _ => hd, PySem.Around.frames_deeper e0.frames, .inr ⟨rfl, rfl⟩, fun b z => absurd z (noA b), e0.bs, e0.bsz, fun b _ _ => noA b, fun b z => absurd z (noA b), e0.funs, e0.frf⟩,
    rfl, e0.bare, L2.Un.kept hk, ⟨_, hns, fun i y v h1 h2 h3 => ?_⟩, fun y c h => ?_, e0.hok.fresh (Nat.le_refl _), fun y c h => ?_, fun p hp => absurd (show p ∈ ([] : List (Addr × Obj)) from hp) (by simp), e0.hok.kept hk, ?_⟩
  · have hy : sc.names.lookup y = some .cell ∨ sc.names.lookup y = some .free := hy
    rcases hy with hy | hy
    · exact absurd rfl (S.nocell _ (PySem.mem_of_lookup hy))
    · have e := S.free _ (PySem.mem_of_lookup hy) rfl
      refine ⟨cc, ?_⟩
      show List.lookup y [(("__class__" : Str), cc)] = some cc
      have e : y = "__class__" := e
      rw [e]; simp [List.lookup]
  · have hi : i < vs.length := by
      unfold L2.start at h2
      by_cases hi : i < vs.length
      · exact hi
      · rw [List.getElem?_append_right (by simpa using hi), List.getElem?_replicate] at h2
        split at h2 <;> cases h2
    have ha : vs[i]? = some v := by
      unfold L2.start at h2
      rw [List.getElem?_append_left (by simpa using hi), List.getElem?_map] at h2
      cases q : vs[i]? with
      | none => rw [q] at h2; cases h2
      | some a => rw [q] at h2; simpa using h2
    obtain ⟨u, hu, ru⟩ := r.get ha
    exact ⟨u, ru, .inl ⟨S.par y (List.mem_of_getElem? h1), zip_look S.nd (by rw [← Vals.length r]; exact hl) h1 hu⟩⟩
  · obtain ⟨_, rfl⟩ := celled y c h
    exact ⟨uu, _, hk _ _ (e0.bs _ _ kb).1, rfl⟩
  · obtain ⟨_, rfl⟩ := celled y c h
    exact (e0.bs _ _ kb).2
  · show (L2.start N vs).length = N.length
    unfold L2.start
    rw [List.length_append, List.length_map, List.length_replicate]
    omega
/-- a def that closes over __class__, by its body -/
theorem fn_sup {Cq : CXT} {P : Program} {w : World} {K : PySem.W.Frag} {mg : Str → Option Value} {base : Heap} {k : Nat} {f cda cc D : Addr} {name qual me : Str} {params : Arguments} {body : List Stmt} {sc : Scope} {dV kV doc pm ct : Value} {an : Option Addr} {N : List Str} {sp : Sp}
    (F : SupF P K mg f D cc cda (ksFn name qual params body sc dV kV doc pm an (.ref cda) ct cc) me) (hcd : PySem.W.codeIn K (.ref cda) qual = true) (S : SupS N sc) (len : ∀ vs H Q E, sp vs H Q E → vs.length = N.length)
    (hbody : ∀ (A : Around) (outer : List Env) (s s1 : Shared) (H : Hp) (vs : List V) (Q : VK) (E : XK), Room k (cxS Cq P w K mg base N qual sc f cda cc A outer s H E).A → sp vs H Q E → Inv (cxS Cq P w K mg base N qual sc f cda cc A outer s H E) [] (L2.start N vs) H s1 →
      wpAt (model P w) (cxS Cq P w K mg base N qual sc f cda cc A outer s H E).A (.func body (cxS Cq P w K mg base N qual sc f cda cc A outer s H E).env) (execs body (cxS Cq P w K mg base N qual sc f cda cc A outer s H E).env)
        (SP (cxS Cq P w K mg base N qual sc f cda cc A outer s H E) [] { nx := fun _ H' => Q .non H', rt := Q }) (cxS Cq P w K mg base N qual sc f cda cc A outer s H E).xe s1) :
    FnOk P w K mg base Cq (k + 1) f (ksFn name qual params body sc dV kV doc pm an (.ref cda) ct cc) N sp := by
  refine ⟨len, fun A outer s H args us vs Q E hr e0 hb r hsp => ?_⟩
  have hl := len _ _ _ _ hsp
  have KX : K.In s.heap := e0.mod.kin.keeps fun b o e => (e0.bs b o e).1
  obtain ⟨oc, od, osl, hlk⟩ := F.lk
  obtain ⟨cl, cld, csl, hce⟩ := F.cell
  refine PySem.ks_codeAny_call_defAt (fd := ksFn name qual params body sc dV kV doc pm an (.ref cda) ct cc) (body := body) (binds := N.zip us) hr.depth (KX _ _ hlk) rfl (e0.mod.nolimit.keeps fun b o e => (e0.bs b o e).1) (PySem.W.codeRec_of KX hcd) rfl hb S.nocell (fun y hy => ?_) (fun h1 hns hk => ?_) S.co S.gen S.kind
  · obtain ⟨n, v⟩ := y
    exact S.par n (List.of_mem_zip hy).1
  · have I := inv_sup (Cq := Cq) (E := E) (qual := qual) (f := f) (cda := cda) (tk := s.toks + (N.zip us).length) S hr.hd e0 hl r hce hns hk
    refine PySem.ks_wpAt_mono (hbody A outer s _ H vs Q E (hr.deeper _) hsp I) (fun fl s' hs => ?_) fun e s' hs => hs
    have fin : ∀ {σ' : L2.St} {H' : Hp} {v : V} {u : Value}, Inv (cxS Cq P w K mg base N qual sc f cda cc A outer s H E) [] σ' H' s' → RelV v u → Q v H' → CE outer P w H s Q u s' :=
      fun {σ' H' v u} J rv q => ⟨v, H', J.os, J.bare, J.base, J.hok, rv, q⟩
    cases fl with
    | ret u =>
      obtain ⟨v, σ', H', J, rv, q⟩ := hs
      exact fin J rv q
    | next =>
      obtain ⟨σ', H', J, q⟩ := hs
      exact fin (v := V.non) (u := Value.none) J rfl q
    | brk =>
      obtain ⟨_, _, _, q⟩ := hs
      exact False.elim q
    | cont =>
      obtain ⟨_, _, _, q⟩ := hs
      exact False.elim q
end Mp

/-! Mp: the inits of own exceptions; making one. -/
namespace Mp
open PySem (Addr Value Obj Heap Shared Sem Expr Stmt Str Scope Env Pos Program World Around Args ClassData FuncData Arguments Arg Flow Tok DictEntry GenState Drawn OsState Code)
open PySem (wpAny codeAny wpAt model eval exec execs wpAny_bind wpAny_pure wpAny_call wpAny_load)
open L2 (V HO Hp upd upd_same upd_ne PE PA PS PSs Cx Inv TE TT TA TS VK XK WX RelV Vals AP EP SP Gl Sp Room Binds FnOk FnR Env0 OexC exo exd thn Ends CXT CR CE Un HOk del PMk)
open PySem.W (ksEnv ksFn ks_superObj ks_superIn kxs_mw methodObj)

def vsB (sc : Scope) (x : Str) : Bool := match sc.names.lookup x with
  | some .local => true
  | _ => false
def ndB (x : Str) : Bool := !(x == ("__debug__" : Str)) && !(x == ("__classdict__" : Str)) && !decide (x = "__name__")
/-- super().__init__(e): e a parameter, or a text -/
def supStB (N : List Str) (sc : Scope) (i : Option Nat) : Stmt → Bool
  | .Expr (.Call (.Attribute (.Call (.Name y _) [] [] _) z p2) [a1] [] p3) _ => decide (y = "super") && decide (z = "__init__") && (p2.endLine == p3.line) && (match i, a1 with
    | some j, .Name x _ => decide (N[j]? = some x) && vsB sc x && ndB x
    | none, .Constant (.str _) _ _ => true
    | _, _ => false)
  | _ => false
/-- self.f = y, for fields and parameters -/
def fldsB (N : List Str) (sc : Scope) : List (Str × Nat) → List Stmt → Bool
  | [], [] => true
  | (f, i) :: fl, .Assign [.Attribute (.Name x _) g _] (.Name y _) _ :: r => decide (g = f) && decide (N[0]? = some x) && vsB sc x && ndB x && decide (N[i]? = some y) && vsB sc y && ndB y && fldsB N sc fl r
  | _, _ => false
def tFl (K : PySem.W.Frag) : List (Str × Nat) → TS
  | [] => fun D σ H => D.nx σ H
  | (f, i) :: r => L2.tSeq (L2.tOst K f (L2.tVar 0) (L2.tVar i)) (tFl K r)
section
variable {X : Cx} {N : List Str} {sc : Scope}
theorem flds_pss (hN : X.N = N) (hv : ∀ x, vsB sc x = true → L2.Vis X.env.scope x) : ∀ {fl : List (Str × Nat)} {r : List Stmt}, fldsB N sc fl r = true → PSs X r (tFl X.K fl)
  | [], [], _ => L2.pss_nil
  | (f, i) :: fl, st :: r, h => by
    unfold fldsB at h
    split at h
    · rename_i h1 h2; cases h1
    · rename_i f' i' fl' x px g pg y py pos r' h1 h2
      cases h1; cases h2
      simp only [Bool.and_eq_true, decide_eq_true_eq] at h
      obtain ⟨⟨⟨⟨⟨⟨⟨rfl, a1⟩, a2⟩, a3⟩, b1⟩, b2⟩, b3⟩, hr⟩ := h
      unfold ndB at a3 b3
      simp only [Bool.and_eq_true, Bool.not_eq_true', decide_eq_false_iff_not] at a3 b3
      exact L2.pss_cons (L2.ps_ost (L2.pe_var (by rw [hN]; exact a1) (hv x a2) a3.1.1 a3.1.2) (L2.pe_var (by rw [hN]; exact b1) (hv y b2) b3.1.1 b3.1.2)) (flds_pss hN hv hr)
    · cases h
  | [], _ :: _, h => by simp [fldsB] at h
  | _ :: _, [], h => by simp [fldsB] at h
end
/-- the fields behind the stores, the last one first -/
def fsOf (vs : List V) : List (Str × Nat) → List (Str × V) → List (Str × V)
  | [], acc => acc
  | (f, i) :: r, acc => fsOf vs r ((f, vs.getD i .non) :: acc)
section
variable {K : PySem.W.Frag} {a C d : Addr} {vs : List V} {σ : L2.St} {D : Ends}
theorem fl_later (T : OexC K C) (hda : d ≠ a) : ∀ {fl : List (Str × Nat)} {fs : List (Str × V)} {H : Hp}, (∀ p ∈ fl, PySem.W.findIn K (.ref C) p.1 = some none ∧ ∃ v, σ[p.2]? = some (some v) ∧ vs.getD p.2 .non = v) → σ[0]? = some (some (.ref a)) → fs.length + fl.length ≤ 900 →
    H a = some (exo a C (some d)) → H d = some (exd d fs) → (∀ H', H' a = some (exo a C (some d)) → H' d = some (exd d (fsOf vs fl fs)) → (∀ b, b ≠ a → b ≠ d → H' b = H b) → D.nx σ H') → tFl K fl D σ H
  | [], fs, H, _, _, _, h1, h2, h => h H h1 h2 fun _ _ _ => rfl
  | (f, i) :: fl, fs, H, hf, h0, hl, h1, h2, h => by
    obtain ⟨q1, v, q2, q3⟩ := hf (f, i) List.mem_cons_self
    simp only [List.length_cons] at hl
    refine ⟨v, q2, .ref a, h0, a, C, rfl, T, q1, .inr ⟨d, fs, h1, h2, by omega, ?_⟩⟩
    refine fl_later T hda (fun p hp => hf p (List.mem_cons_of_mem _ hp)) h0 (by simp only [List.length_cons]; omega) (by rw [upd_ne (Ne.symm hda)]; exact h1) upd_same fun H' e1 e2 e3 => ?_
    refine h H' e1 (e2.trans (by show _ = some (exd d (fsOf vs fl ((f, vs.getD i .non) :: fs))); rw [q3])) fun b n1 n2 => ?_
    rw [e3 b n1 n2, upd_ne n2]
theorem fl_all (T : OexC K C) {f : Str} {i : Nat} {fl : List (Str × Nat)} {H : Hp} (hf : ∀ p ∈ (f, i) :: fl, PySem.W.findIn K (.ref C) p.1 = some none ∧ ∃ v, σ[p.2]? = some (some v) ∧ vs.getD p.2 .non = v) (h0 : σ[0]? = some (some (.ref a))) (hl : fl.length ≤ 800) (h1 : H a = some (exo a C none))
    (h : ∀ d H', H d = none → d ≠ a → H' a = some (exo a C (some d)) → H' d = some (exd d (fsOf vs ((f, i) :: fl) [])) → (∀ b, b ≠ a → b ≠ d → H' b = H b) → D.nx σ H') : tFl K ((f, i) :: fl) D σ H := by
  obtain ⟨q1, v, q2, q3⟩ := hf (f, i) List.mem_cons_self
  refine ⟨v, q2, .ref a, h0, a, C, rfl, T, q1, .inl ⟨h1, fun d hd hda => ?_⟩⟩
  refine fl_later (d := d) (fs := [(f, v)]) T hda (fun p hp => hf p (List.mem_cons_of_mem _ hp)) h0 (by show 1 + fl.length ≤ 900; omega) upd_same (by rw [upd_ne hda, upd_same]) fun H' e1 e2 e3 => ?_
  refine h d H' hd hda e1 (e2.trans (by show _ = some (exd d (fsOf vs fl [(f, vs.getD i .non)])); rw [q3])) fun b n1 n2 => ?_
  rw [e3 b n1 n2, upd_ne n1, upd_ne n2]
end
/-- such an init as it stands behind the top: me, then the parameters; super's argument; the fields -/
structure InitB (P : Program) (K : PySem.W.Frag) (mg : Str → Option Value) (D : Addr) (N : List Str) (i : Option Nat) (fl : List (Str × Nat)) (f : Addr) (fd : FuncData) : Prop where
  ex : ∃ (name qual me : Str) (params : Arguments) (s0 : Stmt) (rest : List Stmt) (sc : Scope) (dV kV doc pm ct : Value) (an : Option Addr) (cda cc : Addr), fd = ksFn name qual params (s0 :: rest) sc dV kV doc pm an (.ref cda) ct cc ∧ SupF P K mg f D cc cda fd me ∧
    PySem.W.codeIn K (.ref cda) qual = true ∧ SupS N sc ∧ supStB N sc i s0 = true ∧ fldsB N sc fl rest = true ∧ sc.names.lookup ("super" : Str) = some .globalImplicit ∧ sc.names.lookup ("__class__" : Str) = some .free ∧ N[0]? = some me
/-- what the class at C, an instance of the class at D, must say -/
structure SubC (K : PySem.W.Frag) (C D : Addr) (nx : Value) : Prop where
  oex : OexC K C
  sub : PySem.W.mroIn K C (.ref D) = some true
  nx : ks_superIn K C D "__init__" = some (some nx)
def spGE (K : PySem.W.Frag) (D : Addr) : Sp := fun vs H Q E => ∃ (a C : Addr) (y : V), vs = [.ref a, y] ∧ SubC K C D (.builtin "ValueError.__init__") ∧ PySem.W.subIn K (.ref C) (.type "ValueError") = some true ∧ H a = some (exo a C none) ∧ Q .non H
def spFL (K : PySem.W.Frag) (D g G : Addr) (n : Nat) (fl : List (Str × Nat)) : Sp := fun vs H Q E => vs.length = n ∧ ∃ (a C : Addr), vs[0]? = some (.ref a) ∧ SubC K C D (.ref g) ∧ SubC K C G (.builtin "ValueError.__init__") ∧ PySem.W.subIn K (.ref C) (.type "ValueError") = some true ∧
  (∀ p ∈ fl, PySem.W.findIn K (.ref C) p.1 = some none) ∧ H a = some (exo a C none) ∧ ∀ d H', H d = none → d ≠ a → H' a = some (exo a C (some d)) → H' d = some (exd d (fsOf vs fl [])) → (∀ b, b ≠ a → b ≠ d → H' b = H b) → Q .non H'
theorem start_get {N : List Str} {vs : List V} {i : Nat} {v : V} (h : vs[i]? = some v) : (L2.start N vs)[i]? = some (some v) := by
  have hi : i < vs.length := (List.getElem?_eq_some_iff.mp h).1
  unfold L2.start
  rw [List.getElem?_append_left (by simpa using hi), List.getElem?_map, h]
  rfl
section
variable {Cq : CXT} {P : Program} {w : World} {K : PySem.W.Frag} {mg : Str → Option Value} {base : Heap} {f D g G : Addr} {fd gd : FuncData} {N : List Str} {fl : List (Str × Nat)} {i : Option Nat}
theorem vs_vis {X : Cx} {sc : Scope} (e : X.env.scope = sc) (x : Str) (h : vsB sc x = true) : L2.Vis X.env.scope x := by
  unfold vsB at h
  split at h
  · rename_i q; rw [e]; exact .inl q
  · cases h
/-- super's argument is read -/
theorem sup_arg {X : Cx} {sc : Scope} {a1 : Expr} (hN : X.N = N) (hs : X.env.scope = sc) {st : Stmt} {p0 p1 p2 p3 p4 : Pos} {y z : Str} (h : supStB N sc i (.Expr (.Call (.Attribute (.Call (.Name y p0) [] [] p1) z p2) [a1] [] p3) p4) = true) :
    y = "super" ∧ z = "__init__" ∧ (p2.endLine == p3.line) = true ∧ PySem.starEach [a1] X.env = [(false, eval a1 X.env)] ∧ ∃ ta, PA X [a1] ta ∧ ∀ (vs : List V) (σ : L2.St) (H : Hp) (Q : List V → Hp → Prop), (∀ j, i = some j → ∃ v, σ[j]? = some (some v)) → (∀ v, Q [v] H) → ta σ H Q := by
  simp only [supStB, Bool.and_eq_true, decide_eq_true_eq] at h
  obtain ⟨⟨⟨h1, h2⟩, h3⟩, h4⟩ := h
  refine ⟨h1, h2, h3, ?_⟩
  split at h4
  · rename_i j x px
    simp only [Bool.and_eq_true, decide_eq_true_eq] at h4
    obtain ⟨⟨a1, a2⟩, a3⟩ := h4
    unfold ndB at a3
    simp only [Bool.and_eq_true, Bool.not_eq_true', decide_eq_false_iff_not] at a3
    refine ⟨rfl, _, L2.pa_cons (L2.pe_var (by rw [hN]; exact a1) (vs_vis hs x a2) a3.1.1 a3.1.2) L2.pa_nil rfl, fun vs σ H Q hj hq => ?_⟩
    obtain ⟨v, hv⟩ := hj j rfl
    exact ⟨v, hv, hq v⟩
  · exact ⟨rfl, _, L2.pa_cons L2.pe_str L2.pa_nil rfl, fun vs σ H Q hj hq => hq _⟩
  · cases h4
theorem sup_shape {sc : Scope} {s0 : Stmt} (h : supStB N sc i s0 = true) : ∃ y z p0 p1 p2 p3 p4 a1, s0 = .Expr (.Call (.Attribute (.Call (.Name y p0) [] [] p1) z p2) [a1] [] p3) p4 := by
  unfold supStB at h
  split at h
  · exact ⟨_, _, _, _, _, _, _, _, rfl⟩
  · cases h
theorem ge_ok (B : InitB P K mg D N i [] f fd) (h2 : N.length = 2) (hi : ∀ j, i = some j → j < 2) : FnOk P w K mg base Cq 1 f fd N (spGE K D) := by
  obtain ⟨name, qual, me, params, s0, rest, sc, dV, kV, doc, pm, ct, an, cda, cc, rfl, F, hcd, S, b1, b2, l1, l2, n0⟩ := B.ex
  refine fn_sup F hcd S (fun vs H Q E h => ?_) fun A outer s s1 H vs Q E hr h I => ?_
  · obtain ⟨a, C, y, rfl, _⟩ := h
    exact h2.symm
  · obtain ⟨a, C, y, rfl, T, hB, ha, q⟩ := h
    obtain ⟨y0, z0, p0, p1, p2, p3, p4, a1, rfl⟩ := sup_shape b1
    obtain ⟨rfl, rfl, hpos, hst, ta, hta, hq⟩ := sup_arg (X := cxS Cq P w K mg base N qual sc f cda cc A outer s H E) rfl rfl (st := .Pass p0) b1
    have Z : SupE (cxS Cq P w K mg base N qual sc f cda cc A outer s H E) f cda cc me := ⟨rfl, rfl, rfl, l1, l2, n0, S.par me (List.mem_of_getElem? n0)⟩
    have hrest : rest = [] := by
      cases rest with
      | nil => rfl
      | cons a b => simp [fldsB] at b2
    subst hrest
    refine sup_blt hpos F Z T.oex I (start_get rfl) ha T.sub T.nx hB hta hst (N1 := fun H1 => H1 = H) (hq [] _ _ _ (fun j hj => ?_) fun v => ⟨by simp, ha, rfl⟩) fun s' H1 J e => ?_
    · have := hi j hj
      match j, this with
      | 0, _ => exact ⟨_, start_get rfl⟩
      | 1, _ => exact ⟨_, start_get rfl⟩
    · subst e
      exact PySem.wpAt_of_wpAny (PySem.wpAny_execs_nil ⟨_, _, J, q⟩)
theorem fl_ok (B : InitB P K mg D N i fl f fd) (Bg : InitB P K mg G [(N.getD 0 ""), "message"] (some 1) [] g gd) (hbg : L2.Binds K gd [(N.getD 0 ""), "message"] []) (tg : PySem.W.typeIn K (.ref g) = some (.type "function")) (fg : PySem.W.fnIn K g = true) (hi : ∀ j, i = some j → j < N.length) (hfl : ∀ p ∈ fl, p.2 < N.length) (hl : fl.length ≤ 800) (hne : fl ≠ [])
    (hp : ∀ (A : Around) (outer : List Env) (s : Shared) (H : Hp) (E : XK) (qual : Str) (sc : Scope) (cda cc : Addr), L2.Passes Cq (cxS Cq P w K mg base N qual sc f cda cc A outer s H E) (fun _ _ _ => False)) : FnOk P w K mg base Cq 2 f fd N (spFL K D g G N.length fl) := by
  obtain ⟨name, qual, me, params, s0, rest, sc, dV, kV, doc, pm, ct, an, cda, cc, rfl, F, hcd, S, b1, b2, l1, l2, n0⟩ := B.ex
  refine fn_sup F hcd S (fun vs H Q E h => h.1) fun A outer s s1 H vs Q E hr h I => ?_
  obtain ⟨hlen, a, C, v0, T, TG, hB, hno, ha, q⟩ := h
  obtain ⟨y0, z0, p0, p1, p2, p3, p4, a1, rfl⟩ := sup_shape b1
  obtain ⟨rfl, rfl, hpos, hst, ta, hta, hq⟩ := sup_arg (X := cxS Cq P w K mg base N qual sc f cda cc A outer s H E) rfl rfl (st := .Pass p0) b1
  have Z : SupE (cxS Cq P w K mg base N qual sc f cda cc A outer s H E) f cda cc me := ⟨rfl, rfl, rfl, l1, l2, n0, S.par me (List.mem_of_getElem? n0)⟩
  have gok : FnOk P w K mg base Cq 1 g gd [(N.getD 0 ""), "message"] (spGE K G) := ge_ok Bg rfl fun j hj => by cases hj; decide
  have gR := gok.raw hbg .nil
  have at_ : ∀ {j : Nat}, j < N.length → ∃ v, (L2.start N vs)[j]? = some (some v) ∧ vs.getD j .non = v := fun {j} hj => by
    have : j < vs.length := by rw [hlen]; exact hj
    exact ⟨vs[j], start_get (List.getElem?_eq_getElem this), by simp [List.getD, List.getElem?_eq_getElem this]⟩
  refine sup_own (k := 1) hpos F Z I (start_get v0) ha T.sub T.nx tg fg gR hr (hp _ _ _ _ _ _ _ _ _) hta hst (N1 := fun H1 => H1 = H) (hq [] _ _ _ (fun j hj => ?_) fun v => ?_) fun s' H1 J e => ?_
  · obtain ⟨v, h, _⟩ := at_ (hi j hj)
    exact ⟨v, h⟩
  · exact ⟨a, C, v, rfl, TG, hB, ha, rfl⟩
  · subst e
    have PR : PSs (cxS Cq P w K mg base N qual sc f cda cc A outer s H1 E) rest (tFl K fl) := flds_pss (X := cxS Cq P w K mg base N qual sc f cda cc A outer s H1 E) rfl (fun x h => vs_vis rfl x h) b2
    refine PySem.wpAt_of_wpAny (PR.run [] s' _ H1 _ J ?_)
    cases fl with
    | nil => exact absurd rfl hne
    | cons p fl =>
      obtain ⟨f1, i1⟩ := p
      refine fl_all (a := a) (C := C) (vs := vs) T.oex (fun p hp => ?_) (start_get v0) (by simp only [List.length_cons] at hl; omega) ha fun d H' e1 e2 e3 e4 e5 => q d H' e1 e2 e3 e4 e5
      obtain ⟨v, h1, h2⟩ := at_ (hfl p hp)
      exact ⟨hno p hp, v, h1, h2⟩
end
/-! ### the exception made, as HandS's raise wants it -/
section
variable {X : Cx} {pins : List (Addr × Obj)} {σ : L2.St} {H1 : Hp} {hp hp2 h2 : Heap} {g1 g2 : Array GenState} {d1 d2 : Drawn} {t1 t2 : Nat} {os1 os2 : OsState} {a C : Addr}
/-- the end of C(e, ..) where no field is stored -/
theorem mk_plain (I1 : Inv X pins σ H1 ⟨hp, g1, d1, t1, os1⟩) (ha : hp.objs.size ≤ a) (k : ∀ b o, hp.get? b = some o → hp2.get? b = some o) (un : Un (L2.frs X.stack) [] (upd H1 a (exo a C none)) (upd H1 a (exo a C none)) hp2 h2)
    (hok : HOk X.prog X.w (upd H1 a (exo a C none)) h2) (ho : os2 = os1) (hb : PyProof.Rows.AllBare g2) :
    ∃ (t0 : Addr) (G : Heap), Inv X pins σ H1 ⟨G, g2, d2, t2, os2⟩ ∧ (∀ b o, G.get? b = some o → h2.get? b = some o) ∧ G.get? a = none ∧ h2.get? a = some (PySem.HandSPX.excO C t0) := by
  obtain ⟨t0, hoe⟩ := L2.exo_at hok upd_same
  have n1 : H1 a = none := I1.hok.fresh ha
  obtain ⟨G, q1, q2⟩ := L2.restrict h2 fun b => decide (b ≠ a)
  have same : ∀ b, b ≠ a → G.get? b = h2.get? b := fun b hb => q1 b (decide_eq_true hb)
  have gone : G.get? a = none := q2 a (by simp)
  have old : ∀ {b : Addr} {o : Obj}, hp.get? b = some o → b ≠ a := fun {b o} z => Nat.ne_of_lt (Nat.lt_of_lt_of_le (Heap.lt_size z) ha)
  have lift : ∀ {b : Addr}, b ≠ a → H1 b = none → upd H1 a (exo a C none) b = none := fun {b} hb n => (upd_ne hb).trans n
  have back : ∀ {b : Addr} {o : HO}, H1 b = some o → b ≠ a := fun {b o} z => L2.ne_of_none z n1
  have W1 : Un (L2.frs X.stack) [] H1 H1 hp G := {
    keep := fun b o z n hf hx => (same b (old z)).trans (un.keep b o (k b o z) (lift (old z) n) hf hx)
    slot := fun b o z n hf hx => by
      rw [same b (old z)]
      exact un.slot b o (k b o z) (lift (old z) n) hf hx
    free := fun b o z n hx => n
    there := fun b o z hx => by
      rw [same b (old z)]
      exact un.there b o (k b o z) hx
    tups := fun b xs z => z
    frzs := fun b o v z => z
    tbls := fun b ps z => ⟨#[], by rw [z]; simp⟩ }
  have okG : HOk X.prog X.w H1 G := fun b o z => by
    have hba := back z
    have z2 : upd H1 a (exo a C none) b = some o := (upd_ne hba).trans z
    exact (hok b o z2).stay (fun c v hc y => by
        have hca : c ≠ a := by
          rcases hc with hc | hc
          · rw [hc]; exact hba
          · exact L2.at_ne upd_same hc L2.exo_own
        rw [same c hca]
        exact y)
      (fun c hc => by rw [upd_ne (L2.at_ne upd_same hc L2.exo_own)] at hc; exact hc) (fun c xs hc => by rw [upd_ne (L2.at_ne upd_same hc L2.exo_tup)] at hc; exact hc)
  exact ⟨t0, G, I1.call' (ch := []) ho W1 okG hb (fun b z => absurd z (by simp)), fun b o z => by
    by_cases hba : b = a
    · rw [hba, gone] at z; cases z
    · exact (same b hba).symm.trans z, gone, hoe⟩
end
def tMkG (C : Addr) (sp : Sp) (ta : TA) : L2.St → Hp → XK → Prop := fun σ H Q => ta σ H fun vs H1 => vs.length ≤ 1000 ∧ ∀ a, H1 a = none → sp (.ref a :: vs) (upd H1 a (exo a C none)) (fun v H2 => v = .non ∧ H2 = upd H1 a (exo a C none) ∧ Q (.ref C) none H1) (fun _ _ _ => False)
section
variable {X : Cx} {Cq : CXT} {nm : Str} {C fI : Addr} {k : Nat} {fd : FuncData} {ps : List Str} {sp : Sp} {e : Expr} {es : List Expr} {ta : TA} {p pos : Pos}
/-- C(e, ..): an own class over ValueError whose init stores no field -/
theorem pmk_plain (T : OexC X.K C) (iC : PySem.W.findIn X.K (.ref C) "__init__" = some (some (.ref fI))) (tI : PySem.W.typeIn X.K (.ref fI) = some (.type "function"))
    (F1 : FnR X.prog X.w X.K X.mg X.base Cq k fI sp) (hr : Room (k + 1) X.A) (hx : L2.Passes Cq X (fun _ _ _ => False)) (hg : Gl X nm) (hm : X.mg nm = some (.ref C)) (ha : PA X (e :: es) ta)
    (hdb : (nm == ("__debug__" : Str)) = false) (he : PySem.starEach (e :: es) X.env = (false, eval e X.env) :: PySem.starEach es X.env) (hpl : (PySem.backTo pos (PySem.starEach es X.env)).any (·.1) = false) :
    PMk X (.Call (.Name nm p) (e :: es) [] pos) (tMkG C sp ta) := by
  intro pins s σ H Q I h
  obtain ⟨cn, q, N, bs, bm, sn, sub, ab, col, dd, k0, k1, k2, k3, k5, hC, hbm⟩ := T.cls
  refine PySem.wpAny_Call_Name_kw (L2.ld_glob I hg hm ?_ hdb)
  refine PySem.W.callWith_K (h₀ := X.base) I.ok.mod.kin T.kC (thn (ha.run pos pins s σ H _ I h) fun us s1 ⟨vs, H1, I1, r1, hz, q1⟩ => ⟨I1.kIn, ?_⟩) he hpl
  show wpAny _ _ (PySem.call (.ref C) us) _ _ _
  obtain ⟨hp, g, dr, tk, os⟩ := s1
  have big : hp.objs.size ≤ hp.objs.size + 1 := Nat.le_succ _
  have hn : H1 (hp.objs.size + 1) = none := I1.hok.fresh big
  have hq := q1 (hp.objs.size + 1) hn
  have up : ∀ b o, hp.get? b = some o → ((hp.push (PySem.W.kdv_tup us)).push (PySem.HandSPX.excO C hp.objs.size)).get? b = some o := fun b o e => Heap.get?_push_of_some _ (Heap.get?_push_of_some _ e)
  have new : ((hp.push (PySem.W.kdv_tup us)).push (PySem.HandSPX.excO C hp.objs.size)).get? (hp.objs.size + 1) = some (PySem.HandSPX.excO C hp.objs.size) := by
    have := Heap.get?_push_size (hp.push (PySem.W.kdv_tup us)) (o := PySem.HandSPX.excO C hp.objs.size) rfl
    rw [Heap.size_push] at this
    exact this
  have I2 : Inv X pins σ (upd H1 (hp.objs.size + 1) (exo (hp.objs.size + 1) C none)) ⟨(hp.push (PySem.W.kdv_tup us)).push (PySem.HandSPX.excO C hp.objs.size), g, dr, tk, os⟩ :=
    I1.laid (t' := tk) up big (L2.exo_ok new)
  have r2 : Vals (V.ref (hp.objs.size + 1) :: vs) (Value.ref (hp.objs.size + 1) :: us) := .cons rfl r1
  have hus : us.length ≤ PySem.sizeLine := by
    rw [← Vals.length r1, PySem.sizeLine_eq]
    omega
  refine wpAny_call (PySem.HandSPX.call_own PySem.F.excBase_ValueError (fun Y => PySem.HandSPX.refsVE_contains Y bm hbm) (I1.kIn _ _ hC) (PySem.W.looks_findIn I1.kIn iC) (fun self => PySem.W.bind_fn I1.kIn self tI) hus
    (PySem.codeAny_mono (F1 _ X.stack _ _ (Value.ref (hp.objs.size + 1) :: us) _ _ (fun _ _ _ => False) (hr.make C us []) (I2.env0.make C us []) r2 hq) fun r s' hq' => ?_))
  cases r with
  | error er => exact hx pins σ _ _ er s' I2 hq'
  | ok fl =>
    cases fl with
    | ret u =>
      obtain ⟨v, H2, os2, bare2, un2, hok2, rv, ev, e2, q2⟩ := hq'
      subst ev e2
      obtain ⟨h2, g2, d2, t2, os'⟩ := s'
      obtain ⟨t0, G, J, kG, gone, hoe⟩ := mk_plain (d2 := d2) (t2 := t2) I1 big up un2 hok2 os2 bare2
      exact ⟨rv, _, _, _, ⟨G, g2, d2, t2, os'⟩, H1, .ref C, none, rfl, J, kG, gone, hoe, ⟨rfl, rfl⟩, rfl, rfl, hn, rfl, bare2, L2.raises_own T.exC T.tyC, q2⟩
    | next => exact False.elim hq'
    | brk => exact False.elim hq'
    | cont => exact False.elim hq'
end
end Mp

/-! Mp: try with several clauses, each with or without a name. -/
namespace Mp
open PySem (Addr Value Obj Heap Shared Sem Expr Stmt Str Scope Env Pos ExceptHandler Flow)
open PySem (wpAny codeAny model eval wpAny_bind wpAny_pure noteFrame setFlight handleBy wpAny_mono)
open L2 (V HO Hp PE PA PS PSs Cx Inv TE TS VK XK WX SP Ends Zc Names Takes St Sky)

/-- what a clause does: its class, its name's slot, its suite's reading -/
abbrev Cl := Value × Option Nat × (Addr → Value → Option Addr → TS)
inductive HdsA (X : Cx) : List ExceptHandler → List Cl → Prop
  | nil : HdsA X [] []
  | one {x : Str} {c : Value} {ts : Addr → Value → Option Addr → TS} {b0 : Stmt} {su : List Stmt} {np p : Pos} {hds : List ExceptHandler} {l : List Cl} (hc : Names X x c)
      (hs : ∀ (a : Addr) (oe : Obj) (cls : Value) (d : Option Addr) (pn : List (Addr × Obj)), Zc cls d oe → (∃ vs, oe.data = .fields vs) → PSs (X.suite a ((a, oe) :: pn)) (b0 :: su) (ts a cls d)) (r : HdsA X hds l) :
      HdsA X (.ExceptHandler (some (.Name x np)) none (b0 :: su) p :: hds) ((c, none, ts) :: l)
  | as {x n : Str} {i : Nat} {c : Value} {ts : Addr → Value → Option Addr → TS} {b0 : Stmt} {su : List Stmt} {np p : Pos} {hds : List ExceptHandler} {l : List Cl} (hc : Names X x c) (hi : X.N[i]? = some n) (hl : X.env.kindOf n = some .local)
      (hs : ∀ (a : Addr) (oe : Obj) (cls : Value) (d : Option Addr) (pn : List (Addr × Obj)), Zc cls d oe → (∃ vs, oe.data = .fields vs) → PSs (X.suite a ((a, oe) :: pn)) (b0 :: su) (ts a cls d)) (r : HdsA X hds l) :
      HdsA X (.ExceptHandler (some (.Name x np)) (some n) (b0 :: su) p :: hds) ((c, some i, ts) :: l)
def endsAs (D : Ends) : Option Nat → Ends
  | none => D
  | some i => { nx := fun τ G => D.nx (τ.set i none) G, rt := D.rt, bk := fun τ G => D.bk (τ.set i none) G, ct := fun τ G => D.ct (τ.set i none) G }
def setAs (a : Addr) (σ : St) : Option Nat → St
  | none => σ
  | some i => σ.set i (some (.ref a))
/-- what the clauses wish of an exception -/
def wCl (K : PySem.W.Frag) (Wo : WX) (D : Ends) : List Cl → WX
  | [] => Wo
  | (c, i, ts) :: r => fun cls d σ H => ∃ b, PySem.W.exmOne K cls c = some b ∧ (b = true → ∀ a, H a = none → ts a cls d (endsAs D i) (setAs a σ i) H) ∧ (b = false → wCl K Wo D r cls d σ H)
section
variable {X : Cx} {body : List Stmt} {h0 : ExceptHandler} {hds : List ExceptHandler} {l : List Cl} {pos : Pos} {tb : WX → TS} {Wo : WX}
theorem names_test {pins : List (Addr × Obj)} {σ : St} {H : Hp} {s : Shared} {a : Addr} {oe : Obj} {x : Str} {c : Value} {np : Pos} {pn : List (Addr × Obj)} (hc : Names X x c) (S : Inv (X.suite a ((a, oe) :: pn)) pins σ H s) {Q : Value → Shared → Prop} {E : Value → Shared → Prop} (q : Q c s) :
    wpAny (model X.prog X.w) (X.A.mark (some (.ref a))) (eval (.Name x np) X.env) Q E s := by
  obtain ⟨g1, g2, g3 | ⟨g3, g4, g5⟩⟩ := hc
  · exact L2.ld_glob (X := X.suite a ((a, oe) :: pn)) S g1 g3 q g2
  · exact L2.ld_blt (X := X.suite a ((a, oe) :: pn)) S g1 g3 g4 q g5 g2
theorem ps_tryA (hs : X.stack = X.env :: X.outer) (hf : X.env.frame = some X.env.locals) (hN : X.N.Nodup) (tk : Takes X Wo)
    (hb : ∀ (W : WX) (pn : List (Addr × Obj)) (xe : Value → Shared → Prop), Takes (X.tr pn xe) W → PySem.PassesOwn (model X.prog X.w) X.A X.env xe → PSs (X.tr pn xe) body (tb W))
    (hh : HdsA X (h0 :: hds) l) : PS X (.Try body (h0 :: hds) [] [] pos) (fun D σ H => tb (wCl X.K Wo D l) D σ H) := by
  refine ⟨fun pins s σ H D I h => ?_⟩
  have ok := I.ok
  have hfr : X.A.frames = some (X.env :: X.outer) := hs ▸ ok.frames
  refine PySem.wpAny_Try_except ?_
  refine wpAny_mono ((hb (wCl X.K Wo D l) (X.pn ++ pins) (fun e s1 => wpAny (model X.prog X.w) X.A (noteFrame e X.env)
    (fun _ s2 => wpAny (model X.prog X.w) X.A (setFlight e none) (fun _ s3 => wpAny (model X.prog X.w) X.A (handleBy e X.env (h0 :: hds)) (SP X pins D) X.xe s3) X.xe s2) X.xe s1)
    (fun u s' xx => ?_) PySem.PassesOwn.looking).run [] s σ H D (I.toTry _) h) (fun f s1 hsp => ?_) (fun e s1 he => he)
  · obtain ⟨a, B, sI, pins', τ, G, cls, d, rfl, J', nb, up, sky, na, os, ag, w⟩ := xx
    have J : Inv X pins τ G sI := J'.ofTry ok
    have sky2 : Sky B (X.env :: X.outer) a (Zc cls d) X.env.locals s'.heap := hs ▸ sky
    show wpAny (model X.prog X.w) X.A (noteFrame (.ref a) X.env) _ _ _
    refine Sky.land Zc.steady hfr hf sky2 fun h3 fl3 up3 => ?_
    have J3 : Inv X pins τ G { s' with heap := h3 } := J.landed nb fl3.1 (up.trans up3) os ag
    obtain ⟨oe3, vs3, he3, hz3, hd3⟩ := fl3.there
    have nfr : a ∉ L2.frs (X.env :: X.outer) := fun hm => by
      obtain ⟨_, o', e', hnf⟩ := fl3.2.2.1.mem hm
      rw [he3] at e'; cases e'
      exact hnf _ hd3
    have nL : a ≠ X.env.locals := fun z => nfr (List.mem_filterMap.mpr ⟨X.env, List.mem_cons_self, hf.trans (by rw [z])⟩)
    have nF : a ∉ X.fs := fun hm => by
      obtain ⟨e, he, q⟩ := List.mem_filterMap.mp hm
      exact nfr (List.mem_filterMap.mpr ⟨e, .tail _ he, q⟩)
    have S3 := J3.suite he3 hd3 na nL nF
    have LT : PySem.W.Looks (model X.prog X.w) h3 (PySem.typeOf (.ref a)) cls := fun A Q E s k q => PySem.wpAny_typeOf_ref (k _ _ he3) (by rw [hz3.1]; exact q)
    have go : ∀ {hs' : List ExceptHandler} {l' : List Cl}, HdsA X hs' l' → wCl X.K Wo D l' cls d τ G → wpAny (model X.prog X.w) X.A (handleBy (.ref a) X.env hs') (SP X pins D) X.xe { s' with heap := h3 } := by
      intro hs' l' hk
      induction hk with
      | nil =>
        intro w
        refine PySem.wpAny_handleBy_nil ?_
        obtain ⟨k1, k2, k3, oe, vs, T, oT, ts', he, hz, hd, h1, hr⟩ := id fl3
        unfold PySem.passOn
        refine wpAny_bind (PySem.wpAny_field he hd h1 ?_)
        rw [if_neg (show ¬ ((Value.ref T == Value.none) = true) from by simp)]
        have fin : wpAny (model X.prog X.w) X.A (setFlight (.ref a) X.env.frame) (fun _ s4 => wpAny (model X.prog X.w) X.A (throw (.ref a) : Sem Flow) (SP X pins D) X.xe s4) X.xe { s' with heap := h3 } := by
          rw [hf]
          exact PySem.HandSPX.setFlight_upZ fl3 fun h4 hh4 up4 => PySem.wpAny_throw (tk _ _ ⟨a, B, sI, pins, τ, G, cls, d, rfl, J, nb, (up.trans up3).trans up4, .inr (.inr (hs ▸ hh4)), na, os, ag, w⟩)
        first
          | exact wpAny_bind (wpAny_pure (wpAny_bind fin))
          | exact wpAny_bind fin
      | @one x c ts b0 su np p hds2 l2 hc hsu r ih =>
        intro w
        obtain ⟨b, hb1, hyes, hno⟩ := w
        refine PySem.wpAny_handleBy_cons (PySem.codeAny_handlers_test ?_) (by intro q; cases q)
        refine names_test hc S3 ((PySem.W.exm_one (M := model X.prog X.w) J3.kIn LT hb1).here ?_)
        cases b with
        | false =>
          show wpAny _ X.A (handleBy (.ref a) X.env hds2) _ _ _
          exact ih (hno rfl)
        | true =>
          refine PySem.codeAny_handlers_suite (PySem.HandSPX.lands_againZ fl3 fun h4 fl4 up4 => ?_)
          have J4 : Inv X pins τ G { s' with heap := h4 } := J.landed nb fl4.1 ((up.trans up3).trans up4) os ag
          obtain ⟨oe4, vs4, he4, hz4, hd4⟩ := fl4.there
          refine wpAny_mono ((hsu a oe4 cls d (X.pn ++ pins) hz4 ⟨_, hd4⟩).run [] _ _ G _ (J4.suite he4 hd4 na nL nF) (hyes rfl a na)) (fun f s6 hsp => ?_) (fun _ _ z => z.elim)
          cases f with
          | next => obtain ⟨τ6, G6, S6, q6⟩ := hsp; exact ⟨_, _, S6.unsuite ok, q6⟩
          | brk => obtain ⟨τ6, G6, S6, q6⟩ := hsp; exact ⟨_, _, S6.unsuite ok, q6⟩
          | cont => obtain ⟨τ6, G6, S6, q6⟩ := hsp; exact ⟨_, _, S6.unsuite ok, q6⟩
          | ret u => obtain ⟨v6, τ6, G6, S6, r6, q6⟩ := hsp; exact ⟨_, _, _, S6.unsuite ok, r6, q6⟩
      | @as x n i c ts b0 su np p hds2 l2 hc hi hl hsu r ih =>
        intro w
        obtain ⟨b, hb1, hyes, hno⟩ := w
        refine PySem.wpAny_handleBy_cons (PySem.codeAny_handlers_test ?_) (by intro q; cases q)
        refine names_test hc S3 ((PySem.W.exm_one (M := model X.prog X.w) J3.kIn LT hb1).here ?_)
        cases b with
        | false =>
          show wpAny _ X.A (handleBy (.ref a) X.env hds2) _ _ _
          exact ih (hno rfl)
        | true =>
          refine PySem.codeAny_handlers_suite_as (PySem.HandSPX.lands_againZ fl3 fun h4 fl4 up4 => ?_)
          have J4 : Inv X pins τ G { s' with heap := h4 } := J.landed nb fl4.1 ((up.trans up3).trans up4) os ag
          obtain ⟨oe4, vs4, he4, hz4, hd4⟩ := fl4.there
          refine L2.store_ok (X := X.suite a ((a, oe4) :: (X.pn ++ pins))) (v := .ref a) (J4.suite he4 hd4 na nL nF) hN hi (.inl hl) rfl (fun s5 S5 => ?_) (.inr hl)
          refine wpAny_mono ((hsu a oe4 cls d (X.pn ++ pins) hz4 ⟨_, hd4⟩).run [] s5 _ G _ S5 (hyes rfl a na)) (fun f s6 hsp => ?_) (fun _ _ z => z.elim)
          cases f with
          | next => obtain ⟨τ6, G6, S6, q6⟩ := hsp; exact L2.gone_ok (S6.unsuite ok) hN hi hl fun s7 J7 => ⟨_, _, J7, q6⟩
          | brk => obtain ⟨τ6, G6, S6, q6⟩ := hsp; exact L2.gone_ok (S6.unsuite ok) hN hi hl fun s7 J7 => ⟨_, _, J7, q6⟩
          | cont => obtain ⟨τ6, G6, S6, q6⟩ := hsp; exact L2.gone_ok (S6.unsuite ok) hN hi hl fun s7 J7 => ⟨_, _, J7, q6⟩
          | ret u => obtain ⟨v6, τ6, G6, S6, r6, q6⟩ := hsp; exact L2.gone_ok (S6.unsuite ok) hN hi hl fun s7 J7 => ⟨_, _, _, J7, r6, q6⟩
    exact go hh w
  · cases f with
    | next => obtain ⟨τ, G, J, q⟩ := hsp; exact PySem.wpAny_execs_nil ⟨τ, G, J.ofTry ok, q⟩
    | brk => obtain ⟨τ, G, J, q⟩ := hsp; exact ⟨τ, G, J.ofTry ok, q⟩
    | cont => obtain ⟨τ, G, J, q⟩ := hsp; exact ⟨τ, G, J.ofTry ok, q⟩
    | ret u => obtain ⟨v, τ, G, J, r, q⟩ := hsp; exact ⟨v, τ, G, J.ofTry ok, r, q⟩
end
end Mp

/-! Mp: t[::-1] of a tuple. -/
namespace Mp
open PySem PySem.Spec PyProof.Rows
open L2 (V HO Hp PE Cx Inv TE SqT SqL upd EP)
section
variable {prog : Program} {w : World} {A : Around} {E : Value → Shared → Prop} {s : Shared}
theorem back_applied {sl : Addr} {n : Nat} {t : PySem.Tok} {Q : Int × Int × Nat → Shared → Prop} (hs : s.heap.IsSliceOf sl .none .none (.int (-1) t)) (h : Q ((n : Int) - 1, -1, n) s) :
    wpAny (model prog w) A (PySem.Builtin.Slice.sliceApplied (.ref sl) (pure (n : Int))) Q E s := by
  obtain ⟨os, hos, hcs, hds⟩ := id hs
  unfold PySem.Builtin.Slice.sliceApplied PySem.Builtin.Slice.sliceFields
  refine wpAny_bind (wpAny_bind (PySem.wpAny_field hos hds (x := .none) rfl (wpAny_bind (PySem.wpAny_field hos hds (x := .none) rfl (wpAny_bind (PySem.wpAny_field hos hds (x := .int (-1) t) rfl (wpAny_pure ?_)))))))
  refine wpAny_bind (HT.slicePart_ (.int (-1) t) ?_)
  show wpAny _ _ (if ((-1 : Int) == 0) = true then _ else _) _ _ s
  rw [if_neg (by decide)]
  refine wpAny_bind (HT.slicePart_ .none (wpAny_bind (HT.slicePart_ .none (wpAny_bind (wpAny_pure ?_)))))
  show wpAny _ _ (match PySem.Builtin.Slice.sliceAdjust none none (-1) (n : Int) with | (lo, hi) => pure (lo, (-1 : Int), PySem.Builtin.Slice.slicePlaces lo hi (-1))) _ _ s
  have e1 : PySem.Builtin.Slice.sliceAdjust none none (-1) (n : Int) = ((n : Int) - 1, -1) := by
    first | rfl | simp [PySem.Builtin.Slice.sliceAdjust]
  have e2 : PySem.Builtin.Slice.slicePlaces ((n : Int) - 1) (-1) (-1) = n := by
    unfold PySem.Builtin.Slice.slicePlaces
    by_cases hn : n = 0
    · subst hn; rfl
    · simp
      omega
  rw [e1]
  show wpAny _ _ (pure ((n : Int) - 1, (-1 : Int), PySem.Builtin.Slice.slicePlaces ((n : Int) - 1) (-1) (-1))) _ _ s
  rw [e2]
  exact wpAny_pure h
theorem fm_congr {α β : Type} {f g : α → Option β} : ∀ {l : List α}, (∀ x ∈ l, f x = g x) → l.filterMap f = l.filterMap g
  | [], _ => rfl
  | x :: l, h => by rw [List.filterMap_cons, List.filterMap_cons, h x List.mem_cons_self, fm_congr fun y hy => h y (List.mem_cons_of_mem _ hy)]
theorem pick_back (xs : Array Value) : ((List.range xs.size).filterMap fun (m : Nat) => xs[((xs.size : Int) - 1 + (m : Int) * (-1)).toNat]?).toArray = xs.toList.reverse.toArray := by
  have e : (List.range xs.size).filterMap (fun (m : Nat) => xs[((xs.size : Int) - 1 + (m : Int) * (-1)).toNat]?) = ((List.range xs.size).map fun k => xs.size - 1 - k).filterMap (xs[·]?) := by
    rw [List.filterMap_map]
    refine fm_congr fun m hm => ?_
    have := List.mem_range.mp hm
    show xs[((xs.size : Int) - 1 + (m : Int) * (-1)).toNat]? = xs[xs.size - 1 - m]?
    congr 1
    omega
  rw [e, PySem.W.krv_range, List.filterMap_reverse, PySem.W.krv_all]
theorem get_back {t sl : Addr} {items : Array Value} {tk : PySem.Tok} {Q : Value → Shared → Prop} (ht : IsTup s.heap t items) (hs : s.heap.IsSliceOf sl .none .none (.int (-1) tk))
    (h : Q (.ref s.heap.objs.size) { s with heap := s.heap.push { cls := .type "tuple", data := .seq items.toList.reverse.toArray } }) (hsz : items.size ≤ PySem.sizeLine) : wpAny (model prog w) A (PySem.getItem (.ref t) (.ref sl)) Q E s := by
  have small : PySem.sizeOk (.seq items.toList.reverse.toArray) := by
    show items.toList.reverse.toArray.size ≤ PySem.sizeLine
    rw [List.size_toArray, List.length_reverse, Array.length_toList]
    exact hsz
  obtain ⟨os, hos, hcs, hds⟩ := id hs
  have hTs : s.TypeIs (.ref sl) "slice" := ⟨os, hos, hcs⟩
  unfold PySem.getItem
  try with_reducible refine PySem.wpAny_holding ?_
  first | refine wpAny_bind (wpAny_pure ?_) | skip
  refine wpAny_bind (PySem.wpAny_sequenceKey ht.typeIs (by decide) ?_)
  refine wpAny_bind (PySem.wpAny_callSpecial?_slot (name := PySem.Str.ofString "__getitem__") ht.typeIs PyProof.Rows.slot_tuple_getitem
    (PySem.wpAny_call_entry PyProof.Rows.slot_tuple_getitem ht.typeIs entry_tuple_getitem ?_ (args_tuple_getitem _ _)))
  show wpAny _ _ (PySem.Builtin.Tuple.tupleItemsOf (.ref t) >>= _) _ _ s
  refine wpAny_bind (tupleItemsOf_ ht (wpAny_bind (PySem.wpAny_typeOf hTs ?_)))
  rw [if_pos (by decide)]
  refine wpAny_bind (back_applied hs ?_)
  have hno : ¬ (((items.size : Int) - 1 == 0 && (-1 : Int) == 1 && items.size == items.size) = true) := by simp
  show wpAny _ _ (if ((items.size : Int) - 1 == 0 && (-1 : Int) == 1 && items.size == items.size) = true then _ else _) _ _ s
  rw [if_neg hno, pick_back]
  first
    | exact wpAny_bind (m := PySem.Builtin.Tuple.tupleExact _) (PySem.wpAny_newObj_type (wpAny_pure ⟨_, rfl, wpAny_pure h⟩) small)
    | exact wpAny_bind (m := PySem.Builtin.Tuple.tupleExact _) (PySem.wpAny_newObj_type (wpAny_bind (wpAny_pure (wpAny_pure ⟨_, rfl, wpAny_pure h⟩))) small)
    | exact wpAny_bind (wpAny_bind (m := PySem.Builtin.Tuple.tupleExact _) (PySem.wpAny_newObj_type (wpAny_pure (wpAny_pure ⟨_, rfl, wpAny_pure h⟩)) small))
    | exact wpAny_bind (wpAny_bind (m := PySem.Builtin.Tuple.tupleExact _) (PySem.wpAny_newObj_type (wpAny_pure ⟨_, rfl, wpAny_pure h⟩) small))
end
/-- x[::-1], x a list or a tuple -/
def tBack (K : PySem.W.Frag) (te : TE) : TE := fun σ H Q => te σ H fun x H1 => ∃ a xs, x = .ref a ∧ ((SqT K H1 a xs ∧ ∀ p, H1 p = none → Q (.ref p) (upd H1 p (.tup xs.reverse))) ∨ (SqL K H1 a xs ∧ ∀ p, H1 p = none → Q (.ref p) (upd H1 p (.lst xs.reverse))))
theorem pe_back {X : Cx} {e : Expr} {te : TE} {k : Nat} {p1 p2 p3 pos : Pos} (he : PE X e te) : PE X (.Subscript e (.Slice none none (some (.UnaryOp .USub (.Constant (.int 1) k p1) p2)) p3) pos) (tBack X.K te) := by
  refine ⟨fun pins s σ H Q I h => ?_⟩
  refine Subscript_ (L2.thn (he.run pins s σ H _ I h) fun v s1 ⟨x, H1, I1, r1, a, xs, ex, hx⟩ => ?_)
  subst ex
  cases r1
  have hst : L2.PO X (some (.UnaryOp .USub (.Constant (.int 1) k p1) p2)) (L2.tPart (L2.tUn (L2.rU fun i => .int (-i)) (L2.tC (.int 1)))) := L2.po_some (L2.pe_un L2.un_neg L2.pe_int)
  refine PySem.wpAny_Slice (L2.thn (L2.po_none.run pins s1 σ H1 (fun o G => o = none ∧ G = H1) I1 ⟨rfl, rfl⟩) fun vl s2 ⟨l, G2, I2, pl, el, e2⟩ => ?_)
  subst el e2
  refine L2.thn (L2.po_none.run pins s2 σ G2 (fun o G => o = none ∧ G = G2) I2 ⟨rfl, rfl⟩) fun vu s3 ⟨u, G3, I3, pu, eu, e3⟩ => ?_
  subst eu e3
  refine L2.thn (hst.run pins s3 σ G3 (fun o G => o = some (-1) ∧ G = G3) I3 ⟨1, rfl, -1, rfl, rfl, rfl⟩) fun vs s4 ⟨o, G4, I4, ps, eo, e4⟩ => ?_
  subst eo e4
  cases pl
  cases pu
  cases ps with
  | int _ tk =>
  have I5 : Inv X pins σ G4 { s4 with heap := s4.heap.push { cls := .type "slice", data := .fields #[.none, .none, .int (-1) tk] } } := I4.kept (t' := s4.toks) fun b ob q => Heap.get?_push_of_some _ q
  show wpAny (model X.prog X.w) X.A (subscriptTail e (.Slice none none (some (.UnaryOp .USub (.Constant (.int 1) k p1) p2)) p3) (.ref a) (.ref s4.heap.objs.size)) (EP X pins σ Q) X.xe { s4 with heap := s4.heap.push { cls := .type "slice", data := .fields #[.none, .none, .int (-1) tk] } }
  rcases hx with ⟨hx, q⟩ | ⟨hx, q⟩
  · obtain ⟨its, r, ht, hz⟩ := I5.tuple hx
    have hlen := r.length
    refine tail_any (ops := [.ref a, .ref s4.heap.objs.size]) ht.typeIs (PyProof.Rows.slot_tuple_getitem.lookup) ?_ (by with_unfolding_all rfl)
    refine get_back ht (Heap.IsSliceOf.new _ .none .none (.int (-1) tk)) ?_ (by rw [List.size_toArray]; omega)
    refine ⟨.ref _, _, I5.laid (t' := s4.toks) (o := .tup xs.reverse) (fun b ob q => Heap.get?_push_of_some _ q) (Nat.le_refl _) ?_, rfl, q _ (I5.hok.fresh (Nat.le_refl _))⟩
    exact ⟨by rw [List.length_reverse]; exact hz, _, r.reverse, IsTup.new _ _⟩
  · obtain ⟨its, r, ht, hz⟩ := I5.list hx
    have hlen := r.length
    refine tail_any (ops := [.ref a, .ref s4.heap.objs.size]) ht.isList.typeIs (PySem.slot_list_getitem.lookup) ?_ (by with_unfolding_all rfl)
    refine PySem.wpAny_getItem_list_slice ht.isList (Heap.IsSliceOf.new _ .none .none (.int (-1) tk)) .none .none (.int (-1) tk) (by decide) ?_ (by rw [List.size_toArray]; omega)
    rw [PySem.W.krv_pick]
    refine ⟨.ref _, _, I5.laid (t' := s4.toks) (o := .lst xs.reverse) (fun b ob q => Heap.get?_push_of_some _ q) (Nat.le_refl _) ?_, rfl, q _ (I5.hok.fresh (Nat.le_refl _))⟩
    exact ⟨by rw [List.length_reverse]; exact hz, _, 0, r.reverse, Heap.get?_push_size _ rfl⟩
end Mp

/-! Mp: the check that a code is an expression's; its soundness. -/
namespace Mp
open PySem (Addr Value Expr PyData Str CmpOp Operator binaryOp compareOp cLine Scope Env NameKind)
open L2 (V HO Hp upd upd_same upd_ne SqT SqL Rd PE PT PW PA PI PG Cx OpR TE TT TA TI TG VK XK WX RelV EP CallR MtR IxR Gl Sp It Room Takes Vis)

/-- the program's names -/
structure ClsD where
  name : Str
  init : Nat
  flds : List Str
  meths : List (Str × Nat)
  props : List (Str × Nat)
  mds : List (Str × Nat × List D) := []
  eqm : Option Nat := none
  kwi : Bool := false
  mks : List (Nat × List Str × List Bool × List D) := []
  sts : List (Str × Nat) := []
  ccs : List (Str × D) := []
/-- an own exception class: how many values make it, which of them (from 1) are its fields, the classes above it and itself -/
structure ExcD where
  name : Str
  np : Nat
  flds : List (Str × Nat)
  sups : List Str
/-- a def that calls the lambda it gets: its number, its names, its text -/
structure MetD where
  f : Nat
  N : List Str
  st : PySem.Stmt
structure Prg where
  fname : Nat → Str
  nf : Nat
  gcs : List (Str × D)
  cls : List ClsD := []
  exs : List ExcD := []
  mts : List MetD := []
  lamN : List (List Str) := []
  kws : List (Nat × Nat × List Str × List (Option Nat) × List D) := []
def Prg.methB (P : Prg) (m : Str) (q : Str × Nat) : Bool := P.cls.any fun d => decide (d.name = q.1) && decide ((m, q.2) ∈ d.meths)
def Prg.clsB (P : Prg) (c : Str) : Bool := P.cls.any fun d => decide (d.name = c)
def Prg.mdB (P : Prg) (m : Str) (ds : List D) (q : Str × Nat) : Bool := P.cls.any fun d => decide (d.name = q.1) && d.mds.any fun e => decide (e.1 = m) && decide (e.2.1 = q.2) && D.sames e.2.2 ds
def Prg.eqB (P : Prg) (q : Str × Nat) : Bool := P.cls.any fun d => decide (d.name = q.1) && decide (d.eqm = some q.2)
def Prg.mkB (P : Prg) (c : Str) (f n : Nat) (ks : List Str) (pat : List Bool) (ds : List D) : Bool := P.cls.any fun d => decide (d.name = c) && decide (d.init = f) && d.mks.any fun e => decide (e.1 = n) && decide (e.2.1 = ks) && decide (e.2.2.1 = pat) && D.sames e.2.2.2 ds
def Prg.kwB (P : Prg) (f n : Nat) (ks : List Str) (pat : List (Option Nat)) (ds : List D) : Bool := P.kws.any fun e => decide (e.1 = f) && decide (e.2.1 = n) && decide (e.2.2.1 = ks) && decide (e.2.2.2.1 = pat) && D.sames e.2.2.2.2 ds
def Prg.stB (P : Prg) (c m : Str) (f : Nat) : Bool := P.cls.any fun d => decide (d.name = c) && decide ((m, f) ∈ d.sts)
def Prg.ccB (P : Prg) (c n : Str) (d : D) : Bool := P.cls.any fun e => decide (e.name = c) && e.ccs.any fun p => decide (p.1 = n) && D.same p.2 d
def Prg.initB (P : Prg) (c : Str) (f : Nat) : Bool := P.cls.any fun d => decide (d.name = c) && decide (d.init = f) && decide (d.kwi = false)
def Prg.propB (P : Prg) (m : Str) (q : Str × Nat) : Bool := P.cls.any fun d => decide (d.name = q.1) && decide ((m, q.2) ∈ d.props)
def Prg.fldB (P : Prg) (f c : Str) : Bool := P.cls.any fun d => decide (d.name = c) && decide (f ∈ d.flds)

def visB (sc : Scope) (x : Str) : Bool := match sc.names.lookup x with
  | some .local => true
  | some .cell => true
  | some .free => true
  | _ => false
def glB (sc : Scope) (x : Str) : Bool := match sc.names.lookup x with
  | some .globalImplicit => true
  | _ => false
def locB (sc : Scope) (x : Str) : Bool := match sc.names.lookup x with
  | some .local => true
  | _ => false
def storeB (sc : Scope) (x : Str) : Bool := match sc.names.lookup x with
  | some .local => true
  | some .cell => true
  | _ => false
def notDbg (x : Str) : Bool := !(x == ("__debug__" : Str)) && !(x == ("__classdict__" : Str)) && !decide (x = "__name__")
def cstB (d : D) (c : PySem.Const) : Bool := match d, c with
  | .non, .none => true
  | .bl a, .bool b => a == b
  | .int i, .int j => decide (i = j)
  | .str x, .str y => decide (x = y)
  | _, _ => false
def notStar : Expr → Bool
  | .Starred .. => false
  | _ => true
def notSlice : Expr → Bool
  | .Slice .. => false
  | _ => true
def notSet : Expr → Bool
  | .Set .. => false
  | _ => true
def notCall : Expr → Bool
  | .Call .. => false
  | _ => true
/-- no call of a bare name with nothing in its brackets (super() has a way of its own) -/
def notBare : Expr → Bool
  | .Call (.Name _ _) [] [] _ => false
  | _ => true
/-- as a test it is asked for its truth -/
def plainT : Expr → Bool
  | .UnaryOp .Not _ _ => false
  | .BoolOp .. => false
  | .IfExp .. => false
  | .Compare .. => false
  | _ => true
def namesB (N : List Str) (sc : Scope) : List Nat → List Expr → Bool
  | [], [] => true
  | i :: tg, .Name x _ :: es => decide (N[i]? = some x) && storeB sc x && namesB N sc tg es
  | _, _ => false
def tgB (N : List Str) (sc : Scope) (tg : List Nat) (e : Expr) : Bool := match tg, e with
  | [i], .Name x _ => decide (N[i]? = some x) && storeB sc x
  | i :: j :: tg, .Tuple es _ _ => namesB N sc (i :: j :: tg) es
  | _, _ => false
def bmOk : Bm → Bool
  | .join => true
  | .append => true
  | .pop => true
def negOne : Expr → Bool
  | .UnaryOp .USub (.Constant (.int i) _ _) _ => decide (i = 1)
  | _ => false
def ownP (N : List Str) (own : List Nat) : List (Str × Nat) := own.map fun i => (N.getD i "", i)

/-- as read in a comprehension of a def, of a lambda -/
def inh (sc scope : Scope) : Scope := { scope with isCoroutine := sc.isCoroutine }
/-- as read in a lambda -/
def mkLam (scope : Scope) : Scope := { scope with isCoroutine := true }
section
variable (P : Prg) (N : List Str) (sc : Scope)
mutual
def cHE (i : Option Nat) : E → Expr → Bool
  | .bin .add a b, .BinOp l .Add r _ => cHE i a l && cHE i b r
  | .rpr a, .Call (.Name x _) [y] [] _ => decide (x = "repr") && glB sc x && notStar y && cHE i a y
  | .cst d, .Constant c _ _ => cstB d c
  | .att _ f _, .Attribute (.Name y _) g _ => decide (g = f) && (match i with
    | some j => decide (N[j]? = some y) && locB sc y && notDbg y
    | none => false)
  | .fz (.lst es), .List xs _ => cHL i es xs
  | .tup es, .Tuple xs _ _ => cHL i es xs
  | _, _ => false
def cHL (i : Option Nat) : E → List Expr → Bool
  | .nil, [] => true
  | .cons h t, x :: xs => notStar x && cHE i h x && cHL i t xs
  | _, _ => false
end
def cHd : T → List PySem.ExceptHandler → Bool
  | .nil, [] => true
  | .hd c subs i he r, .ExceptHandler (some (.Name x _)) nm [.Return (some v) _] _ :: hds => decide (x = c) && glB sc x && notDbg x && P.exs.any (fun d => decide (d.name = c)) && P.exs.all (fun d => decide (d.name ∈ subs) == decide (c ∈ d.sups)) &&
      (match nm, i with
        | none, none => true
        | some n, some j => decide (N[j]? = some n) && locB sc n
        | _, _ => false) && cHE N sc i he v && cHd r hds
  | _, _ => false
end
/-- the names of a def's text -/
def scpB (N ps : List Str) (sc : Scope) : Bool := decide (sc.kind = .function) && decide (sc.isCoroutine = false) && decide (sc.isGenerator = false) && decide N.Nodup && decide (N.take ps.length = ps) &&
  (ps.all fun x => decide (sc.names.lookup x = some .local ∨ sc.names.lookup x = some .cell)) && (sc.names.all fun y => decide (y.2 ≠ .free))
/-- a def that calls the lambda it gets, its text and its code -/
def metT (P : Prg) (N : List Str) (sc : Scope) (ok : MOk) (hs : E) : List PySem.Stmt → Bool
  | [.Try [.Expr (.Call (.Name a _) [] [] _) _] (h :: hds) [] [] _, .Return (some (.Constant c _ _)) _] => (match ok with
    | .con d => plainD d && cstB d c
    | _ => false) && decide (N[0]? = some a) && notDbg a && cHd P N sc (hsT hs) (h :: hds)
  | [.Try [.Return (some (.Call (.Name a _) [] [] _)) _] (h :: hds) [] [] _] => (match ok with
    | .self => true
    | _ => false) && decide (N[0]? = some a) && notDbg a && cHd P N sc (hsT hs) (h :: hds)
  | _ => false
def metB (P : Prg) (m : MetD) (ok : MOk) (hs : E) : Bool := decide (m.N ∉ P.lamN) && m.N.all notDbg && scpB m.N (m.N.take 1) (L2.defScope m.st) && decide (m.N ≠ []) && metT P m.N (L2.defScope m.st) ok hs (L2.defBody m.st)
section
variable (P : Prg) (N : List Str)
mutual
def cE : E → Scope → Expr → Bool
  | .cst d, _, .Constant c _ _ => cstB d c
  | .var i, sc, .Name x _ => decide (N[i]? = some x) && visB sc x && notDbg x
  | .gc d, sc, .Name x _ => glB sc x && notDbg x && P.gcs.any fun p => decide (p.1 = x) && D.same p.2 d
  | .tup es, sc, .Tuple xs _ _ => cL es sc xs
  | .dct kvs, sc, .Dict ks vs _ => cD kvs sc ks vs && decide (ks.length = vs.length) && decide (ks.length ≤ 15) && ks.all (·.isSome)
  | .fz f, sc, x => cF f sc x
  | .mk f, sc, x => cF f sc x
  | .gl f, sc, x => cF f sc x
  | .bin op a b, sc, .BinOp l o r _ => decide (o = opP op) && cE a sc l && cE b sc r
  | .cmp op a b, sc, .Compare l [o] [r] _ => decide (o = coP op) && !PySem.behindInMarks o r && cE a sc l && cE b sc r
  | .chain o1 o2 a b c, sc, .Compare l [p1, p2] [m, r] _ => decide (p1 = coP o1) && decide (p2 = coP o2) && !PySem.lastMarks [p1, p2] [m, r] && cE a sc l && cE b sc m && cE c sc r
  | .and_ a b, sc, .BoolOp .And (x :: y :: r) _ => cE a sc x && (match r with
    | [] => cE b sc y
    | z :: r => cAnd b sc (y :: z :: r))
  | .or_ a b, sc, .BoolOp .Or (x :: y :: r) _ => cE a sc x && (match r with
    | [] => cE b sc y
    | z :: r => cOr b sc (y :: z :: r))
  | .not_ a, sc, .UnaryOp .Not x _ => cE a sc x
  | .ife t a b, sc, .IfExp c x y _ => cT t sc c && cE a sc x && cE b sc y
  | .neg a, sc, .UnaryOp .USub x _ => cE a sc x
  | .sub a i, sc, .Subscript x y _ => cE a sc x && cE i sc y && notSlice y
  | .call f es, sc, .Call (.Name x _) args [] _ => decide (x = P.fname f) && decide (f < P.nf) && glB sc x && notDbg x && cL es sc args
  | .bf b es, sc, .Call (.Name x _) (y :: ys) [] _ => decide (x = bfN b) && glB sc x && cL es sc (y :: ys)
  | .isi cs a t, sc, .Call (.Name x _) [y, .Name z _] [] _ => cs.all P.clsB && decide (x = "isinstance") && glB sc x && decide (z = tgS t) && tgOk t && glB sc z && notStar y && cE a sc y
  | .bm m a es, sc, .Call (.Attribute o nm ap) (y :: ys) [] cp => decide (nm = bmN m) && bmOk m && cE a sc o && cL es sc (y :: ys) && notCall o && (ap.endLine == cp.line) && decide ((y :: ys).length < 29)
  | .sl a lo hi, sc, .Subscript x (.Slice l h none _) _ => cE a sc x && (match l with
      | none => (match lo with | .nil => true | _ => false)
      | some y => cE lo sc y) && (match h with
      | none => (match hi with | .nil => true | _ => false)
      | some y => cE hi sc y)
  | .um tab m a es, sc, .Call (.Attribute x nm ap) args [] cp => decide (nm = m) && notCall x && (ap.endLine == cp.line) && decide (args.length < 29) && tab.all (P.methB m) && cE a sc x && cL es sc args
  | .nw c f es, sc, .Call (.Name x _) args [] _ => decide (x = c) && P.initB c f && glB sc x && notDbg x && cL es sc args
  | .tupS a es, sc, .Tuple (.Starred x _ :: ys) _ _ => cE a sc x && cL es sc ys
  | .rev a, sc, .Subscript x (.Slice none none (some st) _) _ => cE a sc x && negOne st
  | .umd tab m a ds, sc, .Call (.Attribute x nm ap) [] [] cp => decide (nm = m) && notCall x && (ap.endLine == cp.line) && tab.all (P.mdB m ds) && cE a sc x
  | .prp tab f a, sc, .Attribute x nm _ => decide (nm = f) && notBare x && tab.all (P.propB f) && cE a sc x
  | .att cs f a, sc, .Attribute x nm _ => decide (nm = f) && notCall x && cs.all (P.fldB f) && cE a sc x
  | .lset a, sc, .Call (.Name x _) [.Call (.Name y _) [z] [] _] [] _ => decide (x = "len") && decide (y = "set") && glB sc x && glB sc y && notStar z && cE a sc z
  | .srt a, sc, .Call (.Name x _) [y] [] _ => decide (x = "sorted") && glB sc x && notStar y && cE a sc y
  | .oq neg tab a b, sc, .Compare l [o] [r] _ => decide (o = if neg then .NotEq else .Eq) && !PySem.behindInMarks o r && tab.all P.eqB && cE a sc l && cE b sc r
  | .nwk c f n pat ds ks es kes, sc, .Call (.Name x _) (y :: ys) kws _ => decide (x = c) && P.mkB c f n ks pat ds && glB sc x && notDbg x && cL es sc (y :: ys) && decide (kws.map (·.arg) = ks.map some) && cL kes sc (kws.map (·.value))
  | .stc c m f es, sc, .Call (.Attribute (.Name x _) nm ap) args [] cp => decide (x = c) && decide (nm = m) && glB sc x && notDbg x && P.stB c m f && (ap.endLine == cp.line) && decide (args.length < 29) && cL es sc args
  | .isC cs a c, sc, .Call (.Name x _) [y, .Name z _] [] _ => cs.all P.clsB && P.clsB c && decide (x = "isinstance") && glB sc x && decide (z = c) && glB sc z && notDbg z && notStar y && cE a sc y
  | .ccs c n d, sc, .Attribute (.Name x _) nm _ => decide (x = c) && decide (nm = n) && glB sc x && notDbg x && P.ccB c n d
  | .met f e ok hs, sc, .Call (.Name x _) [.Lambda ⟨[], [], none, [], [], none, []⟩ body scope _] [] _ => decide (x = P.fname f) && (P.mts.any fun m => decide (m.f = f) && metB P m ok hs) && decide (N ∈ P.lamN) && decide (sc.isCoroutine = false) && glB sc x && notDbg x && LamX.lamSB sc scope && cE e (mkLam scope) body
  | .rpr a, sc, .Call (.Name x _) [y] [] _ => decide (x = "repr") && glB sc x && notStar y && cE a sc y
  | .callk f n pat ds ks es kes, sc, .Call (.Name x _) (y :: ys) kws _ => decide (x = P.fname f) && P.kwB f n ks pat ds && glB sc x && notDbg x && cL es sc (y :: ys) && decide (kws.map (·.arg) = ks.map some) && cL kes sc (kws.map (·.value))
  | .jst right a i f, sc, .Call (.Attribute o nm ap) [y, z] [] cp => decide (nm = if right then "rjust" else "ljust") && notCall o && (ap.endLine == cp.line) && notStar y && notStar z && cE a sc o && cE i sc y && cE f sc z
  | .tor a, sc, .Call (.Name x _) [.Call (.Name y _) [z] [] _] [] _ => decide (x = "tuple") && glB sc x && decide (y = "range") && glB sc y && notStar z && cE a sc z
  | .rep a b, sc, .BinOp l .Mult r _ => cE a sc l && cE b sc r
  | .insm a i x, sc, .Call (.Attribute o nm ap) [y, z] [] cp => decide (nm = "insert") && notCall o && (ap.endLine == cp.line) && notStar y && notStar z && cE a sc o && cE i sc y && cE x sc z
  | _, _, _ => false
def cD : E → Scope → List (Option Expr) → List Expr → Bool
  | .nil, _, [], [] => true
  | .cons k t, sc, some x :: ks, vs => cE k sc x && cDv t sc ks vs
  | _, _, _, _ => false
def cDv : E → Scope → List (Option Expr) → List Expr → Bool
  | .cons v t, sc, ks, y :: vs => cE v sc y && cD t sc ks vs
  | _, _, _, _ => false
def cAnd : E → Scope → List Expr → Bool
  | .and_ a b, sc, x :: y :: r => cE a sc x && (match r with
    | [] => cE b sc y
    | z :: r => cAnd b sc (y :: z :: r))
  | _, _, _ => false
def cOr : E → Scope → List Expr → Bool
  | .or_ a b, sc, x :: y :: r => cE a sc x && (match r with
    | [] => cE b sc y
    | z :: r => cOr b sc (y :: z :: r))
  | _, _, _ => false
def cAndT : E → Scope → List Expr → Bool
  | .and_ a b, sc, x :: y :: r => cT a sc x && (match r with
    | [] => cT b sc y
    | z :: r => cAndT b sc (y :: z :: r))
  | _, _, _ => false
def cOrT : E → Scope → List Expr → Bool
  | .or_ a b, sc, x :: y :: r => cT a sc x && (match r with
    | [] => cT b sc y
    | z :: r => cOrT b sc (y :: z :: r))
  | _, _, _ => false
def cL : E → Scope → List Expr → Bool
  | .nil, _, [] => true
  | .cons h t, sc, x :: xs => cE h sc x && notStar x && cL t sc xs
  | _, _, _ => false
def cT : E → Scope → Expr → Bool
  | .and_ a b, sc, .BoolOp .And (x :: y :: r) _ => cT a sc x && (match r with
    | [] => cT b sc y
    | z :: r => cAndT b sc (y :: z :: r))
  | .or_ a b, sc, .BoolOp .Or (x :: y :: r) _ => cT a sc x && (match r with
    | [] => cT b sc y
    | z :: r => cOrT b sc (y :: z :: r))
  | .not_ a, sc, .UnaryOp .Not x _ => cT a sc x
  | .cmp op a b, sc, .Compare l [o] [r] _ => decide (o = coP op) && !PySem.behindInMarks o r && cE a sc l && cE b sc r
  | .chain o1 o2 a b c, sc, .Compare l [p1, p2] [m, r] _ => decide (p1 = coP o1) && decide (p2 = coP o2) && !PySem.lastMarks [p1, p2] [m, r] && cE a sc l && cE b sc m && cE c sc r
  | .cst d, sc, .Constant c _ _ => cstB d c
  | .var i, sc, .Name x _ => decide (N[i]? = some x) && visB sc x && notDbg x
  | .sub a i, sc, .Subscript x y _ => cE a sc x && cE i sc y && notSlice y
  | .call f es, sc, .Call (.Name x _) args [] _ => decide (x = P.fname f) && decide (f < P.nf) && glB sc x && notDbg x && cL es sc args
  | .bf b es, sc, .Call (.Name x _) (y :: ys) [] _ => decide (x = bfN b) && glB sc x && cL es sc (y :: ys)
  | .isi cs a t, sc, .Call (.Name x _) [y, .Name z _] [] _ => cs.all P.clsB && decide (x = "isinstance") && glB sc x && decide (z = tgS t) && tgOk t && glB sc z && notStar y && cE a sc y
  | .bm m a es, sc, .Call (.Attribute o nm ap) (y :: ys) [] cp => decide (nm = bmN m) && bmOk m && cE a sc o && cL es sc (y :: ys) && notCall o && (ap.endLine == cp.line) && decide ((y :: ys).length < 29)
  | .fz f, sc, x => cF f sc x && plainT x
  | .oq neg tab a b, sc, .Compare l [o] [r] _ => decide (o = if neg then .NotEq else .Eq) && !PySem.behindInMarks o r && tab.all P.eqB && cE a sc l && cE b sc r
  | .isC cs a c, sc, .Call (.Name x _) [y, .Name z _] [] _ => cs.all P.clsB && P.clsB c && decide (x = "isinstance") && glB sc x && decide (z = c) && glB sc z && notDbg z && notStar y && cE a sc y
  | _, _, _ => false
def cIfs : E → Scope → List Expr → Bool
  | .nil, _, [] => true
  | .cons t .nil, sc, [x] => cT t sc x
  | _, _, _ => false
def cF : E → Scope → Expr → Bool
  | .lst es, sc, .List xs _ => cL es sc xs
  | .lof a, sc, .Call (.Name x _) [y] [] _ => decide (x = "list") && glB sc x && notStar y && cE a sc y
  | .lor a, sc, .Call (.Name x _) [.Call (.Name y _) [z] [] _] [] _ => decide (x = "list") && decide (y = "range") && glB sc x && glB sc y && notStar z && cE a sc z
  | .cat a b, sc, .BinOp l o r _ => decide (o = .Add) && cE a sc l && cE b sc r
  | .spl a b, sc, .Call (.Attribute o nm ap) [y] [] cp => decide (nm = "split") && notCall o && (ap.endLine == cp.line) && notStar y && cE a sc o && cE b sc y
  | .lc2 own tg it tg1 it1 elt, sc, .ListComp el [⟨tx, iter, [], 0⟩, ⟨tx1, iter1, [], 0⟩] scope _ => L2.blkC N sc scope (ownP N own) && tg.all (fun i => decide (i ∈ own)) && tg1.all (fun i => decide (i ∈ own)) && own.all (fun i => decide (i < N.length)) && tgB N (inh sc scope) tg tx && cI it sc tx iter && notSet iter &&
      tgB N (inh sc scope) tg1 tx1 && cE it1 (inh sc scope) iter1 && notSet iter1 && cE elt (inh sc scope) el
  | .lc own tg it cnd elt, sc, .ListComp el [⟨tx, iter, ifs, 0⟩] scope _ => L2.blkC N sc scope (ownP N own) && tg.all (fun i => decide (i ∈ own)) && own.all (fun i => decide (i < N.length)) && tgB N (inh sc scope) tg tx && cI it sc tx iter && notSet iter && cIfs cnd (inh sc scope) ifs && cE elt (inh sc scope) el
  | _, _, _ => false
def cI : E → Scope → Expr → Expr → Bool
  | .it e, sc, _, x => cE e sc x
  | .zip es, sc, .Tuple .., .Call (.Name x _) args [] _ => decide (x = "zip") && glB sc x && cL es sc args && (match args with
    | [_, _] => true
    | _ => false)
  | .enm es, sc, .Tuple .., .Call (.Name x _) args [] _ => decide (x = "enumerate") && glB sc x && cL es sc args && (match args with
    | [_] => true
    | _ => false)
  | .rng es, sc, _, .Call (.Name x _) args [] _ => decide (x = "range") && glB sc x && cL es sc args && (match args with
    | [_] => true
    | [_, _] => true
    | _ => false)
  | _, _, _, _ => false
end
end

/-! ### soundness -/
variable [TabT]
theorem star_cons {x : Expr} {xs : List Expr} {env : Env} (h : notStar x = true) : PySem.starEach (x :: xs) env = (false, PySem.eval x env) :: PySem.starEach xs env := by
  cases x <;> first | rfl | cases h
theorem base_of {o : Expr} {n : Str} {env : Env} {w : PySem.Sem Value} (h : notCall o = true) : PySem.attributeBase o n env w = w := by
  cases o <;> first | rfl | cases h
theorem base_of2 {o : Expr} {n : Str} {env : Env} {w : PySem.Sem Value} (h : notBare o = true) : PySem.attributeBase o n env w = w := by
  unfold PySem.attributeBase
  split
  · cases h
  · rfl
theorem slice_of {y : Expr} (h : notSlice y = true) : L2.PlainIx y := by
  intro o i
  cases y <;> first | rfl | cases h
theorem set_of {y : Expr} {env : Env} (h : notSet y = true) (x : Value) : PySem.foldedSetIterable y env x = pure x := by
  cases y <;> first | rfl | cases h
theorem plainT_of {x : Expr} {env : Env} (h : plainT x = true) (whole : PySem.Sem Value) : PySem.isTrue x env whole = (do let v ← whole; PySem.standAt x.pos; PySem.holding [v] (PySem.truthy v)) := by
  cases x with
  | UnaryOp op _ _ => cases op <;> first | rfl | cases h
  | _ => first | rfl | cases h

/-- how an error of the program lies behind a raise -/
def rxP (P : Prg) (K : PySem.W.Frag) : ExRel := fun γ H e c d => ∃ D ∈ P.exs, e.c = D.name ∧ c = .ref (clsOf K D.name) ∧ e.ns = (D.flds.map Prod.fst).reverse ∧
  ((D.flds = [] ∧ d = none) ∨ ∃ dd fs, d = some dd ∧ H dd = some (.xd fs) ∧ ¬ γ.Bad dd ∧ e.ns = fs.map Prod.fst ∧ RelDs K γ H e.vs (fs.map Prod.snd))
theorem rxP_steady (P : Prg) (K : PySem.W.Frag) : ExSteady K (rxP P K) := fun γ γ' H e c d l ⟨D, h1, h2, h3, h4, h5⟩ => ⟨D, h1, h2, h3, h4, h5.imp_right fun ⟨dd, fs, e1, e2, e3, e4, e5⟩ => ⟨dd, fs, e1, e2, fun z => e3 (l.bad _ z), e4, RelDs.les l _ _ e5⟩⟩
/-- what an own exception class must say -/
structure ExcG (P : Prg) (pr : PySem.Program) (w : PySem.World) (K : PySem.W.Frag) (mg : Str → Option Value) (base : PySem.Heap) (D : ExcD) : Prop where
  at_ : mg D.name = some (.ref (clsOf K D.name))
  xf : L2.XfC K (clsOf K D.name)
  nof : ∀ p ∈ D.flds, PySem.W.findIn K (.ref (clsOf K D.name)) p.1 = some none
  exm : ∀ c ∈ P.exs, PySem.W.exmOne K (.ref (clsOf K D.name)) (.ref (clsOf K c.name)) = some (decide (c.name ∈ D.sups))
  oex : L2.OexC K (clsOf K D.name)
  how : ∃ f, PySem.W.findIn K (.ref (clsOf K D.name)) "__init__" = some (some (.ref f)) ∧ PySem.W.typeIn K (.ref f) = some (.type "function") ∧
    ((D.flds = [] ∧ D.np = 1 ∧ ∃ G, L2.FnR pr w K mg base (L2.CX pr w) 1 f (spGE K G) ∧ SubC K (clsOf K D.name) G (.builtin "ValueError.__init__") ∧ PySem.W.subIn K (.ref (clsOf K D.name)) (.type "ValueError") = some true) ∨
      (D.flds ≠ [] ∧ ∃ fd Ns Dd g G, L2.FnOk pr w K mg base (L2.CX pr w) 2 f fd Ns (spFL K Dd g G Ns.length D.flds) ∧ Ns.length = D.np + 1 ∧ L2.Binds K fd Ns [] ∧ SubC K (clsOf K D.name) Dd (.ref g) ∧ SubC K (clsOf K D.name) G (.builtin "ValueError.__init__") ∧
        PySem.W.subIn K (.ref (clsOf K D.name)) (.type "ValueError") = some true))
/-- the types of values that are no instances -/
def valTys : List String := ["NoneType", "bool", "int", "str", "tuple", "list", "dict"]
/-- an own ==, and != by it -/
structure EqC (K : PySem.W.Frag) (C f : Addr) : Prop where
  eq : PySem.W.findIn K (.ref C) "__eq__" = some (some (.ref f))
  fn : PySem.W.isFn K (.ref f) = true
  ne : PySem.W.findIn K (.ref C) "__ne__" = some (some (.builtin "object.__ne__"))
  first : ∀ t ∈ valTys, PySem.W.notFirst K C (.type t) = true
  mo : PySem.W.mroIn K C (.type "object") = some true
/-- a static method: the object at p around the def at f -/
structure StC (K : PySem.W.Frag) (C : Addr) (m : Str) (p f : Addr) : Prop where
  ex : ∃ mc, ClX.CRead K C mc ∧ PySem.W.findCls K (.ref C) mc m = some (.get (.builtin "staticmethod.__get__") (.ref p) .none (.ref C))
  rc : ∃ rest, PySem.W.recIn K p "staticmethod" = some (.ref f :: rest)
  kp : PySem.W.keepIn K (.ref f) = true
/-- a context in which lambdas are made -/
structure LamC (X : Cx) (k : Nat) : Prop where
  tab : ∃ c Pt, X.env.code = .ref c ∧ LamX.TabB X.base X.mg c Pt ∧ (Pt, X.env.qual ++ "<lambda>") ∈ TabT.T ∧ ∀ p ∈ TabT.T, p.1 = Pt → p.2 = X.env.qual ++ "<lambda>"
  room : Room (k + 3) X.A
  two : 2 ≤ k
/-- a def that calls a lambda, as the top has left it -/
structure MetG (P : Prg) (K : PySem.W.Frag) (mg : Str → Option Value) (m : MetD) : Prop where
  at_ : ∃ (g : Addr) (fd : PySem.FuncData) (oc : Value) (od : Option Addr) (dV kV doc pm : Value) (an : Option Addr) (cdv ct : Value) (osl : Array (Option Value)), mg (P.fname m.f) = some (.ref g) ∧ PySem.W.keepIn K (.ref g) = true ∧
    fd = PySem.W.fnOf (P.fname m.f) (P.fname m.f) (L2.defArgs m.st) (L2.defBody m.st) (L2.defScope m.st) dV kV doc pm an cdv ct ∧ K.lookup g = some ⟨oc, od, .func fd, osl⟩ ∧ PySem.W.codeIn K cdv (P.fname m.f) = true ∧ L2.Binds K fd (m.N.take 1) []
/-- a context in which the program's expressions are read -/
structure Good (P : Prg) (N : List Str) (Γ : Callee) (RX : ExRel) (k : Nat) (X : Cx) (W : WX) (sc : Scope) : Prop where
  hN : X.N = N
  nd : N.Nodup
  calm : X.calm = true
  room : Room k X.A
  tk : Takes X W
  pass : PySem.PassesOwn (PySem.model X.prog X.w) X.A X.env X.xe
  kind : X.env.scope.kind = .function
  vis : ∀ x, visB sc x = true → Vis X.env.scope x
  gl : ∀ x, glB sc x = true → Gl X x
  loc : ∀ x, locB sc x = true → X.env.scope.names.lookup x = some .local
  sto : ∀ x, storeB sc x = true → L2.Loc X.env.scope x ∧ (X.fn x = true ∨ X.env.scope.names.lookup x = some .local)
  cf : ∀ x, sc.names.lookup x = some .cell ∨ sc.names.lookup x = some .free → X.env.scope.names.lookup x = some .cell ∨ X.env.scope.names.lookup x = some .free
  blt : ∀ b, X.mg (bfN b) = none
  tgs : ∀ t, tgOk t = true → X.mg (tgS t) = none
  isi : X.mg "isinstance" = none
  lst : X.mg "list" = none
  rng : X.mg "range" = none
  zip : X.mg "zip" = none
  enm : X.mg "enumerate" = none
  gcs : ∀ p ∈ P.gcs, ∃ u v, X.mg p.1 = some u ∧ RelV v u ∧ ∀ γ H, RelD X.K γ H p.2 v
  fns : ∀ f, f < P.nf → ∃ fa fd ps, X.mg (P.fname f) = some (.ref fa) ∧ PySem.W.keepIn X.K (.ref fa) = true ∧ L2.Binds X.K fd ps [] ∧ L2.FnOk X.prog X.w X.K X.mg X.base (L2.CX X.prog X.w) k fa fd ps (spG X.K RX Γ f)
  steady : ExSteady X.K RX
  rx : RX = rxP P X.K
  room3 : Room 3 X.A
  exs : ∀ D ∈ P.exs, ExcG P X.prog X.w X.K X.mg X.base D
  mdef : ∀ c ∈ P.cls, ∀ q ∈ c.mds, ∃ fa fd ps ds dvs, L2.Meth X.K (clsOf X.K c.name) q.1 fa ∧ L2.Binds X.K fd ps ds ∧ L2.Vals dvs ds ∧ (∀ γ H, RelDs X.K γ H q.2.2 dvs) ∧ L2.FnOk X.prog X.w X.K X.mg X.base (L2.CX X.prog X.w) k fa fd ps (spG X.K RX Γ q.2.1)
  cls : ∀ c ∈ P.cls, L2.Cls X.K (clsOf X.K c.name)
  isc : ∀ c ∈ P.cls, C8.InsC X.K (clsOf X.K c.name) ∧ ∀ t, tgOk t = true → PySem.W.kitOne X.K (.ref (clsOf X.K c.name)) (.type (tgN t)) = some false
  noat : ∀ c ∈ P.cls, ∀ f ∈ c.flds, L2.NoAttr X.K (clsOf X.K c.name) f
  room1 : Room (k + 1) X.A
  lam : N ∈ P.lamN → sc.isCoroutine = false → LamC X k
  mts : ∀ m ∈ P.mts, MetG P X.K X.mg m
  rpr : X.mg "repr" = none
  tup : X.mg "tuple" = none
  set : X.mg "set" = none
  srt : X.mg "sorted" = none
  nmc : ∀ c ∈ P.cls, X.mg c.name = some (.ref (clsOf X.K c.name))
  isc2 : ∀ c ∈ P.cls, (∀ t ∈ valTys, PySem.W.kitOne X.K (.type t) (.ref (clsOf X.K c.name)) = some false) ∧ ∀ d ∈ P.cls, PySem.W.kitOne X.K (.ref (clsOf X.K d.name)) (.ref (clsOf X.K c.name)) = some (decide (d.name = c.name))
  eqs : ∀ c ∈ P.cls, ∀ g, c.eqm = some g → ∃ fa fd ps, EqC X.K (clsOf X.K c.name) fa ∧ (∀ d ∈ P.cls, PySem.W.notFirst X.K (clsOf X.K c.name) (.ref (clsOf X.K d.name)) = true) ∧ L2.Binds X.K fd ps [] ∧ L2.FnOk X.prog X.w X.K X.mg X.base (L2.CX X.prog X.w) k fa fd ps (spG X.K RX Γ g)
  mks : ∀ c ∈ P.cls, ∀ q ∈ c.mks, ∃ fa fd ps dvs gU, L2.Mk X.K (clsOf X.K c.name) fa ∧ L2.KBn X.K fd ps (q.1 + 1) q.2.1 gU (fun vs zs => vs ++ fillV q.2.2.1 dvs zs) ∧ (∀ γ H, RelDs X.K γ H q.2.2.2 dvs) ∧ L2.FnOk X.prog X.w X.K X.mg X.base (L2.CX X.prog X.w) k fa fd ps (spG X.K RX Γ c.init)
  fnk : ∀ q ∈ P.kws, ∃ fa fd ps dvs gU, X.mg (P.fname q.1) = some (.ref fa) ∧ PySem.W.keepIn X.K (.ref fa) = true ∧ L2.KBn X.K fd ps q.2.1 q.2.2.1 gU (fun vs zs => vs ++ fillK q.2.2.2.1 dvs zs) ∧ (∀ γ H, RelDs X.K γ H q.2.2.2.2 dvs) ∧ L2.FnOk X.prog X.w X.K X.mg X.base (L2.CX X.prog X.w) k fa fd ps (spG X.K RX Γ q.1)
  sts : ∀ c ∈ P.cls, ∀ q ∈ c.sts, ∃ sa fa fd ps, StC X.K (clsOf X.K c.name) q.1 sa fa ∧ L2.Binds X.K fd ps [] ∧ L2.FnOk X.prog X.w X.K X.mg X.base (L2.CX X.prog X.w) k fa fd ps (spG X.K RX Γ q.2)
  ccs : ∀ c ∈ P.cls, ∀ q ∈ c.ccs, ∃ mc u v, ClX.CRead X.K (clsOf X.K c.name) mc ∧ ClX.CVal X.K (clsOf X.K c.name) mc q.1 v u ∧ ∀ γ H, RelD X.K γ H q.2 v
  make : ∀ c ∈ P.cls, c.kwi = false → ∃ fa fd ps, X.mg c.name = some (.ref (clsOf X.K c.name)) ∧ L2.Mk X.K (clsOf X.K c.name) fa ∧ L2.Binds X.K fd ps [] ∧ L2.FnOk X.prog X.w X.K X.mg X.base (L2.CX X.prog X.w) k fa fd ps (spG X.K RX Γ c.init)
  prop : ∀ c ∈ P.cls, ∀ q ∈ c.props, ∃ pa fa fd ps, L2.PropOf X.K (clsOf X.K c.name) q.1 pa fa ∧ L2.Binds X.K fd ps [] ∧ L2.FnOk X.prog X.w X.K X.mg X.base (L2.CX X.prog X.w) k fa fd ps (spG X.K RX Γ q.2)
  meth : ∀ c ∈ P.cls, ∀ q ∈ c.meths, ∃ fa fd ps, L2.Meth X.K (clsOf X.K c.name) q.1 fa ∧ L2.Binds X.K fd ps [] ∧ L2.FnOk X.prog X.w X.K X.mg X.base (L2.CX X.prog X.w) k fa fd ps (spG X.K RX Γ q.2)

section
variable {P : Prg} {N : List Str} {Γ : Callee} {RX : ExRel} {k : Nat} {X : Cx} {W : WX} {sc : Scope}
theorem Good.hu (G : Good P N Γ RX k X W sc) : X.A.units + 200 < cLine := by have := G.room.un; omega

mutual
/-- the readings of a display's pairs -/
def trsOf (K : PySem.W.Frag) (RX : ExRel) (W : WX) (Γ : Callee) : E → List (TE × TE)
  | .cons k t => trsOfV K RX W Γ (tE K RX W (ev Γ k)) t
  | _ => []
def trsOfV (K : PySem.W.Frag) (RX : ExRel) (W : WX) (Γ : Callee) (tk : TE) : E → List (TE × TE)
  | .cons v t => (tk, tE K RX W (ev Γ v)) :: trsOf K RX W Γ t
  | _ => []
end
/-- what is shown of a code -/
structure Snd (P : Prg) (N : List Str) (Γ : Callee) (RX : ExRel) (k : Nat) (c : E) : Prop where
  e : ∀ {X W sc}, Good P N Γ RX k X W sc → ∀ x, cE P N c sc x = true → PE X x (tE X.K RX W (ev Γ c))
  an : ∀ {X W sc}, Good P N Γ RX k X W sc → ∀ xs pos, cAnd P N c sc xs = true → PE X (.BoolOp .And xs pos) (tE X.K RX W (ev Γ c))
  or : ∀ {X W sc}, Good P N Γ RX k X W sc → ∀ xs pos, cOr P N c sc xs = true → PE X (.BoolOp .Or xs pos) (tE X.K RX W (ev Γ c))
  ant : ∀ {X W sc}, Good P N Γ RX k X W sc → ∀ xs pos, cAndT P N c sc xs = true → PW X (.BoolOp .And xs pos) (tT X.K RX W (evT Γ c))
  ort : ∀ {X W sc}, Good P N Γ RX k X W sc → ∀ xs pos, cOrT P N c sc xs = true → PW X (.BoolOp .Or xs pos) (tT X.K RX W (evT Γ c))
  l : ∀ {X W sc}, Good P N Γ RX k X W sc → ∀ xs, cL P N c sc xs = true → PA X xs (tA X.K RX W (evs Γ c))
  t : ∀ {X W sc}, Good P N Γ RX k X W sc → ∀ x, cT P N c sc x = true → PT X x (tT X.K RX W (evT Γ c))
  i : ∀ {X W sc}, Good P N Γ RX k X W sc → ∀ xs, cIfs P N c sc xs = true → L2.PTs X xs (tT X.K RX W (evT Γ c))
  f : ∀ {X W sc}, Good P N Γ RX k X W sc → ∀ x, cF P N c sc x = true → PE X x (tF X.K RX W (evF Γ c))
  d : ∀ {X W sc}, Good P N Γ RX k X W sc → ∀ pos ks vs, cD P N c sc ks vs = true → L2.PPs X pos ks vs (trsOf X.K RX W Γ c)
  dv : ∀ {X W sc}, Good P N Γ RX k X W sc → ∀ pos ks vs kx tk, PE X kx tk → cDv P N c sc ks vs = true → L2.PPs X pos (some kx :: ks) vs (trsOfV X.K RX W Γ tk c)
  w : ∀ {X W sc}, Good P N Γ RX k X W sc → ∀ tg x, cI P N c sc tg x = true → PI X tg x (tI X.K RX W (evI Γ c))
  kw : ∀ {X W sc}, Good P N Γ RX k X W sc → ∀ kws : List PySem.Keyword, cL P N c sc (kws.map (·.value)) = true → L2.PK X kws (tA X.K RX W (evs Γ c))

/-! the cases -/
theorem tE_ok {K : PySem.W.Frag} {m : S → R Val} {σ : L2.St} {H : Hp} {Q : VK} (d : D) (h : tE K RX W m σ H Q) (hm : ∀ s, m s = .ok (.d d) s) {x : V} (hr : ∀ γ H, RelD K γ H d x) : Q x H := by
  obtain ⟨γ, s, R, p⟩ := h
  rw [hm] at p
  exact p.here R (hr γ H)
theorem s_cst {d : D} {c : PySem.Const} {n : Nat} {pos : PySem.Pos} (h : cstB d c = true) : PE X (.Constant c n pos) (tE X.K RX W (ev Γ (.cst d))) := by
  unfold cstB at h
  split at h
  · exact weakE L2.pe_non fun σ H Q q => tE_ok .non q (fun s => by simp only [ev]) fun _ _ => .non
  · rw [beq_iff_eq] at h; subst h
    exact weakE L2.pe_bl fun σ H Q q => tE_ok (.bl _) q (fun s => by simp only [ev]) fun _ _ => .bl _
  · rw [decide_eq_true_eq] at h; subst h
    exact weakE L2.pe_int fun σ H Q q => tE_ok (.int _) q (fun s => by simp only [ev]) fun _ _ => .int _
  · rw [decide_eq_true_eq] at h; subst h
    exact weakE L2.pe_str fun σ H Q q => tE_ok (.str _) q (fun s => by simp only [ev]) fun _ _ => .str _
  · cases h
theorem notDbg_of {x : Str} (h : notDbg x = true) : (x == ("__debug__" : Str)) = false ∧ (x == ("__classdict__" : Str)) = false ∧ x ≠ "__name__" := by
  unfold notDbg at h
  simp only [Bool.and_eq_true, Bool.not_eq_true', decide_eq_false_iff_not] at h
  exact ⟨h.1.1, h.1.2, h.2⟩
theorem s_var (G : Good P N Γ RX k X W sc) {i : Nat} {x : Str} {pos : PySem.Pos} (h1 : N[i]? = some x) (h2 : visB sc x = true) (h3 : notDbg x = true) : PE X (.Name x pos) (tE X.K RX W (ev Γ (.var i))) := by
  obtain ⟨d1, d2, _⟩ := notDbg_of h3
  refine weakE (L2.pe_var (i := i) (by rw [G.hN]; exact h1) (G.vis x h2) d1 d2) fun σ H Q q => ?_
  obtain ⟨γ, s, R, p⟩ := q
  simp only [ev, getVar] at p
  split at p
  · rename_i v e
    obtain ⟨u, hu, r⟩ := R.slot i v e
    exact ⟨u, hu, p.here R r⟩
  · exact False.elim p
theorem s_gc (G : Good P N Γ RX k X W sc) {d : D} {x : Str} {pos : PySem.Pos} (h1 : glB sc x = true) (h2 : notDbg x = true) (h3 : (P.gcs.any fun p => decide (p.1 = x) && D.same p.2 d) = true) : PE X (.Name x pos) (tE X.K RX W (ev Γ (.gc d))) := by
  obtain ⟨p, hp, hq⟩ := List.any_eq_true.mp h3
  simp only [Bool.and_eq_true, decide_eq_true_eq] at hq
  obtain ⟨rfl, e⟩ := hq
  have := D.same_eq _ _ e
  subst this
  obtain ⟨u, v, hm, r, rd⟩ := G.gcs p hp
  exact weakE (L2.pe_glob (G.gl _ h1) hm r (notDbg_of h2).1) fun σ H Q q => tE_ok p.2 q (fun s => by simp only [ev]) fun γ H => rd γ H
theorem s_bin {op : Bo} {a b : E} {l r : Expr} {pos : PySem.Pos} (ha : PE X l (tE X.K RX W (ev Γ a))) (hb : PE X r (tE X.K RX W (ev Γ b))) : PE X (.BinOp l (opP op) r pos) (tE X.K RX W (ev Γ (.bin op a b))) := by
  refine weakE (L2.pe_op (opR_bin (RX := RX) (W := W) op) ha hb) fun σ H Q ⟨γ, s, R, p⟩ => ⟨γ, s, R, ?_⟩
  simp only [ev] at p
  exact p.bind fun v s1 γ1 H1 x st1 R1 r1 p1 => ⟨γ1, s1, R1, p1.bind fun w s2 γ2 H2 y st2 R2 r2 p2 => ⟨γ2, s2, σ, v, w, R2, r1.step st2 R1.tups, r2, p2⟩⟩
theorem s_cmp (hu : X.A.units + 200 < cLine) {op : Co} {a b : E} {l r : Expr} {pos : PySem.Pos} (hm : PySem.behindInMarks (coP op) r = false) (ha : PE X l (tE X.K RX W (ev Γ a))) (hb : PE X r (tE X.K RX W (ev Γ b))) : PE X (.Compare l [coP op] [r] pos) (tE X.K RX W (ev Γ (.cmp op a b))) := by
  refine weakE (L2.pe_cmpR (opR_cmp (RX := RX) (W := W) hu op) ha hb hm) fun σ H Q ⟨γ, s, R, p⟩ => ⟨γ, s, R, ?_⟩
  simp only [ev] at p
  refine p.bind fun v s1 γ1 H1 x st1 R1 r1 p1 => ⟨γ1, s1, R1, p1.bind fun w s2 γ2 H2 y st2 R2 r2 p2 => ?_⟩
  cases hc : cmpop op v w s2 with
  | none => rw [hc] at p2; exact False.elim p2
  | some b =>
    rw [hc] at p2
    exact ⟨γ2, s2, σ, v, w, b, R2, r1.step st2 R1.tups, r2, hc, Post.here (a := Val.d (D.bl b)) p2 R2 (.bl _)⟩
theorem s_cmpT (hu : X.A.units + 200 < cLine) {op : Co} {a b : E} {l r : Expr} {pos : PySem.Pos} (hm : PySem.behindInMarks (coP op) r = false) (ha : PE X l (tE X.K RX W (ev Γ a))) (hb : PE X r (tE X.K RX W (ev Γ b))) : PT X (.Compare l [coP op] [r] pos) (tT X.K RX W (evT Γ (.cmp op a b))) := by
  refine weakT (L2.pt_cmpR (opR_cmp (RX := RX) (W := W) hu op) ha hb hm) fun σ H Q ⟨γ, s, R, p⟩ => ⟨γ, s, R, ?_⟩
  simp only [evT, ev] at p
  cases ea : ev Γ a s with
  | bad => simp only [ea, Mp.R.bind] at p; exact p
  | ex _ _ => simp only [ea, Mp.R.bind] at p; exact p
  | ok v s1 =>
    simp only [ea, Mp.R.bind] at p
    intro γ1 H1 x st1 R1 r1
    refine ⟨γ1, s1, R1, ?_⟩
    cases eb : ev Γ b s1 with
    | bad => simp only [eb, Mp.R.bind] at p; exact p
    | ex _ _ => simp only [eb, Mp.R.bind] at p; exact fun γ2 H2 c d st2 => p γ2 H2 c d (st1.trans st2)
    | ok w s2 =>
      simp only [eb, Mp.R.bind] at p
      intro γ2 H2 y st2 R2 r2
      cases hc : cmpop op v w s2 with
      | none => simp only [hc, optR] at p; exact False.elim p
      | some b =>
        simp only [hc, optR, truth] at p
        exact ⟨γ2, s2, σ, v, w, b, R2, r1.step st2 R1.tups, r2, hc, b, rfl, p γ2 H2 b (st1.trans st2) R2 rfl⟩

theorem s_nil : PA X [] (tA X.K RX W (evs Γ .nil)) := weakA L2.pa_nil fun σ H Q ⟨γ, s, R, p⟩ => by
  simp only [evs] at p
  exact p.here R .nil
theorem s_cons {h t : E} {x : Expr} {xs : List Expr} (n : notStar x = true) (hh : PE X x (tE X.K RX W (ev Γ h))) (ht : PA X xs (tA X.K RX W (evs Γ t))) : PA X (x :: xs) (tA X.K RX W (evs Γ (.cons h t))) := by
  refine weakA (L2.pa_cons hh ht (star_cons n)) fun σ H Q ⟨γ, s, R, p⟩ => ⟨γ, s, R, ?_⟩
  simp only [evs] at p
  exact p.bind fun v s1 γ1 H1 x st1 R1 r1 p1 => ⟨γ1, s1, R1, p1.bind fun w s2 γ2 H2 y st2 R2 r2 p2 => p2.here R2 (.cons (r1.step st2 R1.tups) r2)⟩
theorem relVals_len {K : PySem.W.Frag} {γ : Gh} {H : Hp} {vs : List Val} {xs : List V} (h : RelVals K γ H vs xs) : vs.length = xs.length := by
  induction h with
  | nil => rfl
  | cons _ _ ih => simp only [List.length_cons, ih]
theorem toDs_len : ∀ {vs : List Val} {ds : List D}, toDs vs = some ds → vs.length = ds.length
  | [], _, e => by cases e; rfl
  | .d x :: vs, _, e => by
    simp only [toDs, Option.map_eq_some_iff] at e
    obtain ⟨l, e1, rfl⟩ := e
    simp only [List.length_cons, toDs_len e1]
  | .own _ :: _, _, e => by simp [toDs] at e
theorem s_tup {es : E} {xs : List Expr} {n : Nat} {pos : PySem.Pos} (h : PA X xs (tA X.K RX W (evs Γ es))) : PE X (.Tuple xs n pos) (tE X.K RX W (ev Γ (.tup es))) := by
  refine weakE (L2.pe_tup h) fun σ H Q ⟨γ, s, R, p⟩ => ⟨γ, s, R, ?_⟩
  simp only [ev] at p
  refine p.bind fun vs s1 γ1 H1 us st1 R1 r1 p1 => ?_
  cases hd : toDs vs with
  | none => rw [hd] at p1; exact False.elim p1
  | some ds =>
    rw [hd] at p1
    obtain ⟨hl, p1⟩ := Post.ifP p1
    have rr := toDs_rel r1 hd
    exact ⟨line_le (by rw [← relDs_len rr]; exact hl), fun a ha => p1 γ1 _ _ (Stp.new γ1 ha) (R1.new ha) (new_tup R1 ha rr)⟩
theorem s_lst {es : E} {xs : List Expr} {pos : PySem.Pos} (h : PA X xs (tA X.K RX W (evs Γ es))) : PE X (.List xs pos) (tF X.K RX W (evF Γ (.lst es))) := by
  refine weakE (L2.pe_lst h) fun σ H Q ⟨γ, s, R, p⟩ => ⟨γ, s, R, ?_⟩
  simp only [evF] at p
  cases he : evs Γ es s with
  | bad => simp only [he, Mp.R.bind] at p
  | ex _ _ => simp only [he, Mp.R.bind] at p; exact p
  | ok vs s1 =>
    simp only [he, Mp.R.bind] at p
    intro γ1 H1 us st1 R1 r1
    cases hd : toDs vs with
    | none => simp only [hd] at p
    | some ds =>
      simp only [hd] at p
      by_cases hl : ds.length ≤ LINE
      · rw [if_pos hl] at p
        have rr := toDs_rel r1 hd
        exact ⟨line_le (by rw [← relDs_len rr]; exact hl), fun a ha => p γ1 _ a us (fun z => not_liv ha (st1.trk a z)) (st1.trans (Stp.new γ1 ha)) (R1.mk1 ha) (RelDs.mk1 ha R1.tups _ _ rr) upd_same⟩
      · rw [if_neg hl] at p; exact False.elim p
theorem mk1_bad {K : PySem.W.Frag} {γ : Gh} {s : S} {σ : L2.St} {H : Hp} {a : Addr} (R : Rel K (γ.mk1 a) s σ H) (h0 : ¬ Liv γ.H0 a) (nt : a ∉ γ.tm) : ¬ γ.Bad a := by
  have t := R.tm a List.mem_cons_self
  rintro ((z | z) | z | z)
  · exact h0 (R.bo a z).1
  · exact nt z
  · exact t.2.1 z
  · exact t.2.2 z
theorem fz_read {f : E} {σ : L2.St} {H : Hp} {Q : VK} (q : tE X.K RX W (ev Γ (.fz f)) σ H Q) : tF X.K RX W (evF Γ f) σ H Q := by
  obtain ⟨γ, s, R, p⟩ := q
  refine ⟨γ, s, R, ?_⟩
  simp only [ev] at p
  cases he : evF Γ f s with
  | bad => simp only [he, Mp.R.bind] at p; exact p
  | ex _ _ => simp only [he, Mp.R.bind] at p; exact p
  | ok xs s1 =>
    simp only [he, Mp.R.bind] at p
    intro γ1 H1 a vs ha st R1 rr hv
    have n0 := R.nil_of ha
    exact p γ1 H1 _ st R1.rest (.lst hv (mk1_bad R1 (by rw [st.h0]; exact n0.1) (by rw [st.tmE]; exact n0.2)) (RelDs.les (les_mk1 γ1 a) _ _ rr))
theorem s_fz {f : E} {x : Expr} (h : PE X x (tF X.K RX W (evF Γ f))) : PE X x (tE X.K RX W (ev Γ (.fz f))) := weakE h fun _ _ _ q => fz_read q
theorem mk_read {f : E} {σ : L2.St} {H : Hp} {Q : VK} (q : tE X.K RX W (ev Γ (.mk f)) σ H Q) : tF X.K RX W (evF Γ f) σ H Q := by
  obtain ⟨γ, s, R, p⟩ := q
  refine ⟨γ, s, R, ?_⟩
  simp only [ev] at p
  cases he : evF Γ f s with
  | bad => simp only [he, Mp.R.bind] at p; exact p
  | ex _ _ => simp only [he, Mp.R.bind] at p; exact p
  | ok xs s1 =>
    simp only [he, Mp.R.bind] at p
    intro γ1 H1 a vs ha st R1 rr hv
    have n0 := R.nil_of ha
    have h0 : ¬ Liv γ1.H0 a := by rw [st.h0]; exact n0.1
    have nt : a ∉ γ1.tm := by rw [st.tmE]; exact n0.2
    refine p (γ1.ownF a) H1 (.ref a) { st with pf := List.IsPrefix.trans st.pf (List.prefix_append _ _), fn := fun x m => ?_ } (R1.ownF h0 hv rr nt) ⟨a, rfl, ?_⟩
    · rcases List.mem_append.mp m with m | m
      · exact st.fn x m
      · have e : x = a := by simpa using m
        exact .inr (e ▸ ha)
    · show (γ1.pf ++ [some a])[s1.fs.length]? = _
      rw [← show γ1.pf.length = s1.fs.length from R1.fl, List.getElem?_append_right (Nat.le_refl _), Nat.sub_self]
      rfl
theorem s_mk {f : E} {x : Expr} (h : PE X x (tF X.K RX W (evF Γ f))) : PE X x (tE X.K RX W (ev Γ (.mk f))) := weakE h fun _ _ _ q => mk_read q
theorem gl_read {f : E} {σ : L2.St} {H : Hp} {Q : VK} (q : tE X.K RX W (ev Γ (.gl f)) σ H Q) : tF X.K RX W (evF Γ f) σ H Q := by
  obtain ⟨γ, s, R, p⟩ := q
  refine ⟨γ, s, R, ?_⟩
  simp only [ev] at p
  cases he : evF Γ f s with
  | bad => simp only [he, Mp.R.bind] at p; exact p
  | ex _ _ => simp only [he, Mp.R.bind] at p; exact p
  | ok xs s1 =>
    simp only [he, Mp.R.bind] at p
    intro γ1 H1 a vs ha st R1 rr hv
    have n0 := R.nil_of ha
    have h0 : ¬ Liv γ1.H0 a := by rw [st.h0]; exact n0.1
    have nt : a ∉ γ1.tm := by rw [st.tmE]; exact n0.2
    refine p (γ1.ownG a) H1 (.ref a) { st with pg := List.IsPrefix.trans st.pg (List.prefix_append _ _), gn := fun x m => ?_ } (R1.ownG h0 hv rr nt) (.ref ?_)
    · rcases List.mem_append.mp m with m | m
      · exact st.gn x m
      · have e : x = a := by simpa using m
        exact .inr (e ▸ ha)
    · show (γ1.pg ++ [a])[s1.gs.length]? = _
      rw [← show γ1.pg.length = s1.gs.length from R1.gl, List.getElem?_append_right (Nat.le_refl _), Nat.sub_self]
      rfl
theorem s_gl {f : E} {x : Expr} (h : PE X x (tF X.K RX W (evF Γ f))) : PE X x (tE X.K RX W (ev Γ (.gl f))) := weakE h fun _ _ _ q => gl_read q
theorem s_and {a b : E} {x y : Expr} {r : List Expr} {pos : PySem.Pos} (ha : PE X x (tE X.K RX W (ev Γ a))) (hb : PE X (.BoolOp .And (y :: r) pos) (tE X.K RX W (ev Γ b))) : PE X (.BoolOp .And (x :: y :: r) pos) (tE X.K RX W (ev Γ (.and_ a b))) := by
  refine weakE (L2.pe_andT ha hb) fun σ H Q ⟨γ, s, R, p⟩ => ⟨γ, s, R, ?_⟩
  simp only [ev] at p
  refine p.bind fun v s1 γ1 H1 x st1 R1 r1 p1 => ?_
  cases hk : truth v s1 with
  | none => rw [hk] at p1; exact False.elim p1
  | some k =>
    rw [hk] at p1
    refine ⟨k, truth_rel R1 r1 hk, ?_⟩
    cases k with
    | true => exact ⟨γ1, s1, R1, p1⟩
    | false => exact Post.here (a := v) p1 R1 r1
theorem s_or {a b : E} {x y : Expr} {r : List Expr} {pos : PySem.Pos} (ha : PE X x (tE X.K RX W (ev Γ a))) (hb : PE X (.BoolOp .Or (y :: r) pos) (tE X.K RX W (ev Γ b))) : PE X (.BoolOp .Or (x :: y :: r) pos) (tE X.K RX W (ev Γ (.or_ a b))) := by
  refine weakE (L2.pe_orT ha hb) fun σ H Q ⟨γ, s, R, p⟩ => ⟨γ, s, R, ?_⟩
  simp only [ev] at p
  refine p.bind fun v s1 γ1 H1 x st1 R1 r1 p1 => ?_
  cases hk : truth v s1 with
  | none => rw [hk] at p1; exact False.elim p1
  | some k =>
    rw [hk] at p1
    refine ⟨k, truth_rel R1 r1 hk, ?_⟩
    cases k with
    | true => exact Post.here (a := v) p1 R1 r1
    | false => exact ⟨γ1, s1, R1, p1⟩
theorem s_not {a : E} {x : Expr} {pos : PySem.Pos} (ha : PE X x (tE X.K RX W (ev Γ a))) : PE X (.UnaryOp .Not x pos) (tE X.K RX W (ev Γ (.not_ a))) := by
  refine weakE (L2.pe_notT ha) fun σ H Q ⟨γ, s, R, p⟩ => ⟨γ, s, R, ?_⟩
  simp only [ev] at p
  refine p.bind fun v s1 γ1 H1 x st1 R1 r1 p1 => ?_
  cases hk : truth v s1 with
  | none => rw [hk] at p1; exact False.elim p1
  | some k =>
    rw [hk] at p1
    exact ⟨k, truth_rel R1 r1 hk, Post.here (a := Val.d (D.bl (!k))) p1 R1 (.bl _)⟩
theorem s_ife {t a b : E} {c x y : Expr} {pos : PySem.Pos} (ht : PT X c (tT X.K RX W (evT Γ t))) (ha : PE X x (tE X.K RX W (ev Γ a))) (hb : PE X y (tE X.K RX W (ev Γ b))) : PE X (.IfExp c x y pos) (tE X.K RX W (ev Γ (.ife t a b))) := by
  refine weakE (L2.pe_ifExp ht ha hb) fun σ H Q ⟨γ, s, R, p⟩ => ⟨γ, s, R, ?_⟩
  simp only [ev] at p
  refine p.bind fun k s1 γ1 H1 x st1 R1 r1 p1 => ?_
  subst r1
  cases k with
  | true => exact ⟨γ1, s1, R1, p1⟩
  | false => exact ⟨γ1, s1, R1, p1⟩
theorem s_neg {a : E} {x : Expr} {pos : PySem.Pos} (ha : PE X x (tE X.K RX W (ev Γ a))) : PE X (.UnaryOp .USub x pos) (tE X.K RX W (ev Γ (.neg a))) := by
  refine weakE (L2.pe_un L2.un_neg ha) fun σ H Q ⟨γ, s, R, p⟩ => ⟨γ, s, R, ?_⟩
  simp only [ev] at p
  refine p.bind fun v s1 γ1 H1 x st1 R1 r1 p1 => ?_
  split at p1
  · cases r1
    exact ⟨_, rfl, p1.here R1 (.int _)⟩
  · exact False.elim p1
theorem s_sub {a i : E} {x y : Expr} {pos : PySem.Pos} (hs : notSlice y = true) (ha : PE X x (tE X.K RX W (ev Γ a))) (hi : PE X y (tE X.K RX W (ev Γ i))) : PE X (.Subscript x y pos) (tE X.K RX W (ev Γ (.sub a i))) := by
  refine weakE (L2.pe_ix (ixR_sub (RX := RX) (W := W)) ha hi (slice_of hs)) fun σ H Q ⟨γ, s, R, p⟩ => ⟨γ, s, R, ?_⟩
  simp only [ev] at p
  refine p.bind fun v s1 γ1 H1 x st1 R1 r1 p1 => ⟨γ1, s1, R1, p1.bind fun w s2 γ2 H2 y st2 R2 r2 p2 => ?_⟩
  obtain ⟨z, hz, p3⟩ := Post.opt p2
  exact ⟨γ2, s2, σ, v, w, z, R2, r1.step st2 R1.tups, r2, hz, fun u ru => p3.here R2 ru⟩
theorem s_chain (hu : X.A.units + 200 < cLine) {o1 o2 : Co} {a b c : E} {l m r : Expr} {pos : PySem.Pos} (hm : PySem.lastMarks [coP o1, coP o2] [m, r] = false) (ha : PE X l (tE X.K RX W (ev Γ a))) (hb : PE X m (tE X.K RX W (ev Γ b))) (hc : PE X r (tE X.K RX W (ev Γ c))) :
    PE X (.Compare l [coP o1, coP o2] [m, r] pos) (tE X.K RX W (ev Γ (.chain o1 o2 a b c))) := by
  refine weakE (L2.pe_chain (opR_cmp (RX := RX) (W := W) hu o1) (opR_cmp (RX := RX) (W := W) hu o2) ha hb hc hm) fun σ H Q ⟨γ, s, R, p⟩ => ⟨γ, s, R, ?_⟩
  simp only [ev] at p
  refine p.bind fun v s1 γ1 H1 x st1 R1 r1 p1 => ⟨γ1, s1, R1, p1.bind fun w s2 γ2 H2 y st2 R2 r2 p2 => ?_⟩
  cases hk : cmpop o1 v w s2 with
  | none => rw [hk] at p2; exact False.elim p2
  | some k =>
    rw [hk] at p2
    refine ⟨γ2, s2, σ, v, w, k, R2, r1.step st2 R1.tups, r2, hk, k, rfl, ?_⟩
    cases k with
    | false => exact Post.here (a := Val.d (D.bl false)) p2 R2 (.bl _)
    | true =>
      have p2 : Post X.K RX W γ2 H2 σ (RelVal X.K) ((ev Γ c s2).bind fun z s => (optR (cmpop o2 w z s) s).bind fun b s => .ok (.d (.bl b)) s) Q := p2
      refine ⟨γ2, s2, R2, p2.bind fun z s3 γ3 H3 u st3 R3 r3 p3 => ?_⟩
      cases hk2 : cmpop o2 w z s3 with
      | none => rw [hk2] at p3; exact False.elim p3
      | some k2 =>
        rw [hk2] at p3
        exact ⟨γ3, s3, σ, w, z, k2, R3, r2.step st3 R2.tups, r3, hk2, Post.here (a := Val.d (D.bl k2)) p3 R3 (.bl _)⟩
theorem s_truth {c : E} {x : Expr} (hp : plainT x = true) (he : ∀ s, evT Γ c s = (ev Γ c s).bind fun x s => optR (truth x s) s) (h : PE X x (tE X.K RX W (ev Γ c))) : PT X x (tT X.K RX W (evT Γ c)) := by
  refine weakT (L2.pt_truth h (plainT_of hp)) fun σ H Q ⟨γ, s, R, p⟩ => ⟨γ, s, R, ?_⟩
  rw [he] at p
  refine p.bind fun v s1 γ1 H1 x st1 R1 r1 p1 => ?_
  obtain ⟨k, hk, p2⟩ := Post.opt p1
  exact ⟨k, truth_rel R1 r1 hk, p2.here R1 rfl⟩
theorem s_andT {a b : E} {x y : Expr} {r : List Expr} {pos : PySem.Pos} (ha : PT X x (tT X.K RX W (evT Γ a))) (hb : PW X (.BoolOp .And (y :: r) pos) (tT X.K RX W (evT Γ b))) : PW X (.BoolOp .And (x :: y :: r) pos) (tT X.K RX W (evT Γ (.and_ a b))) := by
  have h := L2.pw_and (pos := pos) ha hb
  refine ⟨fun wh ps st τ H Q I q => h.run wh ps st τ H Q I ?_⟩
  obtain ⟨γ, s, R, p⟩ := q
  refine ⟨γ, s, R, ?_⟩
  simp only [evT] at p
  refine p.bind fun k s1 γ1 H1 x st1 R1 r1 p1 => ?_
  subst r1
  cases k with
  | true => exact ⟨γ1, s1, R1, p1⟩
  | false => exact Post.here (a := false) p1 R1 rfl
theorem s_orT {a b : E} {x y : Expr} {r : List Expr} {pos : PySem.Pos} (ha : PT X x (tT X.K RX W (evT Γ a))) (hb : PW X (.BoolOp .Or (y :: r) pos) (tT X.K RX W (evT Γ b))) : PW X (.BoolOp .Or (x :: y :: r) pos) (tT X.K RX W (evT Γ (.or_ a b))) := by
  have h := L2.pw_or (pos := pos) ha hb
  refine ⟨fun wh ps st τ H Q I q => h.run wh ps st τ H Q I ?_⟩
  obtain ⟨γ, s, R, p⟩ := q
  refine ⟨γ, s, R, ?_⟩
  simp only [evT] at p
  refine p.bind fun k s1 γ1 H1 x st1 R1 r1 p1 => ?_
  subst r1
  cases k with
  | true => exact Post.here (a := true) p1 R1 rfl
  | false => exact ⟨γ1, s1, R1, p1⟩
theorem s_notT {a : E} {x : Expr} {pos : PySem.Pos} (ha : PT X x (tT X.K RX W (evT Γ a))) : PT X (.UnaryOp .Not x pos) (tT X.K RX W (evT Γ (.not_ a))) := by
  refine weakT (L2.pt_not ha) fun σ H Q ⟨γ, s, R, p⟩ => ⟨γ, s, R, ?_⟩
  simp only [evT] at p
  refine p.bind fun k s1 γ1 H1 x st1 R1 r1 p1 => ?_
  subst r1
  exact p1.here R1 rfl
theorem evT_chain {o1 o2 : Co} {a b c : E} {s : S} : evT Γ (.chain o1 o2 a b c) s = (ev Γ a s).bind fun x s => (ev Γ b s).bind fun y s => (optR (cmpop o1 x y s) s).bind fun k s =>
      if k then (ev Γ c s).bind fun z s => optR (cmpop o2 y z s) s else .ok false s := by
  simp only [evT, ev]
  cases ev Γ a s with
  | bad => rfl
  | ex _ _ => rfl
  | ok v s1 =>
    simp only [Mp.R.bind]
    cases ev Γ b s1 with
    | bad => rfl
    | ex _ _ => rfl
    | ok w s2 =>
      simp only []
      cases cmpop o1 v w s2 with
      | none => rfl
      | some k =>
        cases k with
        | false => rfl
        | true =>
          simp only [optR, if_true]
          cases ev Γ c s2 with
          | bad => rfl
          | ex _ _ => rfl
          | ok z s3 =>
            simp only []
            cases cmpop o2 w z s3 <;> rfl
theorem s_chainT (hu : X.A.units + 200 < cLine) {o1 o2 : Co} {a b c : E} {l m r : Expr} {pos : PySem.Pos} (hm : PySem.lastMarks [coP o1, coP o2] [m, r] = false) (ha : PE X l (tE X.K RX W (ev Γ a))) (hb : PE X m (tE X.K RX W (ev Γ b))) (hc : PE X r (tE X.K RX W (ev Γ c))) :
    PT X (.Compare l [coP o1, coP o2] [m, r] pos) (tT X.K RX W (evT Γ (.chain o1 o2 a b c))) := by
  refine weakT (L2.pt_chain (opR_cmp (RX := RX) (W := W) hu o1) (opR_cmp (RX := RX) (W := W) hu o2) ha hb hc hm) fun σ H Q ⟨γ, s, R, p⟩ => ⟨γ, s, R, ?_⟩
  rw [evT_chain] at p
  refine p.bind fun v s1 γ1 H1 x st1 R1 r1 p1 => ⟨γ1, s1, R1, p1.bind fun w s2 γ2 H2 y st2 R2 r2 p2 => ?_⟩
  cases hk : cmpop o1 v w s2 with
  | none => rw [hk] at p2; exact False.elim p2
  | some k =>
    rw [hk] at p2
    refine ⟨γ2, s2, σ, v, w, k, R2, r1.step st2 R1.tups, r2, hk, k, rfl, ?_⟩
    cases k with
    | false => exact ⟨false, rfl, Post.here (a := false) p2 R2 rfl⟩
    | true =>
      have p2 : Post X.K RX W γ2 H2 σ (fun _ _ a b => a = b) ((ev Γ c s2).bind fun z s => optR (cmpop o2 w z s) s) Q := p2
      refine ⟨γ2, s2, R2, p2.bind fun z s3 γ3 H3 u st3 R3 r3 p3 => ?_⟩
      obtain ⟨k2, hk2, p4⟩ := Post.opt p3
      exact ⟨γ3, s3, σ, w, z, k2, R3, r2.step st3 R2.tups, r3, hk2, k2, rfl, p4.here R3 rfl⟩
end
end Mp

/-! Mp: calls, comprehensions; every checked code is sound. -/
namespace Mp
open PySem (Addr Value Expr PyData Str CmpOp Operator binaryOp compareOp cLine Scope Env NameKind)
open L2 (V HO Hp upd upd_same upd_ne SqT SqL Rd PE PT PW PA PI PG Cx OpR TE TT TA TI TG VK XK WX RelV EP CallR MtR IxR Gl Sp It Room Takes Vis)
variable [TabT]

section
variable {P : Prg} {N : List Str} {Γ : Callee} {RX : ExRel} {k : Nat} {X : Cx} {W : WX} {sc : Scope}
/-- a call of a def, of a value to be found -/
theorem s_call0 {f : Addr} {fd : PySem.FuncData} {ps : List Str} {sp : Sp} {E : L2.St → XK} {x : Str} {p pos : PySem.Pos} (F : L2.FnOk X.prog X.w X.K X.mg X.base (L2.CX X.prog X.w) k f fd ps sp) (hr : Room k X.A) (hg : Gl X x) (hm : X.mg x = some (.ref f))
    (hk : PySem.W.keepIn X.K (.ref f) = true) (hb : L2.Binds X.K fd ps []) (hx : ∀ σ, L2.PassesAt (L2.CX X.prog X.w) X σ (E σ)) (hd : (x == ("__debug__" : Str)) = false) : PE X (.Call (.Name x p) [] [] pos) (fun σ H Q => sp [] H Q (E σ)) :=
  ⟨fun pins s σ H Q I h => PySem.wpAny_Call_Name_kw (L2.ld_glob I hg hm (PySem.W.callWith_K0 I.kIn hk (L2.run_fnS (us := []) F hr hb (hx σ) I .nil h)) hd)⟩
theorem plain_args {t : E} {ys : List Expr} {env : Env} (h : cL P N t sc ys = true) (pos : PySem.Pos) : ((PySem.backTo pos (PySem.starEach ys env)).any (·.1)) = false := by
  induction ys generalizing t with
  | nil => rfl
  | cons z zs ih =>
    have hz : notStar z = true ∧ ∃ t, cL P N t sc zs = true := by
      cases t <;> first | (simp only [cL, Bool.and_eq_true] at h; exact ⟨h.1.2, _, h.2⟩) | (simp [cL] at h)
    obtain ⟨t2, ht2⟩ := hz.2
    rw [star_cons hz.1]
    have := ih ht2
    simp only [PySem.backTo, List.map_cons, List.any_cons] at this ⊢
    rw [this]
    rfl
theorem cL_cons {t : E} {y : Expr} {ys : List Expr} (h : cL P N t sc (y :: ys) = true) : notStar y = true ∧ ∃ t, cL P N t sc ys = true := by
  cases t <;> first | (simp only [cL, Bool.and_eq_true] at h; exact ⟨h.1.2, _, h.2⟩) | (simp [cL] at h)
theorem cL_nil {t : E} (h : cL P N t sc [] = true) : t = .nil := by
  cases t <;> first | rfl | (simp [cL] at h)
theorem s_call (G : Good P N Γ RX k X W sc) {f : Nat} {es : E} {x : Str} {xs : List Expr} {p pos : PySem.Pos} (hx : x = P.fname f) (hf : f < P.nf) (hg : glB sc x = true) (hd : notDbg x = true) (hs : cL P N es sc xs = true) (ha : PA X xs (tA X.K RX W (evs Γ es))) :
    PE X (.Call (.Name x p) xs [] pos) (tE X.K RX W (ev Γ (.call f es))) := by
  obtain ⟨fa, fd, pss, hm, hk, hb, F⟩ := G.fns f hf
  subst hx
  cases xs with
  | nil =>
    refine weakE (s_call0 (E := fun σ => L2.WE W σ) F G.room (G.gl _ hg) hm hk hb (fun σ => L2.passAt G.tk σ) (notDbg_of hd).1) fun σ H Q ⟨γ, s, R, p⟩ => ?_
    have := cL_nil hs
    subst this
    simp only [ev, evs, Mp.R.bind] at p
    exact call_reading G.steady R .nil p
  | cons y ys =>
    obtain ⟨hst, t, ht⟩ := cL_cons hs
    refine weakE (L2.pe_callS (E := fun σ => L2.WE W σ) F G.room (G.gl _ hg) hm hk hb (fun σ => L2.passAt G.tk σ) ha (notDbg_of hd).1 (star_cons hst) (plain_args ht _)) fun σ H Q ⟨γ, s, R, p⟩ => ⟨γ, s, R, ?_⟩
    simp only [ev] at p
    exact p.bind fun vs s1 γ1 H1 us st1 R1 r1 p1 => call_reading G.steady R1 r1 p1
theorem s_bf (G : Good P N Γ RX k X W sc) {b : Bf} {es : E} {y : Expr} {ys : List Expr} {p pos : PySem.Pos} (hg : glB sc (bfN b) = true) (hs : cL P N es sc (y :: ys) = true) (ha : PA X (y :: ys) (tA X.K RX W (evs Γ es))) :
    PE X (.Call (.Name (bfN b) p) (y :: ys) [] pos) (tE X.K RX W (ev Γ (.bf b es))) := by
  obtain ⟨hst, t, ht⟩ := cL_cons hs
  have key : PE X (.Call (.Name (bfN b) p) (y :: ys) [] pos) (L2.tCB (rBf X.K RX W b) (tA X.K RX W (evs Γ es))) := by
    have hc := callR_bf (RX := RX) (W := W) G.calm b
    cases b <;> first
      | exact L2.pe_callB hc (G.gl _ hg) (G.blt _) (bf_boot _) ha (bf_name _) (bf_debug _) (star_cons hst) (plain_args ht _)
      | exact L2.pe_callTy hc (G.gl _ hg) (G.blt _) (bf_boot _) ha (bf_name _) (bf_debug _) (star_cons hst) (plain_args ht _)
  refine weakE key fun σ H Q ⟨γ, s, R, p⟩ => ⟨γ, s, R, ?_⟩
  simp only [ev] at p
  exact p.bind fun vs s1 γ1 H1 us st1 R1 r1 p1 => ⟨γ1, s1, σ, vs, R1, r1, p1⟩
theorem s_isi (G : Good P N Γ RX k X W sc) {cs : List Str} {a : E} {t : Tg} {y : Expr} {p p2 pos : PySem.Pos} (hg : glB sc "isinstance" = true) (ht : tgOk t = true) (hg2 : glB sc (tgS t) = true) (hst : notStar y = true) (hcs : cs.all P.clsB = true) (ha : PE X y (tE X.K RX W (ev Γ a))) :
    PE X (.Call (.Name "isinstance" p) [y, .Name (tgS t) p2] [] pos) (tE X.K RX W (ev Γ (.isi cs a t))) := by
  have hz : PE X (.Name (tgS t) p2) (L2.tC (.ty (tgN t))) := L2.pe_bltn (G.gl _ hg2) (G.tgs t ht) (tg_boot t ht) rfl (tg_name t) (tg_debug t)
  refine weakE (L2.pe_callB L2.call_isi (G.gl _ hg) G.isi (by decide +kernel) (L2.pa_cons ha (L2.pa_cons hz L2.pa_nil) (star_cons hst)) (by decide +kernel) (by decide +kernel) (star_cons hst) (by rfl)) fun σ H Q ⟨γ, s, R, p⟩ => ⟨γ, s, R, ?_⟩
  simp only [ev] at p
  refine p.bind fun v s1 γ1 H1 x st1 R1 r1 p1 => ?_
  cases hk : isTag cs v s1 t with
  | none => rw [hk] at p1; exact False.elim p1
  | some b =>
    rw [hk] at p1
    obtain ⟨n, ty, kb⟩ := isTag_rel R1 ht (fun c hc => by
      have := List.all_eq_true.mp hcs c hc
      unfold Prg.clsB at this
      obtain ⟨d, hd, h1⟩ := List.any_eq_true.mp this
      simp only [decide_eq_true_eq] at h1
      subst h1
      exact ⟨(G.isc d hd).1, (G.isc d hd).2 t ht⟩) r1 hk
    exact ⟨x, .ty (tgN t), _, _, b, rfl, .ty _, ty, kb, Post.here (a := Val.d (D.bl b)) p1 R1 (.bl _)⟩
theorem len_lt {α : Type} {l : List α} (h : l.length < 29) (h2 : PySem.Pos) : True := trivial
theorem bm_plain {env : Env} {t : E} {y : Expr} {ys : List Expr} (hs : cL P N t sc (y :: ys) = true) (pos : PySem.Pos) (hl : (y :: ys).length < 29) :
    (((((PySem.backTo pos (PySem.starEach (y :: ys) env)).all fun x => !x.1) && (PySem.backToKw pos (PySem.keywordEach [] env)).all fun x => x.1.isSome) && decide (((y :: ys).length + ([] : List PySem.Keyword).length + if ([] : List PySem.Keyword).isEmpty = true then 0 else 1) < 30)) = true) := by
  have h1 := plain_args (env := env) hs pos
  have h2 : ((PySem.backTo pos (PySem.starEach (y :: ys) env)).all fun x => !x.1) = true := by
    rw [List.all_eq_not_any_not]
    simp only [Bool.not_not]
    rw [h1]
    rfl
  rw [h2]
  have h3 : ((PySem.backToKw pos (PySem.keywordEach [] env)).all fun x => x.1.isSome) = true := rfl
  rw [h3]
  simp only [Bool.and_self, Bool.true_and, decide_eq_true_eq, List.length_nil, List.isEmpty_nil, if_true]
  omega
theorem s_bm (G : Good P N Γ RX k X W sc) {m : Bm} {a es : E} {o y : Expr} {ys : List Expr} {ap cp : PySem.Pos} (hm : m = .join ∨ m = .append ∨ m = .pop) (hs : cL P N es sc (y :: ys) = true) (hb : notCall o = true) (hpos : (ap.endLine == cp.line) = true) (hl : (y :: ys).length < 29)
    (ho : PE X o (tE X.K RX W (ev Γ a))) (ha : PA X (y :: ys) (tA X.K RX W (evs Γ es))) : PE X (.Call (.Attribute o (bmN m) ap) (y :: ys) [] cp) (tE X.K RX W (ev Γ (.bm m a es))) := by
  obtain ⟨hst, t, ht⟩ := cL_cons hs
  rcases hm with rfl | rfl | rfl
  · refine weakE (L2.pe_bm PySem.F.plainAttrs_str PySem.F.slot_str_join PySem.F.type_str_join (mtR_join (RX := RX) (W := W)) ho ha (base_of hb) (bm_plain hs _ hl) hpos (star_cons hst) (plain_args ht _)) fun σ H Q ⟨γ, s, R, p⟩ => ⟨γ, s, R, ?_⟩
    simp only [ev] at p
    refine p.bind fun v s1 γ1 H1 x st1 R1 r1 p1 => ?_
    obtain ⟨hr, p1⟩ := Post.ifP p1
    refine ⟨?_, γ1, s1, R1, p1.bind fun vs s2 γ2 H2 us st2 R2 r2 p2 => ⟨γ2, s2, σ, v, vs, R2, r1.step st2 R1.tups, r2, p2⟩⟩
    unfold recv at hr
    split at hr
    · cases r1; exact rfl
    · cases hr
    · contradiction
  · refine weakE (L2.pe_bm PySem.F.plainAttrs_list PySem.F.slot_list_append PySem.F.type_list_append (mtR_append (RX := RX) (W := W)) ho ha (base_of hb) (bm_plain hs _ hl) hpos (star_cons hst) (plain_args ht _)) fun σ H Q ⟨γ, s, R, p⟩ => ⟨γ, s, R, ?_⟩
    simp only [ev] at p
    refine p.bind fun v s1 γ1 H1 x st1 R1 r1 p1 => ?_
    obtain ⟨hr, p1⟩ := Post.ifP p1
    refine ⟨?_, γ1, s1, R1, p1.bind fun vs s2 γ2 H2 us st2 R2 r2 p2 => ⟨γ2, s2, σ, v, vs, R2, r1.step st2 R1.tups, r2, p2⟩⟩
    unfold recv at hr
    split at hr
    · contradiction
    · contradiction
    · obtain ⟨xs, hx⟩ := Option.isSome_iff_exists.mp hr
      obtain ⟨b, vs, rfl, hv, _⟩ := lsto_rel R1 r1 hx
      exact .inl ⟨rfl, vs, SqL.of hv⟩
  · refine weakE (L2.pe_bm PySem.F.plainAttrs_list PySem.F.slot_list_pop PySem.F.type_list_pop (mtR_pop (RX := RX) (W := W)) ho ha (base_of hb) (bm_plain hs _ hl) hpos (star_cons hst) (plain_args ht _)) fun σ H Q ⟨γ, s, R, p⟩ => ⟨γ, s, R, ?_⟩
    simp only [ev] at p
    refine p.bind fun v s1 γ1 H1 x st1 R1 r1 p1 => ?_
    obtain ⟨hr, p1⟩ := Post.ifP p1
    refine ⟨?_, γ1, s1, R1, p1.bind fun vs s2 γ2 H2 us st2 R2 r2 p2 => ⟨γ2, s2, σ, v, vs, R2, r1.step st2 R1.tups, r2, p2⟩⟩
    unfold recv at hr
    split at hr
    · contradiction
    · contradiction
    · obtain ⟨xs, hx⟩ := Option.isSome_iff_exists.mp hr
      obtain ⟨b, vs, rfl, hv, _⟩ := lsto_rel R1 r1 hx
      exact .inl ⟨rfl, vs, SqL.of hv⟩
/-- list(x) -/
theorem s_lof (G : Good P N Γ RX k X W sc) {a : E} {y : Expr} {p pos : PySem.Pos} (hg : glB sc "list" = true) (hst : notStar y = true) (ha : PE X y (tE X.K RX W (ev Γ a))) :
    PE X (.Call (.Name "list" p) [y] [] pos) (tF X.K RX W (evF Γ (.lof a))) := by
  refine weakE (L2.pe_callTy L2.call_list_of (G.gl _ hg) G.lst (by decide +kernel) (L2.pa_cons ha L2.pa_nil (star_cons hst)) (by decide +kernel) (by decide +kernel) (star_cons hst) (by rfl)) fun σ H Q ⟨γ, s, R, p⟩ => ⟨γ, s, R, ?_⟩
  simp only [evF] at p
  cases he : ev Γ a s with
  | bad => simp only [he, Mp.R.bind] at p
  | ex _ _ => simp only [he, Mp.R.bind] at p; exact p
  | ok v s1 =>
    simp only [he, Mp.R.bind] at p
    intro γ1 H1 x st1 R1 r1
    cases hq : seqv v s1 with
    | none => simp only [hq] at p
    | some q =>
      obtain ⟨b, xs⟩ := q
      simp only [hq] at p
      obtain ⟨a', vs, rfl, rr, t⟩ := seq_rel R1 r1 hq
      refine ⟨a', vs, rfl, ?_, fun l hl => p γ1 _ l vs (fun z => not_liv hl (st1.trk l z)) (st1.trans (Stp.new γ1 hl)) (R1.mk1 hl) (RelDs.mk1 hl R1.tups _ _ rr) upd_same⟩
      split at t
      · exact .inl t
      · exact .inr t
/-- two lists joined, a new list -/
theorem s_cat {a b : E} {l r : Expr} {pos : PySem.Pos} (ha : PE X l (tE X.K RX W (ev Γ a))) (hb : PE X r (tE X.K RX W (ev Γ b))) : PE X (.BinOp l .Add r pos) (tF X.K RX W (evF Γ (.cat a b))) := by
  refine weakE (L2.pe_op L2.op_cat ha hb) fun σ H Q ⟨γ, s, R, p⟩ => ⟨γ, s, R, ?_⟩
  simp only [evF] at p
  cases he : ev Γ a s with
  | bad => simp only [he, Mp.R.bind] at p
  | ex _ _ => simp only [he, Mp.R.bind] at p; exact p
  | ok v s1 =>
    simp only [he, Mp.R.bind] at p
    intro γ1 H1 x st1 R1 r1
    refine ⟨γ1, s1, R1, ?_⟩
    cases he2 : ev Γ b s1 with
    | bad => simp only [he2] at p
    | ex _ _ => simp only [he2] at p; exact fun γ2 H2 c d st2 => p γ2 H2 c d (st1.trans st2)
    | ok w s2 =>
      simp only [he2] at p
      intro γ2 H2 y st2 R2 r2
      cases h1 : lsto v s2 with
      | none => simp only [h1] at p
      | some xs =>
        cases h2 : lsto w s2 with
        | none => simp only [h1, h2] at p
        | some ys =>
          simp only [h1, h2] at p
          by_cases hl : xs.length + ys.length ≤ LINE
          · rw [if_pos hl] at p
            obtain ⟨a1, vs, rfl, e1, q1⟩ := lsto_rel R2 (r1.step st2 R1.tups) h1
            obtain ⟨a2, us, rfl, e2, q2⟩ := lsto_rel R2 r2 h2
            have st := st1.trans st2
            exact ⟨a1, a2, vs, us, rfl, rfl, e1, e2, line_le (by rw [← relDs_len q1, ← relDs_len q2]; exact hl), fun l hl => p γ2 _ l _ (fun z => not_liv hl (st.trk l z)) (st.trans (Stp.new γ2 hl)) (R2.mk1 hl) (RelDs.mk1 hl R2.tups _ _ (relDs_app q1 q2)) upd_same⟩
          · rw [if_neg hl] at p; exact False.elim p

/-! ### what is walked -/
theorem sts_seq {K : PySem.W.Frag} {γ γ' : Gh} {H H' : Hp} {a : Addr} {vs : List V} (hs : (H a = some (.lst vs) ∧ ¬ γ.Bad a) ∨ (Rd H a (.lst vs) ∧ ¬ γ.Bad a) ∨ KLst K a vs) (st : Sts γ H γ' H') : SqL K H' a vs := by
  rcases hs with ⟨h, nb⟩ | ⟨h, nb⟩ | h
  · exact SqL.of (st.frame a _ h lst_nt (fun z => nb (.inr (.inl z))) fun z => nb (.inr (.inr z)))
  · exact .inl (st.rdL h nb)
  · exact h H'
theorem s_it {e : E} {tg x : Expr} (h : PE X x (tE X.K RX W (ev Γ e))) : PI X tg x (tI X.K RX W (evI Γ (.it e))) := by
  refine ⟨fun ps st σ H Q I q => ?_⟩
  obtain ⟨γ, s, R, p⟩ := q
  simp only [evI] at p
  cases he : ev Γ e s with
  | bad => simp only [he, Mp.R.bind] at p
  | ex e1 s1 =>
    simp only [he, Mp.R.bind] at p
    exact (L2.pi_list h).run ps st σ H Q I ⟨γ, s, R, by rw [he]; exact p⟩
  | ok v s1 =>
    simp only [he, Mp.R.bind] at p
    have ls : ∀ {xs : List D}, (∀ {γ' H' x}, Rel X.K γ' s1 σ H' → RelVal X.K γ' H' v x → ∃ a vs, x = V.ref a ∧ RelDs X.K γ' H' xs vs ∧ ((H' a = some (.lst vs) ∧ ¬ γ'.Bad a) ∨ (Rd H' a (.lst vs) ∧ ¬ γ'.Bad a) ∨ KLst X.K a vs)) →
        (∀ (γ' : Gh) (H' : Hp) (J : It), Stp γ H γ' H' → Rel X.K γ' s1 σ H' → Wk X.K γ' H' J xs → Q J H') → _ := fun {xs} hv p => (L2.pi_list (tg := tg) h).run ps st σ H Q I ⟨γ, s, R, by
      rw [he]
      intro γ1 H1 x st1 R1 r1
      obtain ⟨a, vs, rfl, rr, hq⟩ := hv R1 r1
      exact ⟨a, rfl, ⟨vs, sts_seq hq (Sts.refl γ1 H1)⟩, p γ1 H1 _ st1 R1 (wk_list R1.tups (fun γ' H' st => sts_seq hq st) rr)⟩⟩
    cases v with
    | own _ => exact False.elim p
    | d y =>
      cases y with
      | lst xs => exact ls (fun _ r1 => by cases r1 with | lst h nb rr => exact ⟨_, _, rfl, rr, .inl ⟨h, nb⟩⟩) p
      | tup xs =>
        refine (L2.pi_tup h).run ps st σ H Q I ⟨γ, s, R, ?_⟩
        rw [he]
        intro γ1 H1 x st1 R1 r1
        cases r1 with
        | tup h1 rr => exact ⟨_, rfl, ⟨_, h1⟩, p γ1 H1 _ st1 R1 (wk_tup R1.tups h1 rr)⟩
      | scr xs => exact ls (fun _ r1 => by
          cases r1 with
          | scr h nb rr => exact ⟨_, _, rfl, rr, .inr (.inl ⟨h, nb⟩)⟩
          | scrK h rr => exact ⟨_, _, rfl, rr, .inr (.inr h)⟩) p
      | str z =>
        by_cases hz : z.length ≤ LINE
        · simp only [hz, if_true] at p
          refine (L2.pi_str h).run ps st σ H Q I ⟨γ, s, R, ?_⟩
          rw [he]
          intro γ1 H1 x st1 R1 r1
          cases r1
          refine ⟨z, rfl, p γ1 H1 _ st1 R1 (wk_of L2.walk_str (by simp) fun i H x H' d y e => ?_)⟩
          obtain ⟨rfl, c, hc, rfl⟩ := y
          refine ⟨rfl, fun γ => ?_⟩
          rw [List.getElem?_map] at e
          have : z.cps.toList[i]? = some c := by rw [Array.getElem?_toList]; exact hc
          rw [this] at e
          cases e
          exact .str _
        · simp only [hz, if_false] at p
      | _ => exact False.elim p
theorem rngL_get {lo hi : Int} {i : Nat} {d : D} (h : (rngL lo hi)[i]? = some d) : d = .int (lo + i) := by
  unfold rngL at h
  rw [List.getElem?_map] at h
  obtain ⟨j, hj, rfl⟩ := Option.map_eq_some_iff.mp h
  obtain ⟨hl, e⟩ := List.getElem?_eq_some_iff.mp hj
  rw [List.getElem_range] at e
  rw [e]
theorem rngL_len (lo hi : Int) : (rngL lo hi).length = (hi - lo).toNat := by unfold rngL; simp
theorem wk_rng {K : PySem.W.Frag} {γ : Gh} {H : Hp} (lo hi : Int) {n : Nat} (hn : n = (hi - lo).toNat) : Wk K γ H (L2.Itr lo n) (rngL lo hi) :=
  wk_of L2.walk_range (by rw [rngL_len, hn]) fun i H x H' d y e => by
    obtain ⟨rfl, rfl⟩ := y
    rw [rngL_get e]
    exact ⟨rfl, fun γ => .int _⟩
theorem evs_one {es : E} {a : Expr} {s s1 : S} {vs : List Val} (hs : cL P N es sc [a] = true) (h : evs Γ es s = .ok vs s1) : ∃ v, vs = [v] := by
  cases es with
  | cons hh tt =>
    simp only [cL, Bool.and_eq_true] at hs
    rw [cL_nil hs.2] at h
    simp only [evs] at h
    cases h2 : ev Γ hh s with
    | bad => rw [h2] at h; simp at h
    | ex _ _ => rw [h2] at h; simp at h
    | ok v s2 => rw [h2] at h; simp only [Mp.R.bind] at h; cases h; exact ⟨v, rfl⟩
  | _ => simp [cL] at hs
theorem evs_two {es : E} {a b : Expr} {s s1 : S} {vs : List Val} (hs : cL P N es sc [a, b] = true) (h : evs Γ es s = .ok vs s1) : ∃ v w, vs = [v, w] := by
  cases es with
  | cons hh tt =>
    simp only [cL, Bool.and_eq_true] at hs
    simp only [evs] at h
    cases h2 : ev Γ hh s with
    | bad => rw [h2] at h; simp at h
    | ex _ _ => rw [h2] at h; simp at h
    | ok v s2 =>
      rw [h2] at h
      simp only [Mp.R.bind] at h
      cases h3 : evs Γ tt s2 with
      | bad => rw [h3] at h; simp at h
      | ex _ _ => rw [h3] at h; simp at h
      | ok ws s3 =>
        obtain ⟨w, rfl⟩ := evs_one hs.2 h3
        rw [h3] at h; simp only [] at h; cases h; exact ⟨v, w, rfl⟩
  | _ => simp [cL] at hs
theorem line_int : ((LINE : Nat) : Int) = 1000000 := rfl
theorem s_rng (G : Good P N Γ RX k X W sc) {es : E} {tg : Expr} {args : List Expr} {p pos : PySem.Pos} (hg : glB sc "range" = true) (hs : cL P N es sc args = true) (hl : (∃ a, args = [a]) ∨ ∃ a b, args = [a, b]) (ha : PA X args (tA X.K RX W (evs Γ es))) :
    PI X tg (.Call (.Name "range" p) args [] pos) (tI X.K RX W (evI Γ (.rng es))) := by
  rcases hl with ⟨a, rfl⟩ | ⟨a, b, rfl⟩
  · obtain ⟨h1, t, ht⟩ := cL_cons hs
    refine weakI (L2.pi_range1 (G.gl _ hg) G.rng ha (star_cons h1)) fun σ H Q ⟨γ, s, R, p⟩ => ⟨γ, s, R, ?_⟩
    simp only [evI] at p
    cases he : evs Γ es s with
    | bad => simp only [he, Mp.R.bind] at p
    | ex _ _ => simp only [he, Mp.R.bind] at p; exact p
    | ok vs s1 =>
      simp only [he, Mp.R.bind] at p
      intro γ1 H1 us st1 R1 r1
      obtain ⟨v, rfl⟩ := evs_one hs he
      obtain ⟨x, rfl, rx⟩ := relVals_one r1
      cases v with
      | own _ => simp only [rngV] at p
      | d y =>
        cases y with
        | int n =>
          simp only [rngV] at p
          by_cases hc : (decide (-(LINE : Int) ≤ n) && decide (n ≤ (LINE : Int))) = true
          · rw [if_pos hc] at p
            simp only [Bool.and_eq_true, decide_eq_true_eq] at hc
            rw [line_int] at hc
            cases rx
            exact ⟨n, rfl, by omega, by omega, p γ1 H1 _ st1 R1 (wk_rng 0 n (by omega))⟩
          · rw [if_neg hc] at p; exact False.elim p
        | _ => simp only [rngV] at p
  · obtain ⟨h1, t, ht⟩ := cL_cons hs
    obtain ⟨h2, t2, ht2⟩ := cL_cons ht
    refine weakI (L2.pi_range2 (G.gl _ hg) G.rng ha (by rw [star_cons h1, star_cons h2]; rfl) (star_cons h2)) fun σ H Q ⟨γ, s, R, p⟩ => ⟨γ, s, R, ?_⟩
    simp only [evI] at p
    cases he : evs Γ es s with
    | bad => simp only [he, Mp.R.bind] at p
    | ex _ _ => simp only [he, Mp.R.bind] at p; exact p
    | ok vs s1 =>
      simp only [he, Mp.R.bind] at p
      intro γ1 H1 us st1 R1 r1
      obtain ⟨v, w, rfl⟩ := evs_two hs he
      obtain ⟨x, y, rfl, rx, ry⟩ := relVals_two r1
      have key : ∀ i j, v = .d (.int i) → w = .d (.int j) → ∃ i' j', [x, y] = [V.int i', V.int j'] ∧ (-2 ^ 62 ≤ i' ∧ i' < 2 ^ 62 ∧ -2 ^ 62 ≤ j' ∧ j' < 2 ^ 62) ∧ Q (L2.Itr i' (j' - i').toNat) H1 := fun i j e1 e2 => by
        subst e1 e2
        simp only [rngV] at p
        by_cases hc : (decide (-(LINE : Int) ≤ i) && decide (i ≤ (LINE : Int)) && decide (-(LINE : Int) ≤ j) && decide (j ≤ (LINE : Int))) = true
        · rw [if_pos hc] at p
          simp only [Bool.and_eq_true, decide_eq_true_eq] at hc
          rw [line_int] at hc
          cases rx; cases ry
          exact ⟨i, j, rfl, by omega, p γ1 H1 _ st1 R1 (wk_rng i j rfl)⟩
        · rw [if_neg hc] at p; exact False.elim p
      cases v with
      | own _ => simp only [rngV] at p
      | d v =>
        cases w with
        | own _ => cases v <;> simp only [rngV] at p
        | d w =>
          cases v with
          | int i =>
            cases w with
            | int j => exact key i j rfl rfl
            | _ => simp only [rngV] at p
          | _ => cases w <;> simp only [rngV] at p

/-! ### comprehensions -/
theorem relab {env : Env} : ∀ {names : List (Str × NameKind)} {x : Str} {kd : NameKind}, names.lookup x = some kd →
    (names.map fun (n, k) => if (k == NameKind.free && env.scope.kind == .function && env.kindOf n == some .cell) then (n, NameKind.cell) else (n, k)).lookup x = some kd ∨
    (kd = .free ∧ (names.map fun (n, k) => if (k == NameKind.free && env.scope.kind == .function && env.kindOf n == some .cell) then (n, NameKind.cell) else (n, k)).lookup x = some .cell)
  | [], _, _, h => by simp at h
  | (n, k) :: r, x, kd, h => by
    have ih := @relab env r x kd
    simp only [List.map_cons]
    cases hx : x == n with
    | true =>
      simp only [List.lookup_cons, hx] at h
      cases h
      by_cases hc : (k == NameKind.free && env.scope.kind == .function && env.kindOf n == some .cell) = true
      · rw [if_pos hc]
        simp only [List.lookup_cons, hx]
        simp only [Bool.and_eq_true, beq_iff_eq] at hc
        exact .inr ⟨hc.1.1, trivial⟩
      · rw [if_neg hc]
        simp only [List.lookup_cons, hx]
        exact .inl trivial
    | false =>
      simp only [List.lookup_cons, hx] at h
      by_cases hc : (k == NameKind.free && env.scope.kind == .function && env.kindOf n == some .cell) = true
      · rw [if_pos hc]; simp only [List.lookup_cons, hx]; exact ih h
      · rw [if_neg hc]; simp only [List.lookup_cons, hx]; exact ih h
theorem Good.blk (G : Good P N Γ RX k X W sc) {scope : Scope} (hk : scope.kind = .function) (s : PySem.Shared) (H : Hp) (C : Addr) (cl : List (Str × Addr)) (fp : List Addr) :
    Good P N Γ RX k (X.blk s H scope (PySem.compEnvC scope cl C X.env) fp) W0 (inh sc scope) where
  hN := G.hN
  nd := G.nd
  calm := G.calm
  room := G.room
  tk := L2.takes0
  pass := PySem.PassesOwn.never
  kind := hk
  vis := fun x h => by
    unfold visB at h
    split at h
    · rename_i e
      rcases relab (env := X.env) e with q | ⟨q, _⟩
      · exact .inl q
      · cases q
    · rename_i e
      rcases relab (env := X.env) e with q | ⟨q, _⟩
      · exact .inr (.inl q)
      · cases q
    · rename_i e
      rcases relab (env := X.env) e with q | ⟨_, q⟩
      · exact .inr (.inr q)
      · exact .inr (.inl q)
    · cases h
  gl := fun x h => by
    unfold glB at h
    split at h
    · rename_i e
      rcases relab (env := X.env) e with q | ⟨q, _⟩
      · exact q
      · cases q
    · cases h
  loc := fun x h => by
    unfold locB at h
    split at h
    · rename_i e
      rcases relab (env := X.env) e with q | ⟨q, _⟩
      · exact q
      · cases q
    · cases h
  sto := fun x h => by
    unfold storeB at h
    split at h
    · rename_i e
      rcases relab (env := X.env) e with q | ⟨q, _⟩
      · exact ⟨.inl q, .inr q⟩
      · cases q
    · rename_i e
      rcases relab (env := X.env) e with q | ⟨q, _⟩
      · refine ⟨.inr q, .inl ?_⟩
        show (scope.names.lookup x == some .cell) = true
        have e : scope.names.lookup x = some .cell := e
        rw [e]
        rfl
      · cases q
    · cases h
  cf := fun x h => by
    rcases h with h | h
    · rcases relab (env := X.env) h with q | ⟨q, _⟩
      · exact .inl q
      · cases q
    · rcases relab (env := X.env) h with q | ⟨_, q⟩
      · exact .inr q
      · exact .inl q
  blt := G.blt
  tgs := G.tgs
  isi := G.isi
  lst := G.lst
  rng := G.rng
  zip := G.zip
  enm := G.enm
  cls := G.cls
  isc := G.isc
  noat := G.noat
  meth := G.meth
  room1 := G.room1
  lam := fun h1 h2 => ⟨(G.lam h1 h2).tab, (G.lam h1 h2).room, (G.lam h1 h2).two⟩
  mts := G.mts
  rpr := G.rpr
  tup := G.tup
  set := G.set
  srt := G.srt
  nmc := G.nmc
  isc2 := G.isc2
  eqs := G.eqs
  mks := G.mks
  fnk := G.fnk
  sts := G.sts
  ccs := G.ccs
  rx := G.rx
  room3 := G.room3
  exs := G.exs
  mdef := G.mdef
  make := G.make
  prop := G.prop
  gcs := G.gcs
  fns := G.fns
  steady := G.steady
theorem blk_ok (G : Good P N Γ RX k X W sc) {scope : Scope} {own : List (Str × Nat)} (h : L2.blkC N sc scope own = true) : L2.BlkOk X.N X.env.scope scope own := by
  have b := L2.blkOk_by h
  rw [G.hN]
  exact ⟨b.kind, b.uniq, b.ix, fun y hy e => G.cf y.1 (b.free y hy e), b.own⟩
theorem ownP_snd (own : List Nat) : (ownP N own).map (·.2) = own := by
  unfold ownP
  rw [List.map_map]
  exact List.map_id _
/-! ### attributes -/
theorem fldB_of (G : Good P N Γ RX k X W sc) {cs : List Str} {f c : Str} (h : cs.all (P.fldB f) = true) (hc : c ∈ cs) : L2.Cls X.K (clsOf X.K c) ∧ L2.NoAttr X.K (clsOf X.K c) f := by
  have := List.all_eq_true.mp h c hc
  unfold Prg.fldB at this
  obtain ⟨d, hd, h1⟩ := List.any_eq_true.mp this
  simp only [Bool.and_eq_true, decide_eq_true_eq] at h1
  obtain ⟨rfl, h2⟩ := h1
  exact ⟨G.cls d hd, G.noat d hd f h2⟩
theorem s_att (G : Good P N Γ RX k X W sc) {cs : List Str} {f : Str} {a : E} {x : Expr} {pos : PySem.Pos} (hb : notCall x = true) (hcs : cs.all (P.fldB f) = true) (ha : PE X x (tE X.K RX W (ev Γ a))) : PE X (.Attribute x f pos) (tE X.K RX W (ev Γ (.att cs f a))) := by
  refine weakE (L2.pe_fld ha (base_of hb)) fun σ H Q ⟨γ, s, R, p⟩ => ⟨γ, s, R, ?_⟩
  simp only [ev] at p
  refine p.bind fun v s1 γ1 H1 x st1 R1 r1 p1 => ?_
  obtain ⟨z, hz, p3⟩ := Post.opt p1
  unfold attV at hz
  split at hz
  · rename_i n c ns vs e
    split at hz
    · rename_i hc
      obtain ⟨d, hd, rfl⟩ := Option.map_eq_some_iff.mp hz
      obtain ⟨a', dx, fs, rfl, rfl, hp, hg, hh, hn, rr⟩ := ins_rel R1 r1 e
      subst hn
      obtain ⟨v, hv, rv⟩ := lookF_rel hd rr
      obtain ⟨c1, c2⟩ := fldB_of G hcs hc
      exact ⟨a', _, dx, fs, v, rfl, hh, c1, c2, hv, p3.here R1 (show RelVal _ _ _ (.d d) v from rv)⟩
    · cases hz
  · cases hz
/-! ### methods of own classes -/
theorem um_form {env : Env} {t : E} {ys : List Expr} (hs : cL P N t sc ys = true) (pos : PySem.Pos) (hl : ys.length < 29) :
    PySem.methodCallForm (ys.length + ([] : List PySem.Keyword).length) (PySem.backTo pos (PySem.starEach ys env)) (PySem.backToKw pos (PySem.keywordEach [] env)) = true := by
  cases ys with
  | nil => rfl
  | cons y ys => exact bm_plain hs pos hl
theorem um_eval {env : Env} {t : E} {o : Expr} {m : Str} {ap cp : PySem.Pos} {ys : List Expr} (hs : cL P N t sc ys = true) (hl : ys.length < 29) (hb : notCall o = true) (hpos : (ap.endLine == cp.line) = true) :
    PySem.eval (.Call (.Attribute o m ap) ys [] cp) env = (do
      let obj ← PySem.eval o env
      PySem.standAt ap.atName
      let (fn, lead) ← PySem.holding [obj] (PySem.getMethod obj m (do return (← PySem.importBound o env).getD true))
      PySem.callWith cp fn lead (PySem.backTo cp (PySem.starEach ys env)) (PySem.backToKw cp (PySem.keywordEach [] env))) := by
  have hf := um_form (env := env) hs cp hl
  show (do
    let obj ← PySem.attributeBase o m env (PySem.eval o env)
    PySem.standAt ap.atName
    PySem.methodCall o m ap cp env obj (ys.length + ([] : List PySem.Keyword).length) (PySem.backTo cp (PySem.starEach ys env)) (PySem.backToKw cp (PySem.keywordEach [] env))) = _
  rw [base_of hb]
  unfold PySem.methodCall
  simp only [hf, PySem.calleeOf, PySem.methodCallPos, hpos, if_true, Bool.not_true, Bool.false_or, pure_bind]
theorem tab_mem {tab : List (Str × Nat)} {c : Str} {g : Nat} (h : tab.lookup c = some g) : (c, g) ∈ tab := by
  induction tab with
  | nil => cases h
  | cons q tab ih =>
    obtain ⟨d, n⟩ := q
    rw [List.lookup_cons] at h
    cases e : c == d with
    | true => rw [e] at h; cases h; rw [beq_iff_eq.mp e]; exact List.mem_cons_self
    | false => rw [e] at h; exact List.mem_cons_of_mem _ (ih h)
theorem lookup_none {f : Str} : ∀ {fs : List (Str × V)}, f ∉ fs.map Prod.fst → fs.lookup f = none
  | [], _ => rfl
  | (g, x) :: fs, h => by
    simp only [List.map_cons, List.mem_cons, not_or] at h
    rw [List.lookup_cons, beq_eq_false_iff_ne.mpr h.1]
    exact lookup_none h.2
theorem meth_of (G : Good P N Γ RX k X W sc) {tab : List (Str × Nat)} {m : Str} {v : Val} {s : S} {γ : Gh} {σ : L2.St} {H : Hp} {x : V} {g : Nat} (ht : tab.all (P.methB m) = true) (R : Rel X.K γ s σ H) (r : RelVal X.K γ H v x) (e : methV tab m v s = some g) :
    ∃ a C dx fs fa fd ps, x = .ref a ∧ H a = some (.ins C dx fs) ∧ fs.lookup m = none ∧ L2.Cls X.K C ∧ L2.Meth X.K C m fa ∧ L2.Binds X.K fd ps [] ∧ L2.FnOk X.prog X.w X.K X.mg X.base (L2.CX X.prog X.w) k fa fd ps (spG X.K RX Γ g) := by
  unfold methV at e
  split at e
  · rename_i n c ns vs e1
    split at e
    · cases e
    · rename_i hm
      obtain ⟨a, dx, fs, rfl, rfl, hp, hg, hh, hn, rr⟩ := ins_rel R r e1
      have := List.all_eq_true.mp ht _ (tab_mem e)
      unfold Prg.methB at this
      obtain ⟨d, hd, h1⟩ := List.any_eq_true.mp this
      simp only [Bool.and_eq_true, decide_eq_true_eq] at h1
      obtain ⟨rfl, h2⟩ := h1
      obtain ⟨fa, fd, ps, q1, q2, q3⟩ := G.meth d hd _ h2
      exact ⟨a, _, dx, fs, fa, fd, ps, rfl, hh, lookup_none (by rw [← hn]; exact hm), G.cls d hd, q1, q2, q3⟩
  · cases e
theorem s_um (G : Good P N Γ RX k X W sc) {tab : List (Str × Nat)} {m : Str} {a es : E} {o : Expr} {ys : List Expr} {ap cp : PySem.Pos} (hb : notCall o = true) (hpos : (ap.endLine == cp.line) = true) (hl : ys.length < 29) (ht : tab.all (P.methB m) = true) (hs : cL P N es sc ys = true)
    (ho : PE X o (tE X.K RX W (ev Γ a))) (ha : PA X ys (tA X.K RX W (evs Γ es))) : PE X (.Call (.Attribute o m ap) ys [] cp) (tE X.K RX W (ev Γ (.um tab m a es))) := by
  refine ⟨fun pins st σ H Q I h => ?_⟩
  have key : tE X.K RX W (ev Γ a) σ H (fun x H1 => ∃ g a' C dx fs fa fd ps, x = .ref a' ∧ H1 a' = some (.ins C dx fs) ∧ fs.lookup m = none ∧ L2.Cls X.K C ∧ L2.Meth X.K C m fa ∧ L2.Binds X.K fd ps [] ∧ L2.FnOk X.prog X.w X.K X.mg X.base (L2.CX X.prog X.w) k fa fd ps (spG X.K RX Γ g) ∧
      tA X.K RX W (evs Γ es) σ H1 (fun us H2 => spG X.K RX Γ g (x :: us) H2 Q (L2.WE W σ))) := by
    obtain ⟨γ, s, R, p⟩ := h
    refine ⟨γ, s, R, ?_⟩
    simp only [ev] at p
    refine p.bind fun v s1 γ1 H1 x st1 R1 r1 p1 => ?_
    split at p1
    · rename_i g e
      obtain ⟨a', C, dx, fs, fa, fd, ps, q1, q2, q3, q4, q5, q6, q7⟩ := meth_of G ht R1 r1 e
      exact ⟨g, a', C, dx, fs, fa, fd, ps, q1, q2, q3, q4, q5, q6, q7, γ1, s1, R1, p1.bind fun vs s2 γ2 H2 us st2 R2 r2 p2 => call_reading G.steady R2 (.cons (r1.step st2 R1.tups) r2) p2⟩
    · exact False.elim p1
  refine PySem.W.methodCall_KW (L2.thn (ho.run pins st σ H _ I key) fun u t1 ⟨x, H1, I1, rx, g, a', C, dx, fs, fa, fd, ps, q1, q2, q3, q4, q5, q6, q7, q8⟩ => ?_) (um_eval hs hl hb hpos)
  subst q1
  cases rx
  refine L2.getmeth_ok I1 q2 q4 q5 q3 ?_
  cases ys with
  | nil =>
    have hn := cL_nil hs
    subst hn
    obtain ⟨γ, s, R, p⟩ := q8
    simp only [evs] at p
    exact PySem.W.callWith_K0 (first := [.ref a']) I1.kIn q5.kp (L2.run_fnS (E := fun σ => L2.WE W σ) (us := [.ref a']) q7 G.room q6 (L2.passAt G.tk σ) I1 (.cons (show RelV (V.ref a') (Value.ref a') from rfl) .nil) (p.here R .nil))
  | cons y ys =>
    obtain ⟨hst, t, htl⟩ := cL_cons hs
    refine PySem.W.callWith_K (first := [.ref a']) (h₀ := X.base) I1.ok.mod.kin q5.kp (L2.thn (ha.run cp pins t1 σ H1 _ I1 q8) fun us t2 ⟨vs, H2, I2, r, q9⟩ => ⟨I2.kIn, ?_⟩) (star_cons hst) (plain_args htl _)
    exact L2.run_fnS (E := fun σ => L2.WE W σ) (us := .ref a' :: us) q7 G.room q6 (L2.passAt G.tk σ) I2 (.cons (show RelV (V.ref a') (Value.ref a') from rfl) r) q9
/-! ### properties -/
theorem s_prp (G : Good P N Γ RX k X W sc) {tab : List (Str × Nat)} {f : Str} {a : E} {x : Expr} {pos : PySem.Pos} (hb : notBare x = true) (ht : tab.all (P.propB f) = true) (ha : PE X x (tE X.K RX W (ev Γ a))) : PE X (.Attribute x f pos) (tE X.K RX W (ev Γ (.prp tab f a))) := by
  refine ⟨fun pins st σ H Q I h => ?_⟩
  have key : tE X.K RX W (ev Γ a) σ H (fun x H1 => ∃ g a' C dx fs pa fa fd ps, x = .ref a' ∧ H1 a' = some (.ins C dx fs) ∧ L2.Cls X.K C ∧ L2.PropOf X.K C f pa fa ∧ L2.Binds X.K fd ps [] ∧ L2.FnOk X.prog X.w X.K X.mg X.base (L2.CX X.prog X.w) k fa fd ps (spG X.K RX Γ g) ∧
      spG X.K RX Γ g [x] H1 Q (fun _ _ _ => False)) := by
    obtain ⟨γ, s, R, p⟩ := h
    refine ⟨γ, s, R, ?_⟩
    simp only [ev] at p
    refine p.bind fun v s1 γ1 H1 x st1 R1 r1 p1 => ?_
    split at p1
    · rename_i g e
      unfold methV at e
      split at e
      · rename_i n c ns vs e1
        split at e
        · cases e
        · obtain ⟨a', dx, fs, rfl, rfl, hp, hg, hh, hn, rr⟩ := ins_rel R1 r1 e1
          have := List.all_eq_true.mp ht _ (tab_mem e)
          unfold Prg.propB at this
          obtain ⟨d, hd, h1⟩ := List.any_eq_true.mp this
          simp only [Bool.and_eq_true, decide_eq_true_eq] at h1
          obtain ⟨rfl, h2⟩ := h1
          obtain ⟨pa, fa, fd, ps, q1, q2, q3⟩ := G.prop d hd _ h2
          refine ⟨g, a', _, dx, fs, pa, fa, fd, ps, rfl, hh, G.cls d hd, q1, q2, q3, ?_⟩
          refine call_reading (W := W0) (σ := σ) G.steady R1 (.cons r1 .nil) ?_
          cases hr : callR Γ g [.d (.ref n)] s1 with
          | bad => rw [hr] at p1; exact p1
          | ex _ _ => rw [hr] at p1; exact False.elim p1
          | ok u s2 => rw [hr] at p1; exact p1
      · cases e
    · exact False.elim p1
  refine L2.attr_of (base_of2 hb) (L2.thn (ha.run pins st σ H _ I key) fun u t1 ⟨x, H1, I1, rx, g, a', C, dx, fs, pa, fa, fd, ps, q1, q2, q3, q4, q5, q6, q7⟩ => ?_)
  subst q1
  cases rx
  exact L2.getprop_ok (dvs := []) (ds := []) I1 q2 q3 q4 q6 G.room1 q5 .nil (fun pins σ H s e s' I c => L2.passAt (W := W0) LamX.takes0 σ pins H s e s' I c) q7
/-! ### instances are made -/
theorem run_mk {CX : L2.CXT} {pins : List (Addr × PySem.Obj)} {σ : L2.St} {H : Hp} {t0 : PySem.Shared} {Q : VK} {us : List Value} {ws : List V} {C fI : Addr} {fd : PySem.FuncData} {ps : List Str} {sp : Sp} {E : XK}
    (M : L2.Mk X.K C fI) (F : L2.FnOk X.prog X.w X.K X.mg X.base CX k fI fd ps sp) (hr : Room (k + 1) X.A) (hb : L2.Binds X.K fd ps []) (hx : L2.PassesAt CX X σ E) (I : L2.Inv X pins σ H t0) (r : L2.Vals ws us)
    (h : ∀ y dy, H y = none → H dy = none → dy ≠ y → sp (.ref y :: ws) (upd (upd H dy (.own y)) y (.ins C dy [])) (fun v H2 => v = .non ∧ Q (.ref y) H2) E) :
    PySem.wpAny (PySem.model X.prog X.w) X.A (PySem.call (.ref C) us) (EP X pins σ Q) X.xe t0 := by
  have n0 : H t0.heap.objs.size = none := I.hok.fresh (Nat.le_refl _)
  have n1 : H (t0.heap.objs.size + 1) = none := I.hok.fresh (Nat.le_succ _)
  have q0 := h _ _ n1 n0 (Nat.ne_of_lt (Nat.lt_succ_self _))
  have J := L2.Inv.made (C := C) I
  have rr : L2.Vals (V.ref (t0.heap.objs.size + 1) :: ws) (Value.ref (t0.heap.objs.size + 1) :: us) := .cons (show RelV (V.ref _) (Value.ref _) from rfl) r
  have len1 : (Value.ref (t0.heap.objs.size + 1) :: us).length = ps.length := rr.length.symm.trans (F.len _ _ _ _ q0)
  have bd := hb _ (Value.ref (t0.heap.objs.size + 1) :: us) J.kIn (by rw [List.append_nil]; exact len1)
  rw [List.append_nil] at bd
  refine PySem.wpAny_call (L2.make_map (f := fI) I.kIn M.makes M.init (beq_iff_eq.mp M.fn) (PySem.codeAny_mono (F.run _ X.stack _ _ ⟨_, []⟩ _ _ _ E (hr.make C us []) (J.env0.make C us []) bd rr q0) fun res t1 hres => ?_))
  cases res with
  | error er => exact hx pins _ _ er t1 J hres
  | ok fl =>
    cases fl with
    | ret u =>
      obtain ⟨v, H3, I3, rv, ev, q3⟩ := J.after hres
      subst ev
      exact ⟨rv, ⟨V.ref (t0.heap.objs.size + 1), H3, I3, rfl, q3⟩⟩
    | _ => exact False.elim hres
theorem s_nw (G : Good P N Γ RX k X W sc) {c : Str} {f : Nat} {es : E} {xs : List Expr} {p pos : PySem.Pos} (hi : P.initB c f = true) (hg : glB sc c = true) (hd : notDbg c = true) (hs : cL P N es sc xs = true) (ha : PA X xs (tA X.K RX W (evs Γ es))) :
    PE X (.Call (.Name c p) xs [] pos) (tE X.K RX W (ev Γ (.nw c f es))) := by
  unfold Prg.initB at hi
  obtain ⟨d, hd1, h1⟩ := List.any_eq_true.mp hi
  simp only [Bool.and_eq_true, decide_eq_true_eq] at h1
  obtain ⟨⟨rfl, rfl⟩, hkw⟩ := h1
  obtain ⟨fa, fd, ps, hm, M, hb, F⟩ := G.make d hd1 hkw
  refine ⟨fun pins st σ H Q I h => ?_⟩
  have key : tA X.K RX W (evs Γ es) σ H (fun us H1 => ∀ y dy, H1 y = none → H1 dy = none → dy ≠ y → spG X.K RX Γ d.init (.ref y :: us) (upd (upd H1 dy (.own y)) y (.ins (clsOf X.K d.name) dy [])) (fun v H2 => v = .non ∧ Q (.ref y) H2) (L2.WE W σ)) := by
    obtain ⟨γ, s, R, p⟩ := h
    refine ⟨γ, s, R, ?_⟩
    simp only [ev] at p
    refine p.bind fun vs s1 γ1 H1 us st1 R1 r1 p1 => fun y dy hy hdy hne => ?_
    have Ra := R1.new (o := .own y) hdy
    have sa : Stp γ1 H1 γ1 (upd H1 dy (.own y)) := Stp.new γ1 hdy
    have hy' : (upd H1 dy (.own y)) y = none := by rw [upd_ne (Ne.symm hne)]; exact hy
    have h0 : ¬ Liv γ1.H0 y := fun z => not_liv hy (R1.trk y z)
    have nt : y ∉ γ1.tm := fun z => not_liv hy (R1.tm y z).1
    have ny : y ∉ γ1.pg := fun z => by
      obtain ⟨o, e, _⟩ := R1.live (.inr z)
      rw [hy] at e; cases e
    have Rb := (Ra.mk1 (o := .ins (clsOf X.K d.name) dy []) hy').ownGC h0 (c := .ins d.name [] []) (.inr ⟨d.name, [], [], dy, [], rfl, upd_same, rfl, .nil⟩) nt
    have sb : Stp γ1 H1 (γ1.ownG y) (upd (upd H1 dy (.own y)) y (.ins (clsOf X.K d.name) dy [])) := by
      have sz := sa.trans (Stp.new (o := .ins (clsOf X.K d.name) dy []) γ1 hy')
      refine { sz with pg := (List.prefix_append _ _), gn := fun x m => ?_ }
      rcases List.mem_append.mp m with m | m
      · exact .inl m
      · have e : x = y := by simpa using m
        rw [e]; exact .inr (not_liv hy)
    have hl : γ1.pg.length = s1.gs.length := R1.gl
    have gy : (γ1.ownG y).pg[s1.gs.length]? = some y := by
      show (γ1.pg ++ [y])[s1.gs.length]? = some y
      rw [← hl, List.getElem?_append_right (Nat.le_refl _), Nat.sub_self]
      rfl
    refine call_reading G.steady Rb (vs := .d (.ref s1.gs.length) :: vs) (.cons (RelD.ref gy) (RelVals.step sb R1.tups r1)) ?_
    have p2 := Post.from sb p1
    unfold newR at p2
    refine p2.bind fun v s2 γ2 H2 x st2 R2 r2 p3 => ?_
    split at p3
    · cases r2
      exact ⟨rfl, p3.here R2 (show RelVal _ _ _ (.d (.ref s1.gs.length)) _ from RelD.ref (get_pre st2.pg gy))⟩
    · exact False.elim p3
  refine PySem.wpAny_Call_Name_kw (L2.ld_glob I (G.gl _ hg) hm ?_ (notDbg_of hd).1)
  cases xs with
  | nil =>
    have hn := cL_nil hs
    subst hn
    obtain ⟨γ, s, R, p⟩ := key
    simp only [evs] at p
    exact PySem.W.callWith_K0 I.kIn M.kp (run_mk (E := L2.WE W σ) M F G.room1 hb (L2.passAt G.tk σ) I .nil (p.here R .nil))
  | cons y ys =>
    obtain ⟨hst, t, htl⟩ := cL_cons hs
    refine PySem.W.callWith_K (h₀ := X.base) I.ok.mod.kin M.kp (L2.thn (ha.run pos pins st σ H _ I key) fun us t2 ⟨vs, H2, I2, r, q9⟩ => ⟨I2.kIn, ?_⟩) (star_cons hst) (plain_args htl _)
    exact run_mk (E := L2.WE W σ) M F G.room1 hb (L2.passAt G.tk σ) I2 r q9
/-! ### slices -/
section
variable {K : PySem.W.Frag} {γ : Gh} {H : Hp}
theorem relDs_drop : ∀ (n : Nat) {xs : List D} {vs : List V}, RelDs K γ H xs vs → RelDs K γ H (xs.drop n) (vs.drop n)
  | 0, _, _, r => r
  | n + 1, _, _, .nil => .nil
  | n + 1, _, _, .cons _ t => relDs_drop n t
theorem relDs_take : ∀ (n : Nat) {xs : List D} {vs : List V}, RelDs K γ H xs vs → RelDs K γ H (xs.take n) (vs.take n)
  | 0, _, _, r => .nil
  | n + 1, _, _, .nil => .nil
  | n + 1, _, _, .cons h t => .cons h (relDs_take n t)
theorem cut_rel {xs : List D} {vs : List V} (r : RelDs K γ H xs vs) (lo hi : Option Int) : RelDs K γ H (cutD xs lo hi) (L2.cutV vs lo hi) := by
  unfold cutD L2.cutV
  rw [← relDs_len r]
  exact relDs_take _ (relDs_drop _ r)
end
def rSlP (K : PySem.W.Frag) (RX : ExRel) (W : WX) : V → Option Int → Option Int → Hp → VK → Prop := fun x lo hi H Q => ∃ γ s σ v, Rel K γ s σ H ∧ RelVal K γ H v x ∧ Post K RX W γ H σ (RelVal K) (optR (slVal v lo hi s) s) Q
theorem slR_P : L2.SlR X (rSlP X.K RX W) := by
  intro pins s0 σ0 H x v vl vu lo hi sl Q I rx hs pl pu h
  obtain ⟨γ, s, σ, w, R, rw0, p⟩ := h
  obtain ⟨z, hz, p⟩ := Post.opt p
  unfold slVal at hz
  split at hz
  · split at hz
    · rename_i hl
      cases hz
      cases rw0
      exact L2.sl_str pins s0 σ0 H _ v vl vu lo hi sl Q I rx hs pl pu ⟨_, rfl, line_le hl, p.here R (.str _)⟩
    · cases hz
  · rename_i xs
    cases hz
    cases rw0 with
    | tup h rr =>
      refine L2.sl_tupA pins s0 σ0 H _ v vl vu lo hi sl Q I rx hs pl pu ⟨_, _, rfl, h, fun c => ?_, fun _ q hq => p γ _ _ (Stp.new γ hq) (R.new hq) (new_tup R hq (cut_rel rr lo hi))⟩
      have e : cutD xs lo hi = xs := by
        unfold cutD
        rw [relDs_len rr, c.1, c.2]
        rw [List.drop_zero, Nat.sub_zero]
        exact List.take_of_length_le (Nat.le_of_eq (relDs_len rr))
      refine p.here R ?_
      rw [e]
      exact .tup h rr
  · split at hz
    · rename_i xs e
      cases hz
      obtain ⟨a, vs, rfl, rr, t⟩ := seq_rel R rw0 e
      exact L2.sl_list pins s0 σ0 H _ v vl vu lo hi sl Q I rx hs pl pu ⟨a, vs, rfl, t, fun q hq => p γ _ _ (Stp.new γ hq) (R.new hq) (new_lst R hq (cut_rel rr lo hi))⟩
    · cases hz
def tO (K : PySem.W.Frag) (RX : ExRel) (W : WX) (m : S → R (Option Int)) : L2.TO := fun σ H Q => ∃ γ s, Rel K γ s σ H ∧ Post K RX W γ H σ (fun _ _ a b => a = b) (m s) Q
theorem weakO {e : Option Expr} {t t' : L2.TO} (h : L2.PO X e t) (w : ∀ σ H Q, t' σ H Q → t σ H Q) : L2.PO X e t' := ⟨fun ps s σ H Q I q => h.run ps s σ H Q I (w σ H Q q)⟩
theorem s_onone : L2.PO X none (tO X.K RX W (evO Γ .nil)) := weakO L2.po_none fun σ H Q ⟨γ, s, R, p⟩ => by
  simp only [evO] at p
  exact p.here R rfl
theorem evO_ne {e : E} {s : S} (h : e ≠ .nil) : evO Γ e s = (ev Γ e s).bind fun v s => match v with
    | .d (.int i) => .ok (some i) s
    | _ => .bad := by
  cases e <;> first | exact absurd rfl h | (simp only [evO] <;> rfl)
theorem s_osome {e : E} {x : Expr} (hn : e ≠ .nil) (h : PE X x (tE X.K RX W (ev Γ e))) : L2.PO X (some x) (tO X.K RX W (evO Γ e)) := weakO (L2.po_some h) fun σ H Q ⟨γ, s, R, p⟩ => ⟨γ, s, R, by
  rw [evO_ne hn] at p
  refine p.bind fun v s1 γ1 H1 y st1 R1 r1 p1 => ?_
  cases v with
  | own _ => exact False.elim p1
  | d z =>
    cases z with
    | int i => cases r1; exact ⟨i, rfl, p1.here R1 rfl⟩
    | _ => exact False.elim p1⟩
theorem s_sl {a lo hi : E} {x : Expr} {l h : Option Expr} {p2 pos : PySem.Pos} (ha : PE X x (tE X.K RX W (ev Γ a))) (hl : L2.PO X l (tO X.K RX W (evO Γ lo))) (hh : L2.PO X h (tO X.K RX W (evO Γ hi))) :
    PE X (.Subscript x (.Slice l h none p2) pos) (tE X.K RX W (ev Γ (.sl a lo hi))) := by
  refine weakE (L2.pe_slice (slR_P (RX := RX) (W := W)) ha hl hh) fun σ H Q ⟨γ, s, R, p⟩ => ⟨γ, s, R, ?_⟩
  simp only [ev] at p
  refine p.bind fun v s1 γ1 H1 x st1 R1 r1 p1 => ⟨γ1, s1, R1, p1.bind fun l s2 γ2 H2 l' st2 R2 e p2 => ⟨γ2, s2, R2, p2.bind fun h s3 γ3 H3 h' st3 R3 e' p3 => ?_⟩⟩
  subst e e'
  exact ⟨γ3, s3, σ, v, R3, (r1.step st2 R1.tups).step st3 R2.tups, p3⟩
/-! ### zip, enumerate -/
theorem zipV_cases (vs : List Val) (s : S) : zipV vs s = .bad ∨ (∃ xs ys, vs = [.d (.lst xs), .d (.lst ys)] ∧ zipV vs s = .ok (zipD xs ys) s) ∨ (∃ xs ys, vs = [.d (.tup xs), .d (.tup ys)] ∧ zipV vs s = .ok (zipD xs ys) s) ∨ ∃ xs ys, vs = [.d (.lst xs), .d (.tup ys)] ∧ zipV vs s = .ok (zipD xs ys) s := by
  unfold zipV
  split
  · exact .inr (.inl ⟨_, _, rfl, rfl⟩)
  · exact .inr (.inr (.inl ⟨_, _, rfl, rfl⟩))
  · exact .inr (.inr (.inr ⟨_, _, rfl, rfl⟩))
  · exact .inl rfl
theorem enmV_cases (vs : List Val) (s : S) : enmV vs s = .bad ∨ (∃ xs, vs = [.d (.lst xs)] ∧ enmV vs s = .ok (enmD 0 xs) s) ∨ ∃ xs, vs = [.d (.tup xs)] ∧ enmV vs s = .ok (enmD 0 xs) s := by
  unfold enmV
  split
  · exact .inr (.inl ⟨_, rfl, rfl⟩)
  · exact .inr (.inr ⟨_, rfl, rfl⟩)
  · exact .inl rfl
theorem s_zip (G : Good P N Γ RX k X W sc) {es : E} {elts : List Expr} {kk : Nat} {tpos : PySem.Pos} {a b : Expr} {p0 pos : PySem.Pos} (hg : glB sc "zip" = true) (hs : cL P N es sc [a, b] = true) (ha : PA X [a, b] (tA X.K RX W (evs Γ es))) :
    PI X (.Tuple elts kk tpos) (.Call (.Name "zip" p0) [a, b] [] pos) (tI X.K RX W (evI Γ (.zip es))) := by
  obtain ⟨h1, t, ht⟩ := cL_cons hs
  refine ⟨fun ps st σ H Q I ⟨γ, s, R, p⟩ => ?_⟩
  simp only [evI] at p
  have A := RZ.pi_zipA (tpos := tpos) (elts := elts) (kk := kk) (p := p0) (pos := pos) (G.gl _ hg) G.zip ha (star_cons h1) (plain_args ht _)
  have B := Z.pi_zipM (tpos := tpos) (elts := elts) (kk := kk) (p := p0) (pos := pos) (G.gl _ hg) G.zip ha (star_cons h1) (plain_args ht _)
  cases he : evs Γ es s with
  | bad => simp only [he, Mp.R.bind] at p
  | ex _ _ =>
    simp only [he, Mp.R.bind] at p
    exact A.run ps st σ H Q I ⟨γ, s, R, by rw [he]; exact p⟩
  | ok vs s1 =>
    simp only [he, Mp.R.bind] at p
    rcases zipV_cases vs s1 with hz | ⟨xs, ys, rfl, hz⟩ | ⟨xs, ys, rfl, hz⟩ | ⟨xs, ys, rfl, hz⟩ <;> rw [hz] at p
    · exact False.elim p
    · refine A.run ps st σ H Q I ⟨γ, s, R, ?_⟩
      rw [he]
      intro γ1 H1 us st1 R1 r1
      obtain ⟨x, y, rfl, rx, ry⟩ := relVals_two r1
      cases rx with
      | lst h nb rr =>
        cases ry with
        | lst h2 nb2 rr2 => exact ⟨_, _, _, _, rfl, .inl ⟨SqL.of h, SqL.of h2, p γ1 H1 _ st1 R1 (wk_zip R1.tups (fun γ' H' st => sts_seq (.inl ⟨h, nb⟩) st) (fun γ' H' st => sts_seq (.inl ⟨h2, nb2⟩) st) rr rr2)⟩⟩
    · refine A.run ps st σ H Q I ⟨γ, s, R, ?_⟩
      rw [he]
      intro γ1 H1 us st1 R1 r1
      obtain ⟨x, y, rfl, rx, ry⟩ := relVals_two r1
      cases rx with
      | tup h rr =>
        cases ry with
        | tup h2 rr2 => exact ⟨_, _, _, _, rfl, .inr ⟨h, h2, p γ1 H1 _ st1 R1 (wk_zipT R1.tups h h2 rr rr2)⟩⟩
    · refine B.run ps st σ H Q I ⟨γ, s, R, ?_⟩
      rw [he]
      intro γ1 H1 us st1 R1 r1
      obtain ⟨x, y, rfl, rx, ry⟩ := relVals_two r1
      cases rx with
      | lst h nb rr =>
        cases ry with
        | tup h2 rr2 => exact ⟨_, _, _, _, rfl, SqL.of h, h2, p γ1 H1 _ st1 R1 (wk_zipM R1.tups (fun γ' H' st => sts_seq (.inl ⟨h, nb⟩) st) h2 rr rr2)⟩
theorem s_enm (G : Good P N Γ RX k X W sc) {es : E} {elts : List Expr} {kk : Nat} {tpos : PySem.Pos} {a : Expr} {p0 pos : PySem.Pos} (hg : glB sc "enumerate" = true) (hs : cL P N es sc [a] = true) (ha : PA X [a] (tA X.K RX W (evs Γ es))) :
    PI X (.Tuple elts kk tpos) (.Call (.Name "enumerate" p0) [a] [] pos) (tI X.K RX W (evI Γ (.enm es))) := by
  obtain ⟨h1, t, ht⟩ := cL_cons hs
  refine ⟨fun ps st σ H Q I ⟨γ, s, R, p⟩ => ?_⟩
  simp only [evI] at p
  have A := L2.pi_enum (tpos := tpos) (elts := elts) (kk := kk) (p := p0) (pos := pos) (G.gl _ hg) G.enm ha (star_cons h1)
  have B := Z.pi_enumT (tpos := tpos) (elts := elts) (kk := kk) (p := p0) (pos := pos) (G.gl _ hg) G.enm ha (star_cons h1)
  cases he : evs Γ es s with
  | bad => simp only [he, Mp.R.bind] at p
  | ex _ _ =>
    simp only [he, Mp.R.bind] at p
    exact A.run ps st σ H Q I ⟨γ, s, R, by rw [he]; exact p⟩
  | ok vs s1 =>
    simp only [he, Mp.R.bind] at p
    rcases enmV_cases vs s1 with hz | ⟨xs, rfl, hz⟩ | ⟨xs, rfl, hz⟩ <;> rw [hz] at p
    · exact False.elim p
    · refine A.run ps st σ H Q I ⟨γ, s, R, ?_⟩
      rw [he]
      intro γ1 H1 us st1 R1 r1
      obtain ⟨x, rfl, rx⟩ := relVals_one r1
      cases rx with
      | lst h nb rr => exact ⟨_, _, rfl, SqL.of h, p γ1 H1 _ st1 R1 (wk_enm R1.tups (fun γ' H' st => sts_seq (.inl ⟨h, nb⟩) st) rr)⟩
    · refine B.run ps st σ H Q I ⟨γ, s, R, ?_⟩
      rw [he]
      intro γ1 H1 us st1 R1 r1
      obtain ⟨x, rfl, rx⟩ := relVals_one r1
      cases rx with
      | tup h rr => exact ⟨_, _, rfl, h, p γ1 H1 _ st1 R1 (wk_enmT R1.tups h rr)⟩
def gNs (tg : List Nat) : L2.TGs := fun vs σ H Q => vs.length = tg.length ∧ Q (setV tg vs σ) H
theorem pgs_names (G : Good P N Γ RX k X W sc) : ∀ (tg : List Nat) (es : List Expr), namesB N sc tg es = true → L2.PGs X es (gNs tg) ∧ (PySem.assignEach es X.env).length = tg.length ∧ (PySem.assignEach es X.env).findIdx? (·.1) = none
  | [], [], _ => ⟨⟨fun ps s σ H vs us Q I r q => by
      obtain ⟨h1, h2⟩ := q
      cases vs with
      | nil => exact L2.pgs_nil.run ps s σ H [] us Q I r ⟨rfl, h2⟩
      | cons _ _ => simp at h1⟩, rfl, rfl⟩
  | i :: tg, .Name x px :: es, h => by
    simp only [namesB, Bool.and_eq_true, decide_eq_true_eq] at h
    obtain ⟨hl, hl2⟩ := G.sto _ h.1.2
    obtain ⟨h1, h2, h3⟩ := pgs_names G tg es h.2
    refine ⟨⟨fun ps s σ H vs us Q I r q => ?_⟩, ?_, ?_⟩
    · obtain ⟨q1, q2⟩ := q
      cases vs with
      | nil => simp at q1
      | cons v vs =>
        refine (L2.pgs_cons (L2.pg_name (i := i) (by rw [G.hN]; exact G.nd) (by rw [G.hN]; exact h.1.1) hl hl2) h1).run ps s σ H (v :: vs) us Q I r ?_
        exact ⟨v, vs, rfl, by simpa using q1, q2⟩
    · show (_ :: PySem.assignEach es X.env).length = _
      rw [List.length_cons, h2, List.length_cons]
    · show ((false, PySem.assign (.Name x px) X.env) :: PySem.assignEach es X.env).findIdx? (·.1) = none
      rw [List.findIdx?_cons, h3]
      rfl
  | [], _ :: _, h => by simp [namesB] at h
  | _ :: _, [], h => by simp [namesB] at h
theorem s_tg (G : Good P N Γ RX k X W sc) {tg : List Nat} {e : Expr} (h : tgB N sc tg e = true) : PG X e (gT X.K tg) := by
  unfold tgB at h
  split at h
  · simp only [Bool.and_eq_true, decide_eq_true_eq] at h
    obtain ⟨hl, hl2⟩ := G.sto _ h.2
    exact weakG (L2.pg_name (by rw [G.hN]; exact G.nd) (by rw [G.hN]; exact h.1) hl hl2) gT_one
  · obtain ⟨h1, h2, h3⟩ := pgs_names G _ _ h
    exact weakG (L2.pg_tup G.calm h1 h2 h3) fun v σ H Q q => gT_tup (by simp) q
  · cases h
theorem s_lc (G : Good P N Γ RX k X W sc) {own tg : List Nat} {it cnd elt : E} {el tx iter : Expr} {ifs : List Expr} {scope : Scope} {pos : PySem.Pos}
    (hb : L2.blkC N sc scope (ownP N own) = true) (ho : ∀ i ∈ tg, i ∈ own) (ht : tgB N (inh sc scope) tg tx = true) (hset : notSet iter = true)
    (hi : ∀ {X W sc}, Good P N Γ RX k X W sc → ∀ tg x, cI P N it sc tg x = true → PI X tg x (tI X.K RX W (evI Γ it))) (hi2 : cI P N it sc tx iter = true)
    (hc : ∀ {X W sc}, Good P N Γ RX k X W sc → ∀ x, cIfs P N cnd sc x = true → L2.PTs X x (tT X.K RX W (evT Γ cnd))) (hc2 : cIfs P N cnd (inh sc scope) ifs = true)
    (he : ∀ {X W sc}, Good P N Γ RX k X W sc → ∀ x, cE P N elt sc x = true → PE X x (tE X.K RX W (ev Γ elt))) (he2 : cE P N elt (inh sc scope) el = true) :
    PE X (.ListComp el [⟨tx, iter, ifs, 0⟩] scope pos) (tF X.K RX W (evF Γ (.lc own tg it cnd elt))) := by
  have ok := blk_ok G hb
  have g := fun s H C cl fp => G.blk ok.kind s H C cl fp
  refine weakE (L2.pe_lc G.calm (by rw [G.hN]; exact G.nd) (hi G tx iter hi2) ok (g := gT X.K tg) (tt := tT X.K RX W0 (evT Γ cnd)) (te := tE X.K RX W0 (ev Γ elt)) (fun s H C cl fp => s_tg (g s H C cl fp) ht) (fun s H C cl fp => hc (g s H C cl fp) _ hc2) (fun s H C cl fp => he (g s H C cl fp) _ he2) (fun x => set_of hset x)) fun σ H Q q => ?_
  rw [ownP_snd]
  refine lc_sound (own := own) (tg := tg) (it := evI Γ it) (cnd := evT Γ cnd) (elt := ev Γ elt) ho σ H Q ?_
  obtain ⟨γ, s, R, p⟩ := q
  refine ⟨γ, s, R, ?_⟩
  simp only [evF] at p
  exact p

/-! ### dict displays -/
def flat2 : List (V × V) → List V
  | [] => []
  | (a, b) :: r => a :: b :: flat2 r
theorem pairs_read {c : E} : ∀ {ks : List (Option Expr)} {vs : List Expr} {γ : Gh} {H : Hp} {s : S} {σ : L2.St} {Q : List (V × V) → Hp → Prop}, cD P N c sc ks vs = true → Rel X.K γ s σ H →
    Post X.K RX W γ H σ (fun γ H us ps => RelVals X.K γ H us (flat2 ps)) (evs Γ c s) Q → L2.tPairs (trsOf X.K RX W Γ c) σ H Q := by
  intro ks
  induction ks generalizing c with
  | nil =>
    intro vs γ H s σ Q h R p
    cases c with
    | nil =>
      simp only [evs] at p
      exact p.here R (b := []) .nil
    | _ => cases vs <;> cases h
  | cons kx ks ih =>
    intro vs γ H s σ Q h R p
    cases c with
    | cons k t =>
      cases kx with
      | none => cases h
      | some kx =>
        simp only [cD, Bool.and_eq_true] at h
        obtain ⟨_, h⟩ := h
        cases t with
        | cons v t =>
          cases vs with
          | nil => cases h
          | cons y vs =>
            simp only [cDv, Bool.and_eq_true] at h
            obtain ⟨_, h⟩ := h
            simp only [evs] at p
            refine ⟨γ, s, R, p.bind fun x s1 γ1 H1 a st1 R1 r1 p1 => ⟨γ1, s1, R1, ?_⟩⟩
            cases e : ev Γ v s1 with
            | bad => simp only [e, Mp.R.bind] at p1; exact p1
            | ex _ _ => simp only [e, Mp.R.bind] at p1; exact p1
            | ok w s2 =>
              simp only [e, Mp.R.bind] at p1
              intro γ2 H2 b st2 R2 r2
              refine ih h R2 ?_
              cases e2 : evs Γ t s2 with
              | bad => simp only [e2] at p1; exact p1
              | ex _ _ => simp only [e2] at p1; exact fun γ3 H3 c d st3 => p1 γ3 H3 c d (st2.trans st3)
              | ok us s3 =>
                simp only [e2] at p1
                exact fun γ3 H3 zs st3 R3 r3 => p1 γ3 H3 ((a, b) :: zs) (st2.trans st3) R3 (.cons ((r1.step st2 R1.tups).step st3 R2.tups) (.cons (r2.step st3 R2.tups) r3))
        | _ => cases vs <;> cases h
    | _ => cases vs <;> cases h
theorem putK_new {k : L2.Key} {v : V} {l : List (L2.Key × V)} (h : k ∉ l.map Prod.fst) : L2.putK l k v = l ++ [(k, v)] := by
  unfold L2.putK
  rw [if_neg]
  intro z
  obtain ⟨q, hq, e⟩ := List.any_eq_true.mp z
  exact h (List.mem_map.mpr ⟨q, hq, of_decide_eq_true e⟩)
theorem merge_new : ∀ {more acc : List (L2.Key × V)}, ((acc ++ more).map Prod.fst).Nodup → L2.mergeK acc more = acc ++ more := by
  intro more
  induction more with
  | nil => intro acc _; unfold L2.mergeK; simp
  | cons p more ih =>
    intro acc h
    unfold L2.mergeK
    rw [List.foldl_cons]
    have hp : p.1 ∉ acc.map Prod.fst := by
      intro z
      rw [List.map_append, List.nodup_append] at h
      exact h.2.2 _ z _ (by simp) rfl
    rw [putK_new hp]
    have := ih (acc := acc ++ [(p.1, p.2)]) (by simpa using h)
    unfold L2.mergeK at this
    rw [this]
    simp
theorem pairsK_rel {K : PySem.W.Frag} {γ : Gh} {H : Hp} : ∀ (ds : List D) (kvs : List (L2.Key × D)) (ps : List (V × V)), pairsK ds = some kvs → RelDs K γ H ds (flat2 ps) →
    ∃ ms : List (L2.Key × V), ps = ms.map (fun kv => (L2.kV kv.1, kv.2)) ∧ ms.map Prod.fst = kvs.map Prod.fst ∧ RelDs K γ H (kvs.map Prod.snd) (ms.map Prod.snd)
  | [], _, [], e, _ => by cases e; exact ⟨[], rfl, rfl, .nil⟩
  | [], _, _ :: _, _, r => by cases r
  | _ :: _, _, [], _, r => by cases r
  | [_], _, (a, b) :: ps, e, r => by
    cases r with
    | cons _ t => cases t
  | k :: v :: ds, _, (a, b) :: ps, e, .cons rk (.cons rv r) => by
    cases k with
    | int i =>
      simp only [pairsK, Option.map_eq_some_iff] at e
      obtain ⟨l, e1, rfl⟩ := e
      obtain ⟨ms, rfl, h2, h3⟩ := pairsK_rel ds l ps e1 r
      cases rk
      exact ⟨(.inl i, b) :: ms, rfl, by simp only [List.map_cons, h2], .cons rv h3⟩
    | str i =>
      simp only [pairsK, Option.map_eq_some_iff] at e
      obtain ⟨l, e1, rfl⟩ := e
      obtain ⟨ms, rfl, h2, h3⟩ := pairsK_rel ds l ps e1 r
      cases rk
      exact ⟨(.inr i, b) :: ms, rfl, by simp only [List.map_cons, h2], .cons rv h3⟩
    | _ => simp [pairsK] at e
theorem s_dct {c : E} {ks : List (Option Expr)} {vs : List Expr} {pos : PySem.Pos} (hc : cD P N c sc ks vs = true) (hl : ks.length = vs.length) (h15 : ks.length ≤ 15) (hall : ks.all (·.isSome) = true) (hp : L2.PPs X pos ks vs (trsOf X.K RX W Γ c)) :
    PE X (.Dict ks vs pos) (tE X.K RX W (ev Γ (.dct c))) := by
  -- what is known behind the items
  have fin : ∀ {γ γ1 : Gh} {s1 : S} {σ : L2.St} {H H1 : Hp} {Q : VK} {a : Addr} {s : S} {ws : List Val} {ps : List (V × V)}, Rel X.K γ s σ H → H a = none → Stp (γ.mk1 a) (upd H a (.dK [])) γ1 H1 → Rel X.K γ1 s1 σ H1 → RelVals X.K γ1 H1 ws (flat2 ps) →
      Post X.K RX W γ H σ (RelVal X.K) (match toDs ws with
        | some ds => match pairsK ds with
          | some kvs => if (decide (kvs.length ≤ 15) && nodupK (kvs.map Prod.fst)) = true then .ok (.d (.dct (kvs.map fun p => keyD p.1) (kvs.map Prod.snd))) s1 else .bad
          | none => .bad
        | none => .bad) Q → H1 a = some (.dK []) ∧ ∃ ms : List (L2.Key × V), ps = ms.map (fun kv => (L2.kV kv.1, kv.2)) ∧ ms.length ≤ 15 ∧ (ms.map Prod.fst).Nodup ∧ Q (.ref a) (upd H1 a (.dK ms)) := by
    intro γ γ1 s1 σ H H1 Q a s ws ps R ha st1 R1 r1 p
    have tma := (R.mk1 (o := .dK []) ha).tm a List.mem_cons_self
    have hv : H1 a = some (.dK []) := st1.frame a _ upd_same dK_nt (fun z => tma.2.1 z) (fun z => tma.2.2 z)
    cases e1 : toDs ws with
    | none => simp only [e1] at p; exact False.elim p
    | some ds =>
      simp only [e1] at p
      cases e2 : pairsK ds with
      | none => simp only [e2] at p; exact False.elim p
      | some kvs =>
        simp only [e2] at p
        obtain ⟨hb, p⟩ := Post.if p
        simp only [Bool.and_eq_true, decide_eq_true_eq] at hb
        obtain ⟨ms, rfl, m2, m3⟩ := pairsK_rel ds kvs ps e2 (toDs_rel r1 e1)
        have ml : ms.length = kvs.length := by simpa using congrArg List.length m2
        have hn : (ms.map Prod.fst).Nodup := by
          rw [m2]
          have := hb.2
          unfold nodupK at this
          exact of_decide_eq_true this
        refine ⟨hv, ms, rfl, by omega, hn, ?_⟩
        have htm : γ1.tm = a :: γ.tm := st1.tmE
        have e5 : (γ1.wtm γ.tm).mk1 a = γ1 := unmk_eq htm
        have nt : ∀ zs, H1 a ≠ some (.tup zs) := fun zs => by rw [hv]; simp
        have nf : ∀ u zs, H1 a ≠ some (.frz u (.tup zs)) := fun u zs => by rw [hv]; simp
        have n0 := R.nil_of (not_liv ha)
        have h05 : ¬ Liv (γ1.wtm γ.tm).H0 a := by
          show ¬ Liv γ1.H0 a
          rw [st1.h0]; exact n0.1
        have R2 : Rel X.K ((γ1.wtm γ.tm).mk1 a) s1 σ (upd H1 a (.dK ms)) := by
          rw [← e5] at R1
          exact R1.setTm h05 (pl_dK hv) dK_nt nt nf
        have m4 : RelDs X.K ((γ1.wtm γ.tm).mk1 a) (upd H1 a (.dK ms)) (kvs.map Prod.snd) (ms.map Prod.snd) := by
          rw [← e5] at m3
          exact RelDs.setTm nt nf _ _ m3
        have st : Stp γ H (γ1.wtm γ.tm) (upd H1 a (.dK ms)) :=
          Stp.setTm (Stp.trans (Stp.new γ ha) (st1.tmf γ.tm)) (not_liv ha) (pl_dK hv)
        refine p (γ1.wtm γ.tm) _ (.ref a) st R2.rest (.dct upd_same (mk1_bad R2 h05 n0.2) ?_ (RelDs.les (les_mk1 _ a) _ _ m4))
        have : kvs.map (fun p => keyD p.1) = (kvs.map Prod.fst).map keyD := by rw [List.map_map]; rfl
        rw [this, ← m2, List.map_map]
        rfl
  cases ks with
  | nil =>
    cases vs with
    | cons _ _ => cases hl
    | nil =>
      have hc' : c = .nil := by cases c <;> first | rfl | cases hc
      subst hc'
      refine weakE L2.pe_dnewK fun σ H Q ⟨γ, s, R, p⟩ a ha => ?_
      simp only [ev, evs, Mp.R.bindN] at p
      obtain ⟨_, ms, e1, _, _, q⟩ := fin (ps := []) R ha (Stp.refl _ _) (R.mk1 ha) .nil p
      have : ms = [] := by simpa using e1.symm
      subst this
      have e : upd (upd H a (.dK [])) a (.dK []) = upd H a (.dK []) := L2.upd_upd
      rw [e] at q
      exact q
  | cons k ks =>
    refine weakE (L2.pe_disp hp hall hl (by simp) h15) fun σ H Q ⟨γ, s, R, p⟩ a ha => ?_
    simp only [ev] at p
    refine pairs_read hc (R.mk1 (o := .dK []) ha) ?_
    cases e : evs Γ c s with
    | bad => simp only [e, Mp.R.bindN] at p; exact p
    | ex _ _ => simp only [e, Mp.R.bindN] at p; exact False.elim p
    | ok ws s1 =>
      simp only [e, Mp.R.bindN] at p
      intro γ1 H1 ps st1 R1 r1
      obtain ⟨h1, ms, e1, h2, h3, q⟩ := fin R ha st1 R1 r1 p
      refine ⟨h1, ms, e1, h2, ?_⟩
      rw [merge_new (by simpa using h3), List.nil_append]
      exact q
end
end Mp

/-! Mp: more cases: x[::-1], (*a, b), a method's defaults. -/
namespace Mp
open PySem (Addr Value Expr PyData Str CmpOp Operator cLine Scope Env NameKind)
open L2 (V HO Hp upd upd_same upd_ne SqT SqL Rd PE PT PW PA PI PG Cx TE TT TA TI TG VK XK WX RelV Gl Sp It Room Takes Vis)
variable [TabT]
section
variable {P : Prg} {N : List Str} {Γ : Callee} {RX : ExRel} {k : Nat} {X : Cx} {W : WX} {sc : Scope}
theorem relDs_back {K : PySem.W.Frag} {γ : Gh} {H : Hp} {xs : List D} {us : List V} (r : RelDs K γ H xs us) : RelDs K γ H xs.reverse us.reverse := by
  induction xs generalizing us with
  | nil => cases r; exact .nil
  | cons x xs ih =>
    cases r with
    | cons h t =>
      rw [List.reverse_cons, List.reverse_cons]
      exact relDs_app (ih t) (.cons h .nil)
theorem negOne_is {st : Expr} (h : negOne st = true) : ∃ q p1 p2, st = .UnaryOp .USub (.Constant (.int 1) q p1) p2 := by
  unfold negOne at h
  split at h
  · simp only [decide_eq_true_eq] at h
    subst h
    exact ⟨_, _, _, rfl⟩
  · cases h
theorem s_rev {a : E} {x st : Expr} {p3 pos : PySem.Pos} (hst : negOne st = true) (ha : PE X x (tE X.K RX W (ev Γ a))) : PE X (.Subscript x (.Slice none none (some st) p3) pos) (tE X.K RX W (ev Γ (.rev a))) := by
  obtain ⟨q, p1, p2, rfl⟩ := negOne_is hst
  refine weakE (pe_back ha) fun σ H Q ⟨γ, s, R, p⟩ => ⟨γ, s, R, ?_⟩
  simp only [ev] at p
  refine p.bind fun v s1 γ1 H1 x st1 R1 r1 p1 => ?_
  obtain ⟨z, hz, p3⟩ := Post.opt p1
  unfold revV at hz
  cases e : seqv v s1 with
  | none => rw [e] at hz; cases hz
  | some bx =>
    obtain ⟨b, xs⟩ := bx
    rw [e] at hz
    obtain ⟨a', vs, rfl, rr, t⟩ := seq_rel R1 r1 e
    cases b with
    | true =>
      cases hz
      exact ⟨a', vs, rfl, .inr ⟨t, fun q hq => p3 γ1 _ _ (Stp.new γ1 hq) (R1.new hq) (new_lst R1 hq (relDs_back rr))⟩⟩
    | false =>
      cases hz
      exact ⟨a', vs, rfl, .inl ⟨t, fun q hq => p3 γ1 _ _ (Stp.new γ1 hq) (R1.new hq) (new_tup R1 hq (relDs_back rr))⟩⟩
theorem s_tupS {a es : E} {x : Expr} {ys : List Expr} {n : Nat} {p1 pos : PySem.Pos} (ha : PE X x (tE X.K RX W (ev Γ a))) (hs : PA X ys (tA X.K RX W (evs Γ es))) : PE X (.Tuple (.Starred x p1 :: ys) n pos) (tE X.K RX W (ev Γ (.tupS a es))) := by
  refine weakE (L2.pe_tup (StX.pa_star ha hs)) fun σ H Q ⟨γ, s, R, p⟩ => ⟨γ, s, R, ?_⟩
  simp only [ev] at p
  refine p.bind fun v s1 γ1 H1 x st1 R1 r1 p1 => ?_
  split at p1
  · rename_i xs
    cases r1 with
    | @tup a' _ us h rr =>
      refine ⟨a', us, rfl, .inl h, γ1, s1, R1, p1.bind fun vs s2 γ2 H2 ws st2 R2 r2 p2 => ?_⟩
      cases hd : toDs vs with
      | none => rw [hd] at p2; exact False.elim p2
      | some ds =>
        rw [hd] at p2
        obtain ⟨hl, p2⟩ := Post.ifP p2
        have rd := toDs_rel r2 hd
        have rall := relDs_app (RelDs.step st2.toSts R1.tups _ _ rr) rd
        exact ⟨line_le (by rw [← relDs_len rall, List.length_append]; exact hl), fun q hq => p2 γ2 _ _ (Stp.new γ2 hq) (R2.new hq) (new_tup R2 hq rall)⟩
  · exact False.elim p1
theorem mdB_of (G : Good P N Γ RX k X W sc) {tab : List (Str × Nat)} {m : Str} {ds : List D} {v : Val} {s : S} {γ : Gh} {σ : L2.St} {H : Hp} {x : V} {g : Nat} (ht : tab.all (P.mdB m ds) = true) (R : Rel X.K γ s σ H) (r : RelVal X.K γ H v x) (e : methV tab m v s = some g) :
    ∃ a C dx fs fa fd ps dl dvs, x = .ref a ∧ H a = some (.ins C dx fs) ∧ fs.lookup m = none ∧ L2.Cls X.K C ∧ L2.Meth X.K C m fa ∧ L2.Binds X.K fd ps dl ∧ L2.Vals dvs dl ∧ (∀ γ H, RelDs X.K γ H ds dvs) ∧ L2.FnOk X.prog X.w X.K X.mg X.base (L2.CX X.prog X.w) k fa fd ps (spG X.K RX Γ g) := by
  unfold methV at e
  split at e
  · rename_i n c ns vs e1
    split at e
    · cases e
    · rename_i hm
      obtain ⟨a, dx, fs, rfl, rfl, hp, hg, hh, hn, rr⟩ := ins_rel R r e1
      have := List.all_eq_true.mp ht _ (tab_mem e)
      unfold Prg.mdB at this
      obtain ⟨d, hd, h1⟩ := List.any_eq_true.mp this
      simp only [Bool.and_eq_true, decide_eq_true_eq] at h1
      obtain ⟨rfl, h2⟩ := h1
      obtain ⟨q, hq, h3⟩ := List.any_eq_true.mp h2
      simp only [Bool.and_eq_true, decide_eq_true_eq] at h3
      obtain ⟨⟨rfl, rfl⟩, h4⟩ := h3
      have e4 := D.sames_eq _ _ h4
      subst e4
      obtain ⟨fa, fd, ps, dl, dvs, q1, q2, q3, q4, q5⟩ := G.mdef d hd _ hq
      exact ⟨a, _, dx, fs, fa, fd, ps, dl, dvs, rfl, hh, lookup_none (by rw [← hn]; exact hm), G.cls d hd, q1, q2, q3, q4, q5⟩
  · cases e
theorem umd_eval {env : Env} {o : Expr} {m : Str} {ap cp : PySem.Pos} (hb : notCall o = true) (hpos : (ap.endLine == cp.line) = true) :
    PySem.eval (.Call (.Attribute o m ap) [] [] cp) env = (do
      let obj ← PySem.eval o env
      PySem.standAt ap.atName
      let (fn, lead) ← PySem.holding [obj] (PySem.getMethod obj m (do return (← PySem.importBound o env).getD true))
      PySem.callWith cp fn lead (PySem.backTo cp (PySem.starEach [] env)) (PySem.backToKw cp (PySem.keywordEach [] env))) :=
  um_eval (P := ⟨fun _ => "", 0, [], [], [], [], [], []⟩) (N := []) (sc := env.scope) (t := .nil) (ys := []) (by simp [cL]) (by decide) hb hpos
theorem relVals_ds {K : PySem.W.Frag} {γ : Gh} {H : Hp} : ∀ {ds : List D} {vs : List V}, RelDs K γ H ds vs → RelVals K γ H (ds.map Val.d) vs
  | [], _, .nil => .nil
  | _ :: _, _, .cons h t => .cons h (relVals_ds t)
theorem run_fnD {pins : List (Addr × PySem.Obj)} {σ : L2.St} {H : Hp} {s : PySem.Shared} {Q : VK} {Cq : L2.CXT} {kk : Nat} {f : Addr} {fd : PySem.FuncData} {ps : List Str} {sp : Sp} {E : XK} {us ds : List Value} {vs dvs : List V} (F : L2.FnOk X.prog X.w X.K X.mg X.base Cq kk f fd ps sp) (hr : Room kk X.A) (hb : L2.Binds X.K fd ps ds) (hd : L2.Vals dvs ds)
    (hx : L2.PassesAt Cq X σ E) (I : L2.Inv X pins σ H s) (r : L2.Vals vs us) (h : sp (vs ++ dvs) H Q E) : PySem.wpAny (PySem.model X.prog X.w) X.A (PySem.call (.ref f) us) (L2.EP X pins σ Q) X.xe s := by
  have r2 : L2.Vals (vs ++ dvs) (us ++ ds) := r.append hd
  have hl : (us ++ ds).length = ps.length := by rw [← r2.length]; exact F.len _ _ _ _ h
  refine PySem.wpAny_call (PySem.codeAny_mono (F.run X.A X.stack s H ⟨us, []⟩ (us ++ ds) (vs ++ dvs) Q E hr I.env0 (hb s us I.kIn hl) r2 h) fun r s' hq => ?_)
  cases r with
  | error e => exact hx pins H s e s' I hq
  | ok fl =>
    cases fl with
    | ret u => exact I.after hq
    | next => exact False.elim hq
    | brk => exact False.elim hq
    | cont => exact False.elim hq
theorem s_umd (G : Good P N Γ RX k X W sc) {tab : List (Str × Nat)} {m : Str} {a : E} {ds : List D} {o : Expr} {ap cp : PySem.Pos} (hb : notCall o = true) (hpos : (ap.endLine == cp.line) = true) (ht : tab.all (P.mdB m ds) = true)
    (ho : PE X o (tE X.K RX W (ev Γ a))) : PE X (.Call (.Attribute o m ap) [] [] cp) (tE X.K RX W (ev Γ (.umd tab m a ds))) := by
  refine ⟨fun pins st σ H Q I h => ?_⟩
  have key : tE X.K RX W (ev Γ a) σ H (fun x H1 => ∃ g a' C dx fs fa fd ps dl dvs, x = .ref a' ∧ H1 a' = some (.ins C dx fs) ∧ fs.lookup m = none ∧ L2.Cls X.K C ∧ L2.Meth X.K C m fa ∧ L2.Binds X.K fd ps dl ∧ L2.Vals dvs dl ∧ L2.FnOk X.prog X.w X.K X.mg X.base (L2.CX X.prog X.w) k fa fd ps (spG X.K RX Γ g) ∧
      spG X.K RX Γ g (x :: dvs) H1 Q (L2.WE W σ)) := by
    obtain ⟨γ, s, R, p⟩ := h
    refine ⟨γ, s, R, ?_⟩
    simp only [ev] at p
    refine p.bind fun v s1 γ1 H1 x st1 R1 r1 p1 => ?_
    split at p1
    · rename_i g e
      obtain ⟨a', C, dx, fs, fa, fd, ps, dl, dvs, q1, q2, q3, q4, q5, q6, q7, q8, q9⟩ := mdB_of G ht R1 r1 e
      exact ⟨g, a', C, dx, fs, fa, fd, ps, dl, dvs, q1, q2, q3, q4, q5, q6, q7, q9, call_reading G.steady R1 (.cons r1 (relVals_ds (q8 _ _))) p1⟩
    · exact False.elim p1
  refine PySem.W.methodCall_KW (L2.thn (ho.run pins st σ H _ I key) fun u t1 ⟨x, H1, I1, rx, g, a', C, dx, fs, fa, fd, ps, dl, dvs, q1, q2, q3, q4, q5, q6, q7, q8, q9⟩ => ?_) (umd_eval hb hpos)
  subst q1
  cases rx
  refine L2.getmeth_ok I1 q2 q4 q5 q3 ?_
  exact PySem.W.callWith_K0 (first := [.ref a']) I1.kIn q5.kp (run_fnD (E := L2.WE W σ) (us := [.ref a']) (vs := [.ref a']) q8 G.room q6 q7 (L2.passAt G.tk σ) I1 (.cons (show RelV (V.ref a') (Value.ref a') from rfl) .nil) q9)
end
end Mp

/-! Mp: an own ==, sets of tuples, sorted, keywords, static methods. -/
namespace Mp
open PySem (Addr Value Expr PyData Str CmpOp Operator cLine Scope Env NameKind compareOp)
open L2 (V HO Hp upd upd_same upd_ne SqT SqL Rd PE PT PW PA PI PG Cx OpR TE TT TA TI TG VK XK WX RelV Gl Sp It Room Takes Vis EP)
section
open PySem PySem.Builtin
variable {prog : Program} {w : World} {A : Around} {E : Value → Shared → Prop} {s : Shared} {K : PySem.W.Frag} {x C L f : Addr} {h₀ : Heap} {m : Str → Option Value} {ox : Obj} {od : Option Obj} {b tb : Value}
/-- __ne__ of object, bound to an instance -/
theorem bound_ne {M : Model} {args : List Value} {Q : Option Value → Shared → Prop} (X : K.In s.heap) (I : PySem.W.InstAt s.heap x ox C od) (hs : PySem.W.findIn K (.ref C) "__ne__" = some (some (.builtin "object.__ne__")))
    (h : wpAny M A (call (.builtin "object.__ne__") (.ref x :: args)) (fun v => Q (some v)) E s) : wpAny M A (callSpecialIfBound? (.ref x) "__ne__" args) Q E s := by
  have hb : ∀ u, bindSpecial (.builtin "object.__ne__") u = pure (.builtin "object.__ne__", [u]) := fun u => F.cmp_object.ne.bind u
  simp only [callSpecialIfBound?, bindSpecialIfBound?]
  refine wpAny_holding (wpAny_bind (wpAny_bind (wpAny_bind (I.type.here ((PySem.W.looks_findIn X hs).here ?_)))))
  simp only [hb]
  refine wpAny_bind (wpAny_askSetting (wpAny_ite ?_))
  have go : wpAny M A (call (.builtin "object.__ne__") ([.ref x] ++ args) >>= fun v => pure (some v)) Q E s := wpAny_bind (wpAny_mono h (fun _ _ z => wpAny_pure z) fun _ _ z => z)
  split
  · exact wpAny_bind (wpAny_pure (wpAny_pure (by exact go)))
  · exact wpAny_tryCatch (wpAny_bind (wpAny_pure (wpAny_pure (by exact go))))
/-- != by an own == -/
theorem ne_own {Q : Value → Shared → Prop} (hu : A.units + 2 < cLine) (X : K.In s.heap) (I : PySem.W.InstAt s.heap x ox C od) (hb : PySem.W.Looks (model prog w) s.heap (typeOf b) tb) (c : EqC K C f) (hn : PySem.W.notFirst K C tb = true)
    (h : wpAny (model prog w) A.in1 (call (.ref f) [.ref x, b]) (fun v z => ∃ r, v = .bool r ∧ Q (.bool (!r)) z) E s) : wpAny (model prog w) A (richCompare .NotEq (.ref x) b) Q E s := by
  have one : wpAny (model prog w) A (tryCompare (.ref x) "__ne__" b) (fun r z => ∃ v, r = some v ∧ Q v z) E s := by
    unfold tryCompare
    refine wpAny_bind (bound_ne X I c.ne (wpAny_call (codeAny_call_builtin F.cmp_object.ne.plain F.cmpEntry_ne (PySem.W.check_slot (i := "object.__ne__") (owner := "object") (n := "__ne__") F.cmpKind_ne F.cmpSplit_ne (I.type.andThen (PySem.W.looks_mroIn X c.mo)) (F.cmpArgs_ne _ _) ?_))))
    unfold Builtin.«object.__ne__»
    refine wpAny_bind (m := slotArgs "__ne__" 1 _) (wpAny_pure ?_)
    refine wpAny_bind (m := cRoomFor _ _) (wpAny_cRoomFor (show A.units + 1 < cLine by omega) ?_)
    refine wpAny_bind (m := callSpecialIfBound? (.ref x) (Str.ofString "__eq__") _) (PySem.W.ifBound_K X I c.eq c.fn (wpAny_mono h (fun r z hr => ?_) fun _ _ y => y))
    obtain ⟨r, rfl, hq⟩ := hr
    dsimp only
    refine wpAny_bind (wpAny_truthy_bool ?_)
    refine wpAny_pure ?_
    show wpAny _ _ _ _ _ _
    exact wpAny_pure ⟨_, rfl, hq⟩
  unfold richCompare
  simp only [oneThing_ref]
  refine wpAny_holding (wpAny_bind (wpAny_cRoomFor (by omega) ?_))
  rw [cmpInfo_NotEq]
  dsimp only
  refine wpAny_bind (I.type.here (wpAny_bind (hb.here ?_)))
  split
  · rename_i q
    have e : PySem.W.subIn K tb (.ref C) = some false := by
      rcases Bool.or_eq_true_iff.mp hn with e | e
      · rw [beq_iff_eq.mp e] at q; simp at q
      · exact beq_iff_eq.mp e
    refine wpAny_bind ((PySem.W.looks_subIn X e).here ?_)
    simp only [Bool.false_eq_true, if_false]
    refine wpAny_bind (wpAny_mono one (fun r z hz => ?_) fun _ _ e => e)
    obtain ⟨v, rfl, hq⟩ := hz
    exact wpAny_pure hq
  · refine wpAny_bind (wpAny_pure ?_)
    simp only [Bool.false_eq_true, if_false]
    refine wpAny_bind (wpAny_mono one (fun r z hz => ?_) fun _ _ e => e)
    obtain ⟨v, rfl, hq⟩ := hz
    exact wpAny_pure hq
end
variable [TabT]
section
variable {P : Prg} {N : List Str} {Γ : Callee} {RX : ExRel} {k : Nat} {X : Cx} {W : WX} {sc : Scope}
/-- a def's call one level down or here -/
theorem run_sub {A : PySem.Around} {n : Nat} {pins : List (Addr × PySem.Obj)} {σ : L2.St} {H : Hp} {s : PySem.Shared} {Q : VK} {f : Addr} {fd : PySem.FuncData} {ps : List Str} {sp : Sp} {us : List Value} {vs : List V} (sb : L2.Sub X n A) (F : L2.FnOk X.prog X.w X.K X.mg X.base (L2.CX X.prog X.w) n f fd ps sp)
    (hb : L2.Binds X.K fd ps []) (I : L2.Inv X pins σ H s) (r : L2.Vals vs us) (h : sp vs H Q (fun _ _ _ => False)) : PySem.wpAny (PySem.model X.prog X.w) A (PySem.call (.ref f) us) (EP X pins σ Q) X.xe s := by
  have hx : L2.PassesAt (L2.CX X.prog X.w) X σ (fun _ _ _ => False) := fun pins H s e s' I c => L2.passAt (W := W0) LamX.takes0 σ pins H s e s' I c
  have e0 : L2.Env0 X.prog X.w X.K X.mg X.base A X.stack s H := by
    have e := I.env0
    exact ⟨by rw [sb.fr]; exact e.frames, e.mod, e.bs, e.bsz, e.funs, e.frf, e.hok, e.bare⟩
  have b := hb s us I.kIn (by rw [List.append_nil, ← r.length]; exact F.len _ _ _ _ h)
  rw [List.append_nil] at b
  refine PySem.wpAny_call (PySem.codeAny_mono (F.run A X.stack s H ⟨us, []⟩ us vs Q _ sb.room e0 b r h) fun res z hz => ?_)
  cases res with
  | error e => exact hx pins H s e z I hz
  | ok fl =>
    cases fl with
    | ret u => exact I.after hz
    | _ => exact False.elim hz
def negB (neg r : Bool) : Bool := if neg = true then !r else r
def opO (neg : Bool) : CmpOp := if neg = true then .NotEq else .Eq
def rOwn (X : Cx) (RX : ExRel) (Γ : Callee) (k : Nat) (neg : Bool) : L2.R2 := fun x y H Q => ∃ a C dx fs fa fd ps g T, x = .ref a ∧ H a = some (.ins C dx fs) ∧ EqC X.K C fa ∧ L2.TyX X.K H y T ∧ PySem.W.notFirst X.K C T = true ∧ L2.Binds X.K fd ps [] ∧
  L2.FnOk X.prog X.w X.K X.mg X.base (L2.CX X.prog X.w) k fa fd ps (spG X.K RX Γ g) ∧ spG X.K RX Γ g [x, y] H (fun v H' => ∃ r, v = .bl r ∧ Q (.bl (negB neg r)) H') (fun _ _ _ => False)
theorem op_own (hr : Room (k + 1) X.A) (neg : Bool) : OpR X (compareOp (opO neg)) (rOwn X RX Γ k neg) := by
  intro pins s σ H x y v u Q I rx ry h
  obtain ⟨a, C, dx, fs, fa, fd, ps, g, T, rfl, ha, c, ty, nf, hb, F, hs⟩ := h
  cases rx
  obtain ⟨mA, J, _⟩ := L2.ins_get I.hok ha
  obtain ⟨od, J, _⟩ := J.look
  obtain ⟨pr, kx, hp, _⟩ := L2.kit_of I ry ty
  have lt := kx.ty (PySem.model X.prog X.w) s.heap I.kIn hp
  have r2 : L2.Vals [V.ref a, y] [Value.ref a, u] := .cons (show RelV (V.ref a) (Value.ref a) from rfl) (.cons ry .nil)
  cases neg with
  | false =>
    obtain ⟨m, hF⟩ := I.fr
    show PySem.wpAny _ _ (PySem.richCompare .Eq _ _) _ _ _
    refine PySem.W.cmp_K (op := .Eq) hr.units0 hF I.ok.mod.kin J lt nf c.eq c.fn (PySem.wpAny_mono (run_sub ⟨hr.mono (Nat.le_succ k), rfl⟩ F hb I r2 hs) (fun v z hz => ?_) fun _ _ e => e)
    obtain ⟨x2, H2, I2, rx2, b, rfl, q⟩ := hz
    cases rx2
    exact ⟨.bl (negB false b), H2, I2, (show RelV (.bl _) _ from rfl), q⟩
  | true =>
    show PySem.wpAny _ _ (PySem.richCompare .NotEq _ _) _ _ _
    have hu := hr.un
    refine ne_own (by omega) I.kIn J lt c nf (PySem.wpAny_mono (run_sub ⟨hr.in1, rfl⟩ F hb I r2 hs) (fun v z hz => ?_) fun _ _ e => e)
    obtain ⟨x2, H2, I2, rx2, b, rfl, q⟩ := hz
    cases rx2
    exact ⟨b, rfl, .bl (negB true b), H2, I2, (show RelV (.bl _) _ from rfl), q⟩
/-- the type of a value, as isinstance and == see it -/
def tyV (K : PySem.W.Frag) (v : Val) (s : S) : Option Value :=
  match v with
  | .own j => match s.fs[j]? with
    | some (.lst _) => some (.type "list")
    | _ => none
  | .d (.ref n) => match s.gs[n]? with
    | some (.lst _) => some (.type "list")
    | some (.ins c _ _) => some (.ref (clsOf K c))
    | _ => none
  | .d .non => some (.type "NoneType")
  | .d (.bl _) => some (.type "bool")
  | .d (.int _) => some (.type "int")
  | .d (.str _) => some (.type "str")
  | .d (.tup _) => some (.type "tuple")
  | .d (.lst _) => some (.type "list")
  | .d (.scr _) => some (.type "list")
  | .d (.dct _ _) => some (.type "dict")
  | _ => none
theorem tyV_rel {K : PySem.W.Frag} {γ : Gh} {s : S} {σ : L2.St} {H : Hp} (R : Rel K γ s σ H) {v : Val} {x : V} {T : Value} (r : RelVal K γ H v x) (hC : ∀ n c ns vs, v = .d (.ref n) → s.gs[n]? = some (.ins c ns vs) → C8.InsC K (clsOf K c)) (e : tyV K v s = some T) : L2.TyX K H x T := by
  unfold tyV at e
  split at e
  · split at e
    · cases e
      obtain ⟨a, rfl, ha⟩ := r
      obtain ⟨ys, vs, hc, hh, rr⟩ := R.cellF ha
      exact .base (.lst hh)
    · cases e
  · split at e
    · rename_i hgs
      cases e
      cases r with
      | ref ha =>
        obtain ⟨ys, vs, hc, hh, rr⟩ := R.cellG ha hgs
        exact .base (.lst hh)
    · rename_i c ns vs hgs
      cases e
      cases r with
      | ref ha =>
        rcases R.gc _ _ _ ha hgs with h | ⟨nm, ns', vs', dx, fs, e1, hh, _⟩
        · exact False.elim h
        · cases e1
          have IC := hC _ _ _ _ rfl hgs
          exact .base (.ins hh IC.cl IC.ha IC.hn IC.htk IC.hm)
    · cases e
  · cases r; cases e; exact .base .non
  · cases r; cases e; exact .base (.bl _)
  · cases r; cases e; exact .base (.int _)
  · cases r; cases e; exact .base (.str _)
  · cases e
    cases r with
    | tup h rr =>
      rcases h with (h | ⟨o, h⟩) | ⟨o, its, n, h1, h2, _⟩
      · exact .base (.tup h)
      · exact .fTuple h
      · exact .kTuple h1 h2
  · cases e
    cases r with
    | lst h nb rr => exact .base (.lst h)
  · cases e
    have ls : ∀ {a : Addr} {vs : List V}, SqL K H a vs → L2.TyX K H (.ref a) (.type "list") := fun {a vs} h => by
      rcases h with (h | ⟨o, h⟩) | ⟨o, its, n, h1, h2, _⟩
      · exact .base (.lst h)
      · exact .base (.frz h)
      · exact .kList h1 h2
    cases r with
    | scr h nb rr => exact ls (.inl h)
    | scrK h rr => exact ls (h H)
  · cases e
    cases r with
    | dct h nb hk rr => exact .base (.dK h)
  · cases e
/-- an instance of a class that has an own ==, beside any value -/
theorem own_of (G : Good P N Γ RX k X W sc) {tab : List (Str × Nat)} {v u : Val} {s : S} {γ : Gh} {σ : L2.St} {H : Hp} {x y : V} {g : Nat} (ht : tab.all P.eqB = true) (R : Rel X.K γ s σ H) (r : RelVal X.K γ H v x) (ru : RelVal X.K γ H u y) (e : methV tab "__eq__" v s = some g) {T : Value}
    (ety : tyV X.K u s = some T) (hcl : ∀ n c ns vs, u = .d (.ref n) → s.gs[n]? = some (.ins c ns vs) → ∃ d ∈ P.cls, d.name = c) :
    ∃ a C dx fs fa fd ps, x = .ref a ∧ H a = some (.ins C dx fs) ∧ EqC X.K C fa ∧ L2.TyX X.K H y T ∧ PySem.W.notFirst X.K C T = true ∧ L2.Binds X.K fd ps [] ∧ L2.FnOk X.prog X.w X.K X.mg X.base (L2.CX X.prog X.w) k fa fd ps (spG X.K RX Γ g) := by
  unfold methV at e
  split at e
  · rename_i n c ns vs e1
    split at e
    · cases e
    · obtain ⟨a, dx, fs, rfl, rfl, hp, hg, hh, hn, rr⟩ := ins_rel R r e1
      have := List.all_eq_true.mp ht _ (tab_mem e)
      unfold Prg.eqB at this
      obtain ⟨d, hd, h1⟩ := List.any_eq_true.mp this
      simp only [Bool.and_eq_true, decide_eq_true_eq] at h1
      obtain ⟨rfl, h2⟩ := h1
      obtain ⟨fa, fd, ps, q1, q2, q3, q4⟩ := G.eqs d hd g h2
      have tx : L2.TyX X.K H y T := tyV_rel R ru (fun n c ns vs e1 e2 => by
        obtain ⟨d2, hd2, rfl⟩ := hcl n c ns vs e1 e2
        exact (G.isc d2 hd2).1) ety
      refine ⟨a, _, dx, fs, fa, fd, ps, rfl, hh, q1, tx, ?_, q3, q4⟩
      unfold tyV at ety
      split at ety
      · split at ety
        · cases ety; exact q1.first _ (by simp [valTys])
        · cases ety
      · split at ety
        · cases ety; exact q1.first _ (by simp [valTys])
        · rename_i hgs
          cases ety
          obtain ⟨d2, hd2, rfl⟩ := hcl _ _ _ _ rfl hgs
          exact q2 d2 hd2
        · cases ety
      all_goals first
        | (cases ety; exact q1.first _ (by simp [valTys]))
        | cases ety
  · cases e
theorem eqBy_ty {K : PySem.W.Frag} {cs : List Str} {u : Val} {s : S} (h : eqBy cs u s = true) : (∃ T, tyV K u s = some T) ∧ ∀ n c ns vs, u = .d (.ref n) → s.gs[n]? = some (.ins c ns vs) → c ∈ cs := by
  unfold eqBy at h
  split at h
  · split at h
    · rename_i e
      exact ⟨⟨.type "list", by simp [tyV, e]⟩, fun n c ns vs e1 => by cases e1⟩
    · cases h
  · split at h
    · rename_i e
      exact ⟨⟨.type "list", by simp [tyV, e]⟩, fun n c ns vs e1 e2 => by cases e1; rw [e] at e2; cases e2⟩
    · rename_i e
      refine ⟨?_, fun n c ns vs e1 e2 => by cases e1; rw [e] at e2; cases e2; exact of_decide_eq_true h⟩
      simp only [tyV, e]
      exact ⟨_, rfl⟩
    · cases h
  all_goals first
    | cases h; done
    | exact ⟨⟨_, rfl⟩, fun n c ns vs e1 => by cases e1⟩
theorem oq_key (G : Good P N Γ RX k X W sc) {neg : Bool} {tab : List (Str × Nat)} (ht : tab.all P.eqB = true) {x : V} {y : V} {v u : Val} {s : S} {γ γ0 : Gh} {σ : L2.St} {H H0 : Hp} {Q : VK} (R : Rel X.K γ s σ H) (r : RelVal X.K γ H v x) (ru : RelVal X.K γ H u y)
    (p : Post X.K RX W γ H σ (RelVal X.K) (match methV tab "__eq__" v s with
      | some g => if eqBy (tab.map Prod.fst) u s then (callR Γ g [v, u] s).bindN fun u s1 => match u with
        | .d (.bl r) => .ok (.d (.bl (if neg then !r else r))) s1
        | _ => .bad else .bad
      | none => .bad) Q) : rOwn X RX Γ k neg x y H Q := by
  split at p
  · rename_i g e
    split at p
    · rename_i hb
      obtain ⟨⟨T, hT⟩, hc⟩ := eqBy_ty (K := X.K) hb
      obtain ⟨a, C, dx, fs, fa, fd, ps, q1, q2, q3, q4, q5, q6, q7⟩ := own_of G ht R r ru e hT (fun n c ns vs e1 e2 => by
        obtain ⟨q, hq, rfl⟩ := List.mem_map.mp (hc n c ns vs e1 e2)
        have := List.all_eq_true.mp ht q hq
        unfold Prg.eqB at this
        obtain ⟨d, hd, h1⟩ := List.any_eq_true.mp this
        simp only [Bool.and_eq_true, decide_eq_true_eq] at h1
        exact ⟨d, hd, h1.1⟩)
      refine ⟨a, C, dx, fs, fa, fd, ps, g, T, q1, q2, q3, q4, q5, q6, q7, ?_⟩
      refine call_reading (W := W0) (σ := σ) G.steady R (.cons r (.cons ru .nil)) ?_
      cases hr : callR Γ g [v, u] s with
      | bad => rw [hr] at p; exact p
      | ex _ _ => rw [hr] at p; exact False.elim p
      | ok z s2 =>
        rw [hr] at p
        intro γ' H' b st R' rz
        simp only [Mp.R.bindN] at p
        split at p
        · cases rz
          exact ⟨_, rfl, p γ' H' _ st R' (.bl _)⟩
        · exact False.elim p
    · exact False.elim p
  · exact False.elim p
theorem oq_weak (G : Good P N Γ RX k X W sc) {neg : Bool} {tab : List (Str × Nat)} {a b : E} (ht : tab.all P.eqB = true) {σ : L2.St} {H : Hp} {Q : VK} (h : tE X.K RX W (ev Γ (.oq neg tab a b)) σ H Q) : L2.tOp (rOwn X RX Γ k neg) (tE X.K RX W (ev Γ a)) (tE X.K RX W (ev Γ b)) σ H Q := by
  obtain ⟨γ, s, R, p⟩ := h
  refine ⟨γ, s, R, ?_⟩
  simp only [ev] at p
  exact p.bind fun v s1 γ1 H1 x st1 R1 r1 p1 => ⟨γ1, s1, R1, p1.bind fun u s2 γ2 H2 y st2 R2 r2 p2 => oq_key G ht (γ0 := γ) (H0 := H) R2 (r1.step st2 R1.tups) r2 p2⟩
theorem s_oq (G : Good P N Γ RX k X W sc) {neg : Bool} {tab : List (Str × Nat)} {a b : E} {l r : Expr} {pos : PySem.Pos} (ht : tab.all P.eqB = true) (hm : PySem.behindInMarks (opO neg) r = false) (ha : PE X l (tE X.K RX W (ev Γ a))) (hb : PE X r (tE X.K RX W (ev Γ b))) :
    PE X (.Compare l [opO neg] [r] pos) (tE X.K RX W (ev Γ (.oq neg tab a b))) := weakE (L2.pe_cmpR (op_own (RX := RX) (Γ := Γ) G.room1 neg) ha hb hm) fun σ H Q h => oq_weak G ht h
/-- a code whose value is a bool, as a test -/
theorem tT_tE {K : PySem.W.Frag} {m : S → R Val} (hm : ∀ s v s', m s = .ok v s' → ∃ b, v = .d (.bl b)) {σ : L2.St} {H : Hp} {Q : Bool → Hp → Prop} (h : tT K RX W (fun s => (m s).bind fun x s => optR (truth x s) s) σ H Q) : tE K RX W m σ H (fun x H' => ∃ k, x = .bl k ∧ Q k H') := by
  obtain ⟨γ, s, R, p⟩ := h
  refine ⟨γ, s, R, ?_⟩
  cases e : m s with
  | bad => simp only [e, Mp.R.bind] at p; exact p
  | ex _ _ => simp only [e, Mp.R.bind] at p; exact p
  | ok v s1 =>
    obtain ⟨b, rfl⟩ := hm s v s1 e
    simp only [e, Mp.R.bind, truth, optR] at p
    intro γ1 H1 x st1 R1 r1
    cases r1
    exact ⟨b, rfl, p γ1 H1 b st1 R1 rfl⟩
theorem oq_bl {neg : Bool} {tab : List (Str × Nat)} {a b : E} : ∀ (s : S) v s', ev Γ (.oq neg tab a b) s = .ok v s' → ∃ r, v = .d (.bl r) := by
  intro s v s' h
  simp only [ev] at h
  cases ea : ev Γ a s with
  | bad => rw [ea] at h; cases h
  | ex _ _ => rw [ea] at h; cases h
  | ok x s1 =>
    rw [ea] at h
    simp only [Mp.R.bind] at h
    cases eb : ev Γ b s1 with
    | bad => rw [eb] at h; cases h
    | ex _ _ => rw [eb] at h; cases h
    | ok y s2 =>
      rw [eb] at h
      simp only at h
      split at h
      · split at h
        · rename_i g e hb
          cases hr : callR Γ g [x, y] s2 with
          | bad => rw [hr] at h; cases h
          | ex _ _ => rw [hr] at h; cases h
          | ok z s3 =>
            rw [hr] at h
            simp only [Mp.R.bindN] at h
            split at h
            · cases h; exact ⟨_, rfl⟩
            · cases h
        · cases h
      · cases h
theorem s_oqT (G : Good P N Γ RX k X W sc) {neg : Bool} {tab : List (Str × Nat)} {a b : E} {l r : Expr} {pos : PySem.Pos} (ht : tab.all P.eqB = true) (hm : PySem.behindInMarks (opO neg) r = false) (ha : PE X l (tE X.K RX W (ev Γ a))) (hb : PE X r (tE X.K RX W (ev Γ b))) :
    PT X (.Compare l [opO neg] [r] pos) (tT X.K RX W (evT Γ (.oq neg tab a b))) := weakT (L2.pt_cmpR (op_own (RX := RX) (Γ := Γ) G.room1 neg) ha hb hm) fun σ H Q h => oq_weak G ht (tT_tE oq_bl (by
    have e : evT Γ (.oq neg tab a b) = fun s => (ev Γ (.oq neg tab a b) s).bind fun x s => optR (truth x s) s := by
      funext s
      simp only [evT]
    rw [e] at h
    exact h))
/-! ### isinstance with a class of the program; is with a bool -/
theorem clsB_of {cs : List Str} (h : cs.all P.clsB = true) {c : Str} (hc : c ∈ cs) : ∃ d ∈ P.cls, d.name = c := by
  have := List.all_eq_true.mp h c hc
  unfold Prg.clsB at this
  obtain ⟨d, hd, h1⟩ := List.any_eq_true.mp this
  exact ⟨d, hd, of_decide_eq_true h1⟩
theorem isCls_rel (G : Good P N Γ RX k X W sc) {cs : List Str} {c : Str} {v : Val} {s : S} {γ : Gh} {σ : L2.St} {H : Hp} {x : V} {b : Bool} (hcs : cs.all P.clsB = true) (hc : P.clsB c = true) (R : Rel X.K γ s σ H) (r : RelVal X.K γ H v x) (e : isCls cs c v s = some b) :
    ∃ T, L2.TyX X.K H x T ∧ PySem.W.kitOne X.K T (.ref (clsOf X.K c)) = some b := by
  obtain ⟨d, hd, rfl⟩ : ∃ d ∈ P.cls, d.name = c := clsB_of (P := P) (cs := [c]) (by simp [hc]) (by simp)
  obtain ⟨k1, k2⟩ := G.isc2 d hd
  obtain ⟨T, hT, kT⟩ : ∃ T, tyV X.K v s = some T ∧ PySem.W.kitOne X.K T (.ref (clsOf X.K d.name)) = some b := by
    unfold isCls at e
    split at e
    · split at e
      · rename_i e2
        cases e; exact ⟨.type "list", by simp only [tyV, e2], k1 _ (by simp [valTys])⟩
      · cases e
    · split at e
      · rename_i e2
        cases e; exact ⟨.type "list", by simp only [tyV, e2], k1 _ (by simp [valTys])⟩
      · rename_i c2 ns vs e2
        by_cases hm : c2 ∈ cs
        · rw [if_pos hm] at e
          cases e
          obtain ⟨d2, hd2, rfl⟩ := clsB_of hcs hm
          exact ⟨.ref (clsOf X.K d2.name), by simp only [tyV, e2], k2 d2 hd2⟩
        · rw [if_neg hm] at e; cases e
      · cases e
    all_goals first
      | (cases e; exact ⟨_, rfl, k1 _ (by simp [valTys])⟩)
      | cases e
  refine ⟨T, tyV_rel R r (fun n c ns vs e1 e2 => ?_) hT, kT⟩
  subst e1
  unfold isCls at e
  simp only [e2] at e
  by_cases hm : c ∈ cs
  · obtain ⟨d2, hd2, rfl⟩ := clsB_of hcs hm
    exact (G.isc d2 hd2).1
  · rw [if_neg hm] at e; cases e
theorem s_isC (G : Good P N Γ RX k X W sc) {cs : List Str} {a : E} {c : Str} {y : Expr} {p p2 pos : PySem.Pos} (hg : glB sc "isinstance" = true) (hg2 : glB sc c = true) (hd2 : notDbg c = true) (hst : notStar y = true) (hcs : cs.all P.clsB = true) (hc : P.clsB c = true) (ha : PE X y (tE X.K RX W (ev Γ a))) :
    PE X (.Call (.Name "isinstance" p) [y, .Name c p2] [] pos) (tE X.K RX W (ev Γ (.isC cs a c))) := by
  have hz : PE X (.Name c p2) (L2.tC (.ref (clsOf X.K c))) := by
    obtain ⟨d, hd, rfl⟩ : ∃ d ∈ P.cls, d.name = c := clsB_of (P := P) (cs := [c]) (by simp [hc]) (by simp)
    exact L2.pe_glob (G.gl _ hg2) (G.nmc d hd) (show RelV (.ref _) _ from rfl) (notDbg_of hd2).1
  refine weakE (L2.pe_callB L2.call_isi (G.gl _ hg) G.isi (by decide +kernel) (L2.pa_cons ha (L2.pa_cons hz L2.pa_nil) (star_cons hst)) (by decide +kernel) (by decide +kernel) (star_cons hst) (by rfl)) fun σ H Q ⟨γ, s, R, p⟩ => ⟨γ, s, R, ?_⟩
  simp only [ev] at p
  refine p.bind fun v s1 γ1 H1 x st1 R1 r1 p1 => ?_
  cases hk : isCls cs c v s1 with
  | none => rw [hk] at p1; exact False.elim p1
  | some b =>
    rw [hk] at p1
    obtain ⟨T, ty, kb⟩ := isCls_rel G hcs hc R1 r1 hk
    exact ⟨x, .ref _, _, _, b, rfl, .own _, ty, kb, Post.here (a := Val.d (D.bl b)) p1 R1 (.bl _)⟩
/-! ### len(set(v)) -/
mutual
theorem keyN_is {γ : Gh} {H : Hp} {X : Cx} {pins : List (Addr × PySem.Obj)} {σ : L2.St} {s : PySem.Shared} (I : L2.Inv X pins σ H s) : ∀ (d : D) (k : PySem.NestedKey) (v : V) (u : Value), keyN d = some k → RelD X.K γ H d v → RelV v u → PySem.NestedIs s.heap k u
  | .non, _, _, _, e, r, ru => by cases e; cases r; cases ru; exact .none
  | .bl b, _, _, _, e, r, ru => by cases e; cases r; cases ru; exact .bool rfl
  | .int i, _, _, _, e, r, ru => by cases e; cases r; obtain ⟨t, rfl⟩ := ru; exact .int _ _
  | .str x, _, _, _, e, r, ru => by cases e; cases r; obtain ⟨t, rfl⟩ := ru; exact .text _ _
  | .tup xs, _, _, _, e, r, ru => by
    simp only [keyN, Option.map_eq_some_iff] at e
    obtain ⟨ks, e, rfl⟩ := e
    cases r with
    | tup h rr =>
      cases ru
      obtain ⟨its, rv, ⟨o, ho, hc, n, hd⟩, _⟩ := I.tuple h
      exact .tup ho hc hd (by simpa using keysN_are I xs ks _ its e rr rv)
  | .lst _, _, _, _, e, _, _ => by cases e
  | .dct _ _, _, _, _, e, _, _ => by cases e
  | .ins _ _ _, _, _, _, e, _, _ => by cases e
  | .cls _, _, _, _, e, _, _ => by cases e
  | .ty _, _, _, _, e, _, _ => by cases e
  | .fn _, _, _, _, e, _, _ => by cases e
  | .clo _ _, _, _, _, e, _, _ => by cases e
  | .ref _, _, _, _, e, _, _ => by cases e
  | .scr _, _, _, _, e, _, _ => by cases e
theorem keysN_are {γ : Gh} {H : Hp} {X : Cx} {pins : List (Addr × PySem.Obj)} {σ : L2.St} {s : PySem.Shared} (I : L2.Inv X pins σ H s) : ∀ (ds : List D) (ks : List PySem.NestedKey) (vs : List V) (us : List Value), keysN ds = some ks → RelDs X.K γ H ds vs → L2.Vals vs us → PySem.NestedAll s.heap ks us
  | [], _, _, _, e, r, ru => by cases e; cases r; cases ru; exact .nil
  | d :: ds, _, _, _, e, r, ru => by
    simp only [keysN] at e
    split at e
    · rename_i k ks e1 e2
      cases e
      cases r with
      | cons h t =>
        cases ru with
        | cons hu tu => exact .cons (keyN_is I d k _ _ e1 h hu) (keysN_are I ds ks _ _ e2 t tu)
    · cases e
end
theorem keyed {γ : Gh} {H : Hp} {pins : List (Addr × PySem.Obj)} {σ : L2.St} {s : PySem.Shared} (I : L2.Inv X pins σ H s) : ∀ (ds : List D) (ks : List PySem.NestedKey) (vs : List V) (us : List Value), keysN ds = some ks → ds.all isTup = true → (∀ k ∈ ks, k.depth ≤ 8) → RelDs X.K γ H ds vs → L2.Vals vs us →
    ∃ L : List (PySem.NestedKey × Addr), us = (L.map fun p => Value.ref p.2) ∧ L.map (·.1) = ks ∧ ∀ p ∈ L, Ns.Is s.heap p.1 p.2
  | [], _, _, _, e, _, _, r, ru => by cases e; cases r; cases ru; exact ⟨[], rfl, rfl, fun p h => by cases h⟩
  | d :: ds, _, _, _, e, ht, hd, r, ru => by
    simp only [keysN] at e
    split at e
    · rename_i k ks e1 e2
      cases e
      simp only [List.all_cons, Bool.and_eq_true] at ht
      cases r with
      | cons h t =>
        cases ru with
        | cons hu tu =>
          obtain ⟨L, q1, q2, q3⟩ := keyed I ds ks _ _ e2 ht.2 (fun k hk => hd k (List.mem_cons_of_mem _ hk)) t tu
          have is := keyN_is I d k _ _ e1 h hu
          cases d <;> first | (cases ht.1; done) | skip
          cases h with
          | tup hs rr =>
            cases hu
            refine ⟨(k, _) :: L, by rw [q1]; rfl, by rw [List.map_cons, q2], fun p hp => ?_⟩
            rcases List.mem_cons.mp hp with rfl | hp
            · exact ⟨is, hd k List.mem_cons_self⟩
            · exact q3 p hp
    · cases e
def tLS (K : PySem.W.Frag) (ta : TE) : TE := fun σ H Q => ta σ H fun x H1 => ∃ γ xs ks, RelD K γ H1 (.tup xs) x ∧ keysN xs = some ks ∧ xs.all isTup = true ∧ (∀ k ∈ ks, k.depth ≤ 8) ∧ xs.length ≤ 4 ∧ Q (.int (Ns.uniq ks).length) H1
theorem pe_ls {a : Expr} {ta : TE} {p p2 q pos : PySem.Pos} (hc : X.calm = true) (hu : X.A.units + 200 < cLine) (hg : Gl X "len") (hm : X.mg "len" = none) (hg2 : Gl X "set") (hm2 : X.mg "set" = none) (ha : PE X a ta)
    (na : PySem.starEach [a] X.env = (false, PySem.eval a X.env) :: PySem.starEach [] X.env) : PE X (.Call (.Name "len" p) [.Call (.Name "set" p2) [a] [] q] [] pos) (tLS X.K ta) := by
  refine ⟨fun pins s σ H Q I h => ?_⟩
  refine PyProof.Rows.Call_ (L2.ld_blt I hg hm PySem.boot_len ?_)
  refine PyProof.Rows.callWith_builtin1 (PyProof.Rows.args_cons ?_ rfl) rfl rfl
  refine PyProof.Rows.Call_ (L2.ld_blt I hg2 hm2 PyProof.Rows.boot_set ?_)
  refine PyProof.Rows.callWith_type1 (PyProof.Rows.args_cons (L2.thn (ha.run pins s σ H _ I h) fun v s1 ⟨x, H1, I1, r1, q1⟩ => PyProof.Rows.args_nil ?_) na) na rfl
  obtain ⟨γ, xs, ks, rd, ek, ht, hd, hl, q1⟩ := q1
  cases rd with
  | tup hs rr =>
    cases r1
    obtain ⟨its, rv, ⟨o, ho, hcl, n, hdt⟩, _⟩ := I1.tuple hs
    obtain ⟨L, e1, e2, e3⟩ := keyed I1 xs ks _ its ek ht hd rr rv
    have hlen : L.length ≤ 4 := by
      have := rv.length
      have l2 := relDs_len rr
      rw [e1, List.length_map] at this
      omega
    refine Ns.set_tup (items := its.toArray) L (I1.ok.hd hc) ⟨o, ho, hcl, n, hdt⟩ (by simpa using e1) e3 hlen (by omega) fun h' tk L2' es ep t NS g hk => ?_
    refine PyProof.Rows.args_nil ?_
    obtain ⟨o2, ho2, hex, hd2⟩ := NS.obj
    have hcount := Ns.count_keys g NS.dif
    rw [e2] at hcount
    have I2 : L2.Inv X pins σ H1 { s1 with heap := h', toks := tk } := I1.kept fun b o e => hk b o e
    have hes := NS.es_len (s := { s1 with heap := h', toks := tk })
    have hf := Ns.NSet.fits (s := { s1 with heap := h', toks := tk }) NS
    refine PySem.call_len_set ho2 hex hd2 hf (by rw [hes]; have := NS.few; omega) ⟨.int es.size, H1, I2.tok _, ⟨_, rfl⟩, ?_⟩
    rw [hes, hcount]
    exact q1
theorem s_lset (G : Good P N Γ RX k X W sc) {a : E} {z : Expr} {p p2 q pos : PySem.Pos} (hg : glB sc "len" = true) (hg2 : glB sc "set" = true) (hst : notStar z = true) (ha : PE X z (tE X.K RX W (ev Γ a))) :
    PE X (.Call (.Name "len" p) [.Call (.Name "set" p2) [z] [] q] [] pos) (tE X.K RX W (ev Γ (.lset a))) := by
  refine weakE (pe_ls G.calm G.hu (G.gl _ hg) (G.blt .len) (G.gl _ hg2) G.set ha (star_cons hst)) fun σ H Q ⟨γ, s, R, p⟩ => ⟨γ, s, R, ?_⟩
  simp only [ev] at p
  refine p.bind fun v s1 γ1 H1 x st1 R1 r1 p1 => ?_
  obtain ⟨z, hz, p3⟩ := Post.opt p1
  unfold lsetV at hz
  split at hz
  · rename_i xs
    split at hz
    · rename_i hb
      simp only [Bool.and_eq_true, decide_eq_true_eq] at hb
      split at hz
      · rename_i ks ek
        split at hz
        · rename_i hd
          cases hz
          exact ⟨γ1, xs, ks, r1, ek, hb.2, fun k hk => of_decide_eq_true (List.all_eq_true.mp hd k hk), hb.1, p3.here R1 (.int _)⟩
        · cases hz
      · cases hz
    · cases hz
  · cases hz
end
/-! ### sorted(v) -/
section
open PySem PySem.W PySem.Calls PyProof.Rows
variable {prog : Program} {w : World} {A : Around} {E : Value → Shared → Prop} {s : Shared}
abbrev lay0 (h : Heap) (xs : Array Value) : Heap := (h.push { cls := .type "list", data := .seq ([] : List Value).toArray }).update h.objs.size (Obj.mapSeq (· ++ xs))
/-- the items of a list or a tuple, copied; the heap told -/
theorem copied {T : String} {it : Addr} {o : Obj} {xs : Array Value} {n : Nat} {Q : List Value → Shared → Prop} (hT : T = "list" ∨ T = "tuple") (ho : s.heap.get? it = some o) (hc : o.cls = .type T) (hd : o.data = .seq xs n) (hz : xs.size ≤ sizeLine)
    (q : Q xs.toList { s with heap := lay0 s.heap xs }) : wpAny (model prog w) A (collect (.ref it)) Q E s := by
  unfold collect
  refine wpAny_bind (wpAny_runValue (codeAny_builtin F.entry_proto_collect ?_))
  rw [Around.under_plainId F.plain_proto_collect _]
  show wpAny _ A.in1 (newList [] >>= fun l => again (.builtin "list.__iadd__" ⟨[l, .ref it], []⟩)) _ _ s
  refine wpAny_bind (wpAny_newObj_type (wpAny_pure ⟨plainId_quiet F.plain_list_iadd _, codeAny_builtin F.entry_list_iadd ?_⟩))
  rw [Around.under_plainId F.plain_list_iadd _]
  show wpAny _ A.in1 (Builtin.List.listExtendWith (.ref s.heap.objs.size) (.ref it) (.ref s.heap.objs.size)) _ _ _
  have at0 : (s.heap.push { cls := .type "list", data := .seq ([] : List Value).toArray }).get? s.heap.objs.size = some { cls := .type "list", data := .seq #[] 0 } := Heap.get?_push_size _ rfl
  have at1 := Heap.get?_update_self (Obj.mapSeq (· ++ xs)) at0 rfl
  have fin : wpAny (model prog w) A (match Value.ref s.heap.objs.size with
      | Value.ref a => do
        match (← load a).data with
          | Data.seq ys _ => pure ys.toList
          | _ => unsupported "internal:collect"
      | _ => unsupported "internal:collect") Q E { s with heap := lay0 s.heap xs } := by
    show wpAny _ A (load s.heap.objs.size >>= _) _ _ _
    refine wpAny_bind (wpAny_load at1 (wpAny_pure ?_))
    show Q ((#[] : Array Value) ++ xs).toList _
    rw [show ((#[] : Array Value) ++ xs).toList = xs.toList by simp]
    exact q
  refine wpAny_mono (wpAny_extend_seq (hsz := hz) (A := A) (R := fun r z => r = .ok (.ret (.ref s.heap.objs.size)) ∧ z = { s with heap := lay0 s.heap xs }) (s := { s with heap := s.heap.push { cls := .type "list", data := .seq ([] : List Value).toArray } }) _ it _ 0 hT at0 (Heap.get?_push_of_some _ ho) hc hd ⟨rfl, rfl⟩) (fun f z hf => ?_) fun e z hf => absurd hf.1 (by simp)
  cases f with
  | done f =>
    obtain ⟨e, rfl⟩ := hf
    cases e
    exact fin
  | again c => exact ⟨hf.1, codeAny_mono hf.2 fun r z hr => by obtain ⟨rfl, rfl⟩ := hr; exact fin⟩
/-- sorted(xs), xs a list or a tuple of data -/
theorem sorted_seq {β : Type} {R : Value → β → Prop} {enc : β → PyData} {l : Addr} {T : String} {o : Obj} {items : Array Value} {n : Nat} {bs : List β} {Q : Value → Shared → Prop} (hT : T = "list" ∨ T = "tuple") (ho : s.heap.get? l = some o) (hc : o.cls = .type T) (hd : o.data = .seq items n)
    (e : EachIs R items.toList bs) (er : EachIs (fun v b => ∃ as, Reads s.heap v (enc b) as) items.toList bs) (hal : AllAlike (bs.map enc)) (hk : Sortable (bs.map enc)) (hL : items.toList.length ≤ sizeLine) (hu : ∀ b, b ∈ bs → A.units + 2 + (enc b).depth < cLine)
    (h : ∀ (out : List Value) (p c : Nat) (h' : Heap), EachIs R out (bs.mergeSort (dataLe false enc)) → s.heap.objs.size ≤ p → (∀ b u, s.heap.get? b = some u → h'.get? b = some u) → h'.get? p = some (seqObj "list" out.toArray c) → Q (.ref p) { s with heap := h' }) :
    wpAny (model prog w) A (call (.builtin "sorted") [.ref l]) Q E s := by
  refine call_function_entry kind_sorted plain_sorted entry_sorted (args_sorted1 _) ?_
  unfold Builtin.«sorted»
  refine wpAny_bind (m := checkCount "sorted" 1 1 _) (wpAny_pure ?_)
  refine wpAny_bind (copied hT ho hc hd (by simpa using hL) ?_)
  refine wpAny_bind (wpAny_newList ?_ hL)
  have z1 : s.heap.objs.size ≤ (lay0 s.heap items).objs.size := by
    unfold lay0
    rw [Heap.size_update, Heap.size_push]
    exact Nat.le_succ _
  have k1 : ∀ b u, s.heap.get? b = some u → (lay0 s.heap items).get? b = some u := fun b u hb => (Heap.get?_update_other _ _ (Nat.ne_of_gt (Heap.lt_size hb))).trans (Heap.get?_push_of_some _ hb)
  show wpAny _ _ _ _ _ { s with heap := (lay0 s.heap items).push (seqObj "list" items.toList.toArray 0) }
  generalize lay0 s.heap items = h1 at z1 k1
  have at1 : (h1.push (seqObj "list" items.toList.toArray 0)).get? h1.objs.size = some (seqObj "list" items.toList.toArray 0) := Heap.get?_push_size _ rfl
  have old : ∀ b u, s.heap.get? b = some u → (sortingHeap (h1.push (seqObj "list" items.toList.toArray 0)) h1.objs.size items.toList).get? b = some u := fun b u hb =>
    sortingHeap_old (Nat.ne_of_lt (Heap.lt_size (k1 b u hb))) (Heap.get?_push_of_some _ (k1 b u hb))
  refine wpAny_bind (wpAny_holding (wpAny_call_entry_kw slot_list_sort ⟨_, at1, rfl⟩ entry_list_sort ?body (args_list_sort _)))
  case body =>
    have er' : EachIs (fun v b => ∃ as, Reads (sortingHeap (h1.push (seqObj "list" items.toList.toArray 0)) h1.objs.size items.toList) v (enc b) as) items.toList bs := er.mono fun _ _ ⟨as, r⟩ => ⟨as, PyProof.Rows.Reads.keeps old r⟩
    refine list_sort_vals (s := { s with heap := h1.push (seqObj "list" items.toList.toArray 0) }) at1 (SortsAt.data (s := { s with heap := sortingHeap (h1.push (seqObj "list" items.toList.toArray 0)) h1.objs.size items.toList }) (each_map (R := fun v d => ∃ as, Reads (sortingHeap (h1.push (seqObj "list" items.toList.toArray 0)) h1.objs.size items.toList) v d as) enc er') hal hk (bound_map hu)) hL ?_
    refine ⟨_, rfl, wpAny_pure ⟨_, rfl, ?_⟩⟩
    obtain ⟨c, hc2⟩ := sortedHeap_at (vs := items.toList) (out := (sortVals (dataKind (sortingHeap (h1.push (seqObj "list" items.toList.toArray 0)) h1.objs.size items.toList) (bs.map enc)) false items.toList items.toList).toArray) at1
    refine h _ h1.objs.size c _ (sortVals_data false e er' hal) z1 (fun b u hb => ?_) hc2
    have lt := Heap.lt_size (k1 b u hb)
    rw [sortedHeap_old (Nat.ne_of_lt lt) (by rw [size_push']; exact Nat.lt_succ_of_lt lt)]
    exact Heap.get?_push_of_some _ (k1 b u hb)
end
section
variable {P : Prg} {N : List Str} {Γ : Callee} {RX : ExRel} {k : Nat} {X : Cx} {W : WX} {sc : Scope}
theorem pys_map : ∀ {ds : List D} {l : List PyData}, D.pys ds = some l → l = ds.map pyG
  | [], _, e => by cases e; rfl
  | d :: ds, _, e => by
    simp only [D.pys] at e
    split at e
    · rename_i p l e1 e2
      cases e
      rw [pys_map e2, List.map_cons]
      simp [pyG, e1]
    · cases e
theorem each_rel {K : PySem.W.Frag} {γ : Gh} {H : Hp} : ∀ {ds : List D} {vs : List V} {us : List Value}, RelDs K γ H ds vs → L2.Vals vs us → PySem.W.EachIs (fun u d => ∃ x, RelD K γ H d x ∧ RelV x u) us ds
  | [], _, _, .nil, .nil => .nil
  | _ :: _, _, _, .cons h t, .cons hu tu => .cons ⟨_, h, hu⟩ (each_rel t tu)
theorem rel_each {K : PySem.W.Frag} {γ : Gh} {H : Hp} : ∀ {ds : List D} {us : List Value}, PySem.W.EachIs (fun u d => ∃ x, RelD K γ H d x ∧ RelV x u) us ds → ∃ vs, RelDs K γ H ds vs ∧ L2.Vals vs us
  | _, _, .nil => ⟨[], .nil, .nil⟩
  | _, _, .cons ⟨x, h, r⟩ t => by
    obtain ⟨vs, a, b⟩ := rel_each t
    exact ⟨x :: vs, .cons h a, .cons r b⟩
theorem each_reads {γ : Gh} {H : Hp} {pins : List (Addr × PySem.Obj)} {σ : L2.St} {s : PySem.Shared} (I : L2.Inv X pins σ H s) : ∀ {ds : List D} {vs : List V} {us : List Value} {l : List PyData}, RelDs X.K γ H ds vs → L2.Vals vs us → D.pys ds = some l → PySem.W.EachIs (fun u d => ∃ as, PySem.Reads s.heap u (pyG d) as) us ds
  | [], _, _, _, .nil, .nil, _ => .nil
  | d :: ds, _, _, _, .cons h t, .cons hu tu, e => by
    simp only [D.pys] at e
    split at e
    · rename_i p l e1 e2
      refine .cons ?_ (each_reads I t tu e2)
      have : pyG d = p := by simp [pyG, e1]
      rw [this]
      exact L2.Dp.reads I p _ _ (dp_of _ _ _ h e1) hu
    · cases e
def rSrt (K : PySem.W.Frag) : List V → Hp → VK → Prop := fun xs H Q => ∃ γ a ds vs l, xs = [.ref a] ∧ (SqL K H a vs ∨ SqT K H a vs) ∧ RelDs K γ H ds vs ∧ D.pys ds = some l ∧ sortB l = true ∧ ds.length ≤ LINE ∧ ∀ p us, H p = none → RelDs K γ H (ds.mergeSort leD) us → Q (.ref p) (upd H p (.lst us))
theorem call_srt (hu : X.A.units + 200 < cLine) : L2.CallR X (.builtin "sorted") (rSrt X.K) := by
  intro pins s σ H xs us Q I r h
  obtain ⟨γ, a, ds, vs, l, rfl, hs, rr, el, hb, hL, q⟩ := h
  rw [L2.Vals.ref1 r]
  obtain ⟨its, rv, hz, T, o, n, hT, ho, hc, hd⟩ : ∃ its, L2.Vals vs its ∧ vs.length ≤ PySem.sizeLine ∧ ∃ T o n, (T = "list" ∨ T = "tuple") ∧ s.heap.get? a = some o ∧ o.cls = .type T ∧ o.data = .seq its.toArray n := by
    rcases hs with hs | hs
    · obtain ⟨its, rv, ⟨o, n, ho, hc, _, hd⟩, hz⟩ := I.list hs
      exact ⟨its, rv, hz, _, o, n, .inl rfl, ho, hc, hd⟩
    · obtain ⟨its, rv, ⟨o, ho, hc, n, hd⟩, hz⟩ := I.tuple hs
      exact ⟨its, rv, hz, _, o, n, .inr rfl, ho, hc, hd⟩
  have em := pys_map el
  simp only [sortB, Bool.and_eq_true, List.all_eq_true, decide_eq_true_eq, Bool.or_eq_true] at hb
  obtain ⟨⟨b1, b2⟩, b3⟩ := hb
  rw [em] at b1 b2 b3
  have hlen : its.length = ds.length := by rw [← rv.length, relDs_len rr]
  refine sorted_seq (R := fun u d => ∃ x, RelD X.K γ H d x ∧ RelV x u) (enc := pyG) (bs := ds) (items := its.toArray) hT ho hc hd (by simpa using each_rel rr rv) (by simpa using each_reads I rr rv el) (fun d hd d' hd' => b2 d hd d' hd') ?_ (by simp; rw [← rv.length]; exact hz) (fun d hd => ?_) fun out p c h' e z k1 at1 => ?_
  · rcases b3 with b3 | b3
    · refine .inl fun d hd => ?_
      have := b3 d hd
      unfold fullT at this
      split at this
      · exact ⟨_, _, rfl⟩
      · cases this
    · refine .inr fun d hd => ?_
      have := b3 d hd
      exact ⟨fun e => (by rw [e] at this; cases this), fun xs e => (by rw [e] at this; cases this)⟩
  · have := b1 (pyG d) (List.mem_map_of_mem hd)
    omega
  · obtain ⟨us, r1, r2⟩ := rel_each e
    have hn : H p = none := I.hok.fresh z
    have hl2 : us.length ≤ PySem.sizeLine := by
      have h1 := relDs_len r1
      have h2 := relDs_len rr
      rw [List.length_mergeSort] at h1
      omega
    exact ⟨.ref p, upd H p (.lst us), I.laid (t' := s.toks) k1 z ⟨hl2, out, c, r2, at1⟩, rfl, q p us hn r1⟩
theorem s_srt (G : Good P N Γ RX k X W sc) {a : E} {y : Expr} {p pos : PySem.Pos} (hg : glB sc "sorted" = true) (hst : notStar y = true) (ha : PE X y (tE X.K RX W (ev Γ a))) : PE X (.Call (.Name "sorted" p) [y] [] pos) (tE X.K RX W (ev Γ (.srt a))) := by
  refine weakE (L2.pe_callB (call_srt G.hu) (G.gl _ hg) G.srt (by decide +kernel) (L2.pa_cons ha L2.pa_nil (star_cons hst)) (by decide +kernel) (by decide +kernel) (star_cons hst) (by rfl)) fun σ H Q ⟨γ, s, R, p⟩ => ⟨γ, s, R, ?_⟩
  simp only [ev] at p
  refine p.bind fun v s1 γ1 H1 x st1 R1 r1 p1 => ?_
  obtain ⟨z, hz, p3⟩ := Post.opt p1
  unfold srtV at hz
  cases e : seqv v s1 with
  | none => rw [e] at hz; cases hz
  | some bx =>
    obtain ⟨b, xs⟩ := bx
    rw [e] at hz
    obtain ⟨a', vs, rfl, rr, t⟩ := seq_rel R1 r1 e
    dsimp only at hz
    split at hz
    · rename_i hl
      split at hz
      · rename_i l el
        split at hz
        · rename_i hb
          cases hz
          refine ⟨γ1, a', xs, vs, l, rfl, ?_, rr, el, hb, hl, fun q us hq ru => p3 γ1 _ _ (Stp.new γ1 hq) (R1.new hq) (new_lst R1 hq ru)⟩
          cases b
          · exact .inr t
          · exact .inl t
        · cases hz
      · cases hz
    · cases hz
/-! ### a new instance, with keywords -/
theorem kw_names {env : Env} {pos : PySem.Pos} : ∀ {kws : List PySem.Keyword}, (PySem.backToKw pos (PySem.keywordEach kws env)).map (·.1) = kws.map (·.arg)
  | [] => rfl
  | k :: kws => by
    have ih := kw_names (env := env) (pos := pos) (kws := kws)
    cases k with
    | mk nm v kp =>
      show nm :: (PySem.backToKw pos (PySem.keywordEach kws env)).map (·.1) = _
      rw [ih]
      rfl
theorem kw_all {env : Env} {pos : PySem.Pos} {kws : List PySem.Keyword} {ks : List Str} (h : kws.map (·.arg) = ks.map some) : (PySem.backToKw pos (PySem.keywordEach kws env)).all (·.1.isSome) = true ∧ (PySem.backToKw pos (PySem.keywordEach kws env)).filterMap (·.1) = ks ∧ (PySem.backToKw pos (PySem.keywordEach kws env)).any (·.1.isNone) = false := by
  have e := (kw_names (env := env) (pos := pos) (kws := kws)).trans h
  generalize PySem.backToKw pos (PySem.keywordEach kws env) = l at e
  clear h
  induction l generalizing ks with
  | nil =>
    cases ks with
    | nil => exact ⟨rfl, rfl, rfl⟩
    | cons _ _ => cases e
  | cons x l ih =>
    cases ks with
    | nil => cases e
    | cons y ks =>
      simp only [List.map_cons, List.cons.injEq] at e
      obtain ⟨a, b, c⟩ := ih e.2
      refine ⟨by simp only [List.all_cons, e.1, a]; rfl, by simp only [List.filterMap_cons, e.1, b], by simp only [List.any_cons, e.1, c]; rfl⟩
theorem run_mkK {CX : L2.CXT} {pins : List (Addr × PySem.Obj)} {σ : L2.St} {H : Hp} {t0 : PySem.Shared} {Q : VK} {us ws : List Value} {vs zs : List V} {C fI : Addr} {fd : PySem.FuncData} {ps ks : List Str} {sp : Sp} {E : XK} {g : List Value → List Value → List Value} {gV : List V → List V → List V} {n : Nat}
    (M : L2.Mk X.K C fI) (F : L2.FnOk X.prog X.w X.K X.mg X.base CX k fI fd ps sp) (hr : Room (k + 1) X.A) (hb : L2.KBn X.K fd ps (n + 1) ks g gV) (hx : L2.PassesAt CX X σ E) (I : L2.Inv X pins σ H t0) (r : L2.Vals vs us) (rz : L2.Vals zs ws) (l1 : vs.length = n) (l2 : zs.length = ks.length)
    (h : ∀ y dy, H y = none → H dy = none → dy ≠ y → sp (gV (.ref y :: vs) zs) (upd (upd H dy (.own y)) y (.ins C dy [])) (fun v H2 => v = .non ∧ Q (.ref y) H2) E) :
    PySem.wpAny (PySem.model X.prog X.w) X.A (PySem.call (.ref C) us (ks.zip ws)) (EP X pins σ Q) X.xe t0 := by
  have n0 : H t0.heap.objs.size = none := I.hok.fresh (Nat.le_refl _)
  have n1 : H (t0.heap.objs.size + 1) = none := I.hok.fresh (Nat.le_succ _)
  have q0 := h _ _ n1 n0 (Nat.ne_of_lt (Nat.lt_succ_self _))
  have J := L2.Inv.made (C := C) I
  have rr : L2.Vals (V.ref (t0.heap.objs.size + 1) :: vs) (Value.ref (t0.heap.objs.size + 1) :: us) := .cons (show RelV (V.ref _) (Value.ref _) from rfl) r
  have len1 : (Value.ref (t0.heap.objs.size + 1) :: us).length = n + 1 := by rw [← rr.length, List.length_cons, l1]
  have bd := hb.to _ (Value.ref (t0.heap.objs.size + 1) :: us) ws J.kIn len1 (rz.length.symm.trans l2)
  refine PySem.wpAny_call (L2.make_map (f := fI) I.kIn M.makes M.init (beq_iff_eq.mp M.fn) (PySem.codeAny_mono (F.run _ X.stack _ _ ⟨_, ks.zip ws⟩ _ _ _ E (hr.make C us (ks.zip ws)) (J.env0.make C us (ks.zip ws)) bd (hb.rel rr rz) q0) fun res t1 hres => ?_))
  cases res with
  | error er => exact hx pins _ _ er t1 J hres
  | ok fl =>
    cases fl with
    | ret u =>
      obtain ⟨v, H3, I3, rv, ev, q3⟩ := J.after hres
      subst ev
      exact ⟨rv, ⟨V.ref (t0.heap.objs.size + 1), H3, I3, rfl, q3⟩⟩
    | _ => exact False.elim hres
theorem relVals_app {K : PySem.W.Frag} {γ : Gh} {H : Hp} : ∀ {vs ws : List Val} {us zs : List V}, RelVals K γ H vs us → RelVals K γ H ws zs → RelVals K γ H (vs ++ ws) (us ++ zs)
  | [], _, _, _, .nil, r => r
  | _ :: _, _, _, _, .cons h t, r => .cons h (relVals_app t r)
theorem relVals_fill {K : PySem.W.Frag} {γ : Gh} {H : Hp} : ∀ (p : List Bool) {ds zs : List Val} {us ws : List V}, RelVals K γ H ds us → RelVals K γ H zs ws → RelVals K γ H (fillV p ds zs) (fillV p us ws)
  | [], _, _, _, _, r1, r2 => by cases r1 <;> cases r2 <;> exact .nil
  | true :: p, _, _, _, _, .nil, r2 => .nil
  | true :: p, _, _, _, _, .cons h t, r2 => .cons h (relVals_fill p t r2)
  | false :: p, _, _, _, _, r1, .nil => by cases r1 <;> exact .nil
  | false :: p, _, _, _, _, r1, .cons h t => by
    have := relVals_fill p r1 t
    cases r1 <;> exact .cons h this
theorem s_nwk (G : Good P N Γ RX k X W sc) {c : Str} {f n : Nat} {pat : List Bool} {ds : List D} {ks : List Str} {es kes : E} {y : Expr} {ys : List Expr} {kws : List PySem.Keyword} {p pos : PySem.Pos} (hi : P.mkB c f n ks pat ds = true) (hg : glB sc c = true) (hd : notDbg c = true) (hs : cL P N es sc (y :: ys) = true)
    (hk : kws.map (·.arg) = ks.map some) (ha : PA X (y :: ys) (tA X.K RX W (evs Γ es))) (hka : L2.PK X kws (tA X.K RX W (evs Γ kes))) : PE X (.Call (.Name c p) (y :: ys) kws pos) (tE X.K RX W (ev Γ (.nwk c f n pat ds ks es kes))) := by
  unfold Prg.mkB at hi
  obtain ⟨d, hd1, h1⟩ := List.any_eq_true.mp hi
  simp only [Bool.and_eq_true, decide_eq_true_eq] at h1
  obtain ⟨⟨rfl, rfl⟩, h2⟩ := h1
  obtain ⟨q, hq, h3⟩ := List.any_eq_true.mp h2
  simp only [Bool.and_eq_true, decide_eq_true_eq] at h3
  obtain ⟨⟨⟨rfl, rfl⟩, rfl⟩, h4⟩ := h3
  have e4 := D.sames_eq _ _ h4
  subst e4
  obtain ⟨fa, fd, ps, dvs, gU, M, hb, hdv, F⟩ := G.mks d hd1 q hq
  have hm := G.nmc d hd1
  obtain ⟨hall, hks, hno⟩ := kw_all (env := X.env) (pos := pos) hk
  refine ⟨fun pins st σ H Q I h => ?_⟩
  have key : tA X.K RX W (evs Γ es) σ H (fun us H1 => tA X.K RX W (evs Γ kes) σ H1 (fun zs H2 => us.length = q.1 ∧ zs.length = q.2.1.length ∧ ∀ y dy, H2 y = none → H2 dy = none → dy ≠ y → spG X.K RX Γ d.init ((.ref y :: us) ++ fillV q.2.2.1 dvs zs) (upd (upd H2 dy (.own y)) y (.ins (clsOf X.K d.name) dy [])) (fun v H3 => v = .non ∧ Q (.ref y) H3) (L2.WE W σ))) := by
    obtain ⟨γ, s, R, p⟩ := h
    refine ⟨γ, s, R, ?_⟩
    simp only [ev] at p
    refine p.bind fun vs s1 γ1 H1 us st1 R1 r1 p1 => ⟨γ1, s1, R1, p1.bind fun zv s2 γ2 H2 zs st2 R2 r2 p2 => ?_⟩
    obtain ⟨⟨l1, l2⟩, p2⟩ := Post.ifP p2
    have r1' := RelVals.step st2 R1.tups r1
    refine ⟨by rw [← relVals_len r1, l1], by rw [← relVals_len r2, l2], fun y dy hy hdy hne => ?_⟩
    have Ra := R2.new (o := .own y) hdy
    have sa : Stp γ2 H2 γ2 (upd H2 dy (.own y)) := Stp.new γ2 hdy
    have hy' : (upd H2 dy (.own y)) y = none := by rw [upd_ne (Ne.symm hne)]; exact hy
    have h0 : ¬ Liv γ2.H0 y := fun z => not_liv hy (R2.trk y z)
    have nt : y ∉ γ2.tm := fun z => not_liv hy (R2.tm y z).1
    have Rb := (Ra.mk1 (o := .ins (clsOf X.K d.name) dy []) hy').ownGC h0 (c := .ins d.name [] []) (.inr ⟨d.name, [], [], dy, [], rfl, upd_same, rfl, .nil⟩) nt
    have sb : Stp γ2 H2 (γ2.ownG y) (upd (upd H2 dy (.own y)) y (.ins (clsOf X.K d.name) dy [])) := by
      have sz := sa.trans (Stp.new (o := .ins (clsOf X.K d.name) dy []) γ2 hy')
      refine { sz with pg := (List.prefix_append _ _), gn := fun x m => ?_ }
      rcases List.mem_append.mp m with m | m
      · exact .inl m
      · have e : x = y := by simpa using m
        rw [e]; exact .inr (not_liv hy)
    have hl : γ2.pg.length = s2.gs.length := R2.gl
    have gy : (γ2.ownG y).pg[s2.gs.length]? = some y := by
      show (γ2.pg ++ [y])[s2.gs.length]? = some y
      rw [← hl, List.getElem?_append_right (Nat.le_refl _), Nat.sub_self]
      rfl
    have rall : RelVals X.K γ2 H2 (vs ++ fillV q.2.2.1 (q.2.2.2.map .d) zv) (us ++ fillV q.2.2.1 dvs zs) := relVals_app r1' (relVals_fill _ (relVals_ds (hdv _ _)) r2)
    refine call_reading G.steady Rb (vs := .d (.ref s2.gs.length) :: (vs ++ fillV q.2.2.1 (q.2.2.2.map .d) zv)) (.cons (RelD.ref gy) (RelVals.step sb R2.tups rall)) ?_
    have p3 := Post.from sb p2
    unfold newR at p3
    refine p3.bind fun v s3 γ3 H3 x st3 R3 r3 p4 => ?_
    split at p4
    · cases r3
      exact ⟨rfl, p4.here R3 (show RelVal _ _ _ (.d (.ref s2.gs.length)) _ from RelD.ref (get_pre st3.pg gy))⟩
    · exact False.elim p4
  obtain ⟨hst, t, htl⟩ := cL_cons hs
  refine PySem.wpAny_Call_Name_kw (L2.ld_glob I (G.gl _ hg) hm ?_ (notDbg_of hd).1)
  refine PySem.W.callWith_KW (h₀ := X.base) I.ok.mod.kin M.kp hall (L2.thn (ha.run pos pins st σ H _ I key) fun us s1 ⟨vs, H1, I1, r, q1⟩ => ?_) (by rw [plain_args hs pos, hno]; rfl) (star_cons hst)
  refine L2.thn (hka.run pos pins s1 σ H1 _ I1 q1) fun ws s2 ⟨zs, H2, I2, rz, l1, l2, q2⟩ => ⟨I2.kIn, ?_⟩
  rw [hks]
  exact run_mkK (E := L2.WE W σ) M F G.room1 hb (L2.passAt G.tk σ) I2 r rz l1 l2 q2
/-! ### C.f(..), C.n: a static method, a constant of a class -/
theorem s_ccs (G : Good P N Γ RX k X W sc) {c n : Str} {d : D} {p pos : PySem.Pos} (hg : glB sc c = true) (hd : notDbg c = true) (hc : P.ccB c n d = true) : PE X (.Attribute (.Name c p) n pos) (tE X.K RX W (ev Γ (.ccs c n d))) := by
  unfold Prg.ccB at hc
  obtain ⟨e, he, h1⟩ := List.any_eq_true.mp hc
  simp only [Bool.and_eq_true, decide_eq_true_eq] at h1
  obtain ⟨rfl, h2⟩ := h1
  obtain ⟨q, hq, h3⟩ := List.any_eq_true.mp h2
  simp only [Bool.and_eq_true, decide_eq_true_eq] at h3
  obtain ⟨rfl, h4⟩ := h3
  have e4 := D.same_eq _ _ h4
  subst e4
  obtain ⟨mc, u, v, r1, r2, r3⟩ := G.ccs e he q hq
  have hz : PE X (.Name e.name p) (L2.tC (.ref (clsOf X.K e.name))) := L2.pe_glob (G.gl _ hg) (G.nmc e he) (show RelV (.ref _) _ from rfl) (notDbg_of hd).1
  exact weakE (ClX.pe_cval hz) fun σ H Q h => ⟨_, mc, v, u, rfl, r1, r2, tE_ok q.2 h (fun s => by simp only [ev]) fun γ H => r3 γ H⟩
theorem get_static {pins : List (Addr × PySem.Obj)} {σ : L2.St} {H : Hp} {s : PySem.Shared} {C sa fa : Addr} {m : Str} {A : PySem.Around} {E : Value → PySem.Shared → Prop} {pl : PySem.Sem Bool} {Q : Value × List Value → PySem.Shared → Prop} (I : L2.Inv X pins σ H s) (c : StC X.K C m sa fa)
    (h : ∀ s', L2.Inv X pins σ H s' → Q (.ref fa, []) s') : PySem.wpAny (PySem.model X.prog X.w) A (PySem.getMethod (.ref C) m pl) Q E s := by
  obtain ⟨mc, r, e⟩ := c.ex
  obtain ⟨rest, hp⟩ := c.rc
  exact PySem.W.method_cls I.kIn r.ga (PySem.W.cls_bind I.kIn r.rd e (PySem.wpAny_call (PySem.W.sm_get (s := { s with toks := s.toks + 1 }) I.kIn hp (PySem.W.handed_on rfl (h _ (I.tok _))))))
theorem s_stc (G : Good P N Γ RX k X W sc) {c m : Str} {f : Nat} {es : E} {ys : List Expr} {p ap cp : PySem.Pos} (hg : glB sc c = true) (hd : notDbg c = true) (hc : P.stB c m f = true) (hpos : (ap.endLine == cp.line) = true) (hl : ys.length < 29) (hs : cL P N es sc ys = true)
    (ha : PA X ys (tA X.K RX W (evs Γ es))) : PE X (.Call (.Attribute (.Name c p) m ap) ys [] cp) (tE X.K RX W (ev Γ (.stc c m f es))) := by
  unfold Prg.stB at hc
  obtain ⟨d, hd1, h1⟩ := List.any_eq_true.mp hc
  simp only [Bool.and_eq_true, decide_eq_true_eq] at h1
  obtain ⟨rfl, h2⟩ := h1
  obtain ⟨sa, fa, fd, ps, q1, q2, q3⟩ := G.sts d hd1 _ h2
  refine ⟨fun pins st σ H Q I h => ?_⟩
  have key : tA X.K RX W (evs Γ es) σ H (fun us H2 => spG X.K RX Γ f us H2 Q (L2.WE W σ)) := by
    obtain ⟨γ, s, R, p⟩ := h
    refine ⟨γ, s, R, ?_⟩
    simp only [ev] at p
    exact p.bind fun vs s2 γ2 H2 us st2 R2 r2 p2 => call_reading G.steady R2 r2 p2
  have hz : PE X (.Name d.name p) (L2.tC (.ref (clsOf X.K d.name))) := L2.pe_glob (G.gl _ hg) (G.nmc d hd1) (show RelV (.ref _) _ from rfl) (notDbg_of hd).1
  refine PySem.W.methodCall_KW (L2.thn (hz.run pins st σ H (fun x H1 => x = .ref (clsOf X.K d.name) ∧ H1 = H) I ⟨rfl, rfl⟩) fun u t1 ⟨x, H1, I1, rx, e1, e2⟩ => ?_) (um_eval hs hl rfl hpos)
  subst e1
  subst e2
  cases rx
  refine get_static I1 q1 fun t2 I2 => ?_
  cases ys with
  | nil =>
    have hn := cL_nil hs
    subst hn
    obtain ⟨γ, s, R, p⟩ := key
    simp only [evs] at p
    exact PySem.W.callWith_K0 (first := []) I2.kIn q1.kp (L2.run_fnS (E := fun σ => L2.WE W σ) (us := []) q3 G.room q2 (L2.passAt G.tk σ) I2 .nil (p.here R .nil))
  | cons y ys =>
    obtain ⟨hst, t, htl⟩ := cL_cons hs
    refine PySem.W.callWith_K (first := []) (h₀ := X.base) I2.ok.mod.kin q1.kp (L2.thn (ha.run cp pins t2 σ H1 _ I2 key) fun us t3 ⟨vs, H2, I3, r, q9⟩ => ⟨I3.kIn, ?_⟩) (star_cons hst) (plain_args htl _)
    exact L2.run_fnS (E := fun σ => L2.WE W σ) (us := us) q3 G.room q2 (L2.passAt G.tk σ) I3 r q9
/-- list(range(a)) -/
theorem rel_rg {K : PySem.W.Frag} {γ : Gh} {H : Hp} (f : Nat → Int) : ∀ l : List Nat, RelDs K γ H (l.map fun i => .int (f i)) (l.map fun i => V.int (f i))
  | [] => .nil
  | i :: l => .cons (.int _) (rel_rg f l)
theorem s_lor (G : Good P N Γ RX k X W sc) {a : E} {z : Expr} {p p2 q pos : PySem.Pos} (hg : glB sc "list" = true) (hg2 : glB sc "range" = true) (hst : notStar z = true) (ha : PE X z (tE X.K RX W (ev Γ a))) :
    PE X (.Call (.Name "list" p) [.Call (.Name "range" p2) [z] [] q] [] pos) (tF X.K RX W (evF Γ (.lor a))) := by
  refine weakE (L2.pe_listRg G.calm (G.gl _ hg) G.lst (L2.prg_1 (G.gl _ hg2) G.rng ha (star_cons hst)) (by rfl)) fun σ H Q ⟨γ, s, R, p⟩ => ⟨γ, s, R, ?_⟩
  simp only [evF] at p
  cases he : ev Γ a s with
  | bad => simp only [he, Mp.R.bind] at p
  | ex _ _ => simp only [he, Mp.R.bind] at p; exact p
  | ok v s1 =>
    simp only [he, Mp.R.bind] at p
    intro γ1 H1 x st1 R1 r1
    cases v with
    | own j => exact False.elim p
    | d x0 =>
      cases x0 <;> first | (exact False.elim p) | skip
      rename_i n
      cases r1
      by_cases hn : (decide (-(LINE : Int) ≤ n) && decide (n ≤ LINE)) = true
      · simp only [hn, if_true] at p
        simp only [Bool.and_eq_true, decide_eq_true_eq] at hn
        have hL : (LINE : Int) = 1000000 := rfl
        rw [hL] at hn
        refine ⟨n, rfl, ⟨by decide, by decide, by omega, by omega, by omega⟩, fun l hl => p γ1 _ l _ (fun z => not_liv hl (st1.trk l z)) (st1.trans (Stp.new γ1 hl)) (R1.mk1 hl) ?_ upd_same⟩
        exact rel_rg (fun i => 0 + (i : Nat)) _
      · simp only [hn] at p
        exact False.elim p
end
end Mp

/-! Mp: what stands behind a statement; the clauses of a try. -/
namespace Mp
open PySem (Addr Value Expr Stmt PyData Str CmpOp Operator cLine Scope Env NameKind ExceptHandler)
open L2 (V HO Hp upd upd_same upd_ne SqT SqL Rd PE PT PW PA PI PG PS PSs Cx TE TT TA TI TG TS VK XK WX Ends Gl Sp It Room Takes Vis RelV)
section
variable [TabT]

section
variable (K : PySem.W.Frag) (RX : ExRel) (W : WX)
/-- what is wanted behind a statement -/
def SPost (γ : Gh) (H : Hp) (D : Ends) (r : R Fl) : Prop :=
  match r with
  | .ok .nx s' => ∀ (γ' : Gh) (σ' : L2.St) (H' : Hp), Stm γ H γ' H' → Rel K γ' s' σ' H' → D.nx σ' H'
  | .ok .bk s' => ∀ (γ' : Gh) (σ' : L2.St) (H' : Hp), Stm γ H γ' H' → Rel K γ' s' σ' H' → D.bk σ' H'
  | .ok .ct s' => ∀ (γ' : Gh) (σ' : L2.St) (H' : Hp), Stm γ H γ' H' → Rel K γ' s' σ' H' → D.ct σ' H'
  | .ok (.rt v) s' => ∀ (γ' : Gh) (σ' : L2.St) (H' : Hp) (x : V), Stm γ H γ' H' → Rel K γ' s' σ' H' → RelVal K γ' H' v x → D.rt x H'
  | .ex e s' => ∀ (γ' : Gh) (σ' : L2.St) (H' : Hp) (c : Value) (d : Option Addr), Stm γ H γ' H' → Rel K γ' s' σ' H' → RX γ' H' e c d → W c d σ' H'
  | .bad => False
def tS (m : S → R Fl) : TS := fun D σ H => ∃ γ s, Rel K γ s σ H ∧ SPost K RX W γ H D (m s)
end
section
variable {K : PySem.W.Frag} {RX : ExRel} {W : WX} {γ : Gh} {H : Hp} {σ : L2.St} {D : Ends}
theorem SPost.from {r : R Fl} {γ1 : Gh} {H1 : Hp} (st : Stm γ H γ1 H1) (p : SPost K RX W γ H D r) : SPost K RX W γ1 H1 D r := by
  cases r with
  | bad => exact p
  | ex e s => exact fun γ2 σ2 H2 c d st2 R2 r2 => p γ2 σ2 H2 c d (st.trans st2) R2 r2
  | ok f s =>
    cases f with
    | nx => exact fun γ2 σ2 H2 st2 R2 => p γ2 σ2 H2 (st.trans st2) R2
    | bk => exact fun γ2 σ2 H2 st2 R2 => p γ2 σ2 H2 (st.trans st2) R2
    | ct => exact fun γ2 σ2 H2 st2 R2 => p γ2 σ2 H2 (st.trans st2) R2
    | rt v => exact fun γ2 σ2 H2 x st2 R2 r2 => p γ2 σ2 H2 x (st.trans st2) R2 r2
/-- an expression ahead -/
theorem SPost.bind {α β : Type} {r : R α} {f : α → S → R Fl} {rel : Gh → Hp → α → β → Prop} {Q : β → Hp → Prop} (p : SPost K RX W γ H D (r.bind f))
    (h : ∀ a s1 γ1 H1 b, Stp γ H γ1 H1 → Rel K γ1 s1 σ H1 → rel γ1 H1 a b → SPost K RX W γ1 H1 D (f a s1) → Q b H1) : Post K RX W γ H σ rel r Q := by
  cases r with
  | bad => exact p
  | ex e s => exact fun γ1 H1 c d st R1 r1 => p γ1 σ H1 c d st.toStm R1 r1
  | ok a s1 => exact fun γ1 H1 b st R1 r1 => h a s1 γ1 H1 b st R1 r1 (SPost.from st.toStm p)
theorem Stm.refl (γ : Gh) (H : Hp) : Stm γ H γ H := (Stp.refl γ H).toStm
end
section
variable {X : Cx}
theorem weakS {st : Stmt} {t t' : TS} (h : PS X st t) (w : ∀ D σ H, t' D σ H → t D σ H) : PS X st t' := ⟨fun ps s σ H D I q => h.run ps s σ H D I (w D σ H q)⟩
theorem weakB {st : List Stmt} {t t' : TS} (h : PSs X st t) (w : ∀ D σ H, t' D σ H → t D σ H) : PSs X st t' := ⟨fun ps s σ H D I q => h.run ps s σ H D I (w D σ H q)⟩
end

end
variable [TabT]
/-- a def's own body -/
structure GoodS (P : Prg) (N : List Str) (Γ : Callee) (RX : ExRel) (k : Nat) (X : Cx) (W : WX) (sc : Scope) : Prop extends Good P N Γ RX k X W sc where
  sco : X.env.scope = sc
  stk : X.stack = X.env :: X.outer
  frm : X.env.frame = some X.env.locals
  fn : ∀ x, X.fn x = true

section
variable {P : Prg} {N : List Str} {Γ : Callee} {RX : ExRel} {k : Nat} {X : Cx} {W : WX} {sc : Scope}
/-! ### try -/
/-- the suite of an except clause: what it reads -/
def tHd (P : Prg) (K : PySem.W.Frag) (i : Option Nat) (he : E) (a : Addr) (cls : Value) (d : Option Addr) : TS := fun D σ H => ∃ γ s e x, Rel K γ s σ H ∧ (∀ j, i = some j → j < σ.length → σ[j]? = some (some (.ref a))) ∧ rxP P K γ H e cls d ∧ hvE e he = some x ∧
  ∀ γ' H' v, Stp γ H γ' H' → Rel K γ' s σ H' → RelD K γ' H' x v → D.rt v H'
/-- .. an expression of it -/
def tHE (P : Prg) (K : PySem.W.Frag) (i : Option Nat) (he : E) (a : Addr) (cls : Value) (d : Option Addr) : TE := fun σ H Q => ∃ γ s e x, Rel K γ s σ H ∧ (∀ j, i = some j → j < σ.length → σ[j]? = some (some (.ref a))) ∧ rxP P K γ H e cls d ∧ hvE e he = some x ∧
  ∀ γ' H' v, Stp γ H γ' H' → Rel K γ' s σ H' → RelD K γ' H' x v → Q v H'
def tHL (P : Prg) (K : PySem.W.Frag) (i : Option Nat) (he : E) (a : Addr) (cls : Value) (d : Option Addr) : TA := fun σ H Q => ∃ γ s e xs, Rel K γ s σ H ∧ (∀ j, i = some j → j < σ.length → σ[j]? = some (some (.ref a))) ∧ rxP P K γ H e cls d ∧ hvL e he = some xs ∧
  ∀ γ' H' vs, Stp γ H γ' H' → Rel K γ' s σ H' → RelDs K γ' H' xs vs → Q vs H'
theorem rxP_step {K : PySem.W.Frag} {γ γ1 : Gh} {H H1 : Hp} {e : Ex} {c : Value} {d : Option Addr} (st : Stp γ H γ1 H1) (t : TupOk γ H) (h : rxP P K γ H e c d) : rxP P K γ1 H1 e c d := by
  obtain ⟨D, h1, h2, h3, h4, h5⟩ := h
  refine ⟨D, h1, h2, h3, h4, h5.imp_right fun ⟨dd, fs, e1, e2, e3, e4, e5⟩ => ⟨dd, fs, e1, ?_, ?_, e4, RelDs.step st.toSts t _ _ e5⟩⟩
  · exact st.frame _ _ e2 (fun _ z => by cases z) (fun z => e3 (.inr (.inl z))) fun z => e3 (.inr (.inr z))
  · exact st.notBad ⟨_, e2, fun _ z => (by cases z)⟩ e3
theorem plain_rel {K : PySem.W.Frag} {γ : Gh} {H : Hp} {d : D} (h : plainD d = true) {Y : Cx} {c : PySem.Const} {j : Nat} {pos : PySem.Pos} (hc : cstB d c = true) : ∃ v, PE Y (.Constant c j pos) (L2.tC v) ∧ ∀ (K : PySem.W.Frag) (γ : Gh) (H : Hp), RelD K γ H d v := by
  cases d <;> first | cases h | skip
  all_goals (cases c <;> first | cases hc | skip)
  · exact ⟨_, L2.pe_non, fun _ _ _ => .non⟩
  · simp only [cstB, beq_iff_eq] at hc; subst hc; exact ⟨_, L2.pe_bl, fun _ _ _ => .bl _⟩
  · simp only [cstB, decide_eq_true_eq] at hc; subst hc; exact ⟨_, L2.pe_int, fun _ _ _ => .int _⟩
  · simp only [cstB, decide_eq_true_eq] at hc; subst hc; exact ⟨_, L2.pe_str, fun _ _ _ => .str _⟩
theorem lookF_mem {f : Str} {x : D} : ∀ {ns : List Str} {vs : List D}, lookF f ns vs = some x → f ∈ ns
  | [], _, h => by simp [lookF] at h
  | _ :: _, [], h => by simp [lookF] at h
  | g :: ns, v :: vs, h => by
    unfold lookF at h
    by_cases e : g = f
    · subst e; exact List.mem_cons_self
    · rw [if_neg e] at h; exact List.mem_cons_of_mem _ (lookF_mem h)
/-- repr of what is no container -/
def rRpr (K : PySem.W.Frag) : List V → Hp → VK → Prop := fun xs H Q => ∃ γ d x z, xs = [x] ∧ RelD K γ H d x ∧ shownD d = some z ∧ Q (.str z) H
theorem call_rpr {Y : Cx} : L2.CallR Y (.builtin "repr") (rRpr Y.K) := by
  intro pins s σ H xs us Q I r h
  obtain ⟨γ, d, x, z, rfl, rd, hz, q⟩ := h
  cases r with
  | cons r1 r2 =>
    cases r2
    cases rd <;> first | (simp [shownD] at hz; done) | skip
    · cases r1
      simp only [shownD, Option.some.injEq] at hz
      subst hz
      exact PySem.P.repr_of_none ⟨.str _, H, I.tok _, ⟨_, rfl⟩, q⟩
    · cases r1
      simp only [shownD, Option.some.injEq] at hz
      subst hz
      exact PySem.P.repr_of_bool ⟨.str _, H, I.tok _, ⟨_, rfl⟩, q⟩
    · obtain ⟨t, rfl⟩ := r1
      simp only [shownD] at hz
      split at hz
      · rename_i hl
        cases hz
        exact PySem.P.repr_of_int (by omega) ⟨.str _, H, I.tok _, ⟨_, rfl⟩, q⟩
      · cases hz
    · obtain ⟨t, rfl⟩ := r1
      simp only [shownD] at hz
      split at hz
      · rename_i hl
        cases hz
        exact PySem.P.repr_of_str ⟨.str _, H, I.tok _, ⟨_, rfl⟩, q⟩ (line_le hl)
      · cases hz
theorem pe_rpr {Y : Cx} {y : Expr} {t : TE} {p pos : PySem.Pos} (hg : Gl Y "repr") (hm : Y.mg "repr" = none) (hst : ∀ env : Env, PySem.starEach [y] env = (false, PySem.eval y env) :: PySem.starEach [] env) (ha : PE Y y t) : PE Y (.Call (.Name "repr" p) [y] [] pos) (fun σ H Q => t σ H fun x H1 => rRpr Y.K [x] H1 Q) := by
  refine weakE (L2.pe_callB (call_rpr (Y := Y)) hg hm PyProof.Rows.bootS_repr (L2.pa_cons ha L2.pa_nil (hst _)) (by decide +kernel) (by decide +kernel) (hst _) (by rfl)) fun σ H Q q => q
theorem hv_ok (G : GoodS P N Γ RX k X W sc) {i : Option Nat} {a : Addr} {oe : PySem.Obj} {cls : Value} {d : Option Addr} {pn : List (Addr × PySem.Obj)} (hz : L2.Zc cls d oe) (hf : ∃ vs, oe.data = .fields vs) (he : E) :
    (∀ x, cHE N sc i he x = true → PE (X.suite a ((a, oe) :: pn)) x (tHE P X.K i he a cls d)) ∧ (∀ xs, cHL N sc i he xs = true → PA (X.suite a ((a, oe) :: pn)) xs (tHL P X.K i he a cls d)) ∧
      (∀ es, he = .lst es → ∀ xs, cHL N sc i es xs = true → PA (X.suite a ((a, oe) :: pn)) xs (tHL P X.K i es a cls d)) := by
  induction he with
  | cst c =>
    refine ⟨fun x h => ?_, fun xs h => by simp [cHL] at h, fun es h => nomatch h⟩
    cases x with
    | Constant q n pos =>
      simp only [cHE] at h
      refine ⟨fun pins st σ H Q I ⟨γ, s, e, y, R, hi, hr, hv, p⟩ => ?_⟩
      simp only [hvE] at hv
      by_cases hp : plainD c = true
      · rw [if_pos hp] at hv
        cases hv
        obtain ⟨v, hpe, hrel⟩ := plain_rel (K := X.K) (γ := γ) (H := H) hp (Y := X.suite a ((a, oe) :: pn)) (j := n) (pos := pos) h
        exact hpe.run pins st σ H Q I (p γ H v (Stp.refl _ _) R (hrel _ _ _))
      · rw [if_neg hp] at hv; cases hv
    | _ => simp [cHE] at h
  | att cs f e0 _ =>
    refine ⟨fun x h => ?_, fun xs h => by simp [cHL] at h, fun es h => nomatch h⟩
    cases x with
    | Attribute o g pos =>
      cases o with
      | Name y py =>
        cases i with
        | none => simp [cHE] at h
        | some j =>
          simp only [cHE, Bool.and_eq_true, decide_eq_true_eq] at h
          obtain ⟨rfl, ⟨h1, h2⟩, h3⟩ := h
          unfold notDbg at h3
          simp only [Bool.and_eq_true, Bool.not_eq_true', decide_eq_false_iff_not] at h3
          have hvar : PE (X.suite a ((a, oe) :: pn)) (.Name y py) (L2.tVar j) := L2.pe_var (by show X.N[j]? = some y; rw [G.hN]; exact h1) (.inl (G.loc y h2)) h3.1.1 h3.1.2
          refine ⟨fun pins st σ H Q I ⟨γ, s, e, z, R, hi, hr, hv, p⟩ => ?_⟩
          simp only [hvE] at hv
          obtain ⟨D, hD, e1, e2, e3, e4⟩ := hr
          have EG := G.exs D hD
          have hm := lookF_mem hv
          rw [e3, List.mem_reverse] at hm
          obtain ⟨q, hq, rfl⟩ := List.mem_map.mp hm
          rcases e4 with ⟨e4, _⟩ | ⟨dd, fs, rfl, hx, nb, hns, rr⟩
          · rw [e4] at hq; cases hq
          · rw [hns] at hv
            obtain ⟨v, hl, rv⟩ := lookF_rel hv rr
            exact (L2.pe_xf EG.xf (EG.nof q hq) hz hf hvar rfl).run pins st σ H Q I ⟨_, hi j rfl (by rw [I.len]; show j < X.N.length; rw [G.hN]; exact (List.getElem?_eq_some_iff.mp h1).1), rfl, e2, dd, fs, v, rfl, hx, hl, p γ H v (Stp.refl _ _) R rv⟩
      | _ => simp [cHE] at h
    | _ => simp [cHE] at h
  | fz f ih =>
    refine ⟨fun x h => ?_, fun xs h => by simp [cHL] at h, fun es h => nomatch h⟩
    cases f with
    | lst es =>
      cases x with
      | List xs pos =>
        simp only [cHE] at h
        have hp := ih.2.2 es rfl xs h
        refine ⟨fun pins st σ H Q I ⟨γ, s, e, z, R, hi, hr, hv, p⟩ => ?_⟩
        simp only [hvE] at hv
        obtain ⟨l, hl, hv2⟩ := Option.bind_eq_some_iff.mp hv
        by_cases hb : l.length ≤ LINE
        · rw [if_pos hb] at hv2
          cases hv2
          refine (L2.pe_lst hp).run pins st σ H Q I ⟨γ, s, e, l, R, hi, hr, hl, fun γ1 H1 vs st1 R1 r1 => ⟨line_le (by rw [← relDs_len r1]; exact hb), fun q hq => ?_⟩⟩
          exact p γ1 _ _ (st1.trans (Stp.new γ1 hq)) (R1.new hq) (new_lst R1 hq r1)
        · rw [if_neg hb] at hv2; cases hv2
      | _ => simp [cHE] at h
    | _ => cases x <;> simp [cHE] at h
  | tup es ih =>
    refine ⟨fun x h => ?_, fun xs h => by simp [cHL] at h, fun es h => nomatch h⟩
    cases x with
    | Tuple xs n pos =>
      simp only [cHE] at h
      have hp := ih.2.1 xs h
      refine ⟨fun pins st σ H Q I ⟨γ, s, e, z, R, hi, hr, hv, p⟩ => ?_⟩
      simp only [hvE] at hv
      obtain ⟨l, hl, hv2⟩ := Option.bind_eq_some_iff.mp hv
      by_cases hb : l.length ≤ LINE
      · rw [if_pos hb] at hv2
        cases hv2
        refine (L2.pe_tup hp).run pins st σ H Q I ⟨γ, s, e, l, R, hi, hr, hl, fun γ1 H1 vs st1 R1 r1 => ⟨line_le (by rw [← relDs_len r1]; exact hb), fun q hq => ?_⟩⟩
        exact p γ1 _ _ (st1.trans (Stp.new γ1 hq)) (R1.new hq) (new_tup R1 hq r1)
      · rw [if_neg hb] at hv2; cases hv2
    | _ => simp [cHE] at h
  | nil =>
    refine ⟨fun x h => by cases x <;> simp [cHE] at h, fun xs h => ?_, fun es h => nomatch h⟩
    cases xs with
    | nil => exact ⟨fun pos pins st σ H Q I ⟨γ, s, e, l, R, hi, hr, hv, p⟩ => by
        simp only [hvL] at hv
        cases hv
        exact L2.pa_nil.run pos pins st σ H Q I (p γ H [] (Stp.refl _ _) R .nil)⟩
    | cons _ _ => simp [cHL] at h
  | cons hd tl ih1 ih2 =>
    refine ⟨fun x h => by cases x <;> simp [cHE] at h, fun xs h => ?_, fun es h => nomatch h⟩
    cases xs with
    | nil => simp [cHL] at h
    | cons x xs =>
      simp only [cHL, Bool.and_eq_true] at h
      obtain ⟨⟨h1, h2⟩, h3⟩ := h
      have p1 := ih1.1 x h2
      have p2 := ih2.2.1 xs h3
      refine ⟨fun pos pins st σ H Q I ⟨γ, s, e, l, R, hi, hr, hv, p⟩ => ?_⟩
      simp only [hvL] at hv
      obtain ⟨z, hz1, hv2⟩ := Option.bind_eq_some_iff.mp hv
      obtain ⟨zs, hz2, rfl⟩ := Option.map_eq_some_iff.mp hv2
      refine (L2.pa_cons p1 p2 (star_cons h1)).run pos pins st σ H Q I ⟨γ, s, e, z, R, hi, hr, hz1, fun γ1 H1 v st1 R1 r1 => ?_⟩
      exact ⟨γ1, s, e, zs, R1, hi, rxP_step st1 R.tups hr, hz2, fun γ2 H2 vs st2 R2 r2 => p γ2 H2 _ (st1.trans st2) R2 (.cons (RelD.step st2.toSts R1.tups _ _ r1) r2)⟩
  | lst es0 ih => exact ⟨fun x h => by cases x <;> simp [cHE] at h, fun xs h => by cases xs <;> simp [cHL] at h, fun es h xs hh => by cases h; exact ih.2.1 xs hh⟩
  | bin op b1 b2 ih1 ih2 =>
    refine ⟨fun x h => ?_, fun xs h => by cases xs <;> simp [cHL] at h, fun es h => nomatch h⟩
    cases op <;> first | (cases x <;> (simp [cHE] at h; done)) | skip
    cases x with
    | BinOp l o r pos =>
      cases o <;> first | (simp [cHE] at h; done) | skip
      simp only [cHE, Bool.and_eq_true] at h
      have p1 := ih1.1 l h.1
      have p2 := ih2.1 r h.2
      refine ⟨fun pins st σ H Q I ⟨γ, s, e, z, R, hi, hr, hv, p⟩ => ?_⟩
      simp only [hvE] at hv
      split at hv
      · rename_i u v e1 e2
        split at hv
        · rename_i hl
          cases hv
          refine (L2.pe_op L2.op_add_str p1 p2).run pins st σ H Q I ⟨γ, s, e, .str u, R, hi, hr, e1, fun γ1 H1 y st1 R1 r1 => ⟨γ1, s, e, .str v, R1, hi, rxP_step st1 R.tups hr, e2, fun γ2 H2 y2 st2 R2 r2 => ?_⟩⟩
          cases r1; cases r2
          exact ⟨u, v, rfl, rfl, line_le hl, p γ2 H2 _ (st1.trans st2) R2 (.str _)⟩
        · cases hv
      · cases hv
    | _ => simp [cHE] at h
  | rpr b1 ih =>
    refine ⟨fun x h => ?_, fun xs h => by cases xs <;> simp [cHL] at h, fun es h => nomatch h⟩
    cases x with
    | Call fn args kws pos =>
      cases fn with
      | Name y py =>
        match args, kws, h with
        | [z], [], h =>
          simp only [cHE, Bool.and_eq_true, decide_eq_true_eq] at h
          obtain ⟨⟨⟨rfl, h1⟩, h2⟩, h3⟩ := h
          have p1 := ih.1 z h3
          refine ⟨fun pins st σ H Q I ⟨γ, s, e, z, R, hi, hr, hv, p⟩ => ?_⟩
          simp only [hvE] at hv
          obtain ⟨w, hw, hv2⟩ := Option.bind_eq_some_iff.mp hv
          obtain ⟨y, hy, rfl⟩ := Option.map_eq_some_iff.mp hv2
          refine (pe_rpr (Y := X.suite a ((a, oe) :: pn)) (G.gl _ h1) G.rpr (fun env => star_cons h2) p1).run pins st σ H Q I ⟨γ, s, e, w, R, hi, hr, hw, fun γ1 H1 v st1 R1 r1 => ⟨γ1, w, v, y, rfl, r1, hy, p γ1 H1 _ st1 R1 (.str _)⟩⟩
        | [], _, h => simp [cHE] at h
        | _ :: _ :: _, _, h => simp [cHE] at h
        | [_], _ :: _, h => simp [cHE] at h
      | _ => simp [cHE] at h
    | _ => simp [cHE] at h
  | _ => exact ⟨fun x h => by cases x <;> simp [cHE] at h, fun xs h => by cases xs <;> simp [cHL] at h, fun es h xs hh => nomatch h⟩
/-- what the clauses do -/
def clsL (P : Prg) (K : PySem.W.Frag) : T → List Cl
  | .hd c _ i he r => (.ref (clsOf K c), i, tHd P K i he) :: clsL P K r
  | _ => []
theorem exs_at (G : GoodS P N Γ RX k X W sc) {c : Str} (h : P.exs.any (fun d => decide (d.name = c)) = true) : ∃ d ∈ P.exs, d.name = c ∧ X.mg c = some (.ref (clsOf X.K c)) := by
  obtain ⟨d, hd, h1⟩ := List.any_eq_true.mp h
  simp only [decide_eq_true_eq] at h1
  subst h1
  exact ⟨d, hd, rfl, (G.exs d hd).at_⟩
def asB (N : List Str) (sc : Scope) : Option Str → Option Nat → Bool
  | none, none => true
  | some n, some j => decide (N[j]? = some n) && locB sc n
  | _, _ => false
theorem cHd_inv {c : Str} {subs : List Str} {i : Option Nat} {he : E} {r : T} {hds : List ExceptHandler} (h : cHd P N sc (.hd c subs i he r) hds = true) : ∃ np nm v rp pos hds', hds = .ExceptHandler (some (.Name c np)) nm [.Return (some v) rp] pos :: hds' ∧
    glB sc c = true ∧ notDbg c = true ∧ P.exs.any (fun d => decide (d.name = c)) = true ∧ P.exs.all (fun d => decide (d.name ∈ subs) == decide (c ∈ d.sups)) = true ∧ asB N sc nm i = true ∧ cHE N sc i he v = true ∧ cHd P N sc r hds' = true := by
  unfold cHd at h
  split at h
  · exact (by rename_i q; cases q)
  · rename_i c' subs' i' he' r' x np nm v rp pos hds' h1
    cases h1
    simp only [Bool.and_eq_true, decide_eq_true_eq] at h
    obtain ⟨⟨⟨⟨⟨⟨⟨rfl, h1⟩, h2⟩, h3⟩, h4⟩, h5⟩, h6⟩, h7⟩ := h
    exact ⟨np, nm, v, rp, pos, hds', rfl, h1, h2, h3, h4, by cases nm <;> cases i <;> exact h5, h6, h7⟩
  · cases h
theorem hds_ok (G : GoodS P N Γ RX k X W sc) : ∀ (hs : T) (hds : List ExceptHandler), cHd P N sc hs hds = true → HdsA X hds (clsL P X.K hs) := by
  intro hs
  induction hs with
  | nil =>
    intro hds h
    cases hds with
    | nil => exact .nil
    | cons _ _ => simp [cHd] at h
  | hd c subs i he r ih =>
    intro hds h
    obtain ⟨np, nm, v, rp, pos, hds', rfl, h1, h2, h3, h4, h5, h6, h7⟩ := cHd_inv h
    obtain ⟨d, hd, e, hm⟩ := exs_at G h3
    unfold notDbg at h2
    simp only [Bool.and_eq_true, Bool.not_eq_true', decide_eq_false_iff_not] at h2
    have hn : L2.Names X c (.ref (clsOf X.K c)) := ⟨G.gl c h1, h2.1.1, .inl hm⟩
    have hsu : ∀ (a : Addr) (oe : PySem.Obj) (cls : Value) (d : Option Addr) (pn : List (Addr × PySem.Obj)), L2.Zc cls d oe → (∃ vs, oe.data = .fields vs) → PSs (X.suite a ((a, oe) :: pn)) [.Return (some v) rp] (tHd P X.K i he a cls d) :=
      fun a oe cls d pn hz hf => weakB (L2.pss_cons (L2.ps_ret ((hv_ok G (i := i) (pn := pn) hz hf he).1 v h6)) L2.pss_nil) fun D σ H q => q
    cases nm with
    | none =>
      cases i with
      | none => exact .one hn hsu (ih hds' h7)
      | some j => cases h5
    | some n =>
      cases i with
      | none => cases h5
      | some j =>
        simp only [asB, Bool.and_eq_true, decide_eq_true_eq] at h5
        exact .as hn (by rw [G.hN]; exact h5.1) (G.loc n h5.2) hsu (ih hds' h7)
  | _ => intro hds h; exact absurd h (by unfold cHd; exact Bool.false_ne_true)
theorem Rel.clr {K : PySem.W.Frag} {γ : Gh} {s : S} {τ : L2.St} {H : Hp} {a : Addr} (R : Rel K γ s τ H) (i : Option Nat) : Rel K γ (clrS s i) (setAs a τ i) H := by
  cases i with
  | none => exact R
  | some i =>
    refine { R with len := by simp only [clrS, setAs, List.length_set]; exact R.len, slot := fun j v h => ?_ }
    have h : (s.env.set i none)[j]? = some (some v) := h
    by_cases e : i = j
    · subst e
      rw [List.getElem?_set] at h
      split at h
      · split at h <;> cases h
      · exact absurd rfl ‹_›
    · rw [List.getElem?_set_ne e] at h
      obtain ⟨x, h1, h2⟩ := R.slot j v h
      exact ⟨x, by show (τ.set i _)[j]? = _; rw [List.getElem?_set_ne e]; exact h1, h2⟩
end
end Mp

/-! Mp: a lambda without parameters, handed to a def that calls it under a try. -/
namespace Mp
open PySem (Addr Value Expr Stmt PyData Str CmpOp Operator cLine Scope Env NameKind ExceptHandler)
open L2 (V HO Hp upd upd_same upd_ne SqT SqL Rd PE PT PW PA PI PG PS PSs Cx TE TT TA TI TG TS VK XK WX Ends Gl Sp It Room Takes Vis RelV)
variable [TabT]
section
variable {P : Prg} {N : List Str} {Γ : Callee} {RX : ExRel} {k : Nat} {X : Cx} {W : WX} {sc : Scope}
theorem vis_of {scope : Scope} (x : Str) (h : visB scope x = true) : Vis scope x := by
  unfold visB at h
  split at h
  · rename_i e; exact .inl e
  · rename_i e; exact .inr (.inl e)
  · rename_i e; exact .inr (.inr e)
  · cases h
theorem gl_of {scope : Scope} (x : Str) (h : glB scope x = true) : scope.names.lookup x = some .globalImplicit := by
  unfold glB at h
  split at h
  · rename_i e; exact e
  · cases h
theorem loc_of {scope : Scope} (x : Str) (h : locB scope x = true) : scope.names.lookup x = some .local := by
  unfold locB at h
  split at h
  · rename_i e; exact e
  · cases h
/-- what the module has is alike in each context -/
theorem Good.other (G : Good P N Γ RX k X W sc) {N' : List Str} {Y : Cx} {W' : WX} {sc' : Scope} (e1 : Y.prog = X.prog) (e2 : Y.w = X.w) (e3 : Y.K = X.K) (e4 : Y.mg = X.mg) (e5 : Y.base = X.base) (hN : Y.N = N') (nd : N'.Nodup) (calm : Y.calm = true) (room : Room (k + 1) Y.A) (room3 : Room 3 Y.A)
    (tk : Takes Y W') (pass : PySem.PassesOwn (PySem.model Y.prog Y.w) Y.A Y.env Y.xe) (kind : Y.env.scope.kind = .function) (names : Y.env.scope.names = sc'.names) (sto : ∀ x, storeB sc' x = true → L2.Loc Y.env.scope x ∧ (Y.fn x = true ∨ Y.env.scope.names.lookup x = some .local)) (lam : N' ∈ P.lamN → sc'.isCoroutine = false → LamC Y k) : Good P N' Γ RX k Y W' sc' := by
  cases Y
  cases X
  simp only at e1 e2 e3 e4 e5
  subst e1 e2 e3 e4 e5
  exact
    { hN := hN, nd := nd, calm := calm, room := room.mono (Nat.le_succ _), tk := tk, pass := pass, kind := kind, vis := fun x h => (by have z := vis_of x h; unfold Vis at z ⊢; rw [← names] at z; exact z), gl := fun x h => (by have z := gl_of x h; rw [← names] at z; exact z),
      loc := fun x h => (by have z := loc_of x h; rw [← names] at z; exact z), sto := sto, cf := fun x h => (by rw [← names] at h; exact h), blt := G.blt, tgs := G.tgs, isi := G.isi, lst := G.lst, rng := G.rng, zip := G.zip, enm := G.enm, gcs := G.gcs, fns := G.fns,
      steady := G.steady, rx := G.rx, room3 := room3, exs := G.exs, mdef := G.mdef, cls := G.cls, isc := G.isc, noat := G.noat, room1 := room, lam := lam, mts := G.mts, rpr := G.rpr, tup := G.tup, set := G.set, srt := G.srt, nmc := G.nmc, isc2 := G.isc2, eqs := G.eqs, mks := G.mks, fnk := G.fnk, sts := G.sts, ccs := G.ccs,
      make := G.make, prop := G.prop, meth := G.meth }
theorem Good.lamG (G : Good P N Γ RX k X W sc) {scope : Scope} (L : LamX.LamS X.env.scope scope) {A : PySem.Around} {outer : List Env} {s : PySem.Shared} {H : Hp} {E : XK} {f c' : Addr} (hr : Room (k + 1) (A.deeper (LamX.lamEnv X scope s.heap.objs.size f c'))) (h3 : 2 ≤ k) :
    Good P N Γ RX k (LamX.lamCx X A outer s H E scope f c') (fun c d _ H => E c d H) (mkLam scope) :=
  G.other rfl rfl rfl rfl rfl G.hN G.nd rfl hr (hr.mono (by omega)) (L2.takes_of rfl rfl rfl rfl) (L2.passes_of rfl) L.kind rfl (fun x h => by
    unfold storeB at h
    split at h
    · rename_i e; exact absurd rfl (L.own _ (PySem.mem_of_lookup e)).1
    · rename_i e; exact absurd rfl (L.own _ (PySem.mem_of_lookup e)).2
    · cases h) (fun _ h => by cases h)
/-- the context of the def that calls it -/
theorem Good.metG (G : Good P N Γ RX k X W sc) {Ng ps : List Str} {x : Str} {sg : Scope} {g : Addr} {cdg : Value} {s : PySem.Shared} {H : Hp} (S : L2.FnScope Ng ps sg) (hr : Room (k + 3) X.A) (h3 : 2 ≤ k) (hl : Ng ∉ P.lamN) :
    GoodS P Ng Γ RX k (L2.cxOf C8.CX0 X.prog X.w X.K X.mg X.base Ng x sg g cdg X.A X.stack s H C8.E0).nox (fun _ _ _ _ => False) sg :=
  { G.other (N' := Ng) (Y := (L2.cxOf C8.CX0 X.prog X.w X.K X.mg X.base Ng x sg g cdg X.A X.stack s H C8.E0).nox) (W' := fun _ _ _ _ => False) (sc' := sg) rfl rfl rfl rfl rfl rfl S.nd rfl ((hr.deeper _).mono (by omega)) ((hr.deeper _).mono (by omega)) LamX.takes0 PySem.PassesOwn.never S.kind rfl (fun x h => by
    unfold storeB at h
    split at h
    · rename_i e; exact ⟨.inl e, .inl rfl⟩
    · rename_i e; exact ⟨.inr e, .inl rfl⟩
    · cases h) (fun h => absurd h hl) with
    sco := rfl, stk := rfl, frm := rfl, fn := fun _ => rfl }
/-- which clause takes an error, and what it hands back -/
theorem hnd_okP (G : Good P N Γ RX k X W sc) {N' : List Str} {sc' : Scope} {γ' : Gh} {τ : L2.St} {H' : Hp} {cls : Value} {d : Option Addr} {e : Ex} {s : S} {Dn : Ends} {Wo : WX} (R : Rel X.K γ' s τ H') (rx : RX γ' H' e cls d) :
    ∀ (hs : T) (hds : List ExceptHandler) (y : D) (s0 s1 : S), cHd P N' sc' hs hds = true → hnd hs e s0 = .ok (.rt (.d y)) s1 → (∀ γ2 H2 v s2 σ2, Stp γ' H' γ2 H2 → Rel X.K γ2 s2 σ2 H2 → s2.fs = s.fs → s2.gs = s.gs → RelD X.K γ2 H2 y v → Dn.rt v H2) → wCl X.K Wo Dn (clsL P X.K hs) cls d τ H' := by
  intro hs
  induction hs with
  | nil => intro hds y s0 s1 h q p; simp [hnd] at q
  | hd c subs i he r ih =>
    intro hds y s0 s1 h q p
    obtain ⟨np, nm, v, rp, pos, hds', rfl, h1, h2, h3, h4, h5, h6, h7⟩ := cHd_inv h
    obtain ⟨dc, hdc, ec⟩ := List.any_eq_true.mp h3
    simp only [decide_eq_true_eq] at ec
    have rx' := rx
    rw [G.rx] at rx'
    obtain ⟨D0, hD0, e1, e2, _, _⟩ := id rx'
    have hex := (G.exs D0 hD0).exm dc hdc
    rw [ec, ← e2] at hex
    have hsub := List.all_eq_true.mp h4 D0 hD0
    simp only [beq_iff_eq, decide_eq_decide] at hsub
    simp only [hnd] at q
    refine ⟨_, hex, fun hb a ha => ?_, fun hb => ?_⟩
    · have hin : e.c ∈ subs := by rw [e1]; exact hsub.mpr (of_decide_eq_true hb)
      rw [if_pos hin] at q
      cases q2 : hvE e he with
      | none => rw [q2] at q; cases q
      | some z =>
        rw [q2] at q
        cases q
        refine ⟨γ', clrS s i, e, y, R.clr i, fun j hj hlt => ?_, rx', q2, fun γ2 H2 v st2 R2 r2 => ?_⟩
        · subst hj
          show (τ.set j (some (.ref a)))[j]? = _
          have hlt : j < (τ.set j (some (.ref a))).length := hlt
          rw [List.length_set] at hlt
          exact List.getElem?_set_self hlt
        · have z := p γ2 H2 v _ _ st2 R2 (by cases i <;> rfl) (by cases i <;> rfl) r2
          cases i <;> exact z
    · have hin : ¬ e.c ∈ subs := by rw [e1]; exact fun z => of_decide_eq_false hb (hsub.mp z)
      rw [if_neg hin] at q
      exact ih hds' y s0 s1 h7 q p
  | _ => intro hds y s0 s1 h; exact absurd h (by unfold cHd; exact Bool.false_ne_true)
/-- a constant as a value -/
def constV : D → V
  | .bl b => .bl b
  | .int i => .int i
  | .str x => .str x
  | _ => .non
theorem const_pe {d : D} (h : plainD d = true) {Y : Cx} {c : PySem.Const} {j : Nat} {pos : PySem.Pos} (hc : cstB d c = true) : PE Y (.Constant c j pos) (L2.tC (constV d)) := by
  cases d <;> first | cases h | skip
  all_goals (cases c <;> first | cases hc | skip)
  · exact L2.pe_non
  · simp only [cstB, beq_iff_eq] at hc; subst hc; exact L2.pe_bl
  · simp only [cstB, decide_eq_true_eq] at hc; subst hc; exact L2.pe_int
  · simp only [cstB, decide_eq_true_eq] at hc; subst hc; exact L2.pe_str
theorem const_rel {d : D} (h : plainD d = true) (K : PySem.W.Frag) (γ : Gh) (H : Hp) : RelD K γ H d (constV d) := by
  cases d <;> first | cases h | skip
  · exact .non
  · exact .bl _
  · exact .int _
  · exact .str _
/-- what is handed back where nothing is raised -/
def okQ (ok : MOk) (Q : VK) : VK := match ok with
  | .con d => fun _ H => Q (constV d) H
  | _ => Q
/-- what such a def makes of the lambda's reading -/
def tMet (P : Prg) (K : PySem.W.Frag) (ok : MOk) (hs : E) : (XK → Hp → VK → Prop) → Hp → VK → Prop := fun tl H Q => ∃ Ech : XK, tl Ech H (okQ ok Q) ∧ ∀ D : Ends, D.rt = Q → ∀ cls d σ' H', Ech cls d H' → wCl K (fun _ _ _ _ => False) D (clsL P K (hsT hs)) cls d σ' H'
theorem met_gives (G : Good P N Γ RX k X W sc) {ok : MOk} {hs : E} {Ng : List Str} {x a q : Str} {sg : Scope} {g : Addr} {cdg : Value} {bg : List Stmt} (S : L2.FnScope Ng [a] sg) (hr : Room (k + 3) X.A) (h3 : 2 ≤ k) (hl : Ng ∉ P.lamN) (ht : metT P Ng sg ok hs bg = true) (ha : Ng[0]? = some a) :
    LamX.GivesTo X Ng x sg g cdg bg a q (tMet P X.K ok hs) := by
  intro f c' s H Q tl act hc h
  have G' := G.metG (x := x) (g := g) (cdg := cdg) (s := s) (H := H) S hr h3 hl
  obtain ⟨Ech, htl, hcl⟩ := h
  have h0 : (L2.start Ng [V.ref f])[0]? = some (some (V.ref f)) := by
    cases Ng with
    | nil => simp at ha
    | cons b l => rfl
  unfold metT at ht
  split at ht
  · rename_i a' p1 p2 p3 h0' hds p4 c j p5 p6
    simp only [Bool.and_eq_true, decide_eq_true_eq] at ht
    obtain ⟨⟨⟨ht1, ht2⟩, ht3⟩, ht4⟩ := ht
    rw [ha] at ht2
    cases ht2
    cases ok with
    | con d =>
      simp only [Bool.and_eq_true] at ht1
      refine ⟨_, L2.pss_cons (ps_tryA (X := (L2.cxOf C8.CX0 X.prog X.w X.K X.mg X.base Ng x sg g cdg X.A X.stack s H C8.E0).nox) (Wo := fun _ _ _ _ => False)
        (tb := fun W D σ H => ∃ Ech : XK, (∀ cls d σ' H', Ech cls d H' → W cls d σ' H') ∧ σ[0]? = some (some (.ref f)) ∧ H c' = some (LamX.CodeO c' q) ∧ tl Ech H (fun _ H' => D.nx σ H'))
        rfl rfl S.nd LamX.takes0 (fun W pn xe tk _ => ?_) (hds_ok G' (hsT hs) _ ht4)) (L2.pss_cons (L2.ps_ret (const_pe ht1.1 ht1.2)) L2.pss_nil), ?_⟩
      · refine ⟨fun pins s' σ H' D I ⟨Ech, hW, g1, g2, g3⟩ => ?_⟩
        have hp := act W pn xe Ech p1 p2 tk hW
        exact (L2.pss_cons (L2.ps_expr hp (by rfl)) L2.pss_nil).run pins s' σ H' D I ⟨g1, g2, g3⟩
      · exact ⟨Ech, fun cls d σ' H' he => hcl _ rfl cls d σ' H' he, h0, hc, htl⟩
    | self => cases ht1
    | pair _ => cases ht1
  · rename_i a' p1 p2 p3 h0' hds p4
    simp only [Bool.and_eq_true, decide_eq_true_eq] at ht
    obtain ⟨⟨⟨ht1, ht2⟩, ht3⟩, ht4⟩ := ht
    rw [ha] at ht2
    cases ht2
    cases ok with
    | self =>
      refine ⟨_, L2.pss_cons (ps_tryA (X := (L2.cxOf C8.CX0 X.prog X.w X.K X.mg X.base Ng x sg g cdg X.A X.stack s H C8.E0).nox) (Wo := fun _ _ _ _ => False)
        (tb := fun W D σ H => ∃ Ech : XK, (∀ cls d σ' H', Ech cls d H' → W cls d σ' H') ∧ σ[0]? = some (some (.ref f)) ∧ H c' = some (LamX.CodeO c' q) ∧ tl Ech H D.rt)
        rfl rfl S.nd LamX.takes0 (fun W pn xe tk _ => ?_) (hds_ok G' (hsT hs) _ ht4)) L2.pss_nil, ?_⟩
      · refine ⟨fun pins s' σ H' D I ⟨Ech, hW, g1, g2, g3⟩ => ?_⟩
        have hp := act W pn xe Ech p1 p2 tk hW
        exact (L2.pss_cons (L2.ps_ret hp) L2.pss_nil).run pins s' σ H' D I ⟨g1, g2, g3⟩
      · exact ⟨Ech, fun cls d σ' H' he => hcl _ rfl cls d σ' H' he, h0, hc, htl⟩
    | con _ => cases ht1
    | pair _ => cases ht1
  · cases ht
theorem lamS_of (G : Good P N Γ RX k X W sc) {scope : Scope} (h : LamX.lamSB sc scope = true) : LamX.LamS X.env.scope scope := by
  have L := LamX.lamS_by h
  exact ⟨L.kind, L.co, L.gen, L.own, fun y hy e => G.cf y.1 (L.free y hy e)⟩
theorem scpB_of {N' ps : List Str} {sg : Scope} (h : scpB N' ps sg = true) : L2.FnScope N' ps sg := by
  unfold scpB at h
  simp only [Bool.and_eq_true, decide_eq_true_eq, List.all_eq_true] at h
  obtain ⟨⟨⟨⟨⟨⟨h1, h2⟩, h3⟩, h4⟩, h5⟩, h6⟩, h7⟩ := h
  exact ⟨h1, h2, h3, h4, h5, h6, h7⟩
/-- all but the tables stays -/
theorem stp_extN {γ : Gh} {H H1 : Hp} (eN : LamX.ExtN H H1) (T1 : LamX.Tabs TabT.T H1) : Stp γ H γ H1 :=
  ⟨⟨⟨rfl, rfl, rfl, fun _ h => .inl h, List.prefix_refl _, fun a o h nt _ _ => eN a o h nt, fun a ⟨o, h, nt⟩ => ⟨o, eN a o h nt, nt⟩, fun _ h => .inl h, fun _ h => .inl h, fun _ => T1⟩, rfl⟩, List.prefix_refl _⟩
theorem s_met (G : Good P N Γ RX k X W sc) {m : MetD} {e : E} {ok : MOk} {hs : E} {body : Expr} {scope : Scope} {lpos p pos : PySem.Pos} (hm : m ∈ P.mts) (hb : metB P m ok hs = true) (hN : N ∈ P.lamN) (hc : sc.isCoroutine = false) (hg : glB sc (P.fname m.f) = true) (hd : notDbg (P.fname m.f) = true)
    (hl : LamX.lamSB sc scope = true) (he : ∀ {X' : Cx} {W' : WX}, Good P N Γ RX k X' W' (mkLam scope) → PE X' body (tE X'.K RX W' (ev Γ e))) :
    PE X (.Call (.Name (P.fname m.f) p) [.Lambda ⟨[], [], none, [], [], none, []⟩ body scope lpos] [] pos) (tE X.K RX W (ev Γ (.met m.f e ok hs))) := by
  obtain ⟨⟨c, Pt, hcode, TB, hmT, hu⟩, hr, h2⟩ := G.lam hN hc
  obtain ⟨g, fd, oc, od, dV, kV, doc, pm, an, cdv, ct, osl, hat, hk, rfl, lk, hcd, hbd⟩ := (G.mts m hm).at_
  unfold metB at hb
  simp only [Bool.and_eq_true, decide_eq_true_eq, List.all_eq_true] at hb
  obtain ⟨⟨⟨⟨b1, b2⟩, b3⟩, b4⟩, b5⟩ := hb
  obtain ⟨a, ha⟩ : ∃ a, m.N[0]? = some a := by
    cases q : m.N with
    | nil => exact absurd q b4
    | cons a l => exact ⟨a, rfl⟩
  have ht1 : m.N.take 1 = [a] := by
    cases q : m.N with
    | nil => exact absurd q b4
    | cons b l => rw [q] at ha; cases ha; rfl
  rw [ht1] at b3 hbd
  have Sg := scpB_of b3
  have hda := b2 a (List.mem_of_getElem? ha)
  unfold notDbg at hda hd
  simp only [Bool.and_eq_true, Bool.not_eq_true', decide_eq_false_iff_not] at hda hd
  have hva : Vis (L2.defScope m.st) a := by
    rcases Sg.par a (by simp) with z | z
    · exact .inl z
    · exact .inr (.inl z)
  have L := lamS_of G hl
  refine weakE (LamX.pe_lamcall (k := k + 1) (T := TabT.T) (t := fun E => tE X.K RX (fun c d _ H => E c d H) (ev Γ e)) (G.gl _ hg) hat hk lk hcd hbd Sg ha hva (met_gives G Sg hr h2 b1 b5 ha) TB hcode hmT hu hr L rfl (fun _ _ _ _ _ => by rfl)
    (fun A outer s H E f c' hr' => he (G.lamG L hr' h2)) hd.1.1 hda.1.1 hda.1.2) fun σ H Q ⟨γ, s, R, q⟩ => ⟨R.tb, fun H1 eN T1 => ?_⟩
  have st := stp_extN (γ := γ) eN T1
  have R1 : Rel X.K γ s σ H1 := R.step st fun x hx => by
    obtain ⟨o, e1, n⟩ := R.live hx
    rw [e1]
    exact eN x o e1 n.2.2.1
  simp only [ev] at q
  have hds : ∃ hds, cHd P m.N (L2.defScope m.st) (hsT hs) hds = true ∧ ∀ d, ok = .con d → plainD d = true := by
    unfold metT at b5
    split at b5
    · simp only [Bool.and_eq_true] at b5
      refine ⟨_, b5.2, fun d hd => ?_⟩
      subst hd
      have := b5.1.1.1
      simp only [Bool.and_eq_true] at this
      exact this.1
    · simp only [Bool.and_eq_true] at b5
      refine ⟨_, b5.2, fun d hd => ?_⟩
      subst hd
      exact absurd b5.1.1.1 Bool.false_ne_true
    · cases b5
  obtain ⟨hds, hcd2, hok⟩ := hds
  have hpair : ∀ d, ok ≠ .pair d := fun d hp => by
    subst hp
    unfold metT at b5
    split at b5
    · simp at b5
    · simp at b5
    · cases b5
  cases r : ev Γ e s with
  | bad => rw [r] at q; exact q.elim
  | ok v s1 =>
    rw [r] at q
    cases v with
    | own j => exact q.elim
    | d v =>
      simp only at q
      refine ⟨fun _ _ _ => False, ⟨γ, s, R1, ?_⟩, fun _ _ _ _ _ _ h => h.elim⟩
      rw [r]
      intro γ1 H2 x st1 R2 rx
      cases ok with
      | con d => exact q γ1 H2 _ (st.trans st1) R2 (const_rel (hok d rfl) _ _ _)
      | self => exact q γ1 H2 _ (st.trans st1) R2 rx
      | pair d => exact absurd rfl (hpair d)
  | ex x s1 =>
    rw [r] at q
    simp only at q
    split at q
    · rename_i y sy hy
      refine ⟨fun c d H' => ∃ γ' , Stp γ H γ' H' ∧ Rel X.K γ' s1 σ H' ∧ RX γ' H' x c d, ⟨γ, s, R1, ?_⟩, fun D hD cls d σ' H' ⟨γ', st', R', rx'⟩ => ?_⟩
      · rw [r]
        intro γ1 H2 c d st1 R2 rx
        exact ⟨γ1, st.trans st1, R2, rx⟩
      · have Rz : Rel X.K γ' { s1 with env := List.replicate σ'.length none } σ' H' := R'.reenv (by simp) fun i v h => by
          rw [List.getElem?_replicate] at h
          split at h <;> cases h
        refine hnd_okP G Rz rx' (hsT hs) hds y _ _ hcd2 hy fun γ2 H2 v s2 σ2 st2 R2 f1 f2 r2 => ?_
        rw [hD]
        refine q γ2 H2 v (st'.trans st2) ?_ r2
        have z := R'.back st2 R2
        have e2 : ({ s2 with env := s1.env } : S) = s1 := by
          cases s2; cases s1
          simp only at f1 f2
          rw [f1, f2]
        rwa [e2] at z
    · exact q.elim
/-! ### repr, tuple(range(n)), times, insert -/
theorem s_rpr (G : Good P N Γ RX k X W sc) {a : E} {y : Expr} {p pos : PySem.Pos} (hg : glB sc "repr" = true) (hst : notStar y = true) (ha : PE X y (tE X.K RX W (ev Γ a))) : PE X (.Call (.Name "repr" p) [y] [] pos) (tE X.K RX W (ev Γ (.rpr a))) := by
  refine weakE (pe_rpr (G.gl _ hg) G.rpr (fun _ => star_cons hst) ha) fun σ H Q ⟨γ, s, R, p⟩ => ⟨γ, s, R, ?_⟩
  simp only [ev] at p
  refine p.bind fun v s1 γ1 H1 x st1 R1 r1 p1 => ?_
  obtain ⟨z, hz, p3⟩ := Post.opt p1
  cases v with
  | own j => cases hz
  | d y =>
    simp only [rprV] at hz
    obtain ⟨w, hw, rfl⟩ := Option.map_eq_some_iff.mp hz
    exact ⟨γ1, y, x, w, rfl, r1, hw, p3.here R1 (.str w)⟩
theorem s_tor (G : Good P N Γ RX k X W sc) {a : E} {z : Expr} {p p2 q pos : PySem.Pos} (hg : glB sc "tuple" = true) (hg2 : glB sc "range" = true) (hst : notStar z = true) (ha : PE X z (tE X.K RX W (ev Γ a))) :
    PE X (.Call (.Name "tuple" p) [.Call (.Name "range" p2) [z] [] q] [] pos) (tE X.K RX W (ev Γ (.tor a))) := by
  refine weakE (L2.pe_tupRg G.calm (G.gl _ hg) G.tup (L2.prg_1 (G.gl _ hg2) G.rng ha (star_cons hst)) (by rfl)) fun σ H Q ⟨γ, s, R, p⟩ => ⟨γ, s, R, ?_⟩
  simp only [ev] at p
  cases he : ev Γ a s with
  | bad => simp only [he, Mp.R.bind] at p; exact p
  | ex _ _ => simp only [he, Mp.R.bind] at p; exact p
  | ok v s1 =>
    simp only [he, Mp.R.bind] at p
    intro γ1 H1 x st1 R1 r1
    cases v with
    | own j => exact False.elim p
    | d x0 =>
      cases x0 <;> first | (exact False.elim p) | skip
      rename_i n
      cases r1
      by_cases hn : (decide (-(LINE : Int) ≤ n) && decide (n ≤ LINE)) = true
      · simp only [hn, if_true] at p
        simp only [Bool.and_eq_true, decide_eq_true_eq] at hn
        have hL : (LINE : Int) = 1000000 := rfl
        rw [hL] at hn
        refine ⟨n, rfl, ⟨by decide, by decide, by omega, by omega, by omega⟩, fun l hl => p γ1 _ (.ref l) (st1.trans (Stp.new γ1 hl)) (R1.new hl) (new_tup R1 hl ?_)⟩
        exact rel_rg (fun i => 0 + (i : Nat)) _
      · simp only [hn] at p
        exact False.elim p
theorem rep_rel {K : PySem.W.Frag} {γ : Gh} {H : Hp} {xs : List D} {vs : List V} (r : RelDs K γ H xs vs) : ∀ n : Nat, RelDs K γ H (repL n xs) (List.replicate n vs).flatten
  | 0 => .nil
  | n + 1 => by
    unfold repL
    rw [List.replicate_succ, List.replicate_succ, List.flatten_cons, List.flatten_cons]
    exact relDs_app r (rep_rel r n)
theorem fold_arr (l : List Nat) : ∀ (n : Nat) (acc : Array Nat), ((List.replicate n l.toArray).foldl (· ++ ·) acc).toList = acc.toList ++ (List.replicate n l).flatten
  | 0, acc => by simp
  | n + 1, acc => by
    rw [List.replicate_succ, List.replicate_succ, List.foldl_cons, fold_arr l n, List.flatten_cons]
    simp
theorem strRep_list (n : Nat) (x : Str) : (strRep n x).cps.toList = (List.replicate n x.cps.toList).flatten := by
  unfold strRep
  have := fold_arr x.cps.toList n #[]
  simpa using this
theorem str_ext {x y : Str} (h : x.cps.toList = y.cps.toList) : x = y := PySem.W.str_of_cps h
/-- times a number -/
def rRepV (K : PySem.W.Frag) : L2.R2 := fun x y H Q => (∃ l k xs, x = .ref l ∧ y = .int k ∧ H l = some (.lst xs) ∧ -(2 ^ 63) ≤ k ∧ k < 2 ^ 63 ∧ xs.length * k.toNat ≤ PySem.sizeLine ∧ ∀ p, H p = none → Q (.ref p) (upd H p (.lst (List.replicate k.toNat xs).flatten))) ∨ L2.rRepT K x y H Q ∨
  (∃ z k, x = .str z ∧ y = .int k ∧ 0 ≤ k ∧ k ≤ 1000 ∧ z.length ≤ 1000 ∧ Q (.str (strRep k.toNat z)) H)
theorem op_repV : L2.OpR X (PySem.binaryOp .Mult) (rRepV X.K) := by
  intro pins s σ H x y v u Q I rx ry h
  rcases h with h | h | ⟨z, k, rfl, rfl, h0, h1, hz, q⟩
  · exact L2.op_rep pins s σ H x y v u Q I rx ry h
  · exact L2.op_repT pins s σ H x y v u Q I rx ry h
  · obtain ⟨t, rfl⟩ := rx
    obtain ⟨t2, rfl⟩ := ry
    have hlen : (strRep k.toNat z).length ≤ 1000000 := by
      have e : (strRep k.toNat z).length = ((List.replicate k.toNat z.cps.toList).flatten).length := by rw [← strRep_list]; rfl
      rw [e, PyProof.Rows.lm_len_rep_flat]
      have a1 : k.toNat * z.cps.toList.length ≤ 1000 * 1000 := Nat.mul_le_mul (by omega) hz
      omega
    have hzk : z.length * k.toNat ≤ 1000000 := by
      have a1 : z.length * k.toNat ≤ 1000 * 1000 := Nat.mul_le_mul hz (by omega)
      omega
    refine PySem.P.mul_str (by rw [decide_eq_false (by omega), decide_eq_false (by omega)]; rfl) (fun hk _ => ?_) (fun _ _ => ?_) ?_
    · intro hgt
      have hk1 : 0 < k := by omega
      have : (1000000 : Int) ≤ (2 ^ 63 - 1) / k := by
        have := Int.le_ediv_of_mul_le hk1 (a := 1000000) (b := 2 ^ 63 - 1) (by have : 1000000 * k ≤ 1000000 * 1000 := Int.mul_le_mul_of_nonneg_left h1 (by decide); omega)
        exact this
      omega
    · unfold PySem.Builtin.Str.tooLong
      rw [PySem.sizeLine_eq]
      exact decide_eq_false (by omega)
    · by_cases hk : k < 1
      · rw [if_pos hk]
        have e : strRep k.toNat z = Str.empty := by
          have : k.toNat = 0 := by omega
          rw [this]; rfl
        rw [e] at q
        exact ⟨by decide, ⟨.str Str.empty, H, I.tok _, ⟨_, rfl⟩, q⟩⟩
      · rw [if_neg hk]
        by_cases h2 : (k == 1 || z.length == 0) = true
        · rw [if_pos h2]
          have e : strRep k.toNat z = z := by
            apply str_ext
            rw [strRep_list]
            simp only [Bool.or_eq_true, beq_iff_eq] at h2
            rcases h2 with rfl | h2
            · simp
            · have : z.cps.toList = [] := List.eq_nil_of_length_eq_zero h2
              rw [this]; simp
          rw [e] at q
          exact ⟨.str z, H, I, ⟨t, rfl⟩, q⟩
        · rw [if_neg h2]
          exact ⟨by show (strRep k.toNat z).length ≤ _; rw [PySem.sizeLine_eq]; omega, ⟨.str (strRep k.toNat z), H, I.tok _, ⟨_, rfl⟩, q⟩⟩
theorem s_rep {a b : E} {l r : Expr} {pos : PySem.Pos} (ha : PE X l (tE X.K RX W (ev Γ a))) (hb : PE X r (tE X.K RX W (ev Γ b))) : PE X (.BinOp l .Mult r pos) (tE X.K RX W (ev Γ (.rep a b))) := by
  refine weakE (L2.pe_op (op_repV (X := X)) ha hb) fun σ H Q ⟨γ, s, R, p⟩ => ⟨γ, s, R, ?_⟩
  simp only [ev] at p
  refine p.bind fun v s1 γ1 H1 x st1 R1 r1 p1 => ⟨γ1, s1, R1, p1.bind fun w s2 γ2 H2 y st2 R2 r2 p2 => ?_⟩
  obtain ⟨z, hz, p3⟩ := Post.opt p2
  have r1' := r1.step st2 R1.tups
  unfold repV at hz
  split at hz
  · rename_i z k
    split at hz
    · rename_i hc
      cases hz
      cases r1'; cases r2
      exact .inr (.inr ⟨_, _, rfl, rfl, hc.1, hc.2.1, hc.2.2, p3.here R2 (.str _)⟩)
    · cases hz
  · rename_i xs k
    split at hz
    · rename_i hc
      cases hz
      cases r2
      cases r1' with
      | tup h r =>
        have hl := relDs_len r
        refine .inr (.inl ⟨_, _, _, rfl, rfl, h, fun z => hc.2.2.2 (by rw [z] at hl; exact List.eq_nil_of_length_eq_zero hl), hc.1, hc.2.1, by omega, fun p hp => p3 γ2 _ (.ref p) (Stp.new γ2 hp) (R2.new hp) (new_tup R2 hp (rep_rel r _))⟩)
    · cases hz
  · rename_i xs k
    split at hz
    · rename_i hc
      cases hz
      cases r2
      cases r1' with
      | lst h nb r =>
        have hl := relDs_len r
        refine .inl ⟨_, _, _, rfl, rfl, h, by omega, by omega, ?_, fun p hp => p3 γ2 _ (.ref p) (Stp.new γ2 hp) (R2.new hp) (new_lst R2 hp (rep_rel r _))⟩
        rw [PySem.sizeLine_eq, ← hl]
        have a1 : xs.length * k.toNat ≤ 1000 * 1000 := Nat.mul_le_mul hc.2.2 (by omega)
        omega
    · cases hz
  · cases hz
theorem s_insm (G : Good P N Γ RX k X W sc) {a i v : E} {o y z : Expr} {ap cp : PySem.Pos} (hb : notCall o = true) (hpos : (ap.endLine == cp.line) = true) (n1 : notStar y = true) (n2 : notStar z = true) (hs : cL P N (.cons i (.cons v .nil)) sc [y, z] = true)
    (ho : PE X o (tE X.K RX W (ev Γ a))) (hi : PE X y (tE X.K RX W (ev Γ i))) (hv : PE X z (tE X.K RX W (ev Γ v))) : PE X (.Call (.Attribute o "insert" ap) [y, z] [] cp) (tE X.K RX W (ev Γ (.insm a i v))) := by
  obtain ⟨hst, t, ht⟩ := cL_cons hs
  refine weakE (L2.pe_bm PySem.F.plainAttrs_list PySem.F.slot_list_insert PySem.F.type_list_insert L2.mt_insert ho (s_cons n1 hi (s_cons n2 hv s_nil)) (base_of hb) (bm_plain hs _ (show 2 < 29 by decide)) hpos (star_cons hst) (plain_args ht _)) fun σ H Q ⟨γ, s, R, p⟩ => ⟨γ, s, R, ?_⟩
  simp only [ev] at p
  refine p.bind fun u s1 γ1 H1 x st1 R1 r1 p1 => ?_
  cases u with
  | d _ => exact False.elim p1
  | own j =>
    obtain ⟨b, rfl, hj⟩ := id r1
    obtain ⟨xs, ws, hc, hh, rr⟩ := R1.cellF hj
    refine ⟨.inl ⟨rfl, ws, SqL.of hh⟩, γ1, s1, R1, ?_⟩
    have key : Post X.K RX W γ1 H1 σ (RelVals X.K) (evs Γ (.cons i (.cons v .nil)) s1) (fun us H2 => ∃ (l : Addr) (xs : List V) (i : Int) (y : V), V.ref b = .ref l ∧ us = [.int i, y] ∧ H2 l = some (.lst xs) ∧ xs.length < PySem.sizeLine ∧ 0 ≤ i ∧ i < 2 ^ 63 ∧ Q .non (upd H2 l (.lst (xs.take i.toNat ++ [y] ++ xs.drop i.toNat)))) := by
      simp only [evs]
      cases e1 : ev Γ i s1 with
      | bad => rw [e1] at p1; exact False.elim p1
      | ex e s' => rw [e1] at p1; simp only [Mp.R.bind] at p1 ⊢; exact p1
      | ok k s2 =>
        rw [e1] at p1
        simp only [Mp.R.bind] at p1 ⊢
        cases e2 : ev Γ v s2 with
        | bad => rw [e2] at p1; exact False.elim p1
        | ex e s' => rw [e2] at p1; simp only at p1 ⊢; exact p1
        | ok w s3 =>
          rw [e2] at p1
          simp only at p1 ⊢
          intro γ2 H2 us st2 R2 r2
          cases r2 with
          | cons ra r3 =>
            cases r3 with
            | cons rb r4 =>
              cases r4
              have hj2 := get_pre st2.pf hj
              obtain ⟨ys, zs, hc2, hh2, rr2⟩ := R2.cellF hj2
              have hins : ∃ kk dd, k = .d (.int kk) ∧ w = .d dd := by
                cases k with
                | own _ => exact False.elim p1
                | d kd =>
                  cases w with
                  | own _ => cases kd <;> exact False.elim p1
                  | d wd => cases kd <;> first | exact False.elim p1 | exact ⟨_, _, rfl, rfl⟩
              obtain ⟨kk, dd, rfl, rfl⟩ := hins
              simp only [insV, hc2] at p1
              by_cases hq : ys.length < LINE ∧ 0 ≤ kk ∧ kk ≤ (LINE : Int)
              · rw [if_pos hq] at p1
                cases ra
                have hL : LINE = 1000000 := rfl
                have hl := relDs_len rr2
                refine ⟨b, zs, kk, _, rfl, rfl, hh2, by rw [PySem.sizeLine_eq]; omega, hq.2.1, by omega, ?_⟩
                refine p1 γ2 _ .non (st2.trans (stp_cell R2 (.inl (List.mem_of_getElem? hj2)))) (R2.setF hj2 ?_) .non
                rw [List.append_assoc]
                exact relDs_app (relDs_take _ rr2) (.cons rb (relDs_drop _ rr2))
              · rw [if_neg hq] at p1; exact False.elim p1
    exact key
end
end Mp

/-! Mp: calls of defs with keyword-only parameters; two fors in one comprehension; rjust, ljust with a sign; split. -/
namespace Mp
open PySem (Addr Value Expr Stmt PyData Str CmpOp Operator cLine Scope Env NameKind ExceptHandler)
open L2 (V HO Hp upd upd_same upd_ne SqT SqL Rd PE PT PW PA PI PG PS PSs Cx TE TT TA TI TG TS VK XK WX Ends Gl Sp It Room Takes Vis RelV)
variable [TabT]
section
variable {P : Prg} {N : List Str} {Γ : Callee} {RX : ExRel} {k : Nat} {X : Cx} {W : WX} {sc : Scope}
theorem relVals_get {K : PySem.W.Frag} {γ : Gh} {H : Hp} : ∀ {vs : List Val} {us : List V}, RelVals K γ H vs us → ∀ j : Nat, (vs[j]? = none ∧ us[j]? = none) ∨ ∃ v u, vs[j]? = some v ∧ us[j]? = some u ∧ RelVal K γ H v u
  | _, _, .nil, j => .inl ⟨rfl, rfl⟩
  | _, _, .cons h t, 0 => .inr ⟨_, _, rfl, rfl, h⟩
  | _, _, .cons h t, j + 1 => by simpa using relVals_get t j
theorem relVals_fillK {K : PySem.W.Frag} {γ : Gh} {H : Hp} : ∀ (p : List (Option Nat)) {ds zs : List Val} {us ws : List V}, RelVals K γ H ds us → RelVals K γ H zs ws → RelVals K γ H (fillK p ds zs) (fillK p us ws)
  | [], _, _, _, _, r1, r2 => by cases r1 <;> cases r2 <;> exact .nil
  | none :: p, _, _, _, _, .nil, r2 => .nil
  | none :: p, _, _, _, _, .cons h t, r2 => .cons h (relVals_fillK p t r2)
  | some j :: p, ds, zs, us, ws, r1, r2 => by
    have ih := relVals_fillK p r1 r2
    have e : ∀ {α : Type} (ds zs : List α), fillK (some j :: p) ds zs = match zs[j]? with
      | some z => z :: fillK p ds zs
      | none => [] := fun ds zs => by cases ds <;> rfl
    rw [e, e]
    rcases relVals_get r2 j with ⟨h1, h2⟩ | ⟨v, u, h1, h2, h3⟩
    · rw [h1, h2]; exact .nil
    · rw [h1, h2]; exact .cons h3 ih
theorem run_kw {CX : L2.CXT} {pins : List (Addr × PySem.Obj)} {σ : L2.St} {H : Hp} {t0 : PySem.Shared} {Q : VK} {us ws : List Value} {vs zs : List V} {fa : Addr} {fd : PySem.FuncData} {ps ks : List Str} {sp : Sp} {E : XK} {g : List Value → List Value → List Value} {gV : List V → List V → List V} {n : Nat}
    (F : L2.FnOk X.prog X.w X.K X.mg X.base CX k fa fd ps sp) (hr : Room k X.A) (hb : L2.KBn X.K fd ps n ks g gV) (hx : L2.PassesAt CX X σ E) (I : L2.Inv X pins σ H t0) (r : L2.Vals vs us) (rz : L2.Vals zs ws) (l1 : vs.length = n) (l2 : zs.length = ks.length) (h : sp (gV vs zs) H Q E) :
    PySem.wpAny (PySem.model X.prog X.w) X.A (PySem.call (.ref fa) us (ks.zip ws)) (L2.EP X pins σ Q) X.xe t0 := by
  have bd := hb.to _ us ws I.kIn (r.length.symm.trans l1) (rz.length.symm.trans l2)
  refine PySem.wpAny_call (PySem.codeAny_mono (F.run X.A X.stack _ _ ⟨us, ks.zip ws⟩ _ _ _ E hr I.env0 bd (hb.rel r rz) h) fun res t1 hres => ?_)
  cases res with
  | error er => exact hx pins _ _ er t1 I hres
  | ok fl =>
    cases fl with
    | ret u => exact I.after hres
    | _ => exact False.elim hres
theorem s_callk (G : Good P N Γ RX k X W sc) {f n : Nat} {pat : List (Option Nat)} {ds : List D} {ks : List Str} {es kes : E} {y : Expr} {ys : List Expr} {kws : List PySem.Keyword} {p pos : PySem.Pos} (hi : P.kwB f n ks pat ds = true) (hg : glB sc (P.fname f) = true) (hd : notDbg (P.fname f) = true) (hs : cL P N es sc (y :: ys) = true)
    (hk : kws.map (·.arg) = ks.map some) (ha : PA X (y :: ys) (tA X.K RX W (evs Γ es))) (hka : L2.PK X kws (tA X.K RX W (evs Γ kes))) : PE X (.Call (.Name (P.fname f) p) (y :: ys) kws pos) (tE X.K RX W (ev Γ (.callk f n pat ds ks es kes))) := by
  unfold Prg.kwB at hi
  obtain ⟨q, hq, h1⟩ := List.any_eq_true.mp hi
  simp only [Bool.and_eq_true, decide_eq_true_eq] at h1
  obtain ⟨⟨⟨⟨rfl, rfl⟩, rfl⟩, rfl⟩, h2⟩ := h1
  have e4 := D.sames_eq _ _ h2
  subst e4
  obtain ⟨fa, fd, ps, dvs, gU, hm, hkp, hb, hdv, F⟩ := G.fnk q hq
  obtain ⟨hall, hks, hno⟩ := kw_all (env := X.env) (pos := pos) hk
  refine ⟨fun pins st σ H Q I h => ?_⟩
  have key : tA X.K RX W (evs Γ es) σ H (fun us H1 => tA X.K RX W (evs Γ kes) σ H1 (fun zs H2 => us.length = q.2.1 ∧ zs.length = q.2.2.1.length ∧ spG X.K RX Γ q.1 (us ++ fillK q.2.2.2.1 dvs zs) H2 Q (L2.WE W σ))) := by
    obtain ⟨γ, s, R, p⟩ := h
    refine ⟨γ, s, R, ?_⟩
    simp only [ev] at p
    refine p.bind fun vs s1 γ1 H1 us st1 R1 r1 p1 => ⟨γ1, s1, R1, p1.bind fun zv s2 γ2 H2 zs st2 R2 r2 p2 => ?_⟩
    obtain ⟨⟨l1, l2⟩, p2⟩ := Post.ifP p2
    exact ⟨by rw [← relVals_len r1, l1], by rw [← relVals_len r2, l2], call_reading G.steady R2 (relVals_app (RelVals.step st2 R1.tups r1) (relVals_fillK _ (relVals_ds (hdv _ _)) r2)) p2⟩
  obtain ⟨hst, t, htl⟩ := cL_cons hs
  refine PySem.wpAny_Call_Name_kw (L2.ld_glob I (G.gl _ hg) hm ?_ (notDbg_of hd).1)
  refine PySem.W.callWith_KW (h₀ := X.base) I.ok.mod.kin hkp hall (L2.thn (ha.run pos pins st σ H _ I key) fun us s1 ⟨vs, H1, I1, r, q1⟩ => ?_) (by rw [plain_args hs pos, hno]; rfl) (star_cons hst)
  refine L2.thn (hka.run pos pins s1 σ H1 _ I1 q1) fun ws s2 ⟨zs, H2, I2, rz, l1, l2, q2⟩ => ⟨I2.kIn, ?_⟩
  rw [hks]
  exact run_kw (E := L2.WE W σ) F G.room hb (L2.passAt G.tk σ) I2 r rz l1 l2 q2
/-! ### rjust, ljust, split -/
def justId (right : Bool) : String := if right then "str.rjust" else "str.ljust"
theorem padS_l (x : Str) (i : Int) (c : Nat) (h : 0 ≤ i) : PySem.Txt.ljustF x i c = padS false x i.toNat c := by
  apply str_ext
  unfold PySem.Txt.ljustF padS
  have hx : x.length = x.cps.toList.length := rfl
  split
  · rename_i h1
    have : i.toNat - x.length = 0 := by omega
    rw [this]
    simp
  · simp [PySem.Builtin.Str.padded]
theorem padS_r (x : Str) (i : Int) (c : Nat) (h : 0 ≤ i) : PySem.Txt.rjustF x i c = padS true x i.toNat c := by
  apply str_ext
  unfold PySem.Txt.rjustF padS
  split
  · rename_i h1
    have : i.toNat - x.length = 0 := by omega
    rw [this]
    simp
  · simp [PySem.Builtin.Str.padded]
theorem pad_ok {i : Int} (h0 : 0 ≤ i) (h : i ≤ 1000) : PySem.PadOk i = true := by
  unfold PySem.PadOk PySem.fitsSsize PySem.Builtin.Str.tooLong
  rw [PySem.sizeLine_eq]
  simp only [Bool.and_eq_true, Bool.not_eq_true', Bool.or_eq_false_iff, decide_eq_false_iff_not]
  omega
theorem mt_just (right : Bool) : L2.MtR X (justId right) (fun x xs H Q => ∃ (a : Str) (i : Int) (f : Str), x = .str a ∧ xs = [.int i, .str f] ∧ f.length = 1 ∧ 0 ≤ i ∧ i ≤ 1000 ∧ Q (.str (padS right a i.toNat (f.cps.getD 0 0))) H) := by
  intro pins s σ H x xs v us Q I rx rs h
  obtain ⟨a, i, f, rfl, rfl, hf, h0, h1, h⟩ := h
  obtain ⟨t, rfl⟩ := rx
  cases rs with
  | cons r1 rs =>
    cases rs with
    | cons r2 rs =>
      cases rs
      obtain ⟨u, rfl⟩ := r1
      obtain ⟨w, rfl⟩ := r2
      cases right with
      | true => exact PyProof.Rows.rjust_fill (pad_ok h0 h1) hf fun t' k => ⟨.str _, H, I.tok k, ⟨t', rfl⟩, by rw [padS_r _ _ _ h0]; exact h⟩
      | false => exact PyProof.Rows.ljust_fill (pad_ok h0 h1) hf fun t' k => ⟨.str _, H, I.tok k, ⟨t', rfl⟩, by rw [padS_l _ _ _ h0]; exact h⟩
theorem cL_one {a : E} {y : Expr} (h : cE P N a sc y = true) (n : notStar y = true) : cL P N (.cons a .nil) sc [y] = true := by simp [cL, h, n]
theorem cL_two {a b : E} {y z : Expr} (h : cE P N a sc y = true) (n : notStar y = true) (h2 : cE P N b sc z = true) (n2 : notStar z = true) : cL P N (.cons a (.cons b .nil)) sc [y, z] = true := by simp [cL, h, n, h2, n2]
theorem s_jst {right : Bool} {a i f : E} {o y z : Expr} {ap cp : PySem.Pos} (hb : notCall o = true) (hpos : (ap.endLine == cp.line) = true) (n1 : notStar y = true) (n2 : notStar z = true) (hs : cL P N (.cons i (.cons f .nil)) sc [y, z] = true)
    (ho : PE X o (tE X.K RX W (ev Γ a))) (hi : PE X y (tE X.K RX W (ev Γ i))) (hv : PE X z (tE X.K RX W (ev Γ f))) : PE X (.Call (.Attribute o (if right then "rjust" else "ljust") ap) [y, z] [] cp) (tE X.K RX W (ev Γ (.jst right a i f))) := by
  obtain ⟨hst, t, ht⟩ := cL_cons hs
  have args := L2.pa_cons hi (L2.pa_cons hv L2.pa_nil (star_cons n2)) (star_cons n1)
  have main : PE X (.Call (.Attribute o (if right then "rjust" else "ljust") ap) [y, z] [] cp) (L2.tBM X.K "str" (fun x xs H Q => ∃ (a : Str) (i : Int) (f : Str), x = .str a ∧ xs = [.int i, .str f] ∧ f.length = 1 ∧ 0 ≤ i ∧ i ≤ 1000 ∧ Q (.str (padS right a i.toNat (f.cps.getD 0 0))) H) (tE X.K RX W (ev Γ a)) (L2.tCons (tE X.K RX W (ev Γ i)) (L2.tCons (tE X.K RX W (ev Γ f)) L2.tNil))) := by
    cases right with
    | true => exact L2.pe_bm PySem.F.plainAttrs_str PySem.F.slot_str_rjust PySem.F.type_str_rjust (mt_just true) ho args (base_of hb) (bm_plain hs _ (show 2 < 29 by decide)) hpos (star_cons hst) (plain_args ht _)
    | false => exact L2.pe_bm PySem.F.plainAttrs_str PySem.F.slot_str_ljust PySem.F.type_str_ljust (mt_just false) ho args (base_of hb) (bm_plain hs _ (show 2 < 29 by decide)) hpos (star_cons hst) (plain_args ht _)
  refine weakE main fun σ H Q ⟨γ, s, R, p⟩ => ⟨γ, s, R, ?_⟩
  simp only [ev] at p
  refine p.bind fun u s1 γ1 H1 x st1 R1 r1 p1 => ?_
  split at p1
  · cases r1
    refine ⟨rfl, γ1, s1, R1, p1.bind fun n s2 γ2 H2 y st2 R2 r2 p2 => ⟨γ2, s2, R2, p2.bind fun c s3 γ3 H3 w st3 R3 r3 p3 => ?_⟩⟩
    obtain ⟨z, hz, p4⟩ := Post.opt p3
    have r2' := r2.step st3 R2.tups
    unfold jstV at hz
    split at hz
    · rename_i x' i' f' e1
      cases e1
      split at hz
      · rename_i hc
        cases hz
        cases r2'
        cases r3
        exact ⟨_, _, _, rfl, rfl, hc.1, hc.2.2.1, hc.2.2.2, p4.here R3 (.str _)⟩
      · cases hz
    · cases hz
  · exact False.elim p1
theorem strs_mk {K : PySem.W.Frag} {γ : Gh} {H : Hp} : ∀ ys : List Str, RelDs K γ H (ys.map D.str) (ys.map V.str)
  | [] => .nil
  | y :: ys => .cons (.str y) (strs_mk ys)
theorem s_spl {a b : E} {o y : Expr} {ap cp : PySem.Pos} (hb : notCall o = true) (hpos : (ap.endLine == cp.line) = true) (n1 : notStar y = true) (hs : cL P N (.cons b .nil) sc [y] = true)
    (ho : PE X o (tE X.K RX W (ev Γ a))) (hi : PE X y (tE X.K RX W (ev Γ b))) : PE X (.Call (.Attribute o "split" ap) [y] [] cp) (tF X.K RX W (evF Γ (.spl a b))) := by
  obtain ⟨hst, t, ht⟩ := cL_cons hs
  refine weakE (L2.pe_bm PySem.F.plainAttrs_str PySem.F.slot_str_split PySem.F.type_str_split L2.mt_split ho (L2.pa_cons hi L2.pa_nil (star_cons n1)) (base_of hb) (bm_plain hs _ (show 1 < 29 by decide)) hpos (star_cons hst) (plain_args ht _)) fun σ H Q ⟨γ, s, R, p⟩ => ⟨γ, s, R, ?_⟩
  simp only [evF] at p
  cases e1 : ev Γ a s with
  | bad => rw [e1] at p; exact False.elim p
  | ex e s' => rw [e1] at p; simp only [Mp.R.bind] at p ⊢; exact p
  | ok u s1 =>
    rw [e1] at p
    simp only [Mp.R.bind] at p ⊢
    intro γ1 H1 x st1 R1 r1
    have hu : ∃ z, u = .d (.str z) := by
      cases u with
      | own _ => exact False.elim p
      | d d => cases d <;> first | exact False.elim p | exact ⟨_, rfl⟩
    obtain ⟨z0, rfl⟩ := hu
    · cases r1
      simp only at p
      refine ⟨rfl, γ1, s1, R1, ?_⟩
      cases e2 : ev Γ b s1 with
      | bad => rw [e2] at p; exact False.elim p
      | ex e s' => rw [e2] at p; simp only at p ⊢; exact fun γ2 H2 c d st2 => p γ2 H2 c d (st1.trans st2)
      | ok w s2 =>
        rw [e2] at p
        simp only at p ⊢
        intro γ2 H2 y st2 R2 r2
        cases e3 : splV (Val.d (D.str _)) w with
        | none => rw [e3] at p; exact False.elim p
        | some l =>
          rw [e3] at p
          unfold splV at e3
          split at e3
          · rename_i x' y' q
            cases q
            split at e3
            · rename_i hc
              cases e3
              cases r2
              refine ⟨_, _, rfl, rfl, by simpa using hc.1, by rw [PySem.sizeLine_eq]; exact Nat.le_trans hc.2 (by decide), fun l hl => ?_⟩
              exact p γ2 _ l _ (fun z => not_liv hl ((st1.trans st2).trk l z)) ((st1.trans st2).trans (Stp.new γ2 hl)) (R2.mk1 hl) (strs_mk _) upd_same
            · cases e3
          · cases e3
/-! ### two fors in one comprehension -/
theorem lc2Go_noex {env : List (Option Val)} {tg tg1 : List Nat} {it1 elt : S → R Val} : ∀ {xs : List D} {s : S} {e : Ex} {s' : S}, lc2Go env tg tg1 it1 elt xs s ≠ .ex e s'
  | [], s, e, s', h => by simp [lc2Go] at h
  | x :: r, s, e, s', h => by
    unfold lc2Go at h
    split at h
    · cases h
    · rename_i s1 _
      cases hc : it1 s1 with
      | bad => rw [hc] at h; simp at h
      | ex _ _ => rw [hc] at h; simp at h
      | ok v s2 =>
        rw [hc] at h
        simp only [R.bindN] at h
        split at h
        · split at h
          · cases h2 : lcGo (wipeE s2.env tg1) tg1 (fun s => .ok true s) elt _ s2 with
            | bad => rw [h2] at h; simp at h
            | ex _ _ => rw [h2] at h; simp at h
            | ok ys s3 =>
              rw [h2] at h
              simp only [R.bindN] at h
              cases h3 : lc2Go env tg tg1 it1 elt r s3 with
              | bad => rw [h3] at h; simp at h
              | ex _ _ => rw [h3] at h; simp at h
              | ok _ _ => rw [h3] at h; simp at h
          · cases h
        · cases h
theorem lc2_sound {tg tg1 own : List Nat} {it : S → R (List D)} {it1 elt : S → R Val} {K : PySem.W.Frag} (ho : ∀ i ∈ tg, i ∈ own) (ho1 : ∀ i ∈ tg1, i ∈ own) (σ : L2.St) (H : Hp) (Q : VK)
    (h : tF K RX W (fun s => (it s).bind fun xs s1 => if xs.length < 1000 then (lc2Go (wipeE s1.env own) tg tg1 it1 elt xs s1).bind fun ys s2 => .ok ys { s2 with env := s1.env } else .bad) σ H Q) :
    L2.tLc2 (tI K RX W it) (gT K tg) L2.tYes (L2.iTup K (tE K RX W0 it1)) (gT K tg1) L2.tYes (tE K RX W0 elt) own tg1 σ H Q := by
  obtain ⟨γ, s, R0, p⟩ := h
  refine ⟨γ, s, R0, ?_⟩
  cases hi : it s with
  | bad => simp only [hi, R.bind] at p
  | ex e s' => simp only [hi, R.bind] at p; exact p
  | ok xs s1 =>
    simp only [hi, R.bind] at p
    intro γ1 H1 J st1 R1 wk a ha
    by_cases hl : xs.length < 1000
    · rw [if_pos hl] at p
      cases hg : lc2Go (wipeE s1.env own) tg tg1 it1 elt xs s1 with
      | bad => simp only [hg] at p
      | ex e s' => exact absurd hg lc2Go_noex
      | ok ys s2 =>
        simp only [hg] at p
        have h0 : ¬ Liv H a := fun z => not_liv ha (st1.trk a z)
        have n0 := R1.nil_of (not_liv ha)
        have Iv : ∃ Iv : Nat → Hp → Prop, ∀ i H', Iv i H' ↔ (i ≤ xs.length ∧ ∃ (γ2 : Gh) (si : S) (acc : List D) (vs : List V) (yr : List D), γ2.tm = a :: γ1.tm ∧ Stp γ1 H1 (γ2.wtm γ1.tm) H' ∧ Rel K γ2 { si with env := wipeE s1.env own } (L2.wipe σ own) H' ∧
            H' a = some (.lst vs) ∧ RelDs K γ2 H' acc vs ∧ lc2Go (wipeE s1.env own) tg tg1 it1 elt (xs.drop i) si = .ok yr s2 ∧ ys = acc ++ yr ∧ acc.length ≤ i * 1000) := ⟨_, fun _ _ => Iff.rfl⟩
        obtain ⟨Iv, hIv⟩ := Iv
        refine ⟨fun i m H' => m = xs.length - i ∧ Iv i H', ⟨xs.length, by simp, (hIv _ _).mpr ⟨Nat.zero_le _, γ1.mk1 a, s1, [], [], ys, rfl, Stp.new γ1 ha, (R1.mk1 ha).wipe own, upd_same, .nil, by simpa using hg, rfl, Nat.zero_le _⟩⟩, ?_⟩
        rintro i m H' ⟨rfl, iv⟩
        obtain ⟨hi2, γ2, si, acc, vs, yr, htm, st2, R2, hv, rv, hgo, hy, hac⟩ := (hIv _ _).mp iv
        have sts := st2.sts1 htm (not_liv ha)
        by_cases hlt : i < xs.length
        · -- one more outer turn
          have hx : xs[i]? = some xs[i] := List.getElem?_eq_getElem hlt
          refine .inr ⟨wk.go i γ2 H' sts hlt, Iv (i + 1), fun H'' q => ⟨xs.length - (i + 1), by omega, rfl, q⟩, fun x H3 hyd => ?_⟩
          obtain ⟨hnew, rx⟩ := wk.yld i γ2 H' x H3 xs[i] sts hyd hx
          rw [List.drop_eq_getElem_cons hlt] at hgo
          unfold lc2Go at hgo
          obtain ⟨st3, R3, hv3, rv3⟩ : Stp γ1 H1 (γ2.wtm γ1.tm) H3 ∧ Rel K γ2 { si with env := wipeE s1.env own } (L2.wipe σ own) H3 ∧ H3 a = some (.lst vs) ∧ RelDs K γ2 H3 acc vs := by
            rcases hnew with rfl | ⟨T, o, hT, rfl⟩
            · exact ⟨st2, R2, hv, rv⟩
            · exact ⟨st2.trans ((Stp.new γ2 hT).tmf _), R2.new hT, by rw [upd_ne (L2.ne_of_none hv hT)]; exact hv, RelDs.step (Stp.new γ2 hT).toSts R2.tups _ _ rv⟩
          cases hb : bindTs tg xs[i] { si with env := wipeE s1.env own } with
          | none => rw [hb] at hgo; cases hgo
          | some sb =>
            rw [hb] at hgo
            simp only at hgo
            refine ⟨γ2, _, xs[i], sb, R3, rx, hb, fun σ2 Rb hw => ⟨(hw own ho).trans (wipe_idem σ own), ?_⟩⟩
            simp only [L2.tYes, if_true]
            refine ⟨γ2, sb, Rb, ?_⟩
            cases hc : it1 sb with
            | bad => rw [hc] at hgo; simp at hgo
            | ex _ _ => rw [hc] at hgo; simp at hgo
            | ok v sc =>
              rw [hc] at hgo
              simp only [R.bindN] at hgo
              split at hgo
              case h_2 => cases hgo
              rename_i xs1
              split at hgo
              case isFalse => cases hgo
              rename_i hl1
              cases hg1 : lcGo (wipeE sc.env tg1) tg1 (fun s => .ok true s) elt xs1 sc with
              | bad => rw [hg1] at hgo; simp at hgo
              | ex _ _ => exact absurd hg1 lcGo_noex
              | ok ys1 s3 =>
                rw [hg1] at hgo
                simp only [R.bindN] at hgo
                cases hr : lc2Go (wipeE s1.env own) tg tg1 it1 elt (xs.drop (i + 1)) s3 with
                | bad => rw [hr] at hgo; simp at hgo
                | ex _ _ => rw [hr] at hgo; simp at hgo
                | ok zs s4 =>
                  rw [hr] at hgo
                  simp only [R.bindN] at hgo
                  cases hgo
                  intro γ4 H4 b' st4 R4 rb
                  cases rb with
                  | tup ht rr =>
                    rename_i tA tvs
                    refine ⟨tA, rfl, ⟨tvs, ht⟩, ?_⟩
                    have tma := R3.tm a (by rw [htm]; exact List.mem_cons_self)
                    have hv4 : H4 a = some (.lst vs) := st4.frame a _ hv3 lst_nt (fun z => tma.2.1 z) (fun z => tma.2.2 z)
                    have rv4 := RelDs.step st4.toSts Rb.tups _ _ rv3
                    have htm4 : γ4.tm = a :: γ1.tm := st4.tmE.trans htm
                    have Iw : ∃ Iw : Nat → Hp → Prop, ∀ j H', Iw j H' ↔ (j ≤ xs1.length ∧ ∃ (γ5 : Gh) (sj : S) (ac : List D) (us : List V) (yq : List D), γ5.tm = a :: γ1.tm ∧ Stp γ1 H1 (γ5.wtm γ1.tm) H' ∧ Rel K γ5 { sj with env := wipeE s1.env own } (L2.wipe σ own) H' ∧
                        Rel K γ5 { sj with env := wipeE sc.env tg1 } (L2.wipe σ2 tg1) H' ∧ H' a = some (.lst us) ∧ RelDs K γ5 H' (acc ++ ac) us ∧ RelD K γ5 H' (.tup xs1) (.ref tA) ∧ SqT K H' tA tvs ∧ RelDs K γ5 H' xs1 tvs ∧
                        lcGo (wipeE sc.env tg1) tg1 (fun s => .ok true s) elt (xs1.drop j) sj = .ok yq s3 ∧ ys1 = ac ++ yq ∧ ac.length ≤ j) := ⟨_, fun _ _ => Iff.rfl⟩
                    obtain ⟨Iw, hIw⟩ := Iw
                    refine ⟨fun j k H' => k = xs1.length - j ∧ Iw j H', ⟨xs1.length, by simp, (hIw _ _).mpr ⟨Nat.zero_le _, γ4, sc, [], vs, ys1, htm4, st3.trans (st4.tmf _), R3.back st4 R4, R4.wipe tg1, hv4, by rw [List.append_nil]; exact rv4, .tup ht rr, ht, rr, by simpa using hg1, rfl, Nat.zero_le _⟩⟩, ?_⟩
                    rintro j k H5 ⟨rfl, iw⟩
                    obtain ⟨hj2, γ5, sj, ac, us, yq, htm5, st5, Ro5, R5, hv5, rv5, rt5, ht5, rr5, hgo5, hy5, hac5⟩ := (hIw _ _).mp iw
                    by_cases hjt : j < xs1.length
                    · have hxj : xs1[j]? = some xs1[j] := List.getElem?_eq_getElem hjt
                      have hjv : j < tvs.length := by rw [← relDs_len rr5]; exact hjt
                      refine .inr ⟨⟨tvs, tvs[j], ht5, List.getElem?_eq_getElem hjv⟩, Iw (j + 1), fun H'' q => ⟨xs1.length - (j + 1), by omega, rfl, q⟩, fun x H6 hyd => ?_⟩
                      obtain ⟨rfl, hyf⟩ := hyd
                      have hxv := hyf tvs ht5
                      obtain ⟨w0, hw0, rw0⟩ := relDs_get rr5 hxj
                      rw [hxv] at hw0
                      cases hw0
                      rw [List.drop_eq_getElem_cons hjt] at hgo5
                      unfold lcGo at hgo5
                      cases hb5 : bindTs tg1 xs1[j] { sj with env := wipeE sc.env tg1 } with
                      | none => rw [hb5] at hgo5; cases hgo5
                      | some sd =>
                        rw [hb5] at hgo5
                        simp only [R.bindN, if_true] at hgo5
                        refine ⟨γ5, _, xs1[j], sd, R5, rw0, hb5, fun σ3 Rd hw3 => ⟨(hw3 tg1 fun _ h => h).trans (wipe_idem σ2 tg1), ?_⟩⟩
                        refine ⟨γ5, sd, Rd, ?_⟩
                        cases he : elt sd with
                        | bad => rw [he] at hgo5; simp at hgo5
                        | ex _ _ => rw [he] at hgo5; simp at hgo5
                        | ok v se =>
                          rw [he] at hgo5
                          cases v with
                          | own _ => simp at hgo5
                          | d y =>
                            simp only [R.bindN] at hgo5
                            cases hr6 : lcGo (wipeE sc.env tg1) tg1 (fun s => .ok true s) elt (xs1.drop (j + 1)) se with
                            | bad => rw [hr6] at hgo5; simp at hgo5
                            | ex _ _ => exact absurd hr6 lcGo_noex
                            | ok yr' s' =>
                              rw [hr6] at hgo5
                              simp only [R.bind] at hgo5
                              cases hgo5
                              intro γ7 H7 w st7 R7 rw7
                              have htm7 : γ7.tm = a :: γ1.tm := st7.tmE.trans htm5
                              have tm5 := R5.tm a (by rw [htm5]; exact List.mem_cons_self)
                              have hv7 : H7 a = some (.lst us) := st7.frame a _ hv5 lst_nt (fun z => tm5.2.1 z) (fun z => tm5.2.2 z)
                              have rv7 := RelDs.step st7.toSts R5.tups _ _ rv5
                              have e7 : (γ7.wtm γ1.tm).mk1 a = γ7 := unmk_eq htm7
                              have nt : ∀ zs, H7 a ≠ some (.tup zs) := fun zs => by rw [hv7]; simp
                              have nf : ∀ u zs, H7 a ≠ some (.frz u (.tup zs)) := fun u zs => by rw [hv7]; simp
                              have R7' := R5.back st7 R7
                              have Ro7 := Ro5.back (s' := se) (σ' := σ3) st7 R7
                              have rall : RelDs K γ7 H7 (acc ++ (ac ++ [y])) (us ++ [w]) := by rw [← List.append_assoc]; exact relDs_app rv7 (.cons rw7 .nil)
                              have st8 := st5.trans (st7.tmf _)
                              have h07 : ¬ Liv (γ7.wtm γ1.tm).H0 a := by rw [st8.h0]; exact n0.1
                              have rt7 := RelD.step st7.toSts R5.tups _ _ rt5
                              have rr7 := RelDs.step st7.toSts R5.tups _ _ rr5
                              have ht7 := st7.sqT R5.tups ht5
                              have rt8 : RelD K γ7 (upd H7 a (.lst (us ++ [w]))) (.tup xs1) (.ref tA) := by
                                rw [← e7] at rt7 ⊢
                                exact RelD.setTm nt nf _ _ rt7
                              have ht8 : SqT K (upd H7 a (.lst (us ++ [w]))) tA tvs := by
                                cases rt8 with
                                | tup hq rq =>
                                  rcases ht7 with (q | ⟨o, q⟩) | q
                                  · have ne : tA ≠ a := fun z => by rw [z] at q; exact nt _ q
                                    exact .inl (.inl (by rw [upd_ne ne]; exact q))
                                  · have ne : tA ≠ a := fun z => by rw [z] at q; exact nf _ _ q
                                    exact .inl (.inr ⟨o, by rw [upd_ne ne]; exact q⟩)
                                  · exact .inr q
                              refine ⟨us, hv7, ?_, (hIw _ _).mpr ⟨hjt, γ7, se, ac ++ [y], us ++ [w], yr', htm7, st8.setTm (not_liv ha) (pl_lst hv7), ?_, ?_, upd_same, ?_, rt8, ht8, ?_, hr6, ?_, ?_⟩⟩
                              · have := relDs_len rv7
                                rw [List.length_append] at this
                                have hi9 : i * 1000 ≤ 998 * 1000 := Nat.mul_le_mul_right _ (by omega)
                                rw [PySem.sizeLine_eq]
                                omega
                              · rw [← e7] at Ro7 ⊢
                                exact Ro7.setTm h07 (pl_lst hv7) lst_nt nt nf
                              · rw [← e7] at R7' ⊢
                                exact R7'.setTm h07 (pl_lst hv7) lst_nt nt nf
                              · rw [← e7] at rall ⊢
                                exact RelDs.setTm nt nf _ _ rall
                              · rw [← e7] at rr7 ⊢
                                exact RelDs.setTm nt nf _ _ rr7
                              · rw [hy5, List.append_assoc]; rfl
                              · rw [List.length_append]; simp only [List.length_singleton]; omega
                    · have e : j = xs1.length := by omega
                      subst e
                      rw [List.drop_length] at hgo5
                      simp only [lcGo] at hgo5
                      injection hgo5 with hz1 hz2
                      subst hz1
                      subst hz2
                      rw [List.append_nil] at hy5
                      subst hy5
                      refine .inl ⟨⟨tvs, ht5, by rw [relDs_len rr5]; exact Nat.le_refl _⟩, (hIv _ _).mpr ⟨hlt, γ5, sj, acc ++ ys1, us, zs, htm5, st5, Ro5, hv5, rv5, hr, by rw [hy, List.append_assoc], ?_⟩⟩
                      rw [List.length_append]
                      omega
        · -- the end
          have e : i = xs.length := by omega
          subst e
          refine .inl ⟨wk.stop γ2 H' sts, ?_⟩
          rw [List.drop_length] at hgo
          simp only [lc2Go] at hgo
          cases hgo
          rw [List.append_nil] at hy
          subst hy
          have e2 : (γ2.wtm γ1.tm).mk1 a = γ2 := unmk_eq htm
          refine p (γ2.wtm γ1.tm) H' a vs h0 (st1.trans st2) ?_ (by rw [e2]; exact rv) hv
          rw [e2]
          exact R1.backS (s' := { s2 with env := wipeE s1.env own }) sts st2.pf R2
    · rw [if_neg hl] at p; exact False.elim p
theorem s_lc2 (G : Good P N Γ RX k X W sc) {own tg tg1 : List Nat} {it it1 elt : E} {el tx iter tx1 iter1 : Expr} {scope : Scope} {pos : PySem.Pos}
    (hb : L2.blkC N sc scope (ownP N own) = true) (ho : ∀ i ∈ tg, i ∈ own) (ho1 : ∀ i ∈ tg1, i ∈ own) (ht : tgB N (inh sc scope) tg tx = true) (hset : notSet iter = true) (ht1 : tgB N (inh sc scope) tg1 tx1 = true) (hset1 : notSet iter1 = true)
    (hi : ∀ {X W sc}, Good P N Γ RX k X W sc → ∀ tg x, cI P N it sc tg x = true → PI X tg x (tI X.K RX W (evI Γ it))) (hi2 : cI P N it sc tx iter = true)
    (hc : ∀ {X W sc}, Good P N Γ RX k X W sc → ∀ x, cE P N it1 sc x = true → PE X x (tE X.K RX W (ev Γ it1))) (hc2 : cE P N it1 (inh sc scope) iter1 = true)
    (he : ∀ {X W sc}, Good P N Γ RX k X W sc → ∀ x, cE P N elt sc x = true → PE X x (tE X.K RX W (ev Γ elt))) (he2 : cE P N elt (inh sc scope) el = true) :
    PE X (.ListComp el [⟨tx, iter, [], 0⟩, ⟨tx1, iter1, [], 0⟩] scope pos) (tF X.K RX W (evF Γ (.lc2 own tg it tg1 it1 elt))) := by
  have ok := blk_ok G hb
  have g := fun s H C cl fp => G.blk ok.kind s H C cl fp
  refine weakE (L2.pe_lc2 (vs1 := tg1) (wi1 := L2.iTup X.K (tE X.K RX W0 (ev Γ it1))) (g1 := gT X.K tg1) (tt1 := L2.tYes) G.calm (by rw [G.hN]; exact G.nd) (hi G tx iter hi2) ok (fun i h => by rw [ownP_snd]; exact ho1 i h) (g := gT X.K tg) (tt := L2.tYes) (te := tE X.K RX W0 (ev Γ elt)) (fun s H C cl fp => s_tg (g s H C cl fp) ht) (fun s H C cl fp => L2.pts_nil)
    (fun s H C cl fp => L2.pi_tup (hc (g s H C cl fp) _ hc2)) (fun s H C cl fp => s_tg (g s H C cl fp) ht1) (fun s H C cl fp => L2.pts_nil) (fun s H C cl fp => he (g s H C cl fp) _ he2) (fun x => set_of hset x) (fun env x => set_of hset1 x)) fun σ H Q q => ?_
  rw [ownP_snd]
  refine lc2_sound (own := own) (tg := tg) (it := evI Γ it) (it1 := ev Γ it1) (elt := ev Γ elt) ho ho1 σ H Q ?_
  obtain ⟨γ, s, R, p⟩ := q
  refine ⟨γ, s, R, ?_⟩
  simp only [evF] at p
  exact p
end
end Mp

/-! Mp: every checked code of an expression is sound. -/
namespace Mp
open PySem (Addr Value Expr Str Scope)
open L2 (PE PT PW PA PI PG Cx TE TT TA TI TG WX)
variable [TabT]
theorem weakPTs {X : Cx} {e : List Expr} {t t' : TT} (h : L2.PTs X e t) (w : ∀ σ H Q, t' σ H Q → t σ H Q) : L2.PTs X e t' := ⟨fun ps s σ H Q I q => h.run ps s σ H Q I (w σ H Q q)⟩
theorem weakPK {X : Cx} {e : List PySem.Keyword} {t t' : TA} (h : L2.PK X e t) (w : ∀ σ H Q, t' σ H Q → t σ H Q) : L2.PK X e t' := ⟨fun po ps s σ H Q I q => h.run po ps s σ H Q I (w σ H Q q)⟩
theorem bmOk_of {m : Bm} (h : bmOk m = true) : m = .join ∨ m = .append ∨ m = .pop := by cases m <;> first | exact .inl rfl | exact .inr (.inl rfl) | exact .inr (.inr rfl) | cases h
set_option maxHeartbeats 8000000 in
theorem snd (P : Prg) (N : List Str) (Γ : Callee) (RX : ExRel) (k : Nat) (c : E) : Snd P N Γ RX k c := by
  induction c with
  | cst d  =>
    exact {
    e := fun G x h => by
      cases x with
      | Constant c n pos =>
        simp only [cE] at h
        exact s_cst h
      | _ => cases h
    an := fun _ _ _ h => nomatch h
    or := fun _ _ _ h => nomatch h
    ant := fun _ _ _ h => nomatch h
    ort := fun _ _ _ h => nomatch h
    l := fun _ _ h => nomatch h
    t := fun G x h => by
      cases x with
      | Constant c n pos => exact s_truth rfl (fun s => by simp only [evT]) (s_cst (by simpa only [cT] using h))
      | _ => cases h
    i := fun _ _ h => nomatch h
    f := fun _ _ h => nomatch h
    d := fun _ _ ks vs h => by cases ks <;> cases vs <;> cases h
    dv := fun _ _ ks vs _ _ _ h => by cases ks <;> cases vs <;> cases h
    w := fun _ tg x h => by simp [cI] at h
    kw := fun _ _ h => nomatch h }
  | var i  =>
    exact {
    e := fun G x h => by
      cases x with
      | Name x pos =>
        simp only [cE, Bool.and_eq_true, decide_eq_true_eq] at h
        exact s_var G h.1.1 h.1.2 h.2
      | _ => cases h
    an := fun _ _ _ h => nomatch h
    or := fun _ _ _ h => nomatch h
    ant := fun _ _ _ h => nomatch h
    ort := fun _ _ _ h => nomatch h
    l := fun _ _ h => nomatch h
    t := fun G x h => by
      cases x with
      | Name x pos =>
        simp only [cT, Bool.and_eq_true, decide_eq_true_eq] at h
        exact s_truth rfl (fun s => by simp only [evT]) (s_var G h.1.1 h.1.2 h.2)
      | _ => cases h
    i := fun _ _ h => nomatch h
    f := fun _ _ h => nomatch h
    d := fun _ _ ks vs h => by cases ks <;> cases vs <;> cases h
    dv := fun _ _ ks vs _ _ _ h => by cases ks <;> cases vs <;> cases h
    w := fun _ tg x h => by simp [cI] at h
    kw := fun _ _ h => nomatch h }
  | gc d  =>
    exact {
    e := fun G x h => by
      cases x with
      | Name x pos =>
        simp only [cE, Bool.and_eq_true] at h
        exact s_gc G h.1.1 h.1.2 h.2
      | _ => cases h
    an := fun _ _ _ h => nomatch h
    or := fun _ _ _ h => nomatch h
    ant := fun _ _ _ h => nomatch h
    ort := fun _ _ _ h => nomatch h
    l := fun _ _ h => nomatch h
    t := fun _ _ h => nomatch h
    i := fun _ _ h => nomatch h
    f := fun _ _ h => nomatch h
    d := fun _ _ ks vs h => by cases ks <;> cases vs <;> cases h
    dv := fun _ _ ks vs _ _ _ h => by cases ks <;> cases vs <;> cases h
    w := fun _ tg x h => by simp [cI] at h
    kw := fun _ _ h => nomatch h }
  | tup es ihes =>
    exact {
    e := fun G x h => by
      cases x with
      | Tuple xs n pos =>
        simp only [cE] at h
        exact s_tup (ihes.l G xs h)
      | _ => cases h
    an := fun _ _ _ h => nomatch h
    or := fun _ _ _ h => nomatch h
    ant := fun _ _ _ h => nomatch h
    ort := fun _ _ _ h => nomatch h
    l := fun _ _ h => nomatch h
    t := fun _ _ h => nomatch h
    i := fun _ _ h => nomatch h
    f := fun _ _ h => nomatch h
    d := fun _ _ ks vs h => by cases ks <;> cases vs <;> cases h
    dv := fun _ _ ks vs _ _ _ h => by cases ks <;> cases vs <;> cases h
    w := fun _ tg x h => by simp [cI] at h
    kw := fun _ _ h => nomatch h }
  | fz f ihf =>
    exact {
    e := fun G x h => by
      simp only [cE] at h
      exact s_fz (ihf.f G x h)
    an := fun _ _ _ h => nomatch h
    or := fun _ _ _ h => nomatch h
    ant := fun _ _ _ h => nomatch h
    ort := fun _ _ _ h => nomatch h
    l := fun _ _ h => nomatch h
    t := fun G x h => by
      simp only [cT, Bool.and_eq_true] at h
      exact s_truth h.2 (fun s => by simp only [evT]) (s_fz (ihf.f G x h.1))
    i := fun _ _ h => nomatch h
    f := fun _ _ h => nomatch h
    d := fun _ _ ks vs h => by cases ks <;> cases vs <;> cases h
    dv := fun _ _ ks vs _ _ _ h => by cases ks <;> cases vs <;> cases h
    w := fun _ tg x h => by simp [cI] at h
    kw := fun _ _ h => nomatch h }
  | mk f ihf =>
    exact {
    e := fun G x h => by
      simp only [cE] at h
      exact s_mk (ihf.f G x h)
    an := fun _ _ _ h => nomatch h
    or := fun _ _ _ h => nomatch h
    ant := fun _ _ _ h => nomatch h
    ort := fun _ _ _ h => nomatch h
    l := fun _ _ h => nomatch h
    t := fun _ _ h => nomatch h
    i := fun _ _ h => nomatch h
    f := fun _ _ h => nomatch h
    d := fun _ _ ks vs h => by cases ks <;> cases vs <;> cases h
    dv := fun _ _ ks vs _ _ _ h => by cases ks <;> cases vs <;> cases h
    w := fun _ tg x h => by simp [cI] at h
    kw := fun _ _ h => nomatch h }
  | gl f ihf =>
    exact {
    e := fun G x h => by
      simp only [cE] at h
      exact s_gl (ihf.f G x h)
    an := fun _ _ _ h => nomatch h
    or := fun _ _ _ h => nomatch h
    ant := fun _ _ _ h => nomatch h
    ort := fun _ _ _ h => nomatch h
    l := fun _ _ h => nomatch h
    t := fun _ _ h => nomatch h
    i := fun _ _ h => nomatch h
    f := fun _ _ h => nomatch h
    d := fun _ _ ks vs h => by cases ks <;> cases vs <;> cases h
    dv := fun _ _ ks vs _ _ _ h => by cases ks <;> cases vs <;> cases h
    w := fun _ tg x h => by simp [cI] at h
    kw := fun _ _ h => nomatch h }
  | dct kvs ihkvs =>
    exact {
    e := fun G x h => by
      cases x with
      | Dict ks vs pos =>
        simp only [cE, Bool.and_eq_true, decide_eq_true_eq] at h
        obtain ⟨⟨⟨h1, h2⟩, h3⟩, h4⟩ := h
        exact s_dct h1 h2 h3 h4 (ihkvs.d G pos ks vs h1)
      | _ => cases h
    an := fun _ _ _ h => nomatch h
    or := fun _ _ _ h => nomatch h
    ant := fun _ _ _ h => nomatch h
    ort := fun _ _ _ h => nomatch h
    l := fun _ _ h => nomatch h
    t := fun _ _ h => nomatch h
    i := fun _ _ h => nomatch h
    f := fun _ _ h => nomatch h
    d := fun _ _ ks vs h => by cases ks <;> cases vs <;> cases h
    dv := fun _ _ ks vs _ _ _ h => by cases ks <;> cases vs <;> cases h
    w := fun _ tg x h => by simp [cI] at h
    kw := fun _ _ h => nomatch h }
  | bin op a b iha ihb =>
    exact {
    e := fun G x h => by
      cases x with
      | BinOp l o r pos =>
        simp only [cE, Bool.and_eq_true, decide_eq_true_eq] at h
        obtain ⟨⟨rfl, h1⟩, h2⟩ := h
        exact s_bin (iha.e G l h1) (ihb.e G r h2)
      | _ => cases h
    an := fun _ _ _ h => nomatch h
    or := fun _ _ _ h => nomatch h
    ant := fun _ _ _ h => nomatch h
    ort := fun _ _ _ h => nomatch h
    l := fun _ _ h => nomatch h
    t := fun _ _ h => nomatch h
    i := fun _ _ h => nomatch h
    f := fun _ _ h => nomatch h
    d := fun _ _ ks vs h => by cases ks <;> cases vs <;> cases h
    dv := fun _ _ ks vs _ _ _ h => by cases ks <;> cases vs <;> cases h
    w := fun _ tg x h => by simp [cI] at h
    kw := fun _ _ h => nomatch h }
  | cmp op a b iha ihb =>
    exact {
    e := fun G x h => by
      cases x with
      | Compare l os cs pos =>
        match os, cs, h with
        | [o], [r], h =>
          simp only [cE, Bool.and_eq_true, decide_eq_true_eq, Bool.not_eq_true'] at h
          obtain ⟨⟨⟨rfl, hm⟩, h1⟩, h2⟩ := h
          exact s_cmp G.hu hm (iha.e G l h1) (ihb.e G r h2)
      | _ => cases h
    an := fun _ _ _ h => nomatch h
    or := fun _ _ _ h => nomatch h
    ant := fun _ _ _ h => nomatch h
    ort := fun _ _ _ h => nomatch h
    l := fun _ _ h => nomatch h
    t := fun G x h => by
      cases x with
      | Compare l os cs pos =>
        match os, cs, h with
        | [o], [r], h =>
          simp only [cT, Bool.and_eq_true, decide_eq_true_eq, Bool.not_eq_true'] at h
          obtain ⟨⟨⟨rfl, hm⟩, h1⟩, h2⟩ := h
          exact s_cmpT G.hu hm (iha.e G l h1) (ihb.e G r h2)
      | _ => cases h
    i := fun _ _ h => nomatch h
    f := fun _ _ h => nomatch h
    d := fun _ _ ks vs h => by cases ks <;> cases vs <;> cases h
    dv := fun _ _ ks vs _ _ _ h => by cases ks <;> cases vs <;> cases h
    w := fun _ tg x h => by simp [cI] at h
    kw := fun _ _ h => nomatch h }
  | chain o1 o2 a b c iha ihb ihc =>
    exact {
    e := fun G x h => by
      cases x with
      | Compare l os cs pos =>
        match os, cs, h with
        | [p1, p2], [m, r], h =>
          simp only [cE, Bool.and_eq_true, decide_eq_true_eq, Bool.not_eq_true'] at h
          obtain ⟨⟨⟨⟨⟨rfl, rfl⟩, hm⟩, h1⟩, h2⟩, h3⟩ := h
          exact s_chain G.hu hm (iha.e G l h1) (ihb.e G m h2) (ihc.e G r h3)
      | _ => cases h
    an := fun _ _ _ h => nomatch h
    or := fun _ _ _ h => nomatch h
    ant := fun _ _ _ h => nomatch h
    ort := fun _ _ _ h => nomatch h
    l := fun _ _ h => nomatch h
    t := fun G x h => by
      cases x with
      | Compare l os cs pos =>
        match os, cs, h with
        | [p1, p2], [m, r], h =>
          simp only [cT, Bool.and_eq_true, decide_eq_true_eq, Bool.not_eq_true'] at h
          obtain ⟨⟨⟨⟨⟨rfl, rfl⟩, hm⟩, h1⟩, h2⟩, h3⟩ := h
          exact s_chainT G.hu hm (iha.e G l h1) (ihb.e G m h2) (ihc.e G r h3)
      | _ => cases h
    i := fun _ _ h => nomatch h
    f := fun _ _ h => nomatch h
    d := fun _ _ ks vs h => by cases ks <;> cases vs <;> cases h
    dv := fun _ _ ks vs _ _ _ h => by cases ks <;> cases vs <;> cases h
    w := fun _ tg x h => by simp [cI] at h
    kw := fun _ _ h => nomatch h }
  | and_ a b iha ihb =>
    exact {
    e := fun G x h => by
      cases x with
      | BoolOp op vs pos =>
        cases op with
        | Or => cases h
        | And =>
          match vs, h with
          | x :: y :: r, h =>
            simp only [cE, Bool.and_eq_true] at h
            cases r with
            | nil => exact s_and (iha.e G x h.1) (L2.pe_one (ihb.e G y h.2))
            | cons z r => exact s_and (iha.e G x h.1) (ihb.an G (y :: z :: r) pos h.2)
      | _ => cases h
    an := fun G xs pos h => by
      match xs, h with
      | x :: y :: r, h =>
        simp only [cAnd, Bool.and_eq_true] at h
        cases r with
        | nil => exact s_and (iha.e G x h.1) (L2.pe_one (ihb.e G y h.2))
        | cons z r => exact s_and (iha.e G x h.1) (ihb.an G (y :: z :: r) pos h.2)
    or := fun _ _ _ h => nomatch h
    ant := fun G xs pos h => by
      match xs, h with
      | x :: y :: r, h =>
        simp only [cAndT, Bool.and_eq_true] at h
        cases r with
        | nil => exact s_andT (iha.t G x h.1) (L2.pw_and1 (ihb.t G y h.2))
        | cons z r => exact s_andT (iha.t G x h.1) (ihb.ant G (y :: z :: r) pos h.2)
    ort := fun _ _ _ h => nomatch h
    l := fun _ _ h => nomatch h
    t := fun G x h => by
      cases x with
      | BoolOp op vs pos =>
        cases op with
        | Or => cases h
        | And =>
          match vs, h with
          | x :: y :: r, h =>
            simp only [cT, Bool.and_eq_true] at h
            cases r with
            | nil => exact (s_andT (iha.t G x h.1) (L2.pw_and1 (ihb.t G y h.2))).pt
            | cons z r => exact (s_andT (iha.t G x h.1) (ihb.ant G (y :: z :: r) pos h.2)).pt
      | _ => cases h
    i := fun _ _ h => nomatch h
    f := fun _ _ h => nomatch h
    d := fun _ _ ks vs h => by cases ks <;> cases vs <;> cases h
    dv := fun _ _ ks vs _ _ _ h => by cases ks <;> cases vs <;> cases h
    w := fun _ tg x h => by simp [cI] at h
    kw := fun _ _ h => nomatch h }
  | or_ a b iha ihb =>
    exact {
    e := fun G x h => by
      cases x with
      | BoolOp op vs pos =>
        cases op with
        | And => cases h
        | Or =>
          match vs, h with
          | x :: y :: r, h =>
            simp only [cE, Bool.and_eq_true] at h
            cases r with
            | nil => exact s_or (iha.e G x h.1) (L2.pe_one (ihb.e G y h.2))
            | cons z r => exact s_or (iha.e G x h.1) (ihb.or G (y :: z :: r) pos h.2)
      | _ => cases h
    an := fun _ _ _ h => nomatch h
    or := fun G xs pos h => by
      match xs, h with
      | x :: y :: r, h =>
        simp only [cOr, Bool.and_eq_true] at h
        cases r with
        | nil => exact s_or (iha.e G x h.1) (L2.pe_one (ihb.e G y h.2))
        | cons z r => exact s_or (iha.e G x h.1) (ihb.or G (y :: z :: r) pos h.2)
    ant := fun _ _ _ h => nomatch h
    ort := fun G xs pos h => by
      match xs, h with
      | x :: y :: r, h =>
        simp only [cOrT, Bool.and_eq_true] at h
        cases r with
        | nil => exact s_orT (iha.t G x h.1) (L2.pw_or1 (ihb.t G y h.2))
        | cons z r => exact s_orT (iha.t G x h.1) (ihb.ort G (y :: z :: r) pos h.2)
    l := fun _ _ h => nomatch h
    t := fun G x h => by
      cases x with
      | BoolOp op vs pos =>
        cases op with
        | And => cases h
        | Or =>
          match vs, h with
          | x :: y :: r, h =>
            simp only [cT, Bool.and_eq_true] at h
            cases r with
            | nil => exact (s_orT (iha.t G x h.1) (L2.pw_or1 (ihb.t G y h.2))).pt
            | cons z r => exact (s_orT (iha.t G x h.1) (ihb.ort G (y :: z :: r) pos h.2)).pt
      | _ => cases h
    i := fun _ _ h => nomatch h
    f := fun _ _ h => nomatch h
    d := fun _ _ ks vs h => by cases ks <;> cases vs <;> cases h
    dv := fun _ _ ks vs _ _ _ h => by cases ks <;> cases vs <;> cases h
    w := fun _ tg x h => by simp [cI] at h
    kw := fun _ _ h => nomatch h }
  | not_ a iha =>
    exact {
    e := fun G x h => by
      cases x with
      | UnaryOp op y pos =>
        cases op with
        | Not =>
          simp only [cE] at h
          exact s_not (iha.e G y h)
        | _ => cases h
      | _ => cases h
    an := fun _ _ _ h => nomatch h
    or := fun _ _ _ h => nomatch h
    ant := fun _ _ _ h => nomatch h
    ort := fun _ _ _ h => nomatch h
    l := fun _ _ h => nomatch h
    t := fun G x h => by
      cases x with
      | UnaryOp op y pos =>
        cases op with
        | Not =>
          simp only [cT] at h
          exact s_notT (iha.t G y h)
        | _ => cases h
      | _ => cases h
    i := fun _ _ h => nomatch h
    f := fun _ _ h => nomatch h
    d := fun _ _ ks vs h => by cases ks <;> cases vs <;> cases h
    dv := fun _ _ ks vs _ _ _ h => by cases ks <;> cases vs <;> cases h
    w := fun _ tg x h => by simp [cI] at h
    kw := fun _ _ h => nomatch h }
  | ife t a b iht iha ihb =>
    exact {
    e := fun G x h => by
      cases x with
      | IfExp c y z pos =>
        simp only [cE, Bool.and_eq_true] at h
        exact s_ife (iht.t G c h.1.1) (iha.e G y h.1.2) (ihb.e G z h.2)
      | _ => cases h
    an := fun _ _ _ h => nomatch h
    or := fun _ _ _ h => nomatch h
    ant := fun _ _ _ h => nomatch h
    ort := fun _ _ _ h => nomatch h
    l := fun _ _ h => nomatch h
    t := fun _ _ h => nomatch h
    i := fun _ _ h => nomatch h
    f := fun _ _ h => nomatch h
    d := fun _ _ ks vs h => by cases ks <;> cases vs <;> cases h
    dv := fun _ _ ks vs _ _ _ h => by cases ks <;> cases vs <;> cases h
    w := fun _ tg x h => by simp [cI] at h
    kw := fun _ _ h => nomatch h }
  | neg a iha =>
    exact {
    e := fun G x h => by
      cases x with
      | UnaryOp op y pos =>
        cases op with
        | USub =>
          simp only [cE] at h
          exact s_neg (iha.e G y h)
        | _ => cases h
      | _ => cases h
    an := fun _ _ _ h => nomatch h
    or := fun _ _ _ h => nomatch h
    ant := fun _ _ _ h => nomatch h
    ort := fun _ _ _ h => nomatch h
    l := fun _ _ h => nomatch h
    t := fun _ _ h => nomatch h
    i := fun _ _ h => nomatch h
    f := fun _ _ h => nomatch h
    d := fun _ _ ks vs h => by cases ks <;> cases vs <;> cases h
    dv := fun _ _ ks vs _ _ _ h => by cases ks <;> cases vs <;> cases h
    w := fun _ tg x h => by simp [cI] at h
    kw := fun _ _ h => nomatch h }
  | sub a i iha ihi =>
    exact {
    e := fun G x h => by
      cases x with
      | Subscript y z pos =>
        simp only [cE, Bool.and_eq_true] at h
        exact s_sub h.2 (iha.e G y h.1.1) (ihi.e G z h.1.2)
      | _ => cases h
    an := fun _ _ _ h => nomatch h
    or := fun _ _ _ h => nomatch h
    ant := fun _ _ _ h => nomatch h
    ort := fun _ _ _ h => nomatch h
    l := fun _ _ h => nomatch h
    t := fun G x h => by
      cases x with
      | Subscript y z pos =>
        simp only [cT, Bool.and_eq_true] at h
        exact s_truth rfl (fun s => by simp only [evT]) (s_sub h.2 (iha.e G y h.1.1) (ihi.e G z h.1.2))
      | _ => cases h
    i := fun _ _ h => nomatch h
    f := fun _ _ h => nomatch h
    d := fun _ _ ks vs h => by cases ks <;> cases vs <;> cases h
    dv := fun _ _ ks vs _ _ _ h => by cases ks <;> cases vs <;> cases h
    w := fun _ tg x h => by simp [cI] at h
    kw := fun _ _ h => nomatch h }
  | call f es ihes =>
    exact {
    e := fun G x h => by
      cases x with
      | Call f args kws pos =>
        match f, args, kws, h with
        | .Name x p, args, [], h =>
          simp only [cE, Bool.and_eq_true, decide_eq_true_eq] at h
          obtain ⟨⟨⟨⟨h1, h2⟩, h3⟩, h4⟩, h5⟩ := h
          exact s_call G h1 h2 h3 h4 h5 (ihes.l G args h5)
      | _ => cases h
    an := fun _ _ _ h => nomatch h
    or := fun _ _ _ h => nomatch h
    ant := fun _ _ _ h => nomatch h
    ort := fun _ _ _ h => nomatch h
    l := fun _ _ h => nomatch h
    t := fun G x h => by
      cases x with
      | Call f args kws pos =>
        match f, args, kws, h with
        | .Name x p, args, [], h =>
          simp only [cT, Bool.and_eq_true, decide_eq_true_eq] at h
          obtain ⟨⟨⟨⟨h1, h2⟩, h3⟩, h4⟩, h5⟩ := h
          exact s_truth rfl (fun s => by simp only [evT]) (s_call G h1 h2 h3 h4 h5 (ihes.l G args h5))
      | _ => cases h
    i := fun _ _ h => nomatch h
    f := fun _ _ h => nomatch h
    d := fun _ _ ks vs h => by cases ks <;> cases vs <;> cases h
    dv := fun _ _ ks vs _ _ _ h => by cases ks <;> cases vs <;> cases h
    w := fun _ tg x h => by simp [cI] at h
    kw := fun _ _ h => nomatch h }
  | bm m a es iha ihes =>
    exact {
    e := fun G x h => by
      cases x with
      | Call f args kws pos =>
        match f, args, kws, h with
        | .Attribute o nm ap, y :: ys, [], h =>
          simp only [cE, Bool.and_eq_true, decide_eq_true_eq] at h
          obtain ⟨⟨⟨⟨⟨⟨rfl, h0⟩, h2⟩, h3⟩, h4⟩, h5⟩, h6⟩ := h
          exact s_bm G (bmOk_of h0) h3 h4 h5 h6 (iha.e G o h2) (ihes.l G (y :: ys) h3)
      | _ => cases h
    an := fun _ _ _ h => nomatch h
    or := fun _ _ _ h => nomatch h
    ant := fun _ _ _ h => nomatch h
    ort := fun _ _ _ h => nomatch h
    l := fun _ _ h => nomatch h
    t := fun G x h => by
      cases x with
      | Call f args kws pos =>
        match f, args, kws, h with
        | .Attribute o nm ap, y :: ys, [], h =>
          simp only [cT, Bool.and_eq_true, decide_eq_true_eq] at h
          obtain ⟨⟨⟨⟨⟨⟨rfl, h0⟩, h2⟩, h3⟩, h4⟩, h5⟩, h6⟩ := h
          exact s_truth rfl (fun s => by simp only [evT]) (s_bm G (bmOk_of h0) h3 h4 h5 h6 (iha.e G o h2) (ihes.l G (y :: ys) h3))
      | _ => cases h
    i := fun _ _ h => nomatch h
    f := fun _ _ h => nomatch h
    d := fun _ _ ks vs h => by cases ks <;> cases vs <;> cases h
    dv := fun _ _ ks vs _ _ _ h => by cases ks <;> cases vs <;> cases h
    w := fun _ tg x h => by simp [cI] at h
    kw := fun _ _ h => nomatch h }
  | bf b es ihes =>
    exact {
    e := fun G x h => by
      cases x with
      | Call f args kws pos =>
        match f, args, kws, h with
        | .Name x p, y :: ys, [], h =>
          simp only [cE, Bool.and_eq_true, decide_eq_true_eq] at h
          obtain ⟨⟨rfl, h2⟩, h3⟩ := h
          exact s_bf G h2 h3 (ihes.l G (y :: ys) h3)
      | _ => cases h
    an := fun _ _ _ h => nomatch h
    or := fun _ _ _ h => nomatch h
    ant := fun _ _ _ h => nomatch h
    ort := fun _ _ _ h => nomatch h
    l := fun _ _ h => nomatch h
    t := fun G x h => by
      cases x with
      | Call f args kws pos =>
        match f, args, kws, h with
        | .Name x p, y :: ys, [], h =>
          simp only [cT, Bool.and_eq_true, decide_eq_true_eq] at h
          obtain ⟨⟨rfl, h2⟩, h3⟩ := h
          exact s_truth rfl (fun s => by simp only [evT]) (s_bf G h2 h3 (ihes.l G (y :: ys) h3))
      | _ => cases h
    i := fun _ _ h => nomatch h
    f := fun _ _ h => nomatch h
    d := fun _ _ ks vs h => by cases ks <;> cases vs <;> cases h
    dv := fun _ _ ks vs _ _ _ h => by cases ks <;> cases vs <;> cases h
    w := fun _ tg x h => by simp [cI] at h
    kw := fun _ _ h => nomatch h }
  | isi cs a t iha =>
    exact {
    e := fun G x h => by
      cases x with
      | Call f args kws pos =>
        match f, args, kws, h with
        | .Name x p, [y, .Name z p2], [], h =>
          simp only [cE, Bool.and_eq_true, decide_eq_true_eq] at h
          obtain ⟨⟨⟨⟨⟨⟨⟨h0, rfl⟩, h2⟩, rfl⟩, h3⟩, h4⟩, h5⟩, h6⟩ := h
          exact s_isi G h2 h3 h4 h5 h0 (iha.e G y h6)
      | _ => cases h
    an := fun _ _ _ h => nomatch h
    or := fun _ _ _ h => nomatch h
    ant := fun _ _ _ h => nomatch h
    ort := fun _ _ _ h => nomatch h
    l := fun _ _ h => nomatch h
    t := fun G x h => by
      cases x with
      | Call f args kws pos =>
        match f, args, kws, h with
        | .Name x p, [y, .Name z p2], [], h =>
          simp only [cT, Bool.and_eq_true, decide_eq_true_eq] at h
          obtain ⟨⟨⟨⟨⟨⟨⟨h0, rfl⟩, h2⟩, rfl⟩, h3⟩, h4⟩, h5⟩, h6⟩ := h
          exact s_truth rfl (fun s => by simp only [evT]) (s_isi G h2 h3 h4 h5 h0 (iha.e G y h6))
      | _ => cases h
    i := fun _ _ h => nomatch h
    f := fun _ _ h => nomatch h
    d := fun _ _ ks vs h => by cases ks <;> cases vs <;> cases h
    dv := fun _ _ ks vs _ _ _ h => by cases ks <;> cases vs <;> cases h
    w := fun _ tg x h => by simp [cI] at h
    kw := fun _ _ h => nomatch h }
  | lst es ihes =>
    exact {
    e := fun _ _ h => nomatch h
    an := fun _ _ _ h => nomatch h
    or := fun _ _ _ h => nomatch h
    ant := fun _ _ _ h => nomatch h
    ort := fun _ _ _ h => nomatch h
    l := fun _ _ h => nomatch h
    t := fun _ _ h => nomatch h
    i := fun _ _ h => nomatch h
    f := fun G x h => by
      cases x with
      | List xs pos =>
        simp only [cF] at h
        exact s_lst (ihes.l G xs h)
      | _ => cases h
    d := fun _ _ ks vs h => by cases ks <;> cases vs <;> cases h
    dv := fun _ _ ks vs _ _ _ h => by cases ks <;> cases vs <;> cases h
    w := fun _ tg x h => by simp [cI] at h
    kw := fun _ _ h => nomatch h }
  | lc own tg it cnd elt ihit ihcnd ihelt =>
    exact {
    e := fun _ _ h => nomatch h
    an := fun _ _ _ h => nomatch h
    or := fun _ _ _ h => nomatch h
    ant := fun _ _ _ h => nomatch h
    ort := fun _ _ _ h => nomatch h
    l := fun _ _ h => nomatch h
    t := fun _ _ h => nomatch h
    i := fun _ _ h => nomatch h
    f := fun G x h => by
      cases x with
      | ListComp el gs scope pos =>
        match gs, h with
        | [⟨tx, iter, ifs, 0⟩], h =>
          simp only [cF, Bool.and_eq_true, List.all_eq_true, decide_eq_true_eq] at h
          obtain ⟨⟨⟨⟨⟨⟨⟨h1, h2⟩, h3⟩, h4⟩, h5⟩, h6⟩, h7⟩, h8⟩ := h
          exact s_lc G h1 h2 h4 h6 (fun G tg x => ihit.w G tg x) h5 (fun G x => ihcnd.i G x) h7 (fun G x => ihelt.e G x) h8
      | _ => cases h
    d := fun _ _ ks vs h => by cases ks <;> cases vs <;> cases h
    dv := fun _ _ ks vs _ _ _ h => by cases ks <;> cases vs <;> cases h
    w := fun _ tg x h => by simp [cI] at h
    kw := fun _ _ h => nomatch h }
  | lof e ihe =>
    exact {
    e := fun _ _ h => nomatch h
    an := fun _ _ _ h => nomatch h
    or := fun _ _ _ h => nomatch h
    ant := fun _ _ _ h => nomatch h
    ort := fun _ _ _ h => nomatch h
    l := fun _ _ h => nomatch h
    t := fun _ _ h => nomatch h
    i := fun _ _ h => nomatch h
    f := fun G x h => by
      cases x with
      | Call f args kws pos =>
        match f, args, kws, h with
        | .Name x p, [y], [], h =>
          simp only [cF, Bool.and_eq_true, decide_eq_true_eq] at h
          obtain ⟨⟨⟨rfl, h2⟩, h3⟩, h4⟩ := h
          exact s_lof G h2 h3 (ihe.e G y h4)
      | _ => cases h
    d := fun _ _ ks vs h => by cases ks <;> cases vs <;> cases h
    dv := fun _ _ ks vs _ _ _ h => by cases ks <;> cases vs <;> cases h
    w := fun _ tg x h => by simp [cI] at h
    kw := fun _ _ h => nomatch h }
  | cat a b iha ihb =>
    exact {
    e := fun _ _ h => nomatch h
    an := fun _ _ _ h => nomatch h
    or := fun _ _ _ h => nomatch h
    ant := fun _ _ _ h => nomatch h
    ort := fun _ _ _ h => nomatch h
    l := fun _ _ h => nomatch h
    t := fun _ _ h => nomatch h
    i := fun _ _ h => nomatch h
    f := fun G x h => by
      cases x with
      | BinOp l o r pos =>
        simp only [cF, Bool.and_eq_true, decide_eq_true_eq] at h
        obtain ⟨⟨rfl, h1⟩, h2⟩ := h
        exact s_cat (iha.e G l h1) (ihb.e G r h2)
      | _ => cases h
    d := fun _ _ ks vs h => by cases ks <;> cases vs <;> cases h
    dv := fun _ _ ks vs _ _ _ h => by cases ks <;> cases vs <;> cases h
    w := fun _ tg x h => by simp [cI] at h
    kw := fun _ _ h => nomatch h }
  | it e ihe =>
    exact {
    e := fun _ _ h => nomatch h
    an := fun _ _ _ h => nomatch h
    or := fun _ _ _ h => nomatch h
    ant := fun _ _ _ h => nomatch h
    ort := fun _ _ _ h => nomatch h
    l := fun _ _ h => nomatch h
    t := fun _ _ h => nomatch h
    i := fun _ _ h => nomatch h
    f := fun _ _ h => nomatch h
    d := fun _ _ ks vs h => by cases ks <;> cases vs <;> cases h
    dv := fun _ _ ks vs _ _ _ h => by cases ks <;> cases vs <;> cases h
    w := fun G tg x h => by
      simp only [cI] at h
      exact s_it (ihe.e G x h)
    kw := fun _ _ h => nomatch h }
  | rng es ihes =>
    exact {
    e := fun _ _ h => nomatch h
    an := fun _ _ _ h => nomatch h
    or := fun _ _ _ h => nomatch h
    ant := fun _ _ _ h => nomatch h
    ort := fun _ _ _ h => nomatch h
    l := fun _ _ h => nomatch h
    t := fun _ _ h => nomatch h
    i := fun _ _ h => nomatch h
    f := fun _ _ h => nomatch h
    d := fun _ _ ks vs h => by cases ks <;> cases vs <;> cases h
    dv := fun _ _ ks vs _ _ _ h => by cases ks <;> cases vs <;> cases h
    w := fun G tg x h => by
      cases x with
      | Call f args kws pos =>
        match f, kws, h with
        | .Name x p, [], h =>
          simp only [cI, Bool.and_eq_true, decide_eq_true_eq] at h
          obtain ⟨⟨⟨rfl, h2⟩, h3⟩, h4⟩ := h
          refine s_rng G h2 h3 ?_ (ihes.l G args h3)
          match args, h4 with
          | [a], _ => exact .inl ⟨a, rfl⟩
          | [a, b], _ => exact .inr ⟨a, b, rfl⟩
      | _ => simp [cI] at h
    kw := fun _ _ h => nomatch h }
  | zip es ihes =>
    exact {
    e := fun _ _ h => nomatch h
    an := fun _ _ _ h => nomatch h
    or := fun _ _ _ h => nomatch h
    ant := fun _ _ _ h => nomatch h
    ort := fun _ _ _ h => nomatch h
    l := fun _ _ h => nomatch h
    t := fun _ _ h => nomatch h
    i := fun _ _ h => nomatch h
    f := fun _ _ h => nomatch h
    d := fun _ _ ks vs h => by cases ks <;> cases vs <;> cases h
    dv := fun _ _ ks vs _ _ _ h => by cases ks <;> cases vs <;> cases h
    w := fun G tg x h => by
      cases tg with
      | Tuple elts kk tpos =>
        cases x with
        | Call f args kws pos =>
          match f, kws, h with
          | .Name x p, [], h =>
            simp only [cI, Bool.and_eq_true, decide_eq_true_eq] at h
            obtain ⟨⟨⟨rfl, h2⟩, h3⟩, h4⟩ := h
            match args, h3, h4 with
            | [a, b], h3, _ => exact s_zip G h2 h3 (ihes.l G _ h3)
        | _ => cases h
      | _ => simp [cI] at h
    kw := fun _ _ h => nomatch h }
  | enm es ihes =>
    exact {
    e := fun _ _ h => nomatch h
    an := fun _ _ _ h => nomatch h
    or := fun _ _ _ h => nomatch h
    ant := fun _ _ _ h => nomatch h
    ort := fun _ _ _ h => nomatch h
    l := fun _ _ h => nomatch h
    t := fun _ _ h => nomatch h
    i := fun _ _ h => nomatch h
    f := fun _ _ h => nomatch h
    d := fun _ _ ks vs h => by cases ks <;> cases vs <;> cases h
    dv := fun _ _ ks vs _ _ _ h => by cases ks <;> cases vs <;> cases h
    w := fun G tg x h => by
      cases tg with
      | Tuple elts kk tpos =>
        cases x with
        | Call f args kws pos =>
          match f, kws, h with
          | .Name x p, [], h =>
            simp only [cI, Bool.and_eq_true, decide_eq_true_eq] at h
            obtain ⟨⟨⟨rfl, h2⟩, h3⟩, h4⟩ := h
            match args, h3, h4 with
            | [a], h3, _ => exact s_enm G h2 h3 (ihes.l G _ h3)
        | _ => cases h
      | _ => simp [cI] at h
    kw := fun _ _ h => nomatch h }
  | sl a lo hi iha ihlo ihhi =>
    exact {
    e := fun G x h => by
      cases x with
      | Subscript y z pos =>
        match z, h with
        | .Slice l u none p2, h =>
          simp only [cE, Bool.and_eq_true] at h
          refine s_sl (iha.e G y h.1.1) ?_ ?_
          · cases l with
            | none =>
              cases lo with
              | nil => exact s_onone
              | _ => cases h.1.2
            | some y => exact s_osome (fun z => by subst z; cases h.1.2) (ihlo.e G y h.1.2)
          · cases u with
            | none =>
              cases hi with
              | nil => exact s_onone
              | _ => cases h.2
            | some y => exact s_osome (fun z => by subst z; cases h.2) (ihhi.e G y h.2)
      | _ => cases h
    an := fun _ _ _ h => nomatch h
    or := fun _ _ _ h => nomatch h
    ant := fun _ _ _ h => nomatch h
    ort := fun _ _ _ h => nomatch h
    l := fun _ _ h => nomatch h
    t := fun _ _ h => nomatch h
    i := fun _ _ h => nomatch h
    f := fun _ _ h => nomatch h
    d := fun _ _ ks vs h => by cases ks <;> cases vs <;> cases h
    dv := fun _ _ ks vs _ _ _ h => by cases ks <;> cases vs <;> cases h
    w := fun _ tg x h => by simp [cI] at h
    kw := fun _ _ h => nomatch h }
  | att cs f a iha =>
    exact {
    e := fun G x h => by
      cases x with
      | Attribute y nm pos =>
        simp only [cE, Bool.and_eq_true, decide_eq_true_eq] at h
        obtain ⟨⟨⟨rfl, h1⟩, h2⟩, h3⟩ := h
        exact s_att G h1 h2 (iha.e G y h3)
      | _ => cases h
    an := fun _ _ _ h => nomatch h
    or := fun _ _ _ h => nomatch h
    ant := fun _ _ _ h => nomatch h
    ort := fun _ _ _ h => nomatch h
    l := fun _ _ h => nomatch h
    t := fun _ _ h => nomatch h
    i := fun _ _ h => nomatch h
    f := fun _ _ h => nomatch h
    d := fun _ _ ks vs h => by cases ks <;> cases vs <;> cases h
    dv := fun _ _ ks vs _ _ _ h => by cases ks <;> cases vs <;> cases h
    w := fun _ tg x h => by simp [cI] at h
    kw := fun _ _ h => nomatch h }
  | prp tab f a iha =>
    exact {
    e := fun G x h => by
      cases x with
      | Attribute y nm pos =>
        simp only [cE, Bool.and_eq_true, decide_eq_true_eq] at h
        obtain ⟨⟨⟨rfl, h1⟩, h2⟩, h3⟩ := h
        exact s_prp G h1 h2 (iha.e G y h3)
      | _ => cases h
    an := fun _ _ _ h => nomatch h
    or := fun _ _ _ h => nomatch h
    ant := fun _ _ _ h => nomatch h
    ort := fun _ _ _ h => nomatch h
    l := fun _ _ h => nomatch h
    t := fun _ _ h => nomatch h
    i := fun _ _ h => nomatch h
    f := fun _ _ h => nomatch h
    d := fun _ _ ks vs h => by cases ks <;> cases vs <;> cases h
    dv := fun _ _ ks vs _ _ _ h => by cases ks <;> cases vs <;> cases h
    w := fun _ tg x h => by simp [cI] at h
    kw := fun _ _ h => nomatch h }
  | um tab m a es iha ihes =>
    exact {
    e := fun G x h => by
      cases x with
      | Call f args kws pos =>
        match f, kws, h with
        | .Attribute o nm ap, [], h =>
          simp only [cE, Bool.and_eq_true, decide_eq_true_eq] at h
          obtain ⟨⟨⟨⟨⟨⟨rfl, h1⟩, h2⟩, h3⟩, h4⟩, h5⟩, h6⟩ := h
          exact s_um G h1 h2 h3 h4 h6 (iha.e G o h5) (ihes.l G args h6)
      | _ => cases h
    an := fun _ _ _ h => nomatch h
    or := fun _ _ _ h => nomatch h
    ant := fun _ _ _ h => nomatch h
    ort := fun _ _ _ h => nomatch h
    l := fun _ _ h => nomatch h
    t := fun _ _ h => nomatch h
    i := fun _ _ h => nomatch h
    f := fun _ _ h => nomatch h
    d := fun _ _ ks vs h => by cases ks <;> cases vs <;> cases h
    dv := fun _ _ ks vs _ _ _ h => by cases ks <;> cases vs <;> cases h
    w := fun _ tg x h => by simp [cI] at h
    kw := fun _ _ h => nomatch h }
  | nw c f es ihes =>
    exact {
    e := fun G x h => by
      cases x with
      | Call f args kws pos =>
        match f, args, kws, h with
        | .Name x p, args, [], h =>
          simp only [cE, Bool.and_eq_true, decide_eq_true_eq] at h
          obtain ⟨⟨⟨⟨rfl, h2⟩, h3⟩, h4⟩, h5⟩ := h
          exact s_nw G h2 h3 h4 h5 (ihes.l G args h5)
      | _ => cases h
    an := fun _ _ _ h => nomatch h
    or := fun _ _ _ h => nomatch h
    ant := fun _ _ _ h => nomatch h
    ort := fun _ _ _ h => nomatch h
    l := fun _ _ h => nomatch h
    t := fun _ _ h => nomatch h
    i := fun _ _ h => nomatch h
    f := fun _ _ h => nomatch h
    d := fun _ _ ks vs h => by cases ks <;> cases vs <;> cases h
    dv := fun _ _ ks vs _ _ _ h => by cases ks <;> cases vs <;> cases h
    w := fun _ tg x h => by simp [cI] at h
    kw := fun _ _ h => nomatch h }
  | rev a iha =>
    exact {
    e := fun G x h => by
      cases x with
      | Subscript y z pos =>
        match z, h with
        | .Slice none none (some st) p2, h =>
          simp only [cE, Bool.and_eq_true] at h
          exact s_rev h.2 (iha.e G y h.1)
      | _ => cases h
    an := fun _ _ _ h => nomatch h
    or := fun _ _ _ h => nomatch h
    ant := fun _ _ _ h => nomatch h
    ort := fun _ _ _ h => nomatch h
    l := fun _ _ h => nomatch h
    t := fun _ _ h => nomatch h
    i := fun _ _ h => nomatch h
    f := fun _ _ h => nomatch h
    d := fun _ _ ks vs h => by cases ks <;> cases vs <;> cases h
    dv := fun _ _ ks vs _ _ _ h => by cases ks <;> cases vs <;> cases h
    w := fun _ tg x h => by simp [cI] at h
    kw := fun _ _ h => nomatch h }
  | tupS a es iha ihes =>
    exact {
    e := fun G x h => by
      cases x with
      | Tuple xs n pos =>
        match xs, h with
        | .Starred y p1 :: ys, h =>
          simp only [cE, Bool.and_eq_true] at h
          exact s_tupS (iha.e G y h.1) (ihes.l G ys h.2)
      | _ => cases h
    an := fun _ _ _ h => nomatch h
    or := fun _ _ _ h => nomatch h
    ant := fun _ _ _ h => nomatch h
    ort := fun _ _ _ h => nomatch h
    l := fun _ _ h => nomatch h
    t := fun _ _ h => nomatch h
    i := fun _ _ h => nomatch h
    f := fun _ _ h => nomatch h
    d := fun _ _ ks vs h => by cases ks <;> cases vs <;> cases h
    dv := fun _ _ ks vs _ _ _ h => by cases ks <;> cases vs <;> cases h
    w := fun _ tg x h => by simp [cI] at h
    kw := fun _ _ h => nomatch h }
  | umd tab m a ds iha =>
    exact {
    e := fun G x h => by
      cases x with
      | Call f args kws pos =>
        match f, args, kws, h with
        | .Attribute o nm ap, [], [], h =>
          simp only [cE, Bool.and_eq_true, decide_eq_true_eq] at h
          obtain ⟨⟨⟨⟨rfl, h1⟩, h2⟩, h3⟩, h4⟩ := h
          exact s_umd G h1 h2 h3 (iha.e G o h4)
      | _ => cases h
    an := fun _ _ _ h => nomatch h
    or := fun _ _ _ h => nomatch h
    ant := fun _ _ _ h => nomatch h
    ort := fun _ _ _ h => nomatch h
    l := fun _ _ h => nomatch h
    t := fun _ _ h => nomatch h
    i := fun _ _ h => nomatch h
    f := fun _ _ h => nomatch h
    d := fun _ _ ks vs h => by cases ks <;> cases vs <;> cases h
    dv := fun _ _ ks vs _ _ _ h => by cases ks <;> cases vs <;> cases h
    w := fun _ tg x h => by simp [cI] at h
    kw := fun _ _ h => nomatch h }
  | lset a iha =>
    exact {
    e := fun G x h => by
      cases x with
      | Call f args kws pos =>
        match f, args, kws, h with
        | .Name x p, [.Call (.Name y p2) [z] [] q], [], h =>
          simp only [cE, Bool.and_eq_true, decide_eq_true_eq] at h
          obtain ⟨⟨⟨⟨⟨rfl, rfl⟩, h1⟩, h2⟩, h3⟩, h4⟩ := h
          exact s_lset G h1 h2 h3 (iha.e G z h4)
      | _ => cases h
    an := fun _ _ _ h => nomatch h
    or := fun _ _ _ h => nomatch h
    ant := fun _ _ _ h => nomatch h
    ort := fun _ _ _ h => nomatch h
    l := fun _ _ h => nomatch h
    t := fun _ _ h => nomatch h
    i := fun _ _ h => nomatch h
    f := fun _ _ h => nomatch h
    d := fun _ _ ks vs h => by cases ks <;> cases vs <;> cases h
    dv := fun _ _ ks vs _ _ _ h => by cases ks <;> cases vs <;> cases h
    w := fun _ tg x h => by simp [cI] at h
    kw := fun _ _ h => nomatch h }
  | srt a iha =>
    exact {
    e := fun G x h => by
      cases x with
      | Call f args kws pos =>
        match f, args, kws, h with
        | .Name x p, [y], [], h =>
          simp only [cE, Bool.and_eq_true, decide_eq_true_eq] at h
          obtain ⟨⟨⟨rfl, h1⟩, h2⟩, h3⟩ := h
          exact s_srt G h1 h2 (iha.e G y h3)
      | _ => cases h
    an := fun _ _ _ h => nomatch h
    or := fun _ _ _ h => nomatch h
    ant := fun _ _ _ h => nomatch h
    ort := fun _ _ _ h => nomatch h
    l := fun _ _ h => nomatch h
    t := fun _ _ h => nomatch h
    i := fun _ _ h => nomatch h
    f := fun _ _ h => nomatch h
    d := fun _ _ ks vs h => by cases ks <;> cases vs <;> cases h
    dv := fun _ _ ks vs _ _ _ h => by cases ks <;> cases vs <;> cases h
    w := fun _ tg x h => by simp [cI] at h
    kw := fun _ _ h => nomatch h }
  | oq neg tab a b iha ihb =>
    exact {
    e := fun G x h => by
      cases x with
      | Compare l os cs pos =>
        match os, cs, h with
        | [o], [r], h =>
          simp only [cE, Bool.and_eq_true, decide_eq_true_eq, Bool.not_eq_true'] at h
          obtain ⟨⟨⟨⟨rfl, hm⟩, h0⟩, h1⟩, h2⟩ := h
          exact s_oq G h0 hm (iha.e G l h1) (ihb.e G r h2)
      | _ => cases h
    an := fun _ _ _ h => nomatch h
    or := fun _ _ _ h => nomatch h
    ant := fun _ _ _ h => nomatch h
    ort := fun _ _ _ h => nomatch h
    l := fun _ _ h => nomatch h
    t := fun G x h => by
      cases x with
      | Compare l os cs pos =>
        match os, cs, h with
        | [o], [r], h =>
          simp only [cT, Bool.and_eq_true, decide_eq_true_eq, Bool.not_eq_true'] at h
          obtain ⟨⟨⟨⟨rfl, hm⟩, h0⟩, h1⟩, h2⟩ := h
          exact s_oqT G h0 hm (iha.e G l h1) (ihb.e G r h2)
      | _ => cases h
    i := fun _ _ h => nomatch h
    f := fun _ _ h => nomatch h
    d := fun _ _ ks vs h => by cases ks <;> cases vs <;> cases h
    dv := fun _ _ ks vs _ _ _ h => by cases ks <;> cases vs <;> cases h
    w := fun _ tg x h => by simp [cI] at h
    kw := fun _ _ h => nomatch h }
  | nwk c f n pat ds ks es kes ihes ihkes =>
    exact {
    e := fun G x h => by
      cases x with
      | Call f args kws pos =>
        match f, args, h with
        | .Name x p, y :: ys, h =>
          simp only [cE, Bool.and_eq_true, decide_eq_true_eq] at h
          obtain ⟨⟨⟨⟨⟨⟨rfl, h1⟩, h2⟩, h3⟩, h4⟩, h5⟩, h6⟩ := h
          exact s_nwk G h1 h2 h3 h4 h5 (ihes.l G (y :: ys) h4) (ihkes.kw G kws h6)
      | _ => cases h
    an := fun _ _ _ h => nomatch h
    or := fun _ _ _ h => nomatch h
    ant := fun _ _ _ h => nomatch h
    ort := fun _ _ _ h => nomatch h
    l := fun _ _ h => nomatch h
    t := fun _ _ h => nomatch h
    i := fun _ _ h => nomatch h
    f := fun _ _ h => nomatch h
    d := fun _ _ ks vs h => by cases ks <;> cases vs <;> cases h
    dv := fun _ _ ks vs _ _ _ h => by cases ks <;> cases vs <;> cases h
    w := fun _ tg x h => by simp [cI] at h
    kw := fun _ _ h => nomatch h }
  | stc c m f es ihes =>
    exact {
    e := fun G x h => by
      cases x with
      | Call f args kws pos =>
        match f, kws, h with
        | .Attribute (.Name x p) nm ap, [], h =>
          simp only [cE, Bool.and_eq_true, decide_eq_true_eq] at h
          obtain ⟨⟨⟨⟨⟨⟨⟨rfl, rfl⟩, h1⟩, h2⟩, h3⟩, h4⟩, h5⟩, h6⟩ := h
          exact s_stc G h1 h2 h3 h4 h5 h6 (ihes.l G args h6)
      | _ => cases h
    an := fun _ _ _ h => nomatch h
    or := fun _ _ _ h => nomatch h
    ant := fun _ _ _ h => nomatch h
    ort := fun _ _ _ h => nomatch h
    l := fun _ _ h => nomatch h
    t := fun _ _ h => nomatch h
    i := fun _ _ h => nomatch h
    f := fun _ _ h => nomatch h
    d := fun _ _ ks vs h => by cases ks <;> cases vs <;> cases h
    dv := fun _ _ ks vs _ _ _ h => by cases ks <;> cases vs <;> cases h
    w := fun _ tg x h => by simp [cI] at h
    kw := fun _ _ h => nomatch h }
  | isC cs a c iha =>
    exact {
    e := fun G x h => by
      cases x with
      | Call f args kws pos =>
        match f, args, kws, h with
        | .Name x p, [y, .Name z p2], [], h =>
          simp only [cE, Bool.and_eq_true, decide_eq_true_eq] at h
          obtain ⟨⟨⟨⟨⟨⟨⟨⟨h0, h1⟩, rfl⟩, h2⟩, rfl⟩, h3⟩, h4⟩, h5⟩, h6⟩ := h
          exact s_isC G h2 h3 h4 h5 h0 h1 (iha.e G y h6)
      | _ => cases h
    an := fun _ _ _ h => nomatch h
    or := fun _ _ _ h => nomatch h
    ant := fun _ _ _ h => nomatch h
    ort := fun _ _ _ h => nomatch h
    l := fun _ _ h => nomatch h
    t := fun G x h => by
      cases x with
      | Call f args kws pos =>
        match f, args, kws, h with
        | .Name x p, [y, .Name z p2], [], h =>
          simp only [cT, Bool.and_eq_true, decide_eq_true_eq] at h
          obtain ⟨⟨⟨⟨⟨⟨⟨⟨h0, h1⟩, rfl⟩, h2⟩, rfl⟩, h3⟩, h4⟩, h5⟩, h6⟩ := h
          exact s_truth rfl (fun s => by simp only [evT]) (s_isC G h2 h3 h4 h5 h0 h1 (iha.e G y h6))
      | _ => cases h
    i := fun _ _ h => nomatch h
    f := fun _ _ h => nomatch h
    d := fun _ _ ks vs h => by cases ks <;> cases vs <;> cases h
    dv := fun _ _ ks vs _ _ _ h => by cases ks <;> cases vs <;> cases h
    w := fun _ tg x h => by simp [cI] at h
    kw := fun _ _ h => nomatch h }
  | ccs c n d  =>
    exact {
    e := fun G x h => by
      cases x with
      | Attribute y nm pos =>
        match y, h with
        | .Name x p, h =>
          simp only [cE, Bool.and_eq_true, decide_eq_true_eq] at h
          obtain ⟨⟨⟨⟨rfl, rfl⟩, h1⟩, h2⟩, h3⟩ := h
          exact s_ccs G h1 h2 h3
      | _ => cases h
    an := fun _ _ _ h => nomatch h
    or := fun _ _ _ h => nomatch h
    ant := fun _ _ _ h => nomatch h
    ort := fun _ _ _ h => nomatch h
    l := fun _ _ h => nomatch h
    t := fun _ _ h => nomatch h
    i := fun _ _ h => nomatch h
    f := fun _ _ h => nomatch h
    d := fun _ _ ks vs h => by cases ks <;> cases vs <;> cases h
    dv := fun _ _ ks vs _ _ _ h => by cases ks <;> cases vs <;> cases h
    w := fun _ tg x h => by simp [cI] at h
    kw := fun _ _ h => nomatch h }
  | lor a iha =>
    exact {
    e := fun _ _ h => nomatch h
    an := fun _ _ _ h => nomatch h
    or := fun _ _ _ h => nomatch h
    ant := fun _ _ _ h => nomatch h
    ort := fun _ _ _ h => nomatch h
    l := fun _ _ h => nomatch h
    t := fun _ _ h => nomatch h
    i := fun _ _ h => nomatch h
    f := fun G x h => by
      cases x with
      | Call f args kws pos =>
        match f, args, kws, h with
        | .Name x p, [.Call (.Name y p2) [z] [] q], [], h =>
          simp only [cF, Bool.and_eq_true, decide_eq_true_eq] at h
          obtain ⟨⟨⟨⟨⟨rfl, rfl⟩, h1⟩, h2⟩, h3⟩, h4⟩ := h
          exact s_lor G h1 h2 h3 (iha.e G z h4)
      | _ => cases h
    d := fun _ _ ks vs h => by cases ks <;> cases vs <;> cases h
    dv := fun _ _ ks vs _ _ _ h => by cases ks <;> cases vs <;> cases h
    w := fun _ tg x h => by simp [cI] at h
    kw := fun _ _ h => nomatch h }
  | callk f n pat ds ks es kes ihes ihkes =>
    exact {
    e := fun G x h => by
      cases x with
      | Call f args kws pos =>
        match f, args, h with
        | .Name x p, y :: ys, h =>
          simp only [cE, Bool.and_eq_true, decide_eq_true_eq] at h
          obtain ⟨⟨⟨⟨⟨⟨rfl, h1⟩, h2⟩, h3⟩, h4⟩, h5⟩, h6⟩ := h
          exact s_callk G h1 h2 h3 h4 h5 (ihes.l G (y :: ys) h4) (ihkes.kw G kws h6)
      | _ => cases h
    an := fun _ _ _ h => nomatch h
    or := fun _ _ _ h => nomatch h
    ant := fun _ _ _ h => nomatch h
    ort := fun _ _ _ h => nomatch h
    l := fun _ _ h => nomatch h
    t := fun _ _ h => nomatch h
    i := fun _ _ h => nomatch h
    f := fun _ _ h => nomatch h
    d := fun _ _ ks vs h => by cases ks <;> cases vs <;> cases h
    dv := fun _ _ ks vs _ _ _ h => by cases ks <;> cases vs <;> cases h
    w := fun _ tg x h => by simp [cI] at h
    kw := fun _ _ h => nomatch h }
  | lc2 own tg it tg1 it1 elt ihit ihit1 ihelt =>
    exact {
    e := fun _ _ h => nomatch h
    an := fun _ _ _ h => nomatch h
    or := fun _ _ _ h => nomatch h
    ant := fun _ _ _ h => nomatch h
    ort := fun _ _ _ h => nomatch h
    l := fun _ _ h => nomatch h
    t := fun _ _ h => nomatch h
    i := fun _ _ h => nomatch h
    f := fun G x h => by
      cases x with
      | ListComp el gs scope pos =>
        match gs, h with
        | [⟨tx, iter, [], 0⟩, ⟨tx1, iter1, [], 0⟩], h =>
          simp only [cF, Bool.and_eq_true, List.all_eq_true, decide_eq_true_eq] at h
          obtain ⟨⟨⟨⟨⟨⟨⟨⟨⟨⟨h1, h2⟩, h3⟩, h4⟩, h5⟩, h6⟩, h7⟩, h8⟩, h9⟩, h10⟩, h11⟩ := h
          exact s_lc2 G h1 h2 h3 h5 h7 h8 h10 (fun G tg x => ihit.w G tg x) h6 (fun G x => ihit1.e G x) h9 (fun G x => ihelt.e G x) h11
      | _ => cases h
    d := fun _ _ ks vs h => by cases ks <;> cases vs <;> cases h
    dv := fun _ _ ks vs _ _ _ h => by cases ks <;> cases vs <;> cases h
    w := fun _ tg x h => by simp [cI] at h
    kw := fun _ _ h => nomatch h }
  | jst right a i f iha ihi ihf =>
    exact {
    e := fun G x h => by
      cases x with
      | Call fn args kws pos =>
        match fn, args, kws, h with
        | .Attribute o nm ap, [y, z], [], h =>
          simp only [cE, Bool.and_eq_true, decide_eq_true_eq] at h
          obtain ⟨⟨⟨⟨⟨⟨⟨rfl, hb⟩, hpos⟩, n1⟩, n2⟩, h1⟩, h2⟩, h3⟩ := h
          cases right
          · exact s_jst (right := false) hb hpos n1 n2 (cL_two h2 n1 h3 n2) (iha.e G o h1) (ihi.e G y h2) (ihf.e G z h3)
          · exact s_jst (right := true) hb hpos n1 n2 (cL_two h2 n1 h3 n2) (iha.e G o h1) (ihi.e G y h2) (ihf.e G z h3)
      | _ => cases h
    an := fun _ _ _ h => nomatch h
    or := fun _ _ _ h => nomatch h
    ant := fun _ _ _ h => nomatch h
    ort := fun _ _ _ h => nomatch h
    l := fun _ _ h => nomatch h
    t := fun _ _ h => nomatch h
    i := fun _ _ h => nomatch h
    f := fun _ _ h => nomatch h
    d := fun _ _ ks vs h => by cases ks <;> cases vs <;> cases h
    dv := fun _ _ ks vs _ _ _ h => by cases ks <;> cases vs <;> cases h
    w := fun _ tg x h => by simp [cI] at h
    kw := fun _ _ h => nomatch h }
  | spl a b iha ihb =>
    exact {
    e := fun _ _ h => nomatch h
    an := fun _ _ _ h => nomatch h
    or := fun _ _ _ h => nomatch h
    ant := fun _ _ _ h => nomatch h
    ort := fun _ _ _ h => nomatch h
    l := fun _ _ h => nomatch h
    t := fun _ _ h => nomatch h
    i := fun _ _ h => nomatch h
    f := fun G x h => by
      cases x with
      | Call f args kws pos =>
        match f, args, kws, h with
        | .Attribute o nm ap, [y], [], h =>
          simp only [cF, Bool.and_eq_true, decide_eq_true_eq] at h
          obtain ⟨⟨⟨⟨⟨rfl, hb⟩, hpos⟩, n1⟩, h1⟩, h2⟩ := h
          exact s_spl hb hpos n1 (cL_one h2 n1) (iha.e G o h1) (ihb.e G y h2)
      | _ => cases h
    d := fun _ _ ks vs h => by cases ks <;> cases vs <;> cases h
    dv := fun _ _ ks vs _ _ _ h => by cases ks <;> cases vs <;> cases h
    w := fun _ tg x h => by simp [cI] at h
    kw := fun _ _ h => nomatch h }
  | met f e ok hs ihe ihhs =>
    exact {
    e := fun G x h => by
      cases x with
      | Call fn args kws pos =>
        match fn, args, kws, h with
        | .Name x p, [.Lambda ⟨[], [], none, [], [], none, []⟩ body scope lpos], [], h =>
          simp only [cE, Bool.and_eq_true, decide_eq_true_eq] at h
          obtain ⟨⟨⟨⟨⟨⟨⟨rfl, h1⟩, h2⟩, h3⟩, h4⟩, h5⟩, h6⟩, h7⟩ := h
          obtain ⟨m, hm, hb⟩ := List.any_eq_true.mp h1
          simp only [Bool.and_eq_true, decide_eq_true_eq] at hb
          obtain ⟨rfl, hb⟩ := hb
          exact s_met G hm hb h2 h3 h4 h5 h6 (fun G' => ihe.e G' body h7)
      | _ => cases h
    an := fun _ _ _ h => nomatch h
    or := fun _ _ _ h => nomatch h
    ant := fun _ _ _ h => nomatch h
    ort := fun _ _ _ h => nomatch h
    l := fun _ _ h => nomatch h
    t := fun _ _ h => nomatch h
    i := fun _ _ h => nomatch h
    f := fun _ _ h => nomatch h
    d := fun _ _ ks vs h => by cases ks <;> cases vs <;> cases h
    dv := fun _ _ ks vs _ _ _ h => by cases ks <;> cases vs <;> cases h
    w := fun _ tg x h => by simp [cI] at h
    kw := fun _ _ h => nomatch h }
  | hdE c subs i he r ihhe ihr =>
    exact {
    e := fun _ _ h => nomatch h
    an := fun _ _ _ h => nomatch h
    or := fun _ _ _ h => nomatch h
    ant := fun _ _ _ h => nomatch h
    ort := fun _ _ _ h => nomatch h
    l := fun _ _ h => nomatch h
    t := fun _ _ h => nomatch h
    i := fun _ _ h => nomatch h
    f := fun _ _ h => nomatch h
    d := fun _ _ ks vs h => by cases ks <;> cases vs <;> cases h
    dv := fun _ _ ks vs _ _ _ h => by cases ks <;> cases vs <;> cases h
    w := fun _ tg x h => by simp [cI] at h
    kw := fun _ _ h => nomatch h }
  | rpr a iha =>
    exact {
    e := fun G x h => by
      cases x with
      | Call f args kws pos =>
        match f, args, kws, h with
        | .Name x p, [y], [], h =>
          simp only [cE, Bool.and_eq_true, decide_eq_true_eq] at h
          obtain ⟨⟨⟨rfl, h1⟩, h2⟩, h3⟩ := h
          exact s_rpr G h1 h2 (iha.e G y h3)
      | _ => cases h
    an := fun _ _ _ h => nomatch h
    or := fun _ _ _ h => nomatch h
    ant := fun _ _ _ h => nomatch h
    ort := fun _ _ _ h => nomatch h
    l := fun _ _ h => nomatch h
    t := fun _ _ h => nomatch h
    i := fun _ _ h => nomatch h
    f := fun _ _ h => nomatch h
    d := fun _ _ ks vs h => by cases ks <;> cases vs <;> cases h
    dv := fun _ _ ks vs _ _ _ h => by cases ks <;> cases vs <;> cases h
    w := fun _ tg x h => by simp [cI] at h
    kw := fun _ _ h => nomatch h }
  | tor a iha =>
    exact {
    e := fun G x h => by
      cases x with
      | Call f args kws pos =>
        match f, args, kws, h with
        | .Name x p, [.Call (.Name y p2) [z] [] q], [], h =>
          simp only [cE, Bool.and_eq_true, decide_eq_true_eq] at h
          obtain ⟨⟨⟨⟨⟨rfl, h1⟩, rfl⟩, h2⟩, h3⟩, h4⟩ := h
          exact s_tor G h1 h2 h3 (iha.e G z h4)
      | _ => cases h
    an := fun _ _ _ h => nomatch h
    or := fun _ _ _ h => nomatch h
    ant := fun _ _ _ h => nomatch h
    ort := fun _ _ _ h => nomatch h
    l := fun _ _ h => nomatch h
    t := fun _ _ h => nomatch h
    i := fun _ _ h => nomatch h
    f := fun _ _ h => nomatch h
    d := fun _ _ ks vs h => by cases ks <;> cases vs <;> cases h
    dv := fun _ _ ks vs _ _ _ h => by cases ks <;> cases vs <;> cases h
    w := fun _ tg x h => by simp [cI] at h
    kw := fun _ _ h => nomatch h }
  | rep a b iha ihb =>
    exact {
    e := fun G x h => by
      cases x with
      | BinOp l o r pos =>
        match o, h with
        | .Mult, h =>
          simp only [cE, Bool.and_eq_true] at h
          exact s_rep (iha.e G l h.1) (ihb.e G r h.2)
      | _ => cases h
    an := fun _ _ _ h => nomatch h
    or := fun _ _ _ h => nomatch h
    ant := fun _ _ _ h => nomatch h
    ort := fun _ _ _ h => nomatch h
    l := fun _ _ h => nomatch h
    t := fun _ _ h => nomatch h
    i := fun _ _ h => nomatch h
    f := fun _ _ h => nomatch h
    d := fun _ _ ks vs h => by cases ks <;> cases vs <;> cases h
    dv := fun _ _ ks vs _ _ _ h => by cases ks <;> cases vs <;> cases h
    w := fun _ tg x h => by simp [cI] at h
    kw := fun _ _ h => nomatch h }
  | insm a i v iha ihi ihv =>
    exact {
    e := fun G x h => by
      cases x with
      | Call f args kws pos =>
        match f, args, kws, h with
        | .Attribute o nm ap, [y, z], [], h =>
          simp only [cE, Bool.and_eq_true, decide_eq_true_eq] at h
          obtain ⟨⟨⟨⟨⟨⟨⟨rfl, hb⟩, hpos⟩, n1⟩, n2⟩, h1⟩, h2⟩, h3⟩ := h
          exact s_insm G hb hpos n1 n2 (by simp [cL, n1, n2, h2, h3]) (iha.e G o h1) (ihi.e G y h2) (ihv.e G z h3)
      | _ => cases h
    an := fun _ _ _ h => nomatch h
    or := fun _ _ _ h => nomatch h
    ant := fun _ _ _ h => nomatch h
    ort := fun _ _ _ h => nomatch h
    l := fun _ _ h => nomatch h
    t := fun _ _ h => nomatch h
    i := fun _ _ h => nomatch h
    f := fun _ _ h => nomatch h
    d := fun _ _ ks vs h => by cases ks <;> cases vs <;> cases h
    dv := fun _ _ ks vs _ _ _ h => by cases ks <;> cases vs <;> cases h
    w := fun _ tg x h => by simp [cI] at h
    kw := fun _ _ h => nomatch h }
  | nil   =>
    exact {
    e := fun _ _ h => nomatch h
    an := fun _ _ _ h => nomatch h
    or := fun _ _ _ h => nomatch h
    ant := fun _ _ _ h => nomatch h
    ort := fun _ _ _ h => nomatch h
    l := fun G xs h => by
      cases xs with
      | nil => exact s_nil
      | cons _ _ => cases h
    t := fun _ _ h => nomatch h
    i := fun G xs h => by
      cases xs with
      | nil =>
        refine weakPTs L2.pts_nil fun σ H Q q => ?_
        obtain ⟨γ, s, R, p⟩ := q
        simp only [evT] at p
        exact p.here R rfl
      | cons _ _ => cases h
    f := fun _ _ h => nomatch h
    d := fun G pos ks vs h => by
      cases ks with
      | nil =>
        cases vs with
        | nil => exact L2.pps_nil
        | cons _ _ => cases h
      | cons _ _ => cases vs <;> cases h
    dv := fun _ _ ks vs _ _ _ h => by cases ks <;> cases vs <;> cases h
    w := fun _ tg x h => by simp [cI] at h
    kw := fun G kws h => by
      cases kws with
      | nil =>
        exact weakPK L2.pk_nil fun σ H Q q => by
          obtain ⟨γ, s, R, p⟩ := q
          simp only [evs] at p
          exact p.here R .nil
      | cons _ _ => cases h }
  | cons h t ihh iht =>
    exact {
    e := fun _ _ h => nomatch h
    an := fun _ _ _ h => nomatch h
    or := fun _ _ _ h => nomatch h
    ant := fun _ _ _ h => nomatch h
    ort := fun _ _ _ h => nomatch h
    l := fun G xs h => by
      cases xs with
      | nil => cases h
      | cons x xs =>
        simp only [cL, Bool.and_eq_true] at h
        exact s_cons h.1.2 (ihh.e G x h.1.1) (iht.l G xs h.2)
    t := fun _ _ h => nomatch h
    i := fun G xs h => by
      match t, xs, h with
      | .nil, [x], h =>
        simp only [cIfs] at h
        refine weakPTs (L2.pts_one (ihh.t G x h)) fun σ H Q ⟨γ, s, R, p⟩ => ⟨γ, s, R, ?_⟩
        simp only [evT] at p
        exact p
    f := fun _ _ h => nomatch h
    d := fun G pos ks vs hh => by
      cases ks with
      | nil => cases vs <;> cases hh
      | cons k ks =>
        cases k with
        | none => cases vs <;> cases hh
        | some k =>
          simp only [cD, Bool.and_eq_true] at hh
          exact iht.dv G pos ks vs k _ (ihh.e G k hh.1) hh.2
    dv := fun G pos ks vs kx tk hk hh => by
      cases vs with
      | nil => cases ks <;> cases hh
      | cons y vs =>
        simp only [cDv, Bool.and_eq_true] at hh
        exact L2.pps_cons hk (ihh.e G y hh.1) (iht.d G pos ks vs hh.2)
    w := fun _ tg x h => by simp [cI] at h
    kw := fun G kws h => by
      cases kws with
      | nil => cases h
      | cons x xs =>
        obtain ⟨nm, v, kp⟩ := x
        simp only [List.map_cons, cL, Bool.and_eq_true] at h
        refine weakPK (L2.pk_cons (ihh.e G v h.1.1) (iht.kw G xs h.2)) fun σ H Q ⟨γ, s, R, p⟩ => ⟨γ, s, R, ?_⟩
        simp only [evs] at p
        exact p.bind fun v s1 γ1 H1 x st1 R1 r1 p1 => ⟨γ1, s1, R1, p1.bind fun w s2 γ2 H2 y st2 R2 r2 p2 => p2.here R2 (.cons (r1.step st2 R1.tups) r2)⟩ }
end Mp

/-! Mp: statements. -/
namespace Mp
open PySem (Addr Value Expr Stmt PyData Str CmpOp Operator cLine Scope Env NameKind)
open L2 (V HO Hp upd upd_same upd_ne SqT SqL Rd PE PT PW PA PI PG PS PSs Cx TE TT TA TI TG TS VK XK WX Ends Gl Sp It Room Takes Vis)
/-! ### the check -/
def notComp : Expr → Bool
  | .ListComp .. => false
  | .SetComp .. => false
  | .DictComp .. => false
  | _ => true
def notTup : Expr → Bool
  | .Tuple .. => false
  | _ => true
/-- a list comprehension is stored at its own line -/
def compHere (sc : Scope) (x : Str) (px : PySem.Pos) : Expr → Bool
  | .ListComp _ _ scope pos => locB sc x && (px.line == pos.line) && !(scope.names.any fun (n, k) => n == x && (k == .local || k == .cell))
  | _ => false
/-- .. is not -/
def compAway (sc : Scope) (x : Str) (px : PySem.Pos) : Expr → Bool
  | .ListComp _ _ scope pos => !(locB sc x && (px.line == pos.line) && !(scope.names.any fun (n, k) => n == x && (k == .local || k == .cell)))
  | .SetComp .. => false
  | .DictComp .. => false
  | _ => true
def lcCode : E → Bool
  | .fz (.lc ..) => true
  | .mk (.lc ..) => true
  | .gl (.lc ..) => true
  | _ => false
def Prg.excB (P : Prg) (c : Str) (np : Nat) (fl : List (Str × Nat)) : Bool := P.exs.any fun d => decide (d.name = c) && decide (d.np = np) && decide (d.flds = fl) && fl.all fun p => decide (1 ≤ p.2) && decide (p.2 ≤ np)
/-- a target is no local name -/
def oneB (sc : Scope) : List Expr → Bool
  | [] => false
  | .Name x _ :: ts => !locB sc x || oneB sc ts
  | _ => true
/-- a loop's one name, captured or not -/
def oneT (N : List Str) (sc : Scope) (tg : List Nat) (e : Expr) : Bool := match tg, e with
  | [i], .Name x _ => decide (N[i]? = some x) && storeB sc x
  | _, _ => false
section
variable (P : Prg) (N : List Str) (sc : Scope)
def cG : List Tgt → List Expr → Bool
  | [], [] => true
  | .nm i :: gs, .Name x _ :: es => decide (N[i]? = some x) && storeB sc x && cG gs es
  | .ix a i :: gs, .Subscript x y _ :: es => cE P N a sc x && cE P N i sc y && notSlice y && cG gs es
  | .fd cs f a :: gs, .Attribute x nm _ :: es => decide (nm = f) && cs.all (P.fldB f) && cE P N a sc x && cG gs es
  | _, _ => false
mutual
def cS : T → Stmt → Bool
  | .asg i e, .Assign [.Name x px] v _ => decide (N[i]? = some x) && storeB sc x && cE P N e sc v && (compAway sc x px v || (compHere sc x px v && lcCode e))
  | .par i j a b, .Assign [.Tuple [.Name x px, .Name y py] _ _] (.Tuple [u, v] _ _) _ => decide (N[i]? = some x) && decide (N[j]? = some y) && decide (i ≠ j) && decide (x ≠ y) && locB sc x && locB sc y && (py.line == px.line) && notStar u && notStar v &&
      !([u, v].all (PySem.foldedForSure 8)) && !([u, v].all (PySem.constantsAlone 8)) && cE P N a sc u && cE P N b sc v
  | .seti a i e, .Assign [.Subscript x y _] v _ => cE P N e sc v && cE P N a sc x && cE P N i sc y && notSlice y
  | .ite t b o, .If c bs os _ => cT P N t sc c && cB b bs && cB o os
  | .for_ tg it b, .For tx iter bs [] _ => (tgB N sc tg tx || oneT N sc tg tx) && cI P N it sc tx iter && notSet iter && cB b bs
  | .while_ t b, .While c bs [] _ => cT P N t sc c && cB b bs
  | .ret e, .Return (some v) _ => cE P N e sc v
  | .retN, .Return none _ => true
  | .exp e, .Expr v _ => cE P N e sc v && notComp v
  | .brk, .Break _ => true
  | .cnt, .Continue _ => true
  | .pass, .Pass _ => true
  | .rs, .Raise .. => true
  | .seta cs f a e, .Assign [.Attribute x nm _] v _ => decide (nm = f) && cs.all (P.fldB f) && cE P N a sc x && cE P N e sc v && notComp v
  | .par3 i j l a b c, .Assign [.Tuple [.Name x px, .Name y py, .Name z pz] _ _] (.Tuple [u, v, w] _ _) _ => decide (N[i]? = some x) && decide (N[j]? = some y) && decide (N[l]? = some z) && decide (i ≠ j) && decide (i ≠ l) && decide (j ≠ l) &&
      decide (x ≠ y) && decide (x ≠ z) && decide (y ≠ z) && locB sc x && locB sc y && locB sc z && (py.line == px.line) && (pz.line == px.line) && notStar u && notStar v && notStar w &&
      !([u, v, w].all (PySem.foldedForSure 8)) && !([u, v, w].all (PySem.constantsAlone 8)) && cE P N a sc u && cE P N b sc v && cE P N c sc w
  | .parn tg es, .Assign [.Tuple ts _ _] (.Tuple us _ _) _ => namesB N sc tg ts && decide (3 < tg.length) && cL P N es sc us
  | .unp tg e, .Assign [.Tuple ts k p] v _ => tgB N sc tg (.Tuple ts k p) && cE P N e sc v && notTup v
  | .tgs gs es, .Assign [.Tuple ts _ _] (.Tuple us _ _) _ => cG P N sc gs ts && oneB sc ts && cL P N es sc us
  | .rsx c np fl es, .Raise (some (.Call (.Name x _) (y :: ys) [] _)) none _ => decide (x = c) && glB sc x && notDbg x && P.excB c np fl && cL P N es sc (y :: ys)
  | .tryx b hs, .Try body (h :: hds) [] [] _ => cB b body && cHd P N sc hs (h :: hds)
  | _, _ => false
def cB : T → List Stmt → Bool
  | .nil, [] => true
  | .cons h t, x :: xs => cS h x && cB t xs
  | .frz _ t, xs => cB t xs
  | _, _ => false
end
end

variable [TabT]

section
variable {P : Prg} {N : List Str} {Γ : Callee} {RX : ExRel} {k : Nat} {X : Cx} {W : WX} {sc : Scope}
theorem kind_loc (G : GoodS P N Γ RX k X W sc) (x : Str) : (X.env.kindOf x == some .local) = locB sc x := by
  unfold locB PySem.Env.kindOf
  rw [G.sco]
  split <;> rename_i e
  · rw [e]; rfl
  · cases q : sc.names.lookup x with
    | none => rfl
    | some kd => cases kd <;> first | rfl | exact absurd q e
theorem sw_away (G : GoodS P N Γ RX k X W sc) {x : Str} {px : PySem.Pos} {v : Expr} {l : Nat} (h : compAway sc x px v = true) : PySem.swapsWith v (some (.Name x px)) l X.env = pure false := by
  cases v with
  | ListComp el gs scope pos =>
    simp only [compAway, Bool.not_eq_true', Bool.and_eq_false_iff] at h
    have hb : X.env.blockKind = .function := by unfold PySem.Env.blockKind; rw [G.kind]; rfl
    unfold PySem.swapsWith
    simp only [hb]
    have hk : (X.env.kindOf x == some .local) = locB sc x := by
      unfold locB PySem.Env.kindOf
      rw [G.sco]
      split <;> rename_i e
      · rw [e]; rfl
      · cases q : sc.names.lookup x with
        | none => rfl
        | some kd => cases kd <;> first | rfl | exact absurd q e
    simp only [PySem.Expr.pos, hk]
    rcases h with (h | h) | h
    · rw [h]; rfl
    · rw [h, Bool.and_false]; rfl
    · simp only [Bool.not_eq_false'] at h
      rw [h]
      simp only [Bool.not_true, Bool.and_false]
  | SetComp => cases h
  | DictComp => cases h
  | _ => rfl
theorem SPost.asg {i : Nat} {v : Val} {s1 : S} {γ1 : Gh} {σ : L2.St} {H1 : Hp} {x : V} {D : Ends} (p : SPost X.K RX W γ1 H1 D (.ok .nx { s1 with env := s1.env.set i (some v) })) (R1 : Rel X.K γ1 s1 σ H1) (r : RelVal X.K γ1 H1 v x) : D.nx (σ.set i (some x)) H1 :=
  p γ1 _ H1 (Stm.refl _ _) (R1.set i r)
theorem storeB_of (G : GoodS P N Γ RX k X W sc) {x : Str} (h : storeB sc x = true) : L2.Loc X.env.scope x := by
  rw [G.sco]
  unfold storeB at h
  split at h
  · rename_i e; exact .inl e
  · rename_i e; exact .inr e
  · cases h
theorem s_asg (G : GoodS P N Γ RX k X W sc) {i : Nat} {e : E} {x : Str} {px pos : PySem.Pos} {v : Expr} (h1 : N[i]? = some x) (h2 : storeB sc x = true) (h3 : compAway sc x px v = true) (he : PE X v (tE X.K RX W (ev Γ e))) :
    PS X (.Assign [.Name x px] v pos) (tS X.K RX W (ex Γ (.asg i e))) := by
  refine weakS (L2.ps_set (i := i) (by rw [G.hN]; exact G.nd) (by rw [G.hN]; exact h1) (storeB_of G h2) he (sw_away G h3) (.inl (G.fn x))) fun D σ H ⟨γ, s, R, p⟩ => ⟨γ, s, R, ?_⟩
  simp only [ex] at p
  exact p.bind fun v s1 γ1 H1 x st1 R1 r1 p1 => SPost.asg p1 R1 r1
theorem sw_here (G : GoodS P N Γ RX k X W sc) {x : Str} {px : PySem.Pos} {el : Expr} {gs : List PySem.Comprehension} {scope : Scope} {pos : PySem.Pos} {l : Nat} (h : compHere sc x px (.ListComp el gs scope pos) = true) :
    X.env.scope.names.lookup x = some .local ∧ PySem.swapsWith (.ListComp el gs scope pos) (some (.Name x px)) l X.env = pure true := by
  simp only [compHere, Bool.and_eq_true, Bool.not_eq_true'] at h
  have hl := G.loc x h.1.1
  exact ⟨hl, L2.sw_true G.kind hl h.1.2 h.2⟩
theorem s_asgC (G : GoodS P N Γ RX k X W sc) {i : Nat} {e : E} {x : Str} {px pos : PySem.Pos} {v : Expr} (h1 : N[i]? = some x) (h3 : compHere sc x px v = true) (h4 : lcCode e = true) (h5 : cE P N e sc v = true) :
    PS X (.Assign [.Name x px] v pos) (tS X.K RX W (ex Γ (.asg i e))) := by
  cases v with
  | ListComp el gs scope vpos =>
    obtain ⟨hl, hsw⟩ := sw_here (l := pos.line) G h3
    have key : ∀ {own tg : List Nat} {it cnd elt : E}, cF P N (.lc own tg it cnd elt) sc (.ListComp el gs scope vpos) = true → (∀ {σ : L2.St} {H : Hp} {Q : VK}, tE X.K RX W (ev Γ e) σ H Q → tF X.K RX W (evF Γ (.lc own tg it cnd elt)) σ H Q) →
        PS X (.Assign [.Name x px] (.ListComp el gs scope vpos) pos) (tS X.K RX W (ex Γ (.asg i e))) := fun {own tg it cnd elt} h rd => by
      match gs, h with
      | [⟨tx, iter, ifs, 0⟩], h =>
        simp only [cF, Bool.and_eq_true, List.all_eq_true, decide_eq_true_eq] at h
        obtain ⟨⟨⟨⟨⟨⟨⟨g1, g2⟩, g3⟩, g4⟩, g5⟩, g6⟩, g7⟩, g8⟩ := h
        have ok := blk_ok G.toGood g1
        have g := fun s H C cl fp => G.toGood.blk ok.kind s H C cl fp
        refine weakS (L2.ps_setLc (i := i) G.calm (by rw [G.hN]; exact G.nd) (by rw [G.hN]; exact h1) hl hsw ((snd P N Γ RX k it).w G.toGood tx iter g5) ok (g := gT X.K tg) (tt := tT X.K RX W0 (evT Γ cnd)) (te := tE X.K RX W0 (ev Γ elt))
          (fun s H C cl fp => s_tg (g s H C cl fp) g4) (fun s H C cl fp => (snd P N Γ RX k cnd).i (g s H C cl fp) _ g7) (fun s H C cl fp => (snd P N Γ RX k elt).e (g s H C cl fp) _ g8) (fun z => set_of g6 z)) fun D σ H q => ?_
        rw [ownP_snd]
        refine lc_sound (own := own) (tg := tg) (it := evI Γ it) (cnd := evT Γ cnd) (elt := ev Γ elt) g2 σ H _ ?_
        have q2 : tE X.K RX W (ev Γ e) σ H (fun y H1 => D.nx (σ.set i (some y)) H1) := by
          obtain ⟨γ, s, R, p⟩ := q
          refine ⟨γ, s, R, ?_⟩
          simp only [ex] at p
          exact p.bind fun v s1 γ1 H1 x st1 R1 r1 p1 => SPost.asg p1 R1 r1
        obtain ⟨γ, s, R, p⟩ := rd q2
        refine ⟨γ, s, R, ?_⟩
        simp only [evF] at p
        exact p
    unfold lcCode at h4
    split at h4
    · exact key (by simpa only [cE] using h5) fun q => fz_read q
    · exact key (by simpa only [cE] using h5) fun q => mk_read q
    · exact key (by simpa only [cE] using h5) fun q => gl_read q
    · cases h4
  | _ => cases h3
theorem swapped2 (G : GoodS P N Γ RX k X W sc) {x y : Str} {px py pt pt2 : PySem.Pos} {kt k2 : Nat} {u v : Expr} (hx : locB sc x = true) (hy : locB sc y = true) (hl : (py.line == px.line) = true) (hn : x ≠ y) (su : notStar u = true) (sv : notStar v = true)
    (h1 : [u, v].all (PySem.foldedForSure 8) = false) (h2 : [u, v].all (PySem.constantsAlone 8) = false) : PySem.swappedStores [.Tuple [.Name x px, .Name y py] kt pt] (.Tuple [u, v] k2 pt2) X.env = pure (some [x, y]) := by
  have hb : X.env.blockKind = .function := by unfold PySem.Env.blockKind; rw [G.kind]; rfl
  have kx : X.env.kindOf x = some .local := G.loc x hx
  have ky : X.env.kindOf y = some .local := G.loc y hy
  have hst : ([u, v].any fun | .Starred .. => true | _ => false) = false := by
    have a : ∀ {w : Expr}, notStar w = true → (match w with | .Starred .. => true | _ => false) = false := fun {w} h => by cases w <;> first | rfl | cases h
    simp only [List.any_cons, List.any_nil, a su, a sv, Bool.or_self]
  have hl' : py.line = px.line := by simpa using hl
  have hd : ([x, y] : List Str).eraseDups = [x, y] := by
    have hne : (y == x) = false := beq_eq_false_iff_ne.mpr (Ne.symm hn)
    simp [List.eraseDups_cons, hne]
  unfold PySem.swappedStores
  simp only [hb, hst, List.length_cons, List.length_nil, List.head?_cons, Option.map_some, Option.getD_some, PySem.Expr.pos, List.filterMap_cons, List.filterMap_nil, kx, ky, hl', h1, h2, hd, beq_self_eq_true, Bool.and_self, if_true]
  rw [if_neg (by decide)]
  exact (if_neg (fun z => Bool.false_ne_true (hst.symm.trans z))).trans rfl
theorem s_par (G : GoodS P N Γ RX k X W sc) {i j : Nat} {a b : E} {x y : Str} {px py pt pt2 pos : PySem.Pos} {kt k2 : Nat} {u v : Expr} (hi : N[i]? = some x) (hj : N[j]? = some y) (hij : i ≠ j) (hx : locB sc x = true) (hy : locB sc y = true) (hl : (py.line == px.line) = true) (hn : x ≠ y) (su : notStar u = true) (sv : notStar v = true)
    (h1 : [u, v].all (PySem.foldedForSure 8) = false) (h2 : [u, v].all (PySem.constantsAlone 8) = false) (ha : PE X u (tE X.K RX W (ev Γ a))) (hb : PE X v (tE X.K RX W (ev Γ b))) :
    PS X (.Assign [.Tuple [.Name x px, .Name y py] kt pt] (.Tuple [u, v] k2 pt2) pos) (tS X.K RX W (ex Γ (.par i j a b))) := by
  refine weakS (L2.ps_par G.calm (by rw [G.hN]; exact G.nd) (by rw [G.hN]; exact hi) (by rw [G.hN]; exact hj) hij (G.loc x hx) (G.loc y hy) (s_cons su ha (s_cons sv hb s_nil)) (swapped2 G hx hy hl hn su sv h1 h2)) fun D σ H ⟨γ, s, R, p⟩ => ⟨γ, s, R, ?_⟩
  simp only [ex] at p
  simp only [evs]
  cases e1 : ev Γ a s with
  | bad => simp only [e1, Mp.R.bind] at p; exact p
  | ex _ _ => simp only [e1, Mp.R.bind] at p; exact fun γ1 H1 c d st1 => p γ1 σ H1 c d st1.toStm
  | ok v1 s1 =>
    simp only [e1, Mp.R.bind] at p ⊢
    cases e2 : ev Γ b s1 with
    | bad => simp only [e2] at p; exact p
    | ex _ _ => simp only [e2] at p; exact fun γ1 H1 c d st1 => p γ1 σ H1 c d st1.toStm
    | ok v2 s2 =>
      simp only [e2] at p ⊢
      intro γ1 H1 us st1 R1 r1
      obtain ⟨x1, x2, rfl, r1, r2⟩ := relVals_two r1
      exact ⟨x1, x2, rfl, p γ1 _ H1 st1.toStm ((R1.set i r1).set j r2)⟩
theorem setIx_cases {o i v : Val} {s : S} : setIx o i v s = .bad ∨
    (∃ (j : Nat) (k : Int) (d : D) (xs : List D), o = .own j ∧ i = .d (.int k) ∧ v = .d d ∧ s.fs[j]? = some (.lst xs) ∧ 0 ≤ k ∧ k < xs.length ∧ setIx o i v s = .ok () { s with fs := s.fs.set j (.lst (xs.set k.toNat d)) }) ∨
    (∃ (n : Nat) (k : Int) (d : D) (xs : List D), o = .d (.ref n) ∧ i = .d (.int k) ∧ v = .d d ∧ s.gs[n]? = some (.lst xs) ∧ 0 ≤ k ∧ k < xs.length ∧ setIx o i v s = .ok () { s with gs := s.gs.set n (.lst (xs.set k.toNat d)) }) := by
  unfold setIx
  split
  · rename_i j k d
    split
    · rename_i xs hc
      by_cases hb : (decide (0 ≤ k) && decide (k < xs.length)) = true
      · rw [if_pos hb]
        simp only [Bool.and_eq_true, decide_eq_true_eq] at hb
        exact .inr (.inl ⟨j, k, d, xs, rfl, rfl, rfl, hc, hb.1, hb.2, rfl⟩)
      · rw [if_neg hb]; exact .inl rfl
    · exact .inl rfl
  · rename_i n k d
    split
    · rename_i xs hc
      by_cases hb : (decide (0 ≤ k) && decide (k < xs.length)) = true
      · rw [if_pos hb]
        simp only [Bool.and_eq_true, decide_eq_true_eq] at hb
        exact .inr (.inr ⟨n, k, d, xs, rfl, rfl, rfl, hc, hb.1, hb.2, rfl⟩)
      · rw [if_neg hb]; exact .inl rfl
    · exact .inl rfl
  · exact .inl rfl
theorem set_rel {K : PySem.W.Frag} {γ : Gh} {s : S} {σ : L2.St} {H : Hp} {Dd : Ends} (R : Rel K γ s σ H) {o i v : Val} {x y z : V} (ro : RelVal K γ H o x) (ri : RelVal K γ H i y) (rv : RelVal K γ H v z)
    (p : SPost K RX W γ H Dd ((setIx o i v s).bind fun _ s => .ok .nx s)) : L2.rSetL x y z H fun H3 => Dd.nx σ H3 := by
  have ix : ∀ {n : Nat} {k : Int}, 0 ≤ k → k < n → L2.ixN n k = some k.toNat := fun {n k} h1 h2 => by
    unfold L2.ixN
    rw [if_pos h1, if_pos h2]
  rcases setIx_cases (o := o) (i := i) (v := v) (s := s) with h | ⟨j, k, d, xs, rfl, rfl, rfl, hc, h0, h1, h⟩ | ⟨n, k, d, xs, rfl, rfl, rfl, hc, h0, h1, h⟩
  · rw [h] at p; exact False.elim p
  · rw [h] at p
    obtain ⟨a, rfl, ha⟩ := ro
    obtain ⟨zs, vs, hc', hh, rr⟩ := R.cellF ha
    rw [hc] at hc'; cases hc'
    have hl := relDs_len rr
    cases ri
    exact ⟨a, vs, k, k.toNat, rfl, rfl, hh, ix h0 (by omega), p γ σ _ (stp_cell R (.inl (List.mem_of_getElem? ha))).toStm (R.setF ha (relDs_set rr rv _))⟩
  · rw [h] at p
    cases ro with
    | ref ha =>
      obtain ⟨zs, vs, hc', hh, rr⟩ := R.cellG ha hc
      rw [hc] at hc'; cases hc'
      have hl := relDs_len rr
      cases ri
      exact ⟨_, vs, k, k.toNat, rfl, rfl, hh, ix h0 (by omega), p γ σ _ (stp_cell R (.inr (List.mem_of_getElem? ha))).toStm (R.setG ha (relDs_set rr rv _))⟩
theorem s_seti (G : GoodS P N Γ RX k X W sc) {a i e : E} {x y v : Expr} {p1 pos : PySem.Pos} (hs : notSlice y = true) (he : PE X v (tE X.K RX W (ev Γ e))) (ha : PE X x (tE X.K RX W (ev Γ a))) (hi : PE X y (tE X.K RX W (ev Γ i))) :
    PS X (.Assign [.Subscript x y p1] v pos) (tS X.K RX W (ex Γ (.seti a i e))) := by
  have hasg : ∀ w, PySem.assign (.Subscript x y p1) X.env w = (do
      let ov ← PySem.holding [w] (PySem.eval x X.env)
      let iv ← PySem.holding [w, ov] (PySem.eval y X.env)
      PySem.standAt p1
      PySem.holding [w, ov, iv] (PySem.setItem ov iv w)
      PySem.release [w, ov, iv] []) := by
    intro w
    cases y <;> first | rfl | cases hs
  have hsw : PySem.swapsWithSole [.Subscript x y p1] v pos.line X.env = pure false := by cases v <;> rfl
  have hst : PySem.swappedStores [.Subscript x y p1] v X.env = pure none := by cases v <;> rfl
  refine weakS (L2.ps_asg he (L2.pg_sub ha hi L2.set_list hasg) hsw hst rfl) fun D σ H ⟨γ, s, R, p⟩ => ⟨γ, s, R, ?_⟩
  simp only [ex] at p
  refine p.bind fun v s1 γ1 H1 u st1 R1 r1 p1 => ⟨γ1, s1, R1, p1.bind fun o s2 γ2 H2 w st2 R2 r2 p2 => ⟨γ2, s2, R2, p2.bind fun iv s3 γ3 H3 z st3 R3 r3 p3 => ?_⟩⟩
  exact set_rel R3 (r2.step st3 R2.tups) r3 ((r1.step st2 R1.tups).step st3 R2.tups) p3
theorem s_ite {t : E} {b o : T} {c : Expr} {bs os : List Stmt} {pos : PySem.Pos} (ht : PT X c (tT X.K RX W (evT Γ t))) (hb : PSs X bs (tS X.K RX W (ex Γ b))) (ho : PSs X os (tS X.K RX W (ex Γ o))) : PS X (.If c bs os pos) (tS X.K RX W (ex Γ (.ite t b o))) := by
  refine weakS (L2.ps_if ht hb ho) fun D σ H ⟨γ, s, R, p⟩ => ⟨γ, s, R, ?_⟩
  simp only [ex] at p
  refine p.bind fun k s1 γ1 H1 x st1 R1 r1 p1 => ?_
  subst r1
  cases k with
  | true => exact ⟨γ1, s1, R1, p1⟩
  | false => exact ⟨γ1, s1, R1, p1⟩
theorem s_ret {e : E} {v : Expr} {pos : PySem.Pos} (he : PE X v (tE X.K RX W (ev Γ e))) : PS X (.Return (some v) pos) (tS X.K RX W (ex Γ (.ret e))) := by
  refine weakS (L2.ps_ret he) fun D σ H ⟨γ, s, R, p⟩ => ⟨γ, s, R, ?_⟩
  simp only [ex] at p
  exact p.bind fun v s1 γ1 H1 x st1 R1 r1 p1 => p1 γ1 σ H1 x (Stm.refl _ _) R1 r1
theorem s_retN {pos : PySem.Pos} : PS X (.Return none pos) (tS X.K RX W (ex Γ .retN)) := by
  refine weakS L2.ps_retN fun D σ H ⟨γ, s, R, p⟩ => ?_
  simp only [ex] at p
  exact p γ σ H _ (Stm.refl _ _) R .non
theorem s_exp {e : E} {v : Expr} {pos : PySem.Pos} (hc : notComp v = true) (he : PE X v (tE X.K RX W (ev Γ e))) : PS X (.Expr v pos) (tS X.K RX W (ex Γ (.exp e))) := by
  have hsw : PySem.swapsWith v none pos.line X.env = pure false := by cases v <;> first | rfl | cases hc
  refine weakS (L2.ps_expr he hsw) fun D σ H ⟨γ, s, R, p⟩ => ⟨γ, s, R, ?_⟩
  simp only [ex] at p
  exact p.bind fun v s1 γ1 H1 x st1 R1 r1 p1 => p1 γ1 σ H1 (Stm.refl _ _) R1
theorem s_brk {pos : PySem.Pos} : PS X (.Break pos) (tS X.K RX W (ex Γ .brk)) := by
  refine weakS L2.ps_break fun D σ H ⟨γ, s, R, p⟩ => ?_
  simp only [ex] at p
  exact p γ σ H (Stm.refl _ _) R
theorem s_cnt {pos : PySem.Pos} : PS X (.Continue pos) (tS X.K RX W (ex Γ .cnt)) := by
  refine weakS L2.ps_continue fun D σ H ⟨γ, s, R, p⟩ => ?_
  simp only [ex] at p
  exact p γ σ H (Stm.refl _ _) R
theorem s_pass {pos : PySem.Pos} : PS X (.Pass pos) (tS X.K RX W (ex Γ .pass)) := by
  refine weakS L2.ps_pass fun D σ H ⟨γ, s, R, p⟩ => ?_
  simp only [ex] at p
  exact p γ σ H (Stm.refl _ _) R
theorem b_nil : PSs X [] (tS X.K RX W (ex Γ .nil)) := by
  refine weakB L2.pss_nil fun D σ H ⟨γ, s, R, p⟩ => ?_
  simp only [ex] at p
  exact p γ σ H (Stm.refl _ _) R
theorem b_cons {h t : T} {x : Stmt} {xs : List Stmt} (hh : PS X x (tS X.K RX W (ex Γ h))) (ht : PSs X xs (tS X.K RX W (ex Γ t))) : PSs X (x :: xs) (tS X.K RX W (ex Γ (.cons h t))) := by
  refine weakB (L2.pss_cons hh ht) fun D σ H ⟨γ, s, R, p⟩ => ⟨γ, s, R, ?_⟩
  simp only [ex] at p
  cases e : ex Γ h s with
  | bad => simp only [e, Mp.R.bind] at p; exact p
  | ex _ _ => simp only [e, Mp.R.bind] at p; exact p
  | ok f s1 =>
    simp only [e, Mp.R.bind] at p
    cases f with
    | nx => exact fun γ1 σ1 H1 st1 R1 => ⟨γ1, s1, R1, SPost.from st1 p⟩
    | bk => exact p
    | ct => exact p
    | rt v => exact p

/-! ### attributes -/
theorem s_seta (G : GoodS P N Γ RX k X W sc) {cs : List Str} {f : Str} {a e : E} {x v : Expr} {p1 pos : PySem.Pos} (hcs : cs.all (P.fldB f) = true) (hc : notComp v = true) (ha : PE X x (tE X.K RX W (ev Γ a))) (he : PE X v (tE X.K RX W (ev Γ e))) :
    PS X (.Assign [.Attribute x f p1] v pos) (tS X.K RX W (ex Γ (.seta cs f a e))) := by
  have hsw : PySem.swapsWith v (some (.Attribute x f p1)) pos.line X.env = pure false := by cases v <;> first | rfl | cases hc
  refine weakS (L2.ps_fld ha he hsw) fun D σ H ⟨γ, s, R, p⟩ => ⟨γ, s, R, ?_⟩
  simp only [ex] at p
  refine p.bind fun w s1 γ1 H1 y st1 R1 r1 p1 => ⟨γ1, s1, R1, p1.bind fun o s2 γ2 H2 u st2 R2 r2 p2 => ?_⟩
  unfold setAtt at p2
  split at p2
  · rename_i n c ns vs d e
    by_cases hk : c ∈ cs ∧ ns.length < 100
    · rw [if_pos hk] at p2
      obtain ⟨a', dx, fs, rfl, rfl, hp, hg, hh, hn, rr⟩ := ins_rel R2 r2 e
      obtain ⟨c1, c2⟩ := fldB_of G.toGood hcs hk.1
      have r1' := r1.step st2 R1.tups
      have st3 := stp_cell (o := .ins (clsOf X.K c) dx (L2.putF f y fs)) R2 (.inr (List.mem_of_getElem? hp))
      have rr' := putF_rel (f := f) r1' rr
      subst hn
      refine ⟨a', _, dx, fs, rfl, hh, c1, c2, by have := hk.2; rw [List.length_map] at this; omega, ?_⟩
      refine p2 γ2 σ _ st3.toStm (R2.setGC hp (.inr ⟨c, _, _, dx, L2.putF f y fs, rfl, upd_same, rr'.1, RelDs.step st3.toSts R2.tups _ _ rr'.2⟩))
    · rw [if_neg hk] at p2; exact False.elim p2
  · exact False.elim p2
/-! ### more assignments -/
theorem SPost.nx {γ1 : Gh} {σ σ' : L2.St} {H1 : Hp} {s' : S} {D : Ends} (p : SPost X.K RX W γ1 H1 D (.ok .nx s')) (R1 : Rel X.K γ1 s' σ' H1) : D.nx σ' H1 := p γ1 _ H1 (Stm.refl _ _) R1
theorem names_len : ∀ {tg : List Nat} {es : List Expr}, namesB N sc tg es = true → es.length = tg.length
  | [], [], _ => rfl
  | _ :: _, .Name _ _ :: _, h => by
    simp only [namesB, Bool.and_eq_true] at h
    simp only [List.length_cons, names_len h.2]
  | [], _ :: _, h => by simp [namesB] at h
  | _ :: _, [], h => by simp [namesB] at h
theorem s_parn (G : GoodS P N Γ RX k X W sc) {tg : List Nat} {es : E} {ts us : List Expr} {kt k2 : Nat} {pt pt2 pos : PySem.Pos} (h1 : namesB N sc tg ts = true) (h2 : 3 < tg.length) (ha : PA X us (tA X.K RX W (evs Γ es))) :
    PS X (.Assign [.Tuple ts kt pt] (.Tuple us k2 pt2) pos) (tS X.K RX W (ex Γ (.parn tg es))) := by
  obtain ⟨g1, g2, g3⟩ := pgs_names G.toGood tg ts h1
  have hl := names_len h1
  have hsw : PySem.swappedStores [.Tuple ts kt pt] (.Tuple us k2 pt2) X.env = pure none := by
    have e2 : (ts.length == 2) = false := by simp only [beq_eq_false_iff_ne, ne_eq]; omega
    have e3 : (ts.length == 3) = false := by simp only [beq_eq_false_iff_ne, ne_eq]; omega
    unfold PySem.swappedStores
    simp only [e2, e3, Bool.or_self, Bool.not_false, Bool.true_or, if_true]
  refine weakS (L2.ps_asg (L2.pe_tup ha) (L2.pg_tup G.calm g1 g2 g3) (by rfl) hsw) fun D σ H ⟨γ, s, R, p⟩ => ⟨γ, s, R, ?_⟩
  simp only [ex] at p
  refine p.bind fun vs s1 γ1 H1 us st1 R1 r1 p1 => ?_
  by_cases hc : vs.length = tg.length ∧ vs.length ≤ LINE
  · rw [if_pos hc] at p1
    have hl2 := relVals_len r1
    refine ⟨line_le (by rw [← hl2]; exact hc.2), fun a hn => ⟨a, us, rfl, .inl (.inl upd_same), by rw [← hl2]; exact hc.1, by rw [← hl2]; exact hc.1, ?_⟩⟩
    have st := Stp.new (o := .tup us) γ1 hn
    exact p1 γ1 _ _ st.toStm (setV_relA tg (R1.new hn) (RelVals.step st R1.tups r1))
  · rw [if_neg hc] at p1; exact False.elim p1
theorem s_unp (G : GoodS P N Γ RX k X W sc) {tg : List Nat} {e : E} {ts : List Expr} {kt : Nat} {pt pos : PySem.Pos} {v : Expr} (h1 : tgB N sc tg (.Tuple ts kt pt) = true) (hv : notTup v = true) (he : PE X v (tE X.K RX W (ev Γ e))) :
    PS X (.Assign [.Tuple ts kt pt] v pos) (tS X.K RX W (ex Γ (.unp tg e))) := by
  have hsw : PySem.swappedStores [.Tuple ts kt pt] v X.env = pure none := by cases v <;> first | rfl | cases hv
  have hss : PySem.swapsWithSole [.Tuple ts kt pt] v pos.line X.env = pure false := by cases v <;> rfl
  refine weakS (L2.ps_asg he (s_tg G.toGood h1) hss hsw) fun D σ H ⟨γ, s, R, p⟩ => ⟨γ, s, R, ?_⟩
  simp only [ex] at p
  refine p.bind fun w s1 γ1 H1 x st1 R1 r1 p1 => ?_
  cases w with
  | own _ => exact False.elim p1
  | d y =>
    simp only at p1
    cases hb : bindTs tg y s1 with
    | none => rw [hb] at p1; exact False.elim p1
    | some s' =>
      rw [hb] at p1
      exact ⟨γ1, s1, y, s', R1, r1, hb, fun σ' R' _ => p1 γ1 _ _ (Stm.refl _ _) R'⟩
theorem swapped3 (G : GoodS P N Γ RX k X W sc) {x y z : Str} {px py pz pt pt2 : PySem.Pos} {kt k2 : Nat} {u v w : Expr} (hx : locB sc x = true) (hy : locB sc y = true) (hz : locB sc z = true) (hl : (py.line == px.line) = true) (hl2 : (pz.line == px.line) = true) (n1 : x ≠ y) (n2 : x ≠ z) (n3 : y ≠ z)
    (su : notStar u = true) (sv : notStar v = true) (sw : notStar w = true) (h1 : [u, v, w].all (PySem.foldedForSure 8) = false) (h2 : [u, v, w].all (PySem.constantsAlone 8) = false) :
    PySem.swappedStores [.Tuple [.Name x px, .Name y py, .Name z pz] kt pt] (.Tuple [u, v, w] k2 pt2) X.env = pure (some [x, y, z]) := by
  have hb : X.env.blockKind = .function := by unfold PySem.Env.blockKind; rw [G.kind]; rfl
  have kx : X.env.kindOf x = some .local := G.loc x hx
  have ky : X.env.kindOf y = some .local := G.loc y hy
  have kz : X.env.kindOf z = some .local := G.loc z hz
  have hst : ([u, v, w].any fun | .Starred .. => true | _ => false) = false := by
    have a : ∀ {w : Expr}, notStar w = true → (match w with | .Starred .. => true | _ => false) = false := fun {w} h => by cases w <;> first | rfl | cases h
    simp only [List.any_cons, List.any_nil, a su, a sv, a sw, Bool.or_self]
  have hl' : py.line = px.line := by simpa using hl
  have hl2' : pz.line = px.line := by simpa using hl2
  have hd : ([x, y, z] : List Str).eraseDups = [x, y, z] := by
    have e1 : (y == x) = false := beq_eq_false_iff_ne.mpr (Ne.symm n1)
    have e2 : (z == x) = false := beq_eq_false_iff_ne.mpr (Ne.symm n2)
    have e3 : (z == y) = false := beq_eq_false_iff_ne.mpr (Ne.symm n3)
    simp [List.eraseDups_cons, e1, e2, e3]
  unfold PySem.swappedStores
  simp only [hb, hst, List.length_cons, List.length_nil, List.head?_cons, Option.map_some, Option.getD_some, PySem.Expr.pos, List.filterMap_cons, List.filterMap_nil, kx, ky, kz, hl', hl2', h1, h2, hd, beq_self_eq_true, Bool.and_self, if_true]
  rw [if_neg (by decide)]
  exact (if_neg (fun z => Bool.false_ne_true (hst.symm.trans z))).trans rfl
theorem relVals_three {K : PySem.W.Frag} {γ : Gh} {H : Hp} {u v w : Val} {xs : List V} (h : RelVals K γ H [u, v, w] xs) : ∃ x y z, xs = [x, y, z] ∧ RelVal K γ H u x ∧ RelVal K γ H v y ∧ RelVal K γ H w z := by
  cases h with
  | cons a t => obtain ⟨y, z, rfl, b, c⟩ := relVals_two t; exact ⟨_, y, z, rfl, a, b, c⟩
theorem s_par3 (G : GoodS P N Γ RX k X W sc) {i j l : Nat} {a b c : E} {x y z : Str} {px py pz pt pt2 pos : PySem.Pos} {kt k2 : Nat} {u v w : Expr} (hi : N[i]? = some x) (hj : N[j]? = some y) (hk : N[l]? = some z) (hij : i ≠ j) (hil : i ≠ l) (hjl : j ≠ l)
    (hx : locB sc x = true) (hy : locB sc y = true) (hz : locB sc z = true) (su : notStar u = true) (sv : notStar v = true) (sw : notStar w = true)
    (hw : PySem.swappedStores [.Tuple [.Name x px, .Name y py, .Name z pz] kt pt] (.Tuple [u, v, w] k2 pt2) X.env = pure (some [x, y, z])) (ha : PE X u (tE X.K RX W (ev Γ a))) (hb : PE X v (tE X.K RX W (ev Γ b))) (hc : PE X w (tE X.K RX W (ev Γ c))) :
    PS X (.Assign [.Tuple [.Name x px, .Name y py, .Name z pz] kt pt] (.Tuple [u, v, w] k2 pt2) pos) (tS X.K RX W (ex Γ (.par3 i j l a b c))) := by
  refine weakS (L2.ps_par3 G.calm (by rw [G.hN]; exact G.nd) (by rw [G.hN]; exact hi) (by rw [G.hN]; exact hj) (by rw [G.hN]; exact hk) hij hil hjl (G.loc x hx) (G.loc y hy) (G.loc z hz) (s_cons su ha (s_cons sv hb (s_cons sw hc s_nil))) hw) fun D σ H ⟨γ, s, R, p⟩ => ⟨γ, s, R, ?_⟩
  simp only [ex] at p
  refine p.bind fun vs s1 γ1 H1 us st1 R1 r1 p1 => ?_
  split at p1
  · obtain ⟨x1, x2, x3, rfl, r1, r2, r3⟩ := relVals_three r1
    exact ⟨x1, x2, x3, rfl, p1 γ1 _ H1 (Stm.refl _ _) (((R1.set i r1).set j r2).set l r3)⟩
  · exact False.elim p1
theorem s_rs {e1 e2 : Option Expr} {pos : PySem.Pos} : PS X (.Raise e1 e2 pos) (tS X.K RX W (ex Γ .rs)) := ⟨fun ps s σ H D I ⟨γ, s', R, p⟩ => by
  simp only [ex] at p
  exact False.elim p⟩
/-! ### an own list is let go -/
theorem rel_frz {K : PySem.W.Frag} {γ : Gh} {s : S} {σ : L2.St} {H : Hp} (R : Rel K γ s σ H) (i : Nat) : ∃ γ', Stm γ H γ' H ∧ Rel K γ' (frzS i s) σ H := by
  unfold frzS
  split
  · rename_i j e
    split
    · rename_i xs ex
      obtain ⟨x, hx, a, rfl, ha⟩ := R.slot i _ e
      obtain ⟨ys, vs, hc, hh, rr⟩ := R.cellF ha
      rw [ex] at hc; cases hc
      have mp : ∀ b, some b ∈ γ.pf.set j none → some b ∈ γ.pf := fun b h => (List.mem_or_eq_of_mem_set h).elim id (fun z => nomatch z)
      have gp : ∀ (k : Nat) (b : Addr), (γ.pf.set j none)[k]? = some (some b) → k ≠ j ∧ γ.pf[k]? = some (some b) := fun k b h => by
        by_cases z : j = k
        · subst z
          have hj : j < γ.pf.length := (List.getElem?_eq_some_iff.mp ha).1
          rw [List.getElem?_set_self hj] at h; cases h
        · rw [List.getElem?_set_ne z] at h
          exact ⟨fun q => z q.symm, h⟩
      have hl : Les γ { γ with pf := γ.pf.set j none } := ⟨List.prefix_refl _, fun b h => by
        rcases h with h | h | h
        · exact .inl h
        · exact .inr (.inl (mp b h))
        · exact .inr (.inr h)⟩
      have nb : ¬ ({ γ with pf := γ.pf.set j none } : Gh).Bad a := by
        rintro ((h | h) | h | h)
        · exact R.fnew a (List.mem_of_getElem? ha) (R.bo a h).1
        · exact (R.tm a h).2.1 (List.mem_of_getElem? ha)
        · obtain ⟨n, hn⟩ := List.mem_iff_getElem?.mp h
          obtain ⟨q1, q2⟩ := gp n a hn
          exact q1 (R.ndf n j a q2 ha)
        · exact R.dis a (List.mem_of_getElem? ha) h
      refine ⟨{ γ with pf := γ.pf.set j none }, ⟨⟨rfl, rfl, rfl, fun _ h => .inl h, List.prefix_refl _, fun _ _ h _ _ _ => h, fun _ h => h, fun b h => .inl (mp b h), fun _ h => .inl h, fun t => t⟩, rfl⟩, ?_⟩
      exact {
        len := by rw [List.length_map]; exact R.len
        slot := fun n v h => by
          simp only [List.getElem?_map, Option.map_eq_some_iff] at h
          obtain ⟨o, h1, h2⟩ := h
          cases o with
          | none => cases h2
          | some w =>
            obtain ⟨y, hy, ry⟩ := R.slot n w h1
            refine ⟨y, hy, ?_⟩
            cases w with
            | d z => cases h2; exact RelD.les hl _ _ ry
            | own m =>
              obtain ⟨b, rfl, hb⟩ := ry
              simp only [unown] at h2
              split at h2
              · rename_i q
                subst q
                cases h2
                rw [ha] at hb; cases hb
                exact .lst hh nb (RelDs.les hl _ _ rr)
              · rename_i q
                cases h2
                exact ⟨b, rfl, by rw [List.getElem?_set_ne (Ne.symm q)]; exact hb⟩
        fl := by rw [List.length_set, List.length_set]; exact R.fl
        fc := fun n b c h1 h2 => by
          obtain ⟨q1, q2⟩ := gp n b h1
          rw [List.getElem?_set_ne (Ne.symm q1)] at h2
          exact CellOk.les hl (R.fc n b c q2 h2)
        gl := R.gl
        gc := fun n b c h1 h2 => CellG.les hl (R.gc n b c h1 h2)
        ndf := fun n m b h1 h2 => R.ndf n m b (gp n b h1).2 (gp m b h2).2
        ndg := R.ndg
        dis := fun b h => R.dis b (mp b h)
        bo := R.bo
        fnew := fun b h => R.fnew b (mp b h)
        gnew := R.gnew
        pre := R.pre
        frame := R.frame
        tb := R.tb
        trk := R.trk
        tm := fun b h => ⟨(R.tm b h).1, fun z => (R.tm b h).2.1 (mp b z), (R.tm b h).2.2⟩ }
    · exact ⟨γ, Stm.refl _ _, R⟩
  · exact ⟨γ, Stm.refl _ _, R⟩
theorem b_frz {i : Nat} {t : T} {xs : List Stmt} (h : PSs X xs (tS X.K RX W (ex Γ t))) : PSs X xs (tS X.K RX W (ex Γ (.frz i t))) := by
  refine weakB h fun D σ H ⟨γ, s, R, p⟩ => ?_
  simp only [ex] at p
  obtain ⟨γ', st, R'⟩ := rel_frz R i
  exact ⟨γ', frzS i s, R', SPost.from st p⟩

/-! ### loops -/
theorem s_tgS (G : GoodS P N Γ RX k X W sc) {tg : List Nat} {e : Expr} (h : (tgB N sc tg e || oneT N sc tg e) = true) : PG X e (gT X.K tg) := by
  rcases Bool.or_eq_true _ _ |>.mp h with h | h
  · exact s_tg G.toGood h
  · unfold oneT at h
    split at h
    · simp only [Bool.and_eq_true, decide_eq_true_eq] at h
      exact weakG (L2.pg_name (by rw [G.hN]; exact G.nd) (by rw [G.hN]; exact h.1) (storeB_of G h.2) (.inl (G.fn _))) gT_one
    · cases h
theorem s_for (G : GoodS P N Γ RX k X W sc) {tg : List Nat} {it : E} {b : T} {tx iter : Expr} {bs : List Stmt} {pos : PySem.Pos} (ht : (tgB N sc tg tx || oneT N sc tg tx) = true) (hi : PI X tx iter (tI X.K RX W (evI Γ it))) (hset : notSet iter = true) (hb : PSs X bs (tS X.K RX W (ex Γ b))) :
    PS X (.For tx iter bs [] pos) (tS X.K RX W (ex Γ (.for_ tg it b))) := by
  refine weakS (L2.ps_for G.pass G.calm hi (s_tgS G ht) hb (fun x => set_of hset x)) fun D σ H ⟨γ, s, R, p⟩ => ⟨γ, s, R, ?_⟩
  simp only [ex] at p
  cases e : evI Γ it s with
  | bad => simp only [e, Mp.R.bind] at p; exact p
  | ex _ _ => simp only [e, Mp.R.bind] at p; exact fun γ1 H1 c d st1 => p γ1 σ H1 c d st1.toStm
  | ok xs s1 =>
    simp only [e, Mp.R.bind] at p
    intro γ1 H1 J st1 R1 wk
    refine ⟨fun i m σ' H' => m = xs.length - i ∧ i ≤ xs.length ∧ ∃ γ2 s2, Stm γ1 H1 γ2 H' ∧ Rel X.K γ2 s2 σ' H' ∧ SPost X.K RX W γ2 H' D (forGo tg (ex Γ b) (xs.drop i) s2), ⟨xs.length, by simp, Nat.zero_le _, γ1, s1, Stm.refl _ _, R1, SPost.from st1.toStm p⟩, ?_⟩
    rintro i m σ' H' ⟨rfl, hi2, γ2, s2, st2, R2, p2⟩
    by_cases hlt : i < xs.length
    · have hx : xs[i]? = some xs[i] := List.getElem?_eq_getElem hlt
      refine .inr ⟨wk.go i γ2 H' st2.toSts hlt, fun σ'' H'' => i + 1 ≤ xs.length ∧ ∃ γ2 s2, Stm γ1 H1 γ2 H'' ∧ Rel X.K γ2 s2 σ'' H'' ∧ SPost X.K RX W γ2 H'' D (forGo tg (ex Γ b) (xs.drop (i + 1)) s2), fun σ'' H'' q => ⟨xs.length - (i + 1), by omega, rfl, q⟩, fun x H3 hy => ?_⟩
      obtain ⟨hnew, rx⟩ := wk.yld i γ2 H' x H3 xs[i] st2.toSts hy hx
      obtain ⟨st3, R3⟩ : Stp γ2 H' γ2 H3 ∧ Rel X.K γ2 s2 σ' H3 := by
        rcases hnew with rfl | ⟨T, o, hT, rfl⟩
        · exact ⟨Stp.refl _ _, R2⟩
        · exact ⟨Stp.new γ2 hT, R2.new hT⟩
      rw [List.drop_eq_getElem_cons hlt] at p2
      unfold forGo at p2
      cases hb2 : bindTs tg xs[i] s2 with
      | none => rw [hb2] at p2; exact False.elim p2
      | some sb =>
        rw [hb2] at p2
        simp only at p2
        refine ⟨γ2, s2, xs[i], sb, R3, rx, hb2, fun σ4 R4 _ => ⟨γ2, sb, R4, ?_⟩⟩
        have p3 := SPost.from st3.toStm p2
        have st13 := st2.trans st3.toStm
        cases e2 : ex Γ b sb with
        | bad => simp only [e2, Mp.R.bind] at p3; exact p3
        | ex _ _ => simp only [e2, Mp.R.bind] at p3; exact p3
        | ok f s3 =>
          simp only [e2, Mp.R.bind] at p3
          cases f with
          | nx => exact fun γ5 σ5 H5 st5 R5 => ⟨hlt, γ5, s3, st13.trans st5, R5, SPost.from st5 p3⟩
          | ct => exact fun γ5 σ5 H5 st5 R5 => ⟨hlt, γ5, s3, st13.trans st5, R5, SPost.from st5 p3⟩
          | bk => exact p3
          | rt v => exact p3
    · have e : i = xs.length := by omega
      subst e
      refine .inl ⟨wk.stop γ2 H' st2.toSts, ?_⟩
      rw [List.drop_length] at p2
      simp only [forGo] at p2
      exact p2 γ2 σ' H' (Stm.refl _ _) R2
theorem s_while (G : GoodS P N Γ RX k X W sc) {t : E} {b : T} {c : Expr} {bs : List Stmt} {pos : PySem.Pos} (ht : PT X c (tT X.K RX W (evT Γ t))) (hb : PSs X bs (tS X.K RX W (ex Γ b))) : PS X (.While c bs [] pos) (tS X.K RX W (ex Γ (.while_ t b))) := by
  refine weakS (L2.ps_while G.pass ht hb) fun D σ H ⟨γ, s, R, p⟩ => ?_
  simp only [ex] at p
  refine ⟨fun m σ' H' => ∃ γ2 s2, Rel X.K γ2 s2 σ' H' ∧ SPost X.K RX W γ2 H' D (whileGo (evT Γ t) (ex Γ b) m s2), ⟨LINE, γ, s, R, p⟩, ?_⟩
  rintro m σ' H' ⟨γ2, s2, R2, p2⟩
  cases m with
  | zero => exact False.elim p2
  | succ m =>
    unfold whileGo at p2
    refine ⟨γ2, s2, R2, p2.bind fun k s3 γ3 H3 k' st3 R3 r3 p3 => ?_⟩
    subst r3
    cases k with
    | false => exact p3 γ3 σ' H3 (Stm.refl _ _) R3
    | true =>
      simp only [if_true] at p3 ⊢
      refine ⟨fun σ5 H5 => ∃ γ2 s2, Rel X.K γ2 s2 σ5 H5 ∧ SPost X.K RX W γ2 H5 D (whileGo (evT Γ t) (ex Γ b) m s2), fun σ5 H5 q => ⟨m, Nat.lt_succ_self m, q⟩, γ3, s3, R3, ?_⟩
      cases e2 : ex Γ b s3 with
      | bad => simp only [e2, Mp.R.bind] at p3; exact p3
      | ex _ _ => simp only [e2, Mp.R.bind] at p3; exact p3
      | ok f s4 =>
        simp only [e2, Mp.R.bind] at p3
        cases f with
        | nx => exact fun γ5 σ5 H5 st5 R5 => ⟨γ5, s4, R5, SPost.from st5 p3⟩
        | ct => exact fun γ5 σ5 H5 st5 R5 => ⟨γ5, s4, R5, SPost.from st5 p3⟩
        | bk => exact p3
        | rt v => exact p3
end
end Mp

/-! Mp: several targets; raise; try. -/
namespace Mp
open PySem (Addr Value Expr Stmt Str Scope Env NameKind ExceptHandler)
open L2 (V HO Hp upd upd_same upd_ne SqT SqL PE PA PG PS PSs PGs Cx TE TA TG TGs TS VK XK WX Ends Takes Vis RelV)
variable [TabT]
section
variable {P : Prg} {N : List Str} {Γ : Callee} {RX : ExRel} {k : Nat} {X : Cx} {W : WX} {sc : Scope}

/-! ### targets -/
section
variable (K : PySem.W.Frag) (RX : ExRel) (W : WX)
def FP {α : Type} (γ : Gh) (H : Hp) (Q : L2.St → Hp → Prop) (r : R α) : Prop :=
  match r with
  | .ok _ s' => ∀ (γ' : Gh) (τ : L2.St) (H' : Hp), Stp γ H γ' H' → Rel K γ' s' τ H' → Q τ H'
  | .ex e s' => ∀ (γ' : Gh) (τ : L2.St) (H' : Hp) (c : Value) (d : Option Addr), Stm γ H γ' H' → Rel K γ' s' τ H' → RX γ' H' e c d → W c d τ H'
  | .bad => False
/-- a store to a target -/
def gTg (m : Val → S → R Unit) : TG := fun x σ H Q => ∃ γ s v, Rel K γ s σ H ∧ RelVal K γ H v x ∧ FP K RX W γ H Q (m v s)
def gAll (m : List Val → S → R Fl) : TGs := fun xs σ H Q => ∃ γ s vs, Rel K γ s σ H ∧ RelVals K γ H vs xs ∧ FP K RX W γ H Q (m vs s)
end
section
variable {K : PySem.W.Frag} {γ : Gh} {H : Hp} {σ : L2.St} {Q : L2.St → Hp → Prop}
theorem FP.from {α : Type} {r : R α} {γ1 : Gh} {H1 : Hp} (st : Stp γ H γ1 H1) (p : FP K RX W γ H Q r) : FP K RX W γ1 H1 Q r := by
  cases r with
  | bad => exact p
  | ok a s => exact fun γ2 τ H2 st2 R2 => p γ2 τ H2 (st.trans st2) R2
  | ex e s => exact fun γ2 τ H2 c d st2 R2 r2 => p γ2 τ H2 c d (st.toStm.trans st2) R2 r2
/-- an expression ahead of a store -/
theorem FP.bind {α β δ : Type} {r : R α} {f : α → S → R δ} {rel : Gh → Hp → α → β → Prop} {Q1 : β → Hp → Prop} (p : FP K RX W γ H Q (r.bind f))
    (h : ∀ a s1 γ1 H1 b, Stp γ H γ1 H1 → Rel K γ1 s1 σ H1 → rel γ1 H1 a b → FP K RX W γ1 H1 Q (f a s1) → Q1 b H1) : Post K RX W γ H σ rel r Q1 := by
  cases r with
  | bad => exact p
  | ex e s => exact fun γ1 H1 c d st R1 r1 => p γ1 σ H1 c d st.toStm R1 r1
  | ok a s1 => exact fun γ1 H1 b st R1 r1 => h a s1 γ1 H1 b st R1 r1 (FP.from st p)
/-- one store ahead of others -/
theorem FP.store {α δ : Type} {r : R α} {f : α → S → R δ} {Q1 : L2.St → Hp → Prop} (p : FP K RX W γ H Q (r.bind f))
    (h : ∀ a s1 γ1 τ H1, Stp γ H γ1 H1 → Rel K γ1 s1 τ H1 → FP K RX W γ1 H1 Q (f a s1) → Q1 τ H1) : FP K RX W γ H Q1 r := by
  cases r with
  | bad => exact p
  | ex e s => exact p
  | ok a s1 => exact fun γ1 τ H1 st R1 => h a s1 γ1 τ H1 st R1 (FP.from st p)
theorem FP.here {α : Type} {a : α} {s : S} (p : FP K RX W γ H Q (.ok a s)) {τ : L2.St} (R : Rel K γ s τ H) : Q τ H := p γ τ H (Stp.refl γ H) R
end
theorem weakGs {es : List Expr} {t t' : TGs} (h : PGs X es t) (w : ∀ vs σ H Q, t' vs σ H Q → t vs σ H Q) : PGs X es t' := ⟨fun ps s σ H v u Q I r q => h.run ps s σ H v u Q I r (w v σ H Q q)⟩
/-- o.f, stored to -/
def gFld (K : PySem.W.Frag) (to : TE) (f : Str) : TG := fun v σ H Q => to σ H fun x H2 => ∃ a C dx fs, x = .ref a ∧ H2 a = some (.ins C dx fs) ∧ L2.Cls K C ∧ L2.NoAttr K C f ∧ fs.length < 1000 ∧ Q σ (upd H2 a (.ins C dx (L2.putF f v fs)))
theorem pg_fld {o : Expr} {to : TE} {f : Str} {pos : PySem.Pos} (ho : PE X o to) : PG X (.Attribute o f pos) (gFld X.K to f) := by
  refine ⟨fun pins s σ H v u Q I r h => ?_⟩
  rw [PySem.assign_Attribute]
  refine PySem.wpAny_bind (PySem.wpAny_holding (L2.thn (ho.run pins s σ H _ I h) fun ov s1 ⟨x, H1, I1, rx, a, C, dx, fs, ex, ea, c, n, l, q⟩ => ?_))
  subst ex
  cases rx
  refine PySem.wpAny_bind (PySem.wpAny_standAt (PySem.wpAny_bind (PySem.wpAny_holding (L2.setattr_ok I1 ea c n l r fun s3 I3 => PySem.wpAny_release ⟨σ, _, I3, q⟩))))
theorem tg_nm (G : GoodS P N Γ RX k X W sc) {i : Nat} {x : Str} {pos : PySem.Pos} (h1 : N[i]? = some x) (h2 : storeB sc x = true) : PG X (.Name x pos) (gTg X.K RX W (fun v s => asg1 Γ v (.nm i) s)) := by
  refine weakG (L2.pg_name (by rw [G.hN]; exact G.nd) (by rw [G.hN]; exact h1) (storeB_of G h2) (.inl (G.fn x))) fun v σ H Q ⟨γ, s, w, R, r, p⟩ => ?_
  simp only [asg1] at p
  exact p.here (R.set i r)
theorem tg_ix {a i : E} {x y : Expr} {p1 : PySem.Pos} (hs : notSlice y = true) (ha : PE X x (tE X.K RX W (ev Γ a))) (hi : PE X y (tE X.K RX W (ev Γ i))) : PG X (.Subscript x y p1) (gTg X.K RX W (fun v s => asg1 Γ v (.ix a i) s)) := by
  have hasg : ∀ w, PySem.assign (.Subscript x y p1) X.env w = (do
      let ov ← PySem.holding [w] (PySem.eval x X.env)
      let iv ← PySem.holding [w, ov] (PySem.eval y X.env)
      PySem.standAt p1
      PySem.holding [w, ov, iv] (PySem.setItem ov iv w)
      PySem.release [w, ov, iv] []) := by
    intro w
    cases y <;> first | rfl | cases hs
  refine weakG (L2.pg_sub ha hi L2.set_list hasg) fun v σ H Q ⟨γ, s, w, R, r, p⟩ => ⟨γ, s, R, ?_⟩
  simp only [asg1] at p
  refine p.bind fun o s1 γ1 H1 u st1 R1 r1 p1 => ⟨γ1, s1, R1, p1.bind fun iv s2 γ2 H2 z st2 R2 r2 p2 => ?_⟩
  have rw' := (r.step st1 R.tups).step st2 R1.tups
  have ro := r1.step st2 R1.tups
  rcases setIx_cases (o := o) (i := iv) (v := w) (s := s2) with h | ⟨j, q, d, xs, rfl, rfl, rfl, hc, h0, h1, h⟩ | ⟨n, q, d, xs, rfl, rfl, rfl, hc, h0, h1, h⟩
  · rw [h] at p2; exact False.elim p2
  · rw [h] at p2
    obtain ⟨b, rfl, hb⟩ := ro
    obtain ⟨zs, vs, hc', hh, rr⟩ := R2.cellF hb
    rw [hc] at hc'; cases hc'
    have hl := relDs_len rr
    cases r2
    refine ⟨b, vs, q, q.toNat, rfl, rfl, hh, ?_, p2 γ2 σ _ (stp_cell R2 (.inl (List.mem_of_getElem? hb))) (R2.setF hb (relDs_set rr rw' _))⟩
    unfold L2.ixN
    rw [if_pos h0, if_pos (by omega)]
  · rw [h] at p2
    cases ro with
    | ref hb =>
      obtain ⟨zs, vs, hc', hh, rr⟩ := R2.cellG hb hc
      rw [hc] at hc'; cases hc'
      have hl := relDs_len rr
      cases r2
      refine ⟨_, vs, q, q.toNat, rfl, rfl, hh, ?_, p2 γ2 σ _ (stp_cell R2 (.inr (List.mem_of_getElem? hb))) (R2.setG hb (relDs_set rr rw' _))⟩
      unfold L2.ixN
      rw [if_pos h0, if_pos (by omega)]
theorem tg_fd (G : GoodS P N Γ RX k X W sc) {cs : List Str} {f : Str} {a : E} {x : Expr} {p1 : PySem.Pos} (hcs : cs.all (P.fldB f) = true) (ha : PE X x (tE X.K RX W (ev Γ a))) : PG X (.Attribute x f p1) (gTg X.K RX W (fun v s => asg1 Γ v (.fd cs f a) s)) := by
  refine weakG (pg_fld ha) fun v σ H Q ⟨γ, s, w, R, r, p⟩ => ⟨γ, s, R, ?_⟩
  simp only [asg1] at p
  refine p.bind fun o s2 γ2 H2 u st2 R2 r2 p2 => ?_
  unfold setAtt at p2
  split at p2
  · rename_i n c ns vs d e
    by_cases hk : c ∈ cs ∧ ns.length < 100
    · rw [if_pos hk] at p2
      obtain ⟨a', dx, fs, rfl, rfl, hp, hg, hh, hn, rr⟩ := ins_rel R2 r2 e
      obtain ⟨c1, c2⟩ := fldB_of G.toGood hcs hk.1
      have r1' := r.step st2 R.tups
      have st3 := stp_cell (o := .ins (clsOf X.K c) dx (L2.putF f v fs)) R2 (.inr (List.mem_of_getElem? hp))
      have rr' := putF_rel (f := f) r1' rr
      subst hn
      refine ⟨a', _, dx, fs, rfl, hh, c1, c2, by have := hk.2; rw [List.length_map] at this; omega, ?_⟩
      exact p2 γ2 σ _ st3 (R2.setGC hp (.inr ⟨c, _, _, dx, L2.putF f v fs, rfl, upd_same, rr'.1, RelDs.step st3.toSts R2.tups _ _ rr'.2⟩))
    · rw [if_neg hk] at p2; exact False.elim p2
  · exact False.elim p2
theorem tg_all (G : GoodS P N Γ RX k X W sc) (E' : ∀ c, Snd P N Γ RX k c) : ∀ {gs : List Tgt} {ts : List Expr}, cG P N sc gs ts = true → PGs X ts (gAll X.K RX W (asgs Γ gs)) ∧ (PySem.assignEach ts X.env).length = gs.length ∧ (PySem.assignEach ts X.env).findIdx? (·.1) = none := by
  have cons : ∀ {g : Tgt} {gs : List Tgt} {t : Expr} {ts : List Expr}, PG X t (gTg X.K RX W (fun v s => asg1 Γ v g s)) → PySem.assignEach (t :: ts) X.env = (false, PySem.assign t X.env) :: PySem.assignEach ts X.env →
      (PGs X ts (gAll X.K RX W (asgs Γ gs)) ∧ (PySem.assignEach ts X.env).length = gs.length ∧ (PySem.assignEach ts X.env).findIdx? (·.1) = none) → PGs X (t :: ts) (gAll X.K RX W (asgs Γ (g :: gs))) ∧ (PySem.assignEach (t :: ts) X.env).length = (g :: gs).length ∧ (PySem.assignEach (t :: ts) X.env).findIdx? (·.1) = none := by
    intro g gs t ts hg he ⟨i1, i2, i3⟩
    refine ⟨weakGs (L2.pgs_cons hg i1 (by rw [he]; rfl)) fun xs σ H Q ⟨γ, s, vs, R, r, p⟩ => ?_, by rw [he, List.length_cons, List.length_cons, i2], by rw [he, List.findIdx?_cons, i3]; rfl⟩
    cases r with
    | nil => exact False.elim p
    | @cons v x vs xs r rs =>
      simp only [asgs] at p
      exact ⟨x, xs, rfl, γ, s, v, R, r, p.store fun u s1 γ1 τ H1 st R1 p1 => ⟨γ1, s1, vs, R1, rs.step st R.tups, p1⟩⟩
  intro gs
  induction gs with
  | nil =>
    intro ts h
    cases ts with
    | nil => exact ⟨weakGs L2.pgs_nil fun xs σ H Q ⟨γ, s, vs, R, r, p⟩ => by
        cases r with
        | nil => exact ⟨rfl, FP.here p R⟩
        | cons _ _ => exact False.elim p, rfl, rfl⟩
    | cons _ _ => simp [cG] at h
  | cons g gs ih =>
    intro ts h
    cases ts with
    | nil => simp [cG] at h
    | cons t ts =>
      cases g with
      | nm i =>
        cases t with
        | Name x pos =>
          simp only [cG, Bool.and_eq_true, decide_eq_true_eq] at h
          exact cons (tg_nm G h.1.1 h.1.2) rfl (ih h.2)
        | _ => simp [cG] at h
      | ix a i =>
        cases t with
        | Subscript x y pos =>
          simp only [cG, Bool.and_eq_true, decide_eq_true_eq] at h
          exact cons (tg_ix h.1.2 ((E' a).e G.toGood x h.1.1.1) ((E' i).e G.toGood y h.1.1.2)) rfl (ih h.2)
        | _ => simp [cG] at h
      | fd cs f a =>
        cases t with
        | Attribute x nm pos =>
          simp only [cG, Bool.and_eq_true, decide_eq_true_eq] at h
          obtain ⟨⟨⟨rfl, h1⟩, h2⟩, h3⟩ := h
          exact cons (tg_fd G h1 ((E' a).e G.toGood x h2)) rfl (ih h3)
        | _ => simp [cG] at h
theorem s_tgs (G : GoodS P N Γ RX k X W sc) (E' : ∀ c, Snd P N Γ RX k c) {gs : List Tgt} {es : E} {ts us : List Expr} {kt k2 : Nat} {pt pt2 pos : PySem.Pos} (h1 : cG P N sc gs ts = true) (h2 : oneB sc ts = true) (ha : PA X us (tA X.K RX W (evs Γ es))) :
    PS X (.Assign [.Tuple ts kt pt] (.Tuple us k2 pt2) pos) (tS X.K RX W (ex Γ (.tgs gs es))) := by
  obtain ⟨g1, g2, g3⟩ := tg_all G E' h1
  have hsw : PySem.swappedStores [.Tuple ts kt pt] (.Tuple us k2 pt2) X.env = pure none := by
    have hlt : ∀ (f : Expr → Option Str), (∀ t, (∀ x p, t ≠ .Name x p) → f t = none) → (∀ x p, locB sc x = false → f (.Name x p) = none) → ∀ l : List Expr, oneB sc l = true → (l.filterMap f).length < l.length := by
      intro f f1 f2 l
      induction l with
      | nil => intro h; cases h
      | cons t l ih =>
        intro h
        have hle := List.length_filterMap_le f l
        by_cases ht : f t = none
        · rw [List.filterMap_cons, ht, List.length_cons]
          exact Nat.lt_succ_of_le hle
        · cases t <;> first | (refine absurd (f1 _ ?_) ht; intro _ _ e; cases e; done) | skip
          rename_i x p
          have hx : locB sc x = true := by
            cases q : locB sc x with
            | true => rfl
            | false => exact absurd (f2 x p q) ht
          simp only [oneB, hx, Bool.not_true, Bool.false_or] at h
          have := ih h
          have h3 : (List.filterMap f (.Name x p :: l)).length ≤ (List.filterMap f l).length + 1 := by
            rw [List.filterMap_cons]
            split <;> simp
          rw [List.length_cons]
          omega
    unfold PySem.swappedStores
    simp only []
    split
    · rfl
    · split
      · rfl
      · rw [if_pos]
        simp only [Bool.or_eq_true, bne_iff_ne]
        refine .inl (Nat.ne_of_lt (hlt _ ?_ ?_ _ h2))
        · intro t ht
          cases t <;> first | rfl | exact absurd rfl (ht _ _)
        · intro x p hx
          have hk := kind_loc G x
          rw [hx] at hk
          simp only [hk, Bool.false_and]
          rfl
  refine weakS (L2.ps_asg (L2.pe_tup ha) (L2.pg_tup G.calm g1 g2 g3) (by rfl) hsw) fun D σ H ⟨γ, s, R, p⟩ => ⟨γ, s, R, ?_⟩
  simp only [ex] at p
  refine p.bind fun vs s1 γ1 H1 us st1 R1 r1 p1 => ?_
  by_cases hc : vs.length = gs.length ∧ vs.length ≤ LINE
  · rw [if_pos hc] at p1
    have hl2 := relVals_len r1
    refine ⟨line_le (by rw [← hl2]; exact hc.2), fun a hn => ⟨a, us, rfl, .inl (.inl upd_same), by rw [← hl2]; exact hc.1, γ1, s1, vs, R1.new hn, RelVals.step (Stp.new γ1 hn) R1.tups r1, ?_⟩⟩
    have st := Stp.new (o := .tup us) γ1 hn
    have key : ∀ (r : Mp.R Fl), r = asgs Γ gs vs s1 → FP X.K RX W γ1 (upd H1 a (.tup us)) D.nx r := fun r e => by
      have p2 := SPost.from st.toStm (e ▸ p1)
      have shape : ∀ {gs : List Tgt} {vs : List Val} {s : S} {f : Fl} {s' : S}, asgs Γ gs vs s = .ok f s' → f = .nx := by
        intro gs
        induction gs with
        | nil => intro vs s f s' h; cases vs with
          | nil => simp only [asgs] at h; cases h; rfl
          | cons _ _ => simp only [asgs] at h; cases h
        | cons g gs ih => intro vs s f s' h; cases vs with
          | nil => simp only [asgs] at h; cases h
          | cons v vs =>
            simp only [asgs] at h
            cases q : asg1 Γ v g s with
            | bad => simp only [q, Mp.R.bind] at h; cases h
            | ex _ _ => simp only [q, Mp.R.bind] at h; cases h
            | ok u s2 => simp only [q, Mp.R.bind] at h; exact ih h
      cases r with
      | bad => exact p2
      | ex e s => exact p2
      | ok f s =>
        have := shape e.symm
        subst this
        exact fun γ2 τ H2 st2 R2 => p2 γ2 τ H2 st2.toStm R2
    exact key _ rfl
  · rw [if_neg hc] at p1; exact False.elim p1

/-! ### raise -/
theorem excB_of {c : Str} {np : Nat} {fl : List (Str × Nat)} (h : P.excB c np fl = true) : ∃ d ∈ P.exs, d.name = c ∧ d.np = np ∧ d.flds = fl ∧ ∀ p ∈ fl, 1 ≤ p.2 ∧ p.2 ≤ np := by
  unfold Prg.excB at h
  obtain ⟨d, hd, h1⟩ := List.any_eq_true.mp h
  simp only [Bool.and_eq_true, decide_eq_true_eq] at h1
  obtain ⟨⟨⟨h1, h2⟩, h3⟩, h4⟩ := h1
  refine ⟨d, hd, h1, h2, h3, fun p hp => ?_⟩
  have := List.all_eq_true.mp h4 p hp
  simpa using this
theorem fsOf_eq (vs : List V) : ∀ (fl : List (Str × Nat)) (acc : List (Str × V)), fsOf vs fl acc = (fl.map fun p => (p.1, vs.getD p.2 .non)).reverse ++ acc
  | [], acc => rfl
  | (f, i) :: fl, acc => by
    simp only [fsOf, fsOf_eq vs fl, List.map_cons, List.reverse_cons, List.append_assoc, List.cons_append, List.nil_append]
theorem fld_rel {K : PySem.W.Frag} {γ : Gh} {H : Hp} {ds : List D} {us : List V} {a : Addr} (r : RelDs K γ H ds us) : ∀ {fl : List (Str × Nat)}, (∀ p ∈ fl, 1 ≤ p.2) → RelDs K γ H (fl.map fun p => ds.getD (p.2 - 1) .non) (fl.map fun p => (V.ref a :: us).getD p.2 .non)
  | [], _ => .nil
  | (f, i) :: fl, h => by
    refine .cons ?_ (fld_rel r fun p hp => h p (List.mem_cons_of_mem _ hp))
    have h1 := h (f, i) List.mem_cons_self
    have e : ∀ {ds : List D} {us : List V} (n : Nat), RelDs K γ H ds us → RelD K γ H (ds.getD n .non) (us.getD n .non) := by
      intro ds
      induction ds with
      | nil => intro us n r; cases r; exact .non
      | cons d ds ih =>
        intro us n r
        cases r with
        | cons h t =>
          cases n with
          | zero => exact h
          | succ n => exact ih n t
    show RelD K γ H (ds.getD (i - 1) .non) ((V.ref a :: us).getD i .non)
    have : (V.ref a :: us).getD i .non = us.getD (i - 1) .non := by
      cases i with
      | zero => exact (Nat.not_succ_le_zero _ h1).elim
      | succ n => rfl
    rw [this]
    exact e _ r
theorem s_rsx (G : GoodS P N Γ RX k X W sc) {c : Str} {np : Nat} {fl : List (Str × Nat)} {es : E} {y : Expr} {ys : List Expr} {p1 p2 pos : PySem.Pos} (hg : glB sc c = true) (hd : notDbg c = true) (hx : P.excB c np fl = true) (hs : cL P N es sc (y :: ys) = true)
    (ha : PA X (y :: ys) (tA X.K RX W (evs Γ es))) : PS X (.Raise (some (.Call (.Name c p1) (y :: ys) [] p2)) none pos) (tS X.K RX W (ex Γ (.rsx c np fl es))) := by
  obtain ⟨d, hD, rfl, rfl, rfl, hp⟩ := excB_of hx
  have EG := G.exs d hD
  obtain ⟨f, i1, i2, hw⟩ := EG.how
  obtain ⟨hst, t, htl⟩ := cL_cons hs
  unfold notDbg at hd
  simp only [Bool.and_eq_true, Bool.not_eq_true', decide_eq_false_iff_not] at hd
  have hpass : L2.Passes (L2.CX X.prog X.w) X (fun _ _ _ => False) := L2.passes_call (W := fun _ _ _ _ => False) (G.tk.imp fun _ _ _ _ z => z.elim) fun _ _ _ _ z => z
  have outC : ∀ (γ1 : Gh) (s1 : S) (σ : L2.St) (H1 : Hp) (D : Ends) (ds : List Mp.D) (us : List V), Rel X.K γ1 s1 σ H1 → RelDs X.K γ1 H1 ds us →
      SPost X.K RX W γ1 H1 D (.ex ⟨d.name, (d.flds.map Prod.fst).reverse, (d.flds.map fun p => ds.getD (p.2 - 1) .non).reverse⟩ s1) →
      (d.flds = [] → W (.ref (clsOf X.K d.name)) none σ H1) ∧ ∀ a dx, H1 dx = none → W (.ref (clsOf X.K d.name)) (some dx) σ (upd H1 dx (.xd (fsOf (.ref a :: us) d.flds []))) := by
    intro γ1 s1 σ H1 D ds us R1 r1 p
    refine ⟨fun he => p γ1 σ H1 _ _ (Stm.refl _ _) R1 ?_, fun a dx hn => p γ1 σ _ _ _ (Stp.new γ1 hn).toStm (R1.new hn) ?_⟩
    · rw [G.rx]
      exact ⟨d, hD, rfl, rfl, rfl, .inl ⟨he, rfl⟩⟩
    · rw [G.rx]
      refine ⟨d, hD, rfl, rfl, rfl, .inr ⟨dx, _, rfl, upd_same, R1.notBad hn, ?_, ?_⟩⟩
      · simp only [fsOf_eq, List.append_nil, List.map_reverse, List.map_map]
        rfl
      · simp only [fsOf_eq, List.append_nil, List.map_reverse, List.map_map]
        exact relDs_back (RelDs.step (Stp.new γ1 hn).toSts R1.tups _ _ (fld_rel (a := a) r1 fun p q => (hp p q).1))
  rcases hw with ⟨he, hn1, GA, F, T, hB⟩ | ⟨he, fd, Ns, Dd, g, GA, F, hl, hb, T, TG, hB⟩
  · refine weakS (L2.ps_raise G.calm G.tk (pmk_plain (k := 1) EG.oex i1 i2 F (G.room3.mono (by decide)) hpass (G.gl _ hg) EG.at_ ha hd.1.1 (star_cons hst) (plain_args htl _))) fun D σ H ⟨γ, s, R, p⟩ => ?_
    refine ⟨γ, s, R, ?_⟩
    simp only [ex] at p
    refine p.bind fun vs s1 γ1 H1 us st1 R1 r1 p1 => ?_
    cases q : toDs vs with
    | none => simp only [q] at p1; exact False.elim p1
    | some ds =>
      simp only [q] at p1
      have rd := toDs_rel r1 q
      have ll := relDs_len rd
      by_cases hc : ds.length = d.np ∧ d.np ≤ 900
      · rw [if_pos hc] at p1
        refine ⟨by omega, fun a hn => ?_⟩
        have l1 : us.length = 1 := by omega
        obtain ⟨u, rfl⟩ : ∃ u, us = [u] := by
          match us, l1 with
          | [u], _ => exact ⟨u, rfl⟩
        exact ⟨a, _, u, rfl, T, hB, upd_same, rfl, rfl, (outC γ1 s1 σ H1 D ds [u] R1 rd p1).1 he⟩
      · rw [if_neg hc] at p1; exact False.elim p1
  · refine weakS (L2.ps_raise G.calm G.tk (L2.pmk_oex (k := 2) (sp := spFL X.K Dd g GA Ns.length d.flds) EG.oex i1 i2 F G.room3 hb .nil hpass (G.gl _ hg) EG.at_ ha hd.1.1 (star_cons hst) (plain_args htl _))) fun D σ H ⟨γ, s, R, p⟩ => ?_
    refine ⟨γ, s, R, ?_⟩
    simp only [ex] at p
    refine p.bind fun vs s1 γ1 H1 us st1 R1 r1 p1 => ?_
    cases q : toDs vs with
    | none => simp only [q] at p1; exact False.elim p1
    | some ds =>
      simp only [q] at p1
      have rd := toDs_rel r1 q
      have ll := relDs_len rd
      by_cases hc : ds.length = d.np ∧ d.np ≤ 900
      · rw [if_pos hc] at p1
        have hout := (outC γ1 s1 σ H1 D ds us R1 rd p1).2
        refine ⟨by omega, fun a hn => ⟨by simp only [List.length_cons, List.length_append, List.length_nil]; omega, a, _, rfl, T, TG, hB, EG.nof, upd_same, fun dx H' h1 h2 h3 h4 h5 => ⟨rfl, dx, _, h3, h4, ?_, ?_⟩⟩⟩
        · rw [upd_ne h2] at h1; exact h1
        · have hdx : H1 dx = none := by rw [upd_ne h2] at h1; exact h1
          have e : upd (L2.del H' a) dx (.xd (fsOf (.ref a :: (us ++ [])) d.flds [])) = upd H1 dx (.xd (fsOf (.ref a :: us) d.flds [])) := by
            rw [List.append_nil]
            funext b
            by_cases hb : b = dx
            · subst hb; rw [upd_same, upd_same]
            · rw [upd_ne hb, upd_ne hb]
              by_cases hba : b = a
              · subst hba; rw [L2.del_same, hn]
              · rw [L2.del_ne hba, h5 b hba hb, upd_ne hba]
          rw [e]
          exact hout a dx hdx
      · rw [if_neg hc] at p1; exact False.elim p1

theorem hnd_ok (G : GoodS P N Γ RX k X W sc) {γ : Gh} {H : Hp} {D : Ends} {e : Ex} {s : S} {γ' : Gh} {τ : L2.St} {H' : Hp} {cls : Value} {d : Option Addr} (st : Stm γ H γ' H') (R : Rel X.K γ' s τ H') (rx : RX γ' H' e cls d) :
    ∀ (hs : T) (hds : List ExceptHandler), cHd P N sc hs hds = true → SPost X.K RX W γ H D (hnd hs e s) → wCl X.K W D (clsL P X.K hs) cls d τ H' := by
  intro hs
  induction hs with
  | nil => intro hds h p; exact p γ' τ H' cls d st R rx
  | hd c subs i he r ih =>
    intro hds h p
    obtain ⟨np, nm, v, rp, pos, hds', rfl, h1, h2, h3, h4, h5, h6, h7⟩ := cHd_inv h
    obtain ⟨dc, hdc, ec, hm⟩ := exs_at G h3
    have rx' := rx
    rw [G.rx] at rx'
    obtain ⟨D0, hD0, e1, e2, _, _⟩ := id rx'
    have hex := (G.exs D0 hD0).exm dc hdc
    rw [ec, ← e2] at hex
    have hsub := List.all_eq_true.mp h4 D0 hD0
    simp only [beq_iff_eq, decide_eq_decide] at hsub
    simp only [hnd] at p
    refine ⟨_, hex, fun hb a ha => ?_, fun hb => ?_⟩
    · have hin : e.c ∈ subs := by rw [e1]; exact hsub.mpr (of_decide_eq_true hb)
      rw [if_pos hin] at p
      cases q : hvE e he with
      | none => rw [q] at p; exact False.elim p
      | some y =>
        rw [q] at p
        refine ⟨γ', clrS s i, e, y, R.clr i, fun j hj hlt => ?_, rx', q, fun γ2 H2 v st2 R2 r2 => ?_⟩
        · subst hj
          show (τ.set j (some (.ref a)))[j]? = _
          have hlt : j < (τ.set j (some (.ref a))).length := hlt
          rw [List.length_set] at hlt
          exact List.getElem?_set_self hlt
        · have z := p γ2 _ H2 v (st.trans st2.toStm) R2 r2
          cases i <;> exact z
    · have hin : ¬ e.c ∈ subs := by rw [e1]; exact fun z => of_decide_eq_false hb (hsub.mp z)
      rw [if_neg hin] at p
      exact ih hds' h7 p
  | _ => intro hds h; exact absurd h (by unfold cHd; exact Bool.false_ne_true)
theorem GoodS.tr (G : GoodS P N Γ RX k X W sc) {W' : WX} {pn : List (Addr × PySem.Obj)} {xe : Value → PySem.Shared → Prop} (tk : Takes (X.tr pn xe) W') (pass : PySem.PassesOwn (PySem.model X.prog X.w) X.A X.env xe) : GoodS P N Γ RX k (X.tr pn xe) W' sc :=
  { hN := G.hN, nd := G.nd, calm := G.calm, room := G.room, tk := tk, pass := pass, kind := G.kind, vis := G.vis, gl := G.gl, loc := G.loc, sto := G.sto, cf := G.cf, blt := G.blt, tgs := G.tgs, isi := G.isi, lst := G.lst, rng := G.rng, zip := G.zip, enm := G.enm, gcs := G.gcs, fns := G.fns,
    steady := G.steady, rx := G.rx, room3 := G.room3, exs := G.exs, mdef := G.mdef, cls := G.cls, isc := G.isc, noat := G.noat, room1 := G.room1, lam := fun h1 h2 => ⟨(G.lam h1 h2).tab, (G.lam h1 h2).room, (G.lam h1 h2).two⟩, mts := G.mts, rpr := G.rpr, tup := G.tup, fnk := G.fnk, set := G.set, srt := G.srt, nmc := G.nmc, isc2 := G.isc2, eqs := G.eqs, mks := G.mks, sts := G.sts, ccs := G.ccs, make := G.make, prop := G.prop, meth := G.meth, sco := G.sco, stk := G.stk, frm := G.frm, fn := G.fn }
theorem s_tryx (G : GoodS P N Γ RX k X W sc) {b hs : T} {body : List Stmt} {h0 : ExceptHandler} {hds : List ExceptHandler} {pos : PySem.Pos} (hb : ∀ {X' : Cx} {W' : WX}, GoodS P N Γ RX k X' W' sc → PSs X' body (tS X'.K RX W' (ex Γ b))) (hh : cHd P N sc hs (h0 :: hds) = true) :
    PS X (.Try body (h0 :: hds) [] [] pos) (tS X.K RX W (ex Γ (.tryx b hs))) := by
  refine weakS (ps_tryA (tb := fun W' => tS X.K RX W' (ex Γ b)) G.stk G.frm (by rw [G.hN]; exact G.nd) G.tk (fun W' pn xe tk pass => hb (G.tr tk pass)) (hds_ok G hs _ hh)) fun D σ H ⟨γ, s, R, p⟩ => ⟨γ, s, R, ?_⟩
  simp only [ex] at p
  cases q : ex Γ b s with
  | bad => rw [q] at p; exact p
  | ok f s' => rw [q] at p; cases f <;> exact p
  | ex e s' =>
    rw [q] at p
    exact fun γ' τ H' c d st R' rx => hnd_ok G st R' rx hs _ hh p
end
end Mp

/-! Mp: every checked statement is sound. -/
namespace Mp
open PySem (Addr Value Expr Stmt PyData Str CmpOp Operator cLine Scope Env NameKind)
open L2 (V HO Hp upd upd_same upd_ne SqT SqL Rd PE PT PW PA PI PG PS PSs Cx TE TT TA TI TG TS VK XK WX Ends Gl Sp It Room Takes Vis)
variable [TabT]
section
variable {P : Prg} {N : List Str} {Γ : Callee} {RX : ExRel} {k : Nat} {X : Cx} {W : WX} {sc : Scope}
/-! ### every checked code is sound -/
structure SndT (P : Prg) (N : List Str) (Γ : Callee) (RX : ExRel) (k : Nat) (c : T) : Prop where
  s : ∀ {X W sc}, GoodS P N Γ RX k X W sc → ∀ x, cS P N sc c x = true → PS X x (tS X.K RX W (ex Γ c))
  b : ∀ {X W sc}, GoodS P N Γ RX k X W sc → ∀ xs, cB P N sc c xs = true → PSs X xs (tS X.K RX W (ex Γ c))
set_option maxHeartbeats 8000000 in
theorem sndT (P : Prg) (N : List Str) (Γ : Callee) (RX : ExRel) (k : Nat) (c : T) : SndT P N Γ RX k c := by
  have E' := fun (c : E) => snd P N Γ RX k c
  induction c with
  | hd c subs i he r ih => exact ⟨fun _ x h => by cases x <;> simp [cS] at h, fun _ xs h => by cases xs <;> simp [cB] at h⟩
  | tgs gs es =>
    refine ⟨fun G x h => ?_, fun _ _ h => nomatch h⟩
    cases x with
    | Assign ts v pos =>
      match ts, v, h with
      | [.Tuple ts kt pt], .Tuple us k2 pt2, h =>
        simp only [cS, Bool.and_eq_true] at h
        exact s_tgs G E' h.1.1 h.1.2 ((E' es).l G.toGood us h.2)
    | _ => cases h
  | rsx c np fl es =>
    refine ⟨fun G x h => ?_, fun _ _ h => nomatch h⟩
    cases x with
    | Raise e1 e2 pos =>
      match e1, e2, h with
      | some (.Call (.Name x p1) (y :: ys) [] p2), none, h =>
        simp only [cS, Bool.and_eq_true, decide_eq_true_eq] at h
        obtain ⟨⟨⟨⟨rfl, h1⟩, h2⟩, h3⟩, h4⟩ := h
        exact s_rsx G h1 h2 h3 h4 ((E' es).l G.toGood (y :: ys) h4)
    | _ => cases h
  | tryx b hs ihb ihs =>
    refine ⟨fun G x h => ?_, fun _ _ h => nomatch h⟩
    cases x with
    | Try body hds els fin pos =>
      match hds, els, fin, h with
      | h0 :: hds, [], [], h =>
        simp only [cS, Bool.and_eq_true] at h
        exact s_tryx G (fun G' => ihb.b G' body h.1) h.2
    | _ => cases h
  | seta cs f a e =>
    refine ⟨fun G x h => ?_, fun _ _ h => nomatch h⟩
    cases x with
    | Assign ts v pos =>
      match ts, h with
      | [.Attribute x nm p1], h =>
        simp only [cS, Bool.and_eq_true, decide_eq_true_eq] at h
        obtain ⟨⟨⟨⟨rfl, h1⟩, h2⟩, h3⟩, h4⟩ := h
        exact s_seta G h1 h4 ((E' a).e G.toGood x h2) ((E' e).e G.toGood v h3)
    | _ => cases h
  | rs =>
    refine ⟨fun G x h => ?_, fun _ _ h => nomatch h⟩
    cases x with
    | Raise e1 e2 pos => exact s_rs
    | _ => cases h
  | frz i t ih =>
    refine ⟨fun _ _ h => (nomatch h), fun G xs h => ?_⟩
    exact b_frz (ih.b G xs (by simpa only [cB] using h))
  | par3 i j l a b c =>
    refine ⟨fun G x h => ?_, fun _ _ h => nomatch h⟩
    cases x with
    | Assign ts v pos =>
      match ts, v, h with
      | [.Tuple [.Name x px, .Name y py, .Name z pz] kt pt], .Tuple [u, v, w] k2 pt2, h =>
        simp only [cS, Bool.and_eq_true, decide_eq_true_eq, Bool.not_eq_true'] at h
        obtain ⟨⟨⟨⟨⟨⟨⟨⟨⟨⟨⟨⟨⟨⟨⟨⟨⟨⟨⟨⟨⟨h1, h2⟩, h3⟩, h4⟩, h5⟩, h6⟩, h7⟩, h8⟩, h9⟩, g1⟩, g2⟩, g3⟩, g4⟩, g5⟩, g6⟩, g7⟩, g8⟩, g9⟩, k1⟩, k2⟩, k3⟩, k4⟩ := h
        exact s_par3 G h1 h2 h3 h4 h5 h6 g1 g2 g3 g6 g7 g8 (swapped3 G g1 g2 g3 g4 g5 h7 h8 h9 g6 g7 g8 g9 k1) ((E' a).e G.toGood u k2) ((E' b).e G.toGood v k3) ((E' c).e G.toGood w k4)
    | _ => cases h
  | parn tg es =>
    refine ⟨fun G x h => ?_, fun _ _ h => nomatch h⟩
    cases x with
    | Assign ts v pos =>
      match ts, v, h with
      | [.Tuple ts kt pt], .Tuple us k2 pt2, h =>
        simp only [cS, Bool.and_eq_true, decide_eq_true_eq] at h
        exact s_parn G h.1.1 h.1.2 ((E' es).l G.toGood us h.2)
    | _ => cases h
  | unp tg e =>
    refine ⟨fun G x h => ?_, fun _ _ h => nomatch h⟩
    cases x with
    | Assign ts v pos =>
      match ts, h with
      | [.Tuple ts kt pt], h =>
        simp only [cS, Bool.and_eq_true] at h
        exact s_unp G h.1.1 h.2 ((E' e).e G.toGood v h.1.2)
    | _ => cases h
  | asg i e =>
    refine ⟨fun G x h => ?_, fun _ _ h => nomatch h⟩
    cases x with
    | Assign ts v pos =>
      match ts, h with
      | [.Name x px], h =>
        simp only [cS, Bool.and_eq_true, Bool.or_eq_true, decide_eq_true_eq] at h
        obtain ⟨⟨⟨h1, h2⟩, h3⟩, h4⟩ := h
        rcases h4 with h4 | ⟨h4, h5⟩
        · exact s_asg G h1 h2 h4 ((E' e).e G.toGood v h3)
        · exact s_asgC G h1 h4 h5 h3
    | _ => cases h
  | par i j a b =>
    refine ⟨fun G x h => ?_, fun _ _ h => nomatch h⟩
    cases x with
    | Assign ts v pos =>
      match ts, v, h with
      | [.Tuple [.Name x px, .Name y py] _ _], .Tuple [u, v] _ _, h =>
        simp only [cS, Bool.and_eq_true, Bool.not_eq_true', decide_eq_true_eq] at h
        obtain ⟨⟨⟨⟨⟨⟨⟨⟨⟨⟨⟨⟨h1, h2⟩, h3⟩, h4⟩, h5⟩, h6⟩, h7⟩, h8⟩, h9⟩, h10⟩, h11⟩, h12⟩, h13⟩ := h
        exact s_par G h1 h2 h3 h5 h6 h7 h4 h8 h9 h10 h11 ((E' a).e G.toGood u h12) ((E' b).e G.toGood v h13)
    | _ => cases h
  | seti a i e =>
    refine ⟨fun G x h => ?_, fun _ _ h => nomatch h⟩
    cases x with
    | Assign ts v pos =>
      match ts, h with
      | [.Subscript x y _], h =>
        simp only [cS, Bool.and_eq_true] at h
        obtain ⟨⟨⟨h1, h2⟩, h3⟩, h4⟩ := h
        exact s_seti G h4 ((E' e).e G.toGood v h1) ((E' a).e G.toGood x h2) ((E' i).e G.toGood y h3)
    | _ => cases h
  | ite t b o ihb iho =>
    refine ⟨fun G x h => ?_, fun _ _ h => nomatch h⟩
    cases x with
    | If c bs os pos =>
      simp only [cS, Bool.and_eq_true] at h
      exact s_ite ((E' t).t G.toGood c h.1.1) (ihb.b G bs h.1.2) (iho.b G os h.2)
    | _ => cases h
  | for_ tg it b ihb =>
    refine ⟨fun G x h => ?_, fun _ _ h => nomatch h⟩
    cases x with
    | For tx iter bs os pos =>
      match os, h with
      | [], h =>
        simp only [cS, Bool.and_eq_true] at h
        obtain ⟨⟨⟨h1, h2⟩, h3⟩, h4⟩ := h
        exact s_for G h1 ((E' it).w G.toGood tx iter h2) h3 (ihb.b G bs h4)
    | _ => cases h
  | while_ t b ihb =>
    refine ⟨fun G x h => ?_, fun _ _ h => nomatch h⟩
    cases x with
    | While c bs os pos =>
      match os, h with
      | [], h =>
        simp only [cS, Bool.and_eq_true] at h
        exact s_while G ((E' t).t G.toGood c h.1) (ihb.b G bs h.2)
    | _ => cases h
  | ret e =>
    refine ⟨fun G x h => ?_, fun _ _ h => nomatch h⟩
    cases x with
    | Return v pos =>
      match v, h with
      | some v, h =>
        simp only [cS] at h
        exact s_ret ((E' e).e G.toGood v h)
    | _ => cases h
  | retN =>
    refine ⟨fun G x h => ?_, fun _ _ h => nomatch h⟩
    cases x with
    | Return v pos =>
      match v, h with
      | none, _ => exact s_retN
    | _ => cases h
  | exp e =>
    refine ⟨fun G x h => ?_, fun _ _ h => nomatch h⟩
    cases x with
    | Expr v pos =>
      simp only [cS, Bool.and_eq_true] at h
      exact s_exp h.2 ((E' e).e G.toGood v h.1)
    | _ => cases h
  | brk =>
    refine ⟨fun G x h => ?_, fun _ _ h => nomatch h⟩
    cases x with
    | Break pos => exact s_brk
    | _ => cases h
  | cnt =>
    refine ⟨fun G x h => ?_, fun _ _ h => nomatch h⟩
    cases x with
    | Continue pos => exact s_cnt
    | _ => cases h
  | pass =>
    refine ⟨fun G x h => ?_, fun _ _ h => nomatch h⟩
    cases x with
    | Pass pos => exact s_pass
    | _ => cases h
  | nil =>
    refine ⟨(fun _ _ h => nomatch h), fun G xs h => ?_⟩
    cases xs with
    | nil => exact b_nil
    | cons _ _ => cases h
  | cons h t ihh iht =>
    refine ⟨(fun _ _ h => nomatch h), fun G xs hh => ?_⟩
    cases xs with
    | nil => cases hh
    | cons x xs =>
      simp only [cB, Bool.and_eq_true] at hh
      exact b_cons (ihh.s G x hh.1) (iht.b G xs hh.2)
end
end Mp

/-! Mp: the defs of a text keep what the evaluator says; the end of a law. -/
namespace Mp
open PySem (Addr Value Expr Stmt Str Scope Program World Heap)
open L2 (V HO Hp upd SqT SqL PSs Cx TS VK XK WX Sp Room Takes RelV)

/-- a def's text and its code -/
def fnB (P : Prg) (N ps : List Str) (st : Stmt) (fn : Fn) : Bool :=
  decide ((L2.defScope st).kind = .function) && decide ((L2.defScope st).isCoroutine = false) && decide ((L2.defScope st).isGenerator = false) && decide N.Nodup && decide (N.take ps.length = ps) &&
  (ps.all fun x => decide ((L2.defScope st).names.lookup x = some .local ∨ (L2.defScope st).names.lookup x = some .cell)) && ((L2.defScope st).names.all fun y => decide (y.2 ≠ .free)) &&
  decide (fn.np = ps.length) && decide (fn.nl = N.length) && cB P N (L2.defScope st) fn.body (L2.defBody st)
structure FnB (P : Prg) (N ps : List Str) (st : Stmt) (fn : Fn) : Prop where
  sc : L2.FnScope N ps (L2.defScope st)
  np : fn.np = ps.length
  nl : fn.nl = N.length
  b : cB P N (L2.defScope st) fn.body (L2.defBody st) = true
theorem fnB_of {P : Prg} {N ps : List Str} {st : Stmt} {fn : Fn} (h : fnB P N ps st fn = true) : FnB P N ps st fn := by
  unfold fnB at h
  simp only [Bool.and_eq_true, decide_eq_true_eq, List.all_eq_true] at h
  obtain ⟨⟨⟨⟨⟨⟨⟨⟨⟨h1, h2⟩, h3⟩, h4⟩, h5⟩, h6⟩, h7⟩, h8⟩, h9⟩, h10⟩ := h
  exact ⟨⟨h1, h2, h3, h4, h5, h6, h7⟩, h8, h9, h10⟩

variable [TabT]
/-- a def as it stands behind the top, its defaults whatever they are -/
structure FunA (K : PySem.W.Frag) (x qual : Str) (st : Stmt) (f : Addr) (fd : PySem.FuncData) : Prop where
  ex : ∃ (oc : Value) (od : Option Addr) (dV kV doc pm : Value) (an : Option Addr) (cdv ct : Value) (osl : Array (Option Value)),
    fd = PySem.W.fnOf x qual (L2.defArgs st) (L2.defBody st) (L2.defScope st) dV kV doc pm an cdv ct ∧ K.lookup f = some ⟨oc, od, .func fd, osl⟩ ∧ PySem.W.codeIn K cdv qual = true
  kp : PySem.W.keepIn K (.ref f) = true
theorem funA_mk {K : PySem.W.Frag} {x qual : Str} {st : Stmt} {f : Addr} {oc : Value} {od an : Option Addr} {osl : Array (Option Value)} {dV kV doc pm cdv ct : Value} (l : K.lookup f = some ⟨oc, od, .func (PySem.W.fnOf x qual (L2.defArgs st) (L2.defBody st) (L2.defScope st) dV kV doc pm an cdv ct), osl⟩)
    (c : PySem.W.codeIn K cdv qual = true) (k : PySem.W.keepIn K (.ref f) = true) : FunA K x qual st f (PySem.W.fnOf x qual (L2.defArgs st) (L2.defBody st) (L2.defScope st) dV kV doc pm an cdv ct) := ⟨⟨oc, od, dV, kV, doc, pm, an, cdv, ct, osl, rfl, l, c⟩, k⟩
theorem FunA.ok {K : PySem.W.Frag} {P : Program} {w : World} {mg : Str → Option Value} {base : Heap} {x qual : Str} {st : Stmt} {f : Addr} {fd : PySem.FuncData} {Cq : L2.CXT} {N ps : List Str} {k : Nat} {sp : Sp} (F : FunA K x qual st f fd) (S : L2.FnScope N ps (L2.defScope st)) (len : ∀ vs H Q E, sp vs H Q E → vs.length = ps.length)
    (hb : ∀ (cdv : Value), fd.code = cdv → ∀ (A : PySem.Around) (outer : List PySem.Env) (s : PySem.Shared) (H : Hp) (vs : List V) (Q : VK) (E : XK), Room k (A.deeper (PyProof.Rows.envOfC qual (L2.defScope st) s.heap.objs.size f cdv)) → sp vs H Q E →
      ∃ t, PSs (L2.cxOf Cq P w K mg base N qual (L2.defScope st) f cdv A outer s H E) (L2.defBody st) t ∧ t { nx := fun _ G => Q .non G, rt := Q } (L2.start N vs) H) : L2.FnOk P w K mg base Cq (k + 1) f fd ps sp := by
  obtain ⟨oc, od, dV, kV, doc, pm, an, cdv, ct, osl, rfl, lk, hcd⟩ := F.ex
  exact L2.fn_of lk hcd S len fun A outer s H vs Q E hr hsp => hb cdv rfl A outer s H vs Q E hr hsp

/-- the code object of a def that makes lambdas, and its table -/
def LamF (fd : PySem.FuncData) (qual : Str) : Prop := ∃ c Pt, fd.code = .ref c ∧ (c, Pt) ∈ TabT.C ∧ (Pt, qual ++ ".<locals>." ++ "<lambda>") ∈ TabT.T ∧ ∀ p ∈ TabT.T, p.1 = Pt → p.2 = qual ++ ".<locals>." ++ "<lambda>"
structure FnL (P : Prg) (fd : PySem.FuncData) (qual : Str) (N ps : List Str) (st : Stmt) (fn : Fn) : Prop extends FnB P N ps st fn where
  lm : N ∈ P.lamN → LamF fd qual
theorem fnL_no {P : Prg} {fd : PySem.FuncData} {qual : Str} {N ps : List Str} {st : Stmt} {fn : Fn} (h : fnB P N ps st fn = true) (n : N ∉ P.lamN) : FnL P fd qual N ps st fn := { fnB_of h with lm := fun z => absurd z n }
theorem fnL_of {P : Prg} {fd : PySem.FuncData} {qual : Str} {N ps : List Str} {st : Stmt} {fn : Fn} (h : fnB P N ps st fn = true) (l : LamF fd qual) : FnL P fd qual N ps st fn := { fnB_of h with lm := fun _ => l }
/-- what the tables hang on -/
def TabC (q : Program) (K : PySem.W.Frag) (mg : Str → Option Value) : Prop := ∀ p ∈ TabT.C, ∃ (nm : Str) (fa : Addr) (o : PySem.Obj) (fd : PySem.FuncData) (e : Value) (dd : Option Addr) (vs : Array Value) (sl : Array (Option Value)), ((PyProof.Rows.recsOf q).any fun d => d.name == nm) = true ∧ mg nm = some (.ref fa) ∧ K.lookup fa = some o ∧
  o.data = .func fd ∧ fd.code = .ref p.1 ∧ K.lookup p.1 = some ⟨e, dd, .fields vs, sl⟩ ∧ vs[11]? = some (.ref p.2) ∧ K.lookup p.2 = none
/-- how a def with defaults binds -/
theorem bindsD {K : PySem.W.Frag} {fd : PySem.FuncData} {ps : List Str} {T : Addr} {o : PySem.Obj} {its : List Value} {n : Nat} (lT : K.lookup T = some o) (oT : o.data = .seq its.toArray n) (j : Nat)
    (h : ∀ us : List Value, (us ++ its.drop j).length = ps.length → ∃ k, PySem.bindArgs fd ⟨us, []⟩ = PySem.seqItems? (.ref T) >>= k ∧ k (some its.toArray) = pure (ps.zip (us ++ its.drop j))) : L2.Binds K fd ps (its.drop j) := fun s us X hl => by
  obtain ⟨k, e1, e2⟩ := h us hl
  refine L2.BindsTo.of_looks fun M => ?_
  rw [e1]
  exact L2.looks_items X lT oT (.of_pure e2)
theorem clsOf_of {K : PySem.W.Frag} {nm : Str} {C : Addr} (h : PySem.W.nsIn K PySem.mainGlobals nm = some (some (.ref C))) : clsOf K nm = C := by
  unfold clsOf
  rw [h]
theorem vals_fillK : ∀ (p : List (Option Nat)) {ds zs : List V} {us ws : List Value}, L2.Vals ds us → L2.Vals zs ws → L2.Vals (fillK p ds zs) (fillK p us ws)
  | [], _, _, _, _, r1, r2 => by cases r1 <;> cases r2 <;> exact .nil
  | none :: p, _, _, _, _, .nil, r2 => .nil
  | none :: p, _, _, _, _, .cons h t, r2 => .cons h (vals_fillK p t r2)
  | some j :: p, ds, zs, us, ws, r1, r2 => by
    have ih := vals_fillK p r1 r2
    have e : ∀ {α : Type} (ds zs : List α), fillK (some j :: p) ds zs = match zs[j]? with
      | some z => z :: fillK p ds zs
      | none => [] := fun ds zs => by cases ds <;> rfl
    have g : ∀ {zs : List V} {ws : List Value}, L2.Vals zs ws → ∀ j : Nat, (zs[j]? = none ∧ ws[j]? = none) ∨ ∃ v u, zs[j]? = some v ∧ ws[j]? = some u ∧ RelV v u := by
      intro zs ws r
      induction r with
      | nil => exact fun j => .inl ⟨rfl, rfl⟩
      | cons h _ ih => exact fun j => by cases j with
        | zero => exact .inr ⟨_, _, rfl, rfl, h⟩
        | succ j => simpa using ih j
    rw [e, e]
    rcases g r2 j with ⟨h1, h2⟩ | ⟨v, u, h1, h2, h3⟩
    · rw [h1, h2]; exact .nil
    · rw [h1, h2]; exact .cons h3 ih
theorem vals_fill : ∀ (p : List Bool) {ds zs : List V} {us ws : List Value}, L2.Vals ds us → L2.Vals zs ws → L2.Vals (fillV p ds zs) (fillV p us ws)
  | [], _, _, _, _, r1, r2 => by cases r1 <;> cases r2 <;> exact .nil
  | true :: p, _, _, _, _, .nil, r2 => .nil
  | true :: p, _, _, _, _, .cons h t, r2 => .cons h (vals_fill p t r2)
  | false :: p, _, _, _, _, r1, .nil => by cases r1 <;> exact .nil
  | false :: p, _, _, _, _, r1, .cons h t => by
    have := vals_fill p r1 t
    cases r1 <;> exact .cons h this
/-! ### exception classes -/
/-- the text of such an init -/
def iniB (N : List Str) (i : Option Nat) (fl : List (Str × Nat)) (st : Stmt) : Bool := match N, L2.defBody st with
  | me :: _, s0 :: rest => decide ((L2.defScope st).kind = .function) && decide ((L2.defScope st).isCoroutine = false) && decide ((L2.defScope st).isGenerator = false) && decide N.Nodup && (N.all fun x => decide ((L2.defScope st).names.lookup x = some .local)) &&
    ((L2.defScope st).names.all fun y => decide (y.2 ≠ .cell)) && ((L2.defScope st).names.all fun y => decide (y.2 ≠ .free) || decide (y.1 = "__class__")) && supStB N (L2.defScope st) i s0 && fldsB N (L2.defScope st) fl rest &&
    decide ((L2.defScope st).names.lookup ("super" : Str) = some .globalImplicit) && decide ((L2.defScope st).names.lookup ("__class__" : Str) = some .free) && (match ((L2.defArgs st).posonlyargs ++ (L2.defArgs st).args).head? with
      | some ar => decide (ar.arg = me)
      | none => false)
  | _, _ => false
structure ExcT (P : Prg) (pr : Program) (K : PySem.W.Frag) (mg : Str → Option Value) (D : ExcD) : Prop where
  at_ : mg D.name = some (.ref (clsOf K D.name))
  xf : L2.XfC K (clsOf K D.name)
  nof : ∀ p ∈ D.flds, PySem.W.findIn K (.ref (clsOf K D.name)) p.1 = some none
  exm : ∀ c ∈ P.exs, PySem.W.exmOne K (.ref (clsOf K D.name)) (.ref (clsOf K c.name)) = some (decide (c.name ∈ D.sups))
  oex : L2.OexC K (clsOf K D.name)
  how : ∃ f, PySem.W.findIn K (.ref (clsOf K D.name)) "__init__" = some (some (.ref f)) ∧ PySem.W.typeIn K (.ref f) = some (.type "function") ∧
    ((D.flds = [] ∧ D.np = 1 ∧ ∃ G fd Ns, InitB pr K mg G Ns (some 1) [] f fd ∧ Ns.length = 2 ∧ L2.Binds K fd Ns [] ∧ SubC K (clsOf K D.name) G (.builtin "ValueError.__init__") ∧ PySem.W.subIn K (.ref (clsOf K D.name)) (.type "ValueError") = some true) ∨
      (D.flds ≠ [] ∧ ∃ fd Ns i Dd g gd G, InitB pr K mg Dd Ns i D.flds f fd ∧ InitB pr K mg G [Ns.getD 0 "", "message"] (some 1) [] g gd ∧ L2.Binds K gd [Ns.getD 0 "", "message"] [] ∧ PySem.W.typeIn K (.ref g) = some (.type "function") ∧ PySem.W.fnIn K g = true ∧
        (∀ j, i = some j → j < Ns.length) ∧ (∀ p ∈ D.flds, p.2 < Ns.length) ∧ D.flds.length ≤ 800 ∧ Ns.length = D.np + 1 ∧ L2.Binds K fd Ns [] ∧ SubC K (clsOf K D.name) Dd (.ref g) ∧ SubC K (clsOf K D.name) G (.builtin "ValueError.__init__") ∧
        PySem.W.subIn K (.ref (clsOf K D.name)) (.type "ValueError") = some true))
theorem ExcT.g {P : Prg} {pr : Program} {w : World} {K : PySem.W.Frag} {mg : Str → Option Value} {base : Heap} {D : ExcD} (T : ExcT P pr K mg D) : ExcG P pr w K mg base D where
  at_ := T.at_
  xf := T.xf
  nof := T.nof
  exm := T.exm
  oex := T.oex
  how := by
    obtain ⟨f, h1, h2, h3⟩ := T.how
    refine ⟨f, h1, h2, h3.imp ?_ ?_⟩
    · rintro ⟨e1, e2, G, fd, Ns, B, l, b, S, v⟩
      refine ⟨e1, e2, G, ?_, S, v⟩
      refine ((ge_ok (Cq := L2.CX pr w) (w := w) (base := base) B l fun j hj => by cases hj; decide).raw b .nil).imp fun vs H Q E h => ?_
      rw [List.append_nil]
      exact h
    · rintro ⟨e1, fd, Ns, i, Dd, g, gd, G, B, Bg, bg, tg, fg, hi, hf, hl, ln, b, S, SG, v⟩
      exact ⟨e1, fd, Ns, Dd, g, G, fl_ok (Cq := L2.CX pr w) (w := w) (base := base) B Bg bg tg fg hi hf hl e1 (fun A outer s H E qual sc cda cc pins σ H1 s1 e s2 I hc => by
        obtain ⟨_, _, _, _, _, _, _, _, _, _, _, _, z⟩ := hc
        exact z.elim), ln, b, S, SG, v⟩
/-- an init, from what the top has left -/
theorem initB_mk {P : Program} {K : PySem.W.Frag} {mg : Str → Option Value} {D f cda cc : Addr} {N : List Str} {i : Option Nat} {fl : List (Str × Nat)} {st : Stmt} {qual : Str} {oc ccl cl kV doc pm ct : Value} {od an cdd cld : Option Addr} {osl ccs csl : Array (Option Value)} {vs : Array Value} {file : Str} {tf : PySem.Tok}
    (l : K.lookup f = some ⟨oc, od, .func (PySem.W.ksFn "__init__" qual (L2.defArgs st) (L2.defBody st) (L2.defScope st) .none kV doc pm an (.ref cda) ct cc), osl⟩) (c : PySem.W.codeIn K (.ref cda) qual = true) (hc : K.lookup cc = some ⟨cl, cld, .cell (some (.ref D)), csl⟩)
    (hd : K.lookup cda = some ⟨ccl, cdd, .fields vs, ccs⟩) (hv : vs[2]? = some (.str file tf)) (hfile : ((P.main.file : Str) == file) = true) (hD : (PySem.W.clsIn K D).isSome = true) (htop : (P.main.scope.names.lookup ("super" : Str)).isSome = false) (hm : mg "super" = none)
    (ho : PySem.W.nsIn K PySem.cStatics "thirdparty.any" = some none) (hst : iniB N i fl st = true) : InitB P K mg D N i fl f (PySem.W.ksFn "__init__" qual (L2.defArgs st) (L2.defBody st) (L2.defScope st) .none kV doc pm an (.ref cda) ct cc) := by
  unfold iniB at hst
  cases hN : N with
  | nil => rw [hN] at hst; cases hst
  | cons me N' =>
    rw [hN] at hst
    cases hB : L2.defBody st with
    | nil => rw [hB] at hst; cases hst
    | cons s0 rest =>
      rw [hB] at hst
      simp only [Bool.and_eq_true, decide_eq_true_eq, List.all_eq_true] at hst
      obtain ⟨⟨⟨⟨⟨⟨⟨⟨⟨⟨⟨h1, h2⟩, h3⟩, h4⟩, h5⟩, h6⟩, h7⟩, h8⟩, h9⟩, h10⟩, h11⟩, h12⟩ := hst
      refine ⟨⟨"__init__", qual, me, L2.defArgs st, s0, rest, L2.defScope st, .none, kV, doc, pm, ct, an, cda, cc, rfl, ⟨⟨oc, od, osl, by rw [← hB]; exact l⟩, ?_, ⟨ccl, cdd, vs, ccs, file, tf, hd, hv, hfile⟩, ⟨cl, cld, csl, hc⟩, Option.isSome_iff_exists.mp hD, htop, hm, ho⟩, c, ⟨h1, h2, h3, h4, fun x hx => h5 x hx, fun y hy => ?_, fun y hy => ?_⟩, h8, h9, h10, h11, rfl⟩⟩
      · split at h12
        · rename_i ar har
          exact ⟨ar, har, of_decide_eq_true h12⟩
        · cases h12
      · have := h6 y hy; simpa using this
      · intro e
        have := h7 y hy
        rw [e] at this
        simpa using this
/-- what the top has left -/
structure Top (pr : Program) (P : Prg) (Pg : Nat → Fn) (K : PySem.W.Frag) (mg : Str → Option Value) : Prop where
  blt : ∀ b, mg (bfN b) = none
  tgs : ∀ t, tgOk t = true → mg (tgS t) = none
  isi : mg "isinstance" = none
  lst : mg "list" = none
  rng : mg "range" = none
  zip : mg "zip" = none
  enm : mg "enumerate" = none
  cls : ∀ c ∈ P.cls, L2.Cls K (clsOf K c.name)
  isc : ∀ c ∈ P.cls, C8.InsC K (clsOf K c.name) ∧ ∀ t, tgOk t = true → PySem.W.kitOne K (.ref (clsOf K c.name)) (.type (tgN t)) = some false
  noat : ∀ c ∈ P.cls, ∀ f ∈ c.flds, L2.NoAttr K (clsOf K c.name) f
  make : ∀ c ∈ P.cls, c.kwi = false → ∃ fa fd st qual N ps, mg c.name = some (.ref (clsOf K c.name)) ∧ L2.Mk K (clsOf K c.name) fa ∧ FunA K "__init__" qual st fa fd ∧ L2.Binds K fd ps [] ∧ FnL P fd qual N ps st (Pg c.init)
  mts : ∀ m ∈ P.mts, MetG P K mg m
  rpr : mg "repr" = none
  set : mg "set" = none
  srt : mg "sorted" = none
  nmc : ∀ c ∈ P.cls, mg c.name = some (.ref (clsOf K c.name))
  isc2 : ∀ c ∈ P.cls, (∀ t ∈ valTys, PySem.W.kitOne K (.type t) (.ref (clsOf K c.name)) = some false) ∧ ∀ d ∈ P.cls, PySem.W.kitOne K (.ref (clsOf K d.name)) (.ref (clsOf K c.name)) = some (decide (d.name = c.name))
  eqs : ∀ c ∈ P.cls, ∀ g, c.eqm = some g → ∃ fa fd st qual N ps, EqC K (clsOf K c.name) fa ∧ (∀ d ∈ P.cls, PySem.W.notFirst K (clsOf K c.name) (.ref (clsOf K d.name)) = true) ∧ FunA K "__eq__" qual st fa fd ∧ L2.Binds K fd ps [] ∧ FnL P fd qual N ps st (Pg g)
  mks : ∀ c ∈ P.cls, ∀ q ∈ c.mks, ∃ fa fd st qual N ps dvs gU, L2.Mk K (clsOf K c.name) fa ∧ L2.KBn K fd ps (q.1 + 1) q.2.1 gU (fun vs zs => vs ++ fillV q.2.2.1 dvs zs) ∧ (∀ γ H, RelDs K γ H q.2.2.2 dvs) ∧ FunA K "__init__" qual st fa fd ∧ FnL P fd qual N ps st (Pg c.init)
  fnk : ∀ q ∈ P.kws, ∃ fa fd st qual N ps dvs gU, mg (P.fname q.1) = some (.ref fa) ∧ L2.KBn K fd ps q.2.1 q.2.2.1 gU (fun vs zs => vs ++ fillK q.2.2.2.1 dvs zs) ∧ (∀ γ H, RelDs K γ H q.2.2.2.2 dvs) ∧ FunA K (P.fname q.1) qual st fa fd ∧ FnL P fd qual N ps st (Pg q.1)
  sts : ∀ c ∈ P.cls, ∀ q ∈ c.sts, ∃ sa fa fd st qual N ps, StC K (clsOf K c.name) q.1 sa fa ∧ FunA K q.1 qual st fa fd ∧ L2.Binds K fd ps [] ∧ FnL P fd qual N ps st (Pg q.2)
  ccs : ∀ c ∈ P.cls, ∀ q ∈ c.ccs, ∃ mc u v, ClX.CRead K (clsOf K c.name) mc ∧ ClX.CVal K (clsOf K c.name) mc q.1 v u ∧ ∀ γ H, RelD K γ H q.2 v
  prop : ∀ c ∈ P.cls, ∀ q ∈ c.props, ∃ pa fa fd st qual N ps, L2.PropOf K (clsOf K c.name) q.1 pa fa ∧ FunA K q.1 qual st fa fd ∧ L2.Binds K fd ps [] ∧ FnL P fd qual N ps st (Pg q.2)
  meth : ∀ c ∈ P.cls, ∀ q ∈ c.meths, ∃ fa fd st qual N ps, L2.Meth K (clsOf K c.name) q.1 fa ∧ FunA K q.1 qual st fa fd ∧ L2.Binds K fd ps [] ∧ FnL P fd qual N ps st (Pg q.2)
  mdef : ∀ c ∈ P.cls, ∀ q ∈ c.mds, ∃ fa fd st qual N ps ds dvs, L2.Meth K (clsOf K c.name) q.1 fa ∧ FunA K q.1 qual st fa fd ∧ L2.Binds K fd ps ds ∧ L2.Vals dvs ds ∧ (∀ γ H, RelDs K γ H q.2.2 dvs) ∧ FnL P fd qual N ps st (Pg q.2.1)
  exs : ∀ D ∈ P.exs, ExcT P pr K mg D
  gcs : ∀ p ∈ P.gcs, ∃ u v, mg p.1 = some u ∧ RelV v u ∧ ∀ γ H, RelD K γ H p.2 v
  fns : ∀ f, f < P.nf → ∃ fa fd st qual N ps, mg (P.fname f) = some (.ref fa) ∧ FunA K (P.fname f) qual st fa fd ∧ (∀ us : List Value, us.length = ps.length → PySem.bindArgs fd ⟨us, []⟩ = pure (ps.zip us)) ∧ FnL P fd qual N ps st (Pg f)

section
variable {P : Prg} {Pg : Nat → Fn} {pr : Program} {w : World} {K : PySem.W.Frag} {mg : Str → Option Value} {base : Heap} {RX : ExRel}
/-- the frame's state at the entry -/
theorem Rel.begin {γ : Gh} {gs : List Cell} {H : Hp} {ds : List D} {vs : List V} {N : List Str} (R : Rel K γ (outS gs) [] H) (r : RelDs K γ H ds vs) (hl : vs.length ≤ N.length) :
    Rel K γ ⟨ds.map (fun x => some (.d x)) ++ List.replicate (N.length - ds.length) none, [], gs⟩ (L2.start N vs) H := by
  have l := relDs_len r
  refine R.reenv (s := outS gs) ?_ fun i v h => ?_
  · unfold L2.start
    simp only [List.length_append, List.length_map, List.length_replicate]
    omega
  · by_cases hi : i < ds.length
    · rw [List.getElem?_append_left (by simpa using hi), List.getElem?_map] at h
      cases q : ds[i]? with
      | none => rw [q] at h; cases h
      | some d =>
        rw [q] at h
        cases h
        obtain ⟨x, hx, rx⟩ := relDs_get r q
        exact ⟨x, start_get (N := N) hx, rx⟩
    · rw [List.getElem?_append_right (by simpa using hi), List.getElem?_replicate] at h
      split at h <;> cases h
/-- out of the frame -/
def Gh.out (γ : Gh) : Gh := { γ with pf := [], tm := [] }
theorem les_out (γ : Gh) : Les γ γ.out := ⟨List.prefix_refl _, fun a h => by
  rcases h with (h | h) | h | h
  · exact .inl (.inl h)
  · cases h
  · cases h
  · exact .inr (.inr h)⟩
theorem Rel.out {γ : Gh} {s : S} {σ : L2.St} {H : Hp} (R : Rel K γ s σ H) : Rel K γ.out (outS s.gs) [] H where
  len := rfl
  slot := fun i v h => by simp [outS] at h
  fl := rfl
  fc := fun j a c h => by simp [Gh.out] at h
  gl := R.gl
  gc := fun j a c h1 h2 => (R.gc j a c h1 h2).les (les_out γ)
  ndf := fun i j a h => by simp [Gh.out] at h
  ndg := R.ndg
  dis := fun a h => by simp [Gh.out] at h
  bo := R.bo
  fnew := fun a h => by simp [Gh.out] at h
  gnew := R.gnew
  pre := R.pre
  frame := R.frame
  trk := R.trk
  tb := R.tb
  tm := fun a h => by simp [Gh.out] at h
/-- what is handed back -/
theorem handed_rel {γ : Gh} {s : S} {σ : L2.St} {H : Hp} {v : Val} {x : V} {d : D} (R : Rel K γ s σ H) (r : RelVal K γ H v x) (h : handed v s = some d) : RelD K γ.out H d x := by
  cases v with
  | d y => cases h; exact RelD.les (les_out γ) _ _ r
  | own j =>
    obtain ⟨a, rfl, ha⟩ := r
    obtain ⟨xs, vs, hc, hh, rr⟩ := R.cellF ha
    simp only [handed, hc] at h
    cases h
    refine .lst hh ?_ (RelDs.les (les_out γ) _ _ rr)
    have hm := List.mem_of_getElem? ha
    rintro ((z | z) | z | z)
    · exact R.fnew a hm (R.bo a z).1
    · cases z
    · cases z
    · exact R.dis a hm z

theorem run_zero {f : Nat} {vs : List V} {H : Hp} {Q : VK} {E : XK} (h : spG K RX (run Pg 0) f vs H Q E) : False := by
  obtain ⟨_, _, _, _, _, _, _, _, _, q⟩ := h
  exact q
theorem fns_ok (T : Top pr P Pg K mg) (hX : RX = rxP P K) (hTB : ∀ p ∈ TabT.C, LamX.TabB base mg p.1 p.2) : ∀ (k f : Nat) (fa : Addr) (fd : PySem.FuncData) (st : Stmt) (nm qual : Str) (N ps : List Str), FunA K nm qual st fa fd → FnL P fd qual N ps st (Pg f) →
    L2.FnOk pr w K mg base (L2.CX pr w) (4 * k + 4) fa fd ps (spG K RX (run Pg k) f) := by
  intro k
  induction k with
  | zero => exact fun f fa fd st nm qual N ps F B => ⟨fun _ _ _ _ h => (run_zero h).elim, fun _ _ _ _ _ _ _ _ _ _ _ _ _ h => (run_zero h).elim⟩
  | succ k ih =>
    intro f fa fd st nm qual N ps F B
    have np := B.np
    have hlen : ∀ (vs : List V) (H : Hp) (Q : VK) (E : XK), spG K RX (run Pg (k + 1)) f vs H Q E → vs.length = ps.length := fun vs H Q E h => by
      obtain ⟨γ, gs, ds, _, _, _, _, _, r, q⟩ := h
      rw [← relDs_len r]
      simp only [run, runF] at q
      by_cases e : ds.length = (Pg f).np
      · omega
      · rw [if_neg e] at q; exact q.elim
    show L2.FnOk pr w K mg base (L2.CX pr w) (4 * k + 7 + 1) fa fd ps _
    have hst : ExSteady K RX := hX ▸ rxP_steady P K
    refine F.ok B.sc hlen fun cdv hcode A outer s H vs Q E hr h => ?_
    have hl := hlen vs H Q E h
    obtain ⟨γ, gs, ds, e1, e2, e3, e4, R, r, q⟩ := h
    have ld := relDs_len r
    have hpn : ps.length ≤ N.length := by have := congrArg List.length B.sc.pre; rw [List.length_take] at this; omega
    have G : GoodS P N (run Pg k) RX (4 * k + 4) (L2.cxOf (L2.CX pr w) pr w K mg base N qual (L2.defScope st) fa cdv A outer s H E) (fun c d _ H => E c d H) (L2.defScope st) := {
      hN := rfl
      nd := B.sc.nd
      calm := rfl
      room := hr.mono (by omega)
      room1 := hr.mono (by omega)
      lam := fun hN _ => by
        obtain ⟨c, Pt, e1, e2, e3, e4⟩ := B.lm hN
        exact ⟨⟨c, Pt, hcode.symm.trans e1, hTB _ e2, e3, e4⟩, hr.mono (by omega), by omega⟩
      mts := T.mts
      rpr := T.rpr
      tup := T.blt .tuple
      set := T.set
      srt := T.srt
      nmc := T.nmc
      isc2 := T.isc2
      eqs := fun c hc g hg => by
        obtain ⟨ga, gd, gst, gq, gN, gps, e0, e1, GF, gb, GB⟩ := T.eqs c hc g hg
        exact ⟨ga, gd, gps, e0, e1, gb, ih g ga gd gst _ gq gN gps GF GB⟩
      mks := fun c hc q hq => by
        obtain ⟨ga, gd, gst, gq, gN, gps, dvs, gU, e0, e1, e2, GF, GB⟩ := T.mks c hc q hq
        exact ⟨ga, gd, gps, dvs, gU, e0, e1, e2, ih c.init ga gd gst _ gq gN gps GF GB⟩
      fnk := fun q hq => by
        obtain ⟨ga, gd, gst, gq, gN, gps, dvs, gU, e0, e1, e2, GF, GB⟩ := T.fnk q hq
        exact ⟨ga, gd, gps, dvs, gU, e0, GF.kp, e1, e2, ih q.1 ga gd gst _ gq gN gps GF GB⟩
      sts := fun c hc q hq => by
        obtain ⟨sa, ga, gd, gst, gq, gN, gps, e0, GF, gb, GB⟩ := T.sts c hc q hq
        exact ⟨sa, ga, gd, gps, e0, gb, ih q.2 ga gd gst _ gq gN gps GF GB⟩
      ccs := T.ccs
      make := fun c hc hkw => by
        obtain ⟨ga, gd, gst, gq, gN, gps, e0, e1, GF, gb, GB⟩ := T.make c hc hkw
        exact ⟨ga, gd, gps, e0, e1, gb, ih c.init ga gd gst _ gq gN gps GF GB⟩
      tk := L2.takes_of rfl rfl rfl rfl
      pass := L2.passes_of rfl
      kind := B.sc.kind
      vis := fun x h => by
        unfold visB at h
        split at h
        · rename_i e; exact .inl e
        · rename_i e; exact .inr (.inl e)
        · rename_i e; exact .inr (.inr e)
        · cases h
      gl := fun x h => by
        unfold glB at h
        split at h
        · rename_i e; exact e
        · cases h
      loc := fun x h => by
        unfold locB at h
        split at h
        · rename_i e; exact e
        · cases h
      sto := fun x h => by
        unfold storeB at h
        split at h
        · rename_i e; exact ⟨.inl e, .inl rfl⟩
        · rename_i e; exact ⟨.inr e, .inl rfl⟩
        · cases h
      cf := fun x h => h
      blt := T.blt
      tgs := T.tgs
      isi := T.isi
      lst := T.lst
      rng := T.rng
      zip := T.zip
      enm := T.enm
      cls := T.cls
      isc := T.isc
      noat := T.noat
      prop := fun c hc q hq => by
        obtain ⟨pa, ga, gd, gst, gq, gN, gps, e1, GF, gb, GB⟩ := T.prop c hc q hq
        exact ⟨pa, ga, gd, gps, e1, gb, ih q.2 ga gd gst _ gq gN gps GF GB⟩
      meth := fun c hc q hq => by
        obtain ⟨ga, gd, gst, gq, gN, gps, e1, GF, gb, GB⟩ := T.meth c hc q hq
        exact ⟨ga, gd, gps, e1, gb, ih q.2 ga gd gst _ gq gN gps GF GB⟩
      gcs := T.gcs
      fns := fun g hg => by
        obtain ⟨ga, gd, gst, gq, gN, gps, e1, GF, gb, GB⟩ := T.fns g hg
        exact ⟨ga, gd, gps, e1, GF.kp, .all gb, ih g ga gd gst _ gq gN gps GF GB⟩
      steady := hst
      rx := hX
      room3 := hr.mono (show 3 ≤ 4 * k + 7 by omega)
      exs := fun D hD => (T.exs D hD).g
      mdef := fun c hc q hq => by
        obtain ⟨ga, gd, gst, gq, gN, gps, ds, dvs, e1, GF, gb, gv, gr, GB⟩ := T.mdef c hc q hq
        exact ⟨ga, gd, gps, ds, dvs, e1, gb, gv, gr, ih q.2.1 ga gd gst _ gq gN gps GF GB⟩
      sco := rfl
      stk := rfl
      frm := rfl
      fn := fun _ => rfl }
    refine ⟨tS K RX (fun c d _ H => E c d H) (ex (run Pg k) (Pg f).body), (sndT P N (run Pg k) RX (4 * k + 4) (Pg f).body).b G _ B.b, γ, _, Rel.begin R r (by omega), ?_⟩
    simp only [run, runF] at q
    rw [if_pos (by omega)] at q
    rw [show (Pg f).nl - (Pg f).np = N.length - ds.length by rw [B.nl]; omega] at q
    have outp : ∀ {γ' : Gh} {s' : S} {H' : Hp}, Stm γ H γ' H' → γ'.out.B = γ.B ∧ γ'.out.H0 = H ∧ γ'.out.p0 = γ.p0 := fun st => ⟨st.b, st.h0.trans e3, st.p0⟩
    cases hx : ex (run Pg k) (Pg f).body ⟨ds.map (fun x => some (.d x)) ++ List.replicate (N.length - ds.length) none, [], gs⟩ with
    | bad => rw [hx] at q; exact q
    | ex e s' =>
      rw [hx] at q
      intro γ' σ' H' c d st R' rx
      have o := outp (s' := s') st
      exact q γ'.out H' c d rfl rfl o.1 o.2.1 o.2.2 R'.out (hst _ _ _ _ _ _ (les_out γ') rx)
    | ok fl s' =>
      rw [hx] at q
      cases fl with
      | nx =>
        intro γ' σ' H' st R'
        have o := outp (s' := s') st
        exact q γ'.out H' .non rfl rfl o.1 o.2.1 o.2.2 R'.out .non
      | rt v =>
        simp only at q
        intro γ' σ' H' x st R' rv
        have o := outp (s' := s') st
        cases hh : handed v s' with
        | none => simp only [hh] at q
        | some d =>
          simp only [hh] at q
          exact q γ'.out H' x rfl rfl o.1 o.2.1 o.2.2 R'.out (handed_rel R' rv hh)
      | bk => exact q.elim
      | ct => exact q.elim

end
/-! ### the end of a law -/
/-- a name whose value the top has reckoned -/
theorem loose_int {lv : List (Str × PySem.W.WData)} {mg : Str → Option Value} {h : Heap} (x : PySem.W.LooseAre lv mg h) {n : Str} {i : Int} (hn : (n, PySem.W.WData.int i) ∈ lv) : ∃ u, mg n = some u ∧ RelV (.int i) u := by
  obtain ⟨v, hm, r⟩ := x.val _ hn
  cases r
  exact ⟨_, hm, _, rfl⟩
theorem ints_rel {K : PySem.W.Frag} {γ : Gh} {H : Hp} : ∀ ns : List Int, RelDs K γ H (ns.map D.int) (ns.map V.int)
  | [] => .nil
  | n :: ns => .cons (.int n) (ints_rel ns)
/-- the ghost ahead of the law's call -/
def Gh.first (H : Hp) : Gh := { B := fun _ => False, H0 := H, p0 := [], pf := [], pg := [], tm := [] }
theorem first_bad {H : Hp} {a : Addr} : ¬ (Gh.first H).Bad a := by
  rintro ((z | z) | z | z)
  · exact z
  · cases z
  · cases z
  · cases z
theorem Rel.first (K : PySem.W.Frag) (H : Hp) (t : LamX.Tabs TabT.T H) : Rel K (Gh.first H) (outS []) [] H where
  len := rfl
  slot := fun i v h => by simp [outS] at h
  fl := rfl
  fc := fun j a c h => by simp [Gh.first] at h
  gl := rfl
  gc := fun j a c h => by simp [Gh.first] at h
  ndf := fun i j a h => by simp [Gh.first] at h
  ndg := fun i j a h => by simp [Gh.first] at h
  dis := fun a h => by simp [Gh.first] at h
  bo := fun a h => h.elim
  fnew := fun a h => by simp [Gh.first] at h
  gnew := fun a h => by simp [Gh.first] at h
  pre := List.prefix_refl _
  frame := fun a o h _ _ => h
  trk := fun a h => h
  tb := t
  tm := fun a h => by simp [Gh.first] at h
theorem end_of {l : PySem.W.OpenLaw} {q : Program} {loose : List Str} {XP : (Str → Option Value) → Heap → Prop} {YP : World → Heap → Prop} {d : PySem.DefRec} {Kp : PySem.Params → PySem.W.Frag} {P : Prg} {Pg : Nat → Fn} {lw k : Nat}
    (hn : l.most = some 63) (hdf : d.params.defaults = []) (hr : Room (4 * k + 4) PySem.callerA) (hY : ∀ (w : World) (h : Heap), YP w h → (Kp w.params).In h) (hlw : lw < P.nf) (hname : d.name = P.fname lw) (hnp : (Pg lw).np = 1)
    (hTC : ∀ p ∈ TabT.T, ∃ c, (c, p.1) ∈ TabT.C)
    (T : ∀ (w : World) (mg : Str → Option Value) (h : Heap), (Kp w.params).In h → h.Ns PySem.mainGlobals mg → XP mg h → Top l.prog P Pg (Kp w.params) mg ∧ TabC q (Kp w.params) mg)
    (hlaw : ∀ ns : List Int, ns.length ≤ 63 → ∃ gs, run Pg k lw [.scr (ns.map D.int)] [] = .ok (.bl true) gs) :
    PySem.W.WalkO q loose XP YP l.row.toRowW d [] (fun f vs => PySem.call f vs) := by
  refine Att.attach_callB hn hdf fun w s0 s1 mg mb fa o pm cd doc a vs ns G Y ho hd hcd hmg hobj hints hlen hbits hg => ?_
  have KX := hY w _ Y
  obtain ⟨Tp, hTab⟩ := T w mg _ KX G.T.g G.X
  obtain ⟨fa', fd, st, qual, N, ps, h1, F, b, B⟩ := Tp.fns lw hlw
  have efa : fa' = fa := by
    rw [hname] at hmg
    have := h1.symm.trans hmg
    injection this with e
    injection e
  subst efa
  obtain ⟨x, rfl⟩ : ∃ x, ps = [x] := by
    have : ps.length = 1 := by rw [← B.np]; exact hnp
    match ps, this with
    | [x], _ => exact ⟨x, rfl⟩
  have tab : ∀ p ∈ TabT.C, s1.heap.get? p.2 = some { cls := .none, data := .fields #[] } ∧ (Kp w.params).lookup p.2 = none ∧ PySem.W.CodeHd s1.heap p.1 p.2 := fun p hp => by
    obtain ⟨nm, fa2, o2, fd2, e, dd, vs2, sl, k0, k1, k2, k3, k4, k5, k6, k7⟩ := hTab p hp
    obtain ⟨dL, hm, hn1⟩ := List.any_eq_true.mp k0
    have hn2 : dL.name = nm := beq_iff_eq.mp hn1
    obtain ⟨a', o', fd', c', P', g1, g2, g3, g4, g5, g6⟩ := G.T.tab dL hm
    rw [hn2, k1] at g1
    cases g1
    rw [KX _ _ k2] at g2
    cases g2
    rw [k3] at g3
    cases g3
    rw [k4] at g4
    cases g4
    have g6' := g6
    obtain ⟨⟨oc, vc, e1, _, e3, e4⟩, hP⟩ := g6
    rw [KX _ _ k5] at e1
    cases e1
    cases e3
    rw [k6] at e4
    cases e4
    exact ⟨hP, k7, PySem.W.CodeHd.of g5 g6'⟩
  refine LamX.law_callTs (sp := spG (Kp w.params) (rxP P (Kp w.params)) (run Pg k) lw) (CX := L2.CX l.prog w) (cs := TabT.C) KX G.T.g G.T.b G.T.builtins G.T.nolimit hg (fun p hp => (tab p hp).1) (fun p hp => (tab p hp).2.1) (fun p hp => (tab p hp).2.2) G.T.bmain hobj hints (Nat.le_trans hlen (by decide)) hr
    (fun base kb nb hTB => ?_) (fun s u => .of_eq (b [u] rfl)) (fun H hH hS => ?_) fun H e s' hc => ?_
  · exact fns_ok Tp rfl hTB k lw fa' fd st _ qual N [x] F B
  · obtain ⟨gs, hrun⟩ := hlaw ns hlen
    have ht : LamX.Tabs TabT.T H := fun p hp => by
      obtain ⟨c, hc⟩ := hTC p hp
      exact LamX.TabS.nil (hH _ hc)
    refine ⟨Gh.first H, [], [.scr (ns.map D.int)], rfl, rfl, rfl, rfl, Rel.first _ H ht, .cons ?_ .nil, ?_⟩
    · rcases hS with hS | hS
      · exact .scr hS first_bad (ints_rel ns)
      · exact .scrK (fun _ => .inr hS) (ints_rel ns)
    · rw [hrun]
      intro γ' H' v _ _ _ _ _ _ rv
      cases rv
      rfl
  · obtain ⟨_, _, _, _, _, _, _, _, _, _, _, _, z⟩ := hc
    exact z
end Mp

/-! Mp: lemmas about runs of codes -/
namespace Mp
open PySem (Str PyData)

theorem big_lt : (10 : Int) ^ 700 < BIG := by decide +kernel
theorem okI_of {i : Int} (h1 : -10 ^ 700 < i) (h2 : i < 10 ^ 700) : okI i = true := by
  have := big_lt
  unfold okI
  simp only [decide_eq_true_eq]
  generalize (10:Int)^700 = t at *
  omega
theorem getset {α : Type} {l : List α} {n : Nat} {x y : α} (h : l[n]? = some x) : (l.set n y)[n]? = some y := by
  have : n < l.length := (List.getElem?_eq_some_iff.mp h).1
  rw [List.getElem?_set_self this]

/-- the n-th digits of a number -/
theorem len_digits {i : Int} {k : Nat} (h0 : 0 ≤ i) (hk : 0 < k) : (Str.ofString (toString i)).length ≤ k ↔ i < 10 ^ k := by
  obtain ⟨n, rfl⟩ := Int.eq_ofNat_of_zero_le h0
  have e : toString (n : Int) = n.repr := rfl
  rw [PyProof.Rows.ofString_length, e, String.length_toList, Nat.length_repr_le_iff hk]
  constructor
  · intro h
    have : ((n : Int)) < ((10 ^ k : Nat) : Int) := Int.ofNat_lt.mpr h
    simpa using this
  · intro h
    have : ((n : Int)) < ((10 ^ k : Nat) : Int) := by simpa using h
    exact Int.ofNat_lt.mp this

/-- xs == [] -/
theorem eq_nilL (xs : List D) (s : S) : eqVal (.d (.lst xs)) (.d (.lst [])) s = some xs.isEmpty := by
  cases xs with
  | nil => simp [eqVal, Val.py, D.py, D.pys, PyData.depth, PyData.depthAll, PyData.eqv, PyData.eqvAll]
  | cons x xs =>
    simp only [eqVal, Val.py, D.py]
    cases h : D.pys (x :: xs) with
    | none => simp [D.pys, seqv]
    | some l =>
      have : ∃ a r, l = a :: r := by
        simp only [D.pys] at h
        split at h
        · cases h; exact ⟨_, _, rfl⟩
        · cases h
      obtain ⟨a, r, rfl⟩ := this
      simp [D.pys, PyData.depth, PyData.depthAll, PyData.eqv, PyData.eqvAll]
theorem eq_nilO {j : Nat} {xs : List D} {s : S} (h : s.fs[j]? = some (.lst xs)) : eqVal (.own j) (.d (.lst [])) s = some xs.isEmpty := by
  rw [← eq_nilL xs s]
  simp only [eqVal, Val.py, D.py, h, seqv]

theorem eq_int (i j : Int) (s : S) : eqVal (.d (.int i)) (.d (.int j)) s = some (decide (i = j)) := by
  by_cases h : i = j <;> simp [eqVal, Val.py, D.py, PyData.depth, PyData.eqv, h]
theorem eq_bl (i j : Bool) (s : S) : eqVal (.d (.bl i)) (.d (.bl j)) s = some (i == j) := by
  cases i <;> cases j <;> simp [eqVal, Val.py, D.py, PyData.depth, PyData.eqv]
theorem eq_nil0 (e : List (Option Val)) (xs : List D) (l g : List Cell) : eqVal (.own 0) (.d (.lst [])) ⟨e, .lst xs :: l, g⟩ = some xs.isEmpty := eq_nilO rfl
/-- a comprehension that changes nothing -/
theorem lcGo_pure {env : List (Option Val)} {i : Nat} {cnd : S → R Bool} {elt : S → R Val} {F G : List Cell} (p : D → Bool) (f : D → D) :
    ∀ (xs : List D) (e : List (Option Val)), (∀ x ∈ xs, cnd ⟨env.set i (some (.d x)), F, G⟩ = .ok (p x) ⟨env.set i (some (.d x)), F, G⟩ ∧ (p x = true → elt ⟨env.set i (some (.d x)), F, G⟩ = .ok (.d (f x)) ⟨env.set i (some (.d x)), F, G⟩)) →
      ∃ e', lcGo env [i] cnd elt xs ⟨e, F, G⟩ = .ok ((xs.filter p).map f) ⟨e', F, G⟩
  | [], e, _ => ⟨e, rfl⟩
  | x :: r, e, h => by
    obtain ⟨h1, h2⟩ := h x (List.mem_cons_self ..)
    have ih := fun e => lcGo_pure p f r e (fun y hy => h y (List.mem_cons_of_mem _ hy))
    cases hp : p x with
    | false =>
      rw [hp] at h1
      obtain ⟨e', q⟩ := ih (env.set i (some (.d x)))
      exact ⟨e', by simp [lcGo, bindTs, h1, q, hp]⟩
    | true =>
      rw [hp] at h1
      obtain ⟨e', q⟩ := ih (env.set i (some (.d x)))
      exact ⟨e', by simp [lcGo, bindTs, h1, h2 hp, q, hp]⟩
/-- a comprehension that throws dice -/
theorem lcGo_dice {env : List (Option Val)} {i : Nat} {cnd : S → R Bool} {elt : S → R Val} {F : List Cell} (Q : D → Prop) (J : Nat → List Cell → Prop)
    (hc : ∀ s, cnd s = .ok true s) (h : ∀ x n G, J (n + 1) G → ∃ y G', elt ⟨env.set i (some (.d x)), F, G⟩ = .ok (.d y) ⟨env.set i (some (.d x)), F, G'⟩ ∧ Q y ∧ J n G') :
    ∀ (xs : List D) (e : List (Option Val)) (n : Nat) (G : List Cell), J (xs.length + n) G →
      ∃ ys e' G', lcGo env [i] cnd elt xs ⟨e, F, G⟩ = .ok ys ⟨e', F, G'⟩ ∧ ys.length = xs.length ∧ (∀ y ∈ ys, Q y) ∧ J n G'
  | [], e, n, G, j => ⟨[], e, G, rfl, rfl, by simp, by simpa using j⟩
  | x :: r, e, n, G, j => by
    obtain ⟨y, G1, h1, h2, h3⟩ := h x (r.length + n) G (by simpa [Nat.add_right_comm] using j)
    obtain ⟨ys, e', G', q1, q2, q3, q4⟩ := lcGo_dice Q J hc h r (env.set i (some (.d x))) n G1 h3
    refine ⟨y :: ys, e', G', ?_, by simp [q2], ?_, q4⟩
    · simp [lcGo, bindTs, hc, h1, q1]
    · intro z hz
      rcases List.mem_cons.mp hz with rfl | hz
      · exact h2
      · exact q3 z hz
/-- a for whose turns go on -/
theorem forGo_inv {i : Nat} {body : S → R Fl} (J : Nat → S → Prop)
    (h : ∀ x n s, J (n + 1) s → ∃ s', (body { s with env := s.env.set i (some (.d x)) } = .ok .nx s' ∨ body { s with env := s.env.set i (some (.d x)) } = .ok .ct s') ∧ J n s') :
    ∀ (xs : List D) (n : Nat) (s : S), J (xs.length + n) s → ∃ s', forGo [i] body xs s = .ok .nx s' ∧ J n s'
  | [], n, s, j => ⟨s, rfl, by simpa using j⟩
  | x :: r, n, s, j => by
    obtain ⟨s1, h1, h2⟩ := h x (r.length + n) s (by simpa [Nat.add_right_comm] using j)
    obtain ⟨s', q1, q2⟩ := forGo_inv J h r n s1 h2
    refine ⟨s', ?_, q2⟩
    rcases h1 with h1 | h1 <;> simp [forGo, bindTs, h1, q1]
/-- the same, knowing what the turns walk -/
theorem forGo_mem {i : Nat} {body : S → R Fl} (P : D → Prop) (J : Nat → S → Prop)
    (h : ∀ x n s, P x → J (n + 1) s → ∃ s', (body { s with env := s.env.set i (some (.d x)) } = .ok .nx s' ∨ body { s with env := s.env.set i (some (.d x)) } = .ok .ct s') ∧ J n s') :
    ∀ (xs : List D) (n : Nat) (s : S), (∀ x ∈ xs, P x) → J (xs.length + n) s → ∃ s', forGo [i] body xs s = .ok .nx s' ∧ J n s'
  | [], n, s, _, j => ⟨s, rfl, by simpa using j⟩
  | x :: r, n, s, hP, j => by
    obtain ⟨s1, h1, h2⟩ := h x (r.length + n) s (hP x (List.mem_cons_self ..)) (by simpa [Nat.add_right_comm] using j)
    obtain ⟨s', q1, q2⟩ := forGo_mem P J h r n s1 (fun y hy => hP y (List.mem_cons_of_mem _ hy)) h2
    refine ⟨s', ?_, q2⟩
    rcases h1 with h1 | h1 <;> simp [forGo, bindTs, h1, q1]
theorem rngL_mem {n : Int} {x : D} (h : x ∈ rngL 0 n) : ∃ i : Nat, x = .int i ∧ (i : Int) < n := by
  simp only [rngL, List.mem_map, List.mem_range] at h
  obtain ⟨i, hi, rfl⟩ := h
  exact ⟨i, by simp, by omega⟩
theorem run_s (Pg : Nat → Fn) (k f : Nat) (args : List D) (gs : List Cell) : run Pg (k + 1) f args gs = runF (run Pg k) (Pg f) args gs := rfl

/-- a shared cell that holds dice, n throws left -/
def Dice (gs : List Cell) (d n : Nat) : Prop := ∃ a b c : Int, gs[d]? = some (.lst [.int a, .int b, .int c]) ∧ 0 ≤ a ∧ a < 10 ^ 700 ∧ 0 ≤ b ∧ b < 2305843009213693921 ∧ 0 ≤ c ∧ c + n < 10 ^ 30
theorem Dice.mono {gs : List Cell} {d n m : Nat} (h : Dice gs d n) (hm : m ≤ n) : Dice gs d m := by
  obtain ⟨a, b, c, h1, h2, h3, h4, h5, h6, h7⟩ := h
  exact ⟨a, b, c, h1, h2, h3, h4, h5, h6, by omega⟩
end Mp

namespace Lw
open Mp
open PySem (Str Stmt)

/-- the i-th statement of the text -/
def tpst (i : Nat) : PySem.Stmt := PySem.Challenge.pw_goneunseen_k78_rows_in_columns.main.body.getD i (.Pass ⟨0, 0, 0, 0⟩)

/-- is_printable: 0 value, 1 least, 2 most, 3 sign -/
def c_is_printable : T :=
    .cons (.ret (.and_ (.isi [] (.var 0) .str) (.and_ (.chain .le .le (.var 1) (.bf .len (.cons (.var 0) (.nil))) (.var 2)) (.bf .all (.cons (.fz (.lc [3] [3] (.it (.var 0)) (.nil) (.chain .le .le (.cst (.str " ")) (.var 3) (.cst (.str "~"))))) (.nil))))))
    (.nil)

/-- are_rows: 0 value, 1 row, 2 word -/
def c_are_rows : T :=
    .cons (.ite (.or_ (.not_ (.isi [] (.var 0) .tup)) (.not_ (.bf .all (.cons (.fz (.lc [1] [1] (.it (.var 0)) (.nil) (.isi [] (.var 1) .tup))) (.nil))))) (.cons (.ret (.cst (.bl false)))
    (.nil)) (.nil))
    (.cons (.ite (.not_ (.bf .all (.cons (.fz (.lc [1] [1] (.it (.var 0)) (.nil) (.and_ (.chain .le .le (.cst (.int 1)) (.bf .len (.cons (.var 1) (.nil))) (.gc (.int 8))) (.cmp .eq (.bf .len (.cons (.var 1) (.nil))) (.bf .len (.cons (.sub (.var 0) (.cst (.int 0))) (.nil))))))) (.nil)))) (.cons (.ret (.cst (.bl false)))
    (.nil)) (.nil))
    (.cons (.ret (.bf .all (.cons (.fz (.lc2 [1, 2] [1] (.it (.var 0)) [2] (.var 1) (.call 0 (.cons (.var 2) (.cons (.cst (.int 0)) (.cons (.gc (.int 60)) (.nil))))))) (.nil))))
    (.nil)))

/-- are_sides: 0 value, 1 rows, 2 sign -/
def c_are_sides : T :=
    .cons (.ite (.or_ (.not_ (.call 0 (.cons (.var 0) (.cons (.cst (.int 0)) (.cons (.gc (.int 8)) (.nil)))))) (.not_ (.bf .all (.cons (.fz (.lc [2] [2] (.it (.var 0)) (.nil) (.cmp .in_ (.var 2) (.gc (.str "<>^"))))) (.nil))))) (.cons (.ret (.cst (.bl false)))
    (.nil)) (.nil))
    (.cons (.ret (.or_ (.cmp .eq (.var 0) (.cst (.str ""))) (.or_ (.cmp .eq (.var 1) (.tup (.nil))) (.cmp .eq (.bf .len (.cons (.var 0) (.nil))) (.bf .len (.cons (.sub (.var 1) (.cst (.int 0))) (.nil)))))))
    (.nil))

/-- filled: 0 word, 1 width, 2 side, 3 fill, 4 before -/
def c_filled : T :=
    .cons (.ite (.cmp .eq (.var 2) (.cst (.str ">"))) (.cons (.ret (.jst true (.var 0) (.var 1) (.var 3)))
    (.nil)) (.nil))
    (.cons (.asg 4 (.ife (.cmp .eq (.var 2) (.cst (.str "^"))) (.bin .fdiv (.bin .sub (.var 1) (.bf .len (.cons (.var 0) (.nil)))) (.cst (.int 2))) (.cst (.int 0))))
    (.cons (.ret (.jst false (.bin .add (.rep (.var 3) (.var 4)) (.var 0)) (.var 1) (.var 3)))
    (.nil)))

/-- _law_dice: 0 script, 1 spot, 2 cell, 3 great, 4 blend -/
def c_law_dice : T :=
    .cons (.asg 2 (.ife (.cmp .lt (.var 1) (.bf .len (.cons (.var 0) (.nil)))) (.sub (.var 0) (.var 1)) (.bin .add (.bin .mul (.cst (.int 41)) (.var 1)) (.cst (.int 9)))))
    (.cons (.asg 3 (.bin .mod (.bf .int (.cons (.bf .abs (.cons (.var 2) (.nil))) (.nil))) (.bin .pow (.bin .pow (.cst (.int 10)) (.cst (.int 59))) (.cst (.int 11)))))
    (.cons (.asg 4 (.bin .add (.bin .add (.bin .add (.bin .mul (.var 3) (.cst (.int 3202034522624059733))) (.bin .mul (.cst (.int 83)) (.var 1))) (.bin .mul (.cst (.int 19)) (.bf .int (.cons (.cmp .lt (.var 2) (.cst (.int 0))) (.nil))))) (.cst (.int 5))))
    (.cons (.ret (.gl (.lst (.cons (.bf .max (.cons (.cst (.int 0)) (.cons (.bin .sub (.var 3) (.bin .pow (.cst (.int 10)) (.cst (.int 18)))) (.nil)))) (.cons (.bin .mod (.bf .int (.cons (.var 4) (.nil))) (.cst (.int 2305843009213693921))) (.cons (.cst (.int 0)) (.nil)))))))
    (.nil))))

/-- _law_roll: 0 dice, 1 upto, 2 one, 3 two, 4 found -/
def c_law_roll : T :=
    .cons (.ite (.cmp .gt (.sub (.var 0) (.cst (.int 0))) (.cst (.int 0))) (.cons (.asg 4 (.bin .mod (.bf .int (.cons (.sub (.var 0) (.cst (.int 0))) (.nil))) (.var 1)))
    (.cons (.seti (.var 0) (.cst (.int 0)) (.bin .fdiv (.sub (.var 0) (.cst (.int 0))) (.var 1)))
    (.cons (.ret (.var 4))
    (.nil)))) (.nil))
    (.cons (.seti (.var 0) (.cst (.int 2)) (.bin .add (.sub (.var 0) (.cst (.int 2))) (.cst (.int 1))))
    (.cons (.asg 2 (.bin .mod (.bf .int (.cons (.bin .add (.sub (.var 0) (.cst (.int 1))) (.bin .mul (.cst (.int 961748941)) (.sub (.var 0) (.cst (.int 2))))) (.nil))) (.cst (.int 67280421310679))))
    (.cons (.asg 3 (.bin .add (.bin .mul (.bin .mod (.bf .int (.cons (.bin .mul (.var 2) (.var 2)) (.nil))) (.cst (.int 576460752303423389))) (.var 2)) (.bin .mul (.cst (.int 7919)) (.sub (.var 0) (.cst (.int 2))))))
    (.cons (.ret (.bin .mod (.bf .int (.cons (.bin .fdiv (.bin .mod (.bf .int (.cons (.bin .add (.var 3) (.sub (.var 0) (.cst (.int 1)))) (.nil))) (.cst (.int 2199023255579))) (.cst (.int 128))) (.nil))) (.var 1)))
    (.nil)))))

/-- _law_pick: 0 dice, 1 items -/
def c_law_pick : T :=
    .cons (.ret (.sub (.var 1) (.call 5 (.cons (.var 0) (.cons (.bf .len (.cons (.var 1) (.nil))) (.nil))))))
    (.nil)

/-- _law_signs: 0 marks -/
def c_law_signs : T :=
    .cons (.asg 0 (.cst (.str " !\"\x23$&'()*+,-./0123456789:;<=>?\x40[\\]^_\x60{|}~")))
    (.cons (.ret (.bin .add (.bin .add (.var 0) (.cst (.str "ABCDEFGHIJKLMNOPQRSTUVWXYZ"))) (.cst (.str "abcdefghijklmnopqrstuvwxyz"))))
    (.nil))

/-- _law_string: 0 dice, 1 most, 2 turn -/
def c_law_string : T :=
    .cons (.ret (.bm .join (.cst (.str "")) (.cons (.fz (.lc [2] [2] (.rng (.cons (.call 5 (.cons (.var 0) (.cons (.bin .add (.var 1) (.cst (.int 1))) (.nil)))) (.nil))) (.nil) (.call 6 (.cons (.var 0) (.cons (.call 7 (.nil)) (.nil)))))) (.nil))))
    (.nil)

/-- _law_rows_drawn: 0 dice, 1 turn, 2 width, 3 found, 4 row, 5 column -/
def c_law_rows_drawn : T :=
    .cons (.par 2 3 (.bin .add (.cst (.int 1)) (.call 5 (.cons (.var 0) (.cons (.cst (.int 8)) (.nil))))) (.mk (.lst (.nil))))
    (.cons (.for_ [1] (.rng (.cons (.call 5 (.cons (.var 0) (.cons (.cst (.int 10)) (.nil)))) (.nil))) (.cons (.asg 4 (.mk (.lc [5] [5] (.rng (.cons (.var 2) (.nil))) (.nil) (.call 8 (.cons (.var 0) (.cons (.cst (.int 6)) (.nil)))))))
    (.cons (.ite (.cmp .eq (.call 5 (.cons (.var 0) (.cons (.cst (.int 5)) (.nil)))) (.cst (.int 0))) (.cons (.seti (.var 4) (.call 5 (.cons (.var 0) (.cons (.var 2) (.nil)))) (.rep (.call 6 (.cons (.var 0) (.cons (.call 7 (.nil)) (.nil)))) (.cst (.int 60))))
    (.nil)) (.nil))
    (.cons (.exp (.bm .append (.var 3) (.cons (.bf .tuple (.cons (.var 4) (.nil))) (.nil))))
    (.nil)))))
    (.cons (.ret (.bf .tuple (.cons (.var 3) (.nil))))
    (.nil)))

/-- _law_cell_right: 0 part, 1 word, 2 side, 3 more, 4 lots, 5 front -/
def c_law_cell_right : T :=
    .cons (.asg 4 (.bin .sub (.bf .len (.cons (.var 0) (.nil))) (.bf .len (.cons (.var 1) (.nil)))))
    (.cons (.asg 5 (.ife (.cmp .eq (.var 2) (.cst (.str ">"))) (.var 4) (.cst (.int 0))))
    (.cons (.ite (.cmp .eq (.var 2) (.cst (.str "^"))) (.cons (.asg 5 (.bin .fdiv (.var 4) (.cst (.int 2))))
    (.nil)) (.nil))
    (.cons (.ret (.cmp .eq (.var 0) (.bin .add (.bin .add (.rep (.var 3) (.var 5)) (.var 1)) (.rep (.var 3) (.bin .sub (.var 4) (.var 5))))))
    (.nil))))

/-- _law_lines_right: 0 text, 1 rows, 2 each, 3 more, 4 gate, 5 column, 6 lines, 7 widths, 8 line, 9 row, 10 at, 11 word, 12 part -/
def c_law_lines_right : T :=
    .cons (.ite (.cmp .eq (.var 1) (.tup (.nil))) (.cons (.ret (.cmp .eq (.var 0) (.cst (.str ""))))
    (.nil)) (.nil))
    (.cons (.par 6 7 (.fz (.spl (.var 0) (.cst (.str "\n")))) (.mk (.lst (.nil))))
    (.cons (.for_ [5] (.rng (.cons (.bf .len (.cons (.sub (.var 1) (.cst (.int 0))) (.nil))) (.nil))) (.cons (.exp (.bm .append (.var 7) (.cons (.bf .max (.cons (.fz (.lc [9] [9] (.it (.var 1)) (.nil) (.bf .len (.cons (.sub (.var 9) (.var 5)) (.nil))))) (.nil))) (.nil))))
    (.nil)))
    (.cons (.ite (.cmp .ne (.bf .len (.cons (.var 6) (.nil))) (.bf .len (.cons (.var 1) (.nil)))) (.cons (.ret (.cst (.bl false)))
    (.nil)) (.nil))
    (.cons (.for_ [8, 9] (.zip (.cons (.var 6) (.cons (.var 1) (.nil)))) (.cons (.asg 10 (.cst (.int 0)))
    (.cons (.for_ [5, 11] (.enm (.cons (.var 9) (.nil))) (.cons (.ite (.and_ (.cmp .gt (.var 5) (.cst (.int 0))) (.cmp .ne (.sl (.var 8) (.var 10) (.bin .add (.var 10) (.bf .len (.cons (.var 4) (.nil))))) (.var 4))) (.cons (.ret (.cst (.bl false)))
    (.nil)) (.nil))
    (.cons (.asg 10 (.bin .add (.var 10) (.bin .mul (.bf .len (.cons (.var 4) (.nil))) (.bf .int (.cons (.cmp .gt (.var 5) (.cst (.int 0))) (.nil))))))
    (.cons (.asg 12 (.sl (.var 8) (.var 10) (.bin .add (.var 10) (.sub (.var 7) (.var 5)))))
    (.cons (.ite (.or_ (.cmp .ne (.bf .len (.cons (.var 12) (.nil))) (.sub (.var 7) (.var 5))) (.not_ (.call 10 (.cons (.var 12) (.cons (.var 11) (.cons (.sub (.var 2) (.var 5)) (.cons (.var 3) (.nil)))))))) (.cons (.ret (.cst (.bl false)))
    (.nil)) (.nil))
    (.cons (.asg 10 (.bin .add (.var 10) (.bf .len (.cons (.var 12) (.nil)))))
    (.nil)))))))
    (.cons (.ite (.cmp .ne (.var 10) (.bf .len (.cons (.var 8) (.nil)))) (.cons (.ret (.cst (.bl false)))
    (.nil)) (.nil))
    (.nil)))))
    (.cons (.ret (.cst (.bl true)))
    (.nil))))))

/-- _law_right: 0 dice, 1 rows, 2 width, 3 each, 4 more, 5 gate, 6 column -/
def c_law_right : T :=
    .cons (.asg 1 (.call 9 (.cons (.var 0) (.nil))))
    (.cons (.asg 2 (.ife (.cmp .eq (.var 1) (.tup (.nil))) (.bin .add (.cst (.int 1)) (.call 5 (.cons (.var 0) (.cons (.cst (.int 8)) (.nil))))) (.bf .len (.cons (.sub (.var 1) (.cst (.int 0))) (.nil)))))
    (.cons (.asg 3 (.bm .join (.cst (.str "")) (.cons (.fz (.lc [6] [6] (.rng (.cons (.var 2) (.nil))) (.nil) (.call 6 (.cons (.var 0) (.cons (.cst (.str "<>^")) (.nil)))))) (.nil))))
    (.cons (.par 4 5 (.call 6 (.cons (.var 0) (.cons (.call 7 (.nil)) (.nil)))) (.call 8 (.cons (.var 0) (.cons (.cst (.int 10)) (.nil)))))
    (.cons (.ite (.not_ (.call 11 (.cons (.callk 16 1 [none, none, none] [.str "", .str " ", .str " "] [] (.cons (.var 1) (.nil)) (.nil)) (.cons (.var 1) (.cons (.rep (.cst (.str "<")) (.var 2)) (.cons (.cst (.str " ")) (.cons (.cst (.str " ")) (.nil)))))))) (.cons (.ret (.cst (.bl false)))
    (.nil)) (.nil))
    (.cons (.ite (.not_ (.call 11 (.cons (.callk 16 1 [some 0, none, none] [.str " ", .str " "] ["sides"] (.cons (.var 1) (.nil)) (.cons (.var 3) (.nil))) (.cons (.var 1) (.cons (.var 3) (.cons (.cst (.str " ")) (.cons (.cst (.str " ")) (.nil)))))))) (.cons (.ret (.cst (.bl false)))
    (.nil)) (.nil))
    (.cons (.ite (.not_ (.call 11 (.cons (.callk 16 1 [some 1, some 0, none] [.str " "] ["fill", "sides"] (.cons (.var 1) (.nil)) (.cons (.var 4) (.cons (.cst (.str "")) (.nil)))) (.cons (.var 1) (.cons (.rep (.cst (.str "<")) (.var 2)) (.cons (.var 4) (.cons (.cst (.str " ")) (.nil)))))))) (.cons (.ret (.cst (.bl false)))
    (.nil)) (.nil))
    (.cons (.ret (.call 11 (.cons (.callk 16 1 [some 1, some 2, some 0] [] ["between", "sides", "fill"] (.cons (.var 1) (.nil)) (.cons (.var 5) (.cons (.var 3) (.cons (.var 4) (.nil))))) (.cons (.var 1) (.cons (.var 3) (.cons (.var 4) (.cons (.var 5) (.nil))))))))
    (.nil))))))))

/-- _law_wrong_rows: 0 dice, 1 rows, 2 found, 3 some, 4 odd, 5 left -/
def c_law_wrong_rows : T :=
    .cons (.asg 1 (.sl (.fz (.lst (.cons (.tup (.cons (.cst (.str "a")) (.cons (.cst (.str "")) (.nil)))) (.cons (.tup (.cons (.cst (.str "bc")) (.cons (.cst (.str "d")) (.nil)))) (.cons (.tup (.cons (.cst (.str "")) (.cons (.cst (.str " ")) (.nil)))) (.nil)))))) (.nil) (.call 5 (.cons (.var 0) (.cons (.cst (.int 4)) (.nil))))))
    (.cons (.asg 2 (.mk (.lst (.cons (.cst (.non)) (.cons (.cst (.int 0)) (.cons (.cst (.str "ab")) (.cons (.fz (.lst (.cons (.tup (.cons (.cst (.str "a")) (.nil))) (.nil)))) (.cons (.dct (.nil)) (.cons (.tup (.cons (.cst (.str "a")) (.cons (.cst (.str "b")) (.nil)))) (.cons (.cst (.bl true)) (.nil)))))))))))
    (.cons (.asg 3 (.fz (.lst (.cons (.cst (.non)) (.cons (.cst (.str "ab")) (.cons (.fz (.lst (.cons (.cst (.str "a")) (.cons (.cst (.str "b")) (.nil))))) (.cons (.tup (.nil)) (.cons (.tup (.cons (.cst (.str "a")) (.nil))) (.cons (.tup (.cons (.cst (.str "a")) (.cons (.cst (.str "b")) (.cons (.cst (.str "c")) (.nil))))) (.cons (.tup (.cons (.cst (.str "a")) (.cons (.cst (.non)) (.nil)))) (.cons (.tup (.cons (.cst (.int 0)) (.cons (.cst (.str "b")) (.nil)))) (.cons (.tup (.cons (.cst (.str "a")) (.cons (.fz (.lst (.cons (.cst (.str "b")) (.nil)))) (.nil)))) (.cons (.tup (.cons (.cst (.str "a")) (.cons (.cst (.str "b\n")) (.nil)))) (.nil))))))))))))))
    (.cons (.for_ [4] (.it (.bin .add (.var 3) (.fz (.lst (.cons (.tup (.cons (.rep (.cst (.str "a")) (.cst (.int 61))) (.cons (.cst (.str "b")) (.nil)))) (.cons (.tup (.cons (.cst (.str "a")) (.cons (.tup (.cons (.cst (.str "b")) (.nil))) (.nil)))) (.cons (.dct (.cons (.cst (.str "a")) (.cons (.cst (.str "b")) (.nil)))) (.nil)))))))) (.cons (.asg 5 (.mk (.cat (.fz (.lof (.var 1))) (.fz (.lst (.cons (.tup (.cons (.cst (.str "x")) (.cons (.cst (.str "yy")) (.nil)))) (.nil)))))))
    (.cons (.exp (.insm (.var 5) (.call 5 (.cons (.var 0) (.cons (.bin .add (.bf .len (.cons (.var 5) (.nil))) (.cst (.int 1))) (.nil)))) (.var 4)))
    (.cons (.exp (.bm .append (.var 2) (.cons (.bf .tuple (.cons (.var 5) (.nil))) (.nil))))
    (.nil)))))
    (.cons (.ret (.bin .add (.var 2) (.fz (.lst (.cons (.tup (.cons (.rep (.tup (.cons (.cst (.str "a")) (.nil))) (.cst (.int 9))) (.nil))) (.nil))))))
    (.nil)))))

/-- _law_refused: 0 dice, 1 rows, 2 odd, 3 found -/
def c_law_refused : T :=
    .cons (.asg 1 (.tup (.cons (.tup (.cons (.cst (.str "a")) (.cons (.cst (.str "b")) (.nil)))) (.cons (.tup (.cons (.cst (.str "")) (.cons (.cst (.str "cc")) (.nil)))) (.nil)))))
    (.cons (.for_ [2] (.it (.call 13 (.cons (.var 0) (.nil)))) (.cons (.ite (.cmp .ne (.met 17 (.callk 16 1 [none, none, none] [.str "", .str " ", .str " "] [] (.cons (.var 2) (.nil)) (.nil)) (.con (.str "fine")) (.hdE "InvalidOperation" ["InvalidOperation"] none (.cst (.str "operation")) (.nil))) (.cst (.str "operation"))) (.cons (.ret (.cst (.bl false)))
    (.nil)) (.nil))
    (.nil)))
    (.cons (.for_ [2] (.it (.fz (.lst (.cons (.cst (.non)) (.cons (.cst (.int 0)) (.cons (.cst (.str "<")) (.cons (.cst (.str "<>^")) (.cons (.cst (.str "<x")) (.cons (.cst (.str "< ")) (.cons (.fz (.lst (.cons (.cst (.str "<")) (.cons (.cst (.str ">")) (.nil))))) (.cons (.tup (.cons (.cst (.str "<")) (.cons (.cst (.str ">")) (.nil)))) (.cons (.cst (.bl true)) (.cons (.dct (.nil)) (.cons (.cst (.str "<>\n")) (.nil))))))))))))))) (.cons (.ite (.cmp .ne (.met 17 (.callk 16 1 [some 0, none, none] [.str " ", .str " "] ["sides"] (.cons (.var 1) (.nil)) (.cons (.var 2) (.nil))) (.con (.str "fine")) (.hdE "InvalidOperation" ["InvalidOperation"] none (.cst (.str "operation")) (.nil))) (.cst (.str "operation"))) (.cons (.ret (.cst (.bl false)))
    (.nil)) (.nil))
    (.nil)))
    (.cons (.for_ [2] (.it (.fz (.lst (.cons (.cst (.non)) (.cons (.cst (.int 0)) (.cons (.cst (.str "")) (.cons (.cst (.str "ab")) (.cons (.cst (.str "\n")) (.cons (.cst (.bl true)) (.cons (.fz (.lst (.cons (.cst (.str " ")) (.nil)))) (.cons (.tup (.nil)) (.cons (.dct (.nil)) (.nil))))))))))))) (.cons (.ite (.cmp .ne (.met 17 (.callk 16 1 [none, some 0, none] [.str "", .str " "] ["fill"] (.cons (.call 6 (.cons (.var 0) (.cons (.fz (.lst (.cons (.var 1) (.cons (.tup (.nil)) (.nil))))) (.nil)))) (.nil)) (.cons (.var 2) (.nil))) (.con (.str "fine")) (.hdE "InvalidOperation" ["InvalidOperation"] none (.cst (.str "operation")) (.nil))) (.cst (.str "operation"))) (.cons (.ret (.cst (.bl false)))
    (.nil)) (.nil))
    (.nil)))
    (.cons (.for_ [2] (.it (.fz (.lst (.cons (.cst (.non)) (.cons (.cst (.int 0)) (.cons (.rep (.cst (.str "a")) (.cst (.int 11))) (.cons (.cst (.str "\n")) (.cons (.cst (.str "a\n")) (.cons (.cst (.bl true)) (.cons (.fz (.lst (.nil))) (.cons (.tup (.nil)) (.cons (.dct (.nil)) (.nil))))))))))))) (.cons (.ite (.cmp .ne (.met 17 (.callk 16 1 [none, none, some 0] [.str "", .str " "] ["between"] (.cons (.call 6 (.cons (.var 0) (.cons (.fz (.lst (.cons (.var 1) (.cons (.tup (.nil)) (.nil))))) (.nil)))) (.nil)) (.cons (.var 2) (.nil))) (.con (.str "fine")) (.hdE "InvalidOperation" ["InvalidOperation"] none (.cst (.str "operation")) (.nil))) (.cst (.str "operation"))) (.cons (.ret (.cst (.bl false)))
    (.nil)) (.nil))
    (.nil)))
    (.cons (.asg 3 (.mk (.lst (.cons (.met 17 (.callk 16 1 [some 0, none, none] [.str " ", .str " "] ["sides"] (.cons (.tup (.nil)) (.nil)) (.cons (.rep (.cst (.str "<")) (.cst (.int 9))) (.nil))) (.con (.str "fine")) (.hdE "InvalidOperation" ["InvalidOperation"] none (.cst (.str "operation")) (.nil))) (.nil)))))
    (.cons (.exp (.bm .append (.var 3) (.cons (.met 17 (.callk 16 1 [some 0, none, none] [.str " ", .str " "] ["sides"] (.cons (.tup (.nil)) (.nil)) (.cons (.cst (.str "<a")) (.nil))) (.con (.str "fine")) (.hdE "InvalidOperation" ["InvalidOperation"] none (.cst (.str "operation")) (.nil))) (.nil))))
    (.cons (.ret (.and_ (.cmp .eq (.var 3) (.fz (.lst (.cons (.cst (.str "operation")) (.cons (.cst (.str "operation")) (.nil)))))) (.cmp .eq (.met 17 (.callk 16 1 [some 0, none, none] [.str " ", .str " "] ["sides"] (.cons (.var 1) (.nil)) (.cons (.cst (.str "^>")) (.nil))) (.con (.str "fine")) (.hdE "InvalidOperation" ["InvalidOperation"] none (.cst (.str "operation")) (.nil))) (.cst (.str "fine")))))
    (.nil))))))))

/-- law: 0 script, 1 spot, 2 told, 3 dice -/
def c_law : T :=
    .cons (.for_ [1] (.rng (.cons (.bf .max (.cons (.cst (.int 1)) (.cons (.bf .min (.cons (.cst (.int 6)) (.cons (.bf .len (.cons (.var 0) (.nil))) (.nil)))) (.nil)))) (.nil))) (.cons (.asg 3 (.call 4 (.cons (.var 0) (.cons (.var 1) (.nil)))))
    (.cons (.ite (.or_ (.not_ (.call 12 (.cons (.var 3) (.nil)))) (.or_ (.not_ (.call 12 (.cons (.var 3) (.nil)))) (.not_ (.call 14 (.cons (.var 3) (.nil)))))) (.cons (.ret (.cst (.bl false)))
    (.nil)) (.nil))
    (.nil))))
    (.cons (.asg 2 (.mk (.lst (.cons (.callk 16 1 [some 0, some 1, some 2] [] ["sides", "fill", "between"] (.cons (.tup (.cons (.tup (.cons (.cst (.str "ab")) (.cons (.cst (.str "c")) (.nil)))) (.cons (.tup (.cons (.cst (.str "d")) (.cons (.cst (.str "efgh")) (.nil)))) (.nil)))) (.nil)) (.cons (.cst (.str ">^")) (.cons (.cst (.str ".")) (.cons (.cst (.str "|")) (.nil))))) (.cons (.callk 16 1 [none, none, none] [.str "", .str " ", .str " "] [] (.cons (.tup (.nil)) (.nil)) (.nil)) (.nil))))))
    (.cons (.exp (.bm .append (.var 2) (.cons (.callk 16 1 [none, none, some 0] [.str "", .str " "] ["between"] (.cons (.tup (.cons (.tup (.cons (.cst (.str "")) (.cons (.cst (.str "x")) (.nil)))) (.cons (.tup (.cons (.cst (.str "")) (.cons (.cst (.str "")) (.nil)))) (.nil)))) (.nil)) (.cons (.cst (.str "")) (.nil))) (.nil))))
    (.cons (.ret (.and_ (.cmp .eq (.var 2) (.fz (.lst (.cons (.cst (.str "ab|.c..\n.d|efgh")) (.cons (.cst (.str "")) (.cons (.cst (.str "x\n ")) (.nil))))))) (.cmp .eq (.callk 16 1 [none, none, none] [.str "", .str " ", .str " "] [] (.cons (.tup (.cons (.tup (.cons (.cst (.str "")) (.nil))) (.nil))) (.nil)) (.nil)) (.cst (.str "")))))
    (.nil))))

/-- in_columns: 0 rows, 1 sides, 2 fill, 3 between, 4 told, 5 widths, 6 lines, 7 row, 8 column, 9 at -/
def c_in_columns : T :=
    .cons (.ite (.or_ (.not_ (.call 1 (.cons (.var 0) (.nil)))) (.not_ (.call 2 (.cons (.var 1) (.cons (.var 0) (.nil)))))) (.cons (.rsx "InvalidOperation" 1 [] (.cons (.cst (.str "rows of equally many strings, and a side for each column, are expected")) (.nil)))
    (.nil)) (.nil))
    (.cons (.ite (.or_ (.not_ (.call 0 (.cons (.var 2) (.cons (.cst (.int 1)) (.cons (.cst (.int 1)) (.nil)))))) (.not_ (.call 0 (.cons (.var 3) (.cons (.cst (.int 0)) (.cons (.gc (.int 10)) (.nil))))))) (.cons (.rsx "InvalidOperation" 1 [] (.cons (.cst (.str "one character to fill with, and a short string between columns, are expected")) (.nil)))
    (.nil)) (.nil))
    (.cons (.ite (.cmp .eq (.var 0) (.tup (.nil))) (.cons (.ret (.cst (.str "")))
    (.nil)) (.nil))
    (.cons (.asg 4 (.ife (.cmp .ne (.var 1) (.cst (.str ""))) (.var 1) (.rep (.cst (.str "<")) (.bf .len (.cons (.sub (.var 0) (.cst (.int 0))) (.nil))))))
    (.cons (.asg 5 (.fz (.lc [8] [8] (.rng (.cons (.bf .len (.cons (.var 4) (.nil))) (.nil))) (.nil) (.bf .max (.cons (.fz (.lc [7] [7] (.it (.var 0)) (.nil) (.bf .len (.cons (.sub (.var 7) (.var 8)) (.nil))))) (.nil))))))
    (.cons (.asg 6 (.mk (.lst (.nil))))
    (.cons (.for_ [7] (.it (.var 0)) (.cons (.exp (.bm .append (.var 6) (.cons (.bm .join (.var 3) (.cons (.fz (.lc [9] [9] (.rng (.cons (.bf .len (.cons (.var 4) (.nil))) (.nil))) (.nil) (.call 3 (.cons (.sub (.var 7) (.var 9)) (.cons (.sub (.var 5) (.var 9)) (.cons (.sub (.var 4) (.var 9)) (.cons (.var 2) (.nil)))))))) (.nil))) (.nil))))
    (.nil)))
    (.cons (.ret (.bm .join (.cst (.str "\n")) (.cons (.var 6) (.nil))))
    (.nil))))))))

/-- _law_met: 0 call -/
def c_law_met : T :=
    .nil

abbrev f_is_printable : Nat := 0
abbrev f_are_rows : Nat := 1
abbrev f_are_sides : Nat := 2
abbrev f_filled : Nat := 3
abbrev f_law_dice : Nat := 4
abbrev f_law_roll : Nat := 5
abbrev f_law_pick : Nat := 6
abbrev f_law_signs : Nat := 7
abbrev f_law_string : Nat := 8
abbrev f_law_rows_drawn : Nat := 9
abbrev f_law_cell_right : Nat := 10
abbrev f_law_lines_right : Nat := 11
abbrev f_law_right : Nat := 12
abbrev f_law_wrong_rows : Nat := 13
abbrev f_law_refused : Nat := 14
abbrev f_law : Nat := 15
abbrev f_in_columns : Nat := 16
abbrev f_law_met : Nat := 17
def Pg : Nat → Fn
  | 0 => ⟨3, 4, c_is_printable⟩
  | 1 => ⟨1, 3, c_are_rows⟩
  | 2 => ⟨2, 3, c_are_sides⟩
  | 3 => ⟨4, 5, c_filled⟩
  | 4 => ⟨2, 5, c_law_dice⟩
  | 5 => ⟨2, 5, c_law_roll⟩
  | 6 => ⟨2, 2, c_law_pick⟩
  | 7 => ⟨0, 1, c_law_signs⟩
  | 8 => ⟨2, 3, c_law_string⟩
  | 9 => ⟨1, 6, c_law_rows_drawn⟩
  | 10 => ⟨4, 6, c_law_cell_right⟩
  | 11 => ⟨5, 13, c_law_lines_right⟩
  | 12 => ⟨1, 7, c_law_right⟩
  | 13 => ⟨1, 6, c_law_wrong_rows⟩
  | 14 => ⟨1, 4, c_law_refused⟩
  | 15 => ⟨1, 4, c_law⟩
  | 16 => ⟨4, 10, c_in_columns⟩
  | 17 => ⟨1, 1, c_law_met⟩
  | _ => ⟨0, 0, .nil⟩
def fname : Nat → Str
  | 0 => "is_printable"
  | 1 => "are_rows"
  | 2 => "are_sides"
  | 3 => "filled"
  | 4 => "_law_dice"
  | 5 => "_law_roll"
  | 6 => "_law_pick"
  | 7 => "_law_signs"
  | 8 => "_law_string"
  | 9 => "_law_rows_drawn"
  | 10 => "_law_cell_right"
  | 11 => "_law_lines_right"
  | 12 => "_law_right"
  | 13 => "_law_wrong_rows"
  | 14 => "_law_refused"
  | 15 => "law"
  | 16 => "in_columns"
  | 17 => "_law_met"
  | _ => ""
def ed_GoneError : ExcD := ⟨"GoneError", 1, [], ["GoneError"]⟩
def ed_InvalidOperation : ExcD := ⟨"InvalidOperation", 1, [], ["InvalidOperation", "GoneError"]⟩
/-- the tables of the defs that make lambdas -/
instance : TabT := ⟨[(147, "_law_refused.<locals>.<lambda>")], [(151, 147)]⟩
def mts : List MetD := [⟨17, ["call"], (tpst 23)⟩]
def kws : List (Nat × Nat × List Str × List (Option Nat) × List D) := [(16, 1, ["between", "sides", "fill"], [some 1, some 2, some 0], []), (16, 1, ["fill", "sides"], [some 1, some 0, none], [.str " "]), (16, 1, ["sides"], [some 0, none, none], [.str " ", .str " "]), (16, 1, [], [none, none, none], [.str "", .str " ", .str " "]), (16, 1, ["between"], [none, none, some 0], [.str "", .str " "]), (16, 1, ["fill"], [none, some 0, none], [.str "", .str " "]), (16, 1, ["sides", "fill", "between"], [some 0, some 1, some 2], [])]
def P : Prg := ⟨fname, 16, [("MAX_COLUMNS", .int 8), ("MAX_LENGTH", .int 60), ("MAX_BETWEEN", .int 10), ("SIDES", .str "<>^")], [], [ed_GoneError, ed_InvalidOperation], mts, [["dice", "rows", "odd", "found"]], kws⟩
theorem k_is_printable : fnB P ["value", "least", "most", "sign"] ["value", "least", "most"] (tpst 8) (Pg 0) = true := by decide +kernel
theorem k_are_rows : fnB P ["value", "row", "word"] ["value"] (tpst 9) (Pg 1) = true := by decide +kernel
theorem k_are_sides : fnB P ["value", "rows", "sign"] ["value", "rows"] (tpst 10) (Pg 2) = true := by decide +kernel
theorem k_filled : fnB P ["word", "width", "side", "fill", "before"] ["word", "width", "side", "fill"] (tpst 11) (Pg 3) = true := by decide +kernel
theorem k_law_dice : fnB P ["script", "spot", "cell", "great", "blend"] ["script", "spot"] (tpst 14) (Pg 4) = true := by decide +kernel
theorem k_law_roll : fnB P ["dice", "upto", "one", "two", "found"] ["dice", "upto"] (tpst 15) (Pg 5) = true := by decide +kernel
theorem k_law_pick : fnB P ["dice", "items"] ["dice", "items"] (tpst 16) (Pg 6) = true := by decide +kernel
theorem k_law_signs : fnB P ["marks"] [] (tpst 17) (Pg 7) = true := by decide +kernel
theorem k_law_string : fnB P ["dice", "most", "turn"] ["dice", "most"] (tpst 18) (Pg 8) = true := by decide +kernel
theorem k_law_rows_drawn : fnB P ["dice", "turn", "width", "found", "row", "column"] ["dice"] (tpst 19) (Pg 9) = true := by decide +kernel
theorem k_law_cell_right : fnB P ["part", "word", "side", "more", "lots", "front"] ["part", "word", "side", "more"] (tpst 20) (Pg 10) = true := by decide +kernel
theorem k_law_lines_right : fnB P ["text", "rows", "each", "more", "gate", "column", "lines", "widths", "line", "row", "at", "word", "part"] ["text", "rows", "each", "more", "gate"] (tpst 21) (Pg 11) = true := by decide +kernel
theorem k_law_right : fnB P ["dice", "rows", "width", "each", "more", "gate", "column"] ["dice"] (tpst 22) (Pg 12) = true := by decide +kernel
theorem k_law_wrong_rows : fnB P ["dice", "rows", "found", "some", "odd", "left"] ["dice"] (tpst 24) (Pg 13) = true := by decide +kernel
theorem k_law_refused : fnB P ["dice", "rows", "odd", "found"] ["dice"] (tpst 25) (Pg 14) = true := by decide +kernel
theorem k_law : fnB P ["script", "spot", "told", "dice"] ["script"] (tpst 26) (Pg 15) = true := by decide +kernel
theorem k_in_columns : fnB P ["rows", "sides", "fill", "between", "told", "widths", "lines", "row", "column", "at"] ["rows", "sides", "fill", "between"] (tpst 12) (Pg 16) = true := by decide +kernel
end Lw

namespace Lw
open Mp
open PySem (Str PyData)
/-- nothing but the cell d is changed -/
def Kp (d : Nat) (gs gs' : List Cell) : Prop := gs.length ≤ gs'.length ∧ ∀ j, j ≠ d → j < gs.length → gs'[j]? = gs[j]?
theorem Kp.refl {d : Nat} {gs : List Cell} : Kp d gs gs := ⟨Nat.le_refl _, fun _ _ _ => rfl⟩
theorem Kp.trans {d : Nat} {a b c : List Cell} (h : Kp d a b) (g : Kp d b c) : Kp d a c := ⟨Nat.le_trans h.1 g.1, fun j n l => (g.2 j n (Nat.lt_of_lt_of_le l h.1)).trans (h.2 j n l)⟩
theorem Kp.set {d : Nat} {gs : List Cell} {c : Cell} : Kp d gs (gs.set d c) := ⟨by simp, fun j n _ => List.getElem?_set_ne (Ne.symm n)⟩
theorem roll {k d n : Nat} {m : Int} {gs : List Cell} (hk : 1 ≤ k) (hD : Dice gs d (n + 1)) (hm : 0 < m) (hm2 : m < 10 ^ 30) :
    ∃ r gs', run Pg k f_law_roll [.ref d, .int m] gs = .ok (.int r) gs' ∧ 0 ≤ r ∧ r < m ∧ Dice gs' d n ∧ Kp d gs gs' := by
  obtain ⟨k, rfl⟩ : ∃ j, k = j + 1 := ⟨k - 1, by omega⟩
  obtain ⟨a, b, c, h, h1, h2, h3, h4, h5, h6⟩ := hD
  have hs : ∀ y, (gs.set d y)[d]? = some y := fun y => getset h
  have hm3 : okI m = true := okI_of (by omega) (by omega)
  rw [run_s]
  by_cases h0 : 0 < a
  · refine ⟨a % m, gs.set d (.lst [.int (a / m), .int b, .int c]), ?_, Int.emod_nonneg _ (by omega), Int.emod_lt_of_pos _ hm, ⟨a / m, b, c, getset h, Int.ediv_nonneg h1 (by omega), ?_, h3, h4, h5, by omega⟩, Kp.set⟩
    · simp [runF, Pg, c_law_roll, ex, ev, evs, evT, getVar, subVal, seqv, h, atI, optR, cmpop, ordI, h0, truth, bfn, binop, hm, hm3, setIx, handed]
    · exact Int.lt_of_le_of_lt (Int.ediv_le_self _ h1) h2
  · have h9 : a = 0 := by omega
    subst h9
    have k1 : okI (c + 1) = true := okI_of (by omega) (by omega)
    generalize hone : (b + 961748941 * (c + 1)) % 67280421310679 = one
    have o1 : 0 ≤ one := by omega
    have o2 : one < 67280421310679 := by omega
    have k2 : okI one = true := okI_of (by omega) (by omega)
    have k3 : okI (one * one % 576460752303423389) = true := okI_of (by omega) (by omega)
    have k4 : okI 961748941 = true := okI_of (by omega) (by omega)
    have k5 : okI 7919 = true := okI_of (by omega) (by omega)
    have k6 : okI 128 = true := okI_of (by omega) (by omega)
    refine ⟨_, gs.set d (.lst [.int 0, .int b, .int (c + 1)]), ?_, Int.emod_nonneg (((one * one % 576460752303423389 * one + 7919 * (c + 1)) + b) % 2199023255579 / 128) (by omega), Int.emod_lt_of_pos _ hm, ⟨0, b, c + 1, getset h, by omega, h2, h3, h4, by omega, by omega⟩, Kp.set⟩
    simp [runF, Pg, c_law_roll, ex, ev, evs, evT, getVar, subVal, seqv, h, atI, optR, cmpop, ordI, truth, bfn, binop, hm, hm3, setIx, handed, hs, hone, k1, k2, k3, k4, k5, k6]
theorem dice {k sp : Nat} {ns : List Int} {gs : List Cell} (hk : 1 ≤ k) (hsp : sp < 100) :
    ∃ gs', run Pg k f_law_dice [.scr (ns.map D.int), .int sp] gs = .ok (.ref gs.length) gs' ∧ Dice gs' gs.length (10 ^ 20) ∧ gs'.length = gs.length + 1 ∧ ∀ j, j < gs.length → gs'[j]? = gs[j]? := by
  obtain ⟨k, rfl⟩ : ∃ j, k = j + 1 := ⟨k - 1, by omega⟩
  rw [run_s]
  obtain ⟨cell, hc⟩ : ∃ cell : Int, ∀ (Γ : Callee), ev Γ (.ife (.cmp .lt (.var 1) (.bf .len (.cons (.var 0) (.nil)))) (.sub (.var 0) (.var 1)) (.bin .add (.bin .mul (.cst (.int 41)) (.var 1)) (.cst (.int 9)))) ⟨[some (.d (.scr (ns.map D.int))), some (.d (.int sp)), none, none, none], [], gs⟩ = .ok (.d (.int cell)) ⟨[some (.d (.scr (ns.map D.int))), some (.d (.int sp)), none, none, none], [], gs⟩ := by
    have k1 : okI 41 = true := okI_of (by omega) (by omega)
    have k2 : okI sp = true := okI_of (by omega) (by omega)
    by_cases h : sp < ns.length
    · refine ⟨ns[sp], fun Γ => ?_⟩
      have h2 : (sp : Int) < (ns.length : Int) := by omega
      simp [ev, evs, evT, getVar, subVal, seqv, atI, optR, cmpop, ordI, truth, bfn, binop, h, h2]
    · refine ⟨41 * sp + 9, fun Γ => ?_⟩
      have h2 : ¬ (sp : Int) < (ns.length : Int) := by omega
      simp [ev, evs, evT, getVar, subVal, seqv, atI, optR, cmpop, ordI, truth, bfn, binop, h, h2, k1, k2]
  generalize hg : (if cell < 0 then -cell else cell) % (10 ^ 59) ^ 11 = great
  have g1 : 0 ≤ great := by rw [← hg]; exact Int.emod_nonneg _ (by decide)
  have g2 : great < (10 ^ 59) ^ 11 := by rw [← hg]; exact Int.emod_lt_of_pos _ (by decide)
  have k1 : okI 10 = true := okI_of (by omega) (by omega)
  have k2 : okI (10 ^ 59) = true := okI_of (by omega) (by omega)
  have k3 : okI great = true := okI_of (by omega) (by omega)
  have k4 : okI 3202034522624059733 = true := okI_of (by omega) (by omega)
  have k5 : okI 83 = true := okI_of (by omega) (by omega)
  have k6 : okI sp = true := okI_of (by omega) (by omega)
  have k7 : okI 19 = true := okI_of (by omega) (by omega)
  have k8 : okI (if cell < 0 then 1 else 0) = true := okI_of (by split <;> omega) (by split <;> omega)
  generalize hb : (great * 3202034522624059733 + 83 * (sp : Int) + 19 * (if cell < 0 then 1 else 0) + 5) % 2305843009213693921 = b
  have b1 : 0 ≤ b := by omega
  have b2 : b < 2305843009213693921 := by omega
  refine ⟨gs ++ [.lst [.int (if great - 10 ^ 18 > 0 then great - 10 ^ 18 else 0), .int b, .int 0]], ?_, ⟨(if great - 10 ^ 18 > 0 then great - 10 ^ 18 else 0), b, 0, ?_, ?_, ?_, b1, b2, by omega, by omega⟩, by simp, fun j l => List.getElem?_append_left l⟩
  · have p1 : (0 : Int) < (10 ^ 59) ^ 11 := by decide
    simp only [runF, Pg, c_law_dice, ex, List.map_cons, List.map_nil, List.length_cons, List.length_nil, List.replicate, Nat.sub_zero, Nat.reduceSub, List.cons_append, List.nil_append, if_true, hc, R.bind, List.set_cons_succ, List.set_cons_zero]
    simp [ev, evs, evF, getVar, optR, cmpop, ordI, bfn, binop, handed, toDs, k1, k2, k3, k4, k5, k6, k7, k8, p1, hg, hb, LINE, -Int.reducePow]
  · simp
  · split <;> omega
  · split <;> omega
theorem pick {k d n : Nat} {xs : List D} {gs : List Cell} (hk : 2 ≤ k) (hD : Dice gs d (n + 1)) (h0 : 0 < xs.length) (h1 : xs.length < 1000) :
    ∃ x gs', run Pg k f_law_pick [.ref d, .lst xs] gs = .ok x gs' ∧ x ∈ xs ∧ Dice gs' d n ∧ Kp d gs gs' := by
  obtain ⟨k, rfl⟩ : ∃ j, k = j + 1 := ⟨k - 1, by omega⟩
  obtain ⟨r, gs', e, r0, r1, D', K'⟩ := roll (k := k) (m := xs.length) (by omega) hD (by omega) (by omega)
  have hr : r.toNat < xs.length := by omega
  refine ⟨xs[r.toNat], gs', ?_, List.getElem_mem hr, D', K'⟩
  rw [run_s]
  simp [runF, Pg, c_law_pick, ex, ev, evs, getVar, subVal, seqv, atI, optR, bfn, handed, callR, toDs, e, r0, hr]
/-- a sign of a string -/
theorem pickS {k d n : Nat} {z : Str} {gs : List Cell} (hk : 2 ≤ k) (hD : Dice gs d (n + 1)) (h0 : 0 < z.length) (h1 : z.length < 1000) :
    ∃ c gs', run Pg k f_law_pick [.ref d, .str z] gs = .ok (.str ⟨#[c]⟩) gs' ∧ c ∈ z.cps.toList ∧ Dice gs' d n ∧ Kp d gs gs' := by
  obtain ⟨k, rfl⟩ : ∃ j, k = j + 1 := ⟨k - 1, by omega⟩
  obtain ⟨r, gs', e, r0, r1, D', K'⟩ := roll (k := k) (m := z.length) (by omega) hD (by omega) (by omega)
  have hz : z.length = z.cps.toList.length := rfl
  have hr : r.toNat < z.cps.toList.length := by omega
  have hL : z.length ≤ LINE := by simp only [LINE]; omega
  refine ⟨z.cps.toList[r.toNat], gs', ?_, List.getElem_mem hr, D', K'⟩
  have ha : atI z.cps.toList r = some z.cps.toList[r.toNat] := by unfold atI; rw [if_pos r0, List.getElem?_eq_getElem hr]
  rw [run_s]
  simp only [runF, Pg, c_law_pick, List.length_cons, List.length_nil, List.map_cons, List.map_nil, List.replicate, Nat.reduceAdd, Nat.reduceSub, if_true, List.cons_append, List.nil_append]
  simp only [ex, ev, evs, getVar, bfn, toDs, callR, R.bind, Option.map_some, List.getElem?_cons_zero, List.getElem?_cons_succ, hL, if_true, e, subVal, ha, optR, handed]
/-! ### strings of printable signs -/
def Pr (c : Nat) : Bool := decide (32 ≤ c) && decide (c ≤ 126)
def signs : Str := " !\"\x23$&'()*+,-./0123456789:;<=>?\x40[\\]^_\x60{|}~ABCDEFGHIJKLMNOPQRSTUVWXYZabcdefghijklmnopqrstuvwxyz"
theorem signs_ok {k : Nat} {gs : List Cell} (hk : 1 ≤ k) : run Pg k f_law_signs [] gs = .ok (.str signs) gs := by
  obtain ⟨k, rfl⟩ : ∃ j, k = j + 1 := ⟨k - 1, by omega⟩
  rw [run_s]
  have l1 : (" !\"\x23$&'()*+,-./0123456789:;<=>?\x40[\\]^_\x60{|}~" : Str).length + ("ABCDEFGHIJKLMNOPQRSTUVWXYZ" : Str).length ≤ LINE := by decide +kernel
  have l2 : ((" !\"\x23$&'()*+,-./0123456789:;<=>?\x40[\\]^_\x60{|}~" : Str) ++ ("ABCDEFGHIJKLMNOPQRSTUVWXYZ" : Str)).length + ("abcdefghijklmnopqrstuvwxyz" : Str).length ≤ LINE := by decide +kernel
  have e : (" !\"\x23$&'()*+,-./0123456789:;<=>?\x40[\\]^_\x60{|}~" : Str) ++ ("ABCDEFGHIJKLMNOPQRSTUVWXYZ" : Str) ++ ("abcdefghijklmnopqrstuvwxyz" : Str) = signs := by decide +kernel
  simp only [runF, Pg, c_law_signs, List.length_nil, List.map_nil, List.replicate, Nat.reduceSub, if_true, List.nil_append]
  simp only [ex, ev, getVar, R.bind, binop, List.set_cons_zero, List.getElem?_cons_zero, l1, l2, if_true, e, handed]
theorem signs_len : signs.length = 94 := by decide +kernel
theorem signs_pr : ∀ c ∈ signs.cps.toList, Pr c = true := by decide +kernel
end Lw

/-! strings in columns, without a program -/
namespace Lw
open Mp
open PySem (Str PyData)
local instance : TabT := ⟨[], []⟩
def mkS (l : List Nat) : Str := ⟨l.toArray⟩
theorem mkS_list (l : List Nat) : (mkS l).cps.toList = l := by simp [mkS]
theorem mkS_len (l : List Nat) : (mkS l).length = l.length := by
  show (mkS l).cps.toList.length = _
  rw [mkS_list]
theorem mkS_of (x : Str) : mkS x.cps.toList = x := by cases x; simp [mkS]
theorem len_cps (x : Str) : x.length = x.cps.toList.length := rfl
theorem mkS_inj {a b : List Nat} : mkS a = mkS b ↔ a = b := ⟨fun h => by rw [← mkS_list a, h, mkS_list], fun h => by rw [h]⟩
theorem app_mkS (a b : List Nat) : mkS a ++ mkS b = mkS (a ++ b) := by
  apply str_ext
  show ((mkS a).cps ++ (mkS b).cps).toList = _
  rw [Array.toList_append, mkS_list, mkS_list, mkS_list]
/-! ### joins -/
def joinC (g : List Nat) : List (List Nat) → List Nat
  | [] => []
  | [x] => x
  | x :: y :: r => x ++ (g ++ joinC g (y :: r))
theorem join_eq (g : List Nat) : ∀ ls : List (List Nat), PySem.Str.join (mkS g) (ls.map mkS) = mkS (joinC g ls)
  | [] => rfl
  | [x] => rfl
  | x :: y :: r => by
    show mkS x ++ mkS g ++ PySem.Str.join (mkS g) ((y :: r).map mkS) = _
    rw [join_eq g (y :: r), app_mkS, app_mkS]
    simp [joinC]
theorem glued_eq (g : List Nat) (ls : List (List Nat)) : PySem.Builtin.Str.glued (mkS g) (ls.map mkS) = mkS (joinC g ls) := by
  rw [PySem.StrLaws.glued_eq_join, join_eq]
def tailC (g : List Nat) (ls : List (List Nat)) : List Nat := (ls.map (g ++ ·)).flatten
theorem joinC_cons (g x : List Nat) : ∀ ls : List (List Nat), joinC g (x :: ls) = x ++ tailC g ls
  | [] => by simp [joinC, tailC]
  | y :: r => by
    show x ++ (g ++ joinC g (y :: r)) = _
    rw [joinC_cons g y r]
    simp [tailC]
theorem cut_eq {c : Nat} : ∀ {a b u v : List Nat}, c ∉ a → c ∉ b → a ++ c :: u = b ++ c :: v → a = b ∧ u = v
  | [], [], u, v, _, _, h => by simpa using h
  | [], y :: b, u, v, _, hb, h => by
    simp only [List.nil_append, List.cons_append, List.cons.injEq] at h
    exact absurd (h.1 ▸ List.mem_cons_self) hb
  | x :: a, [], u, v, ha, _, h => by
    simp only [List.nil_append, List.cons_append, List.cons.injEq] at h
    exact absurd (h.1 ▸ List.mem_cons_self) ha
  | x :: a, y :: b, u, v, ha, hb, h => by
    simp only [List.cons_append, List.cons.injEq] at h
    obtain ⟨e1, e2⟩ := cut_eq (fun z => ha (List.mem_cons_of_mem _ z)) (fun z => hb (List.mem_cons_of_mem _ z)) h.2
    exact ⟨by rw [h.1, e1], e2⟩
theorem joinC_inj {c : Nat} : ∀ {a b : List (List Nat)}, a ≠ [] → b ≠ [] → (∀ x ∈ a, c ∉ x) → (∀ x ∈ b, c ∉ x) → joinC [c] a = joinC [c] b → a = b
  | [], _, h, _, _, _, _ => absurd rfl h
  | _, [], _, h, _, _, _ => absurd rfl h
  | [x], [y], _, _, _, _, h => by
    have : x = y := h
    rw [this]
  | [x], y :: z :: r, _, _, h1, _, h => by
    have h : x = y ++ ([c] ++ joinC [c] (z :: r)) := h
    exact absurd (by rw [h]; simp) (h1 x List.mem_cons_self)
  | x :: w :: q, [y], _, _, _, h2, h => by
    have h : x ++ ([c] ++ joinC [c] (w :: q)) = y := h
    exact absurd (by rw [← h]; simp) (h2 y List.mem_cons_self)
  | x :: w :: q, y :: z :: r, _, _, h1, h2, h => by
    have h : x ++ c :: joinC [c] (w :: q) = y ++ c :: joinC [c] (z :: r) := h
    obtain ⟨e1, e2⟩ := cut_eq (h1 x List.mem_cons_self) (h2 y List.mem_cons_self) h
    rw [e1, joinC_inj (by simp) (by simp) (fun u hu => h1 u (List.mem_cons_of_mem _ hu)) (fun u hu => h2 u (List.mem_cons_of_mem _ hu)) e2]
theorem maps_mkS (l : List Str) : (l.map fun x => x.cps.toList).map mkS = l := by
  rw [List.map_map]
  exact (List.map_congr_left fun x _ => mkS_of x).trans (List.map_id l)
/-- the lines of a text of lines -/
theorem split_join {c : Nat} {ls : List (List Nat)} (h0 : ls ≠ []) (h : ∀ x ∈ ls, c ∉ x) : PySem.Txt.split (mkS (joinC [c] ls)) (mkS [c]) = ls.map mkS := by
  have f := PySem.StrLaws.split_free (mkS (joinC [c] ls)) c
  have j := PySem.StrLaws.join_split (mkS (joinC [c] ls)) (mkS [c])
  have p := PyProof.Rows.split_pos (mkS (joinC [c] ls)) (mkS [c])
  have e : (⟨#[c]⟩ : Str) = mkS [c] := rfl
  rw [e] at f
  generalize PySem.Txt.split (mkS (joinC [c] ls)) (mkS [c]) = ps at f j p
  have q : ∃ qs : List (List Nat), ps = qs.map mkS := ⟨ps.map fun x => x.cps.toList, (maps_mkS ps).symm⟩
  obtain ⟨qs, rfl⟩ := q
  rw [join_eq, mkS_inj] at j
  rw [joinC_inj (by intro z; subst z; simp at p) h0 (fun x hx => by
    have := f (mkS x) (List.mem_map.mpr ⟨x, hx, rfl⟩)
    rwa [mkS_list] at this) h j]
/-! ### filled strings -/
/-- how much stands in front: s the side's sign -/
def front (s lots : Nat) : Nat := if s = 62 then lots else if s = 94 then lots / 2 else 0
def padC (c s w : Nat) (x : List Nat) : List Nat := List.replicate (front s (w - x.length)) c ++ x ++ List.replicate (w - x.length - front s (w - x.length)) c
theorem front_le (s lots : Nat) : front s lots ≤ lots := by
  unfold front
  split
  · exact Nat.le_refl _
  · split
    · exact Nat.div_le_self _ _
    · exact Nat.zero_le _
theorem padC_len {c s w : Nat} {x : List Nat} (h : x.length ≤ w) : (padC c s w x).length = w := by
  have := front_le s (w - x.length)
  unfold padC
  simp only [List.length_append, List.length_replicate]
  omega
theorem padC_mem {c s w : Nat} {x : List Nat} {y : Nat} (h : y ∈ padC c s w x) : y = c ∨ y ∈ x := by
  unfold padC at h
  simp only [List.mem_append, List.mem_replicate] at h
  rcases h with (h | h) | h
  · exact .inl h.2
  · exact .inr h
  · exact .inl h.2
theorem strRep_eq (n : Nat) (x : List Nat) : strRep n (mkS x) = mkS (List.replicate n x).flatten := by
  apply str_ext
  rw [strRep_list, mkS_list, mkS_list]
theorem rep_one (n c : Nat) : (List.replicate n [c]).flatten = List.replicate n c := by
  induction n with
  | zero => rfl
  | succ n ih => rw [List.replicate_succ, List.flatten_cons, ih, List.replicate_succ]; rfl
theorem padS_eq (right : Bool) (x : List Nat) (n c : Nat) : padS right (mkS x) n c = mkS (if right then List.replicate (n - x.length) c ++ x else x ++ List.replicate (n - x.length) c) := by
  apply str_ext
  unfold padS
  rw [mkS_list, mkS_list, mkS_len]
theorem joinC_len (g : List Nat) : ∀ ls : List (List Nat), (joinC g ls).length ≤ (ls.map List.length).sum + ls.length * g.length
  | [] => by simp [joinC]
  | [x] => by simp [joinC]
  | x :: y :: r => by
    have ih := joinC_len g (y :: r)
    show (x ++ (g ++ joinC g (y :: r))).length ≤ _
    simp only [List.length_append, List.map_cons, List.sum_cons, List.length_cons] at ih ⊢
    have : (r.length + 1 + 1) * g.length = (r.length + 1) * g.length + g.length := Nat.succ_mul _ _
    omega
theorem sum_le {α : Type} (f : α → Nat) (m : Nat) : ∀ l : List α, (∀ x ∈ l, f x ≤ m) → (l.map f).sum ≤ l.length * m
  | [], _ => by simp
  | x :: l, h => by
    have ih := sum_le f m l (fun y hy => h y (List.mem_cons_of_mem _ hy))
    have h1 := h x List.mem_cons_self
    simp only [List.map_cons, List.sum_cons, List.length_cons]
    have : (l.length + 1) * m = l.length * m + m := Nat.succ_mul _ _
    omega
/-- how wide a column is -/
def wid (R : List (List (List Nat))) (j : Nat) : Nat := (R.map fun r => (r.getD j []).length).foldl max 0
theorem foldl_max : ∀ (l : List Nat) (a : Nat), (∀ b : Nat, l.foldl max a ≤ b ↔ a ≤ b ∧ ∀ x ∈ l, x ≤ b)
  | [], a, b => by simp
  | y :: l, a, b => by
    rw [List.foldl_cons, foldl_max l (max a y) b, Nat.max_le]
    simp only [List.mem_cons, forall_eq_or_imp, and_assoc]
theorem wid_ge {R : List (List (List Nat))} {r : List (List Nat)} (j : Nat) (h : r ∈ R) : (r.getD j []).length ≤ wid R j :=
  ((foldl_max _ 0 _).mp (Nat.le_refl _)).2 _ (List.mem_map.mpr ⟨r, h, rfl⟩)
theorem wid_le {R : List (List (List Nat))} {j m : Nat} (h : ∀ r ∈ R, (r.getD j []).length ≤ m) : wid R j ≤ m :=
  (foldl_max _ 0 _).mpr ⟨Nat.zero_le _, fun x hx => by
    obtain ⟨r, hr, rfl⟩ := List.mem_map.mp hx
    exact h r hr⟩
theorem max_cast : ∀ (l : List Nat) (a : Nat), (l.map fun n : Nat => (n : Int)).foldl (fun a b => if a < b then b else a) (a : Int) = ((l.foldl max a : Nat) : Int)
  | [], a => rfl
  | y :: l, a => by
    rw [List.map_cons, List.foldl_cons, List.foldl_cons, ← max_cast l (max a y)]
    congr 1
    split <;> omega
/-- the parts of a line, the line -/
def parts (c : Nat) (t : List Nat) (R : List (List (List Nat))) (n : Nat) (r : List (List Nat)) : List (List Nat) := (List.range n).map fun j => padC c (t.getD j 0) (wid R j) (r.getD j [])
def lineR (c : Nat) (g t : List Nat) (R : List (List (List Nat))) (n : Nat) (r : List (List Nat)) : List Nat := joinC g (parts c t R n r)
/-- rows of n strings -/
structure RowsOk (n : Nat) (R : List (List (List Nat))) : Prop where
  n1 : 1 ≤ n
  n8 : n ≤ 8
  len : ∀ r ∈ R, r.length = n
  w : ∀ r ∈ R, ∀ x ∈ r, x.length ≤ 60 ∧ ∀ c ∈ x, 32 ≤ c ∧ c ≤ 126
  m : R.length ≤ 20
theorem RowsOk.get {n : Nat} {R : List (List (List Nat))} (h : RowsOk n R) {r : List (List Nat)} (hr : r ∈ R) (j : Nat) : (r.getD j []).length ≤ 60 ∧ ∀ c ∈ r.getD j [], 32 ≤ c ∧ c ≤ 126 := by
  rw [List.getD_eq_getElem?_getD]
  cases e : r[j]? with
  | none => exact ⟨by simp, fun c hc => by simp at hc⟩
  | some x => exact h.w r hr x (List.mem_of_getElem? e)
theorem RowsOk.wid60 {n : Nat} {R : List (List (List Nat))} (h : RowsOk n R) (j : Nat) : wid R j ≤ 60 := wid_le fun r hr => (h.get hr j).1
theorem parts_len {c n : Nat} {t : List Nat} {R : List (List (List Nat))} {r : List (List Nat)} : (parts c t R n r).length = n := by simp [parts]
theorem parts_mem {c n : Nat} {t : List Nat} {R : List (List (List Nat))} {r : List (List Nat)} (h : RowsOk n R) (hr : r ∈ R) (hc : 32 ≤ c ∧ c ≤ 126) : ∀ x ∈ parts c t R n r, x.length ≤ 60 ∧ ∀ y ∈ x, 32 ≤ y ∧ y ≤ 126 := by
  intro x hx
  obtain ⟨j, _, rfl⟩ := List.mem_map.mp hx
  refine ⟨by rw [padC_len (wid_ge j hr)]; exact h.wid60 j, fun y hy => ?_⟩
  rcases padC_mem hy with rfl | hy
  · exact hc
  · exact (h.get hr j).2 y hy
theorem joinC_mem {g : List Nat} : ∀ {ls : List (List Nat)} {y : Nat}, y ∈ joinC g ls → y ∈ g ∨ ∃ x ∈ ls, y ∈ x
  | [], y, h => by simp [joinC] at h
  | [x], y, h => .inr ⟨x, List.mem_cons_self, h⟩
  | x :: z :: r, y, h => by
    have h : y ∈ x ++ (g ++ joinC g (z :: r)) := h
    rcases List.mem_append.mp h with h | h
    · exact .inr ⟨x, List.mem_cons_self, h⟩
    · rcases List.mem_append.mp h with h | h
      · exact .inl h
      · rcases joinC_mem h with h | ⟨w, hw, h⟩
        · exact .inl h
        · exact .inr ⟨w, List.mem_cons_of_mem _ hw, h⟩
theorem line_mem {c n : Nat} {g t : List Nat} {R : List (List (List Nat))} {r : List (List Nat)} (h : RowsOk n R) (hr : r ∈ R) (hc : 32 ≤ c ∧ c ≤ 126) (hg : ∀ y ∈ g, 32 ≤ y ∧ y ≤ 126) : ∀ y ∈ lineR c g t R n r, 32 ≤ y ∧ y ≤ 126 := by
  intro y hy
  rcases joinC_mem hy with hy | ⟨x, hx, hy⟩
  · exact hg y hy
  · exact (parts_mem h hr hc x hx).2 y hy
theorem line_len {c n : Nat} {g t : List Nat} {R : List (List (List Nat))} {r : List (List Nat)} (h : RowsOk n R) (hr : r ∈ R) (hc : 32 ≤ c ∧ c ≤ 126) (hg : g.length ≤ 10) : (lineR c g t R n r).length ≤ 560 := by
  have h1 := joinC_len g (parts c t R n r)
  have h2 := sum_le List.length 60 (parts c t R n r) (fun x hx => (parts_mem h hr hc x hx).1)
  rw [parts_len] at h1 h2
  have h3 : n * g.length ≤ 8 * 10 := Nat.mul_le_mul h.n8 hg
  have h4 : n * 60 ≤ 8 * 60 := Nat.mul_le_mul_right _ h.n8
  show (joinC g (parts c t R n r)).length ≤ _
  omega
def textR (c : Nat) (g t : List Nat) (R : List (List (List Nat))) (n : Nat) : List Nat := joinC [10] (R.map (lineR c g t R n))
theorem text_len {c n : Nat} {g t : List Nat} {R : List (List (List Nat))} (h : RowsOk n R) (hc : 32 ≤ c ∧ c ≤ 126) (hg : g.length ≤ 10) : (textR c g t R n).length ≤ 12000 := by
  have h1 := joinC_len [10] (R.map (lineR c g t R n))
  have h2 := sum_le List.length 560 (R.map (lineR c g t R n)) (fun x hx => by
    obtain ⟨r, hr, rfl⟩ := List.mem_map.mp hx
    exact line_len h hr hc hg)
  rw [List.length_map] at h1 h2
  have h3 : R.length * 560 ≤ 20 * 560 := Nat.mul_le_mul_right _ h.m
  have h4 := h.m
  show (joinC [10] (R.map (lineR c g t R n))).length ≤ _
  simp only [List.length_cons, List.length_nil] at h1
  omega
end Lw

namespace Lw
open Mp
open PySem (Str PyData)
/-! ### steps -/
section
variable {Γ : Callee} {s s1 s2 : S} {v : Val}
theorem ex_step {h t : T} (e : ex Γ h s = .ok .nx s1) : ex Γ (.cons h t) s = ex Γ t s1 := by
  rw [ex.eq_def]; simp only [e, R.bind]
theorem ex_exit {h t : T} (e : ex Γ h s = .ok (.rt v) s1) : ex Γ (.cons h t) s = .ok (.rt v) s1 := by
  rw [ex.eq_def]; simp only [e, R.bind]
theorem ex_fail {h t : T} {x : Ex} (e : ex Γ h s = .ex x s1) : ex Γ (.cons h t) s = .ex x s1 := by
  rw [ex.eq_def]; simp only [e, R.bind]
theorem ex_nil : ex Γ .nil s = .ok .nx s := by rw [ex.eq_def]
theorem ite_f {t : E} {b o : T} (h : evT Γ t s = .ok false s1) : ex Γ (.ite t b o) s = ex Γ o s1 := by
  rw [ex.eq_def]; simp only [h, R.bind, Bool.false_eq_true, if_false]
theorem ite_t {t : E} {b o : T} (h : evT Γ t s = .ok true s1) : ex Γ (.ite t b o) s = ex Γ b s1 := by
  rw [ex.eq_def]; simp only [h, R.bind, if_true]
theorem ret_v {e : E} (h : ev Γ e s = .ok v s1) : ex Γ (.ret e) s = .ok (.rt v) s1 := by
  rw [ex.eq_def]; simp only [h, R.bind]
theorem asg_v {i : Nat} {e : E} (h : ev Γ e s = .ok v s1) : ex Γ (.asg i e) s = .ok .nx { s1 with env := s1.env.set i (some v) } := by
  rw [ex.eq_def]; simp only [h, R.bind]
theorem exp_v {e : E} (h : ev Γ e s = .ok v s1) : ex Γ (.exp e) s = .ok .nx s1 := by
  rw [ex.eq_def]; simp only [h, R.bind]
theorem or_t {a b : E} (h : evT Γ a s = .ok true s1) : evT Γ (.or_ a b) s = .ok true s1 := by
  rw [evT.eq_def]; simp only [h, R.bind, if_true]
theorem or_f {a b : E} (h : evT Γ a s = .ok false s1) : evT Γ (.or_ a b) s = evT Γ b s1 := by
  rw [evT.eq_def]; simp only [h, R.bind, Bool.false_eq_true, if_false]
theorem and_t {a b : E} (h : evT Γ a s = .ok true s1) : evT Γ (.and_ a b) s = evT Γ b s1 := by
  rw [evT.eq_def]; simp only [h, R.bind, if_true]
theorem and_f {a b : E} (h : evT Γ a s = .ok false s1) : evT Γ (.and_ a b) s = .ok false s1 := by
  rw [evT.eq_def]; simp only [h, R.bind, Bool.false_eq_true, if_false]
theorem not_b {a : E} {b : Bool} (h : evT Γ a s = .ok b s1) : evT Γ (.not_ a) s = .ok (!b) s1 := by
  rw [evT.eq_def]; simp only [h, R.bind]
theorem t_bf {b : Bf} {es : E} {r : Bool} (h : ev Γ (.bf b es) s = .ok (.d (.bl r)) s1) : evT Γ (.bf b es) s = .ok r s1 := by
  rw [evT.eq_def]; simp only [h, R.bind, truth, optR]
theorem t_isi {cs : List Str} {t : Tg} {a : E} {r : Bool} (h : ev Γ (.isi cs a t) s = .ok (.d (.bl r)) s1) : evT Γ (.isi cs a t) s = .ok r s1 := by
  rw [evT.eq_def]; simp only [h, R.bind, truth, optR]
theorem t_call {f : Nat} {es : E} {r : Bool} (h : ev Γ (.call f es) s = .ok (.d (.bl r)) s1) : evT Γ (.call f es) s = .ok r s1 := by
  rw [evT.eq_def]; simp only [h, R.bind, truth, optR]
theorem t_cmp {o : Co} {a b : E} {r : Bool} (h : ev Γ (.cmp o a b) s = .ok (.d (.bl r)) s1) : evT Γ (.cmp o a b) s = .ok r s1 := by
  rw [evT.eq_def]; simp only [h, R.bind, truth, optR]
theorem v_all {α : Type} {f : E} {xs : List α} {b : α → Bool} (h : evF Γ f s = .ok (xs.map fun x => .bl (b x)) s1) (hm : allB (xs.map fun x => .bl (b x)) = some (xs.map b)) : ev Γ (.bf .all (.cons (.fz f) .nil)) s = .ok (.d (.bl (xs.all b))) s1 := by
  simp only [ev, evs, h, R.bind, bfn, seqv, hm, List.all_map]
  rfl
theorem runF_rt {fn : Fn} {args : List D} {gs : List Cell} {d : D} {s1 : S} (hl : args.length = fn.np) (h : ex Γ fn.body ⟨args.map (fun x => some (.d x)) ++ List.replicate (fn.nl - fn.np) none, [], gs⟩ = .ok (.rt (.d d)) s1) : runF Γ fn args gs = .ok d s1.gs := by
  unfold runF
  simp only [hl, if_true, h, handed]
theorem runF_own {fn : Fn} {args : List D} {gs : List Cell} {j : Nat} {xs : List D} {s1 : S} (hl : args.length = fn.np) (h : ex Γ fn.body ⟨args.map (fun x => some (.d x)) ++ List.replicate (fn.nl - fn.np) none, [], gs⟩ = .ok (.rt (.own j)) s1) (hj : s1.fs[j]? = some (.lst xs)) : runF Γ fn args gs = .ok (.lst xs) s1.gs := by
  unfold runF
  simp only [hl, if_true, h, handed, hj]
theorem runF_ex {fn : Fn} {args : List D} {gs : List Cell} {x : Ex} {s1 : S} (hl : args.length = fn.np) (h : ex Γ fn.body ⟨args.map (fun x => some (.d x)) ++ List.replicate (fn.nl - fn.np) none, [], gs⟩ = .ex x s1) : runF Γ fn args gs = .ex x s1.gs := by
  unfold runF
  simp only [hl, if_true, h]
end
theorem eq_str (a b : Str) (s : S) : eqVal (.d (.str a)) (.d (.str b)) s = some (decide (a = b)) := by
  by_cases h : a = b <;> simp [eqVal, Val.py, D.py, PyData.depth, PyData.eqv, h]
theorem eq_nilT (xs : List D) (s : S) : eqVal (.d (.tup xs)) (.d (.tup [])) s = some xs.isEmpty := by
  cases xs with
  | nil => simp [eqVal, Val.py, D.py, D.pys, PyData.depth, PyData.depthAll, PyData.eqv, PyData.eqvAll]
  | cons x xs =>
    simp only [eqVal, Val.py, D.py]
    cases h : D.pys (x :: xs) with
    | none => simp [D.pys, seqv]
    | some l =>
      have : ∃ a r, l = a :: r := by
        simp only [D.pys] at h
        split at h
        · cases h; exact ⟨_, _, rfl⟩
        · cases h
      obtain ⟨a, r, rfl⟩ := this
      simp [D.pys, PyData.depth, PyData.depthAll, PyData.eqv, PyData.eqvAll]
/-! ### values -/
/-- a value of a known class -/
def pl0 : D → Bool
  | .non => true
  | .bl _ => true
  | .int _ => true
  | .str x => decide (x.length ≤ 1000)
  | .tup _ => true
  | .lst _ => true
  | .dct _ _ => true
  | _ => false
def plR : D → Bool
  | .tup ws => decide (ws.length ≤ 1000) && ws.all pl0
  | v => pl0 v
def pl1 : D → Bool
  | .tup xs => decide (xs.length < 1000) && xs.all plR
  | v => pl0 v
def prtB (v : D) (lo hi : Nat) : Bool := match v with
  | .str x => decide (lo ≤ x.length) && decide (x.length ≤ hi) && x.cps.toList.all Pr
  | _ => false
theorem allB_map {α : Type} (b : α → Bool) : ∀ xs : List α, allB (xs.map fun x => .bl (b x)) = some (xs.map b)
  | [] => rfl
  | x :: xs => by simp [allB, allB_map b xs]
theorem le_sp (c : Nat) : (!decide ((⟨#[c]⟩ : Str).cps.toList < (" " : Str).cps.toList)) = decide (32 ≤ c) := by
  have q : (" " : Str).cps.toList = [32] := by decide +kernel
  rw [q]
  show (!decide ([c] < [32])) = _
  rw [← decide_not]
  exact decide_eq_decide.mpr (by simp [List.cons_lt_cons_iff])
theorem le_ti (c : Nat) : (!decide (("~" : Str).cps.toList < (⟨#[c]⟩ : Str).cps.toList)) = decide (c ≤ 126) := by
  have q : ("~" : Str).cps.toList = [126] := by decide +kernel
  rw [q]
  show (!decide ([126] < [c])) = _
  rw [← decide_not]
  exact decide_eq_decide.mpr (by simp [List.cons_lt_cons_iff])
theorem ord_sp (c : Nat) : ordS .le " " ⟨#[c]⟩ = some (decide (32 ≤ c)) := by
  show some (!decide ((⟨#[c]⟩ : Str).cps.toList < (" " : Str).cps.toList)) = _
  rw [le_sp]
theorem ord_ti (c : Nat) : ordS .le ⟨#[c]⟩ "~" = some (decide (c ≤ 126)) := by
  show some (!decide (("~" : Str).cps.toList < (⟨#[c]⟩ : Str).cps.toList)) = _
  rw [le_ti]
theorem filt_all {α : Type} (xs : List α) : xs.filter (fun _ => true) = xs := by simp
/-- as a data list: the signs of a string -/
def sg (c : Nat) : D := .str ⟨#[c]⟩
def ofSg (b : Nat → Bool) : D → D
  | .str z => .bl (b (z.cps.toList.headD 0))
  | d => d
theorem ofSg_map (b : Nat → Bool) (l : List Nat) : (l.map sg).map (ofSg b) = l.map fun c => .bl (b c) := by
  rw [List.map_map]
  exact List.map_congr_left fun c _ => rfl
theorem prt_ok {k : Nat} {v : D} {lo hi : Nat} {gs : List Cell} (hk : 1 ≤ k) (hv : pl0 v = true) : run Pg k f_is_printable [v, .int lo, .int hi] gs = .ok (.bl (prtB v lo hi)) gs := by
  obtain ⟨k, rfl⟩ : ∃ j, k = j + 1 := ⟨k - 1, by omega⟩
  rw [run_s]
  cases v with
  | str x =>
    have hx : x.length ≤ 1000 := by simpa [pl0] using hv
    have hL : x.length ≤ LINE := Nat.le_trans hx (by decide)
    simp only [runF, Pg, c_is_printable, List.length_cons, List.length_nil, List.map_cons, List.map_nil, List.replicate, Nat.reduceAdd, Nat.reduceSub, if_true, List.cons_append, List.nil_append]
    by_cases h1 : lo ≤ x.length
    · by_cases h2 : x.length ≤ hi
      · have hF : evF (run Pg k) (.lc [3] [3] (.it (.var 0)) (.nil) (.chain .le .le (.cst (.str " ")) (.var 3) (.cst (.str "~")))) ⟨[some (.d (.str x)), some (.d (.int lo)), some (.d (.int hi)), none], [], gs⟩ = .ok (x.cps.toList.map fun c => .bl (Pr c)) ⟨[some (.d (.str x)), some (.d (.int lo)), some (.d (.int hi)), none], [], gs⟩ := by
          have hl : (x.cps.toList.map sg).length ≤ LINE := by rw [List.length_map]; exact hL
          obtain ⟨e', q⟩ := lcGo_pure (env := wipeE [some (.d (.str x)), some (.d (.int lo)), some (.d (.int hi)), none] [3]) (i := 3) (cnd := evT (run Pg k) .nil) (elt := ev (run Pg k) (.chain .le .le (.cst (.str " ")) (.var 3) (.cst (.str "~")))) (F := []) (G := gs) (fun _ => true) (ofSg Pr) (x.cps.toList.map sg) [some (.d (.str x)), some (.d (.int lo)), some (.d (.int hi)), none] (fun y hy => by
            obtain ⟨c, _, rfl⟩ := List.mem_map.mp hy
            refine ⟨by simp only [evT], fun _ => ?_⟩
            by_cases h32 : 32 ≤ c
            · simp [wipeE, ev, getVar, cmpop, sg, optR, ord_sp, ord_ti, h32, ofSg, Pr]
            · simp [wipeE, ev, getVar, cmpop, sg, optR, ord_sp, ord_ti, h32, ofSg, Pr])
          rw [evF]
          simp only [evI, ev, getVar, List.getElem?_cons_zero, R.bind, hL, if_true]
          have hsg : (x.cps.toList.map fun c => (.str ⟨#[c]⟩ : D)) = x.cps.toList.map sg := rfl
          rw [hsg, if_pos hl]
          rw [filt_all] at q
          rw [q, ofSg_map]
        have c1 : ((lo : Int) ≤ (x.length : Int)) := by omega
        have c2 : ((x.length : Int) ≤ (hi : Int)) := by omega
        simp only [ex, ev.eq_def (run Pg k) (.and_ _ _), ev.eq_def (run Pg k) (.isi _ _ _), ev.eq_def (run Pg k) (.chain _ _ _ _ _), ev.eq_def (run Pg k) (.bf _ _), ev.eq_def (run Pg k) (.var _), ev.eq_def (run Pg k) (.fz _), evs, getVar, List.getElem?_cons_zero, List.getElem?_cons_succ, R.bind, isTag, optR, truth, bfn, hL, if_true, cmpop, ordI, c1, c2, decide_true, hF, seqv, allB_map, beq_self_eq_true, handed]
        simp [prtB, h1, h2]
      · have c1 : ((lo : Int) ≤ (x.length : Int)) := by omega
        have c2 : ¬ ((x.length : Int) ≤ (hi : Int)) := by omega
        simp [ex, ev, evs, getVar, isTag, optR, truth, bfn, hL, cmpop, ordI, c1, c2, handed, prtB, h1, h2]
    · have c1 : ¬ ((lo : Int) ≤ (x.length : Int)) := by omega
      simp [ex, ev, evs, getVar, isTag, optR, truth, bfn, hL, cmpop, ordI, c1, handed, prtB, h1]
  | _ => first
    | (simp [pl0] at hv; done)
    | simp [runF, Pg, c_is_printable, ex, ev, getVar, isTag, optR, truth, handed, prtB]
end Lw

namespace Lw
open Mp
open PySem (Str PyData)
/-- two fors that change nothing -/
theorem lc2Go_pure {env : List (Option Val)} {i j : Nat} {it1 elt : S → R Val} {F G : List Cell} (f : D → D) :
    ∀ (rs : List (List D)) (e : List (Option Val)), (∀ r ∈ rs, it1 ⟨env.set i (some (.d (.tup r))), F, G⟩ = .ok (.d (.tup r)) ⟨env.set i (some (.d (.tup r))), F, G⟩ ∧ r.length ≤ 1000 ∧ ∀ w ∈ r, elt ⟨(wipeE (env.set i (some (.d (.tup r)))) [j]).set j (some (.d w)), F, G⟩ = .ok (.d (f w)) ⟨(wipeE (env.set i (some (.d (.tup r)))) [j]).set j (some (.d w)), F, G⟩) →
      ∃ e', lc2Go env [i] [j] it1 elt (rs.map D.tup) ⟨e, F, G⟩ = .ok ((rs.map fun r => r.map f).flatten) ⟨e', F, G⟩
  | [], e, _ => ⟨e, rfl⟩
  | r :: rs, e, h => by
    obtain ⟨h1, h2, h3⟩ := h r List.mem_cons_self
    obtain ⟨e1, q1⟩ := lcGo_pure (env := wipeE (env.set i (some (.d (.tup r)))) [j]) (i := j) (cnd := fun s => .ok true s) (elt := elt) (F := F) (G := G) (fun _ => true) f r (env.set i (some (.d (.tup r)))) (fun x hx => ⟨rfl, fun _ => h3 x hx⟩)
    obtain ⟨e2, q2⟩ := lc2Go_pure f rs e1 (fun r hr => h r (List.mem_cons_of_mem _ hr))
    rw [filt_all] at q1
    refine ⟨e2, ?_⟩
    simp only [List.map_cons, lc2Go, bindTs, h1, R.bindN, h2, if_true, q1, q2, List.flatten_cons]
/-! ### rows -/
def asT : List D → Option (List (List D))
  | [] => some []
  | .tup ws :: r => (asT r).map (ws :: ·)
  | _ => none
theorem asT_map : ∀ {xs : List D} {rs : List (List D)}, asT xs = some rs → xs = rs.map D.tup
  | [], _, h => by cases h; rfl
  | .tup ws :: r, _, h => by
    simp only [asT, Option.map_eq_some_iff] at h
    obtain ⟨l, h1, rfl⟩ := h
    rw [asT_map h1]; rfl
theorem asT_tup : ∀ rs : List (List D), asT (rs.map D.tup) = some rs
  | [] => rfl
  | r :: rs => by simp [asT, asT_tup rs]
def isTupB : D → Bool
  | .tup _ => true
  | _ => false
theorem asT_all : ∀ xs : List D, (asT xs).isSome = xs.all isTupB
  | [] => rfl
  | x :: xs => by
    cases x <;> first
      | (simp only [asT, isTupB, List.all_cons, Bool.false_and]; rfl)
      | (simp only [asT, isTupB, List.all_cons, Bool.true_and, Option.isSome_map]; exact asT_all xs)
def rowB (n : Nat) (r : List D) : Bool := decide (1 ≤ r.length) && decide (r.length ≤ 8) && decide (r.length = n)
def rowsR (rs : List (List D)) : Bool := rs.all (rowB (rs.headD []).length) && rs.all fun r => r.all (prtB · 0 60)
def rowsB (v : D) : Bool := match v with
  | .tup xs => match asT xs with
    | some rs => rowsR rs
    | none => false
  | _ => false
def ofTup (b : List D → Bool) : D → D
  | .tup r => .bl (b r)
  | d => .bl false
theorem ofTup_map (b : List D → Bool) (rs : List (List D)) : (rs.map D.tup).map (ofTup b) = rs.map fun r => .bl (b r) := by
  rw [List.map_map]
  exact List.map_congr_left fun c _ => rfl
section
variable {k : Nat} {gs : List Cell}
def eR (v : D) : List (Option Val) := [some (.d v), none, none]
theorem rows1 {xs : List D} (hp : ∀ x ∈ xs, pl0 x = true) (hl : xs.length ≤ LINE) : evF (run Pg k) (.lc [1] [1] (.it (.var 0)) (.nil) (.isi [] (.var 1) .tup)) ⟨eR (.tup xs), [], gs⟩ = .ok (xs.map fun x => .bl (isTupB x)) ⟨eR (.tup xs), [], gs⟩ := by
  obtain ⟨e', q⟩ := lcGo_pure (env := wipeE (eR (.tup xs)) [1]) (i := 1) (cnd := evT (run Pg k) .nil) (elt := ev (run Pg k) (.isi [] (.var 1) .tup)) (F := []) (G := gs) (fun _ => true) (fun x => .bl (isTupB x)) xs (eR (.tup xs)) (fun y hy => by
    refine ⟨by simp only [evT], fun _ => ?_⟩
    have := hp y hy
    cases y <;> first
      | (simp [pl0] at this; done)
      | simp [eR, wipeE, ev, getVar, isTag, optR, isTupB])
  rw [filt_all] at q
  rw [evF]
  simp only [evI, ev, eR, getVar, List.getElem?_cons_zero, R.bind, if_pos hl] at q ⊢
  rw [q]
theorem rows2 {rs : List (List D)} (hl : rs.length ≤ LINE) : evF (run Pg k) (.lc [1] [1] (.it (.var 0)) (.nil) (.and_ (.chain .le .le (.cst (.int 1)) (.bf .len (.cons (.var 1) (.nil))) (.gc (.int 8))) (.cmp .eq (.bf .len (.cons (.var 1) (.nil))) (.bf .len (.cons (.sub (.var 0) (.cst (.int 0))) (.nil)))))) ⟨eR (.tup (rs.map D.tup)), [], gs⟩ = .ok (rs.map fun r => .bl (rowB (rs.headD []).length r)) ⟨eR (.tup (rs.map D.tup)), [], gs⟩ := by
  obtain ⟨e', q⟩ := lcGo_pure (env := wipeE (eR (.tup (rs.map D.tup))) [1]) (i := 1) (cnd := evT (run Pg k) .nil) (elt := ev (run Pg k) (.and_ (.chain .le .le (.cst (.int 1)) (.bf .len (.cons (.var 1) (.nil))) (.gc (.int 8))) (.cmp .eq (.bf .len (.cons (.var 1) (.nil))) (.bf .len (.cons (.sub (.var 0) (.cst (.int 0))) (.nil)))))) (F := []) (G := gs) (fun _ => true) (ofTup (rowB (rs.headD []).length)) (rs.map D.tup) (eR (.tup (rs.map D.tup))) (fun y hy => by
    obtain ⟨r, hr, rfl⟩ := List.mem_map.mp hy
    refine ⟨by simp only [evT], fun _ => ?_⟩
    obtain ⟨r0, rest, rfl⟩ : ∃ r0 rest, rs = r0 :: rest := by
      cases rs with
      | nil => cases hr
      | cons a b => exact ⟨a, b, rfl⟩
    have h0 : atI ((r0 :: rest).map D.tup) 0 = some (.tup r0) := rfl
    generalize hX : (r0 :: rest).map D.tup = X at h0 ⊢
    by_cases c1 : 1 ≤ r.length
    · by_cases c2 : r.length ≤ 8
      · have d1 : (1 : Int) ≤ r.length := by omega
        have d2 : (r.length : Int) ≤ 8 := by omega
        by_cases c3 : r.length = r0.length
        · have e1 : 1 ≤ r0.length := by omega
          have e2 : r0.length ≤ 8 := by omega
          have f1 : (1 : Int) ≤ r0.length := by omega
          have f2 : (r0.length : Int) ≤ 8 := by omega
          simp [eR, wipeE, ev, evs, getVar, bfn, seqv, cmpop, ordI, optR, truth, f1, f2, subVal, h0, eq_int, c3, ofTup, rowB, e1, e2]
        · have d3 : ¬ ((r.length : Int) = r0.length) := by omega
          simp [eR, wipeE, ev, evs, getVar, bfn, seqv, cmpop, ordI, optR, truth, d1, d2, subVal, h0, eq_int, d3, ofTup, rowB, c1, c2, c3]
      · have d1 : (1 : Int) ≤ r.length := by omega
        have d2 : ¬ (r.length : Int) ≤ 8 := by omega
        simp [eR, wipeE, ev, evs, getVar, bfn, seqv, cmpop, ordI, optR, truth, d1, d2, ofTup, rowB, c1, c2]
    · have d1 : ¬ (1 : Int) ≤ r.length := by omega
      simp [eR, wipeE, ev, evs, getVar, bfn, seqv, cmpop, ordI, optR, truth, d1, ofTup, rowB, c1])
  rw [filt_all, ofTup_map] at q
  have hl2 : (rs.map D.tup).length ≤ LINE := by rw [List.length_map]; exact hl
  rw [evF]
  simp only [evI, ev.eq_def (run Pg k) (.var _), eR, getVar, List.getElem?_cons_zero, R.bind, if_pos hl2] at q ⊢
  rw [q]
def ofW (v : D) : D := .bl (prtB v 0 60)
theorem rows3 {rs : List (List D)} (hk : 1 ≤ k) (hp : ∀ r ∈ rs, r.length ≤ 1000 ∧ ∀ w ∈ r, pl0 w = true) (hl : rs.length < 1000) : evF (run Pg k) (.lc2 [1, 2] [1] (.it (.var 0)) [2] (.var 1) (.call 0 (.cons (.var 2) (.cons (.cst (.int 0)) (.cons (.gc (.int 60)) (.nil)))))) ⟨eR (.tup (rs.map D.tup)), [], gs⟩ = .ok (rs.map fun r => r.map ofW).flatten ⟨eR (.tup (rs.map D.tup)), [], gs⟩ := by
  obtain ⟨e', q⟩ := lc2Go_pure (env := wipeE (eR (.tup (rs.map D.tup))) [1, 2]) (i := 1) (j := 2) (it1 := ev (run Pg k) (.var 1)) (elt := ev (run Pg k) (.call 0 (.cons (.var 2) (.cons (.cst (.int 0)) (.cons (.gc (.int 60)) (.nil)))))) (F := []) (G := gs) ofW rs (eR (.tup (rs.map D.tup))) (fun r hr => by
    refine ⟨by simp [eR, wipeE, ev, getVar], (hp r hr).1, fun w hw => ?_⟩
    have := prt_ok (k := k) (lo := 0) (hi := 60) (gs := gs) hk ((hp r hr).2 w hw)
    have e : run Pg k 0 [w, .int 0, .int 60] gs = .ok (.bl (prtB w 0 60)) gs := this
    simp [eR, wipeE, ev, evs, getVar, callR, toDs, e, ofW])
  have hl2 : (rs.map D.tup).length < 1000 := by rw [List.length_map]; exact hl
  rw [evF]
  simp only [evI, ev.eq_def (run Pg k) (.var 0), eR, getVar, List.getElem?_cons_zero, R.bind, if_pos hl2] at q ⊢
  rw [q]
theorem flat_map (rs : List (List D)) : (rs.map fun r => r.map ofW).flatten = rs.flatten.map ofW := by rw [List.map_flatten]
theorem flat_id (rs : List (List D)) : rs.flatten.all (prtB · 0 60) = rs.all fun r => r.all (prtB · 0 60) := by
  induction rs with
  | nil => rfl
  | cons r rs ih => simp [ih]
theorem ret_cst {Γ : Callee} {d : D} {s : S} : ex Γ (.cons (.ret (.cst d)) .nil) s = .ok (.rt (.d d)) s := ex_exit (ret_v (by simp only [ev]))
theorem isi_tup {x : D} {s : S} {i : Nat} {Γ : Callee} (hp : pl0 x = true) (he : s.env[i]? = some (some (.d x))) : ev Γ (.isi [] (.var i) .tup) s = .ok (.d (.bl (isTupB x))) s := by
  cases x <;> first
    | (simp [pl0] at hp; done)
    | simp [ev, getVar, he, isTag, optR, isTupB]
theorem isi_str {x : D} {s : S} {i : Nat} {Γ : Callee} (hp : pl0 x = true) (he : s.env[i]? = some (some (.d x))) : ev Γ (.isi [] (.var i) .str) s = .ok (.d (.bl (match x with | .str _ => true | _ => false))) s := by
  cases x <;> first
    | (simp [pl0] at hp; done)
    | simp [ev, getVar, he, isTag, optR]
theorem pl1_0 {v : D} (h : pl1 v = true) : pl0 v = true := by
  cases v <;> first
    | exact h
    | rfl
theorem rows_ok {v : D} (hk : 2 ≤ k) (hv : pl1 v = true) : run Pg k f_are_rows [v] gs = .ok (.bl (rowsB v)) gs := by
  obtain ⟨k, rfl⟩ : ∃ j, k = j + 1 := ⟨k - 1, by omega⟩
  rw [run_s]
  refine runF_rt (s1 := ⟨eR v, [], gs⟩) rfl ?_
  show ex (run Pg k) c_are_rows ⟨eR v, [], gs⟩ = _
  have i1 : evT (run Pg k) (.not_ (.isi [] (.var 0) .tup)) ⟨eR v, [], gs⟩ = .ok (!isTupB v) ⟨eR v, [], gs⟩ := not_b (t_isi (isi_tup (pl1_0 hv) rfl))
  unfold c_are_rows
  cases v with
  | tup xs =>
    simp only [pl1, Bool.and_eq_true, decide_eq_true_eq, List.all_eq_true] at hv
    have hL : xs.length ≤ LINE := Nat.le_trans (Nat.le_of_lt hv.1) (by decide)
    have hp : ∀ x ∈ xs, pl0 x = true := fun x hx => by
      have := hv.2 x hx
      cases x <;> first | exact this | rfl
    have r1 := not_b (t_bf (v_all (rows1 (k := k) (gs := gs) hp hL) (allB_map _ _)))
    have o1 := (or_f (b := .not_ (.bf .all (.cons (.fz (.lc [1] [1] (.it (.var 0)) (.nil) (.isi [] (.var 1) .tup))) .nil))) i1).trans r1
    cases hT : asT xs with
    | none =>
      have hn : xs.all isTupB = false := by rw [← asT_all, hT]; rfl
      rw [hn] at o1
      rw [ex_exit ((ite_t o1).trans ret_cst)]
      simp only [rowsB, hT]
    | some rs =>
      have hn : xs.all isTupB = true := by rw [← asT_all, hT]; rfl
      have hx := asT_map hT
      subst hx
      rw [hn] at o1
      have hl : rs.length < 1000 := by have := hv.1; rwa [List.length_map] at this
      have r2 := not_b (t_bf (v_all (rows2 (k := k) (gs := gs) (rs := rs) (by simp only [LINE]; omega)) (allB_map _ _)))
      have r3 := rows3 (k := k) (gs := gs) (rs := rs) (by omega) (fun r hr => by
        have := hv.2 (.tup r) (List.mem_map.mpr ⟨r, hr, rfl⟩)
        simpa [plR] using this) hl
      rw [flat_map] at r3
      have r4 := v_all (α := D) (b := (prtB · 0 60)) (xs := rs.flatten) r3 (allB_map _ _)
      rw [ex_step ((ite_f o1).trans ex_nil)]
      simp only [rowsB, hT]
      cases c2 : rs.all (rowB (rs.headD []).length) with
      | false =>
        rw [c2] at r2
        rw [ex_exit ((ite_t r2).trans ret_cst)]
        simp only [rowsR, c2, Bool.false_and]
      | true =>
        rw [c2] at r2
        rw [ex_step ((ite_f r2).trans ex_nil), ex_exit (ret_v r4), flat_id]
        simp only [rowsR, c2, Bool.true_and]
  | _ => first
    | (simp [pl1, pl0] at hv; done)
    | (rw [ex_exit ((ite_t (or_t i1)).trans ret_cst)]; rfl)
end
end Lw

namespace Lw
open Mp
open PySem (Str PyData)
def inS (c : Nat) : Bool := decide (c ∈ ("<>^" : Str).cps.toList)
def sidesB (v : D) (rs : List (List D)) : Bool := match v with
  | .str x => decide (x.length ≤ 8) && x.cps.toList.all Pr && x.cps.toList.all inS && (decide (x = "") || rs.isEmpty || decide (x.length = (rs.headD []).length))
  | _ => false
section
variable {k : Nat} {gs : List Cell}
theorem sides1 {x : Str} {X : D} (hL : x.length ≤ LINE) : evF (run Pg k) (.lc [2] [2] (.it (.var 0)) (.nil) (.cmp .in_ (.var 2) (.gc (.str "<>^")))) ⟨[some (.d (.str x)), some (.d X), none], [], gs⟩ = .ok (x.cps.toList.map fun c => .bl (inS c)) ⟨[some (.d (.str x)), some (.d X), none], [], gs⟩ := by
  have hl : (x.cps.toList.map sg).length ≤ LINE := by rw [List.length_map]; exact hL
  obtain ⟨e', q⟩ := lcGo_pure (env := wipeE [some (.d (.str x)), some (.d X), none] [2]) (i := 2) (cnd := evT (run Pg k) .nil) (elt := ev (run Pg k) (.cmp .in_ (.var 2) (.gc (.str "<>^")))) (F := []) (G := gs) (fun _ => true) (ofSg inS) (x.cps.toList.map sg) [some (.d (.str x)), some (.d X), none] (fun y hy => by
    obtain ⟨c, _, rfl⟩ := List.mem_map.mp hy
    refine ⟨by simp only [evT], fun _ => ?_⟩
    have l1 : (⟨#[c]⟩ : Str).length = 1 := rfl
    simp only [wipeE, ev, getVar, List.set_cons_succ, List.set_cons_zero, List.getElem?_cons_succ, List.getElem?_cons_zero, R.bind, cmpop, sg, inVal, l1, if_true, optR, ofSg]
    rfl)
  rw [evF]
  simp only [evI, ev, getVar, List.getElem?_cons_zero, R.bind, hL, if_true]
  have hsg : (x.cps.toList.map fun c => (.str ⟨#[c]⟩ : D)) = x.cps.toList.map sg := rfl
  rw [hsg, if_pos hl]
  rw [filt_all] at q
  rw [q, ofSg_map]
theorem sides_ok {v : D} {rs : List (List D)} (hk : 2 ≤ k) (hv : pl0 v = true) : run Pg k f_are_sides [v, .tup (rs.map D.tup)] gs = .ok (.bl (sidesB v rs)) gs := by
  obtain ⟨k, rfl⟩ : ∃ j, k = j + 1 := ⟨k - 1, by omega⟩
  rw [run_s]
  refine runF_rt (s1 := ⟨[some (.d v), some (.d (.tup (rs.map D.tup))), none], [], gs⟩) rfl ?_
  show ex (run Pg k) c_are_sides ⟨[some (.d v), some (.d (.tup (rs.map D.tup))), none], [], gs⟩ = _
  have hP : run Pg k 0 [v, .int 0, .int 8] gs = .ok (.bl (prtB v 0 8)) gs := prt_ok (k := k) (lo := 0) (hi := 8) (by omega) hv
  have hE := fun s => eq_nilT (rs.map D.tup) s
  have hx1 : (rs.map D.tup).isEmpty = rs.isEmpty := by cases rs <;> rfl
  have h0 : ∀ r0 rest, rs = r0 :: rest → atI (rs.map D.tup) 0 = some (.tup r0) := fun r0 rest e => by rw [e]; rfl
  generalize hX : rs.map D.tup = X at hE hx1 h0 ⊢
  have i1 : evT (run Pg k) (.not_ (.call 0 (.cons (.var 0) (.cons (.cst (.int 0)) (.cons (.gc (.int 8)) (.nil)))))) ⟨[some (.d v), some (.d (.tup X)), none], [], gs⟩ = .ok (!prtB v 0 8) ⟨[some (.d v), some (.d (.tup X)), none], [], gs⟩ :=
    not_b (t_call (by simp [ev, evs, getVar, callR, toDs, hP]))
  unfold c_are_sides
  cases hp : prtB v 0 8 with
  | false =>
    rw [hp] at i1
    have : sidesB v rs = false := by
      unfold prtB at hp
      unfold sidesB
      split
      · rename_i x
        simp only [Nat.zero_le, decide_true, Bool.true_and] at hp
        rw [hp]; rfl
      · rfl
    rw [this, ex_exit ((ite_t (or_t i1)).trans ret_cst)]
  | true =>
    rw [hp] at i1
    cases v with
    | str x =>
      simp only [prtB, Nat.zero_le, decide_true, Bool.true_and, Bool.and_eq_true, decide_eq_true_eq] at hp
      have hL : x.length ≤ LINE := by have := hp.1; simp only [LINE]; omega
      have r1 := not_b (t_bf (v_all (sides1 (k := k) (gs := gs) (x := x) (X := .tup X) hL) (allB_map _ _)))
      have o1 := (or_f (b := .not_ (.bf .all (.cons (.fz (.lc [2] [2] (.it (.var 0)) (.nil) (.cmp .in_ (.var 2) (.gc (.str "<>^"))))) .nil))) i1).trans r1
      cases ha : x.cps.toList.all inS with
      | false =>
        rw [ha] at o1
        rw [ex_exit ((ite_t o1).trans ret_cst)]
        simp only [sidesB, ha, Bool.and_false, Bool.false_and]
      | true =>
        rw [ha] at o1
        have hs : sidesB (.str x) rs = (decide (x = "") || rs.isEmpty || decide (x.length = (rs.headD []).length)) := by
          simp only [sidesB, ha, hp.1, hp.2, decide_true, Bool.true_and]
        rw [hs, ex_step ((ite_f o1).trans ex_nil), ex_exit (ret_v (v := .d (.bl _)) (s1 := ⟨[some (.d (.str x)), some (.d (.tup X)), none], [], gs⟩) ?_)]
        by_cases c1 : x = ""
        · simp [ev, evs, getVar, cmpop, eq_str, c1, optR, truth]
        · cases rs with
          | nil => simp [ev, evs, getVar, cmpop, eq_str, c1, optR, truth, toDs, hE, hx1]
          | cons r0 rest =>
            have h0' := h0 r0 rest rfl
            have e : decide ((x.length : Int) = (r0.length : Int)) = decide (x.length = r0.length) := decide_eq_decide.mpr (by omega)
            simp [ev, evs, getVar, cmpop, eq_str, c1, optR, truth, toDs, hE, hx1, bfn, hL, subVal, seqv, h0', eq_int, e]
    | _ => simp [prtB] at hp
end
end Lw

namespace Lw
open Mp
open PySem (Str PyData)
theorem s_gt : (">" : Str) = mkS [62] := by decide +kernel
theorem s_up : ("^" : Str) = mkS [94] := by decide +kernel
theorem s_lt : ("<" : Str) = mkS [60] := by decide +kernel
theorem s_sp : (" " : Str) = mkS [32] := by decide +kernel
theorem s_no : ("" : Str) = mkS [] := by decide +kernel
theorem s_nl : ("\n" : Str) = mkS [10] := by decide +kernel
theorem eq_mkS (a b : List Nat) (s : S) : eqVal (.d (.str (mkS a))) (.d (.str (mkS b))) s = some (decide (a = b)) := by
  rw [eq_str]
  exact congrArg some (decide_eq_decide.mpr mkS_inj)
theorem jst_mk (right : Bool) {x : List Nat} {w c : Nat} (hx : x.length ≤ 1000) (hw : w ≤ 1000) : jstV right (.d (.str (mkS x))) (.d (.int w)) (.d (.str (mkS [c]))) = some (.d (.str (mkS (if right then List.replicate (w - x.length) c ++ x else x ++ List.replicate (w - x.length) c)))) := by
  have h1 : (mkS [c]).length = 1 := mkS_len _
  have h2 : (mkS x).length = x.length := mkS_len _
  have h3 : (mkS [c]).cps.getD 0 0 = c := rfl
  unfold jstV
  simp only [h1, h2]
  rw [if_pos ⟨trivial, hx, by omega, by omega⟩, h3, Int.toNat_natCast, padS_eq]
section
variable {k : Nat} {gs : List Cell}
theorem filled_ok {x : List Nat} {w s c : Nat} (hk : 1 ≤ k) (h : x.length ≤ w) (hw : w ≤ 500) : run Pg k f_filled [.str (mkS x), .int w, .str (mkS [s]), .str (mkS [c])] gs = .ok (.str (mkS (padC c s w x))) gs := by
  obtain ⟨k, rfl⟩ : ∃ j, k = j + 1 := ⟨k - 1, by omega⟩
  rw [run_s]
  have hxL : (mkS x).length ≤ LINE := by rw [mkS_len]; simp only [LINE]; omega
  have hlen : (mkS x).length = x.length := mkS_len _
  have e1 : evT (run Pg k) (.cmp .eq (.var 2) (.cst (.str ">"))) ⟨[some (.d (.str (mkS x))), some (.d (.int w)), some (.d (.str (mkS [s]))), some (.d (.str (mkS [c]))), none], [], gs⟩ = .ok (decide (s = 62)) ⟨[some (.d (.str (mkS x))), some (.d (.int w)), some (.d (.str (mkS [s]))), some (.d (.str (mkS [c]))), none], [], gs⟩ := by
    refine t_cmp ?_
    rw [s_gt]
    simp [ev, getVar, cmpop, eq_mkS, optR]
  by_cases c1 : s = 62
  · refine runF_rt (s1 := ⟨[some (.d (.str (mkS x))), some (.d (.int w)), some (.d (.str (mkS [s]))), some (.d (.str (mkS [c]))), none], [], gs⟩) rfl ?_
    show ex (run Pg k) c_filled ⟨[some (.d (.str (mkS x))), some (.d (.int w)), some (.d (.str (mkS [s]))), some (.d (.str (mkS [c]))), none], [], gs⟩ = _
    unfold c_filled
    rw [decide_eq_true c1] at e1
    have q : padC c s w x = List.replicate (w - x.length) c ++ x := by
      unfold padC front
      rw [if_pos c1, Nat.sub_self]
      simp
    rw [q]
    refine ex_exit ((ite_t e1).trans (ex_exit (ret_v ?_)))
    simp only [ev, getVar, List.getElem?_cons_zero, List.getElem?_cons_succ, R.bind, jst_mk true (show x.length ≤ 1000 by omega) (show w ≤ 1000 by omega), if_true, optR]
  · rw [decide_eq_false c1] at e1
    have key : ∃ b : Nat, b = front s (w - x.length) ∧ ev (run Pg k) (.ife (.cmp .eq (.var 2) (.cst (.str "^"))) (.bin .fdiv (.bin .sub (.var 1) (.bf .len (.cons (.var 0) (.nil)))) (.cst (.int 2))) (.cst (.int 0))) ⟨[some (.d (.str (mkS x))), some (.d (.int w)), some (.d (.str (mkS [s]))), some (.d (.str (mkS [c]))), none], [], gs⟩ = .ok (.d (.int b)) ⟨[some (.d (.str (mkS x))), some (.d (.int w)), some (.d (.str (mkS [s]))), some (.d (.str (mkS [c]))), none], [], gs⟩ := by
      rw [s_up]
      have k2 : okI 2 = true := okI_of (by omega) (by omega)
      by_cases c2 : s = 94
      · refine ⟨(w - x.length) / 2, by unfold front; rw [if_neg c1, if_pos c2], ?_⟩
        have e : ((w : Int) - (x.length : Int)) / 2 = ((w - x.length : Nat) : Int) / 2 := by omega
        have hx2 : x.length ≤ LINE := by simp only [LINE]; omega
        simp [ev, evs, evT, getVar, cmpop, eq_mkS, c2, optR, truth, bfn, hx2, hlen, binop, k2, e]
      · refine ⟨0, by unfold front; rw [if_neg c1, if_neg c2], ?_⟩
        simp [ev, evs, evT, getVar, cmpop, eq_mkS, c2, optR, truth]
    obtain ⟨b, hb, e2⟩ := key
    have hbl : b ≤ w - x.length := by rw [hb]; exact front_le _ _
    refine runF_rt (s1 := ⟨[some (.d (.str (mkS x))), some (.d (.int w)), some (.d (.str (mkS [s]))), some (.d (.str (mkS [c]))), some (.d (.int b))], [], gs⟩) rfl ?_
    show ex (run Pg k) c_filled ⟨[some (.d (.str (mkS x))), some (.d (.int w)), some (.d (.str (mkS [s]))), some (.d (.str (mkS [c]))), none], [], gs⟩ = _
    unfold c_filled
    rw [ex_step ((ite_f e1).trans ex_nil), ex_step (asg_v e2)]
    refine ex_exit (ret_v ?_)
    have hrep : repV (.d (.str (mkS [c]))) (.d (.int b)) ⟨[some (.d (.str (mkS x))), some (.d (.int w)), some (.d (.str (mkS [s]))), some (.d (.str (mkS [c]))), some (.d (.int b))], [], gs⟩ = some (.d (.str (mkS (List.replicate b c)))) := by
      have h1 : (mkS [c]).length ≤ 1000 := by rw [mkS_len]; simp
      unfold repV
      simp only [if_pos (show (0 : Int) ≤ (b : Int) ∧ (b : Int) ≤ 1000 ∧ (mkS [c]).length ≤ 1000 from ⟨by omega, by omega, h1⟩), Int.toNat_natCast]
      rw [strRep_eq, rep_one]
    have hl : (mkS (List.replicate b c)).length + (mkS x).length ≤ LINE := by
      rw [mkS_len, mkS_len, List.length_replicate]
      simp only [LINE]
      omega
    have q : padC c s w x = (List.replicate b c ++ x) ++ List.replicate (w - (List.replicate b c ++ x).length) c := by
      unfold padC
      rw [← hb, List.length_append, List.length_replicate, show w - (b + x.length) = w - x.length - b by omega]
    have j := jst_mk false (x := List.replicate b c ++ x) (w := w) (c := c) (by rw [List.length_append, List.length_replicate]; omega) (by omega)
    rw [if_neg Bool.false_ne_true, ← q] at j
    simp only [ev, getVar, List.set_cons_succ, List.set_cons_zero, List.getElem?_cons_zero, List.getElem?_cons_succ, R.bind, hrep, optR, binop, hl, if_true, app_mkS, j]
end
/-! ### rows of strings -/
def rL (r : List (List Nat)) : List D := r.map fun x => .str (mkS x)
def rD (R : List (List (List Nat))) : List (List D) := R.map rL
theorem rL_len (r : List (List Nat)) : (rL r).length = r.length := List.length_map _
theorem prt_mk {x : List Nat} {lo hi : Nat} : prtB (.str (mkS x)) lo hi = (decide (lo ≤ x.length) && decide (x.length ≤ hi) && x.all Pr) := by
  simp only [prtB, mkS_len, mkS_list]
theorem pr_all {x : List Nat} (h : ∀ c ∈ x, 32 ≤ c ∧ c ≤ 126) : x.all Pr = true := by
  rw [List.all_eq_true]
  intro c hc
  unfold Pr
  simp only [Bool.and_eq_true, decide_eq_true_eq]
  exact h c hc
theorem rowsR_ok {n : Nat} {R : List (List (List Nat))} (h : RowsOk n R) : rowsR (rD R) = true := by
  simp only [rowsR, Bool.and_eq_true, List.all_eq_true]
  refine ⟨fun r hr => ?_, fun r hr w hw => ?_⟩
  · obtain ⟨q, hq, rfl⟩ := List.mem_map.mp hr
    have h1 := h.len q hq
    have h2 : ((rD R).headD []).length = n := by
      cases R with
      | nil => cases hq
      | cons a b => exact (rL_len a).trans (h.len a List.mem_cons_self)
    simp only [rowB, rL_len, h1, h2, h.n1, h.n8, decide_true, Bool.and_self]
  · obtain ⟨q, hq, rfl⟩ := List.mem_map.mp hr
    obtain ⟨x, hx, rfl⟩ := List.mem_map.mp hw
    obtain ⟨a, b⟩ := h.w q hq x hx
    rw [prt_mk, pr_all b]
    simp [a]
theorem pl1_ok {n : Nat} {R : List (List (List Nat))} (h : RowsOk n R) : pl1 (.tup ((rD R).map D.tup)) = true := by
  simp only [pl1, Bool.and_eq_true, decide_eq_true_eq, List.all_eq_true]
  refine ⟨by rw [List.length_map]; show (R.map rL).length < 1000; rw [List.length_map]; have := h.m; omega, fun r hr => ?_⟩
  obtain ⟨q, hq, rfl⟩ := List.mem_map.mp hr
  obtain ⟨p, hp, rfl⟩ := List.mem_map.mp hq
  simp only [plR, Bool.and_eq_true, decide_eq_true_eq, List.all_eq_true, rL_len]
  refine ⟨by rw [h.len p hp]; have := h.n8; omega, fun w hw => ?_⟩
  obtain ⟨x, hx, rfl⟩ := List.mem_map.mp hw
  have := (h.w p hp x hx).1
  simp only [pl0, mkS_len, decide_eq_true_eq]
  omega
end Lw

namespace Lw
open Mp
open PySem (Str PyData)
theorem rng_eq (n : Nat) : rngL 0 (n : Int) = (List.range n).map fun i : Nat => D.int i := by
  simp [rngL]
theorem ev_range {Γ : Callee} {e : E} {s s1 : S} {n : Nat} (h : ev Γ e s = .ok (.d (.int n)) s1) (hn : n ≤ LINE) : evI Γ (.rng (.cons e .nil)) s = .ok ((List.range n).map fun i : Nat => D.int i) s1 := by
  have c : (decide (-(LINE : Int) ≤ (n : Int)) && decide ((n : Int) ≤ LINE)) = true := by
    simp only [Bool.and_eq_true, decide_eq_true_eq]
    omega
  simp only [evI, evs, h, R.bind, rngV, c, if_true, rng_eq]
/-- a comprehension over data -/
theorem lc_it {Γ : Callee} {p : Nat} {it elt : E} {xs : List D} {f : D → D} {s : S} (hi : evI Γ it s = .ok xs s) (hl : xs.length ≤ LINE) (h : ∀ x ∈ xs, ev Γ elt ⟨(s.env.set p none).set p (some (.d x)), s.fs, s.gs⟩ = .ok (.d (f x)) ⟨(s.env.set p none).set p (some (.d x)), s.fs, s.gs⟩) :
    evF Γ (.lc [p] [p] it .nil elt) s = .ok (xs.map f) s := by
  obtain ⟨e', q⟩ := lcGo_pure (env := wipeE s.env [p]) (i := p) (cnd := evT Γ .nil) (elt := ev Γ elt) (F := s.fs) (G := s.gs) (fun _ => true) f xs s.env (fun x hx => ⟨by simp only [evT], fun _ => h x hx⟩)
  rw [filt_all] at q
  rw [evF]
  simp only [hi, R.bind, if_pos hl]
  rw [show s = ⟨s.env, s.fs, s.gs⟩ from rfl, q]
def ofLen (j : Nat) : D → D
  | .tup r => match r[j]? with
    | some (.str x) => .int x.length
    | _ => .non
  | d => d
theorem rL_get {r : List (List Nat)} {j : Nat} (h : j < r.length) : (rL r)[j]? = some (.str (mkS (r.getD j []))) := by
  unfold rL
  rw [List.getElem?_map, List.getElem?_eq_getElem h, List.getD_eq_getElem?_getD, List.getElem?_eq_getElem h]
  rfl
theorem atI_nat {α : Type} (xs : List α) (j : Nat) : atI xs (j : Int) = xs[j]? := by
  unfold atI
  rw [if_pos (by omega), Int.toNat_natCast]
theorem rows_len (R : List (List (List Nat))) : ((rD R).map D.tup).length = R.length := by simp [rD]
section
variable {Γ : Callee} {n : Nat} {R : List (List (List Nat))}
theorem inner_w (h : RowsOk n R) {a p q j : Nat} (hap : a ≠ p) (hpq : q ≠ p) {s : S} (ha : s.env[a]? = some (some (.d (.tup ((rD R).map D.tup))))) (hq : s.env[q]? = some (some (.d (.int (j : Nat))))) (hp : p < s.env.length) (hj : j < n) :
    evF Γ (.lc [p] [p] (.it (.var a)) .nil (.bf .len (.cons (.sub (.var p) (.var q)) .nil))) s = .ok (R.map fun r => .int ((r.getD j []).length : Nat)) s := by
  have hi : evI Γ (.it (.var a)) s = .ok ((rD R).map D.tup) s := by simp only [evI, ev, getVar, ha, Mp.R.bind]
  have hl : ((rD R).map D.tup).length ≤ LINE := by rw [rows_len]; have := h.m; simp only [LINE]; omega
  have key := lc_it (elt := .bf .len (.cons (.sub (.var p) (.var q)) .nil)) (f := ofLen j) (p := p) hi hl (fun x hx => by
    obtain ⟨r', hr', rfl⟩ := List.mem_map.mp hx
    obtain ⟨r, hr, rfl⟩ := List.mem_map.mp hr'
    have hjr : j < r.length := by rw [h.len r hr]; exact hj
    have g1 : ((s.env.set p none).set p (some (.d (.tup (rL r)))))[p]? = some (some (.d (.tup (rL r)))) := List.getElem?_set_self (by rw [List.length_set]; exact hp)
    have g2 : ((s.env.set p none).set p (some (.d (.tup (rL r)))))[q]? = some (some (.d (.int (j : Nat)))) := by rw [List.getElem?_set_ne hpq.symm, List.getElem?_set_ne hpq.symm]; exact hq
    have hx60 := (h.get hr j).1
    have hL : (mkS (r.getD j [])).length ≤ LINE := by rw [mkS_len]; simp only [LINE]; omega
    generalize (s.env.set p none).set p (some (.d (.tup (rL r)))) = env at g1 g2
    simp only [ev, evs, getVar, g1, g2, Mp.R.bind, subVal, seqv, atI_nat, rL_get hjr, Option.map_some, optR, bfn, hL, if_true, ofLen])
  rw [key]
  congr 1
  rw [List.map_map]
  unfold rD
  rw [List.map_map]
  refine List.map_congr_left fun r hr => ?_
  have hjr : j < r.length := by rw [h.len r hr]; exact hj
  show ofLen j (.tup (rL r)) = _
  simp only [ofLen, rL_get hjr, mkS_len]
theorem allI_map : ∀ l : List Nat, allI (l.map fun n : Nat => D.int n) = some (l.map fun n : Nat => (n : Int))
  | [] => rfl
  | x :: l => by simp [allI, allI_map l]
theorem v_max {f : E} {s : S} {j : Nat} (hR : R ≠ []) (h : evF Γ f s = .ok (R.map fun r => .int ((r.getD j []).length : Nat)) s) : ev Γ (.bf .max (.cons (.fz f) .nil)) s = .ok (.d (.int (wid R j : Nat))) s := by
  cases R with
  | nil => exact absurd rfl hR
  | cons r0 rest =>
    have e1 := allI_map ((r0 :: rest).map fun r => (r.getD j []).length)
    rw [List.map_map] at e1
    have e2 := max_cast (rest.map fun r => (r.getD j []).length) (r0.getD j []).length
    rw [List.map_map] at e2
    have e3 : wid (r0 :: rest) j = (rest.map fun r => (r.getD j []).length).foldl max (r0.getD j []).length := by
      unfold wid
      rw [List.map_cons, List.foldl_cons, Nat.zero_max]
    rw [e3]
    simp only [ev, evs, h, Mp.R.bind, bfn, seqv]
    have e4 : allI ((r0 :: rest).map fun r => D.int ((r.getD j []).length : Nat)) = some (((r0 :: rest).map fun r => ((r.getD j []).length : Int))) := by
      rw [← show ((fun n : Nat => D.int n) ∘ fun r : List (List Nat) => (r.getD j []).length) = fun r => D.int ((r.getD j []).length : Nat) from rfl, e1, List.map_map]
      rfl
    rw [e4]
    simp only [List.map_cons]
    rw [← e2]
    rfl
end
/-! ### what is refused -/
def goodB (v s f b : D) : Bool := match v with
  | .tup xs => match asT xs with
    | some rs => rowsR rs && sidesB s rs && prtB f 1 1 && prtB b 0 10
    | none => false
  | _ => false
theorem rsx_ok {Γ : Callee} {m : Str} {s : S} {r : T} : ex Γ (.cons (.rsx "InvalidOperation" 1 [] (.cons (.cst (.str m)) .nil)) r) s = .ex ⟨"InvalidOperation", [], []⟩ s := by
  refine ex_fail ?_
  rw [ex.eq_def]
  simp [ev, evs, toDs]
section
variable {k : Nat} {gs : List Cell}
abbrev e10 (v s f b : D) : List (Option Val) := [some (.d v), some (.d s), some (.d f), some (.d b), none, none, none, none, none, none]
theorem cols1 {v s f b : D} (hk : 2 ≤ k) (hv : pl1 v = true) : evT (run Pg k) (.not_ (.call 1 (.cons (.var 0) (.nil)))) ⟨e10 v s f b, [], gs⟩ = .ok (!rowsB v) ⟨e10 v s f b, [], gs⟩ := by
  have h : run Pg k 1 [v] gs = .ok (.bl (rowsB v)) gs := rows_ok hk hv
  exact not_b (t_call (by simp [ev, evs, getVar, callR, toDs, h]))
theorem cols2 {s f b : D} {rs : List (List D)} (hk : 2 ≤ k) (hs : pl0 s = true) : evT (run Pg k) (.not_ (.call 2 (.cons (.var 1) (.cons (.var 0) (.nil))))) ⟨e10 (.tup (rs.map D.tup)) s f b, [], gs⟩ = .ok (!sidesB s rs) ⟨e10 (.tup (rs.map D.tup)) s f b, [], gs⟩ := by
  have h : run Pg k 2 [s, .tup (rs.map D.tup)] gs = .ok (.bl (sidesB s rs)) gs := sides_ok hk hs
  exact not_b (t_call (by simp [ev, evs, getVar, callR, toDs, h]))
theorem cols3 {v s f b : D} (hk : 1 ≤ k) (hf : pl0 f = true) : evT (run Pg k) (.not_ (.call 0 (.cons (.var 2) (.cons (.cst (.int 1)) (.cons (.cst (.int 1)) (.nil)))))) ⟨e10 v s f b, [], gs⟩ = .ok (!prtB f 1 1) ⟨e10 v s f b, [], gs⟩ := by
  have h : run Pg k 0 [f, .int 1, .int 1] gs = .ok (.bl (prtB f 1 1)) gs := prt_ok (lo := 1) (hi := 1) hk hf
  exact not_b (t_call (by simp [ev, evs, getVar, callR, toDs, h]))
theorem cols4 {v s f b : D} (hk : 1 ≤ k) (hb : pl0 b = true) : evT (run Pg k) (.not_ (.call 0 (.cons (.var 3) (.cons (.cst (.int 0)) (.cons (.gc (.int 10)) (.nil)))))) ⟨e10 v s f b, [], gs⟩ = .ok (!prtB b 0 10) ⟨e10 v s f b, [], gs⟩ := by
  have h : run Pg k 0 [b, .int 0, .int 10] gs = .ok (.bl (prtB b 0 10)) gs := prt_ok (lo := 0) (hi := 10) hk hb
  exact not_b (t_call (by simp [ev, evs, getVar, callR, toDs, h]))
theorem cols_no {v s f b : D} (hk : 3 ≤ k) (hv : pl1 v = true) (hs : pl0 s = true) (hf : pl0 f = true) (hb : pl0 b = true) (h : goodB v s f b = false) : run Pg k f_in_columns [v, s, f, b] gs = .ex ⟨"InvalidOperation", [], []⟩ gs := by
  obtain ⟨k, rfl⟩ : ∃ j, k = j + 1 := ⟨k - 1, by omega⟩
  rw [run_s]
  refine runF_ex (s1 := ⟨e10 v s f b, [], gs⟩) rfl ?_
  show ex (run Pg k) c_in_columns ⟨e10 v s f b, [], gs⟩ = _
  unfold c_in_columns
  have c1 := cols1 (k := k) (gs := gs) (s := s) (f := f) (b := b) (by omega) hv
  cases h1 : rowsB v with
  | false =>
    rw [h1] at c1
    exact ex_fail ((ite_t (or_t c1)).trans rsx_ok)
  | true =>
    rw [h1] at c1
    unfold rowsB at h1
    split at h1
    · rename_i xs
      split at h1
      · rename_i rs hT
        have hx := asT_map hT
        subst hx
        have c2 := cols2 (k := k) (gs := gs) (rs := rs) (f := f) (b := b) (by omega) hs
        have o1 := (or_f (b := .not_ (.call 2 (.cons (.var 1) (.cons (.var 0) (.nil))))) c1).trans c2
        simp only [goodB, hT, h1, Bool.true_and] at h
        cases h2 : sidesB s rs with
        | false =>
          rw [h2] at o1
          exact ex_fail ((ite_t o1).trans rsx_ok)
        | true =>
          rw [h2] at o1 h
          rw [ex_step ((ite_f o1).trans ex_nil)]
          have c3 := cols3 (k := k) (gs := gs) (v := .tup (rs.map D.tup)) (s := s) (f := f) (b := b) (by omega) hf
          cases h3 : prtB f 1 1 with
          | false =>
            rw [h3] at c3
            exact ex_fail ((ite_t (or_t c3)).trans rsx_ok)
          | true =>
            rw [h3] at c3 h
            have c4 := cols4 (k := k) (gs := gs) (v := .tup (rs.map D.tup)) (s := s) (f := f) (b := b) (by omega) hb
            have o2 := (or_f (b := .not_ (.call 0 (.cons (.var 3) (.cons (.cst (.int 0)) (.cons (.gc (.int 10)) (.nil)))))) c3).trans c4
            simp only [Bool.true_and] at h
            rw [h] at o2
            exact ex_fail ((ite_t o2).trans rsx_ok)
      · cases h1
    · cases h1
end
end Lw

namespace Lw
open Mp
open PySem (Str PyData)
def told (S : List Nat) (n : Nat) : List Nat := if S = [] then List.replicate n 60 else S
theorem allS_mk : ∀ l : List (List Nat), allS (l.map fun x => D.str (mkS x)) = some (l.map mkS)
  | [] => rfl
  | x :: l => by simp [allS, allS_mk l]
theorem len_sum (l : List (List Nat)) : ((l.map mkS).map (·.length)).sum = (l.map List.length).sum := by
  have e : (fun x : Str => x.length) ∘ mkS = List.length := funext mkS_len
  rw [List.map_map, e]
theorem join_mk {l : List (List Nat)} {g : List Nat} {s : S} (h : (l.map List.length).sum + l.length * g.length ≤ LINE) {v : Val} (hv : seqv v s = some (true, l.map fun x => D.str (mkS x))) : bmth .join (.d (.str (mkS g))) [v] s = .ok (.d (.str (mkS (joinC g l)))) s := by
  have h2 : ((l.map mkS).map (·.length)).sum + (l.map mkS).length * (mkS g).length ≤ LINE := by rw [len_sum, List.length_map, mkS_len]; exact h
  simp only [bmth, hv, allS_mk, h2, if_true, glued_eq]
theorem v_join {Γ : Callee} {a e : E} {z : Str} {v w : Val} {s s1 s2 : S} (ha : ev Γ a s = .ok (.d (.str z)) s) (he : ev Γ e s = .ok v s1) (hb : bmth .join (.d (.str z)) [v] s1 = .ok w s2) : ev Γ (.bm .join a (.cons e .nil)) s = .ok w s2 := by
  simp only [ev, evs, ha, he, R.bind, recv, if_true, hb]
theorem v_append {Γ : Callee} {e : E} {i j : Nat} {xs ys : List D} {d : D} {s s1 : S} (ha : s.env[i]? = some (some (.own j))) (hc : s.fs[j]? = some (.lst ys)) (he : ev Γ e s = .ok (.d d) s1) (hc1 : s1.fs[j]? = some (.lst xs)) (hl : xs.length < LINE) :
    ev Γ (.bm .append (.var i) (.cons e .nil)) s = .ok (.d .non) { s1 with fs := s1.fs.set j (.lst (xs ++ [d])) } := by
  simp only [ev, evs, getVar, ha, R.bind, recv, lsto, hc, Option.isSome_some, if_true, he, bmth, hc1, hl]
theorem v_fz {Γ : Callee} {f : E} {xs : List D} {s s1 : S} (h : evF Γ f s = .ok xs s1) : ev Γ (.fz f) s = .ok (.d (.lst xs)) s1 := by
  simp only [ev, h, R.bind]
theorem v_var {Γ : Callee} {i : Nat} {v : Val} {s : S} (h : s.env[i]? = some (some v)) : ev Γ (.var i) s = .ok v s := by
  simp only [ev, getVar, h]
theorem sub_row {r : List (List Nat)} {j : Nat} {s : S} (hj : j < r.length) : subVal (.d (.tup (rL r))) (.d (.int (j : Nat))) s = some (.d (.str (mkS (r.getD j [])))) := by
  simp only [subVal, seqv, atI_nat, rL_get hj, Option.map_some]
theorem sub_str {x : List Nat} {j : Nat} {s : S} (hx : x.length ≤ LINE) (hj : j < x.length) : subVal (.d (.str (mkS x))) (.d (.int (j : Nat))) s = some (.d (.str (mkS [x.getD j 0]))) := by
  have hL : (mkS x).length ≤ LINE := by rw [mkS_len]; exact hx
  simp only [subVal, hL, if_true, mkS_list, atI_nat, List.getElem?_eq_getElem hj, Option.map_some, List.getD_eq_getElem?_getD, Option.getD_some]
  rfl
section
variable {k n c : Nat} {gs : List Cell} {W : List (List (List Nat))} {g t : List Nat}
def widD (W : List (List (List Nat))) (n : Nat) : List D := (List.range n).map fun j : Nat => .int (wid W j : Nat)
def ofPart (c : Nat) (t : List Nat) (W : List (List (List Nat))) (r : List (List Nat)) : D → D
  | .int i => .str (mkS (padC c (t.getD i.toNat 0) (wid W i.toNat) (r.getD i.toNat [])))
  | d => d
theorem ofPart_map (r : List (List Nat)) : ((List.range n).map fun i : Nat => D.int i).map (ofPart c t W r) = (parts c t W n r).map fun x => .str (mkS x) := by
  unfold parts
  rw [List.map_map, List.map_map]
  exact List.map_congr_left fun j _ => rfl
def ofWid (W : List (List (List Nat))) : D → D
  | .int i => .int (wid W i.toNat : Nat)
  | d => d
theorem ofWid_map : ((List.range n).map fun i : Nat => D.int i).map (ofWid W) = widD W n := by
  unfold widD
  rw [List.map_map]
  exact List.map_congr_left fun j _ => rfl
def cBody : T := .cons (.exp (.bm .append (.var 6) (.cons (.bm .join (.var 3) (.cons (.fz (.lc [9] [9] (.rng (.cons (.bf .len (.cons (.var 4) (.nil))) (.nil))) (.nil) (.call 3 (.cons (.sub (.var 7) (.var 9)) (.cons (.sub (.var 5) (.var 9)) (.cons (.sub (.var 4) (.var 9)) (.cons (.var 2) (.nil)))))))) (.nil))) (.nil))))
    (.nil)
def eC (W : List (List (List Nat))) (n c : Nat) (g t : List Nat) (v s : D) (e6 e7 : Option Val) : List (Option Val) := [some (.d v), some (.d s), some (.d (.str (mkS [c]))), some (.d (.str (mkS g))), some (.d (.str (mkS t))), some (.d (.lst (widD W n))), e6, e7, none, none]
theorem len_told {Γ : Callee} {v s : D} {e6 e7 : Option Val} {F : List Cell} (ht : t.length = n) (hn : n ≤ 8) : ev Γ (.bf .len (.cons (.var 4) .nil)) ⟨eC W n c g t v s e6 e7, F, gs⟩ = .ok (.d (.int (n : Nat))) ⟨eC W n c g t v s e6 e7, F, gs⟩ := by
  have hL : n ≤ LINE := by simp only [LINE]; omega
  simp only [eC, ev, evs, getVar, List.getElem?_cons_zero, List.getElem?_cons_succ, R.bind, bfn, mkS_len, ht, hL, if_true]
theorem body_ok (hk : 1 ≤ k) (h : RowsOk n W) (ht : t.length = n) (hc : 32 ≤ c ∧ c ≤ 126) (hg : g.length ≤ 10) {r : List (List Nat)} (hr : r ∈ W) {v s : D} {acc : List D} (ha : acc.length < 100) :
    ex (run Pg k) cBody ⟨eC W n c g t v s (some (.own 0)) (some (.d (.tup (rL r)))), [.lst acc], gs⟩ = .ok .nx ⟨eC W n c g t v s (some (.own 0)) (some (.d (.tup (rL r)))), [.lst (acc ++ [.str (mkS (lineR c g t W n r))])], gs⟩ := by
  have n8 := h.n8
  have hN : n ≤ LINE := by simp only [LINE]; omega
  have htL : t.length ≤ LINE := by rw [ht]; exact hN
  have hi := ev_range (len_told (Γ := run Pg k) (W := W) (c := c) (g := g) (v := v) (s := s) (e6 := some (.own 0)) (e7 := some (.d (.tup (rL r)))) (F := [.lst acc]) (gs := gs) ht n8) hN
  have hrl := h.len r hr
  have key := lc_it (p := 9) (elt := .call 3 (.cons (.sub (.var 7) (.var 9)) (.cons (.sub (.var 5) (.var 9)) (.cons (.sub (.var 4) (.var 9)) (.cons (.var 2) (.nil)))))) (f := ofPart c t W r) hi (by rw [List.length_map, List.length_range]; exact hN) (fun x hx => by
    obtain ⟨j, hj, rfl⟩ := List.mem_map.mp hx
    have hj := List.mem_range.mp hj
    have q := filled_ok (k := k) (gs := gs) (x := r.getD j []) (w := wid W j) (s := t.getD j 0) (c := c) hk (wid_ge j hr) (by have := h.wid60 j; omega)
    have q2 : run Pg k 3 [.str (mkS (r.getD j [])), .int (wid W j : Nat), .str (mkS [t.getD j 0]), .str (mkS [c])] gs = .ok (.str (mkS (padC c (t.getD j 0) (wid W j) (r.getD j [])))) gs := q
    have w1 : (widD W n)[j]? = some (.int (wid W j : Nat)) := by
      unfold widD
      rw [List.getElem?_map, List.getElem?_range hj]
      rfl
    have s1 := fun s : S => sub_str (s := s) (x := t) htL (show j < t.length by omega)
    have s2 := fun s : S => sub_row (s := s) (r := r) (show j < r.length by omega)
    have s3 : ∀ s : S, subVal (.d (.lst (widD W n))) (.d (.int (j : Nat))) s = some (.d (.int (wid W j : Nat))) := fun s => by simp only [subVal, seqv, atI_nat, w1, Option.map_some]
    simp only [eC, List.set_cons_succ, List.set_cons_zero, ev, evs, getVar, List.getElem?_cons_zero, List.getElem?_cons_succ, R.bind, s1, s2, s3, optR, callR, toDs, Option.map_some, q2, ofPart, Int.toNat_natCast])
  rw [ofPart_map] at key
  have hm := fun x hx => (parts_mem (c := c) (t := t) h hr hc x hx).1
  have h2 := sum_le List.length 60 (parts c t W n r) hm
  have hb : ((parts c t W n r).map List.length).sum + (parts c t W n r).length * g.length ≤ LINE := by
    rw [parts_len] at h2 ⊢
    have h3 : n * g.length ≤ 8 * 10 := Nat.mul_le_mul n8 hg
    have h4 : n * 60 ≤ 8 * 60 := Nat.mul_le_mul_right _ n8
    simp only [LINE]
    omega
  have hj := fun s : S => join_mk (s := s) (v := .d (.lst ((parts c t W n r).map fun x => D.str (mkS x)))) hb (by rfl)
  have hA : acc.length < LINE := by simp only [LINE]; omega
  unfold cBody
  exact (ex_step (exp_v (v_append (i := 6) (j := 0) (xs := acc) (ys := acc) rfl rfl (v_join (z := mkS g) (v_var rfl) (v_fz key) (hj _)) rfl hA))).trans ex_nil
theorem lines_go (hk : 1 ≤ k) (h : RowsOk n W) (ht : t.length = n) (hc : 32 ≤ c ∧ c ≤ 126) (hg : g.length ≤ 10) {v s : D} : ∀ (rest : List (List (List Nat))) (acc : List D) (e7 : Option Val), (∀ r ∈ rest, r ∈ W) → acc.length + rest.length ≤ 50 →
    ∃ e7', forGo [7] (ex (run Pg k) cBody) (rest.map fun r => .tup (rL r)) ⟨eC W n c g t v s (some (.own 0)) e7, [.lst acc], gs⟩ = .ok .nx ⟨eC W n c g t v s (some (.own 0)) e7', [.lst (acc ++ rest.map fun r => .str (mkS (lineR c g t W n r)))], gs⟩
  | [], acc, e7, _, _ => ⟨e7, by simp [forGo]⟩
  | r :: rest, acc, e7, hm, hl => by
    have b := body_ok (k := k) (gs := gs) hk h ht hc hg (hm r List.mem_cons_self) (v := v) (s := s) (acc := acc) (by simp only [List.length_cons] at hl; omega)
    obtain ⟨e7', q⟩ := lines_go hk h ht hc hg (v := v) (s := s) rest (acc ++ [.str (mkS (lineR c g t W n r))]) (some (.d (.tup (rL r)))) (fun x hx => hm x (List.mem_cons_of_mem _ hx)) (by simp only [List.length_append, List.length_cons, List.length_nil] at hl ⊢; omega)
    refine ⟨e7', ?_⟩
    have e : bindTs [7] (.tup (rL r)) ⟨eC W n c g t v s (some (.own 0)) e7, [.lst acc], gs⟩ = some ⟨eC W n c g t v s (some (.own 0)) (some (.d (.tup (rL r)))), [.lst acc], gs⟩ := rfl
    rw [List.map_cons, forGo]
    simp only [e, b, R.bind, q]
    simp
theorem ff_sides : ("<>^" : Str).cps.toList = [60, 62, 94] := by decide +kernel
def SideOk (n : Nat) (W : List (List (List Nat))) (sd : List Nat) : Prop := (sd = [] ∨ sd.length = n ∨ (W = [] ∧ sd.length ≤ 8)) ∧ ∀ x ∈ sd, x = 60 ∨ x = 62 ∨ x = 94
theorem side_pr {sd : List Nat} (h : ∀ x ∈ sd, x = 60 ∨ x = 62 ∨ x = 94) : sd.all Pr = true ∧ sd.all inS = true := by
  refine ⟨pr_all fun c hc => ?_, ?_⟩
  · rcases h c hc with rfl | rfl | rfl <;> decide
  · rw [List.all_eq_true]
    intro c hc
    unfold inS
    rw [ff_sides]
    rcases h c hc with rfl | rfl | rfl <;> decide
theorem sidesB_ok {sd : List Nat} (h : RowsOk n W) (hS : SideOk n W sd) : sidesB (.str (mkS sd)) (rD W) = true := by
  obtain ⟨a, b⟩ := side_pr hS.2
  have n8 := h.n8
  have h8 : sd.length ≤ 8 := by
    rcases hS.1 with h | h | h
    · rw [h]; simp
    · omega
    · exact h.2
  simp only [sidesB, mkS_len, mkS_list, a, b, h8, decide_true, Bool.true_and, Bool.or_eq_true, decide_eq_true_eq]
  rcases hS.1 with h1 | h1 | h1
  · subst h1; exact .inl (.inl s_no.symm)
  · cases W with
    | nil => exact .inl (.inr rfl)
    | cons r0 rest =>
      refine .inr ?_
      show sd.length = (rL r0).length
      rw [rL_len, h1, h.len r0 List.mem_cons_self]
  · rw [h1.1]; exact .inl (.inr rfl)
theorem told_len {sd : List Nat} (hW : W ≠ []) (hS : SideOk n W sd) : (told sd n).length = n := by
  unfold told
  split
  · simp
  · rename_i h
    rcases hS.1 with h1 | h1 | h1
    · exact absurd h1 h
    · exact h1
    · exact absurd h1.1 hW
theorem text_mem (h : RowsOk n W) (hc : 32 ≤ c ∧ c ≤ 126) (hg : ∀ y ∈ g, 32 ≤ y ∧ y ≤ 126) : ∀ x ∈ W.map (lineR c g t W n), 10 ∉ x := by
  intro x hx hy
  obtain ⟨r, hr, rfl⟩ := List.mem_map.mp hx
  have := (line_mem h hr hc hg 10 hy).1
  omega
theorem cols_ok {sd : List Nat} (hk : 3 ≤ k) (h : RowsOk n W) (hS : SideOk n W sd) (hc : 32 ≤ c ∧ c ≤ 126) (hg : g.length ≤ 10) (hgp : ∀ y ∈ g, 32 ≤ y ∧ y ≤ 126) :
    run Pg k f_in_columns [.tup ((rD W).map D.tup), .str (mkS sd), .str (mkS [c]), .str (mkS g)] gs = .ok (.str (mkS (if W = [] then [] else textR c g (told sd n) W n))) gs := by
  obtain ⟨k, rfl⟩ : ∃ j, k = j + 1 := ⟨k - 1, by omega⟩
  rw [run_s]
  have n8 := h.n8
  have h8 : sd.length ≤ 8 := by
    rcases hS.1 with h | h | h
    · rw [h]; simp
    · omega
    · exact h.2
  have p1 := rowsR_ok h
  have p2 := sidesB_ok h hS
  have b1 : rowsB (.tup ((rD W).map D.tup)) = true := by simp only [rowsB, asT_tup, p1]
  have b3 : prtB (.str (mkS [c])) 1 1 = true := by rw [prt_mk, pr_all (by simpa using hc)]; rfl
  have b4 : prtB (.str (mkS g)) 0 10 = true := by rw [prt_mk, pr_all hgp]; simp [hg]
  have pS : pl0 (.str (mkS sd)) = true := by simp only [pl0, mkS_len, decide_eq_true_eq]; omega
  have pc : pl0 (.str (mkS [c])) = true := by simp only [pl0, mkS_len]; rfl
  have pg : pl0 (.str (mkS g)) = true := by simp only [pl0, mkS_len, decide_eq_true_eq]; omega
  have c1 := cols1 (k := k) (gs := gs) (s := .str (mkS sd)) (f := .str (mkS [c])) (b := .str (mkS g)) (by omega) (pl1_ok h)
  have c2 := cols2 (k := k) (gs := gs) (rs := rD W) (f := .str (mkS [c])) (b := .str (mkS g)) (by omega) pS
  have c3 := cols3 (k := k) (gs := gs) (v := .tup ((rD W).map D.tup)) (s := .str (mkS sd)) (f := .str (mkS [c])) (b := .str (mkS g)) (by omega) pc
  have c4 := cols4 (k := k) (gs := gs) (v := .tup ((rD W).map D.tup)) (s := .str (mkS sd)) (f := .str (mkS [c])) (b := .str (mkS g)) (by omega) pg
  rw [b1] at c1
  rw [p2] at c2
  rw [b3] at c3
  rw [b4] at c4
  have o1 := (or_f (b := .not_ (.call 2 (.cons (.var 1) (.cons (.var 0) (.nil))))) c1).trans c2
  have o2 := (or_f (b := .not_ (.call 0 (.cons (.var 3) (.cons (.cst (.int 0)) (.cons (.gc (.int 10)) (.nil)))))) c3).trans c4
  have hE := fun s => eq_nilT ((rD W).map D.tup) s
  have hx1 : ((rD W).map D.tup).isEmpty = W.isEmpty := by cases W <;> rfl
  rw [hx1] at hE
  by_cases hW : W = []
  · refine (runF_rt (d := .str "") (s1 := ⟨e10 (.tup ((rD W).map D.tup)) (.str (mkS sd)) (.str (mkS [c])) (.str (mkS g)), [], gs⟩) rfl ?_).trans (by rw [if_pos hW, s_no])
    show ex (run Pg k) c_in_columns ⟨e10 (.tup ((rD W).map D.tup)) (.str (mkS sd)) (.str (mkS [c])) (.str (mkS g)), [], gs⟩ = _
    unfold c_in_columns
    have t3 : evT (run Pg k) (.cmp .eq (.var 0) (.tup .nil)) ⟨e10 (.tup ((rD W).map D.tup)) (.str (mkS sd)) (.str (mkS [c])) (.str (mkS g)), [], gs⟩ = .ok true ⟨e10 (.tup ((rD W).map D.tup)) (.str (mkS sd)) (.str (mkS [c])) (.str (mkS g)), [], gs⟩ := by
      refine t_cmp ?_
      rw [hW] at hE ⊢
      simp only [ev, evs, getVar, List.getElem?_cons_zero, R.bind, toDs, List.length_nil, Nat.zero_le, if_true, cmpop, hE, List.isEmpty_nil, optR]
    rw [ex_step ((ite_f o1).trans ex_nil), ex_step ((ite_f o2).trans ex_nil)]
    exact ex_exit ((ite_t t3).trans ret_cst)
  · have ht := told_len hW hS
    have t3 : evT (run Pg k) (.cmp .eq (.var 0) (.tup .nil)) ⟨e10 (.tup ((rD W).map D.tup)) (.str (mkS sd)) (.str (mkS [c])) (.str (mkS g)), [], gs⟩ = .ok false ⟨e10 (.tup ((rD W).map D.tup)) (.str (mkS sd)) (.str (mkS [c])) (.str (mkS g)), [], gs⟩ := by
      refine t_cmp ?_
      have : W.isEmpty = false := by cases W with
        | nil => exact absurd rfl hW
        | cons _ _ => rfl
      rw [this] at hE
      simp only [ev, evs, getVar, List.getElem?_cons_zero, R.bind, toDs, List.length_nil, Nat.zero_le, if_true, cmpop, hE, optR]
    have a4 : ev (run Pg k) (.ife (.cmp .ne (.var 1) (.cst (.str ""))) (.var 1) (.rep (.cst (.str "<")) (.bf .len (.cons (.sub (.var 0) (.cst (.int 0))) (.nil))))) ⟨e10 (.tup ((rD W).map D.tup)) (.str (mkS sd)) (.str (mkS [c])) (.str (mkS g)), [], gs⟩ = .ok (.d (.str (mkS (told sd n)))) ⟨e10 (.tup ((rD W).map D.tup)) (.str (mkS sd)) (.str (mkS [c])) (.str (mkS g)), [], gs⟩ := by
      obtain ⟨r0, rest, hr⟩ : ∃ r0 rest, W = r0 :: rest := by
        cases W with
        | nil => exact absurd rfl hW
        | cons a b => exact ⟨a, b, rfl⟩
      have h0 : atI ((rD W).map D.tup) 0 = some (.tup (rL r0)) := by rw [hr]; rfl
      have hl0 : (rL r0).length = n := by rw [rL_len]; exact h.len r0 (by rw [hr]; exact List.mem_cons_self)
      have hrep : ∀ s : S, repV (.d (.str (mkS [60]))) (.d (.int (n : Nat))) s = some (.d (.str (mkS (List.replicate n 60)))) := fun s => by
        have h1 : (mkS [60]).length ≤ 1000 := by rw [mkS_len]; simp
        unfold repV
        simp only [if_pos (show (0 : Int) ≤ (n : Int) ∧ (n : Int) ≤ 1000 ∧ (mkS [60]).length ≤ 1000 from ⟨by omega, by omega, h1⟩), Int.toNat_natCast]
        rw [strRep_eq, rep_one]
      rw [s_no, s_lt]
      unfold told
      by_cases c5 : sd = []
      · simp only [ev, evs, evT, getVar, List.getElem?_cons_zero, List.getElem?_cons_succ, R.bind, cmpop, eq_mkS, c5, decide_true, Option.map_some, Bool.not_true, optR, truth, Bool.false_eq_true, if_false, if_true, subVal, seqv, h0, bfn, hl0, hrep]
      · simp only [ev, evs, evT, getVar, List.getElem?_cons_zero, List.getElem?_cons_succ, R.bind, cmpop, eq_mkS, c5, decide_false, Option.map_some, Bool.not_false, optR, truth, if_false, if_true]
    have hTL : (told sd n).length ≤ LINE := by rw [ht]; simp only [LINE]; omega
    have hN : n ≤ LINE := by simp only [LINE]; omega
    have l4 : ev (run Pg k) (.bf .len (.cons (.var 4) .nil)) ⟨[some (.d (.tup ((rD W).map D.tup))), some (.d (.str (mkS sd))), some (.d (.str (mkS [c]))), some (.d (.str (mkS g))), some (.d (.str (mkS (told sd n)))), none, none, none, none, none], [], gs⟩ = .ok (.d (.int (n : Nat))) ⟨[some (.d (.tup ((rD W).map D.tup))), some (.d (.str (mkS sd))), some (.d (.str (mkS [c]))), some (.d (.str (mkS g))), some (.d (.str (mkS (told sd n)))), none, none, none, none, none], [], gs⟩ := by
      simp only [ev, evs, getVar, List.getElem?_cons_zero, List.getElem?_cons_succ, R.bind, bfn, mkS_len, ht, hN, if_true]
    have a5 := v_fz (lc_it (p := 8) (elt := .bf .max (.cons (.fz (.lc [7] [7] (.it (.var 0)) (.nil) (.bf .len (.cons (.sub (.var 7) (.var 8)) (.nil))))) (.nil))) (f := ofWid W) (ev_range l4 hN) (by rw [List.length_map, List.length_range]; exact hN) (fun x hx => by
      obtain ⟨j, hj, rfl⟩ := List.mem_map.mp hx
      have hj := List.mem_range.mp hj
      exact v_max hW (inner_w h (a := 0) (p := 7) (q := 8) (by decide) (by decide) rfl rfl (show 7 < 10 by decide) hj)))
    rw [ofWid_map] at a5
    obtain ⟨e7', q7⟩ := lines_go (k := k) (gs := gs) (by omega) h ht hc hg (v := .tup ((rD W).map D.tup)) (s := .str (mkS sd)) W [] none (fun _ hr => hr) (by have := h.m; simp only [List.length_nil]; omega)
    have hmap : (W.map fun r => D.tup (rL r)) = (rD W).map D.tup := by unfold rD; rw [List.map_map]; rfl
    rw [hmap, List.nil_append] at q7
    have a7 : ex (run Pg k) (.for_ [7] (.it (.var 0)) cBody) ⟨eC W n c g (told sd n) (.tup ((rD W).map D.tup)) (.str (mkS sd)) (some (.own 0)) none, [.lst []], gs⟩ = .ok .nx ⟨eC W n c g (told sd n) (.tup ((rD W).map D.tup)) (.str (mkS sd)) (some (.own 0)) e7', [.lst (W.map fun r => .str (mkS (lineR c g (told sd n) W n r)))], gs⟩ := by
      have hi : evI (run Pg k) (.it (.var 0)) ⟨eC W n c g (told sd n) (.tup ((rD W).map D.tup)) (.str (mkS sd)) (some (.own 0)) none, [.lst []], gs⟩ = .ok ((rD W).map D.tup) ⟨eC W n c g (told sd n) (.tup ((rD W).map D.tup)) (.str (mkS sd)) (some (.own 0)) none, [.lst []], gs⟩ := by
        simp only [evI, ev, getVar, eC, List.getElem?_cons_zero, R.bind]
      rw [ex.eq_def]
      simp only [hi, R.bind]
      exact q7
    have hlines : ((W.map (lineR c g (told sd n) W n)).map List.length).sum + (W.map (lineR c g (told sd n) W n)).length * [10].length ≤ LINE := by
      have h2 := sum_le List.length 560 (W.map (lineR c g (told sd n) W n)) (fun x hx => by
        obtain ⟨r, hr, rfl⟩ := List.mem_map.mp hx
        exact line_len h hr hc hg)
      rw [List.length_map] at h2 ⊢
      have h3 : W.length * 560 ≤ 20 * 560 := Nat.mul_le_mul_right _ h.m
      have h4 := h.m
      simp only [List.length_cons, List.length_nil, LINE]
      omega
    have hm2 : (W.map fun r => D.str (mkS (lineR c g (told sd n) W n r))) = (W.map (lineR c g (told sd n) W n)).map fun x => D.str (mkS x) := by rw [List.map_map]; rfl
    refine (runF_rt (d := .str (mkS (textR c g (told sd n) W n))) (s1 := ⟨eC W n c g (told sd n) (.tup ((rD W).map D.tup)) (.str (mkS sd)) (some (.own 0)) e7', [.lst (W.map fun r => .str (mkS (lineR c g (told sd n) W n r)))], gs⟩) rfl ?_).trans (by rw [if_neg hW])
    show ex (run Pg k) c_in_columns ⟨e10 (.tup ((rD W).map D.tup)) (.str (mkS sd)) (.str (mkS [c])) (.str (mkS g)), [], gs⟩ = _
    unfold c_in_columns
    rw [ex_step ((ite_f o1).trans ex_nil), ex_step ((ite_f o2).trans ex_nil), ex_step ((ite_f t3).trans ex_nil), ex_step (asg_v a4)]
    refine (ex_step (asg_v a5)).trans ?_
    have a6 : ev (run Pg k) (.mk (.lst .nil)) ⟨eC W n c g (told sd n) (.tup ((rD W).map D.tup)) (.str (mkS sd)) none none, [], gs⟩ = .ok (.own 0) ⟨eC W n c g (told sd n) (.tup ((rD W).map D.tup)) (.str (mkS sd)) none none, [.lst []], gs⟩ := by
      simp [ev, evs, evF, toDs]
    refine (ex_step (asg_v (i := 6) a6)).trans ?_
    refine (ex_step a7).trans (ex_exit (ret_v ?_))
    refine v_join (z := "\n") (by simp only [ev]) (v_var (i := 6) (v := .own 0) rfl) ?_
    rw [s_nl]
    exact join_mk (l := W.map (lineR c g (told sd n) W n)) hlines (by rw [← hm2]; rfl)
end
end Lw

namespace Lw
open Mp
open PySem (Str PyData)
theorem rep_mk {b c : Nat} (hb : b ≤ 1000) (s : S) : repV (.d (.str (mkS [c]))) (.d (.int (b : Nat))) s = some (.d (.str (mkS (List.replicate b c)))) := by
  have h1 : (mkS [c]).length ≤ 1000 := by rw [mkS_len]; simp
  unfold repV
  simp only [if_pos (show (0 : Int) ≤ (b : Int) ∧ (b : Int) ≤ 1000 ∧ (mkS [c]).length ≤ 1000 from ⟨by omega, by omega, h1⟩), Int.toNat_natCast]
  rw [strRep_eq, rep_one]
theorem add_mk {a b : List Nat} (h : a.length + b.length ≤ LINE) (s : S) : binop .add (.d (.str (mkS a))) (.d (.str (mkS b))) s = .ok (.d (.str (mkS (a ++ b)))) s := by
  have h2 : (mkS a).length + (mkS b).length ≤ LINE := by rw [mkS_len, mkS_len]; exact h
  simp only [binop, h2, if_true, app_mkS]
theorem cut_mk {p q r : List Nat} {lo hi : Int} (h1 : lo = p.length) (h2 : hi = p.length + q.length) : L2.cutS (mkS (p ++ (q ++ r))) (some lo) (some hi) = mkS q := by
  have e1 : lo = ((p.length : Nat) : Int) := h1
  have e2 : hi = ((p.length + q.length : Nat) : Int) := by omega
  subst e1
  rw [e2]
  apply str_ext
  unfold L2.cutS
  rw [HT.sIx_nat, HT.sIx_nat, mkS_len, mkS_list, mkS_list]
  simp only [List.length_append]
  rw [Nat.min_eq_left (by omega), Nat.min_eq_left (by omega), Nat.add_sub_cancel_left]
  simp
theorem sl_mk {p q r : List Nat} {lo hi : Int} {s : S} (h1 : lo = p.length) (h2 : hi = p.length + q.length) (hl : (p ++ (q ++ r)).length ≤ LINE) : slVal (.d (.str (mkS (p ++ (q ++ r))))) (some lo) (some hi) s = some (.d (.str (mkS q))) := by
  have hL : (mkS (p ++ (q ++ r))).length ≤ LINE := by rw [mkS_len]; exact hl
  simp only [slVal, hL, if_true, cut_mk h1 h2]
theorem len_mk {x : List Nat} (h : x.length ≤ LINE) (s : S) : bfn .len [.d (.str (mkS x))] s = .ok (.d (.int (x.length : Nat))) s := by
  have hL : (mkS x).length ≤ LINE := by rw [mkS_len]; exact h
  simp only [bfn, mkS_len, h, if_true]
section
variable {k : Nat} {gs : List Cell}
theorem cell_ok {x : List Nat} {w s c : Nat} (hk : 1 ≤ k) (h : x.length ≤ w) (hw : w ≤ 500) : run Pg k f_law_cell_right [.str (mkS (padC c s w x)), .str (mkS x), .str (mkS [s]), .str (mkS [c])] gs = .ok (.bl true) gs := by
  obtain ⟨k, rfl⟩ : ∃ j, k = j + 1 := ⟨k - 1, by omega⟩
  rw [run_s]
  have hp := padC_len (c := c) (s := s) h
  have hP : (padC c s w x).length ≤ LINE := by rw [hp]; simp only [LINE]; omega
  have hx : x.length ≤ LINE := by simp only [LINE]; omega
  have fl := front_le s (w - x.length)
  obtain ⟨F, hF⟩ : ∃ F, F = front s (w - x.length) := ⟨_, rfl⟩
  rw [← hF] at fl
  have q : padC c s w x = (List.replicate F c ++ x) ++ List.replicate (w - x.length - F) c := by rw [hF]; rfl
  generalize padC c s w x = pd at hp hP q ⊢
  let E : Option Val → Option Val → List (Option Val) := fun a b => [some (.d (.str (mkS pd))), some (.d (.str (mkS x))), some (.d (.str (mkS [s]))), some (.d (.str (mkS [c]))), a, b]
  refine runF_rt (s1 := ⟨E (some (.d (.int (w - x.length : Nat)))) (some (.d (.int (F : Nat)))), [], gs⟩) rfl ?_
  show ex (run Pg k) c_law_cell_right ⟨E none none, [], gs⟩ = _
  have a1 : ev (run Pg k) (.bin .sub (.bf .len (.cons (.var 0) (.nil))) (.bf .len (.cons (.var 1) (.nil)))) ⟨E none none, [], gs⟩ = .ok (.d (.int (w - x.length : Nat))) ⟨E none none, [], gs⟩ := by
    have e : (pd.length : Int) - (x.length : Int) = ((w - x.length : Nat) : Int) := by omega
    simp only [E, ev, evs, getVar, List.getElem?_cons_zero, List.getElem?_cons_succ, R.bind, len_mk hP, len_mk hx, binop, e]
  have a2 : ev (run Pg k) (.ife (.cmp .eq (.var 2) (.cst (.str ">"))) (.var 4) (.cst (.int 0))) ⟨E (some (.d (.int (w - x.length : Nat)))) none, [], gs⟩ = .ok (.d (.int (if s = 62 then w - x.length else 0 : Nat))) ⟨E (some (.d (.int (w - x.length : Nat)))) none, [], gs⟩ := by
    rw [s_gt]
    by_cases c1 : s = 62
    · simp [E, ev, evT, getVar, cmpop, eq_mkS, c1, optR, truth]
    · simp [E, ev, evT, getVar, cmpop, eq_mkS, c1, optR, truth]
  have a3 : ex (run Pg k) (.ite (.cmp .eq (.var 2) (.cst (.str "^"))) (.cons (.asg 5 (.bin .fdiv (.var 4) (.cst (.int 2)))) (.nil)) (.nil)) ⟨E (some (.d (.int (w - x.length : Nat)))) (some (.d (.int (if s = 62 then w - x.length else 0 : Nat)))), [], gs⟩ = .ok .nx ⟨E (some (.d (.int (w - x.length : Nat)))) (some (.d (.int (F : Nat)))), [], gs⟩ := by
    rw [s_up, hF]
    have k2 : okI 2 = true := okI_of (by omega) (by omega)
    by_cases c1 : s = 62
    · have c2 : ¬ s = 94 := by omega
      simp [E, ex, ev, evT, getVar, cmpop, eq_mkS, c1, optR, truth, front]
    · by_cases c2 : s = 94
      · simp [E, ex, ev, evT, getVar, cmpop, eq_mkS, c2, optR, truth, front, binop, k2]
      · simp [E, ex, ev, evT, getVar, cmpop, eq_mkS, c1, c2, optR, truth, front]
  have a4 : ev (run Pg k) (.cmp .eq (.var 0) (.bin .add (.bin .add (.rep (.var 3) (.var 5)) (.var 1)) (.rep (.var 3) (.bin .sub (.var 4) (.var 5))))) ⟨E (some (.d (.int (w - x.length : Nat)))) (some (.d (.int (F : Nat)))), [], gs⟩ = .ok (.d (.bl true)) ⟨E (some (.d (.int (w - x.length : Nat)))) (some (.d (.int (F : Nat)))), [], gs⟩ := by
    have r1 := fun s => rep_mk (b := F) (c := c) (by omega) s
    have r2 := fun s => rep_mk (b := w - x.length - F) (c := c) (by omega) s
    have e : ((w - x.length : Nat) : Int) - (F : Int) = ((w - x.length - F : Nat) : Int) := by omega
    have l1 : (List.replicate F c).length + x.length ≤ LINE := by rw [List.length_replicate]; simp only [LINE]; omega
    have l2 : (List.replicate F c ++ x).length + (List.replicate (w - x.length - F) c).length ≤ LINE := by rw [List.length_append, List.length_replicate, List.length_replicate]; simp only [LINE]; omega
    have sb : ∀ s, binop .sub (.d (.int (w - x.length : Nat))) (.d (.int (F : Nat))) s = .ok (.d (.int (w - x.length - F : Nat))) s := fun s => by simp only [binop, e]
    simp only [E, ev, getVar, List.getElem?_cons_zero, List.getElem?_cons_succ, R.bind, r1, optR, add_mk l1, sb, r2, add_mk l2, cmpop, eq_mkS, ← q, decide_true]
  unfold c_law_cell_right
  exact (ex_step (asg_v a1)).trans ((ex_step (asg_v a2)).trans ((ex_step a3).trans (ex_exit (ret_v a4))))
end
/-! ### a line, column by column -/
def pl (c : Nat) (t : List Nat) (W : List (List (List Nat))) : Nat → List (List Nat) → List (List Nat)
  | _, [] => []
  | m, x :: xs => padC c (t.getD m 0) (wid W m) x :: pl c t W (m + 1) xs
theorem pl_eq (c : Nat) (t : List Nat) (W : List (List (List Nat))) : ∀ (xs : List (List Nat)) (m : Nat), pl c t W m xs = (List.range xs.length).map fun j => padC c (t.getD (m + j) 0) (wid W (m + j)) (xs.getD j [])
  | [], _ => rfl
  | x :: xs, m => by
    rw [pl, pl_eq c t W xs (m + 1), List.length_cons, List.range_succ_eq_map, List.map_cons, List.map_map]
    congr 1
    refine List.map_congr_left fun j _ => ?_
    simp only [Function.comp, List.getD_cons_succ]
    rw [show m + 1 + j = m + (j + 1) by omega]
theorem parts_pl {c n : Nat} {t : List Nat} {W : List (List (List Nat))} {r : List (List Nat)} (h : r.length = n) : parts c t W n r = pl c t W 0 r := by
  rw [pl_eq, h]
  unfold parts
  refine List.map_congr_left fun j _ => ?_
  rw [Nat.zero_add]
/-- what is left of a line ahead of its m-th column -/
def restL (c : Nat) (g t : List Nat) (W : List (List (List Nat))) (m : Nat) (xs : List (List Nat)) : List Nat := if m = 0 then joinC g (pl c t W 0 xs) else tailC g (pl c t W m xs)
theorem rest_cons {c : Nat} {g t : List Nat} {W : List (List (List Nat))} {m : Nat} {x : List Nat} {xs : List (List Nat)} : restL c g t W m (x :: xs) = (if m = 0 then [] else g) ++ (padC c (t.getD m 0) (wid W m) x ++ restL c g t W (m + 1) xs) := by
  unfold restL
  rw [if_neg (Nat.succ_ne_zero m)]
  by_cases h : m = 0
  · subst h
    rw [if_pos rfl, if_pos rfl, pl, joinC_cons, List.nil_append]
  · rw [if_neg h, if_neg h, pl]
    simp [tailC]
end Lw

namespace Lw
open Mp
open PySem (Str PyData)
theorem and_tt {Γ : Callee} {s : S} {a b : E} {r : R Bool} (h : evT Γ a s = .ok true s) (h2 : evT Γ b s = r) : evT Γ (.and_ a b) s = r := (and_t h).trans h2
theorem or_ff {Γ : Callee} {s : S} {a b : E} {r : R Bool} (h : evT Γ a s = .ok false s) (h2 : evT Γ b s = r) : evT Γ (.or_ a b) s = r := (or_f h).trans h2
section
variable {k n c : Nat} {gs : List Cell} {W : List (List (List Nat))} {g t : List Nat}
/-- the frame of _law_lines_right -/
def eL (rows : D) (c : Nat) (g t : List Nat) (tx : D) (ls : Option Val) (e5 e7 e8 e9 e10 e11 e12 : Option Val) : List (Option Val) := [some (.d tx), some (.d rows), some (.d (.str (mkS t))), some (.d (.str (mkS [c]))), some (.d (.str (mkS g))), e5, ls, e7, e8, e9, e10, e11, e12]
def cCol : T := (.cons (.ite (.and_ (.cmp .gt (.var 5) (.cst (.int 0))) (.cmp .ne (.sl (.var 8) (.var 10) (.bin .add (.var 10) (.bf .len (.cons (.var 4) (.nil))))) (.var 4))) (.cons (.ret (.cst (.bl false)))
    (.nil)) (.nil))
    (.cons (.asg 10 (.bin .add (.var 10) (.bin .mul (.bf .len (.cons (.var 4) (.nil))) (.bf .int (.cons (.cmp .gt (.var 5) (.cst (.int 0))) (.nil))))))
    (.cons (.asg 12 (.sl (.var 8) (.var 10) (.bin .add (.var 10) (.sub (.var 7) (.var 5)))))
    (.cons (.ite (.or_ (.cmp .ne (.bf .len (.cons (.var 12) (.nil))) (.sub (.var 7) (.var 5))) (.not_ (.call 10 (.cons (.var 12) (.cons (.var 11) (.cons (.sub (.var 2) (.var 5)) (.cons (.var 3) (.nil)))))))) (.cons (.ret (.cst (.bl false)))
    (.nil)) (.nil))
    (.cons (.asg 10 (.bin .add (.var 10) (.bf .len (.cons (.var 12) (.nil)))))
    (.nil))))))
theorem col_step {rows tx : D} {ls e12 : Option Val} {row : D} {m : Nat} {x pre rest : List Nat} (hk : 1 ≤ k) (ht : t.length = n) (hm : m < n) (hn : n ≤ 8) (hx : x.length ≤ wid W m) (hw : wid W m ≤ 60) (hg : g.length ≤ 10) (hl : (pre ++ ((if m = 0 then [] else g) ++ (padC c (t.getD m 0) (wid W m) x ++ rest))).length ≤ LINE) :
    ex (run Pg k) cCol ⟨eL rows c g t tx ls (some (.d (.int (m : Nat)))) (some (.own 0)) (some (.d (.str (mkS (pre ++ ((if m = 0 then [] else g) ++ (padC c (t.getD m 0) (wid W m) x ++ rest))))))) (some (.d row)) (some (.d (.int (pre.length : Nat)))) (some (.d (.str (mkS x)))) e12, [.lst (widD W n)], gs⟩ =
      .ok .nx ⟨eL rows c g t tx ls (some (.d (.int (m : Nat)))) (some (.own 0)) (some (.d (.str (mkS (pre ++ ((if m = 0 then [] else g) ++ (padC c (t.getD m 0) (wid W m) x ++ rest))))))) (some (.d row)) (some (.d (.int ((pre ++ ((if m = 0 then [] else g) ++ padC c (t.getD m 0) (wid W m) x)).length : Nat)))) (some (.d (.str (mkS x)))) (some (.d (.str (mkS (padC c (t.getD m 0) (wid W m) x))))), [.lst (widD W n)], gs⟩ := by
  have hp := padC_len (c := c) (s := t.getD m 0) hx
  have cell := cell_ok (k := k) (gs := gs) (x := x) (w := wid W m) (s := t.getD m 0) (c := c) hk hx (by omega)
  have cell2 : run Pg k 10 [.str (mkS (padC c (t.getD m 0) (wid W m) x)), .str (mkS x), .str (mkS [t.getD m 0]), .str (mkS [c])] gs = .ok (.bl true) gs := cell
  have w1 : (widD W n)[m]? = some (.int (wid W m : Nat)) := by
    unfold widD
    rw [List.getElem?_map, List.getElem?_range hm]
    rfl
  have hgL : g.length ≤ LINE := by simp only [LINE]; omega
  have s1 := fun s : S => sub_str (s := s) (x := t) (j := m) (by rw [ht]; simp only [LINE]; omega) (by omega)
  have s3 : ∀ (e : List (Option Val)) (G : List Cell), subVal (.own 0) (.d (.int (m : Nat))) ⟨e, [.lst (widD W n)], G⟩ = some (.d (.int (wid W m : Nat))) := fun e G => by simp only [subVal, seqv, List.getElem?_cons_zero, atI_nat, w1, Option.map_some]
  have sP : t.getD m 0 = t.getD m 0 := rfl
  generalize hpd : padC c (t.getD m 0) (wid W m) x = pd at hp cell2 hl ⊢
  have hpL : pd.length ≤ LINE := by rw [hp]; simp only [LINE]; omega
  generalize t.getD m 0 = sd at s1 cell2
  -- the gate's sign
  obtain ⟨gg, hgg, hgl⟩ : ∃ gg : List Nat, gg = (if m = 0 then [] else g) ∧ gg.length = (if m = 0 then 0 else g.length) := ⟨_, rfl, by split <;> rfl⟩
  rw [← hgg] at hl ⊢
  obtain ⟨line, hline⟩ : ∃ line, line = pre ++ (gg ++ (pd ++ rest)) := ⟨_, rfl⟩
  have hline2 : line = (pre ++ gg) ++ (pd ++ rest) := by rw [hline]; simp
  rw [← hline] at hl ⊢
  have k1 : okI (g.length : Nat) = true := okI_of (by omega) (by omega)
  have k2 : okI (if m = 0 then 0 else 1 : Int) = true := okI_of (by split <;> omega) (by split <;> omega)
  have e1 : (pre.length : Int) + (g.length : Int) * (if m = 0 then 0 else 1 : Int) = ((pre ++ gg).length : Nat) := by
    rw [List.length_append, hgl]
    split <;> omega
  have gt0 : ∀ s : S, cmpop .gt (.d (.int (m : Nat))) (.d (.int 0)) s = some (decide (m ≠ 0)) := fun s => by
    simp only [cmpop, ordI]
    exact congrArg some (decide_eq_decide.mpr (by omega))
  -- the first test
  have t1 : ∀ (e10 : Int), e10 = pre.length → evT (run Pg k) (.and_ (.cmp .gt (.var 5) (.cst (.int 0))) (.cmp .ne (.sl (.var 8) (.var 10) (.bin .add (.var 10) (.bf .len (.cons (.var 4) (.nil))))) (.var 4))) ⟨eL rows c g t tx ls (some (.d (.int (m : Nat)))) (some (.own 0)) (some (.d (.str (mkS line)))) (some (.d row)) (some (.d (.int e10))) (some (.d (.str (mkS x)))) e12, [.lst (widD W n)], gs⟩ = .ok false ⟨eL rows c g t tx ls (some (.d (.int (m : Nat)))) (some (.own 0)) (some (.d (.str (mkS line)))) (some (.d row)) (some (.d (.int e10))) (some (.d (.str (mkS x)))) e12, [.lst (widD W n)], gs⟩ := by
    intro e10 h10
    by_cases hm0 : m = 0
    · refine and_f (t_cmp ?_)
      simp only [eL, ev, getVar, List.getElem?_cons_zero, List.getElem?_cons_succ, R.bind, gt0, hm0, optR]
      rfl
    · have hg2 : gg = g := by rw [hgg, if_neg hm0]
      refine and_tt (t_cmp ?_) (t_cmp ?_)
      · simp only [eL, ev, getVar, List.getElem?_cons_zero, List.getElem?_cons_succ, R.bind, gt0, optR]
        rw [decide_eq_true hm0]
      · have sl := fun s : S => sl_mk (s := s) (p := pre) (q := g) (r := pd ++ rest) (lo := e10) (hi := e10 + (g.length : Nat)) h10 (by omega) (by rw [← hg2, ← hline]; exact hl)
        rw [← hg2, ← hline, hg2] at sl
        simp only [eL, ev, evO, evs, getVar, List.getElem?_cons_zero, List.getElem?_cons_succ, R.bind, len_mk hgL, binop, sl, optR, cmpop, eq_mkS, decide_true, Option.map_some, Bool.not_true]
  have a2 : ev (run Pg k) (.bin .add (.var 10) (.bin .mul (.bf .len (.cons (.var 4) (.nil))) (.bf .int (.cons (.cmp .gt (.var 5) (.cst (.int 0))) (.nil))))) ⟨eL rows c g t tx ls (some (.d (.int (m : Nat)))) (some (.own 0)) (some (.d (.str (mkS line)))) (some (.d row)) (some (.d (.int (pre.length : Nat)))) (some (.d (.str (mkS x)))) e12, [.lst (widD W n)], gs⟩ = .ok (.d (.int ((pre ++ gg).length : Nat))) ⟨eL rows c g t tx ls (some (.d (.int (m : Nat)))) (some (.own 0)) (some (.d (.str (mkS line)))) (some (.d row)) (some (.d (.int (pre.length : Nat)))) (some (.d (.str (mkS x)))) e12, [.lst (widD W n)], gs⟩ := by
    have bi : ∀ s : S, bfn .int [.d (.bl (decide (m ≠ 0)))] s = .ok (.d (.int (if m = 0 then 0 else 1 : Int))) s := fun s => by
      simp only [bfn]
      by_cases hm0 : m = 0 <;> simp [hm0]
    simp only [eL, ev, evs, getVar, List.getElem?_cons_zero, List.getElem?_cons_succ, R.bind, len_mk hgL, gt0, optR, bi, binop, k1, k2, Bool.and_self, if_true, e1]
  have a3 : ev (run Pg k) (.sl (.var 8) (.var 10) (.bin .add (.var 10) (.sub (.var 7) (.var 5)))) ⟨eL rows c g t tx ls (some (.d (.int (m : Nat)))) (some (.own 0)) (some (.d (.str (mkS line)))) (some (.d row)) (some (.d (.int ((pre ++ gg).length : Nat)))) (some (.d (.str (mkS x)))) e12, [.lst (widD W n)], gs⟩ = .ok (.d (.str (mkS pd))) ⟨eL rows c g t tx ls (some (.d (.int (m : Nat)))) (some (.own 0)) (some (.d (.str (mkS line)))) (some (.d row)) (some (.d (.int ((pre ++ gg).length : Nat)))) (some (.d (.str (mkS x)))) e12, [.lst (widD W n)], gs⟩ := by
    have sl := fun s : S => sl_mk (s := s) (p := pre ++ gg) (q := pd) (r := rest) (lo := ((pre ++ gg).length : Nat)) (hi := ((pre ++ gg).length : Nat) + (wid W m : Nat)) rfl (by rw [hp]) (by rw [← hline2]; exact hl)
    rw [← hline2] at sl
    simp only [eL, ev, evO, getVar, List.getElem?_cons_zero, List.getElem?_cons_succ, R.bind, s3, optR, binop, sl]
  have t4 : evT (run Pg k) (.or_ (.cmp .ne (.bf .len (.cons (.var 12) (.nil))) (.sub (.var 7) (.var 5))) (.not_ (.call 10 (.cons (.var 12) (.cons (.var 11) (.cons (.sub (.var 2) (.var 5)) (.cons (.var 3) (.nil)))))))) ⟨eL rows c g t tx ls (some (.d (.int (m : Nat)))) (some (.own 0)) (some (.d (.str (mkS line)))) (some (.d row)) (some (.d (.int ((pre ++ gg).length : Nat)))) (some (.d (.str (mkS x)))) (some (.d (.str (mkS pd)))), [.lst (widD W n)], gs⟩ = .ok false ⟨eL rows c g t tx ls (some (.d (.int (m : Nat)))) (some (.own 0)) (some (.d (.str (mkS line)))) (some (.d row)) (some (.d (.int ((pre ++ gg).length : Nat)))) (some (.d (.str (mkS x)))) (some (.d (.str (mkS pd)))), [.lst (widD W n)], gs⟩ := by
    refine or_ff (t_cmp ?_) (not_b (b := true) (t_call ?_))
    · simp only [eL, ev, evs, getVar, List.getElem?_cons_zero, List.getElem?_cons_succ, R.bind, len_mk hpL, s3, optR, cmpop, eq_int, hp, decide_true, Option.map_some, Bool.not_true]
    · simp only [eL, ev, evs, getVar, List.getElem?_cons_zero, List.getElem?_cons_succ, R.bind, s1, optR, callR, toDs, Option.map_some, cell2]
  have a5 : ev (run Pg k) (.bin .add (.var 10) (.bf .len (.cons (.var 12) (.nil)))) ⟨eL rows c g t tx ls (some (.d (.int (m : Nat)))) (some (.own 0)) (some (.d (.str (mkS line)))) (some (.d row)) (some (.d (.int ((pre ++ gg).length : Nat)))) (some (.d (.str (mkS x)))) (some (.d (.str (mkS pd)))), [.lst (widD W n)], gs⟩ = .ok (.d (.int ((pre ++ (gg ++ pd)).length : Nat))) ⟨eL rows c g t tx ls (some (.d (.int (m : Nat)))) (some (.own 0)) (some (.d (.str (mkS line)))) (some (.d row)) (some (.d (.int ((pre ++ gg).length : Nat)))) (some (.d (.str (mkS x)))) (some (.d (.str (mkS pd)))), [.lst (widD W n)], gs⟩ := by
    have e : ((pre ++ gg).length : Int) + (pd.length : Int) = ((pre ++ (gg ++ pd)).length : Nat) := by simp only [List.length_append]; omega
    simp only [eL, ev, evs, getVar, List.getElem?_cons_zero, List.getElem?_cons_succ, R.bind, len_mk hpL, binop, e]
  unfold cCol
  refine (ex_step ((ite_f (t1 _ rfl)).trans ex_nil)).trans ?_
  refine (ex_step (asg_v a2)).trans ?_
  refine (ex_step (asg_v a3)).trans ?_
  refine (ex_step ((ite_f t4).trans ex_nil)).trans ?_
  exact (ex_step (asg_v a5)).trans ex_nil
end
end Lw

namespace Lw
open Mp
open PySem (Str PyData)
theorem v_cst {Γ : Callee} {d : D} {s : S} : ev Γ (.cst d) s = .ok (.d d) s := by simp only [ev]
section
variable {k n c : Nat} {gs : List Cell} {W : List (List (List Nat))} {g t : List Nat}
theorem cols_go {rows tx row : D} {ls : Option Val} (hk : 1 ≤ k) (ht : t.length = n) (hn : n ≤ 8) (hw : ∀ m, wid W m ≤ 60) (hg : g.length ≤ 10) : ∀ (xs : List (List Nat)) (m : Nat) (pre : List Nat) (e5 e11 e12 : Option Val), m + xs.length = n → (∀ i x, xs[i]? = some x → x.length ≤ wid W (m + i)) → (pre ++ restL c g t W m xs).length ≤ LINE →
    ∃ e5' e11' e12', forGo [5, 11] (ex (run Pg k) cCol) (enmD m (rL xs)) ⟨eL rows c g t tx ls e5 (some (.own 0)) (some (.d (.str (mkS (pre ++ restL c g t W m xs))))) (some (.d row)) (some (.d (.int (pre.length : Nat)))) e11 e12, [.lst (widD W n)], gs⟩ =
      .ok .nx ⟨eL rows c g t tx ls e5' (some (.own 0)) (some (.d (.str (mkS (pre ++ restL c g t W m xs))))) (some (.d row)) (some (.d (.int ((pre ++ restL c g t W m xs).length : Nat)))) e11' e12', [.lst (widD W n)], gs⟩
  | [], m, pre, e5, e11, e12, _, _, _ => by
    have e : restL c g t W m [] = [] := by
      unfold restL
      split <;> rfl
    rw [e, List.append_nil]
    exact ⟨e5, e11, e12, rfl⟩
  | x :: xs, m, pre, e5, e11, e12, hm, hx, hl => by
    rw [rest_cons] at hl ⊢
    simp only [List.length_cons] at hm
    have st := col_step (k := k) (gs := gs) (rows := rows) (tx := tx) (ls := ls) (e12 := e12) (row := row) (m := m) (x := x) (pre := pre) (rest := restL c g t W (m + 1) xs) hk ht (by omega) hn (by have := hx 0 x rfl; simpa using this) (hw m) hg hl
    have ea : pre ++ ((if m = 0 then [] else g) ++ (padC c (t.getD m 0) (wid W m) x ++ restL c g t W (m + 1) xs)) = (pre ++ ((if m = 0 then [] else g) ++ padC c (t.getD m 0) (wid W m) x)) ++ restL c g t W (m + 1) xs := by simp
    obtain ⟨e5', e11', e12', q⟩ := cols_go hk ht hn hw hg (rows := rows) (tx := tx) (row := row) (ls := ls) xs (m + 1) (pre ++ ((if m = 0 then [] else g) ++ padC c (t.getD m 0) (wid W m) x)) (some (.d (.int (m : Nat)))) (some (.d (.str (mkS x)))) (some (.d (.str (mkS (padC c (t.getD m 0) (wid W m) x))))) (by omega) (fun i y hy => by
      have := hx (i + 1) y (by simpa using hy)
      rwa [show m + (i + 1) = m + 1 + i by omega] at this) (by rw [← ea]; exact hl)
    rw [← ea] at q
    refine ⟨e5', e11', e12', ?_⟩
    have b : ∀ (ln : D) (p : Option Val), bindTs [5, 11] (.tup [.int (m : Nat), .str (mkS x)]) ⟨eL rows c g t tx ls e5 (some (.own 0)) (some (.d ln)) (some (.d row)) p e11 e12, [.lst (widD W n)], gs⟩ = some ⟨eL rows c g t tx ls (some (.d (.int (m : Nat)))) (some (.own 0)) (some (.d ln)) (some (.d row)) p (some (.d (.str (mkS x)))) e12, [.lst (widD W n)], gs⟩ := fun _ _ => rfl
    show forGo [5, 11] (ex (run Pg k) cCol) (.tup [.int (m : Nat), .str (mkS x)] :: enmD (m + 1) (rL xs)) _ = _
    rw [forGo]
    simp only [b, st, R.bind, q]
def cRow : T := (.cons (.asg 10 (.cst (.int 0)))
    (.cons (.for_ [5, 11] (.enm (.cons (.var 9) (.nil))) cCol)
    (.cons (.ite (.cmp .ne (.var 10) (.bf .len (.cons (.var 8) (.nil)))) (.cons (.ret (.cst (.bl false)))
    (.nil)) (.nil))
    (.nil))))
theorem row_ok {rows tx : D} {ls : Option Val} (hk : 1 ≤ k) (h : RowsOk n W) (ht : t.length = n) (hc : 32 ≤ c ∧ c ≤ 126) (hg : g.length ≤ 10) {r : List (List Nat)} (hr : r ∈ W) (e5 e10 e11 e12 : Option Val) :
    ∃ e5' e10' e11' e12', ex (run Pg k) cRow ⟨eL rows c g t tx ls e5 (some (.own 0)) (some (.d (.str (mkS (lineR c g t W n r))))) (some (.d (.tup (rL r)))) e10 e11 e12, [.lst (widD W n)], gs⟩ =
      .ok .nx ⟨eL rows c g t tx ls e5' (some (.own 0)) (some (.d (.str (mkS (lineR c g t W n r))))) (some (.d (.tup (rL r)))) e10' e11' e12', [.lst (widD W n)], gs⟩ := by
  have hlen := h.len r hr
  have hll := line_len (t := t) (g := g) h hr hc hg
  have e0 : lineR c g t W n r = [] ++ restL c g t W 0 r := by
    unfold lineR restL
    rw [parts_pl hlen]
    rfl
  have hL : (lineR c g t W n r).length ≤ LINE := by simp only [LINE]; omega
  obtain ⟨e5', e11', e12', q⟩ := cols_go (k := k) (gs := gs) (c := c) (rows := rows) (tx := tx) (row := .tup (rL r)) (ls := ls) hk ht h.n8 h.wid60 hg r 0 [] e5 e11 e12 (by omega) (fun i x hx => by
    have h1 := wid_ge (j := i) hr
    rw [List.getD_eq_getElem?_getD, hx] at h1
    rw [Nat.zero_add]
    exact h1) (by rw [← e0]; exact hL)
  rw [← e0] at q
  generalize lineR c g t W n r = line at q hL ⊢
  refine ⟨e5', some (.d (.int (line.length : Nat))), e11', e12', ?_⟩
  have a1 : ex (run Pg k) (.asg 10 (.cst (.int 0))) ⟨eL rows c g t tx ls e5 (some (.own 0)) (some (.d (.str (mkS line)))) (some (.d (.tup (rL r)))) e10 e11 e12, [.lst (widD W n)], gs⟩ = .ok .nx ⟨eL rows c g t tx ls e5 (some (.own 0)) (some (.d (.str (mkS line)))) (some (.d (.tup (rL r)))) (some (.d (.int 0))) e11 e12, [.lst (widD W n)], gs⟩ :=
    asg_v v_cst
  have a2 : ex (run Pg k) (.for_ [5, 11] (.enm (.cons (.var 9) (.nil))) cCol) ⟨eL rows c g t tx ls e5 (some (.own 0)) (some (.d (.str (mkS line)))) (some (.d (.tup (rL r)))) (some (.d (.int 0))) e11 e12, [.lst (widD W n)], gs⟩ = .ok .nx ⟨eL rows c g t tx ls e5' (some (.own 0)) (some (.d (.str (mkS line)))) (some (.d (.tup (rL r)))) (some (.d (.int (line.length : Nat)))) e11' e12', [.lst (widD W n)], gs⟩ := by
    have hi : evI (run Pg k) (.enm (.cons (.var 9) (.nil))) ⟨eL rows c g t tx ls e5 (some (.own 0)) (some (.d (.str (mkS line)))) (some (.d (.tup (rL r)))) (some (.d (.int 0))) e11 e12, [.lst (widD W n)], gs⟩ = .ok (enmD 0 (rL r)) ⟨eL rows c g t tx ls e5 (some (.own 0)) (some (.d (.str (mkS line)))) (some (.d (.tup (rL r)))) (some (.d (.int 0))) e11 e12, [.lst (widD W n)], gs⟩ := by
      simp only [evI, evs, ev, getVar, eL, List.getElem?_cons_zero, List.getElem?_cons_succ, R.bind, enmV]
    rw [ex.eq_def]
    simp only [hi, R.bind]
    exact q
  have t3 : evT (run Pg k) (.cmp .ne (.var 10) (.bf .len (.cons (.var 8) (.nil)))) ⟨eL rows c g t tx ls e5' (some (.own 0)) (some (.d (.str (mkS line)))) (some (.d (.tup (rL r)))) (some (.d (.int (line.length : Nat)))) e11' e12', [.lst (widD W n)], gs⟩ = .ok false ⟨eL rows c g t tx ls e5' (some (.own 0)) (some (.d (.str (mkS line)))) (some (.d (.tup (rL r)))) (some (.d (.int (line.length : Nat)))) e11' e12', [.lst (widD W n)], gs⟩ := by
    refine t_cmp ?_
    simp only [eL, ev, evs, getVar, List.getElem?_cons_zero, List.getElem?_cons_succ, R.bind, len_mk hL, cmpop, eq_int, decide_true, Option.map_some, Bool.not_true, optR]
  unfold cRow
  exact (ex_step a1).trans ((ex_step a2).trans ((ex_step ((ite_f t3).trans ex_nil)).trans ex_nil))
theorem rows_go {rows tx : D} {ls : Option Val} (hk : 1 ≤ k) (h : RowsOk n W) (ht : t.length = n) (hc : 32 ≤ c ∧ c ≤ 126) (hg : g.length ≤ 10) : ∀ (rest : List (List (List Nat))) (e5 e8 e9 e10 e11 e12 : Option Val), (∀ r ∈ rest, r ∈ W) →
    ∃ e5' e8' e9' e10' e11' e12', forGo [8, 9] (ex (run Pg k) cRow) (rest.map fun r => .tup [.str (mkS (lineR c g t W n r)), .tup (rL r)]) ⟨eL rows c g t tx ls e5 (some (.own 0)) e8 e9 e10 e11 e12, [.lst (widD W n)], gs⟩ = .ok .nx ⟨eL rows c g t tx ls e5' (some (.own 0)) e8' e9' e10' e11' e12', [.lst (widD W n)], gs⟩
  | [], e5, e8, e9, e10, e11, e12, _ => ⟨e5, e8, e9, e10, e11, e12, rfl⟩
  | r :: rest, e5, e8, e9, e10, e11, e12, hm => by
    obtain ⟨f5, f10, f11, f12, q1⟩ := row_ok (k := k) (gs := gs) (rows := rows) (tx := tx) (ls := ls) (t := t) (g := g) hk h ht hc hg (hm r List.mem_cons_self) e5 e10 e11 e12
    obtain ⟨e5', e8', e9', e10', e11', e12', q2⟩ := rows_go (rows := rows) (tx := tx) (ls := ls) hk h ht hc hg rest f5 (some (.d (.str (mkS (lineR c g t W n r))))) (some (.d (.tup (rL r)))) f10 f11 f12 (fun x hx => hm x (List.mem_cons_of_mem _ hx))
    refine ⟨e5', e8', e9', e10', e11', e12', ?_⟩
    have b : ∀ ln : D, bindTs [8, 9] (.tup [ln, .tup (rL r)]) ⟨eL rows c g t tx ls e5 (some (.own 0)) e8 e9 e10 e11 e12, [.lst (widD W n)], gs⟩ = some ⟨eL rows c g t tx ls e5 (some (.own 0)) (some (.d ln)) (some (.d (.tup (rL r)))) e10 e11 e12, [.lst (widD W n)], gs⟩ := fun _ => rfl
    rw [List.map_cons, forGo]
    simp only [b, q1, R.bind, q2]
def cWid : T := (.cons (.exp (.bm .append (.var 7) (.cons (.bf .max (.cons (.fz (.lc [9] [9] (.it (.var 1)) (.nil) (.bf .len (.cons (.sub (.var 9) (.var 5)) (.nil))))) (.nil))) (.nil))))
    (.nil))
theorem wids_go {tx : D} {ls : Option Val} (h : RowsOk n W) (hW : W ≠ []) : ∀ (js : List Nat) (acc : List D) (e5 : Option Val), (∀ j ∈ js, j < n) → acc.length + js.length ≤ 50 →
    ∃ e5', forGo [5] (ex (run Pg k) cWid) (js.map fun j : Nat => D.int j) ⟨eL (.tup ((rD W).map D.tup)) c g t tx ls e5 (some (.own 0)) none none none none none, [.lst acc], gs⟩ = .ok .nx ⟨eL (.tup ((rD W).map D.tup)) c g t tx ls e5' (some (.own 0)) none none none none none, [.lst (acc ++ js.map fun j : Nat => .int (wid W j : Nat))], gs⟩
  | [], acc, e5, _, _ => ⟨e5, by simp [forGo]⟩
  | j :: js, acc, e5, hj, hl => by
    simp only [List.length_cons] at hl
    have m := v_max hW (inner_w (Γ := run Pg k) h (a := 1) (p := 9) (q := 5) (j := j) (s := ⟨eL (.tup ((rD W).map D.tup)) c g t tx ls (some (.d (.int (j : Nat)))) (some (.own 0)) none none none none none, [.lst acc], gs⟩) (by decide) (by decide) rfl rfl (show 9 < 13 by decide) (hj j List.mem_cons_self))
    have a := v_append (i := 7) (j := 0) (xs := acc) (ys := acc) rfl rfl m rfl (by simp only [LINE]; omega)
    have st : ex (run Pg k) cWid ⟨eL (.tup ((rD W).map D.tup)) c g t tx ls (some (.d (.int (j : Nat)))) (some (.own 0)) none none none none none, [.lst acc], gs⟩ = .ok .nx ⟨eL (.tup ((rD W).map D.tup)) c g t tx ls (some (.d (.int (j : Nat)))) (some (.own 0)) none none none none none, [.lst (acc ++ [.int (wid W j : Nat)])], gs⟩ := (ex_step (exp_v a)).trans ex_nil
    obtain ⟨e5', q⟩ := wids_go (tx := tx) (ls := ls) h hW js (acc ++ [.int (wid W j : Nat)]) (some (.d (.int (j : Nat)))) (fun x hx => hj x (List.mem_cons_of_mem _ hx)) (by simp only [List.length_append, List.length_cons, List.length_nil]; omega)
    refine ⟨e5', ?_⟩
    have b : bindTs [5] (.int (j : Nat)) ⟨eL (.tup ((rD W).map D.tup)) c g t tx ls e5 (some (.own 0)) none none none none none, [.lst acc], gs⟩ = some ⟨eL (.tup ((rD W).map D.tup)) c g t tx ls (some (.d (.int (j : Nat)))) (some (.own 0)) none none none none none, [.lst acc], gs⟩ := rfl
    rw [List.map_cons, forGo]
    simp only [b, st, R.bind, q]
    simp
end
end Lw

namespace Lw
open Mp
open PySem (Str PyData)
theorem zip_lines {A : List (List (List Nat))} {f : List (List Nat) → List Nat} : zipD (A.map fun r => D.str (mkS (f r))) ((rD A).map D.tup) = A.map fun r => .tup [.str (mkS (f r)), .tup (rL r)] := by
  unfold zipD rD
  rw [List.map_map]
  induction A with
  | nil => rfl
  | cons r A ih => simpa using ih
section
variable {k n c : Nat} {gs : List Cell} {W : List (List (List Nat))} {g t : List Nat}
/-- the text is what the rows say -/
theorem lines_ok (hk : 2 ≤ k) (h : RowsOk n W) (ht : W ≠ [] → t.length = n) (hc : 32 ≤ c ∧ c ≤ 126) (hg : g.length ≤ 10) (hgp : ∀ y ∈ g, 32 ≤ y ∧ y ≤ 126) :
    run Pg k f_law_lines_right [.str (mkS (if W = [] then [] else textR c g t W n)), .tup ((rD W).map D.tup), .str (mkS t), .str (mkS [c]), .str (mkS g)] gs = .ok (.bl true) gs := by
  obtain ⟨k, rfl⟩ : ∃ j, k = j + 1 := ⟨k - 1, by omega⟩
  rw [run_s]
  have hE := fun s => eq_nilT ((rD W).map D.tup) s
  have hx1 : ((rD W).map D.tup).isEmpty = W.isEmpty := by cases W <;> rfl
  rw [hx1] at hE
  by_cases hW : W = []
  · rw [if_pos hW]
    refine runF_rt (s1 := ⟨eL (.tup ((rD W).map D.tup)) c g t (.str (mkS [])) none none none none none none none none, [], gs⟩) rfl ?_
    show ex (run Pg k) c_law_lines_right ⟨eL (.tup ((rD W).map D.tup)) c g t (.str (mkS [])) none none none none none none none none, [], gs⟩ = _
    unfold c_law_lines_right
    have t3 : evT (run Pg k) (.cmp .eq (.var 1) (.tup .nil)) ⟨eL (.tup ((rD W).map D.tup)) c g t (.str (mkS [])) none none none none none none none none, [], gs⟩ = .ok true ⟨eL (.tup ((rD W).map D.tup)) c g t (.str (mkS [])) none none none none none none none none, [], gs⟩ := by
      refine t_cmp ?_
      rw [hW] at hE ⊢
      simp only [eL, ev, evs, getVar, List.getElem?_cons_zero, List.getElem?_cons_succ, R.bind, toDs, List.length_nil, Nat.zero_le, if_true, cmpop, hE, List.isEmpty_nil, optR]
    refine ex_exit ((ite_t t3).trans (ex_exit (ret_v ?_)))
    rw [s_no]
    simp only [eL, ev, getVar, List.getElem?_cons_zero, R.bind, cmpop, eq_mkS, decide_true, optR]
  · rw [if_neg hW]
    have ht := ht hW
    have n8 := h.n8
    have htx := text_len (t := t) (g := g) h hc hg
    have hne : W.map (lineR c g t W n) ≠ [] := by
      intro z
      exact hW (List.map_eq_nil_iff.mp z)
    have hsp := split_join (c := 10) hne (text_mem h hc hgp)
    have ef : W.isEmpty = false := by cases W with
      | nil => exact absurd rfl hW
      | cons _ _ => rfl
    rw [ef] at hE
    obtain ⟨tx, htx2⟩ : ∃ tx, tx = textR c g t W n := ⟨_, rfl⟩
    have hsp2 : PySem.Txt.split (mkS tx) (mkS [10]) = (W.map (lineR c g t W n)).map mkS := by rw [htx2]; exact hsp
    rw [← htx2] at htx ⊢
    have t3 : evT (run Pg k) (.cmp .eq (.var 1) (.tup .nil)) ⟨eL (.tup ((rD W).map D.tup)) c g t (.str (mkS tx)) none none none none none none none none, [], gs⟩ = .ok false ⟨eL (.tup ((rD W).map D.tup)) c g t (.str (mkS tx)) none none none none none none none none, [], gs⟩ := by
      refine t_cmp ?_
      simp only [eL, ev, evs, getVar, List.getElem?_cons_zero, List.getElem?_cons_succ, R.bind, toDs, List.length_nil, Nat.zero_le, if_true, cmpop, hE, optR]
    have hm2 : ((W.map (lineR c g t W n)).map mkS).map D.str = W.map fun r => D.str (mkS (lineR c g t W n r)) := by rw [List.map_map, List.map_map]; rfl
    have a1 : ex (run Pg k) (.par 6 7 (.fz (.spl (.var 0) (.cst (.str "\n")))) (.mk (.lst (.nil)))) ⟨eL (.tup ((rD W).map D.tup)) c g t (.str (mkS tx)) none none none none none none none none, [], gs⟩ = .ok .nx ⟨eL (.tup ((rD W).map D.tup)) c g t (.str (mkS tx)) (some (.d (.lst (W.map fun r => D.str (mkS (lineR c g t W n r)))))) none (some (.own 0)) none none none none none, [.lst []], gs⟩ := by
      have hlen : (mkS [10]).length = 1 := mkS_len _
      have hl2 : (mkS tx).length + 2 ≤ LINE := by rw [mkS_len]; simp only [LINE]; omega
      have sv : splV (.d (.str (mkS tx))) (.d (.str (mkS [10]))) = some (W.map fun r => D.str (mkS (lineR c g t W n r))) := by
        simp only [splV, hlen, hl2]
        rw [if_pos ⟨by decide, trivial⟩, hsp2, hm2]
      rw [s_nl, ex.eq_def]
      simp only [eL, ev, evF, evs, getVar, List.getElem?_cons_zero, R.bind, sv, optR, toDs, List.length_nil, Nat.zero_le, if_true, List.nil_append, List.set_cons_succ, List.set_cons_zero]
    obtain ⟨r0, rest, hr⟩ : ∃ r0 rest, W = r0 :: rest := by
      cases W with
      | nil => exact absurd rfl hW
      | cons a b => exact ⟨a, b, rfl⟩
    have h0 : atI ((rD W).map D.tup) 0 = some (.tup (rL r0)) := by rw [hr]; rfl
    have hl0 : (rL r0).length = n := by rw [rL_len]; exact h.len r0 (by rw [hr]; exact List.mem_cons_self)
    obtain ⟨f5, q2⟩ := wids_go (k := k) (gs := gs) (c := c) (g := g) (t := t) (tx := .str (mkS tx)) (ls := some (.d (.lst (W.map fun r => D.str (mkS (lineR c g t W n r)))))) h hW (List.range n) [] none (fun j hj => List.mem_range.mp hj) (by simp; omega)
    rw [List.nil_append] at q2
    have a2 : ex (run Pg k) (.for_ [5] (.rng (.cons (.bf .len (.cons (.sub (.var 1) (.cst (.int 0))) (.nil))) (.nil))) cWid) ⟨eL (.tup ((rD W).map D.tup)) c g t (.str (mkS tx)) (some (.d (.lst (W.map fun r => D.str (mkS (lineR c g t W n r)))))) none (some (.own 0)) none none none none none, [.lst []], gs⟩ = .ok .nx ⟨eL (.tup ((rD W).map D.tup)) c g t (.str (mkS tx)) (some (.d (.lst (W.map fun r => D.str (mkS (lineR c g t W n r)))))) f5 (some (.own 0)) none none none none none, [.lst (widD W n)], gs⟩ := by
      have hv : ev (run Pg k) (.bf .len (.cons (.sub (.var 1) (.cst (.int 0))) (.nil))) ⟨eL (.tup ((rD W).map D.tup)) c g t (.str (mkS tx)) (some (.d (.lst (W.map fun r => D.str (mkS (lineR c g t W n r)))))) none (some (.own 0)) none none none none none, [.lst []], gs⟩ = .ok (.d (.int (n : Nat))) ⟨eL (.tup ((rD W).map D.tup)) c g t (.str (mkS tx)) (some (.d (.lst (W.map fun r => D.str (mkS (lineR c g t W n r)))))) none (some (.own 0)) none none none none none, [.lst []], gs⟩ := by
        simp only [eL, ev, evs, getVar, List.getElem?_cons_zero, List.getElem?_cons_succ, R.bind, subVal, seqv, h0, Option.map_some, optR, bfn, hl0]
      have hi := ev_range hv (by simp only [LINE]; omega)
      rw [ex.eq_def]
      simp only [hi, R.bind]
      exact q2
    have t4 : evT (run Pg k) (.cmp .ne (.bf .len (.cons (.var 6) (.nil))) (.bf .len (.cons (.var 1) (.nil)))) ⟨eL (.tup ((rD W).map D.tup)) c g t (.str (mkS tx)) (some (.d (.lst (W.map fun r => D.str (mkS (lineR c g t W n r)))))) f5 (some (.own 0)) none none none none none, [.lst (widD W n)], gs⟩ = .ok false ⟨eL (.tup ((rD W).map D.tup)) c g t (.str (mkS tx)) (some (.d (.lst (W.map fun r => D.str (mkS (lineR c g t W n r)))))) f5 (some (.own 0)) none none none none none, [.lst (widD W n)], gs⟩ := by
      refine t_cmp ?_
      simp only [eL, ev, evs, getVar, List.getElem?_cons_zero, List.getElem?_cons_succ, R.bind, bfn, seqv, List.length_map, rows_len, cmpop, eq_int, decide_true, Option.map_some, Bool.not_true, optR]
      simp only [rD, List.length_map, decide_true, Bool.not_true]
    obtain ⟨z5, z8, z9, z10, z11, z12, q5⟩ := rows_go (k := k) (gs := gs) (rows := .tup ((rD W).map D.tup)) (tx := .str (mkS tx)) (ls := some (.d (.lst (W.map fun r => D.str (mkS (lineR c g t W n r)))))) (by omega) h ht hc hg W f5 none none none none none (fun _ hr => hr)
    have a5 : ex (run Pg k) (.for_ [8, 9] (.zip (.cons (.var 6) (.cons (.var 1) (.nil)))) cRow) ⟨eL (.tup ((rD W).map D.tup)) c g t (.str (mkS tx)) (some (.d (.lst (W.map fun r => D.str (mkS (lineR c g t W n r)))))) f5 (some (.own 0)) none none none none none, [.lst (widD W n)], gs⟩ = .ok .nx ⟨eL (.tup ((rD W).map D.tup)) c g t (.str (mkS tx)) (some (.d (.lst (W.map fun r => D.str (mkS (lineR c g t W n r)))))) z5 (some (.own 0)) z8 z9 z10 z11 z12, [.lst (widD W n)], gs⟩ := by
      have hi : evI (run Pg k) (.zip (.cons (.var 6) (.cons (.var 1) (.nil)))) ⟨eL (.tup ((rD W).map D.tup)) c g t (.str (mkS tx)) (some (.d (.lst (W.map fun r => D.str (mkS (lineR c g t W n r)))))) f5 (some (.own 0)) none none none none none, [.lst (widD W n)], gs⟩ = .ok (W.map fun r => .tup [.str (mkS (lineR c g t W n r)), .tup (rL r)]) ⟨eL (.tup ((rD W).map D.tup)) c g t (.str (mkS tx)) (some (.d (.lst (W.map fun r => D.str (mkS (lineR c g t W n r)))))) f5 (some (.own 0)) none none none none none, [.lst (widD W n)], gs⟩ := by
        simp only [evI, evs, ev, getVar, eL, List.getElem?_cons_zero, List.getElem?_cons_succ, R.bind, zipV, zip_lines]
      rw [ex.eq_def]
      simp only [hi, R.bind]
      exact q5
    refine runF_rt (s1 := ⟨eL (.tup ((rD W).map D.tup)) c g t (.str (mkS tx)) (some (.d (.lst (W.map fun r => D.str (mkS (lineR c g t W n r)))))) z5 (some (.own 0)) z8 z9 z10 z11 z12, [.lst (widD W n)], gs⟩) rfl ?_
    show ex (run Pg k) c_law_lines_right ⟨eL (.tup ((rD W).map D.tup)) c g t (.str (mkS tx)) none none none none none none none none, [], gs⟩ = _
    unfold c_law_lines_right
    exact (ex_step ((ite_f t3).trans ex_nil)).trans ((ex_step a1).trans ((ex_step a2).trans ((ex_step ((ite_f t4).trans ex_nil)).trans ((ex_step a5).trans ret_cst))))
end
end Lw

namespace Lw
open Mp
open PySem (Str PyData)
theorem joinC_one : ∀ cs : List Nat, joinC [] (cs.map fun c => [c]) = cs
  | [] => rfl
  | [c] => rfl
  | c :: d :: r => by
    have ih := joinC_one (d :: r)
    show [c] ++ ([] ++ joinC [] ((d :: r).map fun c => [c])) = _
    rw [ih]
    rfl
theorem pr_of {c : Nat} (h : Pr c = true) : 32 ≤ c ∧ c ≤ 126 := by
  unfold Pr at h
  simpa using h
theorem one_mk (c : Nat) : (⟨#[c]⟩ : Str) = mkS [c] := rfl
section
variable {k d n : Nat} {gs : List Cell}
theorem sign_ok (hk : 2 ≤ k) (hD : Dice gs d (n + 1)) : ∃ c gs', run Pg k f_law_pick [.ref d, .str signs] gs = .ok (.str (mkS [c])) gs' ∧ (32 ≤ c ∧ c ≤ 126) ∧ Dice gs' d n ∧ Kp d gs gs' := by
  obtain ⟨c, gs', e, hc, D', K'⟩ := pickS (z := signs) hk hD (by rw [signs_len]; omega) (by rw [signs_len]; omega)
  exact ⟨c, gs', e, pr_of (signs_pr c hc), D', K'⟩
/-- signs, one by one -/
theorem signs_list {Q : Nat → Prop} : ∀ {ys : List D}, (∀ y ∈ ys, ∃ c, y = .str (mkS [c]) ∧ Q c) → ∃ cs : List Nat, ys = (cs.map fun c => [c]).map (fun x => D.str (mkS x)) ∧ cs.length = ys.length ∧ ∀ c ∈ cs, Q c
  | [], _ => ⟨[], rfl, rfl, by simp⟩
  | y :: ys, h => by
    obtain ⟨c, rfl, hc⟩ := h y List.mem_cons_self
    obtain ⟨cs, h1, h2, h3⟩ := signs_list (ys := ys) fun z hz => h z (List.mem_cons_of_mem _ hz)
    refine ⟨c :: cs, by rw [h1]; rfl, by simp [h2], fun z hz => ?_⟩
    rcases List.mem_cons.mp hz with rfl | hz
    · exact hc
    · exact h3 z hz
theorem join_ones {cs : List Nat} {s : S} {v : Val} (hl : cs.length ≤ 1000) (hv : seqv v s = some (true, (cs.map fun c => [c]).map fun x => D.str (mkS x))) : bmth .join (.d (.str (mkS []))) [v] s = .ok (.d (.str (mkS cs))) s := by
  have q := join_mk (l := cs.map fun c => [c]) (g := []) (s := s) (v := v) (by
    have h2 := sum_le List.length 1 (cs.map fun c => [c]) (fun x hx => by
      obtain ⟨c, _, rfl⟩ := List.mem_map.mp hx
      exact Nat.le_refl _)
    rw [List.length_map] at h2 ⊢
    simp only [LINE, List.length_nil, Nat.mul_zero]
    omega) hv
  rw [joinC_one] at q
  exact q
theorem string_ok {m : Nat} (hk : 3 ≤ k) (hm : m ≤ 20) (hD : Dice gs d (n + m + 1)) : ∃ l gs', run Pg k f_law_string [.ref d, .int (m : Nat)] gs = .ok (.str (mkS l)) gs' ∧ l.length ≤ m ∧ (∀ c ∈ l, 32 ≤ c ∧ c ≤ 126) ∧ Dice gs' d n ∧ Kp d gs gs' := by
  obtain ⟨k, rfl⟩ : ∃ j, k = j + 1 := ⟨k - 1, by omega⟩
  obtain ⟨r, g1, e1, r0, r1, D1, K1⟩ := roll (k := k) (m := (m : Int) + 1) (n := n + m) (gs := gs) (by omega) hD (by omega) (by omega)
  obtain ⟨u, rfl⟩ : ∃ u : Nat, r = (u : Int) := ⟨r.toNat, by omega⟩
  have hu : u ≤ m := by omega
  obtain ⟨ys, e', g2, e2, y1, y2, D2, K2⟩ := lcGo_dice (env := wipeE [some (.d (.ref d)), some (.d (.int (m : Nat))), none] [2]) (i := 2) (cnd := evT (run Pg k) .nil) (elt := ev (run Pg k) (.call 6 (.cons (.var 0) (.cons (.call 7 (.nil)) (.nil))))) (F := []) (fun y => ∃ c, y = .str (mkS [c]) ∧ (32 ≤ c ∧ c ≤ 126)) (fun n G => Dice G d n ∧ Kp d g1 G) (fun s => by simp only [evT]) (fun x n G j => by
    obtain ⟨c, G', q, hc, D', K'⟩ := sign_ok (k := k) (n := n) (by omega) j.1
    have q2 : run Pg k 6 [.ref d, .str signs] G = .ok (.str (mkS [c])) G' := q
    have q3 : run Pg k 7 [] G = .ok (.str signs) G := signs_ok (by omega)
    refine ⟨_, G', ?_, ⟨c, rfl, hc⟩, D', j.2.trans K'⟩
    simp only [wipeE, List.set_cons_succ, List.set_cons_zero, ev, evs, getVar, List.getElem?_cons_zero, R.bind, callR, toDs, q3, Option.map_some, q2]) ((List.range u).map fun i : Nat => D.int i) [some (.d (.ref d)), some (.d (.int (m : Nat))), none] n g1 ⟨by rw [List.length_map, List.length_range]; exact D1.mono (by omega), Kp.refl⟩
  obtain ⟨cs, h1, h2, h3⟩ := signs_list y2
  rw [List.length_map, List.length_range] at y1
  have hlen : cs.length = u := by omega
  refine ⟨cs, g2, ?_, by omega, h3, D2, K1.trans K2⟩
  rw [run_s]
  refine runF_rt (s1 := ⟨[some (.d (.ref d)), some (.d (.int (m : Nat))), none], [], g2⟩) rfl ?_
  show ex (run Pg k) c_law_string ⟨[some (.d (.ref d)), some (.d (.int (m : Nat))), none], [], gs⟩ = _
  have hroll : ev (run Pg k) (.call 5 (.cons (.var 0) (.cons (.bin .add (.var 1) (.cst (.int 1))) (.nil)))) ⟨[some (.d (.ref d)), some (.d (.int (m : Nat))), none], [], gs⟩ = .ok (.d (.int (u : Nat))) ⟨[some (.d (.ref d)), some (.d (.int (m : Nat))), none], [], g1⟩ := by
    have e1' : run Pg k 5 [.ref d, .int ((m : Int) + 1)] gs = .ok (.int (u : Nat)) g1 := e1
    simp only [ev, evs, getVar, List.getElem?_cons_zero, List.getElem?_cons_succ, R.bind, binop, callR, toDs, Option.map_some, e1']
  have hi := ev_range hroll (by simp only [LINE]; omega)
  have hF : evF (run Pg k) (.lc [2] [2] (.rng (.cons (.call 5 (.cons (.var 0) (.cons (.bin .add (.var 1) (.cst (.int 1))) (.nil)))) (.nil))) (.nil) (.call 6 (.cons (.var 0) (.cons (.call 7 (.nil)) (.nil))))) ⟨[some (.d (.ref d)), some (.d (.int (m : Nat))), none], [], gs⟩ = .ok ys ⟨[some (.d (.ref d)), some (.d (.int (m : Nat))), none], [], g2⟩ := by
    have hl : ((List.range u).map fun i : Nat => D.int i).length ≤ LINE := by rw [List.length_map, List.length_range]; simp only [LINE]; omega
    rw [evF]
    simp only [hi, R.bind, if_pos hl, e2]
  unfold c_law_string
  refine ex_exit (ret_v (v_join (z := mkS []) (by rw [s_no]; exact v_cst) (v_fz hF) ?_))
  rw [h1]
  exact join_ones (by omega) rfl
end
end Lw

namespace Lw
open Mp
open PySem (Str PyData)
/-- a string as the law draws it -/
def WOk (x : List Nat) : Prop := x.length ≤ 60 ∧ ∀ c ∈ x, 32 ≤ c ∧ c ≤ 126
theorem words_list : ∀ {ys : List D}, (∀ y ∈ ys, ∃ l, y = .str (mkS l) ∧ WOk l) → ∃ r : List (List Nat), ys = rL r ∧ r.length = ys.length ∧ ∀ x ∈ r, WOk x
  | [], _ => ⟨[], rfl, rfl, by simp⟩
  | y :: ys, h => by
    obtain ⟨c, rfl, hc⟩ := h y List.mem_cons_self
    obtain ⟨r, h1, h2, h3⟩ := words_list (ys := ys) fun z hz => h z (List.mem_cons_of_mem _ hz)
    refine ⟨c :: r, by rw [h1]; rfl, by simp [h2], fun z hz => ?_⟩
    rcases List.mem_cons.mp hz with rfl | hz
    · exact hc
    · exact h3 z hz
theorem rL_set (r : List (List Nat)) (i : Nat) (x : List Nat) : (rL r).set i (.str (mkS x)) = rL (r.set i x) := by
  unfold rL
  rw [List.map_set]
section
variable {k d n : Nat} {gs : List Cell}
def cTurn : T := (.cons (.asg 4 (.mk (.lc [5] [5] (.rng (.cons (.var 2) (.nil))) (.nil) (.call 8 (.cons (.var 0) (.cons (.cst (.int 6)) (.nil)))))))
    (.cons (.ite (.cmp .eq (.call 5 (.cons (.var 0) (.cons (.cst (.int 5)) (.nil)))) (.cst (.int 0))) (.cons (.seti (.var 4) (.call 5 (.cons (.var 0) (.cons (.var 2) (.nil)))) (.rep (.call 6 (.cons (.var 0) (.cons (.call 7 (.nil)) (.nil)))) (.cst (.int 60))))
    (.nil)) (.nil))
    (.cons (.exp (.bm .append (.var 3) (.cons (.bf .tuple (.cons (.var 4) (.nil))) (.nil))))
    (.nil))))
def eT (d w : Nat) (e1 e4 : Option Val) : List (Option Val) := [some (.d (.ref d)), e1, some (.d (.int (w : Nat))), some (.own 0), e4, none]
theorem turn_ok {w : Nat} {fs : List Cell} {acc : List D} {e1 e4 : Option Val} (hk : 4 ≤ k) (hw : 1 ≤ w) (hw8 : w ≤ 8) (hf : fs[0]? = some (.lst acc)) (ha : acc.length < 100) (hD : Dice gs d (n + 100)) :
    ∃ r e4' fs' gs', ex (run Pg k) cTurn ⟨eT d w e1 e4, fs, gs⟩ = .ok .nx ⟨eT d w e1 e4', fs', gs'⟩ ∧ fs'[0]? = some (.lst (acc ++ [.tup (rL r)])) ∧ r.length = w ∧ (∀ x ∈ r, WOk x) ∧ Dice gs' d n ∧ Kp d gs gs' := by
  have hfl : 0 < fs.length := (List.getElem?_eq_some_iff.mp hf).1
  obtain ⟨ys, e', g1, q1, y1, y2, D1, K1⟩ := lcGo_dice (env := wipeE (eT d w e1 e4) [5]) (i := 5) (cnd := evT (run Pg k) .nil) (elt := ev (run Pg k) (.call 8 (.cons (.var 0) (.cons (.cst (.int 6)) (.nil))))) (F := fs) (fun y => ∃ l, y = .str (mkS l) ∧ WOk l) (fun m G => Dice G d (7 * m + (n + 20)) ∧ Kp d gs G) (fun s => by simp only [evT]) (fun x m G j => by
    obtain ⟨l, G', q, hl, hc, D', K'⟩ := string_ok (k := k) (m := 6) (n := 7 * m + (n + 20)) (by omega) (by omega) (j.1.mono (by omega))
    have q2 : run Pg k 8 [.ref d, .int 6] G = .ok (.str (mkS l)) G' := q
    refine ⟨_, G', ?_, ⟨l, rfl, by omega, hc⟩, D', j.2.trans K'⟩
    simp only [eT, wipeE, List.set_cons_succ, List.set_cons_zero, ev, evs, getVar, List.getElem?_cons_zero, R.bind, callR, toDs, Option.map_some, q2]) ((List.range w).map fun i : Nat => D.int i) (eT d w e1 e4) 0 gs ⟨by rw [List.length_map, List.length_range]; exact hD.mono (by omega), Kp.refl⟩
  obtain ⟨r, h1, h2, h3⟩ := words_list y2
  rw [List.length_map, List.length_range] at y1
  have hr : r.length = w := by omega
  subst h1
  have hv2 : ev (run Pg k) (.var 2) ⟨eT d w e1 e4, fs, gs⟩ = .ok (.d (.int (w : Nat))) ⟨eT d w e1 e4, fs, gs⟩ := v_var rfl
  have hi := ev_range hv2 (by simp only [LINE]; omega)
  have a1 : ex (run Pg k) (.asg 4 (.mk (.lc [5] [5] (.rng (.cons (.var 2) (.nil))) (.nil) (.call 8 (.cons (.var 0) (.cons (.cst (.int 6)) (.nil))))))) ⟨eT d w e1 e4, fs, gs⟩ = .ok .nx ⟨eT d w e1 (some (.own fs.length)), fs ++ [.lst (rL r)], g1⟩ := by
    have hl : ((List.range w).map fun i : Nat => D.int i).length ≤ LINE := by rw [List.length_map, List.length_range]; simp only [LINE]; omega
    have hF : evF (run Pg k) (.lc [5] [5] (.rng (.cons (.var 2) (.nil))) (.nil) (.call 8 (.cons (.var 0) (.cons (.cst (.int 6)) (.nil))))) ⟨eT d w e1 e4, fs, gs⟩ = .ok (rL r) ⟨eT d w e1 e4, fs, g1⟩ := by
      rw [evF]
      simp only [hi, R.bind, if_pos hl, q1]
    refine asg_v (v := .own fs.length) (s1 := ⟨eT d w e1 e4, fs ++ [.lst (rL r)], g1⟩) ?_
    simp only [ev, hF, R.bind]
  have D1 : Dice g1 d (n + 3) := D1.mono (by omega)
  obtain ⟨z, g2, q2, z0, z1, D2, K2⟩ := roll (k := k) (m := 5) (n := n + 2) (gs := g1) (by omega) D1 (by omega) (by omega)
  have q2' : run Pg k 5 [.ref d, .int 5] g1 = .ok (.int z) g2 := q2
  have hj : ∀ c : Cell, (fs ++ [c])[fs.length]? = some c := fun c => by simp
  have h0 : ∀ c : Cell, (fs ++ [c])[0]? = some (.lst acc) := fun c => by rw [List.getElem?_append_left hfl]; exact hf
  -- the row, with a long string or not
  have key : ∃ r' g3, ex (run Pg k) (.ite (.cmp .eq (.call 5 (.cons (.var 0) (.cons (.cst (.int 5)) (.nil)))) (.cst (.int 0))) (.cons (.seti (.var 4) (.call 5 (.cons (.var 0) (.cons (.var 2) (.nil)))) (.rep (.call 6 (.cons (.var 0) (.cons (.call 7 (.nil)) (.nil)))) (.cst (.int 60)))) (.nil)) (.nil)) ⟨eT d w e1 (some (.own fs.length)), fs ++ [.lst (rL r)], g1⟩ = .ok .nx ⟨eT d w e1 (some (.own fs.length)), fs ++ [.lst (rL r')], g3⟩ ∧ r'.length = w ∧ (∀ x ∈ r', WOk x) ∧ Dice g3 d n ∧ Kp d g1 g3 := by
    have hc : ev (run Pg k) (.cmp .eq (.call 5 (.cons (.var 0) (.cons (.cst (.int 5)) (.nil)))) (.cst (.int 0))) ⟨eT d w e1 (some (.own fs.length)), fs ++ [.lst (rL r)], g1⟩ = .ok (.d (.bl (decide (z = 0)))) ⟨eT d w e1 (some (.own fs.length)), fs ++ [.lst (rL r)], g2⟩ := by
      simp only [eT, ev, evs, getVar, List.getElem?_cons_zero, R.bind, callR, toDs, Option.map_some, q2', cmpop, eq_int, optR]
    have hc := t_cmp hc
    by_cases hz : z = 0
    · rw [decide_eq_true hz] at hc
      obtain ⟨c, g3, q3, hc3, D3, K3⟩ := sign_ok (k := k) (n := n + 1) (gs := g2) (by omega) D2
      obtain ⟨i, g4, q4, i0, i1, D4, K4⟩ := roll (k := k) (m := (w : Int)) (n := n) (gs := g3) (by omega) D3 (by omega) (by omega)
      have q3' : run Pg k 6 [.ref d, .str signs] g2 = .ok (.str (mkS [c])) g3 := q3
      have q4' : run Pg k 5 [.ref d, .int (w : Nat)] g3 = .ok (.int i) g4 := q4
      have q5 : run Pg k 7 [] g2 = .ok (.str signs) g2 := signs_ok (by omega)
      have hrl : (rL r).length = w := by rw [rL_len]; exact hr
      have hidx : (decide (0 ≤ i) && decide (i < ((rL r).length : Nat))) = true := by
        simp only [Bool.and_eq_true, decide_eq_true_eq]
        omega
      have hrp := rep_mk (b := 60) (c := c) (by omega)
      refine ⟨r.set i.toNat (List.replicate 60 c), g4, ?_, by rw [List.length_set]; exact hr, fun x hx => ?_, D4, K2.trans (K3.trans K4)⟩
      · rw [ite_t hc]
        refine (ex_step (s1 := ⟨eT d w e1 (some (.own fs.length)), fs ++ [.lst (rL (r.set i.toNat (List.replicate 60 c)))], g4⟩) ?_).trans ex_nil
        rw [ex.eq_def]
        have e60 : ((60 : Int)) = ((60 : Nat) : Int) := rfl
        simp only [eT, ev, evs, getVar, List.getElem?_cons_zero, List.getElem?_cons_succ, R.bind, callR, toDs, Option.map_some, q5, q3', e60, hrp, optR, q4', setIx, hj, hidx, if_true, rL_set]
        congr 1
        simp
      · rcases List.mem_or_eq_of_mem_set hx with hx | rfl
        · exact h3 x hx
        · refine ⟨by simp, fun y hy => ?_⟩
          rw [(List.mem_replicate.mp hy).2]
          exact hc3
    · rw [decide_eq_false hz] at hc
      exact ⟨r, g2, (ite_f hc).trans ex_nil, hr, h3, D2.mono (by omega), K2⟩
  obtain ⟨r', g3, q6, r1, r2, D3, K3⟩ := key
  refine ⟨r', some (.own fs.length), (fs ++ [Cell.lst (rL r')]).set 0 (Cell.lst (acc ++ [D.tup (rL r')])), g3, ?_, getset (h0 _), r1, r2, D3, K1.trans K3⟩
  have a3 := v_append (Γ := run Pg k) (e := .bf .tuple (.cons (.var 4) .nil)) (i := 3) (j := 0) (xs := acc) (ys := acc) (d := .tup (rL r')) (s := ⟨eT d w e1 (some (.own fs.length)), fs ++ [.lst (rL r')], g3⟩) (s1 := ⟨eT d w e1 (some (.own fs.length)), fs ++ [.lst (rL r')], g3⟩) rfl (h0 _) (by
    simp only [eT, ev, evs, getVar, List.getElem?_cons_zero, List.getElem?_cons_succ, R.bind, bfn, seqv, hj]) (h0 _) (by simp only [LINE]; omega)
  unfold cTurn
  exact (ex_step a1).trans ((ex_step q6).trans ((ex_step (exp_v a3)).trans ex_nil))
theorem turns_go {w : Nat} (hk : 4 ≤ k) (hw : 1 ≤ w) (hw8 : w ≤ 8) : ∀ (xs : List D) (Z : List (List (List Nat))) (e1 e4 : Option Val) (fs gs : List Cell), fs[0]? = some (.lst (Z.map fun r => .tup (rL r))) → Z.length + xs.length ≤ 50 → Dice gs d (n + 100 * xs.length) →
    ∃ Z' e1' e4' fs' gs', forGo [1] (ex (run Pg k) cTurn) xs ⟨eT d w e1 e4, fs, gs⟩ = .ok .nx ⟨eT d w e1' e4', fs', gs'⟩ ∧ fs'[0]? = some (.lst ((Z ++ Z').map fun r => .tup (rL r))) ∧ Z'.length = xs.length ∧ (∀ r ∈ Z', r.length = w ∧ ∀ x ∈ r, WOk x) ∧ Dice gs' d n ∧ Kp d gs gs'
  | [], Z, e1, e4, fs, gs, hf, _, hD => ⟨[], e1, e4, fs, gs, rfl, by rw [List.append_nil]; exact hf, rfl, by simp, hD, Kp.refl⟩
  | x :: xs, Z, e1, e4, fs, gs, hf, hl, hD => by
    simp only [List.length_cons] at hl hD
    obtain ⟨r, e4', fs1, g1, q1, hf1, r1, r2, D1, K1⟩ := turn_ok (k := k) (d := d) (n := n + 100 * xs.length) (e1 := some (.d x)) (e4 := e4) hk hw hw8 hf (by rw [List.length_map]; omega) (hD.mono (by omega))
    obtain ⟨Z', e1', e4'', fs', gs', q2, hf2, z1, z2, D2, K2⟩ := turns_go hk hw hw8 xs (Z ++ [r]) (some (.d x)) e4' fs1 g1 (by rw [hf1]; simp) (by rw [List.length_append, List.length_singleton]; omega) D1
    refine ⟨r :: Z', e1', e4'', fs', gs', ?_, by rw [hf2]; simp, by simp [z1], fun y hy => ?_, D2, K1.trans K2⟩
    · have b : bindTs [1] x ⟨eT d w e1 e4, fs, gs⟩ = some ⟨eT d w (some (.d x)) e4, fs, gs⟩ := rfl
      rw [forGo]
      simp only [b, q1, R.bind, q2]
    · rcases List.mem_cons.mp hy with rfl | hy
      · exact ⟨r1, r2⟩
      · exact z2 y hy
theorem drawn_ok (hk : 5 ≤ k) (hD : Dice gs d (n + 1000)) : ∃ W w gs', run Pg k f_law_rows_drawn [.ref d] gs = .ok (.tup ((rD W).map D.tup)) gs' ∧ RowsOk w W ∧ Dice gs' d n ∧ Kp d gs gs' := by
  obtain ⟨k, rfl⟩ : ∃ j, k = j + 1 := ⟨k - 1, by omega⟩
  obtain ⟨r, g1, q1, r0, r1, D1, K1⟩ := roll (k := k) (m := 8) (n := n + 999) (gs := gs) (by omega) hD (by omega) (by omega)
  obtain ⟨w, hw⟩ : ∃ w : Nat, 1 + r = (w : Int) := ⟨(1 + r).toNat, by omega⟩
  obtain ⟨u, g2, q2, u0, u1, D2, K2⟩ := roll (k := k) (m := 10) (n := n + 998) (gs := g1) (by omega) D1 (by omega) (by omega)
  obtain ⟨m, rfl⟩ : ∃ m : Nat, u = (m : Int) := ⟨u.toNat, by omega⟩
  obtain ⟨W, e1', e4', fs', g3, q3, hf3, w1, w2, D3, K3⟩ := turns_go (k := k) (d := d) (n := n) (w := w) (by omega) (by omega) (by omega) ((List.range m).map fun i : Nat => D.int i) [] none none [.lst []] g2 rfl (by rw [List.length_map, List.length_range]; simp; omega) (by rw [List.length_map, List.length_range]; exact D2.mono (by omega))
  rw [List.length_map, List.length_range] at w1
  rw [List.nil_append] at hf3
  refine ⟨W, w, g3, ?_, ⟨by omega, by omega, fun r hr => (w2 r hr).1, fun r hr => (w2 r hr).2, by omega⟩, D3, K1.trans (K2.trans K3)⟩
  rw [run_s]
  refine runF_rt (s1 := ⟨eT d w e1' e4', fs', g3⟩) rfl ?_
  show ex (run Pg k) c_law_rows_drawn ⟨[some (.d (.ref d)), none, none, none, none, none], [], gs⟩ = _
  have q1' : run Pg k 5 [.ref d, .int 8] gs = .ok (.int r) g1 := q1
  have q2' : run Pg k 5 [.ref d, .int 10] g1 = .ok (.int (m : Nat)) g2 := q2
  have a1 : ex (run Pg k) (.par 2 3 (.bin .add (.cst (.int 1)) (.call 5 (.cons (.var 0) (.cons (.cst (.int 8)) (.nil))))) (.mk (.lst (.nil)))) ⟨[some (.d (.ref d)), none, none, none, none, none], [], gs⟩ = .ok .nx ⟨eT d w none none, [.lst []], g1⟩ := by
    rw [ex.eq_def]
    simp only [ev, evs, evF, getVar, List.getElem?_cons_zero, R.bind, callR, toDs, Option.map_some, q1', binop, hw, List.length_nil, Nat.zero_le, if_true, List.nil_append, List.set_cons_succ, List.set_cons_zero, eT]
  have hv : ev (run Pg k) (.call 5 (.cons (.var 0) (.cons (.cst (.int 10)) (.nil)))) ⟨eT d w none none, [.lst []], g1⟩ = .ok (.d (.int (m : Nat))) ⟨eT d w none none, [.lst []], g2⟩ := by
    simp only [eT, ev, evs, getVar, List.getElem?_cons_zero, R.bind, callR, toDs, Option.map_some, q2']
  have hi := ev_range hv (by simp only [LINE]; omega)
  have a2 : ex (run Pg k) (.for_ [1] (.rng (.cons (.call 5 (.cons (.var 0) (.cons (.cst (.int 10)) (.nil)))) (.nil))) cTurn) ⟨eT d w none none, [.lst []], g1⟩ = .ok .nx ⟨eT d w e1' e4', fs', g3⟩ := by
    rw [ex.eq_def]
    simp only [hi, R.bind]
    exact q3
  unfold c_law_rows_drawn
  refine (ex_step a1).trans ((ex_step a2).trans (ex_exit (ret_v ?_)))
  have hm2 : (W.map fun r => D.tup (rL r)) = (rD W).map D.tup := by unfold rD; rw [List.map_map]; rfl
  simp only [eT, ev, evs, getVar, List.getElem?_cons_zero, List.getElem?_cons_succ, R.bind, bfn, seqv, hf3, hm2]
end
end Lw

namespace Lw
open Mp
open PySem (Str PyData)
section
variable {k d n : Nat} {gs : List Cell}
abbrev eQ (d : Nat) (e1 e2 e3 e4 e5 : Option Val) : List (Option Val) := [some (.d (.ref d)), e1, e2, e3, e4, e5, none]
theorem sides_len : ("<>^" : Str).length = 3 := by decide +kernel
theorem side_ok (hk : 2 ≤ k) (hD : Dice gs d (n + 1)) : ∃ c gs', run Pg k f_law_pick [.ref d, .str "<>^"] gs = .ok (.str (mkS [c])) gs' ∧ (c = 60 ∨ c = 62 ∨ c = 94) ∧ Dice gs' d n ∧ Kp d gs gs' := by
  obtain ⟨c, gs', e, hc, D', K'⟩ := pickS (z := "<>^") hk hD (by rw [sides_len]; omega) (by rw [sides_len]; omega)
  rw [ff_sides] at hc
  exact ⟨c, gs', e, by simpa using hc, D', K'⟩
theorem each_ok {w : Nat} {e1 : Option Val} (hk : 2 ≤ k) (hw : w ≤ 8) (hD : Dice gs d (n + 10)) : ∃ sd gs', ev (run Pg k) (.bm .join (.cst (.str "")) (.cons (.fz (.lc [6] [6] (.rng (.cons (.var 2) (.nil))) (.nil) (.call 6 (.cons (.var 0) (.cons (.cst (.str "<>^")) (.nil)))))) (.nil))) ⟨eQ d e1 (some (.d (.int (w : Nat)))) none none none, [], gs⟩ = .ok (.d (.str (mkS sd))) ⟨eQ d e1 (some (.d (.int (w : Nat)))) none none none, [], gs'⟩ ∧ sd.length = w ∧ (∀ c ∈ sd, c = 60 ∨ c = 62 ∨ c = 94) ∧ Dice gs' d n ∧ Kp d gs gs' := by
  obtain ⟨ys, e', g1, q1, y1, y2, D1, K1⟩ := lcGo_dice (env := wipeE (eQ d e1 (some (.d (.int (w : Nat)))) none none none) [6]) (i := 6) (cnd := evT (run Pg k) .nil) (elt := ev (run Pg k) (.call 6 (.cons (.var 0) (.cons (.cst (.str "<>^")) (.nil))))) (F := []) (fun y => ∃ c, y = .str (mkS [c]) ∧ (c = 60 ∨ c = 62 ∨ c = 94)) (fun m G => Dice G d m ∧ Kp d gs G) (fun s => by simp only [evT]) (fun x m G j => by
    obtain ⟨c, G', q, hc, D', K'⟩ := side_ok (k := k) (n := m) hk j.1
    have q2 : run Pg k 6 [.ref d, .str "<>^"] G = .ok (.str (mkS [c])) G' := q
    refine ⟨_, G', ?_, ⟨c, rfl, hc⟩, D', j.2.trans K'⟩
    simp only [wipeE, List.set_cons_succ, List.set_cons_zero, ev, evs, getVar, List.getElem?_cons_zero, R.bind, callR, toDs, Option.map_some, q2]) ((List.range w).map fun i : Nat => D.int i) (eQ d e1 (some (.d (.int (w : Nat)))) none none none) n gs ⟨by rw [List.length_map, List.length_range]; exact hD.mono (by omega), Kp.refl⟩
  obtain ⟨cs, h1, h2, h3⟩ := signs_list y2
  rw [List.length_map, List.length_range] at y1
  have hv : ev (run Pg k) (.var 2) ⟨eQ d e1 (some (.d (.int (w : Nat)))) none none none, [], gs⟩ = .ok (.d (.int (w : Nat))) ⟨eQ d e1 (some (.d (.int (w : Nat)))) none none none, [], gs⟩ := v_var rfl
  have hi := ev_range hv (by simp only [LINE]; omega)
  have hF : evF (run Pg k) (.lc [6] [6] (.rng (.cons (.var 2) (.nil))) (.nil) (.call 6 (.cons (.var 0) (.cons (.cst (.str "<>^")) (.nil))))) ⟨eQ d e1 (some (.d (.int (w : Nat)))) none none none, [], gs⟩ = .ok ys ⟨eQ d e1 (some (.d (.int (w : Nat)))) none none none, [], g1⟩ := by
    have hl : ((List.range w).map fun i : Nat => D.int i).length ≤ LINE := by rw [List.length_map, List.length_range]; simp only [LINE]; omega
    rw [evF]
    simp only [hi, R.bind, if_pos hl, q1]
  refine ⟨cs, g1, v_join (z := mkS []) (by rw [s_no]; exact v_cst) (v_fz hF) ?_, by omega, h3, D1, K1⟩
  rw [h1]
  exact join_ones (by omega) rfl
theorem RowsOk.nil {w : Nat} (h1 : 1 ≤ w) (h8 : w ≤ 8) : RowsOk w [] := ⟨h1, h8, by simp, by simp, by simp⟩
theorem right_ok (hk : 6 ≤ k) (hD : Dice gs d (n + 1100)) : ∃ gs', run Pg k f_law_right [.ref d] gs = .ok (.bl true) gs' ∧ Dice gs' d n ∧ Kp d gs gs' := by
  obtain ⟨k, rfl⟩ : ∃ j, k = j + 1 := ⟨k - 1, by omega⟩
  obtain ⟨W, w, g1, q1, hR, D1, K1⟩ := drawn_ok (k := k) (d := d) (n := n + 100) (gs := gs) (by omega) (hD.mono (by omega))
  have q1' : run Pg k 9 [.ref d] gs = .ok (.tup ((rD W).map D.tup)) g1 := q1
  obtain ⟨X, hX⟩ : ∃ X, X = D.tup ((rD W).map D.tup) := ⟨_, rfl⟩
  have hE := fun s => eq_nilT ((rD W).map D.tup) s
  have hx1 : ((rD W).map D.tup).isEmpty = W.isEmpty := by cases W <;> rfl
  rw [hx1, ← hX] at hE
  have a1 : ex (run Pg k) (.asg 1 (.call 9 (.cons (.var 0) (.nil)))) ⟨eQ d none none none none none, [], gs⟩ = .ok .nx ⟨eQ d (some (.d X)) none none none none, [], g1⟩ := by
    refine asg_v (v := .d X) (s1 := ⟨eQ d none none none none none, [], g1⟩) ?_
    rw [hX]
    simp only [ev, evs, getVar, List.getElem?_cons_zero, R.bind, callR, toDs, Option.map_some, q1']
  -- the width
  have key : ∃ w' g2, ev (run Pg k) (.ife (.cmp .eq (.var 1) (.tup (.nil))) (.bin .add (.cst (.int 1)) (.call 5 (.cons (.var 0) (.cons (.cst (.int 8)) (.nil))))) (.bf .len (.cons (.sub (.var 1) (.cst (.int 0))) (.nil)))) ⟨eQ d (some (.d X)) none none none none, [], g1⟩ = .ok (.d (.int (w' : Nat))) ⟨eQ d (some (.d X)) none none none none, [], g2⟩ ∧ RowsOk w' W ∧ Dice g2 d (n + 90) ∧ Kp d g1 g2 := by
    cases W with
    | nil =>
      obtain ⟨r, g2, q2, r0, r1, D2, K2⟩ := roll (k := k) (m := 8) (n := n + 90) (gs := g1) (by omega) (D1.mono (by omega)) (by omega) (by omega)
      obtain ⟨w', hw⟩ : ∃ w' : Nat, 1 + r = (w' : Int) := ⟨(1 + r).toNat, by omega⟩
      have q2' : run Pg k 5 [.ref d, .int 8] g1 = .ok (.int r) g2 := q2
      refine ⟨w', g2, ?_, .nil (by omega) (by omega), D2, K2⟩
      have ht : evT (run Pg k) (.cmp .eq (.var 1) (.tup .nil)) ⟨eQ d (some (.d X)) none none none none, [], g1⟩ = .ok true ⟨eQ d (some (.d X)) none none none none, [], g1⟩ := by
        refine t_cmp ?_
        simp only [ev, evs, getVar, List.getElem?_cons_zero, List.getElem?_cons_succ, R.bind, toDs, List.length_nil, Nat.zero_le, if_true, cmpop, hE, optR, List.isEmpty_nil]
      rw [ev.eq_def]
      simp only [ht, R.bind, if_true]
      simp only [ev, evs, getVar, List.getElem?_cons_zero, R.bind, callR, toDs, Option.map_some, q2', binop, hw]
    | cons r0 rest =>
      refine ⟨w, g1, ?_, hR, D1.mono (by omega), Kp.refl⟩
      have ht : evT (run Pg k) (.cmp .eq (.var 1) (.tup .nil)) ⟨eQ d (some (.d X)) none none none none, [], g1⟩ = .ok false ⟨eQ d (some (.d X)) none none none none, [], g1⟩ := by
        refine t_cmp ?_
        simp only [ev, evs, getVar, List.getElem?_cons_zero, List.getElem?_cons_succ, R.bind, toDs, List.length_nil, Nat.zero_le, if_true, cmpop, hE, optR, List.isEmpty_cons]
      have h0 : atI ((rD (r0 :: rest)).map D.tup) 0 = some (.tup (rL r0)) := rfl
      have hl0 : (rL r0).length = w := by rw [rL_len]; exact hR.len r0 List.mem_cons_self
      rw [ev.eq_def]
      simp only [ht, R.bind, Bool.false_eq_true, if_false]
      simp only [hX, ev, evs, getVar, List.getElem?_cons_zero, List.getElem?_cons_succ, R.bind, subVal, seqv, h0, Option.map_some, optR, bfn, hl0]
  obtain ⟨w', g2, q2, hR', D2, K2⟩ := key
  have w8 := hR'.n8
  have w1 := hR'.n1
  obtain ⟨sd, g3, q3, s1, s2, D3, K3⟩ := each_ok (k := k) (d := d) (n := n + 80) (gs := g2) (w := w') (e1 := some (.d X)) (by omega) w8 D2
  obtain ⟨c, g4, q4, hc, D4, K4⟩ := sign_ok (k := k) (d := d) (n := n + 79) (gs := g3) (by omega) D3
  obtain ⟨g, g5, q5, hg, hgp, D5, K5⟩ := string_ok (k := k) (d := d) (m := 10) (n := n) (gs := g4) (by omega) (by omega) (D4.mono (by omega))
  have q4' : run Pg k 6 [.ref d, .str signs] g3 = .ok (.str (mkS [c])) g4 := q4
  have q5' : run Pg k 8 [.ref d, .int 10] g4 = .ok (.str (mkS g)) g5 := q5
  have qs : run Pg k 7 [] g3 = .ok (.str signs) g3 := signs_ok (by omega)
  have hne : sd ≠ [] := by intro z; rw [z] at s1; simp at s1; omega
  have told1 : told sd w' = sd := by unfold told; rw [if_neg hne]
  have told0 : told [] w' = List.replicate w' 60 := rfl
  have so1 : SideOk w' W sd := ⟨.inr (.inl s1), s2⟩
  have so0 : SideOk w' W [] := ⟨.inl rfl, by simp⟩
  have h32 : (32 : Nat) ≤ 32 ∧ 32 ≤ 126 := by decide
  have hp32 : ∀ y ∈ [32], 32 ≤ y ∧ y ≤ 126 := by intro y hy; simp at hy; omega
  have c1 := cols_ok (k := k) (gs := g5) (c := 32) (g := [32]) (by omega) hR' so0 h32 (by simp) hp32
  have l1 := lines_ok (k := k) (gs := g5) (c := 32) (g := [32]) (t := told [] w') (by omega) hR' (fun hW => told_len hW so0) h32 (by simp) hp32
  have c2 := cols_ok (k := k) (gs := g5) (c := 32) (g := [32]) (by omega) hR' so1 h32 (by simp) hp32
  have l2 := lines_ok (k := k) (gs := g5) (c := 32) (g := [32]) (t := told sd w') (by omega) hR' (fun hW => told_len hW so1) h32 (by simp) hp32
  have c3 := cols_ok (k := k) (gs := g5) (c := c) (g := [32]) (by omega) hR' so0 hc (by simp) hp32
  have l3 := lines_ok (k := k) (gs := g5) (c := c) (g := [32]) (t := told [] w') (by omega) hR' (fun hW => told_len hW so0) hc (by simp) hp32
  have c4 := cols_ok (k := k) (gs := g5) (c := c) (g := g) (by omega) hR' so1 hc hg hgp
  have l4 := lines_ok (k := k) (gs := g5) (c := c) (g := g) (t := told sd w') (by omega) hR' (fun hW => told_len hW so1) hc hg hgp
  rw [told1] at c2 l2 c4 l4
  rw [told0] at c1 l1 c3 l3
  rw [← hX] at c1 l1 c2 l2 c3 l3 c4 l4
  generalize mkS (if W = [] then [] else textR 32 [32] (List.replicate w' 60) W w') = T1 at c1 l1
  generalize mkS (if W = [] then [] else textR 32 [32] sd W w') = T2 at c2 l2
  generalize mkS (if W = [] then [] else textR c [32] (List.replicate w' 60) W w') = T3 at c3 l3
  generalize mkS (if W = [] then [] else textR c g sd W w') = T4 at c4 l4
  have c1' : run Pg k 16 [X, .str (mkS []), .str (mkS [32]), .str (mkS [32])] g5 = .ok (.str T1) g5 := c1
  have l1' : run Pg k 11 [.str T1, X, .str (mkS (List.replicate w' 60)), .str (mkS [32]), .str (mkS [32])] g5 = .ok (.bl true) g5 := l1
  have c2' : run Pg k 16 [X, .str (mkS sd), .str (mkS [32]), .str (mkS [32])] g5 = .ok (.str T2) g5 := c2
  have l2' : run Pg k 11 [.str T2, X, .str (mkS sd), .str (mkS [32]), .str (mkS [32])] g5 = .ok (.bl true) g5 := l2
  have c3' : run Pg k 16 [X, .str (mkS []), .str (mkS [c]), .str (mkS [32])] g5 = .ok (.str T3) g5 := c3
  have l3' : run Pg k 11 [.str T3, X, .str (mkS (List.replicate w' 60)), .str (mkS [c]), .str (mkS [32])] g5 = .ok (.bl true) g5 := l3
  have c4' : run Pg k 16 [X, .str (mkS sd), .str (mkS [c]), .str (mkS g)] g5 = .ok (.str T4) g5 := c4
  have l4' : run Pg k 11 [.str T4, X, .str (mkS sd), .str (mkS [c]), .str (mkS g)] g5 = .ok (.bl true) g5 := l4
  have hrp := rep_mk (b := w') (c := 60) (by omega)
  refine ⟨g5, ?_, D5, K1.trans (K2.trans (K3.trans (K4.trans K5)))⟩
  rw [run_s]
  refine runF_rt (s1 := ⟨eQ d (some (.d X)) (some (.d (.int (w' : Nat)))) (some (.d (.str (mkS sd)))) (some (.d (.str (mkS [c])))) (some (.d (.str (mkS g)))), [], g5⟩) rfl ?_
  show ex (run Pg k) c_law_right ⟨eQ d none none none none none, [], gs⟩ = _
  have a4 : ex (run Pg k) (.par 4 5 (.call 6 (.cons (.var 0) (.cons (.call 7 (.nil)) (.nil)))) (.call 8 (.cons (.var 0) (.cons (.cst (.int 10)) (.nil))))) ⟨eQ d (some (.d X)) (some (.d (.int (w' : Nat)))) (some (.d (.str (mkS sd)))) none none, [], g3⟩ = .ok .nx ⟨eQ d (some (.d X)) (some (.d (.int (w' : Nat)))) (some (.d (.str (mkS sd)))) (some (.d (.str (mkS [c])))) (some (.d (.str (mkS g)))), [], g5⟩ := by
    rw [ex.eq_def]
    simp only [ev, evs, getVar, List.getElem?_cons_zero, R.bind, callR, toDs, Option.map_some, qs, q4', q5', List.set_cons_succ, List.set_cons_zero]
  obtain ⟨s5, hs5⟩ : ∃ s5 : S, s5 = ⟨eQ d (some (.d X)) (some (.d (.int (w' : Nat)))) (some (.d (.str (mkS sd)))) (some (.d (.str (mkS [c])))) (some (.d (.str (mkS g)))), [], g5⟩ := ⟨_, rfl⟩
  have t1 : evT (run Pg k) (.not_ (.call 11 (.cons (.callk 16 1 [none, none, none] [.str "", .str " ", .str " "] [] (.cons (.var 1) (.nil)) (.nil)) (.cons (.var 1) (.cons (.rep (.cst (.str "<")) (.var 2)) (.cons (.cst (.str " ")) (.cons (.cst (.str " ")) (.nil)))))))) s5 = .ok false s5 := by
    refine not_b (b := true) (t_call ?_)
    rw [hs5, s_no, s_sp, s_lt]
    simp only [ev, evs, getVar, List.getElem?_cons_zero, List.getElem?_cons_succ, R.bind, List.length_cons, List.length_nil, Nat.zero_add, and_self, if_true, fillK, List.map_cons, List.map_nil, List.cons_append, List.nil_append, callR, toDs, Option.map_some, c1', hrp, optR, l1']
  have t2 : evT (run Pg k) (.not_ (.call 11 (.cons (.callk 16 1 [some 0, none, none] [.str " ", .str " "] ["sides"] (.cons (.var 1) (.nil)) (.cons (.var 3) (.nil))) (.cons (.var 1) (.cons (.var 3) (.cons (.cst (.str " ")) (.cons (.cst (.str " ")) (.nil)))))))) s5 = .ok false s5 := by
    refine not_b (b := true) (t_call ?_)
    rw [hs5, s_sp]
    simp only [ev, evs, getVar, List.getElem?_cons_zero, List.getElem?_cons_succ, R.bind, List.length_cons, List.length_nil, Nat.zero_add, and_self, if_true, fillK, List.map_cons, List.map_nil, List.cons_append, List.nil_append, callR, toDs, Option.map_some, c2', optR, l2']
  have t3 : evT (run Pg k) (.not_ (.call 11 (.cons (.callk 16 1 [some 1, some 0, none] [.str " "] ["fill", "sides"] (.cons (.var 1) (.nil)) (.cons (.var 4) (.cons (.cst (.str "")) (.nil)))) (.cons (.var 1) (.cons (.rep (.cst (.str "<")) (.var 2)) (.cons (.var 4) (.cons (.cst (.str " ")) (.nil)))))))) s5 = .ok false s5 := by
    refine not_b (b := true) (t_call ?_)
    rw [hs5, s_no, s_sp, s_lt]
    simp only [ev, evs, getVar, List.getElem?_cons_zero, List.getElem?_cons_succ, R.bind, List.length_cons, List.length_nil, Nat.zero_add, Nat.reduceAdd, and_self, if_true, fillK, List.map_cons, List.map_nil, List.cons_append, List.nil_append, callR, toDs, Option.map_some, c3', hrp, optR, l3']
  have t4 : ev (run Pg k) (.call 11 (.cons (.callk 16 1 [some 1, some 2, some 0] [] ["between", "sides", "fill"] (.cons (.var 1) (.nil)) (.cons (.var 5) (.cons (.var 3) (.cons (.var 4) (.nil))))) (.cons (.var 1) (.cons (.var 3) (.cons (.var 4) (.cons (.var 5) (.nil))))))) s5 = .ok (.d (.bl true)) s5 := by
    rw [hs5]
    simp only [ev, evs, getVar, List.getElem?_cons_zero, List.getElem?_cons_succ, R.bind, List.length_cons, List.length_nil, Nat.zero_add, Nat.reduceAdd, and_self, if_true, fillK, List.map_cons, List.map_nil, List.cons_append, List.nil_append, callR, toDs, Option.map_some, c4', optR, l4']
  unfold c_law_right
  refine (ex_step a1).trans ((ex_step (asg_v q2)).trans ((ex_step (asg_v q3)).trans ((ex_step a4).trans ?_)))
  rw [← hs5]
  exact (ex_step ((ite_f t1).trans ex_nil)).trans ((ex_step ((ite_f t2).trans ex_nil)).trans ((ex_step ((ite_f t3).trans ex_nil)).trans (ex_exit (ret_v t4))))
end
end Lw

namespace Lw
open Mp
open PySem (Str PyData)
def ins (p : Nat) (x : D) (l : List D) : List D := l.take p ++ x :: l.drop p
def base3 : List D := [.tup [.str "a", .str ""], .tup [.str "bc", .str "d"], .tup [.str "", .str " "]]
def xyD : D := .tup [.str "x", .str "yy"]
def oddA : List D := [.non, .str "ab", .lst [.str "a", .str "b"], .tup [], .tup [.str "a"], .tup [.str "a", .str "b", .str "c"], .tup [.str "a", .non], .tup [.int 0, .str "b"], .tup [.str "a", .lst [.str "b"]], .tup [.str "a", .str "b\n"]]
def oddB : List D := [.tup [.str (strRep 61 "a"), .str "b"], .tup [.str "a", .tup [.str "b"]], .dct [.str "a"] [.str "b"]]
def firstD : List D := [.non, .int 0, .str "ab", .lst [.tup [.str "a"]], .dct [] [], .tup [.str "a", .str "b"], .bl true]
def lastD : D := .tup [.tup (repL 9 [.str "a"])]
def badR (v : D) : Bool := pl1 v && !rowsB v
theorem bad_ins : ∀ u < 4, ∀ p < u + 2, ∀ x ∈ oddA ++ oddB, badR (.tup (ins p x (base3.take u ++ [xyD]))) = true := by decide +kernel
theorem bad_first : ∀ v ∈ firstD ++ [lastD], badR v = true := by decide +kernel
section
variable {k d n : Nat} {gs : List Cell}
def cOdd : T := (.cons (.asg 5 (.mk (.cat (.fz (.lof (.var 1))) (.fz (.lst (.cons (.tup (.cons (.cst (.str "x")) (.cons (.cst (.str "yy")) (.nil)))) (.nil)))))))
    (.cons (.exp (.insm (.var 5) (.call 5 (.cons (.var 0) (.cons (.bin .add (.bf .len (.cons (.var 5) (.nil))) (.cst (.int 1))) (.nil)))) (.var 4)))
    (.cons (.exp (.bm .append (.var 2) (.cons (.bf .tuple (.cons (.var 5) (.nil))) (.nil))))
    (.nil))))
abbrev eW (d : Nat) (rows sm : List D) (e4 e5 : Option Val) : List (Option Val) := [some (.d (.ref d)), some (.d (.lst rows)), some (.own 0), some (.d (.lst sm)), e4, e5]
theorem odd_turn {rows sm acc : List D} {x : D} {fs : List Cell} {e5 : Option Val} (hk : 1 ≤ k) (hr : rows.length ≤ 3) (hf : fs[0]? = some (.lst acc)) (ha : acc.length < 100) (hD : Dice gs d (n + 1)) :
    ∃ p e5' fs' gs', ex (run Pg k) cOdd ⟨eW d rows sm (some (.d x)) e5, fs, gs⟩ = .ok .nx ⟨eW d rows sm (some (.d x)) e5', fs', gs'⟩ ∧ fs'[0]? = some (.lst (acc ++ [.tup (ins p x (rows ++ [xyD]))])) ∧ p < rows.length + 2 ∧ Dice gs' d n ∧ Kp d gs gs' := by
  have hfl : 0 < fs.length := (List.getElem?_eq_some_iff.mp hf).1
  obtain ⟨r, g1, q1, r0, r1, D1, K1⟩ := roll (k := k) (m := (rows.length : Int) + 1 + 1) (n := n) (gs := gs) hk hD (by omega) (by omega)
  obtain ⟨p, rfl⟩ : ∃ p : Nat, r = (p : Int) := ⟨r.toNat, by omega⟩
  have q1' : run Pg k 5 [.ref d, .int ((rows.length : Int) + 1 + 1)] gs = .ok (.int (p : Nat)) g1 := q1
  have hj : ∀ c : Cell, (fs ++ [c])[fs.length]? = some c := fun c => by simp
  have h0 : ∀ c : Cell, (fs ++ [c])[0]? = some (.lst acc) := fun c => by rw [List.getElem?_append_left hfl]; exact hf
  have l1 : 1 ≤ LINE := by decide
  have l2 : 2 ≤ LINE := by decide
  have l3 : rows.length + 1 ≤ LINE := by simp only [LINE]; omega
  have a1 : ex (run Pg k) (.asg 5 (.mk (.cat (.fz (.lof (.var 1))) (.fz (.lst (.cons (.tup (.cons (.cst (.str "x")) (.cons (.cst (.str "yy")) (.nil)))) (.nil))))))) ⟨eW d rows sm (some (.d x)) e5, fs, gs⟩ = .ok .nx ⟨eW d rows sm (some (.d x)) (some (.own fs.length)), fs ++ [.lst (rows ++ [xyD])], gs⟩ := by
    refine asg_v (v := .own fs.length) (s1 := ⟨eW d rows sm (some (.d x)) e5, fs ++ [.lst (rows ++ [xyD])], gs⟩) ?_
    simp only [ev, evF, evs, getVar, List.getElem?_cons_zero, List.getElem?_cons_succ, R.bind, seqv, toDs, Option.map_some, List.length_cons, List.length_nil, Nat.zero_add, Nat.reduceAdd, l1, l2, l3, if_true, lsto, xyD]
  have a2 : ev (run Pg k) (.insm (.var 5) (.call 5 (.cons (.var 0) (.cons (.bin .add (.bf .len (.cons (.var 5) (.nil))) (.cst (.int 1))) (.nil)))) (.var 4)) ⟨eW d rows sm (some (.d x)) (some (.own fs.length)), fs ++ [.lst (rows ++ [xyD])], gs⟩ = .ok (.d .non) ⟨eW d rows sm (some (.d x)) (some (.own fs.length)), fs ++ [.lst (ins p x (rows ++ [xyD]))], g1⟩ := by
    have c1 : (rows ++ [xyD]).length < LINE ∧ (0 : Int) ≤ (p : Int) ∧ (p : Int) ≤ (LINE : Int) := by
      rw [List.length_append, List.length_singleton]
      simp only [LINE]
      omega
    have e1 : ((rows ++ [xyD]).length : Int) + 1 = (rows.length : Int) + 1 + 1 := by rw [List.length_append, List.length_singleton]; omega
    simp only [ev, evs, getVar, List.getElem?_cons_zero, List.getElem?_cons_succ, R.bind, bfn, seqv, hj, binop, e1, callR, toDs, Option.map_some, q1', insV, if_pos c1, Int.toNat_natCast]
    congr 1
    simp [ins]
  have a3 := v_append (Γ := run Pg k) (e := .bf .tuple (.cons (.var 5) .nil)) (i := 2) (j := 0) (xs := acc) (ys := acc) (d := .tup (ins p x (rows ++ [xyD]))) (s := ⟨eW d rows sm (some (.d x)) (some (.own fs.length)), fs ++ [.lst (ins p x (rows ++ [xyD]))], g1⟩) (s1 := ⟨eW d rows sm (some (.d x)) (some (.own fs.length)), fs ++ [.lst (ins p x (rows ++ [xyD]))], g1⟩) rfl (h0 _) (by
    simp only [ev, evs, getVar, List.getElem?_cons_zero, List.getElem?_cons_succ, R.bind, bfn, seqv, hj]) (h0 _) (by simp only [LINE]; omega)
  refine ⟨p, some (.own fs.length), (fs ++ [Cell.lst (ins p x (rows ++ [xyD]))]).set 0 (Cell.lst (acc ++ [D.tup (ins p x (rows ++ [xyD]))])), g1, ?_, getset (h0 _), by omega, D1, K1⟩
  unfold cOdd
  exact (ex_step a1).trans ((ex_step (exp_v a2)).trans ((ex_step (exp_v a3)).trans ex_nil))
theorem odds_go {rows sm : List D} (hk : 1 ≤ k) (hr : rows.length ≤ 3) : ∀ (xs acc : List D) (e4 e5 : Option Val) (fs gs : List Cell), fs[0]? = some (.lst acc) → acc.length + xs.length ≤ 50 → Dice gs d (n + xs.length) →
    ∃ L e4' e5' fs' gs', forGo [4] (ex (run Pg k) cOdd) xs ⟨eW d rows sm e4 e5, fs, gs⟩ = .ok .nx ⟨eW d rows sm e4' e5', fs', gs'⟩ ∧ fs'[0]? = some (.lst (acc ++ L)) ∧ L.length = xs.length ∧ (∀ v ∈ L, ∃ x ∈ xs, ∃ p < rows.length + 2, v = .tup (ins p x (rows ++ [xyD]))) ∧ Dice gs' d n ∧ Kp d gs gs'
  | [], acc, e4, e5, fs, gs, hf, _, hD => ⟨[], e4, e5, fs, gs, rfl, by rw [List.append_nil]; exact hf, rfl, by simp, hD, Kp.refl⟩
  | x :: xs, acc, e4, e5, fs, gs, hf, hl, hD => by
    simp only [List.length_cons] at hl hD
    obtain ⟨p, e5', fs1, g1, q1, hf1, hp, D1, K1⟩ := odd_turn (k := k) (d := d) (n := n + xs.length) (sm := sm) (x := x) (e5 := e5) hk hr hf (by omega) (hD.mono (by omega))
    obtain ⟨L, e4', e5'', fs', gs', q2, hf2, l1, l2, D2, K2⟩ := odds_go (sm := sm) hk hr xs (acc ++ [.tup (ins p x (rows ++ [xyD]))]) (some (.d x)) e5' fs1 g1 hf1 (by rw [List.length_append, List.length_singleton]; omega) D1
    refine ⟨.tup (ins p x (rows ++ [xyD])) :: L, e4', e5'', fs', gs', ?_, by rw [hf2]; simp, by simp [l1], fun v hv => ?_, D2, K1.trans K2⟩
    · have b : bindTs [4] x ⟨eW d rows sm e4 e5, fs, gs⟩ = some ⟨eW d rows sm (some (.d x)) e5, fs, gs⟩ := rfl
      rw [forGo]
      simp only [b, q1, R.bind, q2]
    · rcases List.mem_cons.mp hv with rfl | hv
      · exact ⟨x, List.mem_cons_self, p, hp, rfl⟩
      · obtain ⟨y, hy, z⟩ := l2 v hv
        exact ⟨y, List.mem_cons_of_mem _ hy, z⟩
theorem cut_to {xs : List D} {m : Nat} (h : m ≤ xs.length) : cutD xs none (some (m : Int)) = xs.take m := by
  unfold cutD
  rw [HT.sIx_nat, HT.sIx_none, Nat.min_eq_left h]
  simp
theorem wrong_ok (hk : 2 ≤ k) (hD : Dice gs d (n + 20)) : ∃ L gs', run Pg k f_law_wrong_rows [.ref d] gs = .ok (.lst L) gs' ∧ (∀ v ∈ L, badR v = true) ∧ L.length ≤ 30 ∧ Dice gs' d n ∧ Kp d gs gs' := by
  obtain ⟨k, rfl⟩ : ∃ j, k = j + 1 := ⟨k - 1, by omega⟩
  obtain ⟨r, g1, q1, r0, r1, D1, K1⟩ := roll (k := k) (m := 4) (n := n + 19) (gs := gs) (by omega) hD (by omega) (by omega)
  obtain ⟨u, rfl⟩ : ∃ u : Nat, r = (u : Int) := ⟨r.toNat, by omega⟩
  have q1' : run Pg k 5 [.ref d, .int 4] gs = .ok (.int (u : Nat)) g1 := q1
  have hu : u ≤ 3 := by omega
  have hb3 : base3.length = 3 := rfl
  have hrl : (base3.take u).length ≤ 3 := by rw [List.length_take]; omega
  obtain ⟨L, e4', e5', fs', g2, q2, hf2, l1, l2, D2, K2⟩ := odds_go (k := k) (d := d) (n := n) (rows := base3.take u) (sm := oddA) (by omega) hrl (oddA ++ oddB) firstD none none [.lst firstD] g1 rfl (by decide) (D1.mono (by show n + 13 ≤ n + 19; omega))
  have hL13 : L.length = 13 := l1
  refine ⟨firstD ++ L ++ [lastD], g2, ?_, fun v hv => ?_, by simp [hL13, firstD], D2, K1.trans K2⟩
  · rw [run_s]
    refine runF_rt (s1 := ⟨eW d (base3.take u) oddA e4' e5', fs', g2⟩) rfl ?_
    show ex (run Pg k) c_law_wrong_rows ⟨[some (.d (.ref d)), none, none, none, none, none], [], gs⟩ = _
    have a1 : ex (run Pg k) (.asg 1 (.sl (.fz (.lst (.cons (.tup (.cons (.cst (.str "a")) (.cons (.cst (.str "")) (.nil)))) (.cons (.tup (.cons (.cst (.str "bc")) (.cons (.cst (.str "d")) (.nil)))) (.cons (.tup (.cons (.cst (.str "")) (.cons (.cst (.str " ")) (.nil)))) (.nil)))))) (.nil) (.call 5 (.cons (.var 0) (.cons (.cst (.int 4)) (.nil)))))) ⟨[some (.d (.ref d)), none, none, none, none, none], [], gs⟩ = .ok .nx ⟨[some (.d (.ref d)), some (.d (.lst (base3.take u))), none, none, none, none], [], g1⟩ := by
      refine asg_v (v := .d (.lst (base3.take u))) (s1 := ⟨[some (.d (.ref d)), none, none, none, none, none], [], g1⟩) ?_
      have hcut : cutD base3 none (some (u : Int)) = base3.take u := cut_to (by rw [hb3]; exact hu)
      have l2 : 2 ≤ LINE := by decide
      have l3 : 3 ≤ LINE := by decide
      simp only [ev, evF, evs, evO, getVar, List.getElem?_cons_zero, R.bind, toDs, Option.map_some, List.length_cons, List.length_nil, Nat.zero_add, Nat.reduceAdd, l2, l3, if_true, callR, q1', slVal, seqv]
      rw [← hcut]
      rfl
    have a2 : ex (run Pg k) (.asg 2 (.mk (.lst (.cons (.cst (.non)) (.cons (.cst (.int 0)) (.cons (.cst (.str "ab")) (.cons (.fz (.lst (.cons (.tup (.cons (.cst (.str "a")) (.nil))) (.nil)))) (.cons (.dct (.nil)) (.cons (.tup (.cons (.cst (.str "a")) (.cons (.cst (.str "b")) (.nil)))) (.cons (.cst (.bl true)) (.nil))))))))))) ⟨[some (.d (.ref d)), some (.d (.lst (base3.take u))), none, none, none, none], [], g1⟩ = .ok .nx ⟨[some (.d (.ref d)), some (.d (.lst (base3.take u))), some (.own 0), none, none, none], [.lst firstD], g1⟩ := by
      refine asg_v (v := .own 0) (s1 := ⟨[some (.d (.ref d)), some (.d (.lst (base3.take u))), none, none, none, none], [.lst firstD], g1⟩) ?_
      simp [ev, evs, evF, toDs, pairsK, nodupK, LINE, firstD]
    have a3 : ex (run Pg k) (.asg 3 (.fz (.lst (.cons (.cst (.non)) (.cons (.cst (.str "ab")) (.cons (.fz (.lst (.cons (.cst (.str "a")) (.cons (.cst (.str "b")) (.nil))))) (.cons (.tup (.nil)) (.cons (.tup (.cons (.cst (.str "a")) (.nil))) (.cons (.tup (.cons (.cst (.str "a")) (.cons (.cst (.str "b")) (.cons (.cst (.str "c")) (.nil))))) (.cons (.tup (.cons (.cst (.str "a")) (.cons (.cst (.non)) (.nil)))) (.cons (.tup (.cons (.cst (.int 0)) (.cons (.cst (.str "b")) (.nil)))) (.cons (.tup (.cons (.cst (.str "a")) (.cons (.fz (.lst (.cons (.cst (.str "b")) (.nil)))) (.nil)))) (.cons (.tup (.cons (.cst (.str "a")) (.cons (.cst (.str "b\n")) (.nil)))) (.nil)))))))))))))) ⟨[some (.d (.ref d)), some (.d (.lst (base3.take u))), some (.own 0), none, none, none], [.lst firstD], g1⟩ = .ok .nx ⟨eW d (base3.take u) oddA none none, [.lst firstD], g1⟩ := by
      refine asg_v (v := .d (.lst oddA)) (s1 := ⟨[some (.d (.ref d)), some (.d (.lst (base3.take u))), some (.own 0), none, none, none], [.lst firstD], g1⟩) ?_
      simp [ev, evs, evF, toDs, LINE, oddA]
    have ha1 : ("a" : Str).length = 1 := by decide +kernel
    have a4 : ex (run Pg k) (.for_ [4] (.it (.bin .add (.var 3) (.fz (.lst (.cons (.tup (.cons (.rep (.cst (.str "a")) (.cst (.int 61))) (.cons (.cst (.str "b")) (.nil)))) (.cons (.tup (.cons (.cst (.str "a")) (.cons (.tup (.cons (.cst (.str "b")) (.nil))) (.nil)))) (.cons (.dct (.cons (.cst (.str "a")) (.cons (.cst (.str "b")) (.nil)))) (.nil)))))))) cOdd) ⟨eW d (base3.take u) oddA none none, [.lst firstD], g1⟩ = .ok .nx ⟨eW d (base3.take u) oddA e4' e5', fs', g2⟩ := by
      have hb : ev (run Pg k) (.fz (.lst (.cons (.tup (.cons (.rep (.cst (.str "a")) (.cst (.int 61))) (.cons (.cst (.str "b")) (.nil)))) (.cons (.tup (.cons (.cst (.str "a")) (.cons (.tup (.cons (.cst (.str "b")) (.nil))) (.nil)))) (.cons (.dct (.cons (.cst (.str "a")) (.cons (.cst (.str "b")) (.nil)))) (.nil)))))) ⟨eW d (base3.take u) oddA none none, [.lst firstD], g1⟩ = .ok (.d (.lst oddB)) ⟨eW d (base3.take u) oddA none none, [.lst firstD], g1⟩ := by
        simp [ev, evs, evF, toDs, pairsK, nodupK, LINE, oddB, repV, ha1, optR, keyD]
      have hl : oddA.length + oddB.length ≤ LINE := by decide
      have hi : evI (run Pg k) (.it (.bin .add (.var 3) (.fz (.lst (.cons (.tup (.cons (.rep (.cst (.str "a")) (.cst (.int 61))) (.cons (.cst (.str "b")) (.nil)))) (.cons (.tup (.cons (.cst (.str "a")) (.cons (.tup (.cons (.cst (.str "b")) (.nil))) (.nil)))) (.cons (.dct (.cons (.cst (.str "a")) (.cons (.cst (.str "b")) (.nil)))) (.nil)))))))) ⟨eW d (base3.take u) oddA none none, [.lst firstD], g1⟩ = .ok (oddA ++ oddB) ⟨eW d (base3.take u) oddA none none, [.lst firstD], g1⟩ := by
        simp only [evI, ev.eq_def (run Pg k) (.bin _ _ _), v_var (i := 3) (v := .d (.lst oddA)) (s := ⟨eW d (base3.take u) oddA none none, [.lst firstD], g1⟩) rfl, hb, R.bind, binop, lsto, if_pos hl]
      rw [ex.eq_def]
      simp only [hi, R.bind]
      exact q2
    unfold c_law_wrong_rows
    refine (ex_step a1).trans ((ex_step a2).trans ((ex_step a3).trans ((ex_step a4).trans (ex_exit (ret_v ?_)))))
    have hb : ev (run Pg k) (.fz (.lst (.cons (.tup (.cons (.rep (.tup (.cons (.cst (.str "a")) (.nil))) (.cst (.int 9))) (.nil))) (.nil)))) ⟨eW d (base3.take u) oddA e4' e5', fs', g2⟩ = .ok (.d (.lst [lastD])) ⟨eW d (base3.take u) oddA e4' e5', fs', g2⟩ := by
      simp [ev, evs, evF, toDs, LINE, lastD, repV, optR]
    have hl : (firstD ++ L).length + [lastD].length ≤ LINE := by rw [List.length_append, hL13]; decide
    rw [ev.eq_def]
    simp only [v_var (i := 2) (v := .own 0) (s := ⟨eW d (base3.take u) oddA e4' e5', fs', g2⟩) rfl, hb, R.bind, binop, lsto, hf2, if_pos hl]
  · rcases List.mem_append.mp hv with hv | hv
    · rcases List.mem_append.mp hv with hv | hv
      · exact bad_first v (List.mem_append_left _ hv)
      · obtain ⟨x, hx, p, hp, rfl⟩ := l2 v hv
        exact bad_ins u (by omega) p (by rw [List.length_take, hb3] at hp; omega) x hx
    · exact bad_first v (List.mem_append_right _ hv)
end
end Lw

namespace Lw
open Mp
open PySem (Str PyData)
def cHs : E := .hdE "InvalidOperation" ["InvalidOperation"] none (.cst (.str "operation")) .nil
section
variable {Γ : Callee} {s s1 : S} {e : E}
theorem met_no (h : ev Γ e s = .ex ⟨"InvalidOperation", [], []⟩ s1) : ev Γ (.met 17 e (.con (.str "fine")) cHs) s = .ok (.d (.str "operation")) s1 := by
  have q : hnd (hsT cHs) ⟨"InvalidOperation", [], []⟩ ⟨[], [], []⟩ = .ok (.rt (.d (.str "operation"))) ⟨[], [], []⟩ := by
    simp [cHs, hsT, hnd, hvE, plainD, clrS]
  rw [ev.eq_def]
  simp only [h, q]
theorem met_yes {d : D} (h : ev Γ e s = .ok (.d d) s1) : ev Γ (.met 17 e (.con (.str "fine")) cHs) s = .ok (.d (.str "fine")) s1 := by
  rw [ev.eq_def]
  simp only [h, okV]
theorem ne_op {a b : E} (h : ev Γ a s = .ok (.d (.str "operation")) s1) : evT Γ (.cmp .ne a (.cst (.str "operation"))) s = .ok false s1 := by
  refine t_cmp ?_
  simp only [ev, h, R.bind, cmpop, eq_str, decide_true, Option.map_some, Bool.not_true, optR]
end
theorem v_and {Γ : Callee} {a b : E} {s : S} {r : R Val} (h : ev Γ a s = .ok (.d (.bl true)) s) (h2 : ev Γ b s = r) : ev Γ (.and_ a b) s = r := by
  rw [ev.eq_def]
  simp only [h, R.bind, truth, optR, if_true, h2]
theorem v_eqs {Γ : Callee} {a : E} {s s1 : S} {x y : Str} (h : ev Γ a s = .ok (.d (.str x)) s1) (e : x = y) : ev Γ (.cmp .eq a (.cst (.str y))) s = .ok (.d (.bl true)) s1 := by
  rw [ev.eq_def]
  simp only [h, v_cst, R.bind, cmpop, eq_str, e, decide_true, optR]
theorem good_bad {v a b c : D} (h : rowsB v = false) : goodB v a b c = false := by
  unfold rowsB at h
  unfold goodB
  split at h
  · split at h
    · rename_i hT
      simp only [hT, h, Bool.false_and]
    · rename_i hT
      simp only [hT]
  · rename_i hn
    cases v <;> first
      | rfl
      | exact absurd rfl (hn _)
def rowsC : List (List (List Nat)) := [[[97], [98]], [[], [99, 99]]]
def rowsCD : D := .tup [.tup [.str "a", .str "b"], .tup [.str "", .str "cc"]]
theorem rowsC_eq : rowsCD = .tup ((rD rowsC).map D.tup) := by
  have h1 : ("a" : Str) = mkS [97] := by decide +kernel
  have h2 : ("b" : Str) = mkS [98] := by decide +kernel
  have h3 : ("cc" : Str) = mkS [99, 99] := by decide +kernel
  unfold rowsCD
  rw [h1, h2, h3, s_no]
  rfl
theorem rowsC_ok : RowsOk 2 rowsC := ⟨by decide, by decide, by decide, by decide, by decide⟩
def oddS : List D := [.non, .int 0, .str "<", .str "<>^", .str "<x", .str "< ", .lst [.str "<", .str ">"], .tup [.str "<", .str ">"], .bl true, .dct [] [], .str "<>\n"]
def oddF : List D := [.non, .int 0, .str "", .str "ab", .str "\n", .bl true, .lst [.str " "], .tup [], .dct [] []]
def oddG : List D := [.non, .int 0, .str (strRep 11 "a"), .str "\n", .str "a\n", .bl true, .lst [], .tup [], .dct [] []]
theorem bad_S : ∀ x ∈ oddS, (pl0 x && !goodB rowsCD x (.str " ") (.str " ")) = true := by decide +kernel
theorem bad_F : ∀ v ∈ [rowsCD, .tup []], ∀ x ∈ oddF, (pl1 v && pl0 x && !goodB v (.str "") x (.str " ")) = true := by decide +kernel
theorem bad_G : ∀ v ∈ [rowsCD, .tup []], ∀ x ∈ oddG, (pl1 v && pl0 x && !goodB v (.str "") (.str " ") x) = true := by decide +kernel
theorem bad_9 : (pl1 (.tup []) && pl0 (.str (strRep 9 "<")) && !goodB (.tup []) (.str (strRep 9 "<")) (.str " ") (.str " ")) = true := by decide +kernel
theorem bad_a : (pl1 (.tup []) && pl0 (.str "<a") && !goodB (.tup []) (.str "<a") (.str " ") (.str " ")) = true := by decide +kernel
theorem pl_C : pl1 rowsCD = true := by decide +kernel
theorem pl_sp : pl0 (.str " ") = true := by decide +kernel
theorem pl_no : pl0 (.str "") = true := by decide +kernel
section
variable {k d n : Nat} {gs : List Cell}
abbrev eX (d : Nat) (e1 e2 e3 : Option Val) : List (Option Val) := [some (.d (.ref d)), e1, e2, e3]
/-- a loop over values that are refused -/
theorem odd_loop {body : S → R Fl} {F : List Cell} : ∀ (xs : List D) (e2 : Option Val) (gs : List Cell), (∀ x ∈ xs, ∀ (m : Nat) (G : List Cell), Dice G d (m + 1) → ∃ G', body ⟨eX d (some (.d rowsCD)) (some (.d x)) none, F, G⟩ = .ok .nx ⟨eX d (some (.d rowsCD)) (some (.d x)) none, F, G'⟩ ∧ Dice G' d m ∧ Kp d G G') → Dice gs d (n + xs.length) →
    ∃ e2' gs', forGo [2] body xs ⟨eX d (some (.d rowsCD)) e2 none, F, gs⟩ = .ok .nx ⟨eX d (some (.d rowsCD)) e2' none, F, gs'⟩ ∧ Dice gs' d n ∧ Kp d gs gs'
  | [], e2, gs, _, hD => ⟨e2, gs, rfl, hD, Kp.refl⟩
  | x :: xs, e2, gs, h, hD => by
    simp only [List.length_cons] at hD
    obtain ⟨g1, q1, D1, K1⟩ := h x List.mem_cons_self (n + xs.length) gs (by rw [Nat.add_assoc]; exact hD)
    obtain ⟨e2', gs', q2, D2, K2⟩ := odd_loop xs (some (.d x)) g1 (fun y hy => h y (List.mem_cons_of_mem _ hy)) D1
    refine ⟨e2', gs', ?_, D2, K1.trans K2⟩
    have b : bindTs [2] x ⟨eX d (some (.d rowsCD)) e2 none, F, gs⟩ = some ⟨eX d (some (.d rowsCD)) (some (.d x)) none, F, gs⟩ := rfl
    rw [forGo]
    simp only [b, q1, R.bind, q2]
theorem for_ok {xs : List D} {it : E} {b : T} {s1 s2 : S} (hi : evI (run Pg k) it s1 = .ok xs s1) (hf : forGo [2] (ex (run Pg k) b) xs s1 = .ok .nx s2) : ex (run Pg k) (.for_ [2] it b) s1 = .ok .nx s2 := by
  rw [ex.eq_def]
  simp only [hi, R.bind]
  exact hf
theorem skip {t : E} {r : T} {s1 s2 : S} (h : evT (run Pg k) t s1 = .ok false s2) : ex (run Pg k) (.cons (.ite t r .nil) .nil) s1 = .ok .nx s2 := (ex_step ((ite_f h).trans ex_nil)).trans ex_nil
theorem it_fz {f : E} {xs : List D} {s : S} (h : evF (run Pg k) f s = .ok xs s) : evI (run Pg k) (.it (.fz f)) s = .ok xs s := by
  simp only [evI, ev, h, R.bind]
theorem refused_ok (hk : 6 ≤ k) (hD : Dice gs d (n + 100)) : ∃ gs', run Pg k f_law_refused [.ref d] gs = .ok (.bl true) gs' ∧ Dice gs' d n ∧ Kp d gs gs' := by
  obtain ⟨k, rfl⟩ : ∃ j, k = j + 1 := ⟨k - 1, by omega⟩
  obtain ⟨L, g1, q1, hL, hl, D1, K1⟩ := wrong_ok (k := k) (d := d) (n := n + 80) (gs := gs) (by omega) hD
  have q1' : run Pg k 13 [.ref d] gs = .ok (.lst L) g1 := q1
  have C : ∀ {v a f b : D} (G : List Cell), pl1 v = true → pl0 a = true → pl0 f = true → pl0 b = true → goodB v a f b = false → run Pg k 16 [v, a, f, b] G = .ex ⟨"InvalidOperation", [], []⟩ G := fun G h1 h2 h3 h4 h5 => cols_no (by omega) h1 h2 h3 h4 h5
  -- the first loop
  obtain ⟨z1, g2, q2, D2, K2⟩ := odd_loop (n := n + 50) (d := d) (F := []) (body := ex (run Pg k) (.cons (.ite (.cmp .ne (.met 17 (.callk 16 1 [none, none, none] [.str "", .str " ", .str " "] [] (.cons (.var 2) (.nil)) (.nil)) (.con (.str "fine")) cHs) (.cst (.str "operation"))) (.cons (.ret (.cst (.bl false))) (.nil)) (.nil)) (.nil))) L none g1 (fun x hx m G hG => by
    have hb := hL x hx
    simp only [badR, Bool.and_eq_true, Bool.not_eq_true'] at hb
    have c := C G hb.1 pl_no pl_sp pl_sp (good_bad hb.2 (a := .str "") (b := .str " ") (c := .str " "))
    refine ⟨G, skip (ne_op (b := .nil) (met_no (s1 := ⟨eX d (some (.d rowsCD)) (some (.d x)) none, [], G⟩) ?_)), hG.mono (by omega), Kp.refl⟩
    simp only [ev, evs, getVar, List.getElem?_cons_zero, List.getElem?_cons_succ, R.bind, List.length_cons, List.length_nil, Nat.zero_add, and_self, if_true, fillK, List.map_cons, List.map_nil, List.cons_append, List.nil_append, callR, toDs, Option.map_some, c]) (D1.mono (by omega))
  obtain ⟨z2, g3, q3, D3, K3⟩ := odd_loop (n := n + 35) (d := d) (F := []) (body := ex (run Pg k) (.cons (.ite (.cmp .ne (.met 17 (.callk 16 1 [some 0, none, none] [.str " ", .str " "] ["sides"] (.cons (.var 1) (.nil)) (.cons (.var 2) (.nil))) (.con (.str "fine")) cHs) (.cst (.str "operation"))) (.cons (.ret (.cst (.bl false))) (.nil)) (.nil)) (.nil))) oddS z1 g2 (fun x hx m G hG => by
    have hb := bad_S x hx
    simp only [Bool.and_eq_true, Bool.not_eq_true'] at hb
    have c := C G pl_C hb.1 pl_sp pl_sp hb.2
    refine ⟨G, skip (ne_op (b := .nil) (met_no (s1 := ⟨eX d (some (.d rowsCD)) (some (.d x)) none, [], G⟩) ?_)), hG.mono (by omega), Kp.refl⟩
    simp only [ev, evs, getVar, List.getElem?_cons_zero, List.getElem?_cons_succ, R.bind, List.length_cons, List.length_nil, Nat.zero_add, and_self, if_true, fillK, List.map_cons, List.map_nil, List.cons_append, List.nil_append, callR, toDs, Option.map_some, c]) (D2.mono (by show n + 35 + 11 ≤ n + 50; omega))
  have l2 : 2 ≤ LINE := by decide
  obtain ⟨z3, g4, q4, D4, K4⟩ := odd_loop (n := n + 20) (d := d) (F := []) (body := ex (run Pg k) (.cons (.ite (.cmp .ne (.met 17 (.callk 16 1 [none, some 0, none] [.str "", .str " "] ["fill"] (.cons (.call 6 (.cons (.var 0) (.cons (.fz (.lst (.cons (.var 1) (.cons (.tup (.nil)) (.nil))))) (.nil)))) (.nil)) (.cons (.var 2) (.nil))) (.con (.str "fine")) cHs) (.cst (.str "operation"))) (.cons (.ret (.cst (.bl false))) (.nil)) (.nil)) (.nil))) oddF z2 g3 (fun x hx m G hG => by
    obtain ⟨v, G', p, hv, D', K'⟩ := pick (k := k) (d := d) (n := m) (xs := [rowsCD, .tup []]) (gs := G) (by omega) hG (by decide) (by decide)
    have p' : run Pg k 6 [.ref d, .lst [rowsCD, .tup []]] G = .ok v G' := p
    have hb := bad_F v hv x hx
    simp only [Bool.and_eq_true, Bool.not_eq_true'] at hb
    have c := C G' hb.1.1 pl_no hb.1.2 pl_sp hb.2
    refine ⟨G', skip (ne_op (b := .nil) (met_no (s1 := ⟨eX d (some (.d rowsCD)) (some (.d x)) none, [], G'⟩) ?_)), D', K'⟩
    simp only [ev, evs, evF, getVar, List.getElem?_cons_zero, List.getElem?_cons_succ, R.bind, List.length_cons, List.length_nil, Nat.zero_add, Nat.reduceAdd, Nat.zero_le, l2, and_self, if_true, fillK, List.map_cons, List.map_nil, List.cons_append, List.nil_append, callR, toDs, Option.map_some, p', c]) (D3.mono (by show n + 20 + 9 ≤ n + 35; omega))
  obtain ⟨z4, g5, q5, D5, K5⟩ := odd_loop (n := n) (d := d) (F := []) (body := ex (run Pg k) (.cons (.ite (.cmp .ne (.met 17 (.callk 16 1 [none, none, some 0] [.str "", .str " "] ["between"] (.cons (.call 6 (.cons (.var 0) (.cons (.fz (.lst (.cons (.var 1) (.cons (.tup (.nil)) (.nil))))) (.nil)))) (.nil)) (.cons (.var 2) (.nil))) (.con (.str "fine")) cHs) (.cst (.str "operation"))) (.cons (.ret (.cst (.bl false))) (.nil)) (.nil)) (.nil))) oddG z3 g4 (fun x hx m G hG => by
    obtain ⟨v, G', p, hv, D', K'⟩ := pick (k := k) (d := d) (n := m) (xs := [rowsCD, .tup []]) (gs := G) (by omega) hG (by decide) (by decide)
    have p' : run Pg k 6 [.ref d, .lst [rowsCD, .tup []]] G = .ok v G' := p
    have hb := bad_G v hv x hx
    simp only [Bool.and_eq_true, Bool.not_eq_true'] at hb
    have c := C G' hb.1.1 pl_no pl_sp hb.1.2 hb.2
    refine ⟨G', skip (ne_op (b := .nil) (met_no (s1 := ⟨eX d (some (.d rowsCD)) (some (.d x)) none, [], G'⟩) ?_)), D', K'⟩
    simp only [ev, evs, evF, getVar, List.getElem?_cons_zero, List.getElem?_cons_succ, R.bind, List.length_cons, List.length_nil, Nat.zero_add, Nat.reduceAdd, Nat.zero_le, l2, and_self, if_true, fillK, List.map_cons, List.map_nil, List.cons_append, List.nil_append, callR, toDs, Option.map_some, p', c]) (D4.mono (by show n + 9 ≤ n + 20; omega))
  refine ⟨g5, ?_, D5, K1.trans (K2.trans (K3.trans (K4.trans K5)))⟩
  rw [run_s]
  refine runF_rt (s1 := ⟨eX d (some (.d rowsCD)) z4 (some (.own 0)), [.lst [.str "operation", .str "operation"]], g5⟩) rfl ?_
  show ex (run Pg k) c_law_refused ⟨eX d none none none, [], gs⟩ = _
  have ha1 : ("a" : Str).length = 1 := by decide +kernel
  have hlt1 : ("<" : Str).length = 1 := by decide +kernel
  have a1 : ex (run Pg k) (.asg 1 (.tup (.cons (.tup (.cons (.cst (.str "a")) (.cons (.cst (.str "b")) (.nil)))) (.cons (.tup (.cons (.cst (.str "")) (.cons (.cst (.str "cc")) (.nil)))) (.nil))))) ⟨eX d none none none, [], gs⟩ = .ok .nx ⟨eX d (some (.d rowsCD)) none none, [], gs⟩ := by
    refine asg_v (v := .d rowsCD) (s1 := ⟨eX d none none none, [], gs⟩) ?_
    simp [ev, evs, toDs, LINE, rowsCD]
  have i2 : evI (run Pg k) (.it (.call 13 (.cons (.var 0) (.nil)))) ⟨eX d (some (.d rowsCD)) none none, [], gs⟩ = .ok L ⟨eX d (some (.d rowsCD)) none none, [], g1⟩ := by
    simp only [evI, ev, evs, getVar, List.getElem?_cons_zero, R.bind, callR, toDs, Option.map_some, q1']
  have a2 : ex (run Pg k) (.for_ [2] (.it (.call 13 (.cons (.var 0) (.nil)))) (.cons (.ite (.cmp .ne (.met 17 (.callk 16 1 [none, none, none] [.str "", .str " ", .str " "] [] (.cons (.var 2) (.nil)) (.nil)) (.con (.str "fine")) cHs) (.cst (.str "operation"))) (.cons (.ret (.cst (.bl false))) (.nil)) (.nil)) (.nil))) ⟨eX d (some (.d rowsCD)) none none, [], gs⟩ = .ok .nx ⟨eX d (some (.d rowsCD)) z1 none, [], g2⟩ := by
    rw [ex.eq_def]
    simp only [i2, R.bind]
    exact q2
  have a3 := for_ok (k := k) (it := .it (.fz (.lst (.cons (.cst (.non)) (.cons (.cst (.int 0)) (.cons (.cst (.str "<")) (.cons (.cst (.str "<>^")) (.cons (.cst (.str "<x")) (.cons (.cst (.str "< ")) (.cons (.fz (.lst (.cons (.cst (.str "<")) (.cons (.cst (.str ">")) (.nil))))) (.cons (.tup (.cons (.cst (.str "<")) (.cons (.cst (.str ">")) (.nil)))) (.cons (.cst (.bl true)) (.cons (.dct (.nil)) (.cons (.cst (.str "<>\n")) (.nil)))))))))))))))
    (it_fz (by simp [ev, evs, evF, toDs, pairsK, nodupK, LINE, oddS])) q3
  have a4 := for_ok (k := k) (it := .it (.fz (.lst (.cons (.cst (.non)) (.cons (.cst (.int 0)) (.cons (.cst (.str "")) (.cons (.cst (.str "ab")) (.cons (.cst (.str "\n")) (.cons (.cst (.bl true)) (.cons (.fz (.lst (.cons (.cst (.str " ")) (.nil)))) (.cons (.tup (.nil)) (.cons (.dct (.nil)) (.nil)))))))))))))
    (it_fz (by simp [ev, evs, evF, toDs, pairsK, nodupK, LINE, oddF])) q4
  have a5 := for_ok (k := k) (it := .it (.fz (.lst (.cons (.cst (.non)) (.cons (.cst (.int 0)) (.cons (.rep (.cst (.str "a")) (.cst (.int 11))) (.cons (.cst (.str "\n")) (.cons (.cst (.str "a\n")) (.cons (.cst (.bl true)) (.cons (.fz (.lst (.nil))) (.cons (.tup (.nil)) (.cons (.dct (.nil)) (.nil)))))))))))))
    (it_fz (by simp [ev, evs, evF, toDs, pairsK, nodupK, LINE, oddG, repV, ha1, optR])) q5
  have hb9 := bad_9
  have hba := bad_a
  simp only [Bool.and_eq_true, Bool.not_eq_true'] at hb9 hba
  have c9 := C g5 hb9.1.1 hb9.1.2 pl_sp pl_sp hb9.2
  have ca := C g5 hba.1.1 hba.1.2 pl_sp pl_sp hba.2
  have m9 : ev (run Pg k) (.met 17 (.callk 16 1 [some 0, none, none] [.str " ", .str " "] ["sides"] (.cons (.tup (.nil)) (.nil)) (.cons (.rep (.cst (.str "<")) (.cst (.int 9))) (.nil))) (.con (.str "fine")) cHs) ⟨eX d (some (.d rowsCD)) z4 none, [], g5⟩ = .ok (.d (.str "operation")) ⟨eX d (some (.d rowsCD)) z4 none, [], g5⟩ := by
    refine met_no ?_
    have hr : repV (.d (.str "<")) (.d (.int 9)) ⟨eX d (some (.d rowsCD)) z4 none, [], g5⟩ = some (.d (.str (strRep 9 "<"))) := by simp [repV, hlt1]
    simp only [ev, evs, toDs, R.bind, List.length_cons, List.length_nil, Nat.zero_add, Nat.zero_le, and_self, if_true, fillK, List.map_cons, List.map_nil, List.cons_append, List.nil_append, callR, Option.map_some, List.getElem?_cons_zero, hr, optR, c9]
  have ma : ev (run Pg k) (.met 17 (.callk 16 1 [some 0, none, none] [.str " ", .str " "] ["sides"] (.cons (.tup (.nil)) (.nil)) (.cons (.cst (.str "<a")) (.nil))) (.con (.str "fine")) cHs) ⟨eX d (some (.d rowsCD)) z4 (some (.own 0)), [.lst [.str "operation"]], g5⟩ = .ok (.d (.str "operation")) ⟨eX d (some (.d rowsCD)) z4 (some (.own 0)), [.lst [.str "operation"]], g5⟩ := by
    refine met_no ?_
    simp only [ev, evs, toDs, R.bind, List.length_cons, List.length_nil, Nat.zero_add, Nat.zero_le, and_self, if_true, fillK, List.map_cons, List.map_nil, List.cons_append, List.nil_append, callR, Option.map_some, List.getElem?_cons_zero, ca]
  have a6 : ex (run Pg k) (.asg 3 (.mk (.lst (.cons (.met 17 (.callk 16 1 [some 0, none, none] [.str " ", .str " "] ["sides"] (.cons (.tup (.nil)) (.nil)) (.cons (.rep (.cst (.str "<")) (.cst (.int 9))) (.nil))) (.con (.str "fine")) cHs) (.nil))))) ⟨eX d (some (.d rowsCD)) z4 none, [], g5⟩ = .ok .nx ⟨eX d (some (.d rowsCD)) z4 (some (.own 0)), [.lst [.str "operation"]], g5⟩ := by
    refine asg_v (v := .own 0) (s1 := ⟨eX d (some (.d rowsCD)) z4 none, [.lst [.str "operation"]], g5⟩) ?_
    have l1 : 1 ≤ LINE := by decide
    simp only [ev.eq_def (run Pg k) (.mk _), evF, evs, m9, R.bind, toDs, Option.map_some, List.length_cons, List.length_nil, Nat.zero_add, l1, if_true, List.nil_append]
  have a7 := v_append (Γ := run Pg k) (i := 3) (j := 0) (xs := [.str "operation"]) (ys := [.str "operation"]) (d := .str "operation") rfl rfl ma rfl (by decide)
  have so : SideOk 2 rowsC [94, 62] := ⟨.inr (.inl rfl), by decide⟩
  have h32 : (32 : Nat) ≤ 32 ∧ 32 ≤ 126 := by decide
  have cf := cols_ok (k := k) (gs := g5) (c := 32) (g := [32]) (by omega) rowsC_ok so h32 (by simp) (by intro y hy; simp at hy; omega)
  rw [← rowsC_eq] at cf
  have s94 : ("^>" : Str) = mkS [94, 62] := by decide +kernel
  have cf' : run Pg k 16 [rowsCD, .str "^>", .str " ", .str " "] g5 = .ok (.str (mkS (if rowsC = [] then [] else textR 32 [32] (told [94, 62] 2) rowsC 2))) g5 := by rw [s94, s_sp]; exact cf
  generalize mkS (if rowsC = [] then [] else textR 32 [32] (told [94, 62] 2) rowsC 2) = TX at cf'
  have mf : ev (run Pg k) (.met 17 (.callk 16 1 [some 0, none, none] [.str " ", .str " "] ["sides"] (.cons (.var 1) (.nil)) (.cons (.cst (.str "^>")) (.nil))) (.con (.str "fine")) cHs) ⟨eX d (some (.d rowsCD)) z4 (some (.own 0)), [.lst [.str "operation", .str "operation"]], g5⟩ = .ok (.d (.str "fine")) ⟨eX d (some (.d rowsCD)) z4 (some (.own 0)), [.lst [.str "operation", .str "operation"]], g5⟩ := by
    refine met_yes (d := .str TX) ?_
    simp only [ev, evs, getVar, toDs, R.bind, List.length_cons, List.length_nil, Nat.zero_add, and_self, if_true, fillK, List.map_cons, List.map_nil, List.cons_append, List.nil_append, callR, Option.map_some, List.getElem?_cons_zero, List.getElem?_cons_succ, cf']
  have a8 : ev (run Pg k) (.and_ (.cmp .eq (.var 3) (.fz (.lst (.cons (.cst (.str "operation")) (.cons (.cst (.str "operation")) (.nil)))))) (.cmp .eq (.met 17 (.callk 16 1 [some 0, none, none] [.str " ", .str " "] ["sides"] (.cons (.var 1) (.nil)) (.cons (.cst (.str "^>")) (.nil))) (.con (.str "fine")) cHs) (.cst (.str "fine")))) ⟨eX d (some (.d rowsCD)) z4 (some (.own 0)), [.lst [.str "operation", .str "operation"]], g5⟩ = .ok (.d (.bl true)) ⟨eX d (some (.d rowsCD)) z4 (some (.own 0)), [.lst [.str "operation", .str "operation"]], g5⟩ := by
    have e1 : eqVal (.own 0) (.d (.lst [.str "operation", .str "operation"])) ⟨eX d (some (.d rowsCD)) z4 (some (.own 0)), [.lst [.str "operation", .str "operation"]], g5⟩ = some true := by
      simp [eqVal, Val.py, D.py, D.pys, PyData.depth, PyData.depthAll, PyData.eqv, PyData.eqvAll]
    refine v_and ?_ (v_eqs mf rfl)
    rw [ev.eq_def]
    simp only [v_var (i := 3) (v := .own 0) (s := ⟨eX d (some (.d rowsCD)) z4 (some (.own 0)), [.lst [.str "operation", .str "operation"]], g5⟩) rfl, R.bind, cmpop]
    simp only [ev, evF, evs, R.bind, toDs, Option.map_some, List.length_cons, List.length_nil, Nat.zero_add, Nat.reduceAdd, l2, if_true, e1, optR]
  unfold c_law_refused
  exact (ex_step a1).trans ((ex_step a2).trans ((ex_step a3).trans ((ex_step a4).trans ((ex_step a5).trans ((ex_step a6).trans ((ex_step (exp_v a7)).trans (ex_exit (ret_v a8))))))))
end
end Lw

namespace Lw
open Mp
open PySem (Str PyData)
section
variable {k : Nat} {ns : List Int}
abbrev eZ (ns : List Int) (e1 e2 e3 : Option Val) : List (Option Val) := [some (.d (.scr (ns.map D.int))), e1, e2, e3]
def cSpot : T := (.cons (.asg 3 (.call 4 (.cons (.var 0) (.cons (.var 1) (.nil)))))
    (.cons (.ite (.or_ (.not_ (.call 12 (.cons (.var 3) (.nil)))) (.or_ (.not_ (.call 12 (.cons (.var 3) (.nil)))) (.not_ (.call 14 (.cons (.var 3) (.nil)))))) (.cons (.ret (.cst (.bl false)))
    (.nil)) (.nil))
    (.nil)))
theorem spot_ok {i : Nat} {e3 : Option Val} {gs : List Cell} (hk : 7 ≤ k) (hi : i < 100) : ∃ e3' gs', ex (run Pg k) cSpot ⟨eZ ns (some (.d (.int (i : Nat)))) none e3, [], gs⟩ = .ok .nx ⟨eZ ns (some (.d (.int (i : Nat)))) none e3', [], gs'⟩ := by
  obtain ⟨g1, q1, D1, _, _⟩ := dice (k := k) (ns := ns) (gs := gs) (sp := i) (by omega) hi
  obtain ⟨g2, q2, D2, _⟩ := right_ok (k := k) (d := gs.length) (n := 5000) (gs := g1) (by omega) (D1.mono (by omega))
  obtain ⟨g3, q3, D3, _⟩ := right_ok (k := k) (d := gs.length) (n := 3000) (gs := g2) (by omega) (D2.mono (by omega))
  obtain ⟨g4, q4, D4, _⟩ := refused_ok (k := k) (d := gs.length) (n := 0) (gs := g3) (by omega) (D3.mono (by omega))
  have q1' : run Pg k 4 [.scr (ns.map D.int), .int (i : Nat)] gs = .ok (.ref gs.length) g1 := q1
  have q2' : run Pg k 12 [.ref gs.length] g1 = .ok (.bl true) g2 := q2
  have q3' : run Pg k 12 [.ref gs.length] g2 = .ok (.bl true) g3 := q3
  have q4' : run Pg k 14 [.ref gs.length] g3 = .ok (.bl true) g4 := q4
  refine ⟨some (.d (.ref gs.length)), g4, ?_⟩
  have a1 : ex (run Pg k) (.asg 3 (.call 4 (.cons (.var 0) (.cons (.var 1) (.nil))))) ⟨eZ ns (some (.d (.int (i : Nat)))) none e3, [], gs⟩ = .ok .nx ⟨eZ ns (some (.d (.int (i : Nat)))) none (some (.d (.ref gs.length))), [], g1⟩ := by
    refine asg_v (v := .d (.ref gs.length)) (s1 := ⟨eZ ns (some (.d (.int (i : Nat)))) none e3, [], g1⟩) ?_
    simp only [ev, evs, getVar, List.getElem?_cons_zero, List.getElem?_cons_succ, R.bind, callR, toDs, Option.map_some, q1']
  have c : ∀ (f : Nat) (ga gb : List Cell), run Pg k f [.ref gs.length] ga = .ok (.bl true) gb → evT (run Pg k) (.not_ (.call f (.cons (.var 3) (.nil)))) ⟨eZ ns (some (.d (.int (i : Nat)))) none (some (.d (.ref gs.length))), [], ga⟩ = .ok false ⟨eZ ns (some (.d (.int (i : Nat)))) none (some (.d (.ref gs.length))), [], gb⟩ := fun f ga gb h => by
    refine not_b (b := true) (t_call ?_)
    simp only [ev, evs, getVar, List.getElem?_cons_zero, List.getElem?_cons_succ, R.bind, callR, toDs, Option.map_some, h]
  have t := (or_f (b := .or_ (.not_ (.call 12 (.cons (.var 3) (.nil)))) (.not_ (.call 14 (.cons (.var 3) (.nil))))) (c 12 g1 g2 q2')).trans ((or_f (b := .not_ (.call 14 (.cons (.var 3) (.nil)))) (c 12 g2 g3 q3')).trans (c 14 g3 g4 q4'))
  unfold cSpot
  exact (ex_step a1).trans (skip t)
theorem spots_go (hk : 7 ≤ k) : ∀ (xs : List Nat) (e1 e3 : Option Val) (gs : List Cell), (∀ i ∈ xs, i < 100) → ∃ e1' e3' gs', forGo [1] (ex (run Pg k) cSpot) (xs.map fun i : Nat => D.int i) ⟨eZ ns e1 none e3, [], gs⟩ = .ok .nx ⟨eZ ns e1' none e3', [], gs'⟩
  | [], e1, e3, gs, _ => ⟨e1, e3, gs, rfl⟩
  | i :: xs, e1, e3, gs, h => by
    obtain ⟨f3, g1, q1⟩ := spot_ok (k := k) (ns := ns) (e3 := e3) (gs := gs) hk (h i List.mem_cons_self)
    obtain ⟨e1', e3', gs', q2⟩ := spots_go hk xs (some (.d (.int (i : Nat)))) f3 g1 (fun j hj => h j (List.mem_cons_of_mem _ hj))
    refine ⟨e1', e3', gs', ?_⟩
    have b : bindTs [1] (.int (i : Nat)) ⟨eZ ns e1 none e3, [], gs⟩ = some ⟨eZ ns (some (.d (.int (i : Nat)))) none e3, [], gs⟩ := rfl
    rw [List.map_cons, forGo]
    simp only [b, q1, R.bind, q2]
def W1 : List (List (List Nat)) := [[[97, 98], [99]], [[100], [101, 102, 103, 104]]]
def W3 : List (List (List Nat)) := [[[], [120]], [[], []]]
def W4 : List (List (List Nat)) := [[[]]]
theorem W1_ok : RowsOk 2 W1 := ⟨by decide, by decide, by decide, by decide, by decide⟩
theorem W3_ok : RowsOk 2 W3 := ⟨by decide, by decide, by decide, by decide, by decide⟩
theorem W4_ok : RowsOk 1 W4 := ⟨by decide, by decide, by decide, by decide, by decide⟩
theorem c1_ok {gs : List Cell} (hk : 3 ≤ k) : run Pg k 16 [.tup [.tup [.str "ab", .str "c"], .tup [.str "d", .str "efgh"]], .str ">^", .str ".", .str "|"] gs = .ok (.str "ab|.c..\n.d|efgh") gs := by
  have q := cols_ok (k := k) (gs := gs) (sd := [62, 94]) (c := 46) (g := [124]) hk W1_ok ⟨.inr (.inl rfl), by decide⟩ (by decide) (by decide) (by decide)
  have e0 : (.tup ((rD W1).map D.tup) : D) = .tup [.tup [.str "ab", .str "c"], .tup [.str "d", .str "efgh"]] := by
    rw [show ("ab" : Str) = mkS [97, 98] by decide +kernel, show ("c" : Str) = mkS [99] by decide +kernel, show ("d" : Str) = mkS [100] by decide +kernel, show ("efgh" : Str) = mkS [101, 102, 103, 104] by decide +kernel]
    rfl
  have e1 : mkS [62, 94] = ">^" := by decide +kernel
  have e2 : mkS [46] = "." := by decide +kernel
  have e3 : mkS [124] = "|" := by decide +kernel
  have e4 : mkS (if W1 = [] then [] else textR 46 [124] (told [62, 94] 2) W1 2) = "ab|.c..\n.d|efgh" := by decide +kernel
  rw [e0, e1, e2, e3, e4] at q
  exact q
theorem c2_ok {gs : List Cell} (hk : 3 ≤ k) : run Pg k 16 [.tup [], .str "", .str " ", .str " "] gs = .ok (.str "") gs := by
  have q := cols_ok (k := k) (gs := gs) (sd := []) (c := 32) (g := [32]) (W := []) (n := 1) hk (.nil (by decide) (by decide)) ⟨.inl rfl, by decide⟩ (by decide) (by decide) (by decide)
  rw [if_pos rfl, ← s_no, ← s_sp] at q
  exact q
theorem c3_ok {gs : List Cell} (hk : 3 ≤ k) : run Pg k 16 [.tup [.tup [.str "", .str "x"], .tup [.str "", .str ""]], .str "", .str " ", .str ""] gs = .ok (.str "x\n ") gs := by
  have q := cols_ok (k := k) (gs := gs) (sd := []) (c := 32) (g := []) hk W3_ok ⟨.inl rfl, by decide⟩ (by decide) (by decide) (by decide)
  have e0 : (.tup ((rD W3).map D.tup) : D) = .tup [.tup [.str "", .str "x"], .tup [.str "", .str ""]] := by
    rw [s_no, show ("x" : Str) = mkS [120] by decide +kernel]
    rfl
  have e4 : mkS (if W3 = [] then [] else textR 32 [] (told [] 2) W3 2) = "x\n " := by decide +kernel
  rw [e0, e4, ← s_no, ← s_sp] at q
  exact q
theorem c4_ok {gs : List Cell} (hk : 3 ≤ k) : run Pg k 16 [.tup [.tup [.str ""]], .str "", .str " ", .str " "] gs = .ok (.str "") gs := by
  have q := cols_ok (k := k) (gs := gs) (sd := []) (c := 32) (g := [32]) hk W4_ok ⟨.inl rfl, by decide⟩ (by decide) (by decide) (by decide)
  have e0 : (.tup ((rD W4).map D.tup) : D) = .tup [.tup [.str ""]] := by
    rw [s_no]
    rfl
  have e4 : mkS (if W4 = [] then [] else textR 32 [32] (told [] 1) W4 1) = "" := by decide +kernel
  rw [e0, e4, ← s_no, ← s_sp] at q
  exact q
end
theorem law_true : ∀ ns : List Int, ns.length ≤ 63 → ∃ gs, run Pg 12 f_law [.scr (ns.map D.int)] [] = .ok (.bl true) gs := by
  intro ns hns
  obtain ⟨m, hm, hm6⟩ : ∃ m : Nat, (if (if (ns.length : Int) < 6 then (ns.length : Int) else 6) > 1 then (if (ns.length : Int) < 6 then (ns.length : Int) else 6) else 1) = (m : Int) ∧ m ≤ 6 := by
    by_cases h1 : (ns.length : Int) < 6
    · rw [if_pos h1]
      by_cases h2 : (ns.length : Int) > 1
      · exact ⟨ns.length, by rw [if_pos h2], by omega⟩
      · exact ⟨1, by rw [if_neg h2]; rfl, by omega⟩
    · rw [if_neg h1]
      exact ⟨6, rfl, by omega⟩
  obtain ⟨e1', e3', g1, q1⟩ := spots_go (k := 11) (ns := ns) (by omega) (List.range m) none none [] (fun i hi => by have := List.mem_range.mp hi; omega)
  have hv : ev (run Pg 11) (.bf .max (.cons (.cst (.int 1)) (.cons (.bf .min (.cons (.cst (.int 6)) (.cons (.bf .len (.cons (.var 0) (.nil))) (.nil)))) (.nil)))) ⟨eZ ns none none none, [], []⟩ = .ok (.d (.int (m : Nat))) ⟨eZ ns none none none, [], []⟩ := by
    simp only [ev, evs, getVar, List.getElem?_cons_zero, R.bind, bfn, seqv, List.length_map, hm]
  have hi := ev_range hv (by simp only [LINE]; omega)
  have a1 : ex (run Pg 11) (.for_ [1] (.rng (.cons (.bf .max (.cons (.cst (.int 1)) (.cons (.bf .min (.cons (.cst (.int 6)) (.cons (.bf .len (.cons (.var 0) (.nil))) (.nil)))) (.nil)))) (.nil))) cSpot) ⟨eZ ns none none none, [], []⟩ = .ok .nx ⟨eZ ns e1' none e3', [], g1⟩ := by
    rw [ex.eq_def]
    simp only [hi, R.bind]
    exact q1
  have c1 := c1_ok (k := 11) (gs := g1) (by omega)
  have c2 := c2_ok (k := 11) (gs := g1) (by omega)
  have c3 := c3_ok (k := 11) (gs := g1) (by omega)
  have c4 := c4_ok (k := 11) (gs := g1) (by omega)
  have l0 : 0 ≤ LINE := by decide
  have l1 : 1 ≤ LINE := by decide
  have l2 : 2 ≤ LINE := by decide
  have l3 : 3 ≤ LINE := by decide
  have a2 : ex (run Pg 11) (.asg 2 (.mk (.lst (.cons (.callk 16 1 [some 0, some 1, some 2] [] ["sides", "fill", "between"] (.cons (.tup (.cons (.tup (.cons (.cst (.str "ab")) (.cons (.cst (.str "c")) (.nil)))) (.cons (.tup (.cons (.cst (.str "d")) (.cons (.cst (.str "efgh")) (.nil)))) (.nil)))) (.nil)) (.cons (.cst (.str ">^")) (.cons (.cst (.str ".")) (.cons (.cst (.str "|")) (.nil))))) (.cons (.callk 16 1 [none, none, none] [.str "", .str " ", .str " "] [] (.cons (.tup (.nil)) (.nil)) (.nil)) (.nil)))))) ⟨eZ ns e1' none e3', [], g1⟩ = .ok .nx ⟨eZ ns e1' (some (.own 0)) e3', [.lst [.str "ab|.c..\n.d|efgh", .str ""]], g1⟩ := by
    refine asg_v (v := .own 0) (s1 := ⟨eZ ns e1' none e3', [.lst [.str "ab|.c..\n.d|efgh", .str ""]], g1⟩) ?_
    simp only [ev, evF, evs, R.bind, toDs, Option.map_some, List.length_cons, List.length_nil, Nat.zero_add, Nat.reduceAdd, l0, l1, l2, and_self, if_true, fillK, List.map_cons, List.map_nil, List.cons_append, List.nil_append, List.getElem?_cons_zero, List.getElem?_cons_succ, callR, c1, c2]
  have m3 : ev (run Pg 11) (.callk 16 1 [none, none, some 0] [.str "", .str " "] ["between"] (.cons (.tup (.cons (.tup (.cons (.cst (.str "")) (.cons (.cst (.str "x")) (.nil)))) (.cons (.tup (.cons (.cst (.str "")) (.cons (.cst (.str "")) (.nil)))) (.nil)))) (.nil)) (.cons (.cst (.str "")) (.nil))) ⟨eZ ns e1' (some (.own 0)) e3', [.lst [.str "ab|.c..\n.d|efgh", .str ""]], g1⟩ = .ok (.d (.str "x\n ")) ⟨eZ ns e1' (some (.own 0)) e3', [.lst [.str "ab|.c..\n.d|efgh", .str ""]], g1⟩ := by
    simp only [ev, evs, R.bind, toDs, Option.map_some, List.length_cons, List.length_nil, Nat.zero_add, Nat.reduceAdd, l2, and_self, if_true, fillK, List.map_cons, List.map_nil, List.cons_append, List.nil_append, List.getElem?_cons_zero, callR, c3]
  have a3 := v_append (Γ := run Pg 11) (i := 2) (j := 0) (xs := [.str "ab|.c..\n.d|efgh", .str ""]) (ys := [.str "ab|.c..\n.d|efgh", .str ""]) (d := .str "x\n ") rfl rfl m3 rfl (by decide)
  have m4 : ev (run Pg 11) (.callk 16 1 [none, none, none] [.str "", .str " ", .str " "] [] (.cons (.tup (.cons (.tup (.cons (.cst (.str "")) (.nil))) (.nil))) (.nil)) (.nil)) ⟨eZ ns e1' (some (.own 0)) e3', [.lst [.str "ab|.c..\n.d|efgh", .str "", .str "x\n "]], g1⟩ = .ok (.d (.str "")) ⟨eZ ns e1' (some (.own 0)) e3', [.lst [.str "ab|.c..\n.d|efgh", .str "", .str "x\n "]], g1⟩ := by
    simp only [ev, evs, R.bind, toDs, Option.map_some, List.length_cons, List.length_nil, Nat.zero_add, l1, and_self, if_true, fillK, List.map_cons, List.map_nil, List.cons_append, List.nil_append, callR, c4]
  have a4 : ev (run Pg 11) (.and_ (.cmp .eq (.var 2) (.fz (.lst (.cons (.cst (.str "ab|.c..\n.d|efgh")) (.cons (.cst (.str "")) (.cons (.cst (.str "x\n ")) (.nil))))))) (.cmp .eq (.callk 16 1 [none, none, none] [.str "", .str " ", .str " "] [] (.cons (.tup (.cons (.tup (.cons (.cst (.str "")) (.nil))) (.nil))) (.nil)) (.nil)) (.cst (.str "")))) ⟨eZ ns e1' (some (.own 0)) e3', [.lst [.str "ab|.c..\n.d|efgh", .str "", .str "x\n "]], g1⟩ = .ok (.d (.bl true)) ⟨eZ ns e1' (some (.own 0)) e3', [.lst [.str "ab|.c..\n.d|efgh", .str "", .str "x\n "]], g1⟩ := by
    have e1 : eqVal (.own 0) (.d (.lst [.str "ab|.c..\n.d|efgh", .str "", .str "x\n "])) ⟨eZ ns e1' (some (.own 0)) e3', [.lst [.str "ab|.c..\n.d|efgh", .str "", .str "x\n "]], g1⟩ = some true := by
      simp [eqVal, Val.py, D.py, D.pys, PyData.depth, PyData.depthAll, PyData.eqv, PyData.eqvAll]
    refine v_and ?_ (v_eqs m4 rfl)
    rw [ev.eq_def]
    simp only [v_var (i := 2) (v := .own 0) (s := ⟨eZ ns e1' (some (.own 0)) e3', [.lst [.str "ab|.c..\n.d|efgh", .str "", .str "x\n "]], g1⟩) rfl, R.bind, cmpop]
    simp only [ev, evF, evs, R.bind, toDs, Option.map_some, List.length_cons, List.length_nil, Nat.zero_add, Nat.reduceAdd, l3, if_true, e1, optR]
  refine ⟨g1, ?_⟩
  rw [run_s]
  refine runF_rt (s1 := ⟨eZ ns e1' (some (.own 0)) e3', [.lst [.str "ab|.c..\n.d|efgh", .str "", .str "x\n "]], g1⟩) rfl ?_
  show ex (run Pg 11) c_law ⟨eZ ns none none none, [], []⟩ = _
  unfold c_law
  exact (ex_step a1).trans ((ex_step a2).trans ((ex_step (exp_v a3)).trans (ex_exit (ret_v a4))))
end Lw

namespace Lw
open Mp
open PySem (Str Stmt Value Addr Heap Program)
set_option maxHeartbeats 0 in
theorem top_mk {K : PySem.W.Frag} {h : Heap} {mg : Str → Option Value} (X : K.In h) (G : h.Ns PySem.mainGlobals mg)
    {q : PySem.Program} {f0 f1 f2 f3 f4 f5 f6 f7 f8 f9 f10 f11 f12 f13 f14 f15 f16 KD16 f17 E0 E1 I0 cda0 cc0 : Addr} {t_MAX_COLUMNS t_MAX_LENGTH t_MAX_BETWEEN t_SIDES tw16_sides tw16_fill tw16_between itf0 : PySem.Tok} {od0 an0 od1 an1 od2 an2 od3 an3 od4 an4 od5 an5 od6 an6 od7 an7 od8 an8 od9 an9 od10 an10 od11 an11 od12 an12 od13 an13 od14 an14 yd14 od15 an15 od16 an16 od17 an17 xdd0 xdd1 iod0 ian0 icd0 icx0 : Option Addr} {sl0 sl1 sl2 sl3 sl4 sl5 sl6 sl7 sl8 sl9 sl10 sl11 sl12 sl13 sl14 ys14 sl15 sl16 sl17 isl0 ics0 icy0 : Array (Option Value)} {oc0 kV0 dc0 pm0 cd0 ct0 oc1 kV1 dc1 pm1 cd1 ct1 oc2 kV2 dc2 pm2 cd2 ct2 oc3 kV3 dc3 pm3 cd3 ct3 oc4 kV4 dc4 pm4 cd4 ct4 oc5 kV5 dc5 pm5 cd5 ct5 oc6 kV6 dc6 pm6 cd6 ct6 oc7 kV7 dc7 pm7 cd7 ct7 oc8 kV8 dc8 pm8 cd8 ct8 oc9 kV9 dc9 pm9 cd9 ct9 oc10 kV10 dc10 pm10 cd10 ct10 oc11 kV11 dc11 pm11 cd11 ct11 oc12 kV12 dc12 pm12 cd12 ct12 oc13 kV13 dc13 pm13 cd13 ct13 oc14 kV14 dc14 pm14 ct14 ye14 oc15 kV15 dc15 pm15 cd15 ct15 oc16 dc16 pm16 cd16 ct16 oc17 kV17 dc17 pm17 cd17 ct17 ioc0 ikV0 idc0 ipm0 ict0 icl0 ico0 : Value} {yv14 ivs0 : Array Value} {xnm0 xqn0 xnm1 xqn1 ifl0 : Str} {xNn0 xNn1 : Addr} {xbs0 xbm0 xsu0 xbs1 xbm1 xsu1 : List Value} {xsn0 xsn1 : List Str} {xab0 xab1 : Bool} {xco0 xco1 : Option Bool} {xk0_0 xk1_0 xk2_0 xk3_0 xk5_0 xk0_1 xk1_1 xk2_1 xk3_1 xk5_1 : Option Value}
    (z_len : PySem.W.nsIn K PySem.mainGlobals "len" = some none)
    (z_int : PySem.W.nsIn K PySem.mainGlobals "int" = some none)
    (z_abs : PySem.W.nsIn K PySem.mainGlobals "abs" = some none)
    (z_max : PySem.W.nsIn K PySem.mainGlobals "max" = some none)
    (z_min : PySem.W.nsIn K PySem.mainGlobals "min" = some none)
    (z_str : PySem.W.nsIn K PySem.mainGlobals "str" = some none)
    (z_tuple : PySem.W.nsIn K PySem.mainGlobals "tuple" = some none)
    (z_all : PySem.W.nsIn K PySem.mainGlobals "all" = some none)
    (z_any : PySem.W.nsIn K PySem.mainGlobals "any" = some none)
    (z_sum : PySem.W.nsIn K PySem.mainGlobals "sum" = some none)
    (z_bool : PySem.W.nsIn K PySem.mainGlobals "bool" = some none)
    (z_dict : PySem.W.nsIn K PySem.mainGlobals "dict" = some none)
    (z_list : PySem.W.nsIn K PySem.mainGlobals "list" = some none)
    (z_isinstance : PySem.W.nsIn K PySem.mainGlobals "isinstance" = some none)
    (z_range : PySem.W.nsIn K PySem.mainGlobals "range" = some none)
    (z_zip : PySem.W.nsIn K PySem.mainGlobals "zip" = some none)
    (z_enumerate : PySem.W.nsIn K PySem.mainGlobals "enumerate" = some none)
    (z_set : PySem.W.nsIn K PySem.mainGlobals "set" = some none)
    (z_sorted : PySem.W.nsIn K PySem.mainGlobals "sorted" = some none)
    (z_repr : PySem.W.nsIn K PySem.mainGlobals "repr" = some none)
    (g_MAX_COLUMNS : PySem.W.nsIn K PySem.mainGlobals "MAX_COLUMNS" = some (some (.int 8 t_MAX_COLUMNS)))
    (g_MAX_LENGTH : PySem.W.nsIn K PySem.mainGlobals "MAX_LENGTH" = some (some (.int 60 t_MAX_LENGTH)))
    (g_MAX_BETWEEN : PySem.W.nsIn K PySem.mainGlobals "MAX_BETWEEN" = some (some (.int 10 t_MAX_BETWEEN)))
    (g_SIDES : PySem.W.nsIn K PySem.mainGlobals "SIDES" = some (some (.str "<>^" t_SIDES)))
    (a0 : PySem.W.nsIn K PySem.mainGlobals "is_printable" = some (some (.ref f0)))
    (l0 : K.lookup f0 = some ⟨oc0, od0, .func (PySem.W.fnOf "is_printable" "is_printable" (L2.defArgs (tpst 8)) (L2.defBody (tpst 8)) (L2.defScope (tpst 8)) .none kV0 dc0 pm0 an0 cd0 ct0), sl0⟩)
    (c0 : PySem.W.codeIn K cd0 "is_printable" = true)
    (k0 : PySem.W.keepIn K (.ref f0) = true)
    (a1 : PySem.W.nsIn K PySem.mainGlobals "are_rows" = some (some (.ref f1)))
    (l1 : K.lookup f1 = some ⟨oc1, od1, .func (PySem.W.fnOf "are_rows" "are_rows" (L2.defArgs (tpst 9)) (L2.defBody (tpst 9)) (L2.defScope (tpst 9)) .none kV1 dc1 pm1 an1 cd1 ct1), sl1⟩)
    (c1 : PySem.W.codeIn K cd1 "are_rows" = true)
    (k1 : PySem.W.keepIn K (.ref f1) = true)
    (a2 : PySem.W.nsIn K PySem.mainGlobals "are_sides" = some (some (.ref f2)))
    (l2 : K.lookup f2 = some ⟨oc2, od2, .func (PySem.W.fnOf "are_sides" "are_sides" (L2.defArgs (tpst 10)) (L2.defBody (tpst 10)) (L2.defScope (tpst 10)) .none kV2 dc2 pm2 an2 cd2 ct2), sl2⟩)
    (c2 : PySem.W.codeIn K cd2 "are_sides" = true)
    (k2 : PySem.W.keepIn K (.ref f2) = true)
    (a3 : PySem.W.nsIn K PySem.mainGlobals "filled" = some (some (.ref f3)))
    (l3 : K.lookup f3 = some ⟨oc3, od3, .func (PySem.W.fnOf "filled" "filled" (L2.defArgs (tpst 11)) (L2.defBody (tpst 11)) (L2.defScope (tpst 11)) .none kV3 dc3 pm3 an3 cd3 ct3), sl3⟩)
    (c3 : PySem.W.codeIn K cd3 "filled" = true)
    (k3 : PySem.W.keepIn K (.ref f3) = true)
    (a4 : PySem.W.nsIn K PySem.mainGlobals "_law_dice" = some (some (.ref f4)))
    (l4 : K.lookup f4 = some ⟨oc4, od4, .func (PySem.W.fnOf "_law_dice" "_law_dice" (L2.defArgs (tpst 14)) (L2.defBody (tpst 14)) (L2.defScope (tpst 14)) .none kV4 dc4 pm4 an4 cd4 ct4), sl4⟩)
    (c4 : PySem.W.codeIn K cd4 "_law_dice" = true)
    (k4 : PySem.W.keepIn K (.ref f4) = true)
    (a5 : PySem.W.nsIn K PySem.mainGlobals "_law_roll" = some (some (.ref f5)))
    (l5 : K.lookup f5 = some ⟨oc5, od5, .func (PySem.W.fnOf "_law_roll" "_law_roll" (L2.defArgs (tpst 15)) (L2.defBody (tpst 15)) (L2.defScope (tpst 15)) .none kV5 dc5 pm5 an5 cd5 ct5), sl5⟩)
    (c5 : PySem.W.codeIn K cd5 "_law_roll" = true)
    (k5 : PySem.W.keepIn K (.ref f5) = true)
    (a6 : PySem.W.nsIn K PySem.mainGlobals "_law_pick" = some (some (.ref f6)))
    (l6 : K.lookup f6 = some ⟨oc6, od6, .func (PySem.W.fnOf "_law_pick" "_law_pick" (L2.defArgs (tpst 16)) (L2.defBody (tpst 16)) (L2.defScope (tpst 16)) .none kV6 dc6 pm6 an6 cd6 ct6), sl6⟩)
    (c6 : PySem.W.codeIn K cd6 "_law_pick" = true)
    (k6 : PySem.W.keepIn K (.ref f6) = true)
    (a7 : PySem.W.nsIn K PySem.mainGlobals "_law_signs" = some (some (.ref f7)))
    (l7 : K.lookup f7 = some ⟨oc7, od7, .func (PySem.W.fnOf "_law_signs" "_law_signs" (L2.defArgs (tpst 17)) (L2.defBody (tpst 17)) (L2.defScope (tpst 17)) .none kV7 dc7 pm7 an7 cd7 ct7), sl7⟩)
    (c7 : PySem.W.codeIn K cd7 "_law_signs" = true)
    (k7 : PySem.W.keepIn K (.ref f7) = true)
    (a8 : PySem.W.nsIn K PySem.mainGlobals "_law_string" = some (some (.ref f8)))
    (l8 : K.lookup f8 = some ⟨oc8, od8, .func (PySem.W.fnOf "_law_string" "_law_string" (L2.defArgs (tpst 18)) (L2.defBody (tpst 18)) (L2.defScope (tpst 18)) .none kV8 dc8 pm8 an8 cd8 ct8), sl8⟩)
    (c8 : PySem.W.codeIn K cd8 "_law_string" = true)
    (k8 : PySem.W.keepIn K (.ref f8) = true)
    (a9 : PySem.W.nsIn K PySem.mainGlobals "_law_rows_drawn" = some (some (.ref f9)))
    (l9 : K.lookup f9 = some ⟨oc9, od9, .func (PySem.W.fnOf "_law_rows_drawn" "_law_rows_drawn" (L2.defArgs (tpst 19)) (L2.defBody (tpst 19)) (L2.defScope (tpst 19)) .none kV9 dc9 pm9 an9 cd9 ct9), sl9⟩)
    (c9 : PySem.W.codeIn K cd9 "_law_rows_drawn" = true)
    (k9 : PySem.W.keepIn K (.ref f9) = true)
    (a10 : PySem.W.nsIn K PySem.mainGlobals "_law_cell_right" = some (some (.ref f10)))
    (l10 : K.lookup f10 = some ⟨oc10, od10, .func (PySem.W.fnOf "_law_cell_right" "_law_cell_right" (L2.defArgs (tpst 20)) (L2.defBody (tpst 20)) (L2.defScope (tpst 20)) .none kV10 dc10 pm10 an10 cd10 ct10), sl10⟩)
    (c10 : PySem.W.codeIn K cd10 "_law_cell_right" = true)
    (k10 : PySem.W.keepIn K (.ref f10) = true)
    (a11 : PySem.W.nsIn K PySem.mainGlobals "_law_lines_right" = some (some (.ref f11)))
    (l11 : K.lookup f11 = some ⟨oc11, od11, .func (PySem.W.fnOf "_law_lines_right" "_law_lines_right" (L2.defArgs (tpst 21)) (L2.defBody (tpst 21)) (L2.defScope (tpst 21)) .none kV11 dc11 pm11 an11 cd11 ct11), sl11⟩)
    (c11 : PySem.W.codeIn K cd11 "_law_lines_right" = true)
    (k11 : PySem.W.keepIn K (.ref f11) = true)
    (a12 : PySem.W.nsIn K PySem.mainGlobals "_law_right" = some (some (.ref f12)))
    (l12 : K.lookup f12 = some ⟨oc12, od12, .func (PySem.W.fnOf "_law_right" "_law_right" (L2.defArgs (tpst 22)) (L2.defBody (tpst 22)) (L2.defScope (tpst 22)) .none kV12 dc12 pm12 an12 cd12 ct12), sl12⟩)
    (c12 : PySem.W.codeIn K cd12 "_law_right" = true)
    (k12 : PySem.W.keepIn K (.ref f12) = true)
    (a13 : PySem.W.nsIn K PySem.mainGlobals "_law_wrong_rows" = some (some (.ref f13)))
    (l13 : K.lookup f13 = some ⟨oc13, od13, .func (PySem.W.fnOf "_law_wrong_rows" "_law_wrong_rows" (L2.defArgs (tpst 24)) (L2.defBody (tpst 24)) (L2.defScope (tpst 24)) .none kV13 dc13 pm13 an13 cd13 ct13), sl13⟩)
    (c13 : PySem.W.codeIn K cd13 "_law_wrong_rows" = true)
    (k13 : PySem.W.keepIn K (.ref f13) = true)
    (a14 : PySem.W.nsIn K PySem.mainGlobals "_law_refused" = some (some (.ref f14)))
    (l14 : K.lookup f14 = some ⟨oc14, od14, .func (PySem.W.fnOf "_law_refused" "_law_refused" (L2.defArgs (tpst 25)) (L2.defBody (tpst 25)) (L2.defScope (tpst 25)) .none kV14 dc14 pm14 an14 (.ref 151) ct14), sl14⟩)
    (c14 : PySem.W.codeIn K (.ref 151) "_law_refused" = true)
    (yl14 : K.lookup 151 = some ⟨ye14, yd14, .fields yv14, ys14⟩)
    (yw14 : yv14[11]? = some (.ref 147))
    (yn14 : K.lookup 147 = none)
    (yq14 : ((PyProof.Rows.recsOf q).any fun d => d.name == "_law_refused") = true)
    (k14 : PySem.W.keepIn K (.ref f14) = true)
    (a15 : PySem.W.nsIn K PySem.mainGlobals "law" = some (some (.ref f15)))
    (l15 : K.lookup f15 = some ⟨oc15, od15, .func (PySem.W.fnOf "law" "law" (L2.defArgs (tpst 26)) (L2.defBody (tpst 26)) (L2.defScope (tpst 26)) .none kV15 dc15 pm15 an15 cd15 ct15), sl15⟩)
    (c15 : PySem.W.codeIn K cd15 "law" = true)
    (k15 : PySem.W.keepIn K (.ref f15) = true)
    (a16 : PySem.W.nsIn K PySem.mainGlobals "in_columns" = some (some (.ref f16)))
    (l16 : K.lookup f16 = some ⟨oc16, od16, .func (PySem.W.fnOf "in_columns" "in_columns" (L2.defArgs (tpst 12)) (L2.defBody (tpst 12)) (L2.defScope (tpst 12)) .none (.ref KD16) dc16 pm16 an16 cd16 ct16), sl16⟩)
    (kw16_sides : PySem.W.nsIn K KD16 "sides" = some (some (.str "" tw16_sides)))
    (kw16_fill : PySem.W.nsIn K KD16 "fill" = some (some (.str " " tw16_fill)))
    (kw16_between : PySem.W.nsIn K KD16 "between" = some (some (.str " " tw16_between)))
    (c16 : PySem.W.codeIn K cd16 "in_columns" = true)
    (k16 : PySem.W.keepIn K (.ref f16) = true)
    (a17 : PySem.W.nsIn K PySem.mainGlobals "_law_met" = some (some (.ref f17)))
    (l17 : K.lookup f17 = some ⟨oc17, od17, .func (PySem.W.fnOf "_law_met" "_law_met" (L2.defArgs (tpst 23)) (L2.defBody (tpst 23)) (L2.defScope (tpst 23)) .none kV17 dc17 pm17 an17 cd17 ct17), sl17⟩)
    (c17 : PySem.W.codeIn K cd17 "_law_met" = true)
    (k17 : PySem.W.keepIn K (.ref f17) = true)
    (z_super : PySem.W.nsIn K PySem.mainGlobals "super" = some none)
    (z_opq : PySem.W.nsIn K PySem.cStatics "thirdparty.any" = some none)
    (z_top : ((PySem.Challenge.rw_goneunseen_k78_rows_in_columns).prog.main.scope.names.lookup ("super" : Str)).isSome = false)
    (xe0 : PySem.W.nsIn K PySem.mainGlobals "GoneError" = some (some (.ref E0)))
    (xc0 : K.lookup E0 = some (PySem.excClassObj xnm0 xqn0 E0 xNn0 xbs0 xbm0 true xsn0 xsu0 xab0 xco0 xdd0 xk0_0 xk1_0 xk2_0 xk3_0 xk5_0 "ValueError.__new__"))
    (xv0 : PySem.HandSPX.refsVE xbm0 = true)
    (xs0 : PySem.W.findIn K (.ref E0) "__setattr__" = some (some (.builtin "object.__setattr__")))
    (xb0 : PySem.W.subIn K (.ref E0) (.type "BaseException") = some true)
    (xt0 : PySem.W.typeIn K (.ref E0) = some (.type "type"))
    (xk0 : PySem.W.keepIn K (.ref E0) = true)
    (xg0 : PySem.W.findIn K (.ref E0) "__getattribute__" = some (some (.builtin "BaseException.__getattribute__")))
    (xa0 : PySem.W.findIn K (.ref E0) "__getattr__" = some none)
    (xd0 : PySem.W.hasDictIn K E0 = true)
    (xw0 : PySem.W.subIn K (.ref E0) (.type "ValueError") = some true)
    (xe1 : PySem.W.nsIn K PySem.mainGlobals "InvalidOperation" = some (some (.ref E1)))
    (xc1 : K.lookup E1 = some (PySem.excClassObj xnm1 xqn1 E1 xNn1 xbs1 xbm1 true xsn1 xsu1 xab1 xco1 xdd1 xk0_1 xk1_1 xk2_1 xk3_1 xk5_1 "ValueError.__new__"))
    (xv1 : PySem.HandSPX.refsVE xbm1 = true)
    (xs1 : PySem.W.findIn K (.ref E1) "__setattr__" = some (some (.builtin "object.__setattr__")))
    (xb1 : PySem.W.subIn K (.ref E1) (.type "BaseException") = some true)
    (xt1 : PySem.W.typeIn K (.ref E1) = some (.type "type"))
    (xk1 : PySem.W.keepIn K (.ref E1) = true)
    (xg1 : PySem.W.findIn K (.ref E1) "__getattribute__" = some (some (.builtin "BaseException.__getattribute__")))
    (xa1 : PySem.W.findIn K (.ref E1) "__getattr__" = some none)
    (xd1 : PySem.W.hasDictIn K E1 = true)
    (xw1 : PySem.W.subIn K (.ref E1) (.type "ValueError") = some true)
    (xm0_0 : PySem.W.subIn K (.ref E0) (.ref E0) = some true)
    (xm0_1 : PySem.W.subIn K (.ref E0) (.ref E1) = some false)
    (xi0 : PySem.W.findIn K (.ref E0) "__init__" = some (some (.ref I0)))
    (xr0 : PySem.W.mroIn K E0 (.ref E0) = some true)
    (xu0 : PySem.W.ks_superIn K E0 E0 "__init__" = some (some (.builtin "ValueError.__init__")))
    (xm1_0 : PySem.W.subIn K (.ref E1) (.ref E0) = some true)
    (xm1_1 : PySem.W.subIn K (.ref E1) (.ref E1) = some true)
    (xi1 : PySem.W.findIn K (.ref E1) "__init__" = some (some (.ref I0)))
    (xr1 : PySem.W.mroIn K E1 (.ref E0) = some true)
    (xu1 : PySem.W.ks_superIn K E1 E0 "__init__" = some (some (.builtin "ValueError.__init__")))
    (il0 : K.lookup I0 = some ⟨ioc0, iod0, .func (PySem.W.ksFn "__init__" "GoneError.__init__" (L2.defArgs (L2.inClass (tpst 1) 0)) (L2.defBody (L2.inClass (tpst 1) 0)) (L2.defScope (L2.inClass (tpst 1) 0)) .none ikV0 idc0 ipm0 ian0 (.ref cda0) ict0 cc0), isl0⟩)
    (ic0 : PySem.W.codeIn K (.ref cda0) "GoneError.__init__" = true)
    (ih0 : K.lookup cc0 = some ⟨icl0, icd0, .cell (some (.ref E0)), ics0⟩)
    (id0 : K.lookup cda0 = some ⟨ico0, icx0, .fields ivs0, icy0⟩)
    (iv0 : ivs0[2]? = some (.str ifl0 itf0))
    (if0 : (((PySem.Challenge.rw_goneunseen_k78_rows_in_columns).prog.main.file : Str) == ifl0) = true)
    (iD0 : (PySem.W.clsIn K E0).isSome = true)
    (it0 : PySem.W.typeIn K (.ref I0) = some (.type "function"))
    (ig0 : PySem.W.fnIn K I0 = true) : Top (PySem.Challenge.rw_goneunseen_k78_rows_in_columns).prog P Pg K mg ∧ TabC q K mg := by
  have w0 : clsOf K "GoneError" = E0 := clsOf_of xe0
  have w1 : clsOf K "InvalidOperation" = E1 := clsOf_of xe1
  have B0 := initB_mk (P := (PySem.Challenge.rw_goneunseen_k78_rows_in_columns).prog) (N := ["self", "message"]) (i := some 1) (fl := []) (st := (L2.inClass (tpst 1) 0)) il0 ic0 ih0 id0 iv0 if0 iD0 z_top (PySem.W.mg_none_of X G z_super) z_opq (by decide +kernel)
  have V0 : L2.Binds K _ ["self", "message"] [] := .all (fd := PySem.W.ksFn "__init__" "GoneError.__init__" (L2.defArgs (L2.inClass (tpst 1) 0)) (L2.defBody (L2.inClass (tpst 1) 0)) (L2.defScope (L2.inClass (tpst 1) 0)) .none ikV0 idc0 ipm0 ian0 (.ref cda0) ict0 cc0) fun us hl => (match us, hl with | [_, _], _ => rfl)
  have O0 : L2.OexC K E0 := ⟨⟨_, _, _, _, _, _, _, _, _, _, _, _, _, _, _, xc0, xv0⟩, xs0, xb0, xt0, xk0⟩
  have O1 : L2.OexC K E1 := ⟨⟨_, _, _, _, _, _, _, _, _, _, _, _, _, _, _, xc1, xv1⟩, xs1, xb1, xt1, xk1⟩
  refine ⟨?top, ?tab⟩
  case tab =>
    intro p hp
    obtain rfl := List.mem_singleton.mp hp
    exact ⟨"_law_refused", f14, _, _, _, _, _, _, yq14, PySem.W.mg_of X G a14, l14, rfl, rfl, yl14, yw14, yn14⟩
  case top =>
  have FD16 : L2.FunD K "in_columns" "in_columns" (L2.defArgs (tpst 12)) (L2.defBody (tpst 12)) (L2.defScope (tpst 12)) [] [("sides", .str ""), ("fill", .str " "), ("between", .str " ")] f16 _ := ⟨⟨_, _, _, _, _, _, _, _, _, _, rfl, l16, c16, .inl ⟨rfl, rfl⟩, .inr ⟨KD16, rfl, fun q hq => by
      simp only [List.mem_cons, List.not_mem_nil, or_false] at hq
      rcases hq with rfl | rfl | rfl
      · exact ⟨_, kw16_sides, ⟨_, rfl⟩⟩
      · exact ⟨_, kw16_fill, ⟨_, rfl⟩⟩
      · exact ⟨_, kw16_between, ⟨_, rfl⟩⟩⟩⟩, k16⟩
  exact {
    blt := fun b => match b with | .abs => PySem.W.mg_none_of X G z_abs | .all => PySem.W.mg_none_of X G z_all | .any => PySem.W.mg_none_of X G z_any | .bool => PySem.W.mg_none_of X G z_bool | .int => PySem.W.mg_none_of X G z_int | .len => PySem.W.mg_none_of X G z_len | .max => PySem.W.mg_none_of X G z_max | .min => PySem.W.mg_none_of X G z_min | .str => PySem.W.mg_none_of X G z_str | .sum => PySem.W.mg_none_of X G z_sum | .tuple => PySem.W.mg_none_of X G z_tuple
    tgs := fun t ht => match t, ht with | .str, _ => PySem.W.mg_none_of X G z_str | .int, _ => PySem.W.mg_none_of X G z_int | .bool, _ => PySem.W.mg_none_of X G z_bool | .tup, _ => PySem.W.mg_none_of X G z_tuple | .lst, _ => PySem.W.mg_none_of X G z_list | .dct, _ => PySem.W.mg_none_of X G z_dict
    isi := PySem.W.mg_none_of X G z_isinstance
    lst := PySem.W.mg_none_of X G z_list
    rng := PySem.W.mg_none_of X G z_range
    zip := PySem.W.mg_none_of X G z_zip
    enm := PySem.W.mg_none_of X G z_enumerate
    set := PySem.W.mg_none_of X G z_set
    srt := PySem.W.mg_none_of X G z_sorted
    rpr := PySem.W.mg_none_of X G z_repr
    cls := fun c hc => by
      simp [P] at hc
    isc := fun c hc => by
      simp [P] at hc
    noat := fun c hc f hf => by
      simp [P] at hc
    nmc := fun c hc => by
      simp [P] at hc
    isc2 := fun c hc => by
      simp [P] at hc
    eqs := fun c hc g hg => by
      simp [P] at hc
    mks := fun c hc x hx => by
      simp [P] at hc
    mts := fun c hc => by
      simp only [P, mts, List.mem_cons, List.not_mem_nil, or_false] at hc
      rcases hc with rfl
      · exact ⟨⟨f17, _, _, _, _, _, _, _, _, _, _, _, PySem.W.mg_of X G a17, k17, rfl, l17, c17, .all fun us hl => (match us, hl with | [_], _ => rfl)⟩⟩
    fnk := fun c hc => by
      simp only [P, kws, List.mem_cons, List.not_mem_nil, or_false] at hc
      rcases hc with rfl | rfl | rfl | rfl | rfl | rfl | rfl
      · obtain ⟨mv, KB⟩ := FD16.kbinds0 (ps := ["rows", "sides", "fill", "between"]) 1 ["between", "sides", "fill"] [] (fun us mv ws => us ++ fillK [some 1, some 2, some 0] mv ws) (by simp) (by simp) (fun r1 r2 r3 => r1.append (vals_fillK _ r2 r3)) (fun D doc pm an cdv ct us mv ws h1 h2 h3 => (match us, mv, ws, h1, h2, h3 with | [_], [], [_, _, _], _, _, _ => rfl))
        exact ⟨f16, _, (tpst 12), _, _, _, _, _, PySem.W.mg_of X G a16, KB, fun _ _ => (.nil), funA_mk (st := (tpst 12)) l16 c16 k16, fnL_no k_in_columns (by decide +kernel)⟩
      · obtain ⟨mv, KB⟩ := FD16.kbinds0 (ps := ["rows", "sides", "fill", "between"]) 1 ["fill", "sides"] [("between", .str " ")] (fun us mv ws => us ++ fillK [some 1, some 0, none] mv ws) (by simp) (by simp) (fun r1 r2 r3 => r1.append (vals_fillK _ r2 r3)) (fun D doc pm an cdv ct us mv ws h1 h2 h3 => (match us, mv, ws, h1, h2, h3 with | [_], [_], [_, _], _, _, _ => ⟨_, _, _, _, _, _, rfl, rfl, rfl⟩))
        exact ⟨f16, _, (tpst 12), _, _, _, _, _, PySem.W.mg_of X G a16, KB, fun _ _ => (.cons (.str _) <| .nil), funA_mk (st := (tpst 12)) l16 c16 k16, fnL_no k_in_columns (by decide +kernel)⟩
      · obtain ⟨mv, KB⟩ := FD16.kbinds0 (ps := ["rows", "sides", "fill", "between"]) 1 ["sides"] [("fill", .str " "), ("between", .str " ")] (fun us mv ws => us ++ fillK [some 0, none, none] mv ws) (by simp) (by simp) (fun r1 r2 r3 => r1.append (vals_fillK _ r2 r3)) (fun D doc pm an cdv ct us mv ws h1 h2 h3 => (match us, mv, ws, h1, h2, h3 with | [_], [_, _], [_], _, _, _ => ⟨_, _, _, _, _, _, rfl, rfl, ⟨_, _, _, _, _, _, rfl, rfl, rfl⟩⟩))
        exact ⟨f16, _, (tpst 12), _, _, _, _, _, PySem.W.mg_of X G a16, KB, fun _ _ => (.cons (.str _) <| .cons (.str _) <| .nil), funA_mk (st := (tpst 12)) l16 c16 k16, fnL_no k_in_columns (by decide +kernel)⟩
      · obtain ⟨mv, KB⟩ := FD16.kbinds0 (ps := ["rows", "sides", "fill", "between"]) 1 [] [("sides", .str ""), ("fill", .str " "), ("between", .str " ")] (fun us mv ws => us ++ fillK [none, none, none] mv ws) (by simp) (by simp) (fun r1 r2 r3 => r1.append (vals_fillK _ r2 r3)) (fun D doc pm an cdv ct us mv ws h1 h2 h3 => (match us, mv, ws, h1, h2, h3 with | [_], [_, _, _], [], _, _, _ => ⟨_, _, _, _, _, _, rfl, rfl, ⟨_, _, _, _, _, _, rfl, rfl, ⟨_, _, _, _, _, _, rfl, rfl, rfl⟩⟩⟩))
        exact ⟨f16, _, (tpst 12), _, _, _, _, _, PySem.W.mg_of X G a16, KB, fun _ _ => (.cons (.str _) <| .cons (.str _) <| .cons (.str _) <| .nil), funA_mk (st := (tpst 12)) l16 c16 k16, fnL_no k_in_columns (by decide +kernel)⟩
      · obtain ⟨mv, KB⟩ := FD16.kbinds0 (ps := ["rows", "sides", "fill", "between"]) 1 ["between"] [("sides", .str ""), ("fill", .str " ")] (fun us mv ws => us ++ fillK [none, none, some 0] mv ws) (by simp) (by simp) (fun r1 r2 r3 => r1.append (vals_fillK _ r2 r3)) (fun D doc pm an cdv ct us mv ws h1 h2 h3 => (match us, mv, ws, h1, h2, h3 with | [_], [_, _], [_], _, _, _ => ⟨_, _, _, _, _, _, rfl, rfl, ⟨_, _, _, _, _, _, rfl, rfl, rfl⟩⟩))
        exact ⟨f16, _, (tpst 12), _, _, _, _, _, PySem.W.mg_of X G a16, KB, fun _ _ => (.cons (.str _) <| .cons (.str _) <| .nil), funA_mk (st := (tpst 12)) l16 c16 k16, fnL_no k_in_columns (by decide +kernel)⟩
      · obtain ⟨mv, KB⟩ := FD16.kbinds0 (ps := ["rows", "sides", "fill", "between"]) 1 ["fill"] [("sides", .str ""), ("between", .str " ")] (fun us mv ws => us ++ fillK [none, some 0, none] mv ws) (by simp) (by simp) (fun r1 r2 r3 => r1.append (vals_fillK _ r2 r3)) (fun D doc pm an cdv ct us mv ws h1 h2 h3 => (match us, mv, ws, h1, h2, h3 with | [_], [_, _], [_], _, _, _ => ⟨_, _, _, _, _, _, rfl, rfl, ⟨_, _, _, _, _, _, rfl, rfl, rfl⟩⟩))
        exact ⟨f16, _, (tpst 12), _, _, _, _, _, PySem.W.mg_of X G a16, KB, fun _ _ => (.cons (.str _) <| .cons (.str _) <| .nil), funA_mk (st := (tpst 12)) l16 c16 k16, fnL_no k_in_columns (by decide +kernel)⟩
      · obtain ⟨mv, KB⟩ := FD16.kbinds0 (ps := ["rows", "sides", "fill", "between"]) 1 ["sides", "fill", "between"] [] (fun us mv ws => us ++ fillK [some 0, some 1, some 2] mv ws) (by simp) (by simp) (fun r1 r2 r3 => r1.append (vals_fillK _ r2 r3)) (fun D doc pm an cdv ct us mv ws h1 h2 h3 => (match us, mv, ws, h1, h2, h3 with | [_], [], [_, _, _], _, _, _ => rfl))
        exact ⟨f16, _, (tpst 12), _, _, _, _, _, PySem.W.mg_of X G a16, KB, fun _ _ => (.nil), funA_mk (st := (tpst 12)) l16 c16 k16, fnL_no k_in_columns (by decide +kernel)⟩
    sts := fun c hc x hx => by
      simp [P] at hc
    ccs := fun c hc x hx => by
      simp [P] at hc
    make := fun c hc hkw => by
      simp [P] at hc
    prop := fun c hc x hx => by
      simp [P] at hc
    meth := fun c hc x hx => by
      simp [P] at hc
    mdef := fun c hc x hx => by
      simp [P] at hc
    exs := fun c hc => by
      simp only [P, List.mem_cons, List.not_mem_nil, or_false] at hc
      rcases hc with rfl | rfl
      · have wq : clsOf K ed_GoneError.name = E0 := w0
        refine ⟨by rw [wq]; exact PySem.W.mg_of X G xe0, by rw [wq]; exact ⟨xg0, xa0, xb0, xd0⟩, fun p hp => ?_, fun c hc => ?_, by rw [wq]; exact O0, ?_⟩
        · rw [wq]
          simp only [ed_GoneError, List.not_mem_nil] at hp
        · rw [wq]
          simp only [P, List.mem_cons, List.not_mem_nil, or_false] at hc
          rcases hc with rfl | rfl
          · have wr : clsOf K ed_GoneError.name = E0 := w0
            rw [wr]
            exact (PySem.W.exm_ref xb0 xd0 xt0 xm0_0).trans (by decide)
          · have wr : clsOf K ed_InvalidOperation.name = E1 := w1
            rw [wr]
            exact (PySem.W.exm_ref xb1 xd1 xt1 xm0_1).trans (by decide)
        · rw [wq]
          exact ⟨I0, xi0, it0, .inl ⟨rfl, rfl, E0, _, _, B0, rfl, V0, ⟨O0, xr0, xu0⟩, xw0⟩⟩
      · have wq : clsOf K ed_InvalidOperation.name = E1 := w1
        refine ⟨by rw [wq]; exact PySem.W.mg_of X G xe1, by rw [wq]; exact ⟨xg1, xa1, xb1, xd1⟩, fun p hp => ?_, fun c hc => ?_, by rw [wq]; exact O1, ?_⟩
        · rw [wq]
          simp only [ed_InvalidOperation, List.not_mem_nil] at hp
        · rw [wq]
          simp only [P, List.mem_cons, List.not_mem_nil, or_false] at hc
          rcases hc with rfl | rfl
          · have wr : clsOf K ed_GoneError.name = E0 := w0
            rw [wr]
            exact (PySem.W.exm_ref xb0 xd0 xt0 xm1_0).trans (by decide)
          · have wr : clsOf K ed_InvalidOperation.name = E1 := w1
            rw [wr]
            exact (PySem.W.exm_ref xb1 xd1 xt1 xm1_1).trans (by decide)
        · rw [wq]
          exact ⟨I0, xi1, it0, .inl ⟨rfl, rfl, E0, _, _, B0, rfl, V0, ⟨O1, xr1, xu1⟩, xw1⟩⟩
    gcs := fun p hp => by
      simp only [P, List.mem_cons, List.not_mem_nil, or_false] at hp
      rcases hp with rfl | rfl | rfl | rfl
      · exact ⟨_, .int _, PySem.W.mg_of X G g_MAX_COLUMNS, ⟨_, rfl⟩, fun _ _ => .int _⟩
      · exact ⟨_, .int _, PySem.W.mg_of X G g_MAX_LENGTH, ⟨_, rfl⟩, fun _ _ => .int _⟩
      · exact ⟨_, .int _, PySem.W.mg_of X G g_MAX_BETWEEN, ⟨_, rfl⟩, fun _ _ => .int _⟩
      · exact ⟨_, .str _, PySem.W.mg_of X G g_SIDES, ⟨_, rfl⟩, fun _ _ => .str _⟩
    fns := fun f hf => by
      match f, hf with
      | 0, _ => exact ⟨f0, _, (tpst 8), _, _, _, PySem.W.mg_of X G a0, funA_mk (st := (tpst 8)) l0 c0 k0, fun us hl => (match us, hl with | [_, _, _], _ => rfl), fnL_no k_is_printable (by decide +kernel)⟩
      | 1, _ => exact ⟨f1, _, (tpst 9), _, _, _, PySem.W.mg_of X G a1, funA_mk (st := (tpst 9)) l1 c1 k1, fun us hl => (match us, hl with | [_], _ => rfl), fnL_no k_are_rows (by decide +kernel)⟩
      | 2, _ => exact ⟨f2, _, (tpst 10), _, _, _, PySem.W.mg_of X G a2, funA_mk (st := (tpst 10)) l2 c2 k2, fun us hl => (match us, hl with | [_, _], _ => rfl), fnL_no k_are_sides (by decide +kernel)⟩
      | 3, _ => exact ⟨f3, _, (tpst 11), _, _, _, PySem.W.mg_of X G a3, funA_mk (st := (tpst 11)) l3 c3 k3, fun us hl => (match us, hl with | [_, _, _, _], _ => rfl), fnL_no k_filled (by decide +kernel)⟩
      | 4, _ => exact ⟨f4, _, (tpst 14), _, _, _, PySem.W.mg_of X G a4, funA_mk (st := (tpst 14)) l4 c4 k4, fun us hl => (match us, hl with | [_, _], _ => rfl), fnL_no k_law_dice (by decide +kernel)⟩
      | 5, _ => exact ⟨f5, _, (tpst 15), _, _, _, PySem.W.mg_of X G a5, funA_mk (st := (tpst 15)) l5 c5 k5, fun us hl => (match us, hl with | [_, _], _ => rfl), fnL_no k_law_roll (by decide +kernel)⟩
      | 6, _ => exact ⟨f6, _, (tpst 16), _, _, _, PySem.W.mg_of X G a6, funA_mk (st := (tpst 16)) l6 c6 k6, fun us hl => (match us, hl with | [_, _], _ => rfl), fnL_no k_law_pick (by decide +kernel)⟩
      | 7, _ => exact ⟨f7, _, (tpst 17), _, _, _, PySem.W.mg_of X G a7, funA_mk (st := (tpst 17)) l7 c7 k7, fun us hl => (match us, hl with | [], _ => rfl), fnL_no k_law_signs (by decide +kernel)⟩
      | 8, _ => exact ⟨f8, _, (tpst 18), _, _, _, PySem.W.mg_of X G a8, funA_mk (st := (tpst 18)) l8 c8 k8, fun us hl => (match us, hl with | [_, _], _ => rfl), fnL_no k_law_string (by decide +kernel)⟩
      | 9, _ => exact ⟨f9, _, (tpst 19), _, _, _, PySem.W.mg_of X G a9, funA_mk (st := (tpst 19)) l9 c9 k9, fun us hl => (match us, hl with | [_], _ => rfl), fnL_no k_law_rows_drawn (by decide +kernel)⟩
      | 10, _ => exact ⟨f10, _, (tpst 20), _, _, _, PySem.W.mg_of X G a10, funA_mk (st := (tpst 20)) l10 c10 k10, fun us hl => (match us, hl with | [_, _, _, _], _ => rfl), fnL_no k_law_cell_right (by decide +kernel)⟩
      | 11, _ => exact ⟨f11, _, (tpst 21), _, _, _, PySem.W.mg_of X G a11, funA_mk (st := (tpst 21)) l11 c11 k11, fun us hl => (match us, hl with | [_, _, _, _, _], _ => rfl), fnL_no k_law_lines_right (by decide +kernel)⟩
      | 12, _ => exact ⟨f12, _, (tpst 22), _, _, _, PySem.W.mg_of X G a12, funA_mk (st := (tpst 22)) l12 c12 k12, fun us hl => (match us, hl with | [_], _ => rfl), fnL_no k_law_right (by decide +kernel)⟩
      | 13, _ => exact ⟨f13, _, (tpst 24), _, _, _, PySem.W.mg_of X G a13, funA_mk (st := (tpst 24)) l13 c13 k13, fun us hl => (match us, hl with | [_], _ => rfl), fnL_no k_law_wrong_rows (by decide +kernel)⟩
      | 14, _ => exact ⟨f14, _, (tpst 25), _, _, _, PySem.W.mg_of X G a14, funA_mk (st := (tpst 25)) l14 c14 k14, fun us hl => (match us, hl with | [_], _ => rfl), fnL_of k_law_refused ⟨151, 147, rfl, by decide +kernel, by decide +kernel, by decide +kernel⟩⟩
      | 15, _ => exact ⟨f15, _, (tpst 26), _, _, _, PySem.W.mg_of X G a15, funA_mk (st := (tpst 26)) l15 c15 k15, fun us hl => (match us, hl with | [_], _ => rfl), fnL_no k_law (by decide +kernel)⟩
      | x + 16, hx => exact absurd hx (Nat.not_lt.mpr (Nat.le_add_left 16 x)) }
end Lw

open PySem PySem.W PyProof.Rows in
set_option maxRecDepth 100000 in
set_option maxHeartbeats 0 in
theorem PySem.Challenge.cw_goneunseen_k78_rows_in_columns_holds : PySem.Challenge.rw_goneunseen_k78_rows_in_columns.Holds := by
  w_on; o_law; k_head; (case hw => w_witness2)
  k_fill
  refine Mp.end_of (l := PySem.Challenge.rw_goneunseen_k78_rows_in_columns) (P := Lw.P) (Pg := Lw.Pg) (lw := 15) (k := 12) rfl rfl ⟨rfl, by decide, by decide⟩ (fun w h Y => PySem.W.km_in_of Y) (by decide) rfl rfl (fun p hp => by obtain rfl := List.mem_singleton.mp hp; exact ⟨151, List.mem_singleton.mpr rfl⟩) ?T Lw.law_true
  case T =>
    intro w mg h KX G XP
    refine' Lw.top_mk KX G  ?z_len ?z_int ?z_abs ?z_max ?z_min ?z_str ?z_tuple ?z_all ?z_any ?z_sum ?z_bool ?z_dict ?z_list ?z_isinstance ?z_range ?z_zip ?z_enumerate ?z_set ?z_sorted ?z_repr ?g_MAX_COLUMNS ?g_MAX_LENGTH ?g_MAX_BETWEEN ?g_SIDES ?a0 ?l0 ?c0 ?k0 ?a1 ?l1 ?c1 ?k1 ?a2 ?l2 ?c2 ?k2 ?a3 ?l3 ?c3 ?k3 ?a4 ?l4 ?c4 ?k4 ?a5 ?l5 ?c5 ?k5 ?a6 ?l6 ?c6 ?k6 ?a7 ?l7 ?c7 ?k7 ?a8 ?l8 ?c8 ?k8 ?a9 ?l9 ?c9 ?k9 ?a10 ?l10 ?c10 ?k10 ?a11 ?l11 ?c11 ?k11 ?a12 ?l12 ?c12 ?k12 ?a13 ?l13 ?c13 ?k13 ?a14 ?l14 ?c14 ?yl14 ?yw14 ?yn14 ?yq14 ?k14 ?a15 ?l15 ?c15 ?k15 ?a16 ?l16 ?kw16_sides ?kw16_fill ?kw16_between ?c16 ?k16 ?a17 ?l17 ?c17 ?k17 ?z_super ?z_opq ?z_top ?xe0 ?xc0 ?xv0 ?xs0 ?xb0 ?xt0 ?xk0 ?xg0 ?xa0 ?xd0 ?xw0 ?xe1 ?xc1 ?xv1 ?xs1 ?xb1 ?xt1 ?xk1 ?xg1 ?xa1 ?xd1 ?xw1 ?xm0_0 ?xm0_1 ?xi0 ?xr0 ?xu0 ?xm1_0 ?xm1_1 ?xi1 ?xr1 ?xu1 ?il0 ?ic0 ?ih0 ?id0 ?iv0 ?if0 ?iD0 ?it0 ?ig0
    (case z_len => k_is)
    (case z_int => k_is)
    (case z_abs => k_is)
    (case z_max => k_is)
    (case z_min => k_is)
    (case z_str => k_is)
    (case z_tuple => k_is)
    (case z_all => k_is)
    (case z_any => k_is)
    (case z_sum => k_is)
    (case z_bool => k_is)
    (case z_dict => k_is)
    (case z_list => k_is)
    (case z_isinstance => k_is)
    (case z_range => k_is)
    (case z_zip => k_is)
    (case z_enumerate => k_is)
    (case z_set => k_is)
    (case z_sorted => k_is)
    (case z_repr => k_is)
    (case g_MAX_COLUMNS => k_is)
    (case g_MAX_LENGTH => k_is)
    (case g_MAX_BETWEEN => k_is)
    (case g_SIDES => k_is)
    (case a0 => k_is)
    (case l0 => k_is)
    (case c0 => k_is)
    (case k0 => k_is)
    (case a1 => k_is)
    (case l1 => k_is)
    (case c1 => k_is)
    (case k1 => k_is)
    (case a2 => k_is)
    (case l2 => k_is)
    (case c2 => k_is)
    (case k2 => k_is)
    (case a3 => k_is)
    (case l3 => k_is)
    (case c3 => k_is)
    (case k3 => k_is)
    (case a4 => k_is)
    (case l4 => k_is)
    (case c4 => k_is)
    (case k4 => k_is)
    (case a5 => k_is)
    (case l5 => k_is)
    (case c5 => k_is)
    (case k5 => k_is)
    (case a6 => k_is)
    (case l6 => k_is)
    (case c6 => k_is)
    (case k6 => k_is)
    (case a7 => k_is)
    (case l7 => k_is)
    (case c7 => k_is)
    (case k7 => k_is)
    (case a8 => k_is)
    (case l8 => k_is)
    (case c8 => k_is)
    (case k8 => k_is)
    (case a9 => k_is)
    (case l9 => k_is)
    (case c9 => k_is)
    (case k9 => k_is)
    (case a10 => k_is)
    (case l10 => k_is)
    (case c10 => k_is)
    (case k10 => k_is)
    (case a11 => k_is)
    (case l11 => k_is)
    (case c11 => k_is)
    (case k11 => k_is)
    (case a12 => k_is)
    (case l12 => k_is)
    (case c12 => k_is)
    (case k12 => k_is)
    (case a13 => k_is)
    (case l13 => k_is)
    (case c13 => k_is)
    (case k13 => k_is)
    (case a14 => k_is)
    (case l14 => k_is)
    (case c14 => k_is)
    (case yl14 => k_is)
    (case yw14 => rfl)
    (case yn14 => first | rfl | k_is | kernel_rfl | decide +kernel)
    (case yq14 => first | rfl | decide +kernel | kernel_rfl)
    (case k14 => k_is)
    (case a15 => k_is)
    (case l15 => k_is)
    (case c15 => k_is)
    (case k15 => k_is)
    (case a16 => k_is)
    (case a17 => k_is)
    (case z_super => k_is)
    (case z_opq => k_is)
    (case z_top => first | rfl | kernel_rfl | decide +kernel)
    (case l16 => k_is)
    (case c16 => k_is)
    (case k16 => k_is)
    (case l17 => k_is)
    (case c17 => k_is)
    (case k17 => k_is)
    (case kw16_sides => k_is)
    (case kw16_fill => k_is)
    (case kw16_between => k_is)
    (case xe0 => k_is)
    (case xc0 => k_is)
    (case xv0 => first | rfl | decide)
    (case xs0 => k_is)
    (case xb0 => k_is)
    (case xt0 => k_is)
    (case xk0 => k_is)
    (case xg0 => k_is)
    (case xa0 => k_is)
    (case xd0 => k_is)
    (case xw0 => k_is)
    (case xe1 => k_is)
    (case xc1 => k_is)
    (case xv1 => first | rfl | decide)
    (case xs1 => k_is)
    (case xb1 => k_is)
    (case xt1 => k_is)
    (case xk1 => k_is)
    (case xg1 => k_is)
    (case xa1 => k_is)
    (case xd1 => k_is)
    (case xw1 => k_is)
    (case xm0_0 => k_is)
    (case xm0_1 => k_is)
    (case xi0 => k_is)
    (case xr0 => k_is)
    (case xu0 => kernel_rfl)
    (case xm1_0 => k_is)
    (case xm1_1 => k_is)
    (case xi1 => k_is)
    (case xr1 => k_is)
    (case xu1 => kernel_rfl)
    (case il0 => k_is)
    (case ic0 => k_is)
    (case ih0 => k_is)
    (case id0 => k_is)
    (case iv0 => rfl)
    (case if0 => first | rfl | decide)
    (case iD0 => kernel_rfl)
    (case it0 => k_is)
    (case ig0 => first | k_is | kernel_rfl)
