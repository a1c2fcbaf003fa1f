import PyProof.Rows.All
import Wide.All
import OpenK.AllK
import Wide.FinOn
import HandS.CallLocal
import HandS.ClsMeth
import HandS.Codes
import HandS.Comp
import HandS.Deep
import HandS.Defaults
import HandS.Dict
import HandS.DictComp
import HandS.DictTup
import HandS.Exc
import HandS.FStr
import HandS.Flow
import HandS.ForExc
import HandS.ForMost
import HandS.Head2
import HandS.HeadNt
import HandS.HeadWalk
import HandS.IsInst
import HandS.Iter
import HandS.List
import HandS.OwnEq
import HandS.Property
import HandS.Set
import HandS.SetBool
import HandS.SetFor
import HandS.Small
import HandS.Sort
import HandS.SortInts
import HandS.SortOrd
import HandS.Star
import HandS.Style
import HandS.Text
import HandS.TryOnly
import HandS.TupAny
import HandS.TupLen
import HandS.TupMul
import HandS.TupSets
import HandS.Zip
import KE.GoesEnum
import KE.KDictKeyed
import KE.KDictLaws
import KE.KeyNested
import KE.KxMul
import PyProof.DictMoreH
import PyProof.InstEq
import PyProof.ListMulAny
import PyProof.ReprLen
import PySem.Challenge.RW_waitkinds_k14_logs_of_histories
set_option Elab.async false
set_option linter.all false
set_option maxRecDepth 100000
set_option maxHeartbeats 2000000
/-! PD: sets whose members are tuples of any depth (to eight), fewer than 64. -/
namespace PD
open PySem PySem.Spec PyProof.Rows L2
abbrev isNk (P : Program) (w : World) (h : Heap) (k : NestedKey) (a : Addr) : Prop := (nestedKind P w).is h k a

/-! ### questions asked of keys -/
section
variable {P : Program} {w : World}
/-- v is of no class statement -/
def NoCls (P : Program) (w : World) (n : Nat) (s : Shared) (v : Value) : Prop := ∀ (A : Around) (E : Value → Shared → Prop) (Q : Bool → Shared → Prop), Q false s → wpAny (model P w) A (ofAClassStatement n v) Q E s
/-- whether v's hash is by value is told -/
def HashB (P : Program) (w : World) (n : Nat) (s : Shared) (v : Value) : Prop := ∀ (A : Around) (E : Value → Shared → Prop) (Q : Bool → Shared → Prop), (∀ b, Q b s) → wpAny (model P w) A (hashByValue n v) Q E s
theorem NoCls.tup {n m : Nat} {s : Shared} {a : Addr} {o : Obj} {vs : Array Value} (ho : s.heap.get? a = some o) (hc : o.cls = .type "tuple") (hd : o.data = .seq vs m) (hv : ∀ v ∈ vs.toList, NoCls P w n s v) : NoCls P w (n + 1) s (.ref a) := by
  intro A E Q q
  unfold ofAClassStatement
  refine wpAny_bind (wpAny_typeOf ⟨o, ho, hc⟩ ?_)
  dsimp only
  simp only [show (("tuple" : String) == "tuple") = true from by decide, if_true, Bool.not_true, Bool.false_eq_true, if_false]
  try refine wpAny_bind (wpAny_pure ?_)
  try simp only [Bool.not_true, Bool.false_eq_true, if_false]
  show wpAny _ _ (seqItems? (.ref a) >>= _) _ _ s
  refine wpAny_bind (wpAny_seqItems ho hd ?_)
  dsimp only
  refine wpAny_bind ?_
  show wpAny _ _ (forIn vs _ _) _ _ s
  rw [← Array.forIn_toList]
  refine wpAny_forIn_list _ (fun l r t => (∀ v ∈ l, NoCls P w n s v) ∧ t = s ∧ r.1 = none) _ ?_ ?_ _ _ ⟨hv, rfl, rfl⟩
  · intro v l r t ⟨h1, h2, h3⟩
    subst h2
    refine wpAny_bind (h1 v List.mem_cons_self _ _ _ ?_)
    simp only [Bool.false_eq_true, if_false]
    exact wpAny_pure ⟨fun u m => h1 u (List.mem_cons_of_mem _ m), rfl, rfl⟩
  · intro r t ⟨_, h2, h3⟩
    subst h2
    obtain ⟨r1, r2⟩ := r
    simp only at h3
    subst h3
    exact wpAny_pure q
theorem HashB.tup {n m : Nat} {s : Shared} {a : Addr} {o : Obj} {vs : Array Value} (ho : s.heap.get? a = some o) (hc : o.cls = .type "tuple") (hd : o.data = .seq vs m) (hv : ∀ v ∈ vs.toList, HashB P w n s v) : HashB P w (n + 1) s (.ref a) := by
  intro A E Q q
  unfold hashByValue
  refine wpAny_bind (wpAny_specialOf (T := "tuple") ⟨o, ho, hc⟩ F.slot_tuple_hash.lookup ?_)
  show wpAny _ _ (seqItems? (.ref a) >>= _) _ _ s
  refine wpAny_bind (wpAny_seqItems ho hd ?_)
  refine wpAny_bind ?_
  show wpAny _ _ (forIn vs _ _) _ _ s
  rw [← Array.forIn_toList]
  refine wpAny_forIn_list _ (fun l r t => (∀ v ∈ l, HashB P w n s v) ∧ t = s ∧ r.1 = none) _ ?_ ?_ _ _ ⟨hv, rfl, rfl⟩
  · intro v l r t ⟨h1, h2, h3⟩
    subst h2
    refine wpAny_bind (h1 v List.mem_cons_self _ _ _ fun b => ?_)
    cases b with
    | true =>
      simp only [Bool.not_true, Bool.false_eq_true, if_false]
      exact wpAny_pure ⟨fun u m => h1 u (List.mem_cons_of_mem _ m), rfl, rfl⟩
    | false =>
      simp only [Bool.not_false, if_true]
      exact wpAny_pure (wpAny_pure (q false))
  · intro r t ⟨_, h2, h3⟩
    subst h2
    obtain ⟨r1, r2⟩ := r
    simp only at h3
    subst h3
    exact wpAny_pure (q true)
mutual
theorem noCls : ∀ (k : NestedKey) (v : Value) (n : Nat) (s : Shared), NestedIs s.heap k v → k.depth ≤ n → NoCls P w n s v
  | .none, _, n, s, x, _ => by cases x; intro A E Q q; cases n <;> exact wpAny_pure q
  | .num i, _, n, s, x, _ => by cases x <;> (intro A E Q q; cases n <;> exact wpAny_pure q)
  | .text y, _, n, s, x, _ => by cases x; intro A E Q q; cases n <;> exact wpAny_pure q
  | .tup ks, _, n, s, x, hn => by
    cases x with
    | tup a1 a2 a3 a4 =>
      rw [NestedKey.depth] at hn
      match n, hn with
      | n + 1, hn => exact .tup a1 a2 a3 (noClss ks _ n s a4 (by omega))
theorem noClss : ∀ (ks : List NestedKey) (vs : List Value) (n : Nat) (s : Shared), NestedAll s.heap ks vs → NestedKey.depthAll ks ≤ n → ∀ v ∈ vs, NoCls P w n s v
  | [], _, n, s, x, _ => by cases x; intro v m; cases m
  | k :: ks, _, n, s, x, hn => by
    cases x with
    | cons x1 x2 =>
      rw [NestedKey.depthAll] at hn
      intro v m
      rcases List.mem_cons.mp m with e | m
      · subst e; exact noCls k _ n s x1 (by omega)
      · exact noClss ks _ n s x2 (by omega) v m
end
mutual
theorem hashB : ∀ (k : NestedKey) (v : Value) (n : Nat) (s : Shared), NestedIs s.heap k v → HashB P w n s v
  | .none, _, n, s, x => by cases x; intro A E Q q; cases n <;> exact wpAny_pure (q _)
  | .num i, _, n, s, x => by cases x <;> (intro A E Q q; cases n <;> exact wpAny_pure (q _))
  | .text y, _, n, s, x => by cases x; intro A E Q q; cases n <;> exact wpAny_pure (q _)
  | .tup ks, _, n, s, x => by
    cases x with
    | tup a1 a2 a3 a4 =>
      match n with
      | 0 => intro A E Q q; exact wpAny_pure (q _)
      | n + 1 => exact .tup a1 a2 a3 (hashBs ks _ n s a4)
theorem hashBs : ∀ (ks : List NestedKey) (vs : List Value) (n : Nat) (s : Shared), NestedAll s.heap ks vs → ∀ v ∈ vs, HashB P w n s v
  | [], _, n, s, x => by cases x; intro v m; cases m
  | k :: ks, _, n, s, x => by
    cases x with
    | cons x1 x2 =>
      intro v m
      rcases List.mem_cons.mp m with e | m
      · subst e; exact hashB k _ n s x1
      · exact hashBs ks _ n s x2 v m
end
/-- a search among tuples shows nothing -/
theorem unseen {A : Around} {E : Value → Shared → Prop} {s : Shared} {k : NestedKey} {b : Addr} {Q : Bool → Shared → Prop} (hk : isNk P w s.heap k b) {ys : List Value} (hy : ∀ y ∈ ys, ∃ k' c, y = Value.ref c ∧ isNk P w s.heap k' c) (q : Q false s) :
    wpAny (model P w) A (searchCouldBeSeen (.ref b) ys) Q E s := by
  unfold searchCouldBeSeen
  refine wpAny_bind ?_
  refine wpAny_forIn_list _ (fun l r t => (∀ y ∈ l, ∃ k' c, y = Value.ref c ∧ isNk P w s.heap k' c) ∧ t = s ∧ r.1 = none) _ ?_ ?_ _ _ ⟨hy, rfl, rfl⟩
  · intro v l r t ⟨h1, h2, h3⟩
    subst h2
    obtain ⟨k', c, e, hc⟩ := h1 v List.mem_cons_self
    subst e
    have h1' : ∀ y ∈ l, ∃ k' c, y = Value.ref c ∧ isNk P w t.heap k' c := fun u m => h1 u (List.mem_cons_of_mem _ m)
    dsimp only
    by_cases z : (b == c || (carriedByValue (.ref b) && carriedByValue (.ref c))) = true
    · exact wp_if_pos z (wpAny_pure ⟨h1', rfl, rfl⟩)
    · refine wp_if_neg z (wpAny_bind ((nestedKind P w).quiet hk ?_))
      simp only [Bool.not_true, Bool.false_eq_true, if_false]
      refine wpAny_bind ((nestedKind P w).quiet hc ?_)
      simp only [Bool.not_true, Bool.false_eq_true, if_false]
      refine wpAny_bind (noCls k _ 8 _ hk.1 hk.2 _ _ _ ?_)
      simp only [Bool.false_eq_true, if_false]
      refine wpAny_bind (noCls k' _ 8 _ hc.1 hc.2 _ _ _ ?_)
      simp only [Bool.false_eq_true, if_false]
      exact wpAny_pure ⟨h1', rfl, rfl⟩
  · intro r t ⟨_, h2, h3⟩
    subst h2
    obtain ⟨r1, r2⟩ := r
    simp only at h3
    subst h3
    exact wpAny_pure q
end
/-! ### the table alone -/
theorem nth_nodummy (m : Nat) : ∀ (n : Nat) (p : SetTable.Probe), p.dummy = none → (nth m p n).dummy = none
  | 0, _, h => h
  | n + 1, p, h => nth_nodummy m n (adv m p) (by
    unfold adv
    split <;> exact h)
abbrev startP (m : Nat) (h : Int) : SetTable.Probe := runAt m (SetTable.bits h % (m + 1)) (SetTable.bits h)
/-- what a probe meets, from the c-th step of the way on -/
theorem probe_meets {t : SetTable} {hs : List Int} (T : TabOk t hs) (hashAt : Nat → Int) {h : Int} {K : Nat} (hf : K < 10 * SetTable.turns t.mask) (hK : way t.mask h K ∉ t.place.toList) (hb : ∀ c, c < K → way t.mask h c ∈ t.place.toList) {c : Nat} (hc : c ≤ K) :
    (∃ d i, c ≤ d ∧ d < K ∧ t.place.toList[i]? = some (way t.mask h d) ∧ hashAt i = h ∧ (∀ d' i', c ≤ d' → d' < d → t.place.toList[i']? = some (way t.mask h d') → hashAt i' ≠ h) ∧
      t.probe hashAt h (nth t.mask (startP t.mask h) c) = some (.candidate (way t.mask h d) i (nth t.mask (startP t.mask h) (d + 1)))) ∨
    ((∀ d' i', c ≤ d' → d' < K → t.place.toList[i']? = some (way t.mask h d') → hashAt i' ≠ h) ∧ t.probe hashAt h (nth t.mask (startP t.mask h) c) = some (.empty (way t.mask h K) none)) := by
  have sh : ∀ q, nth t.mask (nth t.mask (startP t.mask h) c) q = nth t.mask (startP t.mask h) (c + q) := fun q => (nth_add t.mask c _ q).symm
  have shj : ∀ q, (nth t.mask (nth t.mask (startP t.mask h) c) q).j = way t.mask h (c + q) := fun q => congrArg SetTable.Probe.j (sh q)
  have eK : c + (K - c) = K := by omega
  rcases go_spec t T.ris T.dm hashAt h (10 * SetTable.turns t.mask) (K - c) _ (nth_nodummy t.mask c _ rfl) (by omega) (fun q hq => by rw [shj]; exact hb _ (by omega)) (by rw [shj, eK]; exact hK) with ⟨q, i, h1, h2, h3, h4, h5⟩ | ⟨h4, h5⟩
  · rw [shj] at h2
    refine .inl ⟨c + q, i, by omega, by omega, h2, h3, fun d' i' a b e => ?_, ?_⟩
    · refine h4 (d' - c) i' (by omega) ?_
      rw [shj, show c + (d' - c) = d' by omega]
      exact e
    · refine Eq.trans h5 ?_
      rw [shj, sh]
      rfl
  · refine .inr ⟨fun d' i' a b e => ?_, ?_⟩
    · refine h4 (d' - c) i' (by omega) ?_
      rw [shj, show c + (d' - c) = d' by omega]
      exact e
    · refine Eq.trans h5 ?_
      rw [shj, eK]
/-! ### rows laid in another order -/
theorem all_of_range {α : Type} : ∀ L : List α, (List.range L.length).filterMap (fun i => L[i]?) = L
  | [] => rfl
  | x :: L => by
    rw [List.length_cons, List.range_succ_eq_map, List.filterMap_cons]
    simp only [List.getElem?_cons_zero, List.filterMap_map]
    have := all_of_range L
    simpa [Function.comp_def] using this
theorem perm_filterMap {α : Type} {L : List α} {l : List Nat} (h : l.Perm (List.range L.length)) : (l.filterMap fun i => L[i]?).Perm L := by
  have := h.filterMap fun i => L[i]?
  rwa [all_of_range] at this
theorem map_of_order {α β : Type} {L : List α} (f : α → β) (g : Nat → β) (hg : ∀ i x, L[i]? = some x → g i = f x) : ∀ l : List Nat, (∀ i ∈ l, i < L.length) → (l.filterMap fun i => L[i]?).map f = l.map g
  | [], _ => rfl
  | i :: l, h => by
    have hi := h i List.mem_cons_self
    have e := List.getElem?_eq_getElem hi
    rw [List.filterMap_cons_some e, List.map_cons, List.map_cons, map_of_order f g hg l fun j m => h j (List.mem_cons_of_mem _ m), hg i _ e]
/-! ### the set -/
def tRow (w : World) (L : List (Addr × NestedKey)) : List (Int × Value) := L.map fun q => (q.2.hash w, Value.ref q.1)
/-- the set at a has just these members, its rows in their order -/
structure NSet (P : Program) (w : World) (h : Heap) (a : Addr) (L : List (Addr × NestedKey)) (es : Array (Int × Value)) (ep : Nat) (t : SetTable) : Prop where
  obj : ∃ o, h.get? a = some o ∧ o.ExactSet ∧ o.data = .set es ep t
  row : es.toList = tRow w L
  tab : TabOk t (L.map fun q => q.2.hash w)
  nod : (L.map (·.2)).Nodup
  mem : ∀ q ∈ L, isNk P w h q.2 q.1
  led : w.params.followText "set-order" = true ∨ t.led = true
  wide : L.length * 5 < t.mask * 3
  few : L.length < 64
section
variable {P : Program} {w : World} {A : Around} {E : Value → Shared → Prop} {s : Shared} {a : Addr} {L : List (Addr × NestedKey)} {es : Array (Int × Value)} {ep : Nat} {t : SetTable}
theorem row_size (h : es.toList = tRow w L) : es.size = L.length := by
  have := congrArg List.length h
  rwa [Array.length_toList, tRow, List.length_map] at this
theorem row_at (h : es.toList = tRow w L) (i : Nat) : es[i]? = (L[i]?).map fun q => (q.2.hash w, Value.ref q.1) := by
  rw [← Array.getElem?_toList, h, tRow, List.getElem?_map]
theorem fits_of (h1 : t.place.size = es.size) (h2 : t.dummies = #[]) (h3 : es.size ≤ t.mask) : t.fits es.size = true := by
  unfold SetTable.fits SetTable.fill
  rw [h2, h1]
  simpa using h3
theorem NSet.fits (R : NSet P w s.heap a L es ep t) : t.fits es.size = true := by
  have h1 := R.tab.sz
  have h2 := row_size R.row
  have h3 := R.wide
  rw [List.length_map] at h1
  exact fits_of (by rw [h1, h2]) R.tab.dm (by omega)
theorem NSet.search (R : NSet P w s.heap a L es ep t) {x : Addr} {k : NestedKey} (hx : isNk P w s.heap k x) (hu : A.units + 8 < cLine) {K : Nat} (hf : K < 10 * SetTable.turns t.mask)
    (hK : way t.mask (k.hash w) K ∉ t.place.toList) (hb : ∀ c, c < K → way t.mask (k.hash w) c ∈ t.place.toList) {Q : SetFound → Shared → Prop} (yes : k ∈ L.map (·.2) → Q (.there none) s) (no : k ∉ L.map (·.2) → Q (.free (way t.mask (k.hash w) K) false) s) :
    ∀ (f c : Nat) (st : Option SetTable.Probe), st.getD (t.probeStart (k.hash w)) = nth t.mask (startP t.mask (k.hash w)) c → c ≤ K → K - c < f →
      (∀ (i : Nat) q, L[i]? = some q → q.2 = k → ∃ d, c ≤ d ∧ d < K ∧ t.place.toList[i]? = some (way t.mask (k.hash w) d)) → wpAny (model P w) A (setSearchFrom a (.ref x) (k.hash w) true f st) Q E s := by
  intro f
  induction f with
  | zero => intro c st _ _ z; exact absurd z (Nat.not_lt_zero _)
  | succ f ih =>
    intro c st hst hc hlt left
    obtain ⟨o, ho, hex, hd⟩ := R.obj
    have gw : ¬ t.gaveWay = true := by
      unfold SetTable.gaveWay
      rw [mask_odd R.tab.mok]
      decide
    have hashOf : ∀ (i : Nat) q, L[i]? = some q → ((es[i]?.map (·.1)).getD 0) = q.2.hash w := fun i q e => by rw [row_at R.row, e]; rfl
    rw [setSearchFrom_succ]
    refine wpAny_bind (wpAny_setState_of ho hd R.fits ?_)
    dsimp only
    refine wp_if_neg gw ?_
    try refine wpAny_bind (wpAny_pure ?_)
    rw [hst]
    rcases probe_meets R.tab (fun i => (es[i]?.map (·.1)).getD 0) hf hK hb hc with ⟨d, i, h1, h2, h3, h4, h5, h6⟩ | ⟨h5, h6⟩
    · rw [h6]
      dsimp only
      have hi : i < L.length := by
        have z := (List.getElem?_eq_some_iff.mp h3).1
        have y := R.tab.sz
        rw [List.length_map] at y
        rw [Array.length_toList] at z
        omega
      obtain ⟨q, eq⟩ : ∃ q, L[i]? = some q := ⟨_, List.getElem?_eq_getElem hi⟩
      have mq := List.mem_of_getElem? eq
      have kq := R.mem q mq
      have slot : t.slot (way t.mask (k.hash w) d) = .live i := slot_live R.tab.ris h3
      have rest : wpAny (model P w) A (searchRest a (.ref x) (k.hash w) true f es t (way t.mask (k.hash w) d) i (nth t.mask (startP t.mask (k.hash w)) (d + 1))) Q E s := by
        unfold searchRest
        rw [row_at R.row, eq]
        dsimp only [Option.map_some]
        refine wpAny_bind (wpAny_holding ((nestedKind P w).eqBool hu kq hx ?_))
        refine wpAny_bind (wpAny_setState_of ho hd R.fits ?_)
        dsimp only
        by_cases ek : q.2 = k
        · refine wp_if_pos (by simp [ek]) ?_
          exact wpAny_pure (yes (List.mem_map.mpr ⟨q, mq, ek⟩))
        · refine wp_if_neg (by simp [ek]) ?_
          try refine wpAny_bind (wpAny_pure ?_)
          rw [sameMem]
          dsimp only
          simp only [if_true, slot, row_at R.row, eq, Option.map_some]
          refine wpAny_bind (wpAny_isSame_ref_self (wpAny_bind (wpAny_pure ?_)))
          simp only [if_true]
          refine wp_if_neg (by simp [ek]) ?_
          refine ih (d + 1) _ rfl (by omega) (by omega) fun i0 q0 e0 k0 => ?_
          obtain ⟨d', a1, a2, a3⟩ := left i0 q0 e0 k0
          refine ⟨d', ?_, a2, a3⟩
          rcases Nat.lt_trichotomy d' d with z | z | z
          · exact absurd ((hashOf i0 q0 e0).trans (by rw [k0])) (h5 d' i0 a1 z a3)
          · subst z
            have z := slot_live R.tab.ris a3
            rw [slot] at z
            injection z with z
            subst z
            rw [eq] at e0
            exact absurd (by rw [Option.some.inj e0]; exact k0) ek
          · exact z
      by_cases hl : t.led = true
      · refine wp_if_neg (by simp [hl]) ?_
        try refine wpAny_bind (wpAny_pure ?_)
        exact rest
      · refine wp_if_pos (by simp [hl]) ?_
        refine wpAny_bind (unseen hx (fun y hy => ?_) ?_)
        · obtain ⟨e, he, rfl⟩ := List.mem_map.mp hy
          have he1 : e ∈ es ∧ e.1 = k.hash w := by simpa using he
          have he2 : e ∈ es.toList := by simpa using he1.1
          rw [R.row] at he2
          obtain ⟨q2, m2, rfl⟩ := List.mem_map.mp he2
          exact ⟨q2.2, q2.1, rfl, R.mem q2 m2⟩
        · refine wp_if_neg (by decide) ?_
          try refine wpAny_bind (wpAny_pure ?_)
          exact rest
    · rw [h6]
      dsimp only
      refine wpAny_pure (no fun m => ?_)
      obtain ⟨q0, m0, k0⟩ := List.mem_map.mp m
      obtain ⟨i0, hi0, e0⟩ := List.getElem_of_mem m0
      have e0' : L[i0]? = some q0 := by rw [List.getElem?_eq_getElem hi0, e0]
      obtain ⟨d, a1, a2, a3⟩ := left i0 q0 e0' k0
      exact h5 d i0 a1 a2 a3 ((hashOf i0 q0 e0').trans (by rw [k0]))
theorem NSet.searchAll (R : NSet P w s.heap a L es ep t) {x : Addr} {k : NestedKey} (hx : isNk P w s.heap k x) (hu : A.units + 8 < cLine) {Q : SetFound → Shared → Prop} (yes : k ∈ L.map (·.2) → Q (.there none) s)
    (no : ∀ K, k ∉ L.map (·.2) → way t.mask (k.hash w) K ∉ t.place.toList → (∀ c, c < K → way t.mask (k.hash w) c ∈ t.place.toList) → Q (.free (way t.mask (k.hash w) K) false) s) : wpAny (model P w) A (setSearch a (.ref x) (k.hash w) true) Q E s := by
  have hw := R.wide
  obtain ⟨K, hf, hK, hb⟩ := R.tab.first (by rw [List.length_map]; omega) (k.hash w)
  have hlt : K < 100000 := by
    have : SetTable.turns t.mask ≤ 142 := by
      unfold SetTable.turns
      rcases R.tab.mok with e | e | e <;> omega
    omega
  unfold setSearch
  refine R.search hx hu hf hK hb yes (fun n => no K n hK hb) 100000 0 none rfl (Nat.zero_le _) (by omega) fun i q e k0 => ?_
  have hi : i < t.place.toList.length := by
    have z := (List.getElem?_eq_some_iff.mp e).1
    have y := R.tab.sz
    rw [List.length_map] at y
    rw [Array.length_toList]
    omega
  have ep := List.getElem?_eq_getElem hi
  obtain ⟨d, z, y⟩ := R.tab.before (i := i) hK (by rw [List.getElem?_map, e, ← k0]; rfl) ep
  exact ⟨d, Nat.zero_le _, z, by rw [y]; exact ep⟩
theorem isNk_same {h h' : Heap} {k : NestedKey} {b : Addr} {o : Obj} (hb : isNk P w h k b) (ho : h.get? a = some o) (hd : o.data = .set es ep t) (sb : Heap.SameBut a h h') : isNk P w h' k b :=
  ⟨NestedIs.at (fun c u vs n hc hs => by
    refine (sb.2 c fun e => ?_).trans hc
    subst e
    rw [ho] at hc
    cases hc
    rw [hd] at hs
    cases hs) k _ hb.1, hb.2⟩
/-- the table laid anew -/
theorem nrelay {o : Obj} (ho : s.heap.get? a = some o) (hex : o.ExactSet) (hd : o.data = .set es ep t) (row : es.toList = tRow w L) (hz : t.place.size = es.size) (hm : t.dummies = #[]) (hl : es.size ≤ t.mask) (nod : (L.map (·.2)).Nodup) (mem : ∀ q ∈ L, isNk P w s.heap q.2 q.1)
    (led : w.params.followText "set-order" = true ∨ t.led = true) (few : L.length < 64) {wanted M : Nat} (e1 : SetTable.sizeAbove wanted - 1 = M) (e2 : MaskOk M) (e3 : SetTable.sizeAbove wanted ≤ 128) (e4 : L.length * 5 < M * 3) {Q : Unit → Shared → Prop}
    (hQ : ∀ h' L' es' ep' t', Heap.SameBut a s.heap h' → NSet P w h' a L' es' ep' t' → L'.Perm L → Q () { s with heap := h' }) : wpAny (model P w) A (setRelay a wanted) Q E s := by
  have hs := row_size row
  obtain ⟨t', order, er, hp, T, em, el, _, ed⟩ := relaid_ok t (hs := es.map (·.1)) e1 e2 (by rw [Array.size_map, hs]; omega)
  rw [Array.size_map, hs] at hp
  have lt : ∀ i ∈ order.toList, i < L.length := fun i m => List.mem_range.mp (hp.mem_iff.mp m)
  have r1 : (order.filterMap (es[·]?)).toList = tRow w (order.toList.filterMap fun i => L[i]?) := by
    rw [Array.toList_filterMap, tRow, List.map_filterMap]
    exact congrArg (fun f => List.filterMap f order.toList) (funext fun i => row_at row i)
  have r3 : (order.toList.map fun i => (es.map (·.1)).getD i 0) = (order.toList.filterMap fun i => L[i]?).map fun q => q.2.hash w := by
    refine (map_of_order _ _ (fun i q e => ?_) _ lt).symm
    have : (es.map (·.1))[i]? = some (q.2.hash w) := by rw [Array.getElem?_map, row_at row, e]; rfl
    simp [Array.getD_eq_getD_getElem?, this]
  rw [r3] at T
  have pm := perm_filterMap hp
  generalize (order.toList.filterMap fun i => L[i]?) = L2 at r1 T pm
  have s2 := row_size r1
  rw [pm.length_eq] at s2
  rw [setRelay_eq]
  refine wpAny_bind (wpAny_setState_of ho hd (fits_of hz hm hl) ?_)
  dsimp only
  refine wp_if_neg (by rw [sizeLine_eq]; omega) ?_
  try refine wpAny_bind (wpAny_pure ?_)
  rw [er]
  dsimp only
  refine wpAny_bind ?_
  refine wp_if_neg (by rw [s2, hs]; simp) ?_
  try refine wpAny_bind (wpAny_pure ?_)
  refine wpAny_pure ?_
  dsimp only
  refine wpAny_storeSet_of ho hd ?_ (by rw [s2, sizeLine_eq]; omega)
  have sb : Heap.SameBut a s.heap (s.heap.update a (Obj.putSet (order.filterMap (es[·]?)) t')) := Heap.SameBut.update ..
  exact hQ _ L2 _ (ep + 1) t' sb ⟨⟨_, store_at ho hd, ⟨hex.1, hex.2.1, hex.2.2⟩, rfl⟩, r1, T, (pm.map (·.2)).nodup_iff.mpr nod, fun q m => isNk_same (mem q (pm.mem_iff.mp m)) ho hd sb, by rw [el]; exact led, by rw [pm.length_eq, em]; exact e4, by rw [pm.length_eq]; exact few⟩ pm
/-- adding -/
theorem NSet.add (R : NSet P w s.heap a L es ep t) {x : Addr} {k : NestedKey} (hx : isNk P w s.heap k x) (hu : A.units + 8 < cLine) (few : L.length + 1 < 64) {Q : Bool → Shared → Prop}
    (hQ : ∀ b h' L' es' ep' t', Heap.SameBut a s.heap h' → NSet P w h' a L' es' ep' t' → (k ∈ L.map (·.2) → L' = L) → (k ∉ L.map (·.2) → L'.Perm ((x, k) :: L)) → Q b { s with heap := h' }) : wpAny (model P w) A (setAddHashed a (.ref x) (k.hash w)) Q E s := by
  obtain ⟨o, ho, hex, hd⟩ := R.obj
  have hs := row_size R.row
  have hw := R.wide
  unfold setAddHashed
  refine wpAny_holding ?_
  rw [show (100000 : Nat) = 99999 + 1 from rfl, setAddHashedIn_succ]
  refine wpAny_bind (wpAny_setState_of ho hd R.fits ?_)
  dsimp only
  refine wp_if_neg (by simp [byScan, Value.scannable]) ?_
  try refine wpAny_bind (wpAny_pure ?_)
  refine wpAny_bind (R.searchAll hx hu (fun m => ?_) fun K n hK hb => ?_)
  · dsimp only
    exact wpAny_pure (hQ false s.heap L es ep t (.refl a s.heap) R (fun _ => rfl) fun z => absurd m z)
  · dsimp only
    refine wpAny_bind (wpAny_setState_of ho hd R.fits ?_)
    dsimp only
    obtain ⟨g1, g2, g3, g4, g5, g6, g7, g8, g9⟩ := R.tab.put hK hb
    generalize t.put (way t.mask (k.hash w) K) = pt at g1 g3 g4 g5 g6 g7 g8 g9 ⊢
    obtain ⟨t1, p⟩ := pt
    dsimp only at g1 g3 g4 g5 g6 g7 g8 g9 ⊢
    subst g1
    have pm : (L.take (SetTable.below t.place (way t.mask (k.hash w) K)) ++ (x, k) :: L.drop (SetTable.below t.place (way t.mask (k.hash w) K))).Perm ((x, k) :: L) := put_perm _ _ _
    have r1 : (SetTable.insertAt es (SetTable.below t.place (way t.mask (k.hash w) K)) (k.hash w, Value.ref x)).toList = tRow w (L.take (SetTable.below t.place (way t.mask (k.hash w) K)) ++ (x, k) :: L.drop (SetTable.below t.place (way t.mask (k.hash w) K))) := by
      rw [SetTable.toList_insertAt, R.row]
      simp [tRow]
    have g3' : TabOk t1 ((L.take (SetTable.below t.place (way t.mask (k.hash w) K)) ++ (x, k) :: L.drop (SetTable.below t.place (way t.mask (k.hash w) K))).map fun q => q.2.hash w) := by
      simpa using g3
    clear g3
    generalize SetTable.insertAt es (SetTable.below t.place (way t.mask (k.hash w) K)) (k.hash w, Value.ref x) = es1 at r1 ⊢
    generalize L.take (SetTable.below t.place (way t.mask (k.hash w) K)) ++ (x, k) :: L.drop (SetTable.below t.place (way t.mask (k.hash w) K)) = L1 at pm r1 g3'
    have hl1 : L1.length = L.length + 1 := pm.length_eq
    have hs1 := row_size r1
    have nod1 : (L1.map (·.2)).Nodup := by
      refine (pm.map (·.2)).nodup_iff.mpr ?_
      rw [List.map_cons]
      exact List.nodup_cons.mpr ⟨n, R.nod⟩
    have fin : ∀ b : Bool, wpAny (model P w) A (do
        let t := if b = true then t1 else { t1 with plain := false }
        storeSet a es1 t
        if (!false && t.tooFull) = true then setRelay a (SetTable.grown (es.size + 1))
        return true) Q E s := fun b => by
      obtain ⟨t2, e2⟩ : ∃ t2, t2 = (if b = true then t1 else { t1 with plain := false }) := ⟨_, rfl⟩
      have q4 : t2.mask = t.mask := by rw [e2]; cases b <;> exact g4
      have q5 : t2.led = t.led := by rw [e2]; cases b <;> exact g5
      have q9 : t2.fill = L.length + 1 := by
        rw [List.length_map] at g9
        rw [e2]
        cases b <;> exact g9
      have T2 : TabOk t2 (L1.map fun q => q.2.hash w) := by
        rw [e2]
        cases b
        · exact ⟨g3'.ris, g3'.dm, g3'.sz, g3'.mok, g3'.bd, g3'.reach⟩
        · exact g3'
      show wpAny _ _ (storeSet a es1 (if b = true then t1 else { t1 with plain := false }) >>= _) _ _ _
      rw [← e2]
      refine wpAny_bind (wpAny_storeSet_of ho hd ?_ (by rw [hs1, hl1, sizeLine_eq]; omega))
      have sb : Heap.SameBut a s.heap (s.heap.update a (Obj.putSet es1 t2)) := Heap.SameBut.update ..
      have ho1 := store_at (es' := es1) (t' := t2) ho hd
      generalize s.heap.update a (Obj.putSet es1 t2) = h1 at sb ho1 ⊢
      have mem1 : ∀ q ∈ L1, isNk P w h1 q.2 q.1 := fun q m => by
        rcases List.mem_cons.mp (pm.mem_iff.mp m) with e | m
        · rw [e]; exact isNk_same hx ho hd sb
        · exact isNk_same (R.mem q m) ho hd sb
      have led1 : w.params.followText "set-order" = true ∨ t2.led = true := by rw [q5]; exact R.led
      have sz2 : t2.place.size = es1.size := by
        have := T2.sz
        rw [List.length_map] at this
        rw [this, hs1]
      by_cases hf : t2.tooFull = true
      · have full : (L.length + 1) * 5 ≥ t.mask * 3 := by
          have := hf
          unfold SetTable.tooFull at this
          rwa [decide_eq_true_eq, q9, q4] at this
        refine wp_if_pos (by simp [hf]) (wpAny_bind ?_)
        rw [hs]
        have go : ∀ M, SetTable.sizeAbove (SetTable.grown (L.length + 1)) - 1 = M → MaskOk M → SetTable.sizeAbove (SetTable.grown (L.length + 1)) ≤ 128 → (L.length + 1) * 5 < M * 3 → wpAny (model P w) A (setRelay a (SetTable.grown (L.length + 1))) (fun _ s' => wpAny (model P w) A (pure true) Q E s') E { s with heap := h1 } := fun M z1 z2 z3 z4 =>
          nrelay (s := { s with heap := h1 }) ho1 ⟨hex.1, hex.2.1, hex.2.2⟩ rfl r1 sz2 T2.dm (by rw [hs1, hl1, q4]; omega) nod1 mem1 led1 (by rw [hl1]; exact few) z1 z2 z3 (by rw [hl1]; exact z4) fun h2 L2 es2 ep2 t2 sb2 R2 pm2 =>
            wpAny_pure (hQ true h2 L2 es2 ep2 t2 (sb.trans sb2) R2 (fun z => absurd z n) fun _ => pm2.trans pm)
        have two : L.length = 4 ∨ L.length = 18 := by
          rcases R.tab.mok with e | e | e <;> rw [e] at full hw <;> omega
        rcases two with e | e
        · exact go 31 (by rw [e, size_20]) (.inr (.inl rfl)) (by rw [e, size_20]; decide) (by omega)
        · exact go 127 (by rw [e, size_76]) (.inr (.inr rfl)) (by rw [e, size_76]; decide) (by omega)
      · have nf : (L.length + 1) * 5 < t2.mask * 3 := by
          have := hf
          unfold SetTable.tooFull at this
          rw [decide_eq_true_eq, q9] at this
          omega
        refine wp_if_neg (by simp [hf]) ?_
        exact wpAny_pure (hQ true h1 L1 es1 (ep + 1) t2 sb ⟨⟨_, ho1, ⟨hex.1, hex.2.1, hex.2.2⟩, rfl⟩, r1, T2, nod1, mem1, led1, by rw [hl1]; exact nf, by rw [hl1]; exact few⟩ (fun z => absurd z n) fun _ => pm)
    by_cases hp : t1.plain = true
    · first
        | (refine wpAny_bind ?_; refine wp_if_pos hp ?_; exact hashB k _ 8 _ hx.1 _ _ _ fun b => fin b)
        | exact wp_if_pos hp (wpAny_bind (hashB k _ 8 _ hx.1 _ _ _ fun b => fin b))
    · first
        | (refine wpAny_bind ?_; refine wp_if_neg hp ?_; exact wpAny_pure (fin true))
        | exact wp_if_neg hp (wpAny_bind (wpAny_pure (fin true)))
/-- a new set -/
theorem nset_new {h : Heap} (ho : h.get? a = some { cls := .type "set", dict := none, data := .set #[] 0 (.fresh 0 0 (!w.params.followText "set-order")) }) : NSet P w h a [] #[] 0 (.fresh 0 0 (!w.params.followText "set-order")) where
  obj := ⟨_, ho, ⟨rfl, rfl, rfl⟩, rfl⟩
  row := rfl
  tab := ⟨.nil, rfl, rfl, .inl rfl, fun x hx => (by cases hx), fun i h j hi => (by simp at hi)⟩
  nod := .nil
  mem := fun q m => nomatch m
  led := by
    show _ ∨ (!w.params.followText "set-order") = true
    cases w.params.followText "set-order"
    · exact .inr rfl
    · exact .inl rfl
  wide := (by decide : 0 * 5 < 7 * 3)
  few := (by decide : 0 < 64)
theorem nset_type (R : NSet P w s.heap a L es ep t) : s.TypeIs (.ref a) "set" := let ⟨o, ho, hc, _⟩ := R.obj; ⟨o, ho, hc.1⟩
/-- set.add, by a comprehension -/
theorem call_nadd (R : NSet P w s.heap a L es ep t) {x : Addr} {k : NestedKey} (hx : isNk P w s.heap k x) (hu : A.units + 64 < cLine) (few : L.length + 1 < 64) {Q : Value → Shared → Prop}
    (hQ : ∀ h' tk L' es' ep' t', Heap.SameBut a s.heap h' → NSet P w h' a L' es' ep' t' → (k ∈ L.map (·.2) → L' = L) → (k ∉ L.map (·.2) → L'.Perm ((x, k) :: L)) → Q .none { s with heap := h', toks := tk }) : wpAny (model P w) A (call (.builtin "set.add") [.ref a, .ref x]) Q E s := by
  refine wpAny_call_entry F.slot_set_add (nset_type R) F.entry_set_add ?_ (F.args_set_add_2 _ _)
  unfold Builtin.«set.add» Builtin.Frozenset.oneOther
  simp only [List.isEmpty_nil, bind_assoc]
  unfold Builtin.Frozenset.addrOf setAdd
  refine wpAny_bind (wpAny_pure ?_)
  try dsimp only
  refine wpAny_bind (wpAny_pure ?_)
  try dsimp only
  refine wpAny_bind (wpAny_holding ?_)
  refine wpAny_bind ((nestedKind P w).pyHash (show (Around.in1 A).units + 8 < cLine by simp only [Around.in1_units]; omega) hx ?_)
  refine NSet.add (s := { s with toks := s.toks + k.draws }) R hx (by simp only [Around.in1_units]; omega) few fun b h' L' es' ep' t' sb R' c1 c2 => ?_
  show wpAny _ _ (ret Value.none) _ _ _
  exact wpAny_pure ⟨_, rfl, hQ h' _ L' es' ep' t' sb R' c1 c2⟩
end
/-- the set alone, without its members' tuples -/
def NSet0 (P : Program) (w : World) (h : Heap) (a : Addr) (L : List (Addr × NestedKey)) : Prop := ∃ (es : Array (Int × Value)) (ep : Nat) (t : SetTable), (∃ o, h.get? a = some o ∧ o.ExactSet ∧ o.data = .set es ep t) ∧ es.toList = tRow w L ∧ TabOk t (L.map fun q => q.2.hash w) ∧
  (L.map (·.2)).Nodup ∧ (w.params.followText "set-order" = true ∨ t.led = true) ∧ L.length * 5 < t.mask * 3 ∧ L.length < 64
def NSO (P : Program) (w : World) (a : Addr) (L : List (Addr × NestedKey)) : HO := .ext fun h => NSet0 P w h a L
section
variable {P : Program} {w : World} {h : Heap} {a : Addr} {L : List (Addr × NestedKey)} {es : Array (Int × Value)} {ep : Nat} {t : SetTable}
theorem NSet.alone (R : NSet P w h a L es ep t) : NSet0 P w h a L := ⟨es, ep, t, R.obj, R.row, R.tab, R.nod, R.led, R.wide, R.few⟩
theorem NSet0.with (R : NSet0 P w h a L) (m : ∀ q ∈ L, isNk P w h q.2 q.1) : ∃ es ep t, NSet P w h a L es ep t := by
  obtain ⟨es, ep, t, h1, h2, h3, h4, h5, h6, h7⟩ := R
  exact ⟨es, ep, t, h1, h2, h3, h4, m, h5, h6, h7⟩
theorem nso_ok {H : Hp} (R : NSet0 P w h a L) : ObjOk P w H h a (NSO P w a L) := by
  have ⟨es, ep, t, ⟨o, ho, r⟩, q⟩ := R
  refine ⟨R, ⟨o, ho⟩, fun h1 h2 p k => ?_⟩
  obtain ⟨es', ep', t', ⟨o', ho', r'⟩, q'⟩ := p
  exact ⟨es', ep', t', ⟨o', k o' ho', r'⟩, q'⟩
end
end PD
set_option Elab.async false
set_option linter.all false
set_option maxRecDepth 100000
set_option maxHeartbeats 1000000
/-! PD: plain data over the hand layer. -/
namespace PD
open PySem PySem.Spec PyProof.Rows L2

/-- plain data: what a value is, tuples included; ref: a mutable object; fn, cls: the program's own defs and classes by number -/
inductive D where
  | non | bl (b : Bool) | int (i : Int) | str (x : Str) | tup (xs : List D) | ref (a : Addr) | ty (n : String) | fn (i : Nat) | cls (i : Nat)

namespace D
mutual
def beq : D → D → Bool
  | .non, .non => true
  | .bl a, .bl b => a == b
  | .int a, .int b => decide (a = b)
  | .str a, .str b => decide (a = b)
  | .tup a, .tup b => beqs a b
  | .ref a, .ref b => decide (a = b)
  | .ty a, .ty b => decide (a = b)
  | .fn a, .fn b => decide (a = b)
  | .cls a, .cls b => decide (a = b)
  | _, _ => false
def beqs : List D → List D → Bool
  | [], [] => true
  | a :: as, b :: bs => beq a b && beqs as bs
  | _, _ => false
end
mutual
theorem beq_self : ∀ a : D, beq a a = true
  | .non => rfl
  | .bl a => by simp [beq]
  | .int a => by simp [beq]
  | .str a => by simp [beq]
  | .tup a => by rw [beq]; exact beqs_self a
  | .ref a => by simp [beq]
  | .ty a => by simp [beq]
  | .fn a => by simp [beq]
  | .cls a => by simp [beq]
theorem beqs_self : ∀ a : List D, beqs a a = true
  | [] => rfl
  | a :: as => by rw [beqs, beq_self a, beqs_self as]; rfl
end
mutual
theorem of_beq : ∀ a b : D, beq a b = true → a = b
  | .non, b, h => by cases b <;> simp_all [beq]
  | .bl a, b, h => by cases b <;> simp_all [beq]
  | .int a, b, h => by cases b <;> simp_all [beq]
  | .str a, b, h => by cases b <;> simp_all [beq]
  | .ref a, b, h => by cases b <;> simp_all [beq]
  | .ty a, b, h => by cases b <;> simp_all [beq]
  | .fn a, b, h => by cases b <;> simp_all [beq]
  | .cls a, b, h => by cases b <;> simp_all [beq]
  | .tup a, b, h => by
    cases b with
    | tup b => rw [beq] at h; rw [of_beqs a b h]
    | _ => simp [beq] at h
theorem of_beqs : ∀ a b : List D, beqs a b = true → a = b
  | [], [], _ => rfl
  | [], _ :: _, h => by simp [beqs] at h
  | _ :: _, [], h => by simp [beqs] at h
  | a :: as, b :: bs, h => by
    rw [beqs, Bool.and_eq_true] at h
    rw [of_beq a b h.1, of_beqs as bs h.2]
end
instance : DecidableEq D := fun a b => if h : beq a b = true then isTrue (of_beq a b h) else isFalse fun e => h (e ▸ beq_self a)
mutual
/-- the data as a dict's key (None, ints, texts, tuples of these; no bool) -/
def key : D → Option NestedKey
  | .non => some .none
  | .int i => some (.num i)
  | .str x => some (.text x)
  | .tup xs => (keys xs).map .tup
  | _ => none
def keys : List D → Option (List NestedKey)
  | [] => some []
  | x :: xs => (key x).bind fun k => (keys xs).map (k :: ·)
end
mutual
theorem key_inj : ∀ (x y : D) (k : NestedKey), key x = some k → key y = some k → x = y
  | .non, y, k, hx, hy => by rw [key] at hx; cases hx; cases y <;> simp [key] at hy ⊢
  | .int _, y, k, hx, hy => by rw [key] at hx; cases hx; cases y <;> simp [key] at hy ⊢ <;> exact hy.symm
  | .str _, y, k, hx, hy => by rw [key] at hx; cases hx; cases y <;> simp [key] at hy ⊢ <;> exact hy.symm
  | .bl _, y, k, hx, hy => by simp [key] at hx
  | .ref _, y, k, hx, hy => by simp [key] at hx
  | .ty _, y, k, hx, hy => by simp [key] at hx
  | .fn _, y, k, hx, hy => by simp [key] at hx
  | .cls _, y, k, hx, hy => by simp [key] at hx
  | .tup xs, y, k, hx, hy => by
    rw [key, Option.map_eq_some_iff] at hx
    obtain ⟨ks, h1, rfl⟩ := hx
    cases y with
    | tup ys =>
      rw [key, Option.map_eq_some_iff] at hy
      obtain ⟨ks', h2, e⟩ := hy
      cases e
      rw [keys_inj xs ys ks h1 h2]
    | _ => simp [key] at hy
theorem keys_inj : ∀ (xs ys : List D) (ks : List NestedKey), keys xs = some ks → keys ys = some ks → xs = ys
  | [], ys, ks, hx, hy => by
    cases ys with
    | nil => rfl
    | cons y ys =>
      rw [keys] at hx; cases hx
      simp only [keys, Option.bind_eq_some_iff, Option.map_eq_some_iff] at hy
      obtain ⟨k, _, z, _, e⟩ := hy
      cases e
  | x :: xs, ys, ks, hx, hy => by
    simp only [keys, Option.bind_eq_some_iff, Option.map_eq_some_iff] at hx
    obtain ⟨k, h1, z, h2, rfl⟩ := hx
    cases ys with
    | nil => simp [keys] at hy
    | cons y ys =>
      simp only [keys, Option.bind_eq_some_iff, Option.map_eq_some_iff] at hy
      obtain ⟨k', g1, z', g2, e⟩ := hy
      cases e
      rw [key_inj x y _ h1 g1, keys_inj xs ys _ h2 g2]
end
end D

/-- mutable objects -/
inductive O where
  | lst (xs : List D) | dct (kvs : List (D × D)) | set (xs : List D) | ins (c : Nat) (fs : List (Nat × D)) | frz (o : O)
abbrev Sto := Addr → Option O
def put (S : Sto) (a : Addr) (o : O) : Sto := fun b => if b = a then some o else S b
theorem put_same {S : Sto} {a : Addr} {o : O} : put S a o a = some o := by unfold put; rw [if_pos rfl]
theorem put_ne {S : Sto} {a b : Addr} {o : O} (h : b ≠ a) : put S a o b = S b := by unfold put; rw [if_neg h]
abbrev Rho := List (Option D)

/-- where the static things stand -/
structure Lay where
  P : Program
  w : World
  K : PySem.W.Frag
  fa : Nat → Addr
  ca : Nat → Addr
  nm : Nat → Str

section
variable (L : Lay)
mutual
inductive Rep (H : Hp) : D → V → Prop
  | non : Rep H .non .non
  | bl {b} : Rep H (.bl b) (.bl b)
  | int {i} : Rep H (.int i) (.int i)
  | str {x} : Rep H (.str x) (.str x)
  | tup {a vs ds} : SqT L.K H a vs → Reps H ds vs → Rep H (.tup ds) (.ref a)
  | ref {a} : Rep H (.ref a) (.ref a)
  | ty {n} : Rep H (.ty n) (.ty n)
  | fn {i} : Rep H (.fn i) (.ref (L.fa i))
  | cls {i} : Rep H (.cls i) (.ref (L.ca i))
inductive Reps (H : Hp) : List D → List V → Prop
  | nil : Reps H [] []
  | cons {d v ds vs} : Rep H d v → Reps H ds vs → Reps H (d :: ds) (v :: vs)
end

/-- tuples stay -/
def Ext (H H' : Hp) : Prop := ∀ a vs, Rd H a (.tup vs) → Rd H' a (.tup vs)
end
theorem Ext.refl {H : Hp} : Ext H H := fun _ _ h => h
theorem Ext.trans {H H' H'' : Hp} (a : Ext H H') (b : Ext H' H'') : Ext H H'' := fun p vs h => b p vs (a p vs h)
theorem Ext.sqT {K : PySem.W.Frag} {H H' : Hp} {a : Addr} {vs : List V} (e : Ext H H') (h : SqT K H a vs) : SqT K H' a vs := h.elim (fun z => .inl (e a vs z)) .inr
section
variable {L : Lay} {H H' : Hp}
mutual
theorem Rep.ext (e : Ext H H') : ∀ {d : D} {v : V}, Rep L H d v → Rep L H' d v
  | _, _, .non => .non
  | _, _, .bl => .bl
  | _, _, .int => .int
  | _, _, .str => .str
  | _, _, .tup h1 h2 => .tup (e.sqT h1) (Reps.ext e h2)
  | _, _, .ref => .ref
  | _, _, .ty => .ty
  | _, _, .fn => .fn
  | _, _, .cls => .cls
theorem Reps.ext (e : Ext H H') : ∀ {ds : List D} {vs : List V}, Reps L H ds vs → Reps L H' ds vs
  | _, _, .nil => .nil
  | _, _, .cons h1 h2 => .cons (Rep.ext e h1) (Reps.ext e h2)
end
theorem Reps.length : ∀ {ds : List D} {vs : List V}, Reps L H ds vs → ds.length = vs.length
  | _, _, .nil => rfl
  | _, _, .cons _ t => by simp [Reps.length t]
theorem Reps.get : ∀ {ds : List D} {vs : List V} {i : Nat} {d : D}, Reps L H ds vs → ds[i]? = some d → ∃ v, vs[i]? = some v ∧ Rep L H d v
  | _, _, _, _, .nil, e => by simp at e
  | _, _, 0, _, .cons r _, e => by simp at e; subst e; exact ⟨_, rfl, r⟩
  | _, _, i + 1, d, .cons _ t, e => by
    obtain ⟨v, h1, h2⟩ := Reps.get (i := i) (d := d) t (by simpa using e)
    exact ⟨v, by simpa using h1, h2⟩
theorem Reps.get' : ∀ {ds : List D} {vs : List V} {i : Nat} {v : V}, Reps L H ds vs → vs[i]? = some v → ∃ d, ds[i]? = some d ∧ Rep L H d v
  | _, _, _, _, .nil, e => by simp at e
  | _, _, 0, _, .cons r _, e => by simp at e; subst e; exact ⟨_, rfl, r⟩
  | _, _, i + 1, d, .cons _ t, e => by
    obtain ⟨v, h1, h2⟩ := Reps.get' (i := i) t (by simpa using e)
    exact ⟨v, by simpa using h1, h2⟩
theorem Reps.append : ∀ {ds es : List D} {vs us : List V}, Reps L H ds vs → Reps L H es us → Reps L H (ds ++ es) (vs ++ us)
  | _, _, _, _, .nil, t => t
  | _, _, _, _, .cons r s, t => .cons r (Reps.append s t)
theorem Reps.set : ∀ {ds : List D} {vs : List V} {d : D} {v : V} (i : Nat), Reps L H ds vs → Rep L H d v → Reps L H (ds.set i d) (vs.set i v)
  | _, _, _, _, _, .nil, _ => .nil
  | _, _, _, _, 0, .cons _ t, r => .cons r t
  | _, _, _, _, i + 1, .cons q t, r => .cons q (Reps.set i t r)
theorem Reps.take : ∀ {ds : List D} {vs : List V} (n : Nat), Reps L H ds vs → Reps L H (ds.take n) (vs.take n)
  | _, _, 0, _ => .nil
  | _, _, _ + 1, .nil => .nil
  | _, _, n + 1, .cons r t => .cons r (Reps.take n t)
theorem Reps.drop : ∀ {ds : List D} {vs : List V} (n : Nat), Reps L H ds vs → Reps L H (ds.drop n) (vs.drop n)
  | _, _, 0, r => r
  | _, _, _ + 1, .nil => .nil
  | _, _, n + 1, .cons r t => Reps.drop n t
theorem Reps.dropLast {ds : List D} {vs : List V} (r : Reps L H ds vs) : Reps L H ds.dropLast vs.dropLast := by
  rw [List.dropLast_eq_take, List.dropLast_eq_take, r.length]; exact r.take _
theorem Reps.reverse : ∀ {ds : List D} {vs : List V}, Reps L H ds vs → Reps L H ds.reverse vs.reverse
  | _, _, .nil => .nil
  | _, _, .cons r t => by rw [List.reverse_cons, List.reverse_cons]; exact (Reps.reverse t).append (.cons r .nil)
theorem Reps.eraseIdx : ∀ {ds : List D} {vs : List V} (i : Nat), Reps L H ds vs → Reps L H (ds.eraseIdx i) (vs.eraseIdx i)
  | _, _, _, .nil => .nil
  | _, _, 0, .cons _ t => t
  | _, _, i + 1, .cons r t => .cons r (Reps.eraseIdx i t)
theorem Reps.split : ∀ {ds es : List D} {vs : List V}, Reps L H (ds ++ es) vs → ∃ v1 v2, vs = v1 ++ v2 ∧ Reps L H ds v1 ∧ Reps L H es v2
  | [], _, vs, r => ⟨[], vs, rfl, .nil, r⟩
  | _ :: ds, es, _, .cons r t => by
    obtain ⟨v1, v2, e, r1, r2⟩ := Reps.split (ds := ds) (es := es) t
    exact ⟨_ :: v1, v2, by rw [e]; rfl, .cons r r1, r2⟩
theorem Reps.ints : ∀ {ns : List Int}, Reps L H (ns.map D.int) (ns.map V.int)
  | [] => .nil
  | _ :: _ => .cons .int Reps.ints
theorem Reps.ints_of : ∀ {ns : List Int} {vs : List V}, Reps L H (ns.map D.int) vs → vs = ns.map V.int
  | [], _, .nil => rfl
  | _ :: _, _, .cons .int t => by rw [Reps.ints_of t]; rfl
theorem Reps.strs_of : ∀ {ns : List Str} {vs : List V}, Reps L H (ns.map D.str) vs → vs = ns.map V.str
  | [], _, .nil => rfl
  | _ :: _, _, .cons .str t => by rw [Reps.strs_of t]; rfl
theorem Reps.bls_of : ∀ {ns : List Bool} {vs : List V}, Reps L H (ns.map D.bl) vs → vs = ns.map V.bl
  | [], _, .nil => rfl
  | _ :: _, _, .cons .bl t => by rw [Reps.bls_of t]; rfl
end

section
variable (L : Lay)
/-- a field of an instance -/
inductive Flds (H : Hp) : List (Nat × D) → List (Str × V) → Prop
  | nil : Flds H [] []
  | cons {f d v fs vs} : Rep L H d v → Flds H fs vs → Flds H ((f, d) :: fs) ((L.nm f, v) :: vs)
def kD : Key → D
  | .inl i => .int i
  | .inr x => .str x
/-- entries of a dict whose keys are ints and texts -/
inductive EntK (H : Hp) : List (D × D) → List (Key × V) → Prop
  | nil : EntK H [] []
  | cons {k d v xs ys} : Rep L H d v → EntK H xs ys → EntK H ((kD k, d) :: xs) ((k, v) :: ys)
/-- entries of a dict whose keys are tuples -/
inductive EntT (H : Hp) : List (D × D) → List (NestedKey × Addr × V) → Prop
  | nil : EntT H [] []
  | cons {k nk a d v xs ys} : k.key = some nk → nk.depth ≤ 8 → Rep L H k (.ref a) → Rep L H d v → EntT H xs ys → EntT H ((k, d) :: xs) ((nk, a, v) :: ys)
/-- a dict with tuple keys, by its one object -/
def TD (a : Addr) (ys : List (NestedKey × Addr × V)) : HO := .ext fun h => (a == sysModules) = false ∧ ys.length ≤ sizeLine ∧
  ∃ xs : List (NestedKey × Addr × Value), Paired (fun (p : NestedKey × Addr × V) (q : NestedKey × Addr × Value) => p.1 = q.1 ∧ p.2.1 = q.2.1 ∧ RelV p.2.2 q.2.2) ys xs ∧
    ∃ o es ep, h.get? a = some o ∧ o.ExactDict ∧ o.data = .dict es ep ∧ es.toList = xs.map (entryOfKey (nestedKind L.P L.w)) ∧ (xs.map (·.1)).Nodup
/-- members of a set: tuples -/
inductive EntS (H : Hp) : List D → List (Addr × NestedKey) → Prop
  | nil : EntS H [] []
  | cons {k nk a xs ys} : k.key = some nk → nk.depth ≤ 8 → Rep L H k (.ref a) → EntS H xs ys → EntS H (k :: xs) ((a, nk) :: ys)
/-- how an object stands -/
inductive ROk (H : Hp) : O → Addr → HO → Prop
  | lst {xs vs a} : Reps L H xs vs → ROk H (.lst xs) a (.lst vs)
  | dK {kvs ys a} : EntK L H kvs ys → (ys.map (·.1)).Nodup → ROk H (.dct kvs) a (.dK ys)
  | dT {kvs ys a} : EntT L H kvs ys → ROk H (.dct kvs) a (TD L a ys)
  | ins {c fs vs dx a} : Flds L H fs vs → ROk H (.ins c fs) a (.ins (L.ca c) dx vs)
  | frz {o ob u a} : ROk H o a u → ROk H (.frz o) a (.frz ob u)
  | set {xs ys M a} : EntS L H xs ys → M.Perm ys → ROk H (.set xs) a (NSO L.P L.w a M)
def RS (S : Sto) (H : Hp) : Prop := ∀ a o, S a = some o → ∃ ho, H a = some ho ∧ ROk L H o a ho
def RE (H : Hp) (ρ : Rho) (σ : L2.St) : Prop := ρ.length = σ.length ∧ ∀ (i : Nat) d, ρ[i]? = some (some d) → ∃ v, σ[i]? = some (some v) ∧ Rep L H d v
end
section
variable {L : Lay} {H H' : Hp} {S : Sto}
theorem Flds.ext (e : Ext H H') : ∀ {fs vs}, Flds L H fs vs → Flds L H' fs vs
  | _, _, .nil => .nil
  | _, _, .cons r t => .cons (r.ext e) (Flds.ext e t)
theorem EntK.ext (e : Ext H H') : ∀ {fs vs}, EntK L H fs vs → EntK L H' fs vs
  | _, _, .nil => .nil
  | _, _, .cons r t => .cons (r.ext e) (EntK.ext e t)
theorem EntT.ext (e : Ext H H') : ∀ {fs vs}, EntT L H fs vs → EntT L H' fs vs
  | _, _, .nil => .nil
  | _, _, .cons k dp r1 r t => .cons k dp (r1.ext e) (r.ext e) (EntT.ext e t)
theorem EntS.ext (e : Ext H H') : ∀ {xs ys}, EntS L H xs ys → EntS L H' xs ys
  | _, _, .nil => .nil
  | _, _, .cons k dp r1 r => .cons k dp (r1.ext e) (EntS.ext e r)
theorem ROk.ext (e : Ext H H') : ∀ {o a ho}, ROk L H o a ho → ROk L H' o a ho
  | _, _, _, .lst r => .lst (r.ext e)
  | _, _, _, .dK r n => .dK (r.ext e) n
  | _, _, _, .dT r => .dT (r.ext e)
  | _, _, _, .ins r => .ins (r.ext e)
  | _, _, _, .frz r => .frz (ROk.ext e r)
  | _, _, _, .set r p => .set (r.ext e) p
theorem RE.ext {ρ : Rho} {σ : L2.St} (e : Ext H H') (r : RE L H ρ σ) : RE L H' ρ σ := ⟨r.1, fun i d h => let ⟨v, h1, h2⟩ := r.2 i d h; ⟨v, h1, h2.ext e⟩⟩
theorem RE.set {ρ : Rho} {σ : L2.St} (r : RE L H ρ σ) {d : D} {v : V} (i : Nat) (q : Rep L H d v) : RE L H (ρ.set i (some d)) (σ.set i (some v)) := by
  refine ⟨by simp [r.1], fun j e h => ?_⟩
  rw [List.getElem?_set] at h ⊢
  split at h
  · rename_i hij
    subst hij
    split at h
    · rename_i hl
      cases h
      exact ⟨v, by rw [if_pos rfl, if_pos (by rw [← r.1]; exact hl)], q⟩
    · cases h
  · rename_i hij
    rw [if_neg hij]
    exact r.2 j e h
/-- a new object, or an object that may change, is put -/
theorem Ext.upd_new {a : Addr} {o : HO} (h : H a = none) : Ext H (upd H a o) := fun b vs r => by
  have hb : b ≠ a := by
    rintro rfl
    rcases r with r | ⟨_, r⟩ <;> (rw [h] at r; cases r)
  rcases r with r | ⟨ob, r⟩
  · exact .inl (by rw [upd_ne hb]; exact r)
  · exact .inr ⟨ob, by rw [upd_ne hb]; exact r⟩
theorem Ext.upd_of {a : Addr} {o o' : HO} (h : H a = some o') (hn : ∀ vs, o' ≠ .tup vs) (hf : ∀ ob vs, o' ≠ .frz ob (.tup vs)) : Ext H (upd H a o) := fun b vs r => by
  have hb : b ≠ a := by
    rintro rfl
    rcases r with r | ⟨ob, r⟩
    · rw [h] at r; exact hn _ (Option.some.inj r)
    · rw [h] at r; exact hf _ _ (Option.some.inj r)
  rcases r with r | ⟨ob, r⟩
  · exact .inl (by rw [upd_ne hb]; exact r)
  · exact .inr ⟨ob, by rw [upd_ne hb]; exact r⟩
theorem RS.free (r : RS L S H) {a : Addr} (h : H a = none) : S a = none := by
  cases e : S a with
  | none => rfl
  | some o =>
    obtain ⟨ho, q, _⟩ := r a o e
    rw [h] at q; cases q
theorem RS.put {a : Addr} {o : O} {ho : HO} (r : RS L S H) (e : Ext H (upd H a ho)) (k : ROk L (upd H a ho) o a ho) : RS L (PD.put S a o) (upd H a ho) := fun b ob h => by
  by_cases hb : b = a
  · subst hb
    rw [put_same] at h; cases h
    exact ⟨ho, upd_same, k⟩
  · rw [put_ne hb] at h
    obtain ⟨hb', h1, h2⟩ := r b ob h
    exact ⟨hb', by rw [upd_ne hb]; exact h1, h2.ext e⟩
/-- something that the store does not tell of is laid -/
theorem RS.side {a : Addr} {ho : HO} (r : RS L S H) (h : H a = none) : RS L S (upd H a ho) := fun b ob q => by
  obtain ⟨hb', h1, h2⟩ := r b ob q
  exact ⟨hb', by rw [upd_ne (ne_of_none h1 h)]; exact h1, h2.ext (Ext.upd_new h)⟩
end
end PD
set_option Elab.async false
set_option linter.all false
set_option maxRecDepth 100000
set_option maxHeartbeats 1000000
/-! PD: the order of keys: ints, texts, tuples of these at any depth. -/
namespace PD
open PySem PySem.Spec PyProof.Rows L2
mutual
def ltK : NestedKey → NestedKey → Option Bool
  | .num i, .num j => some (decide (i < j))
  | .text x, .text y => some (decide (x.cps.toList < y.cps.toList))
  | .tup xs, .tup ys => ltKs xs ys
  | .none, _ => none
  | .num _, .none => none
  | .num _, .text _ => none
  | .num _, .tup _ => none
  | .text _, .none => none
  | .text _, .num _ => none
  | .text _, .tup _ => none
  | .tup _, .none => none
  | .tup _, .num _ => none
  | .tup _, .text _ => none
def ltKs : List NestedKey → List NestedKey → Option Bool
  | [], [] => some false
  | [], _ :: _ => some true
  | _ :: _, [] => some false
  | x :: xs, y :: ys => if NestedKey.beq x y = true then ltKs xs ys else ltK x y
end
/-! the value v is the key k, no bool in it -/
mutual
inductive NI (h : Heap) : NestedKey → Value → Prop
  | none : NI h .none .none
  | int (i t) : NI h (.num i) (.int i t)
  | text (x t) : NI h (.text x) (.str x t)
  | tup {a o vs n ks} : h.get? a = some o → o.cls = .type "tuple" → o.data = .seq vs n → NIs h ks vs.toList → NI h (.tup ks) (.ref a)
inductive NIs (h : Heap) : List NestedKey → List Value → Prop
  | nil : NIs h [] []
  | cons {k v ks vs} : NI h k v → NIs h ks vs → NIs h (k :: ks) (v :: vs)
end
mutual
theorem NI.nested {h : Heap} : ∀ {k : NestedKey} {v : Value}, NI h k v → NestedIs h k v
  | _, _, .none => .none
  | _, _, .int i t => .int i t
  | _, _, .text x t => .text x t
  | _, _, .tup a b c d => .tup a b c (NIs.nested d)
theorem NIs.nested {h : Heap} : ∀ {ks : List NestedKey} {vs : List Value}, NIs h ks vs → NestedAll h ks vs
  | _, _, .nil => .nil
  | _, _, .cons a b => .cons (NI.nested a) (NIs.nested b)
end
open PySem.AutoSeq1 (wpAny_loadPart')
open PySem.MeetsSeq PySem.MeetsSeq2 PySem.MeetsSeq3
/-- x < y comes to b wherever there is room -/
def LtTo (x : NestedKey) : Prop := ∀ (y : NestedKey) (b : Bool) (A : Around) (s : Shared) (u v : Value) (prog : Program) (w : World) (E Q : Value → Shared → Prop), ltK x y = some b → NI s.heap x u → NI s.heap y v →
  A.units + x.depth + 1 < cLine → Q (.bool b) s → wpAny (model prog w) A (richCompare .Lt u v) Q E s
theorem tup_lt (l m : Addr) (items items2 : Array Value) (n n2 : Nat) (dd dd2 : Option Addr) (sl sl2 : Array (Option Value)) (xs ys : List NestedKey) (r : Bool) (hr : ltKs xs ys = some r) (hl : ∀ x ∈ xs, LtTo x) :
    Meets (Builtin.«tuple.__lt__» ⟨[.ref l, .ref m], []⟩)
      (fun A R s => s.heap.get? l = some { cls := .type "tuple", dict := dd, data := .seq items n, slots := sl } ∧ s.heap.get? m = some { cls := .type "tuple", dict := dd2, data := .seq items2 n2, slots := sl2 } ∧
        NIs s.heap xs items.toList ∧ NIs s.heap ys items2.toList ∧ A.units + NestedKey.depthAll xs + 2 < cLine ∧ R (.ok (.ret (.bool r))) s) :=
  .of_wp fun prog w A R s h => by
    obtain ⟨hp, g, d, tk, os⟩ := s; obtain ⟨hl', hb, hxs, hys, hu, h⟩ := h
    have f2 := AutoSeq1.sub_tuple_tuple
    have len : ∀ {hp : Heap} {ks : List NestedKey} {vs : List Value}, NIs hp ks vs → ks.length = vs.length := fun {hp ks vs} q => by
      induction ks generalizing vs with
      | nil => cases q; rfl
      | cons k ks ih => cases q with
        | cons _ t => simp [ih t]
    have z1 : items.size = xs.length := by rw [len hxs]; simp
    have z2 : items2.size = ys.length := by rw [len hys]; simp
    have u1 : A.in1.units = A.units + 1 := rfl
    wp_walk using wpAny_loadPart' hl', wpAny_loadPart' hb, wpAny_forIn_list _ (fun rest b s' => b.1 = none ∧ s' = ⟨hp, g, d, tk, os⟩ ∧ ∃ (vs ws : List Value) (ks js : List NestedKey), rest = vs.zip ws ∧
      NIs hp ks vs ∧ NIs hp js ws ∧ ks.length + items2.size = js.length + items.size ∧ ltKs ks js = some r ∧ (∀ x ∈ ks, LtTo x) ∧ NestedKey.depthAll ks ≤ NestedKey.depthAll xs) _
    case turn =>
      rintro ⟨y, x⟩ rest b s' ⟨hb', rfl, vs, ws, ks, js, hz, hvi, hwi, hlen, hR, hk, hdp⟩
      cases hvi with
      | nil => rw [List.zip_nil_left] at hz; cases hz
      | @cons k1 v1 ks1 vs1 ka hvi' =>
        cases hwi with
        | nil => rw [List.zip_nil_right] at hz; cases hz
        | @cons j1 w1 js1 ws1 ja hwi' =>
          rw [List.zip_cons_cons] at hz
          injection hz with hyx hrest
          injection hyx with hy hx
          subst hy hx
          rw [ltKs] at hR
          simp only [List.length_cons] at hlen
          have hd1 : NestedKey.depthAll (k1 :: ks1) = max (NestedKey.depth k1) (NestedKey.depthAll ks1) := by rw [NestedKey.depthAll]
          have he := eqAt_key k1 j1 A.in1 ⟨hp, g, d, tk, os⟩ _ _ ka.nested ja.nested (by rw [u1]; omega)
          refine wpAny_bind (he prog w _ _ ?_)
          cases e : NestedKey.beq k1 j1 with
          | true =>
            rw [e, if_pos rfl] at hR
            wp_walk
            exact ⟨rfl, rfl, _, _, _, _, hrest, hvi', hwi', by omega, hR, fun z hz => hk z (List.mem_cons_of_mem _ hz), by omega⟩
          | false =>
            rw [e, if_neg Bool.false_ne_true] at hR
            have hri := fun E Q (q : Q (.bool r) (⟨hp, g, d, tk, os⟩ : Shared)) => hk k1 List.mem_cons_self j1 r A.in1 ⟨hp, g, d, tk, os⟩ _ _ prog w E Q hR ka ja (by rw [u1]; omega) q
            wp_walk using hri
            exact ⟨_, rfl, h⟩
    case fin =>
      rintro ⟨b1, b2⟩ s' ⟨hb', rfl, vs, ws, ks, js, hz, hvi, hwi, hlen, hR, hk, hdp⟩
      simp only at hb'
      subst hb'
      have hv : r = decide (items.size < items2.size) := by
        cases hvi with
        | nil =>
          cases hwi with
          | nil =>
            simp only [List.length_nil] at hlen
            rw [ltKs] at hR; cases hR
            exact (decide_eq_false (by omega)).symm
          | cons c u =>
            simp only [List.length_nil, List.length_cons] at hlen
            rw [ltKs] at hR; cases hR
            exact (decide_eq_true (by omega)).symm
        | cons a t =>
          cases hwi with
          | nil =>
            simp only [List.length_nil, List.length_cons] at hlen
            rw [ltKs] at hR; cases hR
            exact (decide_eq_false (by omega)).symm
          | cons c u =>
            rw [List.zip_cons_cons] at hz
            cases hz
      subst hv
      wp_walk
      exact ⟨_, rfl, by simpa [Builtin.Tuple.tupleCompareSizes] using h⟩
    case h =>
      exact ⟨rfl, rfl, items.toList, items2.toList, xs, ys, rfl, hxs, hys, by omega, hr, hl, Nat.le_refl _⟩
mutual
theorem lt_key : ∀ x : NestedKey, LtTo x
  | .none => fun y b A s u v prog w E Q h _ _ _ _ => by rw [ltK] at h; cases h
  | .num i => fun y b A s u v prog w E Q h hx hy hu hq => by
    cases y with
    | num j =>
      rw [ltK] at h; cases h
      cases hx with
      | int i t => cases hy with
        | int j t' => exact (lt_int hq : wpAny (model prog w) A (compareOp .Lt (.int i t) (.int j t')) Q E s)
    | _ => simp [ltK] at h
  | .text z => fun y b A s u v prog w E Q h hx hy hu hq => by
    cases y with
    | text z' =>
      rw [ltK] at h; cases h
      cases hx; cases hy
      exact PyProof.Rows.lt_str hq
    | _ => simp [ltK] at h
  | .tup xs => fun y b A s u v prog w E Q h hx hy hu hq => by
    cases y with
    | tup ys =>
      rw [ltK] at h
      cases hx with
      | @tup a o vs n _ h1 h2 h3 h4 => cases hy with
        | @tup a' o' vs' n' _ g1 g2 g3 g4 =>
          obtain ⟨cls, dd, data, sl⟩ := o
          obtain ⟨cls2, dd2, data2, sl2⟩ := o'
          simp only at h2 h3 g2 g3
          subst h2 h3 g2 g3
          have hd : NestedKey.depth (.tup xs) = NestedKey.depthAll xs + 1 := by rw [NestedKey.depth]
          exact richCompare_meets_room (op := .Lt) ⟨_, h1, rfl⟩ ⟨_, g1, rfl⟩ PySem.F.slot_tuple_lt PySem.F.entry_tuple_lt (PySem.F.args_tuple_lt_2 _ _) (tup_lt a a' vs vs' n n' dd dd2 sl sl2 xs ys b h (lt_keys xs))
            ⟨h1, g1, h4, g4, by omega, show Value.bool b ≠ Value.notImplemented ∧ Q (.bool b) s from ⟨(fun x => nomatch x), hq⟩⟩ (by omega)
    | _ => simp [ltK] at h
theorem lt_keys : ∀ xs : List NestedKey, ∀ x ∈ xs, LtTo x
  | [], _, h => by cases h
  | k :: ks, x, h => by
    rcases List.mem_cons.mp h with e | h
    · rw [e]; exact lt_key k
    · exact lt_keys ks x h
end
end PD
set_option Elab.async false
set_option linter.all false
set_option maxRecDepth 100000
set_option maxHeartbeats 1000000
/-! PD: all keys in one order, that of ltK where ltK says. -/
namespace PD
open PySem PySem.Spec PyProof.Rows L2
mutual
def ltT : NestedKey → NestedKey → Bool
  | .none, .none => false
  | .none, .num _ => true
  | .none, .text _ => true
  | .none, .tup _ => true
  | .num _, .none => false
  | .num i, .num j => decide (i < j)
  | .num _, .text _ => true
  | .num _, .tup _ => true
  | .text _, .none => false
  | .text _, .num _ => false
  | .text x, .text y => decide (x.cps.toList < y.cps.toList)
  | .text _, .tup _ => true
  | .tup _, .none => false
  | .tup _, .num _ => false
  | .tup _, .text _ => false
  | .tup xs, .tup ys => ltTs xs ys
def ltTs : List NestedKey → List NestedKey → Bool
  | [], [] => false
  | [], _ :: _ => true
  | _ :: _, [] => false
  | x :: xs, y :: ys => if NestedKey.beq x y = true then ltTs xs ys else ltT x y
end
theorem beq_iff {x y : NestedKey} : NestedKey.beq x y = true ↔ x = y := ⟨NestedKey.eq_of_beq x y, fun h => h ▸ NestedKey.beq_self x⟩
theorem ltTs_same {x : NestedKey} {xs ys : List NestedKey} : ltTs (x :: xs) (x :: ys) = ltTs xs ys := by rw [ltTs, if_pos (NestedKey.beq_self x)]
theorem ltTs_diff {x y : NestedKey} {xs ys : List NestedKey} (h : x ≠ y) : ltTs (x :: xs) (y :: ys) = ltT x y := by rw [ltTs, if_neg fun z => h (beq_iff.mp z)]
mutual
theorem ltT_irr : ∀ x : NestedKey, ltT x x = false
  | .none => by rw [ltT]
  | .num i => by rw [ltT]; exact decide_eq_false (by omega)
  | .text x => by rw [ltT]; exact decide_eq_false (List.lt_irrefl _)
  | .tup xs => by rw [ltT]; exact ltTs_irr xs
theorem ltTs_irr : ∀ xs : List NestedKey, ltTs xs xs = false
  | [] => by rw [ltTs]
  | x :: xs => by rw [ltTs_same]; exact ltTs_irr xs
end
mutual
theorem ltT_tri : ∀ x y : NestedKey, x = y ∨ ltT x y = true ∨ ltT y x = true
  | .none, .none => .inl rfl
  | .none, .num _ => .inr (.inl (by rw [ltT]))
  | .none, .text _ => .inr (.inl (by rw [ltT]))
  | .none, .tup _ => .inr (.inl (by rw [ltT]))
  | .num _, .none => .inr (.inr (by rw [ltT]))
  | .num i, .num j => by
    simp only [ltT, decide_eq_true_eq, NestedKey.num.injEq]
    omega
  | .num _, .text _ => .inr (.inl (by rw [ltT]))
  | .num _, .tup _ => .inr (.inl (by rw [ltT]))
  | .text _, .none => .inr (.inr (by rw [ltT]))
  | .text _, .num _ => .inr (.inr (by rw [ltT]))
  | .text ⟨⟨x⟩⟩, .text ⟨⟨y⟩⟩ => by
    simp only [ltT, decide_eq_true_eq, NestedKey.text.injEq, Str.mk.injEq, Array.mk.injEq]
    by_cases h1 : x < y
    · exact .inr (.inl h1)
    · by_cases h2 : y < x
      · exact .inr (.inr h2)
      · exact .inl (List.le_antisymm (List.not_lt.mp h2) (List.not_lt.mp h1))
  | .text _, .tup _ => .inr (.inl (by rw [ltT]))
  | .tup _, .none => .inr (.inr (by rw [ltT]))
  | .tup _, .num _ => .inr (.inr (by rw [ltT]))
  | .tup _, .text _ => .inr (.inr (by rw [ltT]))
  | .tup xs, .tup ys => by
    simp only [ltT, NestedKey.tup.injEq]
    exact ltTs_tri xs ys
theorem ltTs_tri : ∀ xs ys : List NestedKey, xs = ys ∨ ltTs xs ys = true ∨ ltTs ys xs = true
  | [], [] => .inl rfl
  | [], _ :: _ => .inr (.inl (by rw [ltTs]))
  | _ :: _, [] => .inr (.inr (by rw [ltTs]))
  | x :: xs, y :: ys => by
    rcases ltT_tri x y with h | h | h
    · subst h
      rw [ltTs_same, ltTs_same]
      rcases ltTs_tri xs ys with e | e
      · exact .inl (by rw [e])
      · exact .inr e
    · have hne : x ≠ y := fun e => by subst e; rw [ltT_irr] at h; cases h
      exact .inr (.inl (by rw [ltTs_diff hne]; exact h))
    · have hne : y ≠ x := fun e => by subst e; rw [ltT_irr] at h; cases h
      exact .inr (.inr (by rw [ltTs_diff hne]; exact h))
end
mutual
theorem ltT_trans : ∀ x y z : NestedKey, ltT x y = true → ltT y z = true → ltT x z = true
  | x, .none, z, h1, h2 => by cases x <;> rw [ltT] at h1 <;> cases h1
  | .none, .num _, z, h1, h2 => by cases z <;> first | (rw [ltT] at h2; cases h2; done) | rw [ltT]
  | .num i, .num j, z, h1, h2 => by
    cases z with
    | none => rw [ltT] at h2; cases h2
    | num k => simp only [ltT, decide_eq_true_eq] at h1 h2 ⊢; omega
    | text _ => rw [ltT]
    | tup _ => rw [ltT]
  | .text _, .num _, z, h1, h2 => by rw [ltT] at h1; cases h1
  | .tup _, .num _, z, h1, h2 => by rw [ltT] at h1; cases h1
  | .none, .text _, z, h1, h2 => by cases z <;> first | (rw [ltT] at h2; cases h2; done) | rw [ltT]
  | .num _, .text _, z, h1, h2 => by cases z <;> first | (rw [ltT] at h2; cases h2; done) | rw [ltT]
  | .text a, .text b, z, h1, h2 => by
    cases z with
    | none => rw [ltT] at h2; cases h2
    | num k => rw [ltT] at h2; cases h2
    | text c => simp only [ltT, decide_eq_true_eq] at h1 h2 ⊢; exact List.lt_trans h1 h2
    | tup _ => rw [ltT]
  | .tup _, .text _, z, h1, h2 => by rw [ltT] at h1; cases h1
  | .none, .tup _, z, h1, h2 => by cases z <;> first | (rw [ltT] at h2; cases h2; done) | rw [ltT]
  | .num _, .tup _, z, h1, h2 => by cases z <;> first | (rw [ltT] at h2; cases h2; done) | rw [ltT]
  | .text _, .tup _, z, h1, h2 => by cases z <;> first | (rw [ltT] at h2; cases h2; done) | rw [ltT]
  | .tup xs, .tup ys, z, h1, h2 => by
    cases z with
    | none => rw [ltT] at h2; cases h2
    | num k => rw [ltT] at h2; cases h2
    | text c => rw [ltT] at h2; cases h2
    | tup zs =>
      rw [ltT] at h1 h2 ⊢
      exact ltTs_trans xs ys zs h1 h2
theorem ltTs_trans : ∀ xs ys zs : List NestedKey, ltTs xs ys = true → ltTs ys zs = true → ltTs xs zs = true
  | xs, [], zs, h1, h2 => by cases xs <;> rw [ltTs] at h1 <;> cases h1
  | [], _ :: _, zs, h1, h2 => by cases zs <;> first | (rw [ltTs] at h2; cases h2; done) | rw [ltTs]
  | x :: xs, y :: ys, [], h1, h2 => by rw [ltTs] at h2; cases h2
  | x :: xs, y :: ys, z :: zs, h1, h2 => by
    by_cases e1 : x = y
    · subst e1
      rw [ltTs_same] at h1
      by_cases e2 : x = z
      · subst e2
        rw [ltTs_same] at h2 ⊢
        exact ltTs_trans xs ys zs h1 h2
      · rw [ltTs_diff e2] at h2 ⊢
        exact h2
    · rw [ltTs_diff e1] at h1
      by_cases e2 : y = z
      · subst e2
        rw [ltTs_diff e1]
        exact h1
      · rw [ltTs_diff e2] at h2
        have h3 := ltT_trans x y z h1 h2
        have e3 : x ≠ z := fun e => by subst e; rw [ltT_irr] at h3; cases h3
        rw [ltTs_diff e3]
        exact h3
end
theorem ltT_no {x y : NestedKey} (h : ltT x y = true) : ltT y x = false := by
  cases e : ltT y x with
  | false => rfl
  | true => have := ltT_trans _ _ _ h e; rw [ltT_irr] at this; cases this
theorem ltT_anti {x y : NestedKey} (h1 : ltT x y = false) (h2 : ltT y x = false) : x = y := by
  rcases ltT_tri x y with h | h | h
  · exact h
  · rw [h1] at h; cases h
  · rw [h2] at h; cases h
mutual
theorem ltK_T : ∀ (x y : NestedKey) (b : Bool), ltK x y = some b → ltT x y = b
  | .none, _, b, h => by rw [ltK] at h; cases h
  | .num i, y, b, h => by cases y <;> rw [ltK] at h <;> cases h <;> rw [ltT]
  | .text i, y, b, h => by cases y <;> rw [ltK] at h <;> cases h <;> rw [ltT]
  | .tup xs, y, b, h => by
    cases y with
    | tup ys => rw [ltK] at h; rw [ltT]; exact ltKs_T xs ys b h
    | _ => rw [ltK] at h; cases h
theorem ltKs_T : ∀ (xs ys : List NestedKey) (b : Bool), ltKs xs ys = some b → ltTs xs ys = b
  | [], [], b, h => by rw [ltKs] at h; cases h; rw [ltTs]
  | [], _ :: _, b, h => by rw [ltKs] at h; cases h; rw [ltTs]
  | _ :: _, [], b, h => by rw [ltKs] at h; cases h; rw [ltTs]
  | x :: xs, y :: ys, b, h => by
    rw [ltKs] at h
    rw [ltTs]
    split at h
    · rename_i e; rw [if_pos e]; exact ltKs_T xs ys b h
    · rename_i e; rw [if_neg e]; exact ltK_T x y b h
end
theorem swo_T {α : Type} (k : α → NestedKey) : SrtO.Swo fun x y => ltT (k x) (k y) := by
  refine ⟨fun x y h => ltT_no h, fun x y z h1 h2 => ?_⟩
  show ltT (k z) (k x) = false
  cases e : ltT (k z) (k x) with
  | false => rfl
  | true =>
    rcases ltT_tri (k x) (k y) with h | h | h
    · rw [h] at e; rw [e] at h2; cases h2
    · have := ltT_trans _ _ _ e h; rw [this] at h2; cases h2
    · rw [h] at h1; cases h1
end PD
set_option Elab.async false
set_option linter.all false
set_option maxRecDepth 100000
set_option maxHeartbeats 1000000
/-! PD: sorting by keys. -/
namespace PD
open PySem PySem.Spec PyProof.Rows L2
mutual
theorem NI.keep {h h' : Heap} (k : ∀ b o, h.get? b = some o → o.cls = .type "tuple" → h'.get? b = some o) : ∀ {n : NestedKey} {v : Value}, NI h n v → NI h' n v
  | _, _, .none => .none
  | _, _, .int i t => .int i t
  | _, _, .text x t => .text x t
  | _, _, .tup a b c d => .tup (k _ _ a b) b c (NIs.keep k d)
theorem NIs.keep {h h' : Heap} (k : ∀ b o, h.get? b = some o → o.cls = .type "tuple" → h'.get? b = some o) : ∀ {ns : List NestedKey} {vs : List Value}, NIs h ns vs → NIs h' ns vs
  | _, _, .nil => .nil
  | _, _, .cons a b => .cons (NI.keep k a) (NIs.keep k b)
end
mutual
theorem NI.det {h : Heap} : ∀ {n m : NestedKey} {v : Value}, NI h n v → NI h m v → n = m
  | _, _, _, .none, y => by cases y; rfl
  | _, _, _, .int i t, y => by cases y; rfl
  | _, _, _, .text x t, y => by cases y; rfl
  | _, _, _, .tup a b c d, y => by
    cases y with
    | tup a' b' c' d' =>
      rw [a] at a'; cases a'
      rw [c] at c'; cases c'
      rw [NIs.det d d']
theorem NIs.det {h : Heap} : ∀ {ns ms : List NestedKey} {vs : List Value}, NIs h ns vs → NIs h ms vs → ns = ms
  | _, _, _, .nil, y => by cases y; rfl
  | _, _, _, .cons a b, y => by
    cases y with
    | cons a' b' => rw [NI.det a a', NIs.det b b']
end
theorem NIs.len {h : Heap} : ∀ {ks : List NestedKey} {vs : List Value}, NIs h ks vs → ks.length = vs.length
  | _, _, .nil => rfl
  | _, _, .cons _ b => by simp [b.len]
/-- all ints, all texts, all tuples whose first is an int, all tuples whose first is a text -/
def SortK (ks : List NestedKey) : Prop :=
  (∀ k ∈ ks, ∃ i, k = .num i) ∨ (∀ k ∈ ks, ∃ x, k = .text x) ∨ (∀ k ∈ ks, ∃ i r, k = .tup (.num i :: r)) ∨ (∀ k ∈ ks, ∃ x r, k = .tup (.text x :: r))
/-- keys that are compared -/
def SortAll (ks : List NestedKey) : Prop := SortK ks ∧ (∀ k ∈ ks, k.depth ≤ 8) ∧ ∀ x ∈ ks, ∀ y ∈ ks, ∃ b, ltK x y = some b
section
variable {prog : Program} {w : World} {A : Around} {E : Value → Shared → Prop} {s : Shared}
theorem kat_key {b : Bool} {Q : Bool → Shared → Prop} {r : Bool} : ∀ (ks js : List NestedKey) (vs ws : List Value) (i : Nat) (fin : Bool), NIs s.heap ks vs → NIs s.heap js ws → ltKs ks js = some r → A.units + NestedKey.depthAll ks + 2 < cLine → fin = decide (ks.length < js.length) →
    ((b && i == 0) = true → ∀ x y xs ys, ks = x :: xs → js = y :: ys → (∃ m n, x = .num m ∧ y = .num n) ∨ ∃ m n, x = .text m ∧ y = .text n) → Q r s → PySem.W.KatLex prog w A b fin Q (vs.zip ws) i s
  | [], js, vs, ws, i, fin, h1, h2, hr, hu, hf, hh, q => by
    cases h1
    rw [List.zip_nil_left]
    refine PySem.W.kat_nil ?_
    cases js with
    | nil => rw [ltKs] at hr; cases hr; rw [hf]; simpa using q
    | cons y ys => rw [ltKs] at hr; cases hr; rw [hf]; simpa using q
  | x :: xs, [], vs, ws, i, fin, h1, h2, hr, hu, hf, hh, q => by
    cases h2
    rw [List.zip_nil_right]
    refine PySem.W.kat_nil ?_
    rw [ltKs] at hr; cases hr; rw [hf]; simpa using q
  | x :: xs, y :: ys, vs, ws, i, fin, h1, h2, hr, hu, hf, hh, q => by
    cases h1 with
    | @cons _ v _ vs' a1 a2 =>
      cases h2 with
      | @cons _ u _ ws' b1 b2 =>
        rw [List.zip_cons_cons]
        have hd : NestedKey.depthAll (x :: xs) = max (NestedKey.depth x) (NestedKey.depthAll xs) := by rw [NestedKey.depthAll]
        rw [ltKs] at hr
        refine PySem.W.kat_cons (eqAt_key x y A s v u a1.nested b1.nested (by omega) prog w _ _ ?_)
        cases e : NestedKey.beq x y with
        | true =>
          rw [e, if_pos rfl] at hr
          exact PySem.W.kat_yes (kat_key xs ys vs' ws' (i + 1) fin a2 b2 hr (by omega) (by rw [hf]; simp) (fun z => by simp at z) q)
        | false =>
          rw [e, if_neg Bool.false_ne_true] at hr
          refine PySem.W.kat_no ?_
          cases hb : (b && i == 0) with
          | true =>
            rcases hh hb x y xs ys rfl rfl with ⟨m, n, rfl, rfl⟩ | ⟨m, n, rfl, rfl⟩
            · rw [ltK] at hr; cases hr
              cases a1; cases b1
              exact oneLt_int q
            · rw [ltK] at hr; cases hr
              cases a1; cases b1
              exact oneLt_str q
          | false => exact PySem.W.kat_one v u (lt_key x y r A s v u prog w _ _ hr a1 b1 (by omega) q)
theorem kat_all {h : Heap} {T : Value} : ∀ (ks : List NestedKey) (vs : List Value), NIs h ks vs → ∀ (hp : ∀ k ∈ ks, ∃ f r, k = .tup (f :: r) ∧ ∀ v, NI h f v → ∀ M : Model, PySem.W.Looks M h (typeOf v) T), ∃ fs, PySem.W.KatTups h vs fs ∧ fs.length = vs.length ∧ ∀ M : Model, ∀ v ∈ fs, PySem.W.Looks M h (typeOf v) T
  | _, _, .nil, hp => ⟨[], .nil, rfl, fun _ v m => by cases m⟩
  | k :: ks, v :: vs, .cons a b, hp => by
    obtain ⟨fs, h1, h2, h3⟩ := kat_all ks vs b fun k m => hp k (List.mem_cons_of_mem _ m)
    obtain ⟨f, r, rfl, h4⟩ := hp k List.mem_cons_self
    cases a with
    | @tup a o its n _ e1 e2 e3 e4 =>
      obtain ⟨l⟩ := its
      have e4 : NIs h (f :: r) l := e4
      cases e4 with
      | @cons _ u _ us c1 c2 =>
        refine ⟨u :: fs, .cons e1 e2 e3 (by simp) h1, by simp [h2], fun M w m => ?_⟩
        · rcases List.mem_cons.mp m with e | m
          · subst e; exact h4 _ c1 M
          · exact h3 M w m
theorem nis_map {h : Heap} {kf : Value → NestedKey} : ∀ {vs : List Value}, (∀ v ∈ vs, NI h (kf v) v) → NIs h (vs.map kf) vs
  | [], _ => .nil
  | v :: vs, h => .cons (h v List.mem_cons_self) (nis_map fun u m => h u (List.mem_cons_of_mem _ m))
theorem keys_sortable {a : Addr} {vs : List Value} {kf : Value → NestedKey} (hN : ∀ v ∈ vs, NI s.heap (kf v) v) (hS : SortAll (vs.map kf)) (h2 : 2 ≤ vs.length) (hu : A.units + 40 < cLine) (ha : ∀ o, s.heap.get? a = some o → o.cls ≠ .type "tuple") :
    SrtO.SortableO prog w A s a vs fun v u => ltT (kf v) (kf u) := by
  intro h' keep
  have hN' : ∀ v ∈ vs, NI h' (kf v) v := fun v m => (hN v m).keep fun b o e c => keep b o (fun z => ha o (z ▸ e) c) e
  obtain ⟨hK, hd, hc⟩ := hS
  have ins : ∀ v ∈ vs, kf v ∈ vs.map kf := fun v m => List.mem_map.mpr ⟨v, m, rfl⟩
  have comp : ∀ x ∈ vs, ∀ y ∈ vs, ltK (kf x) (kf y) = some (ltT (kf x) (kf y)) := fun x mx y my => by
    obtain ⟨b, e⟩ := hc _ (ins x mx) _ (ins y my)
    rw [e, ltK_T _ _ _ e]
  rcases hK with hK | hK | hK | hK
  · -- ints
    have hi : ∀ v ∈ vs, ∃ i t, v = Value.int i t := fun v m => by
      obtain ⟨i, e⟩ := hK _ (ins v m)
      have n := hN v m
      rw [e] at n
      cases n
      exact ⟨_, _, rfl⟩
    refine ⟨oneType', fun Q E hq => ?_, fun p q hm hm' => ?_⟩
    · match vs, SrtO.ints_iv hi, h2 with
      | v1 :: v2 :: rest, hI, _ => rw [keyKind_ints hI]; exact wpAny_pure hq
      | [], _, h => exact absurd h (by decide)
      | [v], _, h => exact absurd h (by simp)
    · show wpAny (model prog w) A (keyLt' oneType' p.1 q.1) _ _ _
      have c := comp _ hm _ hm'
      have n1 := hN _ hm
      have n2 := hN _ hm'
      obtain ⟨i, e⟩ := hK _ (ins _ hm)
      obtain ⟨j, e'⟩ := hK _ (ins _ hm')
      show wpAny (model prog w) A (keyLt' oneType' p.1 q.1) (fun r s' => s' = { s with heap := h' } ∧ r = ltT (kf p.1) (kf q.1)) (fun _ _ => False) { s with heap := h' }
      rw [e, e', ltK] at c
      rw [e] at n1
      rw [e'] at n2
      rw [e, e', keyLt'_oneType]
      generalize p.1 = x at n1 ⊢
      generalize q.1 = y at n2 ⊢
      cases n1; cases n2
      exact oneLt_int ⟨rfl, Option.some.inj c⟩
  · have hi : ∀ v ∈ vs, ∃ i t, v = Value.str i t := fun v m => by
      obtain ⟨i, e⟩ := hK _ (ins v m)
      have n := hN v m
      rw [e] at n
      cases n
      exact ⟨_, _, rfl⟩
    have mkS : ∀ {l : List Value}, (∀ v ∈ l, ∃ i t, v = Value.str i t) → ∃ ss, StrsAre l ss := fun {l} h => by
      induction l with
      | nil => exact ⟨[], .nil⟩
      | cons v l ih =>
        obtain ⟨i, t, rfl⟩ := h v List.mem_cons_self
        obtain ⟨ss, q⟩ := ih fun u m => h u (List.mem_cons_of_mem _ m)
        exact ⟨_, .cons i t q⟩
    refine ⟨oneType', fun Q E hq => ?_, fun p q hm hm' => ?_⟩
    · obtain ⟨ss, hI⟩ := mkS hi
      match vs, hI, h2 with
      | v1 :: v2 :: rest, hI, _ => rw [keyKind_strs hI]; exact wpAny_pure hq
      | [], _, h => exact absurd h (by decide)
      | [v], _, h => exact absurd h (by simp)
    · have c := comp _ hm _ hm'
      have n1 := hN _ hm
      have n2 := hN _ hm'
      obtain ⟨i, e⟩ := hK _ (ins _ hm)
      obtain ⟨j, e'⟩ := hK _ (ins _ hm')
      show wpAny (model prog w) A (keyLt' oneType' p.1 q.1) (fun r s' => s' = { s with heap := h' } ∧ r = ltT (kf p.1) (kf q.1)) (fun _ _ => False) { s with heap := h' }
      rw [e, e', ltK] at c
      rw [e] at n1
      rw [e'] at n2
      rw [e, e', keyLt'_oneType]
      generalize p.1 = x at n1 ⊢
      generalize q.1 = y at n2 ⊢
      cases n1; cases n2
      exact oneLt_str ⟨rfl, Option.some.inj c⟩
  all_goals
    refine ⟨tuples' true, fun Q E hq => ?_, fun p q hm hm' => ?_⟩
    rotate_left
    · have c := comp _ hm _ hm'
      have n1 := hN' _ hm
      have n2 := hN' _ hm'
      have d1 := hd _ (ins _ hm)
      obtain ⟨i, r1, e⟩ := hK _ (ins _ hm)
      obtain ⟨j, r2, e'⟩ := hK _ (ins _ hm')
      show wpAny (model prog w) A (keyLt' (tuples' true) p.1 q.1) (fun r s' => s' = { s with heap := h' } ∧ r = ltT (kf p.1) (kf q.1)) (fun _ _ => False) { s with heap := h' }
      rw [e, e'] at c ⊢
      rw [ltK] at c
      rw [e] at n1 d1
      rw [e'] at n2
      rw [NestedKey.depth] at d1
      generalize p.1 = x at n1 ⊢
      generalize q.1 = y at n2 ⊢
      cases n1 with
      | tup a1 a2 a3 a4 =>
        cases n2 with
        | tup b1 b2 b3 b4 =>
          refine PySem.W.kat_lt (s := { s with heap := h' }) a1 a3 b1 b3 (kat_key (s := { s with heap := h' }) _ _ _ _ 0 _ a4 b4 c (by omega) ?_ (fun _ x y xs ys ex ey => ?_) ⟨rfl, rfl⟩)
          · have l1 := a4.len
            have l2 := b4.len
            rw [l1, l2]
            simp
          · cases ex; cases ey
            first | exact .inl ⟨_, _, rfl, rfl⟩ | exact .inr ⟨_, _, rfl, rfl⟩
  · obtain ⟨fs, t1, t2, t3⟩ := kat_all (T := .type "int") _ _ (nis_map hN') fun k m => by
      obtain ⟨v, mv, rfl⟩ := List.mem_map.mp m
      obtain ⟨i, r, e⟩ := hK _ (ins v mv)
      exact ⟨_, r, e, fun u n M => by cases n; exact PySem.W.Looks.now⟩
    refine PySem.W.kat_kind (s := { s with heap := h' }) t1 (by omega) (t3 _) (by rfl) ?_
    have e : (Value.type "int" != Value.type "tuple") = true := by first | decide +kernel | rfl | decide
    rw [e]
    exact hq
  · obtain ⟨fs, t1, t2, t3⟩ := kat_all (T := .type "str") _ _ (nis_map hN') fun k m => by
      obtain ⟨v, mv, rfl⟩ := List.mem_map.mp m
      obtain ⟨i, r, e⟩ := hK _ (ins v mv)
      exact ⟨_, r, e, fun u n M => by cases n; exact PySem.W.Looks.now⟩
    refine PySem.W.kat_kind (s := { s with heap := h' }) t1 (by omega) (t3 _) (by rfl) ?_
    have e : (Value.type "str" != Value.type "tuple") = true := by first | decide +kernel | rfl | decide
    rw [e]
    exact hq
end
end PD
set_option Elab.async false
set_option linter.all false
set_option maxRecDepth 100000
set_option maxHeartbeats 1000000
/-! PD: sorted, over what collect hands out. -/
namespace PD
open PySem PySem.Spec PyProof.Rows L2
section
variable {prog : Program} {w : World} {A : Around} {E : Value → Shared → Prop} {s : Shared}
/-- collect hands out such a list; the heap grows -/
def Colls (prog : Program) (w : World) (A : Around) (E : Value → Shared → Prop) (s : Shared) (l : Addr) (Pv : List Value → Prop) : Prop :=
  ∀ Q : List Value → Shared → Prop, (∀ vs h' tk dr, Pv vs → (∀ b o, s.heap.get? b = some o → h'.get? b = some o) → s.heap.objs.size ≤ h'.objs.size → Q vs { s with heap := h', toks := tk, drawn := dr }) → wpAny (model prog w) A (collect (.ref l)) Q E s
theorem sorted_gen {l : Addr} {Pv : List Value → Prop} {ltv : Value → Value → Bool} {Q : Value → Shared → Prop} (O : SrtO.Swo ltv) (hc : Colls prog w A.in1 E s l Pv) (hz : ∀ vs, Pv vs → vs.length ≤ sizeLine)
    (hS : ∀ vs, Pv vs → 2 ≤ vs.length → ∀ (h₁ : Heap) (tk : Nat) (dr : Drawn) (a : Addr), h₁.get? a = some (seqObj "list" vs.toArray 0) → (∀ b o, s.heap.get? b = some o → h₁.get? b = some o) → SrtO.SortableO prog w A.in1.in1 { s with heap := h₁, toks := tk, drawn := dr } a vs ltv)
    (h : ∀ vs, Pv vs → ∀ (out : List Value) (h' : Heap) (tk : Nat) (dr : Drawn) (d : Addr), SrtO.Srtd ltv out → SrtO.Stb ltv out vs → (∀ b o, s.heap.get? b = some o → h'.get? b = some o) → s.heap.objs.size ≤ d → (∃ n, h'.get? d = some (seqObj "list" out.toArray n)) → Q (.ref d) { s with heap := h', toks := tk, drawn := dr }) :
    wpAny (model prog w) A (call (.builtin "sorted") [.ref l]) Q E s := by
  refine Calls.call_function_entry kind_sorted plain_sorted entry_sorted (args_sorted1 _) ?_
  unfold Builtin.«sorted»
  refine wpAny_bind (m := checkCount "sorted" 1 1 _) (wpAny_pure ?_)
  refine wpAny_bind (hc _ fun vs h1 tk dr pv k1 z1 => ?_)
  have hz := hz vs pv
  refine wpAny_bind (wpAny_newList ?_ hz)
  have hoL : (h1.push (seqObj "list" vs.toArray 0)).get? h1.objs.size = some (seqObj "list" vs.toArray 0) := Heap.get?_push_size _ rfl
  have keep : ∀ b o, s.heap.get? b = some o → b ≠ h1.objs.size ∧ (h1.push (seqObj "list" vs.toArray 0)).get? b = some o := fun b o q =>
    ⟨Nat.ne_of_lt (Nat.lt_of_lt_of_le (Heap.lt_size q) z1), Heap.get?_push_of_some _ (k1 b o q)⟩
  refine wpAny_bind (wpAny_holding (wpAny_call_entry slot_list_sort ⟨_, hoL, rfl⟩ entry_list_sort (SrtO.list_sort_ord O hoL hz (fun h2 => hS vs pv h2 _ _ _ _ hoL fun b o e => (keep b o e).2) fun out hs hb => ⟨_, rfl, ?_⟩) (args_list_sort _)))
  refine wpAny_pure ⟨_, rfl, ?_⟩
  obtain ⟨ep, he⟩ := PyProof.Rows.sortedHeap_at (vs := vs) (out := out.toArray) hoL
  refine h vs pv out _ _ _ _ hs hb (fun b o e => ?_) z1 ⟨_, he⟩
  obtain ⟨hne, hk⟩ := keep b o e
  rw [PyProof.Rows.sortedHeap_old hne (Heap.lt_size hk)]
  exact hk
theorem colls_list {l : Addr} {vs : List Value} (hl : s.heap.IsList l vs.toArray) (hz : vs.length ≤ sizeLine) : Colls prog w A E s l (· = vs) := fun Q h => by
  refine collect_list hl (h _ _ _ _ rfl (fun b o e => ?_) ?_) hz
  · rw [Heap.get?_update_ne _ _ _ _ (Nat.ne_of_lt (Heap.lt_size e))]
    exact Heap.get?_push_of_some _ e
  · rw [Heap.size_update, size_push']
    omega
/-- the keys of a dict, walked; whatever they are -/
theorem walks_keys (hh : A.handled = none) {I d : Addr} (hne : d ≠ I) {od : Obj} {es : Array DictEntry} {ep : Nat} (hdd : od.data = .dict es ep) :
    Walks prog w A I [I, d] [I] es.size (fun i v => (es.toList.map (·.key))[i]? = some v) (fun i h => h.IsKeyIter I d i es.size ep ∧ h.get? d = some od) where
  sub := fun b hb => by simp at hb; simp [hb]
  frame := fun _ _ _ st hk => ⟨st.1.at fun o e => hk I (by simp) o e, hk d (by simp) _ st.2⟩
  item := fun i s Q E hi st hQ => by
    have hx : es[i]? = some es[i] := by simp [hi]
    refine next_key_item st.1 st.2 hdd rfl hx fun h' hit' hs' => ?_
    exact hQ _ h' s.toks (by simp [hi]) ⟨hit', hs'.extBut d _ hne st.2⟩ fun b o hb e => hs'.extBut b o (fun h => hb (by simp [h])) e
  done := fun s Q E st hQ => next_key_end hh st.1 st.2 hdd rfl (Nat.le_refl _) fun h' he' => hQ h' s.toks fun b o hb e => he' b o (fun h => hb (by simp [h])) e
  self := fun _ _ _ _ st hQ => wpAny_pyIter_keyiter st.1 hQ
theorem colls_dict (hh : A.handled = none) {d : Addr} {o : Obj} {es : Array DictEntry} {ep : Nat} (hd : (d == sysModules) = false) (ho : s.heap.get? d = some o) (hc : o.ExactDict) (hdat : o.data = .dict es ep) (hn : es.size ≤ sizeLine) :
    Colls prog w A E s d (· = es.toList.map (·.key)) := fun Q hQ => by
  have hlt : d < s.heap.objs.size := Heap.lt_size ho
  have hSa : s.heap.objs.size ≠ d := Nat.ne_of_gt hlt
  unfold collect
  refine wpAny_bind (wpAny_runValue (codeAny_builtin F.entry_proto_collect ?_))
  rw [Around.under_plainId F.plain_proto_collect _]
  show wpAny _ A.in1 (newList [] >>= fun l => again (.builtin "list.__iadd__" ⟨[l, .ref d], []⟩)) _ _ s
  refine wpAny_bind (wpAny_newObj_type ?_)
  refine wpAny_pure ⟨plainId_quiet F.plain_list_iadd _, codeAny_builtin F.entry_list_iadd ?_⟩
  rw [Around.under_plainId F.plain_list_iadd _]
  show wpAny _ A.in1 (Builtin.List.listExtendWith (.ref s.heap.objs.size) (.ref d) (.ref s.heap.objs.size)) _ _ _
  unfold Builtin.List.listExtendWith
  generalize hH : s.heap.push { cls := .type "list", data := .seq ([] : List Value).toArray } = H
  have hHs : H.objs.size = s.heap.objs.size + 1 := by rw [← hH, Heap.size_push]
  have kH : ∀ b u, s.heap.get? b = some u → H.get? b = some u := fun b u e => hH ▸ Heap.get?_push_of_some _ e
  have hS : H.get? s.heap.objs.size = some { cls := .type "list", data := .seq ([] : List Value).toArray } := hH ▸ Heap.get?_push_size _ rfl
  have hT : ({ s with heap := H } : Shared).TypeIs (.ref d) "dict" := ⟨o, kH _ _ ho, hc.1⟩
  refine wpAny_bind (wpAny_typeOf hT ?_)
  have h1 : Builtin.List.listSameRef (.ref s.heap.objs.size) (.ref d) = false := by simp [Builtin.List.listSameRef, hSa]
  have h2 : (Value.type "dict" == Value.type "list") = false := by decide
  have h3 : (Value.type "dict" == Value.type "tuple") = false := by decide
  simp only [h1, h2, h3, Bool.or_false, Bool.false_eq_true, if_false]
  refine wpAny_bind (iter_keys (s := { s with heap := H }) hd (kH _ _ ho) hc hdat ?_)
  have k2 : ∀ b u, H.get? b = some u → (H.push { cls := .type "dict_keyiterator", data := .fields #[.ref d, .int 0 0, .int es.size 0, .int ep 0] }).get? b = some u := fun b u e => Heap.get?_push_of_some _ e
  have hI2 : (H.push { cls := .type "dict_keyiterator", data := .fields #[.ref d, .int 0 0, .int es.size 0, .int ep 0] }).IsKeyIter H.objs.size d 0 es.size ep := ⟨_, Heap.get?_push_size _ rfl, rfl, rfl⟩
  show wpAny _ A.in1 _ _ _ { s with heap := H.push { cls := .type "dict_keyiterator", data := .fields #[.ref d, .int 0 0, .int es.size 0, .int ep 0] } }
  generalize H.push { cls := .type "dict_keyiterator", data := .fields #[.ref d, .int 0 0, .int es.size 0, .int ep 0] } = H2 at k2 hI2
  have hT2 : ({ s with heap := H2 } : Shared).TypeIs (.ref d) "dict" := ⟨o, k2 _ _ (kH _ _ ho), hc.1⟩
  refine wpAny_bind (wpAny_holding ?_)
  unfold Builtin.List.listLengthHint
  refine wpAny_bind (wpAny_specialOf hT2 F.slot_dict_len.lookup ?_)
  (generalize hid : ("dict.__len__" : String) = id0; (fail_if_success (clear hid id0)); wp_delta; rw [show splitId id0 = some ("dict", "__len__") from by subst hid; decide +kernel]; subst hid)
  refine wpAny_bind (wpAny_isInstance (b := true) hT2 F.sub_dict_dict ?_)
  show wpAny _ A.in1 (typeOf (.ref d) >>= _) _ _ _
  refine wpAny_bind (wpAny_typeOf hT2 ?_)
  refine wpAny_pure ?_
  show wpAny _ A.in1 (rule "list.extend.makes-room" >>= fun _ => Builtin.List.listTouch (.ref s.heap.objs.size) >>= fun _ =>
    again (.builtin "list.extend.loop" ⟨[.ref s.heap.objs.size, .ref H.objs.size, .ref s.heap.objs.size], []⟩)) _ _ _
  refine wpAny_bind (wpAny_rule ?_)
  have hS2 := k2 _ _ hS
  refine wpAny_bind ?_
  show wpAny _ A.in1 (updateSeq s.heap.objs.size (·.push .none) >>= fun _ => updateSeq s.heap.objs.size (·.pop)) _ _ _
  refine wpAny_bind (wpAny_updateSeq hS2 rfl ?_)
  have hS3 := Heap.get?_update_self (Obj.mapSeq (·.push Value.none)) hS2 rfl
  refine wpAny_updateSeq hS3 rfl ?_
  have hS4 := Heap.get?_update_self (Obj.mapSeq (·.pop)) hS3 rfl
  have oth : ∀ b u, b ≠ s.heap.objs.size → H2.get? b = some u → ((H2.update s.heap.objs.size (Obj.mapSeq (·.push Value.none))).update s.heap.objs.size (Obj.mapSeq (·.pop))).get? b = some u :=
    fun b u hb e => (Heap.get?_update_other _ _ (Ne.symm hb)).trans ((Heap.get?_update_other _ _ (Ne.symm hb)).trans e)
  have hIs : H.objs.size ≠ s.heap.objs.size := by omega
  have hId : d ≠ H.objs.size := Nat.ne_of_lt (by rw [hHs]; exact Nat.lt_succ_of_lt hlt)
  have hSf : s.heap.objs.size ∉ [H.objs.size, d] := fun hm => by
    rcases List.mem_cons.mp hm with z | z
    · exact hIs z.symm
    · exact hSa (List.mem_singleton.mp z)
  have W := walks_keys (prog := prog) (w := w) (A := A.in1) hh hId hdat
  have hst : ({ s with heap := (H2.update s.heap.objs.size (Obj.mapSeq (·.push Value.none))).update s.heap.objs.size (Obj.mapSeq (·.pop)) } : Shared).heap.IsKeyIter H.objs.size d 0 es.size ep ∧ ({ s with heap := (H2.update s.heap.objs.size (Obj.mapSeq (·.push Value.none))).update s.heap.objs.size (Obj.mapSeq (·.pop)) } : Shared).heap.get? d = some o :=
    ⟨hI2.at fun u e => oth _ u hIs e, oth _ _ (Ne.symm hSa) (k2 _ _ (kH _ _ ho))⟩
  refine wpAny_pure ⟨plainId_quiet F.plain_extend_loop _, codeAny_extend_loopS W.toS hn _ hSf _ es.size 0 _ _ _ rfl (Nat.zero_le _) hst hS4 (ItemsOf.nil _) fun s' acc' c' hm hS' hacc => ?_⟩
  show wpAny _ A (load s.heap.objs.size >>= _) _ _ s'
  refine wpAny_bind (wpAny_load hS' ?_)
  have eo : acc'.toList = es.toList.map (·.key) := items_out (by rw [List.length_map, Array.length_toList]; exact hacc) fun j v e => e
  refine wpAny_pure ?_
  show Q acc'.toList s'
  rw [eo]
  have key : ∀ b u, s.heap.get? b = some u → s'.heap.get? b = some u := fun b u e => by
    have hb := Heap.lt_size e
    refine hm.heap b u (fun z => ?_) (oth b u (Nat.ne_of_lt hb) (k2 b u (kH b u e)))
    rcases List.mem_cons.mp z with z | z
    · exact absurd hb (by rw [z]; exact Nat.lt_irrefl _)
    · have z := List.mem_singleton.mp z
      exact absurd hb (by rw [z, hHs]; exact Nat.not_lt.mpr (Nat.le_succ _))
  have := hQ _ s'.heap s'.toks s.drawn rfl key (Nat.le_of_lt (Heap.lt_size hS'))
  have g := hm.gens
  have dr := hm.drawn
  have os := hm.os
  obtain ⟨hp, gg, dd, tt, oo⟩ := s'
  simp only at g dr os this
  subst g dr os
  exact this
end
end PD
set_option Elab.async false
set_option linter.all false
set_option maxRecDepth 100000
set_option maxHeartbeats 4000000
/-! PD: set(xs) of tuples of any depth; a set gathered. -/
namespace PD
open PySem PySem.Spec PyProof.Rows L2
/-- what stands so far of the walked members -/
structure Had (ks : List (Addr × NestedKey)) (L : List (Addr × NestedKey)) : Prop where
  sub : ∀ q ∈ L, q ∈ ks
  all : ∀ q ∈ ks, q.2 ∈ L.map (·.2)
theorem Had.nil : Had [] [] := ⟨fun _ m => (by cases m), fun _ m => (by cases m)⟩
theorem Had.old {ks L : List (Addr × NestedKey)} {x : Addr × NestedKey} (g : Had ks L) (m : x.2 ∈ L.map (·.2)) : Had (ks ++ [x]) L := ⟨fun q h => List.mem_append_left _ (g.sub q h), fun q h => by
  rcases List.mem_append.mp h with h | h
  · exact g.all q h
  · rw [List.mem_singleton.mp h]; exact m⟩
theorem Had.new {ks L L' : List (Addr × NestedKey)} {x : Addr × NestedKey} (g : Had ks L) (pm : L'.Perm (x :: L)) : Had (ks ++ [x]) L' := ⟨fun q h => by
  rcases List.mem_cons.mp (pm.mem_iff.mp h) with e | m
  · rw [e]; simp
  · exact List.mem_append_left _ (g.sub q m), fun q h => by
  refine (pm.map (·.2)).mem_iff.mpr ?_
  rcases List.mem_append.mp h with h | h
  · exact List.mem_cons_of_mem _ (g.all q h)
  · rw [List.mem_singleton.mp h]; exact List.mem_cons_self⟩
theorem nodup_le {α : Type} [BEq α] [LawfulBEq α] : ∀ (l m : List α), l.Nodup → (∀ x ∈ l, x ∈ m) → l.length ≤ m.length
  | [], _, _, _ => Nat.zero_le _
  | x :: l, m, hn, hs => by
    obtain ⟨h1, h2⟩ := List.nodup_cons.mp hn
    have hx : x ∈ m := hs x List.mem_cons_self
    have ih := nodup_le l (m.erase x) h2 fun y hy => (List.mem_erase_of_ne (fun e : y = x => h1 (e ▸ hy))).2 (hs y (List.mem_cons_of_mem _ hy))
    have e := List.length_erase_of_mem hx
    have hp := List.length_pos_of_mem hx
    rw [List.length_cons]
    omega
theorem Had.few {ks L : List (Addr × NestedKey)} {U : List NestedKey} (g : Had ks L) (n : (L.map (·.2)).Nodup) (hU : ∀ q ∈ ks, q.2 ∈ U) : L.length ≤ U.length := by
  have := nodup_le _ U n fun k m => by
    obtain ⟨q, hq, rfl⟩ := List.mem_map.mp m
    exact hU q (g.sub q hq)
  rwa [List.length_map] at this
theorem isNk_keep {P : Program} {w : World} {h h' : Heap} {k : NestedKey} {b : Addr} (x : isNk P w h k b) (hk : ∀ c o, h.get? c = some o → h'.get? c = some o) : isNk P w h' k b :=
  ⟨NestedIs.at (fun c o _ _ e _ => hk c o e) k _ x.1, x.2⟩
section
variable {P : Program} {w : World} {A : Around} {E : Value → Shared → Prop} {s : Shared}
theorem NSet.kept {h h' : Heap} {a : Addr} {L : List (Addr × NestedKey)} {es : Array (Int × Value)} {ep : Nat} {t : SetTable} (R : NSet P w h a L es ep t) (ha : ∀ o, h.get? a = some o → h'.get? a = some o) (hm : ∀ q ∈ L, isNk P w h' q.2 q.1) : NSet P w h' a L es ep t :=
  let ⟨o, ho, r⟩ := R.obj
  ⟨⟨o, ha o ho, r⟩, R.row, R.tab, R.nod, hm, R.led, R.wide, R.few⟩
/-- the loop that fills a set, over any walk -/
theorem nset_loop {I : Addr} {fp wr : List Addr} {G : Array GenState → Array GenState → Prop} {n : Nat} {Pv : Nat → Value → Prop} {St : Nat → Shared → Prop} {R : Result → Shared → Prop}
    (W : WalksS P w A.in1 I fp wr G n Pv St) (a : Addr) (haf : a ∉ fp) (ks : List (Addr × NestedKey)) (hn : n = ks.length) (U : List NestedKey) (hU : ∀ q ∈ ks, q.2 ∈ U) (few : U.length + 1 < 64)
    (hv : ∀ i v, Pv i v → ∃ q, ks[i]? = some q ∧ v = .ref q.1) (h0 : Heap) (hk : ∀ q ∈ ks, isNk P w h0 q.2 q.1) (ha0 : h0.get? a = none) (hw0 : ∀ b ∈ wr, h0.get? b = none) (hu : A.units + 64 < cLine) :
    ∀ (k i : Nat) (s : Shared), n - i = k → i ≤ n → St i s → (∀ b o, h0.get? b = some o → s.heap.get? b = some o) → (∃ L es ep t, NSet P w s.heap a L es ep t ∧ Had (ks.take i) L) →
      (∀ s' L es ep t, Moved (a :: wr) G s s' → NSet P w s'.heap a L es ep t → Had ks L → (∀ b o, h0.get? b = some o → s'.heap.get? b = some o) → R (.ok (.ret .none)) s') →
      codeAny (model P w) A (.builtin "set.update.loop" ⟨[.ref a, .ref I], []⟩) R s := by
  have haw : a ∉ wr := fun h => haf (W.sub _ h)
  have up : ∀ b ∈ wr, b ∈ a :: wr := fun b hb => List.mem_cons_of_mem _ hb
  have mv : ∀ {s s' : Shared}, Moved wr G s s' → (∀ b o, h0.get? b = some o → s.heap.get? b = some o) → ∀ b o, h0.get? b = some o → s'.heap.get? b = some o := fun hm hkp b o e =>
    hm.heap b o (fun hb => by rw [hw0 b hb] at e; cases e) (hkp b o e)
  intro k
  induction k with
  | zero =>
    intro i s e0 hi st kp ⟨L, es, ep, t, hS, g⟩ fin
    obtain rfl : i = n := by omega
    refine codeAny_builtin F.entry_set_update_loop ?_
    rw [Around.under_plainId F.plain_set_update_loop _]
    show wpAny _ A.in1 (pyNext (.ref I) >>= _) _ _ s
    refine wpAny_bind (W.done s _ _ st fun s' hm => ?_)
    show wpAny _ A.in1 (ret Value.none) _ _ s'
    have kp' := mv hm kp
    have g : Had ks L := by rw [hn, List.take_length] at g; exact g
    exact wpAny_pure (fin s' L es ep t (hm.mono up) (hS.kept (fun o e => hm.heap a o haw e) fun q hq => isNk_keep (hk q (g.sub q hq)) kp') g kp')
  | succ k ih =>
    intro i s e0 hi st kp ⟨L, es, ep, t, hS, g⟩ fin
    have lt : i < n := by omega
    refine codeAny_builtin F.entry_set_update_loop ?_
    rw [Around.under_plainId F.plain_set_update_loop _]
    show wpAny _ A.in1 (pyNext (.ref I) >>= _) _ _ s
    refine wpAny_bind (W.item i s _ _ lt st fun v s' hP st' hm => ?_)
    obtain ⟨q, hq, rfl⟩ := hv i v hP
    have kp' := mv hm kp
    have hS' : NSet P w s'.heap a L es ep t := hS.kept (fun o e => hm.heap a o haw e) fun u hu => isNk_keep (hk u (List.mem_of_mem_take (g.sub u hu))) kp'
    have hx : isNk P w s'.heap q.2 q.1 := isNk_keep (hk q (List.mem_of_getElem? hq)) kp'
    show wpAny _ A.in1 (holding [Value.ref q.1] (setAdd a (.ref q.1)) >>= _) _ _ s'
    refine wpAny_bind (wpAny_holding ?_)
    unfold setAdd
    refine wpAny_holding ?_
    have hu1 : A.in1.units + 8 < cLine := by simp only [Around.in1_units]; omega
    refine wpAny_bind ((nestedKind P w).pyHash hu1 hx ?_)
    have lf := g.few hS.nod fun u m => hU u (List.mem_of_mem_take m)
    refine NSet.add (s := { s' with toks := s'.toks + q.2.draws }) hS' hx hu1 (by omega) fun b h' L' es' ep' t' sb hS2 c1 c2 => ?_
    have g' : Had (ks.take (i + 1)) L' := by
      rw [List.take_add_one, hq]
      by_cases c : q.2 ∈ L.map (·.2)
      · rw [c1 c]; exact g.old c
      · exact g.new (c2 c)
    have kp2 : ∀ b o, h0.get? b = some o → h'.get? b = some o := fun b o e => (sb.2 b (fun z => by rw [z, ha0] at e; cases e)).trans (kp' b o e)
    refine wpAny_pure ⟨plainId_quiet F.plain_set_update_loop _, ih (i + 1) _ (by omega) lt (W.frame _ s' _ _ st' (Nat.le_add_right _ _) fun b hb o e => ?_) kp2 ⟨L', es', ep', t', hS2, g'⟩ fun s'' L2 es2 ep2 t2 hm'' hS'' g'' kp'' => ?_⟩
    · rw [sb.2 b (fun h : b = a => haf (by rw [← h]; exact hb))]; exact e
    · refine fin s'' L2 es2 ep2 t2 (Moved.trans W.gtrans ((hm.mono up).then_heap (Nat.le_add_right _ _) fun b o hb e => ?_) hm'') hS'' g'' kp''
      rw [sb.2 b (fun h : b = a => hb (by rw [h]; exact List.mem_cons_self))]; exact e
/-- a set gathered: its members in some order -/
theorem colls_nset (hh : A.handled = none) {a : Addr} {L : List (Addr × NestedKey)} {es : Array (Int × Value)} {ep : Nat} {t : SetTable} (R : NSet P w s.heap a L es ep t) : Colls P w A E s a (fun vs => vs.Perm (L.map fun q => Value.ref q.1)) := fun Q h => by
  obtain ⟨o, ho, hex, hd⟩ := R.obj
  have hz := row_size R.row
  have hf := R.few
  refine collect_set hh ⟨o, ho, hex.1, hd⟩ R.fits (by unfold scanBound; omega) R.tab.ris R.led fun s' out k z g os pm => ?_
  have e : es.toList.map (·.2) = L.map fun q => Value.ref q.1 := by
    rw [R.row]
    unfold tRow
    rw [List.map_map]
    rfl
  rw [e] at pm
  have := h out s'.heap s'.toks s'.drawn pm k z
  obtain ⟨hp, gg, dd, tt, oo⟩ := s'
  simp only at g os this
  subst g os
  exact this
end
/-- the empty set's object -/
abbrev set0 (w : World) : Obj := { cls := .type "set", dict := none, data := .set #[] 0 (.fresh 0 0 (!w.params.followText "set-order")) }
section
variable {P : Program} {w : World} {A : Around} {E : Value → Shared → Prop} {s : Shared}
/-- the heap with a new empty set -/
abbrev hs0 (w : World) (h : Heap) : Heap := h.push (set0 w)
/-- set(x): what fills the new set is told -/
theorem set_call (x : Value) {Q : Value → Shared → Prop} (F1 : Value → Shared → Prop) (fill : wpAny (model P w) A.in1.in1 (Builtin.«set.__init__» ⟨[.ref s.heap.objs.size, x], []⟩) (fun f s2 => ∃ v, f = .done (.ret v) ∧ F1 v s2) E { s with heap := hs0 w s.heap })
    (h : ∀ v s2, F1 v s2 → v = .none ∧ Q (.ref s.heap.objs.size) s2) : wpAny (model P w) A (call (.type "set") [x]) Q E s := by
  obtain ⟨c, tl, hmro⟩ := F.called_set.mro
  have hmade := F.called_set.made
  have hsub := F.called_set.sub
  refine wpAny_call (codeAny_of_tree ?_)
  show wpAny _ _ (callAny (.type "set") _) _ _ _
  refine wpAny_pure ⟨Code.quiet_builtin _ (by decide +kernel), codeAny_builtin F.entry_type_call ?_⟩
  rw [Around.under_plain (weight_type_call_type "set" [x] []) rfl]
  have h1 := F.called_set.notType
  have h2 := F.called_set.canCreate
  have hct := F.typeCall_set_1 x
  repeat (any_goals (first | assumption | wp_step))
  refine codeAny_mono (code_set_led1 x (E := E) (Q₁ := fun obj s₁ => obj = .ref s.heap.objs.size ∧ s₁ = { s with heap := hs0 w s.heap }) ⟨rfl, rfl⟩) fun r s₁ hr => ?_
  cases r with
  | error e => exact hr
  | ok fl =>
    cases fl with
    | ret obj =>
      obtain ⟨rfl, rfl⟩ := hr
      have hS : (hs0 w s.heap).get? s.heap.objs.size = some (set0 w) := Heap.get?_push_size _ rfl
      have hT : Shared.TypeIs { s with heap := hs0 w s.heap } (.ref s.heap.objs.size) "set" := ⟨_, hS, rfl⟩
      have hli := F.called_set.init.lookup
      have hbi := F.called_set.init.bind (.ref s.heap.objs.size)
      repeat (any_goals (first | assumption | wp_step))
      refine codeAny_mono (codeAny_call_builtin (R := wants F1 E) F.called_set.init.plain F.entry_set_init (check_set_init_1 hT ?_)) fun r₂ s₂ hr₂ => ?_
      · refine wpAny_mono fill (fun f s2 ⟨v, e, q⟩ => ?_) fun _ _ q => q
        subst e
        exact q
      · cases r₂ with
        | error e => exact hr₂
        | ok fl₂ =>
          cases fl₂ with
          | ret r =>
            obtain ⟨rfl, q⟩ := h r s₂ hr₂
            repeat (any_goals (first | assumption | wp_step))
          | _ => exact hr₂.elim
    | _ => exact hr.elim
/-- set(xs), xs a list -/
theorem call_nset_list {l : Addr} {items : Array Value} (ks : List (Addr × NestedKey)) (U : List NestedKey) {Q : Value → Shared → Prop} (hh : A.handled = none) (hl : s.heap.IsList l items) (hit : items.toList = ks.map fun q => Value.ref q.1)
    (hk : ∀ q ∈ ks, isNk P w s.heap q.2 q.1) (hU : ∀ q ∈ ks, q.2 ∈ U) (few : U.length + 1 < 64) (hu : A.units + 70 < cLine)
    (h : ∀ (h' : Heap) (tk : Nat) L es ep t, NSet P w h' s.heap.objs.size L es ep t → Had ks L → (∀ b o, s.heap.get? b = some o → h'.get? b = some o) → Q (.ref s.heap.objs.size) { s with heap := h', toks := tk }) :
    wpAny (model P w) A (call (.type "set") [.ref l]) Q E s := by
  have hz : items.size = ks.length := by
    have q := congrArg List.length hit
    rwa [Array.length_toList, List.length_map] at q
  refine set_call (.ref l) (fun v s2 => v = .none ∧ ∃ h' tk L es ep t, s2 = { s with heap := h', toks := tk } ∧ NSet P w h' s.heap.objs.size L es ep t ∧ Had ks L ∧ ∀ b o, s.heap.get? b = some o → h'.get? b = some o) ?_ fun v s2 q => ?_
  · obtain ⟨ol, hol, hcl, nl, hdl⟩ := hl
    obtain ⟨ocls, odict, odata, oslots⟩ := ol
    simp only at hcl hdl
    subst hcl; subst hdl
    have hS : (hs0 w s.heap).get? s.heap.objs.size = some (set0 w) := Heap.get?_push_size _ rfl
    have hol' : (hs0 w s.heap).get? l = some { cls := .type "list", dict := odict, data := .seq items nl, slots := oslots } := Heap.get?_push_of_some _ hol
    have hsls := F.sub_list_set
    have hslf := F.sub_list_frozenset
    have hne : (Value.type "list" == Value.type "dict") = false := by decide
    have hl1 : (hs0 w s.heap).IsList l items := ⟨_, hol', rfl, nl, rfl⟩
    unfold Builtin.«set.__init__» noKeywords Builtin.Frozenset.updateFrom
    generalize hPI : pyIter = PI
    wp_walk
    subst hPI
    refine wpAny_pyIter_list hl1 ?_
    refine wpAny_bind (wpAny_runValue ?_)
    have hlS : l < s.heap.objs.size := Heap.lt_size hol
    have hh3 : A.in1.in1.in1.handled = none := by simp [hh]
    have hz1 : (hs0 w s.heap).objs.size = s.heap.objs.size + 1 := Heap.size_push ..
    have hneI : l ≠ (hs0 w s.heap).objs.size   := by rw [hz1]; exact Nat.ne_of_lt (Nat.lt_succ_of_lt hlS)
    have hSf : s.heap.objs.size ∉ [(hs0 w s.heap).objs.size, l] := by
      rw [hz1]; simp only [List.mem_cons, List.not_mem_nil, or_false, not_or]
      exact ⟨Nat.ne_of_lt (Nat.lt_succ_self _), Nat.ne_of_gt hlS⟩
    have hval : ∀ (i : Nat) (v : Value), items[i]? = some v → ∃ q, ks[i]? = some q ∧ v = .ref q.1 := fun i v hv => by
      have q : items.toList[i]? = some v := by rw [Array.getElem?_toList]; exact hv
      rw [hit, List.getElem?_map] at q
      obtain ⟨p, e1, e2⟩ := Option.map_eq_some_iff.mp q
      exact ⟨p, e1, e2.symm⟩
    have none_of : ∀ b, s.heap.objs.size ≤ b → s.heap.get? b = none := fun b hb => by
      cases q : s.heap.get? b with
      | none => rfl
      | some o => exact absurd (Nat.lt_of_lt_of_le (Heap.lt_size q) hb) (Nat.lt_irrefl _)
    refine nset_loop ((Walks.list hh3 _ l hneI items).toS) s.heap.objs.size hSf ks hz U hU few hval s.heap hk (none_of _ (Nat.le_refl _)) (fun b hb => none_of b (by
      rw [List.mem_singleton.mp hb, hz1]
      exact Nat.le_succ _)) (by simp only [Around.in1_units]; omega) (items.size - 0) 0 _ rfl (Nat.zero_le _)
      ⟨⟨_, Heap.get?_push_size _ rfl, rfl, rfl⟩, (hl1.push _)⟩ (fun b o e => Heap.get?_push_of_some _ (Heap.get?_push_of_some _ e)) ⟨[], #[], 0, _, nset_new (Heap.get?_push_of_some _ hS), .nil⟩ fun s' L es ep t hm hS' g' hkp => ?_
    obtain ⟨h', g2, d', tk', os'⟩ := s'
    have eg : g2 = s.gens := hm.gens
    have ed : d' = s.drawn := hm.drawn
    have eo : os' = s.os := hm.os
    subst eg; subst ed; subst eo
    refine wpAny_pure ?_
    show wpAny _ _ (ret Value.none) _ _ _
    exact wpAny_pure ⟨_, rfl, rfl, h', tk', L, es, ep, t, rfl, hS', g', hkp⟩
  · obtain ⟨rfl, h', tk, L, es, ep, t, rfl, hS', g', hkp⟩ := q
    exact ⟨rfl, h _ _ _ _ _ _ hS' g' hkp⟩
/-- set(xs), xs a tuple -/
theorem call_nset_tuple {l : Addr} {items : Array Value} (ks : List (Addr × NestedKey)) (U : List NestedKey) {Q : Value → Shared → Prop} (hh : A.handled = none) (hl : s.heap.IsTuple l items) (hit : items.toList = ks.map fun q => Value.ref q.1)
    (hk : ∀ q ∈ ks, isNk P w s.heap q.2 q.1) (hU : ∀ q ∈ ks, q.2 ∈ U) (few : U.length + 1 < 64) (hu : A.units + 70 < cLine)
    (h : ∀ (h' : Heap) (tk : Nat) L es ep t, NSet P w h' s.heap.objs.size L es ep t → Had ks L → (∀ b o, s.heap.get? b = some o → h'.get? b = some o) → Q (.ref s.heap.objs.size) { s with heap := h', toks := tk }) :
    wpAny (model P w) A (call (.type "set") [.ref l]) Q E s := by
  have hz : items.size = ks.length := by
    have q := congrArg List.length hit
    rwa [Array.length_toList, List.length_map] at q
  refine set_call (.ref l) (fun v s2 => v = .none ∧ ∃ h' tk L es ep t, s2 = { s with heap := h', toks := tk } ∧ NSet P w h' s.heap.objs.size L es ep t ∧ Had ks L ∧ ∀ b o, s.heap.get? b = some o → h'.get? b = some o) ?_ fun v s2 q => ?_
  · obtain ⟨ol, hol, hcl, nl, hdl⟩ := hl
    obtain ⟨ocls, odict, odata, oslots⟩ := ol
    simp only at hcl hdl
    subst hcl; subst hdl
    have hS : (hs0 w s.heap).get? s.heap.objs.size = some (set0 w) := Heap.get?_push_size _ rfl
    have hol' : (hs0 w s.heap).get? l = some { cls := .type "tuple", dict := odict, data := .seq items nl, slots := oslots } := Heap.get?_push_of_some _ hol
    have hsls := F.sub_tuple_set
    have hslf := F.sub_tuple_frozenset
    have hne : (Value.type "tuple" == Value.type "dict") = false := by decide
    have hl1 : (hs0 w s.heap).IsTuple l items := ⟨_, hol', rfl, nl, rfl⟩
    unfold Builtin.«set.__init__» noKeywords Builtin.Frozenset.updateFrom
    generalize hPI : pyIter = PI
    wp_walk
    subst hPI
    refine wpAny_pyIter_tuple hl1 ?_
    refine wpAny_bind (wpAny_runValue ?_)
    have hlS : l < s.heap.objs.size := Heap.lt_size hol
    have hh3 : A.in1.in1.in1.handled = none := by simp [hh]
    have hz1 : (hs0 w s.heap).objs.size = s.heap.objs.size + 1 := Heap.size_push ..
    have hneI : l ≠ (hs0 w s.heap).objs.size   := by rw [hz1]; exact Nat.ne_of_lt (Nat.lt_succ_of_lt hlS)
    have hSf : s.heap.objs.size ∉ [(hs0 w s.heap).objs.size, l] := by
      rw [hz1]; simp only [List.mem_cons, List.not_mem_nil, or_false, not_or]
      exact ⟨Nat.ne_of_lt (Nat.lt_succ_self _), Nat.ne_of_gt hlS⟩
    have hval : ∀ (i : Nat) (v : Value), items[i]? = some v → ∃ q, ks[i]? = some q ∧ v = .ref q.1 := fun i v hv => by
      have q : items.toList[i]? = some v := by rw [Array.getElem?_toList]; exact hv
      rw [hit, List.getElem?_map] at q
      obtain ⟨p, e1, e2⟩ := Option.map_eq_some_iff.mp q
      exact ⟨p, e1, e2.symm⟩
    have none_of : ∀ b, s.heap.objs.size ≤ b → s.heap.get? b = none := fun b hb => by
      cases q : s.heap.get? b with
      | none => rfl
      | some o => exact absurd (Nat.lt_of_lt_of_le (Heap.lt_size q) hb) (Nat.lt_irrefl _)
    refine nset_loop ((Walks.tuple hh3 _ l hneI items).toS) s.heap.objs.size hSf ks hz U hU few hval s.heap hk (none_of _ (Nat.le_refl _)) (fun b hb => none_of b (by
      rw [List.mem_singleton.mp hb, hz1]
      exact Nat.le_succ _)) (by simp only [Around.in1_units]; omega) (items.size - 0) 0 _ rfl (Nat.zero_le _)
      ⟨⟨_, Heap.get?_push_size _ rfl, rfl, rfl⟩, (hl1.push _)⟩ (fun b o e => Heap.get?_push_of_some _ (Heap.get?_push_of_some _ e)) ⟨[], #[], 0, _, nset_new (Heap.get?_push_of_some _ hS), .nil⟩ fun s' L es ep t hm hS' g' hkp => ?_
    obtain ⟨h', g2, d', tk', os'⟩ := s'
    have eg : g2 = s.gens := hm.gens
    have ed : d' = s.drawn := hm.drawn
    have eo : os' = s.os := hm.os
    subst eg; subst ed; subst eo
    refine wpAny_pure ?_
    show wpAny _ _ (ret Value.none) _ _ _
    exact wpAny_pure ⟨_, rfl, rfl, h', tk', L, es, ep, t, rfl, hS', g', hkp⟩
  · obtain ⟨rfl, h', tk, L, es, ep, t, rfl, hS', g', hkp⟩ := q
    exact ⟨rfl, h _ _ _ _ _ _ hS' g' hkp⟩
end
end PD
set_option Elab.async false
set_option linter.all false
set_option maxRecDepth 100000
set_option maxHeartbeats 1000000
/-! PD: x != y by x's own __eq__. -/
namespace PD
open PySem PySem.Spec PyProof.Rows L2
section
variable {prog : Program} {w : World} {A : Around} {E : Value → Shared → Prop} {s : Shared} {K : PySem.W.Frag} {x C f : Addr} {ox : Obj} {od : Option Obj} {b tb : Value}
/-- the answer of __eq__, turned round -/
def NeBack (Q : Value → Shared → Prop) (v : Value) (s' : Shared) : Prop := match v with
  | .bool c => Q (.bool (!c)) s'
  | _ => False
theorem ne_entry (X : K.In s.heap) (I : PySem.W.InstAt s.heap x ox C od) (hu : A.units < cLine) (hs : PySem.W.findIn K (.ref C) "__eq__" = some (some (.ref f))) (hf : PySem.W.isFn K (.ref f) = true) {Q : Value → Shared → Prop} {R : Fin → Shared → Prop}
    (hR : ∀ v s', Q v s' → R (.done (.ret v)) s') (h : wpAny (model prog w) A (call (.ref f) [.ref x, b]) (NeBack Q) E s) : wpAny (model prog w) A (Builtin.«object.__ne__» ⟨[.ref x, b], []⟩) R E s := by
  unfold Builtin.«object.__ne__»
  refine wpAny_bind (m := slotArgs "__ne__" 1 _) (wpAny_pure ?_)
  refine wpAny_bind (wpAny_cRoomFor hu ?_)
  refine wpAny_bind (PySem.W.ifBound_K (M := model prog w) X I hs hf (wpAny_mono h (fun v s' hv => ?_) fun _ _ e => e))
  cases v <;> first | exact hv.elim | skip
  rename_i c
  exact wpAny_bind (wpAny_truthy_bool (wpAny_pure (hR _ _ hv)))
theorem ne_K (X : K.In s.heap) (I : PySem.W.InstAt s.heap x ox C od) (hu : A.units + 1 < cLine) (hb : PySem.W.Looks (model prog w) s.heap (typeOf b) tb) (hn : PySem.W.notFirst K C tb = true)
    (hne : PySem.W.findIn K (.ref C) "__ne__" = some (some (.builtin "object.__ne__"))) (hm : PySem.W.mroIn K C (.type "object") = some true) (hs : PySem.W.findIn K (.ref C) "__eq__" = some (some (.ref f))) (hf : PySem.W.isFn K (.ref f) = true) {Q : Value → Shared → Prop}
    (h : wpAny (model prog w) A.in1 (call (.ref f) [.ref x, b]) (NeBack Q) E s) : wpAny (model prog w) A (richCompare .NotEq (.ref x) b) Q E s := by
  have one : wpAny (model prog w) A (tryCompare (.ref x) (cmpInfo .NotEq).2.1 b) (fun r s' => ∃ v, r = some v ∧ Q v s') E s := by
    rw [cmpInfo_NotEq]
    unfold tryCompare
    refine wpAny_bind ?_
    simp only [callSpecialIfBound?, bindSpecialIfBound?]
    refine wpAny_holding (wpAny_bind (wpAny_bind (wpAny_bind (I.type.here ((PySem.W.looks_findIn X hne).here ?_)))))
    refine wpAny_bind (wpAny_askSetting (wpAny_ite ?_))
    have hcall : wpAny (model prog w) A (call (.builtin "object.__ne__") [.ref x, b]) (fun v s' => ∃ c, v = .bool c ∧ Q v s') E s := by
      refine wpAny_call (codeAny_call_builtin F.cmp_object.ne.plain F.cmpEntry_ne ?_)
      have sub : PySem.W.Looks (model prog w) s.heap (isInstance (.ref x) (.type "object")) true := I.type.andThen (PySem.W.looks_mroIn X hm)
      have ha := F.cmpArgs_ne (.ref x) b
      have body : wpAny (model prog w) A.in1 (Builtin.«object.__ne__» ⟨[.ref x, b], []⟩) (fun r s' => ∃ c, r = .done (.ret (.bool c)) ∧ Q (.bool c) s') E s :=
        ne_entry X I (by show A.units + 1 < cLine; exact hu) hs hf (Q := fun v s' => ∃ c, v = .bool c ∧ Q (.bool c) s') (fun v s' ⟨c, e, q⟩ => ⟨c, by rw [e], q⟩) (wpAny_mono h (fun v s' q => by
          cases v <;> first | exact q.elim | exact ⟨_, rfl, q⟩) fun _ _ e => e)
      simp only [checkBuiltinCall, F.cmpKind_ne, F.cmpSplit_ne]
      refine wpAny_bind (sub.here ?_)
      cases hsig : Manifest.signature? "object.__ne__" with
      | none => exact wpAny_pure (wpAny_mono body (fun r s' ⟨c, e, q⟩ => by rw [e]; exact ⟨_, rfl, q⟩) fun _ _ e => e)
      | some sig =>
        simp only [argsOk, hsig] at ha
        have h2 : Bind.checkArgs "object.__ne__" sig ⟨[.ref x, b], []⟩ = pure () := ha
        rw [if_neg (by simp)]
        show wpAny (model prog w) A.in1 (Bind.checkArgs "object.__ne__" sig ⟨[.ref x, b], []⟩) _ E s
        rw [h2]
        exact wpAny_pure (wpAny_mono body (fun r s' ⟨c, e, q⟩ => by rw [e]; exact ⟨_, rfl, q⟩) fun _ _ e => e)
    have fin : ∀ R : Option Value → Shared → Prop, (∀ c s', Q (.bool c) s' → R (some (.bool c)) s') → wpAny (model prog w) A (call (.builtin "object.__ne__") ([.ref x] ++ [b]) >>= fun v => pure (some v)) R E s := fun R hR => by
      refine wpAny_bind (wpAny_mono hcall (fun v s' ⟨c, e, q⟩ => ?_) fun _ _ e => e)
      subst e
      exact wpAny_pure (hR _ _ q)
    split
    · simp only [F.cmp_object.ne.bind]
      refine wpAny_bind (wpAny_pure (wpAny_pure ?_))
      exact fin _ fun c s' q => wpAny_pure ⟨_, rfl, q⟩
    · simp only [F.cmp_object.ne.bind]
      refine wpAny_tryCatch (wpAny_bind (wpAny_pure (wpAny_pure ?_)))
      exact fin _ fun c s' q => wpAny_pure ⟨_, rfl, q⟩
  unfold richCompare
  simp only [oneThing_ref]
  refine wpAny_holding (wpAny_bind (wpAny_cRoomFor (by omega) ?_))
  refine wpAny_bind (I.type.here (wpAny_bind (hb.here ?_)))
  split
  · rename_i q
    have e : PySem.W.subIn K tb (.ref C) = some false := by
      rcases Bool.or_eq_true_iff.mp hn with e | e
      · rw [beq_iff_eq.mp e] at q; simp at q
      · exact beq_iff_eq.mp e
    refine wpAny_bind ((PySem.W.looks_subIn X e).here ?_)
    simp only [Bool.false_eq_true, if_false]
    refine wpAny_bind (wpAny_mono one (fun r s' z => ?_) fun _ _ e => e)
    obtain ⟨v, rfl, hq⟩ := z
    exact wpAny_pure hq
  · refine wpAny_bind (wpAny_pure ?_)
    simp only [Bool.false_eq_true, if_false]
    refine wpAny_bind (wpAny_mono one (fun r s' z => ?_) fun _ _ e => e)
    obtain ⟨v, rfl, hq⟩ := z
    exact wpAny_pure hq
end
end PD
set_option Elab.async false
set_option linter.all false
set_option maxRecDepth 100000
set_option maxHeartbeats 1000000
/-! PD: the compiled text and what it does, on plain data alone. -/
namespace PD
open PySem PySem.Spec PyProof.Rows L2

inductive Bin where
  | add | sub | mul | fdiv | mod | pow | band | bor | shl | shr
  deriving DecidableEq
inductive Cmp where
  | eq | ne | lt | le | gt | ge | isin | notin | is | isnot
  deriving DecidableEq
/-- built-in functions and types that are called -/
inductive Blt where
  | len | all | any | tuple | list | sorted | int | str | repr | min | max | sum | abs | bool | dict | set
  deriving DecidableEq
/-- methods of built-in types -/
inductive Mth where
  | append | pop | extend | setdefault | get | items | values | keys | join | split | partition | index | update | reverse | add | upper | remove | insert | count | copy | none
  deriving DecidableEq
/-- what isinstance asks -/
inductive Ty where
  | bt (n : String) | own (c : Nat)
  deriving DecidableEq
/-- operations whose parts are evaluated from the left -/
inductive Op where
  | bin (b : Bin) | neg | cmp (c : Cmp) | idx | rev | tup | lst | dct
  | attr (f : Nat) | isi (ts : List Ty)
  | blt (b : Blt)
  | call (f : Nat) (kw : List Nat) (star : Bool) | new (c : Nat) (kw : List Nat) (star : Bool)
inductive CK where
  | lst | set | dct
  deriving DecidableEq
/-- what a for walks: by its own value, or by a call -/
inductive IK where
  | val | range | enum | zip | items | vals | rev | dct
  deriving DecidableEq
mutual
inductive E where
  | cst (d : D)
  | var (i : Nat)
  | op (o : Op) (es : List E)
  | and (a b : E) | or (a b : E) | not (a : E)
  | ite (t a b : E)
  | chn (o1 o2 : Cmp) (a b c : E)
  | sl (a : E) (lo hi : List E)
  | fstr (es : List E)
  | mth (r : E) (m : Mth) (f : Nat) (kw : List Nat) (star : Bool) (es : List E)
  | comp (k : CK) (elt : List E) (gs : List Gen)
  | callv (i : Nat) (star : Bool) (es : List E)
  | never
inductive Gen where
  | mk (own : List Nat) (t : G) (ik : IK) (it : List E) (ifs : List E)
/-- a target -/
inductive G where
  | nm (i : Nat) | tup (gs : List G) | sub (a i : E) | fld (a : E) (f : Nat)
end
inductive C where
  | asg (g : G) (e : E)
  | aug (i : Nat) (b : Bin) (e : E)
  | augF (a : E) (f : Nat) (b : Bin) (e : E)
  | augS (a i : E) (b : Bin) (e : E)
  | ex (e : E) | ret (e : E) | retN
  | ite (t : E) (a b : List C)
  | wh (t : E) (b : List C)
  | «for» (t : G) (ik : IK) (it : List E) (b : List C)
  | brk | cont | pass
  | raise (e : E)
  | del (a i : E)
  | never

/-- one def: how many places, positional parameters, a star, keyword-only parameters; defaults by place; the body -/
structure Fn where
  size : Nat
  npos : Nat
  star : Bool := false
  nkw : Nat := 0
  dfl : List (Option D) := []
  body : List C
inductive MK where
  | plain | prop | cm
  deriving DecidableEq
/-- one class: its methods by name; its __init__, its __eq__; whether it is an exception, the class above it -/
structure Cl where
  ms : List (Nat × MK × Nat) := []
  init : Option Nat := none
  eqm : Option Nat := none
  exc : Bool := false
  sup : List Nat := []
structure Tab where
  fs : List Fn
  cs : List Cl

/-- a class that is no exception -/
def Tab.cl (T : Tab) (c : Nat) : Option Cl := match T.cs[c]? with
  | some k => if k.exc = true then none else some k
  | none => none
/-- an exception: its class, its fields -/
structure Xn where
  c : Nat
  fs : List (Nat × D)
abbrev WD := D → Sto → Prop
abbrev WX := Xn → Sto → Prop
def noX : WX := fun _ _ => False
abbrev Phi := Nat → List D → Sto → WD → WX → Prop

/-! ### reading the store -/
def O.un : O → O
  | .frz o => o
  | o => o
def at_ (S : Sto) (a : Addr) : Option O := (S a).map O.un
def seqOf (S : Sto) : D → Option (List D)
  | .tup xs => some xs
  | .ref a => match at_ S a with
    | some (.lst xs) => some xs
    | _ => none
  | _ => none
def dctOf (S : Sto) : D → Option (List (D × D))
  | .ref a => match at_ S a with
    | some (.dct kvs) => some kvs
    | _ => none
  | _ => none
def snap (S : Sto) : Nat → D → Option PyData
  | 0, _ => none
  | _ + 1, .non => some .none
  | _ + 1, .bl b => some (.bool b)
  | _ + 1, .int i => some (.int i)
  | _ + 1, .str x => some (.str x)
  | n + 1, .tup xs => (xs.mapM (snap S n)).map .tuple
  | n + 1, .ref a => match at_ S a with
    | some (.lst xs) => (xs.mapM (snap S n)).map .list
    | _ => none
  | _ + 1, _ => none
def truth (S : Sto) : D → Option Bool
  | .non => some false
  | .bl b => some b
  | .int i => some (i != 0)
  | .str y => if y.length ≤ sizeLine then some ((y.length : Int) != 0) else none
  | .tup xs => some (!xs.isEmpty)
  | .ref a => match at_ S a with
    | some (.lst xs) => some (!xs.isEmpty)
    | _ => none
  | _ => none
/-- new objects -/
def new (o : O) (S : Sto) (Q : WD) : Prop := ∀ p, S p = none → Q (.ref p) (put S p o)

/-! ### dicts -/
def look (kvs : List (D × D)) (k : D) : Option D := (kvs.find? fun p => decide (p.1 = k)).map (·.2)
def putD (kvs : List (D × D)) (k v : D) : List (D × D) := if (kvs.any fun p => decide (p.1 = k)) = true then kvs.map fun p => if p.1 = k then (k, v) else p else kvs ++ [(k, v)]
def dropD (kvs : List (D × D)) (k : D) : List (D × D) := kvs.filter fun p => !decide (p.1 = k)
def isTup : D → Bool
  | .tup _ => true
  | _ => false
/-- a key that may be asked of a dict (leafs with leafs, tuples with tuples) -/
def KeyOk (kvs : List (D × D)) : D → Prop
  | .int _ => ∀ p ∈ kvs, isTup p.1 = false
  | .str _ => ∀ p ∈ kvs, isTup p.1 = false
  | .tup ds => (∃ nk, (D.tup ds).key = some nk ∧ nk.depth ≤ 8) ∧ ∀ p ∈ kvs, isTup p.1 = true
  | _ => False

/-! ### what a comprehension gathers -/
/-- a member that a set may have -/
def MemOk : D → Prop
  | .tup ds => ∃ nk, (D.tup ds).key = some nk ∧ nk.depth ≤ 8
  | _ => False
def addD (xs : List D) (x : D) : List D := if x ∈ xs then xs else xs ++ [x]
def accS (acc : List (List D)) : List D := acc.foldl (fun xs ds => addD xs (ds.headD .non)) []
def accD (acc : List (List D)) : List (D × D) := acc.foldl (fun kvs ds => putD kvs (ds.headD .non) (ds.getD 1 .non)) []
def accO : CK → List (List D) → O
  | .lst, acc => .lst (acc.map fun ds => ds.headD .non)
  | .set, acc => .set (accS acc)
  | .dct, acc => .dct (accD acc)
/-- one more may be gathered -/
def emitOk : CK → List (List D) → List D → Prop
  | .lst, acc, [_] => acc.length < sizeLine
  | .set, acc, [x] => MemOk x ∧ (accS acc).length + 1 < 64
  | .dct, acc, [x, _] => KeyOk (accD acc) x ∧ (accD acc).length < sizeLine
  | _, _, _ => False
def setOf (S : Sto) : D → Option (List D)
  | .ref a => match at_ S a with
    | some (.set xs) => some xs
    | _ => none
  | _ => none

/-- pairs go into a dict, one behind the other -/
def DLoad : List D → List (D × D) → (List (D × D) → Prop) → Prop
  | [], acc, P => P acc
  | .tup [k, v] :: xs, acc, P => KeyOk acc k ∧ acc.length < sizeLine ∧ DLoad xs (putD acc k v) P
  | _ :: _, _, _ => False
/-- keys and values of a display -/
def DDisp : List D → List (D × D) → (List (D × D) → Prop) → Prop
  | [], acc, P => P acc
  | k :: v :: xs, acc, P => KeyOk acc k ∧ acc.length < sizeLine ∧ DDisp xs (putD acc k v) P
  | [_], _, _ => False

/-! ### operators -/
/-- x stands in xs -/
def InS (S : Sto) (x : D) (xs : List D) (b : Bool) : Prop := ∃ n d ds, snap S n x = some d ∧ xs.mapM (snap S n) = some ds ∧ SeqAt.shaped d = true ∧ SeqAt.shaped (.list ds) = true ∧ d.depth ≤ 63 ∧ b = ds.any fun z => PyData.eqv z d
def EqS (S : Sto) (x y : D) (b : Bool) : Prop := (∃ n p q, snap S n x = some p ∧ snap S n y = some q ∧ SeqAt.shaped p = true ∧ SeqAt.shaped q = true ∧ b = PyData.eqv p q) ∨ (∃ u v : Str, x = .str u ∧ y = .str v ∧ b = decide (u = v))
variable (T : Tab)
def wBin (b : Bin) (x y : D) (S : Sto) (Q : WD) : Prop :=
  match b, x, y with
  | .add, .int i, .int j => Q (.int (i + j)) S
  | .add, .str i, .str j => i.length + j.length ≤ sizeLine ∧ Q (.str (i ++ j)) S
  | .add, .tup xs, .tup ys => xs.length + ys.length ≤ sizeLine ∧ Q (.tup (xs ++ ys)) S
  | .add, .ref a, .ref c => ∃ xs ys, S a = some (.lst xs) ∧ S c = some (.lst ys) ∧ xs.length + ys.length ≤ sizeLine ∧ new (.lst (xs ++ ys)) S Q
  | .sub, .int i, .int j => Q (.int (i - j)) S
  | .mul, .int i, .int j => CMul i j ∧ Q (.int (i * j)) S
  | .mul, .tup xs, .int n => xs.length ≤ 1000 ∧ n ≤ 1000 ∧ -(2 ^ 63) ≤ n ∧ xs ≠ [] ∧ Q (.tup (List.replicate n.toNat xs).flatten) S
  | .mul, .ref a, .int n => ∃ xs, S a = some (.lst xs) ∧ (-(2 ^ 63) ≤ n ∧ n < 2 ^ 63 ∧ xs.length * n.toNat ≤ 2 ^ 24) ∧ new (.lst (List.replicate n.toNat xs).flatten) S Q
  | .fdiv, .int i, .int j => (j ≠ 0 ∧ j.natAbs < 1073741824) ∧ Q (.int (i.fdiv j)) S
  | .mod, .int i, .int j => j ≠ 0 ∧ Q (.int (i.fmod j)) S
  | .pow, .int i, .int j => (0 ≤ j ∧ j ≤ 1000000 ∧ i.natAbs < 2 ^ 64) ∧ Q (.int (i ^ j.toNat)) S
  | _, _, _ => False
/-- in place -/
def wAug (b : Bin) (x y : D) (S : Sto) (Q : WD) : Prop :=
  match b, x, y with
  | .add, .int i, .int j => Q (.int (i + j)) S
  | .add, .str i, .str j => i.length + j.length ≤ sizeLine ∧ Q (.str (i ++ j)) S
  | .sub, .int i, .int j => Q (.int (i - j)) S
  | _, _, _ => False
def wCmp (c : Cmp) (x y : D) (S : Sto) (Q : WD) : Prop :=
  match c with
  | .eq => ∃ b, EqS S x y b ∧ Q (.bl b) S
  | .ne => ∃ b, EqS S x y b ∧ Q (.bl (!b)) S
  | .lt => match x, y with
    | .int i, .int j => Q (.bl (decide (i < j))) S
    | .str i, .str j => Q (.bl (decide (i.cps.toList < j.cps.toList))) S
    | .tup xs, .tup ys => ∃ kx ky b, (D.tup xs).key = some kx ∧ (D.tup ys).key = some ky ∧ ltK kx ky = some b ∧ kx.depth ≤ 8 ∧ Q (.bl b) S
    | _, _ => False
  | .le => ∃ i j, x = .int i ∧ y = .int j ∧ Q (.bl (decide (i ≤ j))) S
  | .gt => ∃ i j, x = .int i ∧ y = .int j ∧ Q (.bl (decide (j < i))) S
  | .ge => ∃ i j, x = .int i ∧ y = .int j ∧ Q (.bl (decide (j ≤ i))) S
  | .is => (y = .non ∧ Q (.bl (decide (x = .non))) S) ∨ (∃ a b : Bool, x = .bl a ∧ y = .bl b ∧ Q (.bl (decide (a = b))) S)
  | .isnot => (y = .non ∧ Q (.bl (!decide (x = .non))) S) ∨ (∃ a b : Bool, x = .bl a ∧ y = .bl b ∧ Q (.bl (!decide (a = b))) S)
  | .isin => (∃ i j, x = .str i ∧ y = .str j ∧ Q (.bl (!(Builtin.Str.occurrences j i 0 j.length 1).isEmpty)) S) ∨
      (∃ kvs, dctOf S y = some kvs ∧ KeyOk kvs x ∧ Q (.bl (look kvs x).isSome) S) ∨ (∃ xs b, seqOf S y = some xs ∧ InS S x xs b ∧ Q (.bl b) S)
  | .notin => (∃ i j, x = .str i ∧ y = .str j ∧ Q (.bl (!(!(Builtin.Str.occurrences j i 0 j.length 1).isEmpty))) S) ∨
      (∃ kvs, dctOf S y = some kvs ∧ KeyOk kvs x ∧ Q (.bl (!(look kvs x).isSome)) S) ∨ (∃ xs b, seqOf S y = some xs ∧ InS S x xs b ∧ Q (.bl (!b)) S)
def wIdx (x y : D) (S : Sto) (Q : WD) : Prop :=
  match x, y with
  | .str z, .int i => z.length ≤ sizeLine ∧ ∃ c, atI z.cps.toList i = some c ∧ Q (.str ⟨#[c]⟩) S
  | x, y => (∃ xs i d, seqOf S x = some xs ∧ y = .int i ∧ atI xs i = some d ∧ Q d S) ∨ (∃ kvs d, dctOf S x = some kvs ∧ KeyOk kvs y ∧ look kvs y = some d ∧ Q d S)
def cutD (xs : List D) (lo hi : Option Int) : List D := (xs.drop (HT.sIx xs.length 0 lo)).take (HT.sIx xs.length xs.length hi - HT.sIx xs.length 0 lo)
def wSl (x : D) (lo hi : Option Int) (S : Sto) (Q : WD) : Prop :=
  match x with
  | .str z => z.length ≤ sizeLine ∧ Q (.str (cutS z lo hi)) S
  | .tup xs => Q (.tup (cutD xs lo hi)) S
  | x => ∃ xs, seqOf S x = some xs ∧ new (.lst (cutD xs lo hi)) S Q
def lenOf (S : Sto) (x : D) (n : Nat) : Prop := (∃ z, x = .str z ∧ z.length ≤ sizeLine ∧ n = z.length) ∨ (∃ xs, seqOf S x = some xs ∧ n = xs.length) ∨ (∃ kvs, dctOf S x = some kvs ∧ n = kvs.length) ∨ (∃ xs, setOf S x = some xs ∧ n = xs.length)
/-! ### sorting -/
def keyD (d : D) : NestedKey := d.key.getD .none
def ltD (x y : D) : Bool := ltT (keyD x) (keyD y)
def SortD (xs : List D) : Prop := (∀ x ∈ xs, x.key.isSome = true) ∧ SortAll (xs.map keyD)
/-- what is sorted: a list's items, a dict's keys, a set's members -/
def srtOf (S : Sto) : D → Option (List D)
  | .ref a => match at_ S a with
    | some (.lst xs) => some xs
    | some (.dct kvs) => some (kvs.map (·.1))
    | some (.set xs) => some xs
    | _ => none
  | _ => none
/-- members in the order in which they come -/
def setD (xs : List D) : List D := xs.foldl addD []
def wBlt (b : Blt) (ds : List D) (S : Sto) (Q : WD) : Prop :=
  match b, ds with
  | .len, [x] => ∃ n, lenOf S x n ∧ Q (.int n) S
  | .all, [.ref a] => ∃ bs : List Bool, seqOf S (.ref a) = some (bs.map D.bl) ∧ Q (.bl (bs.all id)) S
  | .any, [.ref a] => ∃ bs : List Bool, seqOf S (.ref a) = some (bs.map D.bl) ∧ Q (.bl (bs.any id)) S
  | .tuple, [x] => ∃ xs, seqOf S x = some xs ∧ Q (.tup xs) S
  | .list, [x] => ∃ xs, seqOf S x = some xs ∧ new (.lst xs) S Q
  | .int, [x] => (∃ i, x = .int i ∧ Q (.int i) S) ∨ (∃ k, x = .bl k ∧ Q (.int (if k then 1 else 0)) S) ∨ (∃ z n, x = .str z ∧ PySem.intText? z = some n ∧ z.length ≤ 640 ∧ Q (.int n) S)
  | .str, [x] => (∃ i, x = .int i ∧ i.natAbs.log2 < 1920 ∧ Q (.str (toString i)) S)
  | .min, [x, y] => ∃ i j, x = .int i ∧ y = .int j ∧ Q (.int (if j < i then j else i)) S
  | .max, [x, y] => ∃ i j, x = .int i ∧ y = .int j ∧ Q (.int (if j > i then j else i)) S
  | .sum, [.ref a] => ∃ ns : List Int, seqOf S (.ref a) = some (ns.map D.int) ∧ Q (.int ns.sum) S
  | .abs, [x] => ∃ i, x = .int i ∧ Q (.int (if i < 0 then -i else i)) S
  | .sorted, [x] => ∃ xs, srtOf S x = some xs ∧ SortD xs ∧ ∀ ys : List D, ys.Perm xs → ys.Pairwise (fun a b => ltD b a = false) → new (.lst ys) S Q
  | .set, [x] => ∃ xs, seqOf S x = some xs ∧ (∀ d ∈ xs, MemOk d) ∧ (setD xs).length + 1 < 64 ∧ new (.set (setD xs)) S Q
  | .dict, [.ref a] => ∃ xs, S a = some (.lst xs) ∧ DLoad xs [] fun kvs => new (.dct kvs) S Q
  | .repr, [x] => ∃ n p, n ≤ 60 ∧ snap S n x = some p ∧ p.showable = true ∧ p.shown.length ≤ sizeLine ∧ Q (.str p.shown) S
  | _, _ => False
def wMth (m : Mth) (x : D) (ds : List D) (S : Sto) (Q : WD) : Prop :=
  match m, ds with
  | .append, [y] => ∃ a xs, x = .ref a ∧ S a = some (.lst xs) ∧ xs.length < sizeLine ∧ Q .non (put S a (.lst (xs ++ [y])))
  | .pop, [] => ∃ a xs y, x = .ref a ∧ S a = some (.lst xs) ∧ xs[xs.length - 1]? = some y ∧ Q y (put S a (.lst xs.dropLast))
  | .pop, [i] => ∃ a xs k j y, x = .ref a ∧ i = .int k ∧ S a = some (.lst xs) ∧ ixN xs.length k = some j ∧ xs[j]? = some y ∧ Q y (put S a (.lst (xs.eraseIdx j)))
  | .remove, [i] => ∃ a, ∃ ns : List Int, ∃ k j, x = .ref a ∧ i = .int k ∧ S a = some (.lst (ns.map D.int)) ∧ ns[j]? = some k ∧ (∀ m, m < j → ns[m]? ≠ some k) ∧ Q .non (put S a (.lst ((ns.eraseIdx j).map D.int)))
  | .index, [y] => ∃ a n xs d ds j z, x = .ref a ∧ seqOf S x = some xs ∧ snap S n y = some d ∧ xs.mapM (snap S n) = some ds ∧ SeqAt.shaped (.list ds) = true ∧ SeqAt.shaped d = true ∧ ds[j]? = some z ∧ PyData.eqv z d = true ∧ (∀ m z', m < j → ds[m]? = some z' → PyData.eqv z' d = false) ∧ Q (.int (j : Nat)) S
  | .extend, [y] => ∃ a c xs ys, x = .ref a ∧ y = .ref c ∧ S a = some (.lst xs) ∧ S c = some (.lst ys) ∧ xs.length + ys.length ≤ sizeLine ∧ Q .non (put S a (.lst (xs ++ ys)))
  | .setdefault, [k, d] => ∃ a kvs, x = .ref a ∧ S a = some (.dct kvs) ∧ KeyOk kvs k ∧ kvs.length < sizeLine ∧ match look kvs k with
      | some v => Q v S
      | none => Q d (put S a (.dct (putD kvs k d)))
  | .get, [k] => ∃ kvs, dctOf S x = some kvs ∧ KeyOk kvs k ∧ Q ((look kvs k).getD .non) S
  | .get, [k, d] => ∃ kvs, dctOf S x = some kvs ∧ KeyOk kvs k ∧ Q ((look kvs k).getD d) S
  | .join, [y] => ∃ z, ∃ ys : List Str, x = .str z ∧ seqOf S y = some (ys.map D.str) ∧ (ys.map (·.length)).sum + ys.length * z.length ≤ 16777216 ∧ Q (.str (Txt.join z ys)) S
  | .split, [y] => ∃ a b, x = .str a ∧ y = .str b ∧ (b.length == 0) = false ∧ a.length + 2 ≤ sizeLine ∧ new (.lst ((Txt.split a b).map D.str)) S Q
  | .partition, [y] => ∃ a b, x = .str a ∧ y = .str b ∧ (b.length == 0) = false ∧ a.length ≤ sizeLine ∧ Q (.tup [.str (Txt.partition a b).1, .str (Txt.partition a b).2.1, .str (Txt.partition a b).2.2]) S
  | _, _ => False
/-- the class of data: a built-in type, an own class -/
def tyN (S : Sto) : D → Option (Sum String Nat)
  | .non => some (.inl "NoneType")
  | .bl _ => some (.inl "bool")
  | .int _ => some (.inl "int")
  | .str _ => some (.inl "str")
  | .tup _ => some (.inl "tuple")
  | .ref a => match S a with
    | some (.ins i _) => if (T.cl i).isSome = true then some (.inr i) else none
    | _ => match at_ S a with
      | some (.lst _) => some (.inl "list")
      | some (.dct _) => some (.inl "dict")
      | _ => none
  | _ => none
def isT : Sum String Nat → Ty → Bool
  | .inl t, .bt n => t == n || (t == "bool" && n == "int")
  | .inr _, .bt _ => false
  | .inl _, .own _ => false
  | .inr i, .own c => i == c
def isTy (S : Sto) (x : D) (t : Ty) : Option Bool := (tyN T S x).map fun y => isT y t
def isAny (S : Sto) (x : D) : List Ty → Option Bool
  | [] => some false
  | t :: ts => (isTy T S x t).bind fun b => if b = true then some true else isAny S x ts
/-- a part of an f-string -/
def fmtOf : D → Option Str
  | .str y => if y.length ≤ sizeLine then some y else none
  | .int i => if i.natAbs.log2 < 1920 then some (toString i) else none
  | _ => none
def lastStar (S : Sto) (star : Bool) (ds : List D) : Option (List D) := if star = true then (ds.getLast?).bind fun x => (seqOf S x).map (ds.dropLast ++ ·) else some ds
/-- parameters from positional arguments and keyword arguments by place -/
def fill (dfl : List (Option D)) (kws : List (Nat × D)) : Nat → List D → Nat → Option (List D)
  | 0, [], _ => some []
  | 0, _ :: _, _ => none
  | n + 1, p :: ps, i => if (kws.any fun q => q.1 == i) = true then none else (fill dfl kws n ps (i + 1)).map (p :: ·)
  | n + 1, [], i => ((match kws.lookup i with
    | some d => some d
    | none => (dfl[i]?).join)).bind fun d => (fill dfl kws n [] (i + 1)).map (d :: ·)
def bindF (f : Fn) (ds : List D) (kws : List (Nat × D)) : Option (List D) :=
  if (f.npos < ds.length ∧ f.star = false) ∨ ¬ (kws.map (·.1)).Nodup ∨ sizeLine < ds.length then none
  else (fill f.dfl kws (f.npos + f.nkw) (ds.take f.npos) 0).map fun ps => ps ++ if f.star = true then [.tup (ds.drop f.npos)] else []
def splitKw (kw : List Nat) (ds : List D) : List D × List (Nat × D) := (ds.take (ds.length - kw.length), kw.zip (ds.drop (ds.length - kw.length)))
def getF (fs : List (Nat × D)) (f : Nat) : Option D := fs.lookup f
def putFs (f : Nat) (v : D) : List (Nat × D) → List (Nat × D)
  | [] => [(f, v)]
  | (g, w) :: r => if g = f then (g, v) :: r else (g, w) :: putFs f v r

/-! ### what a for walks -/
abbrev Src := Nat → Sto → Option (Option D)
def sSeq (x : D) : Src := fun i S => match x with
  | .str z => some ((z.cps.toList[i]?).map fun c => .str ⟨#[c]⟩)
  | x => (seqOf S x).map fun xs => xs[i]?
def sRange (lo st : Int) (n : Nat) : Src := fun i _ => some (if i < n then some (.int (lo + i * st)) else none)
def sEnum (x : D) : Src := fun i S => (sSeq x i S).map fun o => o.map fun d => .tup [.int i, d]
def sZip (x y : D) : Src := fun i S => match sSeq x i S, sSeq y i S with
  | some (some a), some (some b) => some (some (.tup [a, b]))
  | some (some _), some none => some none
  | some none, some _ => some none
  | _, _ => none
def sDct (a : Addr) (f : D × D → D) : Src := fun i S => match S a with
  | some (.frz (.dct kvs)) => some ((kvs[i]?).map f)
  | _ => none
/-- what a walk of a dict gives -/
def dctF : IK → D × D → D
  | .items => fun p => .tup [p.1, p.2]
  | .vals => Prod.snd
  | _ => Prod.fst
/-- a dict is walked: it is locked, or is it already -/
def dctSrc (ik : IK) (a : Addr) (S : Sto) (R : Src → Option Addr → Sto → Prop) : Prop := match S a with
  | some (.dct kvs) => R (sDct a (dctF ik)) (some a) (put S a (.frz (.dct kvs)))
  | some (.frz (.dct _)) => R (sDct a (dctF ik)) none S
  | _ => False
/-- a source, what it locks, the store -/
def wSrc (ik : IK) (ds : List D) (S : Sto) (R : Src → Option Addr → Sto → Prop) : Prop :=
  match ik, ds with
  | .val, [.str z] => R (sSeq (.str z)) none S
  | .val, [x] => (∃ xs, seqOf S x = some xs) ∧ R (sSeq x) none S
  | .range, [.int j] => (-(2 ^ 62) ≤ j ∧ j < 2 ^ 62) ∧ R (sRange 0 1 j.toNat) none S
  | .range, [.int i, .int j] => (-(2 ^ 62) ≤ i ∧ i < 2 ^ 62 ∧ -(2 ^ 62) ≤ j ∧ j < 2 ^ 62) ∧ R (sRange i 1 (j - i).toNat) none S
  | .enum, [x] => (∃ xs, seqOf S x = some xs) ∧ R (sEnum x) none S
  | .items, [.ref a] => dctSrc .items a S R
  | .vals, [.ref a] => dctSrc .vals a S R
  | .dct, [.ref a] => dctSrc .dct a S R
  | .zip, [x, y] => ((∃ xs ys, seqOf S x = some xs ∧ seqOf S y = some ys) ∧ isTup x = isTup y) ∧ R (sZip x y) none S
  | _, _ => False
def unlk (l : Option Addr) (Q : Sto → Prop) (S : Sto) : Prop := match l with
  | none => Q S
  | some a => ∃ o, S a = some (.frz o) ∧ Q (put S a o)
/-- a loop with a state, by a word and a measure -/
def wLoop {α : Type} (src : Src) (body : D → α → Sto → (α → Sto → Prop) → Prop) (fin : α → Sto → Prop) (a : α) (S : Sto) : Prop :=
  ∃ W : Nat → Nat → α → Sto → Prop, (∃ m, W 0 m a S) ∧ ∀ i m a S, W i m a S → match src i S with
    | some none => fin a S
    | some (some d) => body d a S fun a' S' => ∃ m', m' < m ∧ W (i + 1) m' a' S'
    | none => False
def wipeR (ρ : Rho) : List Nat → Rho
  | [] => ρ
  | v :: vs => (wipeR ρ vs).set v none
variable (Φ : Phi)
def methOf (T : Tab) (S : Sto) (x : D) (f : Nat) : Option (MK × Nat × D) := match x with
  | .ref a => match S a with
    | some (.ins c fs) => if (fs.lookup f).isSome = true then none else (T.cl c).bind fun k => (k.ms.lookup f).map fun (mk, g) => (mk, g, match mk with
      | .cm => .cls c
      | _ => x)
    | _ => none
  | .cls c => (T.cl c).bind fun k => (k.ms.lookup f).bind fun (mk, g) => match mk with
    | .cm => some (mk, g, x)
    | _ => none
  | _ => none
inductive BT where
  | list | dict | str
  deriving DecidableEq
inductive RK where
  | own (g : Nat) (y : D) | bt (b : BT)
def RK.fits : RK → List Nat → Bool → Bool
  | .own .., _, _ => true
  | .bt _, kw, s => kw.isEmpty && !s
def btOf (S : Sto) : D → Option BT
  | .str _ => some .str
  | .ref a => match at_ S a with
    | some (.lst _) => some .list
    | some (.dct _) => some .dict
    | _ => none
  | _ => none
def mthOk : BT → Mth → Bool
  | .list, .append => true
  | .list, .pop => true
  | .list, .extend => true
  | .list, .remove => true
  | .list, .index => true
  | .dict, .setdefault => true
  | .dict, .get => true
  | .str, .join => true
  | .str, .split => true
  | .str, .partition => true
  | _, _ => false
/-- whose method it is -/
def recvK (T : Tab) (S : Sto) (x : D) (f : Nat) (m : Mth) : Option RK := match methOf T S x f with
  | some (mk, g, y) => if mk ≠ .prop ∧ y = x then some (.own g y) else none
  | none => (btOf S x).bind fun b => if mthOk b m = true then some (.bt b) else none
/-- the def f is called -/
def wCall (f : Nat) (kw : List Nat) (ds : List D) (S : Sto) (Q : WD) (Ex : WX) : Prop := ∃ fn ps, T.fs[f]? = some fn ∧ bindF fn (splitKw kw ds).1 (splitKw kw ds).2 = some ps ∧ Φ f ps S Q Ex
def wNew (c : Nat) (kw : List Nat) (ds : List D) (S : Sto) (Q : WD) (Ex : WX) : Prop := ∃ k g, T.cs[c]? = some k ∧ k.exc = false ∧ k.init = some g ∧
  ∀ p, S p = none → wCall T Φ g kw (.ref p :: ds) (put S p (.ins c [])) (fun v S' => v = .non ∧ Q (.ref p) S') Ex
/-- x == y, x != y by an own __eq__, both of one class -/
def ownEq (c : Cmp) (x y : D) (S : Sto) (Q : WD) : Prop := ∃ a b i fs gs k g, x = .ref a ∧ y = .ref b ∧ S a = some (.ins i fs) ∧ S b = some (.ins i gs) ∧ T.cl i = some k ∧ k.eqm = some g ∧
  ((c = .eq ∧ wCall T Φ g [] [x, y] S (fun v S' => ∃ r, v = .bl r ∧ Q (.bl r) S') noX) ∨ (c = .ne ∧ wCall T Φ g [] [x, y] S (fun v S' => ∃ r, v = .bl r ∧ Q (.bl (!r)) S') noX))
def wO (o : Op) (ds : List D) (S : Sto) (Q : WD) (Ex : WX) : Prop :=
  match o, ds with
  | .bin b, [x, y] => wBin b x y S Q
  | .neg, [.int i] => Q (.int (-i)) S
  | .cmp c, [x, y] => wCmp c x y S Q ∨ ownEq T Φ c x y S Q
  | .idx, [x, y] => wIdx x y S Q
  | .rev, [.ref a] => ∃ xs, seqOf S (.ref a) = some xs ∧ new (.lst xs.reverse) S Q
  | .tup, ds => ds.length ≤ sizeLine ∧ Q (.tup ds) S
  | .lst, ds => ds.length ≤ sizeLine ∧ new (.lst ds) S Q
  | .dct, ds => DDisp ds [] fun kvs => new (.dct kvs) S Q
  | .attr f, [x] => (∃ a c fs d k, x = .ref a ∧ S a = some (.ins c fs) ∧ T.cl c = some k ∧ k.ms.lookup f = none ∧ getF fs f = some d ∧ Q d S) ∨
      (∃ g, methOf T S x f = some (.prop, g, x) ∧ wCall T Φ g [] [x] S Q noX)
  | .isi ts, [x] => ∃ b, isAny T S x ts = some b ∧ Q (.bl b) S
  | .blt b, ds => wBlt b ds S Q
  | .call f kw star, ds => ∃ ds', lastStar S star ds = some ds' ∧ wCall T Φ f kw ds' S Q Ex
  | .new c kw star, ds => ∃ ds', lastStar S star ds = some ds' ∧ wNew T Φ c kw ds' S Q Ex
  | _, _ => False
mutual
def wE : E → Rho → Sto → WD → WX → Prop
  | .cst d, _, S, Q, _ => Q d S
  | .var i, ρ, S, Q, _ => ∃ d, ρ[i]? = some (some d) ∧ Q d S
  | .op o es, ρ, S, Q, Ex => wEs es ρ S (fun ds S1 => wO T Φ o ds S1 Q Ex) Ex
  | .and a b, ρ, S, Q, Ex => wE a ρ S (fun x S1 => ∃ c, truth S1 x = some c ∧ if c = true then wE b ρ S1 Q Ex else Q x S1) Ex
  | .or a b, ρ, S, Q, Ex => wE a ρ S (fun x S1 => ∃ c, truth S1 x = some c ∧ if c = true then Q x S1 else wE b ρ S1 Q Ex) Ex
  | .not a, ρ, S, Q, Ex => wE a ρ S (fun x S1 => ∃ c, truth S1 x = some c ∧ Q (.bl (!c)) S1) Ex
  | .ite t a b, ρ, S, Q, Ex => wE t ρ S (fun x S1 => ∃ c, truth S1 x = some c ∧ if c = true then wE a ρ S1 Q Ex else wE b ρ S1 Q Ex) Ex
  | .chn o1 o2 a b c, ρ, S, Q, Ex => wE a ρ S (fun x S1 => wE b ρ S1 (fun y S2 => wO T Φ (.cmp o1) [x, y] S2 (fun v S3 => ∃ k, v = .bl k ∧
      if k = true then wE c ρ S3 (fun z S4 => wO T Φ (.cmp o2) [y, z] S4 Q Ex) Ex else Q (.bl false) S3) Ex) Ex) Ex
  | .sl a lo hi, ρ, S, Q, Ex => wE a ρ S (fun x S1 => wPt lo ρ S1 (fun l S2 => wPt hi ρ S2 (fun h S3 => wSl x l h S3 Q) Ex) Ex) Ex
  | .fstr es, ρ, S, Q, Ex => wJ es Str.empty ρ S Q Ex
  | .mth r m f kw star es, ρ, S, Q, Ex => wE r ρ S (fun x S1 => ∃ k, recvK T S1 x f m = some k ∧ k.fits kw star = true ∧ wEs es ρ S1 (fun ds S2 => match k with
      | .own g y => ∃ ds', lastStar S2 star ds = some ds' ∧ wCall T Φ g kw (y :: ds') S2 Q Ex
      | .bt _ => wMth m x ds S2 Q) Ex) Ex
  | .comp k elt gs, ρ, S, Q, Ex => wGens gs ρ (fun ρ' acc S Q' => wEs elt ρ' S (fun ds S1 => emitOk k acc ds ∧ Q' (acc ++ [ds]) S1) noX) [] S (fun acc S => new (accO k acc) S Q) Ex
  | .callv i star es, ρ, S, Q, Ex => ∃ d, ρ[i]? = some (some d) ∧ ((∃ f fn, d = .fn f ∧ T.fs[f]? = some fn ∧ wEs es ρ S (fun ds S1 => ∃ ds', lastStar S1 star ds = some ds' ∧ wCall T Φ f [] ds' S1 Q Ex) Ex) ∨
      (∃ c k, d = .cls c ∧ T.cl c = some k ∧ wEs es ρ S (fun ds S1 => ∃ ds', lastStar S1 star ds = some ds' ∧ wNew T Φ c [] ds' S1 Q Ex) Ex))
  | .never, _, _, _, _ => False
def wEs : List E → Rho → Sto → (List D → Sto → Prop) → WX → Prop
  | [], _, S, Q, _ => Q [] S
  | e :: es, ρ, S, Q, Ex => wE e ρ S (fun d S1 => wEs es ρ S1 (fun ds S2 => Q (d :: ds) S2) Ex) Ex
/-- a part of a slice: none or one expression -/
def wPt : List E → Rho → Sto → (Option Int → Sto → Prop) → WX → Prop
  | [], _, S, Q, _ => Q none S
  | e :: _, ρ, S, Q, Ex => wE e ρ S (fun d S1 => ∃ i, d = .int i ∧ Q (some i) S1) Ex
def wJ : List E → Str → Rho → Sto → WD → WX → Prop
  | [], acc, _, S, Q, _ => Q (.str acc) S
  | e :: es, acc, ρ, S, Q, Ex => wE e ρ S (fun d S1 => ∃ y, fmtOf d = some y ∧ (acc ++ y).length ≤ sizeLine ∧ wJ es (acc ++ y) ρ S1 Q Ex) Ex
/-- the tests of a comprehension -/
def wIfs : List E → Rho → Sto → (Bool → Sto → Prop) → Prop
  | [], _, S, Q => Q true S
  | e :: es, ρ, S, Q => wE e ρ S (fun x S1 => ∃ c, truth S1 x = some c ∧ if c = true then wIfs es ρ S1 Q else Q false S1) noX
def wGen : Gen → Rho → (Rho → List (List D) → Sto → (List (List D) → Sto → Prop) → Prop) → List (List D) → Sto → (List (List D) → Sto → Prop) → WX → Prop
  | .mk vs t ik it ifs, ρ, k, acc, S, Q, Ex => wEs it ρ S (fun ds S1 => wSrc ik ds S1 fun src l S2 =>
        wLoop src (fun d acc S Q' => wG t d (wipeR ρ vs) S (fun ρ' S' => wIfs ifs ρ' S' (fun b S'' => if b = true then k ρ' acc S'' Q' else Q' acc S'')) noX)
          (fun acc S => unlk l (Q acc) S) acc S2) Ex
def wGens : List Gen → Rho → (Rho → List (List D) → Sto → (List (List D) → Sto → Prop) → Prop) → List (List D) → Sto → (List (List D) → Sto → Prop) → WX → Prop
  | [], ρ, k, acc, S, Q, _ => k ρ acc S Q
  | g :: gs, ρ, k, acc, S, Q, Ex => wGen g ρ (fun ρ' acc S Q' => wGens gs ρ' k acc S Q' noX) acc S Q Ex
def wG : G → D → Rho → Sto → (Rho → Sto → Prop) → WX → Prop
  | .nm i, d, ρ, S, Q, _ => Q (ρ.set i (some d)) S
  | .tup gs, d, ρ, S, Q, Ex => ∃ xs, seqOf S d = some xs ∧ xs.length = gs.length ∧ wGs gs xs ρ S Q Ex
  | .sub a i, d, ρ, S, Q, Ex => wE a ρ S (fun x S1 => wE i ρ S1 (fun y S2 => ∃ p, x = .ref p ∧ ((∃ xs k j, S2 p = some (.lst xs) ∧ y = .int k ∧ ixN xs.length k = some j ∧ Q ρ (put S2 p (.lst (xs.set j d)))) ∨
      (∃ kvs, S2 p = some (.dct kvs) ∧ KeyOk kvs y ∧ kvs.length < sizeLine ∧ Q ρ (put S2 p (.dct (putD kvs y d)))))) Ex) Ex
  | .fld a f, d, ρ, S, Q, Ex => wE a ρ S (fun x S1 => ∃ p c fs k, x = .ref p ∧ S1 p = some (.ins c fs) ∧ T.cl c = some k ∧ k.ms.lookup f = none ∧ fs.length < 1000 ∧ Q ρ (put S1 p (.ins c (putFs f d fs)))) Ex
def wGs : List G → List D → Rho → Sto → (Rho → Sto → Prop) → WX → Prop
  | [], [], ρ, S, Q, _ => Q ρ S
  | g :: gs, d :: ds, ρ, S, Q, Ex => wG g d ρ S (fun ρ' S' => wGs gs ds ρ' S' Q Ex) Ex
  | [], _ :: _, _, _, _, _ => False
  | _ :: _, [], _, _, _, _ => False
end
/-- what is wanted behind a statement -/
structure WEnds where
  nx : Rho → Sto → Prop
  rt : WD
  bk : Rho → Sto → Prop := fun _ _ => False
  ct : Rho → Sto → Prop := fun _ _ => False
  ex : Rho → WX
mutual
def wS : C → WEnds → Rho → Sto → Prop
  | .asg g e, Z, ρ, S => wE T Φ e ρ S (fun d S1 => wG T Φ g d ρ S1 Z.nx noX) (Z.ex ρ)
  | .aug i b e, Z, ρ, S => ∃ x, ρ[i]? = some (some x) ∧ wE T Φ e ρ S (fun y S1 => wAug b x y S1 fun z S2 => Z.nx (ρ.set i (some z)) S2) (Z.ex ρ)
  | .augF a f b e, Z, ρ, S => False
  | .augS a i b e, Z, ρ, S => False
  | .ex e, Z, ρ, S => wE T Φ e ρ S (fun _ S1 => Z.nx ρ S1) (Z.ex ρ)
  | .ret e, Z, ρ, S => wE T Φ e ρ S Z.rt (Z.ex ρ)
  | .retN, Z, _, S => Z.rt .non S
  | .ite t a b, Z, ρ, S => wE T Φ t ρ S (fun x S1 => ∃ c, truth S1 x = some c ∧ if c = true then wSs a Z ρ S1 else wSs b Z ρ S1) (Z.ex ρ)
  | .wh t b, Z, ρ, S => ∃ W : Nat → Rho → Sto → Prop, (∃ m, W m ρ S) ∧ ∀ m ρ S, W m ρ S → wE T Φ t ρ S (fun x S1 => ∃ c, truth S1 x = some c ∧
      if c = true then wSs b { Z with nx := fun ρ' S' => ∃ m', m' < m ∧ W m' ρ' S', ct := fun ρ' S' => ∃ m', m' < m ∧ W m' ρ' S', bk := Z.nx } ρ S1 else Z.nx ρ S1) (Z.ex ρ)
  | .for t ik it b, Z, ρ, S => wEs T Φ it ρ S (fun ds S1 => wSrc ik ds S1 fun src l S2 =>
      wLoop src (fun d ρ S Q' => wG T Φ t d ρ S (fun ρ' S' => wSs b { nx := Q', ct := Q', bk := fun ρ S => unlk l (Z.nx ρ) S, rt := fun v S => unlk l (Z.rt v) S, ex := Z.ex } ρ' S') noX) (fun ρ S => unlk l (Z.nx ρ) S) ρ S2) (Z.ex ρ)
  | .brk, Z, ρ, S => Z.bk ρ S
  | .cont, Z, ρ, S => Z.ct ρ S
  | .pass, Z, ρ, S => Z.nx ρ S
  | .raise e, Z, ρ, S => False
  | .del a i, Z, ρ, S => False
  | .never, _, _, _ => False
def wSs : List C → WEnds → Rho → Sto → Prop
  | [], Z, ρ, S => Z.nx ρ S
  | c :: cs, Z, ρ, S => wS c { Z with nx := fun ρ' S' => wSs cs Z ρ' S' } ρ S
end
/-- a def's body from its parameters -/
def wFn (f : Fn) (ps : List D) (S : Sto) (Q : WD) (Ex : WX) : Prop :=
  wSs T Φ f.body { nx := fun _ S' => Q .non S', rt := Q, ex := fun _ => Ex } (ps.map some ++ List.replicate (f.size - ps.length) none) S
/-- the defs, so many calls deep -/
def phi (T : Tab) : Nat → Phi
  | 0 => fun _ _ _ _ _ => False
  | k + 1 => fun f ps S Q Ex => ∃ fn, T.fs[f]? = some fn ∧ ps.length = fn.npos + (if fn.star = true then 1 else 0) + fn.nkw ∧ ps.length ≤ fn.size ∧ wFn T (phi T k) fn ps S Q Ex
end PD
set_option Elab.async false
set_option linter.all false
set_option maxRecDepth 100000
set_option maxHeartbeats 1000000
/-! PD: what is wanted may be weakened. -/
namespace PD
open PySem PySem.Spec PyProof.Rows L2
section
variable {T : Tab} {Φ : Phi} {S : Sto} {Q Q' : WD} {Ex Ex' : WX}
def PhiMono (Φ : Phi) : Prop := ∀ f ds S (Q Q' : WD) (Ex Ex' : WX), (∀ d S, Q d S → Q' d S) → (∀ x S, Ex x S → Ex' x S) → Φ f ds S Q Ex → Φ f ds S Q' Ex'
theorem new_mono {o : O} (hq : ∀ d S, Q d S → Q' d S) (h : new o S Q) : new o S Q' := fun p hp => hq _ _ (h p hp)
theorem wBin_mono {b : Bin} {x y : D} (hq : ∀ d S, Q d S → Q' d S) (h : wBin b x y S Q) : wBin b x y S Q' := by
  unfold wBin at h ⊢
  split at h <;> first
    | exact hq _ _ h
    | exact ⟨h.1, hq _ _ h.2⟩
    | exact ⟨h.1, h.2.1, hq _ _ h.2.2⟩
    | exact ⟨h.1, h.2.1, h.2.2.1, h.2.2.2.1, hq _ _ h.2.2.2.2⟩
    | exact h.elim
    | (obtain ⟨xs, ys, h1, h2, h3, h4⟩ := h; exact ⟨xs, ys, h1, h2, h3, new_mono hq h4⟩)
    | (obtain ⟨xs, h1, h2, h3⟩ := h; exact ⟨xs, h1, h2, new_mono hq h3⟩)
theorem wCmp_mono {c : Cmp} {x y : D} (hq : ∀ d S, Q d S → Q' d S) (h : wCmp c x y S Q) : wCmp c x y S Q' := by
  unfold wCmp at h ⊢
  cases c <;> dsimp only at h ⊢
  case lt => split at h <;> first
    | exact hq _ _ h
    | (obtain ⟨kx, ky, b, h1, h2, h3, h4, h5⟩ := h; exact ⟨kx, ky, b, h1, h2, h3, h4, hq _ _ h5⟩)
    | exact h.elim
  all_goals first
    | (rcases h with h | ⟨a, b, h1, h2, h3⟩
       · exact .inl ⟨h.1, hq _ _ h.2⟩
       · exact .inr ⟨a, b, h1, h2, hq _ _ h3⟩)
    | (obtain ⟨b, h1, h2⟩ := h; exact ⟨b, h1, hq _ _ h2⟩)
    | (obtain ⟨i, j, h1, h2, h3⟩ := h; exact ⟨i, j, h1, h2, hq _ _ h3⟩)
    | (rcases h with ⟨i, j, h1, h2, h3⟩ | ⟨kvs, h1, h2, h3⟩ | ⟨xs, b, h1, h2, h3⟩
       · exact .inl ⟨i, j, h1, h2, hq _ _ h3⟩
       · exact .inr (.inl ⟨kvs, h1, h2, hq _ _ h3⟩)
       · exact .inr (.inr ⟨xs, b, h1, h2, hq _ _ h3⟩))
    | exact ⟨h.1, hq _ _ h.2⟩
theorem wIdx_mono {x y : D} (hq : ∀ d S, Q d S → Q' d S) (h : wIdx x y S Q) : wIdx x y S Q' := by
  unfold wIdx at h ⊢
  split at h
  · obtain ⟨h1, c, h2, h3⟩ := h
    exact ⟨h1, c, h2, hq _ _ h3⟩
  · rcases h with ⟨xs, i, d, h1, h2, h3, h4⟩ | ⟨kvs, d, h1, h2, h3, h4⟩
    · exact .inl ⟨xs, i, d, h1, h2, h3, hq _ _ h4⟩
    · exact .inr ⟨kvs, d, h1, h2, h3, hq _ _ h4⟩
theorem wSl_mono {x : D} {a b : Option Int} (hq : ∀ d S, Q d S → Q' d S) (h : wSl x a b S Q) : wSl x a b S Q' := by
  unfold wSl at h ⊢
  split at h
  · exact ⟨h.1, hq _ _ h.2⟩
  · exact hq _ _ h
  · obtain ⟨xs, h1, h2⟩ := h
    exact ⟨xs, h1, new_mono hq h2⟩
theorem DLoad_mono {P P' : List (D × D) → Prop} (hp : ∀ k, P k → P' k) : ∀ (xs : List D) (acc : List (D × D)), DLoad xs acc P → DLoad xs acc P' := by
  intro xs
  induction xs with
  | nil => intro acc h; exact hp _ h
  | cons x xs ih =>
    intro acc h
    unfold DLoad at h ⊢
    split at h
    · cases ‹_ :: _ = []›
    · rename_i e
      cases e
      exact ⟨h.1, h.2.1, ih _ h.2.2⟩
    · exact h.elim
theorem DDisp_mono {P P' : List (D × D) → Prop} (hp : ∀ k, P k → P' k) : ∀ (xs : List D) (acc : List (D × D)), DDisp xs acc P → DDisp xs acc P'
  | [], acc, h => hp _ h
  | [_], acc, h => h.elim
  | k :: v :: xs, acc, h => ⟨h.1, h.2.1, DDisp_mono hp xs _ h.2.2⟩
theorem wBlt_mono {b : Blt} {ds : List D} (hq : ∀ d S, Q d S → Q' d S) (h : wBlt b ds S Q) : wBlt b ds S Q' := by
  unfold wBlt at h ⊢
  split at h <;> first
    | (obtain ⟨n, h1, h2⟩ := h; exact ⟨n, h1, hq _ _ h2⟩)
    | (obtain ⟨n, h1, h2⟩ := h; exact ⟨n, h1, new_mono hq h2⟩)
    | (obtain ⟨i, h1, h2, h3⟩ := h; exact ⟨i, h1, h2, hq _ _ h3⟩)
    | (obtain ⟨i, j, h1, h2, h3⟩ := h; exact ⟨i, j, h1, h2, hq _ _ h3⟩)
    | (rcases h with ⟨i, h1, h2⟩ | ⟨k, h1, h2⟩ | ⟨z, n, h1, h2, h3, h4⟩
       · exact .inl ⟨i, h1, hq _ _ h2⟩
       · exact .inr (.inl ⟨k, h1, hq _ _ h2⟩)
       · exact .inr (.inr ⟨z, n, h1, h2, h3, hq _ _ h4⟩))
    | (obtain ⟨n, p, h1, h2, h3, h4, h5⟩ := h; exact ⟨n, p, h1, h2, h3, h4, hq _ _ h5⟩)
    | (obtain ⟨xs, h1, h2, h3⟩ := h; exact ⟨xs, h1, h2, fun ys a b => new_mono hq (h3 ys a b)⟩)
    | (obtain ⟨xs, h1, h2, h3, h4⟩ := h; exact ⟨xs, h1, h2, h3, new_mono hq h4⟩)
    | (obtain ⟨xs, h1, h2⟩ := h; exact ⟨xs, h1, DLoad_mono (fun _ q => new_mono hq q) _ _ h2⟩)
    | exact h.elim
theorem wMth_mono {m : Mth} {x : D} {ds : List D} (hq : ∀ d S, Q d S → Q' d S) (h : wMth m x ds S Q) : wMth m x ds S Q' := by
  unfold wMth at h ⊢
  split at h
  · obtain ⟨a, xs, h1, h2, h3, h4⟩ := h
    exact ⟨a, xs, h1, h2, h3, hq _ _ h4⟩
  · obtain ⟨a, xs, y, h1, h2, h3, h4⟩ := h
    exact ⟨a, xs, y, h1, h2, h3, hq _ _ h4⟩
  · obtain ⟨a, xs, k, j, y, h1, h2, h3, h4, h5, h6⟩ := h
    exact ⟨a, xs, k, j, y, h1, h2, h3, h4, h5, hq _ _ h6⟩
  · obtain ⟨a, ns, k, j, h1, h2, h3, h4, h5, h6⟩ := h
    exact ⟨a, ns, k, j, h1, h2, h3, h4, h5, hq _ _ h6⟩
  · obtain ⟨a, n, xs, d, ds, j, z, h1, h2, h3, h4, h5, h6, h7, h8, h9, h10⟩ := h
    exact ⟨a, n, xs, d, ds, j, z, h1, h2, h3, h4, h5, h6, h7, h8, h9, hq _ _ h10⟩
  · obtain ⟨a, c, xs, ys, h1, h2, h3, h4, h5, h6⟩ := h
    exact ⟨a, c, xs, ys, h1, h2, h3, h4, h5, hq _ _ h6⟩
  · obtain ⟨a, kvs, h1, h2, h3, h4, h5⟩ := h
    refine ⟨a, kvs, h1, h2, h3, h4, ?_⟩
    split at h5
    · exact hq _ _ h5
    · exact hq _ _ h5
  · obtain ⟨kvs, h1, h2, h3⟩ := h
    exact ⟨kvs, h1, h2, hq _ _ h3⟩
  · obtain ⟨kvs, h1, h2, h3⟩ := h
    exact ⟨kvs, h1, h2, hq _ _ h3⟩
  · obtain ⟨z, ys, h1, h2, h3, h4⟩ := h
    exact ⟨z, ys, h1, h2, h3, hq _ _ h4⟩
  · obtain ⟨a, b, h1, h2, h3, h4, h5⟩ := h
    exact ⟨a, b, h1, h2, h3, h4, new_mono hq h5⟩
  · obtain ⟨a, b, h1, h2, h3, h4, h5⟩ := h
    exact ⟨a, b, h1, h2, h3, h4, hq _ _ h5⟩
  · exact h.elim
theorem unlk_mono {l : Option Addr} {P P' : Sto → Prop} (hp : ∀ S, P S → P' S) (h : unlk l P S) : unlk l P' S := by
  unfold unlk at h ⊢
  split at h
  · exact hp _ h
  · obtain ⟨o, h1, h2⟩ := h
    exact ⟨o, h1, hp _ h2⟩
theorem wAug_mono {b : Bin} {x y : D} {S : Sto} {Q Q' : WD} (hq : ∀ d S, Q d S → Q' d S) (h : wAug b x y S Q) : wAug b x y S Q' := by
  unfold wAug at h ⊢
  split at h
  · exact hq _ _ h
  · exact ⟨h.1, hq _ _ h.2⟩
  · exact hq _ _ h
  · exact h.elim
theorem dctSrc_mono {ik : IK} {a : Addr} {R R' : Src → Option Addr → Sto → Prop} (hr : ∀ s l S, R s l S → R' s l S) (h : dctSrc ik a S R) : dctSrc ik a S R' := by
  unfold dctSrc at h ⊢
  split at h
  · exact hr _ _ _ h
  · exact hr _ _ _ h
  · exact h.elim
theorem wSrc_mono {ik : IK} {ds : List D} {R R' : Src → Option Addr → Sto → Prop} (hr : ∀ s l S, R s l S → R' s l S) (h : wSrc ik ds S R) : wSrc ik ds S R' := by
  unfold wSrc at h ⊢
  split at h <;> first
    | exact hr _ _ _ h
    | exact dctSrc_mono hr h
    | exact ⟨h.1, hr _ _ _ h.2⟩
    | exact h.elim
theorem wLoop_mono {α : Type} {src : Src} {body body' : D → α → Sto → (α → Sto → Prop) → Prop} {fin fin' : α → Sto → Prop} {a : α}
    (hb : ∀ d a S (P P' : α → Sto → Prop), (∀ a S, P a S → P' a S) → body d a S P → body' d a S P') (hf : ∀ a S, fin a S → fin' a S) (h : wLoop src body fin a S) : wLoop src body' fin' a S := by
  obtain ⟨W, h0, hs⟩ := h
  refine ⟨W, h0, fun i m a S w => ?_⟩
  have q := hs i m a S w
  split at q
  · exact hf _ _ q
  · exact hb _ _ _ _ _ (fun _ _ z => z) q
  · exact q.elim
theorem wCall_mono (hΦ : PhiMono Φ) {f : Nat} {kw : List Nat} {ds : List D} (hq : ∀ d S, Q d S → Q' d S) (hx : ∀ x S, Ex x S → Ex' x S) (h : wCall T Φ f kw ds S Q Ex) : wCall T Φ f kw ds S Q' Ex' := by
  obtain ⟨fn, ps, h1, h2, h3⟩ := h
  exact ⟨fn, ps, h1, h2, hΦ _ _ _ _ _ _ _ hq hx h3⟩
theorem wNew_mono (hΦ : PhiMono Φ) {c : Nat} {kw : List Nat} {ds : List D} (hq : ∀ d S, Q d S → Q' d S) (hx : ∀ x S, Ex x S → Ex' x S) (h : wNew T Φ c kw ds S Q Ex) : wNew T Φ c kw ds S Q' Ex' := by
  obtain ⟨k, g, h1, h2, h3, h4⟩ := h
  exact ⟨k, g, h1, h2, h3, fun p hp => wCall_mono hΦ (fun v S' z => ⟨z.1, hq _ _ z.2⟩) hx (h4 p hp)⟩
theorem ownEq_mono (hΦ : PhiMono Φ) {c : Cmp} {x y : D} (hq : ∀ b S, Q (.bl b) S → Q' (.bl b) S) (h : ownEq T Φ c x y S Q) : ownEq T Φ c x y S Q' := by
  obtain ⟨a, b, i, fs, gs, k, g, h1, h2, h3, h4, h5, h6, h | h⟩ := h
  · exact ⟨a, b, i, fs, gs, k, g, h1, h2, h3, h4, h5, h6, .inl ⟨h.1, wCall_mono hΦ (fun d S ⟨r, e, q⟩ => ⟨r, e, hq _ _ q⟩) (fun _ _ q => q) h.2⟩⟩
  · exact ⟨a, b, i, fs, gs, k, g, h1, h2, h3, h4, h5, h6, .inr ⟨h.1, wCall_mono hΦ (fun d S ⟨r, e, q⟩ => ⟨r, e, hq _ _ q⟩) (fun _ _ q => q) h.2⟩⟩
theorem wO_mono (hΦ : PhiMono Φ) {o : Op} {ds : List D} (hq : ∀ d S, Q d S → Q' d S) (hx : ∀ x S, Ex x S → Ex' x S) (h : wO T Φ o ds S Q Ex) : wO T Φ o ds S Q' Ex' := by
  unfold wO at h ⊢
  split at h
  · exact wBin_mono hq h
  · exact hq _ _ h
  · exact h.imp (wCmp_mono hq) (ownEq_mono hΦ fun b S q => hq _ S q)
  · exact wIdx_mono hq h
  · obtain ⟨xs, h1, h2⟩ := h
    exact ⟨xs, h1, new_mono hq h2⟩
  · exact ⟨h.1, hq _ _ h.2⟩
  · exact ⟨h.1, new_mono hq h.2⟩
  · exact DDisp_mono (fun _ q => new_mono hq q) _ _ h
  · rcases h with ⟨a, c, fs, d, k, h1, h2, h3, h4, h5, h6⟩ | ⟨g, h1, h2⟩
    · exact .inl ⟨a, c, fs, d, k, h1, h2, h3, h4, h5, hq _ _ h6⟩
    · exact .inr ⟨g, h1, wCall_mono hΦ hq (fun _ _ q => q) h2⟩
  · obtain ⟨b, h1, h2⟩ := h
    exact ⟨b, h1, hq _ _ h2⟩
  · exact wBlt_mono hq h
  · obtain ⟨r', h1, h2⟩ := h
    exact ⟨r', h1, wCall_mono hΦ hq hx h2⟩
  · obtain ⟨r', h1, h2⟩ := h
    exact ⟨r', h1, wNew_mono hΦ hq hx h2⟩
  · exact h.elim
end
section
variable {T : Tab} {Φ : Phi} (hΦ : PhiMono Φ)
abbrev KMono (k : Rho → List (List D) → Sto → (List (List D) → Sto → Prop) → Prop) (k' : Rho → List (List D) → Sto → (List (List D) → Sto → Prop) → Prop) : Prop :=
  ∀ ρ acc S (P P' : List (List D) → Sto → Prop), (∀ a S, P a S → P' a S) → k ρ acc S P → k' ρ acc S P'
include hΦ
mutual
theorem wE_mono : ∀ (e : E) (ρ : Rho) (S : Sto) (Q Q' : WD) (Ex Ex' : WX), (∀ d S, Q d S → Q' d S) → (∀ x S, Ex x S → Ex' x S) → wE T Φ e ρ S Q Ex → wE T Φ e ρ S Q' Ex'
  | .cst d, ρ, S, Q, Q', Ex, Ex', hq, hx, h => by rw [wE] at h ⊢; exact hq _ _ h
  | .var i, ρ, S, Q, Q', Ex, Ex', hq, hx, h => by
    rw [wE] at h ⊢
    obtain ⟨d, h1, h2⟩ := h
    exact ⟨d, h1, hq _ _ h2⟩
  | .op o es, ρ, S, Q, Q', Ex, Ex', hq, hx, h => by
    rw [wE] at h ⊢
    exact wEs_mono es _ _ _ _ _ _ (fun ds S1 z => wO_mono hΦ hq hx z) hx h
  | .and a b, ρ, S, Q, Q', Ex, Ex', hq, hx, h => by
    rw [wE] at h ⊢
    refine wE_mono a _ _ _ _ _ _ (fun x S1 ⟨c, h1, h2⟩ => ⟨c, h1, ?_⟩) hx h
    split at h2
    · rename_i hc; rw [if_pos hc]; exact wE_mono b _ _ _ _ _ _ hq hx h2
    · rename_i hc; rw [if_neg hc]; exact hq _ _ h2
  | .or a b, ρ, S, Q, Q', Ex, Ex', hq, hx, h => by
    rw [wE] at h ⊢
    refine wE_mono a _ _ _ _ _ _ (fun x S1 ⟨c, h1, h2⟩ => ⟨c, h1, ?_⟩) hx h
    split at h2
    · rename_i hc; rw [if_pos hc]; exact hq _ _ h2
    · rename_i hc; rw [if_neg hc]; exact wE_mono b _ _ _ _ _ _ hq hx h2
  | .not a, ρ, S, Q, Q', Ex, Ex', hq, hx, h => by
    rw [wE] at h ⊢
    exact wE_mono a _ _ _ _ _ _ (fun x S1 ⟨c, h1, h2⟩ => ⟨c, h1, hq _ _ h2⟩) hx h
  | .ite t a b, ρ, S, Q, Q', Ex, Ex', hq, hx, h => by
    rw [wE] at h ⊢
    refine wE_mono t _ _ _ _ _ _ (fun x S1 ⟨c, h1, h2⟩ => ⟨c, h1, ?_⟩) hx h
    split at h2
    · rename_i hc; rw [if_pos hc]; exact wE_mono a _ _ _ _ _ _ hq hx h2
    · rename_i hc; rw [if_neg hc]; exact wE_mono b _ _ _ _ _ _ hq hx h2
  | .chn o1 o2 a b c, ρ, S, Q, Q', Ex, Ex', hq, hx, h => by
    rw [wE] at h ⊢
    refine wE_mono a _ _ _ _ _ _ (fun x S1 z => wE_mono b _ _ _ _ _ _ (fun y S2 z => wO_mono hΦ (fun v S3 ⟨k, h1, h2⟩ => ⟨k, h1, ?_⟩) hx z) hx z) hx h
    split at h2
    · rename_i hc; rw [if_pos hc]; exact wE_mono c _ _ _ _ _ _ (fun z S4 q => wO_mono hΦ hq hx q) hx h2
    · rename_i hc; rw [if_neg hc]; exact hq _ _ h2
  | .sl a lo hi, ρ, S, Q, Q', Ex, Ex', hq, hx, h => by
    rw [wE] at h ⊢
    exact wE_mono a _ _ _ _ _ _ (fun x S1 z => wPt_mono lo _ _ _ _ _ _ (fun l S2 z => wPt_mono hi _ _ _ _ _ _ (fun h S3 z => wSl_mono hq z) hx z) hx z) hx h
  | .fstr es, ρ, S, Q, Q', Ex, Ex', hq, hx, h => by
    rw [wE] at h ⊢
    exact wJ_mono es _ _ _ _ _ _ _ hq hx h
  | .mth r m f kw star es, ρ, S, Q, Q', Ex, Ex', hq, hx, h => by
    rw [wE] at h ⊢
    refine wE_mono r _ _ _ _ _ _ (fun x S1 ⟨k, h1, hf, h2⟩ => ⟨k, h1, hf, wEs_mono es _ _ _ _ _ _ (fun ds S2 z => ?_) hx h2⟩) hx h
    cases k with
    | own g y =>
      obtain ⟨ds', g1, g2⟩ := z
      exact ⟨ds', g1, wCall_mono hΦ hq hx g2⟩
    | bt b => exact wMth_mono hq z
  | .never, ρ, S, Q, Q', Ex, Ex', hq, hx, h => by rw [wE] at h; exact h.elim
  | .callv i star es, ρ, S, Q, Q', Ex, Ex', hq, hx, h => by
    rw [wE] at h ⊢
    obtain ⟨d, h0, h⟩ := h
    refine ⟨d, h0, ?_⟩
    rcases h with ⟨f, fn, h1, h2, h3⟩ | ⟨f, fn, h1, h2, h3⟩
    · exact .inl ⟨f, fn, h1, h2, wEs_mono es _ _ _ _ _ _ (fun ds S1 ⟨ds', g1, g2⟩ => ⟨ds', g1, wCall_mono hΦ hq hx g2⟩) hx h3⟩
    · exact .inr ⟨f, fn, h1, h2, wEs_mono es _ _ _ _ _ _ (fun ds S1 ⟨ds', g1, g2⟩ => ⟨ds', g1, wNew_mono hΦ hq hx g2⟩) hx h3⟩
  | .comp k elt gs, ρ, S, Q, Q', Ex, Ex', hq, hx, h => by
    rw [wE] at h ⊢
    exact wGens_mono gs _ _ _ _ _ _ _ _ _ (fun ρ' acc S P P' hp z => wEs_mono elt _ _ _ _ _ _ (fun ds S1 q => ⟨q.1, hp _ _ q.2⟩) (fun _ _ q => q) z) (fun acc S z => new_mono hq z) hx h
theorem wEs_mono : ∀ (es : List E) (ρ : Rho) (S : Sto) (Q Q' : List D → Sto → Prop) (Ex Ex' : WX), (∀ d S, Q d S → Q' d S) → (∀ x S, Ex x S → Ex' x S) → wEs T Φ es ρ S Q Ex → wEs T Φ es ρ S Q' Ex'
  | [], ρ, S, Q, Q', Ex, Ex', hq, hx, h => by rw [wEs] at h ⊢; exact hq _ _ h
  | e :: es, ρ, S, Q, Q', Ex, Ex', hq, hx, h => by
    rw [wEs] at h ⊢
    exact wE_mono e _ _ _ _ _ _ (fun d S1 z => wEs_mono es _ _ _ _ _ _ (fun ds S2 q => hq _ _ q) hx z) hx h
theorem wPt_mono : ∀ (es : List E) (ρ : Rho) (S : Sto) (Q Q' : Option Int → Sto → Prop) (Ex Ex' : WX), (∀ d S, Q d S → Q' d S) → (∀ x S, Ex x S → Ex' x S) → wPt T Φ es ρ S Q Ex → wPt T Φ es ρ S Q' Ex'
  | [], ρ, S, Q, Q', Ex, Ex', hq, hx, h => by rw [wPt] at h ⊢; exact hq _ _ h
  | e :: es, ρ, S, Q, Q', Ex, Ex', hq, hx, h => by
    rw [wPt] at h ⊢
    exact wE_mono e _ _ _ _ _ _ (fun d S1 ⟨i, h1, h2⟩ => ⟨i, h1, hq _ _ h2⟩) hx h
theorem wJ_mono : ∀ (es : List E) (acc : Str) (ρ : Rho) (S : Sto) (Q Q' : WD) (Ex Ex' : WX), (∀ d S, Q d S → Q' d S) → (∀ x S, Ex x S → Ex' x S) → wJ T Φ es acc ρ S Q Ex → wJ T Φ es acc ρ S Q' Ex'
  | [], acc, ρ, S, Q, Q', Ex, Ex', hq, hx, h => by rw [wJ] at h ⊢; exact hq _ _ h
  | e :: es, acc, ρ, S, Q, Q', Ex, Ex', hq, hx, h => by
    rw [wJ] at h ⊢
    exact wE_mono e _ _ _ _ _ _ (fun d S1 ⟨y, h1, h2, h3⟩ => ⟨y, h1, h2, wJ_mono es _ _ _ _ _ _ _ hq hx h3⟩) hx h
theorem wIfs_mono : ∀ (es : List E) (ρ : Rho) (S : Sto) (Q Q' : Bool → Sto → Prop), (∀ d S, Q d S → Q' d S) → wIfs T Φ es ρ S Q → wIfs T Φ es ρ S Q'
  | [], ρ, S, Q, Q', hq, h => by rw [wIfs] at h ⊢; exact hq _ _ h
  | e :: es, ρ, S, Q, Q', hq, h => by
    rw [wIfs] at h ⊢
    refine wE_mono e _ _ _ _ _ _ (fun x S1 ⟨c, h1, h2⟩ => ⟨c, h1, ?_⟩) (fun _ _ q => q) h
    split at h2
    · rename_i hc; rw [if_pos hc]; exact wIfs_mono es _ _ _ _ hq h2
    · rename_i hc; rw [if_neg hc]; exact hq _ _ h2
theorem wGen_mono : ∀ (g : Gen) (ρ : Rho) (k k' : Rho → List (List D) → Sto → (List (List D) → Sto → Prop) → Prop) (acc : List (List D)) (S : Sto) (Q Q' : List (List D) → Sto → Prop) (Ex Ex' : WX),
    KMono k k' → (∀ d S, Q d S → Q' d S) → (∀ x S, Ex x S → Ex' x S) → wGen T Φ g ρ k acc S Q Ex → wGen T Φ g ρ k' acc S Q' Ex'
  | .mk vs t ik it ifs, ρ, k, k', acc, S, Q, Q', Ex, Ex', hk, hq, hx, h => by
    rw [wGen] at h ⊢
    refine wEs_mono it _ _ _ _ _ _ (fun ds S1 z => wSrc_mono (fun src l S2 z => wLoop_mono (fun d acc S P P' hp z => ?_) (fun a S z => unlk_mono (hq a) z) z) z) hx h
    refine wG_mono t _ _ _ _ _ _ _ (fun ρ' S' z => wIfs_mono ifs _ _ _ _ (fun b S'' z => ?_) z) (fun _ _ q => q) z
    split at z
    · rename_i hc; rw [if_pos hc]; exact hk _ _ _ _ _ hp z
    · rename_i hc; rw [if_neg hc]; exact hp _ _ z
theorem wGens_mono : ∀ (gs : List Gen) (ρ : Rho) (k k' : Rho → List (List D) → Sto → (List (List D) → Sto → Prop) → Prop) (acc : List (List D)) (S : Sto) (Q Q' : List (List D) → Sto → Prop) (Ex Ex' : WX),
    KMono k k' → (∀ d S, Q d S → Q' d S) → (∀ x S, Ex x S → Ex' x S) → wGens T Φ gs ρ k acc S Q Ex → wGens T Φ gs ρ k' acc S Q' Ex'
  | [], ρ, k, k', acc, S, Q, Q', Ex, Ex', hk, hq, hx, h => by rw [wGens] at h ⊢; exact hk _ _ _ _ _ hq h
  | g :: gs, ρ, k, k', acc, S, Q, Q', Ex, Ex', hk, hq, hx, h => by
    rw [wGens] at h ⊢
    exact wGen_mono g _ _ _ _ _ _ _ _ _ (fun ρ' acc S P P' hp z => wGens_mono gs _ _ _ _ _ _ _ _ _ hk hp (fun _ _ q => q) z) hq hx h
theorem wG_mono : ∀ (g : G) (d : D) (ρ : Rho) (S : Sto) (Q Q' : Rho → Sto → Prop) (Ex Ex' : WX), (∀ d S, Q d S → Q' d S) → (∀ x S, Ex x S → Ex' x S) → wG T Φ g d ρ S Q Ex → wG T Φ g d ρ S Q' Ex'
  | .nm i, d, ρ, S, Q, Q', Ex, Ex', hq, hx, h => by rw [wG] at h ⊢; exact hq _ _ h
  | .tup gs, d, ρ, S, Q, Q', Ex, Ex', hq, hx, h => by
    rw [wG] at h ⊢
    obtain ⟨xs, h1, hl, h2⟩ := h
    exact ⟨xs, h1, hl, wGs_mono gs _ _ _ _ _ _ _ hq hx h2⟩
  | .sub a i, d, ρ, S, Q, Q', Ex, Ex', hq, hx, h => by
    rw [wG] at h ⊢
    refine wE_mono a _ _ _ _ _ _ (fun x S1 z => wE_mono i _ _ _ _ _ _ (fun y S2 z => ?_) hx z) hx h
    obtain ⟨p, h1, h2⟩ := z
    refine ⟨p, h1, ?_⟩
    rcases h2 with ⟨xs, k, j, h3, h4, h5, h6⟩ | ⟨kvs, h3, h4, h5, h6⟩
    · exact .inl ⟨xs, k, j, h3, h4, h5, hq _ _ h6⟩
    · exact .inr ⟨kvs, h3, h4, h5, hq _ _ h6⟩
  | .fld a f, d, ρ, S, Q, Q', Ex, Ex', hq, hx, h => by
    rw [wG] at h ⊢
    refine wE_mono a _ _ _ _ _ _ (fun x S1 z => ?_) hx h
    obtain ⟨p, c, fs, k, h1, h2, h3, h4, h5, h6⟩ := z
    exact ⟨p, c, fs, k, h1, h2, h3, h4, h5, hq _ _ h6⟩
theorem wGs_mono : ∀ (gs : List G) (ds : List D) (ρ : Rho) (S : Sto) (Q Q' : Rho → Sto → Prop) (Ex Ex' : WX), (∀ d S, Q d S → Q' d S) → (∀ x S, Ex x S → Ex' x S) → wGs T Φ gs ds ρ S Q Ex → wGs T Φ gs ds ρ S Q' Ex'
  | [], [], ρ, S, Q, Q', Ex, Ex', hq, hx, h => by rw [wGs] at h ⊢; exact hq _ _ h
  | g :: gs, d :: ds, ρ, S, Q, Q', Ex, Ex', hq, hx, h => by
    rw [wGs] at h ⊢
    exact wG_mono g _ _ _ _ _ _ _ (fun ρ' S' z => wGs_mono gs _ _ _ _ _ _ _ hq hx z) hx h
  | [], _ :: _, ρ, S, Q, Q', Ex, Ex', hq, hx, h => by rw [wGs] at h; exact h.elim
  | _ :: _, [], ρ, S, Q, Q', Ex, Ex', hq, hx, h => by rw [wGs] at h; exact h.elim
end
/-- wishes of statements, one weaker than the other -/
structure Weak (Z Z' : WEnds) : Prop where
  nx : ∀ ρ S, Z.nx ρ S → Z'.nx ρ S
  rt : ∀ d S, Z.rt d S → Z'.rt d S
  bk : ∀ ρ S, Z.bk ρ S → Z'.bk ρ S
  ct : ∀ ρ S, Z.ct ρ S → Z'.ct ρ S
  ex : ∀ ρ x S, Z.ex ρ x S → Z'.ex ρ x S
mutual
theorem wS_mono : ∀ (c : C) (Z Z' : WEnds) (ρ : Rho) (S : Sto), Weak Z Z' → wS T Φ c Z ρ S → wS T Φ c Z' ρ S
  | .asg g e, Z, Z', ρ, S, w, h => by
    rw [wS] at h ⊢
    exact wE_mono hΦ e _ _ _ _ _ _ (fun d S1 z => wG_mono hΦ g _ _ _ _ _ _ _ w.nx (fun _ _ q => q) z) (w.ex ρ) h
  | .aug i b e, Z, Z', ρ, S, w, h => by
    rw [wS] at h ⊢
    obtain ⟨x, h1, h2⟩ := h
    exact ⟨x, h1, wE_mono hΦ e _ _ _ _ _ _ (fun d S1 z => wAug_mono (fun v S2 q => w.nx _ _ q) z) (w.ex ρ) h2⟩
  | .augF a f b e, Z, Z', ρ, S, w, h => by rw [wS] at h; exact h.elim
  | .augS a f b e, Z, Z', ρ, S, w, h => by rw [wS] at h; exact h.elim
  | .ex e, Z, Z', ρ, S, w, h => by
    rw [wS] at h ⊢
    exact wE_mono hΦ e _ _ _ _ _ _ (fun d S1 z => w.nx _ _ z) (w.ex ρ) h
  | .ret e, Z, Z', ρ, S, w, h => by
    rw [wS] at h ⊢
    exact wE_mono hΦ e _ _ _ _ _ _ w.rt (w.ex ρ) h
  | .retN, Z, Z', ρ, S, w, h => by rw [wS] at h ⊢; exact w.rt _ _ h
  | .ite t a b, Z, Z', ρ, S, w, h => by
    rw [wS] at h ⊢
    refine wE_mono hΦ t _ _ _ _ _ _ (fun x S1 ⟨c, h1, h2⟩ => ⟨c, h1, ?_⟩) (w.ex ρ) h
    split at h2
    · rename_i hc; rw [if_pos hc]; exact wSs_mono a _ _ _ _ w h2
    · rename_i hc; rw [if_neg hc]; exact wSs_mono b _ _ _ _ w h2
  | .wh t b, Z, Z', ρ, S, w, h => by
    rw [wS] at h ⊢
    obtain ⟨W, h0, hs⟩ := h
    refine ⟨W, h0, fun m ρ S hw => wE_mono hΦ t _ _ _ _ _ _ (fun x S1 ⟨c, h1, h2⟩ => ⟨c, h1, ?_⟩) (w.ex ρ) (hs m ρ S hw)⟩
    split at h2
    · rename_i hc; rw [if_pos hc]; exact wSs_mono b { Z with nx := fun ρ' S' => ∃ m', m' < m ∧ W m' ρ' S', ct := fun ρ' S' => ∃ m', m' < m ∧ W m' ρ' S', bk := Z.nx } _ _ _ ⟨fun _ _ z => z, w.rt, w.nx, fun _ _ z => z, w.ex⟩ h2
    · rename_i hc; rw [if_neg hc]; exact w.nx _ _ h2
  | .for t ik it b, Z, Z', ρ, S, w, h => by
    rw [wS] at h ⊢
    refine wEs_mono hΦ it _ _ _ _ _ _ (fun ds S1 z => wSrc_mono (fun src l S2 z => wLoop_mono (fun d ρ S P P' hp z => ?_) (fun a S z => unlk_mono (w.nx a) z) z) z) (w.ex ρ) h
    exact wG_mono hΦ t _ _ _ _ _ _ _ (fun ρ' S' z => wSs_mono b { nx := P, ct := P, bk := fun ρ S => unlk l (Z.nx ρ) S, rt := fun v S => unlk l (Z.rt v) S, ex := Z.ex } _ _ _ ⟨hp, fun d S z => unlk_mono (w.rt d) z, fun ρ S z => unlk_mono (w.nx ρ) z, hp, w.ex⟩ z) (fun _ _ q => q) z
  | .brk, Z, Z', ρ, S, w, h => by rw [wS] at h ⊢; exact w.bk _ _ h
  | .cont, Z, Z', ρ, S, w, h => by rw [wS] at h ⊢; exact w.ct _ _ h
  | .pass, Z, Z', ρ, S, w, h => by rw [wS] at h ⊢; exact w.nx _ _ h
  | .raise e, Z, Z', ρ, S, w, h => by rw [wS] at h; exact h.elim
  | .del a i, Z, Z', ρ, S, w, h => by rw [wS] at h; exact h.elim
  | .never, Z, Z', ρ, S, w, h => by rw [wS] at h; exact h.elim
theorem wSs_mono : ∀ (cs : List C) (Z Z' : WEnds) (ρ : Rho) (S : Sto), Weak Z Z' → wSs T Φ cs Z ρ S → wSs T Φ cs Z' ρ S
  | [], Z, Z', ρ, S, w, h => by rw [wSs] at h ⊢; exact w.nx _ _ h
  | c :: cs, Z, Z', ρ, S, w, h => by
    rw [wSs] at h ⊢
    exact wS_mono c { Z with nx := fun ρ' S' => wSs T Φ cs Z ρ' S' } _ _ _ ⟨fun ρ' S' z => wSs_mono cs _ _ _ _ w z, w.rt, w.bk, w.ct, w.ex⟩ h
end
omit hΦ in
theorem phi_mono (T : Tab) : ∀ k, PhiMono (phi T k)
  | 0 => fun f ds S Q Q' Ex Ex' hq hx h => h.elim
  | k + 1 => fun f ds S Q Q' Ex Ex' hq hx h => by
    obtain ⟨fn, h1, h2, h3, h4⟩ := h
    exact ⟨fn, h1, h2, h3, wSs_mono (phi_mono T k) _ { nx := fun _ S' => Q .non S', rt := Q, ex := fun _ => Ex } _ _ _ ⟨fun _ S z => hq _ _ z, hq, fun _ _ z => z, fun _ _ z => z, fun _ => hx⟩ h4⟩
end
end PD
set_option Elab.async false
set_option linter.all false
set_option maxRecDepth 100000
set_option maxHeartbeats 1000000
/-! PD: operations by values: what the plain data say is what the machine does. -/
namespace PD
open PySem PySem.Spec PyProof.Rows L2

/-- locked things stay -/
def ExF (H H' : Hp) : Prop := ∀ a ob u, H a = some (.frz ob u) → H' a = some (.frz ob u)
theorem ExF.refl {H : Hp} : ExF H H := fun _ _ _ h => h
theorem ExF.trans {H H' H'' : Hp} (f : ExF H H') (g : ExF H' H'') : ExF H H'' := fun a ob u h => g a ob u (f a ob u h)
theorem ExF.upd {H : Hp} {a : Addr} {ho : HO} (h : ∀ ob u, H a ≠ some (.frz ob u)) : ExF H (upd H a ho) := fun b ob u e => by
  rw [upd_ne (fun z => by rw [z] at e; exact h _ _ e)]; exact e
/-- what is not told of stays -/
def Frm (S : Sto) (H : Hp) (S' : Sto) (H' : Hp) : Prop := (∀ a ho, H a = some ho → S a = none → H' a = some ho ∧ S' a = none) ∧ ExF H H'
section
variable {L : Lay} {S S' S'' : Sto} {H H' H'' : Hp} {a : Addr} {o : O} {ho : HO}
theorem Frm.refl : Frm S H S H := ⟨fun _ _ h k => ⟨h, k⟩, .refl⟩
theorem Frm.trans (f : Frm S H S' H') (g : Frm S' H' S'' H'') : Frm S H S'' H'' := ⟨fun a ho h k => let ⟨h1, k1⟩ := f.1 a ho h k; g.1 a ho h1 k1, f.2.trans g.2⟩
theorem Frm.new (h : H a = none) : Frm S H (PD.put S a o) (upd H a ho) := ⟨fun b hb e k => by
  have n := ne_of_none e h
  exact ⟨by rw [upd_ne n]; exact e, by rw [put_ne n]; exact k⟩, .upd (by rw [h]; exact fun _ _ z => nomatch z)⟩
theorem Frm.side (h : H a = none) : Frm S H S (upd H a ho) := ⟨fun b hb e k => ⟨by rw [upd_ne (ne_of_none e h)]; exact e, k⟩, .upd (by rw [h]; exact fun _ _ z => nomatch z)⟩
theorem ROk.nofrz (h : ROk L H o a ho) (hf : ∀ u, o ≠ .frz u) : ∀ ob u, ho ≠ .frz ob u := by
  cases h with
  | frz r => exact absurd rfl (hf _)
  | _ => exact fun _ _ z => nomatch z
theorem Frm.put (rs : RS L S H) {o' : O} (h : S a = some o') (hf : ∀ u, o' ≠ .frz u := by intro _ z; cases z) : Frm S H (PD.put S a o) (upd H a ho) := ⟨fun b hb e k => by
  have n : b ≠ a := fun z => by rw [z, h] at k; cases k
  exact ⟨by rw [upd_ne n]; exact e, by rw [put_ne n]; exact k⟩, .upd (by
  obtain ⟨h0, e, k⟩ := rs a o' h
  rw [e]
  exact fun ob u z => k.nofrz hf ob u (Option.some.inj z))⟩
theorem ROk.notup {vs : List V} {ob : Obj} {o : O} {a : Addr} {ho : HO} (h : ROk L H o a ho) : ho ≠ .tup vs ∧ ho ≠ .frz ob (.tup vs) := by
  induction h with
  | lst _ => exact ⟨(fun z => nomatch z), (fun z => nomatch z)⟩
  | dK _ _ => exact ⟨(fun z => nomatch z), (fun z => nomatch z)⟩
  | dT _ => exact ⟨fun z => (by cases z), fun z => (by cases z)⟩
  | ins _ => exact ⟨(fun z => nomatch z), (fun z => nomatch z)⟩
  | set _ _ => exact ⟨fun z => (by cases z), fun z => (by cases z)⟩
  | frz r ih =>
    refine ⟨(fun z => nomatch z), fun z => ?_⟩
    injection z with _ z
    exact ih.1 z
theorem Frm.ext (rs : RS L S H) (f : Frm S H S' H') : Ext H H' := fun a vs r => by
  have n : S a = none := by
    cases e : S a with
    | none => rfl
    | some o =>
      obtain ⟨ho, h1, h2⟩ := rs a o e
      rcases r with r | ⟨ob, r⟩
      · rw [h1] at r; exact absurd (Option.some.inj r) (h2.notup (ob := default)).1
      · rw [h1] at r; exact absurd (Option.some.inj r) (h2.notup).2
  rcases r with r | ⟨ob, r⟩
  · exact .inl (f.1 a _ r n).1
  · exact .inr ⟨ob, (f.1 a _ r n).1⟩
end
structure Stat where
  fa : Nat → Addr
  ca : Nat → Addr
  nm : Nat → Str
abbrev lay (X : Cx) (st : Stat) : Lay := ⟨X.prog, X.w, X.K, st.fa, st.ca, st.nm⟩
/-- what is wanted of a value, told of data -/
def post (L : Lay) (S : Sto) (H : Hp) (Q : VK) : WD := fun d S' => ∀ v H', Frm S H S' H' → RS L S' H' → Rep L H' d v → Q v H'
section
variable {L : Lay} {S S' : Sto} {H H' : Hp} {Q : VK} {d : D} {v : V} {a : Addr} {o : O} {ho : HO}
theorem post.now (h : post L S H Q d S) (rs : RS L S H) (r : Rep L H d v) : Q v H := h v H .refl rs r
theorem post.new (rs : RS L S H) (h : PD.new o S (post L S H Q)) (hp : H a = none) (k : ROk L (upd H a ho) o a ho) : Q (.ref a) (upd H a ho) :=
  h a (rs.free hp) _ _ (.new hp) (rs.put (Ext.upd_new hp) k) .ref
theorem post.tup {ds : List D} {vs : List V} (rs : RS L S H) (h : post L S H Q (.tup ds) S) (r : Reps L H ds vs) (hp : H a = none) : Q (.ref a) (upd H a (.tup vs)) :=
  h _ _ (.side hp) (rs.side hp) (.tup (SqT.of upd_same) (r.ext (Ext.upd_new hp)))
theorem RS.ext_put (rs : RS L S H) {o' : O} (h : S a = some o') : Ext H (upd H a ho) := by
  obtain ⟨h0, e, k⟩ := rs a o' h
  exact Ext.upd_of e (fun vs => (k.notup (ob := default)).1) fun ob vs => (k.notup).2
theorem post.put {o' : O} (rs : RS L S H) (hs : S a = some o') (h : post L S H Q d (PD.put S a o)) (k : ROk L (upd H a ho) o a ho) (r : Rep L (upd H a ho) d v) (hf : ∀ u, o' ≠ .frz u := by intro _ z; cases z) : Q v (upd H a ho) :=
  h _ _ (.put rs hs hf) (rs.put (rs.ext_put hs) k) r
theorem RS.lst (rs : RS L S H) {xs : List D} (h : S a = some (.lst xs)) : ∃ vs, H a = some (.lst vs) ∧ Reps L H xs vs := by
  obtain ⟨ho, h1, h2⟩ := rs a _ h
  cases h2 with
  | lst r => exact ⟨_, h1, r⟩
/-- an object, locked or not -/
theorem RS.at (rs : RS L S H) {o : O} (h : at_ S a = some o) : ∃ ho, Rd H a ho ∧ ROk L H o a ho := by
  unfold at_ at h
  obtain ⟨o1, h1, h2⟩ := Option.map_eq_some_iff.mp h
  obtain ⟨h0, e, k⟩ := rs a o1 h1
  cases k with
  | lst r => cases h2; exact ⟨_, .inl e, .lst r⟩
  | dK r n => cases h2; exact ⟨_, .inl e, .dK r n⟩
  | dT r => cases h2; exact ⟨_, .inl e, .dT r⟩
  | ins r => cases h2; exact ⟨_, .inl e, .ins r⟩
  | frz r => cases h2; exact ⟨_, .inr ⟨_, e⟩, r⟩
  | set r p => cases h2; exact ⟨_, .inl e, .set r p⟩
theorem RS.seqL (rs : RS L S H) {xs : List D} (h : at_ S a = some (.lst xs)) : ∃ vs, SqL L.K H a vs ∧ Reps L H xs vs := by
  obtain ⟨ho, h1, h2⟩ := rs.at h
  cases h2 with
  | lst r => exact ⟨_, .inl h1, r⟩
/-- a sequence: a list's address, or a tuple's -/
theorem RS.seq (rs : RS L S H) {xs : List D} (h : seqOf S d = some xs) (r : Rep L H d v) : ∃ p vs, v = .ref p ∧ Reps L H xs vs ∧ ((SqL L.K H p vs ∧ d = .ref p) ∨ (SqT L.K H p vs ∧ d = .tup xs)) := by
  cases d with
  | tup ys =>
    cases h
    cases r with
    | tup h1 h2 => exact ⟨_, _, rfl, h2, .inr ⟨h1, rfl⟩⟩
  | ref p =>
    have h : (match at_ S p with
      | some (.lst xs) => some xs
      | _ => none) = some xs := h
    cases r
    split at h
    · rename_i ys e
      cases h
      obtain ⟨vs, h1, h2⟩ := rs.seqL e
      exact ⟨_, _, rfl, h2, .inl ⟨h1, rfl⟩⟩
    · cases h
  | _ => cases h
end
end PD
set_option Elab.async false
set_option linter.all false
set_option maxRecDepth 100000
set_option maxHeartbeats 1000000
/-! PD: operators by values. -/
namespace PD
open PySem PySem.Spec PyProof.Rows L2
def opB : Bin → Operator
  | .add => .Add | .sub => .Sub | .mul => .Mult | .fdiv => .FloorDiv | .mod => .Mod | .pow => .Pow | .band => .BitAnd | .bor => .BitOr | .shl => .LShift | .shr => .RShift
def opC : Cmp → CmpOp
  | .eq => .Eq | .ne => .NotEq | .lt => .Lt | .le => .LtE | .gt => .Gt | .ge => .GtE | .isin => .In | .notin => .NotIn | .is => .Is | .isnot => .IsNot
section
variable {X : Cx} {st : Stat}
/-- a reading by values, told of data -/
def r2 (X : Cx) (st : Stat) (w : D → D → Sto → WD → Prop) : R2 := fun x y H Q => ∃ dx dy S, RS (lay X st) S H ∧ Rep (lay X st) H dx x ∧ Rep (lay X st) H dy y ∧ w dx dy S (post (lay X st) S H Q)
theorem Reps.rep {L : Lay} {H : Hp} {ds : List D} {vs : List V} (r : Reps L H ds vs) : ∀ n : Nat, Reps L H (List.replicate n ds).flatten (List.replicate n vs).flatten
  | 0 => .nil
  | n + 1 => by
    rw [List.replicate_succ, List.replicate_succ, List.flatten_cons, List.flatten_cons]
    exact r.append (Reps.rep r n)
theorem tup_mul1 (l : Addr) (items : Array Value) (n : Nat) (dd : Option Addr) (sl : Array (Option Value)) (u : Tok) :
    Meets (Builtin.«tuple.__mul__» ⟨[.ref l, .int 1 u], []⟩) (fun _ R s => s.heap.get? l = some { cls := .type "tuple", dict := dd, data := .seq items n, slots := sl } ∧ R (.ok (.ret (Value.ref l))) s) :=
  .of_wp fun prog w A R s h => by
    obtain ⟨hp, g, d, tk, os⟩ := s
    obtain ⟨hl, h⟩ := h
    have f1 := AutoSeq1.idx_int
    have c1 : (items.isEmpty || (1 : Int) == 1) = true := by simp
    wp_walk using wpAny_loadPart' hl
    repeat (first
      | (refine wpAny_ite_true (decide_eq_true (by rw [c1])) ?_; wp_walk using wpAny_loadPart' hl))
    exact ⟨_, rfl, h⟩
theorem tup_mul0 (l : Addr) (items : Array Value) (n : Nat) (dd : Option Addr) (sl : Array (Option Value)) (x : Int) (u : Tok) (h0 : x ≤ 0) (hb : -(2 ^ 63) ≤ x) (hi : items.isEmpty = false) :
    Meets (Builtin.«tuple.__mul__» ⟨[.ref l, .int x u], []⟩) (fun _ R s => s.heap.get? l = some { cls := .type "tuple", dict := dd, data := .seq items n, slots := sl } ∧
      R (.ok (.ret (Value.ref s.heap.objs.size))) { s with heap := s.heap.push { cls := Value.type "tuple", data := Data.seq #[] } }) :=
  .of_wp fun prog w A R s h => by
    obtain ⟨hp, g, d, tk, os⟩ := s
    obtain ⟨hl, h⟩ := h
    have f1 := AutoSeq1.idx_int
    have c0 : (decide (x < -(2 ^ 63)) || decide (x ≥ 2 ^ 63)) = false := by
      rw [decide_eq_false (by omega), decide_eq_false (by omega)]; rfl
    have c1 : (items.isEmpty || x == 1) = false := by
      rw [hi, Bool.false_or]
      exact beq_eq_false_iff_ne.mpr (by omega)
    have c2 : (decide (x ≤ 0) || items.isEmpty) = true := by rw [decide_eq_true h0]; rfl
    wp_walk using wpAny_loadPart' hl
    repeat (first
      | (refine wpAny_ite_false (decide_eq_false (by rw [c0]; exact Bool.false_ne_true)) ?_; wp_walk using wpAny_loadPart' hl)
      | (refine wpAny_ite_false (decide_eq_false (by rw [c1]; exact Bool.false_ne_true)) ?_; wp_walk using wpAny_loadPart' hl)
      | (refine wpAny_ite_true (decide_eq_true (by rw [c2])) ?_; wp_walk using wpAny_loadPart' hl))
    exact ⟨_, rfl, h⟩
/-- a list repeated -/
theorem op_mulL {pins : List (Addr × Obj)} {σ : L2.St} {H : Hp} {s : Shared} {l : Addr} {vs : List V} {n : Int} {t : Tok} {Q : VK} (I : Inv X pins σ H s) (hl : H l = some (.lst vs)) (h1 : -(2 ^ 63) ≤ n) (h2 : n < 2 ^ 63) (h3 : vs.length * n.toNat ≤ 2 ^ 24)
    (q : ∀ p, H p = none → Q (.ref p) (upd H p (.lst (List.replicate n.toNat vs).flatten))) : wpAny (model X.prog X.w) X.A (binaryOp .Mult (.ref l) (.int n t)) (EP X pins σ Q) X.xe s := by
  obtain ⟨its, rv, ⟨⟨cls, d, data, sl⟩, k, ho, hc, hdd, hd⟩, hz⟩ := I.list (show SqL X.K H l vs from .inl (.inl hl))
  simp only at hc hd hdd
  subst hc hd hdd
  have hsz : its.toArray.size * n.toNat ≤ 2 ^ 24 := by rw [List.size_toArray, ← rv.length]; exact h3
  refine wpAny_binaryOp_repeat_ref (T := "list") (U := "int") (by decide) ⟨_, ho, rfl⟩ (fun s' => typeIs_int s' n t) noFill_list_mul F.fills_int_mul F.slot_int_rmul repeat_list F.slot_int_index.lookup
    (call_meets F.slot_int_rmul (typeIs_int s n t) F.entry_int_rmul (F.args_int_rmul_2 _ _) (PySem.lm_int_rmul_list_any n t l its.toArray k none sl)
      ⟨ho, rfl, ⟨_, ho, rfl⟩, call_meets F.slot_list_mul ⟨_, ho, rfl⟩ F.entry_list_mul (F.args_list_mul_2 _ _)
        (PySem.lm_list_mul_any l its.toArray k none sl n t (by simp [Builtin.List.listFitsIndex]; omega) (by omega) (by simp [Builtin.List.listTooLong, sizeLine]; simp at hsz; omega))
        ⟨ho, ?_⟩⟩)
  rw [listMul_foldl_if]
  have hn : H s.heap.objs.size = none := I.hok.fresh (Nat.le_refl _)
  have rv2 : Vals (List.replicate n.toNat vs).flatten (List.replicate n.toNat its).flatten := by
    generalize n.toNat = m
    induction m with
    | zero => exact .nil
    | succ m ih =>
      rw [List.replicate_succ, List.replicate_succ, List.flatten_cons, List.flatten_cons]
      exact rv.append ih
  have len : (List.replicate n.toNat vs).flatten.length ≤ sizeLine := by
    rw [lm_len_rep_flat, sizeLine_eq, Nat.mul_comm]; exact h3
  refine ⟨.ref _, upd H s.heap.objs.size (.lst (List.replicate n.toNat vs).flatten), I.laid (t' := s.toks) (fun b u e => Heap.get?_push_of_some _ e) (Nat.le_refl _) ⟨len, _, 0, rv2, Heap.get?_push_size _ rfl⟩, rfl, q _ hn⟩
theorem bin_ok (b : Bin) : OpR X (binaryOp (opB b)) (r2 X st (wBin b)) := by
  intro pins s σ H x y v u Q I rx ry ⟨dx, dy, S, rs, hx, hy, h⟩
  unfold wBin at h
  split at h
  · cases hx; cases hy
    exact op_add pins s σ H _ _ v u Q I rx ry ⟨_, _, rfl, rfl, h.now rs .int⟩
  · cases hx; cases hy
    exact op_add_str pins s σ H _ _ v u Q I rx ry ⟨_, _, rfl, rfl, h.1, h.2.now rs .str⟩
  · cases hx with
    | tup h1 h2 => cases hy with
      | tup g1 g2 =>
        refine op_catA pins s σ H _ _ v u Q I rx ry ⟨_, _, _, _, rfl, rfl, h1, g1, by rw [← h2.length, ← g2.length]; exact h.1, fun e => ?_, fun _ e => ?_, fun _ _ p hp => ?_⟩
        · subst e
          cases h2
          exact h.2.now rs (.tup g1 g2)
        · subst e
          cases g2
          exact h.2.now rs (by rw [List.append_nil]; exact .tup h1 h2)
        · exact post.tup rs h.2 (h2.append g2) hp
  · cases hx; cases hy
    obtain ⟨xs, ys, h1, h2, h3, h4⟩ := h
    obtain ⟨vs, g1, r1⟩ := rs.lst h1
    obtain ⟨us, g2, r2⟩ := rs.lst h2
    exact op_cat pins s σ H _ _ v u Q I rx ry ⟨_, _, _, _, rfl, rfl, g1, g2, by rw [← r1.length, ← r2.length]; exact h3, fun p hp => post.new rs h4 hp (.lst ((r1.append r2).ext (Ext.upd_new hp)))⟩
  · cases hx; cases hy
    exact op_sub pins s σ H _ _ v u Q I rx ry ⟨_, _, rfl, rfl, h.now rs .int⟩
  · cases hx; cases hy
    exact op_mul pins s σ H _ _ v u Q I rx ry ⟨_, _, rfl, rfl, h.1, h.2.now rs .int⟩
  · rename_i xs i
    obtain ⟨h1, h2, h0, h3, h⟩ := h
    cases hx with
    | @tup a vs _ g1 g2 =>
      cases hy
      have hne : vs ≠ [] := fun e => h3 (by
        subst e
        cases g2
        rfl)
      by_cases hi : 2 ≤ i
      · exact op_repT pins s σ H _ _ v u Q I rx ry ⟨_, _, _, rfl, rfl, g1, hne, hi, h2, by rw [← g2.length]; exact h1, fun p hp => post.tup rs h (g2.rep i.toNat) hp⟩
      · cases rx
        obtain ⟨t, rfl⟩ := ry
        obtain ⟨its, r, ⟨⟨cls, dd, data, sl⟩, ho, hc, n, hd⟩, hs⟩ := I.tuple g1
        simp only at hc hd
        subst hc hd
        have hin : its.toArray.isEmpty = false := by
          cases its with
          | nil => cases r; exact absurd rfl hne
          | cons a b => rfl
        refine wpAny_binaryOp_repeat_ref (T := "tuple") (U := "int") (by decide) ⟨_, ho, rfl⟩ (fun s' => typeIs_int s' i t) noFill_tuple_mul F.fills_int_mul F.slot_int_rmul repeat_tuple F.slot_int_index.lookup
          (call_meets F.slot_int_rmul (typeIs_int s i t) F.entry_int_rmul (F.args_int_rmul_2 _ _) (int_rmul_tuple i t a its.toArray n dd sl) ⟨ho, rfl, ⟨_, ho, rfl⟩, ?_⟩)
        by_cases h1' : i = 1
        · subst h1'
          refine call_meets F.slot_tuple_mul ⟨_, ho, rfl⟩ F.entry_tuple_mul (F.args_tuple_mul_2 _ _) (tup_mul1 a its.toArray n dd sl t) ⟨ho, ?_⟩
          have e : (List.replicate (1 : Int).toNat xs).flatten = xs := by simp
          rw [e] at h
          exact ⟨.ref a, H, I, rfl, h.now rs (.tup g1 g2)⟩
        · refine call_meets F.slot_tuple_mul ⟨_, ho, rfl⟩ F.entry_tuple_mul (F.args_tuple_mul_2 _ _) (tup_mul0 a its.toArray n dd sl i t (by omega) h0 hin) ⟨ho, ?_⟩
          have e : (List.replicate i.toNat xs).flatten = [] := by
            have : i.toNat = 0 := by omega
            rw [this]; rfl
          rw [e] at h
          refine ⟨.ref s.heap.objs.size, _, I.laid (t' := s.toks) (o := .tup []) (fun b ob q => Heap.get?_push_of_some _ q) (Nat.le_refl _) ?_, rfl, post.tup rs h .nil (I.hok.fresh (Nat.le_refl _))⟩
          exact ⟨Nat.zero_le _, _, .nil, IsTup.new _ _⟩
  · rename_i a n
    obtain ⟨xs, h1, ⟨h2, h3, h4⟩, h5⟩ := h
    cases hx; cases hy
    cases rx
    obtain ⟨t, rfl⟩ := ry
    obtain ⟨ws, g1, g2⟩ := rs.lst h1
    exact op_mulL I g1 h2 h3 (by rw [← g2.length]; exact h4) fun p hp => post.new rs h5 hp (.lst ((g2.rep n.toNat).ext (Ext.upd_new hp)))
  · cases hx; cases hy
    exact op_fdivN pins s σ H _ _ v u Q I rx ry ⟨_, _, rfl, rfl, h.1, h.2.now rs .int⟩
  · cases hx; cases hy
    exact op_modN pins s σ H _ _ v u Q I rx ry ⟨_, _, rfl, rfl, h.1, h.2.now rs .int⟩
  · cases hx; cases hy
    exact op_pow pins s σ H _ _ v u Q I rx ry ⟨_, _, rfl, rfl, h.1, h.2.now rs .int⟩
  · exact h.elim
/-! ### equality -/
theorem snap_dp {S : Sto} {H : Hp} (rs : RS (lay X st) S H) : ∀ (n : Nat) (d : D) (v : V) (p : PyData), snap S n d = some p → Rep (lay X st) H d v → Dp X.K H v p
  | 0, _, _, _, h, _ => by cases h
  | n + 1, d, v, p, h, r => by
    have all : ∀ (xs : List D) (vs : List V) (ps : List PyData), xs.mapM (snap S n) = some ps → Reps (lay X st) H xs vs → DpAll X.K H vs ps := by
      intro xs
      induction xs with
      | nil =>
        intro vs ps h r
        cases r
        cases h
        exact .nil
      | cons x xs ih =>
        intro vs ps h r
        cases r with
        | cons r1 r2 =>
          rw [List.mapM_cons] at h
          simp only [Option.pure_def, Option.bind_eq_bind, Option.bind_eq_some_iff] at h
          obtain ⟨q, h1, qs, h2, e⟩ := h
          cases e
          exact .cons (snap_dp rs n _ _ _ h1 r1) (ih _ _ h2 r2)
    cases d with
    | non => cases r; cases h; exact .non
    | bl b => cases r; cases h; exact .bl _
    | int i => cases r; cases h; exact .int _
    | str x => cases r; cases h; exact .str _
    | tup xs =>
      cases r with
      | tup h1 h2 =>
        have h : (xs.mapM (snap S n)).map PyData.tuple = some p := h
        obtain ⟨ps, e, rfl⟩ := Option.map_eq_some_iff.mp h
        exact .tup h1 (all _ _ _ e h2)
    | ref a =>
      cases r
      have h : (match at_ S a with
        | some (.lst xs) => (xs.mapM (snap S n)).map PyData.list
        | _ => none) = some p := h
      split at h
      · rename_i ys e
        obtain ⟨vs, h1, h2⟩ := rs.seqL e
        obtain ⟨ps, e, rfl⟩ := Option.map_eq_some_iff.mp h
        exact .lst h1 (all _ _ _ e h2)
      · cases h
    | ty _ => cases h
    | fn _ => cases h
    | cls _ => cases h
/-! ### keys -/
mutual
theorem rep_ni {L : Lay} {H : Hp} {h : Heap} (tp : ∀ a vs, SqT L.K H a vs → ∃ its : List Value, Vals vs its ∧ IsTup h a its.toArray) : ∀ (d : D) (v : V) (k : NestedKey) (u : Value), Rep L H d v → d.key = some k → RelV v u → NI h k u
  | .non, _, _, _, r, e, q => by cases r; cases e; cases q; exact .none
  | .int _, _, _, _, r, e, q => by cases r; cases e; obtain ⟨t, rfl⟩ := q; exact .int _ _
  | .str _, _, _, _, r, e, q => by cases r; cases e; obtain ⟨t, rfl⟩ := q; exact .text _ _
  | .tup ds, _, _, _, r, e, q => by
    cases r with
    | tup h1 h2 =>
      rw [D.key, Option.map_eq_some_iff] at e
      obtain ⟨ks, e, rfl⟩ := e
      cases q
      obtain ⟨its, r1, ob, ho, hc, n, hd⟩ := tp _ _ h1
      exact .tup ho hc hd (reps_ni tp ds _ ks _ h2 e (by simpa using r1))
  | .bl _, _, _, _, r, e, q => by cases e
  | .ref _, _, _, _, r, e, q => by cases e
  | .ty _, _, _, _, r, e, q => by cases e
  | .fn _, _, _, _, r, e, q => by cases e
  | .cls _, _, _, _, r, e, q => by cases e
theorem reps_ni {L : Lay} {H : Hp} {h : Heap} (tp : ∀ a vs, SqT L.K H a vs → ∃ its : List Value, Vals vs its ∧ IsTup h a its.toArray) : ∀ (ds : List D) (vs : List V) (ks : List NestedKey) (us : List Value), Reps L H ds vs → D.keys ds = some ks → Vals vs us → NIs h ks us
  | [], _, _, _, r, e, q => by cases r; cases e; cases q; exact .nil
  | d :: ds, _, _, _, r, e, q => by
    cases r with
    | cons r1 r2 =>
      simp only [D.keys, Option.bind_eq_some_iff, Option.map_eq_some_iff] at e
      obtain ⟨k, e1, ks, e2, rfl⟩ := e
      cases q with
      | cons q1 q2 => exact .cons (rep_ni tp d _ k _ r1 e1 q1) (reps_ni tp ds _ ks _ r2 e2 q2)
end
theorem inv_tups {pins : List (Addr × Obj)} {σ : L2.St} {H : Hp} {s : Shared} (I : Inv X pins σ H s) : ∀ a vs, SqT X.K H a vs → ∃ its : List Value, Vals vs its ∧ IsTup s.heap a its.toArray := fun a vs h => let ⟨its, r, p, _⟩ := I.tuple h; ⟨its, r, p⟩
theorem cmp_lt (hu : X.A.units + 64 < cLine) : OpR X (compareOp .Lt) (r2 X st (wCmp .lt)) := by
  intro pins s σ H x y v u Q I rx ry ⟨dx, dy, S, rs, hx, hy, h⟩
  unfold wCmp at h
  dsimp only at h
  split at h
  · cases hx; cases hy
    exact op_lt pins s σ H _ _ v u Q I rx ry ⟨_, _, rfl, rfl, h.now rs .bl⟩
  · cases hx; cases hy
    exact op_lt_str pins s σ H _ _ v u Q I rx ry ⟨_, _, rfl, rfl, h.now rs .bl⟩
  · obtain ⟨kx, ky, b, h1, h2, h3, h4, h5⟩ := h
    show wpAny _ _ (richCompare .Lt v u) _ _ _
    exact lt_key kx ky b X.A s v u X.prog X.w X.xe _ h3 (rep_ni (L := lay X st) (inv_tups I) _ _ _ _ hx h1 rx) (rep_ni (L := lay X st) (inv_tups I) _ _ _ _ hy h2 ry) (by omega) ⟨.bl b, H, I, rfl, h5.now rs .bl⟩
  · exact h.elim
theorem is_ok : OpR X (compareOp .Is) (r2 X st (wCmp .is)) := by
  intro pins s σ H x y v u Q I rx ry ⟨dx, dy, S, rs, hx, hy, h⟩
  rcases h with ⟨rfl, h⟩ | ⟨a, b, rfl, rfl, h⟩
  · cases hy
    refine op_isN pins s σ H _ _ v u Q I rx ry ⟨rfl, ?_⟩
    have e : decide (dx = .non) = decide (x = .non) := by cases hx <;> simp
    rw [e] at h
    exact h.now rs .bl
  · cases hx; cases hy
    exact op_isBl pins s σ H _ _ v u Q I rx ry ⟨_, _, rfl, rfl, h.now rs .bl⟩
theorem isnot_ok : OpR X (compareOp .IsNot) (r2 X st (wCmp .isnot)) := by
  intro pins s σ H x y v u Q I rx ry ⟨dx, dy, S, rs, hx, hy, h⟩
  rcases h with ⟨rfl, h⟩ | ⟨a, b, rfl, rfl, h⟩
  · cases hy
    refine op_notN pins s σ H _ _ v u Q I rx ry ⟨rfl, ?_⟩
    have e : decide (dx = .non) = decide (x = .non) := by cases hx <;> simp
    rw [e] at h
    exact h.now rs .bl
  · cases hx; cases hy
    exact op_notBl pins s σ H _ _ v u Q I rx ry ⟨_, _, rfl, rfl, h.now rs .bl⟩
/-! ### items, slices -/
theorem Reps.cut {L : Lay} {H : Hp} {ds : List D} {vs : List V} (r : Reps L H ds vs) (lo hi : Option Int) : Reps L H (cutD ds lo hi) (cutV vs lo hi) := by
  unfold cutD cutV
  rw [r.length]
  exact (r.drop _).take _
theorem Reps.atI {L : Lay} {H : Hp} {ds : List D} {vs : List V} {i : Int} {d : D} (r : Reps L H ds vs) (h : atI ds i = some d) : ∃ v, L2.atI vs i = some v ∧ Rep L H d v := by
  unfold L2.atI at h ⊢
  rw [← r.length]
  obtain ⟨j, h1, h2⟩ := Option.bind_eq_some_iff.mp h
  obtain ⟨v, h3, h4⟩ := r.get h2
  exact ⟨v, by rw [h1]; exact h3, h4⟩
theorem sl_ok : SlR X (fun x lo hi H Q => ∃ dx S, RS (lay X st) S H ∧ Rep (lay X st) H dx x ∧ wSl dx lo hi S (post (lay X st) S H Q)) := by
  intro pins s σ H x v vl vu lo hi sl Q I rx hs pl pu ⟨dx, S, rs, hx, h⟩
  unfold wSl at h
  split at h
  · cases hx
    exact sl_str pins s σ H _ v vl vu lo hi sl Q I rx hs pl pu ⟨_, rfl, h.1, h.2.now rs .str⟩
  · cases hx with
    | tup h1 h2 =>
      refine sl_tupA pins s σ H _ v vl vu lo hi sl Q I rx hs pl pu ⟨_, _, rfl, h1, fun e => ?_, fun _ p hp => post.tup rs h (h2.cut lo hi) hp⟩
      refine h.now rs (.tup h1 ?_)
      have : cutD _ lo hi = _ := (show cutD _ lo hi = _ by
        unfold cutD
        rw [h2.length, e.1, e.2, List.drop_zero, Nat.sub_zero, ← h2.length, List.take_length])
      rw [this]
      exact h2
  · obtain ⟨xs, h1, h2⟩ := h
    obtain ⟨p, vs, rfl, r, h3 | h3⟩ := rs.seq h1 hx
    · exact sl_list pins s σ H _ v vl vu lo hi sl Q I rx hs pl pu ⟨_, _, rfl, h3.1, fun q hq => post.new rs h2 hq (.lst ((r.cut lo hi).ext (Ext.upd_new hq)))⟩
    · rename_i hn
      exact absurd h3.2 (hn _)
end
end PD
set_option Elab.async false
set_option linter.all false
set_option maxRecDepth 100000
set_option maxHeartbeats 1000000
/-! PD: dicts by values. -/
namespace PD
open PySem PySem.Spec PyProof.Rows L2
section
variable (L : Lay)
inductive RawK (H : Hp) : List (D × D) → List (Key × Value) → Prop
  | nil : RawK H [] []
  | cons {k d v u xs ys} : Rep L H d v → RelV v u → RawK H xs ys → RawK H ((kD k, d) :: xs) ((k, u) :: ys)
inductive RawT (H : Hp) : List (D × D) → List (NestedKey × Addr × Value) → Prop
  | nil : RawT H [] []
  | cons {k nk a d v u xs ys} : k.key = some nk → nk.depth ≤ 8 → Rep L H k (.ref a) → Rep L H d v → RelV v u → RawT H xs ys → RawT H ((k, d) :: xs) ((nk, a, u) :: ys)
end
section
variable {L : Lay} {H H' : Hp}
theorem rawK_of : ∀ {kvs : List (D × D)} {ys : List (Key × V)} {vs : List (Key × Value)}, EntK L H kvs ys → KV ys vs → RawK L H kvs vs
  | _, _, _, .nil, .nil => .nil
  | _, _, (k, u) :: _, .cons r t, .cons p q => by
    obtain ⟨e, rv⟩ := p
    simp only at e
    subst e
    exact .cons r rv (rawK_of t q)
theorem rawK_split : ∀ {kvs : List (D × D)} {vs : List (Key × Value)}, RawK L H kvs vs → ∃ ys, EntK L H kvs ys ∧ KV ys vs
  | _, _, .nil => ⟨[], .nil, .nil⟩
  | _, _, .cons (k := k) (v := v) r rv t => by
    obtain ⟨ys, a, b⟩ := rawK_split t
    exact ⟨(k, v) :: ys, .cons r a, .cons ⟨rfl, rv⟩ b⟩
abbrev PT2 : List (NestedKey × Addr × V) → List (NestedKey × Addr × Value) → Prop := Paired fun (p : NestedKey × Addr × V) (q : NestedKey × Addr × Value) => p.1 = q.1 ∧ p.2.1 = q.2.1 ∧ RelV p.2.2 q.2.2
theorem rawT_of : ∀ {kvs : List (D × D)} {ys : List (NestedKey × Addr × V)} {xs : List (NestedKey × Addr × Value)}, EntT L H kvs ys → PT2 ys xs → RawT L H kvs xs
  | _, _, _, .nil, .nil => .nil
  | _, _, (k, a, u) :: _, .cons h1 h2 h3 r t, .cons p q => by
    obtain ⟨e, e2, rv⟩ := p
    simp only at e e2
    subst e e2
    exact .cons h1 h2 h3 r rv (rawT_of t q)
theorem rawT_split : ∀ {kvs : List (D × D)} {xs : List (NestedKey × Addr × Value)}, RawT L H kvs xs → ∃ ys, EntT L H kvs ys ∧ PT2 ys xs
  | _, _, .nil => ⟨[], .nil, .nil⟩
  | _, _, .cons (nk := nk) (a := a) (v := v) h1 h2 h3 r rv t => by
    obtain ⟨ys, x, y⟩ := rawT_split t
    exact ⟨(nk, a, v) :: ys, .cons h1 h2 h3 r x, .cons ⟨rfl, rfl, rv⟩ y⟩
theorem RawK.ext (e : Ext H H') : ∀ {kvs vs}, RawK L H kvs vs → RawK L H' kvs vs
  | _, _, .nil => .nil
  | _, _, .cons r q t => .cons (r.ext e) q (RawK.ext e t)
theorem RawT.ext (e : Ext H H') : ∀ {kvs vs}, RawT L H kvs vs → RawT L H' kvs vs
  | _, _, .nil => .nil
  | _, _, .cons h1 h2 h3 r q t => .cons h1 h2 (h3.ext e) (r.ext e) q (RawT.ext e t)
/-- two answers -/
def RelOD (L : Lay) (H : Hp) (o : Option D) (u : Option Value) : Prop := match o, u with
  | none, none => True
  | some d, some u => ∃ v, Rep L H d v ∧ RelV v u
  | _, _ => False
theorem kD_inj {a b : Key} (e : kD a = kD b) : a = b := by
  cases a <;> cases b <;> simp_all [kD]
theorem RawK.look (k : Key) : ∀ {kvs : List (D × D)} {vs : List (Key × Value)}, RawK L H kvs vs → RelOD L H (PD.look kvs (kD k)) (valueAt vs k)
  | _, _, .nil => True.intro
  | _, _, .cons (k := j) (d := d) (v := v) (u := u) (xs := xs) (ys := ys) r rv t => by
    have ih := RawK.look k t
    unfold PD.look valueAt at ih ⊢
    rw [List.find?_cons, List.find?_cons]
    by_cases e : j = k
    · subst e
      simp only [decide_true, Option.map_some]
      exact ⟨v, r, rv⟩
    · have e' : ¬ kD j = kD k := fun q => e (kD_inj q)
      simp only [e, e', decide_false]
      exact ih
theorem RawT.look {k : D} {nk : NestedKey} (hk : k.key = some nk) : ∀ {kvs : List (D × D)} {vs : List (NestedKey × Addr × Value)}, RawT L H kvs vs → RelOD L H (PD.look kvs k) ((atKey vs nk).map (·.2))
  | _, _, .nil => True.intro
  | _, _, .cons (k := j) (nk := nj) (d := d) (v := v) (u := u) (xs := xs) (ys := ys) h1 h2 h3 r rv t => by
    have ih := RawT.look hk t
    unfold PD.look atKey at ih ⊢
    rw [List.find?_cons, List.find?_cons]
    by_cases e : nj = nk
    · subst e
      have e' : j = k := D.key_inj _ _ _ h1 hk
      simp only [e', decide_true, Option.map_some]
      exact ⟨v, r, rv⟩
    · have e' : ¬ j = k := fun q => e (by subst q; rw [h1] at hk; exact Option.some.inj hk)
      simp only [e, e', decide_false]
      exact ih
theorem RelOD.isSome {o : Option D} {u : Option Value} (r : RelOD L H o u) : o.isSome = u.isSome := by
  cases o <;> cases u <;> first | rfl | exact r.elim
theorem RelOD.some {d : D} {u : Option Value} (r : RelOD L H (some d) u) : ∃ w v, u = some w ∧ Rep L H d v ∧ RelV v w := by
  cases u with
  | none => exact r.elim
  | some w => obtain ⟨v, a, b⟩ := r; exact ⟨w, v, rfl, a, b⟩
theorem RelOD.none {u : Option Value} (r : RelOD L H none u) : u = none := by
  cases u with
  | none => rfl
  | some w => exact r.elim
theorem RawK.any (k : Key) : ∀ {kvs : List (D × D)} {vs : List (Key × Value)}, RawK L H kvs vs → (kvs.any fun p => decide (p.1 = kD k)) = vs.any fun kv => decide (kv.1 = k)
  | _, _, .nil => rfl
  | _, _, .cons (k := j) r rv t => by
    rw [List.any_cons, List.any_cons, RawK.any k t]
    congr 1
    by_cases e : j = k
    · subst e; simp
    · have e' : ¬ kD j = kD k := fun q => e (kD_inj q)
      simp [e, e']
theorem RawK.put (k : Key) {d : D} {v : V} {u : Value} (hr : Rep L H d v) (hv : RelV v u) {kvs : List (D × D)} {vs : List (Key × Value)} (r : RawK L H kvs vs) : RawK L H (putD kvs (kD k) d) (stored vs k u) := by
  unfold putD stored
  rw [r.any k]
  split
  · rename_i hh; clear hh
    induction r with
    | nil => exact .nil
    | @cons j d2 v2 u2 xs ys r1 rv t ih =>
      rw [List.map_cons, List.map_cons]
      by_cases e : j = k
      · subst e
        simp only [if_true]
        exact .cons hr hv ih
      · have e' : ¬ kD j = kD k := fun q => e (kD_inj q)
        simp only [e, e', if_false]
        exact .cons r1 rv ih
  · rename_i hh; clear hh
    induction r with
    | nil => exact .cons hr hv .nil
    | cons r1 rv t ih => exact .cons r1 rv ih
theorem RawT.any {k : D} {nk : NestedKey} (hk : k.key = some nk) : ∀ {kvs : List (D × D)} {vs : List (NestedKey × Addr × Value)}, RawT L H kvs vs → (kvs.any fun p => decide (p.1 = k)) = (atKey vs nk).isSome
  | _, _, .nil => rfl
  | _, _, .cons (k := j) (nk := nj) h1 h2 h3 r rv t => by
    rw [List.any_cons, RawT.any hk t]
    unfold atKey
    rw [List.find?_cons]
    by_cases e : nj = nk
    · subst e
      have e' : j = k := D.key_inj _ _ _ h1 hk
      simp [e']
    · have e' : ¬ j = k := fun q => e (by subst q; rw [h1] at hk; exact Option.some.inj hk)
      simp [e, e']
theorem RawT.put {k : D} {nk : NestedKey} {a : Addr} {d : D} {v : V} {u : Value} (hk : k.key = some nk) (hd : nk.depth ≤ 8) (ha : Rep L H k (.ref a)) (hr : Rep L H d v) (hv : RelV v u) {kvs : List (D × D)} {vs : List (NestedKey × Addr × Value)} (r : RawT L H kvs vs) :
    RawT L H (putD kvs k d) (storedH vs nk a u) := by
  unfold putD storedH
  rw [r.any hk]
  split
  · rename_i hh; clear hh
    induction r with
    | nil => exact .nil
    | @cons j nj a2 d2 v2 u2 xs ys h1 h2 h3 r1 rv t ih =>
      rw [List.map_cons, List.map_cons]
      by_cases e : nj = nk
      · subst e
        have e' : j = k := D.key_inj _ _ _ h1 hk
        subst e'
        simp only [if_true, putAt]
        exact .cons h1 h2 h3 hr hv ih
      · have e' : ¬ j = k := fun q => e (by subst q; rw [h1] at hk; exact Option.some.inj hk)
        simp only [e, e', if_false, putAt]
        exact .cons h1 h2 h3 r1 rv ih
  · rename_i hh; clear hh
    induction r with
    | nil => exact .cons hk hd ha hr hv .nil
    | cons h1 h2 h3 r1 rv t ih => exact .cons h1 h2 h3 r1 rv ih
theorem RawK.length : ∀ {kvs : List (D × D)} {vs : List (Key × Value)}, RawK L H kvs vs → kvs.length = vs.length
  | _, _, .nil => rfl
  | _, _, .cons _ _ t => by simp [RawK.length t]
theorem RawT.length : ∀ {kvs : List (D × D)} {vs : List (NestedKey × Addr × Value)}, RawT L H kvs vs → kvs.length = vs.length
  | _, _, .nil => rfl
  | _, _, .cons _ _ _ _ _ t => by simp [RawT.length t]
theorem putD_length (kvs : List (D × D)) (k v : D) : (putD kvs k v).length ≤ kvs.length + 1 := by
  unfold putD
  split <;> simp
end
section
variable {X : Cx} {st : Stat} {pins : List (Addr × Obj)} {σ : L2.St} {H : Hp} {s : Shared} {a : Addr} {kvs : List (D × D)} {S : Sto}
/-- leafs as keys -/
def Leafs (kvs : List (D × D)) : Prop := ∀ p ∈ kvs, isTup p.1 = false
def Tups (kvs : List (D × D)) : Prop := ∀ p ∈ kvs, isTup p.1 = true
theorem entK_leafs {L : Lay} : ∀ {kvs : List (D × D)} {ys}, EntK L H kvs ys → Leafs kvs
  | _, _, .nil => fun p hp => (by cases hp)
  | _, _, .cons (k := k) r t => fun p hp => by
    rcases List.mem_cons.mp hp with rfl | hp
    · cases k <;> rfl
    · exact entK_leafs t p hp
theorem entT_tups {L : Lay} : ∀ {kvs : List (D × D)} {ys}, EntT L H kvs ys → Tups kvs
  | _, _, .nil => fun p hp => (by cases hp)
  | _, _, .cons (k := k) h1 h2 h3 r t => fun p hp => by
    rcases List.mem_cons.mp hp with rfl | hp
    · cases h3 with
      | tup _ _ => rfl
      | ref => cases h1
      | fn => cases h1
      | cls => cases h1
    · exact entT_tups t p hp
theorem rd_obj {u : HO} (I : Inv X pins σ H s) (r : Rd H a u) : ObjOk X.prog X.w H s.heap a u := r.ok I.hok
theorem rep_nested {L : Lay} (tp : ∀ a vs, SqT L.K H a vs → ∃ its : List Value, Vals vs its ∧ IsTup s.heap a its.toArray) {k : D} {nk : NestedKey} {b : Addr} (r : Rep L H k (.ref b)) (hk : k.key = some nk) : NestedIs s.heap nk (.ref b) :=
  (rep_ni tp _ _ _ _ r hk rfl).nested
theorem rawT_is (I : Inv X pins σ H s) : ∀ {kvs : List (D × D)} {xs}, RawT (lay X st) H kvs xs → ∀ x ∈ xs, (nestedKind X.prog X.w).is s.heap x.1 x.2.1
  | _, _, .nil => fun x hx => (by cases hx)
  | _, _, .cons h1 h2 h3 r rv t => fun x hx => by
    rcases List.mem_cons.mp hx with rfl | hx
    · exact ⟨rep_nested (L := lay X st) (inv_tups I) h3 h1, h2⟩
    · exact rawT_is I t x hx
/-- the dict's entries as they stand: leafs -/
theorem dict_leaf (I : Inv X pins σ H s) {ho : HO} (r : Rd H a ho) (k : ROk (lay X st) H (.dct kvs) a ho) (lf : Leafs kvs) :
    kvs.length ≤ sizeLine ∧ (a == sysModules) = false ∧ ∃ vs, RawK (lay X st) H kvs vs ∧ s.heap.DictOf (mixKind X.prog X.w) a vs := by
  cases k with
  | dK en nd =>
    obtain ⟨z, hd, vs, rel, dd⟩ := dk_rd I.hok r
    have rw_ := rawK_of en rel
    exact ⟨by rw [rw_.length, ← rel.length]; exact z, hd, vs, rw_, dd⟩
  | dT en =>
    cases en with
    | nil =>
      obtain ⟨⟨hd, hz, xs, px, o, es, ep, h1, h2, h3, h4, h5⟩, _⟩ := rd_obj I r
      cases px
      refine ⟨Nat.zero_le _, hd, [], .nil, o, es, ep, h1, h2, h3, ?_, ?_, List.nodup_nil⟩
      · have e : es = #[] := by
          apply Array.ext'
          simpa using h4
        rw [e]
        intro e' he'
        simp at he'
      · rw [h4]
        exact .nil
    | cons h1 h2 h3 h4 h5 =>
      have q := lf _ List.mem_cons_self
      have q2 := entT_tups (.cons h1 h2 h3 h4 h5) _ List.mem_cons_self
      rw [q] at q2
      cases q2
theorem dict_tup (I : Inv X pins σ H s) {ho : HO} (r : Rd H a ho) (k : ROk (lay X st) H (.dct kvs) a ho) (lf : Tups kvs) :
    kvs.length ≤ sizeLine ∧ (a == sysModules) = false ∧ ∃ xs, RawT (lay X st) H kvs xs ∧ s.heap.DictOfH (nestedKind X.prog X.w) a xs := by
  cases k with
  | dT en =>
    obtain ⟨⟨hd, hz, xs, px, o, es, ep, h1, h2, h3, h4, h5⟩, _⟩ := rd_obj I r
    have rt := rawT_of en px
    exact ⟨by rw [rt.length, ← Paired.length px]; exact hz, hd, xs, rt, o, es, ep, h1, h2, h3, h4, rawT_is I rt, h5⟩
  | dK en nd =>
    cases en with
    | nil =>
      obtain ⟨z, hd, vs, rel, o, es, ep, h1, h2, h3, h4, h5, h6⟩ := dk_rd I.hok r
      cases rel
      have e : es.toList = [] := by
        cases q : es.toList with
        | nil => rfl
        | cons x y => rw [q] at h5; cases h5
      exact ⟨Nat.zero_le _, hd, [], .nil, o, es, ep, h1, h2, h3, by rw [e]; rfl, fun x hx => (by cases hx), List.nodup_nil⟩
    | cons h1 h2 =>
      have q := lf _ List.mem_cons_self
      rename_i kk _ _ _ _
      have q2 : isTup (kD kk) = false := by cases kk <;> rfl
      have q : isTup (kD kk) = true := q
      rw [q] at q2
      cases q2
end
end PD
set_option Elab.async false
set_option linter.all false
set_option maxRecDepth 100000
set_option maxHeartbeats 1000000
/-! PD: dicts, items, by values. -/
namespace PD
open PySem PySem.Spec PyProof.Rows L2
theorem KeyOk.cases {kvs : List (D × D)} {x : D} (h : KeyOk kvs x) : (∃ k : Key, x = kD k ∧ Leafs kvs) ∨ (∃ ds nk, x = .tup ds ∧ x.key = some nk ∧ nk.depth ≤ 8 ∧ Tups kvs) := by
  cases x with
  | int i => exact .inl ⟨.inl i, rfl, h⟩
  | str z => exact .inl ⟨.inr z, rfl, h⟩
  | tup ds => obtain ⟨⟨nk, h1, h2⟩, h3⟩ := h; exact .inr ⟨ds, nk, rfl, h1, h2, h3⟩
  | _ => exact h.elim
theorem kD_kV {L : Lay} {H : Hp} {k : Key} {v : V} (r : Rep L H (kD k) v) : v = kV k := by
  cases k <;> cases r <;> rfl
section
variable {X : Cx} {st : Stat} {pins : List (Addr × Obj)} {σ : L2.St} {H : Hp} {s : Shared} {a : Addr} {kvs : List (D × D)} {S : Sto} {A : Around} {E : Value → Shared → Prop}
theorem dctOf_at {S : Sto} {d : D} (h : dctOf S d = some kvs) : ∃ a, d = .ref a ∧ at_ S a = some (.dct kvs) := by
  cases d with
  | ref a =>
    have h : (match at_ S a with
      | some (.dct kvs) => some kvs
      | _ => none) = some kvs := h
    split at h
    · rename_i e; cases h; exact ⟨a, rfl, e⟩
    · cases h
  | _ => cases h
theorem setOf_at {S : Sto} {d : D} {xs : List D} (h : setOf S d = some xs) : ∃ a, d = .ref a ∧ at_ S a = some (.set xs) := by
  cases d with
  | ref a =>
    have h : (match at_ S a with
      | some (.set xs) => some xs
      | _ => none) = some xs := h
    split at h
    · rename_i e; cases h; exact ⟨a, rfl, e⟩
    · cases h
  | _ => cases h
theorem EntS.length {L : Lay} : ∀ {xs : List D} {ys : List (Addr × NestedKey)}, EntS L H xs ys → xs.length = ys.length
  | _, _, .nil => rfl
  | _, _, .cons _ _ _ t => by simp [EntS.length t]
theorem EntS.has {L : Lay} {x : D} {nk : NestedKey} (hk : x.key = some nk) : ∀ {xs : List D} {ys : List (Addr × NestedKey)}, EntS L H xs ys → (x ∈ xs ↔ nk ∈ ys.map (·.2))
  | _, _, .nil => by simp
  | _, _, .cons (k := k) (nk := nk') g1 g2 g3 t => by
    rw [List.mem_cons, List.map_cons, List.mem_cons, EntS.has hk t]
    constructor
    · rintro (e | m)
      · subst e
        rw [hk] at g1
        exact .inl (Option.some.inj g1)
      · exact .inr m
    · rintro (e | m)
      · have e : nk = nk' := e
        subst e
        exact .inl (D.key_inj _ _ _ hk g1)
      · exact .inr m
theorem EntS.snoc {L : Lay} {x : D} {nk : NestedKey} {b : Addr} (hk : x.key = some nk) (hd : nk.depth ≤ 8) (r : Rep L H x (.ref b)) : ∀ {xs : List D} {ys : List (Addr × NestedKey)}, EntS L H xs ys → EntS L H (xs ++ [x]) (ys ++ [(b, nk)])
  | _, _, .nil => .cons hk hd r .nil
  | _, _, .cons g1 g2 g3 t => .cons g1 g2 g3 (EntS.snoc hk hd r t)
theorem EntS.is {L : Lay} (tp : ∀ a vs, SqT L.K H a vs → ∃ its : List Value, Vals vs its ∧ IsTup s.heap a its.toArray) : ∀ {xs : List D} {ys : List (Addr × NestedKey)}, EntS L H xs ys → ∀ q ∈ ys, isNk X.prog X.w s.heap q.2 q.1
  | _, _, .nil => fun q m => nomatch m
  | _, _, .cons g1 g2 g3 t => fun q m => by
    rcases List.mem_cons.mp m with e | m
    · subst e; exact ⟨rep_nested tp g3 g1, g2⟩
    · exact EntS.is tp t q m
/-- asked of a dict: the answer, its type -/
theorem d_ask (hu : A.units + 64 < cLine) (I : Inv X pins σ H s) (rs : RS (lay X st) S H) (h : at_ S a = some (.dct kvs)) {x : D} {vx : V} {u : Value} (ko : KeyOk kvs x) (rx : Rep (lay X st) H x vx) (ru : RelV vx u) :
    s.TypeIs (.ref a) "dict" ∧
    (∀ (Q : Value → Shared → Prop), (∀ d v w s', look kvs x = some d → Inv X pins σ H s' → Rep (lay X st) H d v → RelV v w → Q w s') → (look kvs x).isSome = true → wpAny (model X.prog X.w) A (getItem (.ref a) u) Q E s) ∧
    (∀ (Q : Value → Shared → Prop), (∀ s', Inv X pins σ H s' → Q (.bool (look kvs x).isSome) s') → wpAny (model X.prog X.w) A (compareOp .In u (.ref a)) Q E s) ∧
    (∀ (Q : Value → Shared → Prop), (∀ s', Inv X pins σ H s' → Q (.bool (!(look kvs x).isSome)) s') → wpAny (model X.prog X.w) A (compareOp .NotIn u (.ref a)) Q E s) ∧
    (∀ (Q : Value → Shared → Prop), (∀ w s' v, Inv X pins σ H s' → Rep (lay X st) H ((look kvs x).getD .non) v → RelV v w → Q w s') → wpAny (model X.prog X.w) A (call (.builtin "dict.get") [.ref a, u]) Q E s) ∧
    (∀ (Q : Value → Shared → Prop) (d2 : D) (v2 : V) (u2 : Value), Rep (lay X st) H d2 v2 → RelV v2 u2 → (∀ w s' v, Inv X pins σ H s' → Rep (lay X st) H ((look kvs x).getD d2) v → RelV v w → Q w s') → wpAny (model X.prog X.w) A (call (.builtin "dict.get") [.ref a, u, u2]) Q E s) := by
  obtain ⟨ho, r, k⟩ := rs.at h
  rcases ko.cases with ⟨key, rfl, lf⟩ | ⟨ds, nk, rfl, hk, hd8, tp⟩
  · obtain ⟨hz, hs, vs, rw_, dd⟩ := dict_leaf I r k lf
    have ev := kD_kV rx
    subst ev
    have lk := rw_.look key
    refine ⟨dd.typeIs, fun Q hq hsm => ?_, fun Q hq => ?_, fun Q hq => ?_, fun Q hq => ?_, fun Q d2 v2 u2 r2 q2 hq => ?_⟩
    · cases e : look kvs (kD key) with
      | none => rw [e] at hsm; cases hsm
      | some d =>
        rw [e] at lk
        obtain ⟨w, v, h1, h2, h3⟩ := lk.some
        exact wpAny_getItem_of (kV_is ru) dd.mapOf h1 (hq d v w _ e (I.tok _) h2 h3)
    · refine wpAny_in_of (kV_is ru) hs dd.mapOf ?_
      rw [← lk.isSome]
      exact hq _ (I.tok _)
    · refine wpAny_notIn_of (kV_is ru) hs dd.mapOf ?_
      rw [← lk.isSome]
      exact hq _ (I.tok _)
    · refine call_meetsIn PySem.F.slot_dict_get dd.typeIs PySem.F.entry_dict_get (PySem.F.args_dict_get_2 _ _) (meets_dict_get (mixKind X.prog X.w) a (kV_is ru) hs) ⟨_, dd.mapOf, ?_⟩
      cases e : look kvs (kD key) with
      | none =>
        rw [e] at lk hq
        rw [lk.none]
        exact hq _ _ .non (I.tok _) .non rfl
      | some d =>
        rw [e] at lk hq
        obtain ⟨w, v, h1, h2, h3⟩ := lk.some
        rw [h1]
        exact hq _ _ v (I.tok _) h2 h3
    · refine call_meetsIn PySem.F.slot_dict_get dd.typeIs PySem.F.entry_dict_get (PySem.F.args_dict_get_3 _ _ _) (meets_dict_get_default (mixKind X.prog X.w) a (kV_is ru) hs u2) ⟨_, dd.mapOf, ?_⟩
      cases e : look kvs (kD key) with
      | none =>
        rw [e] at lk hq
        rw [lk.none]
        exact hq _ _ v2 (I.tok _) r2 q2
      | some d =>
        rw [e] at lk hq
        obtain ⟨w, v, h1, h2, h3⟩ := lk.some
        rw [h1]
        exact hq _ _ v (I.tok _) h2 h3
  · obtain ⟨hz, hs, xs, rw_, dd⟩ := dict_tup I r k tp
    cases rx with
    | @tup b vsx _ hb hbs =>
      cases ru
      have rx' : Rep (lay X st) H (.tup ds) (.ref b) := .tup hb hbs
      have is : (nestedKind X.prog X.w).is s.heap nk b := ⟨rep_nested (L := lay X st) (inv_tups I) rx' hk, hd8⟩
      have room : (nestedKind X.prog X.w).room A.in1 := (show A.in1.units + 8 < cLine from by have : A.in1.units = A.units + 1 := rfl; omega)
      have lk := rw_.look hk
      refine ⟨dd.typeIs, fun Q hq hsm => ?_, fun Q hq => ?_, fun Q hq => ?_, fun Q hq => ?_, fun Q d2 v2 u2 r2 q2 hq => ?_⟩
      · cases e : look kvs (.tup ds) with
        | none => rw [e] at hsm; cases hsm
        | some d =>
          rw [e] at lk
          obtain ⟨w, v, h1, h2, h3⟩ := lk.some
          obtain ⟨p, hp, rfl⟩ := Option.map_eq_some_iff.mp h1
          exact wpAny_getItem_heap room is dd hp (hq d v _ _ e (I.tok _) h2 h3)
      · refine wpAny_in_heap room is hs dd ?_
        have q := lk.isSome
        rw [Option.isSome_map] at q
        rw [← q]
        exact hq _ (I.tok _)
      · refine wpAny_notIn_heap room is hs dd ?_
        have q := lk.isSome
        rw [Option.isSome_map] at q
        rw [← q]
        exact hq _ (I.tok _)
      · refine call_meetsIn PySem.F.slot_dict_get dd.typeIs PySem.F.entry_dict_get (PySem.F.args_dict_get_2 _ _) (meetsH_dict_get (nestedKind X.prog X.w) a b hs) ⟨room, nk, xs, is, dd, ?_⟩
        cases e : look kvs (.tup ds) with
        | none =>
          rw [e] at lk hq
          rw [lk.none]
          exact hq _ _ .non (I.tok _) .non rfl
        | some d =>
          rw [e] at lk hq
          obtain ⟨w, v, h1, h2, h3⟩ := lk.some
          rw [h1]
          exact hq _ _ v (I.tok _) h2 h3
      · refine call_meetsIn PySem.F.slot_dict_get dd.typeIs PySem.F.entry_dict_get (PySem.F.args_dict_get_3 _ _ _) (meetsH_dict_get_default (nestedKind X.prog X.w) a b hs u2) ⟨room, nk, xs, is, dd, ?_⟩
        cases e : look kvs (.tup ds) with
        | none =>
          rw [e] at lk hq
          rw [lk.none]
          exact hq _ _ v2 (I.tok _) r2 q2
        | some d =>
          rw [e] at lk hq
          obtain ⟨w, v, h1, h2, h3⟩ := lk.some
          rw [h1]
          exact hq _ _ v (I.tok _) h2 h3
/-- behind a store: the dict's object is told anew -/
theorem dct_mut (rs : RS (lay X st) S H) (h : S a = some (.dct kvs)) : Mut (H a) := by
  obtain ⟨ho, h1, h2⟩ := rs a _ h
  rw [h1]
  cases h2 <;> exact True.intro
theorem dk_back (I : Inv X pins σ H s) (rs : RS (lay X st) S H) (h : S a = some (.dct kvs)) {kvs' : List (D × D)} {vs' : List (Key × Value)} {h' : Heap} {t : Nat} (hs : (a == sysModules) = false) (hz : kvs'.length ≤ sizeLine)
    (r : RawK (lay X st) H kvs' vs') (dd : h'.DictOf (mixKind X.prog X.w) a vs') (sb : Heap.SameBut a s.heap h') : ∃ ys, Inv X pins σ (upd H a (.dK ys)) { s with heap := h', toks := t } ∧ ROk (lay X st) (upd H a (.dK ys)) (.dct kvs') a (.dK ys) := by
  obtain ⟨ys, en, kv⟩ := rawK_split r
  have he : ∃ q, h'.get? a = some q := let ⟨q, _, _, hq, _⟩ := dd; ⟨q, hq⟩
  have nd : (ys.map (·.1)).Nodup := by
    rw [kv.keys]
    exact dd.choose_spec.choose_spec.choose_spec.2.2.2.2.2
  exact ⟨ys, d_write I (dct_mut rs h) sb he ⟨by rw [kv.length, ← r.length]; exact hz, hs, vs', kv, dd⟩, .dK (en.ext (rs.ext_put h)) nd⟩
theorem td_back (I : Inv X pins σ H s) (rs : RS (lay X st) S H) (h : S a = some (.dct kvs)) {kvs' : List (D × D)} {xs' : List (NestedKey × Addr × Value)} {h' : Heap} {t : Nat} (hs : (a == sysModules) = false) (hz : kvs'.length ≤ sizeLine)
    (r : RawT (lay X st) H kvs' xs') (dd : h'.DictOfH (nestedKind X.prog X.w) a xs') (sb : Heap.SameBut a s.heap h') : ∃ ys, Inv X pins σ (upd H a (TD (lay X st) a ys)) { s with heap := h', toks := t } ∧ ROk (lay X st) (upd H a (TD (lay X st) a ys)) (.dct kvs') a (TD (lay X st) a ys) := by
  obtain ⟨ys, en, px⟩ := rawT_split r
  obtain ⟨o, es, ep, h1, h2, h3, h4, h5, h6⟩ := dd
  refine ⟨ys, d_write I (dct_mut rs h) sb ⟨_, h1⟩ ⟨⟨hs, by rw [Paired.length px, ← r.length]; exact hz, xs', px, o, es, ep, h1, h2, h3, h4, h6⟩, ⟨_, h1⟩, ?_⟩, .dT (en.ext (rs.ext_put h))⟩
  rintro g1 g2 ⟨e1, e2, zs, e3, o', es', ep', e4, e5, e6, e7, e8⟩ k
  exact ⟨e1, e2, zs, e3, o', es', ep', k _ e4, e5, e6, e7, e8⟩
/-- stored into a dict; setdefault -/
theorem d_store (hu : A.units + 64 < cLine) (I : Inv X pins σ H s) (rs : RS (lay X st) S H) (h : S a = some (.dct kvs)) (hl : kvs.length < sizeLine) {x d : D} {vx v : V} {u r : Value} (ko : KeyOk kvs x) (rx : Rep (lay X st) H x vx) (ru : RelV vx u)
    (rd : Rep (lay X st) H d v) (rr : RelV v r) :
    (∀ (Q : Unit → Shared → Prop), (∀ ho s', Inv X pins σ (upd H a ho) s' → ROk (lay X st) (upd H a ho) (.dct (putD kvs x d)) a ho → Q () s') → wpAny (model X.prog X.w) A (setItem (.ref a) u r) Q E s) ∧
    (∀ (Q : Value → Shared → Prop), (∀ dv vv w s', look kvs x = some dv → Inv X pins σ H s' → Rep (lay X st) H dv vv → RelV vv w → Q w s') →
      (look kvs x = none → ∀ ho s', Inv X pins σ (upd H a ho) s' → ROk (lay X st) (upd H a ho) (.dct (putD kvs x d)) a ho → Q r s') → wpAny (model X.prog X.w) A (call (.builtin "dict.setdefault") [.ref a, u, r]) Q E s) := by
  obtain ⟨ho, e, k⟩ := rs a _ h
  have hl' : (putD kvs x d).length ≤ sizeLine := by have := putD_length kvs x d; omega
  rcases ko.cases with ⟨key, rfl, lf⟩ | ⟨ds, nk, rfl, hk, hd8, tp⟩
  · obtain ⟨hz, hs, vs, rw_, dd⟩ := dict_leaf I (.inl e) k lf
    have ev := kD_kV rx
    subst ev
    have hz' : vs.length ≤ sizeLine := by rw [← rw_.length]; exact hz
    refine ⟨fun Q hq => ?_, fun Q h1 h2 => ?_⟩
    · refine wpAny_setItem_pairs (hsz := hz') (kV_is ru) dd fun h' dd' sb => ?_
      obtain ⟨ys, I', k'⟩ := dk_back (t := s.toks + 1) I rs h hs hl' (rw_.put key rd rr) dd' sb
      exact hq _ _ I' k'
    · have lk := rw_.look key
      refine call_meetsIn PySem.F.slot_dict_setdefault dd.typeIs PySem.F.entry_dict_setdefault (PySem.F.args_dict_setdefault_3 _ _ _) (kt_meets_setdefault (mixKind X.prog X.w) a (kV_is ru) hs r) ⟨vs, dd, hz', fun w hw => ?_, fun hn h' dd' sb => ?_⟩
      · cases e2 : look kvs (kD key) with
        | none => rw [e2] at lk; rw [lk.none] at hw; cases hw
        | some dv =>
          rw [e2] at lk
          obtain ⟨w', vv, g1, g2, g3⟩ := lk.some
          rw [g1] at hw; cases hw
          exact h1 dv vv _ _ e2 (I.tok _) g2 g3
      · cases e2 : look kvs (kD key) with
        | some dv =>
          rw [e2] at lk
          obtain ⟨w', vv, g1, g2, g3⟩ := lk.some
          rw [g1] at hn; cases hn
        | none =>
          obtain ⟨ys, I', k'⟩ := dk_back (t := s.toks + 1) I rs h hs hl' (rw_.put key rd rr) dd' sb
          exact h2 e2 _ _ I' k'
  · obtain ⟨hz, hs, xs, rw_, dd⟩ := dict_tup I (.inl e) k tp
    cases rx with
    | @tup b vsx _ hb hbs =>
      cases ru
      have rx' : Rep (lay X st) H (.tup ds) (.ref b) := .tup hb hbs
      have is : (nestedKind X.prog X.w).is s.heap nk b := ⟨rep_nested (L := lay X st) (inv_tups I) rx' hk, hd8⟩
      have room : (nestedKind X.prog X.w).room A.in1 := (show A.in1.units + 8 < cLine from by have : A.in1.units = A.units + 1 := rfl; omega)
      have hz' : xs.length ≤ sizeLine := by rw [← rw_.length]; exact hz
      refine ⟨fun Q hq => ?_, fun Q h1 h2 => ?_⟩
      · refine wpAny_setItem_heap (hsz := hz') room is dd fun h' dd' sb => ?_
        obtain ⟨ys, I', k'⟩ := td_back (t := s.toks + (nestedKind X.prog X.w).draws nk) I rs h hs hl' (rw_.put hk hd8 rx' rd rr) dd' sb
        exact hq _ _ I' k'
      · have lk := rw_.look hk
        refine call_setdefault_heap (hsz := hz') room is hs dd (fun p hp => ?_) fun hn h' dd' sb => ?_
        · cases e2 : look kvs (.tup ds) with
          | none => rw [e2] at lk; rw [hp] at lk; exact absurd lk.none (by simp)
          | some dv =>
            rw [e2] at lk
            obtain ⟨w', vv, g1, g2, g3⟩ := lk.some
            rw [hp] at g1; cases g1
            exact h1 dv vv _ _ e2 (I.tok _) g2 g3
        · cases e2 : look kvs (.tup ds) with
          | some dv =>
            rw [e2] at lk
            obtain ⟨w', vv, g1, g2, g3⟩ := lk.some
            rw [hn] at g1; cases g1
          | none =>
            obtain ⟨ys, I', k'⟩ := td_back (t := s.toks + (nestedKind X.prog X.w).draws nk) I rs h hs hl' (rw_.put hk hd8 rx' rd rr) dd' sb
            exact h2 e2 _ _ I' k'
end
end PD
set_option Elab.async false
set_option linter.all false
set_option maxRecDepth 100000
set_option maxHeartbeats 1000000
/-! PD: a dict's entry stored by a comprehension. -/
namespace PD
open PySem PySem.Spec PyProof.Rows L2
section
variable {X : Cx} {st : Stat} {pins : List (Addr × Obj)} {σ : L2.St} {H : Hp} {s : Shared} {a : Addr} {kvs : List (D × D)} {S : Sto} {A : Around} {E : Value → Shared → Prop}
/-- dictSet by values -/
theorem d_dset (hu : A.units + 64 < cLine) (I : Inv X pins σ H s) (rs : RS (lay X st) S H) (h : S a = some (.dct kvs)) (hl : kvs.length < sizeLine) {x d : D} {vx v : V} {u r : Value} (ko : KeyOk kvs x) (rx : Rep (lay X st) H x vx) (ru : RelV vx u)
    (rd : Rep (lay X st) H d v) (rr : RelV v r) (Q : Unit → Shared → Prop) (hq : ∀ ho s', Inv X pins σ (upd H a ho) s' → ROk (lay X st) (upd H a ho) (.dct (putD kvs x d)) a ho → Q () s') : wpAny (model X.prog X.w) A (dictSet a u r) Q E s := by
  obtain ⟨ho, e, k⟩ := rs a _ h
  have hl' : (putD kvs x d).length ≤ sizeLine := by have := putD_length kvs x d; omega
  rcases ko.cases with ⟨key, rfl, lf⟩ | ⟨ds, nk, rfl, hk, hd8, tp⟩
  · obtain ⟨hz, hs, vs, rw_, dd⟩ := dict_leaf I (.inl e) k lf
    have ev := kD_kV rx
    subst ev
    have hz' : vs.length ≤ sizeLine := by rw [← rw_.length]; exact hz
    refine wpAny_dictSet_pairs (hsz := hz') (kV_is ru) dd fun h' dd' sb => ?_
    obtain ⟨ys, I', k'⟩ := dk_back (t := s.toks + 1) I rs h hs hl' (rw_.put key rd rr) dd' sb
    exact hq _ _ I' k'
  · obtain ⟨hz, hs, xs, rw_, dd⟩ := dict_tup I (.inl e) k tp
    cases rx with
    | @tup b vsx _ hb hbs =>
      cases ru
      have rx' : Rep (lay X st) H (.tup ds) (.ref b) := .tup hb hbs
      have is : (nestedKind X.prog X.w).is s.heap nk b := ⟨rep_nested (L := lay X st) (inv_tups I) rx' hk, hd8⟩
      have hz' : xs.length ≤ sizeLine := by rw [← rw_.length]; exact hz
      refine wpAny_dictSet_heap (hsz := hz') (show A.units + 8 < cLine by omega) is dd fun h' dd' sb => ?_
      obtain ⟨ys, I', k'⟩ := td_back (t := s.toks + (nestedKind X.prog X.w).draws nk) I rs h hs hl' (rw_.put hk hd8 rx' rd rr) dd' sb
      exact hq _ _ I' k'
/-- set.add by values -/
theorem d_sadd (hu : A.units + 64 < cLine) (I : Inv X pins σ H s) (rs : RS (lay X st) S H) {xs : List D} (h : S a = some (.set xs)) (few : xs.length + 1 < 64) {x : D} {vx : V} {u : Value} (mo : MemOk x) (rx : Rep (lay X st) H x vx) (ru : RelV vx u)
    (Q : Value → Shared → Prop) (hq : ∀ ho s', Inv X pins σ (upd H a ho) s' → ROk (lay X st) (upd H a ho) (.set (addD xs x)) a ho → Q .none s') : wpAny (model X.prog X.w) A (call (.builtin "set.add") [.ref a, u]) Q E s := by
  obtain ⟨ho, e, k⟩ := rs a _ h
  have mu : Mut (H a) := by
    rw [e]
    cases k
    exact True.intro
  have xp : ∀ ho', Ext H (upd H a ho') := fun ho' => rs.ext_put h
  cases k with
  | @set _ ys M _ en pm =>
    cases x with
    | tup ds =>
      obtain ⟨nk, hk, hd8⟩ := mo
      cases rx with
      | @tup b vsx _ hb hbs =>
        cases ru
        have rx' : Rep (lay X st) H (.tup ds) (.ref b) := .tup hb hbs
        have is : isNk X.prog X.w s.heap nk b := ⟨rep_nested (L := lay X st) (inv_tups I) rx' hk, hd8⟩
        have mem : ∀ q ∈ M, isNk X.prog X.w s.heap q.2 q.1 := fun q m => en.is (L := lay X st) (inv_tups I) q (pm.mem_iff.mp m)
        have ok := I.hok a _ e
        obtain ⟨es, ep, t, R⟩ := NSet0.with ok.1 mem
        have hl : M.length + 1 < 64 := by rw [pm.length_eq, ← en.length]; exact few
        refine call_nadd R is hu hl fun h' tk L' es' ep' t' sb R' c1 c2 => ?_
        have has : D.tup ds ∈ xs ↔ nk ∈ M.map (·.2) := (en.has hk).trans ((pm.map (·.2)).mem_iff).symm
        have fin : ∀ ys', EntS (lay X st) H (addD xs (.tup ds)) ys' → L'.Perm ys' → Q .none { s with heap := h', toks := tk } := fun ys' en' pm' =>
          hq (NSO X.prog X.w a L') _ (d_write I mu sb (let ⟨o, ho, _⟩ := R'.obj; ⟨o, ho⟩) (nso_ok R'.alone)) (.set (en'.ext (xp _)) pm')
        by_cases hm : D.tup ds ∈ xs
        · have e1 := c1 (has.mp hm)
          subst e1
          refine fin ys ?_ pm
          unfold addD
          rw [if_pos hm]
          exact en
        · refine fin (ys ++ [(b, nk)]) ?_ ?_
          · unfold addD
            rw [if_neg hm]
            exact en.snoc hk hd8 rx'
          · refine (c2 fun z => hm (has.mpr z)).trans ?_
            exact (pm.cons _).trans (List.perm_append_singleton _ _).symm
    | _ => exact mo.elim
end
end PD
set_option Elab.async false
set_option linter.all false
set_option maxRecDepth 100000
set_option maxHeartbeats 1000000
/-! PD: comparisons, items, built-ins, methods, by values. -/
namespace PD
open PySem PySem.Spec PyProof.Rows L2
theorem Reps.strs {L : Lay} {H : Hp} : ∀ {ns : List Str}, Reps L H (ns.map D.str) (ns.map V.str)
  | [] => .nil
  | _ :: _ => .cons .str Reps.strs
section
variable {X : Cx} {st : Stat}
/-- x in a list, in a tuple -/
theorem in_seq (hu : X.A.units + 64 < cLine) {pins : List (Addr × Obj)} {σ : L2.St} {H : Hp} {s : Shared} {S : Sto} {x y : V} {v u : Value} {dx dy : D} {xs : List D} {b : Bool} {E : Value → Shared → Prop} (I : Inv X pins σ H s) (rs : RS (lay X st) S H) (h1 : seqOf S dy = some xs) (h2 : InS S dx xs b) (hx : Rep (lay X st) H dx x) (hy : Rep (lay X st) H dy y) (rx : RelV x v) (ry : RelV y u) :
    (∀ Q : Value → Shared → Prop, Q (.bool b) s → wpAny (model X.prog X.w) X.A (compareOp .In v u) Q E s) ∧ (∀ Q : Value → Shared → Prop, Q (.bool (!b)) s → wpAny (model X.prog X.w) X.A (compareOp .NotIn v u) Q E s) := by
  obtain ⟨n, d, ds, g1, g2, g3, g4, g5, rfl⟩ := h2
  obtain ⟨as, r1⟩ := Dp.reads I d x v (snap_dp rs _ _ _ _ g1 hx) rx
  have hr : X.A.units + 1 + min (PyData.depthAll ds) d.depth < cLine := by
    have : min (PyData.depthAll ds) d.depth ≤ d.depth := Nat.min_le_right _ _
    omega
  have hd := SeqAt.canLay_of_shaped g3
  have hds : PyData.canLayAll0 ds = true := SeqAt.canLay_of_shaped g4
  cases dy with
  | tup ys =>
    cases h1
    obtain ⟨bs, r2⟩ := Dp.reads I (.tuple ds) y u (snap_dp rs (n + 1) (.tup xs) _ _ (by show (xs.mapM (snap S n)).map PyData.tuple = _; rw [g2]; rfl) hy) ry
    exact ⟨fun Q q => SeqAt.in_tuple_reads r2 r1 hds hd hr q, fun Q q => SeqAt.notIn_tuple_reads r2 r1 hds hd hr q⟩
  | ref a =>
    have h1 : (match at_ S a with
      | some (.lst xs) => some xs
      | _ => none) = some xs := h1
    split at h1
    · rename_i ys e
      cases h1
      obtain ⟨bs, r2⟩ := Dp.reads I (.list ds) y u (snap_dp rs (n + 1) (.ref a) _ _ (by
        show (match at_ S a with
          | some (.lst xs) => (xs.mapM (snap S n)).map PyData.list
          | _ => none) = _
        rw [e]
        show (xs.mapM (snap S n)).map PyData.list = _
        rw [g2]; rfl) hy) ry
      exact ⟨fun Q q => SeqAt.in_list_reads r2 r1 hds hd hr q, fun Q q => SeqAt.notIn_list_reads r2 r1 hds hd hr q⟩
    · cases h1
  | _ => cases h1
theorem cmp_ok (hu : X.A.units + 64 < cLine) (c : Cmp) : OpR X (compareOp (opC c)) (r2 X st (wCmp c)) := by
  intro pins s σ H x y v u Q I rx ry ⟨dx, dy, S, rs, hx, hy, h⟩
  cases c with
  | eq =>
    obtain ⟨b, ⟨n, p, q, h1, h2, h3, h4, rfl⟩ | ⟨w, z, rfl, rfl, rfl⟩, h5⟩ := h
    rotate_left
    · cases hx
      cases hy
      refine L2.op_eq pins s σ H _ _ v u Q I rx ry ⟨rfl, ?_⟩
      have e : decide (V.str w = V.str z) = decide (w = z) := by simp
      rw [e]
      exact h5.now rs .bl
    exact op_eqD hu pins s σ H _ _ v u Q I rx ry ⟨p, q, snap_dp rs _ _ _ _ h1 hx, snap_dp rs _ _ _ _ h2 hy, h3, h4, h5.now rs .bl⟩
  | ne =>
    obtain ⟨b, ⟨n, p, q, h1, h2, h3, h4, rfl⟩ | ⟨w, z, rfl, rfl, rfl⟩, h5⟩ := h
    rotate_left
    · cases hx
      cases hy
      refine L2.op_ne pins s σ H _ _ v u Q I rx ry ⟨rfl, ?_⟩
      have e : decide (V.str w = V.str z) = decide (w = z) := by simp
      rw [e]
      exact h5.now rs .bl
    exact op_neD hu pins s σ H _ _ v u Q I rx ry ⟨p, q, snap_dp rs _ _ _ _ h1 hx, snap_dp rs _ _ _ _ h2 hy, h3, h4, h5.now rs .bl⟩
  | lt => exact cmp_lt hu pins s σ H x y v u Q I rx ry ⟨dx, dy, S, rs, hx, hy, h⟩
  | le =>
    obtain ⟨i, j, rfl, rfl, h⟩ := h
    cases hx; cases hy
    exact op_le pins s σ H _ _ v u Q I rx ry ⟨_, _, rfl, rfl, h.now rs .bl⟩
  | gt =>
    obtain ⟨i, j, rfl, rfl, h⟩ := h
    cases hx; cases hy
    exact op_gt pins s σ H _ _ v u Q I rx ry ⟨_, _, rfl, rfl, h.now rs .bl⟩
  | ge =>
    obtain ⟨i, j, rfl, rfl, h⟩ := h
    cases hx; cases hy
    exact op_ge pins s σ H _ _ v u Q I rx ry ⟨_, _, rfl, rfl, h.now rs .bl⟩
  | isin =>
    rcases h with ⟨i, j, rfl, rfl, h⟩ | ⟨kvs, h1, h2, h⟩ | ⟨xs, b, h1, h2, h⟩
    rotate_left 2
    · exact (in_seq hu I rs h1 h2 hx hy rx ry).1 _ ⟨.bl _, H, I, rfl, h.now rs .bl⟩
    · cases hx; cases hy
      exact op_in_str pins s σ H _ _ v u Q I rx ry ⟨_, _, rfl, rfl, h.now rs .bl⟩
    · obtain ⟨a, rfl, e⟩ := dctOf_at h1
      cases hy; cases ry
      exact (d_ask (E := X.xe) hu I rs e h2 hx rx).2.2.1 _ fun s' I' => ⟨.bl _, H, I', rfl, h.now rs .bl⟩
  | notin =>
    rcases h with ⟨i, j, rfl, rfl, h⟩ | ⟨kvs, h1, h2, h⟩ | ⟨xs, b, h1, h2, h⟩
    rotate_left 2
    · exact (in_seq hu I rs h1 h2 hx hy rx ry).2 _ ⟨.bl _, H, I, rfl, h.now rs .bl⟩
    · cases hx; cases hy
      exact op_notIn_str pins s σ H _ _ v u Q I rx ry ⟨_, _, rfl, rfl, h.now rs .bl⟩
    · obtain ⟨a, rfl, e⟩ := dctOf_at h1
      cases hy; cases ry
      exact (d_ask (E := X.xe) hu I rs e h2 hx rx).2.2.2.1 _ fun s' I' => ⟨.bl _, H, I', rfl, h.now rs .bl⟩
  | is => exact is_ok pins s σ H x y v u Q I rx ry ⟨dx, dy, S, rs, hx, hy, h⟩
  | isnot => exact isnot_ok pins s σ H x y v u Q I rx ry ⟨dx, dy, S, rs, hx, hy, h⟩

theorem ix_ok (hu : X.A.units + 64 < cLine) : IxR X (r2 X st wIdx) := by
  intro value slice pins s σ H x y v u Q I rx ry ⟨dx, dy, S, rs, hx, hy, h⟩ hs
  unfold wIdx at h
  split at h
  · cases hx; cases hy
    obtain ⟨h1, c, h2, h3⟩ := h
    exact ix_str value slice pins s σ H _ _ v u Q I rx ry ⟨_, _, _, rfl, rfl, h1, h2, h3.now rs .str⟩ hs
  · rcases h with ⟨xs, i, d, h1, rfl, h3, h4⟩ | ⟨kvs, d, h1, h2, h3, h4⟩
    · cases hy
      obtain ⟨p, vs, rfl, r, h5 | h5⟩ := rs.seq h1 hx
      · obtain ⟨w, g1, g2⟩ := r.atI h3
        exact ix_list value slice pins s σ H _ _ v u Q I rx ry ⟨_, _, _, _, rfl, rfl, h5.1, g1, h4.now rs g2⟩ hs
      · obtain ⟨w, g1, g2⟩ := r.atI h3
        exact ix_tup value slice pins s σ H _ _ v u Q I rx ry ⟨_, _, _, _, rfl, rfl, h5.1, g1, h4.now rs g2⟩ hs
    · obtain ⟨a, rfl, e⟩ := dctOf_at h1
      cases hx; cases rx
      obtain ⟨ty, g, _⟩ := d_ask (E := X.xe) hu I rs e h2 hy ry
      refine tail_any ty PySem.F.slot_dict_getitem.lookup (g _ (fun d' v' w s' e' I' r' q' => ?_) (by rw [h3]; rfl)) hs
      rw [h3] at e'; cases e'
      exact ⟨v', H, I', q', h4.now rs r'⟩
theorem len_ok : CallR X (.builtin "len") (fun xs H Q => ∃ d vx S, xs = [vx] ∧ RS (lay X st) S H ∧ Rep (lay X st) H d vx ∧ wBlt .len [d] S (post (lay X st) S H Q)) := by
  rintro pins s σ H xs us Q I r ⟨d, vx, S, rfl, rs, hx, n, h1, h2⟩
  rcases h1 with ⟨z, rfl, h3, rfl⟩ | ⟨ys, h3, rfl⟩ | ⟨kvs, h3, rfl⟩ | ⟨ys, h3, rfl⟩
  · cases hx
    exact call_len_str pins s σ H _ us Q I r ⟨_, rfl, h3, h2.now rs .int⟩
  · obtain ⟨p, vs, rfl, q, h4⟩ := rs.seq h3 hx
    refine call_len_seq pins s σ H _ us Q I r ⟨_, vs, rfl, ?_, ?_⟩
    · rcases h4 with h4 | h4
      · exact .inl h4.1
      · exact .inr h4.1
    · rw [← q.length]
      exact h2.now rs .int
  · obtain ⟨a, rfl, e⟩ := dctOf_at h3
    cases hx
    obtain ⟨ho, rd, k⟩ := rs.at e
    obtain ⟨u, rfl, ru⟩ := vals1 r
    cases ru
    cases k with
    | dK en nd =>
      refine d_len I rd fun t s' I' => ⟨.int _, H, I', ⟨t, rfl⟩, ?_⟩
      obtain ⟨z, hd, vs, rel, dd⟩ := dk_rd I.hok rd
      have : kvs.length = _ := (rawK_of en rel).length
      rw [rel.length, ← this]
      exact h2.now rs .int
    | dT en =>
      obtain ⟨hz, hs, xs, rw_, dd⟩ := dict_tup I rd (.dT en) (entT_tups en)
      refine call_len_dictH hs dd (by rw [← rw_.length]; rw [sizeLine_eq] at hz; omega) ⟨.int _, H, I.tok _, ⟨_, rfl⟩, ?_⟩
      rw [← rw_.length]
      exact h2.now rs .int
  · obtain ⟨a, rfl, e⟩ := setOf_at h3
    cases hx
    obtain ⟨ho, rd, k⟩ := rs.at e
    obtain ⟨u, rfl, ru⟩ := vals1 r
    cases ru
    cases k with
    | set en pm =>
      obtain ⟨es, ep, t, ⟨o, ho, hex, hd⟩, row, tab, nod, led, wide, few⟩ := (rd_obj I rd).1
      have hz := row_size row
      have sz := tab.sz
      rw [List.length_map] at sz
      refine call_len_set ho hex hd (fits_of (by rw [sz, hz]) tab.dm (by omega)) (by omega) ⟨.int _, H, I.tok _, ⟨_, rfl⟩, ?_⟩
      rw [hz, pm.length_eq, ← en.length]
      exact h2.now rs .int
theorem all_ok (hc : X.calm = true) : CallR X (.builtin "all") (fun xs H Q => ∃ d vx S, xs = [vx] ∧ RS (lay X st) S H ∧ Rep (lay X st) H d vx ∧ ∃ p, d = .ref p ∧ wBlt .all [d] S (post (lay X st) S H Q)) := by
  rintro pins s σ H xs us Q I r ⟨d, vx, S, rfl, rs, hx, p, rfl, bs, h1, h2⟩
  obtain ⟨p, vs, rfl, q, h4 | h4⟩ := rs.seq h1 hx
  · rw [q.bls_of] at h4
    exact cr_all hc pins s σ H _ us Q I r ⟨_, _, rfl, h4.1, h2.now rs .bl⟩
  · cases h4.2
theorem any_ok (hc : X.calm = true) : CallR X (.builtin "any") (fun xs H Q => ∃ d vx S, xs = [vx] ∧ RS (lay X st) S H ∧ Rep (lay X st) H d vx ∧ ∃ p, d = .ref p ∧ wBlt .any [d] S (post (lay X st) S H Q)) := by
  rintro pins s σ H xs us Q I r ⟨d, vx, S, rfl, rs, hx, p, rfl, bs, h1, h2⟩
  obtain ⟨p, vs, rfl, q, h4 | h4⟩ := rs.seq h1 hx
  · rw [q.bls_of] at h4
    exact cr_any hc pins s σ H _ us Q I r ⟨_, _, rfl, h4.1, h2.now rs .bl⟩
  · cases h4.2
theorem tuple_ok : CallR X (.type "tuple") (fun xs H Q => ∃ d vx S, xs = [vx] ∧ RS (lay X st) S H ∧ Rep (lay X st) H d vx ∧ wBlt .tuple [d] S (post (lay X st) S H Q)) := by
  rintro pins s σ H xs us Q I r ⟨d, vx, S, rfl, rs, hx, ys, h1, h2⟩
  obtain ⟨p, vs, rfl, q, h4 | h4⟩ := rs.seq h1 hx
  · exact call_tuple_of pins s σ H _ us Q I r ⟨_, _, rfl, .inl ⟨h4.1, fun l hl => post.tup rs h2 q hl⟩⟩
  · exact call_tuple_of pins s σ H _ us Q I r ⟨_, _, rfl, .inr ⟨h4.1, h2.now rs (.tup h4.1 q)⟩⟩
theorem list_ok : CallR X (.type "list") (fun xs H Q => ∃ d vx S, xs = [vx] ∧ RS (lay X st) S H ∧ Rep (lay X st) H d vx ∧ wBlt .list [d] S (post (lay X st) S H Q)) := by
  rintro pins s σ H xs us Q I r ⟨d, vx, S, rfl, rs, hx, ys, h1, h2⟩
  obtain ⟨p, vs, rfl, q, h4⟩ := rs.seq h1 hx
  refine call_list_of pins s σ H _ us Q I r ⟨_, vs, rfl, ?_, fun l hl => post.new rs h2 hl (.lst (q.ext (Ext.upd_new hl)))⟩
  rcases h4 with h4 | h4
  · exact .inl h4.1
  · exact .inr h4.1
theorem int_ok : CallR X (.type "int") (fun xs H Q => ∃ d vx S, xs = [vx] ∧ RS (lay X st) S H ∧ Rep (lay X st) H d vx ∧ wBlt .int [d] S (post (lay X st) S H Q)) := by
  rintro pins s σ H xs us Q I r ⟨d, vx, S, rfl, rs, hx, h⟩
  rcases h with ⟨i, rfl, h⟩ | ⟨k, rfl, h⟩ | ⟨z, n, rfl, h1, h2, h⟩
  · cases hx; exact call_int1 pins s σ H _ us Q I r (.inl ⟨_, rfl, h.now rs .int⟩)
  · cases hx; exact call_int1 pins s σ H _ us Q I r (.inr ⟨_, rfl, h.now rs .int⟩)
  · cases hx; exact call_int_str pins s σ H _ us Q I r ⟨_, _, rfl, h1, h2, h.now rs .int⟩
theorem str_ok : CallR X (.type "str") (fun xs H Q => ∃ d vx S, xs = [vx] ∧ RS (lay X st) S H ∧ Rep (lay X st) H d vx ∧ wBlt .str [d] S (post (lay X st) S H Q)) := by
  rintro pins s σ H xs us Q I r ⟨d, vx, S, rfl, rs, hx, i, rfl, h1, h⟩
  cases hx; exact call_str_int pins s σ H _ us Q I r ⟨_, rfl, h1, h.now rs .str⟩
theorem min_ok (hc : X.calm = true) : CallR X (.builtin "min") (fun xs H Q => ∃ d e vx vy S, xs = [vx, vy] ∧ RS (lay X st) S H ∧ Rep (lay X st) H d vx ∧ Rep (lay X st) H e vy ∧ wBlt .min [d, e] S (post (lay X st) S H Q)) := by
  rintro pins s σ H xs us Q I r ⟨d, e, vx, vy, S, rfl, rs, hx, hy, i, j, rfl, rfl, h⟩
  cases hx; cases hy; exact call_min2 hc pins s σ H _ us Q I r ⟨_, _, rfl, h.now rs .int⟩
theorem max_ok (hc : X.calm = true) : CallR X (.builtin "max") (fun xs H Q => ∃ d e vx vy S, xs = [vx, vy] ∧ RS (lay X st) S H ∧ Rep (lay X st) H d vx ∧ Rep (lay X st) H e vy ∧ wBlt .max [d, e] S (post (lay X st) S H Q)) := by
  rintro pins s σ H xs us Q I r ⟨d, e, vx, vy, S, rfl, rs, hx, hy, i, j, rfl, rfl, h⟩
  cases hx; cases hy; exact call_max2 hc pins s σ H _ us Q I r ⟨_, _, rfl, h.now rs .int⟩
theorem abs_ok : CallR X (.builtin "abs") (fun xs H Q => ∃ d vx S, xs = [vx] ∧ RS (lay X st) S H ∧ Rep (lay X st) H d vx ∧ wBlt .abs [d] S (post (lay X st) S H Q)) := by
  rintro pins s σ H xs us Q I r ⟨d, vx, S, rfl, rs, hx, i, rfl, h⟩
  cases hx; exact call_abs pins s σ H _ us Q I r ⟨_, rfl, h.now rs .int⟩
theorem sum_ok (hc : X.calm = true) : CallR X (.builtin "sum") (fun xs H Q => ∃ d vx S, xs = [vx] ∧ RS (lay X st) S H ∧ Rep (lay X st) H d vx ∧ ∃ p, d = .ref p ∧ wBlt .sum [d] S (post (lay X st) S H Q)) := by
  rintro pins s σ H xs us Q I r ⟨d, vx, S, rfl, rs, hx, p, rfl, ns, h1, h2⟩
  obtain ⟨p, vs, rfl, q, h4 | h4⟩ := rs.seq h1 hx
  · rw [q.ints_of] at h4
    exact cr_sum hc pins s σ H _ us Q I r ⟨_, _, rfl, h4.1, h2.now rs .int⟩
  · cases h4.2
/-! ### repr -/
theorem snap_all {S : Sto} {n : Nat} (ih : ∀ d p, snap S n d = some p → p.hasDict = false ∧ p.depth ≤ n) : ∀ (ds : List D) (ps : List PyData), ds.mapM (snap S n) = some ps → PyData.hasDictAll ps = false ∧ PyData.depthAll ps ≤ n
  | [], ps, h => by
    cases h
    simp [PyData.hasDictAll, PyData.depthAll]
  | d :: ds, ps, h => by
    rw [List.mapM_cons] at h
    obtain ⟨p, h1, h2⟩ := Option.bind_eq_some_iff.mp h
    obtain ⟨qs, h3, h4⟩ := Option.bind_eq_some_iff.mp h2
    cases h4
    obtain ⟨a1, a2⟩ := ih _ _ h1
    obtain ⟨b1, b2⟩ := snap_all ih _ _ h3
    simp only [PyData.hasDictAll, PyData.depthAll, a1, b1, Bool.or_self, true_and]
    omega
theorem snap_dep {S : Sto} : ∀ (n : Nat) (d : D) (p : PyData), snap S n d = some p → p.hasDict = false ∧ p.depth ≤ n
  | 0, _, _, h => by cases h
  | n + 1, d, p, h => by
    cases d with
    | tup xs =>
      rw [snap] at h
      obtain ⟨ps, h1, rfl⟩ := Option.map_eq_some_iff.mp h
      obtain ⟨a, b⟩ := snap_all (snap_dep n) _ _ h1
      simp only [PyData.hasDict, PyData.depth, a, true_and]
      omega
    | ref a =>
      rw [snap] at h
      split at h
      · obtain ⟨ps, h1, rfl⟩ := Option.map_eq_some_iff.mp h
        obtain ⟨a, b⟩ := snap_all (snap_dep n) _ _ h1
        simp only [PyData.hasDict, PyData.depth, a, true_and]
        omega
      · cases h
    | non => cases h; simp [PyData.hasDict, PyData.depth]
    | bl b => cases h; simp [PyData.hasDict, PyData.depth]
    | int i => cases h; simp [PyData.hasDict, PyData.depth]
    | str z => cases h; simp [PyData.hasDict, PyData.depth]
    | _ => cases h
theorem repr_ok (hu : X.A.units + 64 < cLine) (hg : X.A.guards = some []) : CallR X (.builtin "repr") (fun xs H Q => ∃ d vx S, xs = [vx] ∧ RS (lay X st) S H ∧ Rep (lay X st) H d vx ∧ wBlt .repr [d] S (post (lay X st) S H Q)) := by
  rintro pins s σ H xs us Q I r ⟨d, vx, S, rfl, rs, hx, n, p, hn, h1, h2, h3, h4⟩
  obtain ⟨u, rfl, ru⟩ := vals1 r
  obtain ⟨hd, dp⟩ := snap_dep n d p h1
  obtain ⟨as, rd⟩ := Dp.reads I p vx u (snap_dp rs _ _ _ _ h1 hx) ru
  have fin := h4.now rs (.str (x := p.shown))
  match u, p, rd, hd, dp, h2, h3, fin with
  | .ref a, p, rd, hd, dp, h2, h3, fin => exact repr_of_reads' rd h2 (PyData.noDict_hsm hd) hg (by omega) (fun _ _ e => e) (fun h' t tk k => ⟨.str _, H, I.kept k, ⟨_, rfl⟩, fin⟩) h3
  | .int i t, _, .int .., hd, dp, h2, h3, fin =>
    simp only [PyData.shown] at fin
    exact PySem.P.repr_of_int (by simpa [PyData.showable] using h2) ⟨.str _, H, I.tok _, ⟨_, rfl⟩, fin⟩
  | .str z t, _, .str .., hd, dp, h2, h3, fin =>
    simp only [PyData.shown] at fin h3
    exact PySem.P.repr_of_str (hsz := h3) ⟨.str _, H, I.tok _, ⟨_, rfl⟩, fin⟩
  | .none, _, .none, hd, dp, h2, h3, fin =>
    simp only [PyData.shown] at fin
    exact PySem.P.repr_of_none ⟨.str _, H, I.tok _, ⟨_, rfl⟩, fin⟩
  | .bool b, _, .bool _, hd, dp, h2, h3, fin =>
    simp only [PyData.shown] at fin
    refine PySem.P.repr_of_bool ⟨.str _, H, I.tok _, ⟨_, rfl⟩, ?_⟩
    cases b <;> exact fin
/-! ### sorted -/
theorem perm_rel {L : Lay} {H : Hp} {out us : List Value} (p : out.Perm us) : ∀ {ds : List D} {vs : List V}, Reps L H ds vs → Vals vs us → ∃ ds' vs', Reps L H ds' vs' ∧ Vals vs' out ∧ ds'.Perm ds := by
  induction p with
  | nil => intro ds vs r q; exact ⟨ds, vs, r, q, .refl _⟩
  | cons x p ih =>
    intro ds vs r q
    cases q with
    | cons q1 q2 =>
      cases r with
      | cons r1 r2 =>
        obtain ⟨ds', vs', a, b, c⟩ := ih r2 q2
        exact ⟨_ :: ds', _ :: vs', .cons r1 a, .cons q1 b, c.cons _⟩
  | swap x y l =>
    intro ds vs r q
    cases q with
    | cons q1 q2 =>
      cases q2 with
      | cons q2 q3 =>
        cases r with
        | cons r1 r2 =>
          cases r2 with
          | cons r2 r3 => exact ⟨_, _, .cons r2 (.cons r1 r3), .cons q2 (.cons q1 q3), .swap _ _ _⟩
  | trans p1 p2 ih1 ih2 =>
    intro ds vs r q
    obtain ⟨d1, v1, a1, b1, c1⟩ := ih2 r q
    obtain ⟨d2, v2, a2, b2, c2⟩ := ih1 a1 b1
    exact ⟨d2, v2, a2, b2, c2.trans c1⟩
open Classical in
noncomputable def kf (h : Heap) (v : Value) : NestedKey := if e : ∃ k, NI h k v then e.choose else .none
theorem kf_eq {h : Heap} {k : NestedKey} {v : Value} (n : NI h k v) : kf h v = k := by
  have e : ∃ k, NI h k v := ⟨k, n⟩
  unfold kf
  rw [dif_pos e]
  exact e.choose_spec.det n
theorem keys_rel {L : Lay} {H : Hp} {h : Heap} (tp : ∀ a vs, SqT L.K H a vs → ∃ its : List Value, Vals vs its ∧ IsTup h a its.toArray) : ∀ {ds : List D} {vs : List V} {us : List Value}, Reps L H ds vs → Vals vs us → (∀ d ∈ ds, d.key.isSome = true) → ds.map keyD = us.map (kf h) ∧ ∀ u ∈ us, NI h (kf h u) u
  | _, _, _, .nil, .nil, _ => ⟨rfl, fun u m => by cases m⟩
  | _, _, _, .cons (d := d) r1 r2, .cons q1 q2, hk => by
    obtain ⟨k, e⟩ := Option.isSome_iff_exists.mp (hk d List.mem_cons_self)
    have n := rep_ni (L := L) tp _ _ _ _ r1 e q1
    obtain ⟨a, b⟩ := keys_rel tp r2 q2 fun x m => hk x (List.mem_cons_of_mem _ m)
    have e2 : keyD d = k := by unfold keyD; rw [e]; rfl
    refine ⟨by rw [List.map_cons, List.map_cons, a, e2, kf_eq n], fun u m => ?_⟩
    rcases List.mem_cons.mp m with z | m
    · subst z; rw [kf_eq n]; exact n
    · exact b u m
theorem SortD.perm {xs ys : List D} (h : SortD xs) (p : ys.Perm xs) : SortD ys := by
  have m : ∀ k, k ∈ ys.map keyD ↔ k ∈ xs.map keyD := fun k => (p.map keyD).mem_iff
  refine ⟨fun x hx => h.1 x (p.mem_iff.mp hx), ?_, fun k hk => h.2.2.1 k ((m k).mp hk), fun x hx y hy => h.2.2.2 x ((m x).mp hx) y ((m y).mp hy)⟩
  rcases h.2.1 with a | a | a | a
  · exact .inl fun k hk => a k ((m k).mp hk)
  · exact .inr (.inl fun k hk => a k ((m k).mp hk))
  · exact .inr (.inr (.inl fun k hk => a k ((m k).mp hk)))
  · exact .inr (.inr (.inr fun k hk => a k ((m k).mp hk)))
theorem EntS.out {L : Lay} {H : Hp} : ∀ {xs : List D} {ys : List (Addr × NestedKey)}, EntS L H xs ys → Reps L H xs (ys.map fun q => V.ref q.1) ∧ Vals (ys.map fun q => V.ref q.1) (ys.map fun q => Value.ref q.1)
  | _, _, .nil => ⟨.nil, .nil⟩
  | _, _, .cons _ _ r t => ⟨.cons r t.out.1, .cons rfl t.out.2⟩
theorem sort_core (hu : X.A.units + 64 < cLine) {pins : List (Addr × Obj)} {σ : L2.St} {H : Hp} {s : Shared} {S : Sto} {Q : VK} {a : Addr} {Pv : List Value → Prop} {xs : List D} (I : Inv X pins σ H s) (rs : RS (lay X st) S H) (hcol : Colls X.prog X.w X.A.in1 X.xe s a Pv)
    (hp : ∀ us, Pv us → us.length ≤ sizeLine ∧ ∃ (xs' : List D) (vs : List V), xs'.Perm xs ∧ Reps (lay X st) H xs' vs ∧ Vals vs us) (hk : SortD xs) (h : ∀ ys : List D, ys.Perm xs → ys.Pairwise (fun a b => ltD b a = false) → PD.new (.lst ys) S (post (lay X st) S H Q)) :
    wpAny (model X.prog X.w) X.A (call (.builtin "sorted") [.ref a]) (EP X pins σ Q) X.xe s := by
  refine sorted_gen (swo_T (kf s.heap)) hcol (fun us pu => (hp us pu).1) (fun us pu h2 h₁ tk dr a' ha kk => ?_) fun us pu out h' tk dr d hs hb keep hd ⟨n, he⟩ => ?_
  · obtain ⟨hz, xs', vs, pm, r, q⟩ := hp us pu
    have hk' := hk.perm pm
    obtain ⟨k1, k2⟩ := keys_rel (L := lay X st) (inv_tups I) r q hk'.1
    have hS := hk'.2
    rw [k1] at hS
    refine keys_sortable (s := { s with heap := h₁, toks := tk, drawn := dr }) (fun v m => (k2 v m).keep fun b o e _ => kk b o e) hS h2 (by show X.A.units + 1 + 1 + 40 < cLine; omega) fun o e => ?_
    have e' : some o = some (seqObj "list" us.toArray 0) := e.symm.trans ha
    cases e'
    intro c
    exact absurd (Value.type.inj c) (by decide)
  · obtain ⟨hz, xs', vs, pm, r, q⟩ := hp us pu
    have hk' := hk.perm pm
    obtain ⟨ys, ws, r', q', pp⟩ := perm_rel hb.perm r q
    obtain ⟨m1, _⟩ := keys_rel (L := lay X st) (inv_tups I) r' q' fun y m => hk'.1 y (pp.mem_iff.mp m)
    have pw : ys.Pairwise (fun a b => ltD b a = false) := by
      have : (ys.map keyD).Pairwise fun x y => ltT y x = false := by
        rw [m1]
        exact List.pairwise_map.mpr hs
      exact List.pairwise_map.mp this
    have hf : H d = none := I.hok.fresh hd
    have hl : ws.length ≤ sizeLine := by
      rw [q'.length, hb.perm.length_eq]
      exact hz
    have J : Inv X pins σ (upd H d (.lst ws)) { s with heap := h', gens := s.gens, drawn := dr, toks := tk } :=
      I.call (ch := []) (Un.laid keep hd hf) (I.hok.laid keep hd ⟨hl, out, n, q', he⟩) I.bare (fun _ z => nomatch z)
    exact ⟨.ref d, upd H d (.lst ws), J, rfl, post.new rs (h ys (pp.trans pm) pw) hf (.lst (r'.ext (Ext.upd_new hf)))⟩
theorem dctK_keys {L : Lay} {H : Hp} {P : Program} {w : World} : ∀ {kvs : List (D × D)} {ws : List (Key × Value)} {es : List DictEntry}, RawK L H kvs ws → Pairs (mixKind P w) es ws → ∃ vs, Reps L H (kvs.map (·.1)) vs ∧ Vals vs (es.map (·.key))
  | _, _, _, .nil, .nil => ⟨[], .nil, .nil⟩
  | _, _, _, .cons (k := k) r1 r2 r3, .cons p1 p2 p3 => by
    obtain ⟨vs, a, b⟩ := dctK_keys r3 p3
    refine ⟨kV k :: vs, .cons ?_ a, .cons (relV_key p1) b⟩
    cases k <;> first | exact .int | exact .str
theorem dctT_keys {L : Lay} {H : Hp} {P : Program} {w : World} : ∀ {kvs : List (D × D)} {ws : List (NestedKey × Addr × Value)}, RawT L H kvs ws → ∃ vs, Reps L H (kvs.map (·.1)) vs ∧ Vals vs ((ws.map (entryOfKey (nestedKind P w))).map (·.key))
  | _, _, .nil => ⟨[], .nil, .nil⟩
  | _, _, .cons (a := a) r1 r2 r3 r4 r5 r6 => by
    obtain ⟨vs, x, y⟩ := dctT_keys (P := P) (w := w) r6
    exact ⟨.ref a :: vs, .cons r3 x, .cons rfl y⟩
theorem sorted_ok (hu : X.A.units + 64 < cLine) (hc : X.calm = true) : CallR X (.builtin "sorted") (fun xs H Q => ∃ d vx S, xs = [vx] ∧ RS (lay X st) S H ∧ Rep (lay X st) H d vx ∧ wBlt .sorted [d] S (post (lay X st) S H Q)) := by
  rintro pins s σ H xs us Q I r ⟨d, vx, S, rfl, rs, hx, ys, h1, h2, h3⟩
  have hh : X.A.handled = none := I.ok.hd hc
  cases d with
  | ref a =>
    cases hx
    obtain ⟨u, rfl, ru⟩ := vals1 r
    cases ru
    unfold srtOf at h1
    dsimp only at h1
    split at h1
    · rename_i e
      cases h1
      obtain ⟨p, vs, e2, q, h4 | h4⟩ := rs.seq (d := .ref a) (v := .ref a) (xs := ys) (by unfold seqOf; dsimp only; rw [e]) .ref
      · cases e2
        obtain ⟨its, rv, hl, hz⟩ := I.list h4.1
        exact sort_core hu I rs (colls_list hl.isList (by rw [← rv.length]; exact hz)) (fun us e => by subst e; exact ⟨by rw [← rv.length]; exact hz, _, _, .refl _, q, rv⟩) h2 h3
      · cases h4.2
    · rename_i kvs e
      cases h1
      obtain ⟨ho, rd, k⟩ := rs.at e
      cases k with
      | dK en nd =>
        obtain ⟨z, hd, vs, rel, o, es, ep, g1, g2, g3, g4, g5, g6⟩ := dk_rd I.hok rd
        have raw := rawK_of en rel
        obtain ⟨ws, a1, a2⟩ := dctK_keys raw g5
        have hz : es.size ≤ sizeLine := by
          have l1 := a1.length
          have l2 := a2.length
          have l3 := raw.length
          have l4 := rel.length
          simp at l1 l2
          omega
        exact sort_core hu I rs (colls_dict (A := X.A.in1) (show X.A.in1.handled = none from hh) hd g1 g2 g3 hz) (fun us e => by subst e; exact ⟨by simpa using hz, _, _, .refl _, a1, a2⟩) h2 h3
      | dT en =>
        obtain ⟨hz, hs, xs, rw_, o, es, ep, g1, g2, g3, g4, g5, g6⟩ := dict_tup I rd (.dT en) (entT_tups en)
        obtain ⟨ws, a1, a2⟩ := dctT_keys (P := X.prog) (w := X.w) rw_
        rw [← g4] at a2
        have hz : es.size ≤ sizeLine := by
          have l1 := a1.length
          have l2 := a2.length
          simp at l1 l2
          omega
        exact sort_core hu I rs (colls_dict (A := X.A.in1) (show X.A.in1.handled = none from hh) hs g1 g2 g3 hz) (fun us e => by subst e; exact ⟨by simpa using hz, _, _, .refl _, a1, a2⟩) h2 h3
    · rename_i zs e
      cases h1
      obtain ⟨ho, rd, k⟩ := rs.at e
      cases k with
      | @set _ ys2 M _ en pm =>
        have mem : ∀ q ∈ M, isNk X.prog X.w s.heap q.2 q.1 := fun q m => en.is (L := lay X st) (inv_tups I) q (pm.mem_iff.mp m)
        have ok : NSet0 X.prog X.w s.heap a M := by
          rcases rd with rd | ⟨_, rd⟩
          · exact (I.hok a _ rd).1
          · exact (I.hok a _ rd).2.1
        obtain ⟨es, ep, t, R⟩ := NSet0.with ok mem
        refine sort_core hu I rs (colls_nset (A := X.A.in1) (show X.A.in1.handled = none from hh) R) (fun us pu => ?_) h2 h3
        obtain ⟨o1, o2⟩ := en.out
        have pu' : us.Perm (ys2.map fun q => Value.ref q.1) := pu.trans (pm.map _)
        obtain ⟨xs', ws, r', q', pp⟩ := perm_rel pu' o1 o2
        refine ⟨?_, xs', ws, pp, r', q'⟩
        have := R.few
        rw [pu.length_eq, List.length_map, sizeLine_eq]
        omega
    · cases h1
  | _ => cases h1
/-! ### methods of built-in types -/
def rM (X : Cx) (st : Stat) (m : Mth) : V → List V → Hp → VK → Prop := fun x vs H Q => ∃ d ds S, RS (lay X st) S H ∧ Rep (lay X st) H d x ∧ Reps (lay X st) H ds vs ∧ wMth m d ds S (post (lay X st) S H Q)
theorem append_ok : MtR X "list.append" (rM X st .append) := by
  intro pins s σ H x vs v us Q I rx rv ⟨d, ds, S, rs, hx, hv, h⟩
  match ds, hv, h with
  | [y], .cons (v := vy) r1 .nil, h =>
    obtain ⟨a, xs, rfl, h1, h2, h3⟩ := h
    cases hx
    obtain ⟨ws, g1, g2⟩ := rs.lst h1
    exact mt_append pins s σ H _ _ v us Q I rx rv ⟨_, _, _, rfl, rfl, g1, by rw [← g2.length]; exact h2, post.put rs h1 h3 (.lst ((g2.append (.cons r1 .nil)).ext (rs.ext_put h1))) .non⟩
theorem ixN_seq {n : Nat} {i : Int} {j : Nat} (h : ixN n i = some j) : seqIndex? i n = some j ∧ j < n ∧ -(n : Int) ≤ i ∧ i < n := by
  unfold ixN at h
  unfold seqIndex?
  split at h
  · split at h
    · cases h
      refine ⟨?_, by omega, by omega, by omega⟩
      simp (config := { zeta := true }) <;> (split <;> first | omega | (congr 1) | skip)
    · cases h
  · split at h
    · cases h
      refine ⟨?_, by omega, by omega, by omega⟩
      simp (config := { zeta := true }) <;> (split <;> first | omega | (congr 1) | skip)
    · cases h
theorem pop_ok : MtR X "list.pop" (rM X st .pop) := by
  intro pins s σ H x vs v us Q I rx rv ⟨d, ds, S, rs, hx, hv, h⟩
  match ds, hv, h with
  | [], .nil, h =>
    obtain ⟨a, xs, y, rfl, h1, h2, h3⟩ := h
    cases hx
    obtain ⟨ws, g1, g2⟩ := rs.lst h1
    obtain ⟨w, g3, g4⟩ := g2.get h2
    exact mt_pop pins s σ H _ _ v us Q I rx rv ⟨_, _, _, rfl, rfl, g1, by rw [← g2.length]; exact g3, post.put rs h1 h3 (.lst (g2.dropLast.ext (rs.ext_put h1))) (g4.ext (rs.ext_put h1))⟩
  | [i], .cons (v := vy) r1 .nil, h =>
    obtain ⟨a, xs, k, j, y, rfl, rfl, h1, h2, h3, h4⟩ := h
    cases hx; cases r1
    obtain ⟨ws, g1, g2⟩ := rs.lst h1
    obtain ⟨w, g3, g4⟩ := g2.get h3
    obtain ⟨q1, q2, q3, q4⟩ := ixN_seq h2
    have hz := (I.lstM g1).1
    have hl := g2.length
    have hc := sizeLine_eq
    exact mt_popAt pins s σ H _ _ v us Q I rx rv ⟨_, _, _, j, _, rfl, rfl, g1, by omega, by omega, by rw [← hl]; exact q1, g3, post.put rs h1 h4 (.lst ((g2.eraseIdx j).ext (rs.ext_put h1))) (g4.ext (rs.ext_put h1))⟩
theorem extend_ok : MtR X "list.extend" (rM X st .extend) := by
  intro pins s σ H x vs v us Q I rx rv ⟨d, ds, S, rs, hx, hv, h⟩
  match ds, hv, h with
  | [y], .cons (v := vy) r1 .nil, h =>
    obtain ⟨a, c, xs, ys, rfl, rfl, h1, h2, h3, h4⟩ := h
    cases hx; cases r1
    obtain ⟨ws, g1, g2⟩ := rs.lst h1
    obtain ⟨zs, g3, g4⟩ := rs.lst h2
    exact mt_extend pins s σ H _ _ v us Q I rx rv ⟨_, _, _, _, rfl, rfl, g1, g3, by rw [← g2.length, ← g4.length]; exact h3, post.put rs h1 h4 (.lst ((g2.append g4).ext (rs.ext_put h1))) .non⟩
theorem join_ok : MtR X "str.join" (rM X st .join) := by
  intro pins s σ H x vs v us Q I rx rv ⟨d, ds, S, rs, hx, hv, h⟩
  match ds, hv, h with
  | [y], .cons (v := vy) r1 .nil, h =>
    obtain ⟨z, ys, rfl, h1, h2, h3⟩ := h
    cases hx
    obtain ⟨p, ws, rfl, q, h4⟩ := rs.seq h1 r1
    rw [q.strs_of] at h4
    refine mt_join pins s σ H _ _ v us Q I rx rv ⟨_, _, _, rfl, rfl, ?_, h2, h3.now rs .str⟩
    rcases h4 with h4 | h4
    · exact .inl h4.1
    · exact .inr h4.1
theorem split_ok : MtR X "str.split" (rM X st .split) := by
  intro pins s σ H x vs v us Q I rx rv ⟨d, ds, S, rs, hx, hv, h⟩
  match ds, hv, h with
  | [y], .cons (v := vy) r1 .nil, h =>
    obtain ⟨a, b, rfl, rfl, h1, h2, h3⟩ := h
    cases hx; cases r1
    refine mt_split pins s σ H _ _ v us Q I rx rv ⟨_, _, rfl, rfl, h1, h2, fun p hp => post.new rs h3 hp (.lst ?_)⟩
    exact Reps.strs
theorem partition_ok : MtR X "str.partition" (rM X st .partition) := by
  intro pins s σ H x vs v us Q I rx rv ⟨d, ds, S, rs, hx, hv, h⟩
  match ds, hv, h with
  | [y], .cons (v := vy) r1 .nil, h =>
    obtain ⟨a, b, rfl, rfl, h1, h2, h3⟩ := h
    cases hx; cases r1
    exact mt_partition pins s σ H _ _ v us Q I rx rv ⟨_, _, rfl, rfl, h1, h2, fun p hp => post.tup rs h3 (.cons .str (.cons .str (.cons .str .nil))) hp⟩
theorem setdefault_ok (hu : X.A.units + 64 < cLine) : MtR X "dict.setdefault" (rM X st .setdefault) := by
  intro pins s σ H x vs v us Q I rx rv ⟨d, ds, S, rs, hx, hv, h⟩
  match ds, hv, h with
  | [k, d2], .cons (v := vk) r1 (.cons (v := vd) r2 .nil), h =>
    obtain ⟨a, kvs, rfl, h1, h2, h3, h4⟩ := h
    cases hx; cases rx
    obtain ⟨uk, ud, rfl, ruk, rud⟩ := vals2 rv
    refine (d_store (E := X.xe) hu I rs h1 h3 h2 r1 ruk r2 rud).2 _ (fun dv vv w s' e I' g1 g2 => ?_) fun e ho s' I' k' => ?_
    · rw [e] at h4
      exact ⟨vv, H, I', g2, h4.now rs g1⟩
    · rw [e] at h4
      exact ⟨vd, _, I', rud, post.put rs h1 h4 k' (r2.ext (rs.ext_put h1))⟩
theorem get_ok (hu : X.A.units + 64 < cLine) : MtR X "dict.get" (rM X st .get) := by
  intro pins s σ H x vs v us Q I rx rv ⟨d, ds, S, rs, hx, hv, h⟩
  match ds, hv, h with
  | [k], .cons (v := vk) r1 .nil, h =>
    obtain ⟨kvs, h1, h2, h3⟩ := h
    obtain ⟨a, rfl, e⟩ := dctOf_at h1
    cases hx; cases rx
    obtain ⟨uk, rfl, ruk⟩ := vals1 rv
    exact (d_ask (E := X.xe) hu I rs e h2 r1 ruk).2.2.2.2.1 _ fun w s' v' I' g1 g2 => ⟨v', H, I', g2, h3.now rs g1⟩
  | [k, d2], .cons (v := vk) r1 (.cons (v := vd) r2 .nil), h =>
    obtain ⟨kvs, h1, h2, h3⟩ := h
    obtain ⟨a, rfl, e⟩ := dctOf_at h1
    cases hx; cases rx
    obtain ⟨uk, ud, rfl, ruk, rud⟩ := vals2 rv
    exact (d_ask (E := X.xe) hu I rs e h2 r1 ruk).2.2.2.2.2 _ _ _ _ r2 rud fun w s' v' I' g1 g2 => ⟨v', H, I', g2, h3.now rs g1⟩
end
end PD
set_option Elab.async false
set_option linter.all false
set_option maxRecDepth 100000
set_option maxHeartbeats 1000000
/-! PD: set() of tuples; more methods of lists. -/
namespace PD
open PySem PySem.Spec PyProof.Rows L2
section
variable {L : Lay} {H : Hp}
/-- tuples as members -/
theorem mems_of : ∀ {xs : List D} {vs : List V} {us : List Value}, (∀ d ∈ xs, MemOk d) → Reps L H xs vs → Vals vs us → ∃ ks : List (Addr × NestedKey), us = ks.map (fun q => Value.ref q.1) ∧ EntS L H xs ks
  | _, _, _, _, .nil, .nil => ⟨[], rfl, .nil⟩
  | d :: xs, _, _, m, .cons r t, .cons q z => by
    obtain ⟨ks, e, en⟩ := mems_of (fun d hd => m d (List.mem_cons_of_mem _ hd)) t z
    have mo := m d List.mem_cons_self
    cases d with
    | tup ds =>
      obtain ⟨nk, hk, hd⟩ := mo
      cases r with
      | tup h1 h2 =>
        cases q
        exact ⟨(_, nk) :: ks, by rw [e]; rfl, .cons hk hd (.tup h1 h2) en⟩
    | _ => exact mo.elim
theorem EntS.get : ∀ {xs : List D} {ks : List (Addr × NestedKey)}, EntS L H xs ks → (∀ q ∈ ks, ∃ d ∈ xs, d.key = some q.2 ∧ q.2.depth ≤ 8 ∧ Rep L H d (.ref q.1)) ∧ ∀ d ∈ xs, ∃ q ∈ ks, d.key = some q.2
  | _, _, .nil => ⟨fun q m => (nomatch m), fun d m => (nomatch m)⟩
  | _, _, .cons g1 g2 g3 t => by
    obtain ⟨i1, i2⟩ := t.get
    refine ⟨fun q m => ?_, fun d m => ?_⟩
    · rcases List.mem_cons.mp m with e | m
      · subst e; exact ⟨_, List.mem_cons_self, g1, g2, g3⟩
      · obtain ⟨d, hd, r⟩ := i1 q m
        exact ⟨d, List.mem_cons_of_mem _ hd, r⟩
    · rcases List.mem_cons.mp m with e | m
      · subst e; exact ⟨_, List.mem_cons_self, g1⟩
      · obtain ⟨q, hq, r⟩ := i2 d m
        exact ⟨q, List.mem_cons_of_mem _ hq, r⟩
theorem ents_pick {L' : List (Addr × NestedKey)} : ∀ (zs : List D), (∀ d ∈ zs, ∃ q ∈ L', d.key = some q.2 ∧ q.2.depth ≤ 8 ∧ Rep L H d (.ref q.1)) → ∃ ys, EntS L H zs ys ∧ ∀ q ∈ ys, q ∈ L'
  | [], _ => ⟨[], .nil, fun q m => (nomatch m)⟩
  | d :: zs, h => by
    obtain ⟨ys, e, s⟩ := ents_pick zs fun x m => h x (List.mem_cons_of_mem _ m)
    obtain ⟨⟨a, nk⟩, hq, h1, h2, h3⟩ := h d List.mem_cons_self
    refine ⟨(a, nk) :: ys, .cons h1 h2 h3 e, fun q m => ?_⟩
    rcases List.mem_cons.mp m with z | m
    · rw [z]; exact hq
    · exact s q m
theorem EntS.nod : ∀ {xs : List D} {ks : List (Addr × NestedKey)}, EntS L H xs ks → xs.Nodup → (ks.map (·.2)).Nodup
  | _, _, .nil, _ => .nil
  | _, _, .cons g1 g2 g3 t, n => by
    obtain ⟨n1, n2⟩ := List.nodup_cons.mp n
    rw [List.map_cons, List.nodup_cons]
    exact ⟨fun m => n1 ((EntS.has g1 t).mpr m), t.nod n2⟩
theorem nd_of_map {α β : Type} {f : α → β} {l : List α} (h : (l.map f).Nodup) : l.Nodup := List.Pairwise.of_map f (fun _ _ hne e => hne (congrArg f e)) h
theorem setD_ok : ∀ (l xs : List D), xs.Nodup → (l.foldl addD xs).Nodup ∧ ∀ x, x ∈ l.foldl addD xs ↔ x ∈ xs ∨ x ∈ l
  | [], xs, n => ⟨n, fun x => by simp⟩
  | d :: l, xs, n => by
    have n' : (addD xs d).Nodup := by
      unfold addD
      split
      · exact n
      · rename_i h
        exact List.nodup_append.mpr ⟨n, by simp, fun a ha b hb e => h (by rw [List.mem_singleton.mp hb] at e; exact e ▸ ha)⟩
    obtain ⟨i1, i2⟩ := setD_ok l _ n'
    refine ⟨i1, fun x => ?_⟩
    show x ∈ l.foldl addD (addD xs d) ↔ _
    rw [i2 x]
    have : x ∈ addD xs d ↔ x ∈ xs ∨ x = d := by
      unfold addD
      split
      · rename_i h
        exact ⟨.inl, fun z => z.elim id fun e => e ▸ h⟩
      · simp
    rw [this, List.mem_cons, or_assoc]
theorem setD_nodup (l : List D) : (setD l).Nodup := (setD_ok l [] .nil).1
theorem mem_setD {l : List D} {x : D} : x ∈ setD l ↔ x ∈ l := by
  unfold setD
  rw [(setD_ok l [] .nil).2 x]
  simp
/-- what a filled set's members are -/
theorem had_set {xs : List D} {ks M : List (Addr × NestedKey)} (en : EntS L H xs ks) (g : Had ks M) (n : (M.map (·.2)).Nodup) : ∃ ys, EntS L H (setD xs) ys ∧ M.Perm ys := by
  obtain ⟨g1, g2⟩ := en.get
  have uniq : ∀ q ∈ M, ∀ r ∈ M, q.2 = r.2 → q = r := fun q hq r hr e => by
    have : ∀ (l : List (Addr × NestedKey)), (l.map (·.2)).Nodup → ∀ q ∈ l, ∀ r ∈ l, q.2 = r.2 → q = r := fun l => by
      induction l with
      | nil => intro _ q m; cases m
      | cons x l ih =>
        intro n q hq r hr e
        rw [List.map_cons, List.nodup_cons] at n
        rcases List.mem_cons.mp hq with hq | hq <;> rcases List.mem_cons.mp hr with hr | hr
        · rw [hq, hr]
        · rw [hq] at e; exact absurd (List.mem_map.mpr ⟨r, hr, e.symm⟩) n.1
        · rw [hr] at e; exact absurd (List.mem_map.mpr ⟨q, hq, e⟩) n.1
        · exact ih n.2 q hq r hr e
    exact this M n q hq r hr e
  obtain ⟨ys, e1, e2⟩ := ents_pick (L := L) (H := H) (L' := M) (setD xs) fun d hd => by
    obtain ⟨q, hq, hk⟩ := g2 d (mem_setD.mp hd)
    obtain ⟨r, hr, e⟩ := List.mem_map.mp (g.all q hq)
    obtain ⟨d', hd', k1, k2, k3⟩ := g1 r (g.sub r hr)
    have e : r.2 = q.2 := e
    rw [e] at k1
    have := D.key_inj _ _ _ k1 hk
    subst this
    exact ⟨r, hr, by rw [e]; exact hk, k2, k3⟩
  have ny := e1.nod (setD_nodup xs)
  refine ⟨ys, e1, (List.perm_ext_iff_of_nodup (nd_of_map n) (nd_of_map ny)).mpr fun q => ⟨fun hq => ?_, e2 q⟩⟩
  obtain ⟨d, hd, k1, _⟩ := g1 q (g.sub q hq)
  have m := (EntS.has k1 e1).mp (mem_setD.mpr hd)
  obtain ⟨r, hr, e⟩ := List.mem_map.mp m
  rw [uniq q hq r (e2 r hr) e.symm]
  exact hr
end
section
variable {X : Cx} {st : Stat}
theorem set_ok (hu : X.A.units + 70 < cLine) (hc : X.calm = true) : CallR X (.type "set") (fun xs H Q => ∃ d vx S, xs = [vx] ∧ RS (lay X st) S H ∧ Rep (lay X st) H d vx ∧ wBlt .set [d] S (post (lay X st) S H Q)) := by
  rintro pins s σ H xs us Q I r ⟨d, vx, S, rfl, rs, hx, ys, h1, h2, h3, h4⟩
  have hh : X.A.handled = none := I.ok.hd hc
  obtain ⟨p, vs, rfl, q, hp⟩ := rs.seq h1 hx
  obtain ⟨u, rfl, ru⟩ := vals1 r
  cases ru
  have fin : ∀ (its : List Value) (ks : List (Addr × NestedKey)), EntS (lay X st) H ys ks → ∀ (h' : Heap) (tk : Nat) L es ep t, NSet X.prog X.w h' s.heap.objs.size L es ep t → Had ks L → (∀ b o, s.heap.get? b = some o → h'.get? b = some o) → EP X pins σ Q (.ref s.heap.objs.size) { s with heap := h', toks := tk } := fun its ks en h' tk L es ep t R g k => by
    obtain ⟨zs, e1, e2⟩ := had_set en g R.nod
    have hn : H s.heap.objs.size = none := I.hok.fresh (Nat.le_refl _)
    exact ⟨.ref _, upd H s.heap.objs.size (NSO X.prog X.w s.heap.objs.size L), I.laid (t' := tk) k (Nat.le_refl _) (nso_ok R.alone), rfl, post.new rs h4 hn (.set (e1.ext (Ext.upd_new hn)) e2)⟩
  have keys : ∀ ks, EntS (lay X st) H ys ks → ∀ q ∈ ks, q.2 ∈ (setD ys).map keyD := fun ks en q hq => by
    obtain ⟨d, hd, k1, _⟩ := en.get.1 q hq
    exact List.mem_map.mpr ⟨d, mem_setD.mpr hd, by unfold keyD; rw [k1]; rfl⟩
  rcases hp with hp | hp
  · obtain ⟨its, rv, pl, hz⟩ := I.list hp.1
    obtain ⟨ks, e, en⟩ := mems_of (L := lay X st) h2 q rv
    exact call_nset_list ks ((setD ys).map keyD) hh pl.isList (by simpa using e) (en.is (L := lay X st) (inv_tups I)) (keys ks en) (by rw [List.length_map]; exact h3) (by omega) (fin its ks en)
  · obtain ⟨its, rv, pl, hz⟩ := I.tuple hp.1
    obtain ⟨ks, e, en⟩ := mems_of (L := lay X st) h2 q rv
    exact call_nset_tuple ks ((setD ys).map keyD) hh (let ⟨o, h1, h2, n, h3⟩ := pl; ⟨o, h1, h2, n, h3⟩) (by simpa using e) (en.is (L := lay X st) (inv_tups I)) (keys ks en) (by rw [List.length_map]; exact h3) (by omega) (fin its ks en)
theorem remove_ok : MtR X "list.remove" (rM X st .remove) := by
  intro pins s σ H x vs v us Q I rx rv ⟨d, ds, S, rs, hx, hv, h⟩
  match ds, hv, h with
  | [y], .cons (v := vy) r1 .nil, h =>
    obtain ⟨a, ns, k, j, rfl, rfl, h1, h2, h3, h4⟩ := h
    cases hx
    cases r1
    obtain ⟨ws, g1, g2⟩ := rs.lst h1
    have e := g2.ints_of
    subst e
    exact mt_remove pins s σ H _ _ v us Q I rx rv ⟨_, _, _, _, rfl, rfl, g1, h2, h3, post.put rs h1 h4 (.lst Reps.ints) .non⟩
theorem index_ok (hu : X.A.units + 128 < cLine) : MtR X "list.index" (rM X st .index) := by
  intro pins s σ H x vs v us Q I rx rv ⟨d, ds, S, rs, hx, hv, h⟩
  match ds, hv, h with
  | [y], .cons (v := vy) r1 .nil, h =>
    obtain ⟨a, n, xs, p, ps, j, z, rfl, h1, h2, h3, h4, h5, h6, h7, h8, h9⟩ := h
    cases hx
    refine mt_indexD (by omega) pins s σ H _ _ v us Q I rx rv ⟨_, _, p, ps, j, z, rfl, rfl, ?_, snap_dp rs _ _ _ _ h2 r1, h4, h5, h6, h7, h8, h9.now rs .int⟩
    refine snap_dp rs (n + 1) (.ref a) _ _ ?_ .ref
    have h1 : (match at_ S a with
      | some (.lst xs) => some xs
      | _ => none) = some xs := h1
    split at h1
    · rename_i e
      cases h1
      show (match at_ S a with
        | some (.lst xs) => (xs.mapM (snap S n)).map PyData.list
        | _ => none) = _
      rw [e]
      show (xs.mapM (snap S n)).map PyData.list = _
      rw [h3]; rfl
    · cases h1
end
end PD
set_option Elab.async false
set_option linter.all false
set_option maxRecDepth 100000
set_option maxHeartbeats 1000000
/-! PD: dict() of pairs, displays of dicts. -/
namespace PD
open PySem PySem.Spec PyProof.Rows L2
section
variable {X : Cx} {st : Stat} {pins : List (Addr × Obj)} {σ : L2.St} {H : Hp} {s : Shared} {a : Addr} {S : Sto} {A : Around} {E : Value → Shared → Prop}
theorem RS.re_put {L : Lay} {o : O} {ho : HO} (rs : RS L S H) (h : S a = some o) (hn : ∀ u, o ≠ .frz u) {o' : O} (k : ROk L (upd H a ho) o' a ho) : RS L (PD.put S a o') (upd H a ho) := rs.put (rs.ext_put h) k
theorem put_put {o o' : O} : PD.put (PD.put S a o) a o' = PD.put S a o' := by
  funext b
  unfold PD.put
  by_cases h : b = a
  · simp [h]
  · simp [h]
theorem upd_upd {o o' : HO} : upd (upd H a o) a o' = upd H a o' := by
  funext b
  unfold upd
  by_cases h : b = a
  · rw [if_pos h, if_pos h]
  · rw [if_neg h, if_neg h, if_neg h]
/-- a pair's parts -/
theorem reps_two {L : Lay} {k v : PD.D} {vs : List V} (r : Reps L H [k, v] vs) : ∃ y z, vs = [y, z] ∧ Rep L H k y ∧ Rep L H v z := by
  cases r with
  | cons r1 r2 => cases r2 with
    | cons r2 r3 => cases r3; exact ⟨_, _, rfl, r1, r2⟩
theorem pair_at {L : Lay} {k v : PD.D} {x : V} (r : Rep L H (.tup [k, v]) x) : ∃ b y z, x = .ref b ∧ SqT L.K H b [y, z] ∧ Rep L H k y ∧ Rep L H v z := by
  cases r with
  | @tup b vs _ h1 h2 =>
    obtain ⟨y, z, rfl, r1, r2⟩ := reps_two h2
    exact ⟨b, y, z, rfl, h1, r1, r2⟩
theorem DLoad_cons {x : PD.D} {xs : List PD.D} {acc : List (PD.D × PD.D)} {P : List (PD.D × PD.D) → Prop} (h : DLoad (x :: xs) acc P) : ∃ k v, x = .tup [k, v] ∧ KeyOk acc k ∧ acc.length < sizeLine ∧ DLoad xs (putD acc k v) P := by
  unfold DLoad at h
  split at h
  · cases ‹_ :: _ = []›
  · rename_i e
    injection e with e1 e2
    subst e1 e2
    exact ⟨_, _, rfl, h⟩
  · exact h.elim
/-- the walk over the pairs: D the dict, I the iterator -/
theorem ud_go (hu : A.units + 80 < cLine) (hh : A.handled = none) {D I l : Addr} {res : Value} {R : Result → Shared → Prop} (hlD : l ≠ D) {xs : List PD.D} (P : List (PD.D × PD.D) → Prop) :
    ∀ (rest : List PD.D) (i : Nat) (acc : List (PD.D × PD.D)) (ix : Int) (t : Tok) (S : Sto) (H : Hp) (s : Shared) (pins : List (Addr × Obj)), xs.drop i = rest → Inv X pins σ H s → RS (lay X st) S H → S l = some (.lst xs) → S D = some (.dct acc) → FpOk X pins H I → s.heap.IsListIter I l i → DLoad rest acc P →
      (∀ acc' S' H' s', P acc' → Inv X pins σ H' s' → RS (lay X st) S' H' → S' = PD.put S D (.dct acc') → (∀ b, b ≠ D → H' b = H b) → R (.ok (.ret res)) s') →
      codeAny (model X.prog X.w) A (.builtin "dict.update.loop" ⟨[.ref D, .ref I, .int ix t, res], []⟩) R s := by
  intro rest
  induction rest with
  | nil =>
    intro i acc ix t S H s pins hd I0 rs hl hD fI hit hP hR
    obtain ⟨vs, hH, rv⟩ := rs.lst hl
    obtain ⟨its, rvs, pl, hz⟩ := I0.list (X := X) (.inl (.inl hH))
    obtain ⟨f0, f1, f2, f3, f4, f5⟩ := fI
    have hlen : xs.length ≤ i := by
      have := congrArg List.length hd
      rw [List.length_drop, List.length_nil] at this
      omega
    refine codeAny_builtin ud_entry ?_
    rw [Around.under_plainId ud_plain _]
    show wpAny _ A.in1 (pyNext (.ref I) >>= _) _ _ s
    refine wpAny_bind (wpAny_pyNext_list_end (A := A.in1) hh hit pl.isList (Array.getElem?_eq_none (by
      rw [List.size_toArray, ← rvs.length, ← rv.length]; exact hlen)) fun h' he => ?_)
    show wpAny _ A.in1 (Builtin.Dict.addKeywords D [] >>= _) _ _ _
    refine wpAny_bind (wpAny_pure (wpAny_pure ?_))
    refine hR acc S H _ hP (I0.turned (t' := s.toks) (fun b o hb e => he b o hb e) f0 f1 f3 f4 f5) rs ?_ fun b _ => rfl
    funext b
    unfold PD.put
    split
    · rename_i hb; rw [hb]; exact hD
    · rfl
  | cons x rest ih =>
    intro i acc ix t S H s pins hd I0 rs hl hD fI hit hP hR
    obtain ⟨vs, hH, rv⟩ := rs.lst hl
    obtain ⟨its, rvs, pl, hz⟩ := I0.list (X := X) (.inl (.inl hH))
    obtain ⟨f0, f1, f2, f3, f4, f5⟩ := id fI
    have hx : xs[i]? = some x := by
      have := congrArg List.head? hd
      rw [List.head?_drop] at this
      exact this
    have hd' : xs.drop (i + 1) = rest := by
      have := congrArg List.tail hd
      rw [List.tail_drop] at this
      exact this
    obtain ⟨vx, hvx, rx⟩ := rv.get hx
    obtain ⟨ux, hux, rux⟩ := rvs.get hvx
    obtain ⟨k, v, e0, ko, hln, hP'⟩ := DLoad_cons hP
    subst e0
    · obtain ⟨b, y, z, rfl, hT, ry, rz⟩ := pair_at rx
      obtain rfl : ux = Value.ref b := rux
      obtain ⟨pv, rpv, ⟨op, ho, hc, np, hdat⟩, hpz⟩ := I0.tuple hT
      obtain ⟨uy, uz, e1, ruy, ruz⟩ := vals2 rpv
      subst e1
      refine codeAny_builtin ud_entry ?_
      rw [Around.under_plainId ud_plain _]
      show wpAny _ A.in1 (pyNext (.ref I) >>= _) _ _ s
      refine wpAny_bind (wpAny_pyNext_list_item (x := .ref b) hit pl.isList (by simpa using hux) fun h1 hit1 hs1 => ?_)
      have I1 : Inv X pins σ H { s with heap := h1 } := I0.turned (t' := s.toks) (fun b o hb e => (hs1.2 b hb).trans e) f0 f1 f3 f4 f5
      have hbI : b ≠ I := fun e => by
        have q : SqT X.K H b [y, z] := hT
        rcases q with q | q
        · rcases q with q | ⟨ob, q⟩
          · rw [e, f0] at q; cases q
          · rw [e, f0] at q; cases q
        · obtain ⟨pv', _, ⟨o', ho', hc', _⟩, _⟩ := I0.tuple hT
          rw [e] at ho'
          obtain ⟨oi, hoi, hci, _⟩ := hit
          rw [hoi] at ho'
          cases ho'
          rw [hci] at hc'
          injection hc' with hc'
          exact absurd hc' (by decide)
      have ho1 : h1.get? b = some op := (hs1.2 b hbI).trans ho
      show wpAny _ A.in1 (holding [Value.ref b] _ >>= _) _ _ _
      refine wpAny_bind (wpAny_holding ?_)
      refine wpAny_bind (wpAny_tryCatch ?_)
      unfold Builtin.Dict.pairItems
      refine wpAny_bind (wpAny_typeOf (T := "tuple") ⟨op, ho1, hc⟩ ?_)
      rw [if_pos (by first | decide | rfl | simp)]
      refine wpAny_bind (wpAny_seqItems ho1 hdat (wpAny_pure ?_))
      show wpAny _ A.in1 (holding [uy, uz] (dictSet D uy uz)) _ _ _
      have hob : ∀ c ∈ [I], ∃ o, h1.get? c = some o ∧ ∀ v, o.data ≠ .cell v := fun c hc => by
        have e : c = I := by simpa using hc
        subst e
        obtain ⟨oi, e, _, dd⟩ := hit1
        exact ⟨oi, e, fun v z => by rw [dd] at z; cases z⟩
      have I2 := I1.pinned (fp := [I]) (fun c hc => by
        have e : c = I := by simpa using hc
        subst e
        exact ⟨f0, f1, f2, f3, f4, f5⟩) hob
      have hu' : A.in1.units + 64 < cLine := by
        show A.units + 1 + 64 < cLine
        omega
      refine wpAny_holding (d_dset hu' I2 rs hD hln ko ry ruy rz ruz _ fun ho' s2 I3 k3 => ?_)
      obtain ⟨oi, hoi, hci, hdi⟩ := id hit1
      have pin := I3.pin (I, oi) (List.mem_append_right _ (List.mem_append_right _ (mem_pinsAt (by simp) hoi)))
      have rs2 := rs.re_put hD (fun _ z => nomatch z) k3
      refine wpAny_pure ⟨plainId_quiet ud_plain _, ih (i + 1) (putD acc k v) (ix + 1) 0 (PD.put S D (.dct (putD acc k v))) (upd H D ho') s2 pins hd' I3.unpinned rs2 (by rw [put_ne hlD]; exact hl) put_same ⟨pin.2.1, f1, f2, f3, f4, f5⟩ ⟨oi, pin.1, hci, hdi⟩ hP' fun acc' S' H' s' p i' r' e' hb => ?_⟩
      refine hR acc' S' H' s' p i' r' (by rw [e', put_put]) fun b hb' => ?_
      rw [hb b hb', upd_ne hb']
/-- dict() of a list of pairs -/
theorem dict_ok (hu : X.A.units + 100 < cLine) (hcalm : X.calm = true) : CallR X (.type "dict") (fun vs H Q => ∃ ds S, RS (lay X st) S H ∧ Reps (lay X st) H ds vs ∧ wBlt .dict ds S (post (lay X st) S H Q)) := by
  intro pins s σ H vs us Q I r ⟨ds, S, rs, hx, h⟩
  match ds, h with
  | [.ref l], h =>
    obtain ⟨xs, hl, hP⟩ := h
    cases hx with
    | cons r1 r2 =>
      cases r2
      cases r1
      obtain ⟨u, rfl, ru⟩ := vals1 r
      cases ru
      have hh : X.A.handled = none := I.ok.hd hcalm
      obtain ⟨vs, hH, rv⟩ := rs.lst hl
      obtain ⟨z, its, n, rvs, _, hg⟩ := I.lstM hH
      refine callType_codes (Q₁ := fun obj s₁ => obj = .ref s.heap.objs.size ∧ s₁ = { s with heap := s.heap.push { cls := .type "dict", data := .dict #[] } }) PySem.F.kt_called_dict (PySem.F.kt_typeCall_dict_1 _) PySem.F.entry_dict_init (kt_code_dict_new _ ⟨rfl, rfl⟩) ?_
      rintro obj s₁ ⟨rfl, rfl⟩
      have hnew : (s.heap.push { cls := .type "dict", data := .dict #[] }).DictOf (mixKind X.prog X.w) s.heap.objs.size [] := Heap.DictOf.new s.heap
      have k0 : ∀ b o, s.heap.get? b = some o → (s.heap.push { cls := .type "dict", data := .dict #[] }).get? b = some o := fun b o e => Heap.get?_push_of_some _ e
      have hn : H s.heap.objs.size = none := I.hok.fresh (Nat.le_refl _)
      have I1 := I.laid (a := s.heap.objs.size) (o := .dK []) (h' := s.heap.push { cls := .type "dict", data := .dict #[] }) (t' := s.toks) (fun _ _ q => Heap.get?_push_of_some _ q) (Nat.le_refl _) (dk_empty s.heap I.big)
      refine ⟨hnew.typeIs, PySem.F.args_dict_init_2 _ _, ?_⟩
      unfold Builtin.«dict.__init__»
      refine wpAny_bind ?_
      unfold Builtin.Dict.selfAndRest
      refine wpAny_bind (wpAny_notOrdered_dict hnew.typeIs ?_)
      show wpAny _ _ (pure (s.heap.objs.size, [Value.ref l])) _ _ _
      refine wpAny_pure ?_
      show wpAny _ _ (Builtin.Dict.updateFrom "dict.__init__" s.heap.objs.size (.ref l) [] .none) _ _ _
      unfold Builtin.Dict.updateFrom
      refine wpAny_bind (wpAny_typeOf (T := "list") ⟨_, k0 _ _ hg, rfl⟩ ?_)
      rw [if_pos (by first | decide | rfl | simp)]
      refine wpAny_bind (miss_list (k0 _ _ hg) rfl rfl rfl hh fun h1 tk1 hk1 => ?_)
      rw [if_pos (show (none : Option Value).isNone = true from rfl)]
      refine wpAny_bind (wpAny_rule ?_)
      have hl1 : h1.IsList l its.toArray := ⟨_, hk1 _ _ (k0 _ _ hg), rfl, n, rfl⟩
      have hlt : l < s.heap.objs.size := Heap.lt_size hg
      have I2 : Inv X pins σ (upd H s.heap.objs.size (.dK [])) { s with heap := h1, toks := tk1 } := I1.kept (t' := tk1) fun b o e => hk1 b o e
      refine wpAny_bind (wpAny_pyIter_list hl1 ?_)
      have I3 : Inv X pins σ (upd H s.heap.objs.size (.dK [])) { s with heap := h1.push { cls := .type "list_iterator", data := .fields #[.ref l, .int 0 0] }, toks := tk1 } := I2.kept (t' := tk1) fun b o e => Heap.get?_push_of_some _ e
      have fI : FpOk X pins (upd H s.heap.objs.size (.dK [])) h1.objs.size := I2.fpOk (Nat.le_refl _) (I2.hok.fresh (Nat.le_refl _))
      have hlD : l ≠ s.heap.objs.size := Nat.ne_of_lt hlt
      have rs1 : RS (lay X st) (PD.put S s.heap.objs.size (.dct [])) (upd H s.heap.objs.size (.dK [])) := rs.put (Ext.upd_new hn) (.dK .nil List.nodup_nil)
      have key := ud_go (st := st) (A := X.A.in1) (σ := σ) (R := wants (fun r s₂ => r = .none ∧ EP X pins σ Q (.ref s.heap.objs.size) s₂) X.xe) (D := s.heap.objs.size) (I := h1.objs.size) (l := l) (xs := xs) (res := Value.none) (by show X.A.units + 1 + 80 < cLine; omega) hh hlD _ xs 0 [] 0 0 _ _ _ pins List.drop_zero I3 rs1 (by rw [put_ne hlD]; exact hl) put_same fI ⟨_, Heap.get?_push_size _ rfl, rfl, rfl⟩ hP
        fun acc' S' H' s' p i' r' e' hb => ⟨rfl, .ref s.heap.objs.size, H', i', rfl, by
          rw [put_put] at e'
          subst e'
          exact p s.heap.objs.size (rs.free hn) _ _ ⟨fun b ho e k => by
            have nb : b ≠ s.heap.objs.size := ne_of_none e hn
            exact ⟨by rw [hb b nb, upd_ne nb]; exact e, by rw [put_ne nb]; exact k⟩, fun b ob u e => by
            have nb : b ≠ s.heap.objs.size := ne_of_none e hn
            rw [hb b nb, upd_ne nb]; exact e⟩ r' .ref⟩
      first
        | exact wpAny_pure ⟨plainId_quiet ud_plain _, key⟩
        | exact wpAny_bind (wpAny_pure (wpAny_pure ⟨plainId_quiet ud_plain _, key⟩))
theorem RS.tell {L : Lay} {o : O} {p : Addr} {ho : HO} (rs : RS L S H) (e : H p = some ho) (k : ROk L H o p ho) : RS L (PD.put S p o) H := fun b u q => by
  by_cases h : b = p
  · subst h
    rw [put_same] at q
    cases q
    exact ⟨ho, e, k⟩
  · rw [put_ne h] at q
    exact rs b u q
/-- pairs of values, told flat -/
inductive RepsP (L : Lay) (H : Hp) : List PD.D → List (Value × Value) → Prop
  | nil : RepsP L H [] []
  | cons {k v x y u w ds us} : Rep L H k x → RelV x u → Rep L H v y → RelV y w → RepsP L H ds us → RepsP L H (k :: v :: ds) ((u, w) :: us)
theorem RepsP.ext {L : Lay} {H H' : Hp} (e : Ext H H') : ∀ {ds us}, RepsP L H ds us → RepsP L H' ds us
  | _, _, .nil => .nil
  | _, _, .cons r1 r2 r3 r4 t => .cons (r1.ext e) r2 (r3.ext e) r4 (RepsP.ext e t)
theorem disp_store (hu : A.units + 64 < cLine) {D : Addr} {Q : PUnit → Shared → Prop} (P : List (PD.D × PD.D) → Prop) :
    ∀ (us : List (Value × Value)) (ds : List PD.D) (acc : List (PD.D × PD.D)) (S : Sto) (H : Hp) (s : Shared), Inv X pins σ H s → RS (lay X st) S H → S D = some (.dct acc) → RepsP (lay X st) H ds us → DDisp ds acc P →
      (∀ acc' S' H' s', P acc' → Inv X pins σ H' s' → RS (lay X st) S' H' → S' = PD.put S D (.dct acc') → (∀ b, b ≠ D → H' b = H b) → Q PUnit.unit s') →
      wpAny (model X.prog X.w) A (forIn us PUnit.unit fun (x : Value × Value) (_ : PUnit) => (do dictSet D x.1 x.2; pure (ForInStep.yield PUnit.unit) : Sem (ForInStep PUnit))) Q E s
  | [], ds, acc, S, H, s, I, rs, hD, r, hP, hQ => by
    cases r
    rw [List.forIn_nil]
    refine wpAny_pure (hQ acc S H s hP I rs ?_ fun b _ => rfl)
    funext b
    unfold PD.put
    split
    · rename_i hb; rw [hb]; exact hD
    · rfl
  | (u, w) :: us, ds, acc, S, H, s, I, rs, hD, r, hP, hQ => by
    cases r with
    | @cons k v x y _ _ ds' _ r1 r2 r3 r4 t =>
      obtain ⟨ko, hl, hP⟩ := hP
      rw [List.forIn_cons]
      refine wpAny_bind (wpAny_bind (d_dset hu I rs hD hl ko r1 r2 r3 r4 _ fun ho s' I' k' => wpAny_pure ?_))
      have rs' := rs.re_put hD (fun _ z => nomatch z) k'
      refine disp_store hu P us ds' _ (PD.put S D (.dct (putD acc k v))) (upd H D ho) s' I' rs' put_same (t.ext (rs.ext_put hD)) hP fun acc' S' H' s'' p i' r' e' hb => ?_
      refine hQ acc' S' H' s'' p i' r' (by rw [e', put_put]) fun b hb' => ?_
      rw [hb b hb', upd_ne hb']
theorem subDict_own {prog : Program} {w : World} {pairs : List (Sem Value × Sem Value)} {Q : Addr → Shared → Prop} (hlen : pairs.length ≤ 15)
    (h : wpAny (model prog w) A (evalPairs pairs) (fun vs s₁ => wpAny (model prog w) A (forIn vs PUnit.unit fun (x : Value × Value) (_ : PUnit) => (do dictSet s.heap.objs.size x.1 x.2; pure (ForInStep.yield PUnit.unit) : Sem (ForInStep PUnit))) (fun _ s₂ => Q s.heap.objs.size s₂) E s₁) E
      { s with heap := s.heap.push { cls := .type "dict", data := .dict #[] } }) : wpAny (model prog w) A (subDict pairs) Q E s := by
  unfold subDict
  refine wpAny_bind (wpAny_alloc ?_)
  refine wpAny_bind (wpAny_holding ?_)
  rw [if_pos hlen]
  refine wpAny_bind (wpAny_mono h (fun vs s₁ h₁ => ?_) fun _ _ e => e)
  refine wpAny_holding ?_
  exact wpAny_bind (wpAny_mono h₁ (fun _ _ q => wpAny_pure (wpAny_pure q)) fun _ _ e => e)
end
end PD
set_option Elab.async false
set_option linter.all false
set_option maxRecDepth 100000
set_option maxHeartbeats 1000000
/-! PD: is this the compiled form of that text? -/
namespace PD
open PySem PySem.Spec PyProof.Rows L2
/-- what a def's text is read in: its names by place, its scope, what the module's names stand for, the attributes' names, the parameters' names of each def -/
structure Cc where
  N : List Str
  sc : Scope
  gl : List (Str × D)
  nm : List Str
  kws : List (List Str)
  mt : List (List Nat) := []
  fc : Str → Bool := fun _ => false
  tb : Tab := ⟨[], []⟩
def isLoc : Option NameKind → Bool
  | some .local => true
  | some .cell => true
  | some .free => true
  | _ => false
def isGlo : Option NameKind → Bool
  | some .globalImplicit => true
  | _ => false
def varOk (c : Cc) (i : Nat) (x : Str) : Bool := decide (c.N[i]? = some x) && (isLoc (c.sc.names.lookup x) && (!(x == ("__debug__" : Str)) && !(x == ("__classdict__" : Str))))
def gloOk (c : Cc) (x : Str) : Bool := isGlo (c.sc.names.lookup x) && (!(x == ("__debug__" : Str)) && decide (x ≠ "__name__"))
def cstOk (c : Cc) (d : D) : Expr → Bool
  | .Constant .none _ _ => decide (d = .non)
  | .Constant (.bool b) _ _ => decide (d = .bl b)
  | .Constant (.int i) _ _ => decide (d = .int i)
  | .Constant (.str x) _ _ => decide (d = .str x)
  | .Name x _ => gloOk c x && decide (c.gl.lookup x = some d)
  | _ => false
def isB : Bin → Operator → Bool
  | .add, .Add => true | .sub, .Sub => true | .mul, .Mult => true | .fdiv, .FloorDiv => true | .mod, .Mod => true | .pow, .Pow => true
  | .band, .BitAnd => true | .bor, .BitOr => true | .shl, .LShift => true | .shr, .RShift => true | _, _ => false
def isC : Cmp → CmpOp → Bool
  | .eq, .Eq => true | .ne, .NotEq => true | .lt, .Lt => true | .le, .LtE => true | .gt, .Gt => true | .ge, .GtE => true
  | .isin, .In => true | .notin, .NotIn => true | .is, .Is => true | .isnot, .IsNot => true | _, _ => false
theorem isB_ok {b : Bin} {o : Operator} (h : isB b o = true) : o = opB b := by cases b <;> cases o <;> first | rfl | cases h
theorem isC_ok {b : Cmp} {o : CmpOp} (h : isC b o = true) : o = opC b := by cases b <;> cases o <;> first | rfl | cases h
/-- neither a slice nor a tuple of places -/
def noSl : Expr → Bool
  | .Slice .. => false
  | .Starred .. => false
  | _ => true
def noStar : Expr → Bool
  | .Starred .. => false
  | _ => true
def abOk : Expr → Bool
  | .Call (.Name ..) [] [] _ => false
  | _ => true
def noSet : Expr → Bool
  | .Set .. => false
  | _ => true
def bltName : Blt → Str
  | .len => "len" | .all => "all" | .any => "any" | .tuple => "tuple" | .list => "list" | .sorted => "sorted" | .int => "int" | .str => "str" | .repr => "repr" | .min => "min" | .max => "max" | .sum => "sum" | .abs => "abs" | .bool => "bool" | .dict => "dict" | .set => "set"
def mthName : Mth → Option Str
  | .append => some "append" | .pop => some "pop" | .extend => some "extend" | .setdefault => some "setdefault" | .get => some "get" | .items => some "items" | .values => some "values" | .keys => some "keys" | .join => some "join" | .split => some "split"
  | .partition => some "partition" | .index => some "index" | .update => some "update" | .reverse => some "reverse" | .add => some "add" | .upper => some "upper" | .remove => some "remove" | .insert => some "insert" | .count => some "count" | .copy => some "copy" | .none => none
/-- built-ins that are functions, types -/
def bltFn : Blt → Option (Str × String × Bool)
  | .len => some ("len", "len", true) | .all => some ("all", "all", true) | .any => some ("any", "any", true) | .min => some ("min", "min", true) | .max => some ("max", "max", true) | .sum => some ("sum", "sum", true) | .abs => some ("abs", "abs", true) | .repr => some ("repr", "repr", true) | .sorted => some ("sorted", "sorted", true)
  | .tuple => some ("tuple", "tuple", false) | .list => some ("list", "list", false) | .int => some ("int", "int", false) | .str => some ("str", "str", false) | .dict => some ("dict", "dict", false) | .set => some ("set", "set", false) | _ => none
/-- a class in an isinstance -/
def tyOk (c : Cc) (t : Ty) : Expr → Bool
  | .Name x _ => gloOk c x && (match t with
    | .bt n => decide (x = Str.ofString n) && (c.gl.lookup x).isNone && ["int", "bool", "str", "tuple", "list", "dict"].contains n
    | .own k => decide (c.gl.lookup x = some (.cls k)))
  | _ => false
def tysOk (c : Cc) : List Ty → List Expr → Bool
  | [], [] => true
  | t :: ts, e :: es => tyOk c t e && tysOk c ts es
  | _, _ => false
/-- the arguments: the star, if any, at the end -/
def starOk : Bool → List Expr → Option (List Expr)
  | false, es => if es.all noStar = true then some es else none
  | true, [] => none
  | true, [.Starred e _] => some [e]
  | true, e :: es => if noStar e = true then (starOk true es).map (e :: ·) else none
def kwOk (ps : List Str) : List Nat → List Keyword → Option (List Expr)
  | [], [] => some []
  | i :: is, ⟨some x, e, _⟩ :: ks => if ps[i]? = some x then (kwOk ps is ks).map (e :: ·) else none
  | _, _ => none
/-- the parts of an operation, from the left -/
def prBin (b : Bin) : Expr → Option (List Expr)
  | .BinOp x op y _ => if isB b op = true then some [x, y] else none
  | _ => none
def prNeg : Expr → Option (List Expr)
  | .UnaryOp .USub x _ => some [x]
  | _ => none
def prCmp (k : Cmp) : Expr → Option (List Expr)
  | .Compare x [op] [y] _ => if (isC k op && noSet y) = true then some [x, y] else none
  | _ => none
def prIdx : Expr → Option (List Expr)
  | .Subscript x y _ => if noSl y = true then some [x, y] else none
  | _ => none
def prRev : Expr → Option (List Expr)
  | .Subscript x (.Slice none none (some (.UnaryOp .USub (.Constant (.int 1) _ _) _)) _) _ => some [x]
  | _ => none
def prTup : Expr → Option (List Expr)
  | .Tuple es _ _ => if es.all noStar = true then some es else none
  | _ => none
def prLst : Expr → Option (List Expr)
  | .List es _ => if es.all noStar = true then some es else none
  | _ => none
/-- keys and values of a display, by turns -/
def inter : List (Option Expr) → List Expr → Option (List Expr)
  | [], [] => some []
  | some k :: ks, v :: vs => (inter ks vs).map fun r => k :: v :: r
  | _, _ => none
def prDct : Expr → Option (List Expr)
  | .Dict ks vs _ => if ks.length ≤ 15 then inter ks vs else none
  | _ => none
def prAttr (c : Cc) (f : Nat) : Expr → Option (List Expr)
  | .Attribute x n _ => if (decide (c.nm[f]? = some n) && abOk x) = true then some [x] else none
  | _ => none
def prIsi (c : Cc) (ts : List Ty) : Expr → Option (List Expr)
  | .Call (.Name n _) [x, t] [] _ => if (gloOk c n && (decide (n = "isinstance") && (noStar x && (noStar t && tysOk c ts [t])))) = true then some [x] else none
  | _ => none
def prBlt (c : Cc) (b : Blt) : Expr → Option (List Expr)
  | .Call (.Name n _) es [] _ => if (gloOk c n && (decide (n = bltName b) && ((bltFn b).isSome && (es.all noStar && !es.isEmpty)))) = true then some es else none
  | _ => none
def prCall (c : Cc) (f : Nat) (kw : List Nat) (star : Bool) : Expr → Option (List Expr)
  | .Call (.Name n _) es ks _ => if (gloOk c n && (decide (c.gl.lookup n = some (.fn f)) && !(star && !kw.isEmpty))) = true then
      (starOk star es).bind fun xs => (kwOk (c.kws.getD f []) kw ks).map fun ys => xs ++ ys else none
  | _ => none
def prNew (c : Cc) (k : Nat) (kw : List Nat) (star : Bool) : Expr → Option (List Expr)
  | .Call (.Name n _) es ks _ => if (gloOk c n && (decide (c.gl.lookup n = some (.cls k)) && (kw.isEmpty && ks.isEmpty))) = true then
      starOk star es else none
  | _ => none
def prt (c : Cc) : Op → Expr → Option (List Expr)
  | .bin b, e => prBin b e
  | .neg, e => prNeg e
  | .cmp k, e => prCmp k e
  | .idx, e => prIdx e
  | .rev, e => prRev e
  | .tup, e => prTup e
  | .lst, e => prLst e
  | .dct, e => prDct e
  | .attr f, e => prAttr c f e
  | .isi ts, e => prIsi c ts e
  | .blt b, e => prBlt c b e
  | .call f kw star, e => prCall c f kw star e
  | .new k kw star, e => prNew c k kw star e
def mthIs (m : Mth) (n : Str) : Bool := match mthName m with
  | some z => decide (z = n)
  | none => true
def prMth (c : Cc) (m : Mth) (f : Nat) (kw : List Nat) (star : Bool) : Expr → Option (Expr × List Expr)
  | .Call (.Attribute o n apos) xs ks pos => if (((decide (c.nm[f]? = some n) && abOk o) && ((apos.endLine == pos.line) && mthIs m n)) && (((!star && xs.all noStar) && (ks.all (·.arg.isSome) && decide (xs.length + ks.length < 20))) && (decide (kw.length = ks.length) && (c.mt.getD f []).all fun g => (kwOk (c.kws.getD g []) kw ks).isSome))) = true then some (o, xs ++ ks.map (·.value)) else none
  | _ => none
def isTupE : Expr → Bool
  | .Tuple .. => true
  | _ => false
/-- the parts of what a for walks; tg the target -/
def isFor (ik : IK) (c : Cc) (tg it : Expr) : Option (List Expr) :=
  match ik, it with
  | .val, e => if (noSet e && noStar e) = true then some [e] else none
  | .dct, e => if (noSet e && noStar e) = true then some [e] else none
  | .items, .Call (.Attribute e n apos) [] [] pos => if ((decide (n = "items") && isTupE tg) && (abOk e && (apos.endLine == pos.line))) = true then some [e] else none
  | .vals, .Call (.Attribute e n apos) [] [] pos => if (decide (n = "values") && (abOk e && (apos.endLine == pos.line))) = true then some [e] else none
  | .range, .Call (.Name n _) [a] [] _ => if (gloOk c n && (decide (n = "range") && noStar a)) = true then some [a] else none
  | .range, .Call (.Name n _) [a, b] [] _ => if (gloOk c n && (decide (n = "range") && (noStar a && noStar b))) = true then some [a, b] else none
  | .enum, .Call (.Name n _) [e] [] _ => if (gloOk c n && (decide (n = "enumerate") && (noStar e && isTupE tg))) = true then some [e] else none
  | .zip, .Call (.Name n _) [e, e2] [] _ => if (gloOk c n && (decide (n = "zip") && (noStar e && (noStar e2 && isTupE tg)))) = true then some [e, e2] else none
  | _, _ => none
/-- nothing is locked -/
def ikFree : IK → Bool
  | .items => false
  | .vals => false
  | .dct => false
  | _ => true
def genFree : Gen → Bool
  | .mk _ _ ik _ _ => ikFree ik
/-- a part of an f-string; k: the check of what stands in braces -/
def fsP (k : Expr → Bool) (e : E) : Expr → Bool
  | .FormattedValue y (-1) none _ => k y
  | .Constant (.str z) _ _ => (match e with
    | .cst d => decide (d = .str z)
    | _ => false)
  | _ => false
/-- a name that is stored -/
def stoOk (c : Cc) (x : Str) : Bool := match c.sc.names.lookup x with
  | some .local => true
  | some .cell => c.fc x
  | _ => false
def tabOk (T : Tab) : Op → Bool
  | .isi ts => ts.all fun
    | .own i => (T.cl i).isSome
    | .bt _ => true
  | .call f _ _ => (T.fs[f]?).isSome
  | .new i _ _ => (T.cl i).isSome
  | _ => true
mutual
def gnames : G → List Nat
  | .nm i => [i]
  | .tup gs => gnamess gs
  | .sub _ _ => []
  | .fld _ _ => []
def gnamess : List G → List Nat
  | [] => []
  | g :: gs => gnames g ++ gnamess gs
end
/-- the context within a comprehension -/
def Cc.blk (c : Cc) (sc : Scope) : Cc := { c with sc := relS sc c.sc, fc := fun x => sc.names.lookup x == some .cell }
/-! the parts of the other expressions -/
def gNm (c : Cc) (i : Nat) : Expr → Bool
  | .Name x _ => decide (c.N[i]? = some x) && stoOk c x
  | _ => false
def gTu : Expr → Option (List Expr)
  | .Tuple es _ _ => some es
  | _ => none
def gSu : Expr → Option (Expr × Expr)
  | .Subscript x y _ => if noSl y = true then some (x, y) else none
  | _ => none
def gFl (c : Cc) (f : Nat) : Expr → Option Expr
  | .Attribute x n _ => if c.nm[f]? = some n then some x else none
  | _ => none
def ofAnd : Expr → Option (Expr × Expr)
  | .BoolOp .And (x :: y :: r) p => some (x, match r with
    | [] => y
    | _ => .BoolOp .And (y :: r) p)
  | _ => none
def ofOr : Expr → Option (Expr × Expr)
  | .BoolOp .Or (x :: y :: r) p => some (x, match r with
    | [] => y
    | _ => .BoolOp .Or (y :: r) p)
  | _ => none
def ofNot : Expr → Option Expr
  | .UnaryOp .Not x _ => some x
  | _ => none
def ofIte : Expr → Option (Expr × Expr × Expr)
  | .IfExp t a b _ => some (t, a, b)
  | _ => none
def ofChn (o1 o2 : Cmp) : Expr → Option (Expr × Expr × Expr)
  | .Compare x [p, q] [y, z] _ => if (isC o1 p && (isC o2 q && noSet z)) = true then some (x, y, z) else none
  | _ => none
def ofSl : Expr → Option (Expr × Option Expr × Option Expr)
  | .Subscript x (.Slice l h none _) _ => some (x, l, h)
  | _ => none
def ofFs : Expr → Option (List Expr)
  | .JoinedStr ps _ => if 2 ≤ ps.length then some ps else none
  | _ => none
def ofVar (c : Cc) (i : Nat) : Expr → Bool
  | .Name x _ => varOk c i x
  | _ => false
def ofCallv (c : Cc) (i : Nat) (star : Bool) : Expr → Option (List Expr)
  | .Call (.Name x _) as [] _ => if varOk c i x = true then starOk star as else none
  | _ => none
def ofComp : CK → Expr → Option (List Expr × List Comprehension × Scope)
  | .lst, .ListComp e gs sc _ => some ([e], gs, sc)
  | .set, .SetComp e gs sc _ => some ([e], gs, sc)
  | .dct, .DictComp k v gs sc _ => some ([k, v], gs, sc)
  | _, _ => none
def headOwn : List Gen → List Nat
  | .mk vs _ _ _ _ :: _ => vs
  | [] => []
/-- a clause within writes places of the clause without alone -/
def ownSub : List Gen → Bool
  | g :: gs => (headOwn gs).all (headOwn [g]).contains && ownSub gs
  | [] => true
def genC (vs : List Nat) (t : G) (x : Comprehension) : Bool := noSet x.iter && (decide (x.is_async = 0) && ((gnames t).all vs.contains && decide (x.ifs.length ≤ 1)))
mutual
def cE (c : Cc) : E → Expr → Bool
  | .cst d, e => cstOk c d e
  | .var i, e => ofVar c i e
  | .op o es, e => tabOk c.tb o && (match prt c o e with
    | some xs => cEs c es xs
    | none => false)
  | .and a b, e => (match ofAnd e with
    | some (x, y) => cE c a x && cE c b y
    | none => false)
  | .or a b, e => (match ofOr e with
    | some (x, y) => cE c a x && cE c b y
    | none => false)
  | .not a, e => (match ofNot e with
    | some x => cE c a x
    | none => false)
  | .ite t a b, e => (match ofIte e with
    | some (t', a', b') => cE c t t' && (cE c a a' && cE c b b')
    | none => false)
  | .chn o1 o2 a b d, e => (match ofChn o1 o2 e with
    | some (x, y, z) => cE c a x && (cE c b y && cE c d z)
    | none => false)
  | .sl a lo hi, e => (match ofSl e with
    | some (x, l, h) => cE c a x && (cPt c lo l && cPt c hi h)
    | none => false)
  | .fstr es, e => (match ofFs e with
    | some ps => cFs c es ps
    | none => false)
  | .mth r m f kw star es, e => (match prMth c m f kw star e with
    | some (o, ys) => cE c r o && cEs c es ys
    | none => false)
  | .callv i star es, e => (match ofCallv c i star e with
    | some xs => cEs c es xs
    | none => false)
  | .comp kk elt gs, e => (match ofComp kk e with
    | some (es, cs, sc) => (!gs.isEmpty && (blkC c.N c.sc sc ((headOwn gs).map fun v => (c.N.getD v default, v)) && ownSub gs)) && (cGens c (c.blk sc) gs cs && cEs (c.blk sc) elt es)
    | none => false)
  | .never, _ => true
def cEs (c : Cc) : List E → List Expr → Bool
  | [], [] => true
  | e :: es, x :: xs => cE c e x && cEs c es xs
  | _, _ => false
def cPt (c : Cc) : List E → Option Expr → Bool
  | [], none => true
  | [e], some x => cE c e x
  | _, _ => false
def cFs (c : Cc) : List E → List Expr → Bool
  | [], [] => true
  | e :: es, x :: xs => fsP (fun y => cE c e y) e x && cFs c es xs
  | _, _ => false
def cG (c : Cc) : G → Expr → Bool
  | .nm i, e => gNm c i e
  | .tup gs, e => (match gTu e with
    | some es => cGs c gs es
    | none => false)
  | .sub a i, e => (match gSu e with
    | some (x, y) => cE c a x && cE c i y
    | none => false)
  | .fld a f, e => (match gFl c f e with
    | some x => cE c a x
    | none => false)
def cGs (c : Cc) : List G → List Expr → Bool
  | [], [] => true
  | g :: gs, x :: xs => noStar x && (cG c g x && cGs c gs xs)
  | _, _ => false
def cGen (c c1 : Cc) : Gen → Comprehension → Bool
  | .mk vs t ik it ifs, x => genC vs t x && (match isFor ik c x.target x.iter with
    | some xs => cEs c it xs && (cG c1 t x.target && cEs c1 ifs x.ifs)
    | none => false)
def cGens (c c1 : Cc) : List Gen → List Comprehension → Bool
  | [], [] => true
  | g :: gs, x :: xs => cGen c c1 g x && (gs.all genFree && cGens c1 c1 gs xs)
  | _, _ => false
end
end PD
set_option Elab.async false
set_option linter.all false
set_option maxRecDepth 100000
set_option maxHeartbeats 1000000
/-! PD: expressions: what is compiled is what is run. -/
namespace PD
open PySem PySem.Spec PyProof.Rows L2
def XRep (L : Lay) (H : Hp) (x : Xn) (cls : Value) (d : Option Addr) : Prop := cls = .ref (L.ca x.c) ∧ ((d = none ∧ x.fs = []) ∨ ∃ a vs, d = some a ∧ H a = some (.xd vs) ∧ Flds L H x.fs vs)
section
variable (X : Cx) (st : Stat) (W : L2.WX)
def XOk (σ : L2.St) (S : Sto) (H : Hp) (Ex : PD.WX) : Prop := ∀ x S' cls d H', Frm S H S' H' → RS (lay X st) S' H' → XRep (lay X st) H' x cls d → Ex x S' → W cls d σ H'
/-- where one stands, told of data -/
structure At (σ : L2.St) (H : Hp) (ρ : Rho) (S : Sto) (Ex : PD.WX) : Prop where
  rs : RS (lay X st) S H
  re : RE (lay X st) H ρ σ
  xo : XOk X st W σ S H Ex
def lE (w : Rho → Sto → WD → PD.WX → Prop) : TE := fun σ H Q => ∃ ρ S Ex, At X st W σ H ρ S Ex ∧ w ρ S (post (lay X st) S H Q) Ex
def lEs (w : Rho → Sto → (List D → Sto → Prop) → PD.WX → Prop) : TA := fun σ H Q => ∃ ρ S Ex, At X st W σ H ρ S Ex ∧ w ρ S (fun ds S' => ∀ vs H', Frm S H S' H' → RS (lay X st) S' H' → Reps (lay X st) H' ds vs → Q vs H') Ex
def lT (w : Rho → Sto → WD → PD.WX → Prop) : TT := fun σ H Q => ∃ ρ S Ex, At X st W σ H ρ S Ex ∧ w ρ S (fun d S' => ∃ c, truth S' d = some c ∧ ∀ H', Frm S H S' H' → RS (lay X st) S' H' → Q c H') Ex
end
section
variable {X : Cx} {st : Stat} {W : L2.WX} {σ : L2.St} {H H1 : Hp} {ρ : Rho} {S S1 : Sto} {Ex : PD.WX}
theorem At.step (a : At X st W σ H ρ S Ex) (f : Frm S H S1 H1) (rs : RS (lay X st) S1 H1) : At X st W σ H1 ρ S1 Ex :=
  ⟨rs, a.re.ext (f.ext a.rs), fun x S' cls d H' g r e q => a.xo x S' cls d H' (f.trans g) r e q⟩
theorem post.step {L : Lay} {Q : VK} {d : D} {S' : Sto} (h : post L S H Q d S') (f : Frm S H S1 H1) : post L S1 H1 Q d S' := fun v H' g r e => h v H' (f.trans g) r e
/-- an expression, then what follows -/
theorem At.seq (a : At X st W σ H ρ S Ex) {w : Rho → Sto → WD → PD.WX → Prop} {R : WD} {P : VK} (m : ∀ Q Q', (∀ d S, Q d S → Q' d S) → w ρ S Q Ex → w ρ S Q' Ex) (h : w ρ S R Ex)
    (k : ∀ d S1 v H1, R d S1 → Frm S H S1 H1 → RS (lay X st) S1 H1 → Rep (lay X st) H1 d v → P v H1) : lE X st W w σ H P :=
  ⟨ρ, S, Ex, a, m _ _ (fun d S1 z v H1 f r e => k d S1 v H1 z f r e) h⟩
theorem At.seqT (a : At X st W σ H ρ S Ex) {w : Rho → Sto → WD → PD.WX → Prop} {R : Bool → Sto → Prop} {P : Bool → Hp → Prop} (m : ∀ Q Q', (∀ d S, Q d S → Q' d S) → w ρ S Q Ex → w ρ S Q' Ex) (h : w ρ S (fun d S1 => ∃ c, truth S1 d = some c ∧ R c S1) Ex)
    (k : ∀ c S1 H1, R c S1 → Frm S H S1 H1 → RS (lay X st) S1 H1 → P c H1) : lT X st W w σ H P :=
  ⟨ρ, S, Ex, a, m _ _ (fun d S1 ⟨c, e, z⟩ => ⟨c, e, fun H1 f r => k c S1 H1 z f r⟩) h⟩
theorem truth_ok {L : Lay} {d : D} {v : V} {k : Bool} (rs : RS L S H) (r : Rep L H d v) (h : truth S d = some k) : TruV L.K v H k := by
  cases d with
  | non => cases r; cases h; rfl
  | bl b => cases r; cases h; rfl
  | int i => cases r; cases h; rfl
  | str y =>
    cases r
    have h : (if y.length ≤ sizeLine then some ((y.length : Int) != 0) else none) = some k := h
    split at h
    · cases h; exact ⟨by assumption, rfl⟩
    · cases h
  | tup xs =>
    cases r with
    | tup h1 h2 =>
      cases h
      refine .inr (.inl ⟨_, h1, ?_⟩)
      cases h2 <;> rfl
  | ref a =>
    cases r
    have h : (match at_ S a with
      | some (.lst xs) => some (!xs.isEmpty)
      | _ => none) = some k := h
    split at h
    · rename_i e
      cases h
      obtain ⟨vs, h1, h2⟩ := rs.seqL e
      refine .inl ⟨_, h1, ?_⟩
      cases h2 <;> rfl
    · cases h
  | _ => cases h
def bltNames : List Str := ["len", "all", "any", "tuple", "list", "sorted", "int", "str", "repr", "min", "max", "sum", "abs", "bool", "isinstance", "range", "enumerate", "zip", "set", "dict", "iter", "next", "super", "reversed"]
/-- what stands where one stands -/
structure Good (X : Cx) (st : Stat) (W : L2.WX) (c : Cc) (T : Tab) (Φ : Phi) : Prop where
  N : X.N = c.N
  nd : c.N.Nodup
  sc : X.env.scope = c.sc
  calm : X.calm = true
  room : X.A.units + 64 < cLine
  room2 : X.A.units + 128 < cLine
  mono : PhiMono Φ
  tk : Takes X W
  nm : ∀ f n, c.nm[f]? = some n → st.nm f = n
  nmi : ∀ f g n, c.nm[f]? = some n → st.nm g = n → g = f
  gl : ∀ x d, c.gl.lookup x = some d → ∃ v u, X.mg x = some u ∧ RelV v u ∧ ∀ H, Rep (lay X st) H d v
  gd : X.A.guards = some []
  blt : ∀ x ∈ bltNames, X.mg x = none
  tb : c.tb = T
  fc : ∀ x, c.fc x = true → X.fn x = true
  mt : ∀ i (k : Cl) f mk g, T.cl i = some k → k.ms.lookup f = some (mk, g) → g ∈ c.mt.getD f []
theorem vis_of {c : Cc} (G : X.env.scope = c.sc) {x : Str} (h : isLoc (c.sc.names.lookup x) = true) : Vis X.env.scope x := by
  rw [G]
  unfold Vis
  cases e : c.sc.names.lookup x with
  | none => rw [e] at h; cases h
  | some k => rw [e] at h; cases k <;> first | exact .inl rfl | exact .inr (.inl rfl) | exact .inr (.inr rfl) | cases h
theorem glo_of {c : Cc} (G : X.env.scope = c.sc) {x : Str} (h : gloOk c x = true) : Gl X x ∧ (x == ("__debug__" : Str)) = false ∧ x ≠ "__name__" := by
  unfold gloOk at h
  simp only [Bool.and_eq_true, Bool.not_eq_true', decide_eq_true_eq] at h
  obtain ⟨h1, h2, h3⟩ := h
  refine ⟨?_, h2, h3⟩
  unfold Gl Env.kindOf
  rw [G]
  cases e : c.sc.names.lookup x with
  | none => rw [e] at h1; cases h1
  | some k => rw [e] at h1; cases k <;> first | rfl | cases h1
theorem star_of {e : Expr} {es : List Expr} {env : Env} (h : noStar e = true) : starEach (e :: es) env = (false, eval e env) :: starEach es env := by
  cases e <;> first | rfl | cases h
theorem plain_of {es : List Expr} {env : Env} {pos : Pos} (h : es.all noStar = true) : (backTo pos (starEach es env)).any (·.1) = false := by
  induction es with
  | nil => rfl
  | cons e es ih =>
    rw [List.all_cons, Bool.and_eq_true] at h
    rw [star_of h.1]
    exact ih h.2
theorem plainIx_of {e : Expr} (h : noSl e = true) : PlainIx e := by
  intro o i
  cases e <;> first | rfl | cases h
theorem nomark_of {op : CmpOp} {e : Expr} (h : noSet e = true) : behindInMarks op e = false := by
  cases e <;> first | rfl | cases h
theorem truthy_of {e : Expr} {env : Env} (h : (match e with
    | .UnaryOp .Not _ _ => false
    | .BoolOp .. => false
    | .IfExp .. => false
    | .Compare .. => false
    | _ => true) = true) : ∀ whole, isTrue e env whole = (do let v ← whole; standAt e.pos; holding [v] (truthy v)) := by
  intro whole
  cases e <;> first | rfl | cases h | (rename_i op _ _; cases op <;> first | rfl | cases h)
/-! ### lists of expressions -/
/-- each of them -/
def All2 (X : Cx) (st : Stat) (W : L2.WX) (T : Tab) (Φ : Phi) : List Expr → List E → Prop
  | [], [] => True
  | x :: xs, e :: es => PE X x (lE X st W (wE T Φ e)) ∧ All2 X st W T Φ xs es
  | _, _ => False
def PAs (X : Cx) : List Expr → List TE → Prop
  | [], [] => True
  | x :: xs, t :: ts => PE X x t ∧ PAs X xs ts
  | _, _ => False
variable {c : Cc} {T : Tab} {Φ : Phi}
theorem At.mono (G : Good X st W c T Φ) (e : E) (Q Q' : WD) (h : ∀ d S, Q d S → Q' d S) : wE T Φ e ρ S Q Ex → wE T Φ e ρ S Q' Ex := wE_mono G.mono e ρ S Q Q' Ex Ex h fun _ _ z => z
theorem At.e (G : Good X st W c T Φ) (a : At X st W σ H ρ S Ex) (e : E) {R : WD} {P : VK} (h : wE T Φ e ρ S R Ex)
    (k : ∀ d S1 v H1, R d S1 → Frm S H S1 H1 → RS (lay X st) S1 H1 → Rep (lay X st) H1 d v → P v H1) : lE X st W (wE T Φ e) σ H P :=
  a.seq (w := wE T Φ e) (fun Q Q' => At.mono G e Q Q') h k
/-- two in a row -/
theorem two (G : Good X st W c T Φ) {a b : E} {R : D → D → Sto → Prop} {P : V → V → Hp → Prop} (z : At X st W σ H ρ S Ex) (h : wE T Φ a ρ S (fun x S1 => wE T Φ b ρ S1 (fun y S2 => R x y S2) Ex) Ex)
    (k : ∀ x y S2 vx vy H2, R x y S2 → Frm S H S2 H2 → RS (lay X st) S2 H2 → Rep (lay X st) H2 x vx → Rep (lay X st) H2 y vy → P vx vy H2) :
    lE X st W (wE T Φ a) σ H fun vx H1 => lE X st W (wE T Φ b) σ H1 fun vy H2 => P vx vy H2 :=
  z.e G a h fun x S1 vx H1 q f r e => (z.step f r).e G b q fun y S2 vy H2 q2 f2 r2 e2 => k x y S2 vx vy H2 q2 (f.trans f2) r2 (e.ext (f2.ext r)) e2
theorem pa_of {xs : List Expr} {es : List E} (hn : xs.all noStar = true) (h : All2 X st W T Φ xs es) : PA X xs (es.foldr (fun e t => tCons (lE X st W (wE T Φ e)) t) tNil) := by
  induction xs generalizing es with
  | nil =>
    cases es with
    | nil => exact pa_nil
    | cons _ _ => exact h.elim
  | cons x xs ih =>
    cases es with
    | nil => exact h.elim
    | cons e es =>
      rw [List.all_cons, Bool.and_eq_true] at hn
      exact pa_cons h.1 (ih hn.2 h.2) (star_of hn.1)
theorem args_of (G : Good X st W c T Φ) : ∀ (es : List E) {S : Sto} {H : Hp} {R : List D → Sto → Prop} {P : List V → Hp → Prop}, At X st W σ H ρ S Ex → wEs T Φ es ρ S R Ex →
    (∀ ds S1 vs H1, R ds S1 → Frm S H S1 H1 → RS (lay X st) S1 H1 → Reps (lay X st) H1 ds vs → P vs H1) → es.foldr (fun e t => tCons (lE X st W (wE T Φ e)) t) tNil σ H P
  | [], S, H, R, P, z, h, k => by
    rw [wEs] at h
    exact k _ _ _ _ h .refl z.rs .nil
  | e :: es, S, H, R, P, z, h, k => by
    rw [wEs] at h
    exact z.e G e h fun d S1 v H1 q f r q1 => args_of G es (z.step f r) q fun ds S2 vs H2 q2 f2 r2 q3 => k _ _ _ _ q2 (f.trans f2) r2 (.cons (q1.ext (f2.ext r)) q3)
/-- built-in names -/
theorem Good.free (G : Good X st W c T Φ) {x : Str} (h : x ∈ bltNames) : X.mg x = none := G.blt x h
end
section
variable {X : Cx} {st : Stat} {W : L2.WX} {c : Cc} {T : Tab} {Φ : Phi}
theorem two_pe (G : Good X st W c T Φ) {x y e : Expr} {a b : E} {o : Op} {r : R2} (h1 : PE X x (lE X st W (wE T Φ a))) (h2 : PE X y (lE X st W (wE T Φ b)))
    (hr : ∀ t, (∀ σ H Q, lE X st W (wE T Φ (.op o [a, b])) σ H Q → t σ H Q) → t = tOp r (lE X st W (wE T Φ a)) (lE X st W (wE T Φ b)) → PE X e (lE X st W (wE T Φ (.op o [a, b]))))
    (hv : ∀ dx dy S H vx vy Q σ ρ Ex, At X st W σ H ρ S Ex → Rep (lay X st) H dx vx → Rep (lay X st) H dy vy → wO T Φ o [dx, dy] S (post (lay X st) S H Q) Ex → r vx vy H Q) : PE X e (lE X st W (wE T Φ (.op o [a, b]))) := by
  refine hr _ (fun σ H Q h => ?_) rfl
  obtain ⟨ρ, S, Ex, z, h⟩ := h
  rw [wE, wEs] at h
  simp only [wEs] at h
  exact two G z h fun x y S2 vx vy H2 q f r2 e1 e2 => hv x y S2 H2 vx vy Q σ ρ Ex (z.step f r2) e1 e2 (wO_mono G.mono (fun d S' w => w.step f) (fun _ _ w => w) q)
theorem weak {x : Expr} {t t' : TE} (h : PE X x t) (w : ∀ σ H Q, t' σ H Q → t σ H Q) : PE X x t' := ⟨fun pins s σ H Q I q => h.run pins s σ H Q I (w σ H Q q)⟩
theorem weakT {x : Expr} {t t' : TT} (h : PT X x t) (w : ∀ σ H Q, t' σ H Q → t σ H Q) : PT X x t' := ⟨fun pins s σ H Q I q => h.run pins s σ H Q I (w σ H Q q)⟩
end
end PD
set_option Elab.async false
set_option linter.all false
set_option maxRecDepth 100000
set_option maxHeartbeats 1000000
/-! PD: operations, from their parts. -/
namespace PD
open PySem PySem.Spec PyProof.Rows L2
section
variable {X : Cx} {st : Stat} {W : L2.WX} {c : Cc} {T : Tab} {Φ : Phi}
theorem all2_two {x y : Expr} {es : List E} (h : All2 X st W T Φ [x, y] es) : ∃ a b, es = [a, b] ∧ PE X x (lE X st W (wE T Φ a)) ∧ PE X y (lE X st W (wE T Φ b)) := by
  match es, h with
  | [a, b], h => exact ⟨a, b, rfl, h.1, h.2.1⟩
theorem all2_one {x : Expr} {es : List E} (h : All2 X st W T Φ [x] es) : ∃ a, es = [a] ∧ PE X x (lE X st W (wE T Φ a)) := by
  match es, h with
  | [a], h => exact ⟨a, rfl, h.1⟩
theorem lE_two (G : Good X st W c T Φ) {a b : E} {o : Op} {r : R2} (hv : ∀ dx dy S H vx vy Q σ ρ Ex, At X st W σ H ρ S Ex → Rep (lay X st) H dx vx → Rep (lay X st) H dy vy → wO T Φ o [dx, dy] S (post (lay X st) S H Q) Ex → r vx vy H Q)
    {σ H Q} (h : lE X st W (wE T Φ (.op o [a, b])) σ H Q) : tOp r (lE X st W (wE T Φ a)) (lE X st W (wE T Φ b)) σ H Q := by
  obtain ⟨ρ, S, Ex, z, h⟩ := h
  rw [wE, wEs] at h
  simp only [wEs] at h
  exact two G z h fun x y S2 vx vy H2 q f r2 e1 e2 => hv x y S2 H2 vx vy Q σ ρ Ex (z.step f r2) e1 e2 (wO_mono G.mono (fun d S' w => w.step f) (fun _ _ w => w) q)
/-- the arguments' values, then a rule by values -/
theorem lE_args (G : Good X st W c T Φ) {es : List E} {o : Op} {R : List V → Hp → VK → Prop} (hv : ∀ ds S H vs Q σ ρ Ex, At X st W σ H ρ S Ex → Reps (lay X st) H ds vs → wO T Φ o ds S (post (lay X st) S H Q) Ex → R vs H Q)
    {σ H Q} (h : lE X st W (wE T Φ (.op o es)) σ H Q) : es.foldr (fun e t => tCons (lE X st W (wE T Φ e)) t) tNil σ H (fun vs H1 => R vs H1 Q) := by
  obtain ⟨ρ, S, Ex, z, h⟩ := h
  rw [wE] at h
  exact args_of G es z h fun ds S1 vs H1 q f r e => hv ds S1 H1 vs Q σ ρ Ex (z.step f r) e (wO_mono G.mono (fun d S' w => w.step f) (fun _ _ w => w) q)
theorem lE_one (G : Good X st W c T Φ) {a : E} {o : Op} {R : V → Hp → VK → Prop} (hv : ∀ d S H v Q σ ρ Ex, At X st W σ H ρ S Ex → Rep (lay X st) H d v → wO T Φ o [d] S (post (lay X st) S H Q) Ex → R v H Q)
    {σ H Q} (h : lE X st W (wE T Φ (.op o [a])) σ H Q) : lE X st W (wE T Φ a) σ H (fun v H1 => R v H1 Q) := by
  obtain ⟨ρ, S, Ex, z, h⟩ := h
  rw [wE, wEs] at h
  simp only [wEs] at h
  exact z.e G a h fun d S1 v H1 q f r e => hv d S1 H1 v Q σ ρ Ex (z.step f r) e (wO_mono G.mono (fun d S' w => w.step f) (fun _ _ w => w) q)
theorem all2_ne {x : Expr} {xs : List Expr} {es : List E} (h : All2 X st W T Φ (x :: xs) es) : ∃ a as, es = a :: as := by
  match es, h with
  | a :: as, _ => exact ⟨a, as, rfl⟩
theorem blt_boot (b : Blt) : bltName b ∈ bltNames := by cases b <;> decide +kernel
theorem blt_rule (G : Good X st W c T Φ) (b : Blt) (n : Str) (id : String) (fn : Bool) (h : bltFn b = some (n, id, fn)) :
    CallR X (if fn = true then .builtin id else .type id) (fun vs H Q => ∃ ds S, RS (lay X st) S H ∧ Reps (lay X st) H ds vs ∧ wBlt b ds S (post (lay X st) S H Q)) := by
  intro pins s σ H vs us Q I r hh
  obtain ⟨ds, S, rs, hx, q⟩ := hh
  cases b <;> cases h
  case len =>
    match ds, hx, q with
    | [d], .cons r1 .nil, q => exact len_ok pins s σ H _ us Q I r ⟨_, _, S, rfl, rs, r1, q⟩
  case set =>
    match ds, hx, q with
    | [d], .cons r1 .nil, q => exact set_ok (by have := G.room2; omega) G.calm pins s σ H _ us Q I r ⟨_, _, S, rfl, rs, r1, q⟩
  case dict => exact dict_ok (by have := G.room2; omega) G.calm pins s σ H vs us Q I r ⟨ds, S, rs, hx, q⟩
  case all =>
    match ds, hx, q with
    | [d], .cons r1 .nil, q =>
      cases d with
      | ref p => exact all_ok G.calm pins s σ H _ us Q I r ⟨_, _, S, rfl, rs, r1, p, rfl, q⟩
      | _ => exact q.elim
    | [], .nil, q => exact q.elim
    | d :: _ :: _, _, q => cases d <;> exact q.elim
  case any =>
    match ds, hx, q with
    | [d], .cons r1 .nil, q =>
      cases d with
      | ref p => exact any_ok G.calm pins s σ H _ us Q I r ⟨_, _, S, rfl, rs, r1, p, rfl, q⟩
      | _ => exact q.elim
    | [], .nil, q => exact q.elim
    | d :: _ :: _, _, q => cases d <;> exact q.elim
  case sum =>
    match ds, hx, q with
    | [d], .cons r1 .nil, q =>
      cases d with
      | ref p => exact sum_ok G.calm pins s σ H _ us Q I r ⟨_, _, S, rfl, rs, r1, p, rfl, q⟩
      | _ => exact q.elim
    | [], .nil, q => exact q.elim
    | d :: _ :: _, _, q => cases d <;> exact q.elim
  case tuple =>
    match ds, hx, q with
    | [d], .cons r1 .nil, q => exact tuple_ok pins s σ H _ us Q I r ⟨_, _, S, rfl, rs, r1, q⟩
  case list =>
    match ds, hx, q with
    | [d], .cons r1 .nil, q => exact list_ok pins s σ H _ us Q I r ⟨_, _, S, rfl, rs, r1, q⟩
  case int =>
    match ds, hx, q with
    | [d], .cons r1 .nil, q => exact int_ok pins s σ H _ us Q I r ⟨_, _, S, rfl, rs, r1, q⟩
  case str =>
    match ds, hx, q with
    | [d], .cons r1 .nil, q => exact str_ok pins s σ H _ us Q I r ⟨_, _, S, rfl, rs, r1, q⟩
  case abs =>
    match ds, hx, q with
    | [d], .cons r1 .nil, q => exact abs_ok pins s σ H _ us Q I r ⟨_, _, S, rfl, rs, r1, q⟩
  case sorted =>
    match ds, hx, q with
    | [d], .cons r1 .nil, q => exact sorted_ok G.room G.calm pins s σ H _ us Q I r ⟨_, _, S, rfl, rs, r1, q⟩
  case repr =>
    match ds, hx, q with
    | [d], .cons r1 .nil, q => exact repr_ok G.room G.gd pins s σ H _ us Q I r ⟨_, _, S, rfl, rs, r1, q⟩
  case min =>
    match ds, hx, q with
    | [d, e], .cons r1 (.cons r2 .nil), q => exact min_ok G.calm pins s σ H _ us Q I r ⟨_, _, _, _, S, rfl, rs, r1, r2, q⟩
  case max =>
    match ds, hx, q with
    | [d, e], .cons r1 (.cons r2 .nil), q => exact max_ok G.calm pins s σ H _ us Q I r ⟨_, _, _, _, S, rfl, rs, r1, r2, q⟩
theorem bin_pe (G : Good X st W c T Φ) {b : Bin} {e : Expr} {xs : List Expr} {es : List E} (hp : prt c (.bin b) e = some xs) (ha : All2 X st W T Φ xs es) : PE X e (lE X st W (wE T Φ (.op (.bin b) es))) := by
  replace hp : prBin b e = some xs := hp
  unfold prBin at hp
  split at hp
  · split at hp
    · cases hp
      obtain ⟨a, b, rfl, h1, h2⟩ := all2_two ha
      rename_i hb
      rw [isB_ok hb]
      exact weak (pe_op (bin_ok _) h1 h2) fun σ H Q => lE_two G fun dx dy S H vx vy Q σ ρ Ex z e1 e2 h => ⟨dx, dy, S, z.rs, e1, e2, h⟩
    · cases hp
  · cases hp
theorem neg_pe (G : Good X st W c T Φ)  {e : Expr} {xs : List Expr} {es : List E} (hp : prt c .neg e = some xs) (ha : All2 X st W T Φ xs es) : PE X e (lE X st W (wE T Φ (.op .neg es))) := by
  replace hp : prNeg  e = some xs := hp
  unfold prNeg at hp
  split at hp
  · cases hp
    obtain ⟨a, rfl, h1⟩ := all2_one ha
    refine weak (pe_un un_neg h1) fun σ H Q => lE_one G fun d S H v Q σ ρ Ex z e1 h => ?_
    cases d with
    | int i => cases e1; exact ⟨_, rfl, h.now z.rs .int⟩
    | _ => exact h.elim
  · cases hp
theorem idx_pe (G : Good X st W c T Φ)  {e : Expr} {xs : List Expr} {es : List E} (hp : prt c .idx e = some xs) (ha : All2 X st W T Φ xs es) : PE X e (lE X st W (wE T Φ (.op .idx es))) := by
  replace hp : prIdx  e = some xs := hp
  unfold prIdx at hp
  split at hp
  · split at hp
    · cases hp
      rename_i hb
      obtain ⟨a, b, rfl, h1, h2⟩ := all2_two ha
      exact weak (pe_ix (ix_ok G.room) h1 h2 (plainIx_of hb)) fun σ H Q => lE_two G fun dx dy S H vx vy Q σ ρ Ex z e1 e2 h => ⟨dx, dy, S, z.rs, e1, e2, h⟩
    · cases hp
  · cases hp
theorem rev_pe (G : Good X st W c T Φ)  {e : Expr} {xs : List Expr} {es : List E} (hp : prt c .rev e = some xs) (ha : All2 X st W T Φ xs es) : PE X e (lE X st W (wE T Φ (.op .rev es))) := by
  replace hp : prRev  e = some xs := hp
  unfold prRev at hp
  split at hp
  · cases hp
    obtain ⟨a, rfl, h1⟩ := all2_one ha
    refine weak (pe_revL h1) fun σ H Q => lE_one G (R := fun x H1 Q => ∃ a xs, x = .ref a ∧ SqL X.K H1 a xs ∧ ∀ p, H1 p = none → Q (.ref p) (upd H1 p (.lst xs.reverse))) fun d S H v Q σ ρ Ex z e1 h => ?_
    cases d with
    | ref a =>
      obtain ⟨xs, h2, h3⟩ := h
      obtain ⟨p, vs, rfl, r, h4 | h4⟩ := z.rs.seq h2 e1
      · obtain ⟨h4, _⟩ := h4
        exact ⟨_, _, rfl, h4, fun p hp => post.new z.rs h3 hp (.lst (r.reverse.ext (Ext.upd_new hp)))⟩
      · cases h4.2
    | _ => exact h.elim
  · cases hp
theorem tup_pe (G : Good X st W c T Φ)  {e : Expr} {xs : List Expr} {es : List E} (hp : prt c .tup e = some xs) (ha : All2 X st W T Φ xs es) : PE X e (lE X st W (wE T Φ (.op .tup es))) := by
  replace hp : prTup  e = some xs := hp
  unfold prTup at hp
  split at hp
  · split at hp
    · cases hp
      rename_i hb
      refine weak (pe_tup (pa_of hb ha)) fun σ H Q => lE_args G (R := fun xs H1 Q => xs.length ≤ sizeLine ∧ ∀ p, H1 p = none → Q (.ref p) (upd H1 p (.tup xs))) fun ds S H vs Q σ ρ Ex z e1 h => ?_
      exact ⟨by rw [← e1.length]; exact h.1, fun p hp => post.tup z.rs h.2 e1 hp⟩
    · cases hp
  · cases hp
theorem lst_pe (G : Good X st W c T Φ)  {e : Expr} {xs : List Expr} {es : List E} (hp : prt c .lst e = some xs) (ha : All2 X st W T Φ xs es) : PE X e (lE X st W (wE T Φ (.op .lst es))) := by
  replace hp : prLst  e = some xs := hp
  unfold prLst at hp
  split at hp
  · split at hp
    · cases hp
      rename_i hb
      refine weak (pe_lst (pa_of hb ha)) fun σ H Q => lE_args G (R := fun xs H1 Q => xs.length ≤ sizeLine ∧ ∀ p, H1 p = none → Q (.ref p) (upd H1 p (.lst xs))) fun ds S H vs Q σ ρ Ex z e1 h => ?_
      exact ⟨by rw [← e1.length]; exact h.1, fun p hp => post.new z.rs h.2 hp (.lst (e1.ext (Ext.upd_new hp)))⟩
    · cases hp
  · cases hp
theorem inter_shape : ∀ {ks : List (Option Expr)} {vs : List Expr} {xs : List Expr}, inter ks vs = some xs → ks.all (·.isSome) = true ∧ ks.length = vs.length
  | [], [], _, _ => ⟨rfl, rfl⟩
  | some k :: ks, v :: vs, xs, h => by
    have h : (inter ks vs).map (fun r => k :: v :: r) = some xs := h
    obtain ⟨r, h1, _⟩ := Option.map_eq_some_iff.mp h
    obtain ⟨h2, h3⟩ := inter_shape h1
    refine ⟨?_, by simp [h3]⟩
    rw [List.all_cons, h2]; rfl
  | none :: _, _, _, h => by cases h
  | [], _ :: _, _, h => by cases h
  | some _ :: _, [], _, h => by cases h
theorem pairs_run (G : Good X st W c T Φ) {pins : List (Addr × Obj)} {σ : L2.St} {ρ : Rho} {Ex : PD.WX} {pos : Pos} : ∀ {ks : List (Option Expr)} {vs : List Expr} {xs : List Expr} {es : List E} {S : Sto} {H : Hp} {s : Shared} {R : List PD.D → Sto → Prop}, inter ks vs = some xs → All2 X st W T Φ xs es → Inv X pins σ H s → At X st W σ H ρ S Ex → wEs T Φ es ρ S R Ex →
    wpAny (model X.prog X.w) X.A (evalPairs (pairTrees ks vs X.env pos)) (fun us s' => ∃ ds S' H', R ds S' ∧ Frm S H S' H' ∧ At X st W σ H' ρ S' Ex ∧ Inv X pins σ H' s' ∧ RepsP (lay X st) H' ds us) X.xe s
  | [], [], xs, es, S, H, s, R, h, ha, I, z, hw => by
    cases h
    match es, ha, hw with
    | [], _, hw =>
      rw [wEs] at hw
      exact evalPairs_nil ⟨[], S, H, hw, .refl, z, I, .nil⟩
  | some k :: ks, v :: vs, xs, es, S, H, s, R, h, ha, I, z, hw => by
    have h : (inter ks vs).map (fun r => k :: v :: r) = some xs := h
    obtain ⟨r, h1, rfl⟩ := Option.map_eq_some_iff.mp h
    match es, ha, hw with
    | a :: b :: es, ha, hw =>
      rw [wEs] at hw
      refine pairTrees_cons_walk (thn (ha.1.run pins s σ H _ I (z.e G a hw (P := fun x H1 => ∃ d S1, wEs T Φ (b :: es) ρ S1 (fun ds S2 => R (d :: ds) S2) Ex ∧ Frm S H S1 H1 ∧ At X st W σ H1 ρ S1 Ex ∧ Rep (lay X st) H1 d x) fun d S1 x H1 q f r e => ⟨d, S1, q, f, z.step f r, e⟩)) fun u s1 ⟨x, H1, I1, ru, d, S1, q1, f1, z1, e1⟩ => ?_)
      rw [wEs] at q1
      refine thn (ha.2.1.run pins s1 σ H1 _ I1 (z1.e G b q1 (P := fun y H2 => ∃ d2 S2, wEs T Φ es ρ S2 (fun ds S3 => R (d :: d2 :: ds) S3) Ex ∧ Frm S1 H1 S2 H2 ∧ At X st W σ H2 ρ S2 Ex ∧ Rep (lay X st) H2 d2 y) fun d2 S2 y H2 q f r e => ⟨d2, S2, q, f, z1.step f r, e⟩)) fun w s2 ⟨y, H2, I2, rw_, d2, S2, q2, f2, z2, e2⟩ => ?_
      refine wpAny_mono (pairs_run G h1 ha.2.2 I2 z2 q2) (fun us s3 ⟨ds, S3, H3, q3, f3, z3, I3, r3⟩ => ?_) fun _ _ e => e
      exact ⟨d :: d2 :: ds, S3, H3, q3, (f1.trans f2).trans f3, z3, I3, .cons (e1.ext ((f2.trans f3).ext z1.rs)) ru (e2.ext (f3.ext z2.rs)) rw_ r3⟩
  | none :: _, _, _, _, _, _, _, _, h, _, _, _, _ => by cases h
  | [], _ :: _, _, _, _, _, _, _, h, _, _, _, _ => by cases h
  | some _ :: _, [], _, _, _, _, _, _, h, _, _, _, _ => by cases h
theorem dct_pe (G : Good X st W c T Φ)  {e : Expr} {xs : List Expr} {es : List E} (hp : prt c .dct e = some xs) (ha : All2 X st W T Φ xs es) : PE X e (lE X st W (wE T Φ (.op .dct es))) := by
  replace hp : prDct  e = some xs := hp
  unfold prDct at hp
  split at hp
  · split at hp
    · rename_i ks vs pos h15
      obtain ⟨hall, hl⟩ := inter_shape hp
      by_cases h0 : ks = []
      · subst h0
        have hv : vs = [] := List.eq_nil_of_length_eq_zero hl.symm
        subst hv
        cases hp
        match es, ha with
        | [], _ =>
          refine weak pe_dnewK fun σ H Q h p hp => ?_
          obtain ⟨ρ, S, Ex, z, h⟩ := h
          rw [wE, wEs] at h
          exact post.new z.rs (show PD.new (.dct []) S (post (lay X st) S H Q) from h) hp (.dK .nil List.nodup_nil)
      · refine ⟨fun pins s σ H Q I h => ?_⟩
        obtain ⟨ρ, S, Ex, z, h⟩ := h
        rw [wE] at h
        have hn := I.hok.fresh (Nat.le_refl s.heap.objs.size)
        have I1 := I.laid (a := s.heap.objs.size) (o := .dK []) (h' := s.heap.push { cls := .type "dict", data := .dict #[] }) (t' := s.toks) (fun _ _ q => Heap.get?_push_of_some _ q) (Nat.le_refl _) (dk_empty s.heap I.big)
        have hpl := pairTrees_length ks vs X.env pos hall hl
        rw [arm_eval_Dict, zip_pairTrees ks vs X.env pos hall hl, dictDisplay_pairs _ (fun e => h0 (List.length_eq_zero_iff.mp (by rw [← hpl, e]; rfl))) (by omega)]
        have z1 : At X st W σ (upd H s.heap.objs.size (.dK [])) ρ S Ex := z.step (Frm.side hn) (z.rs.side hn)
        refine wpAny_bind (wpAny_standAt (wpAny_bind (subDict_own (by omega) (wpAny_mono (pairs_run G hp ha I1 z1 h) (fun us s1 ⟨ds, S1, H1, q, f, z2, I2, r⟩ => ?_) fun _ _ e => e))))
        obtain ⟨hD1, hD2⟩ := f.1 _ _ upd_same (z.rs.free hn)
        have rs2 := z2.rs.tell hD1 (show ROk (lay X st) H1 (.dct []) s.heap.objs.size (.dK []) from .dK .nil List.nodup_nil)
        refine disp_store G.room _ us ds [] (PD.put S1 s.heap.objs.size (.dct [])) H1 s1 I2 rs2 put_same r q fun acc' S' H' s' p i' r' e' hb => wpAny_pure ⟨.ref s.heap.objs.size, H', i', rfl, ?_⟩
        rw [put_put] at e'
        subst e'
        refine p s.heap.objs.size hD2 _ _ ⟨fun b ho e k => ?_, fun b ob u e => ?_⟩ r' .ref
        · have nb : b ≠ s.heap.objs.size := ne_of_none e hn
          obtain ⟨g1, g2⟩ := f.1 b ho (by rw [upd_ne nb]; exact e) k
          exact ⟨by rw [hb b nb]; exact g1, by rw [put_ne nb]; exact g2⟩
        · have nb : b ≠ s.heap.objs.size := ne_of_none e hn
          rw [hb b nb]
          exact f.2 b ob u (by rw [upd_ne nb]; exact e)
    · cases hp
  · cases hp
theorem blt_pe (G : Good X st W c T Φ) {b : Blt} {e : Expr} {xs : List Expr} {es : List E} (hp : prt c (.blt b) e = some xs) (ha : All2 X st W T Φ xs es) : PE X e (lE X st W (wE T Φ (.op (.blt b) es))) := by
  replace hp : prBlt c b e = some xs := hp
  unfold prBlt at hp
  split at hp
  · split at hp
    · cases hp
      rename_i hb
      simp only [Bool.and_eq_true, decide_eq_true_eq, Bool.not_eq_true'] at hb
      obtain ⟨g1, g2, g3, g4, g5⟩ := hb
      obtain ⟨hgl, hdb, hnm⟩ := glo_of G.sc g1
      obtain ⟨⟨n', id, fn⟩, hf⟩ := Option.isSome_iff_exists.mp g3
      have rule := blt_rule (st := st) G b n' id fn hf
      match xs, es, ha, g4, g5 with
      | x :: xs, a :: as, ha, g4, g5 =>
        have pa := pa_of g4 ha
        have fin : ∀ σ H Q, lE X st W (wE T Φ (.op (.blt b) (a :: as))) σ H Q → tCB (fun vs H Q => ∃ ds S, RS (lay X st) S H ∧ Reps (lay X st) H ds vs ∧ wBlt b ds S (post (lay X st) S H Q)) ((a :: as).foldr (fun e t => tCons (lE X st W (wE T Φ e)) t) tNil) σ H Q := fun σ H Q h =>
          lE_args (o := .blt b) (R := fun vs H Q => ∃ ds S, RS (lay X st) S H ∧ Reps (lay X st) H ds vs ∧ wBlt b ds S (post (lay X st) S H Q)) G (fun ds S H vs Q σ ρ Ex z e1 h => ⟨ds, S, z.rs, e1, h⟩) h
        have hfr := G.free (blt_boot b)
        rw [← g2] at hfr
        rw [List.all_cons, Bool.and_eq_true] at g4
        subst g2
        cases b <;> cases hf
        case len => exact weak (pe_callB (id := "len") rule hgl hfr (by decide +kernel) pa hnm hdb (star_of g4.1) (plain_of g4.2)) fin
        case all => exact weak (pe_callB (id := "all") rule hgl hfr (by decide +kernel) pa hnm hdb (star_of g4.1) (plain_of g4.2)) fin
        case any => exact weak (pe_callB (id := "any") rule hgl hfr (by decide +kernel) pa hnm hdb (star_of g4.1) (plain_of g4.2)) fin
        case min => exact weak (pe_callB (id := "min") rule hgl hfr (by decide +kernel) pa hnm hdb (star_of g4.1) (plain_of g4.2)) fin
        case max => exact weak (pe_callB (id := "max") rule hgl hfr (by decide +kernel) pa hnm hdb (star_of g4.1) (plain_of g4.2)) fin
        case sum => exact weak (pe_callB (id := "sum") rule hgl hfr (by decide +kernel) pa hnm hdb (star_of g4.1) (plain_of g4.2)) fin
        case sorted => exact weak (pe_callB (id := "sorted") rule hgl hfr (by decide +kernel) pa hnm hdb (star_of g4.1) (plain_of g4.2)) fin
        case repr => exact weak (pe_callB (id := "repr") rule hgl hfr (by decide +kernel) pa hnm hdb (star_of g4.1) (plain_of g4.2)) fin
        case abs => exact weak (pe_callB (id := "abs") rule hgl hfr (by decide +kernel) pa hnm hdb (star_of g4.1) (plain_of g4.2)) fin
        case tuple => exact weak (pe_callTy (T := "tuple") rule hgl hfr (by decide +kernel) pa hnm hdb (star_of g4.1) (plain_of g4.2)) fin
        case set => exact weak (pe_callTy (T := "set") rule hgl hfr (by decide +kernel) pa hnm hdb (star_of g4.1) (plain_of g4.2)) fin
        case dict => exact weak (pe_callTy (T := "dict") rule hgl hfr (by decide +kernel) pa hnm hdb (star_of g4.1) (plain_of g4.2)) fin
        case list => exact weak (pe_callTy (T := "list") rule hgl hfr (by decide +kernel) pa hnm hdb (star_of g4.1) (plain_of g4.2)) fin
        case int => exact weak (pe_callTy (T := "int") rule hgl hfr (by decide +kernel) pa hnm hdb (star_of g4.1) (plain_of g4.2)) fin
        case str => exact weak (pe_callTy (T := "str") rule hgl hfr (by decide +kernel) pa hnm hdb (star_of g4.1) (plain_of g4.2)) fin
    · cases hp
  · cases hp
end
end PD
set_option Elab.async false
set_option linter.all false
set_option maxRecDepth 100000
set_option maxHeartbeats 1000000
/-! PD: calls. -/
namespace PD
open PySem PySem.Spec PyProof.Rows L2
/-- room, and no repr is under way -/
structure RoomG (k : Nat) (A : Around) : Prop extends Room k A where
  gd : A.guards = some []
theorem RoomG.mono {j k : Nat} {A : Around} (r : RoomG k A) (h : j ≤ k) : RoomG j A := ⟨r.toRoom.mono h, r.gd⟩
theorem RoomG.in1 {k : Nat} {A : Around} (r : RoomG (k + 1) A) : RoomG k A.in1 := ⟨r.toRoom.in1, r.gd⟩
theorem RoomG.make {k : Nat} {A : Around} (r : RoomG (k + 1) A) (C : Addr) (us : List Value) (kw : List (Str × Value)) : RoomG k (A.under (.builtin "type.__call__" ⟨.ref C :: us, kw⟩)) :=
  ⟨r.toRoom.make C us kw, by
    show pushGuards (Code.guards (.builtin "type.__call__" ⟨.ref C :: us, kw⟩)) A.guards = some []
    rw [r.gd]
    have e : Code.guards (.builtin "type.__call__" ⟨.ref C :: us, kw⟩) = [] := by
      have g : Code.isGuard (.builtin "type.__call__" ⟨.ref C :: us, kw⟩) = false := by
        show guardIds.contains "type.__call__" = false
        decide +kernel
      unfold Code.guards
      rw [g]
      rfl
    rw [e]
    rfl⟩
abbrev layP (P : Program) (w : World) (K : PySem.W.Frag) (st : Stat) : Lay := ⟨P, w, K, st.fa, st.ca, st.nm⟩
/-- what is wanted of an exception, told of data -/
def XOkE (L : Lay) (S : Sto) (H : Hp) (Ex : PD.WX) (E : XK) : Prop := ∀ x S' cls d H', Frm S H S' H' → RS L S' H' → XRep L H' x cls d → Ex x S' → E cls d H'
/-- the names of parameters by place -/
def kwNames (kws : List (List Str)) (f : Nat) (kw : List Nat) : List Str := kw.map fun i => (kws.getD f []).getD i default
/-- the defs keep what the data say, by level k -/
def FnP (P : Program) (w : World) (K : PySem.W.Frag) (mg : Str → Option Value) (base : Heap) (st : Stat) (kws : List (List Str)) (T : Tab) (Φ : Phi) (k : Nat) : Prop :=
  ∀ (f : Nat) (fn : Fn) (A : Around) (outer : List Env) (s : Shared) (H : Hp) (us kus : List Value) (vs kvs : List V) (ds kds : List D) (kw : List Nat) (ps : List D) (S : Sto) (Ex : PD.WX) (Q : VK) (E : XK),
    RoomG (2 * k) A → Env0 P w K mg base A outer s H → T.fs[f]? = some fn → Vals vs us → Reps (layP P w K st) H ds vs → Vals kvs kus → Reps (layP P w K st) H kds kvs → kw.length = kds.length →
    (∀ i ∈ kw, i < (kws.getD f []).length) → RS (layP P w K st) S H → XOkE (layP P w K st) S H Ex E → bindF fn ds (kw.zip kds) = some ps → Φ f ps S (post (layP P w K st) S H Q) Ex →
    codeAny (model P w) A (.call (.ref (st.fa f)) ⟨us, (kwNames kws f kw).zip kus⟩) (CR (L2.CX P w) outer P w H s Q E) s
/-- a class as it stands -/
structure ClsF (K : PySem.W.Frag) (st : Stat) (nm : List Str) (c : Nat) (k : Cl) : Prop where
  cls : Cls K (st.ca c)
  noat : ∀ f n, nm[f]? = some n → k.ms.lookup f = none → NoAttr K (st.ca c) n
  mkr : ∀ g, k.init = some g → Mk K (st.ca c) (st.fa g)
  meth : ∀ f n g, nm[f]? = some n → k.ms.lookup f = some (.plain, g) → Meth K (st.ca c) n (st.fa g)
  prop : ∀ f n g, nm[f]? = some n → k.ms.lookup f = some (.prop, g) → ∃ p, PropOf K (st.ca c) n p (st.fa g)
  cm : ∀ f n g, nm[f]? = some n → k.ms.lookup f = some (.cm, g) → ∃ p mc, ClX.CMet K (st.ca c) mc n p (st.fa g) ∧ ClX.CRead K (st.ca c) mc
  eqm : ∀ g, k.eqm = some g → PySem.W.findIn K (.ref (st.ca c)) "__eq__" = some (some (.ref (st.fa g))) ∧ PySem.W.isFn K (.ref (st.fa g)) = true ∧ PySem.W.findIn K (.ref (st.ca c)) "__ne__" = some (some (.builtin "object.__ne__"))
  own : PySem.W.findIn K (.ref (st.ca c)) "__class__" = some (some (.builtin "object.__class__")) ∧ PySem.W.specialIn K (.builtin "object.__class__") "__get__" = some (some (.builtin "getset_descriptor.__get__")) ∧
    PySem.W.takesIn K (.builtin "object.__class__") = some true ∧ PySem.W.mroIn K (st.ca c) (.type "object") = some true
/-- what stands behind all calls -/
structure World0 (X : Cx) (st : Stat) (c : Cc) (T : Tab) (Φ : Phi) (k : Nat) : Prop where
  fnp : FnP X.prog X.w X.K X.mg X.base st c.kws T Φ k
  hr : RoomG (2 * k + 1) X.A
  keep : ∀ f fn, T.fs[f]? = some fn → PySem.W.keepIn X.K (.ref (st.fa f)) = true
  cls : ∀ i (k : Cl), T.cl i = some k → ClsF X.K st c.nm i k
  keepC : ∀ i (k : Cl), T.cl i = some k → PySem.W.keepIn X.K (.ref (st.ca i)) = true
  isi : ∀ i (k : Cl), T.cl i = some k → (∀ n ∈ ["int", "bool", "str", "tuple", "list", "dict", "NoneType"], PySem.W.kitOne X.K (.type n) (.ref (st.ca i)) = some false) ∧
    (∀ j (k' : Cl), T.cl j = some k' → PySem.W.kitOne X.K (.ref (st.ca j)) (.ref (st.ca i)) = some (j == i)) ∧ (∀ n ∈ ["int", "bool", "str", "tuple", "list", "dict"], PySem.W.kitOne X.K (.ref (st.ca i)) (.type n) = some false)
section
variable {X : Cx} {st : Stat} {W : L2.WX} {c : Cc} {T : Tab} {Φ : Phi} {k : Nat} {pins : List (Addr × Obj)} {σ : L2.St} {H : Hp} {s : Shared} {S : Sto} {Ex : PD.WX} {Q : VK} {ρ : Rho}
theorem fin_call {E : XK} (G : Good X st W c T Φ) (I : Inv X pins σ H s) (hE : E = WE W σ) {r : Result} {s' : Shared} (hq : CR (L2.CX X.prog X.w) X.stack X.prog X.w H s Q E r s') :
    match r with
    | .ok (.ret u) => EP X pins σ Q u s'
    | .ok _ => False
    | .error e => X.xe e s' := by
  subst hE
  cases r with
  | error e => exact passAt G.tk σ pins H s e s' I hq
  | ok fl =>
    cases fl with
    | ret u => exact I.after hq
    | next => exact False.elim hq
    | brk => exact False.elim hq
    | cont => exact False.elim hq
/-- a def called by values -/
theorem call_val (G : Good X st W c T Φ) (Z : World0 X st c T Φ k) (I : Inv X pins σ H s) (z : At X st W σ H ρ S Ex) {f : Nat} {kw : List Nat} {us kus : List Value} {vs kvs : List V} {ds kds : List D} (r : Vals vs us) (q : Reps (lay X st) H ds vs) (rk : Vals kvs kus)
    (qk : Reps (lay X st) H kds kvs) (hk : kw.length = kds.length) (hn : ∀ i ∈ kw, i < (c.kws.getD f []).length) (h : wCall T Φ f kw (ds ++ kds) S (post (lay X st) S H Q) Ex) :
    wpAny (model X.prog X.w) X.A (call (.ref (st.fa f)) us ((kwNames c.kws f kw).zip kus)) (EP X pins σ Q) X.xe s := by
  obtain ⟨fn, ps, h1, h2, h3⟩ := h
  have e1 : (splitKw kw (ds ++ kds)).1 = ds := by unfold splitKw; rw [List.length_append, hk]; simp
  have e2 : (splitKw kw (ds ++ kds)).2 = kw.zip kds := by unfold splitKw; rw [List.length_append, hk]; simp
  rw [e1, e2] at h2
  refine wpAny_call (codeAny_mono (Z.fnp f fn X.A X.stack s H us kus vs kvs ds kds kw ps S Ex Q (WE W σ) (Z.hr.mono (by omega)) I.env0 h1 r q rk qk hk hn z.rs (fun x S' cls d H' f' r' x' e' => z.xo x S' cls d H' f' r' x' e') h2 h3) fun r s' hq => ?_)
  have := fin_call G I rfl hq
  cases r with
  | error e => exact this
  | ok fl => cases fl <;> first | exact this | exact this.elim
/-! ### arguments, then the call -/
section
variable {pos : Pos} {f : Value} {first : List Value} {P : Value → Shared → Prop} {xs : List Expr} {es : List E} {R : List D → Sto → Prop}
/-- what keeps the callee while the arguments come -/
abbrev Keeps (X : Cx) (f : Value) (KP : Heap → Prop) : Prop := ∀ h, KP h → ∃ k, (k = Keeper.frame ∨ k = Keeper.machine ∨ k = Keeper.boundFrame) ∧ PySem.W.Looks (model X.prog X.w) h (keeperOf f) k
theorem callW {KP : Heap → Prop} (G : Good X st W c T Φ) (hn : xs.all noStar = true) (ha : All2 X st W T Φ xs es) (hk : Keeps X f KP) (kp : ∀ (H : Hp) (s : Shared), Inv X pins σ H s → KP s.heap) (I : Inv X pins σ H s) (z : At X st W σ H ρ S Ex) (h : wEs T Φ es ρ S R Ex)
    (k : ∀ ds S1 H1 vs us s1, R ds S1 → Frm S H S1 H1 → At X st W σ H1 ρ S1 Ex → Inv X pins σ H1 s1 → Vals vs us → Reps (lay X st) H1 ds vs → wpAny (model X.prog X.w) X.A (call f (first ++ us)) P X.xe s1) :
    wpAny (model X.prog X.w) X.A (callWith pos f first (backTo pos (starEach xs X.env)) []) P X.xe s := by
  cases xs with
  | nil =>
    cases es with
    | cons _ _ => exact ha.elim
    | nil =>
      rw [wEs] at h
      exact PySem.W.callWith_of rfl hk (PyProof.Rows.evalArgs_nil3 ⟨kp H s I, k [] S H [] [] s h .refl z I .nil .nil⟩)
  | cons x xs =>
    obtain ⟨a, as, rfl⟩ := all2_ne ha
    have hn' := hn
    rw [List.all_cons, Bool.and_eq_true] at hn'
    have pl := plain_of (env := X.env) (pos := pos) hn'.2
    have run := (pa_of hn ha).run pos pins s σ H _ I (args_of G (a :: as) z h (P := fun vs H1 => ∃ ds S1, R ds S1 ∧ Frm S H S1 H1 ∧ At X st W σ H1 ρ S1 Ex ∧ Reps (lay X st) H1 ds vs) fun ds S1 vs H1 q f r e => ⟨ds, S1, q, f, z.step f r, e⟩)
    rw [star_of hn'.1] at run ⊢
    refine PySem.W.callWith_of (by show ((false || (backTo pos (starEach xs X.env)).any (·.1)) || false) = false; rw [pl]; rfl) hk (PySem.Calls.evalArgs_plain (thn run fun us s1 ⟨vs, H1, I1, r, ds, S1, q, f, a1, e⟩ => ?_))
    exact ⟨kp H1 s1 I1, k ds S1 H1 vs us s1 q f a1 I1 r e⟩
theorem wEs_len (G : Good X st W c T Φ) : ∀ (es : List E) {S : Sto} {R : List D → Sto → Prop}, wEs T Φ es ρ S R Ex → wEs T Φ es ρ S (fun ds S' => ds.length = es.length ∧ R ds S') Ex
  | [], S, R, h => by rw [wEs] at h ⊢; exact ⟨rfl, h⟩
  | e :: es, S, R, h => by
    rw [wEs] at h ⊢
    refine wE_mono G.mono e _ _ _ _ _ _ (fun d S1 q => ?_) (fun _ _ q => q) h
    exact wEs_mono G.mono es _ _ _ _ _ _ (fun ds S2 q => ⟨by simp [q.1], q.2⟩) (fun _ _ q => q) (wEs_len G es q)
theorem starOk_ne : ∀ {xs ys : List Expr}, starOk true xs = some ys → ys ≠ []
  | [], _, h => by cases h
  | [x], ys, h => by
    cases x with
    | Starred e p => cases h; simp
    | _ =>
      have h : (if noStar _ = true then (starOk true []).map (_ :: ·) else none) = some ys := h
      split at h <;> cases h
  | x :: y :: xs, ys, h => by
    have h' : (if noStar x = true then (starOk true (y :: xs)).map (x :: ·) else none) = some ys := by
      cases x <;> exact h
    split at h'
    · obtain ⟨zs, h1, rfl⟩ := Option.map_eq_some_iff.mp h'
      simp
    · cases h'
theorem all2_len : ∀ {xs : List Expr} {es : List E}, All2 X st W T Φ xs es → xs.length = es.length
  | [], [], _ => rfl
  | x :: xs, e :: es, h => by simp [all2_len h.2]
  | [], _ :: _, h => h.elim
  | _ :: _, [], h => h.elim
/-- with a star at the end -/
theorem star_pa : ∀ (xs ys : List Expr) (es : List E), starOk true xs = some ys → All2 X st W T Φ ys es → ∃ t, PA X xs t ∧ (∀ (G : Good X st W c T Φ) {S : Sto} {H : Hp} {R : List D → Sto → Prop} {P : List V → Hp → Prop}, At X st W σ H ρ S Ex → wEs T Φ es ρ S R Ex →
    (∀ ds S1 vs H1, ds.length = es.length → R ds S1 → Frm S H S1 H1 → RS (lay X st) S1 H1 → Reps (lay X st) H1 ds vs → ∃ p ws us, vs = ws ++ [.ref p] ∧ (SqT X.K H1 p us ∨ SqL X.K H1 p us) ∧ P (ws ++ us) H1) → t σ H P) ∧
    (xs.any fun x => !noStar x) = true
  | [], ys, es, h, ha => by cases h
  | [x], ys, es, h, ha => by
    cases x with
    | Starred e p =>
      cases h
      obtain ⟨a, rfl, h1⟩ := all2_one ha
      refine ⟨_, StX.pa_star h1 pa_nil, fun G {S H R P} z q k => ?_, rfl⟩
      rw [wEs] at q
      refine z.e G a q fun d S1 v H1 q1 f r e => ?_
      rw [wEs] at q1
      obtain ⟨p', ws, us, e1, e2, e3⟩ := k [d] S1 [v] H1 rfl q1 f r (.cons e .nil)
      have hw : ws = [] := by
        cases ws with
        | nil => rfl
        | cons w ws => simp at e1
      subst hw
      rw [List.nil_append] at e1 e3
      cases e1
      exact ⟨p', us, rfl, e2, by
        show P (us ++ []) H1
        rw [List.append_nil]; exact e3⟩
    | _ =>
      have h : (if noStar _ = true then (starOk true []).map (_ :: ·) else none) = some ys := h
      split at h <;> cases h
  | x :: y :: xs, ys, es, h, ha => by
    have h' : (if noStar x = true then (starOk true (y :: xs)).map (x :: ·) else none) = some ys := by
      cases x <;> exact h
    split at h'
    · rename_i hx
      obtain ⟨zs, h1, rfl⟩ := Option.map_eq_some_iff.mp h'
      obtain ⟨a, as, rfl⟩ := all2_ne ha
      obtain ⟨t, pt, run, an⟩ := star_pa (y :: xs) zs as h1 ha.2
      refine ⟨_, pa_cons ha.1 pt (star_of hx), fun G {S H R P} z q k => ?_, ?_⟩
      · rw [wEs] at q
        refine z.e G a q fun d S1 v H1 q1 f r e => run G (z.step f r) q1 fun ds S2 vs H2 hln q2 f2 r2 e2 => ?_
        obtain ⟨p', ws, us, e3, e4, e5⟩ := k (d :: ds) S2 (v :: vs) H2 (by simp [hln]) q2 (f.trans f2) r2 (.cons (e.ext (f2.ext r)) e2)
        cases ws with
        | nil =>
          have hl := e2.length
          simp only [List.nil_append, List.cons.injEq] at e3
          obtain ⟨e6, e7⟩ := e3
          subst e7
          have l1 := all2_len ha.2
          have l2 := starOk_ne h1
          have l3 : zs.length = 0 := by rw [l1, ← hln, hl]; rfl
          exact absurd (List.length_eq_zero_iff.mp l3) l2
        | cons w ws =>
          simp only [List.cons_append, List.cons.injEq] at e3
          obtain ⟨rfl, rfl⟩ := e3
          exact ⟨p', ws, us, rfl, e4, e5⟩
      · rw [List.any_cons, an, Bool.or_true]
    · cases h'
theorem any_of {env : Env} {pos : Pos} : ∀ {xs : List Expr}, (xs.any fun x => !noStar x) = true → (backTo pos (starEach xs env)).any (·.1) = true
  | [], h => by cases h
  | x :: xs, h => by
    rw [List.any_cons, Bool.or_eq_true] at h
    by_cases hx : noStar x = true
    · rw [star_of hx]
      show (false || (backTo pos (starEach xs env)).any (·.1)) = true
      rw [Bool.false_or]
      refine any_of ?_
      rcases h with h | h
      · rw [hx] at h; cases h
      · exact h
    · cases x <;> first | rfl | exact absurd rfl hx
theorem last_seq {L : Lay} {S1 : Sto} {H1 : Hp} {ds ds' : List D} {vs : List V} (rs : RS L S1 H1) (e : Reps L H1 ds vs) (h : lastStar S1 true ds = some ds') : ∃ p ws us, vs = ws ++ [.ref p] ∧ (SqT L.K H1 p us ∨ SqL L.K H1 p us) ∧ Reps L H1 ds' (ws ++ us) := by
  have h : (ds.getLast?).bind (fun x => (seqOf S1 x).map (ds.dropLast ++ ·)) = some ds' := h
  obtain ⟨x, h1, h2⟩ := Option.bind_eq_some_iff.mp h
  obtain ⟨ys, h3, rfl⟩ := Option.map_eq_some_iff.mp h2
  have hds : ds = ds.dropLast ++ [x] := by
    rw [List.getLast?_eq_some_iff] at h1
    obtain ⟨zs, rfl⟩ := h1
    simp
  rw [hds] at e
  obtain ⟨w1, w2, rfl, r1, r2⟩ := Reps.split e
  cases r2 with
  | cons r3 r4 =>
    cases r4
    obtain ⟨p, us, rfl, q, h4⟩ := rs.seq h3 r3
    refine ⟨p, w1, us, rfl, ?_, r1.append q⟩
    rcases h4 with h4 | h4
    · exact .inr h4.1
    · exact .inl h4.1
theorem callS (G : Good X st W c T Φ) {ys : List Expr} (hs : starOk true xs = some ys) (ha : All2 X st W T Φ ys es) (hk : PySem.W.keepIn X.K f = true) (I : Inv X pins σ H s) (z : At X st W σ H ρ S Ex)
    (h : wEs T Φ es ρ S (fun ds S1 => ∃ ds', lastStar S1 true ds = some ds' ∧ R ds' S1) Ex)
    (k : ∀ ds S1 H1 vs us s1, R ds S1 → Frm S H S1 H1 → At X st W σ H1 ρ S1 Ex → Inv X pins σ H1 s1 → Vals vs us → Reps (lay X st) H1 ds vs → wpAny (model X.prog X.w) X.A (call f (first ++ us)) P X.xe s1) :
    wpAny (model X.prog X.w) X.A (callWith pos f first (backTo pos (starEach xs X.env)) []) P X.xe s := by
  obtain ⟨t, pt, run, an⟩ := star_pa (st := st) (W := W) (T := T) (Φ := Φ) (ρ := ρ) (σ := σ) (Ex := Ex) xs ys es hs ha
  have key : ∀ (Pt : List V → Hp → Prop), (∀ ds S1 H1 vs, R ds S1 → Frm S H S1 H1 → At X st W σ H1 ρ S1 Ex → Reps (lay X st) H1 ds vs → Pt vs H1) → t σ H Pt := fun Pt hp =>
    run G z h fun ds S1 vs H1 hl ⟨ds', g1, g2⟩ f r e => by
      obtain ⟨p, ws, us, e1, e2, e3⟩ := last_seq r e g1
      exact ⟨p, ws, us, e1, e2, hp ds' S1 H1 _ g2 f (z.step f r) e3⟩
  match xs, hs, pt, an with
  | [], hs, _, _ => cases hs
  | [x], hs, pt, an =>
    cases x with
    | Starred e p =>
      cases hs
      obtain ⟨a, rfl, h1⟩ := all2_one ha
      refine PySem.W.callWith_S (h₀ := X.base) I.ok.mod.kin hk ?_ rfl
      rw [wEs] at h
      refine thn (h1.run pins s σ H _ I (z.e G a h (P := fun v H1 => ∃ d S1, (wEs T Φ [] ρ S1 (fun ds S2 => ∃ ds', lastStar S2 true (d :: ds) = some ds' ∧ R ds' S2) Ex) ∧ Frm S H S1 H1 ∧ At X st W σ H1 ρ S1 Ex ∧ Rep (lay X st) H1 d v) fun d S1 v H1 q f r e => ⟨d, S1, q, f, z.step f r, e⟩)) fun u s1 ⟨v, H1, I1, rv, d, S1, q, f, a1, e⟩ => ?_
      rw [wEs] at q
      obtain ⟨ds', g1, g2⟩ := q
      obtain ⟨p', ws, us, e1, e2, e3⟩ := last_seq a1.rs (.cons e .nil) g1
      have hw : ws = [] := by
        cases ws with
        | nil => rfl
        | cons w ws => simp at e1
      subst hw
      rw [List.nil_append] at e1 e3
      cases e1
      cases rv
      exact StX.star_any I1 e2 fun ws s2 I2 rw_ => ⟨I2.kIn, k ds' S1 H1 us ws s2 g2 f a1 I2 rw_ e3⟩
    | _ =>
      have h : (if noStar _ = true then (starOk true []).map (_ :: ·) else none) = some ys := hs
      split at h <;> cases h
  | x :: y :: xs, hs, pt, an =>
    have h' : (if noStar x = true then (starOk true (y :: xs)).map (x :: ·) else none) = some ys := by
      cases x <;> exact hs
    split at h'
    · rename_i hx
      have an2 : ((y :: xs).any fun x => !noStar x) = true := by
        rw [List.any_cons] at an
        rw [hx] at an
        simpa using an
      refine PySem.W.callWith_S2 (h₀ := X.base) I.ok.mod.kin hk ?_ (star_of hx) (any_of an2)
      refine thn (pt.run pos pins s σ H _ I (key (fun vs H1 => ∃ ds S1, R ds S1 ∧ Frm S H S1 H1 ∧ At X st W σ H1 ρ S1 Ex ∧ Reps (lay X st) H1 ds vs) fun ds S1 H1 vs q f a e => ⟨ds, S1, q, f, a, e⟩)) fun us s1 ⟨vs, H1, I1, r, ds, S1, q, f, a1, e⟩ => ?_
      exact ⟨I1.kIn, k ds S1 H1 vs us s1 q f a1 I1 r e⟩
    · cases h'
theorem wEs_append (G : Good X st W c T Φ) : ∀ (a b : List E) {S : Sto} {R : List D → Sto → Prop}, wEs T Φ (a ++ b) ρ S R Ex → wEs T Φ a ρ S (fun ds S1 => wEs T Φ b ρ S1 (fun es S2 => R (ds ++ es) S2) Ex) Ex
  | [], b, S, R, h => by rw [wEs]; exact h
  | e :: a, b, S, R, h => by
    rw [List.cons_append, wEs] at h
    rw [wEs]
    exact wE_mono G.mono e _ _ _ _ _ _ (fun d S1 q => wEs_append G a b q) (fun _ _ q => q) h
theorem all2_append : ∀ {xs ys : List Expr} {es : List E}, All2 X st W T Φ (xs ++ ys) es → ∃ a b, es = a ++ b ∧ All2 X st W T Φ xs a ∧ All2 X st W T Φ ys b
  | [], ys, es, h => ⟨[], es, rfl, True.intro, h⟩
  | x :: xs, ys, e :: es, h => by
    obtain ⟨a, b, rfl, h1, h2⟩ := all2_append h.2
    exact ⟨e :: a, b, rfl, ⟨h.1, h1⟩, h2⟩
  | _ :: _, _, [], h => h.elim
theorem kw_pk {ps : List Str} : ∀ {kw : List Nat} {ks : List Keyword} {ys : List Expr} {es : List E}, kwOk ps kw ks = some ys → All2 X st W T Φ ys es →
    PK X ks (es.foldr (fun e t => tCons (lE X st W (wE T Φ e)) t) tNil) ∧ ((backToKw pos (keywordEach ks X.env)).all (·.1.isSome) = true ∧ (backToKw pos (keywordEach ks X.env)).any (·.1.isNone) = false) ∧ (backToKw pos (keywordEach ks X.env)).filterMap (·.1) = kw.map (fun i => ps.getD i default) ∧
    ys.length = kw.length ∧ ∀ i ∈ kw, i < ps.length
  | [], [], ys, es, h, ha => by
    cases h
    match es, ha with
    | [], _ => exact ⟨pk_nil, ⟨rfl, rfl⟩, rfl, rfl, fun i hi => by cases hi⟩
  | i :: kw, ⟨some x, e, kp⟩ :: ks, ys, es, h, ha => by
    have h : (if ps[i]? = some x then (kwOk ps kw ks).map (e :: ·) else none) = some ys := h
    split at h
    · rename_i hx
      obtain ⟨zs, h1, rfl⟩ := Option.map_eq_some_iff.mp h
      obtain ⟨a, as, rfl⟩ := all2_ne ha
      obtain ⟨p1, ⟨p2, p3⟩, p4, p5, p6⟩ := kw_pk h1 ha.2
      refine ⟨pk_cons ha.1 p1, ⟨?_, ?_⟩, ?_, by simp [p5], ?_⟩
      · show (true && (backToKw pos (keywordEach ks X.env)).all (·.1.isSome)) = true
        rw [p2]; rfl
      · show (false || (backToKw pos (keywordEach ks X.env)).any (·.1.isNone)) = false
        rw [p3]; rfl
      · show x :: (backToKw pos (keywordEach ks X.env)).filterMap (·.1) = _
        rw [p4, List.map_cons]
        congr 1
        rw [List.getD_eq_getElem?_getD, hx]; rfl
      · intro j hj
        rcases List.mem_cons.mp hj with rfl | hj
        · exact (List.getElem?_eq_some_iff.mp hx).1
        · exact p6 j hj
    · cases h
  | [], _ :: _, ys, es, h, ha => by cases h
  | _ :: _, [], ys, es, h, ha => by cases h
  | _ :: _, ⟨none, _, _⟩ :: _, ys, es, h, ha => by cases h
theorem callK {KP : Heap → Prop} (G : Good X st W c T Φ) {ps : List Str} {kw : List Nat} {ks : List Keyword} {ys : List Expr} {es2 : List E} (hn : xs.all noStar = true) (hkw : kwOk ps kw ks = some ys) (ha : All2 X st W T Φ xs es) (hb : All2 X st W T Φ ys es2) (hk : Keeps X f KP) (kp : ∀ (H : Hp) (s : Shared), Inv X pins σ H s → KP s.heap) (I : Inv X pins σ H s) (z : At X st W σ H ρ S Ex)
    (h : wEs T Φ (es ++ es2) ρ S R Ex)
    (k : ∀ ds ds2 S1 H1 vs us vs2 us2 s1, R (ds ++ ds2) S1 → ds2.length = es2.length → Frm S H S1 H1 → At X st W σ H1 ρ S1 Ex → Inv X pins σ H1 s1 → Vals vs us → Reps (lay X st) H1 ds vs → Vals vs2 us2 → Reps (lay X st) H1 ds2 vs2 →
      wpAny (model X.prog X.w) X.A (call f (first ++ us) ((kw.map fun i => ps.getD i default).zip us2)) P X.xe s1) :
    wpAny (model X.prog X.w) X.A (callWith pos f first (backTo pos (starEach xs X.env)) (backToKw pos (keywordEach ks X.env))) P X.xe s := by
  obtain ⟨p1, ⟨p2, p3⟩, p4, _, _⟩ := kw_pk (pos := pos) hkw hb
  have h := wEs_append G es es2 h
  have tail : ∀ (ds : List D) (S1 : Sto) (H1 : Hp) (vs : List V) (us : List Value) (s1 : Shared), wEs T Φ es2 ρ S1 (fun es S2 => R (ds ++ es) S2) Ex → Frm S H S1 H1 → At X st W σ H1 ρ S1 Ex → Inv X pins σ H1 s1 → Vals vs us → Reps (lay X st) H1 ds vs →
      wpAny (model X.prog X.w) X.A (evalAll ((backToKw pos (keywordEach ks X.env)).map (·.2))) (fun ks' s2 => KP s2.heap ∧ wpAny (model X.prog X.w) X.A (call f (first ++ us) (((backToKw pos (keywordEach ks X.env)).filterMap (·.1)).zip ks')) P X.xe s2) X.xe s1 := fun ds S1 H1 vs us s1 q f a1 I1 r e => by
    refine thn (p1.run pos pins s1 σ H1 _ I1 (args_of G es2 a1 (wEs_len G es2 q) (P := fun vs2 H2 => ∃ ds2 S2, (ds2.length = es2.length ∧ R (ds ++ ds2) S2) ∧ Frm S1 H1 S2 H2 ∧ At X st W σ H2 ρ S2 Ex ∧ Reps (lay X st) H2 ds2 vs2) fun ds2 S2 vs2 H2 q2 f2 r2 e2 => ⟨ds2, S2, q2, f2, a1.step f2 r2, e2⟩)) fun us2 s2 ⟨vs2, H2, I2, rz, ds2, S2, q2, f2, a2, e2⟩ => ?_
    rw [p4]
    exact ⟨kp H2 s2 I2, k ds ds2 S2 H2 vs us vs2 us2 s2 q2.2 q2.1 (f.trans f2) a2 I2 r (e.ext (f2.ext a1.rs)) rz e2⟩
  cases xs with
  | nil =>
    match es, ha with
    | [], _ =>
      rw [wEs] at h
      exact PySem.W.callWith_of (by show (false || _) = false; rw [p3]; rfl) hk (PyProof.Rows.evalArgs_kw2_nil p2 (tail [] S H [] [] s h .refl z I .nil .nil))
  | cons x xs =>
    obtain ⟨a, as, rfl⟩ := all2_ne ha
    have hn' := hn
    rw [List.all_cons, Bool.and_eq_true] at hn'
    have run := (pa_of hn ha).run pos pins s σ H _ I (args_of G (a :: as) z h (P := fun vs H1 => ∃ ds S1, (wEs T Φ es2 ρ S1 (fun es S2 => R (ds ++ es) S2) Ex) ∧ Frm S H S1 H1 ∧ At X st W σ H1 ρ S1 Ex ∧ Reps (lay X st) H1 ds vs) fun ds S1 vs H1 q f r e => ⟨ds, S1, q, f, z.step f r, e⟩)
    refine PySem.W.callWith_of (by
      rw [star_of hn'.1]
      show ((false || (backTo pos (starEach xs X.env)).any (·.1)) || _) = false
      rw [plain_of hn'.2, p3]; rfl) hk (PyProof.Rows.evalArgs_kw2 p2 (thn run fun us s1 ⟨vs, H1, I1, r, ds, S1, q, f, a1, e⟩ => ?_) (star_of hn'.1))
    exact tail ds S1 H1 vs us s1 q f a1 I1 r e
end
end
end PD
set_option Elab.async false
set_option linter.all false
set_option maxRecDepth 100000
set_option maxHeartbeats 1000000
/-! PD: calls, as expressions. -/
namespace PD
open PySem PySem.Spec PyProof.Rows L2
section
variable {X : Cx} {st : Stat} {W : L2.WX} {c : Cc} {T : Tab} {Φ : Phi} {k : Nat} {pins : List (Addr × Obj)} {σ : L2.St} {H : Hp} {s : Shared} {S : Sto} {Ex : PD.WX} {Q : VK} {ρ : Rho}
theorem keepsK {f : Value} (h : PySem.W.keepIn X.K f = true) : Keeps X f X.K.In := fun g Y => PySem.W.keeps_K h g Y
theorem lookK {pins : List (Addr × Obj)} : ∀ (H : Hp) (s : Shared), Inv X pins σ H s → X.K.In s.heap := fun _ _ I => I.kIn
theorem starOk_false {es xs : List Expr} (h : starOk false es = some xs) : xs = es ∧ es.all noStar = true := by
  have h : (if es.all noStar = true then some es else none) = some xs := by cases es <;> exact h
  split at h
  · cases h; exact ⟨rfl, by assumption⟩
  · cases h
theorem wCall_of_kw0 {ds : List D} {f : Nat} (h : wCall T Φ f [] ds S (post (lay X st) S H Q) Ex) : wCall T Φ f [] (ds ++ []) S (post (lay X st) S H Q) Ex := by rw [List.append_nil]; exact h
theorem call_pe (G : Good X st W c T Φ) (Z : World0 X st c T Φ k) {f : Nat} {kw : List Nat} {star : Bool} {e : Expr} {xs : List Expr} {es : List E} (hp : prt c (.call f kw star) e = some xs) (ha : All2 X st W T Φ xs es)
    (hf : ∃ fn, T.fs[f]? = some fn) : PE X e (lE X st W (wE T Φ (.op (.call f kw star) es))) := by
  replace hp : prCall c f kw star e = some xs := hp
  unfold prCall at hp
  split at hp
  · rename_i n p as ks pos
    split at hp
    · rename_i hb
      simp only [Bool.and_eq_true, decide_eq_true_eq, Bool.not_eq_true'] at hb
      obtain ⟨g1, g2, g3⟩ := hb
      obtain ⟨hgl, hdb, hnm⟩ := glo_of G.sc g1
      obtain ⟨v, u, m1, m2, m3⟩ := G.gl n _ g2
      obtain ⟨fn, hfn⟩ := hf
      have hv : v = .ref (st.fa f) := by cases m3 (fun _ => none); rfl
      subst hv
      obtain rfl : u = Value.ref (st.fa f) := m2
      have hkp := Z.keep f fn hfn
      obtain ⟨ys, h1, h2⟩ := Option.bind_eq_some_iff.mp hp
      obtain ⟨zs, h3, rfl⟩ := Option.map_eq_some_iff.mp h2
      refine ⟨fun pins s σ H Q I h => ?_⟩
      obtain ⟨ρ, S, Ex, z, h⟩ := h
      rw [wE] at h
      refine wpAny_Call_Name_kw (ld_glob I hgl m1 ?_ hdb)
      cases star with
      | true =>
        simp only [Bool.true_and, Bool.not_eq_false', List.isEmpty_iff] at g3
        subst g3
        cases ks with
        | cons k1 ks => cases h3
        | nil =>
          cases h3
          rw [List.append_nil] at ha
          refine callS (R := fun ds S1 => wCall T Φ f [] ds S1 (post (lay X st) S H Q) Ex) G h1 ha hkp I z h fun ds S1 H1 vs us s1 q f' a1 I1 r e => ?_
          have := call_val (kw := []) (kds := []) (kvs := []) (kus := []) G Z I1 a1 r e .nil .nil rfl (fun i hi => by cases hi) (wCall_of_kw0 (wCall_mono G.mono (fun d S' w => w.step f') (fun _ _ w => w) q))
          exact this
      | false =>
        obtain ⟨rfl, hn⟩ := starOk_false h1
        obtain ⟨e1, e2, rfl, a1, a2⟩ := all2_append ha
        obtain ⟨_, _, _, hl, hlt⟩ := kw_pk (pos := pos) h3 a2
        refine callK (first := []) (R := fun ds S1 => wCall T Φ f kw ds S1 (post (lay X st) S H Q) Ex) G hn h3 a1 a2 (keepsK hkp) lookK I z (wEs_mono G.mono _ _ _ _ _ _ _ (fun ds S1 q => ?_) (fun _ _ w => w) h) fun ds ds2 S1 H1 vs us vs2 us2 s1 q hl2 f' a3 I1 r e r2 e2 => ?_
        · obtain ⟨ds', g1, g2⟩ := q
          cases g1
          exact g2
        · refine call_val G Z I1 a3 r e r2 e2 ?_ hlt (wCall_mono G.mono (fun d S' w => w.step f') (fun _ _ w => w) q)
          rw [hl2, ← all2_len a2, hl]
    · cases hp
  · cases hp
/-- a new instance by values -/
theorem make_val (G : Good X st W c T Φ) (Z : World0 X st c T Φ k) (I : Inv X pins σ H s) (z : At X st W σ H ρ S Ex) {i : Nat} {us : List Value} {vs : List V} {ds : List D} (r : Vals vs us) (q : Reps (lay X st) H ds vs)
    (h : wNew T Φ i [] ds S (post (lay X st) S H Q) Ex) : wpAny (model X.prog X.w) X.A (call (.ref (st.ca i)) us) (EP X pins σ Q) X.xe s := by
  obtain ⟨kc, g, h1, h2, h3, h4⟩ := h
  have cf := Z.cls i kc (by unfold Tab.cl; rw [h1]; simp [h2])
  have M := cf.mkr g h3
  have hp1 : H (s.heap.objs.size + 1) = none := I.hok.fresh (Nat.le_succ _)
  have hp0 : H s.heap.objs.size = none := I.hok.fresh (Nat.le_refl _)
  have hne : s.heap.objs.size ≠ s.heap.objs.size + 1 := Nat.ne_of_lt (Nat.lt_succ_self _)
  have I2 := Inv.made (C := st.ca i) I
  have hq := h4 (s.heap.objs.size + 1) (z.rs.free hp1)
  have rs1 := z.rs.side (ho := .own (s.heap.objs.size + 1)) hp0
  have hn1 : (upd H s.heap.objs.size (.own (s.heap.objs.size + 1))) (s.heap.objs.size + 1) = none := by rw [upd_ne (Ne.symm hne)]; exact hp1
  have f1 : Frm S H S (upd H s.heap.objs.size (.own (s.heap.objs.size + 1))) := .side hp0
  have f2 : Frm S (upd H s.heap.objs.size (.own (s.heap.objs.size + 1))) (PD.put S (s.heap.objs.size + 1) (.ins i [])) (upd (upd H s.heap.objs.size (.own (s.heap.objs.size + 1))) (s.heap.objs.size + 1) (.ins (st.ca i) s.heap.objs.size [])) := .new hn1
  have fr := f1.trans f2
  have rs2 : RS (lay X st) (PD.put S (s.heap.objs.size + 1) (.ins i [])) (upd (upd H s.heap.objs.size (.own (s.heap.objs.size + 1))) (s.heap.objs.size + 1) (.ins (st.ca i) s.heap.objs.size [])) :=
    rs1.put (Ext.upd_new hn1) (.ins .nil)
  have a2 := z.step fr rs2
  obtain ⟨fn, ps, w1, w2, w3⟩ := hq
  have e1 : (splitKw [] (D.ref (s.heap.objs.size + 1) :: ds)).1 = D.ref (s.heap.objs.size + 1) :: ds := by unfold splitKw; simp
  have e2 : (splitKw [] (D.ref (s.heap.objs.size + 1) :: ds)).2 = [] := by unfold splitKw; simp
  rw [e1, e2] at w2
  refine wpAny_call (make_map (f := st.fa g) I.kIn M.makes M.init (beq_iff_eq.mp M.fn) (codeAny_mono (Z.fnp g fn _ X.stack _ _ (Value.ref (s.heap.objs.size + 1) :: us) [] (V.ref (s.heap.objs.size + 1) :: vs) [] _ [] [] ps _ Ex
    (fun v H2 => v = .non ∧ Q (.ref (s.heap.objs.size + 1)) H2) (WE W σ) (Z.hr.make (st.ca i) us []) (I2.env0.make (st.ca i) us []) w1 (.cons rfl r) (.cons .ref (q.ext (fr.ext z.rs))) .nil .nil rfl (fun i hi => by cases hi) rs2 (fun x S' cls d H' f' r' x' e' => a2.xo x S' cls d H' f' r' x' e') w2 (G.mono _ _ _ _ _ _ _ (fun d S2 ⟨ed, qd⟩ v H2 f' r' e' => by subst ed; cases e'; exact ⟨rfl, qd _ _ (fr.trans f') r' .ref⟩) (fun _ _ w => w) w3)) fun r s' hq' => ?_))
  have := fin_call G I2 rfl hq'
  cases r with
  | error e => exact this
  | ok fl =>
    cases fl with
    | ret u =>
      obtain ⟨v, H', I3, rv, ev, q3⟩ := I2.after hq'
      subst ev
      exact ⟨rv, ⟨V.ref (s.heap.objs.size + 1), H', I3, rfl, q3⟩⟩
    | next => exact this.elim
    | brk => exact this.elim
    | cont => exact this.elim
theorem new_pe (G : Good X st W c T Φ) (Z : World0 X st c T Φ k) {i : Nat} {kw : List Nat} {star : Bool} {e : Expr} {xs : List Expr} {es : List E} (hp : prt c (.new i kw star) e = some xs) (ha : All2 X st W T Φ xs es)
    (hf : ∃ kc, T.cl i = some kc) : PE X e (lE X st W (wE T Φ (.op (.new i kw star) es))) := by
  replace hp : prNew c i kw star e = some xs := hp
  unfold prNew at hp
  split at hp
  · rename_i n p as ks pos
    split at hp
    · rename_i hb
      simp only [Bool.and_eq_true, decide_eq_true_eq, List.isEmpty_iff] at hb
      obtain ⟨g1, g2, rfl, rfl⟩ := hb
      obtain ⟨hgl, hdb, hnm⟩ := glo_of G.sc g1
      obtain ⟨v, u, m1, m2, m3⟩ := G.gl n _ g2
      obtain ⟨kc, hkc⟩ := hf
      have hv : v = .ref (st.ca i) := by cases m3 (fun _ => none); rfl
      subst hv
      obtain rfl : u = Value.ref (st.ca i) := m2
      have hkp := Z.keepC i kc hkc
      refine ⟨fun pins s σ H Q I h => ?_⟩
      obtain ⟨ρ, S, Ex, z, h⟩ := h
      rw [wE] at h
      refine wpAny_Call_Name_kw (ld_glob I hgl m1 ?_ hdb)
      cases star with
      | true =>
        refine callS (R := fun ds S1 => wNew T Φ i [] ds S1 (post (lay X st) S H Q) Ex) G hp ha hkp I z h fun ds S1 H1 vs us s1 q f' a1 I1 r e => ?_
        exact make_val G Z I1 a1 r e (wNew_mono G.mono (fun d S' w => w.step f') (fun _ _ w => w) q)
      | false =>
        obtain ⟨rfl, hn⟩ := starOk_false hp
        refine callW (first := []) (R := fun ds S1 => wNew T Φ i [] ds S1 (post (lay X st) S H Q) Ex) G hn ha (keepsK hkp) lookK I z (wEs_mono G.mono _ _ _ _ _ _ _ (fun ds S1 q => ?_) (fun _ _ w => w) h) fun ds S1 H1 vs us s1 q f' a1 I1 r e => ?_
        · obtain ⟨ds', g1, g2⟩ := q
          cases g1
          exact g2
        · exact make_val G Z I1 a1 r e (wNew_mono G.mono (fun d S' w => w.step f') (fun _ _ w => w) q)
    · cases hp
  · cases hp
theorem attrBase_of {o : Expr} (h : abOk o = true) (n : Str) (env : Env) : attributeBase o n env (eval o env) = eval o env := by
  cases o with
  | Call f es ks p =>
    cases f with
    | Name _ _ =>
      cases es with
      | cons _ _ => rfl
      | nil => cases ks with
        | cons _ _ => rfl
        | nil => cases h
    | _ => rfl
  | _ => rfl
theorem RS.ins {L : Lay} {a : Addr} {i : Nat} {fs : List (Nat × D)} (rs : RS L S H) (h : at_ S a = some (.ins i fs)) : ∃ dx vs, Rd H a (.ins (L.ca i) dx vs) ∧ Flds L H fs vs := by
  obtain ⟨ho, h1, h2⟩ := rs.at h
  cases h2 with
  | ins r => exact ⟨_, _, h1, r⟩
theorem Flds.look {L : Lay} {nm : List Str} {f : Nat} {n : Str} (hn : nm[f]? = some n) (hL : L.nm f = n) (hi : ∀ g, L.nm g = n → g = f) : ∀ {fs : List (Nat × D)} {vs : List (Str × V)}, Flds L H fs vs →
    (∀ d, fs.lookup f = some d → ∃ v, vs.lookup n = some v ∧ Rep L H d v) ∧ (fs.lookup f = none → vs.lookup n = none)
  | _, _, .nil => ⟨fun d h => (by cases h), fun _ => rfl⟩
  | _, _, .cons (f := g) (d := d) (v := v) (fs := fs) (vs := vs) r t => by
    obtain ⟨h1, h2⟩ := Flds.look hn hL hi t
    rw [List.lookup_cons, List.lookup_cons]
    by_cases e : f = g
    · subst e
      rw [hL]
      simp only [beq_self_eq_true]
      exact ⟨fun d' h => (by cases h; exact ⟨v, rfl, r⟩), fun h => (by cases h)⟩
    · have e1 : (f == g) = false := by simpa using e
      have e2 : (n == L.nm g) = false := by
        rw [beq_eq_false_iff_ne]
        intro q
        exact e (hi g q.symm).symm
      rw [e1, e2]
      exact ⟨h1, h2⟩
theorem ins_at {i : Nat} {fs : List (Nat × D)} {a : Addr} {L : Lay} (rs : RS L S H) (h : S a = some (.ins i fs)) : ∃ dx vs, H a = some (.ins (L.ca i) dx vs) ∧ Flds L H fs vs := by
  obtain ⟨ho, h1, h2⟩ := rs a _ h
  cases h2 with
  | ins r => exact ⟨_, _, h1, r⟩
/-- e.f -/
theorem attr_pe (G : Good X st W c T Φ) (Z : World0 X st c T Φ k) {f : Nat} {e : Expr} {xs : List Expr} {es : List E} (hp : prt c (.attr f) e = some xs) (ha : All2 X st W T Φ xs es) : PE X e (lE X st W (wE T Φ (.op (.attr f) es))) := by
  replace hp : prAttr c f e = some xs := hp
  unfold prAttr at hp
  split at hp
  · rename_i x n pos
    split at hp
    · cases hp
      rename_i hb
      simp only [Bool.and_eq_true, decide_eq_true_eq] at hb
      obtain ⟨g1, g2⟩ := hb
      obtain ⟨a, rfl, h1⟩ := all2_one ha
      refine ⟨fun pins s σ H Q I h => ?_⟩
      obtain ⟨ρ, S, Ex, z, h⟩ := h
      rw [wE, wEs] at h
      simp only [wEs] at h
      refine attr_of (attrBase_of g2 n X.env) (thn (h1.run pins s σ H _ I (z.e G a h (P := fun v H1 => ∃ d S1, wO T Φ (.attr f) [d] S1 (post (lay X st) S H Q) Ex ∧ Frm S H S1 H1 ∧ At X st W σ H1 ρ S1 Ex ∧ Rep (lay X st) H1 d v) fun d S1 v H1 q f r e => ⟨d, S1, q, f, z.step f r, e⟩)) fun u s1 ⟨v, H1, I1, rv, d, S1, q, fr, a1, e⟩ => ?_)
      have hnm : (lay X st).nm f = n := G.nm f n g1
      have hinj : ∀ g, (lay X st).nm g = n → g = f := fun g hg => G.nmi f g n g1 hg
      rcases q with ⟨p, ci, fs, dv, kc, rfl, hS, hc, hm, hl, q⟩ | ⟨g, hm, q⟩
      · cases e; cases rv
        obtain ⟨dx, vs, hH, fl⟩ := ins_at a1.rs hS
        obtain ⟨v', hv', rv'⟩ := (Flds.look g1 hnm hinj fl).1 dv hl
        have cf := Z.cls ci kc hc
        exact getattr_ok I1 hH cf.cls (cf.noat f n g1 hm) hv' fun u' s2 I2 ru => ⟨v', H1, I2, ru, (q.step fr).now a1.rs rv'⟩
      · -- a property
        cases d with
        | ref p =>
          cases e; cases rv
          have hm : (match S1 p with
            | some (.ins c fs) => if (fs.lookup f).isSome = true then none else (T.cl c).bind fun k => (k.ms.lookup f).map fun (mk, g) => (mk, g, match mk with
              | .cm => .cls c
              | _ => D.ref p)
            | _ => none) = some (MK.prop, g, D.ref p) := hm
          split at hm
          · rename_i ci fs hS
            split at hm
            · cases hm
            · obtain ⟨kc, hc, hm⟩ := Option.bind_eq_some_iff.mp hm
              obtain ⟨⟨mk, g'⟩, hl, hm⟩ := Option.map_eq_some_iff.mp hm
              simp only [Prod.mk.injEq] at hm
              obtain ⟨rfl, rfl, _⟩ := hm
              obtain ⟨dx, vs, hH, fl⟩ := ins_at a1.rs hS
              have cf := Z.cls ci kc hc
              obtain ⟨pp, hpp⟩ := cf.prop f n g' g1 hl
              obtain ⟨mA, O, _, _, _, _⟩ := ins_get I1.hok hH
              obtain ⟨od, J, _⟩ := O.look
              obtain ⟨rest, hrec⟩ := hpp.rec_
              have I2 := I1.tok (s1.toks + 1)
              have hcl : (PySem.W.clsIn X.K (st.ca ci)).isSome = true := by
                obtain ⟨cd, hcd, _⟩ := PySem.W.any_some cf.cls.hd
                rw [hcd]
                rfl
              obtain ⟨fn, ps, w1, w2, w3⟩ := q
              have e1 : (splitKw [] [D.ref p]).1 = [D.ref p] := by unfold splitKw; simp
              have e2 : (splitKw [] [D.ref p]).2 = [] := by unfold splitKw; simp
              rw [e1, e2] at w2
              have hr1 : RoomG (2 * k) X.A.in1 := RoomG.in1 (Z.hr.mono (by omega))
              refine PySem.W.get_bind I1.kIn J (PySem.W.plainGet_of (cf.cls.get n)).1 (PySem.W.findObj_data hcl hpp.at_ hpp.get hpp.tak) (PySem.W.plainGet_of (cf.cls.get n)).2 (wpAny_call (PySem.W.prop_get (s := { s1 with toks := s1.toks + 1 }) I1.kIn hrec ?_))
              refine codeAny_mono (Z.fnp g' fn X.A.in1 X.stack { s1 with toks := s1.toks + 1 } H1 [.ref p] [] [.ref p] [] [.ref p] [] [] ps S1 noX Q (fun _ _ _ => False) hr1 I2.env0.in1 w1 (.cons rfl .nil) (.cons .ref .nil) .nil .nil rfl (fun i hi => by cases hi) a1.rs
                (fun x S' cls d H' f' r' x' e' => e') w2 (G.mono _ _ _ _ _ _ _ (fun d S' w => w.step fr) (fun _ _ w => w) w3)) fun r s' hq => ?_
              cases r with
              | error er =>
                obtain ⟨_, _, _, _, _, _, _, _, _, _, _, _, ff⟩ := hq
                exact ff.elim
              | ok flw =>
                cases flw with
                | ret u =>
                  obtain ⟨v, H', I3, rv, q3⟩ := I2.after hq
                  show wpAny _ _ (handedOut u) _ _ _
                  rw [PySem.W.handedOut_of (handed_of rv)]
                  exact wpAny_pure ⟨v, H', I3, rv, q3⟩
                | next => exact False.elim hq
                | brk => exact False.elim hq
                | cont => exact False.elim hq
          · cases hm
        | cls ci =>
          have hm : ((T.cl ci).bind fun k => (k.ms.lookup f).bind fun (mk, g) => match mk with
            | .cm => some (mk, g, D.cls ci)
            | _ => none) = some (MK.prop, g, D.cls ci) := hm
          obtain ⟨kc, hc, hm⟩ := Option.bind_eq_some_iff.mp hm
          obtain ⟨⟨mk, g'⟩, hl, hm⟩ := Option.bind_eq_some_iff.mp hm
          cases mk <;> cases hm
        | _ => cases hm
    · cases hp
  · cases hp
/-- x == y, x != y by an own __eq__ -/
theorem own_ok (G : Good X st W c T Φ) (Z : World0 X st c T Φ k) (o : Cmp) : OpR X (compareOp (opC o)) (r2 X st (ownEq T Φ o)) := by
  intro pins s σ H x y v u Q I rx ry ⟨dx, dy, S, rs, hx, hy, a, b, i, fs, gs, kc, g, e1, e2, ha, hb, hc, he, h⟩
  subst e1 e2
  cases hx; cases hy; cases rx; cases ry
  obtain ⟨ax, va, hHa, _⟩ := ins_at rs ha
  obtain ⟨bx, vb, hHb, _⟩ := ins_at rs hb
  obtain ⟨mA, O, _⟩ := ins_get I.hok hHa
  obtain ⟨mB, O', _⟩ := ins_get I.hok hHb
  obtain ⟨od, J, _⟩ := O.look
  obtain ⟨od', J', _⟩ := O'.look
  have cf := Z.cls i kc hc
  obtain ⟨q1, q2, q3⟩ := cf.eqm g he
  have sp1 : (splitKw [] [D.ref a, D.ref b]).1 = [D.ref a, D.ref b] := by unfold splitKw; simp
  have sp2 : (splitKw [] [D.ref a, D.ref b]).2 = [] := by unfold splitKw; simp
  have run : ∀ (A : Around) (P : WD) (Q' : VK), RoomG (2 * k) A → Env0 X.prog X.w X.K X.mg X.base A X.stack s H → wCall T Φ g [] [D.ref a, D.ref b] S P noX → (∀ d S', P d S' → post (lay X st) S H Q' d S') →
      wpAny (model X.prog X.w) A (call (.ref (st.fa g)) [.ref a, .ref b]) (EP X pins σ Q') X.xe s := fun A P Q' hr e0 ⟨fn, ps, w1, w2, w3⟩ hP => by
    rw [sp1, sp2] at w2
    refine wpAny_call (codeAny_mono (Z.fnp g fn A X.stack s H [.ref a, .ref b] [] [.ref a, .ref b] [] [.ref a, .ref b] [] [] ps S noX Q' (fun _ _ _ => False) hr e0 w1 (.cons rfl (.cons rfl .nil)) (.cons .ref (.cons .ref .nil)) .nil .nil rfl (fun i hi => by cases hi) rs
      (fun x S' cls d H' f' r' x' e' => e') w2 (G.mono _ _ _ _ _ _ _ (fun d S' w => hP d S' w) (fun _ _ w => w) w3)) fun r s' hq => ?_)
    cases r with
    | error er =>
      obtain ⟨_, _, _, _, _, _, _, _, _, _, _, _, ff⟩ := hq
      exact ff.elim
    | ok flw =>
      cases flw with
      | ret u => exact I.after hq
      | next => exact False.elim hq
      | brk => exact False.elim hq
      | cont => exact False.elim hq
  rcases h with ⟨rfl, h⟩ | ⟨rfl, h⟩
  · obtain ⟨m, hF⟩ := I.fr
    refine PySem.W.cmp_K (op := .Eq) (tb := .ref (st.ca i)) (by have := G.room; omega) hF I.ok.mod.kin J J'.type (by simp [PySem.W.notFirst]) q1 q2 ?_
    refine wpAny_mono (run X.A _ (fun v H' => (∃ r, v = .bl r) ∧ Q v H') (Z.hr.mono (by omega)) I.env0 h fun d S' ⟨r, e, q⟩ v H' f' r' e' => by subst e; cases e'; exact ⟨⟨r, rfl⟩, q _ _ f' r' .bl⟩) (fun v s' hv => ?_) fun _ _ e => e
    obtain ⟨w', H', I', rw', ⟨r, er⟩, qq⟩ := hv
    subst er
    cases rw'
    exact ⟨.bl r, H', I', rfl, qq⟩
  · refine ne_K (C := st.ca i) (tb := .ref (st.ca i)) I.kIn J (by have := G.room; omega) J'.type (by simp [PySem.W.notFirst]) q3 cf.own.2.2.2 q1 q2 ?_
    refine wpAny_mono (run X.A.in1 _ (fun v H' => ∃ r, v = .bl r ∧ Q (.bl (!r)) H') (RoomG.in1 (Z.hr.mono (by omega))) I.env0.in1 h fun d S' ⟨r, e, q⟩ v H' f' r' e' => by subst e; cases e'; exact ⟨r, rfl, q _ _ f' r' .bl⟩) (fun v s' hv => ?_) fun _ _ e => e
    obtain ⟨w', H', I', rw', r, er, qq⟩ := hv
    subst er
    cases rw'
    exact ⟨.bl (!r), H', I', rfl, qq⟩
/-- any comparison -/
theorem cmp_any (G : Good X st W c T Φ) (Z : World0 X st c T Φ k) (o : Cmp) : OpR X (compareOp (opC o)) (r2 X st fun x y S Q => wCmp o x y S Q ∨ ownEq T Φ o x y S Q) := by
  intro pins s σ H x y v u Q I rx ry ⟨dx, dy, S, rs, hx, hy, h⟩
  rcases h with h | h
  · exact cmp_ok (st := st) G.room o pins s σ H x y v u Q I rx ry ⟨dx, dy, S, rs, hx, hy, h⟩
  · exact own_ok G Z o pins s σ H x y v u Q I rx ry ⟨dx, dy, S, rs, hx, hy, h⟩
theorem cmp_pe (G : Good X st W c T Φ) (Z : World0 X st c T Φ k) {o : Cmp} {e : Expr} {xs : List Expr} {es : List E} (hp : prt c (.cmp o) e = some xs) (ha : All2 X st W T Φ xs es) : PE X e (lE X st W (wE T Φ (.op (.cmp o) es))) := by
  replace hp : prCmp o e = some xs := hp
  unfold prCmp at hp
  split at hp
  · split at hp
    · cases hp
      rename_i hb
      rw [Bool.and_eq_true] at hb
      obtain ⟨a, b, rfl, h1, h2⟩ := all2_two ha
      rw [isC_ok hb.1]
      exact weak (pe_cmpR (cmp_any G Z _) h1 h2 (nomark_of hb.2)) fun σ H Q => lE_two G fun dx dy S H vx vy Q σ ρ Ex z e1 e2 h => ⟨dx, dy, S, z.rs, e1, e2, h⟩
    · cases hp
  · cases hp
end
end PD
set_option Elab.async false
set_option linter.all false
set_option maxRecDepth 100000
set_option maxHeartbeats 1000000
/-! PD: isinstance; methods. -/
namespace PD
open PySem PySem.Spec PyProof.Rows L2
section
variable {X : Cx} {st : Stat} {W : L2.WX} {c : Cc} {T : Tab} {Φ : Phi} {k : Nat} {pins : List (Addr × Obj)} {σ : L2.St} {H : Hp} {s : Shared} {S : Sto} {Ex : PD.WX} {Q : VK} {ρ : Rho}
/-- the class of data -/
inductive TyOfD (st : Stat) (T : Tab) (S : Sto) : D → Value → Prop
  | non : TyOfD st T S .non (.type "NoneType")
  | bl {b} : TyOfD st T S (.bl b) (.type "bool")
  | int {i} : TyOfD st T S (.int i) (.type "int")
  | str {x} : TyOfD st T S (.str x) (.type "str")
  | tup {ds} : TyOfD st T S (.tup ds) (.type "tuple")
  | lst {a xs} : at_ S a = some (.lst xs) → TyOfD st T S (.ref a) (.type "list")
  | dct {a kvs} : at_ S a = some (.dct kvs) → TyOfD st T S (.ref a) (.type "dict")
  | ins {a i fs kc} : S a = some (.ins i fs) → T.cl i = some kc → TyOfD st T S (.ref a) (.ref (st.ca i))
theorem kit_d (Z : World0 X st c T Φ k) (I : Inv X pins σ H s) (rs : RS (lay X st) S H) {d : D} {v : V} {u t : Value} (r : Rep (lay X st) H d v) (ru : RelV v u) (ty : TyOfD st T S d t) :
    ∃ P : Heap → Prop, PySem.W.KitX X.K u t P ∧ P s.heap ∧ u ≠ .builtin "__main__.__loader__#opaque" := by
  cases ty with
  | non => cases r; cases ru; exact ⟨_, PySem.W.kitx_none, True.intro, fun z => nomatch z⟩
  | bl => cases r; cases ru; exact ⟨_, PySem.W.kitx_bool, True.intro, fun z => nomatch z⟩
  | int => cases r; obtain ⟨t, rfl⟩ := ru; exact ⟨_, PySem.W.kitx_int, True.intro, fun z => nomatch z⟩
  | str => cases r; obtain ⟨t, rfl⟩ := ru; exact ⟨_, PySem.W.kitx_str, True.intro, fun z => nomatch z⟩
  | tup =>
    cases r with
    | tup h1 h2 =>
      cases ru
      obtain ⟨its, _, o, ho, hc, _⟩ := inv_tups I _ _ h1
      exact ⟨_, PySem.W.kitx_tuple, ⟨o, ho, hc⟩, fun z => nomatch z⟩
  | lst h =>
    cases r; cases ru
    obtain ⟨vs, h1, _⟩ := rs.seqL h
    obtain ⟨its, _, pl, _⟩ := I.list h1
    obtain ⟨o, n, e, hc, _⟩ := pl
    exact ⟨_, PySem.W.kitx_list, ⟨o, e, hc⟩, fun z => nomatch z⟩
  | dct h =>
    cases r; cases ru
    obtain ⟨ho, h1, h2⟩ := rs.at h
    cases h2 with
    | dK en nd =>
      obtain ⟨_, _, _, _, o, _, _, e, ex, _⟩ := dk_rd I.hok h1
      exact ⟨_, PySem.W.kitx_dict, ⟨o, e, ex.1⟩, fun z => nomatch z⟩
    | dT en =>
      obtain ⟨_, _, _, _, o, _, _, e, ex, _⟩ := dict_tup I h1 (.dT en) (entT_tups en)
      exact ⟨_, PySem.W.kitx_dict, ⟨o, e, ex.1⟩, fun z => nomatch z⟩
  | ins h hc =>
    cases r; cases ru
    obtain ⟨dx, vs, h1, _⟩ := ins_at rs h
    have cf := Z.cls _ _ hc
    obtain ⟨o1, o2, o3, o4⟩ := cf.own
    obtain ⟨mA, O, _⟩ := ins_get I.hok h1
    obtain ⟨od, J, _⟩ := O.look
    exact ⟨_, PySem.W.kitx_own (cf.cls.get _) cf.cls.hd o1 o2 o3 o4, J, fun z => nomatch z⟩
theorem kitB_all : (["int", "bool", "str", "tuple", "list", "dict"].all fun n => ["NoneType", "bool", "int", "str", "tuple", "list", "dict"].all fun t => decide (kitB t n = some (t == n || (t == "bool" && n == "int")))) = true := by decide +kernel
theorem kitB_at {t n : String} (hn : n ∈ ["int", "bool", "str", "tuple", "list", "dict"]) (ht : t ∈ ["NoneType", "bool", "int", "str", "tuple", "list", "dict"]) : kitB t n = some (t == n || (t == "bool" && n == "int")) :=
  of_decide_eq_true (List.all_eq_true.mp (List.all_eq_true.mp kitB_all n hn) t ht)
theorem ty_names : (["NoneType", "bool", "int", "str", "tuple", "list", "dict"].all fun n => decide (n ∈ ["int", "bool", "str", "tuple", "list", "dict", "NoneType"])) = true := by decide +kernel
theorem ty_blt : (["int", "bool", "str", "tuple", "list", "dict"].all fun n => decide (Str.ofString n ∈ bltNames) && decide (bootBuiltins (Str.ofString n) = some (.type n))) = true := by decide +kernel
theorem ty_blt_at {n : String} (hn : n ∈ ["int", "bool", "str", "tuple", "list", "dict"]) : Str.ofString n ∈ bltNames ∧ bootBuiltins (Str.ofString n) = some (.type n) := by
  have h := List.all_eq_true.mp ty_blt n hn
  rw [Bool.and_eq_true] at h
  exact ⟨of_decide_eq_true h.1, of_decide_eq_true h.2⟩
/-- classes that are there -/
def TyIs (T : Tab) : Ty → Prop
  | .bt n => n ∈ ["int", "bool", "str", "tuple", "list", "dict"]
  | .own i => ∃ kc, T.cl i = some kc
/-- the class asked for -/
def tyV1 (st : Stat) : Ty → Value
  | .bt n => .type n
  | .own i => .ref (st.ca i)
theorem tyN_ok {d : D} {y : Sum String Nat} (h : tyN T S d = some y) : ∃ t, TyOfD st T S d t ∧ (match y with
    | .inl n => t = .type n ∧ n ∈ ["NoneType", "bool", "int", "str", "tuple", "list", "dict"]
    | .inr i => t = .ref (st.ca i) ∧ ∃ kc, T.cl i = some kc) := by
  cases d with
  | non => cases h; exact ⟨_, .non, rfl, by decide⟩
  | bl x => cases h; exact ⟨_, .bl, rfl, by decide⟩
  | int x => cases h; exact ⟨_, .int, rfl, by decide⟩
  | str x => cases h; exact ⟨_, .str, rfl, by decide⟩
  | tup x => cases h; exact ⟨_, .tup, rfl, by decide⟩
  | ref a =>
    have h : (match S a with
      | some (.ins i _) => if (T.cl i).isSome = true then some (Sum.inr i) else none
      | _ => match at_ S a with
        | some (.lst _) => some (.inl "list")
        | some (.dct _) => some (.inl "dict")
        | _ => none) = some y := h
    split at h
    · rename_i i fs hS
      split at h
      · cases h
        rename_i hc
        obtain ⟨kc, hc⟩ := Option.isSome_iff_exists.mp hc
        exact ⟨_, .ins hS hc, rfl, kc, hc⟩
      · cases h
    · split at h
      · rename_i e; cases h; exact ⟨_, .lst e, rfl, by decide⟩
      · rename_i e; cases h; exact ⟨_, .dct e, rfl, by decide⟩
      · cases h
  | _ => cases h
theorem isTy_ok (Z : World0 X st c T Φ k) {d : D} {ty : Ty} {b : Bool} (hty : TyIs T ty) (h : isTy T S d ty = some b) : ∃ t, TyOfD st T S d t ∧ PySem.W.kitOne X.K t (tyV1 st ty) = some b := by
  obtain ⟨y, h1, rfl⟩ := Option.map_eq_some_iff.mp h
  obtain ⟨t, h2, h3⟩ := tyN_ok (st := st) h1
  refine ⟨t, h2, ?_⟩
  cases y with
  | inl n =>
    obtain ⟨rfl, hn⟩ := h3
    cases ty with
    | bt m => exact kit_ty (kitB_at hty hn)
    | own i =>
      obtain ⟨kc, hc⟩ := hty
      exact (Z.isi i kc hc).1 n (of_decide_eq_true (List.all_eq_true.mp ty_names n hn))
  | inr j =>
    obtain ⟨rfl, kj, hj⟩ := h3
    cases ty with
    | bt m => exact (Z.isi j kj hj).2.2 m hty
    | own i =>
      obtain ⟨kc, hc⟩ := hty
      exact (Z.isi i kc hc).2.1 j kj hj
theorem isi_rule (Z : World0 X st c T Φ k) {ty : Ty} (hty : TyIs T ty) : CallR X (.builtin "isinstance") (fun vs H Q => ∃ d S v t, vs = [v, t] ∧ RS (lay X st) S H ∧ Rep (lay X st) H d v ∧ ClsV t (tyV1 st ty) ∧ ∃ b, isTy T S d ty = some b ∧ post (lay X st) S H Q (.bl b) S) := by
  intro pins s σ H xs us Q I r h
  obtain ⟨d, S, v, t, rfl, rs, e, hc, b, hb, q⟩ := h
  obtain ⟨u1, u2, rfl, r1, r2⟩ := vals2 r
  have e2 := hc.eq r2
  subst e2
  obtain ⟨t', h1, h2⟩ := isTy_ok Z hty hb
  obtain ⟨P, Y, p, hx⟩ := kit_d Z I rs e r1 h1
  exact PySem.W.kia_one Y I.kIn p h2 hx fun tk => ⟨.bl b, H, I.tok tk, rfl, q.now rs .bl⟩
theorem ty_pe (G : Good X st W c T Φ) {ty : Ty} {e : Expr} (h : tyOk c ty e = true) : ∃ t, ClsV t (tyV1 st ty) ∧ PE X e (tC t) ∧ noStar e = true := by
  unfold tyOk at h
  split at h
  · rename_i x p
    rw [Bool.and_eq_true] at h
    obtain ⟨h1, h2⟩ := h
    obtain ⟨hgl, hdb, hnm⟩ := glo_of G.sc h1
    cases ty with
    | bt n =>
      simp only [Bool.and_eq_true, decide_eq_true_eq] at h2
      obtain ⟨⟨rfl, h3⟩, h4⟩ := h2
      have hn : n ∈ ["int", "bool", "str", "tuple", "list", "dict"] := by simpa using h4
      have hm : X.mg (Str.ofString n) = none := G.free (ty_blt_at hn).1
      have hb : bootBuiltins (Str.ofString n) = some (.type n) := (ty_blt_at hn).2
      exact ⟨.ty n, .ty n, pe_bltn hgl hm hb rfl hnm hdb, rfl⟩
    | own i =>
      have h2 := of_decide_eq_true h2
      obtain ⟨v, u, m1, m2, m3⟩ := G.gl x _ h2
      have hv : v = .ref (st.ca i) := by cases m3 (fun _ => none); rfl
      subst hv
      exact ⟨_, .own _, pe_glob hgl m1 m2 hdb, rfl⟩
  · cases h
theorem isi_pe (G : Good X st W c T Φ) (Z : World0 X st c T Φ k) {ts : List Ty} {e : Expr} {xs : List Expr} {es : List E} (hp : prt c (.isi ts) e = some xs) (ha : All2 X st W T Φ xs es)
    (hts : ∀ i, .own i ∈ ts → ∃ kc, T.cl i = some kc) : PE X e (lE X st W (wE T Φ (.op (.isi ts) es))) := by
  replace hp : prIsi c ts e = some xs := hp
  unfold prIsi at hp
  split at hp
  · rename_i n p x t pos
    split at hp
    · cases hp
      rename_i hb
      simp only [Bool.and_eq_true, decide_eq_true_eq] at hb
      obtain ⟨g1, rfl, g3, g4, g5⟩ := hb
      obtain ⟨hgl, hdb, hnm⟩ := glo_of G.sc g1
      obtain ⟨a, rfl, h1⟩ := all2_one ha
      match ts, g5, hts with
      | [], g5, hts => exact absurd g5 Bool.false_ne_true
      | _ :: _ :: _, g5, hts =>
        have g5 : (tyOk c _ t && false) = true := g5
        rw [Bool.and_false] at g5
        cases g5
      | [ty], g5, hts =>
        have g5 : (tyOk c ty t && true) = true := g5
        rw [Bool.and_true] at g5
        obtain ⟨tv, hcv, pt, _⟩ := ty_pe G g5
        have hty : TyIs T ty := by
          cases ty with
          | bt n =>
            unfold tyOk at g5
            split at g5
            · simp only [Bool.and_eq_true, decide_eq_true_eq] at g5
              exact by simpa [TyIs] using g5.2.2
            · cases g5
          | own i => exact hts i List.mem_cons_self
        refine weak (pe_callB (id := "isinstance") (isi_rule (st := st) Z hty) hgl (G.free (by decide +kernel)) (by decide +kernel) (pa_cons h1 (pa_cons pt pa_nil (star_of g4)) (star_of g3)) hnm hdb (star_of g3) (plain_of (by simp [g4]))) fun σ H Q h => ?_
        obtain ⟨ρ, S, Ex, z, h⟩ := h
        rw [wE, wEs] at h
        simp only [wEs] at h
        refine z.e G a h fun d S1 v H1 q f r e => ?_
        obtain ⟨b, hb, q⟩ := q
        refine ⟨d, S1, v, tv, rfl, r, e, hcv, b, ?_, q.step f⟩
        have hb : (isTy T S1 d ty).bind (fun b => if b = true then some true else some false) = some b := hb
        obtain ⟨b', h2, h3⟩ := Option.bind_eq_some_iff.mp hb
        rw [h2]
        cases b' <;> exact h3
    · cases hp
  · cases hp
end
end PD
set_option Elab.async false
set_option linter.all false
set_option maxRecDepth 100000
set_option maxHeartbeats 1000000
/-! PD: methods. -/
namespace PD
open PySem PySem.Spec PyProof.Rows L2
theorem kwOk_val {ps : List Str} : ∀ {kw : List Nat} {ks : List Keyword} {ys : List Expr}, kwOk ps kw ks = some ys → ys = ks.map (·.value)
  | [], [], ys, h => by cases h; rfl
  | i :: kw, ⟨some x, e, kp⟩ :: ks, ys, h => by
    have h : (if ps[i]? = some x then (kwOk ps kw ks).map (e :: ·) else none) = some ys := h
    split at h
    · obtain ⟨zs, h1, rfl⟩ := Option.map_eq_some_iff.mp h
      rw [kwOk_val h1]; rfl
    · cases h
  | [], _ :: _, ys, h => by cases h
  | _ :: _, [], ys, h => by cases h
  | _ :: _, ⟨none, _, _⟩ :: _, ys, h => by cases h
section
variable {X : Cx} {st : Stat} {W : L2.WX} {c : Cc} {T : Tab} {Φ : Phi} {k : Nat} {pins : List (Addr × Obj)} {σ : L2.St} {H : Hp} {s : Shared} {S : Sto} {Ex : PD.WX} {Q : VK} {ρ : Rho}
theorem keeps_bt {id : String} : Keeps X (.builtin id) fun _ => True := fun h _ => ⟨.machine, .inr (.inl rfl), fun A Q E s k q => wpAny_pure q⟩
theorem kws_none {env : Env} {pos : Pos} {ks : List Keyword} (h : ks.all (·.arg.isSome) = true) : (backToKw pos (keywordEach ks env)).all (·.1.isSome) = true := by
  induction ks with
  | nil => rfl
  | cons a ks ih =>
    obtain ⟨n, e, p⟩ := a
    rw [List.all_cons, Bool.and_eq_true] at h
    show (n.isSome && (backToKw pos (keywordEach ks env)).all (·.1.isSome)) = true
    rw [ih h.2, Bool.and_true]
    exact h.1
theorem star_none {env : Env} {pos : Pos} {es : List Expr} (h : es.all noStar = true) : (backTo pos (starEach es env)).all (fun x => !x.1) = true := by
  induction es with
  | nil => rfl
  | cons e es ih =>
    rw [List.all_cons, Bool.and_eq_true] at h
    rw [star_of h.1]
    exact ih h.2
/-- the tree of a method call -/
theorem mtree {o : Expr} {n : Str} {apos pos : Pos} {xs : List Expr} {ks : List Keyword} (hb : abOk o = true) (hl : (apos.endLine == pos.line) = true) (hx : xs.all noStar = true) (hk : ks.all (·.arg.isSome) = true) (hn : xs.length + ks.length < 20) :
    eval (.Call (.Attribute o n apos) xs ks pos) X.env = (do
      let ov ← eval o X.env
      standAt apos.atName
      let (f, first) ← holding [ov] (getMethod ov n (plainOf o X.env))
      callWith pos f first (backTo pos (starEach xs X.env)) (backToKw pos (keywordEach ks X.env))) := by
  rw [arm_eval_Call, attrBase_of hb]
  have hf : methodCallForm (xs.length + ks.length) (backTo pos (starEach xs X.env)) (backToKw pos (keywordEach ks X.env)) = true := by
    unfold methodCallForm
    have h1 := star_none (env := X.env) (pos := pos) hx
    have h2 := kws_none (env := X.env) (pos := pos) hk
    simp only [Bool.and_eq_true, decide_eq_true_eq]
    refine ⟨⟨h1, h2⟩, ?_⟩
    split <;> omega
  simp only [mcall_line hf hl]
structure MtO (X : Cx) (st : Stat) (b : BT) (m : Mth) (T : String) (id : String) (name : Str) : Prop where
  nm : mthName m = some name
  pa : PlainAttrs T
  sl : Slot T name id
  ty : typeOf (.builtin id) = pure (.type "method_descriptor")
  ok : MtR X id (rM X st m)
def btS : BT → String
  | .list => "list"
  | .dict => "dict"
  | .str => "str"
theorem mt_of (hu : X.A.units + 128 < cLine) {b : BT} {m : Mth} (h : mthOk b m = true) : ∃ id name, MtO X st b m (btS b) id name := by
  cases b <;> cases m <;> first
    | (exact absurd h Bool.false_ne_true)
    | exact ⟨_, _, rfl, PySem.F.plainAttrs_list, PySem.F.slot_list_append, PySem.F.type_list_append, append_ok⟩
    | exact ⟨_, _, rfl, PySem.F.plainAttrs_list, PySem.F.slot_list_pop, PySem.F.type_list_pop, pop_ok⟩
    | exact ⟨_, _, rfl, PySem.F.plainAttrs_list, PySem.F.slot_list_extend, PySem.F.type_list_extend, extend_ok⟩
    | exact ⟨_, _, rfl, PySem.F.plainAttrs_list, PySem.F.slot_list_remove, PySem.F.type_list_remove, remove_ok⟩
    | exact ⟨_, _, rfl, PySem.F.plainAttrs_list, PySem.F.slot_list_index, PySem.F.type_list_index, index_ok hu⟩
    | exact ⟨_, _, rfl, PySem.F.plainAttrs_dict, PySem.F.slot_dict_get, PySem.F.type_dict_get, get_ok (by omega)⟩
    | exact ⟨_, _, rfl, PySem.F.plainAttrs_dict, PySem.F.slot_dict_setdefault, PySem.F.type_dict_setdefault, setdefault_ok (by omega)⟩
    | exact ⟨_, _, rfl, PySem.F.plainAttrs_str, PySem.F.slot_str_join, PySem.F.type_str_join, join_ok⟩
    | exact ⟨_, _, rfl, PySem.F.plainAttrs_str, PySem.F.slot_str_split, PySem.F.type_str_split, split_ok⟩
    | exact ⟨_, _, rfl, PySem.F.plainAttrs_str, PySem.F.slot_str_partition, PySem.F.type_str_partition, partition_ok⟩
theorem bt_is (I : Inv X pins σ H s) (rs : RS (lay X st) S H) {d : D} {v : V} {u : Value} {b : BT} (r : Rep (lay X st) H d v) (ru : RelV v u) (h : btOf S d = some b) : s.TypeIs u (btS b) ∧ ∀ a, u = .ref a → ∃ ob, s.heap.get? a = some ob ∧ ob.dict = none := by
  cases d with
  | str z =>
    cases h; cases r
    obtain ⟨t, rfl⟩ := ru
    exact ⟨typeIs_str _ _ _, fun _ e => nomatch e⟩
  | ref a =>
    cases r; cases ru
    have h : (match at_ S a with
      | some (.lst _) => some BT.list
      | some (.dct _) => some BT.dict
      | _ => none) = some b := h
    split at h
    · rename_i e; cases h
      obtain ⟨vs, h1, _⟩ := rs.seqL e
      obtain ⟨its, _, pl, _⟩ := I.list h1
      refine ⟨pl.isList.typeIs, fun a e => ?_⟩
      cases e
      obtain ⟨o, n, e, c, hd, _⟩ := pl
      exact ⟨o, e, hd⟩
    · rename_i e; cases h
      obtain ⟨ho, h1, h2⟩ := rs.at e
      have z : ∃ o, s.heap.get? a = some o ∧ o.ExactDict := by
        cases h2 with
        | dK en nd =>
          obtain ⟨_, _, _, _, o, _, _, e, ex, _⟩ := dk_rd I.hok h1
          exact ⟨o, e, ex⟩
        | dT en =>
          obtain ⟨_, _, _, _, o, _, _, e, ex, _⟩ := dict_tup I h1 (.dT en) (entT_tups en)
          exact ⟨o, e, ex⟩
      obtain ⟨o, e, ex⟩ := z
      refine ⟨⟨o, e, ex.1⟩, fun a e2 => ?_⟩
      cases e2
      exact ⟨o, e, ex.2.1⟩
    · cases h
  | _ => cases h
theorem mth_pe (G : Good X st W c T Φ) (Z : World0 X st c T Φ k) {r : E} {m : Mth} {f : Nat} {kw : List Nat} {star : Bool} {es : List E} {e : Expr} {o : Expr} {ys : List Expr} (hp : prMth c m f kw star e = some (o, ys)) (h1 : PE X o (lE X st W (wE T Φ r)))
    (ha : All2 X st W T Φ ys es) : PE X e (lE X st W (wE T Φ (.mth r m f kw star es))) := by
  unfold prMth at hp
  split at hp
  · rename_i o' n apos xs ks pos
    split at hp
    · cases hp
      rename_i hb
      simp only [Bool.and_eq_true, decide_eq_true_eq, Bool.not_eq_true'] at hb
      obtain ⟨⟨⟨g1, g2⟩, g3, g4⟩, ⟨⟨g5, g6⟩, g7, g8⟩, g9, g10⟩ := hb
      subst g5
      refine ⟨fun pins s σ H Q I h => ?_⟩
      obtain ⟨ρ, S, Ex, z, h⟩ := h
      rw [wE] at h
      refine PySem.W.methodCall_KW (pl := plainOf o X.env) (thn (h1.run pins s σ H _ I (z.e G r h (P := fun v H1 => ∃ d S1, (∃ k, recvK T S1 d f m = some k ∧ k.fits kw false = true ∧ wEs T Φ es ρ S1 (fun ds S2 => match k with
          | .own g y => ∃ ds', lastStar S2 false ds = some ds' ∧ wCall T Φ g kw (y :: ds') S2 (post (lay X st) S H Q) Ex
          | .bt _ => wMth m d ds S2 (post (lay X st) S H Q)) Ex) ∧ Frm S H S1 H1 ∧ At X st W σ H1 ρ S1 Ex ∧ Rep (lay X st) H1 d v)
          fun d S1 v H1 q f r e => ⟨d, S1, q, f, z.step f r, e⟩)) fun u s1 ⟨v, H1, I1, rv, d, S1, q, fr, a1, e⟩ => ?_) (mtree g2 g3 g6 g7 g8)
      obtain ⟨rk, hr, hfit, q⟩ := q
      unfold recvK at hr
      obtain ⟨es1, es2, rfl, b1, b2⟩ := all2_append ha
      split at hr
      · -- an own method
        rename_i mk g y hm
        split at hr
        · cases hr
          rename_i hy
          obtain ⟨hmk, rfl⟩ := hy
          have hgm : ∀ ps, kwOk ps kw ks = some (ks.map (·.value)) → True := fun _ _ => True.intro
          -- the call's end, told once
          have run : ∀ (fv : Value) (first : List Value) (pins1 : List (Addr × Obj)) (s2 : Shared) (KP : Heap → Prop), g ∈ c.mt.getD f [] → Keeps X fv KP → (∀ (H : Hp) (s : Shared), Inv X pins1 σ H s → KP s.heap) → Inv X pins1 σ H1 s2 →
              (∀ (ds ds2 : List D) S2 H2 vs us vs2 us2 s3, wCall T Φ g kw (y :: (ds ++ ds2)) S2 (post (lay X st) S2 H2 Q) Ex → kw.length = ds2.length → (∀ i ∈ kw, i < (c.kws.getD g []).length) → Rep (lay X st) H2 y v → At X st W σ H2 ρ S2 Ex → Inv X pins1 σ H2 s3 → Vals vs us → Reps (lay X st) H2 ds vs → Vals vs2 us2 → Reps (lay X st) H2 ds2 vs2 →
                wpAny (model X.prog X.w) X.A (call fv (first ++ us) ((kwNames c.kws g kw).zip us2)) (EP X pins σ Q) X.xe s3) →
              wpAny (model X.prog X.w) X.A (callWith pos fv first (backTo pos (starEach xs X.env)) (backToKw pos (keywordEach ks X.env))) (EP X pins σ Q) X.xe s2 := fun fv first pins1 s2 KP hg hk kp I2 fin => by
            have hz := List.all_eq_true.mp g10 g hg
            obtain ⟨ys, hkw⟩ := Option.isSome_iff_exists.mp hz
            have hys := kwOk_val hkw
            subst hys
            obtain ⟨_, _, _, hl, hlt⟩ := kw_pk (pos := pos) hkw b2
            refine callK (R := fun ds S2 => wCall T Φ g kw (y :: ds) S2 (post (lay X st) S H Q) Ex) G g6 hkw b1 b2 hk kp I2 a1 (wEs_mono G.mono _ _ _ _ _ _ _ (fun ds S1 q => ?_) (fun _ _ w => w) q) fun ds ds2 S2 H2 vs us vs2 us2 s3 q hl2 f' a3 I3 r3 e3 r4 e4 => ?_
            · obtain ⟨ds', z1, z2⟩ := q
              cases z1
              exact z2
            · exact fin ds ds2 S2 H2 vs us vs2 us2 s3 (wCall_mono G.mono (fun d S' w => w.step (fr.trans f')) (fun _ _ w => w) q) (by rw [hl2, ← all2_len b2, hl]) hlt (e.ext (f'.ext a1.rs)) a3 I3 r3 e3 r4 e4
          cases y with
          | ref p =>
            cases e; cases rv
            have hm : (match S1 p with
              | some (.ins c fs) => if (fs.lookup f).isSome = true then none else (T.cl c).bind fun k => (k.ms.lookup f).map fun (mk, g) => (mk, g, match mk with
                | .cm => .cls c
                | _ => D.ref p)
              | _ => none) = some (mk, g, D.ref p) := hm
            split at hm
            · rename_i ci fs hS
              split at hm
              · cases hm
              · rename_i hfs
                obtain ⟨kc, hc, hm⟩ := Option.bind_eq_some_iff.mp hm
                obtain ⟨⟨mk', g'⟩, hl, hm⟩ := Option.map_eq_some_iff.mp hm
                simp only [Prod.mk.injEq] at hm
                obtain ⟨rfl, rfl, hpp⟩ := hm
                have hmk : mk' = .plain := by
                  cases mk' with
                  | plain => rfl
                  | prop => exact absurd rfl hmk
                  | cm => cases hpp
                subst hmk
                obtain ⟨dx, vs, hH, fl⟩ := ins_at a1.rs hS
                have cf := Z.cls ci kc hc
                have M := cf.meth f n g' g1 hl
                have hno : vs.lookup n = none := (Flds.look g1 (G.nm f n g1) (fun g hg => G.nmi f g n g1 hg) fl).2 (by cases e : fs.lookup f with
                  | none => rfl
                  | some _ => rw [e] at hfs; exact absurd rfl hfs)
                refine getmeth_ok I1 hH cf.cls M hno ?_
                refine run (.ref (st.fa g')) [.ref p] pins s1 X.K.In (G.mt ci kc f _ g' hc hl) (keepsK M.kp) lookK I1 fun ds ds2 S2 H2 vs us vs2 us2 s3 q hl2 hlt e2 a3 I3 r3 e3 r4 e4 => ?_
                exact call_val (us := .ref p :: us) (vs := .ref p :: vs) (ds := .ref p :: ds) G Z I3 a3 (.cons rfl r3) (.cons e2 e3) r4 e4 hl2 hlt q
            · cases hm
          | cls ci =>
            cases e; cases rv
            have hm : ((T.cl ci).bind fun k => (k.ms.lookup f).bind fun (mk, g) => match mk with
              | .cm => some (mk, g, D.cls ci)
              | _ => none) = some (mk, g, D.cls ci) := hm
            obtain ⟨kc, hc, hm⟩ := Option.bind_eq_some_iff.mp hm
            obtain ⟨⟨mk', g'⟩, hl, hm⟩ := Option.bind_eq_some_iff.mp hm
            cases mk' with
            | cm =>
              cases hm
              have cf := Z.cls ci kc hc
              obtain ⟨pp, mc, M, R⟩ := cf.cm f n g g1 hl
              refine ClX.getmethcm_ok I1 R M fun s2 I2 => ?_
              have hq : ∀ (H : Hp) (s : Shared), Inv X ((s1.heap.objs.size, PySem.W.methodObj (.ref (st.fa g)) (.ref (st.ca ci))) :: pins) σ H s → PySem.W.MethP X.K s1.heap.objs.size (st.fa g) (.ref (st.ca ci)) s.heap := fun H s I => ⟨ClX.pin_at I, I.kIn⟩
              refine run (.ref s1.heap.objs.size) [] _ s2 _ (G.mt ci kc f _ g hc hl) (fun h Y => PySem.W.keeps_M M.fi h Y) hq I2 fun ds ds2 S2 H2 vs us vs2 us2 s3 q hl2 hlt e2 a3 I3 r3 e3 r4 e4 => ?_
              have zz : wpAny (model X.prog X.w) X.A (call (.ref s1.heap.objs.size) us ((kwNames c.kws g kw).zip us2)) (EP X ((s1.heap.objs.size, PySem.W.methodObj (.ref (st.fa g)) (.ref (st.ca ci))) :: pins) σ Q) X.xe s3 := by
                obtain ⟨fn, ps, w1, w2, w3⟩ := q
                have e1' : (splitKw kw ((D.cls ci :: ds) ++ ds2)).1 = D.cls ci :: ds := by unfold splitKw; rw [List.length_append, hl2]; simp
                have e2' : (splitKw kw ((D.cls ci :: ds) ++ ds2)).2 = kw.zip ds2 := by unfold splitKw; rw [List.length_append, hl2]; simp
                have w2 : bindF fn (splitKw kw ((D.cls ci :: ds) ++ ds2)).1 (splitKw kw ((D.cls ci :: ds) ++ ds2)).2 = some ps := w2
                rw [e1', e2'] at w2
                refine wpAny_call (PySem.W.method_call (hq H2 s3 I3).1 (codeAny_mono (Z.fnp g fn X.A X.stack s3 H2 (.ref (st.ca ci) :: us) us2 (.ref (st.ca ci) :: vs) vs2 (.cls ci :: ds) ds2 kw ps S2 Ex Q (WE W σ) (Z.hr.mono (by omega)) I3.env0 w1 (.cons rfl r3) (.cons e2 e3) r4 e4 hl2 hlt a3.rs (fun x S' cls d H' f' r' x' e' => a3.xo x S' cls d H' f' r' x' e') w2 w3) fun r s' hq => ?_))
                have := fin_call G I3 rfl hq
                cases r with
                | error e => exact this
                | ok fl => cases fl <;> first | exact this | exact this.elim
              exact thn zz fun _ _ y => ClX.unpinE y
            | plain => cases hm
            | prop => cases hm
          | _ => cases hm
        · cases hr
      · -- a built-in's
        rename_i hm
        obtain ⟨b, hb, hr⟩ := Option.bind_eq_some_iff.mp hr
        split at hr
        · cases hr
          rename_i hok
          obtain ⟨id, name, mo⟩ := mt_of (X := X) (st := st) G.room2 hok
          unfold mthIs at g4
          rw [mo.nm] at g4
          have g4 := of_decide_eq_true g4
          subst g4
          obtain ⟨t1, t2⟩ := bt_is I1 a1.rs e rv hb
          refine getMethod_builtin t1 mo.pa mo.sl mo.ty t2 ?_
          cases kw with
          | cons _ _ => cases hfit
          | nil =>
            cases ks with
            | cons _ _ => cases g9
            | nil =>
              have hes2 : es2 = [] := by
                cases es2 with
                | nil => rfl
                | cons _ _ => exact b2.elim
              subst hes2
              rw [List.append_nil] at q
              refine callW (first := [u]) (R := fun ds S2 => wMth m d ds S2 (post (lay X st) S H Q)) G g6 b1 keeps_bt (fun _ _ _ => True.intro) I1 a1 (wEs_mono G.mono _ _ _ _ _ _ _ (fun ds S1 q => q) (fun _ _ w => w) q) fun ds S2 H2 vs us s2 q f' a3 I3 r3 e3 => ?_
              exact mo.ok pins s2 σ H2 v vs u us Q I3 rv r3 ⟨d, ds, S2, a3.rs, e.ext (f'.ext a1.rs), e3, wMth_mono (fun d S' w => w.step (fr.trans f')) q⟩
        · cases hr
    · cases hp
  · cases hp
end
end PD
set_option Elab.async false
set_option linter.all false
set_option maxRecDepth 100000
set_option maxHeartbeats 1000000
/-! PD: enumerate over a tuple. -/
namespace PD
open PySem PySem.Spec PyProof.Rows L2
theorem enum_new1 {v : Value} {o : Obj} {H : Heap → Prop} (B : Begins v o H) :
    Meets (Builtin.«enumerate.__new__» ⟨[.type "enumerate", v], []⟩) (fun _ R s => H s.heap ∧
      R (.ok (.ret (.ref (s.heap.push o).objs.size))) { s with heap := (s.heap.push o).push { cls := .type "enumerate", data := .fields #[.none, .bool false, .ref s.heap.objs.size, rawInt 0, .none, .none] } }) :=
  .of_wp fun prog w A R s h => by
    obtain ⟨hp, g, d, tk, os⟩ := s; obtain ⟨h1, h⟩ := h
    have hsub := sub_enumerate
    have q1 : ∀ {A' : Around} {E : Value → Shared → Prop} {Q : Value → Shared → Prop}, Q (.ref hp.objs.size) ⟨hp.push o, g, d, tk, os⟩ → wpAny (model prog w) A' (pyIter v) Q E ⟨hp, g, d, tk, os⟩ :=
      fun q => B.iter prog w _ _ ⟨hp, g, d, tk, os⟩ _ h1 q
    wp_walk using q1
    refine wpAny_stack_any fun st => wpAny_pure ?_
    split
    · rename_i c _ _ _ _ _
      cases (c == Value.type "enumerate")
      · wp_walk using q1
        exact ⟨_, rfl, h⟩
      · wp_walk using q1
        exact ⟨_, rfl, h⟩
    · wp_walk using q1
      exact ⟨_, rfl, h⟩
section
variable {prog : Program} {w : World} {A : Around} {E : Value → Shared → Prop} {s : Shared}
theorem call_enum1 {v : Value} {o : Obj} {H : Heap → Prop} {Q : Value → Shared → Prop} (B : Begins v o H) (h1 : H s.heap)
    (h : ∀ h', IsEnum h' (s.heap.objs.size + 1) s.heap.objs.size 0 .none → h'.get? s.heap.objs.size = some o → h'.objs.size = s.heap.objs.size + 2 →
      (∀ b o, s.heap.get? b = some o → h'.get? b = some o) → Q (.ref (s.heap.objs.size + 1)) { s with heap := h' }) : wpAny (model prog w) A (call (.type "enumerate") [v]) Q E s := by
  refine callType_new F.called_enumerate (by decide) (F.typeCall_enumerate_1 _) (F.newCall_enumerate_1 _) (fun obj => F.args_object_init_2 obj _) F.entry_enumerate_new (enum_new1 B) ⟨h1, ?_⟩
  have hz : (s.heap.push o).objs.size = s.heap.objs.size + 1 := Heap.size_push ..
  show _ ∧ _
  rw [hz]
  have he : IsEnum ((s.heap.push o).push { cls := .type "enumerate", data := .fields #[.none, .bool false, .ref s.heap.objs.size, rawInt 0, .none, .none] }) (s.heap.objs.size + 1) s.heap.objs.size 0 .none := by
    have := Heap.get?_push_size (s.heap.push o) (o := { cls := .type "enumerate", data := .fields #[.none, .bool false, .ref s.heap.objs.size, rawInt 0, .none, .none] }) rfl
    rw [hz] at this; exact this
  exact ⟨⟨_, he, rfl⟩, h _ he (Heap.get?_push_of_some _ (Heap.get?_push_size _ B.free)) (by rw [Heap.size_push, hz]) fun b o x => Heap.get?_push_of_some _ (Heap.get?_push_of_some _ x)⟩
end
/-- the tuple at a, each item in a new pair -/
def IteT (K : PySem.W.Frag) (a : Addr) (n : Nat) : It :=
  ⟨fun i H => ∃ (xs : List V) (x : V), SqT K H a xs ∧ xs.length = n ∧ xs[i]? = some x, fun i H v H' => ∃ T x, v = .ref T ∧ H T = none ∧ H' = upd H T (.tup [.int (i : Nat), x]) ∧ ∀ xs, SqT K H a xs → xs[i]? = some x, fun i H => ∃ xs : List V, SqT K H a xs ∧ xs.length = n ∧ n ≤ i⟩
theorem turn_enumT {P : Program} {w : World} {K : PySem.W.Frag} {elts : List Expr} {kk : Nat} {tpos : Pos} (a e it : Addr) (n : Nat) :
    Turn P w K (.Tuple elts kk tpos) (IteT K a n) [e, it] e (fun i h => (∃ old, IsEnum h e it ((i : Nat) : Int) old) ∧ h.IsTupleIter it a i ∧ e ≠ it ∧ i ≤ n) where
  mem := by simp
  obj := fun i h st b hb => by
    obtain ⟨⟨old, he⟩, ⟨o, ho, hc, hd⟩, _⟩ := st
    have e' : b = e ∨ b = it := by simpa using hb
    rcases e' with z | z
    · rw [z]; exact ⟨_, he, fun v q => nomatch q⟩
    · rw [z]; exact ⟨o, ho, fun v q => by rw [hd] at q; cases q⟩
  keep := fun i h h' st k => let ⟨⟨old, he⟩, hi, hne, hl⟩ := st; ⟨⟨old, k e (by simp) _ he⟩, hi.at fun o q => k it (by simp) o q, hne, hl⟩
  item := by
    intro X hP hw hK hc i pins s σ H E I hf st hg
    subst hP hw hK
    obtain ⟨⟨old, he⟩, hit, hne, hin⟩ := st
    obtain ⟨xs, x, hq, hn, hx⟩ := hg
    obtain ⟨its, rv, p, hz⟩ := I.tuple hq
    obtain ⟨u, hu, ru⟩ := rv.get hx
    have hel : e < s.heap.objs.size := Heap.lt_size he
    have hil : it < s.heap.objs.size := by obtain ⟨_, q, _⟩ := hit; exact Heap.lt_size q
    have p : s.heap.IsTuple a its.toArray := p
    have hle : i + 1 ≤ n := by
      have := (List.getElem?_eq_some_iff.mp hx).1
      omega
    have hae : a ≠ e := fun z => by
      obtain ⟨o, q, c, _⟩ := p
      rw [z, he] at q; cases q; injection c with c; exact absurd c (by decide)
    have hai : a ≠ it := fun z => by
      obtain ⟨o, q, c, _⟩ := p
      obtain ⟨o2, q2, c2, _⟩ := hit
      rw [z, q2] at q; cases q; rw [c2] at c; injection c with c; exact absurd c (by decide)
    refine wpAny_pyNext_enum_itemC (Draws.tuple (prog := X.prog) (w := X.w) (A := X.A.in1) (I.ok.hd hc) it a hai its.toArray) he ⟨hit, p⟩ (by
      have := rv.length
      have := (List.getElem?_eq_some_iff.mp hx).1
      simp only [List.size_toArray]; omega) hne (by simp [hne, Ne.symm hae]) fun y h' tk hy ho hs' hT hsz hk => ?_
    obtain rfl : y = u := by
      have q : its.toArray[i]? = some y := hy
      rw [show its.toArray[i]? = some u from by simpa using hu] at q
      exact (Option.some.inj q).symm
    refine ⟨_, rfl, wpAny_letOwnedTupleGo_enum (s := { s with heap := h', toks := tk + 1 }) ho fun h'' he' sb => ?_⟩
    have hT2 : h''.get? s.heap.objs.size = some { cls := .type "tuple", data := .seq #[.int i tk, y] } := (sb.2 _ (Nat.ne_of_gt hel)).trans hT
    have new : ObjOk X.prog X.w (upd H s.heap.objs.size (.tup [.int (i : Nat), x])) h'' s.heap.objs.size (.tup [.int (i : Nat), x]) :=
      ⟨by show 2 ≤ sizeLine; decide, [.int i tk, y], .cons ⟨_, rfl⟩ (.cons ru .nil), ⟨_, hT2, rfl, _, rfl⟩⟩
    have I1 : Inv X pins σ (upd H s.heap.objs.size (.tup [.int (i : Nat), x])) { s with heap := h'', toks := tk + 1 } :=
      I.turnedNew (ch := [e, it]) (fun b ob hb q => (sb.2 b (fun z => hb (by simp [z]))).trans (hk b ob (fun z => hb (by simp [z])) (fun z => hb (by simp [z])) q)) hf (Nat.le_refl _) new
    refine ⟨.ref s.heap.objs.size, _, I1, rfl, ⟨_, x, rfl, I.hok.fresh (Nat.le_refl _), rfl, fun ys hy => by rw [I.tuple_inj hy hq]; exact hx⟩, ⟨⟨y, ?_⟩, hs'.1.at fun o q => (sb.2 it (Ne.symm hne)).trans q, hne, hle⟩, fun b hb => ?_⟩
    · have e1 : ((i + 1 : Nat) : Int) = (i : Int) + 1 := by omega
      rw [e1]; exact he'
    · have hb' : b < s.heap.objs.size := by
        have e' : b = e ∨ b = it := by simpa using hb
        rcases e' with z | z
        · rw [z]; exact hel
        · rw [z]; exact hil
      rw [upd_ne (Nat.ne_of_lt hb')]
      exact (hf b hb).1
  done := by
    intro X hP hw hK hc i pins s σ H E I hf st hg
    subst hP hw hK
    obtain ⟨⟨old, he⟩, hit, hne, hin⟩ := st
    obtain ⟨xs, hq, hn, hx⟩ := hg
    obtain ⟨its, rv, p, hz⟩ := I.tuple hq
    obtain ⟨f0, f1, f2, f3, f4, f5⟩ := hf it (by simp)
    have hl := rv.length
    have p : s.heap.IsTuple a its.toArray := p
    have hai : a ≠ it := fun z => by
      obtain ⟨o, q, c, _⟩ := p
      obtain ⟨o2, q2, c2, _⟩ := hit
      rw [z, q2] at q; cases q; rw [c2] at c; injection c with c; exact absurd c (by decide)
    have e1 : i = its.toArray.size := by simp only [List.size_toArray]; omega
    have D := Draws.tuple (prog := X.prog) (w := X.w) (A := X.A.in1) (I.ok.hd hc) it a hai its.toArray
    refine wpAny_pyNext_enum_endD D he (by rw [← e1]; exact ⟨hit, p⟩) fun h' eb => ⟨rfl, I.turned (t' := s.toks) (fun b o hb q => eb b o hb q) f0 f1 f3 f4 f5⟩
  self := fun A i s Q E st h => let ⟨⟨_, he⟩, _⟩ := st; wpAny_pyIter_enum he h
/-- enumerate(e), e a list or a tuple -/
def iEnumA (K : PySem.W.Frag) (ta : TA) : TI := fun σ H R => ta σ H fun vs H1 => ∃ a xs, vs = [.ref a] ∧ ((SqL K H1 a xs ∧ R (Ite K a) H1) ∨ (SqT K H1 a xs ∧ R (IteT K a xs.length) H1))
theorem pi_enumA {X : Cx} {e : Expr} {ta : TA} {p pos tpos : Pos} {elts : List Expr} {kk : Nat} (hg : Gl X "enumerate") (hm : X.mg "enumerate" = none) (ha : PA X [e] ta) (hs : starEach [e] X.env = [(false, eval e X.env)] := by rfl) :
    PI X (.Tuple elts kk tpos) (.Call (.Name "enumerate" p) [e] [] pos) (iEnumA X.K ta) := by
  refine ⟨fun pins s σ H R I h => ?_⟩
  refine Call_ (ld_blt I hg hm boot_enumerate (PyProof.Rows.callWith_type1 (thn (ha.run pos pins s σ H _ I h) fun us s1 ⟨vs, H1, I1, r1, q1⟩ => ?_) hs rfl))
  obtain ⟨a, xs, ex, q1⟩ := q1
  subst ex
  cases r1 with
  | cons r rr =>
    cases rr
    cases r
    have fr : ∀ b ∈ [s1.heap.objs.size + 1, s1.heap.objs.size], FpOk X pins H1 b := fun b hb => by
      have e' : b = s1.heap.objs.size + 1 ∨ b = s1.heap.objs.size := by simpa using hb
      have hle : s1.heap.objs.size ≤ b := by
        rcases e' with z | z
        · rw [z]; exact Nat.le_add_right _ _
        · rw [z]; exact Nat.le_refl _
      exact I1.fpOk hle (I1.hok.fresh hle)
    rcases q1 with ⟨hq, q⟩ | ⟨hq, q⟩
    · obtain ⟨its, rv, p', hz⟩ := I1.list hq
      refine call_enumerate_list p'.isList fun h' he hit hsz hk => wpAny_pyIter_enum he ?_
      have I2 : Inv X pins σ H1 { s1 with heap := h' } := I1.kept (t' := s1.toks) hk
      exact ⟨s1.heap.objs.size + 1, [s1.heap.objs.size + 1, s1.heap.objs.size], _, _, H1, rfl, I2, turn_enum a (s1.heap.objs.size + 1) s1.heap.objs.size, ⟨⟨.none, he⟩, hit, Nat.succ_ne_self _⟩, fr, q⟩
    · obtain ⟨its, rv, p', hz⟩ := I1.tuple hq
      refine call_enum1 (begins_tuple a its.toArray) p' fun h' he hit hsz hk => wpAny_pyIter_enum he ?_
      have I2 : Inv X pins σ H1 { s1 with heap := h' } := I1.kept (t' := s1.toks) hk
      exact ⟨s1.heap.objs.size + 1, [s1.heap.objs.size + 1, s1.heap.objs.size], _, _, H1, rfl, I2, turn_enumT a (s1.heap.objs.size + 1) s1.heap.objs.size xs.length, ⟨⟨.none, he⟩, ⟨_, hit, rfl, rfl⟩, Nat.succ_ne_self _, Nat.zero_le _⟩, fr, q⟩
end PD
set_option Elab.async false
set_option linter.all false
set_option maxRecDepth 100000
set_option maxHeartbeats 1000000
/-! PD: the walk of a locked dict, whatever its keys. -/
namespace PD
open PySem PySem.Spec PyProof.Rows L2
/-- an object of a dict -/
def DL (L : Lay) (d : Addr) (u : HO) : Prop := (∃ ys, u = .dK ys) ∨ ∃ ys, u = TD L d ys
theorem EntK.get {L : Lay} {H : Hp} : ∀ {kvs : List (D × D)} {ys : List (Key × V)} {i : Nat} {p : D × D}, EntK L H kvs ys → kvs[i]? = some p → ∃ k v, p.1 = kD k ∧ ys[i]? = some (k, v) ∧ Rep L H p.2 v
  | _, _, _, _, .nil, e => by simp at e
  | _, _, 0, _, .cons r _, e => by
    simp at e; subst e
    exact ⟨_, _, rfl, rfl, r⟩
  | _, _, i + 1, p, .cons _ t, e => by
    obtain ⟨k, v, h1, h2, h3⟩ := EntK.get (i := i) (p := p) t (by simpa using e)
    exact ⟨k, v, h1, by simpa using h2, h3⟩
theorem EntT.get {L : Lay} {H : Hp} : ∀ {kvs : List (D × D)} {ys : List (NestedKey × Addr × V)} {i : Nat} {p : D × D}, EntT L H kvs ys → kvs[i]? = some p → ∃ nk a v, ys[i]? = some (nk, a, v) ∧ Rep L H p.1 (.ref a) ∧ Rep L H p.2 v
  | _, _, _, _, .nil, e => by simp at e
  | _, _, 0, _, .cons _ _ r1 r _, e => by
    simp at e; subst e
    exact ⟨_, _, _, rfl, r1, r⟩
  | _, _, i + 1, p, .cons _ _ _ _ t, e => by
    obtain ⟨k, a, v, h1, h2, h3⟩ := EntT.get (i := i) (p := p) t (by simpa using e)
    exact ⟨k, a, v, by simpa using h1, h2, h3⟩
theorem EntK.len {L : Lay} {H : Hp} : ∀ {kvs : List (D × D)} {ys : List (Key × V)}, EntK L H kvs ys → kvs.length = ys.length
  | _, _, .nil => rfl
  | _, _, .cons _ t => by simp [EntK.len t]
theorem EntT.len {L : Lay} {H : Hp} : ∀ {kvs : List (D × D)} {ys : List (NestedKey × Addr × V)}, EntT L H kvs ys → kvs.length = ys.length
  | _, _, .nil => rfl
  | _, _, .cons _ _ _ _ t => by simp [EntT.len t]
theorem pairs_get {prog : Program} {w : World} {K : Type} [DecidableEq K] {knd : KeyKind prog w K} : ∀ {es : List DictEntry} {kvs : List (K × Value)} {i : Nat} {p : K × Value}, Pairs knd es kvs → kvs[i]? = some p → ∃ e, es[i]? = some e ∧ knd.is p.1 e.key = true ∧ e.val = p.2
  | _, _, _, _, .nil, e => by simp at e
  | _, _, 0, _, .cons h1 h2 _, e => by
    simp at e; subst e
    exact ⟨_, rfl, h1, h2⟩
  | _, _, i + 1, p, .cons _ _ t, e => by
    obtain ⟨en, h1, h2⟩ := pairs_get (i := i) (p := p) t (by simpa using e)
    exact ⟨en, by simpa using h1, h2⟩
section
variable {X : Cx} {st : Stat} {pins : List (Addr × Obj)} {σ : L2.St} {H H1 : Hp} {s : Shared} {d : Addr} {ob : Obj} {u : HO}
/-- what is known of the entries, whatever data tell of them -/
theorem frz_raw (I : Inv X pins σ H s) (hd : H d = some (.frz ob u)) (dl : DL (lay X st) d u) :
    (d == sysModules) = false ∧ s.heap.get? d = some ob ∧ ob.ExactDict ∧ ∃ es ep, ob.data = .dict es ep ∧ ∀ (i : Nat) (e : DictEntry), es[i]? = some e → (∃ k, RelV k e.key) ∧ ∃ v, RelV v e.val := by
  rcases dl with ⟨ys, rfl⟩ | ⟨ys, rfl⟩
  · obtain ⟨hs, hgd, hx, es, ep, vs, hdt, hsz, kv, o', es', ho', hx', hdt', hk', hp', hn'⟩ := I.frzK hd
    rw [hgd] at ho'; cases ho'
    obtain ⟨rfl, _⟩ := dict_ep hdt hdt'
    refine ⟨hs, hgd, hx, _, _, hdt, fun i e he => ?_⟩
    have hl : es'.toList.length = vs.length := hp'.length
    have hi : i < vs.length := by
      rw [← hl, Array.length_toList]
      exact (Array.getElem?_eq_some_iff.mp he).1
    obtain ⟨e2, g1, g2, g3⟩ := pairs_get hp' (i := i) (p := vs[i]) (List.getElem?_eq_getElem hi)
    rw [Array.getElem?_toList, he] at g1
    cases g1
    have hkl : ys.length = vs.length := Paired.length kv
    obtain ⟨v, hv, rv⟩ := KV.at' kv (i := i) (k := vs[i].1) (v := vs[i].2) (List.getElem?_eq_getElem hi)
    exact ⟨⟨kV vs[i].1, relV_key (show keyIs _ _ = true from g2)⟩, v, by rw [g3]; exact rv⟩
  · obtain ⟨hgd, z, _⟩ := I.hok d _ hd
    obtain ⟨hs, hl, xs, pr, o', es, ep, ho', hx', hdt', he', _⟩ := z
    rw [hgd] at ho'; cases ho'
    refine ⟨hs, hgd, hx', es, ep, hdt', fun i e he => ?_⟩
    have hi : i < xs.length := by
      have : es.toList.length = xs.length := by rw [he', List.length_map]
      rw [← this, Array.length_toList]
      exact (Array.getElem?_eq_some_iff.mp he).1
    have q : es.toList[i]? = some e := by rw [Array.getElem?_toList]; exact he
    rw [he', List.getElem?_map, List.getElem?_eq_getElem hi] at q
    cases q
    have hyl : ys.length = xs.length := Paired.length pr
    obtain ⟨b, hb, e1, e2, e3⟩ := paired_get pr (i := i) (a := ys[i]'(by omega)) (List.getElem?_eq_getElem (by omega))
    rw [List.getElem?_eq_getElem hi] at hb
    cases hb
    exact ⟨⟨.ref _, rfl⟩, _, e3⟩
/-- the entries are the data's -/
theorem frz_rok {P : Program} {w : World} {L : Lay} (hP : L.P = P) (hw : L.w = w) {H0 H : Hp} {h : Heap} {es : Array DictEntry} {ep : Nat} {kvs : List (D × D)} (z : ObjOk P w H0 h d (.frz ob u)) (hob : ob.data = .dict es ep) (r : ROk L H (.dct kvs) d u) :
    es.size = kvs.length ∧ ∀ (i : Nat) (p : D × D), kvs[i]? = some p → ∃ e, es[i]? = some e ∧ (∃ x, Rep L H p.1 x ∧ RelV x e.key) ∧ ∃ y, Rep L H p.2 y ∧ RelV y e.val := by
  subst hP hw
  cases r with
  | @dK _ ys _ en nd =>
    obtain ⟨hgd, z0, hs, vs, kv, o', es', ep', ho', hx', hdt', hk', hp', hn'⟩ := z
    rw [hgd] at ho'; cases ho'
    obtain ⟨rfl, _⟩ := dict_ep hob hdt'
    have hl : es'.toList.length = vs.length := hp'.length
    have hkl : ys.length = vs.length := Paired.length kv
    have hel := en.len
    rw [Array.length_toList] at hl
    refine ⟨by omega, fun i p hp => ?_⟩
    obtain ⟨k, v, e1, e2, e3⟩ := en.get hp
    obtain ⟨w, g1, g2⟩ := kv_get kv e2
    obtain ⟨e, f1, f2, f3⟩ := pairs_get hp' g1
    refine ⟨e, by rw [← Array.getElem?_toList]; exact f1, ⟨kV k, ?_, relV_key (show keyIs _ _ = true from f2)⟩, v, e3, by rw [f3]; exact g2⟩
    rw [e1]
    cases k with
    | inl i => exact .int
    | inr x => exact .str
  | @dT _ ys _ en =>
    obtain ⟨hgd, z, _⟩ := z
    obtain ⟨hs, hl, xs, pr, o', es', ep', ho', hx', hdt', he', _⟩ := z
    rw [hgd] at ho'; cases ho'
    obtain ⟨rfl, _⟩ := dict_ep hob hdt'
    have hyl : ys.length = xs.length := Paired.length pr
    have hel := en.len
    have hsz : es'.toList.length = xs.length := by rw [he', List.length_map]
    rw [Array.length_toList] at hsz
    refine ⟨by omega, fun i p hp => ?_⟩
    obtain ⟨nk, a, v, e1, e2, e3⟩ := en.get hp
    obtain ⟨b, hb, g1, g2, g3⟩ := paired_get pr e1
    refine ⟨entryOfKey (nestedKind L.P L.w) b, ?_, ⟨.ref a, e2, ?_⟩, v, e3, g3⟩
    · rw [← Array.getElem?_toList, he', List.getElem?_map, hb]; rfl
    · show Value.ref b.2.1 = Value.ref a
      rw [← g2]
/-- one value of each entry -/
def ItV (d : Addr) (ob : Obj) (u : HO) (es : Array DictEntry) (pk : DictEntry → Value) : It :=
  ⟨fun i H => H d = some (.frz ob u) ∧ i < es.size, fun i H x H' => H' = H ∧ ∃ e, es[i]? = some e ∧ RelV x (pk e), fun i H => H d = some (.frz ob u) ∧ es.size ≤ i⟩
/-- both, in a new pair -/
def ItP (d : Addr) (ob : Obj) (u : HO) (es : Array DictEntry) : It :=
  ⟨fun i H => H d = some (.frz ob u) ∧ i < es.size, fun i H x H' => ∃ T e k v, es[i]? = some e ∧ RelV k e.key ∧ RelV v e.val ∧ x = .ref T ∧ H T = none ∧ H' = upd H T (.tup [k, v]), fun i H => H d = some (.frz ob u) ∧ es.size ≤ i⟩
theorem raw_at {o : Obj} {s : Shared} {es : Array DictEntry} {ep : Nat} (h1 : s.heap.get? d = some o) (h2 : o.ExactDict) (h3 : o.data = .dict es ep) : DT.Raw s.heap d es ep := ⟨o, h1, h2, h3⟩
theorem turn_keysD {P : Program} {w : World} {K : PySem.W.Frag} {tg : Expr} {es : Array DictEntry} {ep : Nat} (it : Addr) (hod : ob.data = .dict es ep) (dl : DL (layP P w K st) d u) : Turn P w K tg (ItV d ob u es (·.key)) [it] it (fun i h => h.IsKeyIter it d i es.size ep) where
  mem := by simp
  obj := fun i h st b hb => by
    have e : b = it := by simpa using hb
    subst e
    obtain ⟨oi, e, c, dd⟩ := st
    exact ⟨oi, e, fun v z => by rw [dd] at z; cases z⟩
  keep := fun i h h' st k => st.at fun oi e => k it (by simp) oi e
  item := by
    intro X hP hw hK hc i pins s σ H E I hf tnh hg
    subst hP hw hK
    obtain ⟨hd, hi⟩ := hg
    obtain ⟨f0, f1, f2, f3, f4, f5⟩ := hf it (by simp)
    obtain ⟨hs, hgd, hx, es', ep', hdt, ent⟩ := frz_raw (st := st) I hd dl
    obtain ⟨rfl, rfl⟩ := dict_ep hod hdt
    refine next_key_item tnh hgd hdt rfl (Array.getElem?_eq_getElem hi) fun h' st' sb => ?_
    have I1 : Inv X pins σ H { s with heap := h' } := I.turned (t' := s.toks) (fun b ob hb e => (sb.2 b hb).trans e) f0 f1 f3 f4 f5
    obtain ⟨⟨k, rk⟩, _⟩ := ent i _ (Array.getElem?_eq_getElem hi)
    obtain ⟨oi, e, c, dd⟩ := id st'
    exact ⟨_, rfl, go_of (s := { s with heap := h' }) e c dd (by decide) ⟨k, H, I1, rk, ⟨rfl, _, Array.getElem?_eq_getElem hi, rk⟩, st', fun b hb => (hf b hb).1⟩⟩
  done := by
    intro X hP hw hK hc i pins s σ H E I hf tnh hg
    subst hP hw hK
    obtain ⟨hd, hi⟩ := hg
    obtain ⟨f0, f1, f2, f3, f4, f5⟩ := hf it (by simp)
    obtain ⟨hs, hgd, hx, es', ep', hdt, ent⟩ := frz_raw (st := st) I hd dl
    obtain ⟨rfl, rfl⟩ := dict_ep hod hdt
    exact next_key_end (I.ok.hd hc) tnh hgd hdt rfl hi fun h' eb => ⟨rfl, I.turned (t' := s.toks) (fun b ob hb e => eb b ob hb e) f0 f1 f3 f4 f5⟩
  self := fun A i s Q E st h => by
    refine wpAny_pyIter_slot st.typeIs F.slot_dict_keyiterator_iter (wpAny_call_entry F.slot_dict_keyiterator_iter st.typeIs F.entry_dict_keyiterator_iter ?_ (F.args_dict_keyiterator_iter_1 _))
    show wpAny _ _ (ret (.ref it)) _ _ s
    exact wpAny_pure ⟨_, rfl, "dict_keyiterator", _, st.typeIs, F.slot_dict_keyiterator_next.lookup, h⟩
theorem turn_itemsP {P : Program} {w : World} {K : PySem.W.Frag} {elts : List Expr} {kk : Nat} {tpos : Pos} {es : Array DictEntry} {ep : Nat} (it : Addr) (hod : ob.data = .dict es ep) (dl : DL (layP P w K st) d u) :
    Turn P w K (.Tuple elts kk tpos) (ItP d ob u es) [it] it (fun i h => ∃ ok ov, IsItemIter h it d i es.size ep ok ov) where
  mem := by simp
  obj := fun i h st b hb => by
    have e : b = it := by simpa using hb
    subst e
    obtain ⟨ok, ov, e⟩ := st
    exact ⟨_, e, fun v z => nomatch z⟩
  keep := fun i h h' st k => let ⟨ok, ov, e⟩ := st; ⟨ok, ov, k it (by simp) _ e⟩
  item := by
    intro X hP hw hK hc i pins s σ H E I hf tnh hg
    subst hP hw hK
    obtain ⟨hd, hi⟩ := hg
    obtain ⟨hs, hgd, hx, es', ep', hdt, ent⟩ := frz_raw (st := st) I hd dl
    obtain ⟨rfl, rfl⟩ := dict_ep hod hdt
    obtain ⟨ok, ov, he⟩ := tnh
    have hlt : it < s.heap.objs.size := Heap.lt_size he
    obtain ⟨⟨k, rk⟩, v, rv⟩ := ent i _ (Array.getElem?_eq_getElem hi)
    refine DT.nextI he (raw_at hgd hx hdt) hi fun h' ho hT hz hk => ?_
    refine ⟨_, rfl, wpAny_letOwnedTupleGo_items (s := { s with heap := h' }) ho fun h'' he' sb => ?_⟩
    have hT2 : h''.get? s.heap.objs.size = some { cls := .type "tuple", data := .seq #[es'[i].key, es'[i].val] } := (sb.2 _ (Nat.ne_of_gt hlt)).trans hT
    have new : ObjOk X.prog X.w (upd H s.heap.objs.size (.tup [k, v])) h'' s.heap.objs.size (.tup [k, v]) :=
      ⟨by show 2 ≤ sizeLine; decide, [es'[i].key, es'[i].val], .cons rk (.cons rv .nil), ⟨_, hT2, rfl, _, rfl⟩⟩
    have I1 : Inv X pins σ (upd H s.heap.objs.size (.tup [k, v])) { s with heap := h'' } :=
      I.turnedNew (t' := s.toks) (ch := [it]) (fun b ob hb e => (sb.2 b (by simpa using hb)).trans (hk b ob (by simpa using hb) e)) hf (Nat.le_refl _) new
    refine ⟨.ref s.heap.objs.size, _, I1, rfl, ⟨_, _, k, v, Array.getElem?_eq_getElem hi, rk, rv, rfl, I.hok.fresh (Nat.le_refl _), rfl⟩, ⟨_, _, he'⟩, fun b hb => ?_⟩
    have e : b = it := by simpa using hb
    rw [e, upd_ne (Nat.ne_of_lt hlt)]
    exact (hf it (by simp)).1
  done := by
    intro X hP hw hK hc i pins s σ H E I hf tnh hg
    subst hP hw hK
    obtain ⟨hd, hi⟩ := hg
    obtain ⟨f0, f1, f2, f3, f4, f5⟩ := hf it (by simp)
    obtain ⟨hs, hgd, hx, es', ep', hdt, ent⟩ := frz_raw (st := st) I hd dl
    obtain ⟨rfl, rfl⟩ := dict_ep hod hdt
    obtain ⟨ok, ov, he⟩ := tnh
    exact DT.endI (I.ok.hd hc) he (raw_at hgd hx hdt) hi fun h' eb => ⟨rfl, I.turned (t' := s.toks) (fun b ob hb e => eb b ob hb e) f0 f1 f3 f4 f5⟩
  self := fun A i s Q E st h => let ⟨_, _, e⟩ := st; PySem.W.kcp_self e h
end
section
variable {prog : Program} {w : World} {A : Around} {E : Value → Shared → Prop} {s : Shared}
theorem next_val_item {it d : Addr} {i ep : Nat} {od : Obj} {es : Array DictEntry} {en : DictEntry} {Q : Option Value → Shared → Prop} (hit : s.heap.IsValIter it d i es.size ep) (hod : s.heap.get? d = some od) (hdd : od.data = .dict es ep)
    (hx : es[i]? = some en) (hQ : ∀ h', h'.IsValIter it d (i + 1) es.size ep → Heap.SameBut it s.heap h' → Q (some en.val) { s with heap := h' }) : wpAny (model prog w) A (pyNext (.ref it)) Q E s := by
  obtain ⟨hlt, hen⟩ := Array.getElem?_eq_some_iff.mp hx
  obtain ⟨o, ho, hc, hd⟩ := id hit
  have ty := hit.typeIs
  unfold pyNext
  refine wpAny_bind (wpAny_attempt (wpAny_callSpecial?_slot (name := Str.ofString "__next__") ty F.slot_dict_valueiterator_next (wpAny_call_entry F.slot_dict_valueiterator_next ty F.entry_dict_valueiterator_next ?_ (F.args_dict_valueiterator_next_1 _))))
  refine wpAny_bind (wpAny_pure (wpAny_bind (wpAny_bind ?_)))
  first | refine wpAny_bind (wpAny_typeNameOfWhole_valiter ty (wpAny_pure ?_)) | refine wpAny_bind (wpAny_typeNameOf_valiter ty (wpAny_pure ?_))
  refine wpAny_bind (wpAny_fieldsOf ho hd ?_)
  have own : Builtin.Dict_items.ownsTuple "dict_valueiterator" = false := by decide
  simp only [own, Bool.false_eq_true, if_false]
  show wpAny _ _ (if (Value.ref d == Value.none) = true then _ else _) _ _ s
  rw [if_neg (show ¬ ((Value.ref d == Value.none) = true) from Bool.false_ne_true)]
  refine wpAny_bind (wpAny_pure (wpAny_bind (wpAny_dictEntries hod hdd ?_)))
  rw [if_neg (by simp)]
  refine wpAny_bind (wpAny_pure (wpAny_bind (wpAny_dictEpoch hod hdd ?_)))
  rw [if_neg (by simp)]
  refine wpAny_pure ?_
  simp only [show ¬ ((i : Int) < 0) from by omega, if_false, Int.toNat_natCast, Array.getElem?_eq_getElem hlt]
  refine wpAny_bind ?_
  first | refine wpAny_bind (wpAny_typeNameOfWhole_valiter ty (wpAny_pure ?_)) | refine wpAny_bind (wpAny_typeNameOf_valiter ty (wpAny_pure ?_))
  refine wpAny_bind (wpAny_isOneOf_valiter ty ?_)
  show wpAny _ _ (setField (.ref it) 1 (rawInt ((i : Int) + 1)) >>= _) _ _ s
  refine wpAny_bind (wpAny_setField ho hd (by simp) ?_)
  have hit' : (s.heap.update it (Obj.mapFields (·.setIfInBounds 1 (rawInt ((i : Int) + 1))))).IsValIter it d (i + 1) es.size ep :=
    ⟨_, Heap.get?_update_self _ ho (Obj.isFreed_of_fields (Obj.data_mapFields hd _)), (Obj.cls_mapFields ..).trans hc, by rw [Obj.data_mapFields hd]; simp [rawInt]⟩
  have ty' : Shared.TypeIs { s with heap := s.heap.update it (Obj.mapFields (·.setIfInBounds 1 (rawInt ((i : Int) + 1)))) } (.ref it) "dict_valueiterator" := hit'.typeIs
  refine wpAny_bind (wpAny_holding (wpAny_bind (wpAny_isOneOf_valiter ty' (wpAny_bind (wpAny_isOneOf_valiter ty' ?_)))))
  show wpAny _ _ (pure es[i].val) _ _ _
  rw [hen]
  exact wpAny_pure (wpAny_pure ⟨_, rfl, wpAny_pure (hQ _ hit' (Heap.SameBut.update ..))⟩)
theorem next_val_end {it d : Addr} {i ep : Nat} {od : Obj} {es : Array DictEntry} {Q : Option Value → Shared → Prop} (hh : A.handled = none) (hit : s.heap.IsValIter it d i es.size ep) (hod : s.heap.get? d = some od) (hdd : od.data = .dict es ep)
    (hge : es.size ≤ i) (hQ : ∀ h', Heap.ExtBut it s.heap h' → Q none { s with heap := h' }) : wpAny (model prog w) A (pyNext (.ref it)) Q E s := by
  obtain ⟨o, ho, hc, hd⟩ := id hit
  have ty := hit.typeIs
  unfold pyNext
  refine wpAny_bind (wpAny_attempt (wpAny_callSpecial?_slot (name := Str.ofString "__next__") ty F.slot_dict_valueiterator_next (wpAny_call_entry F.slot_dict_valueiterator_next ty F.entry_dict_valueiterator_next ?_ (F.args_dict_valueiterator_next_1 _))))
  refine wpAny_bind (wpAny_pure (wpAny_bind (wpAny_bind ?_)))
  first | refine wpAny_bind (wpAny_typeNameOfWhole_valiter ty (wpAny_pure ?_)) | refine wpAny_bind (wpAny_typeNameOf_valiter ty (wpAny_pure ?_))
  refine wpAny_bind (wpAny_fieldsOf ho hd ?_)
  have own : Builtin.Dict_items.ownsTuple "dict_valueiterator" = false := by decide
  simp only [own, Bool.false_eq_true, if_false]
  show wpAny _ _ (if (Value.ref d == Value.none) = true then _ else _) _ _ s
  rw [if_neg (show ¬ ((Value.ref d == Value.none) = true) from Bool.false_ne_true)]
  refine wpAny_bind (wpAny_pure (wpAny_bind (wpAny_dictEntries hod hdd ?_)))
  rw [if_neg (by simp)]
  refine wpAny_bind (wpAny_pure (wpAny_bind (wpAny_dictEpoch hod hdd ?_)))
  rw [if_neg (by simp)]
  refine wpAny_pure ?_
  simp only [show ¬ ((i : Int) < 0) from by omega, if_false, Int.toNat_natCast, Array.getElem?_eq_none hge]
  refine wpAny_bind ?_
  first | refine wpAny_bind (wpAny_typeNameOfWhole_valiter ty (wpAny_pure ?_)) | refine wpAny_bind (wpAny_typeNameOf_valiter ty (wpAny_pure ?_))
  show wpAny _ _ (setField (.ref it) 0 .none >>= _) _ _ s
  refine wpAny_bind (wpAny_setField ho hd (by simp) ?_)
  show wpAny _ _ (newExc (.type "StopIteration") [] >>= _) _ _ _
  refine wpAny_bind ?_
  simp only [newExc, newTuple]
  refine wpAny_bind (wpAny_newObj_type ?_ (by size_fits))
  refine wpAny_bind (m := firstArgMember _ _) (wpAny_of_eq (a := Value.none) (by first | rfl | (simp only [firstArgMember]; rfl)) ?_)
  refine wpAny_newObj_type ?_ (by size_fits)
  simp only [raiseNew]
  refine wpAny_bind (wpAny_handled ?_)
  rw [show A.in1.handled = none from hh]
  refine wpAny_bind (wpAny_pure (wpAny_throw ?_))
  refine wpAny_bind (wpAny_isInstance (T := "StopIteration") (b := true) ⟨_, Heap.get?_push_size _ rfl, rfl⟩ isSubtype_stop ?_)
  exact wpAny_pure (hQ _ (((Heap.SameBut.update ..).extBut.push _).push _))
/-- d.values(), by the raw dict -/
theorem meetsValues {d : Addr} {es : Array DictEntry} {ep : Nat} (hd : (d == sysModules) = false) : MeetsIn prog w (Builtin.«dict.values» ⟨[.ref d], []⟩) (fun _ R s => DT.Raw s.heap d es ep ∧ R (.ok (.ret (.ref s.heap.objs.size))) { s with heap := s.heap.push { cls := .type "dict_values", data := .fields #[.ref d] } }) :=
    .of_wp fun A R s ⟨hm, h⟩ => by
      unfold Builtin.«dict.values»
      refine wpAny_bind ?_
      unfold Builtin.Dict.noArgs
      refine wpAny_bind (wpAny_notOrdered_dict hm.typeIs ?_)
      show wpAny _ _ (pure d) _ _ s
      refine wpAny_pure ?_
      show wpAny _ _ (Builtin.Dict.showsAll d >>= _) _ _ s
      unfold Builtin.Dict.showsAll
      rw [if_neg (by rw [hd]; exact Bool.false_ne_true)]
      exact wpAny_bind (wpAny_pure (wpAny_bind (wpAny_newObj_type (wpAny_pure ⟨_, rfl, h⟩))))
theorem iterV {v d : Addr} {es : Array DictEntry} {ep : Nat} {Q : Value → Shared → Prop} (hv : s.heap.IsValuesView v d) (hm : DT.Raw s.heap d es ep)
    (hQ : Q (.ref s.heap.objs.size) { s with heap := s.heap.push { cls := .type "dict_valueiterator", data := .fields #[.ref d, .int 0 0, .int es.size 0, .int ep 0] } }) : wpAny (model prog w) A (pyIter (.ref v)) Q E s := by
  obtain ⟨ov, hov, hcv, hdv⟩ := id hv
  obtain ⟨o, ho, hc, hdat⟩ := id hm
  refine wpAny_pyIter_slot hv.typeIs F.slot_dict_values_iter (wpAny_call_entry F.slot_dict_values_iter hv.typeIs F.entry_dict_values_iter ?_ (F.args_dict_values_iter_1 _))
  unfold Builtin.«dict_values.__iter__»
  refine wpAny_bind (wpAny_pure (wpAny_bind ?_))
  unfold Builtin.Dict_items.dictOf
  refine wpAny_bind (wpAny_field hov hdv (x := .ref d) rfl (wpAny_pure (wpAny_bind ?_)))
  unfold Builtin.Dict_items.newIterator
  refine wpAny_bind (wpAny_dictEntries ho hdat (wpAny_bind (wpAny_dictEpoch ho hdat ?_)))
  have own : Builtin.Dict_items.ownsTuple "dict_valueiterator" = false := by decide
  simp only [own, Bool.false_eq_true, if_false]
  refine wpAny_newObj_type (wpAny_pure ⟨_, rfl, "dict_valueiterator", _, ⟨_, Heap.get?_push_size _ rfl, rfl⟩, F.slot_dict_valueiterator_next.lookup, ?_⟩)
  simpa [rawInt] using hQ
end
section
variable {X : Cx} {st : Stat} {pins : List (Addr × Obj)} {σ : L2.St} {H H1 : Hp} {s : Shared} {d : Addr} {ob : Obj} {u : HO}
theorem turn_valsD {P : Program} {w : World} {K : PySem.W.Frag} {tg : Expr} {es : Array DictEntry} {ep : Nat} (it : Addr) (hod : ob.data = .dict es ep) (dl : DL (layP P w K st) d u) : Turn P w K tg (ItV d ob u es (·.val)) [it] it (fun i h => h.IsValIter it d i es.size ep) where
  mem := by simp
  obj := fun i h st b hb => by
    have e : b = it := by simpa using hb
    subst e
    obtain ⟨oi, e, c, dd⟩ := st
    exact ⟨oi, e, fun v z => by rw [dd] at z; cases z⟩
  keep := fun i h h' st k => st.at fun oi e => k it (by simp) oi e
  item := by
    intro X hP hw hK hc i pins s σ H E I hf tnh hg
    subst hP hw hK
    obtain ⟨hd, hi⟩ := hg
    obtain ⟨f0, f1, f2, f3, f4, f5⟩ := hf it (by simp)
    obtain ⟨hs, hgd, hx, es', ep', hdt, ent⟩ := frz_raw (st := st) I hd dl
    obtain ⟨rfl, rfl⟩ := dict_ep hod hdt
    refine next_val_item tnh hgd hdt (Array.getElem?_eq_getElem hi) fun h' st' sb => ?_
    have I1 : Inv X pins σ H { s with heap := h' } := I.turned (t' := s.toks) (fun b ob hb e => (sb.2 b hb).trans e) f0 f1 f3 f4 f5
    obtain ⟨_, v, rv⟩ := ent i _ (Array.getElem?_eq_getElem hi)
    obtain ⟨oi, e, c, dd⟩ := id st'
    exact ⟨_, rfl, go_of (s := { s with heap := h' }) e c dd (by decide) ⟨v, H, I1, rv, ⟨rfl, _, Array.getElem?_eq_getElem hi, rv⟩, st', fun b hb => (hf b hb).1⟩⟩
  done := by
    intro X hP hw hK hc i pins s σ H E I hf tnh hg
    subst hP hw hK
    obtain ⟨hd, hi⟩ := hg
    obtain ⟨f0, f1, f2, f3, f4, f5⟩ := hf it (by simp)
    obtain ⟨hs, hgd, hx, es', ep', hdt, ent⟩ := frz_raw (st := st) I hd dl
    obtain ⟨rfl, rfl⟩ := dict_ep hod hdt
    exact next_val_end (I.ok.hd hc) tnh hgd hdt hi fun h' eb => ⟨rfl, I.turned (t' := s.toks) (fun b ob hb e => eb b ob hb e) f0 f1 f3 f4 f5⟩
  self := fun A i s Q E st h => wpAny_pyIter_valiter st h
end
end PD
set_option Elab.async false
set_option linter.all false
set_option maxRecDepth 100000
set_option maxHeartbeats 1000000
/-! PD: what a for walks. -/
namespace PD
open PySem PySem.Spec PyProof.Rows L2
/-- an iterator that yields what the source says -/
structure ItOk (L : Lay) (H1 : Hp) (J : It) (src : Src) : Prop where
  go : ∀ i S H d, RS L S H → Ext H1 H → ExF H1 H → src i S = some (some d) → J.go i H ∧ ∀ x H', J.yld i H x H' → RS L S H' ∧ Frm S H S H' ∧ Rep L H' d x
  stop : ∀ i S H, RS L S H → Ext H1 H → ExF H1 H → src i S = some none → J.stop i H
section
variable {X : Cx} {st : Stat} {W : L2.WX} {c : Cc} {T : Tab} {Φ : Phi} {k : Nat} {pins : List (Addr × Obj)} {σ : L2.St} {H H1 : Hp} {s : Shared} {S : Sto} {Ex : PD.WX} {Q : VK} {ρ : Rho} {L : Lay}
theorem reps_none {xs : List D} {vs : List V} {i : Nat} (r : Reps L H xs vs) (h : xs[i]? = none) : vs.length ≤ i := by
  have := r.length
  have := List.getElem?_eq_none_iff.mp h
  omega
/-! the sources of sequences: the item, the end -/
theorem itl_ok {a : Addr} : ItOk L H1 (Itl L.K a) (sSeq (.ref a)) := by
  refine ⟨fun i S H d rs ex xf h => ?_, fun i S H rs ex xf h => ?_⟩
  · obtain ⟨xs, h1, h2⟩ := Option.map_eq_some_iff.mp (show (seqOf S (.ref a)).map (fun xs => xs[i]?) = some (some d) from h)
    obtain ⟨p, vs, e, q, h3⟩ := rs.seq h1 (Rep.ref (a := a))
    cases e
    rcases h3 with ⟨h3, _⟩ | ⟨_, h3⟩
    · obtain ⟨v, g1, g2⟩ := q.get h2
      refine ⟨⟨vs, v, h3, g1⟩, fun x H' ⟨e, y⟩ => ?_⟩
      subst e
      have := y vs h3
      rw [g1] at this
      cases this
      exact ⟨rs, .refl, g2⟩
    · cases h3
  · obtain ⟨xs, h1, h2⟩ := Option.map_eq_some_iff.mp (show (seqOf S (.ref a)).map (fun xs => xs[i]?) = some none from h)
    obtain ⟨p, vs, e, q, h3⟩ := rs.seq h1 (Rep.ref (a := a))
    cases e
    rcases h3 with ⟨h3, _⟩ | ⟨_, h3⟩
    · exact ⟨vs, h3, reps_none q h2⟩
    · cases h3
theorem sqT_ext {K : PySem.W.Frag} {a : Addr} {vs : List V} (h : SqT K H1 a vs) (ex : Ext H1 H) : SqT K H a vs := by
  rcases h with h | h
  · exact .inl (ex a vs h)
  · exact .inr h
theorem itt_ok {a : Addr} {xs : List D} {vs : List V} (h : SqT L.K H1 a vs) (q : Reps L H1 xs vs) : ItOk L H1 (Itt L.K a) (sSeq (.tup xs)) := by
  refine ⟨fun i S H d rs ex xf h2 => ?_, fun i S H rs ex xf h2 => ?_⟩
  · have h2 : some (xs[i]?) = some (some d) := h2
    obtain ⟨v, g1, g2⟩ := (q.ext ex).get (Option.some.inj h2)
    refine ⟨⟨vs, v, sqT_ext h ex, g1⟩, fun x H' ⟨e, y⟩ => ?_⟩
    subst e
    have := y vs (sqT_ext h ex)
    rw [g1] at this
    cases this
    exact ⟨rs, .refl, g2⟩
  · have h2 : some (xs[i]?) = some none := h2
    exact ⟨vs, sqT_ext h ex, reps_none q (Option.some.inj h2)⟩
theorem its_ok {z : Str} : ItOk L H1 (Its z) (sSeq (.str z)) := by
  refine ⟨fun i S H d rs ex xf h2 => ?_, fun i S H rs ex xf h2 => ?_⟩
  · have h2 : some ((z.cps.toList[i]?).map fun c => D.str ⟨#[c]⟩) = some (some d) := h2
    obtain ⟨c, g1, rfl⟩ := Option.map_eq_some_iff.mp (Option.some.inj h2)
    have g2 : z.cps[i]? = some c := by rw [← Array.getElem?_toList]; exact g1
    refine ⟨(Array.getElem?_eq_some_iff.mp g2).1, fun x H' ⟨e, c', y, ec⟩ => ?_⟩
    subst e ec
    rw [g2] at y
    cases y
    exact ⟨rs, .refl, .str⟩
  · have h2 : some ((z.cps.toList[i]?).map fun c => D.str ⟨#[c]⟩) = some none := h2
    have g1 : z.cps.toList[i]? = none := by simpa using Option.some.inj h2
    rw [Array.getElem?_toList] at g1
    exact Array.getElem?_eq_none_iff.mp g1
theorem itr_ok {lo : Int} {n : Nat} : ItOk L H1 (Itr lo n) (sRange lo 1 n) := by
  refine ⟨fun i S H d rs ex xf h2 => ?_, fun i S H rs ex xf h2 => ?_⟩
  · have h2 : some (if i < n then some (D.int (lo + i * 1)) else none) = some (some d) := h2
    have h2 := Option.some.inj h2
    split at h2
    · rename_i hi
      cases h2
      refine ⟨hi, fun x H' ⟨e, y⟩ => ?_⟩
      subst e y
      rw [Int.mul_one]
      exact ⟨rs, .refl, .int⟩
    · cases h2
  · have h2 : some (if i < n then some (D.int (lo + i * 1)) else none) = some none := h2
    have h2 := Option.some.inj h2
    split at h2
    · cases h2
    · rename_i hi
      exact Nat.le_of_not_lt hi
/-- a new pair -/
theorem pair_ok {p : Addr} {x y : V} {dx dy : D} (rs : RS L S H) (hp : H p = none) (r1 : Rep L H dx x) (r2 : Rep L H dy y) : RS L S (upd H p (.tup [x, y])) ∧ Frm S H S (upd H p (.tup [x, y])) ∧ Rep L (upd H p (.tup [x, y])) (.tup [dx, dy]) (.ref p) :=
  ⟨rs.side hp, .side hp, .tup (SqT.of upd_same) (.cons (r1.ext (Ext.upd_new hp)) (.cons (r2.ext (Ext.upd_new hp)) .nil))⟩
theorem sSeq_str_no {z : Str} {S : Sto} : seqOf S (.str z) = none := rfl
theorem ite_ok {a : Addr} : ItOk L H1 (Ite L.K a) (sEnum (.ref a)) := by
  refine ⟨fun i S H d rs ex xf h => ?_, fun i S H rs ex xf h => ?_⟩
  · obtain ⟨o, h0, h4⟩ := Option.map_eq_some_iff.mp (show (sSeq (.ref a) i S).map (fun o => o.map fun d => D.tup [.int i, d]) = some (some d) from h)
    obtain ⟨d1, rfl, rfl⟩ := Option.map_eq_some_iff.mp h4
    obtain ⟨xs, h1, h2⟩ := Option.map_eq_some_iff.mp (show (seqOf S (.ref a)).map (fun xs => xs[i]?) = some (some d1) from h0)
    obtain ⟨p, vs, e, q, h3⟩ := rs.seq h1 (Rep.ref (a := a))
    cases e
    rcases h3 with ⟨h3, _⟩ | ⟨_, h3⟩
    · obtain ⟨v, g1, g2⟩ := q.get h2
      refine ⟨⟨vs, v, h3, g1⟩, fun x H' ⟨P, x1, e1, e2, e3, y⟩ => ?_⟩
      subst e1 e3
      have := y vs h3
      rw [g1] at this
      cases this
      exact pair_ok rs e2 .int g2
    · cases h3
  · obtain ⟨o, h0, h4⟩ := Option.map_eq_some_iff.mp (show (sSeq (.ref a) i S).map (fun o => o.map fun d => D.tup [.int i, d]) = some none from h)
    have ho : o = none := by simpa using h4
    subst ho
    obtain ⟨xs, h1, h2⟩ := Option.map_eq_some_iff.mp (show (seqOf S (.ref a)).map (fun xs => xs[i]?) = some none from h0)
    obtain ⟨p, vs, e, q, h3⟩ := rs.seq h1 (Rep.ref (a := a))
    cases e
    rcases h3 with ⟨h3, _⟩ | ⟨_, h3⟩
    · exact ⟨vs, h3, reps_none q h2⟩
    · cases h3
theorem iteT_ok {a : Addr} {xs : List D} {vs : List V} (h : SqT L.K H1 a vs) (q : Reps L H1 xs vs) : ItOk L H1 (IteT L.K a vs.length) (sEnum (.tup xs)) := by
  refine ⟨fun i S H d rs ex xf h2 => ?_, fun i S H rs ex xf h2 => ?_⟩
  · have h2 : some ((xs[i]?).map fun d => D.tup [.int i, d]) = some (some d) := h2
    obtain ⟨d1, h3, rfl⟩ := Option.map_eq_some_iff.mp (Option.some.inj h2)
    obtain ⟨v, g1, g2⟩ := (q.ext ex).get h3
    refine ⟨⟨vs, v, sqT_ext h ex, rfl, g1⟩, fun x H' ⟨P, x1, e1, e2, e3, y⟩ => ?_⟩
    subst e1 e3
    have := y vs (sqT_ext h ex)
    rw [g1] at this
    cases this
    exact pair_ok rs e2 .int g2
  · have h2 : some ((xs[i]?).map fun d => D.tup [.int i, d]) = some none := h2
    have h3 : xs[i]? = none := by simpa using Option.some.inj h2
    exact ⟨vs, sqT_ext h ex, rfl, reps_none q h3⟩
theorem zip_some {x y : D} {i : Nat} {d : D} (h : sZip x y i S = some (some d)) : ∃ a b, sSeq x i S = some (some a) ∧ sSeq y i S = some (some b) ∧ d = .tup [a, b] := by
  unfold sZip at h
  split at h
  · cases h; exact ⟨_, _, by assumption, by assumption, rfl⟩
  · cases h
  · cases h
  · cases h
theorem zip_none {x y : D} {i : Nat} (h : sZip x y i S = some none) : (∃ o, sSeq x i S = some o) ∧ (∃ o, sSeq y i S = some o) ∧ (sSeq x i S = some none ∨ sSeq y i S = some none) := by
  unfold sZip at h
  split at h
  · cases h
  · exact ⟨⟨_, by assumption⟩, ⟨_, by assumption⟩, .inr (by assumption)⟩
  · exact ⟨⟨_, by assumption⟩, ⟨_, by assumption⟩, .inl (by assumption)⟩
  · cases h
theorem itz_ok {a b : Addr} : ItOk L H1 (Itz L.K a b) (sZip (.ref a) (.ref b)) := by
  refine ⟨fun i S H d rs ex xf h => ?_, fun i S H rs ex xf h => ?_⟩
  · obtain ⟨d1, d2, h1, h2, rfl⟩ := zip_some h
    obtain ⟨⟨vs, v, g1, g2⟩, y1⟩ := (itl_ok (L := L) (H1 := H1) (a := a)).go i S H d1 rs ex xf h1
    obtain ⟨⟨ws, w, g3, g4⟩, y2⟩ := (itl_ok (L := L) (H1 := H1) (a := b)).go i S H d2 rs ex xf h2
    refine ⟨⟨vs, ws, v, w, g1, g3, g2, g4⟩, fun x H' ⟨P, x1, x2, e1, e2, e3, z1, z2⟩ => ?_⟩
    subst e1 e3
    obtain ⟨_, _, r1⟩ := y1 x1 H ⟨rfl, z1⟩
    obtain ⟨_, _, r2⟩ := y2 x2 H ⟨rfl, z2⟩
    exact pair_ok rs e2 r1 r2
  · obtain ⟨⟨o1, h1⟩, ⟨o2, h2⟩, h3⟩ := zip_none h
    obtain ⟨xs, e1, e2⟩ := Option.map_eq_some_iff.mp (show (seqOf S (.ref a)).map (fun xs => xs[i]?) = some o1 from h1)
    obtain ⟨ys, e3, e4⟩ := Option.map_eq_some_iff.mp (show (seqOf S (.ref b)).map (fun xs => xs[i]?) = some o2 from h2)
    obtain ⟨p, vs, e, q, h5⟩ := rs.seq e1 (Rep.ref (a := a))
    cases e
    obtain ⟨p, ws, e, q2, h6⟩ := rs.seq e3 (Rep.ref (a := b))
    cases e
    rcases h5 with ⟨h5, _⟩ | ⟨_, h5⟩
    · rcases h6 with ⟨h6, _⟩ | ⟨_, h6⟩
      · refine ⟨vs, ws, h5, h6, ?_⟩
        rcases h3 with h3 | h3
        · rw [h1] at h3; cases h3; exact .inl (reps_none q e2)
        · rw [h2] at h3; cases h3; exact .inr (reps_none q2 e4)
      · cases h6
    · cases h5
theorem itzT_ok {a b : Addr} {xs ys : List D} {vs ws : List V} (h : SqT L.K H1 a vs) (q : Reps L H1 xs vs) (h' : SqT L.K H1 b ws) (q' : Reps L H1 ys ws) : ItOk L H1 (RZ.ItzT L.K a b) (sZip (.tup xs) (.tup ys)) := by
  refine ⟨fun i S H d rs ex xf h2 => ?_, fun i S H rs ex xf h2 => ?_⟩
  · obtain ⟨d1, d2, h1, h5, rfl⟩ := zip_some h2
    obtain ⟨v, g1, g2⟩ := (q.ext ex).get (Option.some.inj h1)
    obtain ⟨w, g3, g4⟩ := (q'.ext ex).get (Option.some.inj h5)
    refine ⟨⟨vs, ws, v, w, sqT_ext h ex, sqT_ext h' ex, g1, g3⟩, fun x H' ⟨P, x1, x2, e1, e2, e3, z1, z2⟩ => ?_⟩
    subst e1 e3
    have t1 := z1 vs (sqT_ext h ex)
    have t2 := z2 ws (sqT_ext h' ex)
    rw [g1] at t1
    rw [g3] at t2
    cases t1; cases t2
    exact pair_ok rs e2 g2 g4
  · obtain ⟨_, _, h3⟩ := zip_none h2
    refine ⟨vs, ws, sqT_ext h ex, sqT_ext h' ex, ?_⟩
    rcases h3 with h3 | h3
    · exact .inl (reps_none q (Option.some.inj h3))
    · exact .inr (reps_none q' (Option.some.inj h3))
/-- a value walked: a list, a tuple, a text -/
def iSq (K : PySem.W.Frag) (te : TE) : TI := fun σ H R => te σ H fun x H1 => (∃ a xs, x = .ref a ∧ SqL K H1 a xs ∧ R (Itl K a) H1) ∨ (∃ a xs, x = .ref a ∧ SqT K H1 a xs ∧ R (Itt K a) H1) ∨ ∃ z, x = .str z ∧ R (Its z) H1
theorem pi_sq {tg e : Expr} {te : TE} (he : PE X e te) : PI X tg e (iSq X.K te) := by
  refine ⟨fun pins s σ H R I h => ?_⟩
  refine thn (he.run pins s σ H _ I h) fun v s1 ⟨y, H1, I1, r1, q⟩ => ?_
  rcases q with ⟨a, xs, ex, hq, q⟩ | ⟨a, xs, ex, hq, q⟩ | ⟨x, ex, q⟩
  · subst ex
    cases r1
    obtain ⟨its, rv, p, hz⟩ := I1.list hq
    exact wpAny_pyIter_list p.isList (pi_one (tk := s1.toks) I1 _ (turn_list a _) ⟨_, Heap.get?_push_size _ rfl, rfl, rfl⟩ q)
  · subst ex
    cases r1
    obtain ⟨its, rv, p, hz⟩ := I1.tuple hq
    exact wpAny_pyIter_tuple (show s1.heap.IsTuple a its.toArray from p) (pi_one (tk := s1.toks) I1 _ (turn_tuple a _) ⟨_, Heap.get?_push_size _ rfl, rfl, rfl⟩ q)
  · subst ex
    obtain ⟨t, rfl⟩ := r1
    cases ha : x.cps.all (· < 128)
    · exact wpAny_pyIter_wide ha (pi_one (tk := s1.toks) I1 _ (turn_str _ x t "str_iterator" (.inr rfl)) ⟨_, Heap.get?_push_size _ rfl, rfl, rfl⟩ q)
    · exact wpAny_pyIter_ascii ha (pi_one (tk := s1.toks) I1 _ (turn_str _ x t "str_ascii_iterator" (.inl rfl)) ⟨_, Heap.get?_push_size _ rfl, rfl, rfl⟩ q)
/-- what is locked may be unlocked behind -/
def LkOk (X : Cx) (H : Hp) (l : Option Addr) : Prop := ∀ a, l = some a → (∀ o u, X.H_0 a ≠ some (.frz o u)) ∧ ∀ o u, H a ≠ some (.frz o u)
theorem lk_none : LkOk X H none := fun _ e => nomatch e
/-- what is walked, told of data -/
def lI (X : Cx) (st : Stat) (W : L2.WX) (T : Tab) (Φ : Phi) (ik : IK) (es : List E) : TI := fun σ H R => ∃ ρ S Ex, At X st W σ H ρ S Ex ∧ wEs T Φ es ρ S (fun ds S1 => wSrc ik ds S1 fun src l S2 => ∀ J H1, LkOk X H l → Frm S H S2 H1 → RS (lay X st) S2 H1 → ItOk (lay X st) H1 J src → R J H1) Ex
/-- .. that locks nothing -/
def lI0 (X : Cx) (st : Stat) (W : L2.WX) (T : Tab) (Φ : Phi) (ik : IK) (es : List E) : TI := fun σ H R => ∃ ρ S Ex, At X st W σ H ρ S Ex ∧ wEs T Φ es ρ S (fun ds S1 => wSrc ik ds S1 fun src l S2 => ∀ J H1, l = none → Frm S H S2 H1 → RS (lay X st) S2 H1 → ItOk (lay X st) H1 J src → R J H1) Ex
theorem wSrc_free {ik : IK} {ds : List D} {R : Src → Option Addr → Sto → Prop} (hf : ikFree ik = true) (h : wSrc ik ds S R) : wSrc ik ds S fun src l S' => l = none ∧ R src l S' := by
  unfold wSrc at h ⊢
  split at h <;> first
    | exact absurd hf Bool.false_ne_true
    | exact ⟨rfl, h⟩
    | exact ⟨h.1, rfl, h.2⟩
    | exact h.elim
theorem pi_free (hΦ : PhiMono Φ) {ik : IK} {tg it : Expr} {es : List E} (hf : ikFree ik = true) (h : PI X tg it (lI X st W T Φ ik es)) : PI X tg it (lI0 X st W T Φ ik es) := ⟨fun pins s σ H R I hw => by
  obtain ⟨ρ, S, Ex, z, hw⟩ := hw
  exact h.run pins s σ H R I ⟨ρ, S, Ex, z, wEs_mono hΦ _ _ _ _ _ _ _ (fun ds S1 q => wSrc_mono (fun src l S2 ⟨e, q⟩ J H1 _ => q J H1 e) (wSrc_free hf q)) (fun _ _ w => w) hw⟩⟩
/-! dicts -/
theorem dct_lock {ik : IK} {a : Addr} {R : Src → Option Addr → Sto → Prop} {S1 : Sto} (I : Inv X pins σ H1 s) (rs : RS (lay X st) S1 H1) (f : Frm S H S1 H1) (q : dctSrc ik a S1 R) :
    ∃ l S2 H2 ob u kvs, R (sDct a (dctF ik)) l S2 ∧ LkOk X H l ∧ Frm S H S2 H2 ∧ RS (lay X st) S2 H2 ∧ Inv X pins σ H2 s ∧ H2 a = some (.frz ob u) ∧ ROk (lay X st) H2 (.dct kvs) a u := by
  unfold dctSrc at q
  split at q
  · rename_i kvs h
    obtain ⟨u, e, k⟩ := rs a _ h
    have mu := dct_mut rs h
    rw [e] at mu
    obtain ⟨od, I2⟩ := I.lock e mu
    have k2 := k.ext (rs.ext_put h (ho := .frz od u))
    refine ⟨_, _, _, od, u, kvs, q, fun b hb => ?_, f.trans (.put rs h), rs.put (rs.ext_put h) (.frz k2), I2, upd_same, k2⟩
    cases hb
    refine ⟨I.nofrz e mu, fun o w e2 => ?_⟩
    have := f.2 a o w e2
    rw [e] at this
    exact k.nofrz (fun _ z => nomatch z) o w (Option.some.inj this)
  · rename_i kvs h
    obtain ⟨u, e, k⟩ := rs a _ h
    cases k with
    | frz k => exact ⟨_, _, _, _, _, kvs, q, lk_none, f, rs, I, e, k⟩
  · exact q.elim
theorem ROk.dl {kvs : List (D × D)} {d : Addr} {u : HO} (r : ROk L H (.dct kvs) d u) : DL L d u := by
  cases r with
  | dK _ _ => exact .inl ⟨_, rfl⟩
  | dT _ => exact .inr ⟨_, rfl⟩
theorem sDct_at {a : Addr} {g : D × D → D} {i : Nat} {o : Option D} (h : sDct a g i S = some o) : ∃ kvs, S a = some (.frz (.dct kvs)) ∧ o = (kvs[i]?).map g := by
  unfold sDct at h
  split at h
  · rename_i kvs e; cases h; exact ⟨kvs, e, rfl⟩
  · cases h
section
variable {a : Addr} {ob : Obj} {u : HO} {es : Array DictEntry} {ep : Nat} {hh : Heap} {H0 : Hp}
theorem frz_now {kvs : List (D × D)} (rs : RS L S H) (xf : ExF H1 H) (hH : H1 a = some (.frz ob u)) (e : S a = some (.frz (.dct kvs))) : H a = some (.frz ob u) ∧ ROk L H (.dct kvs) a u := by
  obtain ⟨ho, e1, k⟩ := rs a _ e
  have e2 := xf a ob u hH
  rw [e2] at e1
  cases e1
  cases k with
  | frz k => exact ⟨e2, k⟩
theorem itv_ok {pk : DictEntry → Value} {g : D × D → D} (hg : ∀ {H : Hp} {p : D × D} {e : DictEntry}, (∃ x, Rep L H p.1 x ∧ RelV x e.key) → (∃ y, Rep L H p.2 y ∧ RelV y e.val) → ∃ x, Rep L H (g p) x ∧ RelV x (pk e))
    (z : ObjOk L.P L.w H0 hh a (.frz ob u)) (hod : ob.data = .dict es ep) (hH : H1 a = some (.frz ob u)) : ItOk L H1 (ItV a ob u es pk) (sDct a g) := by
  refine ⟨fun i S H d rs ex xf h => ?_, fun i S H rs ex xf h => ?_⟩
  · obtain ⟨kvs, e, h2⟩ := sDct_at h
    obtain ⟨p, hp, rfl⟩ := Option.map_eq_some_iff.mp h2.symm
    obtain ⟨e2, k⟩ := frz_now rs xf hH e
    obtain ⟨hsz, ent⟩ := frz_rok rfl rfl z hod k
    obtain ⟨en, g1, g2, g3⟩ := ent i p hp
    refine ⟨⟨e2, (Array.getElem?_eq_some_iff.mp g1).1⟩, fun x H' ⟨e3, en', g4, rx⟩ => ?_⟩
    subst e3
    rw [g1] at g4
    cases g4
    obtain ⟨x', r1, r2⟩ := hg g2 g3
    rw [RelV.inj rx r2]
    exact ⟨rs, .refl, r1⟩
  · obtain ⟨kvs, e, h2⟩ := sDct_at h
    obtain ⟨e2, k⟩ := frz_now rs xf hH e
    obtain ⟨hsz, _⟩ := frz_rok rfl rfl z hod k
    exact ⟨e2, by rw [hsz]; exact List.getElem?_eq_none_iff.mp (Option.map_eq_none_iff.mp h2.symm)⟩
theorem itp_ok (z : ObjOk L.P L.w H0 hh a (.frz ob u)) (hod : ob.data = .dict es ep) (hH : H1 a = some (.frz ob u)) : ItOk L H1 (ItP a ob u es) (sDct a (dctF .items)) := by
  refine ⟨fun i S H d rs ex xf h => ?_, fun i S H rs ex xf h => ?_⟩
  · obtain ⟨kvs, e, h2⟩ := sDct_at h
    obtain ⟨p, hp, rfl⟩ := Option.map_eq_some_iff.mp h2.symm
    obtain ⟨e2, k⟩ := frz_now rs xf hH e
    obtain ⟨hsz, ent⟩ := frz_rok rfl rfl z hod k
    obtain ⟨en, g1, ⟨x, r1, r2⟩, y, r3, r4⟩ := ent i p hp
    refine ⟨⟨e2, (Array.getElem?_eq_some_iff.mp g1).1⟩, fun v H' ⟨T, en', k', v', g4, rk, rv, ev, hT, e3⟩ => ?_⟩
    subst ev e3
    rw [g1] at g4
    cases g4
    rw [RelV.inj rk r2, RelV.inj rv r4]
    exact pair_ok rs hT r1 r3
  · obtain ⟨kvs, e, h2⟩ := sDct_at h
    obtain ⟨e2, k⟩ := frz_now rs xf hH e
    obtain ⟨hsz, _⟩ := frz_rok rfl rfl z hod k
    exact ⟨e2, by rw [hsz]; exact List.getElem?_eq_none_iff.mp (Option.map_eq_none_iff.mp h2.symm)⟩
end
theorem src_seq {d : D} {v : V} {xs : List D} (rs : RS L S H) (r : Rep L H d v) (h : seqOf S d = some xs) : ∃ a vs, v = .ref a ∧ Reps L H xs vs ∧ ((SqL L.K H a vs ∧ d = .ref a ∧ ItOk L H (Itl L.K a) (sSeq d)) ∨ (SqT L.K H a vs ∧ d = .tup xs ∧ ItOk L H (Itt L.K a) (sSeq d))) := by
  obtain ⟨p, vs, rfl, q, h3⟩ := rs.seq h r
  rcases h3 with ⟨h3, rfl⟩ | ⟨h3, rfl⟩
  · exact ⟨p, vs, rfl, q, .inl ⟨h3, rfl, itl_ok⟩⟩
  · exact ⟨p, vs, rfl, q, .inr ⟨h3, rfl, itt_ok h3 q⟩⟩
theorem isTupE_at {tg : Expr} (h : isTupE tg = true) : ∃ es k p, tg = .Tuple es k p := by
  cases tg <;> first | exact ⟨_, _, _, rfl⟩ | cases h
theorem src_pi (G : Good X st W c T Φ) {ik : IK} {tg it : Expr} {xs : List Expr} {es : List E} (hp : isFor ik c tg it = some xs) (ha : All2 X st W T Φ xs es) : PI X tg it (lI X st W T Φ ik es) := by
  unfold isFor at hp
  split at hp
  · -- a value
    split at hp
    · cases hp
      obtain ⟨e, rfl, h1⟩ := all2_one ha
      refine ⟨fun pins s σ H R I h => ?_⟩
      obtain ⟨ρ, S, Ex, z, h⟩ := h
      rw [wEs] at h
      simp only [wEs] at h
      refine (pi_sq h1).run pins s σ H R I (z.e G e h fun d S1 v H1 q f r e => ?_)
      cases d with
      | str y => cases e; exact .inr (.inr ⟨y, rfl, q _ _ lk_none f r its_ok⟩)
      | tup ys =>
        have q : (∃ xs, seqOf S1 (.tup ys) = some xs) ∧ ∀ J H1, LkOk X H none → Frm S H S1 H1 → RS (lay X st) S1 H1 → ItOk (lay X st) H1 J (sSeq (.tup ys)) → R J H1 := q
        obtain ⟨⟨xs, hx⟩, q⟩ := q
        obtain ⟨a, vs, rfl, q2, q3⟩ := src_seq r e hx
        rcases q3 with ⟨_, q4, _⟩ | ⟨q3, _, q4⟩
        · cases q4
        · exact .inr (.inl ⟨a, vs, rfl, q3, q _ _ lk_none f r q4⟩)
      | ref b =>
        have q : (∃ xs, seqOf S1 (.ref b) = some xs) ∧ ∀ J H1, LkOk X H none → Frm S H S1 H1 → RS (lay X st) S1 H1 → ItOk (lay X st) H1 J (sSeq (.ref b)) → R J H1 := q
        obtain ⟨⟨xs, hx⟩, q⟩ := q
        obtain ⟨a, vs, rfl, q2, q3⟩ := src_seq r e hx
        rcases q3 with ⟨q3, _, q4⟩ | ⟨_, q4, _⟩
        · exact .inl ⟨a, vs, rfl, q3, q _ _ lk_none f r q4⟩
        · cases q4
      | non => obtain ⟨⟨xs, hx⟩, _⟩ := q; cases hx
      | bl _ => obtain ⟨⟨xs, hx⟩, _⟩ := q; cases hx
      | int _ => obtain ⟨⟨xs, hx⟩, _⟩ := q; cases hx
      | ty _ => obtain ⟨⟨xs, hx⟩, _⟩ := q; cases hx
      | fn _ => obtain ⟨⟨xs, hx⟩, _⟩ := q; cases hx
      | cls _ => obtain ⟨⟨xs, hx⟩, _⟩ := q; cases hx
    · cases hp
  · -- a dict's keys
    split at hp
    · cases hp
      obtain ⟨e, rfl, h1⟩ := all2_one ha
      refine ⟨fun pins s σ H R I h => ?_⟩
      obtain ⟨ρ, S, Ex, z, h⟩ := h
      rw [wEs] at h
      simp only [wEs] at h
      refine thn (h1.run pins s σ H _ I (z.e G e h (P := fun v H1 => ∃ d S1, wSrc .dct [d] S1 (fun src l S2 => ∀ J H1, LkOk X H l → Frm S H S2 H1 → RS (lay X st) S2 H1 → ItOk (lay X st) H1 J src → R J H1) ∧ Frm S H S1 H1 ∧ RS (lay X st) S1 H1 ∧ Rep (lay X st) H1 d v) fun d S1 v H1 q f r e => ⟨d, S1, q, f, r, e⟩)) fun w s1 ⟨v, H1, I1, rv, d, S1, q, f, r, e⟩ => ?_
      cases d with
      | ref a =>
        cases e; cases rv
        have q : dctSrc .dct a S1 (fun src l S2 => ∀ J H1, LkOk X H l → Frm S H S2 H1 → RS (lay X st) S2 H1 → ItOk (lay X st) H1 J src → R J H1) := q
        obtain ⟨l, S2, H2, ob, u, kvs, q, lk, f2, rs2, I2, hH, k⟩ := dct_lock (ik := .dct) I1 r f q
        obtain ⟨hs, hgd, hx, es, ep, hdt, ent⟩ := frz_raw (st := st) I2 hH k.dl
        exact iter_keys hs hgd hx hdt (pi_one (tk := s1.toks) I2 _ (turn_keysD (st := st) _ hdt k.dl) ⟨_, Heap.get?_push_size _ rfl, rfl, rfl⟩ (q _ _ lk f2 rs2 (itv_ok (fun g _ => g) (I2.hok a _ hH) hdt hH)))
      | _ => exact q.elim
    · cases hp
  · -- its items
    split at hp
    · rename_i e n apos pos hb
      cases hp
      simp only [Bool.and_eq_true, decide_eq_true_eq] at hb
      obtain ⟨⟨rfl, g2⟩, g3, g4⟩ := hb
      obtain ⟨_, _, _, rfl⟩ := isTupE_at g2
      obtain ⟨e', rfl, h1⟩ := all2_one ha
      refine ⟨fun pins s σ H R I h => ?_⟩
      obtain ⟨ρ, S, Ex, z, h⟩ := h
      rw [wEs] at h
      simp only [wEs] at h
      refine wpAny_Call_method (T := "dict") (id := "dict.items") (attrBase_of g3 _ X.env) rfl g4 F.plainAttrs_dict F.slot_dict_items F.type_dict_items (thn (h1.run pins s σ H _ I (z.e G e' h (P := fun v H1 => ∃ d S1, wSrc .items [d] S1 (fun src l S2 => ∀ J H1, LkOk X H l → Frm S H S2 H1 → RS (lay X st) S2 H1 → ItOk (lay X st) H1 J src → R J H1) ∧ Frm S H S1 H1 ∧ RS (lay X st) S1 H1 ∧ Rep (lay X st) H1 d v) fun d S1 v H1 q f r e => ⟨d, S1, q, f, r, e⟩)) fun w s1 ⟨v, H1, I1, rv, d, S1, q, f, r, e⟩ => ?_)
      cases d with
      | ref a =>
        cases e; cases rv
        have q : dctSrc .items a S1 (fun src l S2 => ∀ J H1, LkOk X H l → Frm S H S2 H1 → RS (lay X st) S2 H1 → ItOk (lay X st) H1 J src → R J H1) := q
        obtain ⟨l, S2, H2, ob, u, kvs, q, lk, f2, rs2, I2, hH, k⟩ := dct_lock (ik := .items) I1 r f q
        obtain ⟨hs, hgd, hx, es, ep, hdt, ent⟩ := frz_raw (st := st) I2 hH k.dl
        refine ⟨⟨ob, hgd, hx.1⟩, fun b eb => (by cases eb; exact ⟨ob, hgd, hx.2.1⟩), ?_⟩
        have raw := raw_at hgd hx hdt
        have I3 : Inv X pins σ H2 { s1 with heap := s1.heap.push { cls := .type "dict_items", data := .fields #[.ref a] } } := I2.kept (t' := s1.toks) fun b ob q => Heap.get?_push_of_some _ q
        show wpAny _ _ (callWith pos (.builtin "dict.items") [.ref a] [] []) _ X.xe s1
        refine method_meetsIn F.slot_dict_items F.entry_dict_items rfl (PySem.evalArgs_none ⟨rfl, raw.typeIs, F.args_dict_items_1 _, _, DT.meetsItems (es := es) (ep := ep) hs, raw, ?_⟩)
        exact DT.iterI ⟨_, Heap.get?_push_size _ rfl, rfl, rfl⟩ (raw.push _) (pi_one (tk := s1.toks) I3 _ (turn_itemsP (st := st) _ hdt k.dl) ⟨.none, .none, Heap.get?_push_size _ rfl⟩ (q _ _ lk f2 rs2 (itp_ok (I2.hok a _ hH) hdt hH)))
      | _ => exact q.elim
    · cases hp
  · -- its values
    split at hp
    · rename_i e n apos pos hb
      cases hp
      simp only [Bool.and_eq_true, decide_eq_true_eq] at hb
      obtain ⟨rfl, g3, g4⟩ := hb
      obtain ⟨e', rfl, h1⟩ := all2_one ha
      refine ⟨fun pins s σ H R I h => ?_⟩
      obtain ⟨ρ, S, Ex, z, h⟩ := h
      rw [wEs] at h
      simp only [wEs] at h
      refine wpAny_Call_method (T := "dict") (id := "dict.values") (attrBase_of g3 _ X.env) rfl g4 F.plainAttrs_dict F.slot_dict_values F.type_dict_values (thn (h1.run pins s σ H _ I (z.e G e' h (P := fun v H1 => ∃ d S1, wSrc .vals [d] S1 (fun src l S2 => ∀ J H1, LkOk X H l → Frm S H S2 H1 → RS (lay X st) S2 H1 → ItOk (lay X st) H1 J src → R J H1) ∧ Frm S H S1 H1 ∧ RS (lay X st) S1 H1 ∧ Rep (lay X st) H1 d v) fun d S1 v H1 q f r e => ⟨d, S1, q, f, r, e⟩)) fun w s1 ⟨v, H1, I1, rv, d, S1, q, f, r, e⟩ => ?_)
      cases d with
      | ref a =>
        cases e; cases rv
        have q : dctSrc .vals a S1 (fun src l S2 => ∀ J H1, LkOk X H l → Frm S H S2 H1 → RS (lay X st) S2 H1 → ItOk (lay X st) H1 J src → R J H1) := q
        obtain ⟨l, S2, H2, ob, u, kvs, q, lk, f2, rs2, I2, hH, k⟩ := dct_lock (ik := .vals) I1 r f q
        obtain ⟨hs, hgd, hx, es, ep, hdt, ent⟩ := frz_raw (st := st) I2 hH k.dl
        refine ⟨⟨ob, hgd, hx.1⟩, fun b eb => (by cases eb; exact ⟨ob, hgd, hx.2.1⟩), ?_⟩
        have raw := raw_at hgd hx hdt
        have I3 : Inv X pins σ H2 { s1 with heap := s1.heap.push { cls := .type "dict_values", data := .fields #[.ref a] } } := I2.kept (t' := s1.toks) fun b ob q => Heap.get?_push_of_some _ q
        show wpAny _ _ (callWith pos (.builtin "dict.values") [.ref a] [] []) _ X.xe s1
        refine method_meetsIn F.slot_dict_values F.entry_dict_values rfl (PySem.evalArgs_none ⟨rfl, raw.typeIs, F.args_dict_values_1 _, _, meetsValues (es := es) (ep := ep) hs, raw, ?_⟩)
        exact iterV ⟨_, Heap.get?_push_size _ rfl, rfl, rfl⟩ (raw.push _) (pi_one (tk := s1.toks) I3 _ (turn_valsD (st := st) _ hdt k.dl) ⟨_, Heap.get?_push_size _ rfl, rfl, rfl⟩ (q _ _ lk f2 rs2 (itv_ok (fun _ g => g) (I2.hok a _ hH) hdt hH)))
      | _ => exact q.elim
    · cases hp
  · -- range(j)
    split at hp
    · rename_i n p a pos hb
      cases hp
      simp only [Bool.and_eq_true, decide_eq_true_eq] at hb
      obtain ⟨g1, rfl, g2⟩ := hb
      obtain ⟨hgl, _, _⟩ := glo_of G.sc g1
      obtain ⟨e, rfl, h1⟩ := all2_one ha
      refine ⟨fun pins s σ H R I h => ?_⟩
      obtain ⟨ρ, S, Ex, z, h⟩ := h
      rw [wEs] at h
      simp only [wEs] at h
      refine (pi_range1 hgl (G.free (by decide +kernel)) (pa_cons h1 pa_nil (star_of g2)) (star_of g2)).run pins s σ H R I (z.e G e h fun d S1 v H1 q f r e => ?_)
      cases d with
      | int j =>
        cases e
        have q : (-(2 ^ 62) ≤ j ∧ j < 2 ^ 62) ∧ ∀ J H1, LkOk X H none → Frm S H S1 H1 → RS (lay X st) S1 H1 → ItOk (lay X st) H1 J (sRange 0 1 j.toNat) → R J H1 := q
        exact ⟨j, rfl, q.1.1, q.1.2, q.2 _ _ lk_none f r itr_ok⟩
      | _ => exact q.elim
    · cases hp
  · split at hp
    · rename_i n p a b pos hb
      cases hp
      simp only [Bool.and_eq_true, decide_eq_true_eq] at hb
      obtain ⟨g1, rfl, g2, g3⟩ := hb
      obtain ⟨hgl, _, _⟩ := glo_of G.sc g1
      obtain ⟨e1, e2, rfl, h1, h2⟩ := all2_two ha
      refine ⟨fun pins s σ H R I h => ?_⟩
      obtain ⟨ρ, S, Ex, z, h⟩ := h
      rw [wEs] at h
      simp only [wEs] at h
      refine (pi_range2 hgl (G.free (by decide +kernel)) (pa_cons h1 (pa_cons h2 pa_nil (star_of g3)) (star_of g2)) (by rw [star_of g2, star_of g3]; rfl) (star_of g3)).run pins s σ H R I (two G z h fun dx dy S2 vx vy H2 q f r r1 r2 => ?_)
      cases dx with
      | int i =>
        cases dy with
        | int j =>
          cases r1; cases r2
          have q : (-(2 ^ 62) ≤ i ∧ i < 2 ^ 62 ∧ -(2 ^ 62) ≤ j ∧ j < 2 ^ 62) ∧ ∀ J H1, LkOk X H none → Frm S H S2 H1 → RS (lay X st) S2 H1 → ItOk (lay X st) H1 J (sRange i 1 (j - i).toNat) → R J H1 := q
          exact ⟨i, j, rfl, q.1, q.2 _ _ lk_none f r itr_ok⟩
        | _ => exact q.elim
      | _ => exact q.elim
    · cases hp
  · split at hp
    · rename_i n p a pos hb
      cases hp
      simp only [Bool.and_eq_true, decide_eq_true_eq] at hb
      obtain ⟨g1, rfl, g2, g3⟩ := hb
      obtain ⟨_, _, _, rfl⟩ := isTupE_at g3
      obtain ⟨hgl, _, _⟩ := glo_of G.sc g1
      obtain ⟨e, rfl, h1⟩ := all2_one ha
      refine ⟨fun pins s σ H R I h => ?_⟩
      obtain ⟨ρ, S, Ex, z, h⟩ := h
      rw [wEs] at h
      simp only [wEs] at h
      refine (pi_enumA hgl (G.free (by decide +kernel)) (pa_cons h1 pa_nil (star_of g2)) (star_of g2)).run pins s σ H R I (z.e G e h fun d S1 v H1 q f r e => ?_)
      have q : (∃ xs, seqOf S1 d = some xs) ∧ ∀ J H1, LkOk X H none → Frm S H S1 H1 → RS (lay X st) S1 H1 → ItOk (lay X st) H1 J (sEnum d) → R J H1 := q
      obtain ⟨⟨xs, hx⟩, q⟩ := q
      obtain ⟨a, vs, rfl, q2, q3⟩ := src_seq r e hx
      rcases q3 with ⟨q3, rfl, _⟩ | ⟨q3, rfl, _⟩
      · exact ⟨a, vs, rfl, .inl ⟨q3, q _ _ lk_none f r ite_ok⟩⟩
      · exact ⟨a, vs, rfl, .inr ⟨q3, q _ _ lk_none f r (iteT_ok q3 q2)⟩⟩
    · cases hp
  · split at hp
    · rename_i n p a b pos hb
      cases hp
      simp only [Bool.and_eq_true, decide_eq_true_eq] at hb
      obtain ⟨g1, rfl, g2, g3, g4⟩ := hb
      obtain ⟨_, _, _, rfl⟩ := isTupE_at g4
      obtain ⟨hgl, _, _⟩ := glo_of G.sc g1
      obtain ⟨e1, e2, rfl, h1, h2⟩ := all2_two ha
      refine ⟨fun pins s σ H R I h => ?_⟩
      obtain ⟨ρ, S, Ex, z, h⟩ := h
      rw [wEs] at h
      simp only [wEs] at h
      refine (RZ.pi_zipA hgl (G.free (by decide +kernel)) (pa_cons h1 (pa_cons h2 pa_nil (star_of g3)) (star_of g2)) (star_of g2) (plain_of (by simp [g3]))).run pins s σ H R I (two G z h fun dx dy S2 vx vy H2 q f r r1 r2 => ?_)
      have q : ((∃ xs ys, seqOf S2 dx = some xs ∧ seqOf S2 dy = some ys) ∧ isTup dx = isTup dy) ∧ ∀ J H1, LkOk X H none → Frm S H S2 H1 → RS (lay X st) S2 H1 → ItOk (lay X st) H1 J (sZip dx dy) → R J H1 := q
      obtain ⟨⟨⟨xs, ys, hx, hy⟩, hk⟩, q⟩ := q
      obtain ⟨a, vs, rfl, q2, q3⟩ := src_seq r r1 hx
      obtain ⟨b, ws, rfl, q4, q5⟩ := src_seq r r2 hy
      rcases q3 with ⟨q3, rfl, _⟩ | ⟨q3, rfl, _⟩
      · rcases q5 with ⟨q5, rfl, _⟩ | ⟨q5, rfl, _⟩
        · exact ⟨a, b, vs, ws, rfl, .inl ⟨q3, q5, q _ _ lk_none f r itz_ok⟩⟩
        · cases hk
      · rcases q5 with ⟨q5, rfl, _⟩ | ⟨q5, rfl, _⟩
        · cases hk
        · exact ⟨a, b, vs, ws, rfl, .inr ⟨q3, q5, q _ _ lk_none f r (itzT_ok q3 q2 q5 q4)⟩⟩
    · cases hp
  · cases hp
end
end PD
set_option Elab.async false
set_option linter.all false
set_option maxRecDepth 100000
set_option maxHeartbeats 1000000
/-! PD: targets. -/
namespace PD
open PySem PySem.Spec PyProof.Rows L2
section
variable {X : Cx} {st : Stat} {W : L2.WX} {c : Cc} {T : Tab} {Φ : Phi} {k : Nat} {pins : List (Addr × Obj)} {σ : L2.St} {H H1 : Hp} {s : Shared} {S : Sto} {Ex : PD.WX} {Q : VK} {ρ : Rho} {L : Lay}
/-- the names' places may be written -/
def Agr (is : List Nat) (σ σ' : L2.St) : Prop := ∀ vs : List Nat, (∀ i ∈ is, i ∈ vs) → wipe σ' vs = wipe σ vs
theorem wipe_set {i : Nat} {x : V} : ∀ {vs : List Nat} {σ : L2.St}, i ∈ vs → wipe (σ.set i (some x)) vs = wipe σ vs := by
  intro vs
  induction vs with
  | nil => intro σ h; cases h
  | cons v vs ih =>
    intro σ h
    unfold wipe
    by_cases hv : i ∈ vs
    · rw [ih hv]
    · have hiv : i = v := by
        rcases List.mem_cons.mp h with h | h
        · exact h
        · exact absurd h hv
      subst hiv
      clear ih h
      have key : ∀ (vs : List Nat) (σ : L2.St), i ∉ vs → wipe (σ.set i (some x)) vs = (wipe σ vs).set i (some x) := by
        intro vs
        induction vs with
        | nil => intro σ _; rfl
        | cons w ws ih =>
          intro σ h
          unfold wipe
          simp only [List.mem_cons, not_or] at h
          rw [ih σ h.2, List.set_comm _ _ (Ne.symm h.1)]
      rw [key vs σ hv, List.set_set]
theorem Agr.set {i : Nat} {x : V} : Agr [i] σ (σ.set i (some x)) := fun vs h => wipe_set (h i List.mem_cons_self)
theorem Agr.refl {is : List Nat} : Agr is σ σ := fun _ _ => rfl
theorem Agr.trans {is js : List Nat} {σ' σ'' : L2.St} (h : Agr is σ σ') (h' : Agr js σ' σ'') : Agr (is ++ js) σ σ'' := fun vs hv =>
  (h' vs fun i hi => hv i (List.mem_append_right _ hi)).trans (h vs fun i hi => hv i (List.mem_append_left _ hi))
/-- what is wanted behind a target -/
def postG (L : Lay) (is : List Nat) (S : Sto) (H : Hp) (σ : L2.St) (Q : L2.St → Hp → Prop) : Rho → Sto → Prop := fun ρ' S' => ∀ σ' H', Frm S H S' H' → RS L S' H' → RE L H' ρ' σ' → Agr is σ σ' → Q σ' H'
def lG (X : Cx) (st : Stat) (T : Tab) (Φ : Phi) (g : PD.G) : TG := fun v σ H Q => ∃ ρ S d, RS (lay X st) S H ∧ RE (lay X st) H ρ σ ∧ Rep (lay X st) H d v ∧ wG T Φ g d ρ S (postG (lay X st) (gnames g) S H σ Q) noX
def lGs (X : Cx) (st : Stat) (T : Tab) (Φ : Phi) (gs : List PD.G) : TGs := fun vs σ H Q => ∃ ρ S ds, RS (lay X st) S H ∧ RE (lay X st) H ρ σ ∧ Reps (lay X st) H ds vs ∧ ds.length = gs.length ∧ wGs T Φ gs ds ρ S (postG (lay X st) (gnamess gs) S H σ Q) noX
theorem xok_no : XOk X st W σ S H noX := fun _ _ _ _ _ _ _ _ h => h.elim
theorem assignEach_of {env : Env} : ∀ {es : List Expr}, es.all noStar = true → (assignEach es env).length = es.length ∧ (assignEach es env).findIdx? (·.1) = none
  | [], _ => ⟨rfl, rfl⟩
  | e :: es, h => by
    rw [List.all_cons, Bool.and_eq_true] at h
    have he : assignEach (e :: es) env = (false, assign e env) :: assignEach es env := by
      cases e <;> first | rfl | exact absurd h.1 Bool.false_ne_true
    obtain ⟨h1, h2⟩ := assignEach_of (es := es) (env := env) h.2
    rw [he]
    refine ⟨by simp [h1], ?_⟩
    rw [List.findIdx?_cons, h2]
    rfl
theorem assignEach_cons {env : Env} {e : Expr} {es : List Expr} (h : noStar e = true) : (assignEach (e :: es) env).map (·.2) = assign e env :: (assignEach es env).map (·.2) := by
  cases e <;> first | rfl | exact absurd h Bool.false_ne_true
/-- a tuple or a list of that length -/
def gSq (K : PySem.W.Frag) (n : Nat) (t : TGs) : TG := fun v σ H Q => ∃ a xs, v = .ref a ∧ (SqT K H a xs ∨ SqL K H a xs) ∧ xs.length = n ∧ t xs σ H Q
theorem pg_sq {es : List Expr} {k : Nat} {t : TGs} {pos : Pos} (hc : X.calm = true) (h : PGs X es t) (hn : es.all noStar = true) : PG X (.Tuple es k pos) (gSq X.K es.length t) := by
  obtain ⟨h1, h2⟩ := assignEach_of (env := X.env) hn
  refine ⟨fun pins s σ H v u Q I r hw => ?_⟩
  obtain ⟨a, xs, e1, hq, hl, hw⟩ := hw
  rcases hq with hq | hq
  · exact (pg_tup hc h h1 h2).run pins s σ H v u Q I r ⟨a, xs, e1, hq, hl, hw⟩
  · exact (pg_lst hc h h1 h2).run pins s σ H v u Q I r ⟨a, xs, e1, hq, hl, hw⟩
theorem weakG {x : Expr} {t t' : TG} (h : PG X x t) (w : ∀ v σ H Q, t' v σ H Q → t v σ H Q) : PG X x t' := ⟨fun pins s σ H v u Q I r q => h.run pins s σ H v u Q I r (w v σ H Q q)⟩
theorem weakGs {x : List Expr} {t t' : TGs} (h : PGs X x t) (w : ∀ v σ H Q, t' v σ H Q → t v σ H Q) : PGs X x t' := ⟨fun pins s σ H v u Q I r q => h.run pins s σ H v u Q I r (w v σ H Q q)⟩
theorem sto_of (G : Good X st W c T Φ) {x : Str} (h : stoOk c x = true) : Loc X.env.scope x ∧ (X.fn x = true ∨ X.env.scope.names.lookup x = some .local) := by
  unfold stoOk at h
  rw [G.sc]
  split at h
  · rename_i e; exact ⟨.inl e, .inr e⟩
  · rename_i e; exact ⟨.inr e, .inl (G.fc x h)⟩
  · cases h
theorem gnm (G : Good X st W c T Φ) {i : Nat} {x : Str} {pos : Pos} (hi : c.N[i]? = some x) (hx : stoOk c x = true) : PG X (.Name x pos) (lG X st T Φ (.nm i)) := by
  obtain ⟨h1, h2⟩ := sto_of G hx
  refine weakG (pg_name (by rw [G.N]; exact G.nd) (by rw [G.N]; exact hi) h1 h2) fun v σ H Q h => ?_
  obtain ⟨ρ, S, d, rs, re, r, h⟩ := h
  rw [wG] at h
  exact h _ _ .refl rs (re.set i r) (by rw [gnames]; exact .set)
theorem gtup (G : Good X st W c T Φ) {es : List Expr} {gs : List PD.G} {k : Nat} {pos : Pos} (hn : es.all noStar = true) (hl : es.length = gs.length) (h : PGs X es (lGs X st T Φ gs)) : PG X (.Tuple es k pos) (lG X st T Φ (.tup gs)) := by
  refine weakG (pg_sq G.calm h hn) fun v σ H Q hw => ?_
  obtain ⟨ρ, S, d, rs, re, r, hw⟩ := hw
  rw [wG] at hw
  obtain ⟨xs, h1, h2, h3⟩ := hw
  obtain ⟨p, vs, rfl, q, h4⟩ := rs.seq h1 r
  rw [gnames] at h3
  refine ⟨p, vs, rfl, ?_, by rw [← q.length, h2, hl], ρ, S, xs, rs, re, q, h2, h3⟩
  rcases h4 with h4 | h4
  · exact .inr h4.1
  · exact .inl h4.1
theorem gs_nil : PGs X [] (lGs X st T Φ []) := by
  refine weakGs pgs_nil fun vs σ H Q hw => ?_
  obtain ⟨ρ, S, ds, rs, re, r, hl, hw⟩ := hw
  cases ds with
  | cons _ _ => cases hl
  | nil =>
    cases r
    rw [wGs] at hw
    exact ⟨rfl, hw _ _ .refl rs re .refl⟩
theorem gs_cons (G : Good X st W c T Φ) {e : Expr} {es : List Expr} {g : PD.G} {gs : List PD.G} (hn : noStar e = true) (h1 : PG X e (lG X st T Φ g)) (h2 : PGs X es (lGs X st T Φ gs)) : PGs X (e :: es) (lGs X st T Φ (g :: gs)) := by
  refine weakGs (pgs_cons h1 h2 (assignEach_cons hn)) fun vs σ H Q hw => ?_
  obtain ⟨ρ, S, ds, rs, re, r, hl, hw⟩ := hw
  cases ds with
  | nil => cases hl
  | cons d ds =>
    cases r with
    | cons r1 r2 =>
      rw [wGs] at hw
      refine ⟨_, _, rfl, ρ, S, d, rs, re, r1, wG_mono G.mono _ _ _ _ _ _ _ _ (fun ρ' S' z => ?_) (fun _ _ z => z) hw⟩
      intro σ' H' f rs' re' ag
      refine ⟨ρ', S', ds, rs', re', r2.ext (f.ext rs), by simpa using hl, wGs_mono G.mono _ _ _ _ _ _ _ _ (fun ρ2 S2 z => ?_) (fun _ _ z => z) z⟩
      intro σ2 H2 f2 rs2 re2 ag2
      exact z σ2 H2 (f.trans f2) rs2 re2 (by rw [gnamess]; exact ag.trans ag2)
theorem gsub (G : Good X st W c T Φ) {o i : Expr} {a b : E} {pos : Pos} (hi : noSl i = true) (h1 : PE X o (lE X st W (wE T Φ a))) (h2 : PE X i (lE X st W (wE T Φ b))) : PG X (.Subscript o i pos) (lG X st T Φ (.sub a b)) := by
  have ha : ∀ v, assign (.Subscript o i pos) X.env v = (do
      let ov ← holding [v] (eval o X.env)
      let iv ← holding [v, ov] (eval i X.env)
      standAt pos
      holding [v, ov, iv] (setItem ov iv v)
      release [v, ov, iv] []) := fun v => by cases i <;> first | rfl | exact absurd hi Bool.false_ne_true
  have hs : PSet X (fun o i v H Q => ∃ d dx dy S, RS (lay X st) S H ∧ Rep (lay X st) H dx o ∧ Rep (lay X st) H dy i ∧ Rep (lay X st) H d v ∧ ∃ p, dx = .ref p ∧ ((∃ xs k j, S p = some (.lst xs) ∧ dy = .int k ∧ ixN xs.length k = some j ∧ ∀ H', Frm S H (PD.put S p (.lst (xs.set j d))) H' → RS (lay X st) (PD.put S p (.lst (xs.set j d))) H' → Q H') ∨
      (∃ kvs, S p = some (.dct kvs) ∧ KeyOk kvs dy ∧ kvs.length < sizeLine ∧ ∀ H', Frm S H (PD.put S p (.dct (putD kvs dy d))) H' → RS (lay X st) (PD.put S p (.dct (putD kvs dy d))) H' → Q H'))) := by
    intro pins s σ H o i v ov iv u Q I ro ri rv ⟨d, dx, dy, S, rs, r1, r2, r3, p, e, h⟩
    subst e
    cases r1
    rcases h with ⟨xs, k, j, e1, rfl, e2, q⟩ | ⟨kvs, e1, e2, e3, q⟩
    · cases r2
      obtain ⟨vs, g1, g2⟩ := rs.lst e1
      refine set_list pins s σ H _ _ _ ov iv u Q I ro ri rv ⟨p, vs, k, j, rfl, rfl, g1, by rw [← g2.length]; exact e2, ?_⟩
      exact q _ (.put rs e1) (rs.put (rs.ext_put e1) (.lst ((g2.set j r3).ext (rs.ext_put e1))))
    · cases ro
      exact (d_store (E := X.xe) G.room I rs e1 e3 e2 r2 ri r3 rv).1 _ fun ho s' I' k' => ⟨_, I', q _ (.put rs e1) (rs.put (rs.ext_put e1) k')⟩
  refine weakG (pg_sub h1 h2 hs ha) fun v σ H Q hw => ?_
  obtain ⟨ρ, S, d, rs, re, r, hw⟩ := hw
  rw [wG] at hw
  refine two G (z := ⟨rs, re, xok_no⟩) hw fun x y S2 vx vy H2 q f rs2 e1 e2 => ?_
  obtain ⟨p, ep, q⟩ := q
  refine ⟨d, x, y, S2, rs2, e1, e2, r.ext (f.ext rs), p, ep, ?_⟩
  rcases q with ⟨xs, k, j, g1, g2, g3, q⟩ | ⟨kvs, g1, g2, g3, q⟩
  · exact .inl ⟨xs, k, j, g1, g2, g3, fun H' f' rs' => q σ H' (f.trans f') rs' (re.ext ((f.trans f').ext rs)) .refl⟩
  · exact .inr ⟨kvs, g1, g2, g3, fun H' f' rs' => q σ H' (f.trans f') rs' (re.ext ((f.trans f').ext rs)) .refl⟩
theorem Flds.put {f : Nat} {n : Str} {d : D} {v : V} (hL : L.nm f = n) (hi : ∀ g, L.nm g = n → g = f) (q : Rep L H d v) : ∀ {fs : List (Nat × D)} {vs : List (Str × V)}, Flds L H fs vs → Flds L H (putFs f d fs) (putF n v vs)
  | _, _, .nil => by
    rw [← hL]
    exact .cons q .nil
  | _, _, .cons (f := g) (d := d') (v := v') (fs := fs) (vs := vs) r t => by
    show Flds L H (if g = f then (g, d) :: fs else (g, d') :: putFs f d fs) (if L.nm g = n then (L.nm g, v) :: vs else (L.nm g, v') :: putF n v vs)
    by_cases e : g = f
    · subst e
      rw [if_pos rfl, if_pos hL]
      exact .cons q t
    · rw [if_neg e, if_neg (fun z => e (hi g z))]
      exact .cons r (Flds.put hL hi q t)
theorem Flds.len : ∀ {fs : List (Nat × D)} {vs : List (Str × V)}, Flds L H fs vs → fs.length = vs.length
  | _, _, .nil => rfl
  | _, _, .cons r t => by simp [Flds.len t]
theorem gfld (G : Good X st W c T Φ) (Z : World0 X st c T Φ k) {o : Expr} {a : E} {n : Str} {f : Nat} {pos : Pos} (hn : c.nm[f]? = some n) (h1 : PE X o (lE X st W (wE T Φ a))) : PG X (.Attribute o n pos) (lG X st T Φ (.fld a f)) := by
  refine ⟨fun pins s σ H v u Q I r hw => ?_⟩
  obtain ⟨ρ, S, d, rs, re, rd, hw⟩ := hw
  rw [wG] at hw
  rw [PySem.assign_Attribute]
  have hwe := At.e (W := W) (Ex := noX) G (σ := σ) (H := H) (ρ := ρ) ⟨rs, re, xok_no⟩ a hw (P := fun vx H1 => ∃ x S1, (∃ p c fs k, x = D.ref p ∧ S1 p = some (.ins c fs) ∧ T.cl c = some k ∧ k.ms.lookup f = none ∧ fs.length < 1000 ∧ postG (lay X st) (gnames (.fld a f)) S H σ Q ρ (PD.put S1 p (.ins c (putFs f d fs)))) ∧ Frm S H S1 H1 ∧ RS (lay X st) S1 H1 ∧ Rep (lay X st) H1 x vx) fun x S1 vx H1 q f r e => ⟨x, S1, q, f, r, e⟩
  refine wpAny_bind (wpAny_holding (thn (h1.run pins s σ H _ I hwe) fun ov s1 ⟨vx, H1, I1, rv, x, S1, ⟨p, ci, fs, kc, ex, hS, hc, hm, hlen, q⟩, f', rs1, e⟩ => ?_))
  subst ex
  cases e; cases rv
  obtain ⟨dx, vs, hH, fl⟩ := ins_at rs1 hS
  have cf := Z.cls ci kc hc
  refine wpAny_bind (wpAny_standAt (wpAny_bind (wpAny_holding (setattr_ok I1 hH cf.cls (cf.noat f n hn hm) (by rw [← fl.len]; exact hlen) r fun s2 I2 => wpAny_release ⟨σ, _, I2, ?_⟩))))
  have fr := f'.trans (Frm.put (ho := .ins ((lay X st).ca ci) dx (putF n v vs)) (o := .ins ci (putFs f d fs)) rs1 hS)
  refine q σ _ fr (rs1.put (rs1.ext_put hS) ?_) (re.ext (fr.ext rs)) .refl
  exact .ins ((Flds.put (G.nm f n hn) (fun g hg => G.nmi f g n hn hg) (rd.ext (f'.ext rs)) fl).ext (rs1.ext_put hS))
end
end PD
set_option Elab.async false
set_option linter.all false
set_option maxRecDepth 100000
set_option maxHeartbeats 1000000
/-! PD: the turns of a comprehension of any kind, at any clause. -/
namespace PD
open PySem PySem.Spec PyProof.Rows L2
/-- one turn of a clause; inner: what stands within -/
def genTurn (g : Comprehension) (inner : Sem Unit) (it : Value) (env : Env) (c : Code) : Sem Fin := do
  standAt g.iter.pos
  match ← pyNext it with
  | none => pure (.done .next)
  | some v =>
    letOwnedTupleGo g.target it v
    assign g.target env v
    let mut ok := true
    for c in g.ifs do
      if ok then ok ← isTrue c env (eval c env)
    if ok then inner
    again c
/-- the next clause -/
def nextC (e : Expr) (g' : Comprehension) (depth : Nat) (acc : Value) (env : Env) : Sem Unit := do
  let x ← eval g'.iter env
  standAt g'.iter.pos
  let x ← foldedSetIterable g'.iter env x
  let _ ← runOwn (.compStart e (depth + 1) (← holding [x] (pyIter x)) acc env) env
theorem turn_set {elt : Expr} {gs : List Comprehension} {sc : Scope} {p : Pos} {i : Nat} {g : Comprehension} {it acc : Value} {env : Env} (h : gs[i]? = some g) (ha : g.is_async = 0) (hn : gs[i + 1]? = none) :
    compTurn (.SetComp elt gs sc p) i it acc env = genTurn g (do let v ← eval elt env; standAt elt.pos; let _ ← call (.builtin "set.add") [acc, v]) it env (.compLoop (.SetComp elt gs sc p) i it acc env) := by
  unfold compTurn genTurn
  simp only [h, hn, ha]
  rfl
theorem turn_setN {elt : Expr} {gs : List Comprehension} {sc : Scope} {p : Pos} {i : Nat} {g g' : Comprehension} {it acc : Value} {env : Env} (h : gs[i]? = some g) (ha : g.is_async = 0) (hn : gs[i + 1]? = some g') (ha' : g'.is_async = 0) :
    compTurn (.SetComp elt gs sc p) i it acc env = genTurn g (nextC (.SetComp elt gs sc p) g' i acc env) it env (.compLoop (.SetComp elt gs sc p) i it acc env) := by
  unfold compTurn genTurn nextC
  simp only [h, hn, ha, ha', bne_self_eq_false, Bool.false_eq_true, if_false, bind_assoc, pure_bind]
  rfl
theorem turn_lst {elt : Expr} {gs : List Comprehension} {sc : Scope} {p : Pos} {i : Nat} {g : Comprehension} {it acc : Value} {env : Env} (h : gs[i]? = some g) (ha : g.is_async = 0) (hn : gs[i + 1]? = none) :
    compTurn (.ListComp elt gs sc p) i it acc env = genTurn g (do let _ ← call (.builtin "list.append") [acc, ← eval elt env]) it env (.compLoop (.ListComp elt gs sc p) i it acc env) := by
  unfold compTurn genTurn
  simp only [h, hn, ha]
  rfl
theorem turn_lstN {elt : Expr} {gs : List Comprehension} {sc : Scope} {p : Pos} {i : Nat} {g g' : Comprehension} {it acc : Value} {env : Env} (h : gs[i]? = some g) (ha : g.is_async = 0) (hn : gs[i + 1]? = some g') (ha' : g'.is_async = 0) :
    compTurn (.ListComp elt gs sc p) i it acc env = genTurn g (nextC (.ListComp elt gs sc p) g' i acc env) it env (.compLoop (.ListComp elt gs sc p) i it acc env) := by
  unfold compTurn genTurn nextC
  simp only [h, hn, ha, ha', bne_self_eq_false, Bool.false_eq_true, if_false, bind_assoc, pure_bind]
  rfl
theorem turn_dct {k v : Expr} {gs : List Comprehension} {sc : Scope} {p : Pos} {i : Nat} {g : Comprehension} {it : Value} {D : Addr} {env : Env} (h : gs[i]? = some g) (ha : g.is_async = 0) (hn : gs[i + 1]? = none) :
    compTurn (.DictComp k v gs sc p) i it (.ref D) env = genTurn g (do
      let kv ← eval k env
      let vv ← holding [kv] (eval v env)
      standAt { k.pos with endLine := v.pos.endLine, endCol := v.pos.endCol }
      holding [kv, vv] (dictSet D kv vv)) it env (.compLoop (.DictComp k v gs sc p) i it (.ref D) env) := by
  unfold compTurn genTurn
  simp only [h, hn, ha]
  rfl
theorem turn_dctN {k v : Expr} {gs : List Comprehension} {sc : Scope} {p : Pos} {i : Nat} {g g' : Comprehension} {it acc : Value} {env : Env} (h : gs[i]? = some g) (ha : g.is_async = 0) (hn : gs[i + 1]? = some g') (ha' : g'.is_async = 0) :
    compTurn (.DictComp k v gs sc p) i it acc env = genTurn g (nextC (.DictComp k v gs sc p) g' i acc env) it env (.compLoop (.DictComp k v gs sc p) i it acc env) := by
  unfold compTurn genTurn nextC
  simp only [h, hn, ha, ha', bne_self_eq_false, Bool.false_eq_true, if_false, bind_assoc, pure_bind]
  rfl
section
variable {prog : Program} {w : World} {A : Around} {R : Result → Shared → Prop} {s : Shared} {e : Expr} {i : Nat} {it acc : Value} {env : Env} {g : Comprehension} {inner : Sem Unit}
/-- the loop of one clause -/
theorem genLoop (hA : A.under (Code.compLoop e i it acc env) = A) (hq : (Code.compLoop e i it acc env).isFrame = false) (hT : compTurn e i it acc env = genTurn g inner it env (.compLoop e i it acc env)) (hc : (Code.compLoop e i it acc env).quiet = true) (I : Nat → Shared → Prop)
    (turn : ∀ n s, I n s → wpAny (model prog w) A (pyNext it) (fun r s₁ => match r with
      | none => R (.ok .next) s₁
      | some v => wpAny (model prog w) A (letOwnedTupleGo g.target it v) (fun _ s₁' => wpAny (model prog w) A (assign g.target env v) (fun _ s₂ =>
          wpAny (model prog w) A (forIn g.ifs true fun c r => if r = true then do let ok ← isTrue c env (eval c env); pure (ForInStep.yield ok) else pure (ForInStep.yield r)) (fun ok s₃ =>
            if ok = true then wpAny (model prog w) A inner (fun _ s₄ => ∃ m, m < n ∧ I m s₄) (notedBy (model prog w) A env fun e s' => R (.error e) s') s₃
            else ∃ m, m < n ∧ I m s₃) (notedBy (model prog w) A env fun e s' => R (.error e) s') s₂) (notedBy (model prog w) A env fun e s' => R (.error e) s') s₁') (notedBy (model prog w) A env fun e s' => R (.error e) s') s₁) (notedBy (model prog w) A env fun e s' => R (.error e) s') s)
    (n : Nat) (h : I n s) : codeAny (model prog w) A (.compLoop e i it acc env) R s := by
  refine codeAny_loop hc I (fun n s hI => ?_) n h
  show wpAny _ (A.under (Code.compLoop e i it acc env)) (if (Code.compLoop e i it acc env).isFrame then (compTurn e i it acc env).onRaise (leaving env) else (compTurn e i it acc env).onRaise (fun x => do noteFrame x env; theTreesLotGoes x)) _ _ s
  rw [hA, hq]
  simp only [Bool.false_eq_true, if_false]
  refine wpAny_noted ?_
  rw [hT]
  unfold genTurn
  refine wpAny_bind (wpAny_standAt (wpAny_bind (wpAny_mono (turn n s hI) (fun r s₁ h₁ => ?_) fun _ _ h' => h')))
  cases r with
  | none => exact wpAny_pure h₁
  | some v =>
    refine wpAny_bind (wpAny_mono h₁ (fun _ s₁' h₁' => ?_) fun _ _ h' => h')
    refine wpAny_bind (wpAny_mono h₁' (fun _ s₂ h₂ => wpAny_bind (wpAny_mono h₂ (fun ok s₃ h₃ => ?_) fun _ _ h' => h')) fun _ _ h' => h')
    cases ok with
    | false => exact wpAny_pure ⟨rfl, h₃⟩
    | true => exact wpAny_bind (wpAny_mono h₃ (fun _ s₄ h₄ => wpAny_pure ⟨rfl, h₄⟩) fun _ _ h' => h')
/-- the next clause, from its loop -/
theorem next_ok {Q : Unit → Shared → Prop} {E : Value → Shared → Prop} {g' : Comprehension} (hs : ∀ x, foldedSetIterable g'.iter env x = pure x)
    (h : wpAny (model prog w) A (eval g'.iter env) (fun x s₄ => wpAny (model prog w) A (pyIter x) (fun it1 s₅ => codeAny (model prog w) A (.compStart e (i + 1) it1 acc env) (fun r s' => match r with
      | .ok _ => Q () s'
      | .error _ => False) s₅) E s₄) E s) : wpAny (model prog w) A (nextC e g' i acc env) Q E s := by
  unfold nextC
  refine wpAny_bind (wpAny_mono h (fun x s₄ h₄ => ?_) fun _ _ h' => h')
  refine wpAny_bind (wpAny_standAt (wpAny_bind (wpAny_of_eq (hs x) (wpAny_bind (wpAny_holding (wpAny_mono h₄ (fun it1 s₅ h₅ => ?_) fun _ _ h' => h'))))))
  refine wpAny_bind (wpAny_runOwn ?_)
  rw [Around.mark_none]
  refine codeAny_mono h₅ fun r s' hr => ?_
  cases r with
  | ok f =>
    first
      | exact wpAny_pure hr
      | exact wpAny_bind (wpAny_pure (wpAny_pure hr))
  | error e => exact hr.elim
/-- a clause's start -/
theorem genStart (hA : A.under (Code.compStart e i it acc env) = A) (hq : (Code.compStart e i it acc env).isFrame = false) (hl : ∀ it', (Code.compLoop e i it' acc env).quiet = true) (hg : (clausesOf e)[i]? = some g) (ha : g.is_async = 0)
    (h0 : codeAny (model prog w) A (.compLoop e i it acc env) R s)
    (h : wpAny (model prog w) A (pyIter it) (fun it' s' => codeAny (model prog w) A (.compLoop e i it' acc env) R s') (notedBy (model prog w) A env fun x s' => R (.error x) s') s) :
    codeAny (model prog w) A (.compStart e i it acc env) R s := by
  refine codeAny_of_tree ?_
  show wpAny _ (A.under (Code.compStart e i it acc env)) (if (Code.compStart e i it acc env).isFrame then (compStart e i it acc env).onRaise (leaving env) else (compStart e i it acc env).onRaise (fun x => do noteFrame x env; standAt theWindowsPlace)) _ _ s
  rw [hA, hq]
  simp only [Bool.false_eq_true, if_false]
  refine wpAny_notedAt ?_
  unfold compStart
  rw [hg]
  simp only [Option.elim, ha, bne_self_eq_false, Bool.false_eq_true, if_false]
  show wpAny _ _ (ask >>= _) _ _ s
  refine wpAny_bind (wpAny_askSetting (wpAny_ite ?_))
  split
  · first
      | exact wpAny_bind (wpAny_pure (wpAny_pure (And.intro (hl _) h0)))
      | exact wpAny_pure (And.intro (hl _) h0)
  · first
      | exact wpAny_bind (wpAny_rule (wpAny_bind (wpAny_standAt (wpAny_bind (wpAny_mono h (fun it' s' h' => wpAny_pure (And.intro (hl _) h')) fun _ _ x => x)))))
      | (refine wpAny_bind (wpAny_rule ?_); show wpAny _ _ (standAt g.iter.pos >>= _) _ _ s; exact wpAny_bind (wpAny_standAt (wpAny_bind (wpAny_mono h (fun it' s' h' => wpAny_pure (And.intro (hl _) h')) fun _ _ x => x))))
end
end PD
set_option Elab.async false
set_option linter.all false
set_option maxRecDepth 100000
set_option maxHeartbeats 1000000
/-! PD: the clauses of a comprehension, any number of them, within the block. -/
namespace PD
open PySem PySem.Spec PyProof.Rows L2
/-- one clause as it is read: the slots it may write (its own and those of the clauses within), what it walks, its target, its tests -/
structure ClR where
  own : List Nat
  wi : TI
  g : TG
  tt : TT
/-- what the clauses do; em: what stands within all of them -/
def tCls (em : L2.St → Hp → (Hp → Prop) → Prop) : List ClR → L2.St → Hp → (Hp → Prop) → Prop
  | [], σ, H, Nx => em σ H Nx
  | c :: cs, σ, H, Nx => c.wi σ H fun J H1 => ∃ W : Nat → Nat → Hp → Prop, (∃ m, W 0 m H1) ∧ ∀ i m H, W i m H → (J.stop i H ∧ Nx H) ∨ (J.go i H ∧ ∃ Nx1 : Hp → Prop, (∀ H', Nx1 H' → ∃ m', m' < m ∧ W (i + 1) m' H') ∧
      ∀ x H', J.yld i H x H' → c.g x (wipe σ c.own) H' fun σ2 H2 => wipe σ2 c.own = wipe σ c.own ∧ c.tt σ2 H2 fun b H3 => if b = true then tCls em cs σ2 H3 Nx1 else Nx1 H3)
/-- the clauses' texts -/
structure ClO (Y : Cx) (g : Comprehension) (c : ClR) : Prop where
  it : PI Y g.target g.iter c.wi
  tg : PG Y g.target c.g
  tt : PTs Y g.ifs c.tt
  fold : ∀ x, foldedSetIterable g.iter Y.env x = pure x
  asy : g.is_async = 0
def ClsO (Y : Cx) : List Comprehension → List ClR → Prop
  | [], [] => True
  | g :: gs, c :: cs => ClO Y g c ∧ (∀ d ∈ cs.head?, ∀ i ∈ d.own, i ∈ c.own) ∧ ClsO Y gs cs
  | _, _ => False
/-- the slots that the clauses may write -/
def ownsOf : List ClR → List Nat
  | [] => []
  | c :: _ => c.own
section
variable {Y : Cx} {e : Expr} {acc : Value} {emit : Sem Unit} {em : L2.St → Hp → (Hp → Prop) → Prop} {gs0 : List Comprehension}
/-- what stands within clause i -/
def innerOf (e : Expr) (acc : Value) (env : Env) (emit : Sem Unit) (gs0 : List Comprehension) (i : Nat) : Sem Unit := match gs0[i + 1]? with
  | some g' => nextC e g' i acc env
  | none => emit
theorem cls_in (hc : Y.calm = true) (hxe : Y.xe = fun _ _ => False) (hcl : clausesOf e = gs0) (hT : ∀ (i : Nat) (g : Comprehension) (it : Value), gs0[i]? = some g → compTurn e i it acc Y.env = genTurn g (innerOf e acc Y.env emit gs0 i) it Y.env (.compLoop e i it acc Y.env))
    (hA : ∀ i it, 0 < i → Y.A.under (Code.compLoop e i it acc Y.env) = Y.A) (hA' : ∀ i it, 0 < i → Y.A.under (Code.compStart e i it acc Y.env) = Y.A) (hF : ∀ i it, 0 < i → (Code.compLoop e i it acc Y.env).isFrame = false) (hF' : ∀ i it, 0 < i → (Code.compStart e i it acc Y.env).isFrame = false)
    (hQ : ∀ i it, (Code.compLoop e i it acc Y.env).quiet = true)
    (hem : ∀ pins σ H s Nx, Inv Y pins σ H s → em σ H Nx → wpAny (model Y.prog Y.w) Y.A emit (fun _ s' => ∃ H', Inv Y pins σ H' s' ∧ Nx H') (fun _ _ => False) s) :
    ∀ (cs : List ClR) (gs : List Comprehension) (i : Nat), (∀ j, gs0[i + 1 + j]? = gs[j]?) → ClsO Y gs cs → ∀ pins σ H s Nx, Inv Y pins σ H s → tCls em cs σ H Nx →
      wpAny (model Y.prog Y.w) Y.A (innerOf e acc Y.env emit gs0 i) (fun _ s' => ∃ H', Inv Y pins (wipe σ (ownsOf cs)) H' s' ∧ Nx H') (fun _ _ => False) s
  | [], gs, i, hg, ho, pins, σ, H, s, Nx, I, h => by
    match gs, ho, hg with
    | [], _, hg =>
      have e0 : gs0[i + 1]? = none := by simpa using hg 0
      unfold innerOf
      rw [e0]
      exact hem pins σ H s Nx I h
  | c :: cs, gs, i, hg, ho, pins, σ, H, s, Nx, I, h => by
    match gs, ho, hg with
    | g :: gs, ho, hg =>
      obtain ⟨o, hsub, ho'⟩ := ho
      have e0 : gs0[i + 1]? = some g := by simpa using hg 0
      have hg' : ∀ j, gs0[i + 1 + 1 + j]? = gs[j]? := fun j => by
        have := hg (j + 1)
        rw [show i + 1 + (j + 1) = i + 1 + 1 + j by omega] at this
        simpa using this
      have ih := cls_in hc hxe hcl hT hA hA' hF hF' hQ hem cs gs (i + 1) hg' ho'
      unfold innerOf
      rw [e0]
      have hrun := o.it.run pins s σ H _ I h
      rw [hxe] at hrun
      refine next_ok o.fold ?_
      refine thnF hrun fun xv s1 hx => thnF hx fun itv s2 h2 => ?_
      obtain ⟨it1, fp1, tn1, J1, H1, e1, I1, T1, st1, f1, W1, ⟨m1, w1⟩, turn1⟩ := h2
      subst e1
      have stat1 : ∀ {H' : Hp}, (∀ b ∈ fp1, H' b = none) → ∀ b ∈ fp1, FpOk Y pins H' b := fun hn b hb => ⟨hn b hb, (f1 b hb).2⟩
      have loop1 : codeAny (model Y.prog Y.w) Y.A (.compLoop e (i + 1) (.ref it1) acc Y.env)
          (fun r s' => match r with
            | .ok _ => ∃ H', Inv Y pins (wipe σ c.own) H' s' ∧ Nx H'
            | .error _ => False) s2 := by
        refine genLoop (hA _ _ (Nat.succ_pos _)) (hF _ _ (Nat.succ_pos _)) (hT _ _ _ e0) (hQ _ _) (fun k s' => ∃ j H', Inv Y pins (wipe σ c.own) H' s' ∧ tn1 j s'.heap ∧ (∀ b ∈ fp1, H' b = none) ∧ W1 j k H') ?_ m1 ⟨0, H1, I1.weak (wipe_length _ _) (fun j v e => (wipe_some e).1), st1, fun b hb => (f1 b hb).1, w1⟩
        rintro k s3 ⟨j, H3, I3, st3, n3, w3⟩
        rcases turn1 j k H3 w3 with ⟨stop1, nx1⟩ | ⟨go1, Nx1, hNx1, step1⟩
        · refine thnF (T1.done Y rfl rfl rfl hc j _ s3 (wipe σ c.own) H3 (fun _ _ => False) I3 (stat1 n3) st3 stop1) fun r s4 ⟨hr, I4⟩ => ?_
          subst hr
          exact ⟨H3, I4, nx1⟩
        · refine thnF (T1.item Y rfl rfl rfl hc j _ s3 (wipe σ c.own) H3 (fun _ _ => False) I3 (stat1 n3) st3 go1) fun r s4 ⟨u1, hr, h4⟩ => ?_
          subst hr
          refine thnF h4 fun _ s5 ⟨x1, H5, I5, r5, y5, st5, n5⟩ => ?_
          have I5' := I5.pinned (stat1 n5) (T1.obj _ _ st5)
          have hg5 := o.tg.run _ s5 (wipe σ c.own) H5 x1 u1 _ I5' r5 (step1 x1 H5 y5)
          rw [hxe] at hg5
          refine thnF hg5 fun _ s6 ⟨σ6, H6, I6, hw6, q6⟩ => ?_
          have ht6 := o.tt.run _ s6 σ6 H6 _ I6 q6
          rw [hxe] at ht6
          refine thnF ht6 fun b1 s7 ⟨H7, I7, q7⟩ => ?_
          have fin1 : ∀ {σ' : L2.St} {s' : Shared} {H' : Hp}, Inv Y (pins ++ pinsAt fp1 s5.heap) σ' H' s' → σ'.length = (wipe σ c.own).length → (∀ (j : Nat) v, (wipe σ c.own)[j]? = some (some v) → σ'[j]? = some (some v)) → Nx1 H' →
              ∃ m, m < k ∧ ∃ j H', Inv Y pins (wipe σ c.own) H' s' ∧ tn1 j s'.heap ∧ (∀ b ∈ fp1, H' b = none) ∧ W1 j m H' := fun {σ' s' H'} I' hl hk nx => by
            obtain ⟨m', hm, w'⟩ := hNx1 H' nx
            have pin' : ∀ b ∈ fp1, ∀ o, s5.heap.get? b = some o → s'.heap.get? b = some o ∧ H' b = none := fun b hb o e =>
              let z := I'.pin (b, o) (List.mem_append_right _ (List.mem_append_right _ (mem_pinsAt hb e)))
              ⟨z.1, z.2.1⟩
            refine ⟨m', hm, j + 1, H', I'.unpinned.weak hl.symm hk, T1.keep _ _ _ st5 fun b hb o e => (pin' b hb o e).1, fun b hb => ?_, w'⟩
            obtain ⟨o, e, _⟩ := T1.obj _ _ st5 b hb
            exact (pin' b hb o e).2
          have hl6 : σ6.length = (wipe σ c.own).length := by rw [← hw6, wipe_length]
          have hk6 : ∀ (j : Nat) v, (wipe σ c.own)[j]? = some (some v) → σ6[j]? = some (some v) := fun j v e => by rw [← hw6] at e; exact (wipe_some e).1
          cases b1 with
          | false =>
            simp only [Bool.false_eq_true, if_false] at q7 ⊢
            exact fin1 I7 hl6 hk6 q7
          | true =>
            simp only [if_true] at q7 ⊢
            refine wpAny_mono (ih _ σ6 H7 s7 Nx1 I7 q7) (fun _ s8 ⟨H8, I8, nx⟩ => ?_) fun _ _ z => z.elim
            refine fin1 I8 ((wipe_length _ _).trans hl6) (fun j v e => ?_) nx
            have hj := hk6 j v e
            have hn : j ∉ c.own := (wipe_some e).2
            rw [wipe_out fun z => hn ?_]
            · exact hj
            · cases cs with
              | nil => cases z
              | cons d ds => exact hsub d rfl j z
      refine codeAny_mono (genStart (R := fun r s' => match r with
            | .ok _ => ∃ H', Inv Y pins (wipe σ c.own) H' s' ∧ Nx H'
            | .error _ => False) (hA' _ _ (Nat.succ_pos _)) (hF' _ _ (Nat.succ_pos _)) (fun it' => hQ _ _) (by rw [hcl]; exact e0) o.asy loop1 (T1.self Y.A 0 _ _ _ st1 loop1)) fun r s' hr => ?_
      cases r with
      | ok f => exact hr
      | error e => exact hr
end
end PD
set_option Elab.async false
set_option linter.all false
set_option maxRecDepth 100000
set_option maxHeartbeats 2000000
/-! PD: a comprehension of any kind, any number of clauses: its value. -/
namespace PD
open PySem PySem.Spec PyProof.Rows L2
/-- the whole: D the new object, ho what stands at it at first -/
def tComp (em : Addr → L2.St → Hp → (Hp → Prop) → Prop) (ho : Addr → HO) (wi : TI) (g : TG) (tt : TT) (vs : List Nat) (cs : List ClR) : TE := fun σ H Q => wi σ H fun J H1 => ∀ D, H1 D = none → ∃ W : Nat → Nat → Hp → Prop, (∃ m, W 0 m (upd H1 D (ho D))) ∧ ∀ i m H, W i m H →
  (J.stop i H ∧ Q (.ref D) H) ∨ (J.go i H ∧ ∃ Nx : Hp → Prop, (∀ H', Nx H' → ∃ m', m' < m ∧ W (i + 1) m' H') ∧ ∀ x H', J.yld i H x H' → g x (wipe σ vs) H' fun σ2 H2 => wipe σ2 vs = wipe σ vs ∧ tt σ2 H2 fun b H3 => if b = true then tCls (em D) cs σ2 H3 Nx else Nx H3)
/-- a new object, all else kept -/
def Makes (X : Cx) (mk : Sem Value) (ho : Addr → HO) (o : Obj) : Prop := ∀ (pins : List (Addr × Obj)) (σ : L2.St) (H : Hp) (s : Shared) (E : Value → Shared → Prop) (Q : Value → Shared → Prop), Inv X pins σ H s →
  (Inv X pins σ (upd H s.heap.objs.size (ho s.heap.objs.size)) { s with heap := s.heap.push o } → Q (.ref s.heap.objs.size) { s with heap := s.heap.push o }) → wpAny (model X.prog X.w) X.A mk Q E s
section
variable {X : Cx} {e : Expr} {gs : List Comprehension} {g0 : Comprehension} {emit : Addr → Env → Sem Unit} {em : Addr → L2.St → Hp → (Hp → Prop) → Prop}
theorem comp_core {pins : List (Addr × Obj)} {s : Shared} {σ : L2.St} {H : Hp} {Q : VK} {scope : Scope} {own : List (Str × Nat)} {pos' : Pos} {wi : TI} {g : TG} {tt : TT} {cs : List ClR} {mk : Sem Value} {ho : Addr → HO} {ob : Obj} {use : Option (Value → Sem Unit)} {Qf : Value → Shared → Prop}
    (hcl : clausesOf e = g0 :: gs) (hT : ∀ env D i g it, (g0 :: gs)[i]? = some g → compTurn e i it (.ref D) env = genTurn g (innerOf e (.ref D) env (emit D env) (g0 :: gs) i) it env (.compLoop e i it (.ref D) env))
    (hA : ∀ env D i it, X.A.under (Code.compLoop e i it (.ref D) env) = X.A) (hA' : ∀ env D i it, X.A.under (Code.compStart e i it (.ref D) env) = X.A) (hF : ∀ env D i it, (Code.compLoop e i it (.ref D) env).isFrame = false) (hF' : ∀ env D i it, (Code.compStart e i it (.ref D) env).isFrame = false)
    (hQ : ∀ env D i it, (Code.compLoop e i it (.ref D) env).quiet = true) (ha0 : g0.is_async = 0)
    (hc : X.calm = true) (hN : X.N.Nodup) (I : Inv X pins σ H s) (hi : PI X g0.target g0.iter wi) (ok : BlkOk X.N X.env.scope scope own)
    (hg : ∀ (s : Shared) (H : Hp) (C : Addr) (cl : List (Str × Addr)) (fp : List Addr), PG (X.blk s H scope (compEnvC scope cl C X.env) fp) g0.target g) (ht : ∀ (s : Shared) (H : Hp) (C : Addr) (cl : List (Str × Addr)) (fp : List Addr), PTs (X.blk s H scope (compEnvC scope cl C X.env) fp) g0.ifs tt)
    (hs : ∀ x, foldedSetIterable g0.iter X.env x = pure x) (hsub : ∀ d ∈ cs.head?, ∀ i ∈ d.own, i ∈ own.map (·.2))
    (hcs : ∀ (s : Shared) (H : Hp) (C : Addr) (cl : List (Str × Addr)) (fp : List Addr), ClsO (X.blk s H scope (compEnvC scope cl C X.env) fp) gs cs)
    (hem : ∀ (s : Shared) (H : Hp) (C : Addr) (cl : List (Str × Addr)) (fp : List Addr) (D : Addr) pins σ H' s' Nx, Inv (X.blk s H scope (compEnvC scope cl C X.env) fp) pins σ H' s' → em D σ H' Nx →
      wpAny (model X.prog X.w) X.A (emit D (compEnvC scope cl C X.env)) (fun _ s'' => ∃ H'', Inv (X.blk s H scope (compEnvC scope cl C X.env) fp) pins σ H'' s'' ∧ Nx H'') (fun _ _ => False) s')
    (hmk : Makes X mk ho ob) (h : tComp em ho wi g tt (own.map (·.2)) cs σ H Q)
    (hRR : ∀ D C s' m H', Inv X pins σ H' s' → Q (.ref D) H' → s'.heap.Ns C m → FpOk X pins H' C → compPost (model X.prog X.w) X.A X.xe use Qf (.ref D) C (.ok .next) s') :
    wpAny (model X.prog X.w) X.A (comprehension e scope X.env pos' mk false (eval g0.iter X.env) use) Qf X.xe s := by
  have hfree : ∀ y ∈ scope.names, y.2 = .free → ∃ c, X.env.cells.lookup y.1 = some c := fun y hy e => by
    rcases ok.free y hy e with k | k
    · exact I.ok.has _ (.inl k)
    · exact I.ok.has _ (.inr k)
  refine wpAny_comprehension_free (use := use) hcl hs (closure_ok hfree) ok.kind (fun y hy e => by rw [ok.uniq y hy, e])
    (thn (hi.run pins s σ H _ I h) fun xv s1 hx => thn hx fun itv s2 h2 => ?_)
  obtain ⟨it, fp, tn, J, H2, e1, I2, T, st2, f2, q⟩ := h2
  subst e1
  refine hmk pins σ H2 s2 _ _ I2 fun I3 => newEnv_comp ?_
  generalize hD : s2.heap.objs.size = D at I3 ⊢
  have hDn : H2 D = none := I2.hok.fresh (Nat.le_of_eq hD)
  obtain ⟨W, ⟨m0, w0⟩, turn⟩ := q D hDn
  generalize hs3 : ({ s2 with heap := s2.heap.push ob } : Shared) = s3 at I3
  have h3 : s3.heap = s2.heap.push ob := by rw [← hs3]
  have sz : ∀ b ∈ fp, b < s2.heap.objs.size := fun b hb => by
    obtain ⟨o, e, _⟩ := T.obj _ _ st2 b hb
    exact Heap.lt_size e
  have f3 : ∀ b ∈ fp, FpOk X pins (upd H2 D (ho D)) b ∧ b < s3.heap.objs.size := fun b hb => by
    have hlt := sz b hb
    refine ⟨⟨?_, (f2 b hb).2⟩, by rw [h3, Heap.size_push]; exact Nat.lt_succ_of_lt hlt⟩
    rw [upd_ne (by rw [← hD]; exact Nat.ne_of_lt hlt)]
    exact (f2 b hb).1
  have st3 : tn 0 s3.heap := T.keep _ _ _ st2 fun b _ o e => by rw [h3]; exact Heap.get?_push_of_some _ e
  have I4 := block_start I3 ok hN f3
  have pg := hg s3 (upd H2 D (ho D)) s3.heap.objs.size (cellsFrom (s3.heap.objs.size + 1) scope.names (cloFrom X.env.cells scope.names [])) fp
  have pt := ht s3 (upd H2 D (ho D)) s3.heap.objs.size (cellsFrom (s3.heap.objs.size + 1) scope.names (cloFrom X.env.cells scope.names [])) fp
  have pc := hcs s3 (upd H2 D (ho D)) s3.heap.objs.size (cellsFrom (s3.heap.objs.size + 1) scope.names (cloFrom X.env.cells scope.names [])) fp
  have pe := hem s3 (upd H2 D (ho D)) s3.heap.objs.size (cellsFrom (s3.heap.objs.size + 1) scope.names (cloFrom X.env.cells scope.names [])) fp D
  show codeAny _ _ (.compStart e 0 (.ref it) (.ref D) (compEnvC scope (cellsFrom (s3.heap.objs.size + 1) scope.names (cloFrom X.env.cells scope.names [])) s3.heap.objs.size X.env)) (compPost (model X.prog X.w) X.A X.xe use Qf (.ref D) s3.heap.objs.size) { s3 with heap := pushCells (s3.heap.push { cls := .type "dict", data := .dict #[] }) scope.names }
  have nfp : ∀ b ∈ fp, (upd H2 D (ho D)) b = none := fun b hb => (f3 b hb).1.1
  generalize hce : compEnvC scope (cellsFrom (s3.heap.objs.size + 1) scope.names (cloFrom X.env.cells scope.names [])) s3.heap.objs.size X.env = ce at I4 pg pt pc pe ⊢
  have cL : ce.locals = s3.heap.objs.size := by subst hce; rfl
  generalize hH3 : upd H2 D (ho D) = H3 at I3 I4 pg pt pc pe w0 nfp f3
  generalize hs4 : ({ s3 with heap := pushCells (s3.heap.push { cls := .type "dict", data := .dict #[] }) scope.names } : Shared) = s4 at I4 ⊢
  have st4 : tn 0 s4.heap := T.keep _ _ _ st3 fun b _ o e => by rw [← hs4]; exact pushCells_keeps _ _ _ _ (Heap.get?_push_of_some _ e)
  have stat : ∀ {σ' : L2.St} {H' : Hp} {s' : Shared}, Inv (X.blk s3 H3 scope ce fp) [] σ' H' s' → (∀ b ∈ fp, H' b = none) → ∀ b ∈ fp, FpOk (X.blk s3 H3 scope ce fp) [] H' b := fun {σ' H' s'} I' hn b hb =>
    ⟨hn b hb, (I'.ok.exf b hb).1, I'.ok.exfs b hb, .inl hb, fun x c e => (I'.ok.exf b hb).2 x c e, fun p hp => absurd (show p ∈ ([] : List (Addr × Obj)) ++ [] from hp) (by simp)⟩
  have loop : codeAny (model X.prog X.w) X.A (.compLoop e 0 (.ref it) (.ref D) ce) (compPost (model X.prog X.w) X.A X.xe use Qf (.ref D) s3.heap.objs.size) s4 := by
    refine genLoop (hA _ _ _ _) (hF _ _ _ _) (hT _ _ _ g0 _ rfl) (hQ _ _ _ _) (fun n s' => ∃ i H', Inv (X.blk s3 H3 scope ce fp) [] (wipe σ (own.map (·.2))) H' s' ∧ tn i s'.heap ∧ (∀ b ∈ fp, H' b = none) ∧ W i n H') ?_ m0 ⟨0, H3, I4, st4, nfp, w0⟩
    rintro n s5 ⟨i, H5, I5, st5, n5, w5⟩
    rcases turn i n H5 w5 with ⟨stop, qq⟩ | ⟨go, Nx, hNx, step⟩
    · have td := T.done (X.blk s3 H3 scope ce fp) rfl rfl rfl hc i [] s5 _ H5 (fun _ _ => False) I5 (stat I5 n5) st5 stop
      refine thnF td fun r s6 ⟨hr, I6⟩ => ?_
      subst hr
      have I7 : Inv X pins σ H5 s6 := I3.call' (ch := fp) I6.os I6.base I6.hok I6.bare fun b hb => ⟨(f3 b hb).1.2.2.2.1, (f3 b hb).1.2.1, (f3 b hb).1.2.2.2.2.1, (f3 b hb).1.2.2.2.2.2⟩
      have nC : H5 s3.heap.objs.size = none := by
        have z : H5 ce.locals = none := I6.free
        rw [cL] at z
        exact z
      obtain ⟨m, hn, _⟩ := I6.loc
      have hn : s6.heap.Ns ce.locals m := hn
      rw [cL] at hn
      exact hRR D s3.heap.objs.size s6 m H5 I7 qq hn (I3.fpOk (Nat.le_refl _) nC)
    · have ti := T.item (X.blk s3 H3 scope ce fp) rfl rfl rfl hc i [] s5 _ H5 (fun _ _ => False) I5 (stat I5 n5) st5 go
      refine thnF ti fun r s6 ⟨u, hr, h6⟩ => ?_
      subst hr
      refine thnF h6 fun _ s7 ⟨x, H7, I7, r7, y7, st7, n7⟩ => ?_
      have I7' := I7.pinned (stat I7 n7) (T.obj _ _ st7)
      refine thnF (pg.run _ s7 _ H7 x u _ I7' r7 (step x H7 y7)) fun _ s8 ⟨σ8, H8, I8, hw8, q8⟩ => ?_
      refine thnF (pt.run _ s8 σ8 H8 _ I8 q8) fun b s9 ⟨H9, I9, q9⟩ => ?_
      have fin : ∀ {σ9 : L2.St} {s' : Shared} {H' : Hp}, Inv (X.blk s3 H3 scope ce fp) ([] ++ pinsAt fp s7.heap) σ9 H' s' → (wipe σ (own.map (·.2))).length = σ9.length → (∀ (j : Nat) v, (wipe σ (own.map (·.2)))[j]? = some (some v) → σ9[j]? = some (some v)) → Nx H' →
          ∃ m, m < n ∧ ∃ i H', Inv (X.blk s3 H3 scope ce fp) [] (wipe σ (own.map (·.2))) H' s' ∧ tn i s'.heap ∧ (∀ b ∈ fp, H' b = none) ∧ W i m H' := fun {σ9 s' H'} I' hl hk nx => by
        obtain ⟨m', hm, w'⟩ := hNx H' nx
        have pin' : ∀ b ∈ fp, ∀ o, s7.heap.get? b = some o → s'.heap.get? b = some o ∧ H' b = none := fun b hb o e =>
          let z := I'.pin (b, o) (List.mem_append_right _ (List.mem_append_right _ (mem_pinsAt hb e)))
          ⟨z.1, z.2.1⟩
        refine ⟨m', hm, i + 1, H', (I'.unpinned (pins := [])).weak hl hk, T.keep _ _ _ st7 fun b hb o e => (pin' b hb o e).1, fun b hb => ?_, w'⟩
        obtain ⟨o, e, _⟩ := T.obj _ _ st7 b hb
        exact (pin' b hb o e).2
      have hl8 : (wipe σ (own.map (·.2))).length = σ8.length := by rw [← hw8, wipe_length]
      have hk8 : ∀ (j : Nat) v, (wipe σ (own.map (·.2)))[j]? = some (some v) → σ8[j]? = some (some v) := fun j v e => by
        rw [← hw8] at e
        exact (wipe_some e).1
      cases b with
      | false =>
        simp only [Bool.false_eq_true, if_false] at q9 ⊢
        exact fin I9 hl8 hk8 q9
      | true =>
        simp only [if_true] at q9 ⊢
        refine wpAny_mono (cls_in (Y := X.blk s3 H3 scope ce fp) hc rfl hcl (fun i g it h => hT _ _ i g it h) (fun i it _ => hA _ _ _ _) (fun i it _ => hA' _ _ _ _) (fun i it _ => hF _ _ _ _) (fun i it _ => hF' _ _ _ _) (fun i it => hQ _ _ _ _) pe cs gs 0 (fun j => by simp [Nat.add_comm]) pc _ σ8 H9 s9 Nx I9 q9) (fun _ s10 ⟨H10, I10, nx⟩ => ?_) fun _ _ z => z.elim
        refine fin I10 (hl8.trans (wipe_length _ _).symm) (fun j v e => ?_) nx
        have hj := hk8 j v e
        have hn : j ∉ own.map (·.2) := (wipe_some e).2
        rw [wipe_out fun z => hn ?_]
        · exact hj
        · cases cs with
          | nil => cases z
          | cons d ds => exact hsub d rfl j z
  exact genStart (hA' _ _ _ _) (hF' _ _ _ _) (fun it' => hQ _ _ _ _) (by rw [hcl]; rfl) ha0 loop (T.self X.A 0 _ _ _ st4 loop)
end
end PD
set_option Elab.async false
set_option linter.all false
set_option maxRecDepth 100000
set_option maxHeartbeats 1000000
/-! PD: comprehensions by data. -/
namespace PD
open PySem PySem.Spec PyProof.Rows L2
section
variable {X : Cx} {st : Stat} {W : L2.WX} {c : Cc} {T : Tab} {Φ : Phi} {k : Nat} {pins : List (Addr × Obj)} {σ : L2.St} {H H1 : Hp} {s : Shared} {S : Sto} {Ex : PD.WX} {Q : VK} {ρ : Rho} {L : Lay}
def noW : L2.WX := fun _ _ _ _ => False
theorem takes_no {X : Cx} : Takes X noW := fun _ _ ⟨_, _, _, _, _, _, _, _, _, _, _, _, _, _, _, _, w⟩ => w.elim
/-- the context of a comprehension's block -/
theorem Good.blk (G : Good X st W c T Φ) (s : Shared) (H : Hp) (sc : Scope) (cl : List (Str × Addr)) (C : Addr) (fp : List Addr) : Good (X.blk s H sc (compEnvC sc cl C X.env) fp) st noW (c.blk sc) T Φ where
  N := G.N
  nd := G.nd
  sc := by
    show relabel sc X.env = relS sc c.sc
    rw [← G.sc]
    rfl
  calm := G.calm
  room := G.room
  room2 := G.room2
  gd := G.gd
  mono := G.mono
  tk := takes_no
  nm := G.nm
  nmi := G.nmi
  gl := G.gl
  blt := G.blt
  tb := G.tb
  fc := fun x h => h
  mt := G.mt
theorem World0.blk (Z : World0 X st c T Φ k) (s : Shared) (H : Hp) (sc : Scope) (cl : List (Str × Addr)) (C : Addr) (fp : List Addr) : World0 (X.blk s H sc (compEnvC sc cl C X.env) fp) st (c.blk sc) T Φ k where
  fnp := Z.fnp
  hr := Z.hr
  keep := Z.keep
  cls := Z.cls
  keepC := Z.keepC
  isi := Z.isi
theorem RE.none (r : RE L H ρ σ) (i : Nat) : RE L H (ρ.set i none) (σ.set i none) := by
  refine ⟨by simp [r.1], fun j e h => ?_⟩
  rw [List.getElem?_set] at h ⊢
  split at h
  · rename_i hij
    subst hij
    split at h <;> cases h
  · rename_i hij
    rw [if_neg hij]
    exact r.2 j e h
theorem RE.wipe (r : RE L H ρ σ) : ∀ vs : List Nat, RE L H (wipeR ρ vs) (wipe σ vs)
  | [] => r
  | v :: vs => (RE.wipe r vs).none v
/-- the tests of a comprehension -/
def lIfs (X : Cx) (st : Stat) (T : Tab) (Φ : Phi) (ifs : List E) : TT := fun σ H Q => ∃ ρ S, RS (lay X st) S H ∧ RE (lay X st) H ρ σ ∧ wIfs T Φ ifs ρ S (fun b S' => ∀ H', Frm S H S' H' → RS (lay X st) S' H' → Q b H')
theorem ifs_nil : PTs X [] (lIfs X st T Φ []) := ⟨fun pins s σ H Q I h => pts_nil.run pins s σ H Q I (by
  obtain ⟨ρ, S, rs, re, h⟩ := h
  rw [wIfs] at h
  exact h _ .refl rs)⟩
theorem ifs_one (hΦ : PhiMono Φ) {x : Expr} {e : E} (h : PT X x (lT X st noW (wE T Φ e))) : PTs X [x] (lIfs X st T Φ [e]) := ⟨fun pins s σ H Q I h' => (pts_one h).run pins s σ H Q I (by
  obtain ⟨ρ, S, rs, re, h'⟩ := h'
  rw [wIfs] at h'
  refine ⟨ρ, S, noX, ⟨rs, re, xok_no⟩, wE_mono hΦ e ρ S _ _ _ _ (fun d S1 z => ?_) (fun _ _ z => z) h'⟩
  obtain ⟨b, h1, h2⟩ := z
  refine ⟨b, h1, ?_⟩
  cases b with
  | true =>
    rw [if_pos rfl, wIfs] at h2
    exact h2
  | false => exact h2)⟩

/-- something untold of changes -/
theorem RS.over {o : O} {p : Addr} {ho ho' : HO} (rs : RS L S H) (h : S p = none) (e : H p = some ho) (k : ROk L H o p ho) : RS L S (upd H p ho') ∧ Ext H (upd H p ho') := by
  have ex : Ext H (upd H p ho') := Ext.upd_of e (fun vs => (k.notup (ob := default)).1) fun ob vs => k.notup.2
  refine ⟨fun b o q => ?_, ex⟩
  obtain ⟨hb, h1, h2⟩ := rs b o q
  have n : b ≠ p := fun z => by rw [z, h] at q; cases q
  exact ⟨hb, by rw [upd_ne n]; exact h1, h2.ext ex⟩
/-- the comprehension's own object, untold -/
structure AccAt (L : Lay) (S : Sto) (H : Hp) (D : Addr) (kk : CK) (acc : List (List PD.D)) : Prop where
  un : S D = none
  ob : ∃ ho, H D = some ho ∧ ROk L H (accO kk acc) D ho
/-- all else untold stays -/
def FrD (D : Addr) (S : Sto) (H : Hp) (S' : Sto) (H' : Hp) : Prop := (∀ a ho, a ≠ D → H a = some ho → S a = none → H' a = some ho ∧ S' a = none) ∧ ExF H H'
theorem FrD.trans {D : Addr} {S1 S2 : Sto} {H1 H2 : Hp} (f : FrD D S H S1 H1) (g : FrD D S1 H1 S2 H2) : FrD D S H S2 H2 := ⟨fun a ho n e k => let ⟨e1, k1⟩ := f.1 a ho n e k; g.1 a ho n e1 k1, f.2.trans g.2⟩
theorem Frm.d {S1 : Sto} (D : Addr) (f : Frm S H S1 H1) : FrD D S H S1 H1 := ⟨fun a ho _ e k => f.1 a ho e k, f.2⟩
theorem FrD.refl {D : Addr} : FrD D S H S H := ⟨fun a ho _ e k => ⟨e, k⟩, .refl⟩
theorem AccAt.frm {D : Addr} {kk : CK} {acc : List (List PD.D)} {S1 : Sto} (a : AccAt L S H D kk acc) (rs : RS L S H) (f : Frm S H S1 H1) : AccAt L S1 H1 D kk acc := by
  obtain ⟨ho, e, k⟩ := a.ob
  obtain ⟨g1, g2⟩ := f.1 D ho e a.un
  exact ⟨g2, ho, g1, k.ext (f.ext rs)⟩
theorem wipe_wipe : ∀ (vs : List Nat) (σ : L2.St), wipe (wipe σ vs) vs = wipe σ vs := by
  have key : ∀ (us : List Nat) (i : Nat) (τ : L2.St), i ∈ us → (wipe τ us).set i none = wipe τ us := by
    intro us
    induction us with
    | nil => intro i τ h; cases h
    | cons u us ih =>
      intro i τ h
      unfold wipe
      rcases List.mem_cons.mp h with rfl | h
      · rw [List.set_set]
      · by_cases hiu : i = u
        · subst hiu; rw [List.set_set]
        · rw [List.set_comm _ _ (fun z => hiu z.symm), ih i τ h]
  have all : ∀ (us ws : List Nat) (τ : L2.St), (∀ i ∈ ws, i ∈ us) → wipe (wipe τ us) ws = wipe τ us := by
    intro us ws
    induction ws with
    | nil => intro τ _; rfl
    | cons u ws ih =>
      intro τ h
      show (wipe (wipe τ us) ws).set u none = _
      rw [ih τ fun i hi => h i (List.mem_cons_of_mem _ hi)]
      exact key us u τ (h u List.mem_cons_self)
  exact fun vs σ => all vs vs σ fun i hi => hi
/-- one loop, as the machine's reading asks for it -/
theorem loop_rd (hΦ : PhiMono Φ) {Hb : Hp} {D : Addr} {J : It} {src : Src} {t : PD.G} {ifs : List E} {vs : List Nat} {kk : CK} {acc0 : List (List PD.D)} {S2 : Sto} {cs : List ClR} {em : L2.St → Hp → (Hp → Prop) → Prop}
    {K : Rho → List (List PD.D) → Sto → (List (List PD.D) → Sto → Prop) → Prop} {fin : List (List PD.D) → Sto → Prop} {Nx : Hp → Prop}
    (ok : ItOk (lay X st) Hb J src) (xb : Ext Hb H1) (xf : ExF Hb H1) (rs : RS (lay X st) S2 H1) (re : RE (lay X st) H1 (wipeR ρ vs) (wipe σ vs)) (ac : AccAt (lay X st) S2 H1 D kk acc0) (hvs : ∀ i ∈ gnames t, i ∈ vs)
    (h : wLoop src (fun d0 acc S Q' => wG T Φ t d0 (wipeR ρ vs) S (fun ρ' S' => wIfs T Φ ifs ρ' S' (fun b S'' => if b = true then K ρ' acc S'' Q' else Q' acc S'')) noX) fin acc0 S2)
    (hin : ∀ ρ' σ' acc S H Q' Nx, RS (lay X st) S H → RE (lay X st) H ρ' σ' → AccAt (lay X st) S H D kk acc → K ρ' acc S Q' →
      (∀ acc' S' H', Q' acc' S' → RS (lay X st) S' H' → AccAt (lay X st) S' H' D kk acc' → Ext H H' → FrD D S H S' H' → Nx H') → tCls em cs σ' H Nx)
    (hfin : ∀ acc' S' H', fin acc' S' → RS (lay X st) S' H' → AccAt (lay X st) S' H' D kk acc' → Ext H1 H' → FrD D S2 H1 S' H' → Nx H') :
    ∃ Wm : Nat → Nat → Hp → Prop, (∃ m, Wm 0 m H1) ∧ ∀ i m H, Wm i m H → (J.stop i H ∧ Nx H) ∨ (J.go i H ∧ ∃ Nx1 : Hp → Prop, (∀ H', Nx1 H' → ∃ m', m' < m ∧ Wm (i + 1) m' H') ∧
      ∀ x H', J.yld i H x H' → lG X st T Φ t x (wipe σ vs) H' fun σ2 H2 => wipe σ2 vs = wipe σ vs ∧ lIfs X st T Φ ifs σ2 H2 fun b H3 => if b = true then tCls em cs σ2 H3 Nx1 else Nx1 H3) := by
  obtain ⟨Wa, ⟨m0, w0⟩, turn⟩ := h
  have hW : ∃ Wm : Nat → Nat → Hp → Prop, Wm = fun i m H => ∃ acc S, Wa i m acc S ∧ RS (lay X st) S H ∧ AccAt (lay X st) S H D kk acc ∧ Ext H1 H ∧ FrD D S2 H1 S H := ⟨_, rfl⟩
  obtain ⟨Wm, eW⟩ := hW
  refine ⟨Wm, ⟨m0, by rw [eW]; exact ⟨acc0, S2, w0, rs, ac, .refl, .refl⟩⟩, ?_⟩
  intro i m H w
  rw [eW] at w
  obtain ⟨acc, S, w1, rs1, ac1, ex1, f1⟩ := w
  have tn := turn i m _ S w1
  split at tn
  · rename_i hs
    exact .inl ⟨ok.stop i S H rs1 (xb.trans ex1) (xf.trans f1.2) hs, hfin _ _ _ tn rs1 ac1 ex1 f1⟩
  · rename_i d0 hs
    obtain ⟨go, yl⟩ := ok.go i S H d0 rs1 (xb.trans ex1) (xf.trans f1.2) hs
    refine .inr ⟨go, fun H' => ∃ m', m' < m ∧ Wm (i + 1) m' H', fun H' z => z, fun x H' hy => ?_⟩
    obtain ⟨rs2, f2, r2⟩ := yl x H' hy
    refine ⟨wipeR ρ vs, S, d0, rs2, re.ext (ex1.trans (f2.ext rs1)), r2, wG_mono hΦ _ _ _ _ _ _ _ _ (fun ρ' S' z => ?_) (fun _ _ z => z) tn⟩
    intro σ2 H2 f3 rs3 re3 ag
    refine ⟨(ag vs hvs).trans (wipe_wipe vs σ), ρ', S', rs3, re3, wIfs_mono hΦ _ _ _ _ _ (fun b S3 z => ?_) z⟩
    intro H3 f4 rs4
    have fr := (f2.trans f3).trans f4
    have nxt : ∀ acc' S4 H4, (∃ m', m' < m ∧ Wa (i + 1) m' acc' S4) → RS (lay X st) S4 H4 → AccAt (lay X st) S4 H4 D kk acc' → Ext H3 H4 → FrD D S3 H3 S4 H4 → ∃ m', m' < m ∧ Wm (i + 1) m' H4 := fun acc' S4 H4 ⟨m', hm, wa⟩ g1 g2 g3 g4 => by
      refine ⟨m', hm, ?_⟩
      rw [eW]
      exact ⟨acc', S4, wa, g1, g2, (ex1.trans (fr.ext rs1)).trans g3, (f1.trans (fr.d D)).trans g4⟩
    have ac4 := ac1.frm rs1 fr
    cases b with
    | false =>
      simp only [Bool.false_eq_true, if_false] at z ⊢
      exact nxt _ _ _ z rs4 ac4 .refl .refl
    | true =>
      simp only [if_true] at z ⊢
      exact hin _ _ _ _ _ _ _ rs4 (re3.ext (f4.ext rs3)) ac4 z nxt
  · exact tn.elim
/-- what stands within: the emission -/
def lEm (X : Cx) (st : Stat) (T : Tab) (Φ : Phi) (kk : CK) (elt : List E) (D : Addr) : L2.St → Hp → (Hp → Prop) → Prop := fun σ H Nx => ∃ ρ S acc, RS (lay X st) S H ∧ RE (lay X st) H ρ σ ∧ AccAt (lay X st) S H D kk acc ∧
  wEs T Φ elt ρ S (fun ds S1 => emitOk kk acc ds ∧ ∀ H1 H2, Frm S H S1 H1 → RS (lay X st) S1 H2 → AccAt (lay X st) S1 H2 D kk (acc ++ [ds]) → Ext H1 H2 → FrD D S1 H1 S1 H2 → Nx H2) noX
def clR (X : Cx) (st : Stat) (T : Tab) (Φ : Phi) : Gen → ClR
  | .mk vs t ik it ifs => ⟨vs, lI0 X st noW T Φ ik it, lG X st T Φ t, lIfs X st T Φ ifs⟩
def genNm : Gen → Prop
  | .mk vs t _ _ _ => ∀ i ∈ gnames t, i ∈ vs
theorem gens_rd (hΦ : PhiMono Φ) {kk : CK} {elt : List E} {D : Addr} : ∀ (gs : List Gen), (∀ g ∈ gs, genNm g) → ∀ (ρ : Rho) (σ : L2.St) (acc : List (List PD.D)) (S : Sto) (H : Hp) (Q' : List (List PD.D) → Sto → Prop) (Nx : Hp → Prop), RS (lay X st) S H → RE (lay X st) H ρ σ → AccAt (lay X st) S H D kk acc →
    wGens T Φ gs ρ (fun ρ' acc S Q' => wEs T Φ elt ρ' S (fun ds S1 => emitOk kk acc ds ∧ Q' (acc ++ [ds]) S1) noX) acc S Q' noX →
    (∀ acc' S' H', Q' acc' S' → RS (lay X st) S' H' → AccAt (lay X st) S' H' D kk acc' → Ext H H' → FrD D S H S' H' → Nx H') → tCls (lEm X st T Φ kk elt D) (gs.map (clR X st T Φ)) σ H Nx
  | [], _, ρ, σ, acc, S, H, Q', Nx, rs, re, ac, h, nx => by
    rw [wGens] at h
    refine ⟨ρ, S, acc, rs, re, ac, wEs_mono hΦ _ _ _ _ _ _ _ (fun ds S1 ⟨h1, h2⟩ => ⟨h1, fun H1 H2 f r a e fd => nx _ _ _ h2 r a ((f.ext rs).trans e) ((f.d D).trans fd)⟩) (fun _ _ w => w) h⟩
  | .mk vs t ik it ifs :: gs, hg, ρ, σ, acc, S, H, Q', Nx, rs, re, ac, h, nx => by
    rw [wGens, wGen] at h
    refine ⟨ρ, S, noX, ⟨rs, re, xok_no⟩, wEs_mono hΦ _ _ _ _ _ _ _ (fun ds S1 q => wSrc_mono (fun src l S2 q => ?_) q) (fun _ _ w => w) h⟩
    intro J H1 hl f rs2 ok
    subst hl
    have fx := f.ext rs
    exact loop_rd hΦ ok .refl .refl rs2 ((re.ext fx).wipe vs) (ac.frm rs f) (hg _ List.mem_cons_self) q
      (fun ρ' σ' acc S H Q' Nx r1 r2 a1 k1 n1 => gens_rd hΦ gs (fun g m => hg g (List.mem_cons_of_mem _ m)) ρ' σ' acc S H Q' Nx r1 r2 a1 k1 n1)
      (fun acc' S' H' q r a e fd => nx _ _ _ q r a (fx.trans e) ((f.d D).trans fd))
/-- the new object -/
def ho0 (X : Cx) : CK → Addr → HO
  | .lst, _ => .lst []
  | .set, D => NSO X.prog X.w D []
  | .dct, _ => .dK []
theorem ho0_ok {kk : CK} {D : Addr} : ROk (lay X st) H (accO kk []) D (ho0 X kk D) := by
  cases kk with
  | lst => exact .lst .nil
  | set => exact .set .nil .nil
  | dct => exact .dK .nil .nil
/-- what is wanted, or it is wanted once something is unlocked -/
def unQ (X : Cx) (Q : VK) : VK := fun v H => Q v H ∨ ∃ d od u, H d = some (.frz od u) ∧ (∀ o w, X.H_0 d ≠ some (.frz o w)) ∧ Q v (upd H d u)
theorem un_put {a : Addr} {o : O} (rs : RS L S H) (h : S a = some (.frz o)) : ∃ ob u, H a = some (.frz ob u) ∧ RS L (PD.put S a o) (upd H a u) ∧ Ext H (upd H a u) := by
  obtain ⟨ho, e, k⟩ := rs a _ h
  have x : ∀ u, Ext H (upd H a u) := fun u => rs.ext_put h
  cases k with
  | frz k => exact ⟨_, _, e, rs.put (x _) (k.ext (x _)), x _⟩
/-- behind an unlocking -/
theorem un_frm {S2 : Sto} {H2 : Hp} {a : Addr} {o : O} {u : HO} (f : Frm S H S2 H2) (h : S2 a = some (.frz o)) (hn : ∀ ob w, H a ≠ some (.frz ob w)) : Frm S H (PD.put S2 a o) (upd H2 a u) := by
  refine ⟨fun b ho e k => ?_, fun b ob w e => ?_⟩
  · obtain ⟨e1, k1⟩ := f.1 b ho e k
    have n : b ≠ a := fun z => by rw [z, h] at k1; cases k1
    exact ⟨by rw [upd_ne n]; exact e1, by rw [put_ne n]; exact k1⟩
  · have n : b ≠ a := fun z => by rw [z] at e; exact hn _ _ e
    rw [upd_ne n]
    exact f.2 b ob w e
/-- what data say of a comprehension is what the machine's reading asks for -/
theorem comp_rd (hΦ : PhiMono Φ) {kk : CK} {elt : List E} {vs : List Nat} {t : PD.G} {ik : IK} {it ifs : List E} {gs : List Gen} (hg : ∀ g ∈ Gen.mk vs t ik it ifs :: gs, genNm g) {σ : L2.St} {H : Hp} {Q : VK} (h : lE X st W (wE T Φ (.comp kk elt (.mk vs t ik it ifs :: gs))) σ H Q) :
    tComp (lEm X st T Φ kk elt) (ho0 X kk) (lI X st W T Φ ik it) (lG X st T Φ t) (lIfs X st T Φ ifs) vs (gs.map (clR X st T Φ)) σ H (unQ X Q) := by
  obtain ⟨ρ, S, Ex, z, h⟩ := h
  rw [wE, wGens, wGen] at h
  refine ⟨ρ, S, Ex, z, wEs_mono hΦ _ _ _ _ _ _ _ (fun ds S1 q => wSrc_mono (fun src l S2 q => ?_) q) (fun _ _ w => w) h⟩
  intro J H1 hl f rs ok D hD
  have nx := Ext.upd_new (o := ho0 X kk D) hD
  have nf : ExF H1 (upd H1 D (ho0 X kk D)) := .upd (by rw [hD]; exact fun _ _ z => nomatch z)
  have fx := f.ext z.rs
  refine loop_rd hΦ ok nx nf (rs.side hD) (((z.re.ext fx).ext nx).wipe vs) ⟨rs.free hD, _, upd_same, ho0_ok⟩ (hg _ List.mem_cons_self) q
    (fun ρ' σ' acc S H Q' Nx r1 r2 a1 k1 n1 => gens_rd hΦ gs (fun g m => hg g (List.mem_cons_of_mem _ m)) ρ' σ' acc S H Q' Nx r1 r2 a1 k1 n1) fun acc' S' H' q r a e fd => ?_
  have fr : FrD D S H S' H' := by
    refine ⟨fun b u n eb kb => ?_, f.2.trans (nf.trans fd.2)⟩
    obtain ⟨g1, g2⟩ := f.1 b u eb kb
    exact fd.1 b u n (by rw [upd_ne n]; exact g1) g2
  have told : ∀ {S3 : Sto} {H3 : Hp}, FrD D S H S3 H3 → Frm S H (PD.put S3 D (accO kk acc')) H3 := fun {S3 H3} g => by
    refine ⟨fun b u eb kb => ?_, g.2⟩
    obtain ⟨g1, _⟩ := f.1 b u eb kb
    have n : b ≠ D := ne_of_none g1 hD
    obtain ⟨g3, g4⟩ := g.1 b u n eb kb
    exact ⟨g3, by rw [put_ne n]; exact g4⟩
  obtain ⟨ho, e1, k1⟩ := a.ob
  cases l with
  | none => exact .inl (q D a.un (.ref D) H' (told fr) (r.tell e1 k1) .ref)
  | some b =>
    obtain ⟨o, hb, q⟩ := q
    obtain ⟨n1, n2⟩ := hl b rfl
    obtain ⟨ob, u, hH, rs2, x2⟩ := un_put r hb
    have nD : D ≠ b := fun e => by rw [← e, a.un] at hb; cases hb
    have f2 : FrD D S H (PD.put S' b o) (upd H' b u) := by
      refine ⟨fun c w n ec kc => ?_, fun c ob' w ec => ?_⟩
      · obtain ⟨g1, g2⟩ := fr.1 c w n ec kc
        have nc : c ≠ b := fun e => by rw [e, hb] at g2; cases g2
        exact ⟨by rw [upd_ne nc]; exact g1, by rw [put_ne nc]; exact g2⟩
      · have nc : c ≠ b := fun e => by rw [e] at ec; exact n2 _ _ ec
        rw [upd_ne nc]
        exact fr.2 c ob' w ec
    exact .inr ⟨b, ob, u, hH, n1, q D (by rw [put_ne nD]; exact a.un) (.ref D) _ (told f2) (rs2.tell (by rw [upd_ne nD]; exact e1) (k1.ext x2)) .ref⟩
theorem own_at {N : List Str} {vs : List Nat} : (vs.map fun v => (N.getD v default, v)).map (·.2) = vs := by simp [Function.comp_def]
/-! ### the emissions -/
def emitL (e : Expr) (D : Addr) (env : Env) : Sem Unit := do let _ ← call (.builtin "list.append") [.ref D, ← eval e env]
def emitS (e : Expr) (D : Addr) (env : Env) : Sem Unit := do let v ← eval e env; standAt e.pos; let _ ← call (.builtin "set.add") [.ref D, v]
def emitD (k v : Expr) (D : Addr) (env : Env) : Sem Unit := do
  let kv ← eval k env
  let vv ← holding [kv] (eval v env)
  standAt { k.pos with endLine := v.pos.endLine, endCol := v.pos.endCol }
  holding [kv, vv] (dictSet D kv vv)
/-- behind an emission -/
theorem em_fin {Nx : Hp → Prop} {D : Addr} {kk : CK} {acc : List (List PD.D)} {ds : List PD.D} {ho : HO} (rs : RS (lay X st) S H) (ac : AccAt (lay X st) S H D kk acc) (k : ROk (lay X st) (upd H D ho) (accO kk (acc ++ [ds])) D ho)
    (nx : ∀ H2, RS (lay X st) S H2 → AccAt (lay X st) S H2 D kk (acc ++ [ds]) → Ext H H2 → FrD D S H S H2 → Nx H2) : Nx (upd H D ho) := by
  obtain ⟨ho1, e1, k1⟩ := ac.ob
  obtain ⟨r, x⟩ := rs.over ac.un e1 k1 (ho' := ho)
  exact nx _ r ⟨ac.un, ho, upd_same, k⟩ x ⟨fun a u n e k => ⟨by rw [upd_ne n]; exact e, k⟩, .upd fun ob u z => (by rw [e1] at z; exact k1.nofrz (by cases kk <;> exact fun _ z => nomatch z) ob u (Option.some.inj z))⟩
theorem em_lst (hΦ : PhiMono Φ) (hxe : X.xe = fun _ _ => False) {e : Expr} {elt : List E} {D : Addr} {Nx : Hp → Prop} (ha : All2 X st noW T Φ [e] elt) (I : Inv X pins σ H s) (h : lEm X st T Φ .lst elt D σ H Nx) :
    wpAny (model X.prog X.w) X.A (emitL e D X.env) (fun _ s' => ∃ H', Inv X pins σ H' s' ∧ Nx H') (fun _ _ => False) s := by
  obtain ⟨d, rfl, h1⟩ := all2_one ha
  obtain ⟨ρ, S, acc, rs, re, ac, h⟩ := h
  rw [wEs] at h
  simp only [wEs] at h
  have run := h1.run pins s σ H (fun v H1 => ∃ d1 S1, Frm S H S1 H1 ∧ RS (lay X st) S1 H1 ∧ Rep (lay X st) H1 d1 v ∧ emitOk .lst acc [d1] ∧ ∀ H1 H2, Frm S H S1 H1 → RS (lay X st) S1 H2 → AccAt (lay X st) S1 H2 D .lst (acc ++ [[d1]]) → Ext H1 H2 → FrD D S1 H1 S1 H2 → Nx H2) I
    ⟨ρ, S, noX, ⟨rs, re, xok_no⟩, wE_mono hΦ d _ _ _ _ _ _ (fun d1 S1 q v H1 f r rp => ⟨d1, S1, f, r, rp, q.1, q.2⟩) (fun _ _ w => w) h⟩
  rw [hxe] at run
  unfold emitL
  refine wpAny_bind (thnF run fun v s1 ⟨x, H1, I1, rv, d1, S1, f, r, rp, h2, h3⟩ => ?_)
  have ac1 := ac.frm rs f
  obtain ⟨ho, e1, k1⟩ := ac1.ob
  cases k1 with
  | @lst _ xs _ rx =>
    refine wpAny_bind (app_ok I1 e1 (by have := rx.length; rw [List.length_map] at this; rw [← this]; exact h2) rv fun s2 I2 => wpAny_pure ⟨_, I2, ?_⟩)
    have x1 := (r.over ac1.un e1 (.lst rx) (ho' := .lst (xs ++ [x]))).2
    refine em_fin (ds := [d1]) r ac1 ?_ fun H2 => h3 H1 H2 f
    refine .lst ?_
    rw [List.map_append]
    exact (rx.ext x1).append (.cons (rp.ext x1) .nil)
theorem em_set (hΦ : PhiMono Φ) (hu : X.A.units + 64 < cLine) (hxe : X.xe = fun _ _ => False) {e : Expr} {elt : List E} {D : Addr} {Nx : Hp → Prop} (ha : All2 X st noW T Φ [e] elt) (I : Inv X pins σ H s) (h : lEm X st T Φ .set elt D σ H Nx) :
    wpAny (model X.prog X.w) X.A (emitS e D X.env) (fun _ s' => ∃ H', Inv X pins σ H' s' ∧ Nx H') (fun _ _ => False) s := by
  obtain ⟨d, rfl, h1⟩ := all2_one ha
  obtain ⟨ρ, S, acc, rs, re, ac, h⟩ := h
  rw [wEs] at h
  simp only [wEs] at h
  have run := h1.run pins s σ H (fun v H1 => ∃ d1 S1, Frm S H S1 H1 ∧ RS (lay X st) S1 H1 ∧ Rep (lay X st) H1 d1 v ∧ emitOk .set acc [d1] ∧ ∀ H1 H2, Frm S H S1 H1 → RS (lay X st) S1 H2 → AccAt (lay X st) S1 H2 D .set (acc ++ [[d1]]) → Ext H1 H2 → FrD D S1 H1 S1 H2 → Nx H2) I
    ⟨ρ, S, noX, ⟨rs, re, xok_no⟩, wE_mono hΦ d _ _ _ _ _ _ (fun d1 S1 q v H1 f r rp => ⟨d1, S1, f, r, rp, q.1, q.2⟩) (fun _ _ w => w) h⟩
  rw [hxe] at run
  unfold emitS
  refine wpAny_bind (thnF run fun v s1 ⟨x, H1, I1, rv, d1, S1, f, r, rp, h2, h3⟩ => ?_)
  refine wpAny_bind (wpAny_standAt ?_)
  have ac1 := ac.frm rs f
  obtain ⟨ho, e1, k1⟩ := ac1.ob
  refine wpAny_bind (d_sadd hu I1 (r.tell e1 k1) put_same h2.2 h2.1 rp rv _ fun ho' s2 I2 k2 => wpAny_pure ⟨_, I2, ?_⟩)
  refine em_fin (ds := [d1]) r ac1 ?_ fun H2 => h3 H1 H2 f
  show ROk _ _ (.set (accS (acc ++ [[d1]]))) _ _
  unfold accS
  rw [List.foldl_append]
  exact k2
theorem em_dct (hΦ : PhiMono Φ) (hu : X.A.units + 64 < cLine) (hxe : X.xe = fun _ _ => False) {k v : Expr} {elt : List E} {D : Addr} {Nx : Hp → Prop} (ha : All2 X st noW T Φ [k, v] elt) (I : Inv X pins σ H s) (h : lEm X st T Φ .dct elt D σ H Nx) :
    wpAny (model X.prog X.w) X.A (emitD k v D X.env) (fun _ s' => ∃ H', Inv X pins σ H' s' ∧ Nx H') (fun _ _ => False) s := by
  obtain ⟨a, b, rfl, h1, h2⟩ := all2_two ha
  obtain ⟨ρ, S, acc, rs, re, ac, h⟩ := h
  rw [wEs] at h
  simp only [wEs] at h
  have run := h1.run pins s σ H (fun v H1 => ∃ d1 S1, Frm S H S1 H1 ∧ RS (lay X st) S1 H1 ∧ Rep (lay X st) H1 d1 v ∧ wE T Φ b ρ S1 (fun d2 S2 => emitOk .dct acc [d1, d2] ∧ ∀ H1 H2, Frm S H S2 H1 → RS (lay X st) S2 H2 → AccAt (lay X st) S2 H2 D .dct (acc ++ [[d1, d2]]) → Ext H1 H2 → FrD D S2 H1 S2 H2 → Nx H2) noX) I
    ⟨ρ, S, noX, ⟨rs, re, xok_no⟩, wE_mono hΦ a _ _ _ _ _ _ (fun d1 S1 q v H1 f r rp => ⟨d1, S1, f, r, rp, q⟩) (fun _ _ w => w) h⟩
  rw [hxe] at run
  unfold emitD
  refine wpAny_bind (thnF run fun vk s1 ⟨x, H1, I1, rv, d1, S1, f, r, rp, q⟩ => ?_)
  have run2 := h2.run pins s1 σ H1 (fun v H2 => ∃ d2 S2, Frm S1 H1 S2 H2 ∧ RS (lay X st) S2 H2 ∧ Rep (lay X st) H2 d2 v ∧ emitOk .dct acc [d1, d2] ∧ ∀ H1 H2, Frm S H S2 H1 → RS (lay X st) S2 H2 → AccAt (lay X st) S2 H2 D .dct (acc ++ [[d1, d2]]) → Ext H1 H2 → FrD D S2 H1 S2 H2 → Nx H2) I1
    ⟨ρ, S1, noX, ⟨r, re.ext (f.ext rs), xok_no⟩, wE_mono hΦ b _ _ _ _ _ _ (fun d2 S2 q v H2 f r rp => ⟨d2, S2, f, r, rp, q.1, q.2⟩) (fun _ _ w => w) q⟩
  rw [hxe] at run2
  refine wpAny_bind (wpAny_holding (thnF run2 fun vv s2 ⟨y, H2, I2, rv2, d2, S2, f2, r2, rp2, g1, g2⟩ => ?_))
  refine wpAny_bind (wpAny_standAt (wpAny_holding ?_))
  have fr := f.trans f2
  have ac2 := ac.frm rs fr
  obtain ⟨ho, e1, k1⟩ := ac2.ob
  refine d_dset hu I2 (r2.tell e1 k1) put_same g1.2 g1.1 (rp.ext (f2.ext r)) rv rp2 rv2 _ fun ho' s3 I3 k3 => ⟨_, I3, ?_⟩
  refine em_fin (ds := [d1, d2]) r2 ac2 ?_ fun H3 => g2 H2 H3 fr
  show ROk _ _ (.dct (accD (acc ++ [[d1, d2]]))) _ _
  unfold accD
  rw [List.foldl_append]
  exact k3
end
end PD
set_option Elab.async false
set_option linter.all false
set_option maxRecDepth 100000
set_option maxHeartbeats 2000000
/-! PD: comprehensions: from their texts. -/
namespace PD
open PySem PySem.Spec PyProof.Rows L2
/-- the text of a comprehension -/
inductive CompTx : CK → List Expr → List Comprehension → Scope → Expr → Prop
  | lst {e gs sc p} : CompTx .lst [e] gs sc (.ListComp e gs sc p)
  | set {e gs sc p} : CompTx .set [e] gs sc (.SetComp e gs sc p)
  | dct {k v gs sc p} : CompTx .dct [k, v] gs sc (.DictComp k v gs sc p)
def mkOf : CK → Sem Value
  | .lst => newList []
  | .set => newSet (.type "set")
  | .dct => newDict
def obOf (w : World) : CK → Obj
  | .lst => { cls := .type "list", data := .seq ([] : List Value).toArray }
  | .set => { cls := .type "set", dict := none, data := .set #[] 0 (.fresh 0 0 (!w.params.followText "set-order")) }
  | .dct => { cls := .type "dict", data := .dict #[] }
section
variable {X : Cx} {st : Stat} {W : L2.WX} {c : Cc} {T : Tab} {Φ : Phi} {k : Nat} {pins : List (Addr × Obj)} {σ : L2.St} {H H1 : Hp} {s : Shared} {S : Sto} {Ex : PD.WX} {Q : VK} {ρ : Rho} {L : Lay}
theorem makes_of (kk : CK) : Makes X (mkOf kk) (ho0 X kk) (obOf X.w kk) := by
  intro pins σ H s E Q I h
  cases kk with
  | lst =>
    refine wpAny_newObj_type (h ?_) (by show 0 ≤ sizeLine; decide)
    exact I.laid (t' := s.toks) (fun b o e => Heap.get?_push_of_some _ e) (Nat.le_refl _) ⟨Nat.zero_le _, [], 0, .nil, Heap.get?_push_size _ rfl⟩
  | set =>
    refine PpSet.newSet_ok (h ?_)
    exact I.laid (t' := s.toks) (fun b o e => Heap.get?_push_of_some _ e) (Nat.le_refl _) (nso_ok (nset_new (P := X.prog) (Heap.get?_push_size _ rfl)).alone)
  | dct =>
    refine wpAny_newObj_type (h ?_)
    exact I.laid (t' := s.toks) (fun b o e => Heap.get?_push_of_some _ e) (Nat.le_refl _) (dk_empty s.heap I.big)
theorem inner_last {e : Expr} {acc : Value} {env : Env} {emit : Sem Unit} {gs : List Comprehension} {i : Nat} (h : gs[i + 1]? = none) : innerOf e acc env emit gs i = emit := by
  unfold innerOf
  rw [h]
theorem inner_next {e : Expr} {acc : Value} {env : Env} {emit : Sem Unit} {gs : List Comprehension} {i : Nat} {g : Comprehension} (h : gs[i + 1]? = some g) : innerOf e acc env emit gs i = nextC e g i acc env := by
  unfold innerOf
  rw [h]
theorem comp_exec (G : Good X st W c T Φ) {kk : CK} {es : List Expr} {g0 : Comprehension} {gs : List Comprehension} {sc : Scope} {e : Expr} (tx : CompTx kk es (g0 :: gs) sc e) {elt : List E} {own : List (Str × Nat)} {pos' : Pos} {wi : TI} {g : TG} {tt : TT} {cs : List ClR} {use : Option (Value → Sem Unit)} {Qf : Value → Shared → Prop}
    (asy : ∀ g ∈ g0 :: gs, g.is_async = 0) (I : Inv X pins σ H s) (hi : PI X g0.target g0.iter wi) (ok : BlkOk X.N X.env.scope sc own)
    (hg : ∀ (s : Shared) (H : Hp) (C : Addr) (cl : List (Str × Addr)) (fp : List Addr), PG (X.blk s H sc (compEnvC sc cl C X.env) fp) g0.target g) (ht : ∀ (s : Shared) (H : Hp) (C : Addr) (cl : List (Str × Addr)) (fp : List Addr), PTs (X.blk s H sc (compEnvC sc cl C X.env) fp) g0.ifs tt)
    (hs : ∀ x, foldedSetIterable g0.iter X.env x = pure x) (hsub : ∀ d ∈ cs.head?, ∀ i ∈ d.own, i ∈ own.map (·.2))
    (hcs : ∀ (s : Shared) (H : Hp) (C : Addr) (cl : List (Str × Addr)) (fp : List Addr), ClsO (X.blk s H sc (compEnvC sc cl C X.env) fp) gs cs)
    (he : ∀ (s : Shared) (H : Hp) (C : Addr) (cl : List (Str × Addr)) (fp : List Addr), All2 (X.blk s H sc (compEnvC sc cl C X.env) fp) st noW T Φ es elt)
    (h : tComp (lEm X st T Φ kk elt) (ho0 X kk) wi g tt (own.map (·.2)) cs σ H Q)
    (hRR : ∀ D C s' m H', Inv X pins σ H' s' → Q (.ref D) H' → s'.heap.Ns C m → FpOk X pins H' C → compPost (model X.prog X.w) X.A X.xe use Qf (.ref D) C (.ok .next) s') :
    wpAny (model X.prog X.w) X.A (comprehension e sc X.env pos' (mkOf kk) false (eval g0.iter X.env) use) Qf X.xe s := by
  have async : ∀ {i : Nat} {g : Comprehension}, (g0 :: gs)[i]? = some g → g.is_async = 0 := fun h => asy _ (List.mem_of_getElem? h)
  have hN : X.N.Nodup := by rw [G.N]; exact G.nd
  have hu := G.room
  cases tx with
  | @lst e1 _ _ p =>
    refine comp_core (emit := emitL e1) (em := lEm X st T Φ .lst elt) rfl (fun env D i g it hi => ?_) (fun _ _ _ _ => rfl) (fun _ _ _ _ => rfl) (fun _ _ _ _ => rfl) (fun _ _ _ _ => rfl) (fun _ _ _ _ => rfl) (async (i := 0) rfl) G.calm hN I hi ok hg ht hs hsub hcs
      (fun s H C cl fp D pins σ H' s' Nx I' h' => em_lst (X := X.blk s H sc (compEnvC sc cl C X.env) fp) G.mono rfl (he s H C cl fp) I' h') (makes_of .lst) h hRR
    cases hn : (g0 :: gs)[i + 1]? with
    | none => rw [inner_last hn]; exact turn_lst hi (async hi) hn
    | some g' => rw [inner_next hn]; exact turn_lstN hi (async hi) hn (async hn)
  | @set e1 _ _ p =>
    refine comp_core (emit := emitS e1) (em := lEm X st T Φ .set elt) rfl (fun env D i g it hi => ?_) (fun _ _ _ _ => rfl) (fun _ _ _ _ => rfl) (fun _ _ _ _ => rfl) (fun _ _ _ _ => rfl) (fun _ _ _ _ => rfl) (async (i := 0) rfl) G.calm hN I hi ok hg ht hs hsub hcs
      (fun s H C cl fp D pins σ H' s' Nx I' h' => em_set (X := X.blk s H sc (compEnvC sc cl C X.env) fp) G.mono hu rfl (he s H C cl fp) I' h') (makes_of .set) h hRR
    cases hn : (g0 :: gs)[i + 1]? with
    | none => rw [inner_last hn]; exact turn_set hi (async hi) hn
    | some g' => rw [inner_next hn]; exact turn_setN hi (async hi) hn (async hn)
  | @dct e1 e2 _ _ p =>
    refine comp_core (emit := emitD e1 e2) (em := lEm X st T Φ .dct elt) rfl (fun env D i g it hi => ?_) (fun _ _ _ _ => rfl) (fun _ _ _ _ => rfl) (fun _ _ _ _ => rfl) (fun _ _ _ _ => rfl) (fun _ _ _ _ => rfl) (async (i := 0) rfl) G.calm hN I hi ok hg ht hs hsub hcs
      (fun s H C cl fp D pins σ H' s' Nx I' h' => em_dct (X := X.blk s H sc (compEnvC sc cl C X.env) fp) G.mono hu rfl (he s H C cl fp) I' h') (makes_of .dct) h hRR
    cases hn : (g0 :: gs)[i + 1]? with
    | none => rw [inner_last hn]; exact turn_dct hi (async hi) hn
    | some g' => rw [inner_next hn]; exact turn_dctN hi (async hi) hn (async hn)
end
end PD
set_option Elab.async false
set_option linter.all false
set_option maxRecDepth 100000
set_option maxHeartbeats 1000000
/-! PD: expressions, all of them. -/
namespace PD
open PySem PySem.Spec PyProof.Rows L2
section
variable {X : Cx} {st : Stat} {W : L2.WX} {c : Cc} {T : Tab} {Φ : Phi} {k : Nat} {pins : List (Addr × Obj)} {σ : L2.St} {H H1 : Hp} {s : Shared} {S : Sto} {Ex : PD.WX} {Q : VK} {ρ : Rho} {L : Lay}
theorem cst_pe (G : Good X st W c T Φ) {d : D} {x : Expr} (h : cstOk c d x = true) : PE X x (lE X st W (wE T Φ (.cst d))) := by
  have key : ∀ {v : V}, (∀ H, Rep (lay X st) H d v) → ∀ σ H Q, lE X st W (wE T Φ (.cst d)) σ H Q → tC v σ H Q := fun r σ H Q h => by
    obtain ⟨ρ, S, Ex, z, h⟩ := h
    rw [wE] at h
    exact h.now z.rs (r H)
  unfold cstOk at h
  split at h
  · obtain rfl := of_decide_eq_true h; exact weak pe_non (key fun H => .non)
  · obtain rfl := of_decide_eq_true h; exact weak pe_bl (key fun H => .bl)
  · obtain rfl := of_decide_eq_true h; exact weak pe_int (key fun H => .int)
  · obtain rfl := of_decide_eq_true h; exact weak pe_str (key fun H => .str)
  · rw [Bool.and_eq_true] at h
    obtain ⟨hgl, hdb, hnm⟩ := glo_of G.sc h.1
    obtain ⟨v, u, m1, m2, m3⟩ := G.gl _ _ (of_decide_eq_true h.2)
    exact weak (pe_glob hgl m1 m2 hdb) (key m3)
  · cases h
theorem var_of (G : Good X st W c T Φ) {i : Nat} {x : Str} {pos : Pos} (h : varOk c i x = true) : PE X (.Name x pos) (tVar i) := by
  unfold varOk at h
  simp only [Bool.and_eq_true, decide_eq_true_eq, Bool.not_eq_true'] at h
  obtain ⟨h1, h2, h3, h4⟩ := h
  exact pe_var (by rw [G.N]; exact h1) (vis_of G.sc h2) h3 h4
theorem var_pe (G : Good X st W c T Φ) {i : Nat} {x : Str} {pos : Pos} (h : varOk c i x = true) : PE X (.Name x pos) (lE X st W (wE T Φ (.var i))) := by
  refine weak (var_of G h) fun σ H Q h => ?_
  obtain ⟨ρ, S, Ex, z, h⟩ := h
  rw [wE] at h
  obtain ⟨d, h1, h2⟩ := h
  obtain ⟨v, g1, g2⟩ := z.re.2 i d h1
  exact ⟨v, g1, h2.now z.rs g2⟩
theorem callv_pe (G : Good X st W c T Φ) (Z : World0 X st c T Φ k) {i : Nat} {x : Str} {p pos : Pos} {star : Bool} {as xs : List Expr} {es : List E} (h : varOk c i x = true) (hs : starOk star as = some xs) (ha : All2 X st W T Φ xs es) :
    PE X (.Call (.Name x p) as [] pos) (lE X st W (wE T Φ (.callv i star es))) := by
  refine ⟨fun pins s σ H Q I hw => ?_⟩
  obtain ⟨ρ, S, Ex, z, hw⟩ := hw
  rw [wE] at hw
  obtain ⟨d, h0, hw⟩ := hw
  obtain ⟨v, g1, g2⟩ := z.re.2 i d h0
  refine wpAny_Call_Name_kw (thn ((var_of G h).run pins s σ H (fun x H1 => x = v ∧ H1 = H) I ⟨v, g1, rfl, rfl⟩) fun u s1 ⟨v1, H1, I1, rv, ev, eH⟩ => ?_)
  subst ev eH
  have end_ : ∀ (f : Value), PySem.W.keepIn X.K f = true → ∀ (R : List D → Sto → Prop), wEs T Φ es ρ S (fun ds S1 => ∃ ds', lastStar S1 star ds = some ds' ∧ R ds' S1) Ex →
      (∀ ds S1 H2 vs us s2, R ds S1 → Frm S H1 S1 H2 → At X st W σ H2 ρ S1 Ex → Inv X pins σ H2 s2 → Vals vs us → Reps (lay X st) H2 ds vs → wpAny (model X.prog X.w) X.A (call f ([] ++ us)) (EP X pins σ Q) X.xe s2) →
      wpAny (model X.prog X.w) X.A (callWith pos f [] (backTo pos (starEach as X.env)) []) (EP X pins σ Q) X.xe s1 := fun f hk R hr fin => by
    cases star with
    | true => exact callS (R := R) G hs ha hk I1 z hr fin
    | false =>
      obtain ⟨rfl, hn⟩ := starOk_false hs
      refine callW (first := []) (R := R) G hn ha (keepsK hk) lookK I1 z (wEs_mono G.mono _ _ _ _ _ _ _ (fun ds S1 q => ?_) (fun _ _ w => w) hr) fin
      obtain ⟨ds', g1, g2⟩ := q
      cases g1
      exact g2
  rcases hw with ⟨f, fn, rfl, hf, hw⟩ | ⟨ci, kc, rfl, hc, hw⟩
  · cases g2; cases rv
    refine end_ _ (Z.keep f fn hf) _ hw fun ds S1 H2 vs us s2 q f' a1 I2 r e => ?_
    exact call_val (kw := []) (kds := []) (kvs := []) (kus := []) G Z I2 a1 r e .nil .nil rfl (fun i hi => by cases hi) (wCall_of_kw0 (wCall_mono G.mono (fun d S' w => w.step f') (fun _ _ w => w) q))
  · cases g2; cases rv
    refine end_ _ (Z.keepC ci kc hc) _ hw fun ds S1 H2 vs us s2 q f' a1 I2 r e => ?_
    exact make_val G Z I2 a1 r e (wNew_mono G.mono (fun d S' w => w.step f') (fun _ _ w => w) q)
/-- what the operations' own tables ask of a compiled text -/
def TabOk (T : Tab) : Op → Prop
  | .isi ts => ∀ i, .own i ∈ ts → ∃ kc, T.cl i = some kc
  | .call f _ _ => ∃ fn, T.fs[f]? = some fn
  | .new i _ _ => ∃ kc, T.cl i = some kc
  | _ => True
theorem op_pe (G : Good X st W c T Φ) (Z : World0 X st c T Φ k) {o : Op} {e : Expr} {xs : List Expr} {es : List E} (hp : prt c o e = some xs) (ha : All2 X st W T Φ xs es) (ho : TabOk T o) : PE X e (lE X st W (wE T Φ (.op o es))) := by
  cases o with
  | bin b => exact bin_pe G hp ha
  | neg => exact neg_pe G hp ha
  | cmp k => exact cmp_pe G Z hp ha
  | idx => exact idx_pe G hp ha
  | rev => exact rev_pe G hp ha
  | tup => exact tup_pe G hp ha
  | lst => exact lst_pe G hp ha
  | dct => exact dct_pe G hp ha
  | attr f => exact attr_pe G Z hp ha
  | isi ts => exact isi_pe G Z hp ha ho
  | blt b => exact blt_pe G hp ha
  | call f kw star => exact call_pe G Z hp ha ho
  | new i kw star => exact new_pe G Z hp ha ho
theorem and_pe (G : Good X st W c T Φ) {x : Expr} {y : Expr} {r : List Expr} {p : Pos} {a b : E} (h1 : PE X x (lE X st W (wE T Φ a))) (h2 : PE X (.BoolOp .And (y :: r) p) (lE X st W (wE T Φ b))) : PE X (.BoolOp .And (x :: y :: r) p) (lE X st W (wE T Φ (.and a b))) := by
  refine weak (pe_andT h1 h2) fun σ H Q h => ?_
  obtain ⟨ρ, S, Ex, z, h⟩ := h
  rw [wE] at h
  refine z.e G a h fun d S1 v H1 q f r e => ?_
  obtain ⟨k, h3, h4⟩ := q
  refine ⟨k, truth_ok r e h3, ?_⟩
  cases k with
  | true =>
    rw [if_pos rfl] at h4 ⊢
    exact ⟨ρ, S1, Ex, z.step f r, wE_mono G.mono _ _ _ _ _ _ _ (fun d S' w => w.step f) (fun _ _ w => w) h4⟩
  | false => exact (h4.step f).now r e
theorem or_pe (G : Good X st W c T Φ) {x : Expr} {y : Expr} {r : List Expr} {p : Pos} {a b : E} (h1 : PE X x (lE X st W (wE T Φ a))) (h2 : PE X (.BoolOp .Or (y :: r) p) (lE X st W (wE T Φ b))) : PE X (.BoolOp .Or (x :: y :: r) p) (lE X st W (wE T Φ (.or a b))) := by
  refine weak (pe_orT h1 h2) fun σ H Q h => ?_
  obtain ⟨ρ, S, Ex, z, h⟩ := h
  rw [wE] at h
  refine z.e G a h fun d S1 v H1 q f r e => ?_
  obtain ⟨k, h3, h4⟩ := q
  refine ⟨k, truth_ok r e h3, ?_⟩
  cases k with
  | true => exact (h4.step f).now r e
  | false =>
    rw [if_neg Bool.false_ne_true] at h4 ⊢
    exact ⟨ρ, S1, Ex, z.step f r, wE_mono G.mono _ _ _ _ _ _ _ (fun d S' w => w.step f) (fun _ _ w => w) h4⟩
theorem not_pe (G : Good X st W c T Φ) {x : Expr} {p : Pos} {a : E} (h1 : PE X x (lE X st W (wE T Φ a))) : PE X (.UnaryOp .Not x p) (lE X st W (wE T Φ (.not a))) := by
  refine weak (pe_notT h1) fun σ H Q h => ?_
  obtain ⟨ρ, S, Ex, z, h⟩ := h
  rw [wE] at h
  refine z.e G a h fun d S1 v H1 q f r e => ?_
  obtain ⟨k, h3, h4⟩ := q
  exact ⟨k, truth_ok r e h3, (h4.step f).now r .bl⟩
theorem ite_pe (G : Good X st W c T Φ) {t' a' b' : Expr} {p : Pos} {t a b : E} (h1 : PT X t' (lT X st W (wE T Φ t))) (h2 : PE X a' (lE X st W (wE T Φ a))) (h3 : PE X b' (lE X st W (wE T Φ b))) : PE X (.IfExp t' a' b' p) (lE X st W (wE T Φ (.ite t a b))) := by
  refine weak (pe_ifExp h1 h2 h3) fun σ H Q h => ?_
  obtain ⟨ρ, S, Ex, z, h⟩ := h
  rw [wE] at h
  refine z.seqT (w := wE T Φ t) (fun Q Q' => At.mono G t Q Q') h fun k S1 H1 q f r => ?_
  cases k with
  | true =>
    rw [if_pos rfl] at q ⊢
    exact ⟨ρ, S1, Ex, z.step f r, wE_mono G.mono _ _ _ _ _ _ _ (fun d S' w => w.step f) (fun _ _ w => w) q⟩
  | false =>
    rw [if_neg Bool.false_ne_true] at q ⊢
    exact ⟨ρ, S1, Ex, z.step f r, wE_mono G.mono _ _ _ _ _ _ _ (fun d S' w => w.step f) (fun _ _ w => w) q⟩
/-- a op1 b op2 c -/
theorem chain_rd (G : Good X st W c T Φ) {o1 o2 : Cmp} {a b d : E} {σ : L2.St} {H : Hp} {Q : VK} (h : lE X st W (wE T Φ (.chn o1 o2 a b d)) σ H Q) :
    tChain (r2 X st fun x y S Q => wCmp o1 x y S Q ∨ ownEq T Φ o1 x y S Q) (r2 X st fun x y S Q => wCmp o2 x y S Q ∨ ownEq T Φ o2 x y S Q) (lE X st W (wE T Φ a)) (lE X st W (wE T Φ b)) (lE X st W (wE T Φ d)) σ H Q := by
  obtain ⟨ρ, S, Ex, z, h⟩ := h
  rw [wE] at h
  refine z.e G a h fun dx S1 vx H1 q f r e => ?_
  have z1 := z.step f r
  refine z1.e G b q fun dy S2 vy H2 q2 f2 r2' e2 => ?_
  have z2 := z1.step f2 r2'
  refine ⟨dx, dy, S2, r2', e.ext (f2.ext r), e2, ?_⟩
  have q2 : wO T Φ (.cmp o1) [dx, dy] S2 (fun v S3 => ∃ k, v = .bl k ∧ if k = true then wE T Φ d ρ S3 (fun zz S4 => wO T Φ (.cmp o2) [dy, zz] S4 (post (lay X st) S H Q) Ex) Ex else post (lay X st) S H Q (.bl false) S3) Ex := q2
  refine (wO_mono (T := T) (o := .cmp o1) (ds := [dx, dy]) (Ex := Ex) (Ex' := Ex) G.mono (fun v S3 hv => ?_) (fun _ _ w => w) q2 : wO T Φ (.cmp o1) [dx, dy] S2 _ Ex)
  intro vz H3 f3 r3 e3
  obtain ⟨k, rfl, q4⟩ := hv
  cases e3
  refine ⟨k, rfl, ?_⟩
  have fr := (f.trans f2).trans f3
  cases k with
  | true =>
    rw [if_pos rfl] at q4 ⊢
    refine (z2.step f3 r3).e G d q4 fun dz S4 vz H4 q5 f4 r4 e4 => ?_
    refine ⟨dy, dz, S4, r4, e2.ext ((f3.trans f4).ext r2'), e4, ?_⟩
    exact wO_mono (T := T) (o := .cmp o2) (ds := [dy, dz]) (Ex := Ex) (Ex' := Ex) G.mono (fun d S' w => w.step (fr.trans f4)) (fun _ _ w => w) q5
  | false =>
    rw [if_neg Bool.false_ne_true] at q4 ⊢
    exact (q4.step fr).now r3 .bl
theorem marks_of {p q : CmpOp} {y z : Expr} (h : noSet z = true) : lastMarks [p, q] [y, z] = false := by
  show behindInMarks q z = false
  exact nomark_of h
theorem chn_pe (G : Good X st W c T Φ) (Z : World0 X st c T Φ k) {o1 o2 : Cmp} {x y z' : Expr} {p q : CmpOp} {pos : Pos} {a b d : E} (hp : isC o1 p = true) (hq : isC o2 q = true) (hz : noSet z' = true) (h1 : PE X x (lE X st W (wE T Φ a))) (h2 : PE X y (lE X st W (wE T Φ b))) (h3 : PE X z' (lE X st W (wE T Φ d))) :
    PE X (.Compare x [p, q] [y, z'] pos) (lE X st W (wE T Φ (.chn o1 o2 a b d))) := by
  rw [isC_ok hp, isC_ok hq]
  exact weak (pe_chain (cmp_any G Z _) (cmp_any G Z _) h1 h2 h3 (marks_of hz)) fun σ H Q h => chain_rd G h
end
end PD
set_option Elab.async false
set_option linter.all false
set_option maxRecDepth 100000
set_option maxHeartbeats 1000000
/-! PD: what is compiled is what is run: expressions, targets. -/
namespace PD
open PySem PySem.Spec PyProof.Rows L2
/-- as a test: and, or whatever their whole is -/
def PTW (X : Cx) (x : Expr) (t : TT) : Prop := match x with
  | .BoolOp .. => PW X x t
  | _ => PT X x t
theorem PTW.pt {X : Cx} {x : Expr} {t : TT} (h : PTW X x t) : PT X x t := by
  cases x <;> first | exact h | exact PW.pt h
def isBO : Expr → Bool
  | .BoolOp .. => true
  | _ => false
theorem PTW.of {X : Cx} {x : Expr} {t : TT} (h : PT X x t) (hb : isBO x = false) : PTW X x t := by
  cases x <;> first | exact h | cases hb
theorem PTW.pw {X : Cx} {op : BoolOp} {es : List Expr} {p : Pos} {t : TT} (h : PTW X (.BoolOp op es p) t) : PW X (.BoolOp op es p) t := h
section
variable {X : Cx} {st : Stat} {W : L2.WX} {c : Cc} {T : Tab} {Φ : Phi} {k : Nat} {pins : List (Addr × Obj)} {σ : L2.St} {H H1 : Hp} {s : Shared} {S : Sto} {Ex : PD.WX} {Q : VK} {ρ : Rho} {L : Lay}
theorem weakW {x : Expr} {t t' : TT} (h : PW X x t) (w : ∀ σ H Q, t' σ H Q → t σ H Q) : PW X x t' := ⟨fun wh pins s σ H Q I q => h.run wh pins s σ H Q I (w σ H Q q)⟩
/-- by the truth of its value -/
theorem truth_pt (G : Good X st W c T Φ) {x : Expr} {e : E} (h : PE X x (lE X st W (wE T Φ e))) (hx : ∀ whole, isTrue x X.env whole = (do let v ← whole; standAt x.pos; holding [v] (truthy v))) : PT X x (lT X st W (wE T Φ e)) := by
  refine weakT (pt_truth h hx) fun σ H Q h => ?_
  obtain ⟨ρ, S, Ex, z, h⟩ := h
  refine z.e G e h fun d S1 v H1 q f r e => ?_
  obtain ⟨b, h1, h2⟩ := q
  exact ⟨b, truth_ok r e h1, h2 H1 f r⟩
theorem wCmp_bool {o : Cmp} {x y : D} {R : WD} (q : wCmp o x y S R) : wCmp o x y S (fun d S' => (∃ b, d = .bl b) ∧ R d S') := by
  cases o
  case eq => obtain ⟨b, h1, h3⟩ := q; exact ⟨b, h1, ⟨_, rfl⟩, h3⟩
  case ne => obtain ⟨b, h1, h3⟩ := q; exact ⟨b, h1, ⟨_, rfl⟩, h3⟩
  case le => obtain ⟨i, j, e1, e2, h3⟩ := q; exact ⟨i, j, e1, e2, ⟨_, rfl⟩, h3⟩
  case gt => obtain ⟨i, j, e1, e2, h3⟩ := q; exact ⟨i, j, e1, e2, ⟨_, rfl⟩, h3⟩
  case ge => obtain ⟨i, j, e1, e2, h3⟩ := q; exact ⟨i, j, e1, e2, ⟨_, rfl⟩, h3⟩
  case lt =>
    unfold wCmp at q ⊢
    simp only at q ⊢
    split at q
    · exact ⟨⟨_, rfl⟩, q⟩
    · exact ⟨⟨_, rfl⟩, q⟩
    · obtain ⟨kx, ky, b, g1, g2, g3, g4, h3⟩ := q; exact ⟨kx, ky, b, g1, g2, g3, g4, ⟨_, rfl⟩, h3⟩
    · exact q
  case is =>
    rcases q with ⟨e, h3⟩ | ⟨a, b, e1, e2, h3⟩
    · exact .inl ⟨e, ⟨_, rfl⟩, h3⟩
    · exact .inr ⟨a, b, e1, e2, ⟨_, rfl⟩, h3⟩
  case isnot =>
    rcases q with ⟨e, h3⟩ | ⟨a, b, e1, e2, h3⟩
    · exact .inl ⟨e, ⟨_, rfl⟩, h3⟩
    · exact .inr ⟨a, b, e1, e2, ⟨_, rfl⟩, h3⟩
  case isin =>
    rcases q with ⟨i, j, e1, e2, h3⟩ | ⟨kvs, g1, g2, h3⟩ | ⟨xs, b, g1, g2, h3⟩
    · exact .inl ⟨i, j, e1, e2, ⟨_, rfl⟩, h3⟩
    · exact .inr (.inl ⟨kvs, g1, g2, ⟨_, rfl⟩, h3⟩)
    · exact .inr (.inr ⟨xs, b, g1, g2, ⟨_, rfl⟩, h3⟩)
  case notin =>
    rcases q with ⟨i, j, e1, e2, h3⟩ | ⟨kvs, g1, g2, h3⟩ | ⟨xs, b, g1, g2, h3⟩
    · exact .inl ⟨i, j, e1, e2, ⟨_, rfl⟩, h3⟩
    · exact .inr (.inl ⟨kvs, g1, g2, ⟨_, rfl⟩, h3⟩)
    · exact .inr (.inr ⟨xs, b, g1, g2, ⟨_, rfl⟩, h3⟩)
theorem chn_bool (hΦ : PhiMono Φ) {o1 o2 : Cmp} {a b d : E} {R : WD} (h : wE T Φ (.chn o1 o2 a b d) ρ S R Ex) : wE T Φ (.chn o1 o2 a b d) ρ S (fun d S' => (∃ b, d = .bl b) ∧ R d S') Ex := by
  rw [wE] at h ⊢
  refine wE_mono hΦ a _ _ _ _ _ _ (fun x S1 q => wE_mono hΦ b _ _ _ _ _ _ (fun y S2 q => wO_mono hΦ (fun v S3 ⟨k, h1, h2⟩ => ⟨k, h1, ?_⟩) (fun _ _ w => w) q) (fun _ _ w => w) q) (fun _ _ w => w) h
  cases k with
  | true =>
    rw [if_pos rfl] at h2 ⊢
    refine wE_mono hΦ d _ _ _ _ _ _ (fun z S4 q => ?_) (fun _ _ w => w) h2
    exact (show wCmp o2 y z S4 R ∨ ownEq T Φ o2 y z S4 R from q).imp wCmp_bool (ownEq_mono hΦ fun b S q => ⟨⟨b, rfl⟩, q⟩)
  | false => exact ⟨⟨_, rfl⟩, h2⟩
/-- a value that is a bool, as a test -/
theorem test_of {Q : Bool → Hp → Prop} {d : D} {S' : Sto} (h : (∃ b, d = .bl b) ∧ ∃ c, truth S' d = some c ∧ ∀ H', Frm S H S' H' → RS L S' H' → Q c H') : post L S H (fun x H' => ∃ k, x = V.bl k ∧ Q k H') d S' := by
  intro v H' f r e
  obtain ⟨⟨b, rfl⟩, c, h2, h3⟩ := h
  cases h2; cases e
  exact ⟨b, rfl, h3 H' f r⟩
theorem cmp_pt (G : Good X st W c T Φ) (Z : World0 X st c T Φ k) {o : Cmp} {x y : Expr} {op : CmpOp} {pos : Pos} {a b : E} (ho : isC o op = true) (hy : noSet y = true) (h1 : PE X x (lE X st W (wE T Φ a))) (h2 : PE X y (lE X st W (wE T Φ b))) : PT X (.Compare x [op] [y] pos) (lT X st W (wE T Φ (.op (.cmp o) [a, b]))) := by
  rw [isC_ok ho]
  refine weakT (pt_cmpR (cmp_any G Z _) h1 h2 (nomark_of hy)) fun σ H Q h => ?_
  obtain ⟨ρ, S, Ex, z, h⟩ := h
  rw [wE, wEs] at h
  simp only [wEs] at h
  refine two G z h fun dx dy S2 vx vy H2 q f r e1 e2 => ⟨dx, dy, S2, r, e1, e2, ?_⟩
  have q : wCmp o dx dy S2 _ ∨ ownEq T Φ o dx dy S2 _ := q
  exact q.imp (fun q => wCmp_mono (fun d S' hv => (test_of hv).step f) (wCmp_bool q)) (ownEq_mono G.mono fun b S' hv => (test_of ⟨⟨b, rfl⟩, hv⟩).step f)
theorem chn_pt (G : Good X st W c T Φ) (Z : World0 X st c T Φ k) {o1 o2 : Cmp} {x y z' : Expr} {p q : CmpOp} {pos : Pos} {a b d : E} (hp : isC o1 p = true) (hq : isC o2 q = true) (hz : noSet z' = true) (h1 : PE X x (lE X st W (wE T Φ a))) (h2 : PE X y (lE X st W (wE T Φ b))) (h3 : PE X z' (lE X st W (wE T Φ d))) :
    PT X (.Compare x [p, q] [y, z'] pos) (lT X st W (wE T Φ (.chn o1 o2 a b d))) := by
  rw [isC_ok hp, isC_ok hq]
  refine weakT (pt_chain (cmp_any G Z _) (cmp_any G Z _) h1 h2 h3 (marks_of hz)) fun σ H Q h => ?_
  obtain ⟨ρ, S, Ex, z, h⟩ := h
  exact chain_rd G ⟨ρ, S, Ex, z, wE_mono G.mono _ _ _ _ _ _ _ (fun d S' hv => test_of hv) (fun _ _ w => w) (chn_bool G.mono h)⟩
theorem not_pt (G : Good X st W c T Φ) {x : Expr} {p : Pos} {a : E} (h1 : PT X x (lT X st W (wE T Φ a))) : PT X (.UnaryOp .Not x p) (lT X st W (wE T Φ (.not a))) := by
  refine weakT (pt_not h1) fun σ H Q h => ?_
  obtain ⟨ρ, S, Ex, z, h⟩ := h
  rw [wE] at h
  refine ⟨ρ, S, Ex, z, wE_mono G.mono _ _ _ _ _ _ _ (fun d S' ⟨k, e1, c, e2, q⟩ => ⟨k, e1, ?_⟩) (fun _ _ w => w) h⟩
  cases e2
  exact q
theorem and_pt (G : Good X st W c T Φ) {x : Expr} {y : Expr} {r : List Expr} {p : Pos} {a b : E} (h1 : PT X x (lT X st W (wE T Φ a))) (h2 : PW X (.BoolOp .And (y :: r) p) (lT X st W (wE T Φ b))) : PW X (.BoolOp .And (x :: y :: r) p) (lT X st W (wE T Φ (.and a b))) := by
  refine weakW (pw_and h1 h2) fun σ H Q h => ?_
  obtain ⟨ρ, S, Ex, z, h⟩ := h
  rw [wE] at h
  refine ⟨ρ, S, Ex, z, wE_mono G.mono _ _ _ _ _ _ _ (fun d S1 ⟨k, e1, q⟩ => ⟨k, e1, fun H1 f r => ?_⟩) (fun _ _ w => w) h⟩
  cases k with
  | true =>
    rw [if_pos rfl] at q ⊢
    exact ⟨ρ, S1, Ex, z.step f r, wE_mono G.mono _ _ _ _ _ _ _ (fun d S' ⟨c, e, w⟩ => ⟨c, e, fun H' f' r' => w H' (f.trans f') r'⟩) (fun _ _ w => w) q⟩
  | false =>
    rw [if_neg Bool.false_ne_true] at q ⊢
    obtain ⟨c, e2, q⟩ := q
    rw [e1] at e2
    cases e2
    exact q H1 f r
theorem or_pt (G : Good X st W c T Φ) {x : Expr} {y : Expr} {r : List Expr} {p : Pos} {a b : E} (h1 : PT X x (lT X st W (wE T Φ a))) (h2 : PW X (.BoolOp .Or (y :: r) p) (lT X st W (wE T Φ b))) : PW X (.BoolOp .Or (x :: y :: r) p) (lT X st W (wE T Φ (.or a b))) := by
  refine weakW (pw_or h1 h2) fun σ H Q h => ?_
  obtain ⟨ρ, S, Ex, z, h⟩ := h
  rw [wE] at h
  refine ⟨ρ, S, Ex, z, wE_mono G.mono _ _ _ _ _ _ _ (fun d S1 ⟨k, e1, q⟩ => ⟨k, e1, fun H1 f r => ?_⟩) (fun _ _ w => w) h⟩
  cases k with
  | false =>
    rw [if_neg Bool.false_ne_true] at q ⊢
    exact ⟨ρ, S1, Ex, z.step f r, wE_mono G.mono _ _ _ _ _ _ _ (fun d S' ⟨c, e, w⟩ => ⟨c, e, fun H' f' r' => w H' (f.trans f') r'⟩) (fun _ _ w => w) q⟩
  | true =>
    rw [if_pos rfl] at q ⊢
    obtain ⟨c, e2, q⟩ := q
    rw [e1] at e2
    cases e2
    exact q H1 f r
theorem ite_pt (G : Good X st W c T Φ) {t' a' b' : Expr} {p : Pos} {t a b : E} (h1 : PT X t' (lT X st W (wE T Φ t))) (h2 : PT X a' (lT X st W (wE T Φ a))) (h3 : PT X b' (lT X st W (wE T Φ b))) : PT X (.IfExp t' a' b' p) (lT X st W (wE T Φ (.ite t a b))) := by
  refine ⟨fun pins s σ H Q I h => ?_⟩
  obtain ⟨ρ, S, Ex, z, h⟩ := h
  rw [wE] at h
  refine isTrue_IfExp (thn (h1.run pins s σ H _ I (z.seqT (w := wE T Φ t) (fun Q Q' => At.mono G t Q Q') h (P := fun k H1 => ∃ S1, (if k = true then wE T Φ a ρ S1 (fun d S' => ∃ c, truth S' d = some c ∧ ∀ H', Frm S H S' H' → RS (lay X st) S' H' → Q c H') Ex else wE T Φ b ρ S1 (fun d S' => ∃ c, truth S' d = some c ∧ ∀ H', Frm S H S' H' → RS (lay X st) S' H' → Q c H') Ex) ∧ Frm S H S1 H1 ∧ At X st W σ H1 ρ S1 Ex) fun k S1 H1 q f r => ⟨S1, q, f, z.step f r⟩)) fun k s1 ⟨H1, I1, S1, q, f, z1⟩ => ?_)
  cases k with
  | true =>
    rw [if_pos rfl] at q ⊢
    exact h2.run pins s1 σ H1 Q I1 ⟨ρ, S1, Ex, z1, wE_mono G.mono _ _ _ _ _ _ _ (fun d S' ⟨c, e, w⟩ => ⟨c, e, fun H' f' r' => w H' (f.trans f') r'⟩) (fun _ _ w => w) q⟩
  | false =>
    rw [if_neg Bool.false_ne_true] at q ⊢
    exact h3.run pins s1 σ H1 Q I1 ⟨ρ, S1, Ex, z1, wE_mono G.mono _ _ _ _ _ _ _ (fun d S' ⟨c, e, w⟩ => ⟨c, e, fun H' f' r' => w H' (f.trans f') r'⟩) (fun _ _ w => w) q⟩
/-! slices, f-strings -/
def lO (X : Cx) (st : Stat) (W : L2.WX) (T : Tab) (Φ : Phi) (es : List E) : TO := fun σ H Q => ∃ ρ S Ex, At X st W σ H ρ S Ex ∧ wPt T Φ es ρ S (fun o S' => ∀ H', Frm S H S' H' → RS (lay X st) S' H' → Q o H') Ex
theorem weakO {x : Option Expr} {t t' : TO} (h : PO X x t) (w : ∀ σ H Q, t' σ H Q → t σ H Q) : PO X x t' := ⟨fun pins s σ H Q I q => h.run pins s σ H Q I (w σ H Q q)⟩
theorem pt_none_po : PO X none (lO X st W T Φ []) := weakO po_none fun σ H Q h => by
  obtain ⟨ρ, S, Ex, z, h⟩ := h
  rw [wPt] at h
  exact h H .refl z.rs
theorem pt_some_po (G : Good X st W c T Φ) {x : Expr} {e : E} (h : PE X x (lE X st W (wE T Φ e))) : PO X (some x) (lO X st W T Φ [e]) := weakO (po_some h) fun σ H Q h => by
  obtain ⟨ρ, S, Ex, z, h⟩ := h
  rw [wPt] at h
  refine z.e G e h fun d S1 v H1 q f r e => ?_
  obtain ⟨i, rfl, q⟩ := q
  cases e
  exact ⟨i, rfl, q H1 f r⟩
theorem sl_pe (G : Good X st W c T Φ) {x : Expr} {l h : Option Expr} {p1 p2 : Pos} {a : E} {lo hi : List E} (h1 : PE X x (lE X st W (wE T Φ a))) (h2 : PO X l (lO X st W T Φ lo)) (h3 : PO X h (lO X st W T Φ hi)) : PE X (.Subscript x (.Slice l h none p2) p1) (lE X st W (wE T Φ (.sl a lo hi))) := by
  refine weak (pe_slice (sl_ok (st := st)) h1 h2 h3) fun σ H Q hw => ?_
  obtain ⟨ρ, S, Ex, z, hw⟩ := hw
  rw [wE] at hw
  refine z.e G a hw fun d S1 v H1 q f r e => ?_
  have z1 := z.step f r
  refine ⟨ρ, S1, Ex, z1, wPt_mono G.mono lo _ _ _ _ _ _ (fun o S2 q H2 f2 r2 => ?_) (fun _ _ w => w) q⟩
  have z2 := z1.step f2 r2
  refine ⟨ρ, S2, Ex, z2, wPt_mono G.mono hi _ _ _ _ _ _ (fun o2 S3 q H3 f3 r3 => ?_) (fun _ _ w => w) q⟩
  exact ⟨d, S3, r3, e.ext ((f2.trans f3).ext r), wSl_mono (fun d S' w => w.step ((f.trans f2).trans f3)) q⟩
/-- the parts of an f-string -/
def FsOk (X : Cx) (st : Stat) (W : L2.WX) (T : Tab) (Φ : Phi) (ps : List Expr) (es : List E) : Prop := ∃ ts, PJ X ps ts ∧ ∀ (acc : Str) (ρ : Rho) (S : Sto) (Ex : PD.WX) (σ : L2.St) (H : Hp) (R : WD) (P : Str → Hp → Prop), At X st W σ H ρ S Ex → wJ T Φ es acc ρ S R Ex →
  (∀ y S1 H1, R (.str y) S1 → Frm S H S1 H1 → RS (lay X st) S1 H1 → P y H1) → tJs ts acc σ H P
theorem fs_nil : FsOk X st W T Φ [] [] := ⟨[], .nil, fun acc ρ S Ex σ H R P z h k => by
  rw [wJ] at h
  exact k _ _ _ h .refl z.rs⟩
theorem fs_cons {t : TE} {x : Expr} {xs : List Expr} {e : E} {es : List E} (G : Good X st W c T Φ) (h1 : PE X x t) (ht : ∀ σ H (Q : VK), lE X st W (wE T Φ e) σ H (fun v H1 => ∃ d S1 y, Rep (lay X st) H1 d v ∧ RS (lay X st) S1 H1 ∧ fmtOf d = some y ∧ Q (.str y) H1) → t σ H Q) (h2 : FsOk X st W T Φ xs es) : FsOk X st W T Φ (x :: xs) (e :: es) := by
  obtain ⟨ts, h3, h4⟩ := h2
  refine ⟨t :: ts, .cons h1 h3, fun acc ρ S Ex σ H R P z h k => ?_⟩
  rw [wJ] at h
  refine ht σ H _ (z.e G e h fun d S1 v H1 q f r e => ?_)
  obtain ⟨y, e1, e2, q⟩ := q
  refine ⟨d, S1, y, e, r, e1, y, rfl, e2, h4 _ ρ S1 Ex σ H1 R P (z.step f r) q fun y S2 H2 q f2 r2 => k y S2 H2 q (f.trans f2) r2⟩
theorem fs_fmt {e : E} (σ : L2.St) (H : Hp) (Q : VK) (h : lE X st W (wE T Φ e) σ H (fun v H1 => ∃ d S1 y, Rep (lay X st) H1 d v ∧ RS (lay X st) S1 H1 ∧ fmtOf d = some y ∧ Q (.str y) H1)) (hΦ : PhiMono Φ) : tFmt (lE X st W (wE T Φ e)) σ H Q := by
  obtain ⟨ρ, S, Ex, z, h⟩ := h
  refine ⟨ρ, S, Ex, z, wE_mono hΦ _ _ _ _ _ _ _ (fun d S' w v H' f r e => ?_) (fun _ _ w => w) h⟩
  obtain ⟨d', S1, y, r1, _, e1, q⟩ := w v H' f r e
  unfold fmtOf at e1
  split at e1
  · split at e1
    · cases e1; cases r1
      exact .inl ⟨_, rfl, by assumption, q⟩
    · cases e1
  · split at e1
    · cases e1; cases r1
      exact .inr ⟨_, rfl, by assumption, q⟩
    · cases e1
  · cases e1
theorem fs_cst {z : Str} (G : Good X st W c T Φ) (σ : L2.St) (H : Hp) (Q : VK) (h : lE X st W (wE T Φ (.cst (.str z))) σ H (fun v H1 => ∃ d S1 y, Rep (lay X st) H1 d v ∧ RS (lay X st) S1 H1 ∧ fmtOf d = some y ∧ Q (.str y) H1)) : tC (.str z) σ H Q := by
  obtain ⟨ρ, S, Ex, zz, h⟩ := h
  rw [wE] at h
  obtain ⟨d', S1, y, r1, _, e1, q⟩ := h.now zz.rs .str
  cases r1
  have e1 : (if z.length ≤ sizeLine then some z else none) = some y := e1
  split at e1
  · cases e1; exact q
  · cases e1
theorem fstr_pe (G : Good X st W c T Φ) {ps : List Expr} {pos : Pos} {es : List E} (hl : 2 ≤ ps.length) (h : FsOk X st W T Φ ps es) : PE X (.JoinedStr ps pos) (lE X st W (wE T Φ (.fstr es))) := by
  obtain ⟨ts, h1, h2⟩ := h
  match ps, hl, h1 with
  | p1 :: p2 :: rest, hl, h1 =>
    refine weak (pe_joined h1) fun σ H Q hw => ?_
    obtain ⟨ρ, S, Ex, z, hw⟩ := hw
    rw [wE] at hw
    exact h2 _ ρ S Ex σ H _ _ z hw fun y S1 H1 q f r => q (.str y) H1 f r .str
end
end PD
set_option Elab.async false
set_option linter.all false
set_option maxRecDepth 100000
set_option maxHeartbeats 2000000
/-! PD: what is compiled is what is run: the whole of it. -/
namespace PD
open PySem PySem.Spec PyProof.Rows L2
section
variable {st : Stat} {T : Tab} {Φ : Phi} {k : Nat}
theorem tab_of {c : Cc} {o : Op} (h : tabOk T o = true) : TabOk T o := by
  cases o with
  | isi ts =>
    intro i hi
    have := List.all_eq_true.mp h (.own i) hi
    exact Option.isSome_iff_exists.mp this
  | call f _ _ => exact Option.isSome_iff_exists.mp h
  | new i _ _ => exact Option.isSome_iff_exists.mp h
  | _ => trivial
theorem blk_own {X : Cx} {W : L2.WX} {c : Cc} : True := trivial
/-- expressions: as values, as tests -/
structure SE (st : Stat) (T : Tab) (Φ : Phi) (k : Nat) (e : E) : Prop where
  pe : ∀ {X : Cx} {W : L2.WX} {c : Cc} {x : Expr}, Good X st W c T Φ → World0 X st c T Φ k → cE c e x = true → PE X x (lE X st W (wE T Φ e))
  pt : ∀ {X : Cx} {W : L2.WX} {c : Cc} {x : Expr}, Good X st W c T Φ → World0 X st c T Φ k → cE c e x = true → PTW X x (lT X st W (wE T Φ e))
def plainE : Expr → Bool
  | .UnaryOp .Not _ _ => false
  | .BoolOp .. => false
  | .IfExp .. => false
  | .Compare .. => false
  | _ => true
/-- a test by the truth of the value -/
theorem SE.of {e : E} (h : ∀ {X : Cx} {W : L2.WX} {c : Cc} {x : Expr}, Good X st W c T Φ → World0 X st c T Φ k → cE c e x = true → PE X x (lE X st W (wE T Φ e)))
    (hx : ∀ {c : Cc} {x : Expr}, cE c e x = true → plainE x = true) : SE st T Φ k e := by
  refine ⟨h, fun {X W c x} G Z hc => ?_⟩
  have hb := hx hc
  refine PTW.of (truth_pt G (h G Z hc) (truthy_of hb)) ?_
  cases x <;> first | rfl | cases hb
structure SEs (st : Stat) (T : Tab) (Φ : Phi) (k : Nat) (es : List E) : Prop where
  all : ∀ {X : Cx} {W : L2.WX} {c : Cc} {xs : List Expr}, Good X st W c T Φ → World0 X st c T Φ k → cEs c es xs = true → All2 X st W T Φ xs es
  tst : ∀ {X : Cx} {W : L2.WX} {c : Cc} {xs : List Expr}, Good X st W c T Φ → World0 X st c T Φ k → cEs c es xs = true → ∀ x e, xs = [x] → es = [e] → PT X x (lT X st W (wE T Φ e))
  part : ∀ {X : Cx} {W : L2.WX} {c : Cc} {x : Option Expr}, Good X st W c T Φ → World0 X st c T Φ k → cPt c es x = true → PO X x (lO X st W T Φ es)
  fs : ∀ {X : Cx} {W : L2.WX} {c : Cc} {xs : List Expr}, Good X st W c T Φ → World0 X st c T Φ k → cFs c es xs = true → FsOk X st W T Φ xs es
theorem SEs.nil : SEs st T Φ k [] := by
  refine ⟨fun {X W c xs} G Z h => ?_, fun _ _ _ x e _ h => (by cases h), fun {X W c x} G Z h => ?_, fun {X W c xs} G Z h => ?_⟩
  · cases xs with
    | nil => exact True.intro
    | cons _ _ => rw [cEs] at h <;> first | cases h | simp
  · cases x with
    | none => exact pt_none_po
    | some _ => rw [cPt] at h <;> first | cases h | simp
  · cases xs with
    | nil => exact fs_nil
    | cons _ _ => rw [cFs] at h <;> first | cases h | simp
theorem SEs.cons {e : E} {es : List E} (h1 : SE st T Φ k e) (h2 : SEs st T Φ k es) : SEs st T Φ k (e :: es) := by
  refine ⟨fun {X W c xs} G Z h => ?_, fun {X W c xs} G Z h x e' hx he => ?_, fun {X W c x} G Z h => ?_, fun {X W c xs} G Z h => ?_⟩
  · cases xs with
    | nil => rw [cEs] at h <;> first | cases h | simp
    | cons x xs =>
      rw [cEs, Bool.and_eq_true] at h
      exact ⟨h1.pe G Z h.1, h2.all G Z h.2⟩
  · cases he
    subst hx
    rw [cEs, Bool.and_eq_true] at h
    exact (h1.pt G Z h.1).pt
  · cases x with
    | none => cases es <;> (rw [cPt] at h <;> first | cases h | simp)
    | some x =>
      cases es with
      | nil =>
        rw [cPt] at h
        exact pt_some_po G (h1.pe G Z h)
      | cons _ _ => rw [cPt] at h <;> first | cases h | simp
  · cases xs with
    | nil => rw [cFs] at h <;> first | cases h | simp
    | cons x xs =>
      rw [cFs, Bool.and_eq_true] at h
      obtain ⟨h3, h4⟩ := h
      unfold fsP at h3
      split at h3
      all_goals (try split at h3)
      all_goals first
        | exact fs_cons G (pe_fmt (h1.pe G Z h3)) (fun σ H Q q => fs_fmt σ H Q q G.mono) (h2.fs G Z h4)
        | (obtain rfl := of_decide_eq_true h3
           exact fs_cons G pe_str (fun σ H Q q => fs_cst G σ H Q q) (h2.fs G Z h4))
        | cases h3
structure SG (st : Stat) (T : Tab) (Φ : Phi) (k : Nat) (g : PD.G) : Prop where
  pg : ∀ {X : Cx} {W : L2.WX} {c : Cc} {x : Expr}, Good X st W c T Φ → World0 X st c T Φ k → cG c g x = true → PG X x (lG X st T Φ g)
structure SGs (st : Stat) (T : Tab) (Φ : Phi) (k : Nat) (gs : List PD.G) : Prop where
  pg : ∀ {X : Cx} {W : L2.WX} {c : Cc} {xs : List Expr}, Good X st W c T Φ → World0 X st c T Φ k → cGs c gs xs = true → PGs X xs (lGs X st T Φ gs) ∧ xs.all noStar = true ∧ xs.length = gs.length
theorem SGs.nil : SGs st T Φ k [] := ⟨fun {X W c xs} G Z h => by
  cases xs with
  | nil => exact ⟨gs_nil, rfl, rfl⟩
  | cons _ _ => rw [cGs] at h <;> first | cases h | simp⟩
theorem SGs.cons {g : PD.G} {gs : List PD.G} (h1 : SG st T Φ k g) (h2 : SGs st T Φ k gs) : SGs st T Φ k (g :: gs) := ⟨fun {X W c xs} G Z h => by
  cases xs with
  | nil => rw [cGs] at h <;> first | cases h | simp
  | cons x xs =>
    rw [cGs, Bool.and_eq_true, Bool.and_eq_true] at h
    obtain ⟨h3, h4, h5⟩ := h
    obtain ⟨q1, q2, q3⟩ := h2.pg G Z h5
    exact ⟨gs_cons G h3 (h1.pg G Z h4) q1, by rw [List.all_cons, h3, q2]; rfl, by simp [q3]⟩⟩
end
end PD
set_option Elab.async false
set_option linter.all false
set_option maxRecDepth 100000
set_option maxHeartbeats 2000000
/-! PD: what is compiled is what is run: the whole of it. -/
namespace PD
open PySem PySem.Spec PyProof.Rows L2
section
variable {st : Stat} {T : Tab} {Φ : Phi} {k : Nat}
theorem SE.cst {d : D} : SE st T Φ k (.cst d) := by
  refine SE.of (fun {X W c x} G Z h => ?_) fun {c x} h => ?_
  · rw [cE] at h; exact cst_pe G h
  · rw [cE] at h
    cases x <;> first | rfl | exact absurd h Bool.false_ne_true
theorem SE.var {i : Nat} : SE st T Φ k (.var i) := by
  refine SE.of (fun {X W c x} G Z h => ?_) fun {c x} h => ?_
  · rw [cE] at h
    unfold ofVar at h
    split at h
    · exact var_pe G h
    · cases h
  · rw [cE] at h
    unfold ofVar at h
    split at h
    · rfl
    · cases h
theorem prt_plain {c : Cc} {o : Op} {x : Expr} {xs : List Expr} (h : prt c o x = some xs) (ho : ∀ k, o ≠ .cmp k) : plainE x = true := by
  cases o
  case bin b => replace h : prBin b x = some xs := h; unfold prBin at h; split at h <;> first | rfl | cases h
  case neg => replace h : prNeg x = some xs := h; unfold prNeg at h; split at h <;> first | rfl | cases h
  case cmp k => exact absurd rfl (ho k)
  case idx => replace h : prIdx x = some xs := h; unfold prIdx at h; split at h <;> first | rfl | cases h
  case rev => replace h : prRev x = some xs := h; unfold prRev at h; split at h <;> first | rfl | cases h
  case tup => replace h : prTup x = some xs := h; unfold prTup at h; split at h <;> first | rfl | cases h
  case lst => replace h : prLst x = some xs := h; unfold prLst at h; split at h <;> first | rfl | cases h
  case dct => replace h : prDct x = some xs := h; unfold prDct at h; split at h <;> first | rfl | cases h
  case attr f => replace h : prAttr c f x = some xs := h; unfold prAttr at h; split at h <;> first | rfl | cases h
  case isi ts => replace h : prIsi c ts x = some xs := h; unfold prIsi at h; split at h <;> first | rfl | cases h
  case blt b => replace h : prBlt c b x = some xs := h; unfold prBlt at h; split at h <;> first | rfl | cases h
  case call f kw s => replace h : prCall c f kw s x = some xs := h; unfold prCall at h; split at h <;> first | rfl | cases h
  case new i kw s => replace h : prNew c i kw s x = some xs := h; unfold prNew at h; split at h <;> first | rfl | cases h
theorem op_cE {c : Cc} {o : Op} {es : List E} {x : Expr} (h : cE c (.op o es) x = true) : tabOk c.tb o = true ∧ ∃ xs, prt c o x = some xs ∧ cEs c es xs = true := by
  rw [cE, Bool.and_eq_true] at h
  refine ⟨h.1, ?_⟩
  have h := h.2
  split at h
  · exact ⟨_, by assumption, h⟩
  · cases h
theorem SE.op {o : Op} {es : List E} (hes : SEs st T Φ k es) : SE st T Φ k (.op o es) := by
  have pe : ∀ {X : Cx} {W : L2.WX} {c : Cc} {x : Expr}, Good X st W c T Φ → World0 X st c T Φ k → cE c (.op o es) x = true → PE X x (lE X st W (wE T Φ (.op o es))) := fun {X W c x} G Z h => by
    obtain ⟨h1, xs, h2, h3⟩ := op_cE h
    exact op_pe G Z h2 (hes.all G Z h3) (tab_of (c := c) (by rw [← G.tb]; exact h1))
  by_cases ho : ∀ k, o ≠ .cmp k
  · refine SE.of pe fun {c x} h => ?_
    obtain ⟨h1, xs, h2, h3⟩ := op_cE h
    exact prt_plain h2 ho
  · refine ⟨pe, fun {X W c x} G Z h => ?_⟩
    obtain ⟨kk, hk⟩ := Classical.not_forall.mp ho
    have hk : o = .cmp kk := Classical.not_not.mp hk
    subst hk
    obtain ⟨h1, xs, h2, h3⟩ := op_cE h
    have ha := hes.all G Z h3
    replace h2 : prCmp kk x = some xs := h2
    unfold prCmp at h2
    split at h2
    · split at h2
      · cases h2
        rename_i hb
        rw [Bool.and_eq_true] at hb
        obtain ⟨a, b, rfl, h4, h5⟩ := all2_two ha
        exact PTW.of (cmp_pt G Z hb.1 hb.2 h4 h5) rfl
      · cases h2
    · cases h2
theorem and_inv {x y z : Expr} (h : ofAnd x = some (y, z)) : ∃ w r p, x = .BoolOp .And (y :: w :: r) p ∧ ((r = [] ∧ z = w) ∨ z = .BoolOp .And (w :: r) p) := by
  unfold ofAnd at h
  split at h
  · cases h
    rename_i w r p
    cases r with
    | nil => exact ⟨_, _, _, rfl, .inl ⟨rfl, rfl⟩⟩
    | cons _ _ => exact ⟨_, _, _, rfl, .inr rfl⟩
  · cases h
theorem or_inv {x y z : Expr} (h : ofOr x = some (y, z)) : ∃ w r p, x = .BoolOp .Or (y :: w :: r) p ∧ ((r = [] ∧ z = w) ∨ z = .BoolOp .Or (w :: r) p) := by
  unfold ofOr at h
  split at h
  · cases h
    rename_i w r p
    cases r with
    | nil => exact ⟨_, _, _, rfl, .inl ⟨rfl, rfl⟩⟩
    | cons _ _ => exact ⟨_, _, _, rfl, .inr rfl⟩
  · cases h
theorem SE.and {a b : E} (ha : SE st T Φ k a) (hb : SE st T Φ k b) : SE st T Φ k (.and a b) := by
  refine ⟨fun {X W c x} G Z h => ?_, fun {X W c x} G Z h => ?_⟩
  · rw [cE] at h
    split at h
    · rename_i y z hi
      rw [Bool.and_eq_true] at h
      obtain ⟨w, r, p, rfl, hz⟩ := and_inv hi
      refine and_pe G (ha.pe G Z h.1) ?_
      rcases hz with ⟨rfl, rfl⟩ | rfl
      · exact pe_one (hb.pe G Z h.2)
      · exact hb.pe G Z h.2
    · cases h
  · rw [cE] at h
    split at h
    · rename_i y z hi
      rw [Bool.and_eq_true] at h
      obtain ⟨w, r, p, rfl, hz⟩ := and_inv hi
      refine and_pt G (ha.pt G Z h.1).pt ?_
      rcases hz with ⟨rfl, rfl⟩ | rfl
      · exact pw_and1 (hb.pt G Z h.2).pt
      · exact (hb.pt G Z h.2).pw
    · cases h
theorem SE.or {a b : E} (ha : SE st T Φ k a) (hb : SE st T Φ k b) : SE st T Φ k (.or a b) := by
  refine ⟨fun {X W c x} G Z h => ?_, fun {X W c x} G Z h => ?_⟩
  · rw [cE] at h
    split at h
    · rename_i y z hi
      rw [Bool.and_eq_true] at h
      obtain ⟨w, r, p, rfl, hz⟩ := or_inv hi
      refine or_pe G (ha.pe G Z h.1) ?_
      rcases hz with ⟨rfl, rfl⟩ | rfl
      · exact pe_one (hb.pe G Z h.2)
      · exact hb.pe G Z h.2
    · cases h
  · rw [cE] at h
    split at h
    · rename_i y z hi
      rw [Bool.and_eq_true] at h
      obtain ⟨w, r, p, rfl, hz⟩ := or_inv hi
      refine or_pt G (ha.pt G Z h.1).pt ?_
      rcases hz with ⟨rfl, rfl⟩ | rfl
      · exact pw_or1 (hb.pt G Z h.2).pt
      · exact (hb.pt G Z h.2).pw
    · cases h
theorem not_inv {x y : Expr} (h : ofNot x = some y) : ∃ p, x = .UnaryOp .Not y p := by
  unfold ofNot at h
  split at h
  · cases h; exact ⟨_, rfl⟩
  · cases h
theorem SE.not {a : E} (ha : SE st T Φ k a) : SE st T Φ k (.not a) := by
  refine ⟨fun {X W c x} G Z h => ?_, fun {X W c x} G Z h => ?_⟩
  · rw [cE] at h
    split at h
    · rename_i y hi
      obtain ⟨p, rfl⟩ := not_inv hi
      exact not_pe G (ha.pe G Z h)
    · cases h
  · rw [cE] at h
    split at h
    · rename_i y hi
      obtain ⟨p, rfl⟩ := not_inv hi
      exact PTW.of (not_pt G (ha.pt G Z h).pt) rfl
    · cases h
theorem ite_inv {x t a b : Expr} (h : ofIte x = some (t, a, b)) : ∃ p, x = .IfExp t a b p := by
  unfold ofIte at h
  split at h
  · cases h; exact ⟨_, rfl⟩
  · cases h
theorem SE.ite {t a b : E} (ht : SE st T Φ k t) (ha : SE st T Φ k a) (hb : SE st T Φ k b) : SE st T Φ k (.ite t a b) := by
  refine ⟨fun {X W c x} G Z h => ?_, fun {X W c x} G Z h => ?_⟩
  · rw [cE] at h
    split at h
    · rename_i hi
      obtain ⟨p, rfl⟩ := ite_inv hi
      simp only [Bool.and_eq_true] at h
      exact ite_pe G (ht.pt G Z h.1).pt (ha.pe G Z h.2.1) (hb.pe G Z h.2.2)
    · cases h
  · rw [cE] at h
    split at h
    · rename_i hi
      obtain ⟨p, rfl⟩ := ite_inv hi
      simp only [Bool.and_eq_true] at h
      exact PTW.of (ite_pt G (ht.pt G Z h.1).pt (ha.pt G Z h.2.1).pt (hb.pt G Z h.2.2).pt) rfl
    · cases h
theorem chn_inv {o1 o2 : Cmp} {x a b d : Expr} (h : ofChn o1 o2 x = some (a, b, d)) : ∃ p q pos, x = .Compare a [p, q] [b, d] pos ∧ isC o1 p = true ∧ isC o2 q = true ∧ noSet d = true := by
  unfold ofChn at h
  split at h
  · split at h
    · cases h
      rename_i hb
      simp only [Bool.and_eq_true] at hb
      exact ⟨_, _, _, rfl, hb.1, hb.2.1, hb.2.2⟩
    · cases h
  · cases h
theorem SE.chn {o1 o2 : Cmp} {a b d : E} (ha : SE st T Φ k a) (hb : SE st T Φ k b) (hd : SE st T Φ k d) : SE st T Φ k (.chn o1 o2 a b d) := by
  refine ⟨fun {X W c x} G Z h => ?_, fun {X W c x} G Z h => ?_⟩
  · rw [cE] at h
    split at h
    · rename_i hi
      obtain ⟨p, q, pos, rfl, h1, h2, h3⟩ := chn_inv hi
      simp only [Bool.and_eq_true] at h
      exact chn_pe G Z h1 h2 h3 (ha.pe G Z h.1) (hb.pe G Z h.2.1) (hd.pe G Z h.2.2)
    · cases h
  · rw [cE] at h
    split at h
    · rename_i hi
      obtain ⟨p, q, pos, rfl, h1, h2, h3⟩ := chn_inv hi
      simp only [Bool.and_eq_true] at h
      exact PTW.of (chn_pt G Z h1 h2 h3 (ha.pe G Z h.1) (hb.pe G Z h.2.1) (hd.pe G Z h.2.2)) rfl
    · cases h
theorem sl_inv {x a : Expr} {l h : Option Expr} (e : ofSl x = some (a, l, h)) : ∃ p q, x = .Subscript a (.Slice l h none p) q := by
  unfold ofSl at e
  split at e
  · cases e; exact ⟨_, _, rfl⟩
  · cases e
theorem SE.sl {a : E} {lo hi : List E} (ha : SE st T Φ k a) (hl : SEs st T Φ k lo) (hh : SEs st T Φ k hi) : SE st T Φ k (.sl a lo hi) := by
  refine SE.of (fun {X W c x} G Z h => ?_) fun {c x} h => ?_
  · rw [cE] at h
    split at h
    · rename_i hi
      obtain ⟨p, q, rfl⟩ := sl_inv hi
      simp only [Bool.and_eq_true] at h
      exact sl_pe G (ha.pe G Z h.1) (hl.part G Z h.2.1) (hh.part G Z h.2.2)
    · cases h
  · rw [cE] at h
    split at h
    · rename_i hi
      obtain ⟨p, q, rfl⟩ := sl_inv hi
      rfl
    · cases h
theorem fs_inv {x : Expr} {ps : List Expr} (e : ofFs x = some ps) : ∃ p, x = .JoinedStr ps p ∧ 2 ≤ ps.length := by
  unfold ofFs at e
  split at e
  · split at e
    · cases e; exact ⟨_, rfl, by assumption⟩
    · cases e
  · cases e
theorem SE.fstr {es : List E} (hes : SEs st T Φ k es) : SE st T Φ k (.fstr es) := by
  refine SE.of (fun {X W c x} G Z h => ?_) fun {c x} h => ?_
  · rw [cE] at h
    split at h
    · rename_i hi
      obtain ⟨p, rfl, hl⟩ := fs_inv hi
      exact fstr_pe G hl (hes.fs G Z h)
    · cases h
  · rw [cE] at h
    split at h
    · rename_i hi
      obtain ⟨p, rfl, hl⟩ := fs_inv hi
      rfl
    · cases h
theorem SE.mth {r : E} {m : Mth} {f : Nat} {kw : List Nat} {star : Bool} {es : List E} (hr : SE st T Φ k r) (hes : SEs st T Φ k es) : SE st T Φ k (.mth r m f kw star es) := by
  refine SE.of (fun {X W c x} G Z h => ?_) fun {c x} h => ?_
  · rw [cE] at h
    split at h
    · rename_i o ys hp
      rw [Bool.and_eq_true] at h
      exact mth_pe G Z hp (hr.pe G Z h.1) (hes.all G Z h.2)
    · cases h
  · rw [cE] at h
    split at h
    · rename_i o ys hp
      unfold prMth at hp
      split at hp
      · rfl
      · cases hp
    · cases h
theorem cv_inv {c : Cc} {i : Nat} {star : Bool} {x : Expr} {xs : List Expr} (e : ofCallv c i star x = some xs) : ∃ n p as pos, x = .Call (.Name n p) as [] pos ∧ varOk c i n = true ∧ starOk star as = some xs := by
  unfold ofCallv at e
  split at e
  · split at e
    · exact ⟨_, _, _, _, rfl, by assumption, e⟩
    · cases e
  · cases e
theorem SE.callv {i : Nat} {star : Bool} {es : List E} (hes : SEs st T Φ k es) : SE st T Φ k (.callv i star es) := by
  refine SE.of (fun {X W c x} G Z h => ?_) fun {c x} h => ?_
  · rw [cE] at h
    split at h
    · rename_i hi
      obtain ⟨n, p, as, pos, rfl, h1, h2⟩ := cv_inv hi
      exact callv_pe G Z h1 h2 (hes.all G Z h)
    · cases h
  · rw [cE] at h
    split at h
    · rename_i hi
      obtain ⟨n, p, as, pos, rfl, h1, h2⟩ := cv_inv hi
      rfl
    · cases h
theorem ofComp_tx {kk : CK} {x : Expr} {es : List Expr} {gs : List Comprehension} {sc : Scope} (h : ofComp kk x = some (es, gs, sc)) : CompTx kk es gs sc x := by
  unfold ofComp at h
  split at h <;> first | (cases h; constructor) | cases h
theorem ifs_of {X : Cx} {c : Cc} {ifs : List E} {fs : List Expr} (h : SEs st T Φ k ifs) (G : Good X st noW c T Φ) (Z : World0 X st c T Φ k) (hc : cEs c ifs fs = true) (hl : fs.length ≤ 1) : PTs X fs (lIfs X st T Φ ifs) := by
  match fs, ifs, h, hc, hl with
  | [], [], h, hc, hl => exact ifs_nil
  | [], _ :: _, h, hc, hl => rw [cEs] at hc <;> first | cases hc | simp
  | [x], [], h, hc, hl => rw [cEs] at hc <;> first | cases hc | simp
  | [x], [e], h, hc, hl => exact ifs_one G.mono (h.tst G Z hc x e rfl rfl)
  | [x], _ :: _ :: _, h, hc, hl =>
    rw [cEs, Bool.and_eq_true] at hc
    have h2 := hc.2
    rw [cEs] at h2 <;> first | cases h2 | simp
  | _ :: _ :: _, _, h, hc, hl => simp at hl
theorem set_fold {X : Cx} {i' : Expr} (hs : noSet i' = true) : ∀ x, foldedSetIterable i' X.env x = pure x := fun x => by cases i' <;> first | rfl | exact absurd hs Bool.false_ne_true
def genI (X : Cx) (st : Stat) (W : L2.WX) (T : Tab) (Φ : Phi) : Gen → TI
  | .mk _ _ ik it _ => lI X st W T Φ ik it
def genI0 (X : Cx) (st : Stat) (W : L2.WX) (T : Tab) (Φ : Phi) : Gen → TI
  | .mk _ _ ik it _ => lI0 X st W T Φ ik it
def genG (X : Cx) (st : Stat) (T : Tab) (Φ : Phi) : Gen → TG
  | .mk _ t _ _ _ => lG X st T Φ t
def genT (X : Cx) (st : Stat) (T : Tab) (Φ : Phi) : Gen → TT
  | .mk _ _ _ _ ifs => lIfs X st T Φ ifs
/-- one clause -/
structure SGn (st : Stat) (T : Tab) (Φ : Phi) (k : Nat) (g : Gen) : Prop where
  pi : ∀ {X : Cx} {W : L2.WX} {c c1 : Cc} {x : Comprehension}, Good X st W c T Φ → World0 X st c T Φ k → cGen c c1 g x = true → PI X x.target x.iter (genI X st W T Φ g)
  pg : ∀ {X : Cx} {c0 c : Cc} {x : Comprehension}, Good X st noW c T Φ → World0 X st c T Φ k → cGen c0 c g x = true → PG X x.target (genG X st T Φ g) ∧ PTs X x.ifs (genT X st T Φ g)
  tx : ∀ {c0 c : Cc} {x : Comprehension}, cGen c0 c g x = true → genNm g ∧ x.is_async = 0 ∧ noSet x.iter = true
theorem SGn.of {vs : List Nat} {t : PD.G} {ik : IK} {it ifs : List E} (ht : SG st T Φ k t) (hit : SEs st T Φ k it) (hif : SEs st T Φ k ifs) : SGn st T Φ k (.mk vs t ik it ifs) := by
  have key : ∀ {c0 c : Cc} {x : Comprehension}, cGen c0 c (.mk vs t ik it ifs) x = true → (noSet x.iter = true ∧ x.is_async = 0 ∧ (gnames t).all vs.contains = true ∧ x.ifs.length ≤ 1) ∧ ∃ xs, isFor ik c0 x.target x.iter = some xs ∧ cEs c0 it xs = true ∧ cG c t x.target = true ∧ cEs c ifs x.ifs = true := fun {c0 c x} h => by
    rw [cGen, Bool.and_eq_true] at h
    obtain ⟨h1, h2⟩ := h
    unfold genC at h1
    simp only [Bool.and_eq_true, decide_eq_true_eq] at h1
    split at h2
    · simp only [Bool.and_eq_true] at h2
      exact ⟨h1, _, by assumption, h2⟩
    · cases h2
  refine ⟨fun {X W c c1 x} G Z h => ?_, fun {X c0 c x} G Z h => ?_, fun {c0 c x} h => ?_⟩
  · obtain ⟨_, xs, h1, h2, _, _⟩ := key h
    exact src_pi G h1 (hit.all G Z h2)
  · obtain ⟨⟨_, _, _, hl⟩, xs, _, _, h3, h4⟩ := key h
    exact ⟨ht.pg G Z h3, ifs_of hif G Z h4 hl⟩
  · obtain ⟨⟨h1, h2, h3, _⟩, _⟩ := key h
    exact ⟨fun i hi => by simpa using List.all_eq_true.mp h3 i hi, h2, h1⟩
structure SGns (st : Stat) (T : Tab) (Φ : Phi) (k : Nat) (gs : List Gen) : Prop where
  all : ∀ g ∈ gs, SGn st T Φ k g
theorem SGns.nil : SGns st T Φ k [] := ⟨fun g m => nomatch m⟩
theorem SGns.cons {g : Gen} {gs : List Gen} (h : SGn st T Φ k g) (t : SGns st T Φ k gs) : SGns st T Φ k (g :: gs) := ⟨fun x m => by
  rcases List.mem_cons.mp m with e | m
  · subst e; exact h
  · exact t.all x m⟩
theorem gens_tx {c0 c : Cc} : ∀ {gs : List Gen} {xs : List Comprehension}, SGns st T Φ k gs → cGens c0 c gs xs = true → (∀ g ∈ gs, genNm g) ∧ ∀ x ∈ xs, x.is_async = 0
  | [], [], _, _ => ⟨fun g m => (nomatch m), fun x m => (nomatch m)⟩
  | [], _ :: _, _, h => by rw [cGens] at h <;> first | cases h | simp
  | _ :: _, [], _, h => by rw [cGens] at h <;> first | cases h | simp
  | g :: gs, x :: xs, hs, h => by
    rw [cGens, Bool.and_eq_true] at h
    obtain ⟨h1, h2, _⟩ := (hs.all g List.mem_cons_self).tx h.1
    obtain ⟨i1, i2⟩ := gens_tx (gs := gs) (xs := xs) ⟨fun g m => hs.all g (List.mem_cons_of_mem _ m)⟩ (Bool.and_eq_true_iff.mp h.2).2
    exact ⟨fun y m => (List.mem_cons.mp m).elim (fun e => e ▸ h1) (i1 y), fun y m => (List.mem_cons.mp m).elim (fun e => e ▸ h2) (i2 y)⟩
theorem head_own (gs : List Gen) : ∀ d ∈ (gs.map (clR X st T Φ)).head?, d.own = headOwn gs := fun d h => by
  cases gs with
  | nil => cases h
  | cons g gs =>
    obtain ⟨vs, t, ik, it, ifs⟩ := g
    cases h
    rfl
/-- the clauses within, in the block's context -/
theorem clso_of {Y : Cx} {c1 : Cc} (hY : lay Y st = lay X st) (G : Good Y st noW c1 T Φ) (Z : World0 Y st c1 T Φ k) (conv : ∀ g σ H R, genI0 X st noW T Φ g σ H R → genI0 Y st noW T Φ g σ H R) (cg : ∀ g, genG Y st T Φ g = genG X st T Φ g) (ct : ∀ g, genT Y st T Φ g = genT X st T Φ g) :
    ∀ {gs : List Gen} {xs : List Comprehension}, SGns st T Φ k gs → ownSub gs = true → gs.all genFree = true → cGens c1 c1 gs xs = true → ClsO Y xs (gs.map (clR X st T Φ))
  | [], [], _, _, _, _ => True.intro
  | [], _ :: _, _, _, _, h => by rw [cGens] at h <;> first | cases h | simp
  | _ :: _, [], _, _, _, h => by rw [cGens] at h <;> first | cases h | simp
  | g :: gs, x :: xs, hs, ho, hfr, h => by
    rw [List.all_cons, Bool.and_eq_true] at hfr
    rw [cGens, Bool.and_eq_true] at h
    rw [ownSub, Bool.and_eq_true] at ho
    have sg := hs.all g List.mem_cons_self
    obtain ⟨h1, h2, h3⟩ := sg.tx h.1
    have p : PI Y x.target x.iter (genI0 Y st noW T Φ g) := by
      have p := sg.pi (X := Y) (W := noW) G Z h.1
      cases g
      exact pi_free G.mono hfr.1 p
    obtain ⟨q1, q2⟩ := sg.pg (X := Y) G Z h.1
    rw [cg] at q1
    rw [ct] at q2
    refine ⟨⟨⟨fun pins s σ H R I h => p.run pins s σ H R I (conv g σ H R ?_)⟩, ?_, ?_, set_fold h3, h2⟩, fun d hd i hi => ?_, clso_of hY G Z conv cg ct ⟨fun g m => hs.all g (List.mem_cons_of_mem _ m)⟩ ho.2 hfr.2 (Bool.and_eq_true_iff.mp h.2).2⟩
    · cases g; exact h
    · cases g; exact q1
    · cases g; exact q2
    · rw [head_own gs d hd] at hi
      have := List.all_eq_true.mp ho.1 i hi
      cases g
      simpa [headOwn, clR] using this
/-- the parts of a comprehension -/
structure CompP (X : Cx) (st : Stat) (W : L2.WX) (c : Cc) (T : Tab) (Φ : Phi) (elt : List E) (vs : List Nat) (t : PD.G) (ik : IK) (it ifs : List E) (gs : List Gen) (es : List Expr) (g0 : Comprehension) (gs' : List Comprehension) (sc : Scope) : Prop where
  asy : ∀ g ∈ g0 :: gs', g.is_async = 0
  hi : PI X g0.target g0.iter (lI X st W T Φ ik it)
  ok : BlkOk X.N X.env.scope sc (vs.map fun v => (c.N.getD v default, v))
  hnm : ∀ g ∈ Gen.mk vs t ik it ifs :: gs, genNm g
  hs : noSet g0.iter = true
  hsub : ∀ d ∈ (gs.map (clR X st T Φ)).head?, ∀ i ∈ d.own, i ∈ vs
  hg : ∀ (s : Shared) (H : Hp) (C : Addr) (cl : List (Str × Addr)) (fp : List Addr), PG (X.blk s H sc (compEnvC sc cl C X.env) fp) g0.target (lG X st T Φ t)
  ht : ∀ (s : Shared) (H : Hp) (C : Addr) (cl : List (Str × Addr)) (fp : List Addr), PTs (X.blk s H sc (compEnvC sc cl C X.env) fp) g0.ifs (lIfs X st T Φ ifs)
  hcs : ∀ (s : Shared) (H : Hp) (C : Addr) (cl : List (Str × Addr)) (fp : List Addr), ClsO (X.blk s H sc (compEnvC sc cl C X.env) fp) gs' (gs.map (clR X st T Φ))
  he : ∀ (s : Shared) (H : Hp) (C : Addr) (cl : List (Str × Addr)) (fp : List Addr), All2 (X.blk s H sc (compEnvC sc cl C X.env) fp) st noW T Φ es elt
theorem comp_parts {X : Cx} {W : L2.WX} {c : Cc} {kk : CK} {elt : List E} {gs0 : List Gen} (hd : SEs st T Φ k elt) (hg : SGns st T Φ k gs0) (G : Good X st W c T Φ) (Z : World0 X st c T Φ k) {x : Expr}
    (h : cE c (.comp kk elt gs0) x = true) : ∃ vs t ik it ifs gs es g0 gs' sc, gs0 = .mk vs t ik it ifs :: gs ∧ CompTx kk es (g0 :: gs') sc x ∧ CompP X st W c T Φ elt vs t ik it ifs gs es g0 gs' sc := by
  rw [cE] at h
  split at h
  · rename_i es cs sc hi
    have tx := ofComp_tx hi
    simp only [Bool.and_eq_true] at h
    obtain ⟨⟨h1, h2, h3⟩, h4, h5⟩ := h
    match gs0, cs, hg, h1, h2, h3, h4, tx with
    | [], _, _, h1, _, _, _, _ => cases h1
    | _ :: _, [], _, _, _, _, h4, _ => rw [cGens] at h4 <;> first | cases h4 | simp
    | .mk vs t ik it ifs :: gs, g0 :: gs', hg, h1, h2, h3, h4, tx =>
      obtain ⟨n1, n2⟩ := gens_tx hg h4
      rw [cGens, Bool.and_eq_true] at h4
      rw [ownSub, Bool.and_eq_true] at h3
      have sg := hg.all _ List.mem_cons_self
      have rest : SGns st T Φ k gs := ⟨fun g m => hg.all g (List.mem_cons_of_mem _ m)⟩
      refine ⟨vs, t, ik, it, ifs, gs, es, g0, gs', sc, rfl, tx, n2, sg.pi G Z h4.1, blkOk_by (by rw [G.N, G.sc]; exact h2), n1, (sg.tx h4.1).2.2, fun d hd i hi => ?_, fun s H C cl fp => ?_, fun s H C cl fp => ?_, fun s H C cl fp => ?_, fun s H C cl fp => ?_⟩
      · rw [head_own gs d hd] at hi
        simpa [headOwn] using List.all_eq_true.mp h3.1 i hi
      · exact (sg.pg (G.blk s H _ cl C fp) (Z.blk s H _ cl C fp) h4.1).1
      · exact (sg.pg (G.blk s H _ cl C fp) (Z.blk s H _ cl C fp) h4.1).2
      · refine clso_of (X := X) (Y := X.blk s H sc (compEnvC sc cl C X.env) fp) rfl (G.blk s H _ cl C fp) (Z.blk s H _ cl C fp) (fun g σ H R h => ?_) (fun g => by cases g; rfl) (fun g => by cases g; rfl) rest h3.2 (Bool.and_eq_true_iff.mp h4.2).1 (Bool.and_eq_true_iff.mp h4.2).2
        cases g
        obtain ⟨ρ, S, Ex, z, h⟩ := h
        exact ⟨ρ, S, Ex, ⟨z.rs, z.re, z.xo⟩, h⟩
      · exact hd.all (G.blk s H _ cl C fp) (Z.blk s H _ cl C fp) h5
  · cases h
theorem tx_plain {kk : CK} {es : List Expr} {gs : List Comprehension} {sc : Scope} {x : Expr} (tx : CompTx kk es gs sc x) : plainE x = true := by cases tx <;> rfl
theorem comp_eval {kk : CK} {es : List Expr} {g0 : Comprehension} {gs : List Comprehension} {sc : Scope} {x : Expr} (tx : CompTx kk es (g0 :: gs) sc x) (ha : g0.is_async = 0) (env : Env) : ∃ pos', eval x env = comprehension x sc env pos' (mkOf kk) false (eval g0.iter env) := by
  obtain ⟨tg, it, ifs, a⟩ := g0
  have ha : a = 0 := ha
  subst ha
  cases tx <;> exact ⟨_, rfl⟩
theorem SE.comp {kk : CK} {elt : List E} {gs0 : List Gen} (hd : SEs st T Φ k elt) (hg : SGns st T Φ k gs0) : SE st T Φ k (.comp kk elt gs0) := by
  refine SE.of (fun {X W c x} G Z h => ?_) fun {c x} h => ?_
  · obtain ⟨vs, t, ik, it, ifs, gs, es, g0, gs', sc, rfl, tx, P⟩ := comp_parts hd hg G Z h
    refine ⟨fun pins s σ H Q I hw => ?_⟩
    obtain ⟨pos', e⟩ := comp_eval tx (P.asy _ List.mem_cons_self) X.env
    rw [e]
    refine comp_exec G tx P.asy I P.hi P.ok P.hg P.ht (set_fold P.hs) (by rw [own_at]; exact P.hsub) P.hcs P.he (by rw [own_at]; exact comp_rd G.mono P.hnm hw) fun D C s' m H' I' q hn f => ⟨m, hn, fun h'' sb => ?_⟩
    obtain ⟨f0, f1, f2, f3, f4, f5⟩ := f
    have I2 := I'.turned (t' := s'.toks) (fun b o hb e => (sb.2 b hb).trans e) f0 f1 f3 f4 f5
    rcases q with q | ⟨d, od, u, e1, e2, q⟩
    · exact ⟨.ref D, H', I2, rfl, q⟩
    · exact ⟨.ref D, _, I2.unlock e1 e2, rfl, q⟩
  · rw [cE] at h
    split at h
    · rename_i hi
      exact tx_plain (ofComp_tx hi)
    · cases h
theorem SG.nm {i : Nat} : SG st T Φ k (.nm i) := ⟨fun {X W c x} G Z h => by
  rw [cG] at h
  unfold gNm at h
  split at h
  · rw [Bool.and_eq_true, decide_eq_true_eq] at h
    exact gnm G h.1 h.2
  · cases h⟩
theorem SG.tup {gs : List PD.G} (hg : SGs st T Φ k gs) : SG st T Φ k (.tup gs) := ⟨fun {X W c x} G Z h => by
  rw [cG] at h
  split at h
  · rename_i es hi
    unfold gTu at hi
    split at hi
    · cases hi
      obtain ⟨h1, h2, h3⟩ := hg.pg G Z h
      exact gtup G h2 h3 h1
    · cases hi
  · cases h⟩
theorem SG.sub {a i : E} (ha : SE st T Φ k a) (hi : SE st T Φ k i) : SG st T Φ k (.sub a i) := ⟨fun {X W c x} G Z h => by
  rw [cG] at h
  split at h
  · rename_i hs
    unfold gSu at hs
    split at hs
    · split at hs
      · cases hs
        rw [Bool.and_eq_true] at h
        exact gsub G (by assumption) (ha.pe G Z h.1) (hi.pe G Z h.2)
      · cases hs
    · cases hs
  · cases h⟩
theorem SG.fld {a : E} {f : Nat} (ha : SE st T Φ k a) : SG st T Φ k (.fld a f) := ⟨fun {X W c x} G Z h => by
  rw [cG] at h
  split at h
  · rename_i hs
    unfold gFl at hs
    split at hs
    · split at hs
      · cases hs
        exact gfld G Z (by assumption) (ha.pe G Z h)
      · cases hs
    · cases hs
  · cases h⟩
theorem SE.never : SE st T Φ k .never := by
  refine ⟨fun {X W c x} G Z _ => ⟨fun pins s σ H Q I h => ?_⟩, fun {X W c x} G Z _ => ?_⟩
  · obtain ⟨ρ, S, Ex, z, h⟩ := h
    rw [wE] at h
    exact h.elim
  · have no : ∀ {σ : L2.St} {H : Hp} {Q : Bool → Hp → Prop}, ¬ lT X st W (wE T Φ .never) σ H Q := fun {σ H Q} ⟨ρ, S, Ex, z, h⟩ => by
      rw [wE] at h
      exact h
    cases x <;> first | exact ⟨fun pins s σ H Q I h => (no h).elim⟩ | exact ⟨fun wh pins s σ H Q I h => (no h).elim⟩
mutual
theorem sE : ∀ e : E, SE st T Φ k e
  | .never => SE.never
  | .cst _ => SE.cst
  | .var _ => SE.var
  | .op _ es => SE.op (sEs es)
  | .and a b => SE.and (sE a) (sE b)
  | .or a b => SE.or (sE a) (sE b)
  | .not a => SE.not (sE a)
  | .ite t a b => SE.ite (sE t) (sE a) (sE b)
  | .chn _ _ a b d => SE.chn (sE a) (sE b) (sE d)
  | .sl a lo hi => SE.sl (sE a) (sEs lo) (sEs hi)
  | .fstr es => SE.fstr (sEs es)
  | .mth r _ _ _ _ es => SE.mth (sE r) (sEs es)
  | .callv _ _ es => SE.callv (sEs es)
  | .comp _ elt gs => SE.comp (sEs elt) (sGns gs)
theorem sEs : ∀ es : List E, SEs st T Φ k es
  | [] => SEs.nil
  | e :: es => SEs.cons (sE e) (sEs es)
theorem sG : ∀ g : PD.G, SG st T Φ k g
  | .nm _ => SG.nm
  | .tup gs => SG.tup (sGs gs)
  | .sub a i => SG.sub (sE a) (sE i)
  | .fld a _ => SG.fld (sE a)
theorem sGs : ∀ gs : List PD.G, SGs st T Φ k gs
  | [] => SGs.nil
  | g :: gs => SGs.cons (sG g) (sGs gs)
theorem sGn : ∀ g : Gen, SGn st T Φ k g
  | .mk _ t _ it ifs => SGn.of (sG t) (sEs it) (sEs ifs)
theorem sGns : ∀ gs : List Gen, SGns st T Φ k gs
  | [] => SGns.nil
  | g :: gs => SGns.cons (sGn g) (sGns gs)
end
end
end PD
set_option Elab.async false
set_option linter.all false
set_option maxRecDepth 100000
set_option maxHeartbeats 2000000
/-! PD: statements. -/
namespace PD
open PySem PySem.Spec PyProof.Rows L2
/-! ### the check -/
def asPure {α : Type} : Sem α → Option α
  | .pure a => some a
  | _ => none
theorem asPure_eq {α : Type} {m : Sem α} {a : α} (h : asPure m = some a) : m = pure a := by
  unfold asPure at h
  split at h
  · cases h; rfl
  · cases h
def envOf (sc : Scope) : Env := { scope := sc, locals := 0, globals := 0, cells := [] }
theorem with_env {t : Option Expr} {v : Expr} {l : Nat} {env env' : Env} (h : env.scope = env'.scope) : swapsWith v t l env = swapsWith v t l env' := by
  unfold swapsWith Env.blockKind Env.kindOf
  rw [h]
theorem sole_env {ts : List Expr} {v : Expr} {l : Nat} {env env' : Env} (h : env.scope = env'.scope) : swapsWithSole ts v l env = swapsWithSole ts v l env' := by
  match ts with
  | [] => rfl
  | [t] => exact with_env h
  | _ :: _ :: _ => rfl
theorem stores_env {ts : List Expr} {v : Expr} {env env' : Env} (h : env.scope = env'.scope) : swappedStores ts v env = swappedStores ts v env' := by
  unfold swappedStores Env.blockKind Env.kindOf
  rw [h]
/-- are the stores as they stand (0), swapped (1), a comprehension's (2)? -/
def swK (c : Cc) (t v : Expr) (l : Nat) : Nat := match asPure (swapsWithSole [t] v l (envOf c.sc)) with
  | some false => (match asPure (swappedStores [t] v (envOf c.sc)) with
    | some none => 0
    | some (some _) => 1
    | none => 3)
  | some true => 2
  | none => 3
/-- two or three plain local names from a tuple of as many -/
def locAt (c : Cc) (i : Nat) (x : Str) : Bool := decide (c.N[i]? = some x) && decide (c.sc.names.lookup x = some .local)
def parOk (c : Cc) (g : G) (t v : Expr) (e : E) : Bool := match g, t, v with
  | .tup [.nm i, .nm j], .Tuple [.Name x _, .Name y _] _ _, .Tuple [a, b] _ _ => locAt c i x && (locAt c j y && (decide (i ≠ j) && (noStar a && (noStar b && (match e with
    | .op .tup [_, _] => decide (asPure (swappedStores [t] v (envOf c.sc)) = some (some [x, y]))
    | _ => false)))))
  | .tup [.nm i, .nm j, .nm l], .Tuple [.Name x _, .Name y _, .Name z _] _ _, .Tuple [a, b, d] _ _ => locAt c i x && (locAt c j y && (locAt c l z && (decide (i ≠ j) && (decide (i ≠ l) && (decide (j ≠ l) && (noStar a && (noStar b && (noStar d && (match e with
    | .op .tup [_, _, _] => decide (asPure (swappedStores [t] v (envOf c.sc)) = some (some [x, y, z]))
    | _ => false)))))))))
  | _, _, _ => false
def isComp : E → Bool
  | .comp _ _ _ => true
  | _ => false
def setOk (c : Cc) (g : G) (t v : Expr) (e : E) : Bool := match g, t with
  | .nm i, .Name x _ => locAt c i x && isComp e
  | _, _ => false
def ofAsg : Stmt → Option (Expr × Expr × Nat)
  | .Assign [t] v p => some (t, v, p.line)
  | _ => none
def ofAug (b : Bin) : Stmt → Option (Str × Expr)
  | .AugAssign (.Name x _) op v _ => if (isB b op && (decide (b = .add) || decide (b = .sub))) = true then some (x, v) else none
  | _ => none
def ofEx : Stmt → Option (Expr × Nat)
  | .Expr e p => some (e, p.line)
  | _ => none
def ofRet : Stmt → Option Expr
  | .Return (some e) _ => some e
  | _ => none
def isRetN : Stmt → Bool
  | .Return none _ => true
  | _ => false
def isBrk : Stmt → Bool
  | .Break _ => true
  | _ => false
def isCont : Stmt → Bool
  | .Continue _ => true
  | _ => false
def isPass : Stmt → Bool
  | .Pass _ => true
  | _ => false
def ofIf : Stmt → Option (Expr × List Stmt × List Stmt)
  | .If t a b _ => some (t, a, b)
  | _ => none
def ofWh : Stmt → Option (Expr × List Stmt)
  | .While t a [] _ => some (t, a)
  | _ => none
def ofFor : Stmt → Option (Expr × Expr × List Stmt)
  | .For t i a [] _ => if noSet i = true then some (t, i, a) else none
  | _ => none
mutual
def cS (c : Cc) : C → Stmt → Bool
  | .asg g e, x => (match ofAsg x with
    | some (t, v, l) => cE c e v && (cG c g t && (match swK c t v l with
      | 0 => true
      | 1 => parOk c g t v e
      | 2 => setOk c g t v e
      | _ => false))
    | none => false)
  | .aug i b e, x => (match ofAug b x with
    | some (n, v) => (decide (c.N[i]? = some n) && stoOk c n) && cE c e v
    | none => false)
  | .ex e, x => (match ofEx x with
    | some (v, l) => decide (asPure (swapsWith v none l (envOf c.sc)) = some false) && cE c e v
    | none => false)
  | .ret e, x => (match ofRet x with
    | some v => cE c e v
    | none => false)
  | .retN, x => isRetN x
  | .ite t a b, x => (match ofIf x with
    | some (t', a', b') => cE c t t' && (cSs c a a' && cSs c b b')
    | none => false)
  | .wh t b, x => (match ofWh x with
    | some (t', b') => cE c t t' && cSs c b b'
    | none => false)
  | .for t ik it b, x => (match ofFor x with
    | some (t', i', b') => (match isFor ik c t' i' with
      | some xs => cEs c it xs && (cG c t t' && cSs c b b')
      | none => false)
    | none => false)
  | .brk, x => isBrk x
  | .cont, x => isCont x
  | .pass, x => isPass x
  | .augF _ _ _ _, _ => false
  | .augS _ _ _ _, _ => false
  | .raise _, _ => false
  | .del _ _, _ => false
  | .never, _ => true
def cSs (c : Cc) : List C → List Stmt → Bool
  | [], [] => true
  | s :: ss, x :: xs => cS c s x && cSs c ss xs
  | _, _ => false
end
/-! ### the readings -/
structure EndsOk (X : Cx) (st : Stat) (W : L2.WX) (S : Sto) (H : Hp) (Z : WEnds) (D : Ends) : Prop where
  nx : ∀ ρ' S' σ' H', Frm S H S' H' → RS (lay X st) S' H' → RE (lay X st) H' ρ' σ' → Z.nx ρ' S' → D.nx σ' H'
  bk : ∀ ρ' S' σ' H', Frm S H S' H' → RS (lay X st) S' H' → RE (lay X st) H' ρ' σ' → Z.bk ρ' S' → D.bk σ' H'
  ct : ∀ ρ' S' σ' H', Frm S H S' H' → RS (lay X st) S' H' → RE (lay X st) H' ρ' σ' → Z.ct ρ' S' → D.ct σ' H'
  rt : ∀ d S' v H', Frm S H S' H' → RS (lay X st) S' H' → Rep (lay X st) H' d v → Z.rt d S' → D.rt v H'
  ex : ∀ x ρ' S' σ' cls d H', Frm S H S' H' → RS (lay X st) S' H' → RE (lay X st) H' ρ' σ' → XRep (lay X st) H' x cls d → Z.ex ρ' x S' → W cls d σ' H'
def lS (X : Cx) (st : Stat) (W : L2.WX) (T : Tab) (Φ : Phi) (s : C) : TS := fun D σ H => ∃ ρ S Z, RS (lay X st) S H ∧ RE (lay X st) H ρ σ ∧ EndsOk X st W S H Z D ∧ wS T Φ s Z ρ S
def lSs (X : Cx) (st : Stat) (W : L2.WX) (T : Tab) (Φ : Phi) (s : List C) : TS := fun D σ H => ∃ ρ S Z, RS (lay X st) S H ∧ RE (lay X st) H ρ σ ∧ EndsOk X st W S H Z D ∧ wSs T Φ s Z ρ S
section
variable {X : Cx} {st : Stat} {W : L2.WX} {c : Cc} {T : Tab} {Φ : Phi} {k : Nat} {pins : List (Addr × Obj)} {σ : L2.St} {H H1 : Hp} {s : Shared} {S S1 : Sto} {Ex : PD.WX} {Q : VK} {ρ : Rho} {L : Lay} {Z : WEnds} {D : Ends}
theorem EndsOk.step (z : EndsOk X st W S H Z D) (f : Frm S H S1 H1) : EndsOk X st W S1 H1 Z D :=
  ⟨fun ρ' S' σ' H' g => z.nx ρ' S' σ' H' (f.trans g), fun ρ' S' σ' H' g => z.bk ρ' S' σ' H' (f.trans g), fun ρ' S' σ' H' g => z.ct ρ' S' σ' H' (f.trans g), fun d S' v H' g => z.rt d S' v H' (f.trans g), fun x ρ' S' σ' cls d H' g => z.ex x ρ' S' σ' cls d H' (f.trans g)⟩
theorem EndsOk.at (z : EndsOk X st W S H Z D) (rs : RS (lay X st) S H) (re : RE (lay X st) H ρ σ) : At X st W σ H ρ S (Z.ex ρ) :=
  ⟨rs, re, fun x S' cls d H' f r e q => z.ex x ρ S' σ cls d H' f r (re.ext (f.ext rs)) e q⟩
theorem weakS {x : Stmt} {t t' : TS} (h : PS X x t) (w : ∀ D σ H, t' D σ H → t D σ H) : PS X x t' := ⟨fun pins s σ H D I q => h.run pins s σ H D I (w D σ H q)⟩
theorem weakSs {x : List Stmt} {t t' : TS} (h : PSs X x t) (w : ∀ D σ H, t' D σ H → t D σ H) : PSs X x t' := ⟨fun pins s σ H D I q => h.run pins s σ H D I (w D σ H q)⟩
theorem ss_nil : PSs X [] (lSs X st W T Φ []) := weakSs pss_nil fun D σ H h => by
  obtain ⟨ρ, S, Z, rs, re, z, h⟩ := h
  rw [wSs] at h
  exact z.nx _ _ _ _ .refl rs re h
theorem ss_cons {x : Stmt} {xs : List Stmt} {s : C} {ss : List C} (h1 : PS X x (lS X st W T Φ s)) (h2 : PSs X xs (lSs X st W T Φ ss)) : PSs X (x :: xs) (lSs X st W T Φ (s :: ss)) := weakSs (pss_cons h1 h2) fun D σ H h => by
  obtain ⟨ρ, S, Z, rs, re, z, h⟩ := h
  rw [wSs] at h
  exact ⟨ρ, S, { Z with nx := fun ρ' S' => wSs T Φ ss Z ρ' S' }, rs, re, ⟨fun ρ' S' σ' H' f r e q => ⟨ρ', S', Z, r, e, z.step f, q⟩, z.bk, z.ct, z.rt, z.ex⟩, h⟩
/-! one statement -/
theorem asg_s (G : Good X st W c T Φ) {t v : Expr} {p : Pos} {g : PD.G} {e : E} (hg : PG X t (lG X st T Φ g)) (he : PE X v (lE X st W (wE T Φ e))) (hs : swapsWithSole [t] v p.line X.env = pure false) (hw : swappedStores [t] v X.env = pure none) (hn : noStar t = true) :
    PS X (.Assign [t] v p) (lS X st W T Φ (.asg g e)) := by
  refine weakS (ps_asg he hg hs hw (by rw [assignEach_cons hn]; rfl)) fun D σ H h => ?_
  obtain ⟨ρ, S, Z, rs, re, z, h⟩ := h
  rw [wS] at h
  refine (z.at rs re).e G e h fun d S1 v H1 q f r rep => ?_
  exact ⟨ρ, S1, d, r, re.ext (f.ext rs), rep, wG_mono G.mono _ _ _ _ _ _ _ _ (fun ρ' S' w σ' H' f' r' re' _ => z.nx _ _ _ _ (f.trans f') r' re' w) (fun _ _ w => w) q⟩
theorem ex_s (G : Good X st W c T Φ) {v : Expr} {p : Pos} {e : E} (he : PE X v (lE X st W (wE T Φ e))) (hs : swapsWith v none p.line X.env = pure false) : PS X (.Expr v p) (lS X st W T Φ (.ex e)) := by
  refine weakS (ps_expr he hs) fun D σ H h => ?_
  obtain ⟨ρ, S, Z, rs, re, z, h⟩ := h
  rw [wS] at h
  exact (z.at rs re).e G e h fun d S1 v H1 q f r rep => z.nx _ _ _ _ f r (re.ext (f.ext rs)) q
theorem ret_s (G : Good X st W c T Φ) {v : Expr} {p : Pos} {e : E} (he : PE X v (lE X st W (wE T Φ e))) : PS X (.Return (some v) p) (lS X st W T Φ (.ret e)) := by
  refine weakS (ps_ret he) fun D σ H h => ?_
  obtain ⟨ρ, S, Z, rs, re, z, h⟩ := h
  rw [wS] at h
  exact (z.at rs re).e G e h fun d S1 v H1 q f r rep => z.rt _ _ _ _ f r rep q
theorem retN_s {p : Pos} : PS X (.Return none p) (lS X st W T Φ .retN) := weakS ps_retN fun D σ H h => by
  obtain ⟨ρ, S, Z, rs, re, z, h⟩ := h
  rw [wS] at h
  exact z.rt _ _ _ _ .refl rs .non h
theorem brk_s {p : Pos} : PS X (.Break p) (lS X st W T Φ .brk) := weakS ps_break fun D σ H h => by
  obtain ⟨ρ, S, Z, rs, re, z, h⟩ := h
  rw [wS] at h
  exact z.bk _ _ _ _ .refl rs re h
theorem cont_s {p : Pos} : PS X (.Continue p) (lS X st W T Φ .cont) := weakS ps_continue fun D σ H h => by
  obtain ⟨ρ, S, Z, rs, re, z, h⟩ := h
  rw [wS] at h
  exact z.ct _ _ _ _ .refl rs re h
theorem pass_s {p : Pos} : PS X (.Pass p) (lS X st W T Φ .pass) := weakS ps_pass fun D σ H h => by
  obtain ⟨ρ, S, Z, rs, re, z, h⟩ := h
  rw [wS] at h
  exact z.nx _ _ _ _ .refl rs re h
theorem ite_s (G : Good X st W c T Φ) {t' : Expr} {a' b' : List Stmt} {p : Pos} {t : E} {a b : List C} (ht : PT X t' (lT X st W (wE T Φ t))) (ha : PSs X a' (lSs X st W T Φ a)) (hb : PSs X b' (lSs X st W T Φ b)) : PS X (.If t' a' b' p) (lS X st W T Φ (.ite t a b)) := by
  refine weakS (ps_if ht ha hb) fun D σ H h => ?_
  obtain ⟨ρ, S, Z, rs, re, z, h⟩ := h
  rw [wS] at h
  refine (z.at rs re).seqT (w := wE T Φ t) (fun Q Q' => At.mono G t Q Q') h fun k S1 H1 q f r => ?_
  cases k with
  | true => rw [if_pos rfl] at q ⊢; exact ⟨ρ, S1, Z, r, re.ext (f.ext rs), z.step f, q⟩
  | false => rw [if_neg Bool.false_ne_true] at q ⊢; exact ⟨ρ, S1, Z, r, re.ext (f.ext rs), z.step f, q⟩
theorem wh_s (G : Good X st W c T Φ) (own : PassesOwn (model X.prog X.w) X.A X.env X.xe) {t' : Expr} {b' : List Stmt} {p : Pos} {t : E} {b : List C} (ht : PT X t' (lT X st W (wE T Φ t))) (hb : PSs X b' (lSs X st W T Φ b)) : PS X (.While t' b' [] p) (lS X st W T Φ (.wh t b)) := by
  refine weakS (ps_while own ht hb) fun D σ H h => ?_
  obtain ⟨ρ, S, Z, rs, re, z, h⟩ := h
  rw [wS] at h
  obtain ⟨Wa, ⟨m0, w0⟩, turn⟩ := h
  refine ⟨fun m σ' H' => ∃ ρ' S', Wa m ρ' S' ∧ RS (lay X st) S' H' ∧ RE (lay X st) H' ρ' σ' ∧ Frm S H S' H', ⟨m0, ρ, S, w0, rs, re, .refl⟩, ?_⟩
  rintro m σ1 H1 ⟨ρ1, S1, w1, rs1, re1, f1⟩
  have z1 := z.step f1
  refine (z1.at rs1 re1).seqT (w := wE T Φ t) (fun Q Q' => At.mono G t Q Q') (turn m ρ1 S1 w1) fun k S2 H2 q f r => ?_
  cases k with
  | true =>
    rw [if_pos rfl] at q ⊢
    refine ⟨fun σ' H' => ∃ m', m' < m ∧ ∃ ρ' S', Wa m' ρ' S' ∧ RS (lay X st) S' H' ∧ RE (lay X st) H' ρ' σ' ∧ Frm S H S' H', fun σ' H' w => w, ρ1, S2, _, r, re1.ext (f.ext rs1), ?_, q⟩
    have z2 := z1.step f
    have nx : ∀ ρ' S' σ' H', Frm S2 H2 S' H' → RS (lay X st) S' H' → RE (lay X st) H' ρ' σ' → (∃ m', m' < m ∧ Wa m' ρ' S') → ∃ m', m' < m ∧ ∃ ρ' S', Wa m' ρ' S' ∧ RS (lay X st) S' H' ∧ RE (lay X st) H' ρ' σ' ∧ Frm S H S' H' :=
      fun ρ' S' σ' H' f' r' re' ⟨m', hm, w⟩ => ⟨m', hm, ρ', S', w, r', re', (f1.trans f).trans f'⟩
    exact ⟨nx, z2.nx, nx, z2.rt, z2.ex⟩
  | false =>
    rw [if_neg Bool.false_ne_true] at q ⊢
    exact z1.nx _ _ _ _ f r (re1.ext (f.ext rs1)) q
/-- what is wanted behind, once something is unlocked -/
def unE (X : Cx) (D : Ends) : Ends where
  nx := fun σ H => D.nx σ H ∨ ∃ d od u, H d = some (.frz od u) ∧ (∀ o w, X.H_0 d ≠ some (.frz o w)) ∧ D.nx σ (upd H d u)
  rt := fun v H => D.rt v H ∨ ∃ d od u, H d = some (.frz od u) ∧ (∀ o w, X.H_0 d ≠ some (.frz o w)) ∧ D.rt v (upd H d u)
  bk := fun σ H => D.bk σ H ∨ ∃ d od u, H d = some (.frz od u) ∧ (∀ o w, X.H_0 d ≠ some (.frz o w)) ∧ D.bk σ (upd H d u)
  ct := fun σ H => D.ct σ H ∨ ∃ d od u, H d = some (.frz od u) ∧ (∀ o w, X.H_0 d ≠ some (.frz o w)) ∧ D.ct σ (upd H d u)
theorem ps_unl {x : Stmt} {t : TS} (h : PS X x t) : PS X x (fun D σ H => t (unE X D) σ H) := by
  refine ⟨fun pins s σ H D I hw => thn (h.run pins s σ H _ I hw) fun f s1 q => ?_⟩
  cases f with
  | next =>
    obtain ⟨σ', H', I2, q | ⟨d, od, u, e, n, q⟩⟩ := q
    · exact ⟨σ', H', I2, q⟩
    · exact ⟨σ', _, I2.unlock e n, q⟩
  | brk =>
    obtain ⟨σ', H', I2, q | ⟨d, od, u, e, n, q⟩⟩ := q
    · exact ⟨σ', H', I2, q⟩
    · exact ⟨σ', _, I2.unlock e n, q⟩
  | cont =>
    obtain ⟨σ', H', I2, q | ⟨d, od, u, e, n, q⟩⟩ := q
    · exact ⟨σ', H', I2, q⟩
    · exact ⟨σ', _, I2.unlock e n, q⟩
  | ret v =>
    obtain ⟨x, σ', H', I2, r, q | ⟨d, od, u, e, n, q⟩⟩ := q
    · exact ⟨x, σ', H', I2, r, q⟩
    · exact ⟨x, σ', _, I2.unlock e n, r, q⟩
theorem for_s (G : Good X st W c T Φ) (own : PassesOwn (model X.prog X.w) X.A X.env X.xe) {t' i' : Expr} {b' : List Stmt} {p : Pos} {t : PD.G} {ik : IK} {it : List E} {b : List C} (hi : PI X t' i' (lI X st W T Φ ik it)) (hg : PG X t' (lG X st T Φ t)) (hb : PSs X b' (lSs X st W T Φ b))
    (hs : noSet i' = true) : PS X (.For t' i' b' [] p) (lS X st W T Φ (.for t ik it b)) := by
  refine weakS (ps_unl (ps_for own G.calm hi hg hb (fun x => by cases i' <;> first | rfl | exact absurd hs Bool.false_ne_true))) fun D σ H h => ?_
  obtain ⟨ρ, S, Z, rs, re, z, h⟩ := h
  rw [wS] at h
  refine ⟨ρ, S, Z.ex ρ, z.at rs re, wEs_mono G.mono _ _ _ _ _ _ _ (fun ds S1 q => wSrc_mono (fun src l S2 q => ?_) q) (fun _ _ w => w) h⟩
  intro J H1 hl f0 rs0 ok
  -- an end, once what is locked is unlocked
  have un : ∀ {α : Type} {S1 : Sto} {H2 : Hp} {Zn : Sto → Prop} {Dn : Hp → Prop}, Frm S H S1 H2 → RS (lay X st) S1 H2 → unlk l Zn S1 → (∀ S' H', Frm S H S' H' → RS (lay X st) S' H' → Ext H2 H' → Zn S' → Dn H') →
      Dn H2 ∨ ∃ d od u, H2 d = some (.frz od u) ∧ (∀ o w, X.H_0 d ≠ some (.frz o w)) ∧ Dn (upd H2 d u) := fun {_ S1 H2 Zn Dn} fr r q k => by
    cases l with
    | none => exact .inl (k _ _ fr r .refl q)
    | some a =>
      obtain ⟨o, ha, q⟩ := q
      obtain ⟨n1, n2⟩ := hl a rfl
      obtain ⟨ob, u, hH, r2, x2⟩ := un_put r ha
      exact .inr ⟨a, ob, u, hH, n1, k _ _ (un_frm fr ha n2) r2 x2 q⟩
  obtain ⟨Wa, ⟨m0, w0⟩, turn⟩ := q
  refine ⟨fun i m σ' H' => ∃ ρ' S', Wa i m ρ' S' ∧ RS (lay X st) S' H' ∧ RE (lay X st) H' ρ' σ' ∧ Frm S2 H1 S' H', ⟨m0, ρ, S2, w0, rs0, re.ext (f0.ext rs), .refl⟩, ?_⟩
  rintro i m σ1 H2 ⟨ρ1, S1, w1, rs1, re1, f1⟩
  have ex1 := f1.ext rs0
  have z1 := z.step (f0.trans f1)
  have tn := turn i m ρ1 S1 w1
  split at tn
  · rename_i hsrc
    exact .inl ⟨ok.stop i S1 H2 rs1 ex1 f1.2 hsrc, un (α := Nat) (f0.trans f1) rs1 tn fun S' H' f r x q => z.nx _ _ _ _ f r (re1.ext x) q⟩
  · rename_i d0 hsrc
    obtain ⟨go, yl⟩ := ok.go i S1 H2 d0 rs1 ex1 f1.2 hsrc
    refine .inr ⟨go, fun σ' H' => ∃ m', m' < m ∧ ∃ ρ' S', Wa (i + 1) m' ρ' S' ∧ RS (lay X st) S' H' ∧ RE (lay X st) H' ρ' σ' ∧ Frm S2 H1 S' H', fun σ' H' w => w, fun x H' hy => ?_⟩
    obtain ⟨rs2, f2, r2⟩ := yl x H' hy
    refine ⟨ρ1, S1, d0, rs2, re1.ext (f2.ext rs1), r2, wG_mono G.mono _ _ _ _ _ _ _ _ (fun ρ' S' q => ?_) (fun _ _ w => w) tn⟩
    intro σ3 H3 f3 rs3 re3 _
    refine ⟨ρ', S', _, rs3, re3, ?_, q⟩
    have z3 := z1.step (f2.trans f3)
    have nx : ∀ ρ'' S'' σ' H', Frm S' H3 S'' H' → RS (lay X st) S'' H' → RE (lay X st) H' ρ'' σ' → (∃ m', m' < m ∧ Wa (i + 1) m' ρ'' S'') → ∃ m', m' < m ∧ ∃ ρ' S', Wa (i + 1) m' ρ' S' ∧ RS (lay X st) S' H' ∧ RE (lay X st) H' ρ' σ' ∧ Frm S2 H1 S' H' :=
      fun ρ' S' σ' H' f' r' re' ⟨m', hm, w⟩ => ⟨m', hm, ρ', S', w, r', re', ((f1.trans f2).trans f3).trans f'⟩
    have fr := ((f0.trans f1).trans f2).trans f3
    exact ⟨nx, fun ρ'' S'' σ' H' f r re' q => un (α := Nat) (fr.trans f) r q fun S4 H4 f4 r4 x4 q => z.nx _ _ _ _ f4 r4 (re'.ext x4) q, nx, fun d S'' v H' f r e q => un (α := Nat) (fr.trans f) r q fun S4 H4 f4 r4 x4 q => z.rt _ _ _ _ f4 r4 (e.ext x4) q, z3.ex⟩
  · exact tn.elim
end
end PD
set_option Elab.async false
set_option linter.all false
set_option maxRecDepth 100000
set_option maxHeartbeats 2000000
/-! PD: statements, all of them. -/
namespace PD
open PySem PySem.Spec PyProof.Rows L2
section
variable {X : Cx} {st : Stat} {W : L2.WX} {c : Cc} {T : Tab} {Φ : Phi} {k : Nat} {pins : List (Addr × Obj)} {σ : L2.St} {H H1 : Hp} {s : Shared} {S S1 : Sto} {Ex : PD.WX} {Q : VK} {ρ : Rho} {L : Lay} {Z : WEnds} {D : Ends}
def ipD (X : Cx) (st : Stat) (b : Bin) : TIp := fun x y H Q => ∃ dx dy S, RS (lay X st) S H ∧ Rep (lay X st) H dx x ∧ Rep (lay X st) H dy y ∧ wAug b dx dy S (post (lay X st) S H Q)
theorem ip_ok {b : Bin} (hb : (decide (b = .add) || decide (b = .sub)) = true) : PIp X (opB b) (ipD X st b) := by
  intro pins s σ H x y v u Q I rx ry ⟨dx, dy, S, rs, hx, hy, h⟩
  cases b <;> first | exact absurd hb Bool.false_ne_true | skip
  · unfold wAug at h
    split at h
    · cases hx; cases hy
      exact ip_add pins s σ H _ _ v u Q I rx ry ⟨_, _, rfl, rfl, h.now rs .int⟩
    · cases hx; cases hy
      exact iop_add_str pins s σ H _ _ v u Q I rx ry ⟨_, _, rfl, rfl, h.1, h.2.now rs .str⟩
    · contradiction
    · exact h.elim
  · unfold wAug at h
    split at h
    · contradiction
    · contradiction
    · cases hx; cases hy
      exact ip_sub pins s σ H _ _ v u Q I rx ry ⟨_, _, rfl, rfl, h.now rs .int⟩
    · exact h.elim
theorem aug_s (G : Good X st W c T Φ) {i : Nat} {n : Str} {b : Bin} {op : Operator} {v : Expr} {p p' : Pos} {e : E} (hi : c.N[i]? = some n) (hn : stoOk c n = true) (ho : isB b op = true) (hb : (decide (b = .add) || decide (b = .sub)) = true) (he : PE X v (lE X st W (wE T Φ e))) :
    PS X (.AugAssign (.Name n p') op v p) (lS X st W T Φ (.aug i b e)) := by
  obtain ⟨h1, h2⟩ := sto_of G hn
  rw [isB_ok ho]
  refine weakS (ps_aug (by rw [G.N]; exact G.nd) (by rw [G.N]; exact hi) h1 he (ip_ok (st := st) hb) h2) fun D σ H h => ?_
  obtain ⟨ρ, S, Z, rs, re, z, h⟩ := h
  rw [wS] at h
  obtain ⟨x, g1, h⟩ := h
  obtain ⟨vx, g2, g3⟩ := re.2 i x g1
  refine ⟨vx, g2, (z.at rs re).e G e h fun d S1 v H1 q f r rep => ?_⟩
  refine ⟨x, d, S1, r, g3.ext (f.ext rs), rep, wAug_mono (fun y S2 q2 => ?_) q⟩
  intro w H2 f2 r2 rep2
  exact z.nx _ _ _ _ (f.trans f2) r2 ((re.ext ((f.trans f2).ext rs)).set i rep2) q2
theorem loc_at (G : Good X st W c T Φ) {i : Nat} {x : Str} (h : locAt c i x = true) : X.N[i]? = some x ∧ X.env.scope.names.lookup x = some .local := by
  unfold locAt at h
  rw [Bool.and_eq_true, decide_eq_true_eq, decide_eq_true_eq] at h
  exact ⟨by rw [G.N]; exact h.1, by rw [G.sc]; exact h.2⟩
theorem par2_s (G : Good X st W c T Φ) {i j : Nat} {x y : Str} {a b : Expr} {px py pt p : Pos} {kt k2 : Nat} {pt2 : Pos} {ea eb : E} (hx : locAt c i x = true) (hy : locAt c j y = true) (hij : i ≠ j) (na : noStar a = true) (nb : noStar b = true)
    (hw : asPure (swappedStores [.Tuple [.Name x px, .Name y py] kt pt] (.Tuple [a, b] k2 pt2) (envOf c.sc)) = some (some [x, y])) (ha : PE X a (lE X st W (wE T Φ ea))) (hb : PE X b (lE X st W (wE T Φ eb))) :
    PS X (.Assign [.Tuple [.Name x px, .Name y py] kt pt] (.Tuple [a, b] k2 pt2) p) (lS X st W T Φ (.asg (.tup [.nm i, .nm j]) (.op .tup [ea, eb]))) := by
  obtain ⟨h1, h2⟩ := loc_at G hx
  obtain ⟨h3, h4⟩ := loc_at G hy
  refine weakS (ps_par G.calm (by rw [G.N]; exact G.nd) h1 h3 hij h2 h4 (pa_cons ha (pa_cons hb pa_nil (star_of nb)) (star_of na)) ((stores_env (show X.env.scope = (envOf c.sc).scope from G.sc)).trans (asPure_eq hw)) rfl) fun D σ H h => ?_
  obtain ⟨ρ, S, Z, rs, re, z, h⟩ := h
  rw [wS, wE, wEs] at h
  simp only [wEs] at h
  refine two G (z.at rs re) h fun dx dy S2 vx vy H2 q f r r1 r2 => ?_
  have q : [dx, dy].length ≤ sizeLine ∧ wG T Φ (.tup [.nm i, .nm j]) (.tup [dx, dy]) ρ S2 Z.nx noX := q
  have q := q.2
  rw [wG] at q
  obtain ⟨xs, e1, _, q⟩ := q
  cases e1
  rw [wGs, wG, wGs, wG, wGs] at q
  exact ⟨vx, vy, rfl, z.nx _ _ _ _ f r (((re.ext (f.ext rs)).set i r1).set j r2) q⟩
theorem par3_s (G : Good X st W c T Φ) {i j l : Nat} {x y w : Str} {a b d : Expr} {px py pw pt p : Pos} {kt k2 : Nat} {pt2 : Pos} {ea eb ed : E} (hx : locAt c i x = true) (hy : locAt c j y = true) (hl : locAt c l w = true) (hij : i ≠ j) (hil : i ≠ l) (hjl : j ≠ l) (na : noStar a = true) (nb : noStar b = true) (nd : noStar d = true)
    (hw : asPure (swappedStores [.Tuple [.Name x px, .Name y py, .Name w pw] kt pt] (.Tuple [a, b, d] k2 pt2) (envOf c.sc)) = some (some [x, y, w])) (ha : PE X a (lE X st W (wE T Φ ea))) (hb : PE X b (lE X st W (wE T Φ eb))) (hd : PE X d (lE X st W (wE T Φ ed))) :
    PS X (.Assign [.Tuple [.Name x px, .Name y py, .Name w pw] kt pt] (.Tuple [a, b, d] k2 pt2) p) (lS X st W T Φ (.asg (.tup [.nm i, .nm j, .nm l]) (.op .tup [ea, eb, ed]))) := by
  obtain ⟨h1, h2⟩ := loc_at G hx
  obtain ⟨h3, h4⟩ := loc_at G hy
  obtain ⟨h5, h6⟩ := loc_at G hl
  refine weakS (ps_par3 G.calm (by rw [G.N]; exact G.nd) h1 h3 h5 hij hil hjl h2 h4 h6 (pa_cons ha (pa_cons hb (pa_cons hd pa_nil (star_of nd)) (star_of nb)) (star_of na)) ((stores_env (show X.env.scope = (envOf c.sc).scope from G.sc)).trans (asPure_eq hw)) rfl) fun D σ H h => ?_
  obtain ⟨ρ, S, Z, rs, re, z, h⟩ := h
  rw [wS, wE, wEs] at h
  simp only [wEs] at h
  refine (z.at rs re).e G ea h fun dx S1 vx H1 q f r r1 => ?_
  have z1 := (z.step f).at r (re.ext (f.ext rs))
  refine two G z1 q fun dy dz S2 vy vz H2 q f2 r' r2 r3 => ?_
  have q : [dx, dy, dz].length ≤ sizeLine ∧ wG T Φ (.tup [.nm i, .nm j, .nm l]) (.tup [dx, dy, dz]) ρ S2 Z.nx noX := q
  have q := q.2
  rw [wG] at q
  obtain ⟨xs, e1, _, q⟩ := q
  cases e1
  rw [wGs, wG, wGs, wG, wGs, wG, wGs] at q
  exact ⟨vx, vy, vz, rfl, z.nx _ _ _ _ (f.trans f2) r' ((((re.ext ((f.trans f2).ext rs)).set i (r1.ext (f2.ext r))).set j r2).set l r3) q⟩
theorem comp_use {kk : CK} {es : List Expr} {g0 : Comprehension} {gs : List Comprehension} {sc : Scope} {x : Expr} (tx : CompTx kk es (g0 :: gs) sc x) (ha : g0.is_async = 0) (env : Env) (use : Value → Sem Unit) :
    ∃ pos', evalThenUse x env use = (do let _ ← comprehension x sc env pos' (mkOf kk) false (eval g0.iter env) (some use)) := by
  obtain ⟨tg, it, ifs, a⟩ := g0
  have ha : a = 0 := ha
  subst ha
  cases tx <;> exact ⟨_, rfl⟩
theorem setc_s (G : Good X st W c T Φ) {i : Nat} {y : Str} {py p : Pos} {kk : CK} {elt : List E} {vs : List Nat} {t : PD.G} {ik : IK} {it ifs : List E} {gs : List Gen} {es : List Expr} {g0 : Comprehension} {gs' : List Comprehension} {sc : Scope} {x : Expr} (tx : CompTx kk es (g0 :: gs') sc x) (P : CompP X st W c T Φ elt vs t ik it ifs gs es g0 gs' sc) (hx : locAt c i y = true)
    (hsw : swapsWith x (some (.Name y py)) p.line X.env = pure true) : PS X (.Assign [.Name y py] x p) (lS X st W T Φ (.asg (.nm i) (.comp kk elt (.mk vs t ik it ifs :: gs)))) := by
  obtain ⟨h1, h2⟩ := loc_at G hx
  refine ⟨fun pins s σ H D I h => ?_⟩
  obtain ⟨ρ, S, Z, rs, re, z, h⟩ := h
  rw [wS] at h
  have hN : X.N.Nodup := by rw [G.N]; exact G.nd
  have hw : lE X st W (wE T Φ (.comp kk elt (.mk vs t ik it ifs :: gs))) σ H (fun v H1 => gName i v σ H1 D.nx) := (z.at rs re).e G _ h fun dv S1 v H1 q f r rep => by
    rw [wG] at q
    exact z.nx _ _ _ _ f r ((re.ext (f.ext rs)).set i rep) q
  rw [exec_Assign_Name_used _ _ _ _ hsw]
  obtain ⟨pos', e⟩ := comp_use tx (P.asy _ List.mem_cons_self) X.env (assign (.Name y py) X.env)
  rw [e]
  refine wpAny_bind (wpAny_standAt (wpAny_bind ?_))
  refine wpAny_bind (thn (comp_exec (use := some (assign (.Name y py) X.env)) (Qf := fun _ s' => SP X pins D .next s') G tx P.asy I P.hi P.ok P.hg P.ht (set_fold P.hs) (by rw [own_at]; exact P.hsub) P.hcs P.he (by rw [own_at]; exact comp_rd G.mono P.hnm hw) fun L C s' m H' I' q hn f => ?_) fun _ s' hq => wpAny_pure (wpAny_pure hq))
  show wpAny _ _ (assign (.Name y py) X.env (.ref L)) _ _ _
  refine wpAny_assign_Name (store_ok2 (v := V.ref L) I' hN h1 (.inl h2) rfl (fun s2 I2 ⟨a, sb, ha⟩ => ?_) (.inr h2))
  obtain ⟨f0, f1, f2, f3, f4, f5⟩ := f
  have haC : C ≠ a := by
    rcases ha with w | w
    · rw [w]; exact f1
    · exact fun e => f4 y a w e.symm
  refine ⟨m, hn.sameBut sb haC, fun h3 sb3 => ?_⟩
  have I3 := I2.turned (t' := s2.toks) (fun b o hb e => (sb3.2 b hb).trans e) f0 f1 f3 f4 f5
  rcases q with q | ⟨d, od, u, e1, e2, q⟩
  · exact ⟨_, H', I3, q⟩
  · exact ⟨_, _, I3.unlock e1 e2, q⟩
end
/-! ### all of them -/
structure SS (st : Stat) (T : Tab) (Φ : Phi) (k : Nat) (s : C) : Prop where
  ps : ∀ {X : Cx} {W : L2.WX} {c : Cc} {x : Stmt}, Good X st W c T Φ → World0 X st c T Φ k → PassesOwn (model X.prog X.w) X.A X.env X.xe → cS c s x = true → PS X x (lS X st W T Φ s)
structure SSs (st : Stat) (T : Tab) (Φ : Phi) (k : Nat) (s : List C) : Prop where
  ps : ∀ {X : Cx} {W : L2.WX} {c : Cc} {x : List Stmt}, Good X st W c T Φ → World0 X st c T Φ k → PassesOwn (model X.prog X.w) X.A X.env X.xe → cSs c s x = true → PSs X x (lSs X st W T Φ s)
section
variable {st : Stat} {T : Tab} {Φ : Phi} {k : Nat}
theorem tgt_ns {c : Cc} {g : PD.G} {t : Expr} (h : cG c g t = true) : noStar t = true := by
  cases g <;> rw [cG] at h
  · unfold gNm at h; split at h <;> first | rfl | cases h
  · split at h
    · rename_i hi; unfold gTu at hi; split at hi <;> first | rfl | cases hi
    · cases h
  · split at h
    · rename_i hi; unfold gSu at hi; split at hi <;> first | rfl | cases hi
    · cases h
  · split at h
    · rename_i hi; unfold gFl at hi; split at hi <;> first | rfl | cases hi
    · cases h
theorem SS.asg {g : PD.G} {e : E} : SS st T Φ k (.asg g e) := ⟨fun {X W c x} G Z own h => by
  rw [cS] at h
  split at h
  · rename_i t v l hi
    unfold ofAsg at hi
    split at hi
    · cases hi
      rename_i p
      rw [Bool.and_eq_true, Bool.and_eq_true] at h
      obtain ⟨h1, h2, h3⟩ := h
      have scE : X.env.scope = (envOf c.sc).scope := G.sc
      have hk : ∀ n, swK c t v p.line = n → (n = 0 → swapsWithSole [t] v p.line X.env = pure false ∧ swappedStores [t] v X.env = pure none) ∧ (n = 2 → swapsWithSole [t] v p.line X.env = pure true) := fun n hn => by
        rw [sole_env scE, stores_env scE]
        unfold swK at hn
        split at hn
        · rename_i e1
          split at hn
          · rename_i e2; exact ⟨fun _ => ⟨asPure_eq e1, asPure_eq e2⟩, fun h => by omega⟩
          · exact ⟨fun h => by omega, fun h => by omega⟩
          · exact ⟨fun h => by omega, fun h => by omega⟩
        · rename_i e1; exact ⟨fun h => by omega, fun _ => asPure_eq e1⟩
        · exact ⟨fun h => by omega, fun h => by omega⟩
      split at h3
      · rename_i hn
        obtain ⟨q1, q2⟩ := (hk _ hn).1 rfl
        exact asg_s G ((sG g).pg G Z h2) ((sE e).pe G Z h1) q1 q2 (tgt_ns h2)
      · -- swapped
        unfold parOk at h3
        split at h3
        · simp only [Bool.and_eq_true, decide_eq_true_eq] at h3
          obtain ⟨g1, g2, g3, g4, g5, g6⟩ := h3
          split at g6
          · rename_i ea eb
            obtain ⟨_, xs, hp, he⟩ := op_cE h1
            have hall := (sEs [ea, eb]).all G Z he
            simp only [prt, prTup] at hp
            split at hp
            · cases hp
              exact par2_s G g1 g2 g3 g4 g5 (of_decide_eq_true g6) hall.1 hall.2.1
            · cases hp
          · cases g6
        · simp only [Bool.and_eq_true, decide_eq_true_eq] at h3
          obtain ⟨g1, g2, g3, g4, g5, g6, g7, g8, g9, g10⟩ := h3
          split at g10
          · rename_i ea eb ed
            obtain ⟨_, xs, hp, he⟩ := op_cE h1
            have hall := (sEs [ea, eb, ed]).all G Z he
            simp only [prt, prTup] at hp
            split at hp
            · cases hp
              exact par3_s G g1 g2 g3 g4 g5 g6 g7 g8 g9 (of_decide_eq_true g10) hall.1 hall.2.1 hall.2.2.1
            · cases hp
          · cases g10
        · cases h3
      · -- a comprehension's
        rename_i hn
        have q1 := (hk _ hn).2 rfl
        unfold setOk at h3
        split at h3
        · rw [Bool.and_eq_true] at h3
          obtain ⟨g1, g2⟩ := h3
          unfold isComp at g2
          split at g2
          · rename_i kk elt gs0
            obtain ⟨vs, t, ik, it, ifs, gs, es, g0, gs', sc', rfl, tx, P⟩ := comp_parts (sEs elt) (sGns gs0) G Z h1
            exact setc_s G tx P g1 q1
          · cases g2
        · cases h3
      · cases h3
    · cases hi
  · cases h⟩
theorem SS.aug {i : Nat} {b : Bin} {e : E} : SS st T Φ k (.aug i b e) := ⟨fun {X W c x} G Z own h => by
  rw [cS] at h
  split at h
  · rename_i hi
    unfold ofAug at hi
    split at hi
    · split at hi
      · cases hi
        rename_i hb
        rw [Bool.and_eq_true] at hb
        rw [Bool.and_eq_true, Bool.and_eq_true, decide_eq_true_eq] at h
        exact aug_s G h.1.1 h.1.2 hb.1 hb.2 ((sE e).pe G Z h.2)
      · cases hi
    · cases hi
  · cases h⟩
theorem SS.ex {e : E} : SS st T Φ k (.ex e) := ⟨fun {X W c x} G Z own h => by
  rw [cS] at h
  split at h
  · rename_i hi
    unfold ofEx at hi
    split at hi
    · cases hi
      rw [Bool.and_eq_true, decide_eq_true_eq] at h
      exact ex_s G ((sE e).pe G Z h.2) ((with_env (show X.env.scope = (envOf c.sc).scope from G.sc)).trans (asPure_eq h.1))
    · cases hi
  · cases h⟩
theorem SS.ret {e : E} : SS st T Φ k (.ret e) := ⟨fun {X W c x} G Z own h => by
  rw [cS] at h
  split at h
  · rename_i hi
    unfold ofRet at hi
    split at hi
    · cases hi
      exact ret_s G ((sE e).pe G Z h)
    · cases hi
  · cases h⟩
theorem SS.retN : SS st T Φ k .retN := ⟨fun {X W c x} G Z own h => by
  rw [cS] at h
  unfold isRetN at h
  split at h
  · exact retN_s
  · cases h⟩
theorem SS.brk : SS st T Φ k .brk := ⟨fun {X W c x} G Z own h => by
  rw [cS] at h
  unfold isBrk at h
  split at h
  · exact brk_s
  · cases h⟩
theorem SS.cont : SS st T Φ k .cont := ⟨fun {X W c x} G Z own h => by
  rw [cS] at h
  unfold isCont at h
  split at h
  · exact cont_s
  · cases h⟩
theorem SS.pass : SS st T Φ k .pass := ⟨fun {X W c x} G Z own h => by
  rw [cS] at h
  unfold isPass at h
  split at h
  · exact pass_s
  · cases h⟩
theorem SS.ite {t : E} {a b : List C} (ha : SSs st T Φ k a) (hb : SSs st T Φ k b) : SS st T Φ k (.ite t a b) := ⟨fun {X W c x} G Z own h => by
  rw [cS] at h
  split at h
  · rename_i hi
    unfold ofIf at hi
    split at hi
    · cases hi
      rw [Bool.and_eq_true, Bool.and_eq_true] at h
      exact ite_s G ((sE t).pt G Z h.1).pt (ha.ps G Z own h.2.1) (hb.ps G Z own h.2.2)
    · cases hi
  · cases h⟩
theorem SS.wh {t : E} {a : List C} (ha : SSs st T Φ k a) : SS st T Φ k (.wh t a) := ⟨fun {X W c x} G Z own h => by
  rw [cS] at h
  split at h
  · rename_i hi
    unfold ofWh at hi
    split at hi
    · cases hi
      rw [Bool.and_eq_true] at h
      exact wh_s G own ((sE t).pt G Z h.1).pt (ha.ps G Z own h.2)
    · cases hi
  · cases h⟩
theorem SS.for {t : PD.G} {ik : IK} {it : List E} {a : List C} (ha : SSs st T Φ k a) : SS st T Φ k (.for t ik it a) := ⟨fun {X W c x} G Z own h => by
  rw [cS] at h
  split at h
  · rename_i hi
    unfold ofFor at hi
    split at hi
    · split at hi
      · cases hi
        rename_i hn
        split at h
        · rename_i hp
          rw [Bool.and_eq_true, Bool.and_eq_true] at h
          exact for_s G own (src_pi G hp ((sEs it).all G Z h.1)) ((sG t).pg G Z h.2.1) (ha.ps G Z own h.2.2) hn
        · cases h
      · cases hi
    · cases hi
  · cases h⟩
theorem SSs.nil : SSs st T Φ k [] := ⟨fun {X W c x} G Z own h => by
  cases x with
  | nil => exact ss_nil
  | cons _ _ => rw [cSs] at h <;> first | cases h | simp⟩
theorem SSs.cons {s : C} {ss : List C} (h1 : SS st T Φ k s) (h2 : SSs st T Φ k ss) : SSs st T Φ k (s :: ss) := ⟨fun {X W c x} G Z own h => by
  cases x with
  | nil => rw [cSs] at h <;> first | cases h | simp
  | cons y ys =>
    rw [cSs, Bool.and_eq_true] at h
    exact ss_cons (h1.ps G Z own h.1) (h2.ps G Z own h.2)⟩
theorem SS.no {s : C} (h : ∀ c x, cS c s x = false) : SS st T Φ k s := ⟨fun {X W c x} G Z own hc => (by rw [h] at hc; cases hc)⟩
theorem SS.never : SS st T Φ k .never := ⟨fun {X W c x} G Z own _ => ⟨fun pins s σ H D I ⟨ρ, S, z, rs, re, eo, h⟩ => by
  rw [wS] at h
  exact h.elim⟩⟩
mutual
theorem sS : ∀ s : C, SS st T Φ k s
  | .never => SS.never
  | .asg _ _ => SS.asg
  | .aug _ _ _ => SS.aug
  | .ex _ => SS.ex
  | .ret _ => SS.ret
  | .retN => SS.retN
  | .ite _ a b => SS.ite (sSs a) (sSs b)
  | .wh _ a => SS.wh (sSs a)
  | .for _ _ _ a => SS.for (sSs a)
  | .brk => SS.brk
  | .cont => SS.cont
  | .pass => SS.pass
  | .augF _ _ _ _ => SS.no fun c x => by rw [cS]
  | .augS _ _ _ _ => SS.no fun c x => by rw [cS]
  | .raise _ => SS.no fun c x => by rw [cS]
  | .del _ _ => SS.no fun c x => by rw [cS]
theorem sSs : ∀ ss : List C, SSs st T Φ k ss
  | [] => SSs.nil
  | s :: ss => SSs.cons (sS s) (sSs ss)
end
end
end PD
set_option Elab.async false
set_option linter.all false
set_option maxRecDepth 100000
set_option maxHeartbeats 2000000
/-! PD: how a def's parameters are bound. -/
namespace PD
open PySem PySem.Spec PyProof.Rows L2
theorem lookup_app {α β : Type} [BEq α] {k : α} : ∀ {l m : List (α × β)}, (l ++ m).lookup k = (l.lookup k).or (m.lookup k)
  | [], m => by simp
  | (a, b) :: l, m => by
    rw [List.cons_append, List.lookup_cons, List.lookup_cons]
    cases k == a with
    | true => rfl
    | false => exact lookup_app
/-- keywords, one after another -/
theorem kw_loop {ns : List Str} {f : Str × Value → List (Str × Value) × List (Str × Value) → Sem (ForInStep (List (Str × Value) × List (Str × Value)))}
    (hf : ∀ x st, ns.contains x.1 = true → st.1.lookup x.1 = none → f x st = pure (.yield (st.1 ++ [(x.1, x.2)], st.2))) :
    ∀ (kw slots e : List (Str × Value)), (∀ x ∈ kw, ns.contains x.1 = true) → (kw.map (·.1)).Nodup → (∀ x ∈ kw, slots.lookup x.1 = none) → forIn kw (slots, e) f = pure (slots ++ kw, e)
  | [], slots, e, _, _, _ => by rw [List.forIn_nil, List.append_nil]
  | x :: kw, slots, e, h1, h2, h3 => by
    rw [List.forIn_cons, hf x (slots, e) (h1 x List.mem_cons_self) (h3 x List.mem_cons_self)]
    rw [List.map_cons, List.nodup_cons] at h2
    have := kw_loop hf kw (slots ++ [(x.1, x.2)]) e (fun y hy => h1 y (List.mem_cons_of_mem _ hy)) h2.2 fun y hy => by
      rw [lookup_app, h3 y (List.mem_cons_of_mem _ hy)]
      show [(x.1, x.2)].lookup y.1 = none
      rw [List.lookup_cons]
      have : (y.1 == x.1) = false := by
        rw [beq_eq_false_iff_ne]
        intro z
        exact h2.1 (z ▸ List.mem_map_of_mem hy)
      rw [this]
      rfl
    show forIn kw (slots ++ [(x.1, x.2)], e) f = _
    rw [this, List.append_assoc]
    rfl
/-- defaults where nothing stands -/
theorem dfl_loop {f : Str × Value → List (Str × Value) → Sem (ForInStep (List (Str × Value)))}
    (hf : ∀ x st, f x st = if (st.lookup x.1).isNone = true then pure (.yield (st ++ [(x.1, x.2)])) else pure (.yield st)) :
    ∀ (l slots : List (Str × Value)), ∃ s', forIn l slots f = pure s' ∧ ∀ k, s'.lookup k = (slots.lookup k).or (l.lookup k)
  | [], slots => ⟨slots, List.forIn_nil .., fun k => by simp⟩
  | x :: l, slots => by
    rw [List.forIn_cons, hf]
    by_cases hs : (slots.lookup x.1).isNone = true
    · rw [if_pos hs]
      obtain ⟨s', h1, h2⟩ := dfl_loop hf l (slots ++ [(x.1, x.2)])
      refine ⟨s', h1, fun k => ?_⟩
      rw [h2, lookup_app, List.lookup_cons, List.lookup_cons]
      cases hk : k == x.1 with
      | true =>
        have : k = x.1 := eq_of_beq hk
        subst this
        rw [Option.isNone_iff_eq_none.mp hs]
        rfl
      | false => simp
    · rw [if_neg hs]
      obtain ⟨s', h1, h2⟩ := dfl_loop hf l slots
      refine ⟨s', h1, fun k => ?_⟩
      rw [h2, List.lookup_cons]
      cases hk : k == x.1 with
      | true =>
        have : k = x.1 := eq_of_beq hk
        subst this
        cases e : slots.lookup x.1 with
        | none => rw [e] at hs; exact absurd rfl hs
        | some v => rfl
      | false => rfl
theorem zip_look {α : Type} : ∀ {ns : List Str} {us : List α} {i : Nat} {n : Str}, ns.Nodup → ns[i]? = some n → (ns.zip us).lookup n = us[i]?
  | [], _, _, _, _, h => by simp at h
  | m :: ns, [], i, n, _, h => by simp
  | m :: ns, u :: us, 0, n, nd, h => by
    simp at h
    subst h
    simp
  | m :: ns, u :: us, i + 1, n, nd, h => by
    rw [List.nodup_cons] at nd
    have hn : ns[i]? = some n := by simpa using h
    have : (n == m) = false := by
      rw [beq_eq_false_iff_ne]
      intro z
      subst z
      exact nd.1 (List.mem_of_getElem? hn)
    rw [List.zip_cons_cons, List.lookup_cons, this]
    simpa using zip_look nd.2 hn
theorem kw_look {α : Type} {ns : List Str} (nd : ns.Nodup) {i : Nat} {n : Str} (hi : ns[i]? = some n) : ∀ {kw : List Nat} {us : List α}, (∀ j ∈ kw, j < ns.length) → ((kw.map fun j => ns.getD j default).zip us).lookup n = (kw.zip us).lookup i
  | [], _, _ => by simp
  | j :: kw, [], _ => by simp
  | j :: kw, u :: us, h => by
    rw [List.map_cons, List.zip_cons_cons, List.zip_cons_cons, List.lookup_cons, List.lookup_cons]
    have hj : j < ns.length := h j List.mem_cons_self
    have e1 : ns.getD j default = ns[j] := by simp [List.getD, hj]
    have e2 : (n == ns.getD j default) = (i == j) := by
      rw [e1]
      by_cases hij : i = j
      · subst hij
        have : ns[i] = n := by simpa [hj] using hi
        rw [this]; simp
      · have : n ≠ ns[j] := fun z => hij (nodup_ix nd hi (by rw [List.getElem?_eq_getElem hj, ← z]))
        rw [beq_eq_false_iff_ne.mpr this, beq_eq_false_iff_ne.mpr hij]
    rw [e2, kw_look nd hi fun j hj => h j (List.mem_cons_of_mem _ hj)]
theorem fmap_zip {s : List (Str × Value)} : ∀ {ns : List Str} {vs : List Value}, vs.length = ns.length → (∀ (i : Nat) n, ns[i]? = some n → s.lookup n = vs[i]?) → (ns.filterMap fun n => (s.lookup n).map fun v => (n, v)) = ns.zip vs
  | [], [], _, _ => rfl
  | n :: ns, v :: vs, hl, h => by
    rw [List.filterMap_cons, h 0 n rfl]
    have := fmap_zip (s := s) (ns := ns) (vs := vs) (by simpa using hl) fun i m hm => by simpa using h (i + 1) m (by simpa using hm)
    simp [this]
  | [], _ :: _, hl, _ => by simp at hl
  | _ :: _, [], hl, _ => by simp at hl
section
variable {prog : Program} {w : World} {A : Around} {E : Value → Shared → Prop} {s : Shared}
/-- posonly none, keyword-only none, no ** -/
theorem bind_val {fd : FuncData} {us : List Value} {kwv : List (Str × Value)} {ns : List Str} {its vs : List Value} {Q : List (Str × Value) → Shared → Prop} (h1 : fd.params.posonlyargs = []) (h2 : fd.params.kwonlyargs = []) (h3 : fd.params.kwarg = none)
    (hns : fd.params.args.map (·.arg) = ns) (nd : ns.Nodup) (hits : its.length ≤ ns.length)
    (hd : ∀ (Q : Option (Array Value) → Shared → Prop), (∀ r, (r.getD #[]).toList = its → Q r s) → wpAny (model prog w) A (seqItems? fd.defaults) Q E s)
    (hk : ∀ x ∈ kwv, x.1 ∈ ns) (hkn : (kwv.map (·.1)).Nodup) (hfr : ∀ x ∈ kwv, (ns.zip us).lookup x.1 = none) (hlen : us.length ≤ ns.length ∨ fd.params.vararg.isSome = true)
    (hvl : vs.length = ns.length) (hv : ∀ (i : Nat) n, ns[i]? = some n → vs[i]? = ((ns.zip us).lookup n).or ((kwv.lookup n).or (((ns.drop (ns.length - its.length)).zip its).lookup n)))
    (hmiss : ∀ (i : Nat) n, i < ns.length - its.length → ns[i]? = some n → (((ns.zip us).lookup n).or (kwv.lookup n)).isSome = true)
    (hq : match fd.params.vararg with
      | none => Q (ns.zip vs) s
      | some a => (us.drop ns.length).length ≤ sizeLine ∧ Q (ns.zip vs ++ [(a.arg, .ref s.heap.objs.size)]) { s with heap := s.heap.push { cls := .type "tuple", data := .seq (us.drop ns.length).toArray } }) :
    wpAny (model prog w) A (bindArgs fd ⟨us, kwv⟩) Q E s := by
  unfold bindArgs
  simp only [h1, h2, h3, List.map_nil, List.nil_append, List.append_nil, hns]
  rw [kw_loop (ns := ns) (fun x st hx hs => by
    simp only [hx, hs, Bool.true_or, if_true, Option.isSome_none, Bool.false_eq_true, if_false]) kwv _ _ (fun x hx => by simpa using hk x hx) hkn hfr]
  refine wpAny_bind (wpAny_pure (wpAny_bind (hd _ fun r hr => ?_)))
  have c1 : (decide (us.length > ns.length) && fd.params.vararg.isNone) = false := by
    rcases hlen with h | h
    · have : ¬ us.length > ns.length := by omega
      simp [this]
    · obtain ⟨a, ha⟩ := Option.isSome_iff_exists.mp h
      simp [ha]
  have c2 : its.length - ns.length = 0 := by omega
  simp only [hr, c1, c2, List.drop_zero, Bool.false_eq_true, if_false]
  have c3 : (List.filter (fun n => (List.lookup n (ns.zip us ++ kwv)).isNone) (List.take (ns.length - its.length) ns)) = [] := by
    rw [List.filter_eq_nil_iff]
    intro n hn
    obtain ⟨i, hi, e⟩ := List.getElem_of_mem hn
    have hi' : i < ns.length - its.length := by
      rw [List.length_take] at hi
      omega
    have e' : ns[i]? = some n := by
      rw [List.getElem_take] at e
      rw [List.getElem?_eq_getElem (by omega), e]
    rw [lookup_app]
    have := hmiss i n hi' e'
    obtain ⟨v, hv⟩ := Option.isSome_iff_exists.mp this
    rw [hv]
    simp
  simp only [c3, List.isEmpty_nil, Bool.not_true, Bool.false_eq_true, if_false]
  obtain ⟨s', e1, e2⟩ := dfl_loop (f := fun x st => if (List.lookup x.fst st).isNone = true then pure (ForInStep.yield (st ++ [(x.fst, x.snd)])) else pure (ForInStep.yield st)) (fun x st => rfl) ((List.drop (ns.length - its.length) ns).zip its) (ns.zip us ++ kwv)
  rw [e1]
  refine wpAny_bind (wpAny_pure ?_)
  rw [List.forIn_nil]
  refine wpAny_bind (wpAny_pure ?_)
  have c4 : (List.filterMap (fun n => Option.map (fun x => (n, x)) (List.lookup n s')) ns) = ns.zip vs := fmap_zip hvl fun i n hn => by
    rw [e2, lookup_app, hv i n hn, Option.or_assoc]
  simp only [List.isEmpty_nil, Bool.not_true, Bool.false_eq_true, if_false, c4]
  cases hvar : fd.params.vararg with
  | none =>
    rw [hvar] at hq
    exact wpAny_pure hq
  | some a =>
    rw [hvar] at hq
    exact wpAny_bind (wpAny_newTuple (wpAny_pure hq.2) hq.1)
end
end PD
set_option Elab.async false
set_option linter.all false
set_option maxRecDepth 100000
set_option maxHeartbeats 2000000
/-! PD: what a def's parameters are, told of data. -/
namespace PD
open PySem PySem.Spec PyProof.Rows L2
section
variable {L : Lay} {H : Hp}
theorem any_look {α : Type} {i : Nat} : ∀ {l : List (Nat × α)}, (l.any fun q => q.1 == i) = false → l.lookup i = none
  | [], _ => rfl
  | (a, b) :: l, h => by
    rw [List.any_cons, Bool.or_eq_false_iff] at h
    rw [List.lookup_cons]
    have : (i == a) = false := by
      rw [beq_eq_false_iff_ne]
      intro z
      subst z
      simp at h
    rw [this]
    exact any_look h.2
theorem kws_rel {kw : List Nat} : ∀ {kds : List D} {kvs : List V} {kus : List Value}, Reps L H kds kvs → Vals kvs kus → kw.length = kds.length → ∀ i, (∀ d, (kw.zip kds).lookup i = some d → ∃ v u, (kw.zip kus).lookup i = some u ∧ RelV v u ∧ Rep L H d v) ∧ ((kw.zip kds).lookup i = none → (kw.zip kus).lookup i = none) := by
  induction kw with
  | nil => intro kds kvs kus r q hl i; exact ⟨fun d h => by simp at h, fun _ => by simp⟩
  | cons k kw ih =>
    intro kds kvs kus r q hl i
    cases r with
    | nil => simp at hl
    | cons r1 r2 =>
      cases q with
      | cons q1 q2 =>
        rw [List.zip_cons_cons, List.zip_cons_cons, List.lookup_cons, List.lookup_cons]
        cases i == k with
        | true => exact ⟨fun d h => by cases h; exact ⟨_, _, rfl, q1, r1⟩, fun h => by cases h⟩
        | false => exact ih r2 q2 (by simpa using hl) i
theorem fill_ok {dfl : List (Option D)} {kd : List (Nat × D)} {ku : List (Nat × Value)} {dU : Nat → Option Value} (hk : ∀ i, (∀ d, kd.lookup i = some d → ∃ v u, ku.lookup i = some u ∧ RelV v u ∧ Rep L H d v) ∧ (kd.lookup i = none → ku.lookup i = none))
    (hd : ∀ i d, (dfl[i]?).join = some d → ∃ v u, dU i = some u ∧ RelV v u ∧ Rep L H d v) :
    ∀ (n : Nat) (ds : List D) (i : Nat) (out : List D), fill dfl kd n ds i = some out → ∀ vs us, Reps L H ds vs → Vals vs us →
      ∃ ov ou, Reps L H out ov ∧ Vals ov ou ∧ out.length = n ∧ (∀ j, j < n → ou[j]? = (us[j]?).or ((ku.lookup (i + j)).or (dU (i + j)))) ∧ (∀ j, j < us.length → ku.lookup (i + j) = none) ∧ us.length ≤ n ∧
        (∀ j, us.length ≤ j → j < n → ku.lookup (i + j) = none → ∃ d, (dfl[i + j]?).join = some d) := by
  intro n
  induction n with
  | zero =>
    intro ds i out h vs us r q
    cases ds with
    | nil =>
      cases h; cases r; cases q
      exact ⟨[], [], .nil, .nil, rfl, fun j hj => by omega, fun j hj => by simp at hj, Nat.le_refl _, fun j _ hj => by omega⟩
    | cons _ _ => cases h
  | succ n ih =>
    intro ds i out h vs us r q
    cases ds with
    | cons d ds =>
      rw [fill] at h
      split at h
      · cases h
      · rename_i ha
        obtain ⟨o, h1, rfl⟩ := Option.map_eq_some_iff.mp h
        cases r with
        | cons r1 r2 =>
          cases q with
          | cons q1 q2 =>
            obtain ⟨ov, ou, g1, g2, g3, g4, g5, g6, g7⟩ := ih ds (i + 1) o h1 _ _ r2 q2
            refine ⟨_ :: ov, _ :: ou, .cons r1 g1, .cons q1 g2, by simp [g3], fun j hj => ?_, fun j hj => ?_, by simp; omega, fun j h1 h2 h3 => ?_⟩
            · cases j with
              | zero => simp
              | succ j =>
                have := g4 j (by omega)
                rw [show i + (j + 1) = i + 1 + j by omega]
                simpa using this
            · cases j with
              | zero => exact (hk i).2 (any_look (Bool.eq_false_iff.mpr ha))
              | succ j =>
                rw [show i + (j + 1) = i + 1 + j by omega]
                exact g5 j (by simpa using hj)
            · cases j with
              | zero => simp at h1
              | succ j =>
                rw [show i + (j + 1) = i + 1 + j by omega] at h3 ⊢
                exact g7 j (by simpa using h1) (by omega) h3
    | nil =>
      cases r; cases q
      rw [fill] at h
      obtain ⟨d, h1, h2⟩ := Option.bind_eq_some_iff.mp h
      obtain ⟨o, h3, rfl⟩ := Option.map_eq_some_iff.mp h2
      obtain ⟨ov, ou, g1, g2, g3, g4, g5, g6, g7⟩ := ih [] (i + 1) o h3 _ _ .nil .nil
      have key : ∃ v u, (ku.lookup i).or (dU i) = some u ∧ RelV v u ∧ Rep L H d v ∧ (ku.lookup i = none → (dfl[i]?).join = some d) := by
        split at h1
        · rename_i d' e
          cases h1
          obtain ⟨v, u, e1, e2, e3⟩ := (hk i).1 d e
          exact ⟨v, u, by rw [e1]; rfl, e2, e3, fun z => by rw [e1] at z; cases z⟩
        · rename_i e
          obtain ⟨v, u, e1, e2, e3⟩ := hd i d h1
          exact ⟨v, u, by rw [(hk i).2 e]; exact e1, e2, e3, fun _ => h1⟩
      obtain ⟨v, u, e1, e2, e3, e4⟩ := key
      refine ⟨v :: ov, u :: ou, .cons e3 g1, .cons e2 g2, by simp [g3], fun j hj => ?_, fun j hj => by simp at hj, by simp, fun j _ h2 h3 => ?_⟩
      · cases j with
        | zero => simp [e1]
        | succ j =>
          have := g4 j (by omega)
          rw [show i + (j + 1) = i + 1 + j by omega]
          simpa using this
      · cases j with
        | zero => exact ⟨d, e4 h3⟩
        | succ j =>
          rw [show i + (j + 1) = i + 1 + j by omega] at h3 ⊢
          exact g7 j (by simp) (by omega) h3
/-- the names of defaults -/
theorem drop_look {ns : List Str} {its : List Value} {m i : Nat} {n : Str} (nd : ns.Nodup) (hi : ns[i]? = some n) : ((ns.drop m).zip its).lookup n = if m ≤ i then its[i - m]? else none := by
  by_cases h : m ≤ i
  · rw [if_pos h]
    exact zip_look (nd.sublist (List.drop_sublist _ _)) (by rw [List.getElem?_drop, Nat.add_sub_cancel' h]; exact hi)
  · rw [if_neg h]
    have hn : n ∉ ns.drop m := fun z => by
      obtain ⟨j, hj⟩ := List.getElem?_of_mem z
      rw [List.getElem?_drop] at hj
      have := nodup_ix nd hi hj
      omega
    have key : ∀ (ms : List Str) (us : List Value), n ∉ ms → (ms.zip us).lookup n = none := by
      intro ms
      induction ms with
      | nil => intro us _; simp
      | cons a ms ih =>
        intro us h
        cases us with
        | nil => simp
        | cons u us =>
          simp only [List.mem_cons, not_or] at h
          rw [List.zip_cons_cons, List.lookup_cons, beq_eq_false_iff_ne.mpr h.1]
          exact ih us h.2
    exact key _ _ hn
theorem kw_in {kw : List Nat} : ∀ {us : List Value}, kw.length = us.length → ∀ i ∈ kw, ∃ u, (kw.zip us).lookup i = some u := by
  induction kw with
  | nil => intro us _ i hi; cases hi
  | cons k kw ih =>
    intro us hl i hi
    cases us with
    | nil => simp at hl
    | cons u us =>
      rw [List.zip_cons_cons, List.lookup_cons]
      by_cases h : i = k
      · subst h; simp
      · rw [beq_eq_false_iff_ne.mpr h]
        exact ih (by simpa using hl) i (by
          rcases List.mem_cons.mp hi with z | z
          · exact absurd z h
          · exact z)
end
end PD
set_option Elab.async false
set_option linter.all false
set_option maxRecDepth 100000
set_option maxHeartbeats 2000000
/-! PD: the defs, by their bodies, so many calls deep. -/
namespace PD
open PySem PySem.Spec PyProof.Rows L2
/-- a def of the text -/
structure DefS where
  x : Str
  qual : Str
  params : Arguments
  body : List Stmt
  scope : Scope
  N : List Str
def DefS.of (qual : Str) (N : List Str) : Stmt → DefS
  | .FunctionDef x a b _ _ _ s _ _ _ => ⟨x, qual, a, b, s, N⟩
  | _ => ⟨default, default, ⟨[], [], none, [], [], none, []⟩, [], ⟨.function, [], false, false, []⟩, []⟩
/-- constants as defaults -/
def dconst : D → Option V
  | .non => some .non
  | .bl b => some (.bl b)
  | .int i => some (.int i)
  | .str x => some (.str x)
  | _ => none
theorem dconst_rep {L : Lay} {H : Hp} {d : D} {v : V} (h : dconst d = some v) : Rep L H d v := by
  cases d <;> cases h
  · exact .non
  · exact .bl
  · exact .int
  · exact .str
def pnames (s : DefS) : List Str := s.params.args.map (·.arg) ++ (match s.params.vararg with
  | some a => [a.arg]
  | none => [])
/-- the defaults, where the first stands -/
def dvals (fn : Fn) : Option (List V) := (fn.dfl.drop (fn.npos - (fn.dfl.filter (·.isSome)).length)).mapM fun o => o.bind dconst
def dflOk (fn : Fn) (n : Nat) : Bool := decide (fn.dfl = List.replicate (fn.npos - n) none ++ fn.dfl.drop (fn.npos - n)) && decide (fn.dfl.length = fn.npos ∨ fn.dfl = []) && decide (n ≤ fn.npos)
def Cc.def (c : Cc) (s : DefS) : Cc := { c with N := s.N, sc := s.scope, fc := fun x => s.scope.names.lookup x == some .cell }
def fnOk (c : Cc) (f : Nat) (fn : Fn) (s : DefS) : Bool :=
  (s.params.posonlyargs.isEmpty && (s.params.kwonlyargs.isEmpty && (s.params.kwarg.isNone && decide (s.params.args.map (·.arg) = c.kws.getD f [])))) &&
  ((decide ((s.params.args.map (·.arg)).length = fn.npos) && (decide (fn.nkw = 0) && (fn.star == s.params.vararg.isSome))) &&
  ((decide (s.N.length = fn.size) && C8.scC s.N (pnames s) s.scope) && cSs (c.def s) fn.body s.body))
/-- a def and its text -/
structure DefF (K : PySem.W.Frag) (st : Stat) (c : Cc) (f : Nat) (fn : Fn) (s : DefS) (dvs : List V) : Prop where
  fun_ : ∃ fd, FunD K s.x s.qual s.params s.body s.scope dvs [] (st.fa f) fd
  ok : fnOk c f fn s = true
  le : dvs.length ≤ fn.npos
  dfl : ∀ (i : Nat) d, (fn.dfl[i]?).join = some d → ∃ v, fn.npos - dvs.length ≤ i ∧ dvs[i - (fn.npos - dvs.length)]? = some v ∧ dconst d = some v
/-- all that stands, at any depth -/
structure WorldF (P : Program) (w : World) (K : PySem.W.Frag) (mg : Str → Option Value) (st : Stat) (c : Cc) (T : Tab) : Prop where
  defs : ∀ f fn, T.fs[f]? = some fn → ∃ s dvs, DefF K st c f fn s dvs
  keep : ∀ f fn, T.fs[f]? = some fn → PySem.W.keepIn K (.ref (st.fa f)) = true
  cls : ∀ i (k : Cl), T.cl i = some k → ClsF K st c.nm i k
  keepC : ∀ i (k : Cl), T.cl i = some k → PySem.W.keepIn K (.ref (st.ca i)) = true
  isi : ∀ i (k : Cl), T.cl i = some k → (∀ n ∈ ["int", "bool", "str", "tuple", "list", "dict", "NoneType"], PySem.W.kitOne K (.type n) (.ref (st.ca i)) = some false) ∧
    (∀ j (k' : Cl), T.cl j = some k' → PySem.W.kitOne K (.ref (st.ca j)) (.ref (st.ca i)) = some (j == i)) ∧ (∀ n ∈ ["int", "bool", "str", "tuple", "list", "dict"], PySem.W.kitOne K (.ref (st.ca i)) (.type n) = some false)
  nm : ∀ f n, c.nm[f]? = some n → st.nm f = n
  nmi : ∀ f g n, c.nm[f]? = some n → st.nm g = n → g = f
  gl : ∀ x d, c.gl.lookup x = some d → ∃ v u, mg x = some u ∧ RelV v u ∧ ∀ H, Rep (layP P w K st) H d v
  blt : ∀ x ∈ bltNames, mg x = none
  tb : c.tb = T
  mt : ∀ i (k : Cl) f mk g, T.cl i = some k → k.ms.lookup f = some (mk, g) → g ∈ c.mt.getD f []
section
variable {P : Program} {w : World} {K : PySem.W.Frag} {mg : Str → Option Value} {base : Heap} {st : Stat} {c : Cc} {T : Tab}
theorem re_start {L : Lay} {H : Hp} {ps : List D} {vs : List V} {N : List Str} {n : Nat} (r : Reps L H ps vs) (hN : N.length = n) : RE L H (ps.map some ++ List.replicate (n - ps.length) none) (L2.start N vs) := by
  have hl := r.length
  refine ⟨by unfold L2.start; simp [hl, hN], fun i d h => ?_⟩
  unfold L2.start
  by_cases hi : i < ps.length
  · rw [List.getElem?_append_left (by simpa using hi), List.getElem?_map] at h
    rw [List.getElem?_append_left (by simp; omega), List.getElem?_map]
    cases e : ps[i]? with
    | none => rw [e] at h; cases h
    | some d' =>
      rw [e] at h
      cases h
      obtain ⟨v, h1, h2⟩ := r.get e
      exact ⟨v, by rw [h1]; rfl, h2⟩
  · rw [List.getElem?_append_right (by simpa using hi), List.getElem?_replicate] at h
    split at h <;> cases h
theorem vals_get {vs : List V} {us : List Value} (r : Vals vs us) : vs.length = us.length := r.length
theorem dflv_items (K : PySem.W.Frag) {dV : Value} {dvs : List V} (h : DflV K dV dvs) {s : Shared} (KX : K.In s.heap) : ∃ its : List Value, Vals dvs its ∧ ∀ {A : Around} {E : Value → Shared → Prop} (Q : Option (Array Value) → Shared → Prop), (∀ r, (r.getD #[]).toList = its → Q r s) → wpAny (model P w) A (seqItems? dV) Q E s := by
  rcases h with ⟨rfl, rfl⟩ | ⟨_, Ta, o, its, n, rfl, h1, h2, h3⟩
  · exact ⟨[], .nil, fun Q h => wpAny_bind (wpAny_pure (wpAny_pure (h none rfl)))⟩
  · exact ⟨its, h3, fun Q h => wpAny_bind (wpAny_load (KX _ _ h1) (by rw [h2]; exact wpAny_pure (h _ rfl)))⟩
theorem nodup_on {α β : Type} {f : α → β} : ∀ {l : List α}, (∀ i ∈ l, ∀ j ∈ l, f i = f j → i = j) → l.Nodup → (l.map f).Nodup
  | [], _, _ => List.nodup_nil
  | a :: l, h, n => by
    rw [List.nodup_cons] at n
    rw [List.map_cons, List.nodup_cons]
    refine ⟨fun z => ?_, nodup_on (fun i hi j hj => h i (List.mem_cons_of_mem _ hi) j (List.mem_cons_of_mem _ hj)) n.2⟩
    obtain ⟨b, hb, e⟩ := List.mem_map.mp z
    exact n.1 (h b (List.mem_cons_of_mem _ hb) a List.mem_cons_self e ▸ hb)
/-- the binding of a call -/
theorem bind_ok {A : Around} {outer : List Env} {s : Shared} {H : Hp} {us kus : List Value} {vs kvs : List V} {ds kds : List D} {kw : List Nat} {ps : List D} {S : Sto} {E : XK} {f : Nat} {fn : Fn} {sd : DefS} {dvs : List V} {dV kV doc pm cdv ct : Value} {an : Option Addr}
    (F : DefF K st c f fn sd dvs) (hdv : DflV K dV dvs) (e0 : Env0 P w K mg base A outer s H) (r : Vals vs us) (q : Reps (layP P w K st) H ds vs) (rk : Vals kvs kus) (qk : Reps (layP P w K st) H kds kvs) (hk : kw.length = kds.length)
    (hn : ∀ i ∈ kw, i < (c.kws.getD f []).length) (rs : RS (layP P w K st) S H) (hb : bindF fn ds (kw.zip kds) = some ps) :
    StX.Bnd (L2.CX P w) P w K mg base (PySem.W.fnOf sd.x sd.qual sd.params sd.body sd.scope dV kV doc pm an cdv ct) ⟨us, (kwNames c.kws f kw).zip kus⟩ (pnames sd) A outer s H E
      (fun xs H2 => Frm S H S H2 ∧ RS (layP P w K st) S H2 ∧ Reps (layP P w K st) H2 ps xs) := by
  intro A' Ex Q hq
  have KX : K.In s.heap := e0.mod.kin.keeps fun b o e => (e0.bs b o e).1
  obtain ⟨its, rits, hits⟩ := dflv_items (P := P) (w := w) K hdv KX
  have ok := F.ok
  unfold fnOk at ok
  simp only [Bool.and_eq_true, decide_eq_true_eq, List.isEmpty_iff, Option.isNone_iff_eq_none, beq_iff_eq] at ok
  obtain ⟨⟨o1, o2, o3, o4⟩, ⟨o5, o6, o7⟩, ⟨o8, o9⟩, o10⟩ := ok
  have sc := C8.fnScope_by o9
  have ndp : (pnames sd).Nodup := by rw [← sc.pre]; exact sc.nd.sublist (List.take_sublist _ _)
  have nd : (sd.params.args.map (·.arg)).Nodup := by
    unfold pnames at ndp
    exact (List.nodup_append.mp ndp).1
  unfold bindF at hb
  split at hb
  · cases hb
  · rename_i hc
    simp only [not_or, Classical.not_not, not_and] at hc
    obtain ⟨hc1, hc2, hc3⟩ := hc
    obtain ⟨out, hf, rfl⟩ := Option.map_eq_some_iff.mp hb
    rw [o6, Nat.add_zero] at hf
    have hl0 := r.length
    have hlk := rk.length
    have hlq := q.length
    have hlqk := qk.length
    have hli := rits.length
    have hle := F.le
    obtain ⟨nv, hnv⟩ : ∃ m, m = fn.npos - its.length := ⟨_, rfl⟩
    have htk : ∀ n, Vals (vs.take n) (us.take n) := fun n => r.take n
    obtain ⟨ov, ou, g1, g2, g3, g4, g5, g6, g7⟩ := fill_ok (L := layP P w K st) (H := H) (ku := kw.zip kus) (dU := fun i => if fn.npos - its.length ≤ i then its[i - (fn.npos - its.length)]? else none) (kws_rel qk rk hk)
      (fun i d h => by
        obtain ⟨v, h1, h2, h3⟩ := F.dfl i d h
        obtain ⟨u, h4, h5⟩ := rits.get h2
        refine ⟨v, u, ?_, h5, dconst_rep h3⟩
        rw [if_pos (by omega), ← hli]
        exact h4) fn.npos (ds.take fn.npos) 0 out hf (vs.take fn.npos) (us.take fn.npos) (q.take fn.npos) (htk fn.npos)
    have hdis : ∀ i, i ∈ kw → us.length ≤ i := fun i hi => by
      obtain ⟨u, hu⟩ := kw_in (us := kus) (by omega) i hi
      by_cases h : us.length ≤ i
      · exact h
      · have hi2 := hn i hi
        rw [← o4, o5] at hi2
        have := g5 i (by rw [List.length_take]; omega)
        rw [Nat.zero_add, hu] at this
        cases this
    have hkn : kwNames c.kws f kw = kw.map fun i => (sd.params.args.map (·.arg)).getD i default := by unfold kwNames; rw [o4]
    rw [hkn]
    have zk : ∀ x ∈ (kw.map fun i => (sd.params.args.map (·.arg)).getD i default).zip kus, ∃ i ∈ kw, i < fn.npos ∧ (sd.params.args.map (·.arg))[i]? = some x.1 := fun x hx => by
      have h1 := (List.of_mem_zip (show (x.1, x.2) ∈ _ from hx)).1
      obtain ⟨i, hi, e⟩ := List.mem_map.mp h1
      have hi2 := hn i hi
      rw [← o4] at hi2
      refine ⟨i, hi, by omega, ?_⟩
      rw [← e, List.getD_eq_getElem?_getD, List.getElem?_eq_getElem hi2]
      rfl
    have hou : ou.length = fn.npos := by rw [← g2.length, ← g1.length, g3]
    refine bind_val (ns := sd.params.args.map (·.arg)) (its := its) (vs := ou) o1 o2 o3 rfl nd (by omega) (fun Q h => hits Q h) (fun x hx => ?_) ?_ (fun x hx => ?_) ?_ (by omega) (fun i n hi => ?_) (fun i n hi hin => ?_) ?_
    · obtain ⟨i, _, _, e⟩ := zk x hx
      exact List.mem_of_getElem? e
    · have hkn2 : kw.Nodup := by
        have : (kw.zip kds).map (·.1) = kw := by rw [List.map_fst_zip]; omega
        rw [← this]; exact hc2
      have e1 : ((kw.map fun i => (sd.params.args.map (·.arg)).getD i default).zip kus).map (·.1) = kw.map fun i => (sd.params.args.map (·.arg)).getD i default := by
        rw [List.map_fst_zip]
        rw [List.length_map]; omega
      rw [e1]
      refine nodup_on (fun i hi j hj e => ?_) hkn2
      have hi2 := hn i hi
      have hj2 := hn j hj
      rw [← o4] at hi2 hj2
      rw [List.getD_eq_getElem?_getD, List.getD_eq_getElem?_getD, List.getElem?_eq_getElem hi2, List.getElem?_eq_getElem hj2] at e
      exact nodup_ix nd (List.getElem?_eq_getElem hi2) (by rw [List.getElem?_eq_getElem hj2]; exact congrArg some e.symm)
    · obtain ⟨i, hi, _, e⟩ := zk x hx
      rw [zip_look nd e]
      exact List.getElem?_eq_none (hdis i hi)
    · cases hst : fn.star with
      | true => exact .inr (by show sd.params.vararg.isSome = true; rw [← o7, hst])
      | false =>
        refine .inl ?_
        rw [o5]
        by_cases h : us.length ≤ fn.npos
        · exact h
        · exact absurd hst (hc1 (by omega))
    · have hin : i < fn.npos := by rw [← o5]; exact (List.getElem?_eq_some_iff.mp hi).1
      have := g4 i hin
      rw [Nat.zero_add] at this
      rw [this, zip_look nd hi, kw_look nd hi (fun j hj => by rw [o4]; exact hn j hj), drop_look nd hi, o5, List.getElem?_take_of_lt hin]
    · have hlt : i < fn.npos := by rw [← o5]; omega
      rw [zip_look nd hin, kw_look nd hin (fun j hj => by rw [o4]; exact hn j hj)]
      cases e1 : us[i]? with
      | some u => rfl
      | none =>
        cases e2 : (kw.zip kus).lookup i with
        | some u => rfl
        | none =>
          obtain ⟨d, hd⟩ := g7 i (by rw [List.length_take]; have := List.getElem?_eq_none_iff.mp e1; omega) hlt (by rw [Nat.zero_add]; exact e2)
          rw [Nat.zero_add] at hd
          obtain ⟨v, h1, _⟩ := F.dfl i d hd
          omega
    · cases hva : sd.params.vararg with
      | none =>
        have hst : fn.star = false := by rw [o7, hva]; rfl
        have ep : pnames sd = sd.params.args.map (·.arg) := by unfold pnames; rw [hva, List.append_nil]
        rw [ep] at hq
        refine hq s H ov ou e0 (.refl) rfl (fun e s' h => h) g2 (by rw [← g1.length, g3, o5]) ⟨.refl, rs, ?_⟩
        rw [hst]
        simpa using g1
      | some a =>
        have hst : fn.star = true := by rw [o7, hva]; rfl
        have ep : pnames sd = sd.params.args.map (·.arg) ++ [a.arg] := by unfold pnames; rw [hva]
        rw [ep] at hq
        have hn : H s.heap.objs.size = Option.none := e0.hok.fresh (Nat.le_refl _)
        have hz : (us.drop fn.npos).length ≤ sizeLine := by rw [List.length_drop]; omega
        have new : ObjOk P w (upd H s.heap.objs.size (.tup (vs.drop fn.npos))) (s.heap.push ({ cls := .type "tuple", data := .seq (us.drop fn.npos).toArray } : Obj)) s.heap.objs.size (.tup (vs.drop fn.npos)) :=
          ⟨by show (vs.drop fn.npos).length ≤ sizeLine; rw [List.length_drop]; omega, us.drop fn.npos, r.drop fn.npos, ⟨_, Heap.get?_push_size _ rfl, rfl, _, rfl⟩⟩
        have un := StX.un_laid (fs := frs outer) (s := s) (o := ({ cls := .type "tuple", data := .seq (us.drop fn.npos).toArray } : Obj)) (u := .tup (vs.drop fn.npos)) hn
        have ex : Ext H (upd H s.heap.objs.size (.tup (vs.drop fn.npos))) := Ext.upd_new hn
        have z := hq _ _ (ov ++ [V.ref s.heap.objs.size]) (ou ++ [Value.ref s.heap.objs.size]) (StX.env0_laid e0 new) un rfl (fun e s' => StX.cxUp outer s H _ _ E e s' un (fun b o q => Heap.get?_push_of_some _ q) rfl) (g2.append (.cons rfl .nil))
          (by rw [List.length_append, List.length_append, ← g1.length, g3, o5] <;> rfl) ⟨.side hn, rs.side hn, by
            rw [hst]
            exact (g1.ext ex).append (.cons (.tup (SqT.of upd_same) ((q.drop fn.npos).ext ex)) .nil)⟩
        rw [List.zip_append (by rw [hou, o5])] at z
        rw [o5]
        exact ⟨hz, z⟩
end
end PD
set_option Elab.async false
set_option linter.all false
set_option maxRecDepth 100000
set_option maxHeartbeats 2000000
/-! PD: the defs keep what data say of them. -/
namespace PD
open PySem PySem.Spec PyProof.Rows L2
section
variable {P : Program} {w : World} {K : PySem.W.Frag} {mg : Str → Option Value} {base : Heap} {st : Stat} {c : Cc} {T : Tab}
theorem fnp_zero {Φ : Phi} : FnP P w K mg base st c.kws T (phi T 0) 0 := fun f fn A outer s H us kus vs kvs ds kds kw ps S Ex Q E hr e0 hT r q rk qk hk hn rs xo hb h => h.elim
theorem fnp_succ (F : WorldF P w K mg st c T) {k : Nat} (ih : FnP P w K mg base st c.kws T (phi T k) k) : FnP P w K mg base st c.kws T (phi T (k + 1)) (k + 1) := by
  intro f fn A outer s H us kus vs kvs ds kds kw ps S Ex Q E hr e0 hT r q rk qk hk hn rs xo hb hphi
  obtain ⟨fn', hT', hl, hz, hw⟩ := hphi
  obtain rfl : fn = fn' := Option.some.inj (hT.symm.trans hT')
  obtain ⟨sd, dvs, D⟩ := F.defs f fn hT
  obtain ⟨fd, oc, od, dV, kV, doc, pm, an, cdv, ct, osl, rfl, lk, hcd, hdv, _⟩ := (let ⟨fd, h⟩ := D.fun_; let ⟨a1, a2, a3, a4, a5, a6, a7, a8, a9, a10, a11⟩ := h.ex; ⟨fd, a1, a2, a3, a4, a5, a6, a7, a8, a9, a10, a11⟩ : ∃ fd, ∃ (oc : Value) (od : Option Addr) (dV kV doc pm : Value) (an : Option Addr) (cdv ct : Value) (osl : Array (Option Value)),
    fd = PySem.W.fnOf sd.x sd.qual sd.params sd.body sd.scope dV kV doc pm an cdv ct ∧ K.lookup (st.fa f) = some ⟨oc, od, .func fd, osl⟩ ∧ PySem.W.codeIn K cdv sd.qual = true ∧ DflV K dV dvs ∧ KwdV K kV [])
  have ok := D.ok
  unfold fnOk at ok
  simp only [Bool.and_eq_true, decide_eq_true_eq, List.isEmpty_iff, Option.isNone_iff_eq_none, beq_iff_eq] at ok
  obtain ⟨⟨o1, o2, o3, o4⟩, ⟨o5, o6, o7⟩, ⟨o8, o9⟩, o10⟩ := ok
  have sc := C8.fnScope_by o9
  refine StX.run_bnd lk hcd sc (k := 2 * k + 1) (by exact hr.toRoom.mono (by omega)) e0 (bind_ok D hdv e0 r q rk qk hk hn rs hb) fun s2 H2 xs ⟨fr, rs2, rps⟩ hr' => ?_
  have G : Good (cxOf (L2.CX P w) P w K mg base sd.N sd.qual sd.scope (st.fa f) cdv A outer s2 H2 E) st (fun cls d _ H => E cls d H) (c.def sd) T (phi T k) := {
    N := rfl
    nd := sc.nd
    sc := rfl
    calm := rfl
    room := hr'.units
    room2 := (by have h2 := hr'.un; show (A.deeper _).units + 128 < cLine; omega)
    gd := hr.gd
    mono := phi_mono T k
    tk := takes_of rfl rfl rfl (E₁ := fun e' s'' => L2.CX P w outer H2 s2 E e' s'') rfl
    nm := F.nm
    nmi := F.nmi
    gl := F.gl
    blt := F.blt
    fc := fun _ _ => rfl
    tb := F.tb
    mt := F.mt }
  have Z : World0 (cxOf (L2.CX P w) P w K mg base sd.N sd.qual sd.scope (st.fa f) cdv A outer s2 H2 E) st (c.def sd) T (phi T k) k := {
    fnp := ih
    hr := ⟨hr', hr.gd⟩
    keep := F.keep
    cls := F.cls
    keepC := F.keepC
    isi := F.isi }
  refine ⟨_, (sSs fn.body).ps G Z (passes_of (K := fun e s'' => L2.CX P w outer H2 s2 E e s'') (E₁ := fun e' s'' => L2.CX P w outer H2 s2 E e' s'') rfl) o10, ?_⟩
  refine ⟨ps.map some ++ List.replicate (fn.size - ps.length) none, S, { nx := fun _ S' => post (layP P w K st) S H Q .non S', rt := post (layP P w K st) S H Q, ex := fun _ => Ex }, rs2, re_start rps o8, ⟨?_, ?_, ?_, ?_, ?_⟩, hw⟩
  · intro ρ' S' σ' H' f' r' re' hq
    exact hq _ _ (fr.trans f') r' .non
  · intro ρ' S' σ' H' f' r' re' hq
    exact hq.elim
  · intro ρ' S' σ' H' f' r' re' hq
    exact hq.elim
  · intro d S' v H' f' r' rep hq
    exact hq _ _ (fr.trans f') r' rep
  · intro x ρ' S' σ' cls d H' f' r' re' xr hx
    exact xo x S' cls d H' (fr.trans f') r' xr hx
theorem fnp (F : WorldF P w K mg st c T) : ∀ k, FnP P w K mg base st c.kws T (phi T k) k
  | 0 => fnp_zero (Φ := phi T 0)
  | k + 1 => fnp_succ F (fnp F k)
end
end PD
set_option Elab.async false
set_option linter.all false
set_option maxRecDepth 100000
set_option maxHeartbeats 2000000
/-! PD: all that stands, as Bools of the written part. -/
namespace PD
open PySem PySem.Spec PyProof.Rows L2
/-- where a def stands -/
inductive Lc where
  | glo (x : Str) | meth (C m : Str) | prop (C m : Str) | cm (C m : Str)
def Lc.adr (K : PySem.W.Frag) : Lc → Addr
  | .glo x => He.ga K x
  | .meth C m => He.ma K (He.ga K C) m
  | .prop C m => He5.wf K (He.ga K C) "property" m
  | .cm C m => He5.wf K (He.ga K C) "classmethod" m
def dv0 : D → V
  | .non => .non
  | .bl b => .bl b
  | .int i => .int i
  | .str x => .str x
  | _ => .non
def dvH : D → He.Dv
  | .non => .non
  | .bl b => .bl b
  | .int i => .int i
  | .str x => .str x
  | _ => .non
theorem dvH_v {K : PySem.W.Frag} (d : D) : (dvH d).v K = dv0 d := by cases d <;> rfl
/-- a law's text, compiled -/
structure LawD where
  T : Tab
  c : Cc
  locs : List Lc
  sds : List DefS
  dfls : List (List D)
  cn : List Str
def LawD.loc (L : LawD) (f : Nat) : Lc := L.locs.getD f (.glo "")
def LawD.sd (L : LawD) (f : Nat) : DefS := L.sds.getD f (DefS.of "" [] (.Pass ⟨0, 0, 0, 0⟩))
def LawD.dfl (L : LawD) (f : Nat) : List D := L.dfls.getD f []
def LawD.cname (L : LawD) (i : Nat) : Str := L.cn.getD i ""
def noName : Str := "<none>"
def LawD.st (L : LawD) (K : PySem.W.Frag) : Stat := ⟨fun f => (L.loc f).adr K, fun i => He.ga K (L.cname i), fun f => L.c.nm.getD f noName⟩
def LawD.defA (L : LawD) (f : Nat) : He5.DefA := ⟨(L.loc f).adr, (L.sd f).x, (L.sd f).qual, (L.sd f).params, (L.sd f).body, (L.sd f).scope, (L.dfl f).map dvH, []⟩
def LawD.fns (L : LawD) : List He5.DefA := (List.range L.T.fs.length).map L.defA
/-! ### what is asked of K -/
def noLists (K : PySem.W.Frag) : Bool := K.all fun p => match p.2.cls with
  | .type n => !(n == "list")
  | _ => true
def glB (L : LawD) (K : PySem.W.Frag) (x : Str) : D → Bool
  | .fn f => (He.Fa.glo x).ok K && decide ((L.loc f).adr K = He.ga K x)
  | .cls i => (He.Fa.glo x).ok K && decide (L.cname i = x)
  | .int n => (He.Fa.int x n).ok K
  | .str z => (He.Fa.str x z).ok K
  | _ => false
def propB (K : PySem.W.Frag) (C : Addr) (n : Str) : Bool := He.eqO (PySem.W.findIn K (.ref C) n) (some (some (.ref (He.ma K C n)))) && (He.eqO (PySem.W.specialIn K (.ref (He.ma K C n)) "__get__") (some (some (.builtin "property.__get__"))) &&
  (decide (PySem.W.takesIn K (.ref (He.ma K C n)) = some true) && (match PySem.W.recIn K (He.ma K C n) "property" with
    | some (.ref _ :: _) => true
    | _ => false)))
theorem propB_ok {K : PySem.W.Frag} {C : Addr} {n : Str} (h : propB K C n = true) : PropOf K C n (He.ma K C n) (He5.wf K C "property" n) := by
  unfold propB at h
  simp only [Bool.and_eq_true, decide_eq_true_eq] at h
  obtain ⟨h1, h2, h3, h4⟩ := h
  refine ⟨He.eqO_ok h1, He.eqO_ok h2, h3, ?_⟩
  split at h4
  · rename_i g r e
    exact ⟨r, by unfold He5.wf; rw [e]⟩
  · cases h4
def attB (L : LawD) (K : PySem.W.Frag) (x : Str) (k : Cl) (f : Nat) (n : Str) : Bool := match k.ms.lookup f with
  | none => (He.Fa.noat x n).ok K
  | some (.plain, g) => (He.Fa.meth x n).ok K && decide ((L.loc g).adr K = He.ma K (He.ga K x) n)
  | some (.prop, g) => propB K (He.ga K x) n && decide ((L.loc g).adr K = He5.wf K (He.ga K x) "property" n)
  | some (.cm, g) => (He5.wrapB K (He.ga K x) "classmethod" "classmethod.__get__" n && PySem.W.fnIn K (He5.wf K (He.ga K x) "classmethod" n)) && ((PySem.W.readsIn K (He.ga K x) (.type "type") && He.eqO (PySem.W.specialIn K (.ref (He.ga K x)) "__getattribute__") (some (some (.builtin "type.__getattribute__")))) && decide ((L.loc g).adr K = He5.wf K (He.ga K x) "classmethod" n))
def tyNames : List String := ["int", "bool", "str", "tuple", "list", "dict", "NoneType"]
def tyN6 : List String := ["int", "bool", "str", "tuple", "list", "dict"]
def eqB (L : LawD) (K : PySem.W.Frag) (i : Nat) (k : Cl) : Bool := match k.eqm with
  | some g => He.eqO (PySem.W.findIn K (.ref (He.ga K (L.cname i))) "__eq__") (some (some (.ref ((L.loc g).adr K)))) && (PySem.W.isFn K (.ref ((L.loc g).adr K)) && He.eqO (PySem.W.findIn K (.ref (He.ga K (L.cname i))) "__ne__") (some (some (.builtin "object.__ne__"))))
  | none => true
def clsB (L : LawD) (K : PySem.W.Frag) (i : Nat) (k : Cl) : Bool :=
  ((He.Fa.cls (L.cname i)).ok K && (match k.init with
    | some g => (He.Fa.mkr (L.cname i)).ok K && decide ((L.loc g).adr K = He.ma K (He.ga K (L.cname i)) "__init__")
    | none => true)) &&
  (eqB L K i k && (((List.range L.c.nm.length).all fun f => match L.c.nm[f]? with
    | some n => attB L K (L.cname i) k f n
    | none => true) &&
  ((He.eqO (PySem.W.findIn K (.ref (He.ga K (L.cname i))) "__class__") (some (some (.builtin "object.__class__"))) && (decide (PySem.W.mroIn K (He.ga K (L.cname i)) (.type "object") = some true) && PySem.W.keepIn K (.ref (He.ga K (L.cname i))))) &&
  ((tyNames.all fun n => decide (PySem.W.kitOne K (.type n) (.ref (He.ga K (L.cname i))) = some false)) &&
  (((List.range L.T.cs.length).all fun j => match L.T.cl j with
    | some _ => decide (PySem.W.kitOne K (.ref (He.ga K (L.cname j))) (.ref (He.ga K (L.cname i))) = some (j == i))
    | none => true) &&
  (tyN6.all fun n => decide (PySem.W.kitOne K (.ref (He.ga K (L.cname i))) (.type n) = some false)))))))
def objB (K : PySem.W.Frag) : Bool := He.eqO (PySem.W.specialIn K (.builtin "object.__class__") "__get__") (some (some (.builtin "getset_descriptor.__get__"))) && decide (PySem.W.takesIn K (.builtin "object.__class__") = some true)
/-- all of it -/
def LawD.exB (L : LawD) (K : PySem.W.Frag) : Bool := (noLists K && objB K) && ((bltNames.all fun x => (He.Fa.free x).ok K) && ((L.c.gl.all fun p => glB L K p.1 p.2) && ((List.range L.T.cs.length).all fun i => match L.T.cl i with
  | some k => clsB L K i k
  | none => true)))
/-! ### what is asked of the text alone -/
def isK : D → Bool
  | .non => true
  | .bl _ => true
  | .int _ => true
  | .str _ => true
  | _ => false
def LawD.fnB (L : LawD) (f : Nat) (fn : Fn) : Bool := fnOk L.c f fn (L.sd f) && ((L.dfl f).all isK && (decide ((L.dfl f).length ≤ fn.npos) && (decide (fn.dfl = List.replicate (fn.npos - (L.dfl f).length) none ++ (L.dfl f).map some) || (fn.dfl.isEmpty && (L.dfl f).isEmpty))))
def LawD.nmB (L : LawD) : Bool := decide L.c.nm.Nodup && (!L.c.nm.contains noName && ((List.range L.T.cs.length).all fun i => match L.T.cl i with
  | some k => k.ms.all fun p => (L.c.mt.getD p.1 []).contains p.2.2
  | none => true))
end PD
set_option Elab.async false
set_option linter.all false
set_option maxRecDepth 100000
set_option maxHeartbeats 2000000
/-! PD: .. are the facts. -/
namespace PD
open PySem PySem.Spec PyProof.Rows L2
section
variable {P : Program} {w : World} {K : PySem.W.Frag} {mg : Str → Option Value} {h : Heap} {L : LawD}
theorem isK_const {d : D} (h : isK d = true) : dconst d = some (dv0 d) := by cases d <;> first | rfl | cases h
theorem dfl_at {fn : Fn} {ds : List D} (hk : ds.all isK = true) (hl : ds.length ≤ fn.npos) (h : (decide (fn.dfl = List.replicate (fn.npos - ds.length) none ++ ds.map some) || (fn.dfl.isEmpty && ds.isEmpty)) = true) (i : Nat) (d : D) (e : (fn.dfl[i]?).join = some d) :
    ∃ v, fn.npos - (ds.map dv0).length ≤ i ∧ (ds.map dv0)[i - (fn.npos - (ds.map dv0).length)]? = some v ∧ dconst d = some v := by
  rw [List.length_map]
  rw [Bool.or_eq_true] at h
  rcases h with h | h
  · have h := of_decide_eq_true h
    rw [h] at e
    by_cases hi : i < fn.npos - ds.length
    · rw [List.getElem?_append_left (by simpa using hi), List.getElem?_replicate, if_pos hi] at e
      cases e
    · rw [List.getElem?_append_right (by simpa using hi), List.length_replicate, List.getElem?_map] at e
      cases e2 : ds[i - (fn.npos - ds.length)]? with
      | none => rw [e2] at e; cases e
      | some d' =>
        rw [e2] at e
        cases e
        refine ⟨dv0 d, by omega, by rw [List.getElem?_map, e2]; rfl, isK_const (List.all_eq_true.mp hk d (List.mem_of_getElem? e2))⟩
  · rw [Bool.and_eq_true, List.isEmpty_iff, List.isEmpty_iff] at h
    rw [h.1] at e
    cases e
theorem cl_lt {T : Tab} {i : Nat} {k : Cl} (h : T.cl i = some k) : i < T.cs.length := by
  unfold Tab.cl at h
  split at h
  · rename_i e; exact (List.getElem?_eq_some_iff.mp e).1
  · cases h
theorem nm_at (hn : L.nmB = true) {f : Nat} {n : Str} (h : L.c.nm[f]? = some n) : (L.st K).nm f = n ∧ ∀ g, (L.st K).nm g = n → g = f := by
  unfold LawD.nmB at hn
  simp only [Bool.and_eq_true, decide_eq_true_eq, Bool.not_eq_true'] at hn
  obtain ⟨h1, h2, _⟩ := hn
  refine ⟨?_, fun g hg => ?_⟩
  · show L.c.nm.getD f noName = n
    rw [List.getD_eq_getElem?_getD, h]; rfl
  · have hg : L.c.nm.getD g noName = n := hg
    rw [List.getD_eq_getElem?_getD] at hg
    cases e : L.c.nm[g]? with
    | none =>
      rw [e] at hg
      have hg : noName = n := hg
      have : n ∈ L.c.nm := List.mem_of_getElem? h
      rw [← hg] at this
      have h3 : L.c.nm.contains noName = true := by simpa using this
      rw [h3] at h2
      cases h2
    | some m =>
      rw [e] at hg
      have hg : m = n := hg
      subst hg
      exact nodup_ix h1 e h
theorem gl_at (KX : K.In h) (G : h.Ns mainGlobals mg) {x : Str} {d : D} (hb : glB L K x d = true) : ∃ v u, mg x = some u ∧ RelV v u ∧ ∀ H, Rep (layP P w K (L.st K)) H d v := by
  cases d with
  | fn f =>
    have hb : ((He.Fa.glo x).ok K && decide ((L.loc f).adr K = He.ga K x)) = true := hb
    rw [Bool.and_eq_true, decide_eq_true_eq] at hb
    exact ⟨.ref ((L.st K).fa f), _, He.glo_ok KX G hb.1, by show _ = Value.ref _; exact congrArg Value.ref hb.2.symm, fun H => .fn⟩
  | cls i =>
    have hb : ((He.Fa.glo x).ok K && decide (L.cname i = x)) = true := hb
    rw [Bool.and_eq_true, decide_eq_true_eq] at hb
    exact ⟨.ref ((L.st K).ca i), _, He.glo_ok KX G hb.1, by show _ = Value.ref _; rw [← hb.2]; rfl, fun H => .cls⟩
  | int n =>
    obtain ⟨t, e⟩ := He.int_ok KX G (show (He.Fa.int x n).ok K = true from hb)
    exact ⟨.int n, _, e, ⟨t, rfl⟩, fun H => .int⟩
  | str z =>
    obtain ⟨t, e⟩ := He.str_ok KX G (show (He.Fa.str x z).ok K = true from hb)
    exact ⟨.str z, _, e, ⟨t, rfl⟩, fun H => .str⟩
  | _ => cases hb
theorem mem_look {β : Type} {k : Nat} {v : β} : ∀ {l : List (Nat × β)}, l.lookup k = some v → (k, v) ∈ l
  | (a, b) :: l, h => by
    rw [List.lookup_cons] at h
    cases e : k == a with
    | true => rw [e] at h; cases h; rw [eq_of_beq e]; exact List.mem_cons_self
    | false => rw [e] at h; exact List.mem_cons_of_mem _ (mem_look h)
theorem all_range {n : Nat} {p : Nat → Bool} (h : (List.range n).all p = true) {i : Nat} (hi : i < n) : p i = true := List.all_eq_true.mp h i (List.mem_range.mpr hi)
theorem cls_at (hx : objB K = true) {i : Nat} {k : Cl} (hc : L.T.cl i = some k) (hb : clsB L K i k = true) :
    ClsF K (L.st K) L.c.nm i k ∧ PySem.W.keepIn K (.ref ((L.st K).ca i)) = true ∧ ((∀ n ∈ ["int", "bool", "str", "tuple", "list", "dict", "NoneType"], PySem.W.kitOne K (.type n) (.ref ((L.st K).ca i)) = some false) ∧
    (∀ j (k' : Cl), L.T.cl j = some k' → PySem.W.kitOne K (.ref ((L.st K).ca j)) (.ref ((L.st K).ca i)) = some (j == i)) ∧ (∀ n ∈ ["int", "bool", "str", "tuple", "list", "dict"], PySem.W.kitOne K (.ref ((L.st K).ca i)) (.type n) = some false)) := by
  unfold clsB at hb
  simp only [Bool.and_eq_true, decide_eq_true_eq] at hb
  obtain ⟨⟨b1, b2⟩, bq, b3, ⟨b4, b5, b6⟩, b7, b8, b9⟩ := hb
  unfold objB at hx
  rw [Bool.and_eq_true, decide_eq_true_eq] at hx
  have att : ∀ f n, L.c.nm[f]? = some n → attB L K (L.cname i) k f n = true := fun f n hn => by
    have := all_range b3 (List.getElem?_eq_some_iff.mp hn).1
    rw [hn] at this
    exact this
  refine ⟨⟨He.cls_ok b1, fun f n hn hl => ?_, fun g hg => ?_, fun f n g hn hl => ?_, fun f n g hn hl => ?_, fun f n g hn hl => ?_, fun g hg => ?_, He.eqO_ok b4, He.eqO_ok hx.1, hx.2, b5⟩, b6, fun n hn => of_decide_eq_true (List.all_eq_true.mp b7 n hn), fun j k' hj => ?_, fun n hn => of_decide_eq_true (List.all_eq_true.mp b9 n hn)⟩
  · have := att f n hn
    unfold attB at this
    rw [hl] at this
    exact He.noat_ok this
  · rw [hg] at b2
    simp only [Bool.and_eq_true, decide_eq_true_eq] at b2
    have := He.mkr_ok b2.1
    rw [← b2.2] at this
    exact this
  · have := att f n hn
    unfold attB at this
    rw [hl] at this
    simp only [Bool.and_eq_true, decide_eq_true_eq] at this
    have m := He.meth_ok this.1
    rw [← this.2] at m
    exact m
  · have := att f n hn
    unfold attB at this
    rw [hl] at this
    simp only [Bool.and_eq_true, decide_eq_true_eq] at this
    have m := propB_ok this.1
    rw [← this.2] at m
    exact ⟨_, m⟩
  · have := att f n hn
    unfold attB at this
    rw [hl] at this
    simp only [Bool.and_eq_true, decide_eq_true_eq] at this
    obtain ⟨⟨a1, a2⟩, ⟨a3, a4⟩, a5⟩ := this
    have m := He5.cmet_of a1 a2
    rw [← a5] at m
    exact ⟨_, _, m, ⟨a3, He.eqO_ok a4⟩⟩
  · unfold eqB at bq
    rw [hg] at bq
    simp only [Bool.and_eq_true] at bq
    exact ⟨He.eqO_ok bq.1, bq.2.1, He.eqO_ok bq.2.2⟩
  · have := all_range b8 (cl_lt hj)
    rw [hj] at this
    exact of_decide_eq_true this
theorem defs_at (hs : He5.SaysA [] L.fns K) {f : Nat} {fn : Fn} (hf : L.T.fs[f]? = some fn) (hb : L.fnB f fn = true) : DefF K (L.st K) L.c f fn (L.sd f) ((L.dfl f).map dv0) ∧ PySem.W.keepIn K (.ref ((L.st K).fa f)) = true := by
  unfold LawD.fnB at hb
  simp only [Bool.and_eq_true, decide_eq_true_eq] at hb
  obtain ⟨h1, h2, h3, h4⟩ := hb
  have hd : L.fns[f]? = some (L.defA f) := by
    unfold LawD.fns
    rw [List.getElem?_map, List.getElem?_range (List.getElem?_eq_some_iff.mp hf).1]
    rfl
  obtain ⟨fd, F⟩ := hs.def_ f hd
  have e : (L.defA f).dvs K = (L.dfl f).map dv0 := by
    show ((L.dfl f).map dvH).map (He.Dv.v K) = _
    rw [List.map_map]
    exact List.map_congr_left fun d _ => dvH_v d
  rw [e] at F
  exact ⟨⟨⟨fd, F⟩, h1, by rw [List.length_map]; exact h3, dfl_at h2 h3 h4⟩, F.kp⟩
theorem worldF (KX : K.In h) (G : h.Ns mainGlobals mg) (hx : L.exB K = true) (hs : He5.SaysA [] L.fns K) (hf : ∀ f fn, L.T.fs[f]? = some fn → L.fnB f fn = true) (hn : L.nmB = true) (htb : L.c.tb = L.T) : WorldF P w K mg (L.st K) L.c L.T := by
  unfold LawD.exB at hx
  simp only [Bool.and_eq_true] at hx
  obtain ⟨⟨x1, x2⟩, x3, x4, x5⟩ := hx
  have cl : ∀ i k, L.T.cl i = some k → clsB L K i k = true := fun i k hk => by
    have := all_range x5 (cl_lt hk)
    rw [hk] at this
    exact this
  have hm : ∀ i (k : Cl) f mk g, L.T.cl i = some k → k.ms.lookup f = some (mk, g) → g ∈ L.c.mt.getD f [] := fun i k f mk g hk hl => by
    unfold LawD.nmB at hn
    simp only [Bool.and_eq_true] at hn
    have := all_range hn.2.2 (cl_lt hk)
    rw [hk] at this
    have := List.all_eq_true.mp this (f, mk, g) (mem_look hl)
    simpa using this
  exact {
    defs := fun f fn h => ⟨_, _, (defs_at hs h (hf f fn h)).1⟩
    keep := fun f fn h => (defs_at hs h (hf f fn h)).2
    cls := fun i k hk => (cls_at x2 hk (cl i k hk)).1
    keepC := fun i k hk => (cls_at x2 hk (cl i k hk)).2.1
    isi := fun i k hk => (cls_at x2 hk (cl i k hk)).2.2
    nm := fun f n h => (nm_at hn h).1
    nmi := fun f g n h hg => (nm_at hn h).2 g hg
    gl := fun x d h => gl_at KX G (List.all_eq_true.mp x4 (x, d) (PySem.mem_of_lookup h))
    blt := fun x hx => He.free_ok KX G (List.all_eq_true.mp x3 x hx)
    tb := htb
    mt := hm }
end
end PD
set_option Elab.async false
set_option linter.all false
set_option maxRecDepth 100000
set_option maxHeartbeats 2000000
/-! PD: a law's head and end. -/
namespace PD
open PySem PySem.Spec PyProof.Rows L2
/-! ### the hook -/
def obsK (L : LawD) (K : PySem.W.Frag) : He.AlD := (L.exB K && L.fns.all fun d => d.ok K, L.fns.map fun d => He5.fnA K (d.at_ K))
def obsP (n : Nat) (L : LawD) (g : Addr → Option Obj) : He.AlD := obsK L (He.frG g (He5.asA g n))
def hookP (n : Nat) (L : LawD) : PySem.W.Hook where
  α := He.AlD
  obs := fun s => obsP n L s.heap.get?
  val := fun _ => He5.valA L.fns
  says := fun _ h => ∃ K : PySem.W.Frag, K.In h ∧ L.exB K = true ∧ He5.SaysA [] L.fns K
  of := fun _ _ e => ⟨_, He.frG_in, by
    have h := congrArg (fun z : He.AlD => z.1) e
    have h2 := congrArg (fun z : He.AlD => z.2) e
    obtain ⟨h3, h4⟩ := He.ba (show (L.exB (He.frG _ (He5.asA _ n)) && L.fns.all fun d => d.ok (He.frG _ (He5.asA _ n))) = true from h)
    refine ⟨h3, ?_⟩
    exact Prod.ext h4 h2⟩
  keeps := fun _ _ _ ⟨K, hK, c⟩ k => ⟨K, PySem.W.Frag.In.keeps hK k, c⟩
theorem obsP_eq {n : Nat} {L : LawD} {g : Addr → Option Obj} {s : Shared} (h : ∀ a, g a = s.heap.get? a) : obsP n L g = (hookP n L).obs s := by
  have e : g = s.heap.get? := funext h
  rw [e] <;> rfl
/-! ### the law -/
/-- told of data alone -/
def PlainLaw (T : Tab) (f k : Nat) : Prop := ∀ (a : Addr) (ns : List Int) (S : Sto) (Q : WD) (Ex : WX), ns.length ≤ 63 → at_ S a = some (.lst (ns.map D.int)) → (∀ b, b ≠ a → S b = none) → (∀ S', Q (.bl true) S') → phi T (k + 1) f [.ref a] S Q Ex
section
variable {P : Program} {w : World} {K : PySem.W.Frag} {mg : Str → Option Value}
theorem frag_mem {a : Addr} {o : Obj} : ∀ {l : List (Addr × Obj)}, l.lookup a = some o → (a, o) ∈ l
  | (b, u) :: l, h => by
    rw [List.lookup_cons] at h
    cases e : a == b with
    | true => rw [e] at h; cases h; rw [eq_of_beq e]; exact List.mem_cons_self
    | false => rw [e] at h; exact List.mem_cons_of_mem _ (frag_mem h)
/-- the script is no part of what is written -/
theorem script_st {L : Lay} {H : Hp} {a : Addr} {ns : List Int} (hn : noLists L.K = true) (h : SqL L.K H a (ns.map V.int)) : ∃ S, RS L S H ∧ at_ S a = some (.lst (ns.map D.int)) ∧ ∀ b, b ≠ a → S b = none := by
  have rep : Reps L H (ns.map D.int) (ns.map V.int) := by
    induction ns with
    | nil => exact .nil
    | cons n ns ih =>
      refine .cons .int ?_
      clear ih h
      induction ns with
      | nil => exact .nil
      | cons m ms ih => exact .cons .int ih
  rcases h with h | ⟨o, its, n, e, hc, _⟩
  · rcases h with h | ⟨ob, h⟩
    · refine ⟨fun b => if b = a then some (.lst (ns.map D.int)) else none, fun b o hb => ?_, by unfold at_; simp [O.un], fun b hb => if_neg hb⟩
      have hb : (if b = a then _ else none) = some o := hb
      by_cases hba : b = a
      · rw [if_pos hba] at hb
        obtain rfl := Option.some.inj hb
        subst hba
        exact ⟨_, h, .lst rep⟩
      · rw [if_neg hba] at hb; cases hb
    · refine ⟨fun b => if b = a then some (.frz (.lst (ns.map D.int))) else none, fun b o hb => ?_, by unfold at_; simp [O.un], fun b hb => if_neg hb⟩
      have hb : (if b = a then _ else none) = some o := hb
      by_cases hba : b = a
      · rw [if_pos hba] at hb
        obtain rfl := Option.some.inj hb
        subst hba
        exact ⟨_, h, .frz (.lst rep)⟩
      · rw [if_neg hba] at hb; cases hb
  · have := List.all_eq_true.mp hn (a, o) (frag_mem e)
    simp [hc] at this
/-- what a law's def is to keep, told of the caller's place -/
def LawG (l : PySem.W.OpenLaw) (w : World) (K : PySem.W.Frag) (n : Nat) (mg : Str → Option Value) (fa : Addr) : Prop :=
  ∀ (base : Heap) (s : Shared) (H : Hp) (a : Addr) (ns : List Int), ns.length ≤ n → Env0 l.prog w K mg base callerA [] s H → SqL K H a (ns.map V.int) →
    codeAny (model l.prog w) callerA (.call (.ref fa) ⟨[.ref a], []⟩) (CR (L2.CX l.prog w) [] l.prog w H s (fun v _ => v = .bl true) fun _ _ _ => False) s
theorem cx_end {P : Program} (w : World) (H : Hp) (s : Shared) (e : Value) (s' : Shared) (h : L2.CX P w [] H s (fun _ _ _ => False) e s') : False := by
  obtain ⟨_, _, _, _, _, _, _, _, _, _, _, _, z⟩ := h
  exact z
/-- the script's store at the entry: known to K, or frozen -/
theorem entry {s : Shared} {a : Addr} {vs : List Value} {ns : List Int} (KX : K.In s.heap) (ha : s.heap.get? a = some { cls := .type "list", data := .seq vs.toArray }) (hi : IntsAre vs ns) (hl : ns.length ≤ sizeLine) :
    ∃ H : Hp, Only H ∧ SqL K H a (ns.map V.int) ∧ HOk P w H s.heap ∧ (∀ b, H b ≠ none → b = a ∧ K.lookup a = none) := by
  have rv := vals_ints hi
  have lenV := hi.length
  cases hk : K.lookup a with
  | some o =>
    have e := KX a o hk
    rw [ha] at e
    cases e
    exact ⟨fun _ => none, fun _ => .inl rfl, .inr ⟨_, vs.toArray, _, hk, rfl, rfl, rfl, by rw [List.size_toArray, lenV]; exact hl, by simpa using rv⟩, fun b u z => (nomatch (show (none : Option HO) = some u from z)), fun b z => absurd rfl z⟩
  | none =>
    let u : HO := .frz { cls := .type "list", data := .seq vs.toArray } (.lst (ns.map V.int))
    have hH : ∀ b, b = a → (fun b => if b = a then some u else none : Hp) b = some u := fun b e => if_pos e
    have hN : ∀ b, b ≠ a → (fun b => if b = a then some u else none : Hp) b = none := fun b e => if_neg e
    refine ⟨fun b => if b = a then some u else none, fun b => ?_, .inl (.inr ⟨_, hH a rfl⟩), fun b v z => ?_, fun b z => ?_⟩
    · by_cases e : b = a
      · exact .inr ⟨_, _, hH b e⟩
      · exact .inl (hN b e)
    · by_cases e : b = a
      · have q := (hH b e).symm.trans z
        cases q
        subst e
        exact ⟨ha, by rw [List.length_map]; exact hl, vs, _, rv, ha⟩
      · exact nomatch (hN b e).symm.trans z
    · by_cases e : b = a
      · exact ⟨e, rfl⟩
      · exact absurd (hN b e) z
theorem walkG {l : PySem.W.OpenLaw} {n : Nat} {q : Program} {loose : List Str} {XP : (Str → Option Value) → Heap → Prop} {YP : World → Heap → Prop} {d : DefRec} (hn : l.most = some n) (hn2 : n ≤ sizeLine) (hdf : d.params.defaults = [])
    (F : ∀ (w : World) (mg : Str → Option Value) (fa : Addr) (h : Heap), YP w h → h.Ns mainGlobals mg → mg d.name = some (.ref fa) → ∃ K : PySem.W.Frag, K.In h ∧ LawG l w K n mg fa) : PySem.W.WalkO q loose XP YP l.row.toRowW d [] (fun f vs => PySem.call f vs) := by
  refine Att.attach_callB hn hdf fun w s₀ s₁ mg mb fa o pm cd doc a vs ns G Y ho hd hcd hmg hobj hints hlen hbits hg => ?_
  obtain ⟨K, KX, hF⟩ := F w mg fa _ Y G.T.g hmg
  obtain ⟨H, hO, hS, hok, hA⟩ := entry (P := l.prog) (w := w) KX hobj hints (Nat.le_trans hlen hn2)
  have free : ∀ {b : Addr} {o : Obj}, s₁.heap.get? b = some o → (∀ vs n, o.data ≠ .seq vs n) ∨ (∃ o', K.lookup b = some o') → (hidT s₁.heap H).get? b = some o := fun {b o} e h => hidT_get e (by
    cases z : H b with
    | none => rfl
    | some u =>
      obtain ⟨rfl, hk⟩ := hA b (by rw [z]; exact fun t => nomatch t)
      rcases h with h | ⟨o', h⟩
      · rw [hobj] at e
        cases e
        exact (h _ _ rfl).elim
      · rw [hk] at h
        cases h)
  have ns_ : ∀ {b : Addr} {m : Str → Option Value}, s₁.heap.Ns b m → (hidT s₁.heap H).Ns b m := fun ⟨o, es, ep, e, d, r⟩ => ⟨o, es, ep, free e (.inl fun vs n z => by rw [d] at z; cases z), d, r⟩
  have hM : L2.Mod K mg (hidT s₁.heap H) := ⟨fun b o e => free (KX b o e) (.inr ⟨o, e⟩), ns_ G.T.g, ⟨mb, ns_ G.T.b, G.T.builtins⟩, let ⟨mc, h1, h2⟩ := G.T.nolimit; ⟨mc, ns_ h1, h2⟩⟩
  have e0 : Env0 l.prog w K mg (hidT s₁.heap H) callerA [] s₁ H := ⟨rfl, hM, fun b o e => of_hidT e, Nat.le_of_eq (hidT_size _ _), trivial, fun b hb => absurd (show b ∈ ([] : List Addr) from hb) (by simp), hok, .of_eq hg⟩
  refine codeAny_mono (hF _ s₁ H a ns hlen e0 hS) fun r s' h => ?_
  match r, h with
  | .error e, h => exact (cx_end w H s₁ e s' h).elim
  | .ok .next, h => exact False.elim h
  | .ok .brk, h => exact False.elim h
  | .ok .cont, h => exact False.elim h
  | .ok (.ret u), ⟨v, H', os, bare, un, hok', r', q⟩ =>
    have q' : v = .bl true := q
    subst q'
    obtain rfl : u = Value.bool true := r'
    refine ⟨rfl, OldK.of_keep fun b o e => ?_, os, bare⟩
    rcases hO b with z | ⟨ob, xs, z⟩
    · exact un.keep b o e z (fun t => absurd (show b ∈ ([] : List Addr) from t) (by simp)) (by simp)
    · obtain ⟨e1, _⟩ := hok b _ z
      obtain ⟨e2, _⟩ := hok' b _ (un.frzs b ob _ z)
      rw [e] at e1
      cases e1
      exact e2
/-- the end of a law -/
theorem lawG {l : PySem.W.OpenLaw} {L : LawD} {h : Heap} {f k : Nat} {fn : Fn} {fa : Addr} (KX : K.In h) (G : h.Ns mainGlobals mg) (hx : L.exB K = true) (hs : He5.SaysA [] L.fns K) (hf : ∀ f fn, L.T.fs[f]? = some fn → L.fnB f fn = true) (hn : L.nmB = true) (htb : L.c.tb = L.T)
    (hT : L.T.fs[f]? = some fn) (hfa : mg ("law" : Str) = some (.ref fa)) (hgl : L.c.gl.lookup ("law" : Str) = some (.fn f)) (hb : ∀ a, bindF fn [.ref a] [] = some [.ref a]) (hu : RoomG (2 * (k + 1)) callerA)
    (hp : PlainLaw L.T f k) : LawG l w K 63 mg fa := by
  intro base s H a ns hl e0 hS
  have F : WorldF l.prog w K mg (L.st K) L.c L.T := worldF KX G hx hs hf hn htb
  have eA : fa = (L.st K).fa f := by
    obtain ⟨v, u, m1, m2, m3⟩ := F.gl "law" _ hgl
    have hv : v = .ref ((L.st K).fa f) := by cases m3 (fun _ => none); rfl
    subst hv
    rw [hfa] at m1
    cases m1
    cases m2
    rfl
  subst eA
  have hno : noLists K = true := by
    unfold LawD.exB at hx
    simp only [Bool.and_eq_true] at hx
    exact hx.1.1
  obtain ⟨S, h1, h2, h3⟩ := script_st (L := layP l.prog w K (L.st K)) hno hS
  have := fnp F (k + 1) f fn callerA [] s H [.ref a] [] [.ref a] [] [.ref a] [] [] [.ref a] S noX (fun v _ => v = .bl true) (fun _ _ _ => False) hu e0 hT (.cons rfl .nil) (.cons .ref .nil) .nil .nil rfl (fun i hi => by cases hi) h1
    (fun x S' cls d H' f' r' x' e' => e') (hb a) (hp a ns S _ noX hl h2 h3 (fun S' v H' f' r' rep => by cases rep; rfl))
  simpa using this
end
end PD
set_option Elab.async false
set_option linter.all false
set_option maxRecDepth 100000
set_option maxHeartbeats 1000000
/-! PP: plain proofs: rules for the plain meaning. -/
namespace PD
open PySem PySem.Spec PyProof.Rows L2
/-! ### stores that grow -/
def Ge (S S' : Sto) : Prop := ∀ a o, S a = some o → S' a = some o
section
variable {S S' S'' : Sto} {a : Addr} {o : O}
theorem Ge.refl : Ge S S := fun _ _ h => h
theorem Ge.trans (h : Ge S S') (g : Ge S' S'') : Ge S S'' := fun a o e => g a o (h a o e)
theorem Ge.new (h : S a = none) : Ge S (put S a o) := fun b u e => by
  have n : b ≠ a := fun z => by rw [z, h] at e; cases e
  rw [put_ne n]; exact e
/-- a change at an object that the older store does not know -/
theorem Ge.over (g : Ge S S') (h : S a = none) : Ge S (put S' a o) := fun b u e => by
  have n : b ≠ a := fun z => by rw [z, h] at e; cases e
  rw [put_ne n]; exact g b u e
theorem Ge.mut (g : Ge S S') (h : S a = none) (e : ∀ c, c ≠ a → S'' c = S' c) : Ge S S'' := fun b u q => by
  have n : b ≠ a := fun z => by rw [z, h] at q; cases q
  rw [e b n]
  exact g b u q
theorem Ge.at (g : Ge S S') (h : S a = some o) : S' a = some o := g a o h
theorem new_ge {Q : WD} (h : ∀ p S', S p = none → Ge S S' → S' p = some o → Q (.ref p) S') : new o S Q := fun p hp => h p _ hp (.new hp) put_same
end
/-! ### loops -/
theorem loop_list {α : Type} {src : Src} {body : D → α → Sto → (α → Sto → Prop) → Prop} {fin : α → Sto → Prop} {a : α} {S : Sto} (ds : List D) (I : Nat → α → Sto → Prop) (h0 : I 0 a S) (hsrc : ∀ i a S, i ≤ ds.length → I i a S → src i S = some ds[i]?)
    (hb : ∀ i d a S Q', ds[i]? = some d → I i a S → (∀ a' S', I (i + 1) a' S' → Q' a' S') → body d a S Q') (hf : ∀ a S, I ds.length a S → fin a S) : wLoop src body fin a S := by
  refine ⟨fun i m a S => i ≤ ds.length ∧ m = ds.length - i ∧ I i a S, ⟨ds.length, Nat.zero_le _, rfl, h0⟩, ?_⟩
  rintro i m a S ⟨h1, h2, h3⟩
  rw [hsrc i a S h1 h3]
  by_cases hi : i < ds.length
  · rw [List.getElem?_eq_getElem hi]
    refine hb i _ a S _ (List.getElem?_eq_getElem hi) h3 fun a' S' h => ⟨ds.length - (i + 1), by omega, by omega, rfl, h⟩
  · have e : i = ds.length := by omega
    subst e
    rw [List.getElem?_eq_none (Nat.le_refl _)]
    exact hf a S h3
/-- a while: by a measure -/
theorem wh_rule {T : Tab} {Φ : Phi} {t : E} {b : List C} {Z : WEnds} {ρ : Rho} {S : Sto} (W : Nat → Rho → Sto → Prop) (m0 : Nat) (h0 : W m0 ρ S)
    (h : ∀ m ρ S, W m ρ S → wE T Φ t ρ S (fun x S1 => ∃ c, truth S1 x = some c ∧ if c = true then wSs T Φ b { Z with nx := fun ρ' S' => ∃ m', m' < m ∧ W m' ρ' S', ct := fun ρ' S' => ∃ m', m' < m ∧ W m' ρ' S', bk := Z.nx } ρ S1 else Z.nx ρ S1) (Z.ex ρ)) :
    wS T Φ (.wh t b) Z ρ S := by
  rw [wS]
  exact ⟨W, ⟨m0, h0⟩, h⟩
/-! ### sources -/
theorem src_tup {xs : List D} {i : Nat} {S : Sto} : sSeq (.tup xs) i S = some xs[i]? := rfl
theorem src_ref {a : Addr} {xs : List D} {i : Nat} {S : Sto} (h : S a = some (.lst xs)) : sSeq (.ref a) i S = some xs[i]? := by
  show (seqOf S (.ref a)).map _ = _
  have : seqOf S (.ref a) = some xs := by
    show (match at_ S a with
      | some (.lst xs) => some xs
      | _ => none) = _
    unfold at_
    rw [h]
    rfl
  rw [this]
  rfl
theorem seq_ref {a : Addr} {xs : List D} {S : Sto} (h : S a = some (.lst xs)) : seqOf S (.ref a) = some xs := by
  show (match at_ S a with
    | some (.lst xs) => some xs
    | _ => none) = _
  unfold at_
  rw [h]
  rfl
theorem src_range {lo : Int} {n i : Nat} {S : Sto} : sRange lo 1 n i S = some (((List.range n).map fun (k : Nat) => D.int (lo + (k : Int)))[i]?) := by
  unfold sRange
  by_cases h : i < n
  · rw [if_pos h, List.getElem?_map, List.getElem?_range h, Int.mul_one]
    rfl
  · rw [if_neg h, List.getElem?_eq_none (by simpa using Nat.le_of_not_lt h)]
theorem src_str {z : Str} {i : Nat} {S : Sto} : sSeq (.str z) i S = some ((z.cps.toList.map fun c => D.str ⟨#[c]⟩)[i]?) := by
  show some _ = _
  rw [List.getElem?_map]
def enumD (xs : List D) : List D := (List.range xs.length).map fun (i : Nat) => D.tup [.int (i : Int), xs.getD i .non]
theorem src_enum {x : D} {xs : List D} {i : Nat} {S : Sto} (h : sSeq x i S = some xs[i]?) : sEnum x i S = some (enumD xs)[i]? := by
  unfold sEnum enumD
  rw [h]
  by_cases hi : i < xs.length
  · rw [List.getElem?_map, List.getElem?_range hi, List.getElem?_eq_getElem hi]
    simp [List.getD_eq_getElem?_getD, List.getElem?_eq_getElem hi]
  · rw [List.getElem?_eq_none (by omega), List.getElem?_eq_none (by simpa using Nat.le_of_not_lt hi)]
    rfl
theorem src_zip {x y : D} {xs ys : List D} {i : Nat} {S : Sto} (hx : sSeq x i S = some xs[i]?) (hy : sSeq y i S = some ys[i]?) : sZip x y i S = some ((xs.zip ys).map fun p => D.tup [p.1, p.2])[i]? := by
  unfold sZip
  rw [hx, hy, List.getElem?_map, List.zip, List.getElem?_zipWith]
  cases xs[i]? <;> cases ys[i]? <;> rfl
/-! ### calls -/
section
variable {T : Tab} {Φ : Phi} {ρ : Rho} {S : Sto} {Q : WD} {Ex : WX}
theorem call_at {f : Nat} {fn : Fn} {kw : List Nat} {ds ps : List D} (h : T.fs[f]? = some fn) (hb : bindF fn (splitKw kw ds).1 (splitKw kw ds).2 = some ps) : wCall T Φ f kw ds S Q Ex = Φ f ps S Q Ex := by
  refine propext ⟨fun ⟨fn', ps', h1, h2, h3⟩ => ?_, fun q => ⟨fn, ps, h, hb, q⟩⟩
  rw [h] at h1
  cases h1
  rw [hb] at h2
  cases h2
  exact h3
theorem op_call {f : Nat} {kw : List Nat} {ds : List D} : wO T Φ (.call f kw false) ds S Q Ex = wCall T Φ f kw ds S Q Ex := by
  show (∃ ds', lastStar S false ds = some ds' ∧ wCall T Φ f kw ds' S Q Ex) = _
  refine propext ⟨fun ⟨ds', h1, h2⟩ => ?_, fun q => ⟨ds, rfl, q⟩⟩
  cases h1
  exact h2
/-- a def's body, one deeper -/
theorem phi_at {k f : Nat} {fn : Fn} {ps : List D} (h : T.fs[f]? = some fn) (hl : ps.length = fn.npos + (if fn.star = true then 1 else 0) + fn.nkw) (hz : ps.length ≤ fn.size) (q : wFn T (phi T k) fn ps S Q Ex) : phi T (k + 1) f ps S Q Ex :=
  ⟨fn, h, hl, hz, q⟩
/-! ### comprehensions of one clause -/
theorem comp1 {kk : CK} {elt : List E} {vs : List Nat} {t : G} {ik : IK} {it ifs : List E} (R : List D → Sto → Prop) (hit : wEs T Φ it ρ S R Ex) (h : ∀ xs S1, R xs S1 → wSrc ik xs S1 fun src l S2 => l = none ∧ ∃ (ds : List D) (I : Nat → List (List D) → Sto → Prop), I 0 [] S2 ∧
      (∀ i acc S', i ≤ ds.length → I i acc S' → src i S' = some ds[i]?) ∧
      (∀ i d acc S' (Q' : List (List D) → Sto → Prop), ds[i]? = some d → I i acc S' → (∀ acc' S'', I (i + 1) acc' S'' → Q' acc' S'') → wG T Φ t d (wipeR ρ vs) S' (fun ρ' S' => wIfs T Φ ifs ρ' S' (fun b S'' => if b = true then wEs T Φ elt ρ' S'' (fun es S1 => emitOk kk acc es ∧ Q' (acc ++ [es]) S1) noX else Q' acc S'')) noX) ∧
      (∀ acc S', I ds.length acc S' → new (accO kk acc) S' Q)) (hΦ : PhiMono Φ) : wE T Φ (.comp kk elt [.mk vs t ik it ifs]) ρ S Q Ex := by
  rw [wE, wGens, wGen]
  refine wEs_mono hΦ _ _ _ _ _ _ _ (fun xs S1 r => wSrc_mono (fun src l S2 q => ?_) (h xs S1 r)) (fun _ _ w => w) hit
  obtain ⟨rfl, ds, I, h0, hs, hb, hf⟩ := q
  simp only [wGens]
  exact loop_list ds I h0 hs hb hf
/-- a list of what is done to each item -/
theorem comp_map {e : E} {vs : List Nat} {t : G} {ik : IK} {it : List E} (R : List D → Sto → Prop) (hit : wEs T Φ it ρ S R Ex) (hΦ : PhiMono Φ) (h : ∀ xs S1, R xs S1 → wSrc ik xs S1 fun src l S2 => l = none ∧ ∃ (ds : List D) (f : D → D), ds.length ≤ sizeLine ∧ (∀ i S', Ge S2 S' → src i S' = some ds[i]?) ∧
      (∀ d ∈ ds, ∀ S' Q', Ge S2 S' → (∀ S'', Ge S' S'' → Q' (f d) S'') → wG T Φ t d (wipeR ρ vs) S' (fun ρ' S' => wE T Φ e ρ' S' Q' noX) noX) ∧ (∀ S', Ge S2 S' → new (.lst (ds.map f)) S' Q)) : wE T Φ (.comp .lst [e] [.mk vs t ik it []]) ρ S Q Ex := by
  refine comp1 R hit (fun xs S1 r => wSrc_mono (fun src l S2 q => ?_) (h xs S1 r)) hΦ
  obtain ⟨rfl, ds, f, hl, hs, hb, hf⟩ := q
  refine ⟨rfl, ds, fun i acc S' => acc = (ds.take i).map (fun d => [f d]) ∧ Ge S2 S', ⟨by simp, .refl⟩, fun i acc S' _ h => hs i S' h.2, fun i d acc S' Q' hd hI hq => ?_, fun acc S' hI => ?_⟩
  · have lt : i < ds.length := (List.getElem?_eq_some_iff.mp hd).1
    have key := hb d (List.mem_of_getElem? hd) S' (fun x S1 => emitOk .lst acc [x] ∧ Q' (acc ++ [[x]]) S1) hI.2 fun S'' g => by
      refine ⟨?_, hq _ _ ⟨?_, hI.2.trans g⟩⟩
      · show acc.length < sizeLine
        rw [hI.1, List.length_map, List.length_take]
        omega
      · rw [hI.1, List.take_add_one, hd]
        simp
    refine wG_mono hΦ _ _ _ _ _ _ _ _ (fun ρ' S' z => ?_) (fun _ _ w => w) key
    rw [wIfs]
    simp only [if_true]
    rw [wEs]
    simp only [wEs]
    exact z
  · have e1 := hI.1
    rw [List.take_length] at e1
    have := hf S' hI.2
    show new (.lst (acc.map fun ds => ds.headD .non)) S' Q
    rw [e1, List.map_map]
    exact this
end
end PD
set_option Elab.async false
set_option linter.all false
set_option maxRecDepth 100000
set_option maxHeartbeats 1000000
/-! PP: what the store answers; small facts for simp. -/
namespace PD
open PySem
def O.seq? : O → Option (List D)
  | .lst xs => some xs
  | _ => none
def O.dct? : O → Option (List (D × D))
  | .dct xs => some xs
  | _ => none
section
variable {S : Sto} {a b : Addr} {o : O} {xs : List D} {kvs : List (D × D)}
theorem at_put : at_ (put S a o) a = some o.un := by unfold at_; rw [put_same]; rfl
theorem at_put_ne (h : b ≠ a) : at_ (put S a o) b = at_ S b := by unfold at_; rw [put_ne h]
theorem seq_at {o : O} (h : at_ S a = some o) : seqOf S (.ref a) = o.seq? := by
  show (match at_ S a with
    | some (.lst xs) => some xs
    | _ => none) = _
  rw [h]
  cases o <;> rfl
theorem dct_at {o : O} (h : at_ S a = some o) : dctOf S (.ref a) = o.dct? := by
  show (match at_ S a with
    | some (.dct xs) => some xs
    | _ => none) = _
  rw [h]
  cases o <;> rfl
theorem seq_put : seqOf (put S a (.lst xs)) (.ref a) = some xs := seq_at at_put
theorem seq_put_ne (h : b ≠ a) : seqOf (put S a o) (.ref b) = seqOf S (.ref b) := by
  show (match at_ (put S a o) b with
    | some (.lst xs) => some xs
    | _ => none) = _
  rw [at_put_ne h]
  rfl
theorem dct_put_l : dctOf (put S a (.lst xs)) (.ref a) = none := dct_at at_put
theorem dct_put : dctOf (put S a (.dct kvs)) (.ref a) = some kvs := dct_at at_put
theorem dct_put_ne (h : b ≠ a) : dctOf (put S a o) (.ref b) = dctOf S (.ref b) := by
  show (match at_ (put S a o) b with
    | some (.dct xs) => some xs
    | _ => none) = _
  rw [at_put_ne h]
  rfl
theorem seq_lst (h : S a = some (.lst xs)) : seqOf S (.ref a) = some xs := seq_ref h
theorem dct_lst (h : S a = some (.lst xs)) : dctOf S (.ref a) = none := dct_at (o := .lst xs) (by unfold at_; rw [h]; rfl)
theorem dct_dct (h : S a = some (.dct kvs)) : dctOf S (.ref a) = some kvs := dct_at (o := .dct kvs) (by unfold at_; rw [h]; rfl)
theorem seq_tup : seqOf S (.tup xs) = some xs := rfl
end
section
variable {α : Type} {x y z w : α} {l : List α}
theorem ixN_nat {n i : Nat} (h : i < n) : L2.ixN n (i : Int) = some i := by
  unfold L2.ixN
  rw [if_pos (Int.natCast_nonneg i)]
  simp [h]
theorem atI_nat {i : Nat} : L2.atI l (i : Int) = l[i]? := by
  unfold L2.atI
  by_cases h : i < l.length
  · rw [ixN_nat h]; rfl
  · rw [List.getElem?_eq_none (Nat.le_of_not_lt h)]
    unfold L2.ixN
    rw [if_pos (Int.natCast_nonneg i)]
    simp [h]
theorem at0 : L2.atI (x :: l) 0 = some x := atI_nat (i := 0)
theorem at1 : L2.atI (x :: y :: l) 1 = some y := atI_nat (i := 1)
theorem at2 : L2.atI (x :: y :: z :: l) 2 = some z := atI_nat (i := 2)
theorem at3 : L2.atI (x :: y :: z :: w :: l) 3 = some w := atI_nat (i := 3)
end
end PD
set_option Elab.async false
set_option linter.all false
set_option maxRecDepth 100000
set_option maxHeartbeats 1000000
/-! PP: rules, to be applied one behind the other. -/
namespace PD
open PySem
section
variable {T : Tab} {Φ : Phi} {ρ : Rho} {S : Sto} {Q : WD} {Ex : PD.WX} {Z : WEnds} {d x y : D} {i j : Int} {a b : Addr} {o : Op} {es : List E} {e e1 e2 : E} {xs ys ds : List D} {R : List D → Sto → Prop}
/-! expressions -/
theorem r_cst (h : Q d S) : PD.wE T Φ (.cst d) ρ S Q Ex := by rw [PD.wE]; exact h
theorem r_var {n : Nat} (h : ρ[n]? = some (some d)) (q : Q d S) : PD.wE T Φ (.var n) ρ S Q Ex := by rw [PD.wE]; exact ⟨d, h, q⟩
theorem r_op (h : wEs T Φ es ρ S (fun ds S1 => wO T Φ o ds S1 Q Ex) Ex) : PD.wE T Φ (.op o es) ρ S Q Ex := by rw [PD.wE]; exact h
theorem r_nil (h : R [] S) : wEs T Φ [] ρ S R Ex := by rw [wEs]; exact h
theorem r_cons (h : PD.wE T Φ e ρ S (fun d S1 => wEs T Φ es ρ S1 (fun ds S2 => R (d :: ds) S2) Ex) Ex) : wEs T Φ (e :: es) ρ S R Ex := by rw [wEs]; exact h
theorem r_and (h : PD.wE T Φ e1 ρ S (fun x S1 => ∃ c, truth S1 x = some c ∧ if c = true then PD.wE T Φ e2 ρ S1 Q Ex else Q x S1) Ex) : PD.wE T Φ (.and e1 e2) ρ S Q Ex := by rw [PD.wE]; exact h
theorem r_or (h : PD.wE T Φ e1 ρ S (fun x S1 => ∃ c, truth S1 x = some c ∧ if c = true then Q x S1 else PD.wE T Φ e2 ρ S1 Q Ex) Ex) : PD.wE T Φ (.or e1 e2) ρ S Q Ex := by rw [PD.wE]; exact h
theorem r_not (h : PD.wE T Φ e ρ S (fun x S1 => ∃ c, truth S1 x = some c ∧ Q (.bl (!c)) S1) Ex) : PD.wE T Φ (.not e) ρ S Q Ex := by rw [PD.wE]; exact h
theorem r_ife {t : E} (h : PD.wE T Φ t ρ S (fun x S1 => ∃ c, truth S1 x = some c ∧ if c = true then PD.wE T Φ e1 ρ S1 Q Ex else PD.wE T Φ e2 ρ S1 Q Ex) Ex) : PD.wE T Φ (.ite t e1 e2) ρ S Q Ex := by rw [PD.wE]; exact h
theorem r_chn {o1 o2 : Cmp} {a b c : E} (h : PD.wE T Φ a ρ S (fun x S1 => PD.wE T Φ b ρ S1 (fun y S2 => wO T Φ (.cmp o1) [x, y] S2 (fun v S3 => ∃ k, v = .bl k ∧ if k = true then PD.wE T Φ c ρ S3 (fun z S4 => wO T Φ (.cmp o2) [y, z] S4 Q Ex) Ex else Q (.bl false) S3) Ex) Ex) Ex) : PD.wE T Φ (.chn o1 o2 a b c) ρ S Q Ex := by rw [PD.wE]; exact h
theorem r_sl {lo hi : List E} (h : PD.wE T Φ e ρ S (fun x S1 => wPt T Φ lo ρ S1 (fun l S2 => wPt T Φ hi ρ S2 (fun h S3 => wSl x l h S3 Q) Ex) Ex) Ex) : PD.wE T Φ (.sl e lo hi) ρ S Q Ex := by rw [PD.wE]; exact h
theorem r_pt0 {R : Option Int → Sto → Prop} (h : R none S) : wPt T Φ [] ρ S R Ex := by rw [wPt]; exact h
theorem r_pt1 {R : Option Int → Sto → Prop} (h : PD.wE T Φ e ρ S (fun d S1 => ∃ i, d = .int i ∧ R (some i) S1) Ex) : wPt T Φ [e] ρ S R Ex := by rw [wPt]; exact h
theorem r_fstr (h : wJ T Φ es Str.empty ρ S Q Ex) : PD.wE T Φ (.fstr es) ρ S Q Ex := by rw [PD.wE]; exact h
theorem r_j0 {acc : Str} (h : Q (.str acc) S) : wJ T Φ [] acc ρ S Q Ex := by rw [wJ]; exact h
theorem r_j1 {acc : Str} (h : PD.wE T Φ e ρ S (fun d S1 => ∃ y, fmtOf d = some y ∧ (acc ++ y).length ≤ sizeLine ∧ wJ T Φ es (acc ++ y) ρ S1 Q Ex) Ex) : wJ T Φ (e :: es) acc ρ S Q Ex := by rw [wJ]; exact h
theorem r_fmt {y acc : Str} {P : Str → Prop} (h1 : y.length ≤ sizeLine) (h2 : (acc ++ y).length ≤ sizeLine) (h : P y) : ∃ z, fmtOf (.str y) = some z ∧ (acc ++ z).length ≤ sizeLine ∧ P z := ⟨y, if_pos h1, h2, h⟩
theorem r_fmti {acc : Str} {P : Str → Prop} (h1 : i.natAbs.log2 < 1920) (h2 : (acc ++ Str.ofString (toString i)).length ≤ sizeLine) (h : P (Str.ofString (toString i))) : ∃ z, fmtOf (.int i) = some z ∧ (acc ++ z).length ≤ sizeLine ∧ P z := ⟨_, if_pos h1, h2, h⟩
theorem r_exint {P : Int → Prop} (h : P i) : ∃ j, D.int i = .int j ∧ P j := ⟨i, rfl, h⟩
theorem r_exbl {k : Bool} {P : Bool → Prop} (h : P k) : ∃ j, D.bl k = .bl j ∧ P j := ⟨k, rfl, h⟩
theorem wE_cut {R : WD} (h : PD.wE T Φ e ρ S R Ex) (hΦ : PhiMono Φ) (k : ∀ d S', R d S' → Q d S') : PD.wE T Φ e ρ S Q Ex := wE_mono hΦ _ _ _ _ _ _ _ k (fun _ _ w => w) h
/-! truth -/
theorem t_bl {k : Bool} {A : Bool → Prop} (h : A k) : ∃ c, truth S (.bl k) = some c ∧ A c := ⟨k, rfl, h⟩
theorem t_tt {A B : Prop} (h : A) : if true = true then A else B := h
theorem t_ff {A B : Prop} (h : B) : if false = true then A else B := h
theorem t_nt {A B : Prop} (h : B) : if (!true) = true then A else B := h
theorem t_nf {A B : Prop} (h : A) : if (!false) = true then A else B := h
theorem t_cond {p : Prop} [Decidable p] {A B : Prop} (h1 : p → A) (h2 : ¬ p → B) : if decide p = true then A else B := by
  by_cases h : p
  · rw [if_pos (by simpa using h)]; exact h1 h
  · rw [if_neg (by simpa using h)]; exact h2 h
theorem t_ncond {p : Prop} [Decidable p] {A B : Prop} (h1 : p → B) (h2 : ¬ p → A) : if (!decide p) = true then A else B := by
  by_cases h : p
  · rw [if_neg (by simpa using h)]; exact h1 h
  · rw [if_pos (by simpa using h)]; exact h2 h
/-! operators -/
theorem o_add (h : Q (.int (i + j)) S) : wO T Φ (.bin .add) [.int i, .int j] S Q Ex := h
theorem o_sub (h : Q (.int (i - j)) S) : wO T Φ (.bin .sub) [.int i, .int j] S Q Ex := h
theorem o_mul (h1 : L2.CMul i j) (h : Q (.int (i * j)) S) : wO T Φ (.bin .mul) [.int i, .int j] S Q Ex := ⟨h1, h⟩
theorem o_fdiv (h1 : j ≠ 0 ∧ j.natAbs < 1073741824) (h : Q (.int (i.fdiv j)) S) : wO T Φ (.bin .fdiv) [.int i, .int j] S Q Ex := ⟨h1, h⟩
theorem o_mod (h1 : j ≠ 0) (h : Q (.int (i.fmod j)) S) : wO T Φ (.bin .mod) [.int i, .int j] S Q Ex := ⟨h1, h⟩
theorem o_pow (h1 : 0 ≤ j ∧ j ≤ 1000000 ∧ i.natAbs < 2 ^ 64) (h : Q (.int (i ^ j.toNat)) S) : wO T Φ (.bin .pow) [.int i, .int j] S Q Ex := ⟨h1, h⟩
theorem o_adds {u v : Str} (h1 : u.length + v.length ≤ sizeLine) (h : Q (.str (u ++ v)) S) : wO T Φ (.bin .add) [.str u, .str v] S Q Ex := ⟨h1, h⟩
theorem o_addt (h1 : xs.length + ys.length ≤ sizeLine) (h : Q (.tup (xs ++ ys)) S) : wO T Φ (.bin .add) [.tup xs, .tup ys] S Q Ex := ⟨h1, h⟩
theorem o_neg (h : Q (.int (-i)) S) : wO T Φ .neg [.int i] S Q Ex := h
theorem o_lt (h : Q (.bl (decide (i < j))) S) : wO T Φ (.cmp .lt) [.int i, .int j] S Q Ex := .inl h
theorem o_le (h : Q (.bl (decide (i ≤ j))) S) : wO T Φ (.cmp .le) [.int i, .int j] S Q Ex := .inl ⟨i, j, rfl, rfl, h⟩
theorem o_gt (h : Q (.bl (decide (j < i))) S) : wO T Φ (.cmp .gt) [.int i, .int j] S Q Ex := .inl ⟨i, j, rfl, rfl, h⟩
theorem o_ge (h : Q (.bl (decide (j ≤ i))) S) : wO T Φ (.cmp .ge) [.int i, .int j] S Q Ex := .inl ⟨i, j, rfl, rfl, h⟩
theorem o_eq {k : Bool} (h1 : EqS S x y k) (h : Q (.bl k) S) : wO T Φ (.cmp .eq) [x, y] S Q Ex := .inl ⟨k, h1, h⟩
theorem o_ne {k : Bool} (h1 : EqS S x y k) (h : Q (.bl (!k)) S) : wO T Φ (.cmp .ne) [x, y] S Q Ex := .inl ⟨k, h1, h⟩
theorem eq_int {S : Sto} {i j : Int} : EqS S (.int i) (.int j) (decide (i = j)) := .inl ⟨1, .int i, .int j, rfl, rfl, rfl, rfl, by
  show _ = (i == j)
  by_cases h : i = j
  · subst h; simp
  · rw [decide_eq_false h]; exact (beq_eq_false_iff_ne.mpr h).symm⟩
theorem o_eqi (h : Q (.bl (decide (i = j))) S) : wO T Φ (.cmp .eq) [.int i, .int j] S Q Ex := o_eq eq_int h
theorem o_nei (h : Q (.bl (!decide (i = j))) S) : wO T Φ (.cmp .ne) [.int i, .int j] S Q Ex := o_ne eq_int h
theorem eq_str {S : Sto} {u v : Str} : EqS S (.str u) (.str v) (decide (u = v)) := .inr ⟨u, v, rfl, rfl, rfl⟩
theorem o_eqs {u v : Str} (h : Q (.bl (decide (u = v))) S) : wO T Φ (.cmp .eq) [.str u, .str v] S Q Ex := o_eq eq_str h
theorem o_nes {u v : Str} (h : Q (.bl (!decide (u = v))) S) : wO T Φ (.cmp .ne) [.str u, .str v] S Q Ex := o_ne eq_str h
theorem o_ltt {kx ky : NestedKey} {b : Bool} (h1 : (D.tup xs).key = some kx) (h2 : (D.tup ys).key = some ky) (h3 : ltK kx ky = some b) (h4 : kx.depth ≤ 8) (h : Q (.bl b) S) : wO T Φ (.cmp .lt) [.tup xs, .tup ys] S Q Ex := .inl ⟨kx, ky, b, h1, h2, h3, h4, h⟩
theorem o_ins {u v : Str} (h : Q (.bl (!(Builtin.Str.occurrences v u 0 v.length 1).isEmpty)) S) : wO T Φ (.cmp .isin) [.str u, .str v] S Q Ex := .inl (.inl ⟨u, v, rfl, rfl, h⟩)
theorem o_idxr (h1 : seqOf S (.ref a) = some xs) (h2 : L2.atI xs i = some d) (h : Q d S) : wO T Φ .idx [.ref a, .int i] S Q Ex := .inl ⟨xs, i, d, h1, rfl, h2, h⟩
theorem o_idxt (h2 : L2.atI xs i = some d) (h : Q d S) : wO T Φ .idx [.tup xs, .int i] S Q Ex := .inl ⟨xs, i, d, rfl, rfl, h2, h⟩
theorem o_idxd {kvs : List (D × D)} (h1 : dctOf S (.ref a) = some kvs) (h2 : KeyOk kvs y) (h3 : look kvs y = some d) (h : Q d S) : wO T Φ .idx [.ref a, y] S Q Ex := .inr ⟨kvs, d, h1, h2, h3, h⟩
theorem o_idxs {z : Str} {c : Nat} (h1 : z.length ≤ sizeLine) (h2 : L2.atI z.cps.toList i = some c) (h : Q (.str ⟨#[c]⟩) S) : wO T Φ .idx [.str z, .int i] S Q Ex := ⟨h1, c, h2, h⟩
theorem o_rev (h1 : seqOf S (.ref a) = some xs) (h : ∀ p S', S p = none → S' p = some (.lst xs.reverse) → Ge S S' → Q (.ref p) S') : wO T Φ .rev [.ref a] S Q Ex := ⟨xs, h1, fun p hp => h p _ hp put_same (.new hp)⟩
theorem o_tup (h1 : ds.length ≤ sizeLine) (h : Q (.tup ds) S) : wO T Φ .tup ds S Q Ex := by unfold wO; exact ⟨h1, h⟩
theorem o_lst (h1 : ds.length ≤ sizeLine) (h : ∀ p S', S p = none → S' p = some (.lst ds) → Ge S S' → Q (.ref p) S') : wO T Φ .lst ds S Q Ex := by unfold wO; exact ⟨h1, fun p hp => h p _ hp put_same (.new hp)⟩
theorem o_dct (h : ∀ p S', S p = none → S' p = some (.dct []) → Ge S S' → Q (.ref p) S') : wO T Φ .dct [] S Q Ex := fun p hp => h p _ hp put_same (.new hp)
theorem o_fld {f c : Nat} {fs : List (Nat × D)} {k : Cl} (h1 : S a = some (.ins c fs)) (h2 : T.cl c = some k) (h3 : k.ms.lookup f = none) (h4 : getF fs f = some d) (h : Q d S) : wO T Φ (.attr f) [.ref a] S Q Ex := .inl ⟨a, c, fs, d, k, rfl, h1, h2, h3, h4, h⟩
theorem o_prop {f g : Nat} (h1 : methOf T S x f = some (.prop, g, x)) (h : wCall T Φ g [] [x] S Q noX) : wO T Φ (.attr f) [x] S Q Ex := .inr ⟨g, h1, h⟩
theorem o_isi {ts : List Ty} {k : Bool} (h1 : isAny T S x ts = some k) (h : Q (.bl k) S) : wO T Φ (.isi ts) [x] S Q Ex := ⟨k, h1, h⟩
theorem o_call {f : Nat} {fn : Fn} {kw : List Nat} {ps : List D} (h1 : T.fs[f]? = some fn) (h2 : bindF fn (splitKw kw ds).1 (splitKw kw ds).2 = some ps) (h : Φ f ps S Q Ex) : wO T Φ (.call f kw false) ds S Q Ex := by
  rw [op_call, call_at h1 h2]
  exact h
theorem o_len {n : Nat} (h1 : lenOf S x n) (h : Q (.int n) S) : wO T Φ (.blt .len) [x] S Q Ex := ⟨n, h1, h⟩
theorem o_tuple (h1 : seqOf S x = some xs) (h : Q (.tup xs) S) : wO T Φ (.blt .tuple) [x] S Q Ex := ⟨xs, h1, h⟩
theorem o_list (h1 : seqOf S x = some xs) (h : ∀ p S', S p = none → S' p = some (.lst xs) → Ge S S' → Q (.ref p) S') : wO T Φ (.blt .list) [x] S Q Ex := ⟨xs, h1, fun p hp => h p _ hp put_same (.new hp)⟩
theorem o_all {bs : List Bool} (h1 : seqOf S (.ref a) = some (bs.map D.bl)) (h : Q (.bl (bs.all id)) S) : wO T Φ (.blt .all) [.ref a] S Q Ex := ⟨bs, h1, h⟩
theorem o_min (h : Q (.int (if j < i then j else i)) S) : wO T Φ (.blt .min) [.int i, .int j] S Q Ex := ⟨i, j, rfl, rfl, h⟩
theorem o_sorted (h1 : srtOf S (.ref a) = some xs) (h2 : SortD xs) (h : ∀ ys r S', ys.Perm xs → ys.Pairwise (fun a b => ltD b a = false) → S r = none → S' r = some (.lst ys) → Ge S S' → Q (.ref r) S') : wO T Φ (.blt .sorted) [.ref a] S Q Ex := ⟨xs, h1, h2, fun ys h3 h4 p hp => h ys p _ h3 h4 hp put_same (.new hp)⟩
theorem srt_dct {kvs : List (D × D)} (h : S a = some (.dct kvs)) : srtOf S (.ref a) = some (kvs.map (·.1)) := by
  unfold srtOf at_
  simp only [h]
  rfl
theorem o_intb {k : Bool} (h : Q (.int (if k then 1 else 0)) S) : wO T Φ (.blt .int) [.bl k] S Q Ex := .inr (.inl ⟨k, rfl, h⟩)
theorem o_ints {z : Str} (h1 : PySem.intText? z = some i) (h2 : z.length ≤ 640) (h : Q (.int i) S) : wO T Φ (.blt .int) [.str z] S Q Ex := .inr (.inr ⟨z, i, rfl, h1, h2, h⟩)
theorem o_str (h1 : i.natAbs.log2 < 1920) (h : Q (.str (Str.ofString (toString i))) S) : wO T Φ (.blt .str) [.int i] S Q Ex := ⟨i, rfl, h1, h⟩
theorem o_repr {n : Nat} {p : PyData} (h1 : n ≤ 60) (h2 : snap S n x = some p) (h3 : p.showable = true) (h4 : p.shown.length ≤ sizeLine) (h : Q (.str p.shown) S) : wO T Φ (.blt .repr) [x] S Q Ex := ⟨n, p, h1, h2, h3, h4, h⟩
/-! slices -/
theorem sl_str {z : Str} {lo hi : Option Int} (h1 : z.length ≤ sizeLine) (h : Q (.str (L2.cutS z lo hi)) S) : wSl (.str z) lo hi S Q := ⟨h1, h⟩
theorem sl_tup {lo hi : Option Int} (h : Q (.tup (cutD xs lo hi)) S) : wSl (.tup xs) lo hi S Q := h
theorem sl_ref {lo hi : Option Int} (h1 : seqOf S (.ref a) = some xs) (h : ∀ p S', S p = none → S' p = some (.lst (cutD xs lo hi)) → Ge S S' → Q (.ref p) S') : wSl (.ref a) lo hi S Q := ⟨xs, h1, fun p hp => h p _ hp put_same (.new hp)⟩
/-! methods -/
theorem r_mth {r : E} {m : Mth} {f : Nat} {kw : List Nat} {star : Bool} (h : PD.wE T Φ r ρ S (fun x S1 => ∃ k, recvK T S1 x f m = some k ∧ k.fits kw star = true ∧ wEs T Φ es ρ S1 (fun ds S2 => match k with
      | .own g y => ∃ ds', lastStar S2 star ds = some ds' ∧ wCall T Φ g kw (y :: ds') S2 Q Ex
      | .bt _ => wMth m x ds S2 Q) Ex) Ex) : PD.wE T Φ (.mth r m f kw star es) ρ S Q Ex := by rw [PD.wE]; exact h
theorem m_bt {m : Mth} {f : Nat} {t : BT} (h1 : recvK T S x f m = some (.bt t)) (h : wEs T Φ es ρ S (fun ds S2 => wMth m x ds S2 Q) Ex) : ∃ k, recvK T S x f m = some k ∧ k.fits [] false = true ∧ wEs T Φ es ρ S (fun ds S2 => match k with
      | .own g y => ∃ ds', lastStar S2 false ds = some ds' ∧ wCall T Φ g [] (y :: ds') S2 Q Ex
      | .bt _ => wMth m x ds S2 Q) Ex := ⟨.bt t, h1, rfl, h⟩
theorem m_own {m : Mth} {f g : Nat} {kw : List Nat} (h1 : recvK T S x f m = some (.own g y)) (h : wEs T Φ es ρ S (fun ds S2 => wCall T Φ g kw (y :: ds) S2 Q Ex) Ex) (hΦ : PhiMono Φ) : ∃ k, recvK T S x f m = some k ∧ k.fits kw false = true ∧ wEs T Φ es ρ S (fun ds S2 => match k with
      | .own g y => ∃ ds', lastStar S2 false ds = some ds' ∧ wCall T Φ g kw (y :: ds') S2 Q Ex
      | .bt _ => wMth m x ds S2 Q) Ex := ⟨.own g y, h1, rfl, wEs_mono hΦ _ _ _ _ _ _ _ (fun ds S2 q => ⟨ds, rfl, q⟩) (fun _ _ w => w) h⟩
theorem recv_lst {f : Nat} {m : Mth} (h : S a = some (.lst xs)) (hm : mthOk .list m = true) : recvK T S (.ref a) f m = some (.bt .list) := by
  have e1 : methOf T S (.ref a) f = none := by
    unfold methOf
    simp only [h]
  have e2 : btOf S (.ref a) = some .list := by
    unfold btOf at_
    simp only [h]
    rfl
  unfold recvK
  rw [e1, e2]
  simp [hm]
theorem recv_dct {f : Nat} {m : Mth} {kvs : List (D × D)} (h : S a = some (.dct kvs)) (hm : mthOk .dict m = true) : recvK T S (.ref a) f m = some (.bt .dict) := by
  have e1 : methOf T S (.ref a) f = none := by
    unfold methOf
    simp only [h]
  have e2 : btOf S (.ref a) = some .dict := by
    unfold btOf at_
    simp only [h]
    rfl
  unfold recvK
  rw [e1, e2]
  simp [hm]
theorem recv_str {f : Nat} {m : Mth} {z : Str} (hm : mthOk .str m = true) : recvK T S (.str z) f m = some (.bt .str) := by
  show ((some BT.str).bind fun b => if mthOk b m = true then some (RK.bt b) else none) = _
  simp [hm]
theorem mm_append (h1 : S a = some (.lst xs)) (h2 : xs.length < sizeLine) (h : ∀ S', S' a = some (.lst (xs ++ [y])) → (∀ c, c ≠ a → S' c = S c) → Q .non S') : wMth .append (.ref a) [y] S Q := ⟨a, xs, rfl, h1, h2, h _ put_same fun c n => put_ne n⟩
theorem mm_setd {kvs : List (D × D)} (h1 : S a = some (.dct kvs)) (h2 : KeyOk kvs x) (h3 : kvs.length < sizeLine) (ho : ∀ v, look kvs x = some v → Q v S) (hn : look kvs x = none → ∀ S', S' a = some (.dct (kvs ++ [(x, y)])) → (∀ c, c ≠ a → S' c = S c) → Q y S') : wMth .setdefault (.ref a) [x, y] S Q := by
  refine ⟨a, kvs, rfl, h1, h2, h3, ?_⟩
  cases e : look kvs x with
  | some v => exact ho v e
  | none =>
    refine hn e _ ?_ fun c n => put_ne n
    rw [put_same]
    have : (kvs.any fun p => decide (p.1 = x)) = false := by
      unfold look at e
      rw [Option.map_eq_none_iff] at e
      exact Bool.eq_false_iff.mpr fun z => by
        obtain ⟨p, h1, h2⟩ := List.any_eq_true.mp z
        have := List.find?_eq_none.mp e p h1
        exact this h2
    unfold putD
    rw [this]
    rfl
theorem mm_pop (h1 : S a = some (.lst xs)) (h2 : xs[xs.length - 1]? = some y) (h : ∀ S', S' a = some (.lst xs.dropLast) → (∀ c, c ≠ a → S' c = S c) → Q y S') : wMth .pop (.ref a) [] S Q := ⟨a, xs, y, rfl, h1, h2, h _ put_same fun c n => put_ne n⟩
theorem mm_join {z : Str} {zs : List Str} (h1 : seqOf S y = some (zs.map D.str)) (h2 : (zs.map (·.length)).sum + zs.length * z.length ≤ 16777216) (h : Q (.str (Txt.join z zs)) S) : wMth .join (.str z) [y] S Q := ⟨z, zs, rfl, h1, h2, h⟩
theorem mm_split {u v : Str} (h1 : (v.length == 0) = false) (h2 : u.length + 2 ≤ sizeLine) (h : ∀ p S', S p = none → S' p = some (.lst ((Txt.split u v).map D.str)) → Ge S S' → Q (.ref p) S') : wMth .split (.str u) [.str v] S Q := ⟨u, v, rfl, rfl, h1, h2, fun p hp => h p _ hp put_same (.new hp)⟩
theorem mm_part {u v : Str} (h1 : (v.length == 0) = false) (h2 : u.length ≤ sizeLine) (h : Q (.tup [.str (Txt.partition u v).1, .str (Txt.partition u v).2.1, .str (Txt.partition u v).2.2]) S) : wMth .partition (.str u) [.str v] S Q := ⟨u, v, rfl, rfl, h1, h2, h⟩
/-! targets -/
theorem g_nm {n : Nat} {R : Rho → Sto → Prop} (h : R (ρ.set n (some d)) S) : PD.wG T Φ (.nm n) d ρ S R Ex := by rw [PD.wG]; exact h
theorem g_tup {gs : List G} {R : Rho → Sto → Prop} (h1 : seqOf S d = some xs) (h2 : xs.length = gs.length) (h : PD.wGs T Φ gs xs ρ S R Ex) : PD.wG T Φ (.tup gs) d ρ S R Ex := by rw [PD.wG]; exact ⟨xs, h1, h2, h⟩
theorem g_nil {R : Rho → Sto → Prop} (h : R ρ S) : PD.wGs T Φ [] [] ρ S R Ex := by rw [PD.wGs]; exact h
theorem g_cons {g : G} {gs : List G} {R : Rho → Sto → Prop} (h : PD.wG T Φ g d ρ S (fun ρ' S' => PD.wGs T Φ gs ds ρ' S' R Ex) Ex) : PD.wGs T Φ (g :: gs) (d :: ds) ρ S R Ex := by rw [PD.wGs]; exact h
theorem g_sub {R : Rho → Sto → Prop} (h : PD.wE T Φ e1 ρ S (fun x S1 => PD.wE T Φ e2 ρ S1 (fun y S2 => ∃ p, x = .ref p ∧ ((∃ xs k j, S2 p = some (.lst xs) ∧ y = .int k ∧ L2.ixN xs.length k = some j ∧ R ρ (put S2 p (.lst (xs.set j d)))) ∨
      (∃ kvs, S2 p = some (.dct kvs) ∧ KeyOk kvs y ∧ kvs.length < sizeLine ∧ R ρ (put S2 p (.dct (putD kvs y d)))))) Ex) Ex) : PD.wG T Φ (.sub e1 e2) d ρ S R Ex := by rw [PD.wG]; exact h
theorem g_subl {n : Nat} {R : Rho → Sto → Prop} (h1 : S a = some (.lst xs)) (h2 : L2.ixN xs.length i = some n) (h : ∀ S', S' a = some (.lst (xs.set n d)) → (∀ c, c ≠ a → S' c = S c) → R ρ S') : ∃ p, D.ref a = .ref p ∧ ((∃ xs k j, S p = some (.lst xs) ∧ D.int i = .int k ∧ L2.ixN xs.length k = some j ∧ R ρ (put S p (.lst (xs.set j d)))) ∨
      (∃ kvs, S p = some (.dct kvs) ∧ KeyOk kvs (.int i) ∧ kvs.length < sizeLine ∧ R ρ (put S p (.dct (putD kvs (.int i) d))))) := ⟨a, rfl, .inl ⟨xs, i, n, h1, rfl, h2, h _ put_same fun c n => put_ne n⟩⟩
theorem g_subd {kvs : List (D × D)} {R : Rho → Sto → Prop} (h1 : S a = some (.dct kvs)) (h2 : KeyOk kvs y) (h3 : kvs.length < sizeLine) (h : ∀ S', S' a = some (.dct (putD kvs y d)) → (∀ c, c ≠ a → S' c = S c) → R ρ S') : ∃ p, D.ref a = .ref p ∧ ((∃ xs k j, S p = some (.lst xs) ∧ y = .int k ∧ L2.ixN xs.length k = some j ∧ R ρ (put S p (.lst (xs.set j d)))) ∨
      (∃ kvs, S p = some (.dct kvs) ∧ KeyOk kvs y ∧ kvs.length < sizeLine ∧ R ρ (put S p (.dct (putD kvs y d))))) := ⟨a, rfl, .inr ⟨kvs, h1, h2, h3, h _ put_same fun c n => put_ne n⟩⟩
theorem g_fld {f : Nat} {R : Rho → Sto → Prop} (h : PD.wE T Φ e ρ S (fun x S1 => ∃ p c fs k, x = .ref p ∧ S1 p = some (.ins c fs) ∧ T.cl c = some k ∧ k.ms.lookup f = none ∧ fs.length < 1000 ∧ R ρ (put S1 p (.ins c (putFs f d fs)))) Ex) : PD.wG T Φ (.fld e f) d ρ S R Ex := by rw [PD.wG]; exact h
theorem g_fldr {f c : Nat} {fs : List (Nat × D)} {k : Cl} {R : Rho → Sto → Prop} (h1 : S a = some (.ins c fs)) (h2 : T.cl c = some k) (h3 : k.ms.lookup f = none) (h4 : fs.length < 1000) (h : ∀ S', S' a = some (.ins c (putFs f d fs)) → (∀ c, c ≠ a → S' c = S c) → R ρ S') :
    ∃ p c fs k, D.ref a = .ref p ∧ S p = some (.ins c fs) ∧ T.cl c = some k ∧ k.ms.lookup f = none ∧ fs.length < 1000 ∧ R ρ (put S p (.ins c (putFs f d fs))) := ⟨a, c, fs, k, rfl, h1, h2, h3, h4, h _ put_same fun c n => put_ne n⟩
/-! statements -/
theorem s_nil (h : Z.nx ρ S) : wSs T Φ [] Z ρ S := by rw [wSs]; exact h
theorem s_cons {c : C} {cs : List C} (h : wS T Φ c { Z with nx := fun ρ' S' => wSs T Φ cs Z ρ' S' } ρ S) : wSs T Φ (c :: cs) Z ρ S := by rw [wSs]; exact h
theorem s_asg {g : G} (h : PD.wE T Φ e ρ S (fun d S1 => PD.wG T Φ g d ρ S1 Z.nx noX) (Z.ex ρ)) : wS T Φ (.asg g e) Z ρ S := by rw [wS]; exact h
theorem s_ex (h : PD.wE T Φ e ρ S (fun _ S1 => Z.nx ρ S1) (Z.ex ρ)) : wS T Φ (.ex e) Z ρ S := by rw [wS]; exact h
theorem s_ret (h : PD.wE T Φ e ρ S Z.rt (Z.ex ρ)) : wS T Φ (.ret e) Z ρ S := by rw [wS]; exact h
theorem s_ite {t : E} {cs ds : List C} (h : PD.wE T Φ t ρ S (fun x S1 => ∃ c, truth S1 x = some c ∧ if c = true then wSs T Φ cs Z ρ S1 else wSs T Φ ds Z ρ S1) (Z.ex ρ)) : wS T Φ (.ite t cs ds) Z ρ S := by rw [wS]; exact h
theorem s_for {t : G} {ik : IK} {it : List E} {cs : List C} (h : wEs T Φ it ρ S (fun ds S1 => wSrc ik ds S1 fun src l S2 =>
      wLoop src (fun d ρ S Q' => PD.wG T Φ t d ρ S (fun ρ' S' => wSs T Φ cs { nx := Q', ct := Q', bk := fun ρ S => unlk l (Z.nx ρ) S, rt := fun v S => unlk l (Z.rt v) S, ex := Z.ex } ρ' S') noX) (fun ρ S => unlk l (Z.nx ρ) S) ρ S2) (Z.ex ρ)) : wS T Φ (.for t ik it cs) Z ρ S := by rw [wS]; exact h
theorem s_aug {n : Nat} {k : Bin} (h0 : ρ[n]? = some (some x)) (h : PD.wE T Φ e ρ S (fun y S1 => wAug k x y S1 fun z S2 => Z.nx (ρ.set n (some z)) S2) (Z.ex ρ)) : wS T Φ (.aug n k e) Z ρ S := by rw [wS]; exact ⟨x, h0, h⟩
/-! comprehensions of one clause -/
theorem r_comp {kk : CK} {elt : List E} {vs : List Nat} {t : G} {ik : IK} {it ifs : List E} (h : wEs T Φ it ρ S (fun ds S1 => wSrc ik ds S1 fun src l S2 => wLoop src (fun d acc S Q' => PD.wG T Φ t d (wipeR ρ vs) S (fun ρ' S' => wIfs T Φ ifs ρ' S' (fun b S'' => if b = true then wEs T Φ elt ρ' S'' (fun ds S1 => emitOk kk acc ds ∧ Q' (acc ++ [ds]) S1) noX else Q' acc S'')) noX)
      (fun acc S => unlk l (fun S => new (accO kk acc) S Q) S) [] S2) Ex) : PD.wE T Φ (.comp kk elt [.mk vs t ik it ifs]) ρ S Q Ex := by
  rw [PD.wE, wGens, wGen]
  simp only [wGens]
  exact h
theorem i_nil {R : Bool → Sto → Prop} (h : R true S) : wIfs T Φ [] ρ S R := by rw [wIfs]; exact h
theorem i_one {R : Bool → Sto → Prop} (h : PD.wE T Φ e ρ S (fun x S1 => ∃ c, truth S1 x = some c ∧ if c = true then wIfs T Φ [] ρ S1 R else R false S1) noX) : wIfs T Φ [e] ρ S R := by rw [wIfs]; exact h
theorem r_comp2 {kk : CK} {elt : List E} {vs vs2 : List Nat} {t t2 : G} {ik ik2 : IK} {it ifs it2 ifs2 : List E} (h : wEs T Φ it ρ S (fun ds S1 => wSrc ik ds S1 fun src l S2 => wLoop src (fun d acc S Q' => PD.wG T Φ t d (wipeR ρ vs) S (fun ρ' S' => wIfs T Φ ifs ρ' S' (fun b S'' => if b = true then
        wEs T Φ it2 ρ' S'' (fun ds S1 => wSrc ik2 ds S1 fun src l S2 => wLoop src (fun d acc S Q' => PD.wG T Φ t2 d (wipeR ρ' vs2) S (fun ρ' S' => wIfs T Φ ifs2 ρ' S' (fun b S'' => if b = true then wEs T Φ elt ρ' S'' (fun ds S1 => emitOk kk acc ds ∧ Q' (acc ++ [ds]) S1) noX else Q' acc S'')) noX) (fun acc S => unlk l (Q' acc) S) acc S2) noX
        else Q' acc S'')) noX)
      (fun acc S => unlk l (fun S => new (accO kk acc) S Q) S) [] S2) Ex) : PD.wE T Φ (.comp kk elt [.mk vs t ik it ifs, .mk vs2 t2 ik2 it2 ifs2]) ρ S Q Ex := by
  rw [PD.wE, wGens, wGen]
  simp only [wGens, wGen]
  exact h
theorem fin_new {o : PD.O} (h : ∀ p S', S p = none → Ge S S' → S' p = some o → Q (.ref p) S') : unlk none (fun S => new o S Q) S := new_ge h
theorem fin_for {P : Sto → Prop} (h : P S) : unlk none P S := h
/-- the items done one by one, nothing written -/
theorem loop_map {α : Type} {vs : List Nat} {t : G} {src : Src} (l : List α) (g f : α → D) (hl : l.length ≤ sizeLine) (hs : ∀ i S', Ge S S' → src i S' = some (l.map g)[i]?)
    (hb : ∀ d ∈ l, ∀ (S' : Sto) (Q' : WD), Ge S S' → (∀ S'', Ge S' S'' → Q' (f d) S'') → PD.wG T Φ t (g d) (wipeR ρ vs) S' (fun ρ' S' => PD.wE T Φ e ρ' S' Q' noX) noX) (hΦ : PhiMono Φ) (hf : ∀ p S', S p = none → Ge S S' → S' p = some (.lst (l.map f)) → Q (.ref p) S') :
    wLoop src (fun d acc S Q' => PD.wG T Φ t d (wipeR ρ vs) S (fun ρ' S' => wIfs T Φ [] ρ' S' (fun b S'' => if b = true then wEs T Φ [e] ρ' S'' (fun ds S1 => emitOk .lst acc ds ∧ Q' (acc ++ [ds]) S1) noX else Q' acc S'')) noX)
      (fun acc S => unlk none (fun S => new (accO .lst acc) S Q) S) [] S := by
  refine loop_list (l.map g) (fun i acc S' => acc = (l.take i).map (fun d => [f d]) ∧ Ge S S') ⟨by simp, .refl⟩ (fun i acc S' _ h => hs i S' h.2) (fun i d acc S' Q' hd hI hq => ?_) fun acc S' hI => ?_
  · rw [List.getElem?_map] at hd
    obtain ⟨x, hx, rfl⟩ := Option.map_eq_some_iff.mp hd
    have lt : i < l.length := (List.getElem?_eq_some_iff.mp hx).1
    have key := hb x (List.mem_of_getElem? hx) S' (fun x S1 => emitOk .lst acc [x] ∧ Q' (acc ++ [[x]]) S1) hI.2 fun S'' g => by
      refine ⟨?_, hq _ _ ⟨?_, hI.2.trans g⟩⟩
      · show acc.length < sizeLine
        rw [hI.1, List.length_map, List.length_take]
        omega
      · rw [hI.1, List.take_add_one, hx]
        simp
    refine wG_mono hΦ _ _ _ _ _ _ _ _ (fun ρ' S' z => i_nil ?_) (fun _ _ w => w) key
    rw [if_pos rfl]
    exact r_cons (wE_mono hΦ _ _ _ _ _ _ _ (fun x S1 z => r_nil z) (fun _ _ w => w) z)
  · obtain ⟨e1, g⟩ := hI
    rw [List.length_map, List.take_length] at e1
    show new (.lst (acc.map fun ds => ds.headD .non)) S' Q
    rw [e1, List.map_map]
    refine fun p hp => hf p _ ?_ (g.trans (.new hp)) put_same
    cases h : S p with
    | none => rfl
    | some o => rw [g _ _ h] at hp; cases hp
/-! walks -/
theorem w_valt {R : Src → Option Addr → Sto → Prop} (h : R (sSeq (.tup xs)) none S) : wSrc .val [.tup xs] S R := ⟨⟨xs, rfl⟩, h⟩
theorem w_valr {R : Src → Option Addr → Sto → Prop} (h1 : seqOf S (.ref a) = some xs) (h : R (sSeq (.ref a)) none S) : wSrc .val [.ref a] S R := ⟨⟨xs, h1⟩, h⟩
theorem w_vals {z : Str} {R : Src → Option Addr → Sto → Prop} (h : R (sSeq (.str z)) none S) : wSrc .val [.str z] S R := h
theorem w_rng {R : Src → Option Addr → Sto → Prop} (h1 : -(2 ^ 62) ≤ j ∧ j < 2 ^ 62) (h : R (sRange 0 1 j.toNat) none S) : wSrc .range [.int j] S R := ⟨h1, h⟩
theorem w_enut {R : Src → Option Addr → Sto → Prop} (h : R (sEnum (.tup xs)) none S) : wSrc .enum [.tup xs] S R := ⟨⟨xs, rfl⟩, h⟩
theorem w_enur {R : Src → Option Addr → Sto → Prop} (h1 : seqOf S (.ref a) = some xs) (h : R (sEnum (.ref a)) none S) : wSrc .enum [.ref a] S R := ⟨⟨xs, h1⟩, h⟩
theorem w_zipr {R : Src → Option Addr → Sto → Prop} (h1 : seqOf S (.ref a) = some xs) (h2 : seqOf S (.ref b) = some ys) (h : R (sZip (.ref a) (.ref b)) none S) : wSrc .zip [.ref a, .ref b] S R := ⟨⟨⟨xs, ys, h1, h2⟩, rfl⟩, h⟩
theorem w_zipt {R : Src → Option Addr → Sto → Prop} (h : R (sZip (.tup xs) (.tup ys)) none S) : wSrc .zip [.tup xs, .tup ys] S R := ⟨⟨⟨xs, ys, rfl, rfl⟩, rfl⟩, h⟩
end
theorem nodup_len {α : Type} [DecidableEq α] : ∀ (l m : List α), l.Nodup → (∀ x ∈ l, x ∈ m) → l.length ≤ m.length
  | [], _, _, _ => Nat.zero_le _
  | x :: l, m, hn, hs => by
    obtain ⟨h1, h2⟩ := List.nodup_cons.mp hn
    have hx : x ∈ m := hs x List.mem_cons_self
    have ih := nodup_len l (m.erase x) h2 fun y hy => (List.mem_erase_of_ne (fun e : y = x => h1 (e ▸ hy))).2 (hs y (List.mem_cons_of_mem _ hy))
    have e := List.length_erase_of_mem hx
    have hp : 0 < m.length := List.length_pos_of_mem hx
    rw [List.length_cons]
    omega
theorem accS_snoc (acc : List (List D)) (d : D) : accS (acc ++ [[d]]) = addD (accS acc) d := by
  unfold accS
  rw [List.foldl_append]
  rfl
/-- what a set has of so many items -/
theorem accS_of : ∀ (l : List D) (xs : List D), xs.Nodup → (l.foldl addD xs).Nodup ∧ ∀ x, x ∈ l.foldl addD xs → x ∈ xs ∨ x ∈ l
  | [], xs, h => ⟨h, fun x m => .inl m⟩
  | d :: l, xs, h => by
    have h' : (addD xs d).Nodup := by
      unfold addD
      split
      · exact h
      · rename_i n
        exact List.nodup_append.mpr ⟨h, by simp, fun a ha b hb e => n (by rw [List.mem_singleton.mp hb] at e; exact e ▸ ha)⟩
    obtain ⟨h1, h2⟩ := accS_of l (addD xs d) h'
    refine ⟨h1, fun x m => ?_⟩
    rcases h2 x m with m | m
    · unfold addD at m
      split at m
      · exact .inl m
      · rcases List.mem_append.mp m with m | m
        · exact .inl m
        · rw [List.mem_singleton.mp m]; exact .inr List.mem_cons_self
    · exact .inr (List.mem_cons_of_mem _ m)
theorem accS_eq (l : List D) : accS (l.map fun d => [d]) = l.foldl addD [] := by
  unfold accS
  rw [List.foldl_map]
  rfl
theorem accS_le {l menu : List D} (h : ∀ d ∈ l, d ∈ menu) : (accS (l.map fun d => [d])).length ≤ menu.length := by
  obtain ⟨h1, h2⟩ := accS_of l [] .nil
  rw [accS_eq]
  exact nodup_len _ _ h1 fun x m => (h2 x m).elim (fun z => (nomatch z)) (h x)
theorem bind_star1 {f : Fn} {d : D} {xs : List D} (hn : f.npos = 1) (hs : f.star = true) (hk : f.nkw = 0) (hl : xs.length < sizeLine) : bindF f (splitKw [] (d :: xs)).1 (splitKw [] (d :: xs)).2 = some [d, .tup xs] := by
  have e1 : (splitKw [] (d :: xs)).1 = d :: xs := by
    show (d :: xs).take ((d :: xs).length - 0) = _
    rw [Nat.sub_zero, List.take_length]
  have e2 : (splitKw [] (d :: xs)).2 = [] := rfl
  rw [e1, e2]
  unfold bindF
  rw [if_neg, hn, hk, hs]
  · rfl
  · rw [hs]
    simp only [List.length_cons, reduceCtorEq, and_false, false_or, List.map_nil, List.nodup_nil, not_true_eq_false]
    omega
theorem accD_snoc (acc : List (List D)) (ds : List D) : accD (acc ++ [ds]) = putD (accD acc) (ds.headD .non) (ds.getD 1 .non) := by
  unfold accD
  rw [List.foldl_append]
  rfl
theorem putD_keys {kvs : List (D × D)} {k v : D} : (putD kvs k v).map (·.1) = addD (kvs.map (·.1)) k := by
  unfold putD addD
  by_cases h : (kvs.any fun p => decide (p.1 = k)) = true
  · have m : k ∈ kvs.map (·.1) := by
      obtain ⟨p, h1, h2⟩ := List.any_eq_true.mp h
      exact List.mem_map.mpr ⟨p, h1, by simpa using h2⟩
    rw [if_pos h, if_pos m, List.map_map]
    refine List.map_congr_left fun p _ => ?_
    show (if p.1 = k then (k, v) else p).1 = p.1
    split
    · rename_i e; exact e.symm
    · rfl
  · have m : k ∉ kvs.map (·.1) := fun z => by
      obtain ⟨p, h1, h2⟩ := List.mem_map.mp z
      exact h (List.any_eq_true.mpr ⟨p, h1, by simpa using h2⟩)
    rw [if_neg h, if_neg m, List.map_append]
    rfl
theorem addD_ok {xs : List D} {x : D} {P : D → Prop} (hn : xs.Nodup) (hp : ∀ d ∈ xs, P d) (hx : P x) : (addD xs x).Nodup ∧ (∀ d ∈ addD xs x, P d) ∧ (addD xs x).length ≤ xs.length + 1 := by
  unfold addD
  split
  · exact ⟨hn, hp, Nat.le_succ _⟩
  · rename_i n
    refine ⟨List.nodup_append.mpr ⟨hn, by simp, fun a ha b hb e => n (by rw [List.mem_singleton.mp hb] at e; exact e ▸ ha)⟩, fun d m => ?_, by simp⟩
    rcases List.mem_append.mp m with m | m
    · exact hp d m
    · rw [List.mem_singleton.mp m]; exact hx
theorem putD_mem {kvs : List (D × D)} {k v : D} {e : D × D} (h : e ∈ putD kvs k v) : e.1 = k ∨ ∃ e' ∈ kvs, e'.1 = e.1 := by
  unfold putD at h
  split at h
  · obtain ⟨e', h1, h2⟩ := List.mem_map.mp h
    split at h2
    · subst h2; exact .inl rfl
    · subst h2; exact .inr ⟨_, h1, rfl⟩
  · rcases List.mem_append.mp h with h | h
    · exact .inr ⟨e, h, rfl⟩
    · rw [List.mem_singleton.mp h]; exact .inl rfl
theorem accD_ok : ∀ (l : List (List D)) (kvs : List (D × D)), (∀ ds ∈ l, isTup (ds.headD .non) = true) → (∀ e ∈ kvs, isTup e.1 = true) → (∀ e ∈ l.foldl (fun kvs ds => putD kvs (ds.headD .non) (ds.getD 1 .non)) kvs, isTup e.1 = true) ∧ (l.foldl (fun kvs ds => putD kvs (ds.headD .non) (ds.getD 1 .non)) kvs).length ≤ kvs.length + l.length
  | [], kvs, _, h => ⟨h, Nat.le_refl _⟩
  | ds :: l, kvs, h, hk => by
    have hk' : ∀ e ∈ putD kvs (ds.headD .non) (ds.getD 1 .non), isTup e.1 = true := fun e m => by
      rcases putD_mem m with e1 | ⟨e', m', e1⟩
      · rw [e1]; exact h ds List.mem_cons_self
      · rw [← e1]; exact hk e' m'
    obtain ⟨i1, i2⟩ := accD_ok l _ (fun x m => h x (List.mem_cons_of_mem _ m)) hk'
    refine ⟨i1, ?_⟩
    have := putD_length kvs (ds.headD .non) (ds.getD 1 .non)
    rw [List.foldl_cons, List.length_cons]
    omega
section
variable {T : Tab} {Φ : Phi} {ρ : Rho} {S : Sto} {Q : WD} {Ex : PD.WX} {es : List E}
/-- a class held by a name is called, the last argument starred -/
theorem r_callc {n c g : Nat} {k : Cl} {star : Bool} (h0 : ρ[n]? = some (some (.cls c))) (h1 : T.cl c = some k) (h2 : T.cs[c]? = some k) (h3 : k.exc = false) (h4 : k.init = some g)
    (h : wEs T Φ es ρ S (fun ds S1 => ∃ ds', lastStar S1 star ds = some ds' ∧ ∀ p S2, S1 p = none → S2 p = some (.ins c []) → Ge S1 S2 → wCall T Φ g [] (.ref p :: ds') S2 (fun v S' => v = .non ∧ Q (.ref p) S') Ex) Ex) (hΦ : PhiMono Φ) : PD.wE T Φ (.callv n star es) ρ S Q Ex := by
  rw [PD.wE]
  refine ⟨_, h0, .inr ⟨c, k, rfl, h1, wEs_mono hΦ _ _ _ _ _ _ _ (fun ds S1 ⟨ds', e, q⟩ => ⟨ds', e, k, g, h2, h3, h4, fun p hp => q p _ hp put_same (.new hp)⟩) (fun _ _ w => w) h⟩⟩
theorem star_t {xs : List D} : lastStar S true [.tup xs] = some xs := rfl
end
section
variable {α : Type} {a b c d e f : α}
theorem ln0 : ([] : List α).length ≤ sizeLine := by rw [PySem.sizeLine_eq]; exact Nat.zero_le _
theorem ln1 : [a].length ≤ sizeLine := by rw [PySem.sizeLine_eq]; show 1 ≤ 16777216; decide
theorem ln2 : [a, b].length ≤ sizeLine := by rw [PySem.sizeLine_eq]; show 2 ≤ 16777216; decide
theorem ln3 : [a, b, c].length ≤ sizeLine := by rw [PySem.sizeLine_eq]; show 3 ≤ 16777216; decide
theorem ln4 : [a, b, c, d].length ≤ sizeLine := by rw [PySem.sizeLine_eq]; show 4 ≤ 16777216; decide
theorem ln6 : [a, b, c, d, e, f].length ≤ sizeLine := by rw [PySem.sizeLine_eq]; show 6 ≤ 16777216; decide
end
end PD
set_option Elab.async false
set_option linter.all false
set_option maxRecDepth 100000
set_option maxHeartbeats 1000000
/-! PP: data that are keys (None, ints, texts, tuples of these): as snapshots, equality. -/
namespace PD
open PySem
mutual
def py : D → PyData
  | .non => .none
  | .int i => .int i
  | .str x => .str x
  | .tup xs => .tuple (pys xs)
  | _ => .none
def pys : List D → List PyData
  | [] => []
  | x :: xs => py x :: pys xs
end
mutual
/-- data that are keys, so deep -/
def isD : Nat → D → Bool
  | _, .non => true
  | _, .int _ => true
  | _, .str x => PyData.strOk x
  | n + 1, .tup xs => isDs n xs
  | _, _ => false
def isDs : Nat → List D → Bool
  | _, [] => true
  | n, x :: xs => isD n x && isDs n xs
end
theorem isDs_all {n : Nat} : ∀ {xs : List D}, isDs n xs = xs.all (isD n)
  | [] => by rw [isDs]; rfl
  | x :: xs => by rw [isDs, List.all_cons, isDs_all]
mutual
theorem snap_py {S : Sto} : ∀ (d : D) (n : Nat), isD n d = true → snap S (n + 1) d = some (py d)
  | .non, _, _ => rfl
  | .int _, _, _ => rfl
  | .str _, _, _ => rfl
  | .tup xs, 0, h => by simp [isD] at h
  | .tup xs, n + 1, h => by
    rw [isD] at h
    show (xs.mapM (snap S (n + 1))).map PyData.tuple = _
    rw [snap_pys xs n h, py]
    rfl
  | .bl _, _, h => by simp [isD] at h
  | .ref _, _, h => by simp [isD] at h
  | .ty _, _, h => by simp [isD] at h
  | .fn _, _, h => by simp [isD] at h
  | .cls _, _, h => by simp [isD] at h
theorem snap_pys {S : Sto} : ∀ (xs : List D) (n : Nat), isDs n xs = true → xs.mapM (snap S (n + 1)) = some (pys xs)
  | [], _, _ => by rw [pys]; rfl
  | x :: xs, n, h => by
    rw [isDs, Bool.and_eq_true] at h
    rw [List.mapM_cons, snap_py x n h.1, snap_pys xs n h.2, pys]
    rfl
end
mutual
theorem lay_py : ∀ (d : D) (n : Nat), isD n d = true → (py d).canLay0 = true ∧ (py d).depth ≤ n ∧ ∃ nk, d.key = some nk ∧ nk.depth ≤ n
  | .non, _, _ => ⟨by simp [py, PyData.canLay0], by simp [py, PyData.depth], .none, by rw [D.key], by simp [NestedKey.depth]⟩
  | .int i, _, _ => ⟨by simp [py, PyData.canLay0], by simp [py, PyData.depth], .num i, by rw [D.key], by simp [NestedKey.depth]⟩
  | .str x, _, h => ⟨by rw [isD] at h; simp [py, PyData.canLay0, h], by simp [py, PyData.depth], .text x, by rw [D.key], by simp [NestedKey.depth]⟩
  | .tup xs, 0, h => by simp [isD] at h
  | .tup xs, n + 1, h => by
    rw [isD] at h
    obtain ⟨h1, h2, ks, h3, h4⟩ := lay_pys xs n h
    refine ⟨?_, ?_, .tup ks, ?_, ?_⟩
    · rw [py, PyData.canLay0]; exact h1
    · rw [py, PyData.depth]; omega
    · rw [D.key, h3]; rfl
    · rw [NestedKey.depth]; omega
  | .bl _, _, h => by simp [isD] at h
  | .ref _, _, h => by simp [isD] at h
  | .ty _, _, h => by simp [isD] at h
  | .fn _, _, h => by simp [isD] at h
  | .cls _, _, h => by simp [isD] at h
theorem lay_pys : ∀ (xs : List D) (n : Nat), isDs n xs = true → PyData.canLayAll0 (pys xs) = true ∧ PyData.depthAll (pys xs) ≤ n ∧ ∃ ks, D.keys xs = some ks ∧ NestedKey.depthAll ks ≤ n
  | [], n, _ => ⟨by simp [pys, PyData.canLayAll0], by simp [pys, PyData.depthAll], [], by rw [D.keys], by simp [NestedKey.depthAll]⟩
  | x :: xs, n, h => by
    rw [isDs, Bool.and_eq_true] at h
    obtain ⟨a1, a2, k, a3, a4⟩ := lay_py x n h.1
    obtain ⟨b1, b2, ks, b3, b4⟩ := lay_pys xs n h.2
    refine ⟨?_, ?_, k :: ks, ?_, ?_⟩
    · rw [pys, PyData.canLayAll0, a1, b1]; rfl
    · rw [pys, PyData.depthAll]; omega
    · rw [D.keys, a3, b3]; rfl
    · rw [NestedKey.depthAll]; omega
end
mutual
theorem eqv_py : ∀ (x y : D) (n m : Nat), isD n x = true → isD m y = true → PyData.eqv (py x) (py y) = D.beq x y
  | .non, y, n, m, h, g => by cases y <;> simp [py, PyData.eqv, D.beq, isD] at *
  | .int i, y, n, m, h, g => by cases y <;> simp [py, PyData.eqv, D.beq, isD] at *; rfl
  | .str i, y, n, m, h, g => by
    cases y <;> simp [py, PyData.eqv, D.beq, isD] at *
    by_cases h : i = ‹Str›
    · subst h; simp
    · simp [h]
  | .tup xs, y, 0, m, h, g => by simp [isD] at h
  | .tup xs, y, n + 1, m, h, g => by
    rw [isD] at h
    cases y with
    | tup ys =>
      cases m with
      | zero => simp [isD] at g
      | succ m =>
        rw [isD] at g
        rw [py, py, PyData.eqv, D.beq]
        exact eqv_pys xs ys n m h g
    | _ => simp [py, PyData.eqv, D.beq, isD] at *
  | .bl _, _, _, _, h, _ => by simp [isD] at h
  | .ref _, _, _, _, h, _ => by simp [isD] at h
  | .ty _, _, _, _, h, _ => by simp [isD] at h
  | .fn _, _, _, _, h, _ => by simp [isD] at h
  | .cls _, _, _, _, h, _ => by simp [isD] at h
theorem eqv_pys : ∀ (xs ys : List D) (n m : Nat), isDs n xs = true → isDs m ys = true → PyData.eqvAll (pys xs) (pys ys) = D.beqs xs ys
  | [], ys, n, m, h, g => by cases ys <;> simp [pys, PyData.eqvAll, D.beqs]
  | x :: xs, ys, n, m, h, g => by
    rw [isDs, Bool.and_eq_true] at h
    cases ys with
    | nil => simp [pys, PyData.eqvAll, D.beqs]
    | cons y ys =>
      rw [isDs, Bool.and_eq_true] at g
      rw [pys, pys, PyData.eqvAll, D.beqs, eqv_py x y n m h.1 g.1, eqv_pys xs ys n m h.2 g.2]
end
theorem beq_dec (x y : D) : D.beq x y = decide (x = y) := by
  by_cases h : x = y
  · subst h; rw [D.beq_self]; simp
  · rw [decide_eq_false h]
    exact Bool.eq_false_iff.mpr fun z => h (D.of_beq _ _ z)
mutual
theorem isD_up : ∀ (x : D) (n m : Nat), isD n x = true → n ≤ m → isD m x = true
  | .non, _, _, _, _ => by rw [isD]
  | .int _, _, _, _, _ => by rw [isD]
  | .str _, _, _, h, _ => by rw [isD] at h ⊢; exact h
  | .tup xs, 0, m, h, _ => by simp [isD] at h
  | .tup xs, n + 1, 0, h, l => absurd l (by omega)
  | .tup xs, n + 1, m + 1, h, l => by rw [isD] at h ⊢; exact isDs_up xs n m h (by omega)
  | .bl _, _, _, h, _ => by simp [isD] at h
  | .ref _, _, _, h, _ => by simp [isD] at h
  | .ty _, _, _, h, _ => by simp [isD] at h
  | .fn _, _, _, h, _ => by simp [isD] at h
  | .cls _, _, _, h, _ => by simp [isD] at h
theorem isDs_up : ∀ (x : List D) (n m : Nat), isDs n x = true → n ≤ m → isDs m x = true
  | [], _, _, _, _ => by rw [isDs]
  | x :: xs, n, m, h, l => by
    rw [isDs, Bool.and_eq_true] at h ⊢
    exact ⟨isD_up x n m h.1 l, isDs_up xs n m h.2 l⟩
end
theorem shaped_py {d : D} {n : Nat} (h : isD n d = true) (hn : n ≤ 60) : SeqAt.shaped (py d) = true := by
  obtain ⟨h1, h2, _⟩ := lay_py d n h
  unfold SeqAt.shaped
  rw [h1]
  simp
  omega
/-- equality of such data -/
theorem eq_d {S : Sto} {x y : D} (n : Nat) (h : isD n x = true) (g : isD n y = true) (hn : n ≤ 60) : EqS S x y (decide (x = y)) :=
  .inl ⟨n + 1, py x, py y, snap_py x n h, snap_py y n g, shaped_py h hn, shaped_py g hn, by rw [eqv_py x y n n h g, beq_dec]⟩
theorem key_d {x : D} (n : Nat) (h : isD n x = true) : ∃ nk, x.key = some nk ∧ nk.depth ≤ n := (lay_py x n h).2.2
theorem snap_l {S : Sto} {a : Addr} {xs : List D} {n : Nat} (h : seqOf S (.ref a) = some xs) (hx : isDs n xs = true) : snap S (n + 2) (.ref a) = some (.list (pys xs)) := by
  have h : (match at_ S a with
    | some (.lst xs) => some xs
    | _ => none) = some xs := h
  show (match at_ S a with
    | some (.lst xs) => (xs.mapM (snap S (n + 1))).map PyData.list
    | _ => none) = _
  split at h
  · rename_i ys e
    cases h
    rw [snap_pys xs n hx]
    rfl
  · cases h
/-- equality of lists of such data -/
theorem eq_l {S : Sto} {a b : Addr} {xs ys : List D} (n : Nat) (ha : seqOf S (.ref a) = some xs) (hb : seqOf S (.ref b) = some ys) (h : isDs n xs = true) (g : isDs n ys = true) (hn : n ≤ 60) : EqS S (.ref a) (.ref b) (decide (xs = ys)) := by
  have sh : ∀ zs, isDs n zs = true → SeqAt.shaped (.list (pys zs)) = true := fun zs hz => by
    obtain ⟨h1, h2, _⟩ := lay_pys zs n hz
    unfold SeqAt.shaped
    rw [PyData.canLay0, PyData.depth, h1]
    simp
    omega
  refine .inl ⟨n + 2, _, _, snap_l ha h, snap_l hb g, sh _ h, sh _ g, ?_⟩
  rw [PyData.eqv, eqv_pys xs ys n n h g]
  have := beq_dec (.tup xs) (.tup ys)
  rw [D.beq] at this
  rw [this]
  simp
end PD
set_option Elab.async false
set_option linter.all false
set_option maxRecDepth 100000
set_option maxHeartbeats 1000000
/-! PP: walks of dicts, displays of dicts, dict() of pairs. -/
namespace PD
open PySem
section
variable {T : Tab} {Φ : Phi} {S : Sto} {Q : WD} {Ex : WX} {a : Addr} {kvs : List (D × D)}
theorem w_dctL {ik : IK} {R : Src → Option Addr → Sto → Prop} (h1 : S a = some (.dct kvs)) (h : R (sDct a (dctF ik)) (some a) (put S a (.frz (.dct kvs)))) : dctSrc ik a S R := by
  unfold dctSrc
  rw [h1]
  exact h
theorem w_items {R : Src → Option Addr → Sto → Prop} (h1 : S a = some (.dct kvs)) (h : R (sDct a (dctF .items)) (some a) (put S a (.frz (.dct kvs)))) : wSrc .items [.ref a] S R := w_dctL h1 h
theorem w_valsD {R : Src → Option Addr → Sto → Prop} (h1 : S a = some (.dct kvs)) (h : R (sDct a (dctF .vals)) (some a) (put S a (.frz (.dct kvs)))) : wSrc .vals [.ref a] S R := w_dctL h1 h
theorem w_keysD {R : Src → Option Addr → Sto → Prop} (h1 : S a = some (.dct kvs)) (h : R (sDct a (dctF .dct)) (some a) (put S a (.frz (.dct kvs)))) : wSrc .dct [.ref a] S R := w_dctL h1 h
theorem src_dct {f : D × D → D} {i : Nat} (h : S a = some (.frz (.dct kvs))) : sDct a f i S = some (kvs.map f)[i]? := by
  unfold sDct
  rw [h, List.getElem?_map]
theorem fin_unl {P : Sto → Prop} {o : O} (h1 : S a = some (.frz o)) (h : P (put S a o)) : unlk (some a) P S := ⟨o, h1, h⟩
theorem dct_frz (h : S a = some (.frz (.dct kvs))) : dctOf S (.ref a) = some kvs := by
  unfold dctOf at_
  simp only [h]
  rfl
/-- all but one stay -/
def GeB (a : Addr) (S S' : Sto) : Prop := ∀ c o, c ≠ a → S c = some o → S' c = some o
theorem GeB.refl : GeB a S S := fun _ _ _ h => h
theorem GeB.trans {S' S'' : Sto} (f : GeB a S S') (g : GeB a S' S'') : GeB a S S'' := fun c o n h => g c o n (f c o n h)
theorem GeB.ge {S' : Sto} (g : Ge S S') : GeB a S S' := fun c o _ h => g c o h
theorem GeB.lock {S0 : Sto} {o : O} (g : Ge S0 S) : GeB a S0 (put S a o) := fun c u n h => (put_ne n).trans (g c u h)
theorem GeB.mut {S' S'' : Sto} {b : Addr} (g : GeB a S S') (h : S b = none) (e : ∀ c, c ≠ b → S'' c = S' c) : GeB a S S'' := fun c o n hc => by
  have nb : c ≠ b := fun z => by rw [z, h] at hc; cases hc
  rw [e c nb]
  exact g c o n hc
/-- unlocked again -/
theorem GeB.un {S' : Sto} {o : O} (g : GeB a S S') (h : S a = some o) : Ge S (put S' a o) := fun c u hc => by
  by_cases n : c = a
  · subst n
    rw [h] at hc
    cases hc
    exact put_same
  · rw [put_ne n]
    exact g c u n hc
theorem o_dct1 {x y : D} (h1 : KeyOk [] x) (h : ∀ p S', S p = none → S' p = some (.dct [(x, y)]) → Ge S S' → Q (.ref p) S') : wO T Φ .dct [x, y] S Q Ex := by
  unfold wO
  exact ⟨h1, by show 0 < sizeLine; decide, fun p hp => h p _ hp put_same (.new hp)⟩
theorem o_inD {x : D} (h1 : dctOf S (.ref a) = some kvs) (h2 : KeyOk kvs x) (h : Q (.bl (look kvs x).isSome) S) : wO T Φ (.cmp .isin) [x, .ref a] S Q Ex := .inl (.inr (.inl ⟨kvs, h1, h2, h⟩))
theorem o_notD {x : D} (h1 : dctOf S (.ref a) = some kvs) (h2 : KeyOk kvs x) (h : Q (.bl (!(look kvs x).isSome)) S) : wO T Φ (.cmp .notin) [x, .ref a] S Q Ex := .inl (.inr (.inl ⟨kvs, h1, h2, h⟩))
def loadD (xs : List (D × D)) (acc : List (D × D)) : List (D × D) := xs.foldl (fun kvs p => putD kvs p.1 p.2) acc
theorem putD_len (kvs : List (D × D)) (x d : D) : (putD kvs x d).length ≤ kvs.length + 1 := by
  unfold putD
  split
  · rw [List.length_map]; omega
  · rw [List.length_append]; simp
theorem putD_tup {kvs : List (D × D)} {x d : D} (h : ∀ e ∈ kvs, isTup e.1 = true) (hx : isTup x = true) : ∀ e ∈ putD kvs x d, isTup e.1 = true := fun e m => by
  unfold putD at m
  split at m
  · obtain ⟨q, hq, rfl⟩ := List.mem_map.mp m
    split
    · exact hx
    · exact h q hq
  · rcases List.mem_append.mp m with m | m
    · exact h e m
    · rw [List.mem_singleton.mp m]; exact hx
theorem mem_tup {d : D} (h : MemOk d) : isTup d = true := by
  cases d with
  | tup ds => rfl
  | _ => exact h.elim
theorem mem_key {d : D} (h : MemOk d) (hk : ∀ e ∈ kvs, isTup e.1 = true) : KeyOk kvs d := by
  cases d with
  | tup ds => exact ⟨h, hk⟩
  | _ => exact h.elim
theorem load_ok {P : List (D × D) → Prop} : ∀ (xs acc : List (D × D)), (∀ p ∈ xs, MemOk p.1) → (∀ e ∈ acc, isTup e.1 = true) → acc.length + xs.length ≤ sizeLine → P (loadD xs acc) → DLoad (xs.map fun p => .tup [p.1, p.2]) acc P
  | [], acc, _, _, _, h => h
  | p :: xs, acc, hx, ha, hl, h => by
    have hm := hx p List.mem_cons_self
    rw [List.length_cons] at hl
    have := putD_len acc p.1 p.2
    exact ⟨mem_key hm ha, by omega, load_ok xs _ (fun q m => hx q (List.mem_cons_of_mem _ m)) (putD_tup ha (mem_tup hm)) (by omega) h⟩
theorem o_dictL {xs : List (D × D)} (h1 : S a = some (.lst (xs.map fun p => .tup [p.1, p.2]))) (h2 : ∀ p ∈ xs, MemOk p.1) (h3 : xs.length ≤ sizeLine) (h : ∀ p S', S p = none → S' p = some (.dct (loadD xs [])) → Ge S S' → Q (.ref p) S') : wO T Φ (.blt .dict) [.ref a] S Q Ex := by
  unfold wO
  exact ⟨_, h1, load_ok xs [] h2 (fun e m => nomatch m) (by simpa using h3) fun p hp => h p _ hp put_same (.new hp)⟩
/-- with keys told apart all stay -/
theorem load_nodup : ∀ (xs acc : List (D × D)), (xs.map (·.1)).Nodup → (∀ p ∈ xs, ∀ e ∈ acc, e.1 ≠ p.1) → loadD xs acc = acc ++ xs
  | [], acc, _, _ => by simp [loadD]
  | p :: xs, acc, hn, ha => by
    rw [List.map_cons, List.nodup_cons] at hn
    have e : putD acc p.1 p.2 = acc ++ [p] := by
      unfold putD
      rw [if_neg]
      intro z
      obtain ⟨e, he, e2⟩ := List.any_eq_true.mp z
      exact ha p List.mem_cons_self e he (of_decide_eq_true e2)
    show loadD xs (putD acc p.1 p.2) = _
    rw [e, load_nodup xs _ hn.2 fun q m e he => ?_]
    · simp
    · rcases List.mem_append.mp he with he | he
      · exact ha q (List.mem_cons_of_mem _ m) e he
      · rw [List.mem_singleton.mp he]
        exact fun z => hn.1 (List.mem_map.mpr ⟨q, m, z.symm⟩)
theorem mm_popi {xs : List D} {i : Int} {j : Nat} {y : D} (h1 : S a = some (.lst xs)) (h2 : L2.ixN xs.length i = some j) (h3 : xs[j]? = some y) (h : ∀ S', S' a = some (.lst (xs.eraseIdx j)) → (∀ c, c ≠ a → S' c = S c) → Q y S') : wMth .pop (.ref a) [.int i] S Q := ⟨a, xs, i, j, y, rfl, rfl, h1, h2, h3, h _ put_same fun c n => put_ne n⟩
theorem o_mulT {xs : List D} {n : Int} (h1 : xs.length ≤ 1000) (h2 : n ≤ 1000 ∧ -(2 ^ 63) ≤ n) (h3 : xs ≠ []) (h : Q (.tup (List.replicate n.toNat xs).flatten) S) : wO T Φ (.bin .mul) [.tup xs, .int n] S Q Ex := ⟨h1, h2.1, h2.2, h3, h⟩
end
end PD
set_option Elab.async false
set_option linter.all false
set_option maxRecDepth 100000
set_option maxHeartbeats 1000000
/-! PP: bounds of remainders; what repr asks. -/
namespace PD
open PySem
theorem ints_d {cs : List Int} : isDs 0 (cs.map D.int) = true := by
  rw [isDs_all, List.all_map, List.all_eq_true]
  intro c _
  exact rfl
theorem fm_lo {i j : Int} (h : 0 < j) : 0 ≤ i.fmod j := by rw [Int.fmod_eq_emod_of_nonneg _ (by omega)]; exact Int.emod_nonneg _ (by omega)
theorem fm_hi {i j : Int} (h : 0 < j) : i.fmod j < j := by rw [Int.fmod_eq_emod_of_nonneg _ (by omega)]; exact Int.emod_lt_of_pos _ h
theorem cm_fm {i j k : Int} (h : 0 < j) (g : j < 2 ^ 64) : L2.CMul (i.fmod j) k := by
  have a := fm_lo (i := i) h
  have b := fm_hi (i := i) h
  exact .inl ⟨by omega, by omega⟩
/-! ### snapshots, with bools -/
mutual
def pb : D → PyData
  | .non => .none
  | .bl b => .bool b
  | .int i => .int i
  | .str x => .str x
  | .tup xs => .tuple (pbs xs)
  | _ => .none
def pbs : List D → List PyData
  | [] => []
  | x :: xs => pb x :: pbs xs
end
mutual
/-- what repr may be asked of, so deep, so much of it -/
inductive RepD : Nat → D → Nat → Prop
  | non {n w} : RepD n .non w
  | bl {n b w} : RepD n (.bl b) w
  | int {n w} {i : Nat} : i < 1000000000 → 30 ≤ w → RepD n (.int i) w
  | str {n x w} : PyData.strOk x = true → x.length ≤ w → RepD n (.str x) w
  | tup {n xs w} : RepDs n xs w → RepD (n + 1) (.tup xs) w
inductive RepDs : Nat → List D → Nat → Prop
  | nil {n w} : RepDs n [] w
  | cons {n x xs u v w} : RepD n x u → RepDs n xs v → u + v + 1 ≤ w → RepDs n (x :: xs) w
end
/-- what repr asks of a snapshot -/
structure RepP (d : PyData) (w : Nat) : Prop where
  sh : d.showable = true
  it : d.intsShort 13 = true
  lay : d.canLay0 = true
  we : d.weight ≤ w
structure RepPs (d : List PyData) (w : Nat) : Prop where
  sh : PyData.showableAll d = true
  it : PyData.intsShortAll 13 d = true
  lay : PyData.canLayAll0 d = true
  we : PyData.weightAll d ≤ w
theorem RepP.fits {d : PyData} {w : Nat} (h : RepP d w) (hw : w ≤ 1048576) : d.shown.length ≤ sizeLine := by
  have h1 := h.we
  have e : 2 ^ 20 = 1048576 := by decide
  exact PyData.shown_fits (B := 13) (by decide) (by decide) (PyData.leavesShort_of_canLay0 13 d h.lay h.it) (by omega)
theorem RepP.up {d : PyData} {w v : Nat} (h : RepP d w) (hw : w ≤ v) : RepP d v := ⟨h.sh, h.it, h.lay, Nat.le_trans h.we hw⟩
theorem RepP.num {i w : Nat} (h : i < 1000000000) (hw : 30 ≤ w) : RepP (.int i) w := by
  have hl : (i : Int).natAbs = 0 ∨ (i : Int).natAbs.log2 < 30 := by
    rw [Int.natAbs_natCast]
    by_cases z : i = 0
    · exact .inl z
    · exact .inr ((Nat.log2_lt z).mpr (Nat.lt_of_lt_of_le h (by decide)))
  refine ⟨?_, ?_, by rw [PyData.canLay0], ?_⟩
  · rw [PyData.showable]
    refine decide_eq_true ?_
    rcases hl with z | z
    · rw [z]; decide
    · omega
  · rw [PyData.intsShort]
    refine decide_eq_true ?_
    have : (PyData.int i).shown = Str.ofString (toString (i : Int)) := by simp [PyData.shown]
    rw [this, SX.num_S]
    have := TL.numL_len (n := i) (k := 9) (by decide) (by simpa using h)
    have e : (SX.S (TL.numL i)).length = (TL.numL i).length := by simp [SX.S, Str.length]
    omega
  · rw [PyData.weight]
    split
    · exact Nat.zero_le _
    · rename_i z
      rcases hl with y | y
      · exact absurd (by simpa using y) z
      · omega
theorem RepPs.nil {w : Nat} : RepPs [] w := ⟨by simp [PyData.showableAll], by simp [PyData.intsShortAll], by simp [PyData.canLayAll0], by simp [PyData.weightAll]⟩
theorem RepPs.cons {x : PyData} {xs : List PyData} {u v w : Nat} (a : RepP x u) (b : RepPs xs v) (h : u + v + 1 ≤ w) : RepPs (x :: xs) w := by
  refine ⟨?_, ?_, ?_, ?_⟩
  · rw [PyData.showableAll, a.sh, b.sh]; rfl
  · rw [PyData.intsShortAll, a.it, b.it]; rfl
  · rw [PyData.canLayAll0, a.lay, b.lay]; rfl
  · rw [PyData.weightAll]
    have := a.we
    have := b.we
    omega
theorem RepPs.tup {xs : List PyData} {w : Nat} (h : RepPs xs w) : RepP (.tuple xs) w := ⟨by rw [PyData.showable]; exact h.sh, by rw [PyData.intsShort]; exact h.it, by rw [PyData.canLay0]; exact h.lay, by rw [PyData.weight]; exact h.we⟩
theorem RepPs.lst {xs : List PyData} {w : Nat} (h : RepPs xs w) : RepP (.list xs) w := ⟨by rw [PyData.showable]; exact h.sh, by rw [PyData.intsShort]; exact h.it, by rw [PyData.canLay0]; exact h.lay, by rw [PyData.weight]; exact h.we⟩
mutual
theorem RepD.is {S : Sto} : ∀ {n : Nat} {d : D} {w : Nat}, RepD n d w → snap S (n + 1) d = some (pb d) ∧ RepP (pb d) w
  | _, _, _, .non => ⟨rfl, by rw [pb, PyData.showable], by rw [pb, PyData.intsShort], by rw [pb, PyData.canLay0], by rw [pb, PyData.weight]; exact Nat.zero_le _⟩
  | _, _, _, .bl => ⟨rfl, by rw [pb, PyData.showable], by rw [pb, PyData.intsShort], by rw [pb, PyData.canLay0], by rw [pb, PyData.weight]; exact Nat.zero_le _⟩
  | _, _, _, .int h hw => ⟨rfl, by rw [pb]; exact .num h hw⟩
  | _, _, _, .str h hw => ⟨rfl, by rw [pb, PyData.showable], by rw [pb, PyData.intsShort], by rw [pb, PyData.canLay0]; exact h, by rw [pb, PyData.weight]; exact hw⟩
  | n + 1, .tup xs, w, .tup h => by
    obtain ⟨e, r⟩ := h.is
    refine ⟨?_, by rw [pb]; exact r.tup⟩
    show (xs.mapM (snap S (n + 1))).map PyData.tuple = _
    rw [e, pb]
    rfl
theorem RepDs.is {S : Sto} : ∀ {n : Nat} {xs : List D} {w : Nat}, RepDs n xs w → xs.mapM (snap S (n + 1)) = some (pbs xs) ∧ RepPs (pbs xs) w
  | _, _, _, .nil => ⟨by rw [pbs]; rfl, by rw [pbs]; exact .nil⟩
  | _, _, _, .cons a b h => by
    obtain ⟨e1, r1⟩ := a.is (S := S)
    obtain ⟨e2, r2⟩ := b.is (S := S)
    refine ⟨?_, by rw [pbs]; exact .cons r1 r2 h⟩
    rw [List.mapM_cons, e1, e2, pbs]
    rfl
end
theorem RepDs.all {n v w : Nat} : ∀ {xs : List D}, (∀ x ∈ xs, RepD n x v) → xs.length * (v + 1) ≤ w → RepDs n xs w
  | [], _, _ => .nil
  | x :: xs, h, hw => by
    rw [List.length_cons, Nat.succ_mul] at hw
    exact .cons (v := xs.length * (v + 1)) (h x List.mem_cons_self) (RepDs.all (fun y m => h y (List.mem_cons_of_mem _ m)) (Nat.le_refl _)) (by omega)
section
variable {T : Tab} {Φ : Phi} {S : Sto} {Q : WD} {Ex : PD.WX} {d : D} {a : Addr} {xs : List D} {n w : Nat}
/-- repr of a value -/
theorem o_reprD (h : RepD n d w) (hn : n ≤ 59) (hw : w ≤ 1048576) (q : Q (.str (pb d).shown) S) : wO T Φ (.blt .repr) [d] S Q Ex := by
  obtain ⟨e, r⟩ := h.is (S := S)
  exact ⟨n + 1, pb d, by omega, e, r.sh, r.fits hw, q⟩
/-- repr of a list of values -/
theorem o_reprL (e : seqOf S (.ref a) = some xs) (h : RepDs n xs w) (hn : n ≤ 58) (hw : w ≤ 1048576) (q : Q (.str (PyData.list (pbs xs)).shown) S) : wO T Φ (.blt .repr) [.ref a] S Q Ex := by
  obtain ⟨e1, r⟩ := h.is (S := S)
  refine ⟨n + 2, .list (pbs xs), by omega, ?_, r.lst.sh, r.lst.fits hw, q⟩
  have h : (match at_ S a with
    | some (.lst xs) => some xs
    | _ => none) = some xs := e
  show (match at_ S a with
    | some (.lst xs) => (xs.mapM (snap S (n + 1))).map PyData.list
    | _ => none) = _
  split at h
  · cases h
    rw [e1]
    rfl
  · cases h
end
end PD
set_option Elab.async false
set_option linter.all false
set_option maxRecDepth 100000
set_option maxHeartbeats 1000000
/-! PP: more rules: lists repeated and joined, sets, remove, index. -/
namespace PD
open PySem
section
variable {T : Tab} {Φ : Phi} {S : Sto} {Q : WD} {Ex : PD.WX} {d x y : D} {a b : Addr} {xs ys : List D} {n : Int}
theorem o_mulL (h1 : S a = some (.lst xs)) (h2 : -(2 ^ 63) ≤ n ∧ n < 2 ^ 63 ∧ xs.length * n.toNat ≤ 2 ^ 24) (h : ∀ p S', S p = none → S' p = some (.lst (List.replicate n.toNat xs).flatten) → Ge S S' → Q (.ref p) S') : wO T Φ (.bin .mul) [.ref a, .int n] S Q Ex := ⟨xs, h1, h2, fun p hp => h p _ hp put_same (.new hp)⟩
theorem o_addl (h1 : S a = some (.lst xs)) (h2 : S b = some (.lst ys)) (h3 : xs.length + ys.length ≤ sizeLine) (h : ∀ p S', S p = none → S' p = some (.lst (xs ++ ys)) → Ge S S' → Q (.ref p) S') : wO T Φ (.bin .add) [.ref a, .ref b] S Q Ex := ⟨xs, ys, h1, h2, h3, fun p hp => h p _ hp put_same (.new hp)⟩
theorem o_set (h1 : seqOf S x = some xs) (h2 : ∀ d ∈ xs, MemOk d) (h3 : (setD xs).length + 1 < 64) (h : ∀ p S', S p = none → S' p = some (.set (setD xs)) → Ge S S' → Q (.ref p) S') : wO T Φ (.blt .set) [x] S Q Ex := ⟨xs, h1, h2, h3, fun p hp => h p _ hp put_same (.new hp)⟩
theorem srt_lst (h : S a = some (.lst xs)) : srtOf S (.ref a) = some xs := by
  unfold srtOf at_
  simp only [h]
  rfl
theorem srt_set (h : S a = some (.set xs)) : srtOf S (.ref a) = some xs := by
  unfold srtOf at_
  simp only [h]
  rfl
theorem mm_remove {ns : List Int} {k : Int} {j : Nat} (h1 : S a = some (.lst (ns.map D.int))) (h2 : ns[j]? = some k) (h3 : ∀ m, m < j → ns[m]? ≠ some k) (h : ∀ S', S' a = some (.lst ((ns.eraseIdx j).map D.int)) → (∀ c, c ≠ a → S' c = S c) → Q .non S') : wMth .remove (.ref a) [.int k] S Q := ⟨a, ns, k, j, rfl, rfl, h1, h2, h3, h _ put_same fun c n => put_ne n⟩
theorem mm_extend {c : Addr} (h1 : S a = some (.lst xs)) (h2 : S c = some (.lst ys)) (h3 : xs.length + ys.length ≤ sizeLine) (h : ∀ S', S' a = some (.lst (xs ++ ys)) → (∀ c, c ≠ a → S' c = S c) → Q .non S') : wMth .extend (.ref a) [.ref c] S Q := ⟨a, c, xs, ys, rfl, rfl, h1, h2, h3, h _ put_same fun c n => put_ne n⟩
/-- the place of a member, by plain equality of data -/
theorem mm_index {m : Nat} {j : Nat} (h1 : seqOf S (.ref a) = some xs) (h2 : isDs m xs = true) (h3 : isD m y = true) (hm : m ≤ 58) (h4 : xs[j]? = some y) (h5 : ∀ i, i < j → xs[i]? ≠ some y) (h : Q (.int (j : Nat)) S) : wMth .index (.ref a) [y] S Q := by
  have sh : SeqAt.shaped (.list (pys xs)) = true := by
    obtain ⟨h1, h2, _⟩ := lay_pys xs m h2
    unfold SeqAt.shaped
    rw [PyData.canLay0, PyData.depth, h1]
    simp
    omega
  have get : ∀ (i : Nat) (x : D), xs[i]? = some x → (pys xs)[i]? = some (py x) := fun i x e => by
    have : ∀ (l : List D), pys l = l.map py := fun l => by
      induction l with
      | nil => rw [pys]; rfl
      | cons u l ih => rw [pys, ih]; rfl
    rw [this, List.getElem?_map, e]
    rfl
  have eqv : ∀ x ∈ xs, PyData.eqv (py x) (py y) = decide (x = y) := fun x mx => by
    rw [isDs_all] at h2
    rw [eqv_py x y m m (List.all_eq_true.mp h2 x mx) h3, beq_dec]
  refine ⟨a, m + 1, xs, py y, pys xs, j, py y, rfl, h1, snap_py y m h3, snap_pys xs m h2, sh, shaped_py h3 (by omega), get j y h4, ?_, fun i z' hi hz => ?_, h⟩
  · rw [eqv y (List.mem_of_getElem? h4)]; simp
  · cases e : xs[i]? with
    | none =>
      exfalso
      have l1 := (List.getElem?_eq_none_iff.mp e)
      have l2 := (List.getElem?_eq_some_iff.mp h4).1
      omega
    | some x =>
      rw [get i x e] at hz
      cases hz
      rw [eqv x (List.mem_of_getElem? e)]
      exact decide_eq_false fun z => h5 i hi (z ▸ e)
/-- x in xs of plain data -/
theorem ins_d {m : Nat} (h2 : isDs m xs = true) (h3 : isD m y = true) (hm : m ≤ 58) : InS S y xs (decide (y ∈ xs)) := by
  have sh : SeqAt.shaped (.list (pys xs)) = true := by
    obtain ⟨h1, h2, _⟩ := lay_pys xs m h2
    unfold SeqAt.shaped
    rw [PyData.canLay0, PyData.depth, h1]
    simp
    omega
  have dp := (lay_py y m h3).2.1
  refine ⟨m + 1, py y, pys xs, snap_py y m h3, snap_pys xs m h2, shaped_py h3 (by omega), sh, by omega, ?_⟩
  have : ∀ (l : List D), isDs m l = true → (pys l).any (fun z => PyData.eqv z (py y)) = decide (y ∈ l) := fun l => by
    induction l with
    | nil => intro _; rw [pys]; simp
    | cons u l ih =>
      intro h
      rw [isDs, Bool.and_eq_true] at h
      rw [pys, List.any_cons, ih h.2, eqv_py u y m m h.1 h3, beq_dec]
      by_cases e : u = y
      · subst e; simp
      · have : ¬ y = u := fun z => e z.symm
        simp [e, this]
  exact (this xs h2).symm
theorem o_inseq {k : Bool} (h1 : seqOf S y = some xs) (h2 : InS S x xs k) (h : Q (.bl k) S) : wO T Φ (.cmp .isin) [x, y] S Q Ex := .inl (.inr (.inr ⟨xs, k, h1, h2, h⟩))
theorem o_ninseq {k : Bool} (h1 : seqOf S y = some xs) (h2 : InS S x xs k) (h : Q (.bl (!k)) S) : wO T Φ (.cmp .notin) [x, y] S Q Ex := .inl (.inr (.inr ⟨xs, k, h1, h2, h⟩))
theorem eq_tl (u v : Str) : EqS S (.str u) (.str v) (decide (u = v)) := eq_str
/-- a sorted order told apart -/
theorem sorted_nodup {xs ys : List D} (h1 : ys.Perm xs) (hn : xs.Nodup) : ys.Nodup := h1.nodup_iff.mpr hn
end
end PD
set_option Elab.async false
set_option linter.all false
set_option maxRecDepth 100000
set_option maxHeartbeats 1000000
/-! PP: tests that are evaluated once. -/
namespace PD
open PySem
theorem Ge.none {S S' : Sto} {p : Addr} (g : Ge S S') (h : S' p = .none) : S p = .none := by
  cases z : S p with
  | none => rfl
  | some o => rw [g _ _ z] at h; cases h
section
variable {T : Tab} {Φ : Phi} {ρ : Rho} {S : Sto} {Q : WD} {Ex : PD.WX} {Z : WEnds}
theorem ite_cond {t : E} {A B : List C} (P : Bool → Sto → Prop) (hΦ : PhiMono Φ) (hc : PD.wE T Φ t ρ S (fun x S1 => ∃ c, x = .bl c ∧ P c S1) (Z.ex ρ)) (ht : ∀ S1, P true S1 → wSs T Φ A Z ρ S1) (hf : ∀ S1, P false S1 → wSs T Φ B Z ρ S1) : wS T Φ (.ite t A B) Z ρ S := by
  refine s_ite (wE_cut hc hΦ fun d S' ⟨c, e, p⟩ => ?_)
  subst e
  refine ⟨c, rfl, ?_⟩
  cases c
  · exact t_ff (hf S' p)
  · exact t_tt (ht S' p)
theorem ife_cond {t e1 e2 : E} (P : Bool → Sto → Prop) (hΦ : PhiMono Φ) (hc : PD.wE T Φ t ρ S (fun x S1 => ∃ c, x = .bl c ∧ P c S1) Ex) (ht : ∀ S1, P true S1 → PD.wE T Φ e1 ρ S1 Q Ex) (hf : ∀ S1, P false S1 → PD.wE T Φ e2 ρ S1 Q Ex) : PD.wE T Φ (.ite t e1 e2) ρ S Q Ex := by
  refine r_ife (wE_cut hc hΦ fun d S' ⟨c, e, p⟩ => ?_)
  subst e
  refine ⟨c, rfl, ?_⟩
  cases c
  · exact t_ff (hf S' p)
  · exact t_tt (ht S' p)
theorem o_is_non {c : Bool} {d : D} (e : decide (d = .non) = c) (h : Q (.bl c) S) : wO T Φ (.cmp .is) [d, .non] S Q Ex := .inl (.inl ⟨rfl, by rw [e]; exact h⟩)
theorem o_isn_non {c : Bool} {d : D} (e : (!decide (d = .non)) = c) (h : Q (.bl c) S) : wO T Φ (.cmp .isnot) [d, .non] S Q Ex := .inl (.inl ⟨rfl, by rw [e]; exact h⟩)
section
variable {i j : Int} {u v : Str} {x y : D} {xs : List D}
theorem o_eqsT (h : Q (.bl true) S) : wO T Φ (.cmp .eq) [.str u, .str u] S Q Ex := o_eqs (by rw [decide_eq_true rfl]; exact h)
theorem o_eqsF (n : u ≠ v) (h : Q (.bl false) S) : wO T Φ (.cmp .eq) [.str u, .str v] S Q Ex := o_eqs (by rw [decide_eq_false n]; exact h)
theorem o_nesF (h : Q (.bl false) S) : wO T Φ (.cmp .ne) [.str u, .str u] S Q Ex := o_nes (by rw [decide_eq_true rfl]; exact h)
theorem o_nesT (n : u ≠ v) (h : Q (.bl true) S) : wO T Φ (.cmp .ne) [.str u, .str v] S Q Ex := o_nes (by rw [decide_eq_false n]; exact h)
theorem o_eqiT (n : i = j) (h : Q (.bl true) S) : wO T Φ (.cmp .eq) [.int i, .int j] S Q Ex := o_eqi (by rw [decide_eq_true n]; exact h)
theorem o_eqiF (n : i ≠ j) (h : Q (.bl false) S) : wO T Φ (.cmp .eq) [.int i, .int j] S Q Ex := o_eqi (by rw [decide_eq_false n]; exact h)
theorem o_neiT (n : i ≠ j) (h : Q (.bl true) S) : wO T Φ (.cmp .ne) [.int i, .int j] S Q Ex := o_nei (by rw [decide_eq_false n]; exact h)
theorem o_neiF (n : i = j) (h : Q (.bl false) S) : wO T Φ (.cmp .ne) [.int i, .int j] S Q Ex := o_nei (by rw [decide_eq_true n]; exact h)
theorem o_ltT (n : i < j) (h : Q (.bl true) S) : wO T Φ (.cmp .lt) [.int i, .int j] S Q Ex := o_lt (by rw [decide_eq_true n]; exact h)
theorem o_ltF (n : ¬ i < j) (h : Q (.bl false) S) : wO T Φ (.cmp .lt) [.int i, .int j] S Q Ex := o_lt (by rw [decide_eq_false n]; exact h)
theorem o_eqdT (m : Nat) (hx : isD m x = true) (hm : m ≤ 60) (h : Q (.bl true) S) : wO T Φ (.cmp .eq) [x, x] S Q Ex := o_eq (eq_d m hx hx hm) (by rw [decide_eq_true rfl]; exact h)
theorem o_eqdF (m : Nat) (n : x ≠ y) (hx : isD m x = true) (hy : isD m y = true) (hm : m ≤ 60) (h : Q (.bl false) S) : wO T Φ (.cmp .eq) [x, y] S Q Ex := o_eq (eq_d m hx hy hm) (by rw [decide_eq_false n]; exact h)
theorem o_nindF (m : Nat) (n : x ∈ xs) (hx : isDs m xs = true) (hy : isD m x = true) (hm : m ≤ 58) (h : Q (.bl false) S) : wO T Φ (.cmp .notin) [x, .tup xs] S Q Ex := o_ninseq rfl (ins_d hx hy hm) (by rw [decide_eq_true n]; exact h)
theorem o_nindT (m : Nat) (n : x ∉ xs) (hx : isDs m xs = true) (hy : isD m x = true) (hm : m ≤ 58) (h : Q (.bl true) S) : wO T Φ (.cmp .notin) [x, .tup xs] S Q Ex := o_ninseq rfl (ins_d hx hy hm) (by rw [decide_eq_false n]; exact h)
end
end
end PD
set_option Elab.async false
set_option linter.all false
set_option maxRecDepth 100000
set_option maxHeartbeats 0
namespace K14
open PySem PySem.Spec PyProof.Rows L2 PD
def top (i : Nat) : Stmt := PySem.Challenge.pw_waitkinds_k14_logs_of_histories.main.body.getD i (.Pass ⟨0, 0, 0, 0⟩)
def inCls : Stmt → List Stmt
  | .ClassDef _ _ _ b _ _ _ _ _ _ _ => b
  | _ => []
def inC (i j : Nat) : Stmt := (inCls (top i)).getD j (.Pass ⟨0, 0, 0, 0⟩)
def b0 : List C := [.wh (.cst (.bl true)) [.pass]]
def f0 : Fn := { size := 1, npos := 1, star := false, dfl := [], body := b0 }
def b1 : List C := [.ret (.and (.op (.isi [.bt "int"]) [.var 0]) (.not (.op (.isi [.bt "bool"]) [.var 0])))]
def f1 : Fn := { size := 1, npos := 1, star := false, dfl := [], body := b1 }
def b2 : List C := [.ret (.and (.op (.call 1 [] false) [.var 0]) (.chn .le .lt (.cst (.int 0)) (.var 0) (.var 1)))]
def f2 : Fn := { size := 2, npos := 2, star := false, dfl := [], body := b2 }
def b3 : List C := [.ite (.or (.not (.op (.call 2 [] false) [.var 1, .op (.blt .len) [.var 0]])) (.or (.not (.op (.isi [.bt "str"]) [.var 2])) (.not (.op (.isi [.bt "str"]) [.var 3])))) [.ret (.cst (.bl false))] [], .ret (.op (.cmp .isin) [.op .tup [.var 2, .var 3], .op (.attr 0) [.op .idx [.var 0, .var 1]]])]
def f3 : Fn := { size := 4, npos := 4, star := false, dfl := [], body := b3 }
def b4 : List C := [.ret (.and (.op (.call 2 [] false) [.var 1, .op (.blt .len) [.var 0]]) (.op (.cmp .eq) [.op .idx [.var 0, .var 1], .cst (.str "open")]))]
def f4 : Fn := { size := 2, npos := 2, star := false, dfl := [], body := b4 }
def b5 : List C := [.ite (.or (.not (.op (.isi [.bt "tuple"]) [.var 2])) (.or (.op (.cmp .eq) [.var 2, .op .tup []]) (.not (.op (.isi [.bt "str"]) [.op .idx [.var 2, .cst (.int 0)]])))) [.ret (.cst .non)] [], .ite (.and (.op (.cmp .eq) [.op .idx [.var 2, .cst (.int 0)], .cst (.str "begin")]) (.op (.cmp .eq) [.op (.blt .len) [.var 2], .cst (.int 1)])) [.ret (.op (.bin .add) [.var 1, .op .lst [.cst (.str "open")]])] [], .ite (.and (.op (.cmp .eq) [.op .idx [.var 2, .cst (.int 0)], .cst (.str "did")]) (.and (.op (.cmp .eq) [.op (.blt .len) [.var 2], .cst (.int 5)]) (.op (.call 4 [] false) [.var 1, .op .idx [.var 2, .cst (.int 1)]]))) [.ret (.ite (.op (.call 3 [] false) [.var 0, .op .idx [.var 2, .cst (.int 2)], .op .idx [.var 2, .cst (.int 3)], .op .idx [.var 2, .cst (.int 4)]]) (.var 1) (.cst .non))] [], .ite (.or (.op (.cmp .notin) [.op .idx [.var 2, .cst (.int 0)], .op .tup [.cst (.str "commit"), .cst (.str "abort")]]) (.or (.op (.cmp .ne) [.op (.blt .len) [.var 2], .cst (.int 2)]) (.not (.op (.call 4 [] false) [.var 1, .op .idx [.var 2, .cst (.int 1)]])))) [.ret (.cst .non)] [], .asg (.nm 3) (.ite (.op (.cmp .eq) [.op .idx [.var 2, .cst (.int 0)], .cst (.str "commit")]) (.cst (.str "committed")) (.cst (.str "aborted"))), .ret (.op (.bin .add) [.op (.bin .add) [.sl (.var 1) [] [.op .idx [.var 2, .cst (.int 1)]], .op .lst [.var 3]], .sl (.var 1) [.op (.bin .add) [.op .idx [.var 2, .cst (.int 1)], .cst (.int 1)]] []])]
def f5 : Fn := { size := 4, npos := 3, star := false, dfl := [], body := b5 }
def b6 : List C := [.asg (.tup [.nm 2, .nm 3, .nm 4]) (.op .tup [.op .lst [], .op .lst [], .op .lst []]), .for (.nm 5) .val [.var 1] [.ite (.op (.cmp .eq) [.op .idx [.var 5, .cst (.int 0)], .cst (.str "begin")]) [.ex (.mth (.var 4) .append 1 [] false [.op (.blt .tuple) [.comp .lst [.var 7] [.mk [7, 8] (.tup [.nm 7, .nm 8]) .enum [.var 2] [.op (.cmp .eq) [.var 8, .cst (.str "committed")]]]]]), .ex (.mth (.var 3) .append 1 [] false [.op .tup []])] [.ite (.op (.cmp .eq) [.op .idx [.var 5, .cst (.int 0)], .cst (.str "did")]) [.asg (.sub (.var 3) (.op .idx [.var 5, .cst (.int 1)])) (.op (.bin .add) [.op .idx [.var 3, .op .idx [.var 5, .cst (.int 1)]], .op .tup [.sl (.var 5) [.cst (.int 2)] []]])] []], .asg (.nm 2) (.op (.call 5 [] false) [.var 0, .var 2, .var 5])], .asg (.nm 6) (.op .lst []), .for (.tup [.nm 7, .nm 8]) .enum [.var 2] [.ite (.op (.cmp .ne) [.var 8, .cst (.str "aborted")]) [.ex (.mth (.var 6) .append 1 [] false [.op .tup [.var 7, .op (.cmp .eq) [.var 8, .cst (.str "committed")], .op .idx [.var 4, .var 7], .op .idx [.var 3, .var 7]]])] []], .ret (.op .tup [.op .tup [.op (.bin .mul) [.op .tup [.cst (.int 0)], .op (.blt .len) [.var 0]]], .op (.blt .tuple) [.var 6]])]
def f6 : Fn := { size := 9, npos := 2, star := false, dfl := [], body := b6 }
def b7 : List C := [.ret (.op (.blt .tuple) [.comp .lst [.op .tup [.var 1, .var 2]] [.mk [1, 2, 3] (.tup [.nm 1, .nm 2, .nm 3]) .val [.var 0] []]])]
def f7 : Fn := { size := 4, npos := 1, star := false, dfl := [], body := b7 }
def b8 : List C := [.asg (.nm 1) (.op .dct []), .for (.tup [.nm 2, .nm 3]) .enum [.var 0] [.ex (.mth (.var 1) .setdefault 2 [] false [.var 3, .var 2])], .ret (.op (.blt .tuple) [.comp .lst [.op .idx [.var 1, .var 3]] [.mk [3] (.nm 3) .val [.var 0] []]])]
def f8 : Fn := { size := 4, npos := 1, star := false, dfl := [], body := b8 }
def b9 : List C := [.asg (.nm 1) (.op (.call 8 [] false) [.comp .lst [.op (.call 7 [] false) [.var 3]] [.mk [3] (.nm 3) .val [.var 0] []]]), .wh (.cst (.bl true)) [.asg (.nm 2) (.op .lst []), .for (.tup [.nm 3, .nm 4]) .zip [.var 0, .var 1] [.ex (.mth (.var 2) .append 1 [] false [.op .tup [.var 4, .op (.blt .tuple) [.comp .lst [.op .idx [.var 1, .var 8]] [.mk [6, 7, 8] (.tup [.nm 6, .nm 7, .nm 8]) .val [.var 3] []]]]])], .asg (.nm 5) (.op (.call 8 [] false) [.var 2]), .ite (.op (.cmp .eq) [.var 5, .var 1]) [.ret (.var 1)] [], .asg (.nm 1) (.var 5)]]
def f9 : Fn := { size := 9, npos := 1, star := false, dfl := [], body := b9 }
def b10 : List C := [.ite (.or (.not (.op (.isi [.bt "str"]) [.var 0])) (.not (.chn .lt .le (.cst (.int 0)) (.op (.blt .len) [.var 0]) (.cst (.int 12))))) [.ret (.cst (.bl false))] [], .ret (.op (.blt .all) [.comp .lst [.op (.cmp .isin) [.var 1, .cst (.str "abcdefghijklmnopqrstuvwxyz0123456789")]] [.mk [1] (.nm 1) .val [.var 0] []]])]
def f10 : Fn := { size := 2, npos := 1, star := false, dfl := [], body := b10 }
def b11 : List C := [.ret (.and (.op (.isi [.bt "int"]) [.var 0]) (.not (.op (.isi [.bt "bool"]) [.var 0])))]
def f11 : Fn := { size := 1, npos := 1, star := false, dfl := [], body := b11 }
def b12 : List C := [.ite (.not (.op (.isi [.bt "tuple"]) [.var 0])) [.ret (.cst (.bl false))] [], .for (.nm 2) .val [.var 0] [.ite (.or (.not (.op (.isi [.bt "tuple"]) [.var 2])) (.or (.op (.cmp .ne) [.op (.blt .len) [.var 2], .cst (.int 3)]) (.or (.not (.op (.call 10 [] false) [.op .idx [.var 2, .cst (.int 0)]])) (.not (.op (.call 10 [] false) [.op .idx [.var 2, .cst (.int 1)]]))))) [.ret (.cst (.bl false))] [], .ite (.or (.not (.op (.call 11 [] false) [.op .idx [.var 2, .cst (.int 2)]])) (.not (.chn .le .lt (.cst (.int 0)) (.op .idx [.var 2, .cst (.int 2)]) (.var 1)))) [.ret (.cst (.bl false))] []], .asg (.nm 3) (.op (.call 7 [] false) [.var 0]), .ret (.op (.blt .all) [.comp .lst [.op (.cmp .lt) [.var 4, .var 5]] [.mk [4, 5] (.tup [.nm 4, .nm 5]) .zip [.var 3, .sl (.var 3) [.cst (.int 1)] []] []]])]
def f12 : Fn := { size := 6, npos := 2, star := false, dfl := [], body := b12 }
def b13 : List C := [.ite (.or (.not (.chn .lt .le (.cst (.int 0)) (.op (.blt .len) [.var 0]) (.cst (.int 40)))) (.not (.op (.blt .all) [.comp .lst [.op (.call 12 [] false) [.var 1, .op (.blt .len) [.var 0]]] [.mk [1] (.nm 1) .val [.var 0] []]]))) [.ret (.cst (.bl false))] [], .ret (.op (.cmp .le) [.op (.blt .len) [.comp .set [.var 2] [.mk [1, 2] (.nm 1) .val [.var 0] [], .mk [2] (.nm 2) .val [.op (.call 7 [] false) [.var 1]] []]], .cst (.int 24)])]
def f13 : Fn := { size := 3, npos := 1, star := false, dfl := [], body := b13 }
def b14 : List C := [.ret (.op (.bin .add) [.fstr [.var 0, .cst (.str ":")], .mth (.cst (.str ",")) .join 3 [] false [.comp .lst [.fstr [.cst (.str " "), .var 2, .cst (.str " "), .var 3, .cst (.str " "), .var 4]] [.mk [2, 3, 4] (.tup [.nm 2, .nm 3, .nm 4]) .val [.var 1] []]]])]
def f14 : Fn := { size := 5, npos := 2, star := false, dfl := [], body := b14 }
def b15 : List C := [.asg (.tup [.nm 1, .nm 2, .nm 3]) (.mth (.var 0) .partition 4 [] false [.cst (.str ":")]), .asg (.nm 4) (.op .lst []), .for (.nm 5) .val [.ite (.op (.cmp .ne) [.var 3, .cst (.str "")]) (.mth (.var 3) .split 5 [] false [.cst (.str ",")]) (.op .lst [])] [.asg (.nm 6) (.mth (.var 5) .split 5 [] false [.cst (.str " ")]), .ite (.or (.op (.cmp .ne) [.op (.blt .len) [.var 6], .cst (.int 4)]) (.or (.not (.chn .lt .le (.cst (.int 0)) (.op (.blt .len) [.op .idx [.var 6, .cst (.int 3)]]) (.cst (.int 2)))) (.not (.op (.blt .all) [.comp .lst [.op (.cmp .isin) [.var 7, .cst (.str "0123456789")]] [.mk [7] (.nm 7) .val [.op .idx [.var 6, .cst (.int 3)]] []]])))) [.never] [], .ex (.mth (.var 4) .append 1 [] false [.op .tup [.op .idx [.var 6, .cst (.int 1)], .op .idx [.var 6, .cst (.int 2)], .op (.blt .int) [.op .idx [.var 6, .cst (.int 3)]]]])], .ret (.op (.blt .tuple) [.var 4])]
def f15 : Fn := { size := 8, npos := 1, star := false, dfl := [], body := b15 }
def b16 : List C := [.ite (.not (.op (.call 13 [] false) [.var 1])) [.never] [], .asg (.fld (.var 0) 6) (.var 1), .asg (.fld (.var 0) 7) (.op (.blt .tuple) [.comp .lst [.comp .dct [.op .tup [.op .idx [.var 3, .cst (.int 0)], .op .idx [.var 3, .cst (.int 1)]], .op .idx [.var 3, .cst (.int 2)]] [.mk [3] (.nm 3) .val [.var 2] []]] [.mk [2] (.nm 2) .val [.var 1] []]]), .asg (.fld (.var 0) 8) (.op (.call 9 [] false) [.var 1])]
def f16 : Fn := { size := 4, npos := 1, star := true, dfl := [], body := b16 }
def b17 : List C := [.ite (.not (.op (.isi [.bt "tuple"]) [.var 1])) [.never] [], .ret (.callv 0 true [.var 1])]
def f17 : Fn := { size := 2, npos := 2, star := false, dfl := [], body := b17 }
def b18 : List C := [.ret (.and (.op (.isi [.own 3]) [.var 1]) (.op (.cmp .eq) [.op (.attr 6) [.var 0], .op (.attr 6) [.var 1]]))]
def f18 : Fn := { size := 2, npos := 2, star := false, dfl := [], body := b18 }
def b19 : List C := [.ret (.op (.blt .len) [.op (.attr 6) [.var 0]])]
def f19 : Fn := { size := 1, npos := 1, star := false, dfl := [], body := b19 }
def b20 : List C := [.ret (.op (.blt .tuple) [.op (.blt .sorted) [.comp .set [.var 2] [.mk [1, 2] (.nm 1) .val [.op (.attr 6) [.var 0]] [], .mk [2] (.nm 2) .val [.op (.call 7 [] false) [.var 1]] []]]])]
def f20 : Fn := { size := 3, npos := 1, star := false, dfl := [], body := b20 }
def b21 : List C := [.never]
def f21 : Fn := { size := 1, npos := 1, star := false, dfl := [], body := b21 }
def b22 : List C := [.never]
def f22 : Fn := { size := 3, npos := 3, star := false, dfl := [], body := b22 }
def b23 : List C := [.never]
def f23 : Fn := { size := 3, npos := 2, star := true, dfl := [], body := b23 }
def b24 : List C := [.never]
def f24 : Fn := { size := 2, npos := 1, star := true, dfl := [], body := b24 }
def b25 : List C := [.never]
def f25 : Fn := { size := 3, npos := 3, star := false, dfl := [], body := b25 }
def b26 : List C := [.ret (.op (.cmp .eq) [.op .idx [.op (.attr 8) [.var 0], .var 1], .op .idx [.op (.attr 8) [.var 0], .var 2]])]
def f26 : Fn := { size := 3, npos := 3, star := false, dfl := [], body := b26 }
def b27 : List C := [.never]
def f27 : Fn := { size := 1, npos := 1, star := false, dfl := [], body := b27 }
def b28 : List C := [.never]
def f28 : Fn := { size := 2, npos := 2, star := false, dfl := [], body := b28 }
def b29 : List C := [.ret (.mth (.cst (.str "\n")) .join 3 [] false [.comp .lst [.op (.call 14 [] false) [.var 1, .var 2]] [.mk [1, 2] (.tup [.nm 1, .nm 2]) .enum [.op (.attr 6) [.var 0]] []]])]
def f29 : Fn := { size := 3, npos := 1, star := false, dfl := [], body := b29 }
def b30 : List C := [.ite (.not (.op (.isi [.bt "str"]) [.var 1])) [.never] [], .asg (.nm 2) (.op (.blt .tuple) [.comp .lst [.op (.call 15 [] false) [.var 4]] [.mk [4] (.nm 4) .val [.mth (.var 1) .split 5 [] false [.cst (.str "\n")]] []]]), .ite (.not (.op (.call 13 [] false) [.var 2])) [.never] [], .asg (.nm 3) (.callv 0 true [.var 2]), .ite (.op (.cmp .ne) [.op (.attr 9) [.var 3], .var 1]) [.never] [], .ret (.var 3)]
def f30 : Fn := { size := 5, npos := 2, star := false, dfl := [], body := b30 }
def b31 : List C := [.asg (.tup [.nm 1, .nm 2]) (.op .tup [.op (.blt .list) [.sl (.var 0) [] [.cst (.int 63)]], .cst (.int 90149)]), .for (.nm 3) .val [.var 1] [.asg (.nm 2) (.op (.bin .mod) [.op (.bin .add) [.op (.bin .add) [.op (.bin .mul) [.var 2, .cst (.int 48271)], .op (.bin .mod) [.var 3, .cst (.int 1000000007)]], .cst (.int 13)], .cst (.int 2147483629)])], .ret (.op .lst [.op .rev [.var 1], .var 2, .cst (.int 0)])]
def f31 : Fn := { size := 4, npos := 1, star := false, dfl := [], body := b31 }
def b32 : List C := [.asg (.sub (.var 0) (.cst (.int 2))) (.op (.bin .add) [.op .idx [.var 0, .cst (.int 2)], .cst (.int 1)]), .asg (.nm 2) (.op .idx [.var 0, .cst (.int 1)]), .ite (.op (.cmp .ne) [.op .idx [.var 0, .cst (.int 0)], .op .lst []]) [.asg (.nm 2) (.mth (.op .idx [.var 0, .cst (.int 0)]) .pop 10 [] false []), .ite (.op (.cmp .ge) [.var 2, .op (.bin .pow) [.cst (.int 10), .cst (.int 18)]]) [.ex (.mth (.op .idx [.var 0, .cst (.int 0)]) .append 1 [] false [.op (.bin .fdiv) [.var 2, .var 1]]), .ret (.op (.bin .mod) [.var 2, .var 1])] []] [], .asg (.nm 3) (.op (.bin .mod) [.op (.bin .mul) [.op (.bin .add) [.op (.bin .add) [.op (.bin .mod) [.var 2, .cst (.int 2147483563)], .op (.bin .mul) [.cst (.int 69621), .op .idx [.var 0, .cst (.int 2)]]], .cst (.int 7)], .cst (.int 48271)], .cst (.int 2147483647)]), .asg (.nm 3) (.op (.bin .mod) [.op (.bin .add) [.op (.bin .add) [.op (.bin .mul) [.var 3, .var 3], .op (.bin .mul) [.cst (.int 16807), .op .idx [.var 0, .cst (.int 2)]]], .cst (.int 13)], .cst (.int 2147483587)]), .ret (.op (.bin .mod) [.op (.bin .fdiv) [.op (.bin .mod) [.op (.bin .mul) [.var 3, .op (.bin .add) [.op (.bin .fdiv) [.var 3, .cst (.int 3)], .cst (.int 39373)]], .cst (.int 2305843009213693951)], .cst (.int 128)], .var 1])]
def f32 : Fn := { size := 4, npos := 2, star := false, dfl := [], body := b32 }
def b33 : List C := [.ret (.op .idx [.var 1, .op (.call 32 [] false) [.var 0, .op (.blt .len) [.var 1]]])]
def f33 : Fn := { size := 2, npos := 2, star := false, dfl := [], body := b33 }
def b34 : List C := [.asg (.nm 1) (.op .tup [.op .tup [.op .tup [.cst (.str "read"), .cst (.str "a"), .cst (.int 0)], .op .tup [.cst (.str "seta"), .cst (.str "ok"), .cst (.int 0)], .op .tup [.cst (.str "setb"), .cst (.str "ok"), .cst (.int 1)]]]), .asg (.nm 1) (.op (.bin .add) [.var 1, .op .tup [.op .tup [.op .tup [.cst (.str "read"), .cst (.str "b"), .cst (.int 1)], .op .tup [.cst (.str "seta"), .cst (.str "ok"), .cst (.int 0)], .op .tup [.cst (.str "setb"), .cst (.str "ok"), .cst (.int 1)]]]]), .asg (.nm 2) (.op .tup [.op .tup [.op .tup [.cst (.str "put"), .cst (.str "ok"), .cst (.int 1)], .op .tup [.cst (.str "take"), .cst (.str "no"), .cst (.int 0)]], .op .tup [.op .tup [.cst (.str "put"), .cst (.str "ok"), .cst (.int 2)], .op .tup [.cst (.str "take"), .cst (.str "ok"), .cst (.int 0)]], .op .tup [.op .tup [.cst (.str "take"), .cst (.str "ok"), .cst (.int 1)]]]), .asg (.nm 3) (.op .tup [.op .tup [.op .tup [.cst (.str "puta"), .cst (.str "ok"), .cst (.int 1)], .op .tup [.cst (.str "putb"), .cst (.str "ok"), .cst (.int 2)]], .op .tup [.op .tup [.cst (.str "puta"), .cst (.str "ok"), .cst (.int 3)], .op .tup [.cst (.str "putb"), .cst (.str "ok"), .cst (.int 4)], .op .tup [.cst (.str "take"), .cst (.str "a"), .cst (.int 0)]]]), .asg (.nm 3) (.op (.bin .add) [.var 3, .op .tup [.op .tup [.op .tup [.cst (.str "puta"), .cst (.str "ok"), .cst (.int 5)], .op .tup [.cst (.str "putb"), .cst (.str "ok"), .cst (.int 6)], .op .tup [.cst (.str "take"), .cst (.str "b"), .cst (.int 0)]], .op .tup [.op .tup [.cst (.str "take"), .cst (.str "a"), .cst (.int 1)]], .op .tup [.op .tup [.cst (.str "take"), .cst (.str "a"), .cst (.int 2)]]]]), .asg (.nm 3) (.op (.bin .add) [.var 3, .op .tup [.op .tup [.op .tup [.cst (.str "take"), .cst (.str "b"), .cst (.int 1)]], .op .tup [.op .tup [.cst (.str "take"), .cst (.str "b"), .cst (.int 2)]]]]), .asg (.nm 4) (.comp .lst [.op (.blt .tuple) [.op (.bin .add) [.op (.bin .mul) [.op .lst [.op .tup [.cst (.str "add"), .cst (.str "ok"), .op (.bin .add) [.var 12, .cst (.int 1)]]], .op (.blt .int) [.op (.cmp .lt) [.var 12, .cst (.int 39)]]], .op (.bin .mul) [.op .lst [.op .tup [.cst (.str "sub"), .cst (.str "ok"), .op (.bin .sub) [.var 12, .cst (.int 1)]]], .op (.blt .int) [.op (.cmp .gt) [.var 12, .cst (.int 0)]]]]]] [.mk [12] (.nm 12) .range [.cst (.int 40)] []]), .asg (.nm 5) (.op .lst [.var 1, .var 2, .var 3, .op (.blt .tuple) [.var 4]]), .asg (.nm 6) (.op (.call 32 [] false) [.var 0, .cst (.int 7)]), .ite (.op (.cmp .lt) [.var 6, .cst (.int 4)]) [.ret (.op .idx [.var 5, .var 6])] [], .asg (.nm 7) (.op .lst [.op .lst [.op .tup [.cst (.str "begin"), .cst (.str "0")], .op .tup [.cst (.str "commit"), .cst (.str "a")], .op .tup [.cst (.str "did"), .cst (.str "ok")], .op .tup [.cst (.str "x"), .cst (.str "y")]], .op .lst [.op .tup [.cst (.str "get"), .cst (.str "a")], .op .tup [.cst (.str "get"), .cst (.str "b")], .op .tup [.cst (.str "see"), .cst (.str "a")]]]), .asg (.tup [.nm 8, .nm 9]) (.op .tup [.op (.call 33 [] false) [.var 0, .var 7], .op (.bin .add) [.cst (.int 1), .op (.call 32 [] false) [.var 0, .cst (.int 4)]]]), .asg (.nm 10) (.op .lst []), .for (.nm 11) .range [.var 9] [.ex (.mth (.var 10) .append 1 [] false [.op (.blt .tuple) [.comp .lst [.op (.bin .add) [.var 13, .op .tup [.op (.call 32 [] false) [.var 0, .var 9]]]] [.mk [13] (.nm 13) .val [.var 8] [.op (.cmp .gt) [.op (.call 32 [] false) [.var 0, .cst (.int 4)], .cst (.int 0)]]]]])], .ret (.op (.blt .tuple) [.var 10])]
def f34 : Fn := { size := 14, npos := 1, star := false, dfl := [], body := b34 }
def b35 : List C := [.ret (.comp .lst [.op (.call 34 [] false) [.var 0]] [.mk [1] (.nm 1) .range [.op (.bin .add) [.cst (.int 1), .op (.call 32 [] false) [.var 0, .cst (.int 4)]]] []])]
def f35 : Fn := { size := 2, npos := 1, star := false, dfl := [], body := b35 }
def b36 : List C := [.asg (.nm 1) (.op .lst []), .for (.nm 2) .val [.var 0] [.asg (.nm 1) (.op (.bin .add) [.var 1, .comp .lst [.sl (.var 3) [] [.cst (.int 2)]] [.mk [3] (.nm 3) .val [.var 2] []]])], .ret (.op (.blt .sorted) [.op (.blt .set) [.var 1]])]
def f36 : Fn := { size := 4, npos := 1, star := false, dfl := [], body := b36 }
def b37 : List C := [.asg (.nm 2) (.op (.call 32 [] false) [.var 0, .op (.blt .len) [.var 1]]), .asg (.nm 3) (.op (.call 36 [] false) [.op .idx [.var 1, .var 2]]), .ret (.ite (.op (.cmp .eq) [.var 3, .op .lst []]) (.cst .non) (.op (.bin .add) [.op .tup [.var 2], .op (.call 33 [] false) [.var 0, .var 3]]))]
def f37 : Fn := { size := 4, npos := 2, star := false, dfl := [], body := b37 }
def b38 : List C := [.asg (.tup [.nm 3, .nm 4, .nm 5]) (.op .tup [.op .lst [], .op .lst [], .op .lst []]), .for (.nm 6) .range [.op (.call 32 [] false) [.var 0, .op (.bin .add) [.var 2, .cst (.int 1)]]] [.asg (.nm 7) (.op (.call 32 [] false) [.var 0, .cst (.int 8)]), .ite (.and (.op (.cmp .lt) [.op (.blt .len) [.var 5], .cst (.int 10)]) (.or (.op (.cmp .eq) [.var 4, .op .lst []]) (.op (.cmp .eq) [.var 7, .cst (.int 0)]))) [.ex (.mth (.var 3) .append 1 [] false [.op .tup [.cst (.str "begin")]]), .ex (.mth (.var 4) .append 1 [] false [.op (.blt .len) [.var 5]]), .ex (.mth (.var 5) .append 1 [] false [.cst (.int 0)])] [.ite (.and (.op (.cmp .ne) [.var 4, .op .lst []]) (.op (.cmp .lt) [.var 7, .cst (.int 6)])) [.asg (.tup [.nm 8, .nm 9]) (.op .tup [.op (.call 37 [] false) [.var 0, .var 1], .op (.call 33 [] false) [.var 0, .var 4]]), .ite (.and (.op (.cmp .isnot) [.var 8, .cst .non]) (.op (.cmp .lt) [.op .idx [.var 5, .var 9], .cst (.int 12)])) [.ex (.mth (.var 3) .append 1 [] false [.op (.bin .add) [.op .tup [.cst (.str "did"), .var 9], .var 8]]), .asg (.sub (.var 5) (.var 9)) (.op (.bin .add) [.op .idx [.var 5, .var 9], .cst (.int 1)])] []] [.ite (.op (.cmp .ne) [.var 4, .op .lst []]) [.asg (.nm 9) (.op (.call 33 [] false) [.var 0, .var 4]), .ex (.mth (.var 4) .remove 11 [] false [.var 9]), .ex (.mth (.var 3) .append 1 [] false [.op .tup [.ite (.or (.op (.cmp .eq) [.var 7, .cst (.int 6)]) (.op (.cmp .eq) [.op (.call 32 [] false) [.var 0, .cst (.int 2)], .cst (.int 0)])) (.cst (.str "commit")) (.cst (.str "abort")), .var 9]])] []]]], .ret (.op (.blt .tuple) [.var 3])]
def f38 : Fn := { size := 10, npos := 3, star := false, dfl := [], body := b38 }
def b39 : List C := [.asg (.tup [.nm 2, .nm 3, .nm 4]) (.op .tup [.op .lst [], .op .lst [], .op .lst []]), .for (.nm 5) .val [.var 1] [.ite (.op (.cmp .eq) [.var 5, .op .tup [.cst (.str "begin")]]) [.ex (.mth (.var 2) .append 1 [] false [.op (.blt .tuple) [.comp .lst [.var 7] [.mk [7] (.nm 7) .range [.op (.blt .len) [.var 4]] [.op (.cmp .eq) [.op .idx [.var 4, .var 7], .cst (.str "commit")]]]]]), .ex (.mth (.var 3) .append 1 [] false [.op .lst []]), .ex (.mth (.var 4) .append 1 [] false [.cst (.str "")])] [.ite (.op (.cmp .eq) [.op .idx [.var 5, .cst (.int 0)], .cst (.str "did")]) [.ex (.mth (.op .idx [.var 3, .op .idx [.var 5, .cst (.int 1)]]) .append 1 [] false [.sl (.var 5) [.cst (.int 2)] []])] [.asg (.sub (.var 4) (.op .idx [.var 5, .cst (.int 1)])) (.op .idx [.var 5, .cst (.int 0)])]]], .asg (.nm 6) (.op .lst []), .for (.tup [.nm 7, .nm 8]) .enum [.var 4] [.ite (.op (.cmp .ne) [.var 8, .cst (.str "abort")]) [.ex (.mth (.var 6) .append 1 [] false [.op .tup [.var 7, .op (.cmp .eq) [.var 8, .cst (.str "commit")], .op .idx [.var 2, .var 7], .op (.blt .tuple) [.op .idx [.var 3, .var 7]]]])] []], .ret (.op .tup [.op .tup [.op (.blt .tuple) [.comp .lst [.cst (.int 0)] [.mk [9] (.nm 9) .val [.var 0] []]]], .op (.blt .tuple) [.var 6]])]
def f39 : Fn := { size := 10, npos := 2, star := false, dfl := [], body := b39 }
def b40 : List C := [.asg (.nm 1) (.op (.call 31 [] false) [.var 0]), .for (.nm 2) .range [.cst (.int 6)] [.asg (.nm 3) (.op (.call 35 [] false) [.var 1]), .asg (.nm 4) (.op (.blt .tuple) [.comp .lst [.mth (.cst (.cls 3)) .none 12 [] false [.var 7]] [.mk [7] (.nm 7) .val [.var 3] []]]), .asg (.nm 5) (.op (.call 38 [] false) [.var 1, .var 3, .ite (.op (.cmp .gt) [.var 2, .cst (.int 0)]) (.cst (.int 30)) (.cst (.int 200))]), .asg (.nm 6) (.op (.blt .repr) [.op (.call 39 [] false) [.var 3, .var 5]]), .ite (.or (.op (.cmp .ne) [.op (.blt .repr) [.op (.call 6 [] false) [.var 4, .var 5]], .var 6]) (.op (.cmp .ne) [.op (.blt .repr) [.op (.call 6 [1, 0] false) [.var 5, .var 4]], .var 6])) [.ret (.cst (.bl false))] []], .ret (.cst (.bl true))]
def f40 : Fn := { size := 8, npos := 1, star := false, dfl := [], body := b40 }
def T : Tab := ⟨[f0, f1, f2, f3, f4, f5, f6, f7, f8, f9, f10, f11, f12, f13, f14, f15, f16, f17, f18, f19, f20, f21, f22, f23, f24, f25, f26, f27, f28, f29, f30, f31, f32, f33, f34, f35, f36, f37, f38, f39, f40], [{ ms := [], init := none, eqm := none, exc := true }, { ms := [], init := none, eqm := none, exc := true }, { ms := [], init := none, eqm := none, exc := true }, { ms := [(12, .cm, 17), (0, .prop, 20), (13, .prop, 21), (14, .plain, 22), (15, .plain, 23), (16, .plain, 24), (17, .plain, 25), (18, .plain, 26), (19, .prop, 27), (20, .plain, 28), (9, .prop, 29), (21, .cm, 30)], init := some 16, eqm := some 18, exc := false }]⟩
def c : Cc := { N := [], sc := ⟨.function, [], false, false, []⟩, gl := ("_wall", .fn 0) :: ("is_index", .fn 2) :: ("is_event_of", .fn 3) :: ("is_open", .fn 4) :: ("marks_behind", .fn 5) :: ("log_of", .fn 6) :: ("legal_events", .fn 7) :: ("numbered", .fn 8) :: ("alike_classes", .fn 9) :: ("is_word", .fn 10) :: ("is_state", .fn 12) :: ("are_states", .fn 13) :: ("state_text", .fn 14) :: ("read_state", .fn 15) :: ("_law_deck", .fn 31) :: ("_law_draw", .fn 32) :: ("_law_pick", .fn 33) :: ("_law_states", .fn 34) :: ("_law_system", .fn 35) :: ("_law_events", .fn 36) :: ("_law_did", .fn 37) :: ("_law_history", .fn 38) :: ("_law_due", .fn 39) :: ("law", .fn 40) :: ("is_integer_logs", .fn 1) :: ("is_integer_kinds", .fn 11) :: ("Kind", .cls 3) :: ("OPEN", .str "open") :: ("COMMITTED", .str "committed") :: ("ABORTED", .str "aborted") :: ("MOST_STATES", .int 40) :: ("MOST_EVENTS", .int 24) :: ("MOST_CHARACTERS", .int 12) :: ("CHARACTERS", .str "abcdefghijklmnopqrstuvwxyz0123456789") :: ("DIGITS", .str "0123456789") :: ("PARTS", .int 4) :: [], nm := ["events", "append", "setdefault", "join", "partition", "split", "states", "moves", "firsts", "text", "pop", "remove", "of", "operations", "answers", "led", "reached", "allows", "alike", "least", "difference", "read"], kws := [(["k"] : List Str), (["thing"] : List Str), (["thing", "many"] : List Str), (["system", "index", "operation", "answer"] : List Str), (["marks", "number"] : List Str), (["system", "marks", "thing"] : List Str), (["system", "history"] : List Str), (["state"] : List Str), (["values"] : List Str), (["states"] : List Str), (["thing"] : List Str), (["thing"] : List Str), (["thing", "many"] : List Str), (["states"] : List Str), (["number", "state"] : List Str), (["line"] : List Str), (["self"] : List Str), (["cls", "states"] : List Str), (["self", "other"] : List Str), (["self"] : List Str), (["self"] : List Str), (["self"] : List Str), (["self", "state", "operation"] : List Str), (["self", "state"] : List Str), (["self"] : List Str), (["self", "one", "other"] : List Str), (["self", "one", "other"] : List Str), (["self"] : List Str), (["self", "other"] : List Str), (["self"] : List Str), (["cls", "text"] : List Str), (["script"] : List Str), (["deck", "count"] : List Str), (["deck", "some"] : List Str), (["deck"] : List Str), (["deck"] : List Str), (["states"] : List Str), (["deck", "machines"] : List Str), (["deck", "machines", "many"] : List Str), (["objects", "acts"] : List Str), (["script"] : List Str)], mt := [[20], [], [], [], [], [], [], [], [], [29], [], [], [17], [21], [22], [23], [24], [25], [26], [27], [28], [30]], tb := T }
def locs : List Lc := [.glo "_wall", .glo "is_integer_logs", .glo "is_index", .glo "is_event_of", .glo "is_open", .glo "marks_behind", .glo "log_of", .glo "legal_events", .glo "numbered", .glo "alike_classes", .glo "is_word", .glo "is_integer", .glo "is_state", .glo "are_states", .glo "state_text", .glo "read_state", .meth "Kind" "__init__", .cm "Kind" "of", .meth "Kind" "__eq__", .meth "Kind" "__len__", .prop "Kind" "events", .prop "Kind" "operations", .meth "Kind" "answers", .meth "Kind" "led", .meth "Kind" "reached", .meth "Kind" "allows", .meth "Kind" "alike", .prop "Kind" "least", .meth "Kind" "difference", .prop "Kind" "text", .cm "Kind" "read", .glo "_law_deck", .glo "_law_draw", .glo "_law_pick", .glo "_law_states", .glo "_law_system", .glo "_law_events", .glo "_law_did", .glo "_law_history", .glo "_law_due", .glo "law"]
def sds : List DefS := [
  DefS.of "_wall" ["k"] (top 0),
  DefS.of "is_integer" ["thing"] (top 6),
  DefS.of "is_index" ["thing", "many"] (top 12),
  DefS.of "is_event_of" ["system", "index", "operation", "answer"] (top 13),
  DefS.of "is_open" ["marks", "number"] (top 14),
  DefS.of "marks_behind" ["system", "marks", "thing", "mark"] (top 15),
  DefS.of "log_of" ["system", "history", "marks", "rows", "before", "thing", "entries", "number", "mark"] (top 16),
  DefS.of "legal_events" ["state", "operation", "answer", "then"] (top 18),
  DefS.of "numbered" ["values", "found", "index", "value"] (top 19),
  DefS.of "alike_classes" ["states", "classes", "views", "state", "own", "finer", "operation", "answer", "then"] (top 20),
  DefS.of "is_word" ["thing", "character"] (top 28),
  DefS.of "is_integer" ["thing"] (top 29),
  DefS.of "is_state" ["thing", "many", "part", "events", "one", "other"] (top 31),
  DefS.of "are_states" ["states", "state", "event"] (top 32),
  DefS.of "state_text" ["number", "state", "operation", "answer", "then"] (top 33),
  DefS.of "read_state" ["line", "head", "colon", "rest", "found", "piece", "parts", "digit"] (top 34),
  DefS.of "Kind.__init__" ["self", "states", "state", "part"] (inC 35 0),
  DefS.of "Kind.of" ["cls", "states"] (inC 35 1),
  DefS.of "Kind.__eq__" ["self", "other"] (inC 35 2),
  DefS.of "Kind.__len__" ["self"] (inC 35 3),
  DefS.of "Kind.events" ["self", "state", "event"] (inC 35 4),
  DefS.of "Kind.operations" ["self"] (inC 35 5),
  DefS.of "Kind.answers" ["self", "state", "operation"] (inC 35 6),
  DefS.of "Kind.led" ["self", "state", "events"] (inC 35 7),
  DefS.of "Kind.reached" ["self", "states"] (inC 35 8),
  DefS.of "Kind.allows" ["self", "one", "other"] (inC 35 9),
  DefS.of "Kind.alike" ["self", "one", "other"] (inC 35 10),
  DefS.of "Kind.least" ["self"] (inC 35 11),
  DefS.of "Kind.difference" ["self", "other"] (inC 35 12),
  DefS.of "Kind.text" ["self", "number", "state"] (inC 35 13),
  DefS.of "Kind.read" ["cls", "text", "states", "kind", "line"] (inC 35 14),
  DefS.of "_law_deck" ["script", "cells", "mixed", "one"] (top 37),
  DefS.of "_law_draw" ["deck", "count", "top", "number"] (top 38),
  DefS.of "_law_pick" ["deck", "some"] (top 39),
  DefS.of "_law_states" ["deck", "letter", "purse", "line", "steps", "known", "way", "menus", "some", "many", "found", "state", "k", "event"] (top 40),
  DefS.of "_law_system" ["deck", "k"] (top 41),
  DefS.of "_law_events" ["states", "found", "state", "part"] (top 42),
  DefS.of "_law_did" ["deck", "machines", "at", "some"] (top 43),
  DefS.of "_law_history" ["deck", "machines", "many", "things", "opened", "counts", "k", "way", "did", "number"] (top 44),
  DefS.of "_law_due" ["objects", "acts", "behind", "rows", "ends", "thing", "entries", "number", "end", "states"] (top 45),
  DefS.of "law" ["script", "deck", "turn", "objects", "house", "acts", "due", "states"] (top 46)]
def L : LawD := ⟨T, c, locs, sds, [[], [], [], [], [], [], [], [], [], [], [], [], [], [], [], [], [], [], [], [], [], [], [], [], [], [], [], [], [], [], [], [], [], [], [], [], [], [], [], [], []], ["StoreError", "NoKind", "InvalidText", "Kind"]⟩
theorem fb0 : L.fnB 0 f0 = true := by kernel_rfl
theorem fb1 : L.fnB 1 f1 = true := by kernel_rfl
theorem fb2 : L.fnB 2 f2 = true := by kernel_rfl
theorem fb3 : L.fnB 3 f3 = true := by kernel_rfl
theorem fb4 : L.fnB 4 f4 = true := by kernel_rfl
theorem fb5 : L.fnB 5 f5 = true := by kernel_rfl
theorem fb6 : L.fnB 6 f6 = true := by kernel_rfl
theorem fb7 : L.fnB 7 f7 = true := by kernel_rfl
theorem fb8 : L.fnB 8 f8 = true := by kernel_rfl
theorem fb9 : L.fnB 9 f9 = true := by kernel_rfl
theorem fb10 : L.fnB 10 f10 = true := by kernel_rfl
theorem fb11 : L.fnB 11 f11 = true := by kernel_rfl
theorem fb12 : L.fnB 12 f12 = true := by kernel_rfl
theorem fb13 : L.fnB 13 f13 = true := by kernel_rfl
theorem fb14 : L.fnB 14 f14 = true := by kernel_rfl
theorem fb15 : L.fnB 15 f15 = true := by kernel_rfl
theorem fb16 : L.fnB 16 f16 = true := by kernel_rfl
theorem fb17 : L.fnB 17 f17 = true := by kernel_rfl
theorem fb18 : L.fnB 18 f18 = true := by kernel_rfl
theorem fb19 : L.fnB 19 f19 = true := by kernel_rfl
theorem fb20 : L.fnB 20 f20 = true := by kernel_rfl
theorem fb21 : L.fnB 21 f21 = true := by kernel_rfl
theorem fb22 : L.fnB 22 f22 = true := by kernel_rfl
theorem fb23 : L.fnB 23 f23 = true := by kernel_rfl
theorem fb24 : L.fnB 24 f24 = true := by kernel_rfl
theorem fb25 : L.fnB 25 f25 = true := by kernel_rfl
theorem fb26 : L.fnB 26 f26 = true := by kernel_rfl
theorem fb27 : L.fnB 27 f27 = true := by kernel_rfl
theorem fb28 : L.fnB 28 f28 = true := by kernel_rfl
theorem fb29 : L.fnB 29 f29 = true := by kernel_rfl
theorem fb30 : L.fnB 30 f30 = true := by kernel_rfl
theorem fb31 : L.fnB 31 f31 = true := by kernel_rfl
theorem fb32 : L.fnB 32 f32 = true := by kernel_rfl
theorem fb33 : L.fnB 33 f33 = true := by kernel_rfl
theorem fb34 : L.fnB 34 f34 = true := by kernel_rfl
theorem fb35 : L.fnB 35 f35 = true := by kernel_rfl
theorem fb36 : L.fnB 36 f36 = true := by kernel_rfl
theorem fb37 : L.fnB 37 f37 = true := by kernel_rfl
theorem fb38 : L.fnB 38 f38 = true := by kernel_rfl
theorem fb39 : L.fnB 39 f39 = true := by kernel_rfl
theorem fb40 : L.fnB 40 f40 = true := by kernel_rfl
theorem fb : ∀ f fn, L.T.fs[f]? = some fn → L.fnB f fn = true := fun f fn h => by
  match f, h with
  | 0, h => cases h; exact fb0
  | 1, h => cases h; exact fb1
  | 2, h => cases h; exact fb2
  | 3, h => cases h; exact fb3
  | 4, h => cases h; exact fb4
  | 5, h => cases h; exact fb5
  | 6, h => cases h; exact fb6
  | 7, h => cases h; exact fb7
  | 8, h => cases h; exact fb8
  | 9, h => cases h; exact fb9
  | 10, h => cases h; exact fb10
  | 11, h => cases h; exact fb11
  | 12, h => cases h; exact fb12
  | 13, h => cases h; exact fb13
  | 14, h => cases h; exact fb14
  | 15, h => cases h; exact fb15
  | 16, h => cases h; exact fb16
  | 17, h => cases h; exact fb17
  | 18, h => cases h; exact fb18
  | 19, h => cases h; exact fb19
  | 20, h => cases h; exact fb20
  | 21, h => cases h; exact fb21
  | 22, h => cases h; exact fb22
  | 23, h => cases h; exact fb23
  | 24, h => cases h; exact fb24
  | 25, h => cases h; exact fb25
  | 26, h => cases h; exact fb26
  | 27, h => cases h; exact fb27
  | 28, h => cases h; exact fb28
  | 29, h => cases h; exact fb29
  | 30, h => cases h; exact fb30
  | 31, h => cases h; exact fb31
  | 32, h => cases h; exact fb32
  | 33, h => cases h; exact fb33
  | 34, h => cases h; exact fb34
  | 35, h => cases h; exact fb35
  | 36, h => cases h; exact fb36
  | 37, h => cases h; exact fb37
  | 38, h => cases h; exact fb38
  | 39, h => cases h; exact fb39
  | 40, h => cases h; exact fb40
  | n + 41, h => cases h
theorem nb : L.nmB = true := by kernel_rfl
abbrev R : PySem.W.OpenRow := PySem.W.OpenLaw.row PySem.Challenge.rw_waitkinds_k14_logs_of_histories
abbrev hk : PySem.W.Hook := hookP 5 L
def ob (s : PySem.W.SharedT) : He.AlD := obsP 5 L (HandSHeadRun.getT s)
theorem ob_eq (s : PySem.W.SharedT) : ob s = hk.obs s.abs := obsP_eq (HandSHeadRun.getT_eq s)
def loose0 : List Str := ["_wall", "StoreError", "NoKind", "InvalidText", "is_integer", "is_integer_logs", "OPEN", "COMMITTED", "ABORTED", "is_index", "is_event_of", "is_open", "marks_behind", "log_of", "legal_events", "numbered", "alike_classes", "MOST_STATES", "MOST_EVENTS", "MOST_CHARACTERS", "CHARACTERS", "DIGITS", "PARTS", "is_word", "is_integer_kinds"]
def loose1 : List Str := ["is_state", "are_states", "state_text", "read_state", "Kind", "_law_deck", "_law_draw", "_law_pick", "_law_states", "_law_system", "_law_events", "_law_did", "_law_history", "_law_due"]
def loose : List Str := loose0 ++ loose1
end K14
set_option Elab.async false
set_option linter.all false
set_option maxRecDepth 100000
set_option maxHeartbeats 0
namespace K14
open PySem PySem.Spec PyProof.Rows L2 PD
theorem run (w : World) : HandSHeadRun.RunEq R (PySem.W.view R.prog [46]) hk ob 3000 loose w := by
  intro os
  kernel_rfl
end K14
namespace K14
open PySem PD
local macro_rules | `(tactic| bv_omega) => `(tactic| (repeat (first | with_reducible refine r_cst ?_ | with_reducible refine r_var (by with_unfolding_all rfl) ?_ | with_reducible refine r_op ?_ | with_reducible refine r_cons ?_ | with_reducible refine r_nil ?_ | with_reducible refine t_bl ?_ | with_reducible refine t_tt ?_ | with_reducible refine t_ff ?_ | with_reducible refine t_nt ?_ | with_reducible refine t_nf ?_ | with_reducible refine o_add ?_ | with_reducible refine o_sub ?_ | with_reducible refine o_lt ?_ | with_reducible refine o_le ?_ | with_reducible refine o_gt ?_ | with_reducible refine o_ge ?_ | with_reducible refine o_neg ?_ | with_reducible refine o_idxt at0 ?_ | with_reducible refine o_idxt at1 ?_ | with_reducible refine o_idxt at2 ?_ | with_reducible refine o_tup ln1 ?_ | with_reducible refine o_tup ln2 ?_ | with_reducible refine o_tup ln3 ?_ | with_reducible refine s_cons ?_ | with_reducible refine s_nil ?_ | with_reducible refine s_asg ?_ | with_reducible refine s_ex ?_ | with_reducible refine s_ret ?_ | with_reducible refine s_ite ?_ | with_reducible refine g_nm ?_ | with_reducible refine g_cons ?_ | with_reducible refine g_nil ?_ | with_reducible refine g_tup (by with_unfolding_all rfl) (by with_unfolding_all rfl) ?_ | with_reducible refine g_sub ?_ | with_reducible refine g_fld ?_ | with_reducible refine r_and ?_ | with_reducible refine r_or ?_ | with_reducible refine r_not ?_ | with_reducible refine r_ife ?_ | with_reducible refine r_chn ?_ | with_reducible refine r_sl ?_ | with_reducible refine r_pt0 ?_ | with_reducible refine r_pt1 ?_ | with_reducible refine r_fstr ?_ | with_reducible refine r_j0 ?_ | with_reducible refine r_j1 ?_ | with_reducible refine r_mth ?_ | with_reducible refine r_exint ?_ | with_reducible refine r_exbl ?_ | with_reducible refine o_intb ?_ | with_reducible refine o_min ?_ | with_reducible refine s_for ?_ | with_reducible refine r_comp ?_ | with_reducible refine r_comp2 ?_ | with_reducible refine i_nil ?_ | with_reducible refine i_one ?_ | with_reducible refine w_valt ?_ | with_reducible refine w_vals ?_ | with_reducible refine w_enut ?_ | with_reducible refine w_zipt ?_)))
set_option Elab.async false
set_option linter.all false
set_option maxRecDepth 100000
set_option maxHeartbeats 1000000
/-- the deck: numbers still to be drawn -/
def FeedAt (S : Sto) (a b : Addr) : Prop := ∃ (w n : Int) (cs : List Int), S a = some (.lst [.ref b, .int w, .int n]) ∧ S b = some (.lst (cs.map D.int)) ∧ cs.length ≤ 63 ∧ a ≠ b
def Fr (a b : Addr) (S S' : Sto) : Prop := ∀ c o, c ≠ a → c ≠ b → S c = some o → S' c = some o
theorem Fr.refl {a b : Addr} {S : Sto} : Fr a b S S := fun _ _ _ _ h => h
theorem Fr.trans {a b : Addr} {S S' S'' : Sto} (f : Fr a b S S') (g : Fr a b S' S'') : Fr a b S S'' := fun c o h1 h2 h => g c o h1 h2 (f c o h1 h2 h)
theorem Fr.of_ge {a b : Addr} {S S' : Sto} (g : Ge S S') : Fr a b S S' := fun c o _ _ h => g c o h
theorem Fr.a {a b : Addr} {S S' : Sto} (e : ∀ c, c ≠ a → S' c = S c) : Fr a b S S' := fun c u h1 h2 h => by rw [e c h1]; exact h
theorem Fr.b {a b : Addr} {S S' : Sto} (e : ∀ c, c ≠ b → S' c = S c) : Fr a b S S' := fun c u h1 h2 h => by rw [e c h2]; exact h
theorem FeedAt.ge {a b : Addr} {S S' : Sto} (h : FeedAt S a b) (g : Ge S S') : FeedAt S' a b := by
  obtain ⟨w, n, cs, h1, h2, r⟩ := h
  exact ⟨w, n, cs, g _ _ h1, g _ _ h2, r⟩
theorem digit {k : Nat} {a b : Addr} {many : Int} {S : Sto} {Q : WD} {Ex : WX} (h : FeedAt S a b) (hm : 0 < many ∧ many < 1073741824)
    (q : ∀ r S', 0 ≤ r → r < many → FeedAt S' a b → Fr a b S S' → Q (.int r) S') : phi T (k + 1) 32 [.ref a, .int many] S Q Ex := by
  obtain ⟨w, n, cs, h1, h2, hl, h3⟩ := h
  refine phi_at (fn := f32) rfl rfl (show 2 ≤ 4 by decide) ?_
  unfold wFn
  show wSs T _ b32 _ [some (D.ref a), some (.int many), none, none] _
  unfold b32
  bv_omega
  refine o_idxr (seq_lst h1) at2 ?_
  bv_omega
  refine g_subl h1 (show L2.ixN 3 2 = some 2 from rfl) fun S1 a1 e1 => ?_
  have a1 : S1 a = some (.lst [.ref b, .int w, .int (n + 1)]) := a1
  have b1 : S1 b = some (.lst (cs.map D.int)) := by rw [e1 b h3.symm]; exact h2
  have f1 : Fr a b S S1 := .a e1
  bv_omega
  refine o_idxr (seq_lst a1) at1 ?_
  bv_omega
  refine o_idxr (seq_lst a1) at0 ?_
  bv_omega
  refine o_lst ln0 fun p S2 hp p2 g2 => ?_
  have fe1 : FeedAt S1 a b := ⟨w, n + 1, cs, a1, b1, hl, h3⟩
  have tail : ∀ (m : Int) (x3 : Option D) S2, FeedAt S2 a b → Fr a b S S2 → wSs T (phi T k) (b32.drop 3) { nx := fun _ S' => Q D.non S', rt := Q, ex := fun _ => Ex } [some (D.ref a), some (.int many), some (.int m), x3] S2 := fun m x3 S2 fe f2 => by
    obtain ⟨w2, n2, cs2, c1, c2, cl, c3⟩ := id fe
    show wSs T (phi T k) [_, _, _] _ _ _
    bv_omega
    refine o_mod (by decide) ?_
    bv_omega
    refine o_idxr (seq_lst c1) at2 ?_
    bv_omega
    refine o_mul (.inl (by decide)) ?_
    bv_omega
    refine o_mul (.inr (by decide)) ?_
    bv_omega
    refine o_mod (by decide) ?_
    bv_omega
    refine o_mul (cm_fm (by decide) (by decide)) ?_
    bv_omega
    refine o_idxr (seq_lst c1) at2 ?_
    bv_omega
    refine o_mul (.inl (by decide)) ?_
    bv_omega
    refine o_mod (by decide) ?_
    bv_omega
    refine o_fdiv (by decide) ?_
    bv_omega
    refine o_mul (cm_fm (by decide) (by decide)) ?_
    bv_omega
    refine o_mod (by decide) ?_
    bv_omega
    refine o_fdiv (by decide) ?_
    bv_omega
    refine o_mod (by omega) ?_
    exact q _ _ (fm_lo hm.1) (fm_hi hm.1) fe f2
  bv_omega
  have f2 : Fr a b S S2 := f1.trans (.of_ge g2)
  have a2 := g2 _ _ a1
  have b2 := g2 _ _ b1
  refine o_ne (eq_l 0 (seq_lst b2) (seq_lst p2) ints_d rfl (by decide)) ?_
  bv_omega
  refine t_ncond (fun e => ?_) fun e0 => ?_
  · refine s_nil ?_
    exact tail _ _ _ (fe1.ge g2) f2
  · bv_omega
    refine o_idxr (seq_lst a2) at0 ?_
    bv_omega
    refine m_bt (recv_lst b2 rfl) ?_
    bv_omega
    have e : cs ≠ [] := fun z => e0 (by rw [z]; rfl)
    obtain ⟨cs1, c, rfl⟩ : ∃ cs1 c, cs = cs1 ++ [c] := ⟨cs.dropLast, cs.getLast e, (List.dropLast_concat_getLast e).symm⟩
    refine mm_pop b2 (y := .int c) (by simp) fun S3 b3 e3 => ?_
    have b3 : S3 b = some (.lst (cs1.map D.int)) := by rw [b3]; simp
    have a3 : S3 a = _ := (e3 a h3).trans a2
    have f3 : Fr a b S S3 := f2.trans (.b e3)
    bv_omega
    refine o_pow (by decide) ?_
    bv_omega
    refine t_cond (fun _ => ?_) fun _ => ?_
    · bv_omega
      refine o_idxr (seq_lst a3) at0 ?_
      bv_omega
      refine m_bt (recv_lst b3 rfl) ?_
      bv_omega
      refine o_fdiv (by omega) ?_
      bv_omega
      refine mm_append b3 ?_ fun S4 b4 e4 => ?_
      · rw [List.length_map, sizeLine_eq]; rw [List.length_append] at hl; omega
      have b4 : S4 b = some (.lst ((cs1 ++ [c.fdiv many]).map D.int)) := by rw [b4]; simp
      have a4 : S4 a = _ := (e4 a h3).trans a3
      bv_omega
      refine o_mod (by omega) ?_
      exact q _ _ (fm_lo hm.1) (fm_hi hm.1) ⟨w, n + 1, _, a4, b4, by rw [List.length_append] at hl ⊢; exact hl, h3⟩ (f3.trans (.b e4))
    · refine s_nil ?_
      show wSs T (phi T k) [] _ _ _
      refine s_nil ?_
      exact tail _ _ _ ⟨w, n + 1, _, a3, b3, by rw [List.length_append] at hl; omega, h3⟩ f3
set_option Elab.async false
set_option linter.all false
set_option maxRecDepth 100000
set_option maxHeartbeats 1000000
section
variable {k : Nat} {a b p : Addr} {S : Sto} {Q : WD} {Ex : WX} {xs : List D}
theorem pick_l (h : FeedAt S a b) (hp : S p = some (.lst xs)) (pa : p ≠ a) (pb : p ≠ b) (hx : 0 < xs.length ∧ xs.length < 1000000) (q : ∀ d S', d ∈ xs → FeedAt S' a b → Fr a b S S' → Q d S') : phi T (k + 2) 33 [.ref a, .ref p] S Q Ex := by
  refine phi_at (fn := f33) rfl rfl (show 2 ≤ 2 by decide) ?_
  show wSs T _ b33 _ [some (D.ref a), some (.ref p)] _
  unfold b33
  bv_omega
  refine o_len (n := xs.length) (.inr (.inl ⟨xs, seq_lst hp, rfl⟩)) ?_
  bv_omega
  refine o_call rfl rfl (digit h (by omega) fun r S' h1 h2 fe f => ?_)
  bv_omega
  obtain ⟨n, rfl⟩ := Int.eq_ofNat_of_zero_le h1
  have lt : n < xs.length := by omega
  refine o_idxr (seq_lst (f p _ pa pb hp)) (by rw [atI_nat]; exact List.getElem?_eq_getElem lt) ?_
  exact q _ _ (List.getElem_mem lt) fe f
theorem pick_s {z : Str} (h : FeedAt S a b) (hx : 0 < z.length ∧ z.length < 1000000) (q : ∀ c S', c ∈ z.cps.toList → FeedAt S' a b → Fr a b S S' → Q (.str ⟨#[c]⟩) S') : phi T (k + 2) 33 [.ref a, .str z] S Q Ex := by
  refine phi_at (fn := f33) rfl rfl (show 2 ≤ 2 by decide) ?_
  show wSs T _ b33 _ [some (D.ref a), some (.str z)] _
  unfold b33
  bv_omega
  refine o_len (n := z.length) (.inl ⟨z, rfl, by rw [sizeLine_eq]; omega, rfl⟩) ?_
  bv_omega
  refine o_call rfl rfl (digit h (by omega) fun r S' h1 h2 fe f => ?_)
  bv_omega
  obtain ⟨n, rfl⟩ := Int.eq_ofNat_of_zero_le h1
  have lt : n < z.cps.toList.length := by
    have : z.length = z.cps.toList.length := by simp [Str.length]
    omega
  refine o_idxs (by rw [sizeLine_eq]; omega) (by rw [atI_nat]; exact List.getElem?_eq_getElem lt) ?_
  exact q _ _ (List.getElem_mem lt) fe f
def LETTERS : Str := "abcdefghijklmnopqrstuvwxyz0123456789"
def Word (w : Str) : Prop := 1 ≤ w.length ∧ w.length ≤ 12 ∧ ∀ c ∈ w.cps.toList, c ∈ LETTERS.cps.toList
theorem FeedAt.ne {p : Addr} (h : FeedAt S a b) (hp : S p = none) : p ≠ a ∧ p ≠ b := by
  obtain ⟨w, n, cs, h1, h2, _⟩ := h
  exact ⟨fun e => (by rw [e, h1] at hp; cases hp), fun e => (by rw [e, h2] at hp; cases hp)⟩
end
set_option Elab.async false
set_option linter.all false
set_option maxRecDepth 100000
set_option maxHeartbeats 1000000
theorem ne_new {S : Sto} {a p : Addr} {o : O} (h : S a = some o) (hp : S p = none) : a ≠ p := fun e => (by rw [e, hp] at h; cases h)
theorem cut_to (xs : List D) (n : Nat) : cutD xs none (some (n : Int)) = xs.take n := by
  have h : HT.sIx xs.length xs.length (some (n : Int)) = min n xs.length := by
    unfold HT.sIx
    simp
    try split
    all_goals omega
  have h0 : HT.sIx xs.length 0 none = 0 := rfl
  unfold cutD
  rw [h, h0, List.drop_zero, Nat.sub_zero]
  by_cases hl : n ≤ xs.length
  · rw [Nat.min_eq_left hl]
  · rw [Nat.min_eq_right (by omega), List.take_length, List.take_of_length_le (by omega)]
theorem deck {k : Nat} {s : Addr} {ns : List Int} {S : Sto} {Q : WD} {Ex : WX} (h : at_ S s = some (.lst (ns.map D.int))) (hn : ns.length ≤ 63) (q : ∀ a b S', FeedAt S' a b → Ge S S' → Q (.ref a) S') : phi T (k + 1) 31 [.ref s] S Q Ex := by
  refine phi_at (fn := f31) rfl rfl (show 1 ≤ 4 by decide) ?_
  show wSs T _ b31 _ [some (D.ref s), none, none, none] _
  unfold b31
  bv_omega
  refine sl_ref (seq_at h) fun p S1 hp p1 g1 => ?_
  have p1 : S1 p = some (.lst ((ns.take 63).map D.int)) := by rw [p1]; exact congrArg (fun l => some (O.lst l)) ((cut_to _ 63).trans (by rw [List.map_take]))
  bv_omega
  refine o_list (seq_lst p1) fun r S2 hr r2 g2 => ?_
  bv_omega
  refine w_valr (seq_lst r2) ?_
  refine loop_list ((ns.take 63).map D.int) (fun i ρ S' => S' = S2 ∧ ∃ w x, ρ = [some (D.ref s), some (.ref r), some (.int w), x]) ⟨rfl, _, none, rfl⟩ (fun i ρ S' _ I => by rw [I.1]; exact src_ref r2) (fun i d ρ S' Q' hd I hq => ?_) fun ρ S' I => ?_
  · obtain ⟨rfl, w, x, rfl⟩ := I
    obtain ⟨n, _, rfl⟩ := List.mem_map.mp (List.mem_of_getElem? hd)
    bv_omega
    refine o_mul (.inr (by decide)) ?_
    bv_omega
    refine o_mod (by decide) ?_
    bv_omega
    refine o_mod (by decide) ?_
    bv_omega
    exact hq _ _ ⟨rfl, _, _, rfl⟩
  · obtain ⟨rfl, w, x, rfl⟩ := I
    refine fin_for ?_
    bv_omega
    refine o_rev (seq_lst r2) fun b S3 hb b3 g3 => ?_
    bv_omega
    refine o_lst ln3 fun a S4 ha a4 g4 => ?_
    refine q a b S4 ⟨w, 0, (ns.take 63).reverse, a4, ?_, ?_, ?_⟩ (((g1.trans g2).trans g3).trans g4)
    · rw [g4 _ _ b3, List.map_reverse]
    · rw [List.length_reverse, List.length_take]; omega
    · exact (ne_new b3 ha).symm
set_option Elab.async false
set_option linter.all false
set_option maxRecDepth 100000
set_option maxHeartbeats 1000000
/-! ### states -/
abbrev Part := Str × Str × Nat
abbrev St1 := List Part
def dPart (p : Part) : D := .tup [.str p.1, .str p.2.1, .int p.2.2]
def dState (st : St1) : D := .tup (st.map dPart)
def dStates (sts : List St1) : D := .tup (sts.map dState)
def ev (p : Part) : D := .tup [.str p.1, .str p.2.1]
section
variable {k : Nat} {S : Sto} {Q : WD} {Ex : WX}
theorem legal {st : St1} (hl : st.length ≤ sizeLine) (q : ∀ S', Ge S S' → Q (.tup (st.map ev)) S') : phi T (k + 1) 7 [dState st] S Q Ex := by
  refine phi_at (fn := f7) rfl rfl (show 1 ≤ 4 by decide) ?_
  show wSs T _ b7 _ [some (.tup (st.map dPart)), none, none, none] _
  unfold b7
  bv_omega
  refine loop_map st dPart ev hl (fun i S' _ => rfl) (fun p hp S' Q' g hq => ?_) (phi_mono _ _) fun p S' hp g e => ?_
  · unfold dPart
    bv_omega
    exact hq _ .refl
  · bv_omega
    refine o_tuple (seq_lst e) ?_
    exact q _ g
/-- is_integer of an int -/
theorem isInt {i : Int} (q : Q (.bl true) S) : phi T (k + 1) 11 [.int i] S Q Ex := by
  refine phi_at (fn := f11) rfl rfl (show 1 ≤ 1 by decide) ?_
  show wSs T _ b11 _ [some (.int i)] _
  unfold b11
  bv_omega
  refine o_isi (k := true) rfl ?_
  bv_omega
  refine o_isi (k := false) rfl ?_
  bv_omega
  exact q
/-- is_word of a word -/
theorem isWord {w : Str} (h : Word w) (q : ∀ S', Ge S S' → Q (.bl true) S') : phi T (k + 1) 10 [.str w] S Q Ex := by
  obtain ⟨h1, h2, h3⟩ := h
  have hz : w.cps.toList.length ≤ sizeLine := by
    have : w.length = w.cps.toList.length := by simp [Str.length]
    rw [sizeLine_eq]
    omega
  refine phi_at (fn := f10) rfl rfl (show 1 ≤ 2 by decide) ?_
  show wSs T _ b10 _ [some (.str w), none] _
  unfold b10
  bv_omega
  refine o_isi (k := true) rfl ?_
  bv_omega
  refine o_len (n := w.length) (.inl ⟨w, rfl, by rw [sizeLine_eq]; omega, rfl⟩) ?_
  bv_omega
  refine t_cond (fun _ => ?_) fun z => absurd (show (0 : Int) < w.length by omega) z
  bv_omega
  refine t_ncond (fun _ => ?_) fun z => absurd (show (w.length : Int) ≤ 12 by omega) z
  bv_omega
  refine loop_map w.cps.toList (fun c => D.str ⟨#[c]⟩) (fun c => D.bl true) hz (fun i S' _ => src_str) (fun c hc S' Q' g hq => ?_) (phi_mono _ _) fun p S' hp g e => ?_
  · bv_omega
    refine o_ins ?_
    have e1 := SX.in_one LETTERS.cps.toList c
    have e2 : SX.S LETTERS.cps.toList = LETTERS := SX.S_tl LETTERS
    rw [e2] at e1
    have e3 : decide (c ∈ LETTERS.cps.toList) = true := decide_eq_true (h3 c hc)
    rw [e3] at e1
    show Q' (D.bl (!(Builtin.Str.occurrences LETTERS (SX.S [c]) 0 LETTERS.length 1).isEmpty)) S'
    rw [e1]
    exact hq _ .refl
  · bv_omega
    have e : S' p = some (.lst ((w.cps.toList.map fun _ => true).map D.bl)) := by rw [e, List.map_map]; rfl
    refine o_all (seq_lst e) ?_
    have : (w.cps.toList.map fun _ => true).all id = true := by simp
    rw [this]
    exact q _ g
end
set_option Elab.async false
set_option linter.all false
set_option maxRecDepth 100000
set_option maxHeartbeats 1000000
theorem cut_from (xs : List D) (n : Nat) : cutD xs (some (n : Int)) none = xs.drop n := by
  unfold cutD
  rw [HT.sIx_nat, HT.sIx_none]
  by_cases h : n ≤ xs.length
  · rw [Nat.min_eq_left h, List.take_of_length_le (by simp)]
  · rw [Nat.min_eq_right (by omega), List.drop_length, List.drop_of_length_le (by omega)]
    simp
/-- x < y, as tuples compare -/
def LtE (p q : Part) : Prop := ltK (.tup [.text p.1, .text p.2.1]) (.tup [.text q.1, .text q.2.1]) = some true
/-- one state of a kind of so many states -/
structure VSt (many : Nat) (st : St1) : Prop where
  w : ∀ p ∈ st, Word p.1 ∧ Word p.2.1 ∧ p.2.2 < many
  lt : ∀ pq ∈ st.zip (st.drop 1), LtE pq.1 pq.2
  len : st.length ≤ 24
  nd : (st.map ev).Nodup
  pw : st.Pairwise LtE
theorem VSt.sz {many : Nat} {st : St1} (h : VSt many st) : st.length ≤ sizeLine := by rw [sizeLine_eq]; have := h.len; omega
section
variable {k : Nat} {S : Sto} {Q : WD} {Ex : WX}
theorem isState {st : St1} {many : Nat} (h : VSt many st) (q : ∀ S', Ge S S' → Q (.bl true) S') : phi T (k + 2) 12 [dState st, .int many] S Q Ex := by
  refine phi_at (fn := f12) rfl rfl (show 2 ≤ 6 by decide) ?_
  show wSs T _ b12 _ [some (.tup (st.map dPart)), some (.int many), none, none, none, none] _
  unfold b12
  bv_omega
  refine o_isi (k := true) rfl ?_
  bv_omega
  refine loop_list (st.map dPart) (fun i ρ S' => Ge S S' ∧ ∃ x, ρ = [some (.tup (st.map dPart)), some (.int many), x, none, none, none]) ⟨.refl, none, rfl⟩ (fun i ρ S' _ I => rfl) (fun i d ρ S' Q' hd I hq => ?_) fun ρ S' I => ?_
  · obtain ⟨g, x, rfl⟩ := I
    obtain ⟨p, hp, rfl⟩ := List.mem_map.mp (List.mem_of_getElem? hd)
    obtain ⟨w1, w2, w3⟩ := h.w p hp
    unfold dPart
    bv_omega
    refine o_isi (k := true) rfl ?_
    bv_omega
    refine o_len (n := 3) (.inr (.inl ⟨_, rfl, rfl⟩)) ?_
    bv_omega
    refine o_nei ?_
    bv_omega
    refine t_ncond (fun _ => ?_) fun z => absurd rfl z
    bv_omega
    refine o_call rfl rfl (isWord w1 fun S1 g1 => ?_)
    bv_omega
    refine o_call rfl rfl (isWord w2 fun S2 g2 => ?_)
    bv_omega
    refine o_call rfl rfl (isInt ?_)
    bv_omega
    refine t_cond (fun _ => ?_) fun z => absurd (show (0 : Int) ≤ p.2.2 by omega) z
    bv_omega
    refine t_ncond (fun _ => ?_) fun z => absurd (show (p.2.2 : Int) < many by omega) z
    bv_omega
    exact hq _ _ ⟨(g.trans g1).trans g2, _, rfl⟩
  · obtain ⟨g, x, rfl⟩ := I
    refine fin_for ?_
    bv_omega
    refine o_call rfl rfl (legal h.sz fun S1 g1 => ?_)
    bv_omega
    refine sl_tup ?_
    have e1 : cutD (st.map ev) (some ((1 : Nat) : Int)) none = (st.drop 1).map ev := by rw [cut_from, List.map_drop]
    have e1 : cutD (st.map ev) (some 1) none = (st.drop 1).map ev := e1
    rw [e1]
    bv_omega
    have e2 : ((st.map ev).zip ((st.drop 1).map ev)).map (fun p => D.tup [p.1, p.2]) = (st.zip (st.drop 1)).map fun p => D.tup [ev p.1, ev p.2] := by
      rw [List.zip_map, List.map_map]
      rfl
    refine loop_map (st.zip (st.drop 1)) (fun p => D.tup [ev p.1, ev p.2]) (fun _ => D.bl true) ?_ (fun i S' _ => by rw [← e2]; exact src_zip rfl rfl) (fun p hp S' Q' g hq => ?_) (phi_mono _ _) fun p S' hp g2 e => ?_
    · rw [List.length_zip]
      have := h.sz
      omega
    · have lt := h.lt p hp
      unfold ev
      bv_omega
      refine o_ltt (kx := .tup [.text p.1.1, .text p.1.2.1]) (ky := .tup [.text p.2.1, .text p.2.2.1]) rfl rfl lt (by simp [NestedKey.depth, NestedKey.depthAll]) ?_
      exact hq _ .refl
    · bv_omega
      have e : S' p = some (.lst (((st.zip (st.drop 1)).map fun _ => true).map D.bl)) := by rw [e, List.map_map]; rfl
      refine o_all (seq_lst e) ?_
      have : ((st.zip (st.drop 1)).map fun _ => true).all id = true := by simp
      rw [this]
      exact q _ ((g.trans g1).trans g2)
end
set_option Elab.async false
set_option linter.all false
set_option maxRecDepth 100000
set_option maxHeartbeats 1000000
/-- the states of a kind -/
structure VK (sts : List St1) : Prop where
  pos : 0 < sts.length
  few : sts.length ≤ 40
  st : ∀ st ∈ sts, VSt sts.length st
  menu : ∃ menu : List D, menu.length ≤ 24 ∧ ∀ st ∈ sts, ∀ p ∈ st, ev p ∈ menu
theorem VK.sz {sts : List St1} (h : VK sts) : sts.length ≤ sizeLine := by rw [sizeLine_eq]; have := h.few; omega
section
variable {k : Nat} {S : Sto} {Q : WD} {Ex : WX}
theorem ev_ok (p : Part) : MemOk (ev p) := ⟨.tup [.text p.1, .text p.2.1], rfl, by simp [NestedKey.depth, NestedKey.depthAll]⟩
theorem areStates {sts : List St1} (h : VK sts) (q : ∀ S', Ge S S' → Q (.bl true) S') : phi T (k + 3) 13 [dStates sts] S Q Ex := by
  obtain ⟨menu, hm, hmenu⟩ := h.menu
  have h1 := h.pos
  have h2 := h.few
  refine phi_at (fn := f13) rfl rfl (show 1 ≤ 3 by decide) ?_
  show wSs T _ b13 _ [some (.tup (sts.map dState)), none, none] _
  have len : ∀ S, lenOf S (.tup (sts.map dState)) sts.length := fun S => .inr (.inl ⟨_, rfl, (List.length_map _).symm⟩)
  unfold b13
  bv_omega
  refine o_len (len _) ?_
  bv_omega
  refine t_cond (fun _ => ?_) fun z => absurd (show (0 : Int) < sts.length by omega) z
  bv_omega
  refine t_ncond (fun _ => ?_) fun z => absurd (show (sts.length : Int) ≤ 40 by omega) z
  bv_omega
  refine loop_map sts dState (fun _ => D.bl true) h.sz (fun i S' _ => rfl) (fun st hst S' Q' g hq => ?_) (phi_mono _ _) fun p S1 hp g1 e => ?_
  · bv_omega
    refine o_len (len _) ?_
    bv_omega
    refine o_call rfl rfl (isState (h.st st hst) fun S1 g1 => ?_)
    exact hq _ g1
  · bv_omega
    have e : S1 p = some (.lst ((sts.map fun _ => true).map D.bl)) := by rw [e, List.map_map]; rfl
    refine o_all (seq_lst e) ?_
    have : (sts.map fun _ => true).all id = true := by simp
    rw [this]
    bv_omega
    refine loop_list (sts.map dState) (fun i acc S' => Ge S S' ∧ ∃ l : List D, acc = l.map (fun d => [d]) ∧ ∀ d ∈ l, d ∈ menu) ⟨g1, [], rfl, fun d m => (nomatch m)⟩ (fun i acc S' _ I => rfl) (fun i d acc S' Q' hd I hq => ?_) fun acc S' I => ?_
    · obtain ⟨g, l, e1, e2⟩ := I
      obtain ⟨st, hst, rfl⟩ := List.mem_map.mp (List.mem_of_getElem? hd)
      bv_omega
      refine o_call rfl rfl (legal (h.st st hst).sz fun S2 g2 => ?_)
      bv_omega
      refine loop_list (st.map ev) (fun i acc S' => Ge S S' ∧ ∃ l : List D, acc = l.map (fun d => [d]) ∧ ∀ d ∈ l, d ∈ menu) ⟨g.trans g2, l, e1, e2⟩ (fun i acc S' _ I => rfl) (fun i d acc S' Q' hd I hq => ?_) fun acc S' I => ?_
      · obtain ⟨g, l, e1, e2⟩ := I
        obtain ⟨p, hp, rfl⟩ := List.mem_map.mp (List.mem_of_getElem? hd)
        bv_omega
        refine ⟨⟨ev_ok p, ?_⟩, hq _ _ ⟨g, l ++ [ev p], by rw [e1]; simp, fun d m => ?_⟩⟩
        · rw [e1]
          have := accS_le e2
          omega
        · rcases List.mem_append.mp m with m | m
          · exact e2 d m
          · rw [List.mem_singleton.mp m]; exact hmenu st hst p hp
      · exact fin_for (hq _ _ I)
    · obtain ⟨g, l, e1, e2⟩ := I
      refine fin_new fun p S2 hp g2 e => ?_
      bv_omega
      refine o_len (n := (accS acc).length) (.inr (.inr (.inr ⟨accS acc, ?_, rfl⟩))) ?_
      · show (match at_ S2 p with
          | some (.set xs) => some xs
          | _ => none) = _
        unfold at_
        rw [e]
        rfl
      bv_omega
      have : (accS acc).length ≤ menu.length := by rw [e1]; exact accS_le e2
      have e3 : decide (((accS acc).length : Int) ≤ 24) = true := decide_eq_true (by omega)
      rw [e3]
      exact q _ (g.trans g2)
end
set_option Elab.async false
set_option linter.all false
set_option maxRecDepth 100000
set_option maxHeartbeats 1000000
/-- where d stands first -/
def fst1 : List D → D → Nat
  | [], _ => 0
  | x :: xs, d => if x = d then 0 else fst1 xs d + 1
theorem fst1_at : ∀ {ds : List D} {d : D}, d ∈ ds → ds[fst1 ds d]? = some d
  | x :: xs, d, h => by
    unfold fst1
    by_cases e : x = d
    · rw [if_pos e, e]; rfl
    · rw [if_neg e]
      rcases List.mem_cons.mp h with h | h
      · exact absurd h.symm e
      · exact fst1_at h
theorem fst1_le : ∀ {ds : List D} {d : D} {i : Nat}, ds[i]? = some d → fst1 ds d ≤ i
  | x :: xs, d, 0, h => by
    cases h
    unfold fst1
    rw [if_pos rfl]
    exact Nat.le_refl _
  | x :: xs, d, i + 1, h => by
    unfold fst1
    split
    · exact Nat.zero_le _
    · exact Nat.succ_le_succ (fst1_le (ds := xs) h)
theorem fst1_eq {ds : List D} {d : D} {i : Nat} (h : ds[i]? = some d) (n : d ∉ ds.take i) : fst1 ds d = i := by
  have h1 := fst1_le h
  have h2 := fst1_at (List.mem_of_getElem? h)
  rcases Nat.lt_or_ge (fst1 ds d) i with c | c
  · exfalso
    refine n (List.mem_of_getElem? (i := fst1 ds d) ?_)
    rw [List.getElem?_take, if_pos c]
    exact h2
  · omega
theorem look_app {kvs : List (D × D)} {x d v : D} : look (kvs ++ [(x, v)]) d = (look kvs d).or (if x = d then some v else none) := by
  unfold look
  rw [List.find?_append]
  cases e : kvs.find? fun p => decide (p.1 = d) with
  | some p => rfl
  | none =>
    by_cases h : x = d
    · subst h; simp
    · simp [h]
theorem look_mem {kvs : List (D × D)} {d v : D} (h : look kvs d = some v) : ∃ e ∈ kvs, e.1 = d := by
  unfold look at h
  obtain ⟨p, h1, _⟩ := Option.map_eq_some_iff.mp h
  exact ⟨p, List.mem_of_find?_eq_some h1, by simpa using List.find?_some h1⟩
def dNums (cs : List Nat) : D := .tup (cs.map fun (c : Nat) => D.int (c : Int))
section
variable {k : Nat} {S : Sto} {Q : WD} {Ex : WX}
theorem memOk_key {kvs : List (D × D)} {d : D} (h : MemOk d) (hk : ∀ e ∈ kvs, isTup e.1 = true) : KeyOk kvs d := by
  cases d with
  | tup ds => exact ⟨h, hk⟩
  | _ => exact h.elim
theorem memOk_tup {d : D} (h : MemOk d) : isTup d = true := by
  cases d with
  | tup ds => rfl
  | _ => exact h.elim
theorem numbered {l : Addr} {ds : List D} (h : S l = some (.lst ds)) (hl : ds.length < sizeLine) (hd : ∀ d ∈ ds, MemOk d) (q : ∀ S', Ge S S' → Q (dNums (ds.map (fst1 ds))) S') : phi T (k + 1) 8 [.ref l] S Q Ex := by
  refine phi_at (fn := f8) rfl rfl (show 1 ≤ 4 by decide) ?_
  show wSs T _ b8 _ [some (.ref l), none, none, none] _
  unfold b8
  bv_omega
  refine o_dct fun p S1 hp p1 g1 => ?_
  bv_omega
  refine w_enur (seq_lst (g1 _ _ h)) ?_
  refine loop_list (enumD ds) (fun i ρ S' => Ge S S' ∧ (∃ x y, ρ = [some (.ref l), some (.ref p), x, y]) ∧ ∃ kvs, S' p = some (.dct kvs) ∧ kvs.length ≤ i ∧ (∀ e ∈ kvs, e.1 ∈ ds.take i) ∧ ∀ d ∈ ds.take i, look kvs d = some (.int (fst1 ds d)))
    ⟨g1, ⟨_, _, rfl⟩, [], p1, Nat.le_refl _, fun e m => (nomatch m), fun d m => by simp at m⟩ (fun i ρ S' _ I => src_enum (src_ref (I.1 _ _ h))) (fun i d ρ S' Q' hdd I hq => ?_) fun ρ S' I => ?_
  · obtain ⟨g, ⟨x, y, rfl⟩, kvs, e1, e2, e3, e4⟩ := I
    have lt : i < ds.length := by
      have := (List.getElem?_eq_some_iff.mp hdd).1
      simpa [enumD] using this
    have hi : ds[i]? = some ds[i] := List.getElem?_eq_getElem lt
    have ed : d = .tup [.int i, ds[i]] := by
      unfold enumD at hdd
      rw [List.getElem?_map, List.getElem?_range lt] at hdd
      simp [List.getD_eq_getElem?_getD, hi] at hdd
      exact hdd.symm
    subst ed
    have mem : ds[i] ∈ ds := List.getElem_mem lt
    have tk : ds.take (i + 1) = ds.take i ++ [ds[i]] := by rw [List.take_add_one, hi]; rfl
    bv_omega
    refine m_bt (recv_dct e1 rfl) ?_
    bv_omega
    refine mm_setd e1 (memOk_key (hd _ mem) fun e m => memOk_tup (hd _ (List.mem_of_mem_take (e3 e m)))) (by omega) (fun v hv => ?_) fun hn S2 c1 c2 => ?_
    · bv_omega
      obtain ⟨e, m, ee⟩ := look_mem hv
      have old : ds[i] ∈ ds.take i := ee ▸ e3 e m
      refine hq _ _ ⟨g, ⟨_, _, rfl⟩, kvs, e1, by omega, fun e m => ?_, fun d m => ?_⟩
      · rw [tk]; exact List.mem_append_left _ (e3 e m)
      · rw [tk] at m
        rcases List.mem_append.mp m with m | m
        · exact e4 d m
        · rw [List.mem_singleton.mp m]; exact e4 _ old
    · bv_omega
      have nold : ds[i] ∉ ds.take i := fun m => by rw [e4 _ m] at hn; cases hn
      refine hq _ _ ⟨g.mut hp c2, ⟨_, _, rfl⟩, _, c1, by simp; omega, fun e m => ?_, fun d m => ?_⟩
      · rw [tk]
        rcases List.mem_append.mp m with m | m
        · exact List.mem_append_left _ (e3 e m)
        · rw [List.mem_singleton.mp m]; exact List.mem_append_right _ (List.mem_singleton.mpr rfl)
      · rw [look_app]
        rw [tk] at m
        rcases List.mem_append.mp m with m | m
        · rw [e4 d m]; rfl
        · rw [List.mem_singleton.mp m, hn, if_pos rfl, fst1_eq hi nold]
          rfl
  · obtain ⟨g, ⟨x, y, rfl⟩, kvs, e1, e2, e3, e4⟩ := I
    have el : (enumD ds).length = ds.length := by simp [enumD]
    rw [el, List.take_length] at e3 e4
    refine fin_for ?_
    bv_omega
    refine w_valr (seq_lst (g _ _ h)) ?_
    refine loop_map ds (fun d => d) (fun d => .int (fst1 ds d)) (Nat.le_of_lt hl) (fun i S2 g2 => by rw [List.map_id']; exact src_ref (g2 _ _ (g _ _ h))) (fun d hm S2 Q' g2 hq => ?_) (phi_mono _ _) fun r S2 hr g2 e => ?_
    · bv_omega
      refine o_idxd (dct_dct (g2 _ _ e1)) (memOk_key (hd _ hm) fun e m => memOk_tup (hd _ (e3 e m))) (e4 d hm) ?_
      exact hq _ .refl
    · bv_omega
      refine o_tuple (seq_lst e) ?_
      have := q _ (g.trans g2)
      rw [dNums, List.map_map] at this
      exact this
end
set_option Elab.async false
set_option linter.all false
set_option maxRecDepth 100000
set_option maxHeartbeats 1000000
theorem sum_lt : ∀ (l m : List Nat), l.length = m.length → (∀ (i : Nat) a b, l[i]? = some a → m[i]? = some b → a ≤ b) → l.sum ≤ m.sum ∧ (l ≠ m → l.sum < m.sum)
  | [], [], _, _ => ⟨Nat.le_refl _, fun h => absurd rfl h⟩
  | [], _ :: _, h, _ => by cases h
  | _ :: _, [], h, _ => by cases h
  | a :: l, b :: m, h, hh => by
    have ab := hh 0 a b rfl rfl
    obtain ⟨i1, i2⟩ := sum_lt l m (by simpa using h) fun i x y h1 h2 => hh (i + 1) x y h1 h2
    refine ⟨by simp only [List.sum_cons]; omega, fun n => ?_⟩
    simp only [List.sum_cons]
    by_cases e : a = b
    · have : l ≠ m := fun z => n (by rw [e, z])
      have := i2 this
      omega
    · omega
theorem sum_le : ∀ (cs : List Nat) (n : Nat), (∀ c ∈ cs, c ≤ n) → cs.sum ≤ cs.length * n
  | [], n, _ => by simp
  | c :: cs, n, h => by
    have h1 := h c List.mem_cons_self
    have h2 := sum_le cs n fun x m => h x (List.mem_cons_of_mem _ m)
    simp only [List.sum_cons, List.length_cons, Nat.succ_mul]
    omega
/-- each number at most its place -/
def Canon (cs : List Nat) : Prop := ∀ (i : Nat) c, cs[i]? = some c → c ≤ i
theorem canon_fst (ds : List D) : Canon (ds.map (fst1 ds)) := fun i c h => by
  rw [List.getElem?_map] at h
  obtain ⟨d, hd, rfl⟩ := Option.map_eq_some_iff.mp h
  exact fst1_le hd
theorem canon_sum {cs : List Nat} (h : Canon cs) : cs.sum ≤ cs.length * cs.length := by
  refine sum_le cs _ fun c m => ?_
  obtain ⟨i, hi, e⟩ := List.getElem_of_mem m
  have := h i c (by rw [List.getElem?_eq_getElem hi, e])
  omega
def vw (cs : List Nat) (p : St1 × Nat) : D := .tup [.int p.2, .tup (p.1.map fun q => .int (cs.getD q.2.2 0 : Nat))]
theorem vw_own {cs : List Nat} {p q : St1 × Nat} (h : vw cs p = vw cs q) : p.2 = q.2 := by
  unfold vw at h
  injection h with h
  injection h with h1 h2
  injection h1 with h1
  omega
theorem vw_d (cs : List Nat) (p : St1 × Nat) : isD 2 (vw cs p) = true := by
  unfold vw
  simp [isD, isDs, isDs_all]
theorem memOk_d {d : D} {n : Nat} (h : isD n d = true) (hn : n ≤ 8) (t : isTup d = true) : MemOk d := by
  obtain ⟨nk, h1, h2⟩ := key_d n h
  cases d with
  | tup ds => exact ⟨nk, h1, by omega⟩
  | _ => cases t
theorem nums_d (cs : List Nat) : isD 1 (dNums cs) = true := by
  unfold dNums
  simp [isD, isDs_all]
theorem dNums_inj {a b : List Nat} (h : dNums a = dNums b) : a = b := by
  unfold dNums at h
  injection h with h
  have : ∀ a b : List Nat, (a.map fun (c : Nat) => D.int (c : Int)) = (b.map fun (c : Nat) => D.int (c : Int)) → a = b := by
    intro a
    induction a with
    | nil => intro b h; cases b <;> first | rfl | cases h
    | cons x a ih =>
      intro b h
      cases b with
      | nil => cases h
      | cons y b =>
        rw [List.map_cons, List.map_cons] at h
        injection h with h1 h2
        injection h1 with h1
        rw [ih b h2, show x = y by omega]
  exact this a b h
theorem zip_at {α β : Type} : ∀ {l : List α} {m : List β} {i : Nat} {p : α × β}, (l.zip m)[i]? = some p → m[i]? = some p.2
  | [], m, i, p, h => by simp at h
  | _ :: _, [], i, p, h => by simp at h
  | a :: l, b :: m, 0, p, h => by cases h; rfl
  | a :: l, b :: m, i + 1, p, h => zip_at (l := l) (m := m) (i := i) h
theorem evs_key : ∀ st : St1, D.keys (st.map ev) = some (st.map fun p => .tup [.text p.1, .text p.2.1]) ∧ NestedKey.depthAll (st.map fun p => .tup [.text p.1, .text p.2.1]) ≤ 1
  | [] => ⟨rfl, by simp [NestedKey.depthAll]⟩
  | p :: st => by
    obtain ⟨h1, h2⟩ := evs_key st
    refine ⟨?_, ?_⟩
    · rw [List.map_cons, D.keys, h1]
      rfl
    · rw [List.map_cons, NestedKey.depthAll]
      have : (NestedKey.tup [.text p.1, .text p.2.1]).depth = 1 := by simp [NestedKey.depth, NestedKey.depthAll]
      omega
theorem memOk_evs (st : St1) : MemOk (.tup (st.map ev)) := by
  obtain ⟨h1, h2⟩ := evs_key st
  refine ⟨.tup (st.map fun p => .tup [.text p.1, .text p.2.1]), ?_, ?_⟩
  · rw [D.key, h1]; rfl
  · rw [NestedKey.depth]; omega
/-- states told apart by nothing -/
def Bis (sts : List St1) (R : Nat → Nat → Prop) : Prop := ∀ (i j : Nat) (st st' : St1), sts[i]? = some st → sts[j]? = some st' → R i j → st.map ev = st'.map ev ∧ ∀ (n : Nat) p p', st[n]? = some p → st'[n]? = some p' → R p.2.2 p'.2.2
/-- states of one class have the same events -/
def RefE (sts : List St1) (cs : List Nat) : Prop := ∀ (i j : Nat) (st st' : St1), sts[i]? = some st → sts[j]? = some st' → cs[i]? = cs[j]? → st.map ev = st'.map ev
/-- what nothing tells apart is in one class -/
def Coarse (sts : List St1) (cs : List Nat) : Prop := ∀ R, Bis sts R → ∀ i j, i < sts.length → j < sts.length → R i j → cs[i]? = cs[j]?
/-- the classes of alike states -/
structure Parts (sts : List St1) (cs : List Nat) : Prop where
  len : cs.length = sts.length
  ref : RefE sts cs
  stab : ∀ (i j : Nat) (st st' : St1), sts[i]? = some st → sts[j]? = some st' → cs[i]? = cs[j]? → st.map (fun q => cs.getD q.2.2 0) = st'.map (fun q => cs.getD q.2.2 0)
  coarse : Coarse sts cs
theorem fst1_inj {ds : List D} {d d' : D} (h1 : d ∈ ds) (h2 : d' ∈ ds) (e : fst1 ds d = fst1 ds d') : d = d' := by
  have a := fst1_at h1
  have b := fst1_at h2
  rw [e] at a
  exact Option.some.inj (a.symm.trans b)
theorem fst_map {α : Type} (l : List α) (f : α → D) {i j : Nat} {x y : α} (hx : l[i]? = some x) (hy : l[j]? = some y) : ((l.map f).map (fst1 (l.map f)))[i]? = ((l.map f).map (fst1 (l.map f)))[j]? ↔ f x = f y := by
  rw [List.getElem?_map, List.getElem?_map, List.getElem?_map, List.getElem?_map, hx, hy]
  refine ⟨fun h => ?_, fun h => ?_⟩
  · exact fst1_inj (List.mem_map.mpr ⟨x, List.mem_of_getElem? hx, rfl⟩) (List.mem_map.mpr ⟨y, List.mem_of_getElem? hy, rfl⟩) (Option.some.inj h)
  · show some (fst1 _ (f x)) = some (fst1 _ (f y))
    rw [h]
theorem tup_inj {a b : List D} (h : D.tup a = .tup b) : a = b := by injection h
theorem parts_0 (sts : List St1) : RefE sts ((sts.map fun (st : St1) => D.tup (st.map ev)).map (fst1 (sts.map fun (st : St1) => D.tup (st.map ev)))) ∧ Coarse sts ((sts.map fun (st : St1) => D.tup (st.map ev)).map (fst1 (sts.map fun (st : St1) => D.tup (st.map ev)))) := by
  refine ⟨fun i j st st' hi hj e => tup_inj ((fst_map sts _ hi hj).mp e), fun R hR i j hi hj r => ?_⟩
  have e1 := List.getElem?_eq_getElem hi
  have e2 := List.getElem?_eq_getElem hj
  exact (fst_map sts _ e1 e2).mpr (by rw [(hR i j _ _ e1 e2 r).1])
theorem zip_get {α β : Type} {l : List α} {m : List β} {i : Nat} {x : α} {y : β} (h1 : l[i]? = some x) (h2 : m[i]? = some y) : (l.zip m)[i]? = some (x, y) := by
  rw [List.getElem?_zip_eq_some]
  exact ⟨h1, h2⟩
theorem vw_suc {cs : List Nat} {p q : St1 × Nat} (h : vw cs p = vw cs q) : p.1.map (fun r => cs.getD r.2.2 0) = q.1.map (fun r => cs.getD r.2.2 0) := by
  unfold vw at h
  have h1 := tup_inj h
  injection h1 with _ h2
  injection h2 with h2 _
  have h3 := tup_inj h2
  have key : ∀ {a b : St1}, (a.map fun q => D.int (cs.getD q.2.2 0 : Nat)) = (b.map fun q => D.int (cs.getD q.2.2 0 : Nat)) → a.map (fun r => cs.getD r.2.2 0) = b.map (fun r => cs.getD r.2.2 0) := by
    intro a
    induction a with
    | nil => intro b h; cases b <;> first | rfl | cases h
    | cons x a ih =>
      intro b h
      cases b with
      | nil => cases h
      | cons y b =>
        rw [List.map_cons, List.map_cons] at h ⊢
        injection h with h1 h2
        injection h1 with h1
        rw [ih h2, show cs.getD x.2.2 0 = cs.getD y.2.2 0 by omega]
  exact key h3
theorem parts_1 {sts : List St1} (hw : ∀ st ∈ sts, ∀ p ∈ st, p.2.2 < sts.length) {cs : List Nat} (hl : cs.length = sts.length) (h1 : RefE sts cs) (h2 : Coarse sts cs) :
    RefE sts (((sts.zip cs).map (vw cs)).map (fst1 ((sts.zip cs).map (vw cs)))) ∧ Coarse sts (((sts.zip cs).map (vw cs)).map (fst1 ((sts.zip cs).map (vw cs)))) := by
  have at_ : ∀ {i : Nat} {st : St1}, sts[i]? = some st → ∃ c, cs[i]? = some c ∧ (sts.zip cs)[i]? = some (st, c) := fun {i st} h => by
    have lt : i < cs.length := by rw [hl]; exact (List.getElem?_eq_some_iff.mp h).1
    exact ⟨cs[i], List.getElem?_eq_getElem lt, zip_get h (List.getElem?_eq_getElem lt)⟩
  refine ⟨fun i j st st' hi hj e => ?_, fun R hR i j hi hj r => ?_⟩
  · obtain ⟨c, c1, z1⟩ := at_ hi
    obtain ⟨c', c2, z2⟩ := at_ hj
    have v := (fst_map (sts.zip cs) (vw cs) z1 z2).mp e
    have own : c = c' := vw_own v
    exact h1 i j st st' hi hj (by rw [c1, c2, own])
  · have e1 := List.getElem?_eq_getElem hi
    have e2 := List.getElem?_eq_getElem hj
    obtain ⟨c, c1, z1⟩ := at_ e1
    obtain ⟨c', c2, z2⟩ := at_ e2
    refine (fst_map (sts.zip cs) (vw cs) z1 z2).mpr ?_
    have own : c = c' := by
      have := h2 R hR i j hi hj r
      rw [c1, c2] at this
      exact Option.some.inj this
    obtain ⟨g1, g2⟩ := hR i j _ _ e1 e2 r
    have hlen : sts[i].length = sts[j].length := by have := congrArg List.length g1; simpa using this
    unfold vw
    rw [own]
    congr 4
    refine List.ext_getElem? fun n => ?_
    rw [List.getElem?_map, List.getElem?_map]
    by_cases hn : n < sts[i].length
    · have p1 := List.getElem?_eq_getElem hn
      have p2 := List.getElem?_eq_getElem (show n < sts[j].length by omega)
      rw [p1, p2]
      have rr := g2 n _ _ p1 p2
      have l1 := hw _ (List.getElem_mem hi) _ (List.getElem_mem hn)
      have l2 := hw _ (List.getElem_mem hj) _ (List.getElem_mem (show n < sts[j].length by omega))
      have ee := h2 R hR _ _ l1 l2 rr
      show some (D.int _) = some (D.int _)
      rw [List.getD_eq_getElem?_getD, List.getD_eq_getElem?_getD, ee]
    · show (sts[i][n]?).map _ = (sts[j][n]?).map _
      rw [List.getElem?_eq_none (show sts[i].length ≤ n by omega), List.getElem?_eq_none (show sts[j].length ≤ n by omega)]
section
variable {k : Nat} {S : Sto} {Q : WD} {Ex : WX}
theorem alike {sts : List St1} (h : VK sts) (q : ∀ cs S', Parts sts cs → Ge S S' → Q (dNums cs) S') : phi T (k + 2) 9 [dStates sts] S Q Ex := by
  have h2 := h.few
  have hz := h.sz
  refine phi_at (fn := f9) rfl rfl (show 1 ≤ 9 by decide) ?_
  show wSs T _ b9 _ [some (.tup (sts.map dState)), none, none, none, none, none, none, none, none] _
  unfold b9
  bv_omega
  refine loop_map sts dState (fun st => .tup (st.map ev)) hz (fun i S' _ => rfl) (fun st hst S' Q' g hq => ?_) (phi_mono _ _) fun l S1 hp g1 e => ?_
  · bv_omega
    refine o_call rfl rfl (legal (h.st st hst).sz fun S1 g1 => ?_)
    exact hq _ g1
  · bv_omega
    have hl : ∀ cs : List Nat, cs.length = sts.length → (sts.zip cs).length = sts.length := fun cs e => by rw [List.length_zip, e, Nat.min_self]
    refine o_call rfl rfl (numbered e (by rw [List.length_map, sizeLine_eq]; omega) (fun d hd => ?_) fun S2 g2 => ?_)
    · obtain ⟨st, _, rfl⟩ := List.mem_map.mp hd
      exact memOk_evs st
    bv_omega
    obtain ⟨rf0, co0⟩ := parts_0 sts
    have hw : ∀ st ∈ sts, ∀ p ∈ st, p.2.2 < sts.length := fun st hs p hp => ((h.st st hs).w p hp).2.2
    generalize hcs0 : (sts.map fun (st : St1) => D.tup (st.map ev)).map (fst1 (sts.map fun (st : St1) => D.tup (st.map ev))) = cs0 at rf0 co0
    have c0 : Canon cs0 := by rw [← hcs0]; exact canon_fst _
    have l0 : cs0.length = sts.length := by rw [← hcs0]; simp
    refine wh_rule (fun m ρ S' => Ge S S' ∧ ∃ cs x2 x3 x4 x5, ρ = [some (.tup (sts.map dState)), some (dNums cs), x2, x3, x4, x5, none, none, none] ∧ Canon cs ∧ cs.length = sts.length ∧ (RefE sts cs ∧ Coarse sts cs) ∧ m = sts.length * sts.length - cs.sum) _ ⟨g1.trans g2, cs0, _, _, _, _, rfl, c0, l0, ⟨rf0, co0⟩, rfl⟩ fun m ρ S' I => ?_
    obtain ⟨g, cs, x2, x3, x4, x5, rfl, hc, hl1, ⟨rf, co⟩, hm⟩ := I
    bv_omega
    refine o_lst ln0 fun v S3 hv v3 g3 => ?_
    bv_omega
    unfold dNums
    bv_omega
    have e2 : ((sts.map dState).zip (cs.map fun (c : Nat) => D.int (c : Int))).map (fun p => D.tup [p.1, p.2]) = (sts.zip cs).map fun p => D.tup [dState p.1, .int p.2] := by
      rw [List.zip_map, List.map_map]
      rfl
    have hsv : S v = none := by
      cases z : S v with
      | none => rfl
      | some o => rw [g _ _ z] at hv; cases hv
    refine loop_list ((sts.zip cs).map fun p => D.tup [dState p.1, .int p.2]) (fun i ρ S' => Ge S S' ∧ S' v = some (.lst (((sts.zip cs).take i).map (vw cs))) ∧ ∃ x3 x4, ρ = [some (.tup (sts.map dState)), some (dNums cs), some (.ref v), x3, x4, x5, none, none, none]) ⟨g.trans g3, v3, _, _, rfl⟩ (fun i ρ S' _ _ => by rw [← e2]; exact src_zip rfl rfl) (fun i d ρ S4 Q' hd I hq => ?_) fun ρ S4 I => ?_
    · obtain ⟨g4, v4, x3, x4, rfl⟩ := I
      rw [List.getElem?_map] at hd
      obtain ⟨p, hp, rfl⟩ := Option.map_eq_some_iff.mp hd
      have mp := List.mem_of_getElem? hp
      have ms : p.1 ∈ sts := (List.of_mem_zip mp).1
      have lt : i < (sts.zip cs).length := (List.getElem?_eq_some_iff.mp hp).1
      bv_omega
      refine m_bt (recv_lst v4 rfl) ?_
      unfold dState
      bv_omega
      refine loop_map p.1 dPart (fun q => D.int (cs.getD q.2.2 0 : Nat)) (h.st _ ms).sz (fun i S' _ => rfl) (fun r hr S5 Q5 g5 hq5 => ?_) (phi_mono _ _) fun w S5 hw g5 e5 => ?_
      · unfold dPart
        have lt2 : r.2.2 < cs.length := by rw [hl1]; exact ((h.st _ ms).w r hr).2.2
        unfold dNums
        bv_omega
        refine o_idxt (d := .int (cs.getD r.2.2 0 : Nat)) ?_ ?_
        · rw [atI_nat, List.getElem?_map, List.getElem?_eq_getElem lt2, List.getD_eq_getElem?_getD, List.getElem?_eq_getElem lt2]
          rfl
        · exact hq5 _ .refl
      · bv_omega
        refine o_tuple (seq_lst e5) ?_
        bv_omega
        refine mm_append (g5 _ _ v4) (by rw [List.length_map, List.length_take, sizeLine_eq]; rw [hl cs hl1] at lt; omega) fun S6 v6 e6 => ?_
        bv_omega
        refine hq _ _ ⟨(g4.trans g5).mut hsv e6, ?_, _, _, rfl⟩
        rw [v6, List.take_add_one, hp]
        simp [vw]
    · obtain ⟨g4, v4, x3, x4, rfl⟩ := I
      rw [List.length_map, List.take_length] at v4
      refine fin_for ?_
      bv_omega
      refine o_call rfl rfl (numbered v4 (by rw [List.length_map, hl cs hl1, sizeLine_eq]; omega) (fun d hd => ?_) fun S5 g5 => ?_)
      · obtain ⟨p, _, rfl⟩ := List.mem_map.mp hd
        exact memOk_d (vw_d cs p) (by decide) rfl
      bv_omega
      obtain ⟨rf1, co1⟩ := parts_1 hw hl1 rf co
      have stab : ∀ (i j : Nat) (st st' : St1), sts[i]? = some st → sts[j]? = some st' → (((sts.zip cs).map (vw cs)).map (fst1 ((sts.zip cs).map (vw cs))))[i]? = (((sts.zip cs).map (vw cs)).map (fst1 ((sts.zip cs).map (vw cs))))[j]? → st.map (fun q => cs.getD q.2.2 0) = st'.map (fun q => cs.getD q.2.2 0) := fun i j st st' hi hj e => by
        have a1 : i < cs.length := by rw [hl1]; exact (List.getElem?_eq_some_iff.mp hi).1
        have a2 : j < cs.length := by rw [hl1]; exact (List.getElem?_eq_some_iff.mp hj).1
        exact vw_suc ((fst_map (sts.zip cs) (vw cs) (zip_get hi (List.getElem?_eq_getElem a1)) (zip_get hj (List.getElem?_eq_getElem a2))).mp e)
      generalize hfs : ((sts.zip cs).map (vw cs)).map (fst1 ((sts.zip cs).map (vw cs))) = fs at rf1 co1 stab
      have c1 : Canon fs := by rw [← hfs]; exact canon_fst _
      have l1 : fs.length = sts.length := by rw [← hfs, List.length_map, List.length_map, hl cs hl1]
      refine o_eq (eq_d 1 (nums_d fs) (nums_d cs) (by decide)) ?_
      bv_omega
      refine t_cond (fun e => ?_) fun ne => ?_
      · bv_omega
        have ec : fs = cs := dNums_inj e
        rw [ec] at stab
        exact q cs _ ⟨hl1, rf, stab, co⟩ (g4.trans g5)
      · bv_omega
        refine ⟨_, ?_, g4.trans g5, fs, _, _, _, _, rfl, c1, l1, ⟨rf1, co1⟩, rfl⟩
        have lt : cs.sum < fs.sum := by
          refine (sum_lt cs fs (by rw [hl1, l1]) fun i a b ha hb => ?_).2 fun z => ne (by rw [z])
          rw [← hfs, List.getElem?_map] at hb
          obtain ⟨d, hd, rfl⟩ := Option.map_eq_some_iff.mp hb
          have h1 := fst1_at (List.mem_of_getElem? hd)
          rw [List.getElem?_map] at h1 hd
          obtain ⟨p, hp, e1⟩ := Option.map_eq_some_iff.mp h1
          obtain ⟨p', hp', e1'⟩ := Option.map_eq_some_iff.mp hd
          have own : p.2 = p'.2 := vw_own (e1.trans e1'.symm)
          have z1 := zip_at hp
          have z2 := zip_at hp'
          rw [ha] at z2
          cases z2
          exact own ▸ hc _ _ z1
        have b1 := canon_sum c1
        rw [l1] at b1
        omega
end
set_option Elab.async false
set_option linter.all false
set_option maxRecDepth 100000
set_option maxHeartbeats 1000000
def kindC : Cl := (T.cl 3).getD {}
theorem kc : T.cl 3 = some kindC := rfl
theorem kc' : T.cs[3]? = some kindC := rfl
theorem k5 : kindC.ms.lookup 6 = none := rfl
theorem k6 : kindC.ms.lookup 7 = none := rfl
theorem k7 : kindC.ms.lookup 8 = none := rfl
/-- one state's moves -/
def mv (st : St1) : List (D × D) := st.map fun q => (ev q, .int q.2.2)
/-- a kind of these states, its classes -/
def KindAt (St : Sto) (p : Addr) (sts : List St1) (cs : List Nat) : Prop := ∃ ms : List Addr, St p = some (.ins 3 [(6, dStates sts), (7, .tup (ms.map .ref)), (8, dNums cs)]) ∧ ms.length = sts.length ∧ ∀ (j : Nat) (st : St1) (r : Addr), sts[j]? = some st → ms[j]? = some r → St r = some (.dct (mv st))
section
variable {k : Nat} {St : Sto} {Q : WD} {Ex : WX} {sts : List St1} {cs : List Nat} {p : Addr}
theorem KindAt.ge {St' : Sto} (h : KindAt St p sts cs) (g : Ge St St') : KindAt St' p sts cs := let ⟨m, e, l, d⟩ := h; ⟨m, g _ _ e, l, fun j st r h1 h2 => g _ _ (d j st r h1 h2)⟩
theorem KindAt.isa (h : KindAt St p sts cs) : isAny T St (.ref p) [.own 3] = some true := by
  obtain ⟨m, e, _⟩ := h
  unfold isAny isTy tyN
  simp only [e]
  rfl
theorem accD_load {α : Type} (l : List α) (f g : α → D) : accD (l.map fun q => [f q, g q]) = loadD (l.map fun q => (f q, g q)) [] := by
  unfold accD loadD
  rw [List.foldl_map, List.foldl_map]
  rfl
theorem load_take {st : St1} (h : (st.map ev).Nodup) (l : Nat) : accD ((st.take l).map fun q => [ev q, .int q.2.2]) = mv (st.take l) := by
  rw [accD_load, load_nodup]
  · rfl
  · rw [List.map_map]
    show ((st.take l).map ev).Nodup
    rw [List.map_take]
    exact (List.take_sublist _ _).nodup h
  · intro p _ e m
    cases m
theorem mv_tup {st : St1} : ∀ e ∈ mv st, isTup e.1 = true := fun e m => by
  obtain ⟨q, _, rfl⟩ := List.mem_map.mp m
  rfl
theorem init (h : VK sts) (hp : St p = some (.ins 3 [])) (q : ∀ cs S', Parts sts cs → KindAt S' p sts cs → (∀ c o, c ≠ p → St c = some o → S' c = some o) → Q .non S') : phi T (k + 4) 16 [.ref p, dStates sts] St Q Ex := by
  refine phi_at (fn := f16) rfl rfl (show 2 ≤ 4 by decide) ?_
  show wSs T _ b16 _ [some (.ref p), some (dStates sts), none, none] _
  unfold b16
  bv_omega
  refine o_call rfl rfl (areStates h fun S1 g1 => ?_)
  bv_omega
  refine g_fldr (g1 _ _ hp) kc k5 (by decide) fun S2 p2 e2 => ?_
  unfold dStates
  bv_omega
  refine loop_list (sts.map dState) (fun i acc S' => Ge S2 S' ∧ ∃ rs : List Addr, rs.length = i ∧ acc = rs.map (fun r => [D.ref r]) ∧ ∀ (j : Nat) (st : St1) (r : Addr), sts[j]? = some st → rs[j]? = some r → S' r = some (.dct (mv st))) ⟨.refl, [], rfl, rfl, fun j st r _ e => by simp at e⟩ (fun i acc S' _ I => rfl) (fun i d acc S3 Q' hd I hq => ?_) fun acc S3 I => ?_
  · obtain ⟨g3, rs, l3, rfl, d3⟩ := I
    have li : i < sts.length := by
      have := (List.getElem?_eq_some_iff.mp hd).1
      rwa [List.length_map] at this
    rw [List.getElem?_map] at hd
    obtain ⟨st, hst', rfl⟩ := Option.map_eq_some_iff.mp hd
    have hst := List.mem_of_getElem? hst'
    have nd := (h.st st hst).nd
    unfold dState
    bv_omega
    refine loop_list (st.map dPart) (fun j acc S' => Ge S3 S' ∧ acc = (st.take j).map fun q => [ev q, .int q.2.2]) ⟨.refl, by simp⟩ (fun i acc S' _ I => rfl) (fun j d acc S4 Q4 hd4 I hq4 => ?_) fun acc S4 I => ?_
    · obtain ⟨g4, rfl⟩ := I
      rw [List.getElem?_map] at hd4
      obtain ⟨q4, hq, rfl⟩ := Option.map_eq_some_iff.mp hd4
      unfold dPart
      bv_omega
      have lt := (List.getElem?_eq_some_iff.mp hq).1
      have hz := (h.st st hst).sz
      refine ⟨?_, hq4 _ _ ⟨g4, ?_⟩⟩
      · show KeyOk (accD _) _ ∧ (accD _).length < sizeLine
        rw [load_take nd]
        refine ⟨mem_key (ev_ok q4) mv_tup, ?_⟩
        unfold mv
        rw [List.length_map, List.length_take]
        omega
      · rw [List.take_add_one, hq]
        simp [ev]
    · obtain ⟨g4, rfl⟩ := I
      rw [List.length_map, List.take_length]
      refine fin_new fun r S5 hr g5 e5 => ?_
      have e5 : S5 r = some (.dct (mv st)) := by
        rw [e5]
        have := load_take nd st.length
        rw [List.take_length] at this
        show some (O.dct (accD _)) = _
        rw [this]
      bv_omega
      refine ⟨?_, hq _ _ ⟨(g3.trans g4).trans g5, rs ++ [r], by simp [l3], by simp, fun j st' r' h1 h2 => ?_⟩⟩
      · show (rs.map fun r => [D.ref r]).length < sizeLine
        have hz := h.few
        rw [List.length_map, l3, sizeLine_eq]
        omega
      · by_cases hj : j < rs.length
        · rw [List.getElem?_append_left hj] at h2
          exact g5 _ _ (g4 _ _ (d3 j st' r' h1 h2))
        · rw [List.getElem?_append_right (by omega)] at h2
          have e0 : j - rs.length = 0 := by
            have := (List.getElem?_eq_some_iff.mp h2).1
            simp at this
            omega
          rw [e0] at h2
          cases h2
          have ej : j = i := by omega
          rw [ej, hst'] at h1
          cases h1
          exact e5
  · obtain ⟨g3, rs, l3, rfl, d3⟩ := I
    rw [List.length_map] at l3
    refine fin_new fun r S4 hr g4 e4 => ?_
    bv_omega
    refine o_tuple (seq_lst e4) ?_
    bv_omega
    have p4 := g4 _ _ (g3 _ _ p2)
    refine g_fldr p4 kc k6 (show 1 < 1000 by decide) fun S5 p5 e5 => ?_
    bv_omega
    refine o_call rfl rfl (alike h fun cs S6 pt g6 => ?_)
    bv_omega
    refine g_fldr (g6 _ _ p5) kc k7 (show 2 < 1000 by decide) fun S7 p7 e7 => ?_
    bv_omega
    refine q cs S7 pt ⟨rs, ?_, l3, fun j st r h1 h2 => ?_⟩ fun c o n hc => ?_
    · rw [p7]
      simp [putFs, dStates, Function.comp_def]
    · have d4 := g4 _ _ (d3 j st r h1 h2)
      have n : r ≠ p := fun z => by rw [z, p4] at d4; cases d4
      rw [e7 r n]
      refine g6 _ _ ?_
      rw [e5 r n]
      exact d4
    · rw [e7 c n]
      refine g6 _ _ ?_
      rw [e5 c n]
      refine g4 _ _ (g3 _ _ ?_)
      rw [e2 c n]
      exact g1 _ _ hc
theorem make (h : VK sts) {ρ : Rho} {n m : Nat} (hn : ρ[n]? = some (some (.cls 3))) (hm : ρ[m]? = some (some (dStates sts))) (q : ∀ p cs S', St p = none → Parts sts cs → KindAt S' p sts cs → Ge St S' → Q (.ref p) S') : PD.wE T (phi T (k + 4)) (.callv n true [.var m]) ρ St Q Ex := by
  refine r_callc hn kc kc' rfl rfl ?_ (phi_mono _ _)
  refine r_cons (r_var hm (r_nil ⟨sts.map dState, rfl, fun p S2 hp p2 g2 => ?_⟩))
  have hz := h.few
  rw [call_at (fn := f16) rfl (bind_star1 rfl rfl rfl (by rw [List.length_map, sizeLine_eq]; omega))]
  refine init h p2 fun cs S3 pt k3 e3 => ⟨rfl, q p cs S3 hp pt k3 fun c o hc => e3 c o (ne_new hc hp) (g2 _ _ hc)⟩
/-- Kind.of -/
theorem kindOf (h : VK sts) (q : ∀ p cs S', St p = none → Parts sts cs → KindAt S' p sts cs → Ge St S' → Q (.ref p) S') : phi T (k + 5) 17 [.cls 3, dStates sts] St Q Ex := by
  refine phi_at (fn := f17) rfl rfl (show 2 ≤ 2 by decide) ?_
  show wSs T _ b17 _ [some (.cls 3), some (dStates sts)] _
  unfold b17
  bv_omega
  refine o_isi (k := true) rfl ?_
  bv_omega
  exact make h rfl rfl q
end
end K14
set_option Elab.async false
set_option linter.all false
set_option maxRecDepth 100000
set_option maxHeartbeats 1000000
namespace K14
open PySem PD

theorem Fr.mut {a b p : Addr} {S S' S'' : Sto} (f : Fr a b S S') (hp : S p = none) (e : ∀ c, c ≠ p → S'' c = S' c) : Fr a b S S'' := fun c o h1 h2 h => by
  rw [e c (ne_new h hp)]
  exact f c o h1 h2 h
theorem FeedAt.mut {a b p : Addr} {S S' : Sto} (h : FeedAt S a b) (pa : p ≠ a) (pb : p ≠ b) (e : ∀ c, c ≠ p → S' c = S c) : FeedAt S' a b := by
  obtain ⟨w, n, cs, h1, h2, r⟩ := h
  exact ⟨w, n, cs, by rw [e a pa.symm]; exact h1, by rw [e b pb.symm]; exact h2, r⟩
/-! ### the menu -/
abbrev Pr := Str × Str
def pr (x : Pr) : D := .tup [.str x.1, .str x.2]
def WordP (x : Pr) : Prop := Word x.1 ∧ Word x.2
def LtP (x y : Pr) : Prop := ltK (.tup [.text x.1, .text x.2]) (.tup [.text y.1, .text y.2]) = some true
theorem pr_key (x : Pr) : (pr x).key = some (.tup [.text x.1, .text x.2]) := rfl
theorem pr_keyD (x : Pr) : keyD (pr x) = .tup [.text x.1, .text x.2] := rfl
theorem pr_ok (x : Pr) : MemOk (pr x) := ⟨.tup [.text x.1, .text x.2], rfl, by simp [NestedKey.depth, NestedKey.depthAll]⟩
theorem lt_some (u v u' v' : Str) : ∃ b, ltK (.tup [.text u, .text v]) (.tup [.text u', .text v']) = some b := by
  simp only [ltK, ltKs]
  split
  · split
    · exact ⟨_, rfl⟩
    · exact ⟨_, rfl⟩
  · exact ⟨_, rfl⟩
theorem pr_sort {xs : List Pr} : SortD (xs.map pr) := by
  refine ⟨fun x m => ?_, .inr (.inr (.inr fun k m => ?_)), fun k m => ?_, fun k m k' m' => ?_⟩
  · obtain ⟨y, _, rfl⟩ := List.mem_map.mp m
    rfl
  · obtain ⟨y, my, rfl⟩ := List.mem_map.mp m
    obtain ⟨z, _, rfl⟩ := List.mem_map.mp my
    exact ⟨_, _, rfl⟩
  · obtain ⟨y, my, rfl⟩ := List.mem_map.mp m
    obtain ⟨z, _, rfl⟩ := List.mem_map.mp my
    rw [pr_keyD]
    simp [NestedKey.depth, NestedKey.depthAll]
  · obtain ⟨y, my, rfl⟩ := List.mem_map.mp m
    obtain ⟨z, _, rfl⟩ := List.mem_map.mp my
    obtain ⟨y', my', rfl⟩ := List.mem_map.mp m'
    obtain ⟨z', _, rfl⟩ := List.mem_map.mp my'
    exact lt_some _ _ _ _
theorem pr_lt {x y : Pr} (h : ltD (pr y) (pr x) = false) (ne : pr x ≠ pr y) : LtP x y := by
  obtain ⟨b, e⟩ := lt_some x.1 x.2 y.1 y.2
  have t := ltK_T _ _ _ e
  unfold ltD at h
  rw [pr_keyD, pr_keyD] at h
  cases b with
  | true => exact e
  | false =>
    exfalso
    have := ltT_anti t h
    injection this with this
    injection this with h1 this
    injection this with h2 _
    injection h1 with h1
    injection h2 with h2
    exact ne (by unfold pr; rw [h1, h2])
theorem prs_of : ∀ {ys : List D}, (∀ d ∈ ys, ∃ x, d = pr x ∧ WordP x) → ∃ M : List Pr, ys = M.map pr ∧ ∀ x ∈ M, WordP x
  | [], _ => ⟨[], rfl, fun x m => (nomatch m)⟩
  | d :: ys, h => by
    obtain ⟨x, rfl, hx⟩ := h d List.mem_cons_self
    obtain ⟨M, rfl, hM⟩ := prs_of fun e m => h e (List.mem_cons_of_mem _ m)
    exact ⟨x :: M, rfl, fun y m => (List.mem_cons.mp m).elim (fun e => e ▸ hx) (hM y)⟩
/-- a menu, ascending -/
structure Menu (M : List Pr) : Prop where
  w : ∀ x ∈ M, WordP x
  lt : M.Pairwise LtP
  few : M.length ≤ 24
theorem menu_of {ys xs : List D} (h1 : ys.Perm xs) (h2 : ys.Pairwise fun a b => ltD b a = false) (hn : xs.Nodup) (hw : ∀ d ∈ xs, ∃ x, d = pr x ∧ WordP x) (hl : xs.length ≤ 24) : ∃ M, ys = M.map pr ∧ Menu M := by
  obtain ⟨M, rfl, hM⟩ := prs_of fun d m => hw d (h1.mem_iff.mp m)
  refine ⟨M, rfl, hM, ?_, by have := h1.length_eq; rw [List.length_map] at this; omega⟩
  have nd : (M.map pr).Nodup := h1.nodup_iff.mpr hn
  have both : (M.map pr).Pairwise fun a b => ltD b a = false ∧ a ≠ b := List.Pairwise.and h2 nd
  rw [List.pairwise_map] at both
  exact both.imp fun h => pr_lt h.1 h.2
/-- a state drawn from the menu -/
structure SubM (M : List Pr) (size : Nat) (st : St1) : Prop where
  sub : (st.map fun p => (p.1, p.2.1)).Sublist M
  lt : ∀ p ∈ st, p.2.2 < size
theorem next_of {α : Type} {R : α → α → Prop} : ∀ {l : List α}, l.Pairwise R → ∀ pq ∈ l.zip (l.drop 1), R pq.1 pq.2
  | [], _, pq, m => by simp at m
  | [x], _, pq, m => by simp at m
  | x :: y :: l, h, pq, m => by
    obtain ⟨h1, h2⟩ := List.pairwise_cons.mp h
    have m : pq ∈ (x, y) :: (y :: l).zip l := m
    rcases List.mem_cons.mp m with e | m
    · rw [e]; exact h1 y List.mem_cons_self
    · exact next_of h2 pq m
theorem lt_parts {u v u' v' : Str} (h : ltK (.tup [.text u, .text v]) (.tup [.text u', .text v']) = some true) : (u = u' ∧ v.cps.toList < v'.cps.toList) ∨ u.cps.toList < u'.cps.toList := by
  simp only [ltK, ltKs] at h
  split at h
  · rename_i e
    left
    refine ⟨?_, ?_⟩
    · have := NestedKey.eq_of_beq _ _ e
      injection this
    · split at h
      · cases h
      · simpa using h
  · right
    simpa using h
theorem lt_asym {u v u' v' : Str} (h : ltK (.tup [.text u, .text v]) (.tup [.text u', .text v']) = some true) (g : ltK (.tup [.text u', .text v']) (.tup [.text u, .text v]) = some true) : False := by
  rcases lt_parts h with ⟨e1, h1⟩ | h1
  · rcases lt_parts g with ⟨_, g1⟩ | g1
    · exact List.lt_asymm h1 g1
    · rw [e1] at g1; exact List.lt_irrefl _ g1
  · rcases lt_parts g with ⟨e2, _⟩ | g1
    · rw [e2] at h1; exact List.lt_irrefl _ h1
    · exact List.lt_asymm h1 g1
theorem LtE.asym {p q : Part} (h : LtE p q) (g : LtE q p) : False := lt_asym h g
theorem LtE.ne {p q : Part} (h : LtE p q) : ev p ≠ ev q := fun e => by
  unfold ev at e
  injection e with e
  injection e with e1 e
  injection e with e2 _
  injection e1 with e1
  injection e2 with e2
  have : LtE p p := by
    unfold LtE at h ⊢
    rw [← e1, ← e2] at h
    exact h
  exact this.asym this
theorem SubM.vst {M : List Pr} {size : Nat} {st : St1} (h : SubM M size st) (hM : Menu M) : VSt size st := by
  have pw : st.Pairwise LtE := by
    have := hM.lt.sublist h.sub
    rw [List.pairwise_map] at this
    exact this
  refine ⟨fun p hp => ?_, next_of (R := fun p q => LtE p q) pw, ?_, ?_, pw⟩
  · have := hM.w _ (h.sub.subset (List.mem_map.mpr ⟨p, hp, rfl⟩))
    exact ⟨this.1, this.2, h.lt p hp⟩
  · have := h.sub.length_le
    rw [List.length_map] at this
    exact Nat.le_trans this hM.few
  · show List.Pairwise (· ≠ ·) (st.map ev)
    rw [List.pairwise_map]
    exact pw.imp fun h => h.ne
theorem vk_of {M : List Pr} {sts : List St1} (hM : Menu M) (h1 : 0 < sts.length) (h2 : sts.length ≤ 40) (h : ∀ st ∈ sts, SubM M sts.length st) : VK sts := by
  refine ⟨h1, h2, fun st m => (h st m).vst hM, M.map pr, by rw [List.length_map]; exact hM.few, fun st m p hp => ?_⟩
  exact List.mem_map.mpr ⟨(p.1, p.2.1), (h st m).sub.subset (List.mem_map.mpr ⟨p, hp, rfl⟩), rfl⟩
/-! ### alike is: each allows the other -/
theorem sorted_eq {α : Type} {r : α → α → Prop} (as : ∀ a b, r a b → r b a → False) : ∀ {l m : List α}, l.Pairwise r → m.Pairwise r → (∀ x, x ∈ l ↔ x ∈ m) → l = m
  | [], [], _, _, _ => rfl
  | [], y :: m, _, _, h => by have := (h y).mpr List.mem_cons_self; cases this
  | x :: l, [], _, _, h => by have := (h x).mp List.mem_cons_self; cases this
  | x :: l, y :: m, hl, hm, h => by
    obtain ⟨l1, l2⟩ := List.pairwise_cons.mp hl
    obtain ⟨m1, m2⟩ := List.pairwise_cons.mp hm
    have e : x = y := by
      rcases List.mem_cons.mp ((h x).mp List.mem_cons_self) with e | hx
      · exact e
      · rcases List.mem_cons.mp ((h y).mpr List.mem_cons_self) with e | hy
        · exact e.symm
        · exact (as _ _ (l1 y hy) (m1 x hx)).elim
    subst e
    congr 1
    refine sorted_eq as l2 m2 fun z => ⟨fun hz => ?_, fun hz => ?_⟩
    · rcases List.mem_cons.mp ((h z).mp (List.mem_cons_of_mem _ hz)) with e | hz'
      · subst e; exact (as _ _ (l1 _ hz) (l1 _ hz)).elim
      · exact hz'
    · rcases List.mem_cons.mp ((h z).mpr (List.mem_cons_of_mem _ hz)) with e | hz'
      · subst e; exact (as _ _ (m1 _ hz) (m1 _ hz)).elim
      · exact hz'
def EvLt (x y : D) : Prop := ∃ p q : Part, x = ev p ∧ y = ev q ∧ LtE p q
theorem ev_two {p q : Part} (h : ev p = ev q) : p.1 = q.1 ∧ p.2.1 = q.2.1 := by
  unfold ev at h
  injection h with h
  injection h with e1 h
  injection h with e2 _
  injection e1 with e1
  injection e2 with e2
  exact ⟨e1, e2⟩
theorem EvLt.asym (x y : D) (h : EvLt x y) (g : EvLt y x) : False := by
  obtain ⟨p, q, rfl, rfl, h⟩ := h
  obtain ⟨p', q', e1, e2, g⟩ := g
  obtain ⟨a1, a2⟩ := ev_two e1
  obtain ⟨b1, b2⟩ := ev_two e2
  unfold LtE at h g
  rw [← a1, ← a2, ← b1, ← b2] at g
  exact lt_asym h g
theorem evs_eq {st st' : St1} (h : st.Pairwise LtE) (h' : st'.Pairwise LtE) (e : ∀ x, x ∈ st.map ev ↔ x ∈ st'.map ev) : st.map ev = st'.map ev := by
  have key : ∀ {s : St1}, s.Pairwise LtE → (s.map ev).Pairwise EvLt := fun h => by
    rw [List.pairwise_map]
    exact h.imp fun h => ⟨_, _, rfl, rfl, h⟩
  exact sorted_eq EvLt.asym (key h) (key h') e
end K14
set_option Elab.async false
set_option linter.all false
set_option maxRecDepth 100000
set_option maxHeartbeats 1000000
namespace K14
open PySem PD

/-! ### kinds by hand -/
def wordB (w : Str) : Bool := decide (1 ≤ w.length) && (decide (w.length ≤ 12) && w.cps.toList.all fun c => LETTERS.cps.toList.contains c)
theorem wordB_ok {w : Str} (h : wordB w = true) : Word w := by
  unfold wordB at h
  simp only [Bool.and_eq_true, decide_eq_true_eq, List.all_eq_true, List.contains_iff_mem] at h
  exact ⟨h.1, h.2.1, h.2.2⟩
def ltB (p q : Part) : Bool := match ltK (.tup [.text p.1, .text p.2.1]) (.tup [.text q.1, .text q.2.1]) with
  | some true => true
  | _ => false
theorem ltB_ok {p q : Part} (h : ltB p q = true) : LtE p q := by
  unfold ltB at h
  unfold LtE
  split at h
  · assumption
  · cases h
def pwB : List Part → Bool
  | [] => true
  | p :: r => r.all (ltB p) && pwB r
theorem pwB_ok : ∀ {l : List Part}, pwB l = true → l.Pairwise LtE
  | [], _ => .nil
  | p :: r, h => by
    rw [pwB, Bool.and_eq_true, List.all_eq_true] at h
    exact .cons (fun q m => ltB_ok (h.1 q m)) (pwB_ok h.2)
def vstB (n : Nat) (st : St1) : Bool := pwB st && (decide (st.length ≤ 24) && st.all fun p => wordB p.1 && (wordB p.2.1 && decide (p.2.2 < n)))
theorem vst_pw {n : Nat} {st : St1} (h : st.Pairwise LtE) (l : st.length ≤ 24) (w : ∀ p ∈ st, Word p.1 ∧ Word p.2.1 ∧ p.2.2 < n) : VSt n st :=
  ⟨w, next_of h, l, List.pairwise_map.mpr (h.imp fun h => LtE.ne h), h⟩
theorem vstB_ok {n : Nat} {st : St1} (h : vstB n st = true) : VSt n st := by
  unfold vstB at h
  simp only [Bool.and_eq_true, decide_eq_true_eq, List.all_eq_true] at h
  exact vst_pw (pwB_ok h.1) h.2.1 fun p m => ⟨wordB_ok (h.2.2 p m).1, wordB_ok (h.2.2 p m).2.1, (h.2.2 p m).2.2⟩
def vkB (menu : List Pr) (sts : List St1) : Bool := decide (0 < sts.length) && (decide (sts.length ≤ 40) && (decide (menu.length ≤ 24) && sts.all fun st => vstB sts.length st && st.all fun p => menu.contains (p.1, p.2.1)))
theorem vkB_ok (menu : List Pr) {sts : List St1} (h : vkB menu sts = true) : VK sts := by
  unfold vkB at h
  simp only [Bool.and_eq_true, decide_eq_true_eq, List.all_eq_true, List.contains_iff_mem] at h
  exact ⟨h.1, h.2.1, fun st m => vstB_ok (h.2.2.2 st m).1, menu.map pr, by rw [List.length_map]; exact h.2.2.1, fun st m p mp => List.mem_map.mpr ⟨_, (h.2.2.2 st m).2 p mp, rfl⟩⟩
theorem let_ok : ∀ c ∈ LETTERS.cps.toList, c < 128 := by decide +kernel
theorem word_str {w : Str} (h : Word w) : PyData.strOk w = true := by
  unfold PyData.strOk
  rw [← Array.all_toList, List.all_eq_true]
  intro c hc
  have := let_ok c (h.2.2 c hc)
  simp
  omega
theorem pr_d {x : Pr} (h : WordP x) : isD 1 (pr x) = true := by simp [pr, isD, isDs, word_str h.1, word_str h.2]
theorem prs_d {M : List Pr} (h : ∀ x ∈ M, WordP x) : isDs 1 (M.map pr) = true := by
  rw [isDs_all, List.all_map, List.all_eq_true]
  exact fun x hx => pr_d (h x hx)
end K14
namespace K14
open PySem PD
local macro_rules | `(tactic| bv_omega) => `(tactic| (repeat (first | with_reducible refine r_cst ?_ | with_reducible refine r_var (by with_unfolding_all rfl) ?_ | with_reducible refine r_op ?_ | with_reducible refine r_cons ?_ | with_reducible refine r_nil ?_ | with_reducible refine t_bl ?_ | with_reducible refine t_tt ?_ | with_reducible refine t_ff ?_ | with_reducible refine t_nt ?_ | with_reducible refine t_nf ?_ | with_reducible refine o_add ?_ | with_reducible refine o_sub ?_ | with_reducible refine o_lt ?_ | with_reducible refine o_le ?_ | with_reducible refine o_gt ?_ | with_reducible refine o_ge ?_ | with_reducible refine o_neg ?_ | with_reducible refine o_idxt at0 ?_ | with_reducible refine o_idxt at1 ?_ | with_reducible refine o_idxt at2 ?_ | with_reducible refine o_tup ln1 ?_ | with_reducible refine o_tup ln2 ?_ | with_reducible refine o_tup ln3 ?_ | with_reducible refine s_cons ?_ | with_reducible refine s_nil ?_ | with_reducible refine s_asg ?_ | with_reducible refine s_ex ?_ | with_reducible refine s_ret ?_ | with_reducible refine s_ite ?_ | with_reducible refine g_nm ?_ | with_reducible refine g_cons ?_ | with_reducible refine g_nil ?_ | with_reducible refine g_tup (by with_unfolding_all rfl) (by with_unfolding_all rfl) ?_ | with_reducible refine g_sub ?_ | with_reducible refine g_fld ?_ | with_reducible refine r_and ?_ | with_reducible refine r_or ?_ | with_reducible refine r_not ?_ | with_reducible refine r_ife ?_ | with_reducible refine r_chn ?_ | with_reducible refine r_sl ?_ | with_reducible refine r_pt0 ?_ | with_reducible refine r_pt1 ?_ | with_reducible refine r_fstr ?_ | with_reducible refine r_j0 ?_ | with_reducible refine r_j1 ?_ | with_reducible refine r_mth ?_ | with_reducible refine r_exint ?_ | with_reducible refine r_exbl ?_ | with_reducible refine o_intb ?_ | with_reducible refine o_min ?_ | with_reducible refine s_for ?_ | with_reducible refine r_comp ?_ | with_reducible refine r_comp2 ?_ | with_reducible refine i_nil ?_ | with_reducible refine i_one ?_ | with_reducible refine w_valt ?_ | with_reducible refine w_vals ?_ | with_reducible refine w_enut ?_ | with_reducible refine w_zipt ?_)))
set_option Elab.async false
set_option linter.all false
set_option maxRecDepth 100000
set_option maxHeartbeats 1000000
/-! ### the events of a kind -/
def evs (sts : List St1) : List Pr := (sts.map fun st => st.map fun p => (p.1, p.2.1)).flatten
theorem ev_pr (p : Part) : ev p = pr (p.1, p.2.1) := rfl
theorem evs_take {sts : List St1} {i : Nat} {st : St1} (h : sts[i]? = some st) : evs (sts.take (i + 1)) = evs (sts.take i) ++ st.map fun p => (p.1, p.2.1) := by
  unfold evs
  rw [List.take_add_one, h]
  simp
theorem evs_len {sts : List St1} {n : Nat} (h : ∀ st ∈ sts, VSt n st) : (evs sts).length ≤ 24 * sts.length := by
  induction sts with
  | nil => exact Nat.zero_le _
  | cons st sts ih =>
    have := ih fun s m => h s (List.mem_cons_of_mem _ m)
    have l := (h st List.mem_cons_self).len
    unfold evs at this ⊢
    simp only [List.map_cons, List.flatten_cons, List.length_append, List.length_map, List.length_cons]
    omega
theorem mem_evs {sts : List St1} {x : Pr} : x ∈ evs sts ↔ ∃ st ∈ sts, ∃ p ∈ st, (p.1, p.2.1) = x := by
  unfold evs
  simp only [List.mem_flatten, List.mem_map]
  constructor
  · rintro ⟨l, ⟨st, hs, rfl⟩, hx⟩
    obtain ⟨p, hp, e⟩ := List.mem_map.mp hx
    exact ⟨st, hs, p, hp, e⟩
  · rintro ⟨st, hs, p, hp, e⟩
    exact ⟨_, ⟨st, hs, rfl⟩, List.mem_map.mpr ⟨p, hp, e⟩⟩
theorem setD_few {xs : List D} {menu : List D} (h : ∀ x ∈ xs, x ∈ menu) : (setD xs).length ≤ menu.length := nodup_len _ _ (setD_nodup xs) fun x m => h x (mem_setD.mp m)
/-- what sorted(set(..)) of a kind's events is -/
structure EvList (sts : List St1) (M : List Pr) : Prop where
  menu : Menu M
  mem : ∀ x, x ∈ M ↔ x ∈ evs sts
theorem ev_list {sts : List St1} (h : VK sts) {ys xs : List D} (hm : ∀ d, d ∈ xs ↔ d ∈ (evs sts).map pr) (h1 : ys.Perm (setD xs)) (h2 : ys.Pairwise fun a b => ltD b a = false) : ∃ M, ys = M.map pr ∧ EvList sts M := by
  obtain ⟨menu, m1, m2⟩ := h.menu
  have w : ∀ x ∈ evs sts, WordP x := fun x m => by
    obtain ⟨st, hs, p, hp, rfl⟩ := mem_evs.mp m
    exact ⟨((h.st st hs).w p hp).1, ((h.st st hs).w p hp).2.1⟩
  obtain ⟨M, e, hM⟩ := menu_of h1 h2 (setD_nodup _) (fun d hd => by
    obtain ⟨x, hx, rfl⟩ := List.mem_map.mp ((hm d).mp (mem_setD.mp hd))
    exact ⟨x, rfl, w x hx⟩) (Nat.le_trans (setD_few fun d hd => by
    obtain ⟨x, hx, rfl⟩ := List.mem_map.mp ((hm d).mp hd)
    obtain ⟨st, hs, p, hp, rfl⟩ := mem_evs.mp hx
    exact m2 st hs p hp) m1)
  refine ⟨M, e, hM, fun x => ?_⟩
  have inj : ∀ x y : Pr, pr x = pr y → x = y := fun x y e => by
    injection e with e
    injection e with e1 e2
    injection e2 with e2
    injection e1 with e1
    injection e2 with e2
    exact Prod.ext e1 e2
  have : pr x ∈ ys ↔ pr x ∈ (evs sts).map pr := by rw [h1.mem_iff, mem_setD, hm]
  rw [e] at this
  constructor
  · intro m
    obtain ⟨y, hy, e⟩ := List.mem_map.mp (this.mp (List.mem_map_of_mem m))
    rw [← inj y x e]; exact hy
  · intro m
    obtain ⟨y, hy, e⟩ := List.mem_map.mp (this.mpr (List.mem_map_of_mem m))
    rw [← inj y x e]; exact hy
section
variable {k : Nat} {p : Addr} {St : Sto} {Q : WD} {Ex : WX} {sts : List St1} {cs : List Nat}
theorem accS_set (l : List D) : accS (l.map fun d => [d]) = setD l := accS_eq l
theorem ev_few (h : VK sts) {xs : List D} (hx : ∀ d ∈ xs, d ∈ (evs sts).map pr) : (setD xs).length ≤ 24 := by
  obtain ⟨menu, m1, m2⟩ := h.menu
  exact Nat.le_trans (setD_few (menu := menu) fun d hd => by
    obtain ⟨x, hx, rfl⟩ := List.mem_map.mp (hx d hd)
    obtain ⟨st, hs, p, hp, rfl⟩ := mem_evs.mp hx
    exact m2 st hs p hp) m1
theorem ev_sort (h : VK sts) {xs : List D} (hx : ∀ d ∈ xs, d ∈ (evs sts).map pr) : SortD (setD xs) := by
  obtain ⟨M, e, _⟩ := prs_of (ys := setD xs) fun d hd => by
    obtain ⟨x, hx, rfl⟩ := List.mem_map.mp (hx d (mem_setD.mp hd))
    obtain ⟨st, hs, p, hp, rfl⟩ := mem_evs.mp hx
    exact ⟨_, rfl, ((h.st st hs).w p hp).1, ((h.st st hs).w p hp).2.1⟩
  rw [e]
  exact pr_sort
theorem kindEvents (h : VK sts) (hk : KindAt St p sts cs) (q : ∀ M S', EvList sts M → Ge St S' → Q (.tup (M.map pr)) S') : phi T (k + 2) 20 [.ref p] St Q Ex := by
  refine phi_at (fn := f20) rfl rfl (show 1 ≤ 3 by decide) ?_
  show wSs T _ b20 _ [some (.ref p), none, none] _
  unfold b20
  obtain ⟨ms, m1, m2⟩ := id hk
  bv_omega
  refine o_fld m1 kc k5 rfl ?_
  unfold dStates
  bv_omega
  refine loop_list (sts.map dState) (fun i acc S' => Ge St S' ∧ acc = ((evs (sts.take i)).map pr).map fun d => [d]) ⟨.refl, rfl⟩ (fun i acc S' _ I => src_tup) (fun i d acc S' Q' hd I hq => ?_) fun acc S' I => ?_
  · obtain ⟨g, rfl⟩ := I
    rw [List.getElem?_map] at hd
    obtain ⟨st, hst', rfl⟩ := Option.map_eq_some_iff.mp hd
    have hst := List.mem_of_getElem? hst'
    bv_omega
    refine o_call rfl rfl (legal (h.st st hst).sz fun S2 g2 => ?_)
    bv_omega
    refine loop_list (st.map ev) (fun j acc S' => Ge St S' ∧ acc = ((evs (sts.take i) ++ (st.take j).map fun p => (p.1, p.2.1)).map pr).map fun d => [d]) ⟨g.trans g2, by simp⟩ (fun i acc S' _ I => src_tup) (fun j d acc S' Q' hd I hq => ?_) fun acc S' I => ?_
    · obtain ⟨g, rfl⟩ := I
      rw [List.getElem?_map] at hd
      obtain ⟨q', hq', rfl⟩ := Option.map_eq_some_iff.mp hd
      have lt := (List.getElem?_eq_some_iff.mp hq').1
      have lti := (List.getElem?_eq_some_iff.mp hst').1
      bv_omega
      refine ⟨⟨ev_ok q', ?_⟩, hq _ _ ⟨g, ?_⟩⟩
      · have := ev_few h (xs := (evs (sts.take i) ++ (st.take j).map fun p => (p.1, p.2.1)).map pr) fun d hd => by
          obtain ⟨x, hx, rfl⟩ := List.mem_map.mp hd
          refine List.mem_map_of_mem (mem_evs.mpr ?_)
          rcases List.mem_append.mp hx with hx | hx
          · obtain ⟨s, hs, r⟩ := mem_evs.mp hx
            exact ⟨s, List.mem_of_mem_take hs, r⟩
          · obtain ⟨p, hp, e⟩ := List.mem_map.mp hx
            exact ⟨st, hst, p, List.mem_of_mem_take hp, e⟩
        rw [accS_set]
        omega
      · rw [List.take_add_one, hq']
        simp [ev_pr]
    · obtain ⟨g, rfl⟩ := I
      refine fin_for (hq _ _ ⟨g, ?_⟩)
      rw [List.length_map, List.take_length, evs_take hst']
  · obtain ⟨g, e1⟩ := I
    rw [List.length_map, List.take_length] at e1
    refine fin_new fun r S2 hr g2 e => ?_
    have e : S2 r = some (.set (setD ((evs sts).map pr))) := by rw [e, e1]; exact congrArg (fun l => some (O.set l)) (accS_set _)
    bv_omega
    refine o_sorted (srt_set e) (ev_sort h fun d m => m) fun ys u S3 h3 h4 hu e3 g3 => ?_
    obtain ⟨M, rfl, hM⟩ := ev_list h (xs := (evs sts).map pr) (fun d => .rfl) h3 h4
    bv_omega
    refine o_tuple (seq_lst e3) ?_
    exact q M S3 hM ((g.trans g2).trans g3)
end
set_option Elab.async false
set_option linter.all false
set_option maxRecDepth 100000
set_option maxHeartbeats 1000000
/-! ### the machines -/
def letterM : List St1 := [[("read", "a", 0), ("seta", "ok", 0), ("setb", "ok", 1)], [("read", "b", 1), ("seta", "ok", 0), ("setb", "ok", 1)]]
def purseM : List St1 := [[("put", "ok", 1), ("take", "no", 0)], [("put", "ok", 2), ("take", "ok", 0)], [("take", "ok", 1)]]
def lineM : List St1 := [[("puta", "ok", 1), ("putb", "ok", 2)], [("puta", "ok", 3), ("putb", "ok", 4), ("take", "a", 0)], [("puta", "ok", 5), ("putb", "ok", 6), ("take", "b", 0)], [("take", "a", 1)], [("take", "a", 2)], [("take", "b", 1)], [("take", "b", 2)]]
def stepM (k : Nat) : St1 := (if k < 39 then [(("add" : Str), ("ok" : Str), k + 1)] else []) ++ if 0 < k then [(("sub" : Str), ("ok" : Str), k - 1)] else []
def stepsM : List St1 := (List.range 40).map stepM
theorem letter_ok : VK letterM := vkB_ok [("read", "a"), ("seta", "ok"), ("setb", "ok"), ("read", "b")] (by decide +kernel)
theorem purse_ok : VK purseM := vkB_ok [("put", "ok"), ("take", "no"), ("take", "ok")] (by decide +kernel)
theorem line_ok : VK lineM := vkB_ok [("puta", "ok"), ("putb", "ok"), ("take", "a"), ("take", "b")] (by decide +kernel)
theorem steps_ok : VK stepsM := vkB_ok [("add", "ok"), ("sub", "ok")] (by decide +kernel)
def menu1 : List Pr := [("begin", "0"), ("commit", "a"), ("did", "ok"), ("x", "y")]
def menu2 : List Pr := [("get", "a"), ("get", "b"), ("see", "a")]
def menuB (M : List Pr) : Bool := pwB (M.map fun x => (x.1, x.2, 0)) && (decide (M.length ≤ 24) && M.all fun x => wordB x.1 && wordB x.2)
theorem menuB_ok {M : List Pr} (h : menuB M = true) : Menu M := by
  unfold menuB at h
  simp only [Bool.and_eq_true, decide_eq_true_eq, List.all_eq_true] at h
  refine ⟨fun x m => ⟨wordB_ok (h.2.2 x m).1, wordB_ok (h.2.2 x m).2⟩, ?_, h.2.1⟩
  have := pwB_ok h.1
  rw [List.pairwise_map] at this
  exact this
theorem menu1_ok : Menu menu1 := menuB_ok (by decide +kernel)
theorem menu2_ok : Menu menu2 := menuB_ok (by decide +kernel)
theorem rep_one {α : Type} {x : α} {b : Bool} : (List.replicate (if b = true then (1 : Int) else 0).toNat [x]).flatten = if b = true then [x] else [] := by
  cases b <;> rfl
theorem mul01 (b : Bool) (x : D) : -(2 ^ 63) ≤ (if b = true then (1 : Int) else 0) ∧ (if b = true then (1 : Int) else 0) < 2 ^ 63 ∧ [x].length * (if b = true then (1 : Int) else 0).toNat ≤ 2 ^ 24 := by
  cases b
  · exact ⟨by decide, by decide, Nat.zero_le _⟩
  · exact ⟨by decide, by decide, by show 1 * 1 ≤ 2 ^ 24; decide⟩
theorem if_len {α : Type} (b : Bool) (x : α) : (if b = true then [x] else []).length ≤ 1 := by cases b <;> simp
section
variable {k : Nat} {a b : Addr} {St : Sto} {Q : WD} {Ex : WX}
theorem states (h : FeedAt St a b) (q : ∀ sts S', VK sts → FeedAt S' a b → Fr a b St S' → Q (dStates sts) S') : phi T (k + 3) 34 [.ref a] St Q Ex := by
  refine phi_at (fn := f34) rfl rfl (show 1 ≤ 14 by decide) ?_
  show wSs T _ b34 _ [some (.ref a), none, none, none, none, none, none, none, none, none, none, none, none, none] _
  unfold b34
  bv_omega
  refine o_addt (by decide) ?_
  bv_omega
  refine o_addt (by decide) ?_
  bv_omega
  refine o_addt (by decide) ?_
  bv_omega
  refine w_rng (by decide) ?_
  refine loop_list ((List.range 40).map fun (i : Nat) => D.int (0 + (i : Int))) (fun i acc S' => acc = (List.range i).map (fun j => [dState (stepM j)]) ∧ Ge St S') ⟨rfl, .refl⟩ (fun i acc S' _ _ => src_range) (fun i d acc S' Q' hd I hq => ?_) fun acc S' I => ?_
  · obtain ⟨rfl, g⟩ := I
    rw [List.getElem?_map] at hd
    obtain ⟨i', hi, rfl⟩ := Option.map_eq_some_iff.mp hd
    have lt := (List.getElem?_eq_some_iff.mp hi).1
    rw [List.length_range] at lt
    rw [List.getElem?_range lt] at hi
    cases hi
    have z : (0 : Int) + (i : Int) = (i : Int) := Int.zero_add _
    rw [z]
    bv_omega
    refine o_lst ln1 fun p1 S1 h1 e1 g1 => ?_
    bv_omega
    refine o_mulL e1 (mul01 _ _) fun p2 S2 h2 e2 g2 => ?_
    bv_omega
    refine o_lst ln1 fun p3 S3 h3 e3 g3 => ?_
    bv_omega
    refine o_mulL e3 (mul01 _ _) fun p4 S4 h4 e4 g4 => ?_
    bv_omega
    rw [rep_one] at e2 e4
    refine o_addl (g4 _ _ (g3 _ _ e2)) e4 (by rw [sizeLine_eq]; exact Nat.le_trans (Nat.add_le_add (if_len _ _) (if_len _ _)) (by decide)) fun p5 S5 h5 e5 g5 => ?_
    bv_omega
    refine o_tuple (seq_lst e5) ?_
    bv_omega
    refine ⟨by show ((List.range i).map _).length < sizeLine; rw [List.length_map, List.length_range, sizeLine_eq]; omega, hq _ _ ⟨?_, ((((g.trans g1).trans g2).trans g3).trans g4).trans g5⟩⟩
    rw [List.range_succ, List.map_append]
    congr 1
    show [[_]] = [[_]]
    congr 2
    unfold stepM dState
    rw [List.map_append]
    congr 2
    · by_cases c : i < 39
      · have c' : (i : Int) < 39 := by omega
        simp [c, c', dPart]
      · have c' : ¬ (i : Int) < 39 := by omega
        simp [c, c']
    · by_cases c : 0 < i
      · have c' : (i : Int) > 0 := by omega
        simp [c, c', dPart]
        omega
      · have c' : ¬ (i : Int) > 0 := by omega
        simp [c, c']
  · obtain ⟨rfl, g⟩ := I
    refine fin_new fun r S1 hr g1 r1 => ?_
    have r1 : S1 r = some (.lst (stepsM.map dState)) := by
      rw [r1]
      refine congrArg (fun l => some (O.lst l)) ?_
      rw [List.length_map, List.length_range, List.map_map]
      unfold stepsM
      rw [List.map_map]
      rfl
    have f1 : Fr a b St S1 := .of_ge (g.trans g1)
    have d1 := h.ge (g.trans g1)
    bv_omega
    refine o_tuple (seq_lst r1) ?_
    bv_omega
    refine o_lst ln4 fun kn S2 hkn k2 g2 => ?_
    bv_omega
    refine o_call rfl rfl (digit (d1.ge g2) (by decide) fun w S3 w1 w2 d3 f3' => ?_)
    have f3 := (f1.trans (.of_ge g2)).trans f3'
    have nk : kn ≠ a ∧ kn ≠ b := d1.ne hkn
    bv_omega
    refine t_cond (fun lt => ?_) fun _ => ?_
    · bv_omega
      have k3 : S3 kn = some (.lst [dStates letterM, dStates purseM, dStates lineM, dStates stepsM]) := f3' kn _ nk.1 nk.2 k2
      obtain ⟨n, rfl⟩ := Int.eq_ofNat_of_zero_le w1
      have lt : n < 4 := by omega
      refine o_idxr (seq_lst k3) (d := dStates ([letterM, purseM, lineM, stepsM].getD n [])) (by rw [atI_nat]; match n, lt with
        | 0, _ => rfl
        | 1, _ => rfl
        | 2, _ => rfl
        | 3, _ => rfl) ?_
      refine q _ _ ?_ d3 f3
      match n, lt with
        | 0, _ => exact letter_ok
        | 1, _ => exact purse_ok
        | 2, _ => exact line_ok
        | 3, _ => exact steps_ok
    · refine s_nil ?_
      bv_omega
      refine o_lst ln4 fun m1 S4 hm1 e4 g4 => ?_
      bv_omega
      refine o_lst ln3 fun m2 S5 hm2 e5 g5 => ?_
      bv_omega
      refine o_lst ln2 fun mm S6 hmm e6 g6 => ?_
      bv_omega
      have d6 := d3.ge (g4.trans (g5.trans g6))
      have f6 := f3.trans (.of_ge (g4.trans (g5.trans g6)))
      have nm1 := d3.ne hm1
      have nm2 := (d3.ge g4).ne hm2
      have nmm := (d3.ge (g4.trans g5)).ne hmm
      refine o_call rfl rfl (pick_l d6 e6 nmm.1 nmm.2 ⟨by simp, by simp⟩ fun d S7 hd7 d7 f7 => ?_)
      obtain ⟨x, M, rfl, hM, x7, xa, xb⟩ : ∃ x M, d = .ref x ∧ Menu M ∧ S7 x = some (.lst (M.map pr)) ∧ x ≠ a ∧ x ≠ b := by
        rcases List.mem_cons.mp hd7 with e | hd7
        · exact ⟨m1, menu1, e, menu1_ok, f7 m1 _ nm1.1 nm1.2 (g6 _ _ (g5 _ _ e4)), nm1⟩
        · exact ⟨m2, menu2, List.mem_singleton.mp hd7, menu2_ok, f7 m2 _ nm2.1 nm2.2 (g6 _ _ e5), nm2⟩
      have f7 := f6.trans f7
      bv_omega
      refine o_call rfl rfl (digit d7 (by decide) fun r8 S8 u1 u2 d8 f8 => ?_)
      obtain ⟨n8, rfl⟩ := Int.eq_ofNat_of_zero_le u1
      have x8 := f8 x _ xa xb x7
      have f8 := f7.trans f8
      bv_omega
      refine o_lst ln0 fun fo S9 hfo e9 g9 => ?_
      have nfo := d8.ne hfo
      have d9 := d8.ge g9
      have f9 := f8.trans (.of_ge g9)
      have nfx : fo ≠ x := fun e => by rw [e, x8] at hfo; cases hfo
      bv_omega
      have em : (1 : Int) + (n8 : Int) = ((1 + n8 : Nat) : Int) := by omega
      rw [em]
      refine w_rng (by omega) ?_
      have nf0 : St fo = none := by
        cases z : St fo with
        | none => rfl
        | some o => rw [f8 fo o nfo.1 nfo.2 z] at hfo; cases hfo
      refine loop_list ((List.range (1 + n8)).map fun (i : Nat) => D.int (0 + (i : Int))) (fun i ρ S' => ∃ sts A1 A2 A3 A4 A5 A6 A7 x11 x12 x13, ρ = [some (.ref a), A1, A2, A3, A4, A5, A6, A7, some (.ref x), some (.int ((1 + n8 : Nat) : Int)), some (.ref fo), x11, x12, x13] ∧ sts.length = i ∧ (∀ st ∈ sts, SubM M (1 + n8) st) ∧ S' fo = some (.lst (sts.map dState)) ∧ S' x = some (.lst (M.map pr)) ∧ FeedAt S' a b ∧ Fr a b St S')
        ⟨[], _, _, _, _, _, _, _, _, _, _, rfl, rfl, fun st m => (nomatch m), e9, g9 _ _ x8, d9, f9⟩ (fun i acc S' _ _ => src_range) (fun i d ρ S' Q' hd I hq => ?_) fun ρ S' I => ?_
      · obtain ⟨sts, A1, A2, A3, A4, A5, A6, A7, x11, x12, x13, rfl, hl, hs, fo1, x1, dd, ff⟩ := I
        have lt : i < 1 + n8 := by
          have := (List.getElem?_eq_some_iff.mp hd).1
          rwa [List.length_map, List.length_range] at this
        bv_omega
        refine m_bt (recv_lst fo1 rfl) ?_
        bv_omega
        refine w_valr (seq_lst x1) ?_
        refine loop_list (M.map pr) (fun i acc S2 => ∃ st : St1, acc = st.map (fun p => [dPart p]) ∧ (st.map fun p => (p.1, p.2.1)).Sublist (M.take i) ∧ (∀ p ∈ st, p.2.2 < 1 + n8) ∧ FeedAt S2 a b ∧ Fr a b S' S2) ⟨[], rfl, .refl _, fun p m => (nomatch m), dd, .refl⟩ (fun i acc S2 _ I => by obtain ⟨st, _, _, _, _, ff⟩ := I; exact src_ref (ff x _ xa xb x1)) (fun i d acc S2 Q2 hd I hq2 => ?_) fun acc S2 I => ?_
        · obtain ⟨st, rfl, sl, wl, d2, f2⟩ := I
          rw [List.getElem?_map] at hd
          obtain ⟨y, hy, rfl⟩ := Option.map_eq_some_iff.mp hd
          have lt2 := (List.getElem?_eq_some_iff.mp hy).1
          have tk : M.take (i + 1) = M.take i ++ [y] := by rw [List.take_add_one, hy]; rfl
          have few := hM.few
          have ls : st.length ≤ 24 := by
            have := sl.length_le
            rw [List.length_map, List.length_take] at this
            omega
          bv_omega
          refine o_call rfl rfl (digit d2 (by decide) fun r3 S3 v1 v2 d3 f3 => ?_)
          bv_omega
          refine t_cond (fun c => ?_) fun c => ?_
          · bv_omega
            refine o_call rfl rfl (digit d3 (by omega) fun r4 S4 y1 y2 d4 f4 => ?_)
            bv_omega
            unfold pr
            refine o_addt (by rw [sizeLine_eq]; exact (by decide : 2 + 1 ≤ 16777216)) ?_
            bv_omega
            obtain ⟨n4, rfl⟩ := Int.eq_ofNat_of_zero_le y1
            refine ⟨by show (st.map _).length < sizeLine; rw [List.length_map, sizeLine_eq]; omega, hq2 _ _ ⟨st ++ [(y.1, y.2, n4)], ?_, ?_, fun p m => ?_, d4, (f2.trans f3).trans f4⟩⟩
            · rw [List.map_append]; rfl
            · rw [tk, List.map_append]
              exact sl.append (.refl _)
            · rcases List.mem_append.mp m with m | m
              · exact wl p m
              · rw [List.mem_singleton.mp m]; show n4 < _; omega
          · bv_omega
            exact hq2 _ _ ⟨st, rfl, by rw [tk]; exact sl.trans (List.sublist_append_left _ _), wl, d3, f2.trans f3⟩
        · obtain ⟨st, rfl, sl, wl, d2, f2⟩ := I
          rw [List.length_map, List.take_length] at sl
          refine fin_new fun p S3 hp g3 e3 => ?_
          have e3 : S3 p = some (.lst (st.map dPart)) := by
            rw [e3]
            refine congrArg (fun l => some (O.lst l)) ?_
            rw [List.map_map]
            rfl
          bv_omega
          refine o_tuple (seq_lst e3) ?_
          bv_omega
          have fo3 := g3 _ _ (f2 fo _ nfo.1 nfo.2 fo1)
          refine mm_append fo3 (by rw [List.length_map, hl, sizeLine_eq]; omega) fun S4 e4 c4 => ?_
          bv_omega
          have f3 := ff.trans (f2.trans (.of_ge g3))
          refine hq _ _ ⟨sts ++ [st], _, _, _, _, _, _, _, _, _, _, rfl, by rw [List.length_append, hl]; rfl, fun st' m => ?_, by rw [e4]; simp [dState], by rw [c4 x nfx.symm]; exact g3 _ _ (f2 x _ xa xb x1), (d2.ge g3).mut nfo.1 nfo.2 c4, f3.mut nf0 c4⟩
          rcases List.mem_append.mp m with m | m
          · exact hs st' m
          · rw [List.mem_singleton.mp m]; exact ⟨sl, wl⟩
      · obtain ⟨sts, A1, A2, A3, A4, A5, A6, A7, x11, x12, x13, rfl, hl, hs, fo1, x1, dd, ff⟩ := I
        rw [List.length_map, List.length_range] at hl
        refine fin_for ?_
        bv_omega
        refine o_tuple (seq_lst fo1) ?_
        exact q sts _ (vk_of hM (by omega) (by omega) (by rw [hl]; exact hs)) dd ff
end
set_option Elab.async false
set_option linter.all false
set_option maxRecDepth 100000
set_option maxHeartbeats 1000000
/-! ### the events of a machine -/
section
variable {k : Nat} {a b : Addr} {St : Sto} {Q : WD} {Ex : WX}
theorem events {sts : List St1} (h : VK sts) (q : ∀ p M S', EvList sts M → St p = none → S' p = some (.lst (M.map pr)) → Ge St S' → Q (.ref p) S') : phi T (k + 1) 36 [dStates sts] St Q Ex := by
  refine phi_at (fn := f36) rfl rfl (show 1 ≤ 4 by decide) ?_
  show wSs T _ b36 _ [some (.tup (sts.map dState)), none, none, none] _
  unfold b36
  bv_omega
  refine o_lst ln0 fun f0 S0 hf0 e0 g0 => ?_
  bv_omega
  have hfew := h.few
  refine loop_list (sts.map dState) (fun i ρ S' => Ge St S' ∧ ∃ f x2 x3, ρ = [some (.tup (sts.map dState)), some (.ref f), x2, x3] ∧ St f = none ∧ S' f = some (.lst ((evs (sts.take i)).map pr))) ⟨g0, f0, _, _, rfl, hf0, e0⟩ (fun i ρ S' _ I => src_tup) (fun i d ρ S' Q' hd I hq => ?_) fun ρ S' I => ?_
  · obtain ⟨g, f, x2, x3, rfl, hf, ef⟩ := I
    rw [List.getElem?_map] at hd
    obtain ⟨st, hst, rfl⟩ := Option.map_eq_some_iff.mp hd
    have vs := h.st st (List.mem_of_getElem? hst)
    have lt := (List.getElem?_eq_some_iff.mp hst).1
    unfold dState
    bv_omega
    refine loop_map st dPart ev vs.sz (fun i S' _ => rfl) (fun p hp S' Q' g hq => ?_) (phi_mono _ _) fun p S1 hp g1 e1 => ?_
    · unfold dPart
      bv_omega
      refine sl_tup ?_
      exact hq _ .refl
    · bv_omega
      have le := evs_len (sts := sts.take i) fun s m => h.st s (List.mem_of_mem_take m)
      rw [List.length_take] at le
      refine o_addl (g1 _ _ ef) e1 (by rw [List.length_map, List.length_map, sizeLine_eq]; have := vs.len; omega) fun p2 S2 hp2 e2 g2 => ?_
      bv_omega
      refine hq _ _ ⟨(g.trans g1).trans g2, p2, _, _, rfl, ?_, ?_⟩
      · cases z : St p2 with
        | none => rfl
        | some o => rw [g1 _ _ (g _ _ z)] at hp2; cases hp2
      · rw [e2, evs_take hst, List.map_append, List.map_map]
        rfl
  · obtain ⟨g, f, x2, x3, rfl, hf, ef⟩ := I
    rw [List.length_map, List.take_length] at ef
    refine fin_for ?_
    bv_omega
    refine o_set (seq_lst ef) (fun d hd => ?_) ?_ fun p S1 hp e1 g1 => ?_
    · obtain ⟨x, _, rfl⟩ := List.mem_map.mp hd
      exact pr_ok x
    · have := ev_few h (xs := (evs sts).map pr) fun d m => m
      omega
    bv_omega
    refine o_sorted (srt_set e1) (ev_sort h fun d m => m) fun ys r S2 h3 h4 hr r2 g2 => ?_
    obtain ⟨M, rfl, hM⟩ := ev_list h (xs := (evs sts).map pr) (fun d => .rfl) h3 h4
    refine q r M S2 hM ?_ r2 ((g.trans g1).trans g2)
    cases z : St r with
    | none => rfl
    | some o => rw [g1 _ _ (g _ _ z)] at hr; cases hr
end
set_option Elab.async false
set_option linter.all false
set_option maxRecDepth 100000
set_option maxHeartbeats 1000000
inductive Th where
  | beg | did (n m : Nat) (e : Pr) | com (n : Nat) | abo (n : Nat)
def dTh : Th → D
  | .beg => .tup [.str "begin"]
  | .did n m e => .tup [.str "did", .int n, .int m, .str e.1, .str e.2]
  | .com n => .tup [.str "commit", .int n]
  | .abo n => .tup [.str "abort", .int n]
inductive Mk where
  | op | co | ab
  deriving DecidableEq
structure Lg where
  marks : List Mk
  rows : List (List (Nat × Pr))
  befo : List (List Nat)
def cos (marks : List Mk) : List Nat := (List.range marks.length).filter fun i => decide (marks[i]? = some .co)
def stepT (g : Lg) : Th → Lg
  | .beg => ⟨g.marks ++ [.op], g.rows ++ [[]], g.befo ++ [cos g.marks]⟩
  | .did n m e => ⟨g.marks, g.rows.modify n (· ++ [(m, e)]), g.befo⟩
  | .com n => ⟨g.marks.set n .co, g.rows, g.befo⟩
  | .abo n => ⟨g.marks.set n .ab, g.rows, g.befo⟩
def runT (ts : List Th) : Lg := ts.foldl stepT ⟨[], [], []⟩
theorem runT_snoc (ts : List Th) (t : Th) : runT (ts ++ [t]) = stepT (runT ts) t := by
  unfold runT
  rw [List.foldl_append]
  rfl
def ThOk (ms : List (List St1)) (g : Lg) : Th → Prop
  | .beg => True
  | .did n m e => g.marks[n]? = some .op ∧ ∃ sts, ms[m]? = some sts ∧ e ∈ evs sts
  | .com n => g.marks[n]? = some .op
  | .abo n => g.marks[n]? = some .op
def HOk (ms : List (List St1)) (ts : List Th) : Prop := ∀ i t, ts[i]? = some t → ThOk ms (runT (ts.take i)) t
theorem HOk.snoc {ms : List (List St1)} {ts : List Th} {t : Th} (h : HOk ms ts) (g : ThOk ms (runT ts) t) : HOk ms (ts ++ [t]) := fun i u e => by
  by_cases lt : i < ts.length
  · rw [List.getElem?_append_left lt] at e
    rw [List.take_append_of_le_length (by omega)]
    exact h i u e
  · rw [List.getElem?_append_right (by omega)] at e
    have z : i - ts.length = 0 := by
      cases y : i - ts.length with
      | zero => rfl
      | succ n => rw [y] at e; cases e
    rw [z] at e
    cases e
    have : i = ts.length := by omega
    subst this
    rw [List.take_append_of_le_length (Nat.le_refl _), List.take_length]
    exact g
theorem step_len {g : Lg} (h : g.rows.length = g.marks.length ∧ g.befo.length = g.marks.length) (t : Th) : (stepT g t).rows.length = (stepT g t).marks.length ∧ (stepT g t).befo.length = (stepT g t).marks.length := by
  cases t <;> simp [stepT, h.1, h.2]
theorem run_len (ts : List Th) : (runT ts).rows.length = (runT ts).marks.length ∧ (runT ts).befo.length = (runT ts).marks.length := by
  unfold runT
  have : ∀ (l : List Th) (g : Lg), (g.rows.length = g.marks.length ∧ g.befo.length = g.marks.length) → ((l.foldl stepT g).rows.length = (l.foldl stepT g).marks.length ∧ (l.foldl stepT g).befo.length = (l.foldl stepT g).marks.length) := fun l => by
    induction l with
    | nil => intro g h; exact h
    | cons t l ih => intro g h; exact ih _ (step_len h t)
  exact this ts _ ⟨rfl, rfl⟩
/-- the open ones are listed -/
structure Opn (g : Lg) (op : List Nat) : Prop where
  nd : op.Nodup
  mem : ∀ n, n ∈ op ↔ g.marks[n]? = some .op
theorem Opn.beg {g : Lg} {op : List Nat} (h : Opn g op) : Opn (stepT g .beg) (op ++ [g.marks.length]) := by
  refine ⟨List.nodup_append.mpr ⟨h.nd, by simp, fun x hx y hy e => ?_⟩, fun n => ?_⟩
  · rw [List.mem_singleton.mp hy] at e
    subst e
    have := (h.mem _).mp hx
    rw [List.getElem?_eq_none (Nat.le_refl _)] at this
    cases this
  · show _ ↔ (g.marks ++ [Mk.op])[n]? = some .op
    rw [List.mem_append, h.mem, List.mem_singleton]
    by_cases lt : n < g.marks.length
    · rw [List.getElem?_append_left lt]
      exact ⟨fun z => z.elim id fun e => absurd e (by omega), .inl⟩
    · rw [List.getElem?_append_right (by omega), List.getElem?_eq_none (l := g.marks) (by omega)]
      constructor
      · rintro (z | z)
        · cases z
        · rw [z, Nat.sub_self]; rfl
      · intro z
        refine .inr ?_
        cases y : n - g.marks.length with
        | zero => omega
        | succ m => rw [y] at z; cases z
theorem Opn.shut {g : Lg} {op : List Nat} (h : Opn g op) {n j : Nat} (hj : op[j]? = some n) {m : Mk} (hm : m ≠ .op) {g' : Lg} (e : g'.marks = g.marks.set n m) : Opn g' (op.eraseIdx j) := by
  have sub : (op.eraseIdx j).Sublist op := List.eraseIdx_sublist _ _
  refine ⟨sub.nodup h.nd, fun i => ?_⟩
  rw [e, List.mem_eraseIdx_iff_getElem?]
  constructor
  · rintro ⟨l, hl, hi⟩
    have ne : n ≠ i := fun z => hl (by
      subst z
      exact (List.getElem?_inj (List.getElem?_eq_some_iff.mp hi).1 h.nd).mp (hi.trans hj.symm))
    rw [List.getElem?_set_ne ne]
    exact (h.mem i).mp (List.mem_of_getElem? hi)
  · intro z
    have ne : n ≠ i := fun y => by
      subst y
      have lt : n < g.marks.length := by
        have := (h.mem n).mp (List.mem_of_getElem? hj)
        exact (List.getElem?_eq_some_iff.mp this).1
      rw [List.getElem?_set_self lt] at z
      exact hm (Option.some.inj z)
    rw [List.getElem?_set_ne ne] at z
    obtain ⟨l, hl⟩ := List.getElem?_of_mem ((h.mem i).mpr z)
    exact ⟨l, fun y => ne (by rw [y, hj] at hl; exact Option.some.inj hl), hl⟩
theorem Opn.same {g g' : Lg} {op : List Nat} (h : Opn g op) (e : g'.marks = g.marks) : Opn g' op := ⟨h.nd, fun n => by rw [e]; exact h.mem n⟩
def nD (ns : List Nat) : List D := (ns.map fun (n : Nat) => (n : Int)).map D.int
section
variable {k : Nat} {a b r : Addr} {St : Sto} {Q : WD} {Ex : WX} {ms : List (List St1)}
theorem did (hm : ∀ sts ∈ ms, VK sts) (l : 0 < ms.length ∧ ms.length ≤ 4) (hr : St r = some (.lst (ms.map dStates))) (ra : r ≠ a ∧ r ≠ b) (h : FeedAt St a b)
    (q0 : ∀ S', FeedAt S' a b → Fr a b St S' → Q .non S') (q : ∀ m e sts S', ms[m]? = some sts → e ∈ evs sts → FeedAt S' a b → Fr a b St S' → Q (.tup [.int (m : Nat), .str e.1, .str e.2]) S') : phi T (k + 3) 37 [.ref a, .ref r] St Q Ex := by
  refine phi_at (fn := f37) rfl rfl (show 2 ≤ 4 by decide) ?_
  show wSs T _ b37 _ [some (.ref a), some (.ref r), none, none] _
  unfold b37
  bv_omega
  refine o_len (n := ms.length) (.inr (.inl ⟨_, seq_lst hr, by rw [List.length_map]⟩)) ?_
  bv_omega
  refine o_call rfl rfl (digit h (by omega) fun x S1 x1 x2 d1 f1 => ?_)
  bv_omega
  obtain ⟨m, rfl⟩ := Int.eq_ofNat_of_zero_le x1
  have lt : m < ms.length := by omega
  have r1 := f1 r _ ra.1 ra.2 hr
  obtain ⟨sts, hst⟩ : ∃ sts, ms[m]? = some sts := ⟨_, List.getElem?_eq_getElem lt⟩
  refine o_idxr (seq_lst r1) (d := dStates sts) (by rw [atI_nat, List.getElem?_map, hst]; rfl) ?_
  bv_omega
  have vk := hm sts (List.mem_of_getElem? hst)
  refine o_call rfl rfl (events vk fun p M S2 hM hp e2 g2 => ?_)
  have np := d1.ne hp
  have d2 := d1.ge g2
  bv_omega
  refine o_lst ln0 fun p0 S3 hp0 e3 g3 => ?_
  bv_omega
  have md : isDs 1 (M.map pr) = true := prs_d hM.menu.w
  refine o_eq (eq_l 1 (seq_lst (g3 _ _ e2)) (seq_lst e3) md rfl (by decide)) ?_
  bv_omega
  have f3 := f1.trans (.of_ge (g2.trans g3))
  refine t_cond (fun _ => ?_) fun ne => ?_
  · bv_omega
    exact q0 _ (d2.ge g3) f3
  · bv_omega
    have pos : 0 < (M.map pr).length := by
      cases z : M with
      | nil => exact absurd (by rw [z]; rfl) ne
      | cons x l => simp
    refine o_call rfl rfl (pick_l (d2.ge g3) (g3 _ _ e2) np.1 np.2 ⟨pos, by have := hM.menu.few; rw [List.length_map]; omega⟩ fun d S4 hd d4 f4 => ?_)
    obtain ⟨e, he, rfl⟩ := List.mem_map.mp hd
    bv_omega
    unfold pr
    refine o_addt (by rw [sizeLine_eq]; exact (by decide : 1 + 2 ≤ 16777216)) ?_
    bv_omega
    exact q m e sts S4 hst ((hM.mem e).mp he) d4 (f3.trans f4)
theorem system (h : FeedAt St a b) (q : ∀ (p : Addr) (ms : List (List St1)) S', (∀ sts ∈ ms, VK sts) → 0 < ms.length ∧ ms.length ≤ 4 → St p = none → S' p = some (.lst (ms.map dStates)) → FeedAt S' a b → Fr a b St S' → Q (.ref p) S') : phi T (k + 4) 35 [.ref a] St Q Ex := by
  refine phi_at (fn := f35) rfl rfl (show 1 ≤ 2 by decide) ?_
  show wSs T _ b35 _ [some (.ref a), none] _
  unfold b35
  bv_omega
  refine o_call rfl rfl (digit h (by decide) fun x S1 x1 x2 d1 f1 => ?_)
  bv_omega
  obtain ⟨n, rfl⟩ := Int.eq_ofNat_of_zero_le x1
  have em : (1 : Int) + (n : Int) = ((1 + n : Nat) : Int) := by omega
  rw [em]
  refine w_rng (by omega) ?_
  refine loop_list ((List.range (1 + n)).map fun (i : Nat) => D.int (0 + (i : Int))) (fun i acc S' => ∃ ms : List (List St1), acc = ms.map (fun s => [dStates s]) ∧ ms.length = i ∧ (∀ sts ∈ ms, VK sts) ∧ FeedAt S' a b ∧ Fr a b St S') ⟨[], rfl, rfl, fun s m => (nomatch m), d1, f1⟩ (fun i acc S' _ _ => src_range) (fun i d acc S' Q' hd I hq => ?_) fun acc S' I => ?_
  · obtain ⟨ms, rfl, hl, hv, dd, ff⟩ := I
    have lt := (List.getElem?_eq_some_iff.mp hd).1
    rw [List.length_map, List.length_range] at lt
    bv_omega
    refine o_call rfl rfl (states dd fun sts S2 vk d2 f2 => ?_)
    bv_omega
    refine ⟨by show (ms.map _).length < sizeLine; rw [List.length_map, sizeLine_eq]; omega, hq _ _ ⟨ms ++ [sts], by rw [List.map_append]; rfl, by rw [List.length_append, hl]; rfl, fun s m => ?_, d2, ff.trans f2⟩⟩
    rcases List.mem_append.mp m with m | m
    · exact hv s m
    · rw [List.mem_singleton.mp m]; exact vk
  · obtain ⟨ms, rfl, hl, hv, dd, ff⟩ := I
    rw [List.length_map, List.length_range] at hl
    refine fin_new fun p S2 hp g2 e2 => ?_
    have np := dd.ne hp
    refine q p ms S2 hv (by omega) ?_ ?_ (dd.ge g2) (ff.trans (.of_ge g2))
    · cases z : St p with
      | none => rfl
      | some o => rw [ff p o np.1 np.2 z] at hp; cases hp
    · rw [e2]
      refine congrArg (fun l => some (O.lst l)) ?_
      rw [List.map_map]
      rfl
end
local macro_rules | `(tactic| bv_omega) => `(tactic| (repeat (first | with_reducible refine r_cst ?_ | with_reducible refine r_var (by with_unfolding_all rfl) ?_ | with_reducible refine r_op ?_ | with_reducible refine r_cons ?_ | with_reducible refine r_nil ?_ | with_reducible refine t_bl ?_ | with_reducible refine t_tt ?_ | with_reducible refine t_ff ?_ | with_reducible refine t_nt ?_ | with_reducible refine t_nf ?_ | with_reducible refine o_add ?_ | with_reducible refine o_sub ?_ | with_reducible refine o_lt ?_ | with_reducible refine o_le ?_ | with_reducible refine o_gt ?_ | with_reducible refine o_ge ?_ | with_reducible refine o_neg ?_ | with_reducible refine o_idxt at0 ?_ | with_reducible refine o_idxt at1 ?_ | with_reducible refine o_idxt at2 ?_ | with_reducible refine o_tup ln0 ?_ | with_reducible refine o_tup ln1 ?_ | with_reducible refine o_tup ln2 ?_ | with_reducible refine o_tup ln3 ?_ | with_reducible refine s_cons ?_ | with_reducible refine s_nil ?_ | with_reducible refine s_asg ?_ | with_reducible refine s_ex ?_ | with_reducible refine s_ret ?_ | with_reducible refine s_ite ?_ | with_reducible refine g_nm ?_ | with_reducible refine g_cons ?_ | with_reducible refine g_nil ?_ | with_reducible refine g_tup (by with_unfolding_all rfl) (by with_unfolding_all rfl) ?_ | with_reducible refine g_sub ?_ | with_reducible refine g_fld ?_ | with_reducible refine r_and ?_ | with_reducible refine r_or ?_ | with_reducible refine r_not ?_ | with_reducible refine r_ife ?_ | with_reducible refine r_chn ?_ | with_reducible refine r_sl ?_ | with_reducible refine r_pt0 ?_ | with_reducible refine r_pt1 ?_ | with_reducible refine r_fstr ?_ | with_reducible refine r_j0 ?_ | with_reducible refine r_j1 ?_ | with_reducible refine r_mth ?_ | with_reducible refine r_exint ?_ | with_reducible refine r_exbl ?_ | with_reducible refine o_intb ?_ | with_reducible refine o_min ?_ | with_reducible refine s_for ?_ | with_reducible refine r_comp ?_ | with_reducible refine r_comp2 ?_ | with_reducible refine i_nil ?_ | with_reducible refine i_one ?_ | with_reducible refine w_valt ?_ | with_reducible refine w_vals ?_ | with_reducible refine w_enut ?_ | with_reducible refine w_zipt ?_)))
local macro_rules | `(tactic| injections) => `(tactic| (repeat (first | with_reducible refine r_cst ?_ | with_reducible refine r_var (by with_unfolding_all rfl) ?_ | with_reducible refine r_op ?_ | with_reducible refine r_cons ?_ | with_reducible refine r_nil ?_ | with_reducible refine t_bl ?_ | with_reducible refine t_tt ?_ | with_reducible refine t_ff ?_ | with_reducible refine t_nt ?_ | with_reducible refine t_nf ?_ | with_reducible refine o_add ?_ | with_reducible refine o_sub ?_ | with_reducible refine o_lt ?_ | with_reducible refine o_le ?_ | with_reducible refine o_gt ?_ | with_reducible refine o_ge ?_ | with_reducible refine o_neg ?_ | with_reducible refine o_idxt at0 ?_ | with_reducible refine o_idxt at1 ?_ | with_reducible refine o_idxt at2 ?_ | with_reducible refine o_tup ln0 ?_ | with_reducible refine o_tup ln1 ?_ | with_reducible refine o_tup ln2 ?_ | with_reducible refine o_tup ln3 ?_ | with_reducible refine s_cons ?_ | with_reducible refine s_nil ?_ | with_reducible refine s_asg ?_ | with_reducible refine s_ex ?_ | with_reducible refine s_ret ?_ | with_reducible refine g_nm ?_ | with_reducible refine g_cons ?_ | with_reducible refine g_nil ?_ | with_reducible refine g_tup (by with_unfolding_all rfl) (by with_unfolding_all rfl) ?_ | with_reducible refine g_sub ?_ | with_reducible refine g_fld ?_ | with_reducible refine r_and ?_ | with_reducible refine r_or ?_ | with_reducible refine r_not ?_ | with_reducible refine r_chn ?_ | with_reducible refine r_sl ?_ | with_reducible refine r_pt0 ?_ | with_reducible refine r_pt1 ?_ | with_reducible refine r_fstr ?_ | with_reducible refine r_j0 ?_ | with_reducible refine r_j1 ?_ | with_reducible refine r_mth ?_ | with_reducible refine r_exint ?_ | with_reducible refine r_exbl ?_ | with_reducible refine o_intb ?_ | with_reducible refine o_min ?_ | with_reducible refine s_for ?_ | with_reducible refine r_comp ?_ | with_reducible refine r_comp2 ?_ | with_reducible refine i_nil ?_ | with_reducible refine i_one ?_ | with_reducible refine w_valt ?_ | with_reducible refine w_vals ?_ | with_reducible refine w_enut ?_ | with_reducible refine w_zipt ?_)))
set_option Elab.async false
set_option linter.all false
set_option maxRecDepth 100000
set_option maxHeartbeats 1000000
/-! ### histories -/
structure Hist (ms : List (List St1)) (ts : List Th) (op : List Nat) : Prop where
  ok : HOk ms ts
  opn : Opn (runT ts) op
  few : (runT ts).marks.length ≤ 10
  short : ∀ r ∈ (runT ts).rows, r.length ≤ 12
def counts (g : Lg) : List Nat := g.rows.map List.length
theorem Hist.nil {ms : List (List St1)} : Hist ms [] [] := ⟨fun i t e => (nomatch e), ⟨.nil, fun n => ⟨fun z => (nomatch z), fun z => (nomatch z)⟩⟩, Nat.zero_le _, fun r m => (nomatch m)⟩
section
variable {ms : List (List St1)} {ts : List Th} {op : List Nat}
theorem Hist.beg (h : Hist ms ts op) (l : (runT ts).marks.length < 10) : Hist ms (ts ++ [.beg]) (op ++ [(runT ts).marks.length]) ∧ counts (runT (ts ++ [.beg])) = counts (runT ts) ++ [0] := by
  rw [runT_snoc]
  refine ⟨⟨h.ok.snoc trivial, by rw [runT_snoc]; exact h.opn.beg, by rw [runT_snoc]; simp [stepT]; omega, fun r m => ?_⟩, by simp [stepT, counts]⟩
  rw [runT_snoc] at m
  rcases List.mem_append.mp m with m | m
  · exact h.short r m
  · rw [List.mem_singleton.mp m]; exact Nat.zero_le _
theorem mem_modify {α : Type} {l : List α} {n : Nat} {f : α → α} {x : α} (h : x ∈ l.modify n f) : x ∈ l ∨ ∃ y, l[n]? = some y ∧ x = f y := by
  obtain ⟨i, hi⟩ := List.getElem?_of_mem h
  rw [List.getElem?_modify] at hi
  obtain ⟨y, hy, e⟩ := Option.map_eq_some_iff.mp hi
  by_cases z : n = i
  · subst z
    rw [if_pos rfl] at e
    exact .inr ⟨y, hy, e.symm⟩
  · rw [if_neg z] at e
    exact .inl (e ▸ List.mem_of_getElem? hy)
theorem counts_modify {l : List (List (Nat × Pr))} {n : Nat} {r : List (Nat × Pr)} {x : Nat × Pr} (h : l[n]? = some r) : (l.modify n (· ++ [x])).map List.length = (l.map List.length).set n (r.length + 1) := by
  refine List.ext_getElem? fun i => ?_
  rw [List.getElem?_map, List.getElem?_modify]
  by_cases z : n = i
  · subst z
    have lt := (List.getElem?_eq_some_iff.mp h).1
    rw [List.getElem?_set_self (by rw [List.length_map]; exact lt), h]
    simp
  · rw [List.getElem?_set_ne z, List.getElem?_map]
    cases l[i]? <;> simp [z]
theorem Hist.did (h : Hist ms ts op) {n m : Nat} {e : Pr} {sts : List St1} {r : List (Nat × Pr)} (hn : n ∈ op) (hm : ms[m]? = some sts) (he : e ∈ evs sts) (hr : (runT ts).rows[n]? = some r) (l : r.length < 12) :
    Hist ms (ts ++ [.did n m e]) op ∧ counts (runT (ts ++ [.did n m e])) = (counts (runT ts)).set n (r.length + 1) := by
  rw [runT_snoc]
  refine ⟨⟨h.ok.snoc ⟨(h.opn.mem n).mp hn, sts, hm, he⟩, by rw [runT_snoc]; exact h.opn.same rfl, by rw [runT_snoc]; exact h.few, fun r' mm => ?_⟩, counts_modify hr⟩
  rw [runT_snoc] at mm
  rcases mem_modify mm with mm | ⟨y, hy, rfl⟩
  · exact h.short r' mm
  · rw [hr] at hy
    cases hy
    simp
    omega
theorem Hist.com (h : Hist ms ts op) {n j : Nat} (hj : op[j]? = some n) : Hist ms (ts ++ [.com n]) (op.eraseIdx j) ∧ counts (runT (ts ++ [.com n])) = counts (runT ts) := by
  rw [runT_snoc]
  refine ⟨⟨h.ok.snoc ((h.opn.mem n).mp (List.mem_of_getElem? hj)), by rw [runT_snoc]; exact h.opn.shut hj (m := .co) (by decide) rfl, by rw [runT_snoc]; simp [stepT]; exact h.few, fun r' mm => ?_⟩, rfl⟩
  rw [runT_snoc] at mm
  exact h.short r' mm
theorem Hist.abo (h : Hist ms ts op) {n j : Nat} (hj : op[j]? = some n) : Hist ms (ts ++ [.abo n]) (op.eraseIdx j) ∧ counts (runT (ts ++ [.abo n])) = counts (runT ts) := by
  rw [runT_snoc]
  refine ⟨⟨h.ok.snoc ((h.opn.mem n).mp (List.mem_of_getElem? hj)), by rw [runT_snoc]; exact h.opn.shut hj (m := .ab) (by decide) rfl, by rw [runT_snoc]; simp [stepT]; exact h.few, fun r' mm => ?_⟩, rfl⟩
  rw [runT_snoc] at mm
  exact h.short r' mm
theorem Hist.op_few (h : Hist ms ts op) : op.length ≤ 10 := by
  have := nodup_len op (List.range (runT ts).marks.length) h.opn.nd fun x m => by
    have := (h.opn.mem x).mp m
    exact List.mem_range.mpr (List.getElem?_eq_some_iff.mp this).1
  rw [List.length_range] at this
  exact Nat.le_trans this h.few
theorem Hist.cnt (h : Hist ms ts op) : (counts (runT ts)).length = (runT ts).marks.length := by
  unfold counts
  rw [List.length_map, (run_len ts).1]
theorem Hist.row (h : Hist ms ts op) {n : Nat} (hn : n ∈ op) : ∃ r, (runT ts).rows[n]? = some r := by
  have lt := (List.getElem?_eq_some_iff.mp ((h.opn.mem n).mp hn)).1
  rw [← (run_len ts).1] at lt
  exact ⟨_, List.getElem?_eq_getElem lt⟩
end
theorem map_erase {α β : Type} (f : α → β) : ∀ (l : List α) (j : Nat), (l.eraseIdx j).map f = (l.map f).eraseIdx j
  | [], _ => rfl
  | _ :: _, 0 => rfl
  | x :: l, j + 1 => by
    show f x :: (l.eraseIdx j).map f = f x :: (l.map f).eraseIdx j
    rw [map_erase f l j]
theorem nD_app (xs ys : List Nat) : nD (xs ++ ys) = nD xs ++ nD ys := by simp [nD]
theorem nD_len (xs : List Nat) : (nD xs).length = xs.length := by simp [nD]
theorem nD_get {xs : List Nat} {i n : Nat} (h : xs[i]? = some n) : (nD xs)[i]? = some (.int n) := by simp [nD, h]
theorem nD_set (xs : List Nat) (i n : Nat) : (nD xs).set i (.int n) = nD (xs.set i n) := by simp [nD, List.map_set]
theorem nD_d (xs : List Nat) : isDs 0 (nD xs) = true := ints_d
section
variable {k : Nat} {a b r : Addr} {St : Sto} {Q : WD} {Ex : WX} {ms : List (List St1)}
theorem history {many : Nat} (hmany : many ≤ 1000) (hm : ∀ sts ∈ ms, VK sts) (l : 0 < ms.length ∧ ms.length ≤ 4) (hr : St r = some (.lst (ms.map dStates))) (ra : r ≠ a ∧ r ≠ b) (h : FeedAt St a b)
    (q : ∀ ts op S', Hist ms ts op → ts.length ≤ 1000 → FeedAt S' a b → Fr a b St S' → Q (.tup (ts.map dTh)) S') : phi T (k + 4) 38 [.ref a, .ref r, .int many] St Q Ex := by
  refine phi_at (fn := f38) rfl rfl (show 3 ≤ 10 by decide) ?_
  show wSs T _ b38 _ [some (.ref a), some (.ref r), some (.int many), none, none, none, none, none, none, none] _
  unfold b38
  bv_omega
  refine o_lst ln0 fun th S1 hth e1 g1 => ?_
  bv_omega
  refine o_lst ln0 fun po S2 hpo e2 g2 => ?_
  bv_omega
  refine o_lst ln0 fun co S3 hco e3 g3 => ?_
  bv_omega
  have nth := h.ne hth
  have npo := (h.ge g1).ne hpo
  have nco := (h.ge (g1.trans g2)).ne hco
  have d3 := h.ge ((g1.trans g2).trans g3)
  have tp : th ≠ po := fun e => by rw [← e, e1] at hpo; cases hpo
  have tc : th ≠ co := fun e => by rw [← e, g2 _ _ e1] at hco; cases hco
  have pc : po ≠ co := fun e => by rw [← e, e2] at hco; cases hco
  have hpoS : St po = none := by
    cases z : St po with
    | none => rfl
    | some o => rw [g1 _ _ z] at hpo; cases hpo
  have hcoS : St co = none := by
    cases z : St co with
    | none => rfl
    | some o => rw [g2 _ _ (g1 _ _ z)] at hco; cases hco
  refine o_call rfl rfl (digit d3 (by omega) fun x S4 x1 x2 d4 f4 => ?_)
  obtain ⟨tn, rfl⟩ := Int.eq_ofNat_of_zero_le x1
  bv_omega
  refine w_rng (by omega) ?_
  have F4 : Fr a b St S4 := (Fr.of_ge ((g1.trans g2).trans g3)).trans f4
  refine loop_list ((List.range tn).map fun (i : Nat) => D.int (0 + (i : Int))) (fun i ρ S' => ∃ ts op x6 x7 x8 x9, ρ = [some (.ref a), some (.ref r), some (.int many), some (.ref th), some (.ref po), some (.ref co), x6, x7, x8, x9] ∧ Hist ms ts op ∧ ts.length ≤ i ∧ S' th = some (.lst (ts.map dTh)) ∧ S' po = some (.lst (nD op)) ∧ S' co = some (.lst (nD (counts (runT ts)))) ∧ FeedAt S' a b ∧ Fr a b St S')
    ⟨[], [], _, _, _, _, rfl, .nil, Nat.le_refl _, f4 th _ nth.1 nth.2 (g3 _ _ (g2 _ _ e1)), f4 po _ npo.1 npo.2 (g3 _ _ e2), f4 co _ nco.1 nco.2 e3, d4, F4⟩ (fun i acc S' _ _ => src_range) (fun i d ρ S' Q' hd I hq => ?_) fun ρ S' I => ?_
  · obtain ⟨ts, op, x6, x7, x8, x9, rfl, hi, tl, et, ep, ec, dd, ff⟩ := I
    have lt : i < tn := by
      have := (List.getElem?_eq_some_iff.mp hd).1
      rwa [List.length_map, List.length_range] at this
    have opf := hi.op_few
    have cnl := hi.cnt
    have mf := hi.few
    bv_omega
    refine o_call rfl rfl (digit dd (by decide) fun w S5 w1 w2 d5 f5 => ?_)
    injections
    have F5 := ff.trans f5
    have et5 := f5 th _ nth.1 nth.2 et
    have ep5 := f5 po _ npo.1 npo.2 ep
    have ec5 := f5 co _ nco.1 nco.2 ec
    refine ite_cond (fun c S6 => Ge S5 S6 ∧ (c = true → (runT ts).marks.length < 10)) (phi_mono _ _) ?_ (fun S6 ⟨g6, c6⟩ => ?_) (fun S6 ⟨g6, _⟩ => ?_)
    · injections
      refine o_len (n := (counts (runT ts)).length) (.inr (.inl ⟨_, seq_lst ec5, by rw [nD_len]⟩)) ?_
      injections
      refine t_cond (fun c1 => ?_) fun c1 => ?_
      · injections
        refine o_lst ln0 fun p0 S6 hp0 e6 g6 => ?_
        injections
        refine o_eq (eq_l 0 (seq_lst (g6 _ _ ep5)) (seq_lst e6) (nD_d _) rfl (by decide)) ?_
        injections
        refine t_cond (fun _ => ⟨_, rfl, g6, fun _ => by omega⟩) fun _ => ?_
        injections
        refine o_eqi ?_
        exact ⟨_, rfl, g6, fun _ => by omega⟩
      · exact ⟨_, rfl, .refl, fun z => absurd (of_decide_eq_true z) c1⟩
    · have et6 := g6 _ _ et5
      have ep6 := g6 _ _ ep5
      have ec6 := g6 _ _ ec5
      have c6 := c6 rfl
      bv_omega
      refine m_bt (recv_lst et6 rfl) ?_
      bv_omega
      refine mm_append et6 (by rw [List.length_map, sizeLine_eq]; omega) fun S7 t7 q7 => ?_
      bv_omega
      have p7 : S7 po = _ := (q7 po tp.symm).trans ep6
      have k7 : S7 co = _ := (q7 co tc.symm).trans ec6
      refine m_bt (recv_lst p7 rfl) ?_
      bv_omega
      refine o_len (n := (counts (runT ts)).length) (.inr (.inl ⟨_, seq_lst k7, by rw [nD_len]⟩)) ?_
      bv_omega
      refine mm_append p7 (by rw [nD_len, sizeLine_eq]; omega) fun S8 p8 q8 => ?_
      bv_omega
      have k8 : S8 co = _ := (q8 co pc.symm).trans k7
      have t8 : S8 th = _ := (q8 th tp).trans t7
      refine m_bt (recv_lst k8 rfl) ?_
      bv_omega
      refine mm_append k8 (by rw [nD_len, sizeLine_eq]; omega) fun S9 k9 q9 => ?_
      bv_omega
      obtain ⟨hb, hc⟩ := hi.beg c6
      refine hq _ _ ⟨ts ++ [.beg], op ++ [(runT ts).marks.length], _, _, _, _, rfl, hb, by rw [List.length_append]; simp; omega, ?_, ?_, ?_, ?_, ?_⟩
      · rw [q9 th tc, t8, List.map_append]; rfl
      · rw [q9 po pc, p8, nD_app, hi.cnt]; rfl
      · rw [k9, hc, nD_app]; rfl
      · exact (((d5.ge g6).mut nth.1 nth.2 q7).mut npo.1 npo.2 q8).mut nco.1 nco.2 q9
      · exact (((F5.trans (.of_ge g6)).mut hth q7).mut hpoS q8).mut hcoS q9
    · have et6 := g6 _ _ et5
      have ep6 := g6 _ _ ep5
      have ec6 := g6 _ _ ec5
      have d6 := d5.ge g6
      have F6 := F5.trans (.of_ge g6)
      refine s_cons (ite_cond (fun c S7 => Ge S6 S7 ∧ (c = true → op ≠ [])) (phi_mono _ _) ?_ (fun S7 ⟨g7, c7⟩ => ?_) (fun S7 ⟨g7, _⟩ => ?_))
      · injections
        refine o_lst ln0 fun p0 S7 hp0 e7 g7 => ?_
        injections
        refine o_ne (eq_l 0 (seq_lst (g7 _ _ ep6)) (seq_lst e7) (nD_d _) rfl (by decide)) ?_
        injections
        refine t_ncond (fun c => ⟨_, rfl, g7, fun z => ?_⟩) fun c => ?_
        · rw [decide_eq_true c] at z; cases z
        · injections
          exact ⟨g7, fun _ z => c (by rw [z]; rfl)⟩
      · have c7 := c7 rfl
        have r6 := F6 r _ ra.1 ra.2 hr
        bv_omega
        refine o_call rfl rfl (did hm l (g7 _ _ r6) ra (d6.ge g7) (fun S8 d8 f8 => ?_) fun m e sts S8 hst he d8 f8 => ?_)
        · bv_omega
          have p8 := f8 po _ npo.1 npo.2 (g7 _ _ ep6)
          have pos : 0 < op.length := List.length_pos_iff.mpr c7
          refine o_call rfl rfl (pick_l d8 p8 npo.1 npo.2 ⟨by rw [nD_len]; exact pos, by rw [nD_len]; omega⟩ fun d S9 hd9 d9 f9 => ?_)
          have F9 := (F6.trans (.of_ge g7)).trans (f8.trans f9)
          bv_omega
          refine o_isn_non (c := false) rfl ?_
          bv_omega
          refine hq _ _ ⟨ts, op, _, _, _, _, rfl, hi, by omega, ?_, ?_, ?_, d9, F9⟩
          · exact f9 th _ nth.1 nth.2 (f8 th _ nth.1 nth.2 (g7 _ _ et6))
          · exact f9 po _ npo.1 npo.2 p8
          · exact f9 co _ nco.1 nco.2 (f8 co _ nco.1 nco.2 (g7 _ _ ec6))
        · bv_omega
          have p8 := f8 po _ npo.1 npo.2 (g7 _ _ ep6)
          have pos : 0 < op.length := List.length_pos_iff.mpr c7
          refine o_call rfl rfl (pick_l d8 p8 npo.1 npo.2 ⟨by rw [nD_len]; exact pos, by rw [nD_len]; omega⟩ fun d S9 hd9 d9 f9 => ?_)
          have F9 := (F6.trans (.of_ge g7)).trans (f8.trans f9)
          have t9 := f9 th _ nth.1 nth.2 (f8 th _ nth.1 nth.2 (g7 _ _ et6))
          have p9 := f9 po _ npo.1 npo.2 p8
          have k9 := f9 co _ nco.1 nco.2 (f8 co _ nco.1 nco.2 (g7 _ _ ec6))
          obtain ⟨n, hn, rfl⟩ : ∃ n ∈ op, d = .int (n : Nat) := by
            unfold nD at hd9
            rw [List.map_map] at hd9
            obtain ⟨n, hn, e⟩ := List.mem_map.mp hd9
            exact ⟨n, hn, e.symm⟩
          obtain ⟨row, hrow⟩ := hi.row hn
          have cn : (counts (runT ts))[n]? = some row.length := by unfold counts; rw [List.getElem?_map, hrow]; rfl
          bv_omega
          refine o_isn_non (c := true) rfl ?_
          bv_omega
          refine o_idxr (seq_lst k9) (by rw [atI_nat]; exact nD_get cn) ?_
          bv_omega
          refine t_cond (fun c => ?_) fun c => ?_
          · bv_omega
            refine m_bt (recv_lst t9 rfl) ?_
            bv_omega
            refine o_addt (by rw [sizeLine_eq]; exact (by decide : 2 + 3 ≤ 16777216)) ?_
            bv_omega
            refine mm_append t9 (by rw [List.length_map, sizeLine_eq]; omega) fun SA tA qA => ?_
            bv_omega
            have kA : SA co = _ := (qA co tc.symm).trans k9
            have pA : SA po = _ := (qA po tp.symm).trans p9
            refine o_idxr (seq_lst kA) (by rw [atI_nat]; exact nD_get cn) ?_
            bv_omega
            refine g_subl kA (by rw [nD_len]; exact ixN_nat (List.getElem?_eq_some_iff.mp cn).1) fun SB kB qB => ?_
            bv_omega
            obtain ⟨hdd, hc⟩ := hi.did hn hst he hrow (by omega)
            refine hq _ _ ⟨ts ++ [.did n m e], op, _, _, _, _, rfl, hdd, by rw [List.length_append]; simp; omega, ?_, ?_, ?_, ?_, ?_⟩
            · rw [qB th tc, tA, List.map_append]; rfl
            · rw [qB po pc]; exact pA
            · rw [kB, hc, ← nD_set]; rfl
            · exact (d9.mut nth.1 nth.2 qA).mut nco.1 nco.2 qB
            · exact (F9.mut hth qA).mut hcoS qB
          · bv_omega
            exact hq _ _ ⟨ts, op, _, _, _, _, rfl, hi, by omega, t9, p9, k9, d9, F9⟩
      · refine s_cons (ite_cond (fun c S8 => Ge S7 S8 ∧ (c = true → op ≠ [])) (phi_mono _ _) ?_ (fun S8 ⟨g8, c8⟩ => ?_) (fun S8 ⟨g8, _⟩ => ?_))
        · injections
          refine o_lst ln0 fun p0 S8 hp0 e8 g8 => ?_
          injections
          refine o_ne (eq_l 0 (seq_lst (g8 _ _ (g7 _ _ ep6))) (seq_lst e8) (nD_d _) rfl (by decide)) ?_
          refine ⟨_, rfl, g8, fun z y => ?_⟩
          rw [y] at z
          cases z
        · have c8 := c8 rfl
          have gg := g7.trans g8
          have t8 := gg _ _ et6
          have p8 := gg _ _ ep6
          have k8 := gg _ _ ec6
          have pos : 0 < op.length := List.length_pos_iff.mpr c8
          bv_omega
          refine o_call rfl rfl (pick_l (d6.ge gg) p8 npo.1 npo.2 ⟨by rw [nD_len]; exact pos, by rw [nD_len]; omega⟩ fun d S9 hd9 d9 f9 => ?_)
          have F9 := (F6.trans (.of_ge gg)).trans f9
          have t9 := f9 th _ nth.1 nth.2 t8
          have p9 := f9 po _ npo.1 npo.2 p8
          have k9 := f9 co _ nco.1 nco.2 k8
          obtain ⟨j, n, hj, rfl⟩ : ∃ j n, op[j]? = some n ∧ d = .int (n : Nat) := by
            unfold nD at hd9
            rw [List.map_map] at hd9
            obtain ⟨n, hn, e⟩ := List.mem_map.mp hd9
            obtain ⟨j, hj⟩ := List.getElem?_of_mem hn
            exact ⟨j, n, hj, e.symm⟩
          bv_omega
          refine m_bt (recv_lst p9 rfl) ?_
          bv_omega
          refine mm_remove p9 (j := j) (by rw [List.getElem?_map, hj]; rfl) (fun m lt z => ?_) fun SA pA qA => ?_
          · rw [List.getElem?_map] at z
            obtain ⟨n', hn', e⟩ := Option.map_eq_some_iff.mp z
            have e : n' = n := by omega
            subst e
            have := (List.getElem?_inj (List.getElem?_eq_some_iff.mp hn').1 hi.opn.nd).mp (hn'.trans hj.symm)
            omega
          have pA : SA po = some (.lst (nD (op.eraseIdx j))) := by
            rw [pA]
            unfold nD
            simp only [map_erase]
          have tA : SA th = _ := (qA th tp).trans t9
          have kA : SA co = _ := (qA co pc.symm).trans k9
          have dA := d9.mut npo.1 npo.2 qA
          have FA := F9.mut hpoS qA
          bv_omega
          refine m_bt (recv_lst tA rfl) ?_
          have fin : ∀ (t : Th), Hist ms (ts ++ [t]) (op.eraseIdx j) ∧ counts (runT (ts ++ [t])) = counts (runT ts) → ∀ (x7 x8 : Option D) SB SC, FeedAt SB a b → Fr a b SA SB → SC th = some (.lst (ts.map dTh ++ [dTh t])) → (∀ c, c ≠ th → SC c = SB c) → Q' [some (.ref a), some (.ref r), some (.int many), some (.ref th), some (.ref po), some (.ref co), some d, x7, x8, some (.int n)] SC := fun t ⟨h1, h2⟩ x7 x8 SB SC dB fB tC qC => by
            refine hq _ _ ⟨ts ++ [t], op.eraseIdx j, _, _, _, _, rfl, h1, by rw [List.length_append]; simp; omega, ?_, ?_, ?_, dB.mut nth.1 nth.2 qC, (FA.trans fB).mut hth qC⟩
            · rw [tC, List.map_append]; rfl
            · rw [qC po tp.symm]; exact fB po _ npo.1 npo.2 pA
            · rw [qC co tc.symm, h2]; exact fB co _ nco.1 nco.2 kA
          injections
          refine ife_cond (fun c SB => FeedAt SB a b ∧ Fr a b SA SB) (phi_mono _ _) ?_ (fun SB ⟨dB, fB⟩ => ?_) (fun SB ⟨dB, fB⟩ => ?_)
          · injections
            refine o_eqi ?_
            injections
            refine t_cond (fun _ => ⟨_, rfl, dA, .refl⟩) fun _ => ?_
            injections
            refine o_call rfl rfl (digit dA (by decide) fun z SB z1 z2 dB fB => ?_)
            injections
            refine o_eqi ?_
            exact ⟨_, rfl, dB, fB⟩
          · bv_omega
            refine mm_append (fB th _ nth.1 nth.2 tA) (by rw [List.length_map, sizeLine_eq]; omega) fun SC tC qC => ?_
            bv_omega
            exact fin (.com n) (hi.com hj) _ _ SB SC dB fB tC qC
          · bv_omega
            refine mm_append (fB th _ nth.1 nth.2 tA) (by rw [List.length_map, sizeLine_eq]; omega) fun SC tC qC => ?_
            bv_omega
            exact fin (.abo n) (hi.abo hj) _ _ SB SC dB fB tC qC
        · bv_omega
          have gg := g7.trans g8
          exact hq _ _ ⟨ts, op, _, _, _, _, rfl, hi, by omega, gg _ _ et6, gg _ _ ep6, gg _ _ ec6, d6.ge gg, F6.trans (.of_ge gg)⟩
  · obtain ⟨ts, op, x6, x7, x8, x9, rfl, hi, tl, et, ep, ec, dd, ff⟩ := I
    rw [List.length_map, List.length_range] at tl
    refine fin_for ?_
    bv_omega
    refine o_tuple (seq_lst et) ?_
    exact q ts op _ hi (by omega) dd ff
end
set_option Elab.async false
set_option linter.all false
set_option maxRecDepth 100000
set_option maxHeartbeats 1000000
/-! ### the program's log -/
def sM : Mk → Str
  | .op => "open"
  | .co => "committed"
  | .ab => "aborted"
def dM (m : Mk) : D := .str (sM m)
theorem sM_inj {m n : Mk} : sM m = sM n ↔ m = n := by
  cases m <;> cases n <;> decide +kernel
def HouseAt (St : Sto) (hs : List Addr) (ms : List (List St1)) : Prop := hs.length = ms.length ∧ ∀ (j : Nat) (sts : List St1) (p : Addr), ms[j]? = some sts → hs[j]? = some p → ∃ cs, KindAt St p sts cs
theorem HouseAt.ge {St St' : Sto} {hs : List Addr} {ms : List (List St1)} (h : HouseAt St hs ms) (g : Ge St St') : HouseAt St' hs ms := ⟨h.1, fun j sts p h1 h2 => let ⟨cs, k⟩ := h.2 j sts p h1 h2; ⟨cs, k.ge g⟩⟩
section
variable {k : Nat} {St : Sto} {Q : WD} {Ex : WX} {ms : List (List St1)} {hs : List Addr}
theorem isInt1 {i : Int} (q : Q (.bl true) St) : phi T (k + 1) 1 [.int i] St Q Ex := by
  refine phi_at (fn := f1) rfl rfl (show 1 ≤ 1 by decide) ?_
  show wSs T _ b1 _ [some (.int i)] _
  unfold b1
  bv_omega
  refine o_isi (k := true) rfl ?_
  bv_omega
  refine o_isi (k := false) rfl ?_
  bv_omega
  exact q
theorem isIndex {i n : Nat} (h : i < n) (q : Q (.bl true) St) : phi T (k + 2) 2 [.int i, .int n] St Q Ex := by
  refine phi_at (fn := f2) rfl rfl (show 2 ≤ 2 by decide) ?_
  show wSs T _ b2 _ [some (.int i), some (.int n)] _
  unfold b2
  bv_omega
  refine o_call rfl rfl (isInt1 ?_)
  bv_omega
  refine t_cond (fun _ => ?_) fun z => absurd (show (0 : Int) ≤ i by omega) z
  bv_omega
  rw [decide_eq_true (show (i : Int) < n by omega)]
  exact q
theorem isOpen {g : Lg} {m : Addr} {n : Nat} (hm : St m = some (.lst (g.marks.map dM))) (h : g.marks[n]? = some .op) (q : Q (.bl true) St) : phi T (k + 3) 4 [.ref m, .int n] St Q Ex := by
  have lt := (List.getElem?_eq_some_iff.mp h).1
  refine phi_at (fn := f4) rfl rfl (show 2 ≤ 2 by decide) ?_
  show wSs T _ b4 _ [some (.ref m), some (.int n)] _
  unfold b4
  bv_omega
  refine o_len (n := g.marks.length) (.inr (.inl ⟨_, seq_lst hm, by rw [List.length_map]⟩)) ?_
  bv_omega
  refine o_call rfl rfl (isIndex lt ?_)
  bv_omega
  refine o_idxr (seq_lst hm) (d := dM .op) (by rw [atI_nat, List.getElem?_map, h]; rfl) ?_
  unfold dM
  bv_omega
  refine o_eqs ?_
  rw [decide_eq_true (show sM .op = Str.ofString "open" from rfl)]
  exact q
theorem isEventOf {m : Nat} {e : Pr} {sts : List St1} (hv : ∀ sts ∈ ms, VK sts) (hh : HouseAt St hs ms) (hm : ms[m]? = some sts) (he : e ∈ evs sts) (q : ∀ S', Ge St S' → Q (.bl true) S') : phi T (k + 3) 3 [.tup (hs.map .ref), .int m, .str e.1, .str e.2] St Q Ex := by
  have lt := (List.getElem?_eq_some_iff.mp hm).1
  refine phi_at (fn := f3) rfl rfl (show 4 ≤ 4 by decide) ?_
  show wSs T _ b3 _ [some (.tup (hs.map .ref)), some (.int m), some (.str e.1), some (.str e.2)] _
  unfold b3
  bv_omega
  refine o_len (n := ms.length) (.inr (.inl ⟨_, rfl, by rw [List.length_map, hh.1]⟩)) ?_
  bv_omega
  refine o_call rfl rfl (isIndex lt ?_)
  bv_omega
  refine o_isi (k := true) rfl ?_
  bv_omega
  refine o_isi (k := true) rfl ?_
  bv_omega
  obtain ⟨p, hp⟩ : ∃ p, hs[m]? = some p := ⟨_, List.getElem?_eq_getElem (by rw [hh.1]; exact lt)⟩
  obtain ⟨cs, hk⟩ := hh.2 m sts p hm hp
  have vk := hv sts (List.mem_of_getElem? hm)
  refine o_idxt (d := .ref p) (by rw [atI_nat, List.getElem?_map, hp]; rfl) ?_
  bv_omega
  obtain ⟨mv, m1, _⟩ := id hk
  refine o_prop (g := 20) (by unfold methOf; simp only [m1]; rfl) ?_
  rw [call_at (fn := f20) (ps := [.ref p]) rfl rfl]
  refine kindEvents vk hk fun M S' hM g => ?_
  bv_omega
  refine o_inseq rfl (ins_d (m := 1) (prs_d hM.menu.w) (pr_d (hM.menu.w e ((hM.mem e).mpr he))) (by decide)) ?_
  have : pr e ∈ M.map pr := List.mem_map_of_mem ((hM.mem e).mpr he)
  show Q (.bl (decide (pr e ∈ M.map pr))) S'
  rw [decide_eq_true this]
  exact q S' g
theorem cut_lo (xs : List D) (n : Nat) (h : n ≤ xs.length) : cutD xs (some (n : Int)) none = xs.drop n := by
  unfold cutD
  have h1 : HT.sIx xs.length 0 (some (n : Int)) = n := by
    unfold HT.sIx
    simp
    try split
    all_goals omega
  have h2 : HT.sIx xs.length xs.length none = xs.length := rfl
  rw [h1, h2, List.take_of_length_le]
  rw [List.length_drop]
  omega
theorem set_cut {α : Type} {l : List α} {n : Nat} {x : α} (h : n < l.length) : l.take n ++ [x] ++ l.drop (n + 1) = l.set n x := by
  rw [List.set_eq_take_append_cons_drop, if_pos h, List.append_assoc]
  rfl
theorem so1 : PyData.strOk (Str.ofString "begin") = true := by decide +kernel
theorem so2 : PyData.strOk (Str.ofString "did") = true := by decide +kernel
theorem so3 : PyData.strOk (Str.ofString "commit") = true := by decide +kernel
theorem so4 : PyData.strOk (Str.ofString "abort") = true := by decide +kernel
theorem marksBehind {g : Lg} {m : Addr} {t : Th} (hv : ∀ sts ∈ ms, VK sts) (hh : HouseAt St hs ms) (hm : St m = some (.lst (g.marks.map dM))) (few : g.marks.length ≤ 10) (ht : ThOk ms g t)
    (q : ∀ m' S', (m' = m ∨ St m' = none) → S' m' = some (.lst ((stepT g t).marks.map dM)) → Ge St S' → Q (.ref m') S') : phi T (k + 4) 5 [.tup (hs.map .ref), .ref m, dTh t] St Q Ex := by
  refine phi_at (fn := f5) rfl rfl (show 3 ≤ 4 by decide) ?_
  show wSs T _ b5 _ [some (.tup (hs.map .ref)), some (.ref m), some (dTh t), none] _
  cases t with
  | beg =>
    show wSs T _ b5 _ [some (.tup (hs.map .ref)), some (.ref m), some (.tup [.str "begin"]), none] _
    unfold b5
    bv_omega
    refine o_isi (k := true) rfl ?_
    bv_omega
    refine o_eqdF 1 (fun z => by cases z) ?_ ?_ (by decide) ?_
    · simp [isD, isDs, so1]
    · rfl
    bv_omega
    refine o_isi (k := true) rfl ?_
    bv_omega
    refine o_eqsT ?_
    bv_omega
    refine o_len (n := 1) (.inr (.inl ⟨_, rfl, rfl⟩)) ?_
    bv_omega
    refine o_eqiT rfl ?_
    bv_omega
    refine o_lst ln1 fun p0 S1 h0 e1 g1 => ?_
    bv_omega
    refine o_addl (g1 _ _ hm) e1 (by rw [List.length_map, sizeLine_eq]; simp; omega) fun p S2 hp e2 g2 => ?_
    exact q p S2 (.inr (g1.none hp)) (by rw [e2]; simp [stepT]; rfl) (g1.trans g2)
  | did n i e =>
    obtain ⟨h1, sts, h2, h3⟩ := ht
    have vk := hv sts (List.mem_of_getElem? h2)
    have w : WordP e := by
      obtain ⟨st, hs, p, hp, rfl⟩ := mem_evs.mp h3
      exact ⟨((vk.st st hs).w p hp).1, ((vk.st st hs).w p hp).2.1⟩
    show wSs T _ b5 _ [some (.tup (hs.map .ref)), some (.ref m), some (.tup [.str "did", .int n, .int i, .str e.1, .str e.2]), none] _
    unfold b5
    bv_omega
    refine o_isi (k := true) rfl ?_
    bv_omega
    refine o_eqdF 1 (fun z => by cases z) ?_ ?_ (by decide) ?_
    · simp [isD, isDs, word_str w.1, word_str w.2, so2]
    · rfl
    bv_omega
    refine o_isi (k := true) rfl ?_
    bv_omega
    refine o_eqsF (by decide) ?_
    bv_omega
    refine o_eqsT ?_
    bv_omega
    refine o_len (n := 5) (.inr (.inl ⟨_, rfl, rfl⟩)) ?_
    bv_omega
    refine o_eqiT rfl ?_
    bv_omega
    refine o_call rfl rfl (isOpen hm h1 ?_)
    bv_omega
    refine o_idxt at3 ?_
    bv_omega
    refine o_idxt (atI_nat (i := 4)) ?_
    bv_omega
    refine o_call rfl rfl (isEventOf hv hh h2 h3 fun S1 g1 => ?_)
    bv_omega
    exact q m S1 (.inl rfl) (g1 _ _ hm) g1
  | com n =>
    have lt := (List.getElem?_eq_some_iff.mp ht).1
    show wSs T _ b5 _ [some (.tup (hs.map .ref)), some (.ref m), some (.tup [.str "commit", .int n]), none] _
    unfold b5
    bv_omega
    refine o_isi (k := true) rfl ?_
    bv_omega
    refine o_eqdF 1 (fun z => by cases z) ?_ ?_ (by decide) ?_
    · simp [isD, isDs, so3, so4]
    · rfl
    bv_omega
    refine o_isi (k := true) rfl ?_
    bv_omega
    refine o_eqsF (by decide) ?_
    bv_omega
    refine o_eqsF (by decide) ?_
    bv_omega
    refine o_nindF 0 (by simp) ?_ ?_ (by decide) ?_
    · simp [isD, isDs, so3, so4]
    · simp [isD, so3, so4]
    bv_omega
    refine o_len (n := 2) (.inr (.inl ⟨_, rfl, rfl⟩)) ?_
    bv_omega
    refine o_neiF rfl ?_
    bv_omega
    refine o_call rfl rfl (isOpen hm ht ?_)
    bv_omega
    refine o_eqsT ?_
    bv_omega
    refine sl_ref (seq_lst hm) fun p1 S1 h1 e1 g1 => ?_
    bv_omega
    refine o_lst ln1 fun p2 S2 h2 e2 g2 => ?_
    bv_omega
    rw [cut_to] at e1
    refine o_addl (g2 _ _ e1) e2 (by rw [List.length_take, List.length_map, sizeLine_eq]; simp; omega) fun p3 S3 h3 e3 g3 => ?_
    bv_omega
    refine sl_ref (seq_lst (g3 _ _ (g2 _ _ (g1 _ _ hm)))) fun p4 S4 h4 e4 g4 => ?_
    have e4 : S4 p4 = some (.lst ((g.marks.map dM).drop (n + 1))) := by
      rw [e4]
      exact congrArg (fun l => some (O.lst l)) (cut_lo _ (n + 1) (by rw [List.length_map]; omega))
    bv_omega
    refine o_addl (g4 _ _ e3) e4 (by simp [sizeLine_eq]; omega) fun p5 S5 h5 e5 g5 => ?_
    refine q p5 S5 (.inr ((((g1.trans g2).trans g3).trans g4).none h5)) ?_ ((((g1.trans g2).trans g3).trans g4).trans g5)
    rw [e5, set_cut (by rw [List.length_map]; exact lt)]
    simp [stepT, List.map_set]
    rfl
  | abo n =>
    have lt := (List.getElem?_eq_some_iff.mp ht).1
    show wSs T _ b5 _ [some (.tup (hs.map .ref)), some (.ref m), some (.tup [.str "abort", .int n]), none] _
    unfold b5
    bv_omega
    refine o_isi (k := true) rfl ?_
    bv_omega
    refine o_eqdF 1 (fun z => by cases z) ?_ ?_ (by decide) ?_
    · simp [isD, isDs, so3, so4]
    · rfl
    bv_omega
    refine o_isi (k := true) rfl ?_
    bv_omega
    refine o_eqsF (by decide) ?_
    bv_omega
    refine o_eqsF (by decide) ?_
    bv_omega
    refine o_nindF 0 (by simp) ?_ ?_ (by decide) ?_
    · simp [isD, isDs, so3, so4]
    · simp [isD, so3, so4]
    bv_omega
    refine o_len (n := 2) (.inr (.inl ⟨_, rfl, rfl⟩)) ?_
    bv_omega
    refine o_neiF rfl ?_
    bv_omega
    refine o_call rfl rfl (isOpen hm ht ?_)
    bv_omega
    refine o_eqsF (by decide) ?_
    bv_omega
    refine sl_ref (seq_lst hm) fun p1 S1 h1 e1 g1 => ?_
    bv_omega
    refine o_lst ln1 fun p2 S2 h2 e2 g2 => ?_
    bv_omega
    rw [cut_to] at e1
    refine o_addl (g2 _ _ e1) e2 (by rw [List.length_take, List.length_map, sizeLine_eq]; simp; omega) fun p3 S3 h3 e3 g3 => ?_
    bv_omega
    refine sl_ref (seq_lst (g3 _ _ (g2 _ _ (g1 _ _ hm)))) fun p4 S4 h4 e4 g4 => ?_
    have e4 : S4 p4 = some (.lst ((g.marks.map dM).drop (n + 1))) := by
      rw [e4]
      exact congrArg (fun l => some (O.lst l)) (cut_lo _ (n + 1) (by rw [List.length_map]; omega))
    bv_omega
    refine o_addl (g4 _ _ e3) e4 (by simp [sizeLine_eq]; omega) fun p5 S5 h5 e5 g5 => ?_
    refine q p5 S5 (.inr ((((g1.trans g2).trans g3).trans g4).none h5)) ?_ ((((g1.trans g2).trans g3).trans g4).trans g5)
    rw [e5, set_cut (by rw [List.length_map]; exact lt)]
    simp [stepT, List.map_set]
    rfl
end
set_option Elab.async false
set_option linter.all false
set_option maxRecDepth 100000
set_option maxHeartbeats 1000000
def dA (x : Nat × Pr) : D := .tup [.int x.1, .str x.2.1, .str x.2.2]
def rowD (r : List (Nat × Pr)) : D := .tup (r.map dA)
def entry (g : Lg) (n : Nat) : D := .tup [.int n, .bl (decide (g.marks[n]? = some .co)), .tup (nD (g.befo.getD n [])), rowD (g.rows.getD n [])]
def liveI (g : Lg) (i : Nat) : List Nat := (List.range i).filter fun n => !decide (g.marks[n]? = some .ab)
def logD (ms : List (List St1)) (ts : List Th) : D := .tup [.tup [.tup (List.replicate ms.length (.int 0))], .tup ((liveI (runT ts) (runT ts).marks.length).map (entry (runT ts)))]
def cosI (marks : List Mk) (i : Nat) : List Nat := (List.range i).filter fun n => decide (marks[n]? = some .co)
theorem cosI_suc (marks : List Mk) (i : Nat) : cosI marks (i + 1) = cosI marks i ++ if marks[i]? = some .co then [i] else [] := by
  unfold cosI
  rw [List.range_succ, List.filter_append]
  congr 1
  by_cases h : marks[i]? = some .co <;> simp [h]
theorem liveI_suc (g : Lg) (i : Nat) : liveI g (i + 1) = liveI g i ++ if g.marks[i]? = some .ab then [] else [i] := by
  unfold liveI
  rw [List.range_succ, List.filter_append]
  congr 1
  by_cases h : g.marks[i]? = some .ab <;> simp [h]
theorem enum_at {α : Type} {l : List α} {f : α → D} {i : Nat} {d : D} (h : (enumD (l.map f))[i]? = some d) : ∃ x, l[i]? = some x ∧ d = .tup [.int i, f x] := by
  unfold enumD at h
  rw [List.getElem?_map] at h
  obtain ⟨j, hj, rfl⟩ := Option.map_eq_some_iff.mp h
  have lt := (List.getElem?_eq_some_iff.mp hj).1
  rw [List.length_range, List.length_map] at lt
  rw [List.getElem?_range (by rw [List.length_map]; exact lt)] at hj
  cases hj
  exact ⟨l[i], List.getElem?_eq_getElem lt, by rw [List.getD_eq_getElem?_getD, List.getElem?_map, List.getElem?_eq_getElem lt]; rfl⟩
theorem enum_len (xs : List D) : (enumD xs).length = xs.length := by unfold enumD; rw [List.length_map, List.length_range]
theorem take_run {ts : List Th} {i : Nat} {t : Th} (h : ts[i]? = some t) : runT (ts.take (i + 1)) = stepT (runT (ts.take i)) t := by
  rw [List.take_add_one, h]
  exact runT_snoc _ _
theorem rows_modify {l : List (List (Nat × Pr))} {n : Nat} {r : List (Nat × Pr)} {x : Nat × Pr} (h : l[n]? = some r) : (l.modify n (· ++ [x])).map rowD = (l.map rowD).set n (.tup (r.map dA ++ [dA x])) := by
  refine List.ext_getElem? fun i => ?_
  rw [List.getElem?_map, List.getElem?_modify]
  by_cases z : n = i
  · subst z
    have lt := (List.getElem?_eq_some_iff.mp h).1
    rw [List.getElem?_set_self (by rw [List.length_map]; exact lt), h]
    simp [rowD]
  · rw [List.getElem?_set_ne z, List.getElem?_map]
    cases l[i]? <;> simp [z]
theorem rep_zero (n : Nat) : (List.replicate (n : Int).toNat [D.int 0]).flatten = List.replicate n (D.int 0) := by
  rw [Int.toNat_natCast]
  induction n with
  | zero => rfl
  | succ n ih => rw [List.replicate_succ, List.flatten_cons, ih]; rfl
/-- short at each step -/
structure Small (ts : List Th) : Prop where
  few : ∀ i, (runT (ts.take i)).marks.length ≤ 10
  len : ts.length ≤ 1000
theorem marks_mono (ts : List Th) (i : Nat) : (runT (ts.take i)).marks.length ≤ (runT ts).marks.length := by
  have : ∀ (l : List Th) (g : Lg), g.marks.length ≤ (l.foldl stepT g).marks.length := fun l => by
    induction l with
    | nil => intro g; exact Nat.le_refl _
    | cons t l ih => intro g; exact Nat.le_trans (by cases t <;> simp [stepT]) (ih (stepT g t))
  have e : runT ts = (ts.drop i).foldl stepT (runT (ts.take i)) := by
    unfold runT
    rw [← List.foldl_append, List.take_append_drop]
  rw [e]
  exact this _ _
theorem row_did {ms : List (List St1)} {ts : List Th} {i n m : Nat} {e : Pr} (h : HOk ms ts) (ht : ts[i]? = some (.did n m e)) : ∃ r, (runT (ts.take i)).rows[n]? = some r := by
  have := (h i _ ht).1
  have lt := (List.getElem?_eq_some_iff.mp this).1
  rw [← (run_len (ts.take i)).1] at lt
  exact ⟨_, List.getElem?_eq_getElem lt⟩
section
variable {k : Nat} {St : Sto} {Q : WD} {Ex : WX} {ms : List (List St1)} {hs : List Addr} {ts : List Th}
theorem logOf (hv : ∀ sts ∈ ms, VK sts) (hm4 : ms.length ≤ 4) (hh : HouseAt St hs ms) (hk : HOk ms ts) (sm : Small ts) (short : ∀ i, ∀ r ∈ (runT (ts.take i)).rows, r.length ≤ 12)
    (q : ∀ S', Ge St S' → Q (logD ms ts) S') : phi T (k + 5) 6 [.tup (hs.map .ref), .tup (ts.map dTh)] St Q Ex := by
  refine phi_at (fn := f6) rfl rfl (show 2 ≤ 9 by decide) ?_
  show wSs T _ b6 _ [some (.tup (hs.map .ref)), some (.tup (ts.map dTh)), none, none, none, none, none, none, none] _
  unfold b6
  bv_omega
  refine o_lst ln0 fun m0 S1 hm0 e1 g1 => ?_
  bv_omega
  refine o_lst ln0 fun ro S2 hro e2 g2 => ?_
  bv_omega
  refine o_lst ln0 fun be S3 hbe e3 g3 => ?_
  bv_omega
  have hroS : St ro = none := by
    cases z : St ro with
    | none => rfl
    | some o => rw [g1 _ _ z] at hro; cases hro
  have hbeS : St be = none := by
    cases z : St be with
    | none => rfl
    | some o => rw [g2 _ _ (g1 _ _ z)] at hbe; cases hbe
  have rb : ro ≠ be := fun e => by rw [← e, e2] at hbe; cases hbe
  have mr0 : m0 ≠ ro ∧ m0 ≠ be := ⟨fun e => (by rw [← e, e1] at hro; cases hro), fun e => (by rw [← e, g2 _ _ e1] at hbe; cases hbe)⟩
  refine loop_list (ts.map dTh) (fun i ρ S' => Ge St S' ∧ ∃ m x5 x6 x7 x8, ρ = [some (.tup (hs.map .ref)), some (.tup (ts.map dTh)), some (.ref m), some (.ref ro), some (.ref be), x5, x6, x7, x8] ∧ m ≠ ro ∧ m ≠ be ∧ S' m = some (.lst ((runT (ts.take i)).marks.map dM)) ∧ S' ro = some (.lst ((runT (ts.take i)).rows.map rowD)) ∧ S' be = some (.lst ((runT (ts.take i)).befo.map fun b => .tup (nD b))))
    ⟨(g1.trans g2).trans g3, m0, _, _, _, _, rfl, mr0.1, mr0.2, g3 _ _ (g2 _ _ e1), g3 _ _ e2, e3⟩ (fun i ρ S' _ I => src_tup) (fun i d ρ S' Q' hd I hq => ?_) fun ρ S' I => ?_
  · obtain ⟨g, m, x5, x6, x7, x8, rfl, mro, mbe, em, er, eb⟩ := I
    rw [List.getElem?_map] at hd
    obtain ⟨t, ht, rfl⟩ := Option.map_eq_some_iff.mp hd
    have few := sm.few i
    have tok := hk i t ht
    obtain ⟨rl, bl⟩ := run_len (ts.take i)
    have tr := take_run ht
    have rd := fun n m e (h : t = .did n m e) => row_did hk (h ▸ ht)
    have sh := short i
    generalize runT (ts.take i) = g0 at *
    rw [tr] at hq
    have fin : ∀ S5 m' S6 (x5 x6 x7 x8 : Option D), Ge St S5 → S5 ro = some (.lst ((stepT g0 t).rows.map rowD)) → S5 be = some (.lst ((stepT g0 t).befo.map fun b => .tup (nD b))) → (m' = m ∨ S5 m' = none) → S6 m' = some (.lst ((stepT g0 t).marks.map dM)) → Ge S5 S6 →
        Q' [some (.tup (hs.map .ref)), some (.tup (ts.map dTh)), some (.ref m'), some (.ref ro), some (.ref be), x5, x6, x7, x8] S6 := fun S5 m' S6 x5 x6 x7 x8 g5 er5 eb5 hm' e6 g6 => by
      refine hq _ _ ⟨g5.trans g6, m', _, _, _, _, rfl, ?_, ?_, e6, g6 _ _ er5, g6 _ _ eb5⟩
      · rcases hm' with e | e
        · rw [e]; exact mro
        · exact fun z => by rw [z, er5] at e; cases e
      · rcases hm' with e | e
        · rw [e]; exact mbe
        · exact fun z => by rw [z, eb5] at e; cases e
    cases t with
    | beg =>
      show PD.wG _ _ _ (.tup [.str "begin"]) _ _ _ _
      bv_omega
      refine o_eqsT ?_
      bv_omega
      refine m_bt (recv_lst eb rfl) ?_
      bv_omega
      refine w_enur (seq_lst em) ?_
      refine loop_list (enumD (g0.marks.map dM)) (fun i acc S2 => Ge S' S2 ∧ acc = (cosI g0.marks i).map fun (n : Nat) => [D.int (n : Int)]) ⟨.refl, rfl⟩ (fun i acc S2 _ I => src_enum (src_ref (I.1 _ _ em))) (fun i d acc S2 Q2 hd I hq2 => ?_) fun acc S2 I => ?_
      · obtain ⟨g2, rfl⟩ := I
        obtain ⟨mk, hmk, rfl⟩ := enum_at hd
        have lt := (List.getElem?_eq_some_iff.mp hmk).1
        bv_omega
        unfold dM
        refine o_eqs ?_
        bv_omega
        refine t_cond (fun c => ?_) fun c => ?_
        · have c : mk = .co := sM_inj.mp c
          subst c
          bv_omega
          refine ⟨?_, hq2 _ _ ⟨g2, ?_⟩⟩
          · show ((cosI g0.marks i).map _).length < sizeLine
            have : (cosI g0.marks i).length ≤ i := by unfold cosI; exact Nat.le_trans (List.length_filter_le _ _) (by rw [List.length_range]; exact Nat.le_refl _)
            rw [List.length_map, sizeLine_eq]
            omega
          · rw [cosI_suc, if_pos hmk, List.map_append]; rfl
        · have c : mk ≠ .co := fun z => c (sM_inj.mpr z)
          bv_omega
          refine hq2 _ _ ⟨g2, ?_⟩
          rw [cosI_suc, if_neg (fun z => c (by rw [hmk] at z; exact Option.some.inj z)), List.append_nil]
      · obtain ⟨g2, e⟩ := I
        rw [enum_len, List.length_map] at e
        subst e
        refine fin_new fun p S3 hp g3 e3 => ?_
        have e3 : S3 p = some (.lst (nD (cos g0.marks))) := by
          rw [e3]
          refine congrArg (fun l => some (O.lst l)) ?_
          rw [List.map_map]
          unfold nD
          rw [List.map_map]
          rfl
        bv_omega
        refine o_tuple (seq_lst e3) ?_
        bv_omega
        refine mm_append (g3 _ _ (g2 _ _ eb)) (by rw [List.length_map, sizeLine_eq]; omega) fun S4 e4 q4 => ?_
        bv_omega
        have er4 : S4 ro = _ := (q4 ro rb).trans (g3 _ _ (g2 _ _ er))
        refine m_bt (recv_lst er4 rfl) ?_
        bv_omega
        refine mm_append er4 (by rw [List.length_map, sizeLine_eq]; omega) fun S5 e5 q5 => ?_
        bv_omega
        have g5 := (((g.trans g2).trans g3).mut hbeS q4).mut hroS q5
        refine o_call rfl rfl (marksBehind (t := .beg) hv (hh.ge g5) (by rw [q5 m mro, q4 m mbe]; exact g3 _ _ (g2 _ _ em)) few tok fun m' S6 hm' e6 g6 => ?_)
        bv_omega
        refine fin S5 m' S6 _ _ _ _ g5 ?_ ?_ hm' e6 g6
        · rw [e5]; simp [stepT, rowD]
        · rw [q5 be rb.symm, e4]; simp [stepT]
    | did n j e =>
      obtain ⟨row, hrow⟩ := rd n j e rfl
      have ltn := (List.getElem?_eq_some_iff.mp hrow).1
      have s12 := sh row (List.mem_of_getElem? hrow)
      show PD.wG _ _ _ (.tup [.str "did", .int n, .int j, .str e.1, .str e.2]) _ _ _ _
      bv_omega
      refine o_eqsF (by decide) ?_
      bv_omega
      refine o_eqsT ?_
      bv_omega
      refine o_idxr (seq_lst er) (d := rowD row) (by rw [atI_nat, List.getElem?_map, hrow]; rfl) ?_
      bv_omega
      refine sl_tup ?_
      bv_omega
      unfold rowD
      refine o_addt (by rw [List.length_map, sizeLine_eq]; simp; omega) ?_
      bv_omega
      refine g_subl er (by rw [List.length_map]; exact ixN_nat ltn) fun S5 e5 q5 => ?_
      bv_omega
      have g5 := g.mut hroS q5
      refine o_call rfl rfl (marksBehind (t := .did n j e) hv (hh.ge g5) (by rw [q5 m mro]; exact em) few tok fun m' S6 hm' e6 g6 => ?_)
      bv_omega
      refine fin S5 m' S6 _ _ _ _ g5 ?_ ?_ hm' e6 g6
      · rw [e5]
        refine congrArg (fun l => some (O.lst l)) ?_
        show _ = (g0.rows.modify n (· ++ [(j, e)])).map rowD
        rw [rows_modify hrow]
        rfl
      · rw [q5 be rb.symm]; exact eb
    | com n =>
      show PD.wG _ _ _ (.tup [.str "commit", .int n]) _ _ _ _
      bv_omega
      refine o_eqsF (by decide) ?_
      bv_omega
      refine o_eqsF (by decide) ?_
      bv_omega
      refine o_call rfl rfl (marksBehind (t := .com n) hv (hh.ge g) em few tok fun m' S6 hm' e6 g6 => ?_)
      bv_omega
      exact fin S' m' S6 _ _ _ _ g er eb hm' e6 g6
    | abo n =>
      show PD.wG _ _ _ (.tup [.str "abort", .int n]) _ _ _ _
      bv_omega
      refine o_eqsF (by decide) ?_
      bv_omega
      refine o_eqsF (by decide) ?_
      bv_omega
      refine o_call rfl rfl (marksBehind (t := .abo n) hv (hh.ge g) em few tok fun m' S6 hm' e6 g6 => ?_)
      bv_omega
      exact fin S' m' S6 _ _ _ _ g er eb hm' e6 g6
  · obtain ⟨g, m, x5, x6, x7, x8, rfl, mro, mbe, em, er, eb⟩ := I
    have few := sm.few ts.length
    have hl : (ts.map dTh).length = ts.length := List.length_map _
    rw [hl, List.take_length] at em er eb
    rw [List.take_length] at few
    obtain ⟨rl, bl⟩ := run_len ts
    unfold logD at q
    generalize runT ts = g0 at *
    refine fin_for ?_
    bv_omega
    refine o_lst ln0 fun en S4 hen e4 g4 => ?_
    bv_omega
    refine w_enur (seq_lst (g4 _ _ em)) ?_
    have hens := g.none hen
    have nen : en ≠ m ∧ en ≠ ro ∧ en ≠ be := ⟨fun e => (by rw [e, em] at hen; cases hen), fun e => (by rw [e, er] at hen; cases hen), fun e => (by rw [e, eb] at hen; cases hen)⟩
    refine loop_list (enumD (g0.marks.map dM)) (fun i ρ S2 => Ge St S2 ∧ (∀ c, c ≠ en → S2 c = S4 c) ∧ ∃ x5 x7 x8, ρ = [some (.tup (hs.map .ref)), some (.tup (ts.map dTh)), some (.ref m), some (.ref ro), some (.ref be), x5, some (.ref en), x7, x8] ∧ S2 en = some (.lst ((liveI g0 i).map (entry g0))))
      ⟨g.trans g4, fun _ _ => rfl, _, _, _, rfl, e4⟩ (fun i ρ S2 _ I => src_enum (src_ref (by rw [I.2.1 m nen.1.symm]; exact g4 _ _ em))) (fun i d ρ S2 Q2 hd I hq2 => ?_) fun ρ S2 I => ?_
    · obtain ⟨g2, c2, x5, x7, x8, rfl, en2⟩ := I
      obtain ⟨mk, hmk, rfl⟩ := enum_at hd
      have lt := (List.getElem?_eq_some_iff.mp hmk).1
      bv_omega
      unfold dM
      refine o_nes ?_
      bv_omega
      refine t_ncond (fun c => ?_) fun c => ?_
      · have c : mk = .ab := sM_inj.mp c
        subst c
        bv_omega
        refine hq2 _ _ ⟨g2, c2, _, _, _, rfl, ?_⟩
        rw [liveI_suc, if_pos hmk, List.append_nil]; exact en2
      · have c : mk ≠ .ab := fun z => c (sM_inj.mpr z)
        bv_omega
        refine m_bt (recv_lst en2 rfl) ?_
        bv_omega
        refine o_eqs ?_
        bv_omega
        have b2 : S2 be = some (.lst (g0.befo.map fun b => .tup (nD b))) := by rw [c2 be nen.2.2.symm]; exact g4 _ _ eb
        have r2 : S2 ro = some (.lst (g0.rows.map rowD)) := by rw [c2 ro nen.2.1.symm]; exact g4 _ _ er
        obtain ⟨bb, hb⟩ : ∃ x, g0.befo[i]? = some x := ⟨_, List.getElem?_eq_getElem (by omega)⟩
        obtain ⟨rr, hr⟩ : ∃ x, g0.rows[i]? = some x := ⟨_, List.getElem?_eq_getElem (by omega)⟩
        refine o_idxr (seq_lst b2) (d := .tup (nD bb)) (by rw [atI_nat, List.getElem?_map, hb]; rfl) ?_
        bv_omega
        refine o_idxr (seq_lst r2) (d := rowD rr) (by rw [atI_nat, List.getElem?_map, hr]; rfl) ?_
        bv_omega
        refine o_tup ln4 ?_
        bv_omega
        have ll : (liveI g0 i).length ≤ i := by unfold liveI; exact Nat.le_trans (List.length_filter_le _ _) (by rw [List.length_range]; exact Nat.le_refl _)
        refine mm_append en2 (by rw [List.length_map, sizeLine_eq]; omega) fun S3 e3 q3 => ?_
        bv_omega
        refine hq2 _ _ ⟨g2.mut hens q3, fun c h => by rw [q3 c h]; exact c2 c h, _, _, _, rfl, ?_⟩
        rw [e3, liveI_suc, if_neg (fun z => c (by rw [hmk] at z; exact Option.some.inj z)), List.map_append]
        refine congrArg (fun l => some (O.lst (_ ++ l))) ?_
        show [_] = [entry g0 i]
        unfold entry
        have d1 : decide (sM mk = Str.ofString "committed") = decide (g0.marks[i]? = some .co) := by
          rw [hmk]
          show decide (sM mk = sM .co) = _
          by_cases z : mk = .co
          · subst z; rfl
          · rw [decide_eq_false (fun y => z (sM_inj.mp y)), decide_eq_false (fun y => z (Option.some.inj y))]
        rw [← d1, List.getD_eq_getElem?_getD, List.getD_eq_getElem?_getD, hb, hr]
        rfl
    · obtain ⟨g2, c2, x5, x7, x8, rfl, en2⟩ := I
      rw [enum_len, List.length_map] at en2
      refine fin_for ?_
      bv_omega
      refine o_len (n := ms.length) (.inr (.inl ⟨_, rfl, by rw [List.length_map, hh.1]⟩)) ?_
      bv_omega
      refine o_mulT (by show 1 ≤ 1000; decide) ⟨by omega, by omega⟩ (by simp) ?_
      bv_omega
      refine o_tuple (seq_lst en2) ?_
      bv_omega
      rw [rep_zero]
      exact q S2 g2
end
set_option Elab.async false
set_option linter.all false
set_option maxRecDepth 100000
set_option maxHeartbeats 1000000
/-! ### the law's own log -/
def sE : Mk → Str
  | .op => ""
  | .co => "commit"
  | .ab => "abort"
def dE (m : Mk) : D := .str (sE m)
theorem sE_inj {m n : Mk} : sE m = sE n ↔ m = n := by
  cases m <;> cases n <;> decide +kernel
def RowsAt (S : Sto) (rs : List Addr) (rows : List (List (Nat × Pr))) : Prop := rs.length = rows.length ∧ rs.Nodup ∧ ∀ (j : Nat) (r : Addr) (row : List (Nat × Pr)), rs[j]? = some r → rows[j]? = some row → S r = some (.lst (row.map dA))
theorem RowsAt.keep {S S' : Sto} {rs : List Addr} {rows : List (List (Nat × Pr))} (h : RowsAt S rs rows) (g : ∀ r ∈ rs, S' r = S r) : RowsAt S' rs rows := ⟨h.1, h.2.1, fun j r row h1 h2 => by rw [g r (List.mem_of_getElem? h1)]; exact h.2.2 j r row h1 h2⟩
theorem RowsAt.ge {S S' : Sto} {rs : List Addr} {rows : List (List (Nat × Pr))} (h : RowsAt S rs rows) (g : Ge S S') : RowsAt S' rs rows := ⟨h.1, h.2.1, fun j r row h1 h2 => g _ _ (h.2.2 j r row h1 h2)⟩
theorem RowsAt.snoc {S : Sto} {rs : List Addr} {rows : List (List (Nat × Pr))} {r : Addr} (h : RowsAt S rs rows) (hr : r ∉ rs) (e : S r = some (.lst [])) : RowsAt S (rs ++ [r]) (rows ++ [[]]) := by
  refine ⟨by rw [List.length_append, List.length_append, h.1]; rfl, List.nodup_append.mpr ⟨h.2.1, by simp, fun x hx y hy z => hr (by rw [List.mem_singleton.mp hy] at z; exact z ▸ hx)⟩, fun j u row h1 h2 => ?_⟩
  by_cases lt : j < rs.length
  · rw [List.getElem?_append_left lt] at h1
    rw [List.getElem?_append_left (by rw [← h.1]; exact lt)] at h2
    exact h.2.2 j u row h1 h2
  · rw [List.getElem?_append_right (by omega)] at h1
    rw [List.getElem?_append_right (by rw [← h.1]; omega), ← h.1] at h2
    cases z : j - rs.length with
    | zero => rw [z] at h1 h2; cases h1; cases h2; exact e
    | succ n => rw [z] at h1; cases h1
theorem RowsAt.push {S S' : Sto} {rs : List Addr} {rows : List (List (Nat × Pr))} {n : Nat} {r : Addr} {row : List (Nat × Pr)} {x : Nat × Pr} (h : RowsAt S rs rows) (hr : rs[n]? = some r) (hw : rows[n]? = some row) (e : S' r = some (.lst (row.map dA ++ [dA x]))) (q : ∀ c, c ≠ r → S' c = S c) : RowsAt S' rs (rows.modify n (· ++ [x])) := by
  refine ⟨by rw [h.1, List.length_modify], h.2.1, fun j u w h1 h2 => ?_⟩
  rw [List.getElem?_modify] at h2
  obtain ⟨y, hy, e2⟩ := Option.map_eq_some_iff.mp h2
  by_cases z : n = j
  · subst z
    rw [hr] at h1
    cases h1
    rw [hw] at hy
    cases hy
    rw [if_pos rfl] at e2
    rw [← e2, List.map_append]
    exact e
  · rw [if_neg z] at e2
    have ne : u ≠ r := fun e3 => by
      subst e3
      exact z ((List.getElem?_inj (List.getElem?_eq_some_iff.mp hr).1 h.2.1).mp (hr.trans h1.symm))
    rw [q u ne]
    exact h.2.2 j u w h1 (by rw [hy]; exact congrArg some e2)
section
variable {k : Nat} {St : Sto} {Q : WD} {Ex : WX} {ms : List (List St1)} {r : Addr} {ts : List Th}
theorem due (hv : ∀ sts ∈ ms, VK sts) (hm4 : ms.length ≤ 4) (hr : St r = some (.lst (ms.map dStates))) (hk : HOk ms ts) (sm : Small ts) (short : ∀ i, ∀ r ∈ (runT (ts.take i)).rows, r.length ≤ 12)
    (q : ∀ S', Ge St S' → Q (logD ms ts) S') : phi T (k + 1) 39 [.ref r, .tup (ts.map dTh)] St Q Ex := by
  refine phi_at (fn := f39) rfl rfl (show 2 ≤ 10 by decide) ?_
  show wSs T _ b39 _ [some (.ref r), some (.tup (ts.map dTh)), none, none, none, none, none, none, none, none] _
  unfold b39
  bv_omega
  refine o_lst ln0 fun be S1 hbe e1 g1 => ?_
  bv_omega
  refine o_lst ln0 fun ro S2 hro e2 g2 => ?_
  bv_omega
  refine o_lst ln0 fun en S3 hen e3 g3 => ?_
  bv_omega
  have hroS := g1.none hro
  have henS := (g1.trans g2).none hen
  have br : be ≠ ro := fun e => by rw [← e, e1] at hro; cases hro
  have bn : be ≠ en := fun e => by rw [← e, g2 _ _ e1] at hen; cases hen
  have rn : ro ≠ en := fun e => by rw [← e, e2] at hen; cases hen
  refine loop_list (ts.map dTh) (fun i ρ S' => Ge St S' ∧ ∃ rs x5 x6 x7 x8 x9, ρ = [some (.ref r), some (.tup (ts.map dTh)), some (.ref be), some (.ref ro), some (.ref en), x5, x6, x7, x8, x9] ∧ S' be = some (.lst ((runT (ts.take i)).befo.map fun b => .tup (nD b))) ∧ S' ro = some (.lst (rs.map .ref)) ∧ S' en = some (.lst ((runT (ts.take i)).marks.map dE)) ∧ RowsAt S' rs (runT (ts.take i)).rows ∧ (∀ u ∈ rs, St u = none ∧ u ≠ be ∧ u ≠ ro ∧ u ≠ en))
    ⟨(g1.trans g2).trans g3, [], _, _, _, _, _, rfl, g3 _ _ (g2 _ _ e1), g3 _ _ e2, e3, ⟨rfl, .nil, fun j r row h => (nomatch h)⟩, fun u m => (nomatch m)⟩ (fun i ρ S' _ I => src_tup) (fun i d ρ S' Q' hd I hq => ?_) fun ρ S' I => ?_
  · obtain ⟨g, rs, x5, x6, x7, x8, x9, rfl, eb, er, ee, ra, fr⟩ := I
    rw [List.getElem?_map] at hd
    obtain ⟨t, ht, rfl⟩ := Option.map_eq_some_iff.mp hd
    have few := sm.few i
    have tok := hk i t ht
    obtain ⟨rl, bl⟩ := run_len (ts.take i)
    have tr := take_run ht
    have sh := short i
    have rd := fun n m e (h : t = .did n m e) => row_did hk (h ▸ ht)
    generalize runT (ts.take i) = g0 at *
    rw [tr] at hq
    have lrs : rs.length ≤ 10 := by rw [ra.1, rl]; exact few
    cases t with
    | beg =>
      show PD.wG _ _ _ (.tup [.str "begin"]) _ _ _ _
      bv_omega
      refine o_eqdT 1 ?_ (by decide) ?_
      · simp [isD, isDs, so1]
      bv_omega
      refine m_bt (recv_lst eb rfl) ?_
      bv_omega
      refine o_len (n := g0.marks.length) (.inr (.inl ⟨_, seq_lst ee, by rw [List.length_map]⟩)) ?_
      bv_omega
      refine w_rng (by omega) ?_
      rw [Int.toNat_natCast]
      refine loop_list ((List.range g0.marks.length).map fun (i : Nat) => D.int (0 + (i : Int))) (fun i acc S2 => Ge S' S2 ∧ acc = (cosI g0.marks i).map fun (n : Nat) => [D.int (n : Int)]) ⟨.refl, rfl⟩ (fun i acc S2 _ I => src_range) (fun i d acc S2 Q2 hd I hq2 => ?_) fun acc S2 I => ?_
      · obtain ⟨g2, rfl⟩ := I
        rw [List.getElem?_map] at hd
        obtain ⟨i', hi', rfl⟩ := Option.map_eq_some_iff.mp hd
        have lt := (List.getElem?_eq_some_iff.mp hi').1
        rw [List.length_range] at lt
        rw [List.getElem?_range lt] at hi'
        cases hi'
        obtain ⟨mk, hmk⟩ : ∃ mk, g0.marks[i]? = some mk := ⟨_, List.getElem?_eq_getElem lt⟩
        rw [Int.zero_add]
        bv_omega
        refine o_idxr (seq_lst (g2 _ _ ee)) (d := dE mk) (by rw [atI_nat, List.getElem?_map, hmk]; rfl) ?_
        unfold dE
        bv_omega
        refine o_eqs ?_
        bv_omega
        refine t_cond (fun c => ?_) fun c => ?_
        · have c : mk = .co := sE_inj.mp c
          subst c
          bv_omega
          refine ⟨?_, hq2 _ _ ⟨g2, ?_⟩⟩
          · show ((cosI g0.marks i).map _).length < sizeLine
            have : (cosI g0.marks i).length ≤ i := by unfold cosI; exact Nat.le_trans (List.length_filter_le _ _) (by rw [List.length_range]; exact Nat.le_refl _)
            rw [List.length_map, sizeLine_eq]
            omega
          · rw [cosI_suc, if_pos hmk, List.map_append]; rfl
        · have c : mk ≠ .co := fun z => c (sE_inj.mpr z)
          bv_omega
          refine hq2 _ _ ⟨g2, ?_⟩
          rw [cosI_suc, if_neg (fun z => c (by rw [hmk] at z; exact Option.some.inj z)), List.append_nil]
      · obtain ⟨g2, e⟩ := I
        rw [List.length_map, List.length_range] at e
        subst e
        refine fin_new fun p S3 hp g3 e3 => ?_
        have e3 : S3 p = some (.lst (nD (cos g0.marks))) := by
          rw [e3]
          refine congrArg (fun l => some (O.lst l)) ?_
          rw [List.map_map]
          unfold nD
          rw [List.map_map]
          rfl
        bv_omega
        refine o_tuple (seq_lst e3) ?_
        bv_omega
        have gg := g2.trans g3
        refine mm_append (gg _ _ eb) (by rw [List.length_map, sizeLine_eq]; omega) fun S4 e4 q4 => ?_
        bv_omega
        have er4 : S4 ro = _ := (q4 ro br.symm).trans (gg _ _ er)
        refine m_bt (recv_lst er4 rfl) ?_
        bv_omega
        refine o_lst ln0 fun nw S5 hnw e5 g5 => ?_
        bv_omega
        refine mm_append (g5 _ _ er4) (by rw [List.length_map, sizeLine_eq]; omega) fun S6 e6 q6 => ?_
        bv_omega
        have ee4 : S4 en = _ := (q4 en bn.symm).trans (gg _ _ ee)
        have ee6 : S6 en = _ := (q6 en rn.symm).trans (g5 _ _ ee4)
        refine m_bt (recv_lst ee6 rfl) ?_
        bv_omega
        refine mm_append ee6 (by rw [List.length_map, sizeLine_eq]; omega) fun S7 e7 q7 => ?_
        bv_omega
        have G4 := (g.trans gg).mut hbe q4
        have nnew : nw ≠ be ∧ nw ≠ ro ∧ nw ≠ en := ⟨fun e => (by rw [e, e4] at hnw; cases hnw), fun e => (by rw [e, er4] at hnw; cases hnw), fun e => (by rw [e, ee4] at hnw; cases hnw)⟩
        have nrs : nw ∉ rs := fun m => by
          obtain ⟨j, hj⟩ := List.getElem?_of_mem m
          have lt : j < g0.rows.length := by rw [← ra.1]; exact (List.getElem?_eq_some_iff.mp hj).1
          have := ra.2.2 j nw _ hj (List.getElem?_eq_getElem lt)
          rw [q4 nw (fr nw m).2.1, gg _ _ this] at hnw
          cases hnw
        have ra6 : RowsAt S7 rs g0.rows := by
          refine RowsAt.keep (S := S6) (RowsAt.keep (S := S5) (RowsAt.ge (RowsAt.keep (ra.ge gg) fun u m => q4 u (fr u m).2.1) g5) fun u m => q6 u (fr u m).2.2.1) fun u m => q7 u (fr u m).2.2.2
        refine hq _ _ ⟨((G4.trans g5).mut hroS q6).mut henS q7, rs ++ [nw], _, _, _, _, _, rfl, ?_, ?_, ?_, ?_, ?_⟩
        · rw [q7 be bn, q6 be br, g5 _ _ e4]; simp [stepT]
        · rw [q7 ro rn, e6]; simp
        · rw [e7]; simp [stepT]; rfl
        · exact ra6.snoc nrs (by rw [q7 nw nnew.2.2, q6 nw nnew.2.1]; exact e5)
        · intro u m
          rcases List.mem_append.mp m with m | m
          · exact fr u m
          · rw [List.mem_singleton.mp m]
            exact ⟨G4.none hnw, nnew⟩
    | did n j e =>
      obtain ⟨row, hrow⟩ := rd n j e rfl
      obtain ⟨_, sts, h2, h3⟩ := tok
      have vk := hv sts (List.mem_of_getElem? h2)
      have w : WordP e := by
        obtain ⟨st, hs, p, hp, rfl⟩ := mem_evs.mp h3
        exact ⟨((vk.st st hs).w p hp).1, ((vk.st st hs).w p hp).2.1⟩
      have s12 := sh row (List.mem_of_getElem? hrow)
      obtain ⟨u, hu⟩ : ∃ u, rs[n]? = some u := ⟨_, List.getElem?_eq_getElem (by rw [ra.1]; exact (List.getElem?_eq_some_iff.mp hrow).1)⟩
      have fu := fr u (List.mem_of_getElem? hu)
      have eu := ra.2.2 n u row hu hrow
      show PD.wG _ _ _ (.tup [.str "did", .int n, .int j, .str e.1, .str e.2]) _ _ _ _
      bv_omega
      refine o_eqdF 1 (fun z => by cases z) ?_ ?_ (by decide) ?_
      · simp [isD, isDs, word_str w.1, word_str w.2, so2]
      · simp [isD, isDs, so1]
      bv_omega
      refine o_eqsT ?_
      bv_omega
      refine o_idxr (seq_lst er) (d := .ref u) (by rw [atI_nat, List.getElem?_map, hu]; rfl) ?_
      bv_omega
      refine m_bt (recv_lst eu rfl) ?_
      bv_omega
      refine sl_tup ?_
      bv_omega
      refine mm_append eu (by rw [List.length_map, sizeLine_eq]; omega) fun S5 e5 q5 => ?_
      bv_omega
      refine hq _ _ ⟨g.mut fu.1 q5, rs, _, _, _, _, _, rfl, ?_, ?_, ?_, ra.push hu hrow (x := (j, e)) e5 q5, fr⟩
      · rw [q5 be fu.2.1.symm]; exact eb
      · rw [q5 ro fu.2.2.1.symm]; exact er
      · rw [q5 en fu.2.2.2.symm]; exact ee
    | com n =>
      have lt := (List.getElem?_eq_some_iff.mp tok).1
      show PD.wG _ _ _ (.tup [.str "commit", .int n]) _ _ _ _
      bv_omega
      refine o_eqdF 1 (fun z => by cases z) ?_ ?_ (by decide) ?_
      · simp [isD, isDs, so3]
      · simp [isD, isDs, so1]
      bv_omega
      refine o_eqsF (by decide) ?_
      bv_omega
      refine g_subl ee (by rw [List.length_map]; exact ixN_nat lt) fun S5 e5 q5 => ?_
      bv_omega
      refine hq _ _ ⟨g.mut henS q5, rs, _, _, _, _, _, rfl, ?_, ?_, ?_, ra.keep fun u m => q5 u (fr u m).2.2.2, fr⟩
      · rw [q5 be bn]; exact eb
      · rw [q5 ro rn]; exact er
      · rw [e5]; simp [stepT, List.map_set]; rfl
    | abo n =>
      have lt := (List.getElem?_eq_some_iff.mp tok).1
      show PD.wG _ _ _ (.tup [.str "abort", .int n]) _ _ _ _
      bv_omega
      refine o_eqdF 1 (fun z => by cases z) ?_ ?_ (by decide) ?_
      · simp [isD, isDs, so4]
      · simp [isD, isDs, so1]
      bv_omega
      refine o_eqsF (by decide) ?_
      bv_omega
      refine g_subl ee (by rw [List.length_map]; exact ixN_nat lt) fun S5 e5 q5 => ?_
      bv_omega
      refine hq _ _ ⟨g.mut henS q5, rs, _, _, _, _, _, rfl, ?_, ?_, ?_, ra.keep fun u m => q5 u (fr u m).2.2.2, fr⟩
      · rw [q5 be bn]; exact eb
      · rw [q5 ro rn]; exact er
      · rw [e5]; simp [stepT, List.map_set]; rfl
  · obtain ⟨g, rs, x5, x6, x7, x8, x9, rfl, eb, er, ee, ra, fr⟩ := I
    have few := sm.few ts.length
    have hl : (ts.map dTh).length = ts.length := List.length_map _
    rw [hl, List.take_length] at eb ee ra
    rw [List.take_length] at few
    obtain ⟨rl, bl⟩ := run_len ts
    unfold logD at q
    generalize runT ts = g0 at *
    refine fin_for ?_
    bv_omega
    refine o_lst ln0 fun ne S4 hne e4 g4 => ?_
    bv_omega
    refine w_enur (seq_lst (g4 _ _ ee)) ?_
    have hnes := g.none hne
    have nne : ne ≠ be ∧ ne ≠ ro ∧ ne ≠ en := ⟨fun e => (by rw [e, eb] at hne; cases hne), fun e => (by rw [e, er] at hne; cases hne), fun e => (by rw [e, ee] at hne; cases hne)⟩
    refine loop_list (enumD (g0.marks.map dE)) (fun i ρ S2 => Ge St S2 ∧ Ge S' S2 ∧ ∃ x5 x7 x8 x9, ρ = [some (.ref r), some (.tup (ts.map dTh)), some (.ref be), some (.ref ro), some (.ref en), x5, some (.ref ne), x7, x8, x9] ∧ S2 ne = some (.lst ((liveI g0 i).map (entry g0))))
      ⟨g.trans g4, g4, _, _, _, _, rfl, e4⟩ (fun i ρ S2 _ I => src_enum (src_ref (I.2.1 _ _ ee))) (fun i d ρ S2 Q2 hd I hq2 => ?_) fun ρ S2 I => ?_
    · obtain ⟨g2, c2, x5, x7, x8, x9, rfl, en2⟩ := I
      obtain ⟨mk, hmk, rfl⟩ := enum_at hd
      have lt := (List.getElem?_eq_some_iff.mp hmk).1
      bv_omega
      unfold dE
      refine o_nes ?_
      bv_omega
      refine t_ncond (fun c => ?_) fun c => ?_
      · have c : mk = .ab := sE_inj.mp c
        subst c
        bv_omega
        refine hq2 _ _ ⟨g2, c2, _, _, _, _, rfl, ?_⟩
        rw [liveI_suc, if_pos hmk, List.append_nil]; exact en2
      · have c : mk ≠ .ab := fun z => c (sE_inj.mpr z)
        bv_omega
        refine m_bt (recv_lst en2 rfl) ?_
        bv_omega
        refine o_eqs ?_
        bv_omega
        obtain ⟨bb, hb⟩ : ∃ x, g0.befo[i]? = some x := ⟨_, List.getElem?_eq_getElem (by omega)⟩
        obtain ⟨rr, hrr⟩ : ∃ x, g0.rows[i]? = some x := ⟨_, List.getElem?_eq_getElem (by omega)⟩
        obtain ⟨u, hu⟩ : ∃ x, rs[i]? = some x := ⟨_, List.getElem?_eq_getElem (by rw [ra.1]; omega)⟩
        refine o_idxr (seq_lst (c2 _ _ eb)) (d := .tup (nD bb)) (by rw [atI_nat, List.getElem?_map, hb]; rfl) ?_
        bv_omega
        refine o_idxr (seq_lst (c2 _ _ er)) (d := .ref u) (by rw [atI_nat, List.getElem?_map, hu]; rfl) ?_
        bv_omega
        refine o_tuple (seq_lst (c2 _ _ (ra.2.2 i u rr hu hrr))) ?_
        bv_omega
        refine o_tup ln4 ?_
        bv_omega
        have ll : (liveI g0 i).length ≤ i := by unfold liveI; exact Nat.le_trans (List.length_filter_le _ _) (by rw [List.length_range]; exact Nat.le_refl _)
        refine mm_append en2 (by rw [List.length_map, sizeLine_eq]; omega) fun S3 e3 q3 => ?_
        bv_omega
        refine hq2 _ _ ⟨g2.mut hnes q3, c2.mut hne q3, _, _, _, _, rfl, ?_⟩
        rw [e3, liveI_suc, if_neg (fun z => c (by rw [hmk] at z; exact Option.some.inj z)), List.map_append]
        refine congrArg (fun l => some (O.lst (_ ++ l))) ?_
        show [_] = [entry g0 i]
        unfold entry
        have d1 : decide (sE mk = Str.ofString "commit") = decide (g0.marks[i]? = some .co) := by
          rw [hmk]
          show decide (sE mk = sE .co) = _
          by_cases z : mk = .co
          · subst z; rfl
          · rw [decide_eq_false (fun y => z (sE_inj.mp y)), decide_eq_false (fun y => z (Option.some.inj y))]
        rw [← d1, List.getD_eq_getElem?_getD, List.getD_eq_getElem?_getD, hb, hrr]
        rfl
    · obtain ⟨g2, c2, x5, x7, x8, x9, rfl, en2⟩ := I
      rw [enum_len, List.length_map] at en2
      refine fin_for ?_
      bv_omega
      have r2 := g2 _ _ hr
      refine w_valr (seq_lst r2) ?_
      refine loop_list (ms.map dStates) (fun i acc S3 => Ge S2 S3 ∧ acc = List.replicate i [D.int 0]) ⟨.refl, rfl⟩ (fun i acc S3 _ I => src_ref (I.1 _ _ r2)) (fun i d acc S3 Q3 hd I hq3 => ?_) fun acc S3 I => ?_
      · obtain ⟨g3, rfl⟩ := I
        have lt := (List.getElem?_eq_some_iff.mp hd).1
        rw [List.length_map] at lt
        bv_omega
        refine ⟨by show (List.replicate i _).length < sizeLine; rw [List.length_replicate, sizeLine_eq]; omega, hq3 _ _ ⟨g3, ?_⟩⟩
        rw [List.replicate_succ']
      · obtain ⟨g3, rfl⟩ := I
        refine fin_new fun p S5 hp g5 e5 => ?_
        have e5 : S5 p = some (.lst (List.replicate ms.length (.int 0))) := by
          rw [e5, List.length_map]
          refine congrArg (fun l => some (O.lst l)) ?_
          rw [List.map_replicate]
          rfl
        bv_omega
        refine o_tuple (seq_lst e5) ?_
        bv_omega
        refine o_tuple (seq_lst (g5 _ _ (g3 _ _ en2))) ?_
        bv_omega
        exact q S5 ((g2.trans g3).trans g5)
end
local macro_rules | `(tactic| subst_eqs) => `(tactic| (repeat (first | with_reducible refine r_cst ?_ | with_reducible refine r_var (by with_unfolding_all rfl) ?_ | with_reducible refine r_op ?_ | with_reducible refine r_cons ?_ | with_reducible refine r_nil ?_ | with_reducible refine t_bl ?_ | with_reducible refine t_tt ?_ | with_reducible refine t_ff ?_ | with_reducible refine t_nt ?_ | with_reducible refine t_nf ?_ | with_reducible refine o_add ?_ | with_reducible refine o_sub ?_ | with_reducible refine o_lt ?_ | with_reducible refine o_le ?_ | with_reducible refine o_gt ?_ | with_reducible refine o_ge ?_ | with_reducible refine o_neg ?_ | with_reducible refine o_idxt at0 ?_ | with_reducible refine o_idxt at1 ?_ | with_reducible refine o_idxt at2 ?_ | with_reducible refine o_tup ln0 ?_ | with_reducible refine o_tup ln1 ?_ | with_reducible refine o_tup ln2 ?_ | with_reducible refine o_tup ln3 ?_ | with_reducible refine s_cons ?_ | with_reducible refine s_nil ?_ | with_reducible refine s_asg ?_ | with_reducible refine s_ex ?_ | with_reducible refine s_ret ?_ | with_reducible refine s_ite ?_ | with_reducible refine g_nm ?_ | with_reducible refine g_cons ?_ | with_reducible refine g_nil ?_ | with_reducible refine g_tup (by with_unfolding_all rfl) (by with_unfolding_all rfl) ?_ | with_reducible refine g_sub ?_ | with_reducible refine g_fld ?_ | with_reducible refine r_and ?_ | with_reducible refine r_or ?_ | with_reducible refine r_not ?_ | with_reducible refine r_chn ?_ | with_reducible refine r_sl ?_ | with_reducible refine r_pt0 ?_ | with_reducible refine r_pt1 ?_ | with_reducible refine r_fstr ?_ | with_reducible refine r_j0 ?_ | with_reducible refine r_j1 ?_ | with_reducible refine r_mth ?_ | with_reducible refine r_exint ?_ | with_reducible refine r_exbl ?_ | with_reducible refine o_intb ?_ | with_reducible refine o_min ?_ | with_reducible refine s_for ?_ | with_reducible refine r_comp ?_ | with_reducible refine r_comp2 ?_ | with_reducible refine i_nil ?_ | with_reducible refine i_one ?_ | with_reducible refine w_valt ?_ | with_reducible refine w_vals ?_ | with_reducible refine w_enut ?_ | with_reducible refine w_zipt ?_)))
set_option Elab.async false
set_option linter.all false
set_option maxRecDepth 100000
set_option maxHeartbeats 1000000
/-! ### the law -/
theorem rows_mono : ∀ (l : List Th) (g : Lg) (n : Nat) (r : List (Nat × Pr)), g.rows[n]? = some r → ∃ r', (l.foldl stepT g).rows[n]? = some r' ∧ r.length ≤ r'.length
  | [], g, n, r, h => ⟨r, h, Nat.le_refl _⟩
  | t :: l, g, n, r, h => by
    have : ∃ r', (stepT g t).rows[n]? = some r' ∧ r.length ≤ r'.length := by
      cases t with
      | beg => exact ⟨r, by show (g.rows ++ [[]])[n]? = _; rw [List.getElem?_append_left (List.getElem?_eq_some_iff.mp h).1]; exact h, Nat.le_refl _⟩
      | did m j e =>
        show ∃ r', (g.rows.modify m _)[n]? = some r' ∧ _
        rw [List.getElem?_modify, h]
        by_cases z : m = n
        · exact ⟨r ++ [(j, e)], by simp [z], by simp⟩
        · exact ⟨r, by simp [z], Nat.le_refl _⟩
      | com m => exact ⟨r, h, Nat.le_refl _⟩
      | abo m => exact ⟨r, h, Nat.le_refl _⟩
    obtain ⟨r1, h1, l1⟩ := this
    obtain ⟨r2, h2, l2⟩ := rows_mono l _ n r1 h1
    exact ⟨r2, h2, Nat.le_trans l1 l2⟩
section
variable {ms : List (List St1)} {ts : List Th} {op : List Nat}
theorem Hist.small (h : Hist ms ts op) (l : ts.length ≤ 1000) : Small ts := ⟨fun i => Nat.le_trans (marks_mono ts i) h.few, l⟩
theorem Hist.shorts (h : Hist ms ts op) (i : Nat) : ∀ r ∈ (runT (ts.take i)).rows, r.length ≤ 12 := fun r m => by
  obtain ⟨n, hn⟩ := List.getElem?_of_mem m
  have e : runT ts = (ts.drop i).foldl stepT (runT (ts.take i)) := by
    unfold runT
    rw [← List.foldl_append, List.take_append_drop]
  obtain ⟨r', h1, h2⟩ := rows_mono (ts.drop i) _ n r hn
  rw [← e] at h1
  exact Nat.le_trans h2 (h.short r' (List.mem_of_getElem? h1))
structure Fine (ms : List (List St1)) (g : Lg) : Prop where
  row : ∀ r ∈ g.rows, ∀ x ∈ r, x.1 < ms.length ∧ WordP x.2
  bef : ∀ b ∈ g.befo, b.length ≤ 10 ∧ ∀ n ∈ b, n < 10
theorem fine_at (hv : ∀ sts ∈ ms, VK sts) (hk : HOk ms ts) (sm : Small ts) : ∀ i, i ≤ ts.length → Fine ms (runT (ts.take i))
  | 0, _ => ⟨fun r m => (nomatch m), fun b m => (nomatch m)⟩
  | i + 1, hi => by
    have ih := fine_at hv hk sm i (by omega)
    obtain ⟨t, ht⟩ : ∃ t, ts[i]? = some t := ⟨_, List.getElem?_eq_getElem (by omega)⟩
    rw [take_run ht]
    have tok := hk i t ht
    have few := sm.few i
    generalize runT (ts.take i) = g0 at *
    cases t with
    | beg =>
      refine ⟨fun r m => ?_, fun b m => ?_⟩
      · rcases List.mem_append.mp m with m | m
        · exact ih.row r m
        · rw [List.mem_singleton.mp m]; intro x mx; cases mx
      · rcases List.mem_append.mp m with m | m
        · exact ih.bef b m
        · rw [List.mem_singleton.mp m]
          refine ⟨?_, fun n mn => ?_⟩
          · unfold cos
            exact Nat.le_trans (List.length_filter_le _ _) (by rw [List.length_range]; exact few)
          · have := List.mem_range.mp (List.mem_filter.mp mn).1
            omega
    | did n j e =>
      obtain ⟨_, sts, h2, h3⟩ := tok
      have vk := hv sts (List.mem_of_getElem? h2)
      have w : WordP e := by
        obtain ⟨st, hs, p, hp, rfl⟩ := mem_evs.mp h3
        exact ⟨((vk.st st hs).w p hp).1, ((vk.st st hs).w p hp).2.1⟩
      refine ⟨fun r m x mx => ?_, ih.bef⟩
      rcases mem_modify m with m | ⟨y, hy, rfl⟩
      · exact ih.row r m x mx
      · rcases List.mem_append.mp mx with mx | mx
        · exact ih.row y (List.mem_of_getElem? hy) x mx
        · rw [List.mem_singleton.mp mx]
          exact ⟨(List.getElem?_eq_some_iff.mp h2).1, w⟩
    | com n => exact ⟨ih.row, ih.bef⟩
    | abo n => exact ⟨ih.row, ih.bef⟩
theorem rep_log (hm4 : ms.length ≤ 4) (hv : ∀ sts ∈ ms, VK sts) (h : Hist ms ts op) (l : ts.length ≤ 1000) : RepD 5 (logD ms ts) 20000 := by
  have fine := fine_at hv h.ok (h.small l) ts.length (Nat.le_refl _)
  rw [List.take_length] at fine
  have few := h.few
  have short := h.short
  obtain ⟨rl, bl⟩ := run_len ts
  unfold logD
  generalize runT ts = g at *
  have rA : ∀ r ∈ g.rows, ∀ x ∈ r, RepD 1 (dA x) 60 := fun r m x mx => by
    obtain ⟨h1, h2, h3⟩ := fine.row r m x mx
    exact .tup (.cons (.int (by omega) (Nat.le_refl 30)) (.cons (.str (word_str h2) h2.2.1) (.cons (.str (word_str h3) h3.2.1) (.nil (w := 0)) (Nat.le_refl _)) (Nat.le_refl _)) (by decide))
  have rR : ∀ r ∈ g.rows, RepD 2 (rowD r) 732 := fun r m => by
    refine .tup (RepDs.all (v := 60) (fun x mx => ?_) ?_)
    · obtain ⟨y, hy, rfl⟩ := List.mem_map.mp mx
      exact rA r m y hy
    · have := short r m
      rw [List.length_map]
      omega
  have rB : ∀ b ∈ g.befo, RepD 1 (.tup (nD b)) 310 := fun b m => by
    obtain ⟨h1, h2⟩ := fine.bef b m
    refine .tup (RepDs.all (v := 30) (fun x mx => ?_) ?_)
    · unfold nD at mx
      rw [List.map_map] at mx
      obtain ⟨n, hn, rfl⟩ := List.mem_map.mp mx
      have := h2 n hn
      exact .int (by omega) (Nat.le_refl _)
    · rw [nD_len]; omega
  have up1 : ∀ b, RepD 1 (.tup (nD b)) 310 → RepD 2 (.tup (nD b)) 310 := fun b h => by
    cases h with
    | tup h =>
      refine .tup ?_
      have : ∀ (l : List Nat) w, RepDs 0 (nD l) w → RepDs 1 (nD l) w := fun l => by
        induction l with
        | nil => intro w _; exact .nil
        | cons n l ih =>
          intro w h
          cases h with
          | cons a b c =>
            cases a with
            | int h1 h2 => exact .cons (.int h1 h2) (ih _ b) c
      exact this b _ h
  have rE : ∀ n, n < g.marks.length → RepD 3 (entry g n) 1100 := fun n lt => by
    obtain ⟨b, hb⟩ : ∃ b, g.befo[n]? = some b := ⟨_, List.getElem?_eq_getElem (by omega)⟩
    obtain ⟨r, hr⟩ : ∃ r, g.rows[n]? = some r := ⟨_, List.getElem?_eq_getElem (by omega)⟩
    unfold entry
    rw [List.getD_eq_getElem?_getD, List.getD_eq_getElem?_getD, hb, hr]
    exact .tup (.cons (.int (by omega) (Nat.le_refl 30)) (.cons (.bl (w := 0)) (.cons (up1 b (rB b (List.mem_of_getElem? hb))) (.cons (rR r (List.mem_of_getElem? hr)) (.nil (w := 0)) (Nat.le_refl _)) (Nat.le_refl _)) (Nat.le_refl _)) (by decide))
  have rZ : RepDs 4 [D.tup [D.tup (List.replicate ms.length (D.int 0))], D.tup ((liveI g g.marks.length).map (entry g))] 20000 := by
    refine .cons (u := 1000) (.tup (.cons (u := 200) (v := 0) (.tup (RepDs.all (v := 30) (fun x m => ?_) ?_)) .nil (by decide))) (.cons (u := 11010) (v := 0) (.tup (RepDs.all (v := 1100) (fun x m => ?_) ?_)) .nil (Nat.le_refl _)) (by decide)
    · rw [(List.mem_replicate.mp m).2]
      exact .int (i := 0) (by decide) (Nat.le_refl _)
    · rw [List.length_replicate]; omega
    · obtain ⟨n, hn, rfl⟩ := List.mem_map.mp m
      unfold liveI at hn
      exact rE n (List.mem_range.mp (List.mem_filter.mp hn).1)
    · rw [List.length_map]
      have : (liveI g g.marks.length).length ≤ g.marks.length := by unfold liveI; exact Nat.le_trans (List.length_filter_le _ _) (by rw [List.length_range]; exact Nat.le_refl _)
      omega
  exact .tup rZ
end
theorem FeedAt.notL {S : Sto} {a b c : Addr} {o : O} (h : FeedAt S a b) (e : S c = some o) (n : ∀ xs, o ≠ .lst xs) : c ≠ a ∧ c ≠ b := by
  obtain ⟨w, m, cs, h1, h2, _⟩ := h
  exact ⟨fun z => by rw [z, h1] at e; exact n _ (Option.some.inj e).symm, fun z => by rw [z, h2] at e; exact n _ (Option.some.inj e).symm⟩
theorem KindAt.fr {S S' : Sto} {a b u : Addr} {sts : List St1} {cs : List Nat} (h : KindAt S u sts cs) (d : FeedAt S a b) (f : Fr a b S S') : KindAt S' u sts cs := by
  obtain ⟨m, e, l, dd⟩ := h
  have keep : ∀ c o, S c = some o → (∀ xs, o ≠ .lst xs) → S' c = some o := fun c o e n => let ⟨n1, n2⟩ := d.notL e n; f c o n1 n2 e
  exact ⟨m, keep _ _ e fun xs z => (nomatch z), l, fun j st r h1 h2 => keep _ _ (dd j st r h1 h2) fun xs z => (nomatch z)⟩
section
variable {k : Nat} {St : Sto} {Q : WD} {Ex : WX}
theorem lawP {s : Addr} {ns : List Int} (h : at_ St s = some (.lst (ns.map D.int))) (hn : ns.length ≤ 63) (q : ∀ S', Q (.bl true) S') : phi T (k + 8) 40 [.ref s] St Q Ex := by
  refine phi_at (fn := f40) rfl rfl (show 1 ≤ 8 by decide) ?_
  show wSs T _ b40 _ [some (.ref s), none, none, none, none, none, none, none] _
  unfold b40
  bv_omega
  refine o_call rfl rfl (deck h hn fun a b S1 d1 g1 => ?_)
  bv_omega
  refine w_rng (by decide) ?_
  refine loop_list ((List.range 6).map fun (k : Nat) => D.int (0 + (k : Int))) (fun i ρ S' => ∃ x2 x3 x4 x5 x6 x7, ρ = [some (.ref s), some (.ref a), x2, x3, x4, x5, x6, x7] ∧ FeedAt S' a b) ⟨_, _, _, _, _, _, rfl, d1⟩ (fun i acc S' _ _ => src_range) (fun i x ρ S2 Q' hx I hq => ?_) fun ρ S2 I => ?_
  · obtain ⟨x2, x3, x4, x5, x6, x7, rfl, d2⟩ := I
    obtain ⟨i', hi', rfl⟩ := List.mem_map.mp (List.mem_of_getElem? hx)
    bv_omega
    refine o_call rfl rfl (system d2 fun p ms S3 hv hl hp ep d3 f3 => ?_)
    obtain ⟨pa, pb⟩ := d2.ne hp
    bv_omega
    refine w_valr (seq_lst ep) ?_
    refine loop_list (ms.map dStates) (fun i acc S' => Ge S3 S' ∧ ∃ hs : List Addr, acc = hs.map (fun u => [D.ref u]) ∧ hs.length = i ∧ ∀ (j : Nat) (sts : List St1) (u : Addr), ms[j]? = some sts → hs[j]? = some u → ∃ cs, KindAt S' u sts cs) ⟨.refl, [], rfl, rfl, fun j sts u _ h => (nomatch h)⟩ (fun i acc S' _ I => src_ref (I.1 _ _ ep)) (fun i d acc S' Q2 hd I hq2 => ?_) fun acc S' I => ?_
    · obtain ⟨g, hs, rfl, hi, hk⟩ := I
      rw [List.getElem?_map] at hd
      obtain ⟨sts, hst, rfl⟩ := Option.map_eq_some_iff.mp hd
      have lt := (List.getElem?_eq_some_iff.mp hst).1
      bv_omega
      refine m_own (y := .cls 3) (g := 17) rfl ?_ (phi_mono _ _)
      bv_omega
      rw [call_at (fn := f17) rfl rfl]
      refine kindOf (hv sts (List.mem_of_getElem? hst)) fun u cs S5 hu pt k5 g5 => ?_
      bv_omega
      refine ⟨by show (hs.map _).length < sizeLine; rw [List.length_map, sizeLine_eq]; omega, hq2 _ _ ⟨g.trans g5, hs ++ [u], by rw [List.map_append]; rfl, by rw [List.length_append, hi]; rfl, fun j s v h1 h2 => ?_⟩⟩
      by_cases lj : j < hs.length
      · rw [List.getElem?_append_left lj] at h2
        obtain ⟨cs', kk⟩ := hk j s v h1 h2
        exact ⟨cs', kk.ge g5⟩
      · rw [List.getElem?_append_right (by omega)] at h2
        cases z : j - hs.length with
        | zero =>
          rw [z] at h2
          cases h2
          have : j = i := by omega
          subst this
          rw [hst] at h1
          cases h1
          exact ⟨cs, k5⟩
        | succ n => rw [z] at h2; cases h2
    · obtain ⟨g, hs, rfl, hi, hk⟩ := I
      rw [List.length_map] at hi
      refine fin_new fun w S4 hw g4 e4 => ?_
      have e4 : S4 w = some (.lst (hs.map .ref)) := by
        rw [e4]
        refine congrArg (fun l => some (O.lst l)) ?_
        rw [List.map_map]
        rfl
      bv_omega
      refine o_tuple (seq_lst e4) ?_
      have hh : HouseAt S4 hs ms := ⟨hi, fun j sts u h1 h2 => let ⟨cs, kk⟩ := hk j sts u h1 h2; ⟨cs, kk.ge g4⟩⟩
      have d4 := d3.ge (g.trans g4)
      have p4 := g4 _ _ (g _ _ ep)
      subst_eqs
      refine wE_cut (R := fun d S' => S' = S4 ∧ ∃ n : Nat, d = .int n ∧ n ≤ 1000) ?_ (phi_mono _ _) fun d S5 hR => ?_
      · bv_omega
        refine t_cond (fun _ => ?_) fun _ => ?_
        · bv_omega
          exact ⟨rfl, 30, rfl, by decide⟩
        · bv_omega
          exact ⟨rfl, 200, rfl, by decide⟩
      obtain ⟨rfl, n, rfl, hn⟩ := hR
      bv_omega
      refine o_call rfl rfl (history hn hv hl p4 ⟨pa, pb⟩ d4 fun ts op S6 hi6 l6 d6 f6 => ?_)
      have p6 := f6 p _ pa pb p4
      have hh6 : HouseAt S6 hs ms := ⟨hh.1, fun j sts u h1 h2 => by
        obtain ⟨cs, kk⟩ := hh.2 j sts u h1 h2
        exact ⟨cs, kk.fr d4 f6⟩⟩
      bv_omega
      refine o_call rfl rfl (due hv hl.2 p6 hi6.ok (hi6.small l6) hi6.shorts fun S7 g7 => ?_)
      bv_omega
      have rep := rep_log hl.2 hv hi6 l6
      refine o_reprD rep (by decide) (by decide) ?_
      bv_omega
      refine o_call rfl rfl (logOf hv hl.2 (hh6.ge g7) hi6.ok (hi6.small l6) hi6.shorts fun S8 g8 => ?_)
      bv_omega
      refine o_reprD rep (by decide) (by decide) ?_
      bv_omega
      refine o_nesF ?_
      bv_omega
      refine o_call rfl rfl (logOf hv hl.2 (hh6.ge (g7.trans g8)) hi6.ok (hi6.small l6) hi6.shorts fun S9 g9 => ?_)
      bv_omega
      refine o_reprD rep (by decide) (by decide) ?_
      bv_omega
      refine o_nesF ?_
      bv_omega
      exact hq _ _ ⟨_, _, _, _, _, _, rfl, d6.ge ((g7.trans g8).trans g9)⟩
  · obtain ⟨x2, x3, x4, x5, x6, x7, rfl, d2⟩ := I
    refine fin_for ?_
    bv_omega
    exact q _
end
theorem plain : PlainLaw L.T 40 20 := fun a ns S Q Ex hn h _ q => lawP (k := 13) h hn q
end K14
set_option Elab.async false
set_option linter.all false
set_option maxRecDepth 100000
set_option maxHeartbeats 0
namespace K14
open PySem PySem.Spec PyProof.Rows L2 PD
def lawF : Nat := 40
theorem facts {P : Program} {w : World} {h : Heap} {mg : Str → Option Value} {fa : Addr} (hp : PlainLaw L.T lawF 20) (G : h.Ns mainGlobals mg) (hmg : mg ("law" : Str) = some (.ref fa)) (Y : ∃ K : PySem.W.Frag, K.In h ∧ L.exB K = true ∧ He5.SaysA [] L.fns K) :
    ∃ K : PySem.W.Frag, K.In h ∧ LawG PySem.Challenge.rw_waitkinds_k14_logs_of_histories w K 63 mg fa := by
  obtain ⟨K, KX, hx, hs⟩ := Y
  exact ⟨K, KX, lawG (f := lawF) (k := 20) (fn := f40) KX G hx hs fb nb rfl rfl hmg (by kernel_rfl) (fun a => rfl) ⟨⟨rfl, by decide, by decide⟩, rfl⟩ hp⟩
end K14
open PySem PySem.W PySem.Calls PyProof.Rows
theorem holds_of (hp : PD.PlainLaw K14.L.T K14.lawF 20) : PySem.Challenge.rw_waitkinds_k14_logs_of_histories.Holds := by
  w_on; o_law
  refine HandSHeadRun.head_any (r := OpenLaw.row PySem.Challenge.rw_waitkinds_k14_logs_of_histories) (q := view (OpenLaw.row PySem.Challenge.rw_waitkinds_k14_logs_of_histories).prog [46]) (H := K14.hk) (ob := K14.ob) (M := 3000) (loose := K14.loose) (d := HandSHeadRun.topDef (OpenLaw.row PySem.Challenge.rw_waitkinds_k14_logs_of_histories).prog 46) (kwd := []) K14.ob_eq
    (by kernel_rfl) (fun s => by kernel_rfl) K14.run (by kernel_rfl) (by kernel_rfl) (by kernel_rfl) (by rfl) (by first | assumption | decide +kernel) (by decide +kernel) ⟨rfl, rfl, rfl, rfl, rfl, by decide +kernel⟩ ?hw ?hc
  case hw => w_witness2
  case hc =>
    refine PD.walkG (l := PySem.Challenge.rw_waitkinds_k14_logs_of_histories) (n := 63) rfl (by decide) (by kernel_rfl) ?F
    intro w mg fa h Y G hmg0
    have hmg : mg ("law" : PySem.Str) = some (.ref fa) := by
      have e : (HandSHeadRun.topDef (OpenLaw.row PySem.Challenge.rw_waitkinds_k14_logs_of_histories).prog 46).name = ("law" : PySem.Str) := by kernel_rfl
      rw [← e]
      exact hmg0
    exact K14.facts (P := (PySem.Challenge.rw_waitkinds_k14_logs_of_histories).prog) hp G hmg Y
theorem PySem.Challenge.cw_waitkinds_k14_logs_of_histories_holds : PySem.Challenge.rw_waitkinds_k14_logs_of_histories.Holds := by
  exact holds_of K14.plain
