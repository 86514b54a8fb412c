import PyProof.Rows.All
import Wide.All
import OpenK.AllK
import Wide.FinOn
import KE.KeyNested
import KE.SortData
import HandS.ForMost
import HandS.TupSets
import HandS.SetBool
import HandS.SetKeys
import KE.KSuper
import HandS.Defaults
import KE.GoesMore
import KE.GoesZip
import HandS.Zip
import HandS.HeadHook1
import HandS.HeadHook2
import HandS.HeadHook3
import HandS.HeadHook4
import HandS.Star
import HandS.Deep
import HandS.IsInst
import HandS.MakeKwOnly
import PySem.Challenge.RW_oncethrough_k85_whole_looks_of_long_read
import KE.KStateDown
import HandS.Head0
import HandS.Head1
import HandS.Head2
import HandS.HeadEnd
import HandS.Walk
import HandS.Conv
import HandS.Codes
import HandS.TupAny
import HandS.DictComp
set_option Elab.async false
set_option linter.all false
set_option maxRecDepth 100000
set_option maxHeartbeats 4000000
/-! Sets whose members are tuples of texts, numbers, bools and tuples of these. -/
namespace K85
open PySem PySem.Spec PyProof.Rows L2

/-- the tuple at a is the key k -/
def IsN (h : Heap) (k : NestedKey) (a : Addr) : Prop := NestedIs h k (.ref a) ∧ k.depth ≤ 8
def pairsN (w : World) (L : List (Addr × NestedKey)) : List (Int × Value) := L.map fun p => (p.2.hash w, Value.ref p.1)
theorem pairsN_len (w : World) (L : List (Addr × NestedKey)) : (pairsN w L).length = L.length := by
  unfold pairsN; exact List.length_map _
theorem pairsN_at {w : World} {L : List (Addr × NestedKey)} {i : Nat} {p : Addr × NestedKey} (h : L[i]? = some p) : (pairsN w L)[i]? = some (p.2.hash w, Value.ref p.1) := by
  unfold pairsN; rw [List.getElem?_map, h]; rfl
theorem IsN.old {h h' : Heap} {k : NestedKey} {a : Addr} (x : IsN h k a) (kp : ∀ b o vs n, h.get? b = some o → o.data = .seq vs n → h'.get? b = some o) : IsN h' k a := ⟨NestedIs.at kp k _ x.1, x.2⟩
theorem IsN.keep {h h' : Heap} {k : NestedKey} {a : Addr} (x : IsN h k a) (kp : ∀ b o, h.get? b = some o → h'.get? b = some o) : IsN h' k a := x.old fun b o _ _ e _ => kp b o e
theorem IsN.one {h : Heap} {k k' : NestedKey} {a : Addr} (x : IsN h k a) (y : IsN h k' a) : k = k' := NestedIs.inj _ _ _ x.1 y.1
theorem IsN.but {h h' : Heap} {k : NestedKey} {a b : Addr} {o : Obj} {es : Array (Int × Value)} {ep : Nat} {t : SetTable} (x : IsN h k a) (ho : h.get? b = some o) (hd : o.data = .set es ep t) (hs : Heap.SameBut b h h') : IsN h' k a :=
  x.old fun c oc vs n e z => by
    have ne : c ≠ b := fun q => by
      rw [q, ho] at e
      cases e
      rw [hd] at z
      cases z
    exact (hs.2 c ne).trans e

section
variable {P : Program} {w : World} {A : Around} {E : Value → Shared → Prop} {s : Shared}

mutual
/-- a key is no class statement's -/
theorem stmtN : ∀ (k : NestedKey) (v : Value) (n : Nat) (s : Shared) (E : Value → Shared → Prop) (Q : Bool → Shared → Prop), NestedIs s.heap k v → k.depth ≤ n → Q false s → wpAny (model P w) A (ofAClassStatement n v) Q E s
  | .none, _, n, s, E, Q, x, _, q => by
    cases x
    cases n <;> exact wpAny_pure q
  | .num i, _, n, s, E, Q, x, _, q => by
    cases x <;> cases n <;> exact wpAny_pure q
  | .text y, _, n, s, E, Q, x, _, q => by
    cases x
    cases n <;> exact wpAny_pure q
  | .tup ks, _, 0, s, E, Q, x, hn, q => absurd hn (by simp [NestedKey.depth])
  | .tup ks, _, n + 1, s, E, Q, x, hn, q => by
    cases x with
    | @tup b o vs m _ ho hc hd hk =>
      have hn2 : NestedKey.depthAll ks ≤ n := by
        simp only [NestedKey.depth] at hn
        omega
      have hT : s.TypeIs (.ref b) "tuple" := ⟨o, ho, hc⟩
      unfold ofAClassStatement
      refine wpAny_bind (wpAny_typeOf hT ?_)
      dsimp only
      have e : (("tuple" : String) == "tuple") = true := by decide
      simp only [e, if_true, Bool.not_true, Bool.false_eq_true, if_false]
      try refine wpAny_bind (wpAny_pure ?_)
      try simp only [Bool.not_true, Bool.false_eq_true, if_false]
      show wpAny _ _ (seqItems? (.ref b) >>= _) _ _ s
      refine wpAny_bind (wpAny_seqItems ho hd ?_)
      dsimp only
      refine wpAny_bind ?_
      show wpAny _ _ (forIn vs _ _) _ _ s
      rw [← Array.forIn_toList]
      have each := stmtAllN ks vs.toList n hk hn2
      refine wpAny_forIn_list _ (fun rest r s' => r.1 = none ∧ s' = s ∧ ∀ v ∈ rest, v ∈ vs.toList) _ ?_ ?_ _ _ ⟨rfl, rfl, fun _ hv => hv⟩
      · rintro v rest r s' ⟨hr, rfl, hall⟩
        refine wpAny_bind (each v (hall v List.mem_cons_self) _ _ ?_)
        simp only [Bool.false_eq_true, if_false]
        exact wpAny_pure ⟨rfl, rfl, fun u hu => hall u (List.mem_cons_of_mem _ hu)⟩
      · rintro ⟨r1, r2⟩ s' ⟨hr, rfl, _⟩
        simp only at hr
        subst hr
        exact wpAny_pure q
theorem stmtAllN : ∀ (ks : List NestedKey) (vs : List Value) (n : Nat) {s : Shared}, NestedAll s.heap ks vs → NestedKey.depthAll ks ≤ n → ∀ v ∈ vs, ∀ (E : Value → Shared → Prop) (Q : Bool → Shared → Prop), Q false s → wpAny (model P w) A (ofAClassStatement n v) Q E s
  | [], _, n, s, x, _, v, hv, E, Q, q => by cases x; cases hv
  | k :: ks, _, n, s, x, hn, v, hv, E, Q, q => by
    cases x with
    | cons x1 x2 =>
      simp only [NestedKey.depthAll] at hn
      rcases List.mem_cons.mp hv with e | hv
      · rw [e]; exact stmtN k _ n s E Q x1 (by omega) q
      · exact stmtAllN ks _ n x2 (by omega) v hv E Q q
end
mutual
/-- whether a key's hash is the value's own: either answer -/
theorem byValN : ∀ (k : NestedKey) (v : Value) (n : Nat) (s : Shared) (E : Value → Shared → Prop) (Q : Bool → Shared → Prop), NestedIs s.heap k v → (∀ b, Q b s) → wpAny (model P w) A (hashByValue n v) Q E s
  | .none, _, n, s, E, Q, x, q => by
    cases x
    cases n <;> exact wpAny_pure (q _)
  | .num i, _, n, s, E, Q, x, q => by
    cases x <;> cases n <;> exact wpAny_pure (q _)
  | .text y, _, n, s, E, Q, x, q => by
    cases x
    cases n <;> exact wpAny_pure (q _)
  | .tup ks, _, 0, s, E, Q, x, q => by
    cases x
    exact wpAny_pure (q _)
  | .tup ks, _, n + 1, s, E, Q, x, q => by
    cases x with
    | @tup b o vs m _ ho hc hd hk =>
      have hT : s.TypeIs (.ref b) "tuple" := ⟨o, ho, hc⟩
      unfold hashByValue
      refine wpAny_bind (wpAny_specialOf hT F.slot_tuple_hash.lookup ?_)
      show wpAny _ _ (seqItems? (.ref b) >>= _) _ _ s
      refine wpAny_bind (wpAny_seqItems ho hd ?_)
      refine wpAny_bind ?_
      show wpAny _ _ (forIn vs _ _) _ _ s
      rw [← Array.forIn_toList]
      have each := byValAllN ks vs.toList n hk
      refine wpAny_forIn_list _ (fun rest r s' => r.1 = none ∧ s' = s ∧ ∀ v ∈ rest, v ∈ vs.toList) _ ?_ ?_ _ _ ⟨rfl, rfl, fun _ hv => hv⟩
      · rintro v rest r s' ⟨hr, rfl, hall⟩
        refine wpAny_bind (each v (hall v List.mem_cons_self) _ _ fun b => ?_)
        cases b with
        | true =>
          simp only [Bool.not_true, Bool.false_eq_true, if_false]
          exact wpAny_pure ⟨rfl, rfl, fun u hu => hall u (List.mem_cons_of_mem _ hu)⟩
        | false =>
          simp only [Bool.not_false, if_true]
          refine wpAny_pure ?_
          dsimp only
          exact wpAny_pure (q _)
      · rintro ⟨r1, r2⟩ s' ⟨hr, rfl, _⟩
        simp only at hr
        subst hr
        exact wpAny_pure (q _)
theorem byValAllN : ∀ (ks : List NestedKey) (vs : List Value) (n : Nat) {s : Shared}, NestedAll s.heap ks vs → ∀ v ∈ vs, ∀ (E : Value → Shared → Prop) (Q : Bool → Shared → Prop), (∀ b, Q b s) → wpAny (model P w) A (hashByValue n v) Q E s
  | [], _, n, s, x, v, hv, E, Q, q => by cases x; cases hv
  | k :: ks, _, n, s, x, v, hv, E, Q, q => by
    cases x with
    | cons x1 x2 =>
      rcases List.mem_cons.mp hv with e | hv
      · rw [e]; exact byValN k _ n s E Q x1 q
      · exact byValAllN ks _ n x2 v hv E Q q
end
/-- a search among keys shows nothing of the table -/
theorem unseenN {k : NestedKey} {b : Addr} {Q : Bool → Shared → Prop} (hk : IsN s.heap k b) {ys : List Value} (hy : ∀ y ∈ ys, ∃ k' c, y = Value.ref c ∧ IsN s.heap k' c) (q : Q false s) : wpAny (model P w) A (searchCouldBeSeen (.ref b) ys) Q E s := by
  unfold searchCouldBeSeen
  refine wpAny_bind ?_
  refine wpAny_forIn_list _ (fun rest r s' => r.1 = none ∧ s' = s ∧ ∀ y ∈ rest, ∃ k' c, y = Value.ref c ∧ IsN s.heap k' c) _ ?_ ?_ _ _ ⟨rfl, rfl, hy⟩
  · rintro v rest r s' ⟨hr, rfl, hall⟩
    obtain ⟨k', c, rfl, hc⟩ := hall v List.mem_cons_self
    have more : ∀ y ∈ rest, ∃ k' c, y = Value.ref c ∧ IsN s'.heap k' c := fun u hu => hall u (List.mem_cons_of_mem _ hu)
    dsimp only
    by_cases hv : (b == c || (carriedByValue (.ref b) && carriedByValue (.ref c))) = true
    · refine wp_if_pos hv ?_
      exact wpAny_pure ⟨rfl, rfl, more⟩
    · refine wp_if_neg hv ?_
      refine wpAny_bind ((nestedKind P w).quiet hk ?_)
      simp only [Bool.not_true, Bool.false_eq_true, if_false]
      refine wpAny_bind ((nestedKind P w).quiet hc ?_)
      simp only [Bool.not_true, Bool.false_eq_true, if_false]
      refine wpAny_bind (stmtN k _ 8 s' _ _ hk.1 hk.2 ?_)
      simp only [Bool.false_eq_true, if_false]
      refine wpAny_bind (stmtN k' _ 8 s' _ _ hc.1 hc.2 ?_)
      simp only [Bool.false_eq_true, if_false]
      exact wpAny_pure ⟨rfl, rfl, more⟩
  · rintro ⟨r1, r2⟩ s' ⟨hr, rfl, _⟩
    simp only at hr
    subst hr
    exact wpAny_pure q
end

/-! ### the set -/
structure SetN (w : World) (h : Heap) (a : Addr) (L : List (Addr × NestedKey)) (es : Array (Int × Value)) (ep : Nat) (t : SetTable) : Prop where
  ob : ∃ o, h.get? a = some o ∧ o.ExactSet ∧ o.data = .set es ep t
  rows : es.toList = pairsN w L
  tab : TabOk t (L.map fun p => p.2.hash w)
  nd : (L.map (·.2)).Nodup
  tup : ∀ p ∈ L, IsN h p.2 p.1
  led : w.params.followText "set-order" = true ∨ t.led = true
  room : L.length * 5 < t.mask * 3
section
variable {P : Program} {w : World} {A : Around} {E : Value → Shared → Prop} {s : Shared}
variable {a : Addr} {L : List (Addr × NestedKey)} {es : Array (Int × Value)} {ep : Nat} {t : SetTable} {h : Heap}
theorem SetN.size (R : SetN w h a L es ep t) : es.size = L.length := by
  have q := congrArg List.length R.rows
  rw [Array.length_toList, pairsN_len] at q
  exact q
theorem SetN.fits (R : SetN w h a L es ep t) : t.fits es.size = true := by
  have h1 := R.tab.sz
  rw [List.length_map] at h1
  have h2 := R.size
  have h3 := R.room
  unfold SetTable.fits SetTable.fill
  rw [R.tab.dm, Bool.and_eq_true, beq_iff_eq, decide_eq_true_eq]
  show t.place.size = es.size ∧ t.place.size + 0 ≤ t.mask
  omega
theorem SetN.entry (R : SetN w h a L es ep t) {i : Nat} {p : Addr × NestedKey} (q : L[i]? = some p) : es[i]? = some (p.2.hash w, Value.ref p.1) := by
  rw [← Array.getElem?_toList, R.rows]
  exact pairsN_at q
theorem SetN.gw (R : SetN w h a L es ep t) : ¬ t.gaveWay = true := by
  unfold SetTable.gaveWay
  rw [mask_odd R.tab.mok]
  decide
theorem SetN.most (R : SetN w h a L es ep t) : L.length ≤ 76 := by
  have h1 := R.room
  rcases R.tab.mok with e | e | e <;> rw [e] at h1 <;> omega
abbrev fstP (m : Nat) (x : Int) : SetTable.Probe := runAt m (SetTable.bits x % (m + 1)) (SetTable.bits x)

/-- the search from the c-th step on -/
theorem findN (R : SetN w s.heap a L es ep t) {x : Addr} {k : NestedKey} {ad : Bool} (hx : IsN s.heap k x) (hu : A.units + 8 < cLine) {K : Nat} (hKf : K < 10 * SetTable.turns t.mask)
    (hK : way t.mask (k.hash w) K ∉ t.place.toList) (hKb : ∀ c, c < K → way t.mask (k.hash w) c ∈ t.place.toList) {Q : SetFound → Shared → Prop}
    (hin : k ∈ L.map (·.2) → ∀ o, Q (.there o) s) (hout : k ∉ L.map (·.2) → Q (.free (way t.mask (k.hash w) K) false) s) :
    ∀ (f c : Nat) (stand : Option SetTable.Probe), stand.getD (t.probeStart (k.hash w)) = nth t.mask (fstP t.mask (k.hash w)) c → c ≤ K → K - c < f →
      (∀ (i : Nat) p, L[i]? = some p → p.2 = k → ∃ c', c ≤ c' ∧ c' < K ∧ t.place.toList[i]? = some (way t.mask (k.hash w) c')) →
      wpAny (model P w) A (setSearchFrom a (.ref x) (k.hash w) ad f stand) Q E s
  | 0, c, stand, _, _, hf, _ => absurd hf (Nat.not_lt_zero _)
  | f + 1, c, stand, hst, hc, hf, hre => by
    obtain ⟨o, ho, hex, hd⟩ := R.ob
    rw [setSearchFrom_succ]
    refine wpAny_bind (wpAny_setState_of ho hd R.fits ?_)
    dsimp only
    refine wp_if_neg R.gw ?_
    try refine wpAny_bind (wpAny_pure ?_)
    have hnd : (nth t.mask (fstP t.mask (k.hash w)) c).dummy = none := by
      have key : ∀ (n : Nat) (p : SetTable.Probe), p.dummy = none → (nth t.mask p n).dummy = none := by
        intro n
        induction n with
        | zero => intro p q; exact q
        | succ n ih =>
          intro p q
          refine ih (adv t.mask p) ?_
          unfold adv
          split <;> exact q
      exact key c _ rfl
    have sh : ∀ q, nth t.mask (nth t.mask (fstP t.mask (k.hash w)) c) q = nth t.mask (fstP t.mask (k.hash w)) (c + q) := fun q => (nth_add t.mask c _ q).symm
    have e1 : ∀ q, (nth t.mask (nth t.mask (fstP t.mask (k.hash w)) c) q).j = way t.mask (k.hash w) (c + q) := fun q => congrArg SetTable.Probe.j (sh q)
    have spec := go_spec t R.tab.ris R.tab.dm (fun i => (es[i]?.map (·.1)).getD 0) (k.hash w) (10 * SetTable.turns t.mask) (K - c) _ hnd (by omega)
      (fun q hq => by rw [e1]; exact hKb (c + q) (by omega)) (by rw [e1, show c + (K - c) = K by omega]; exact hK)
    have hashAt : ∀ (i : Nat) p, L[i]? = some p → (fun i => (es[i]?.map (·.1)).getD 0) i = p.2.hash w := fun i p hp => by
      show (es[i]?.map (·.1)).getD 0 = _
      rw [R.entry hp] <;> rfl
    rcases spec with ⟨q, i, hq, hi, hh, hno, hpr⟩ | ⟨hno, hpr⟩
    · have hpr' : t.probe (fun i => (es[i]?.map (·.1)).getD 0) (k.hash w) (stand.getD (t.probeStart (k.hash w))) = some (.candidate (way t.mask (k.hash w) (c + q)) i (nth t.mask (fstP t.mask (k.hash w)) (c + (q + 1)))) := by
        rw [hst, ← e1, ← sh]
        exact hpr
      rw [hpr']
      dsimp only
      rw [e1] at hi
      have hil : i < L.length := by
        have h1 : i < t.place.toList.length := (List.getElem?_eq_some_iff.mp hi).1
        have h2 := R.tab.sz
        rw [List.length_map] at h2
        rw [Array.length_toList] at h1
        omega
      have hp : L[i]? = some L[i] := List.getElem?_eq_getElem hil
      generalize hpe : L[i] = p at hp
      have hmem : p ∈ L := List.mem_of_getElem? hp
      have hpt := R.tup p hmem
      have hsl : t.slot (way t.mask (k.hash w) (c + q)) = .live i := slot_live R.tab.ris hi
      have go : wpAny (model P w) A (searchRest a (.ref x) (k.hash w) ad f es t (way t.mask (k.hash w) (c + q)) i (nth t.mask (fstP t.mask (k.hash w)) (c + (q + 1)))) Q E s := by
        unfold searchRest
        rw [R.entry hp]
        dsimp only
        refine wpAny_bind (wpAny_holding ((nestedKind P w).eqBool hu hpt hx ?_))
        refine wpAny_bind (wpAny_setState_of ho hd R.fits ?_)
        dsimp only
        by_cases hkk : p.2 = k
        · have hm : k ∈ L.map (·.2) := List.mem_map.mpr ⟨p, hmem, hkk⟩
          cases ad with
          | true =>
            refine wp_if_pos (by simp [hkk]) ?_
            exact wpAny_pure (hin hm _)
          | false =>
            refine wp_if_neg (by simp) ?_
            try refine wpAny_bind (wpAny_pure ?_)
            rw [sameMem]
            dsimp only
            simp only [if_true, hsl, R.entry hp]
            refine wpAny_bind (wpAny_isSame_ref_self (wpAny_bind (wpAny_pure ?_)))
            simp only [if_true]
            refine wp_if_pos (by simp [hkk]) ?_
            exact wpAny_pure (hin hm _)
        · refine wp_if_neg (by simp [hkk]) ?_
          try refine wpAny_bind (wpAny_pure ?_)
          rw [sameMem]
          dsimp only
          simp only [if_true, hsl, R.entry hp]
          refine wpAny_bind (wpAny_isSame_ref_self (wpAny_bind (wpAny_pure ?_)))
          simp only [if_true]
          refine wp_if_neg (by simp [hkk]) ?_
          refine findN R hx hu hKf hK hKb hin hout f (c + (q + 1)) _ rfl (by omega) (by omega) fun i0 p0 h0 hk0 => ?_
          obtain ⟨c', a1, a2, a3⟩ := hre i0 p0 h0 hk0
          refine ⟨c', ?_, a2, a3⟩
          rcases Nat.lt_or_ge c' (c + q) with z | z
          · exfalso
            refine hno (c' - c) i0 (by omega) (by rw [e1, show c + (c' - c) = c' by omega]; exact a3) ?_
            exact (hashAt i0 p0 h0).trans (congrArg (fun u => NestedKey.hash w u) hk0)
          · rcases Nat.lt_or_ge (c + q) c' with y | y
            · omega
            · exfalso
              have ec : c' = c + q := Nat.le_antisymm y z
              rw [ec] at a3
              have s0 := slot_live R.tab.ris a3
              rw [hsl] at s0
              injection s0 with s0
              rw [← s0, hp] at h0
              exact hkk ((congrArg Prod.snd (Option.some.inj h0)).trans hk0)
      by_cases hl : t.led = true
      · refine wp_if_neg (by simp [hl]) ?_
        try refine wpAny_bind (wpAny_pure ?_)
        exact go
      · refine wp_if_pos (by simp [hl]) ?_
        refine wpAny_bind (unseenN hx (fun y hy => ?_) ?_)
        · obtain ⟨e, he, ee⟩ := List.mem_map.mp hy
          have he1 : e ∈ es ∧ e.1 = k.hash w := by simpa using he
          have he2 : e ∈ es.toList := by simpa using he1.1
          rw [R.rows] at he2
          obtain ⟨p2, hp2, e2⟩ := List.mem_map.mp he2
          refine ⟨p2.2, p2.1, ?_, R.tup p2 hp2⟩
          rw [← ee, ← e2]
        · refine wp_if_neg (by decide) ?_
          try refine wpAny_bind (wpAny_pure ?_)
          exact go
    · have hpr' : t.probe (fun i => (es[i]?.map (·.1)).getD 0) (k.hash w) (stand.getD (t.probeStart (k.hash w))) = some (.empty (way t.mask (k.hash w) K) none) := by
        have e2 : way t.mask (k.hash w) K = (nth t.mask (nth t.mask (fstP t.mask (k.hash w)) c) (K - c)).j := by
          rw [e1, show c + (K - c) = K by omega]
        rw [hst, e2]
        exact hpr
      rw [hpr']
      dsimp only
      refine wpAny_pure (hout fun hm => ?_)
      obtain ⟨p0, h0, hk0⟩ := List.mem_map.mp hm
      obtain ⟨i0, hi0, e0⟩ := List.getElem_of_mem h0
      have h00 : L[i0]? = some p0 := by rw [List.getElem?_eq_getElem hi0, e0]
      obtain ⟨c', a1, a2, a3⟩ := hre i0 p0 h00 hk0
      refine hno (c' - c) i0 (by omega) (by rw [e1, show c + (c' - c) = c' by omega]; exact a3) ?_
      exact (hashAt i0 p0 h00).trans (congrArg (fun u => NestedKey.hash w u) hk0)
/-- the whole search -/
theorem seekN (R : SetN w s.heap a L es ep t) {x : Addr} {k : NestedKey} {ad : Bool} (hx : IsN s.heap k x) (hu : A.units + 8 < cLine) {Q : SetFound → Shared → Prop}
    (hin : k ∈ L.map (·.2) → ∀ o, Q (.there o) s)
    (hout : ∀ K, k ∉ L.map (·.2) → way t.mask (k.hash w) K ∉ t.place.toList → (∀ c, c < K → way t.mask (k.hash w) c ∈ t.place.toList) → Q (.free (way t.mask (k.hash w) K) false) s) :
    wpAny (model P w) A (setSearch a (.ref x) (k.hash w) ad) Q E s := by
  have hroom := R.room
  obtain ⟨K, hKf, hK, hKb⟩ := R.tab.first (by rw [List.length_map]; omega) (k.hash w)
  have hbig : K < 100000 := by
    have : 10 * SetTable.turns t.mask ≤ 1420 := by
      unfold SetTable.turns
      rcases R.tab.mok with e | e | e <;> omega
    omega
  unfold setSearch
  refine findN R hx hu hKf hK hKb hin (fun hn => hout K hn hK hKb) 100000 0 none rfl (Nat.zero_le _) (by omega) fun i p hp hk => ?_
  have hi : (L.map fun p => p.2.hash w)[i]? = some (k.hash w) := by rw [List.getElem?_map, hp, ← hk] <;> rfl
  have hil : i < t.place.toList.length := by
    have h1 : i < L.length := (List.getElem?_eq_some_iff.mp hp).1
    have h2 := R.tab.sz
    rw [List.length_map] at h2
    rw [Array.length_toList]
    omega
  have hj := List.getElem?_eq_getElem hil
  obtain ⟨c, hc, e⟩ := R.tab.before hK hi hj
  exact ⟨c, Nat.zero_le _, hc, by rw [hj, e]⟩
end
end K85

set_option Elab.async false
set_option linter.all false
set_option maxRecDepth 100000
set_option maxHeartbeats 4000000
namespace K85
open PySem PySem.Spec PyProof.Rows L2
section
variable {P : Program} {w : World} {A : Around} {E : Value → Shared → Prop} {s : Shared}
theorem pairsN_put (w : World) (L : List (Addr × NestedKey)) (p : Nat) (x : Addr) (k : NestedKey) : pairsN w (L.take p ++ (x, k) :: L.drop p) = (pairsN w L).take p ++ (k.hash w, Value.ref x) :: (pairsN w L).drop p := by
  unfold pairsN
  rw [List.map_append, List.map_cons, List.map_take, List.map_drop]
theorem permN (w : World) (L : List (Addr × NestedKey)) (es : Array (Int × Value)) (order : Array Nat) (hr : es.toList = pairsN w L) (hp : order.toList.Perm (List.range L.length)) :
    ∃ L2, (order.filterMap (es[·]?)).toList = pairsN w L2 ∧ L2.Perm L ∧ (L2.map fun p => p.2.hash w) = order.toList.map fun i => (es.map (·.1)).getD i 0 := by
  have hsz : es.size = L.length := by
    have q := congrArg List.length hr
    rw [Array.length_toList, pairsN_len] at q
    exact q
  have ent : ∀ i (q : i < L.length), es[i]? = some ((L[i]).2.hash w, Value.ref (L[i]).1) := fun i q => by
    rw [← Array.getElem?_toList, hr]
    exact pairsN_at (List.getElem?_eq_getElem q)
  have key : ∀ l : List Nat, (∀ i ∈ l, i < L.length) → ∃ L2 : List (Addr × NestedKey), l.filterMap (fun i => es[i]?) = pairsN w L2 ∧ L2 = l.filterMap (fun i => L[i]?) ∧ (L2.map fun p => p.2.hash w) = l.map fun i => (es.map (·.1)).getD i 0 := by
    intro l
    induction l with
    | nil => intro _; exact ⟨[], rfl, rfl, rfl⟩
    | cons i l ih =>
      intro hl
      have hi := hl i List.mem_cons_self
      obtain ⟨L2, e1, e2, e3⟩ := ih fun j hj => hl j (List.mem_cons_of_mem _ hj)
      refine ⟨L[i] :: L2, ?_, ?_, ?_⟩
      · rw [List.filterMap_cons_some (ent i hi), e1] <;> rfl
      · rw [List.filterMap_cons_some (List.getElem?_eq_getElem hi), e2]
      · rw [List.map_cons, List.map_cons, e3]
        have e4 : (es.map (·.1)).getD i 0 = (L[i]).2.hash w := by
          have e5 : (es.map (·.1))[i]? = some ((L[i]).2.hash w) := by rw [Array.getElem?_map, ent i hi] <;> rfl
          simp [Array.getD_eq_getD_getElem?, e5]
        rw [e4]
  obtain ⟨L2, e1, e2, e3⟩ := key order.toList fun i hi => List.mem_range.mp (hp.mem_iff.mp hi)
  refine ⟨L2, by first | (rw [Array.toList_filterMap]; exact e1) | simpa using e1, ?_, e3⟩
  have h1 : L2.Perm ((List.range L.length).filterMap fun i => L[i]?) := by
    rw [e2]
    exact hp.filterMap _
  have h2 : (List.range L.length).filterMap (fun i => L[i]?) = L := by
    have key2 : ∀ n, n ≤ L.length → (List.range n).filterMap (fun i => L[i]?) = L.take n := by
      intro n
      induction n with
      | zero => intro _; rfl
      | succ n ih =>
        intro hn
        have hlt : n < L.length := hn
        rw [List.range_succ, List.filterMap_append, ih (Nat.le_of_lt hlt), List.take_succ, List.getElem?_eq_getElem hlt]
        rw [List.filterMap_cons_some (List.getElem?_eq_getElem hlt)] <;> rfl
    rw [key2 L.length (Nat.le_refl _), List.take_length]
  rw [h2] at h1
  exact h1
/-- two tables that differ at most in what isn't looked at here -/
structure Alike (t u : SetTable) : Prop where
  place : u.place = t.place
  dm : u.dummies = t.dummies
  mask : u.mask = t.mask
  led : u.led = t.led
theorem Alike.ok {t u : SetTable} {hs : List Int} (x : Alike t u) (T : TabOk t hs) : TabOk u hs where
  ris := by rw [x.place]; exact T.ris
  dm := by rw [x.dm]; exact T.dm
  sz := by rw [x.place]; exact T.sz
  mok := by rw [x.mask]; exact T.mok
  bd := by rw [x.place, x.mask]; exact T.bd
  reach := by rw [x.place, x.mask]; exact T.reach
variable {a : Addr} {L : List (Addr × NestedKey)} {es : Array (Int × Value)} {ep : Nat} {t : SetTable}
theorem relayN {o : Obj} (ho : s.heap.get? a = some o) (hex : o.ExactSet) (hd : o.data = .set es ep t) (hrows : es.toList = pairsN w L) (hsz : t.place.size = es.size) (hdm : t.dummies = #[]) (hfl : es.size ≤ t.mask)
    (nd : (L.map (·.2)).Nodup) (tup : ∀ p ∈ L, IsN s.heap p.2 p.1) (ld : w.params.followText "set-order" = true ∨ t.led = true) (few : L.length ≤ 76) {wanted M : Nat}
    (hw : SetTable.sizeAbove wanted - 1 = M) (hM : MaskOk M) (hw2 : SetTable.sizeAbove wanted ≤ 128) (hn : L.length * 5 < M * 3) {Q : Unit → Shared → Prop}
    (hQ : ∀ h' L' es' ep' t', Heap.SameBut a s.heap h' → SetN w h' a L' es' ep' t' → L'.Perm L → Q () { s with heap := h' }) : wpAny (model P w) A (setRelay a wanted) Q E s := by
  have hsl : es.size = L.length := by
    have q := congrArg List.length hrows
    rw [Array.length_toList, pairsN_len] at q
    exact q
  have hfits : t.fits es.size = true := by
    unfold SetTable.fits SetTable.fill
    rw [hdm, Bool.and_eq_true, beq_iff_eq, decide_eq_true_eq]
    show t.place.size = es.size ∧ t.place.size + 0 ≤ t.mask
    omega
  obtain ⟨t', order, e, hp, T, em, el, ep', ed⟩ := relaid_ok t (hs := es.map (·.1)) (wanted := wanted) hw hM (by rw [Array.size_map, hsl]; omega)
  rw [Array.size_map, hsl] at hp
  obtain ⟨L2, r1, r2, r3⟩ := permN w L es order hrows hp
  rw [← r3] at T
  have hs2 : (order.filterMap (es[·]?)).size = es.size := by
    have q := congrArg List.length r1
    rw [Array.length_toList, pairsN_len, r2.length_eq] at q
    rw [q, hsl]
  rw [setRelay_eq]
  refine wpAny_bind (wpAny_setState_of ho hd hfits ?_)
  dsimp only
  refine wp_if_neg (by rw [sizeLine_eq]; omega) ?_
  try refine wpAny_bind (wpAny_pure ?_)
  rw [e]
  dsimp only
  refine wpAny_bind ?_
  refine wp_if_neg (by rw [hs2]; simp) ?_
  try refine wpAny_bind (wpAny_pure ?_)
  refine wpAny_pure ?_
  dsimp only
  refine wpAny_storeSet_of ho hd ?_ (by rw [hs2, hsl, sizeLine_eq]; omega)
  have sb : Heap.SameBut a s.heap (s.heap.update a (Obj.putSet (order.filterMap (es[·]?)) t')) := Heap.SameBut.update ..
  refine hQ _ L2 (order.filterMap (es[·]?)) (ep + 1) t' sb ?_ r2
  refine ⟨⟨_, store_at ho hd, ⟨hex.1, hex.2.1, hex.2.2⟩, rfl⟩, r1, T, ?_, fun p hpm => (tup p (r2.mem_iff.mp hpm)).but ho hd sb, by rw [el]; exact ld, ?_⟩
  · exact (r2.map (·.2)).nodup_iff.mpr nd
  · rw [r2.length_eq, em]
    exact hn

/-- one is put in -/
theorem putN (R : SetN w s.heap a L es ep t) {x : Addr} {k : NestedKey} (hx : IsN s.heap k x) (hu : A.units + 8 < cLine) (hfew : L.length + 1 ≤ 76) {Q : Bool → Shared → Prop}
    (hQ : ∀ b h' L' es' ep' t', Heap.SameBut a s.heap h' → SetN w h' a L' es' ep' t' → (k ∈ L.map (·.2) → L' = L) → (k ∉ L.map (·.2) → L'.Perm ((x, k) :: L)) → Q b { s with heap := h' }) :
    wpAny (model P w) A (setAddHashed a (.ref x) (k.hash w)) Q E s := by
  obtain ⟨o, ho, hex, hd⟩ := R.ob
  have hsl := R.size
  have hroom := R.room
  unfold setAddHashed
  refine wpAny_holding ?_
  rw [show (100000 : Nat) = 99999 + 1 from rfl, setAddHashedIn_succ]
  refine wpAny_bind (wpAny_setState_of ho hd R.fits ?_)
  dsimp only
  refine wp_if_neg (by simp [byScan, Value.scannable]) ?_
  try refine wpAny_bind (wpAny_pure ?_)
  refine wpAny_bind (seekN R hx hu (fun hm o => ?_) fun K hm hK hb => ?_)
  · dsimp only
    exact wpAny_pure (hQ false s.heap L es ep t (Heap.SameBut.refl a s.heap) R (fun _ => rfl) fun z => absurd hm z)
  · dsimp only
    refine wpAny_bind (wpAny_setState_of ho hd R.fits ?_)
    dsimp only
    obtain ⟨q1, q2, q3, q4, q5, q6, q7, q8, q9⟩ := R.tab.put hK hb
    generalize hpt : t.put (way t.mask (k.hash w) K) = pt at q1 q3 q4 q5 q6 q7 q8 q9 ⊢
    obtain ⟨t1, p⟩ := pt
    dsimp only at q1 q3 q4 q5 q6 q7 q8 q9 ⊢
    subst q1
    have hin : (SetTable.insertAt es (SetTable.below t.place (way t.mask (k.hash w) K)) (k.hash w, Value.ref x)).toList = pairsN w (L.take (SetTable.below t.place (way t.mask (k.hash w) K)) ++ (x, k) :: L.drop (SetTable.below t.place (way t.mask (k.hash w) K))) := by
      rw [SetTable.toList_insertAt, pairsN_put, R.rows]
    generalize hpp : SetTable.below t.place (way t.mask (k.hash w) K) = p at q2 q3 hin ⊢
    have pm := put_perm L p (x, k)
    have hlen : (L.take p ++ (x, k) :: L.drop p).length = L.length + 1 := pm.length_eq
    have hhs : (L.take p ++ (x, k) :: L.drop p).map (fun p => p.2.hash w) = (L.map fun p => p.2.hash w).take p ++ k.hash w :: (L.map fun p => p.2.hash w).drop p := by
      rw [List.map_append, List.map_cons, List.map_take, List.map_drop]
    rw [← hhs] at q3
    have nd1 : ((L.take p ++ (x, k) :: L.drop p).map (·.2)).Nodup := by
      refine (pm.map (·.2)).nodup_iff.mpr ?_
      rw [List.map_cons]
      exact List.nodup_cons.mpr ⟨hm, R.nd⟩
    have hes : (SetTable.insertAt es p (k.hash w, Value.ref x)).size = L.length + 1 := by
      have q := congrArg List.length hin
      rw [Array.length_toList, pairsN_len, hlen] at q
      exact q
    generalize SetTable.insertAt es p (k.hash w, Value.ref x) = es1 at hin hes ⊢
    generalize L.take p ++ (x, k) :: L.drop p = L1 at pm hlen q3 nd1 hin
    have fin : ∀ t2 : SetTable, Alike t1 t2 → wpAny (model P w) A (do
        storeSet a es1 t2
        if !false && t2.tooFull then setRelay a (SetTable.grown (es.size + 1))
        return true) Q E s := fun t2 al => by
      refine wpAny_bind (wpAny_storeSet_of ho hd ?_ (by rw [hes, sizeLine_eq]; omega))
      have sb : Heap.SameBut a s.heap (s.heap.update a (Obj.putSet es1 t2)) := Heap.SameBut.update ..
      have ho1 := store_at (es' := es1) (t' := t2) ho hd
      generalize s.heap.update a (Obj.putSet es1 t2) = h1 at sb ho1 ⊢
      have tup1 : ∀ p ∈ L1, IsN h1 p.2 p.1 := fun p hp => by
        rcases List.mem_cons.mp (pm.mem_iff.mp hp) with e | hp
        · rw [e]; exact hx.but ho hd sb
        · exact (R.tup p hp).but ho hd sb
      have ld1 : w.params.followText "set-order" = true ∨ t2.led = true := by rw [al.led, q5]; exact R.led
      have T2 := al.ok q3
      have fill2 : t2.fill = L.length + 1 := by
        have e : t2.fill = t1.fill := by
          unfold SetTable.fill
          rw [al.place, al.dm]
        rw [e, q9, List.length_map]
      have m2 : t2.mask = t.mask := al.mask.trans q4
      by_cases hf : t2.tooFull = true
      · first
          | (refine wpAny_bind ?_; refine wp_if_pos (by simp [hf]) ?_)
          | (refine wp_if_pos (by simp [hf]) ?_; refine wpAny_bind ?_)
        have hfull : (L.length + 1) * 5 ≥ t2.mask * 3 := by
          have q := hf
          unfold SetTable.tooFull at q
          rw [decide_eq_true_eq, fill2] at q
          exact q
        rw [hsl]
        have hsz1 : t2.place.size = es1.size := by
          have q := T2.sz
          rw [List.length_map, hlen] at q
          rw [q, hes]
        have cases2 : (t.mask = 7 ∧ L.length = 4) ∨ (t.mask = 31 ∧ L.length = 18) := by
          rcases R.tab.mok with e | e | e
          · left; rw [m2, e] at hfull; rw [e] at hroom; exact ⟨e, by omega⟩
          · right; rw [m2, e] at hfull; rw [e] at hroom; exact ⟨e, by omega⟩
          · exfalso; rw [m2, e] at hfull; omega
        have go : ∀ M, SetTable.sizeAbove (SetTable.grown (L.length + 1)) - 1 = M → MaskOk M → SetTable.sizeAbove (SetTable.grown (L.length + 1)) ≤ 128 → (L.length + 1) * 5 < M * 3 →
            wpAny (model P w) A (setRelay a (SetTable.grown (L.length + 1))) (fun _ s' => wpAny (model P w) A (pure true) Q E s') E { s with heap := h1 } := fun M h1' h2' h3' h4' => by
          refine relayN (s := { s with heap := h1 }) ho1 ⟨hex.1, hex.2.1, hex.2.2⟩ rfl hin hsz1 T2.dm (by rw [hes, m2]; rcases cases2 with ⟨e, e2⟩ | ⟨e, e2⟩ <;> omega) nd1 tup1 ld1 (by rw [hlen]; exact hfew) h1' h2' h3' (by rw [hlen]; exact h4') ?_
          intro h2 L2 es2 ep2 t2 sb2 R2 pm2
          refine wpAny_pure (hQ true h2 L2 es2 ep2 t2 (sb.trans sb2) R2 (fun z => absurd z hm) fun _ => pm2.trans pm)
        rcases cases2 with ⟨_, e2⟩ | ⟨_, e2⟩
        · refine go 31 (by rw [e2, size_20]) (.inr (.inl rfl)) (by rw [e2, size_20]; decide) (by omega)
        · refine go 127 (by rw [e2, size_76]) (.inr (.inr rfl)) (by rw [e2, size_76]; decide) (by omega)
      · first
          | refine wp_if_neg (by simp [hf]) ?_
          | (refine wpAny_bind ?_; refine wp_if_neg (by simp [hf]) ?_; refine wpAny_pure ?_)
        refine wpAny_pure (hQ true h1 L1 es1 (ep + 1) t2 sb ⟨⟨_, ho1, ⟨hex.1, hex.2.1, hex.2.2⟩, rfl⟩, hin, T2, nd1, tup1, ld1, ?_⟩ (fun z => absurd z hm) fun _ => pm)
        have q := hf
        unfold SetTable.tooFull at q
        rw [decide_eq_true_eq, fill2] at q
        rw [hlen]
        omega
    have fin2 : ∀ b : Bool, wpAny (model P w) A (do
        storeSet a es1 (if b then t1 else { t1 with plain := false })
        if !false && (if b then t1 else { t1 with plain := false }).tooFull then setRelay a (SetTable.grown (es.size + 1))
        return true) Q E s := fun b => by
      cases b with
      | true => exact fin t1 ⟨rfl, rfl, rfl, rfl⟩
      | false => exact fin { t1 with plain := false } ⟨rfl, rfl, rfl, rfl⟩
    by_cases hpl : t1.plain = true
    · first
        | (refine wpAny_bind ?_; refine wp_if_pos hpl ?_; exact byValN k _ 8 s _ _ hx.1 fin2)
        | exact wp_if_pos hpl (wpAny_bind (byValN k _ 8 s _ _ hx.1 fin2))
    · first
        | (refine wpAny_bind ?_; refine wp_if_neg hpl ?_; exact wpAny_pure (fin2 true))
        | exact wp_if_neg hpl (wpAny_bind (wpAny_pure (fin2 true)))
/-- hash and put in -/
theorem setAddN (R : SetN w s.heap a L es ep t) {x : Addr} {k : NestedKey} (hx : IsN s.heap k x) (hu : A.units + 8 < cLine) (hfew : L.length + 1 ≤ 76) {Q : Bool → Shared → Prop}
    (hQ : ∀ b h' tk L' es' ep' t', Heap.SameBut a s.heap h' → SetN w h' a L' es' ep' t' → (k ∈ L.map (·.2) → L' = L) → (k ∉ L.map (·.2) → L'.Perm ((x, k) :: L)) → Q b { s with heap := h', toks := tk }) :
    wpAny (model P w) A (setAdd a (.ref x)) Q E s := by
  unfold setAdd
  refine wpAny_holding ?_
  refine wpAny_bind ((nestedKind P w).pyHash hu hx ?_)
  exact putN (s := { s with toks := s.toks + k.draws }) R hx hu hfew fun b h' L' es' ep' t' h1 h2 h3 h4 => hQ b h' _ L' es' ep' t' h1 h2 h3 h4
theorem setN_fresh {h : Heap} {a : Addr} (ho : h.get? a = some { cls := .type "set", dict := none, data := .set #[] 0 (.fresh 0 0 (!w.params.followText "set-order")) }) : SetN w h a [] #[] 0 (.fresh 0 0 (!w.params.followText "set-order")) where
  ob := ⟨_, ho, ⟨rfl, rfl, rfl⟩, rfl⟩
  rows := rfl
  tab := ⟨List.Pairwise.nil, rfl, rfl, .inl rfl, fun x hx => (by cases hx), fun i h j hi => (by simp at hi)⟩
  nd := List.nodup_nil
  tup := fun p hp => (by cases hp)
  led := by
    show _ ∨ (!w.params.followText "set-order") = true
    cases w.params.followText "set-order"
    · exact .inr rfl
    · exact .inl rfl
  room := by
    show 0 * 5 < 7 * 3
    decide
theorem SetN.keep {h h' : Heap} (R : SetN w h a L es ep t) (ha : ∀ o, h.get? a = some o → h'.get? a = some o) (ht : ∀ p ∈ L, IsN h' p.2 p.1) : SetN w h' a L es ep t := by
  obtain ⟨o, ho, r⟩ := R.ob
  exact ⟨⟨o, ha o ho, r⟩, R.rows, R.tab, R.nd, ht, R.led, R.room⟩
end
end K85

set_option Elab.async false
set_option linter.all false
set_option maxRecDepth 100000
set_option maxHeartbeats 4000000
namespace K85
open PySem PySem.Spec PyProof.Rows L2
/-! ### data as keys -/
mutual
def keyOf : PyData → NestedKey
  | .none => .none
  | .bool b => .num (if b = true then 1 else 0)
  | .int i => .num i
  | .str x => .text x
  | .tuple ds => .tup (keysOf ds)
  | .list _ => .none
  | .dict _ => .none
def keysOf : List PyData → List NestedKey
  | [] => []
  | d :: ds => keyOf d :: keysOf ds
end
mutual
def keyable : PyData → Bool
  | .none => true
  | .bool _ => true
  | .int _ => true
  | .str _ => true
  | .tuple ds => keyables ds
  | .list _ => false
  | .dict _ => false
def keyables : List PyData → Bool
  | [] => true
  | d :: ds => keyable d && keyables ds
end
section
variable {X : Cx} {pins : List (Addr × Obj)} {σ : L2.St} {H : Hp} {s : Shared}
mutual
theorem dpKey (I : Inv X pins σ H s) : ∀ (d : PyData) (v : V) (u : Value), keyable d = true → Dp X.K H v d → RelV v u → NestedIs s.heap (keyOf d) u
  | .none, _, _, _, h, r => by
    cases h
    cases r
    exact .none
  | .bool b, _, _, _, h, r => by
    cases h
    cases r
    exact .bool rfl
  | .int i, _, _, _, h, r => by
    cases h
    obtain ⟨t, rfl⟩ := r
    exact .int i t
  | .str x, _, _, _, h, r => by
    cases h
    obtain ⟨t, rfl⟩ := r
    exact .text x t
  | .list ds, _, _, k, h, r => by cases k
  | .tuple ds, _, _, k, h, r => by
    cases h with
    | tup hs ha =>
      cases r
      obtain ⟨its, rv, ⟨o, ho, hc, n, hd⟩, _⟩ := I.tuple hs
      exact .tup ho hc hd (dpKeys I ds _ its k ha rv)
  | .dict _, _, _, k, h, _ => by cases k
theorem dpKeys (I : Inv X pins σ H s) : ∀ (ds : List PyData) (vs : List V) (us : List Value), keyables ds = true → DpAll X.K H vs ds → Vals vs us → NestedAll s.heap (keysOf ds) us
  | [], _, _, _, h, r => by
    cases h
    cases r
    exact .nil
  | d :: ds, _, _, k, h, r => by
    rw [keyables, Bool.and_eq_true] at k
    cases h with
    | cons h1 h2 =>
      cases r with
      | cons r1 r2 => exact .cons (dpKey I d _ _ k.1 h1 r1) (dpKeys I ds _ _ k.2 h2 r2)
end
end
/-- a datum that may be a member -/
def Mem8 (d : PyData) : Prop := keyable d = true ∧ (keyOf d).depth ≤ 8
abbrev keyL (L : List (Addr × PyData)) : List (Addr × NestedKey) := L.map fun p => (p.1, keyOf p.2)
theorem keyL_mem {L : List (Addr × PyData)} {q : Addr × NestedKey} (h : q ∈ keyL L) : ∃ p ∈ L, q = (p.1, keyOf p.2) := by
  obtain ⟨p, hp, e⟩ := List.mem_map.mp h
  exact ⟨p, hp, e.symm⟩
theorem keyL_snd (L : List (Addr × PyData)) : (keyL L).map (·.2) = L.map fun p => keyOf p.2 := by rw [List.map_map] <;> rfl
theorem keyL_len (L : List (Addr × PyData)) : (keyL L).length = L.length := List.length_map _
/-- the members stand readable -/
def Mems (K : PySem.W.Frag) (H : Hp) (L : List (Addr × PyData)) : Prop := ∀ p ∈ L, Dp K H (.ref p.1) p.2 ∧ Mem8 p.2
/-- the set itself, without its members -/
structure SetD0 (w : World) (h : Heap) (a : Addr) (L : List (Addr × PyData)) : Prop where
  ex : ∃ (es : Array (Int × Value)) (ep : Nat) (t : SetTable), (∃ o, h.get? a = some o ∧ o.ExactSet ∧ o.data = .set es ep t) ∧ es.toList = pairsN w (keyL L) ∧ TabOk t ((keyL L).map fun p => p.2.hash w) ∧ ((keyL L).map (·.2)).Nodup ∧
    (w.params.followText "set-order" = true ∨ t.led = true) ∧ (keyL L).length * 5 < t.mask * 3
def SetDO (w : World) (a : Addr) (L : List (Addr × PyData)) : HO := .ext fun h => SetD0 w h a L
theorem setD0_of {w : World} {h : Heap} {a : Addr} {L : List (Addr × PyData)} {es : Array (Int × Value)} {ep : Nat} {t : SetTable} (R : SetN w h a (keyL L) es ep t) : SetD0 w h a L :=
  ⟨es, ep, t, R.ob, R.rows, R.tab, R.nd, R.led, R.room⟩
theorem setD_new {P : Program} {w : World} {H : Hp} {h : Heap} {a : Addr} {L : List (Addr × PyData)} (R : SetD0 w h a L) : ObjOk P w H h a (SetDO w a L) := by
  have ⟨es, ep, t, ⟨o, ho, r⟩, q⟩ := R.ex
  refine ⟨R, ⟨o, ho⟩, fun h1 h2 p k => ?_⟩
  have ⟨es', ep', t', ⟨o', ho', r'⟩, q'⟩ := SetD0.ex p
  exact ⟨es', ep', t', ⟨o', k o' ho', r'⟩, q'⟩
/-- a list of the same keys, drawn back to data -/
theorem keyL_back {L : List (Addr × PyData)} {L' : List (Addr × NestedKey)} (hs : ∀ q ∈ L', q ∈ keyL L) : ∃ M, L' = keyL M ∧ ∀ p ∈ M, p ∈ L := by
  induction L' with
  | nil => exact ⟨[], rfl, fun p hp => (by cases hp)⟩
  | cons q L' ih =>
    obtain ⟨p, hp, e⟩ := keyL_mem (hs q List.mem_cons_self)
    obtain ⟨M, e2, hM⟩ := ih fun r hr => hs r (List.mem_cons_of_mem _ hr)
    refine ⟨p :: M, by show q :: L' = (p.1, keyOf p.2) :: keyL M; rw [← e, e2], fun r hr => ?_⟩
    rcases List.mem_cons.mp hr with z | z
    · rw [z]; exact hp
    · exact hM r z
section
variable {X : Cx} {pins : List (Addr × Obj)} {σ : L2.St} {H : Hp} {s : Shared}
theorem memN (I : Inv X pins σ H s) {b : Addr} {d : PyData} (h : Dp X.K H (.ref b) d) (m : Mem8 d) : IsN s.heap (keyOf d) b := ⟨dpKey I d _ (.ref b) m.1 h rfl, m.2⟩
theorem memsN (I : Inv X pins σ H s) {L : List (Addr × PyData)} (h : Mems X.K H L) : ∀ p ∈ keyL L, IsN s.heap p.2 p.1 := fun q hq => by
  obtain ⟨p, hp, rfl⟩ := keyL_mem hq
  exact memN I (h p hp).1 (h p hp).2
theorem setN_get (I : Inv X pins σ H s) {a : Addr} {L : List (Addr × PyData)} (ha : H a = some (SetDO X.w a L)) (hL : Mems X.K H L) : ∃ es ep t, SetN X.w s.heap a (keyL L) es ep t := by
  have R0 : SetD0 X.w s.heap a L := (I.hok a _ ha).1
  obtain ⟨es, ep, t, h1, h2, h3, h4, h5, h6⟩ := R0.ex
  exact ⟨es, ep, t, h1, h2, h3, h4, memsN I hL, h5, h6⟩
end
section
variable {X : Cx}
/-- set() -/
def rSet0D (w : World) : List V → Hp → VK → Prop := fun xs H Q => xs = [] ∧ ∀ p, H p = none → Q (.ref p) (upd H p (SetDO w p []))
theorem cr_set0D : CallR X (.type "set") (rSet0D X.w) := by
  intro pins s σ H xs us Q I r h
  obtain ⟨rfl, q⟩ := h
  cases r
  refine setR_new fun _ => ?_
  have new := setD0_of (L := []) (setN_fresh (w := X.w) (h := s.heap.push { cls := .type "set", dict := none, data := .set #[] 0 (.fresh 0 0 (!X.w.params.followText "set-order")) }) (Heap.get?_push_size _ rfl))
  exact ⟨.ref _, upd H s.heap.objs.size (SetDO X.w s.heap.objs.size []), I.laid (t' := s.toks) (fun b u e => Heap.get?_push_of_some _ e) (Nat.le_refl _) (setD_new new), rfl, q _ (I.hok.fresh (Nat.le_refl _))⟩
/-- k in a set -/
theorem setContainsN {P : Program} {w : World} {A : Around} {E : Value → Shared → Prop} {s : Shared} {a x : Addr} {L : List (Addr × NestedKey)} {es : Array (Int × Value)} {ep : Nat} {t : SetTable} {k : NestedKey} (R : SetN w s.heap a L es ep t) (hx : IsN s.heap k x) (hu : A.units + 9 < cLine) {Q : Value → Shared → Prop}
    (h : ∀ tk, k ∉ L.map (·.2) → Q (.bool false) { s with toks := tk }) (hno : k ∉ L.map (·.2)) : wpAny (model P w) A (compareOp .In (.ref x) (.ref a)) Q E s := by
  obtain ⟨o, ho, hex, hd⟩ := R.ob
  have hu1 : A.in1.units + 8 < cLine := by rw [Around.in1_units]; omega
  have hT : s.TypeIs (.ref a) "set" := ⟨o, ho, hex.1⟩
  show wpAny _ _ (do return .bool (← contains (.ref a) (.ref x))) Q E s
  refine wpAny_bind ?_
  unfold contains
  try with_reducible refine wpAny_holding ?_
  refine wpAny_bind (wpAny_specialOf hT F.slot_set_contains.lookup ?_)
  show wpAny _ _ (if (some (Value.builtin "set.__contains__") == some Value.none) = true then _ else _) _ E s
  rw [if_neg (by rw [beq_builtin_none]; exact Bool.false_ne_true)]
  refine wpAny_bind (wpAny_callSpecialUnlessNone?_slot (name := Str.ofString "__contains__") hT F.slot_set_contains
    (wpAny_call_entry F.slot_set_contains hT entry_set_contains ?_ (F.args_set_contains_2 _ _)))
  unfold Builtin.«frozenset.__contains__» Builtin.Frozenset.oneOther
  simp only [List.isEmpty_nil, bind_assoc]
  unfold Builtin.Frozenset.addrOf Builtin.Frozenset.withSetAsKey setContains
  refine wpAny_bind (wpAny_pure ?_)
  try dsimp only
  refine wpAny_bind (wpAny_pure ?_)
  try dsimp only
  refine wpAny_bind (wpAny_tryCatch ?_)
  refine wpAny_holding ?_
  refine wpAny_bind ((nestedKind P w).pyHash (A := A.in1) hu1 hx ?_)
  unfold setFind
  rw [show (100000 : Nat) = 99999 + 1 from rfl]
  unfold setFindIn
  refine wpAny_bind (wpAny_bind (wpAny_setState_of ho hd R.fits ?_))
  dsimp only
  refine wp_if_neg (by simp [byScan, Value.scannable]) ?_
  try refine wpAny_bind (wpAny_pure ?_)
  refine wpAny_bind (seekN (s := { s with toks := s.toks + k.draws }) R hx hu1 (fun hm => absurd hm hno) fun K hm hK hb => ?_)
  dsimp only
  refine wpAny_pure ?_
  refine wpAny_pure ?_
  show wpAny _ _ (ret (Value.bool false)) _ _ _
  exact wpAny_pure ⟨_, rfl, wpAny_truthy_bool (wpAny_pure (h _ hm))⟩
def rSInD (K : PySem.W.Frag) (w : World) : V → V → Hp → VK → Prop := fun x y H Q => ∃ (b a : Addr) (d : PyData) (L : List (Addr × PyData)), x = V.ref b ∧ y = V.ref a ∧ H a = some (SetDO w a L) ∧ Mems K H L ∧ Dp K H (.ref b) d ∧ Mem8 d ∧ (keyOf d ∉ L.map fun p => keyOf p.2) ∧ Q (.bl false) H
theorem or_sinD (hu : X.A.units + 64 < cLine) : OpR X (compareOp .In) (rSInD X.K X.w) := by
  intro pins s σ H x y v u Q I rx ry h
  obtain ⟨b, a, d, L, rfl, rfl, ha, hL, hd, m, hno, q⟩ := h
  cases rx
  cases ry
  obtain ⟨es, ep, t, R⟩ := setN_get I ha hL
  exact setContainsN R (memN I hd m) (by omega) (fun tk _ => ⟨.bl false, H, I.tok _, rfl, q⟩) (by rw [keyL_snd]; exact hno)
/-- the call set.add -/
theorem callAddN {P : Program} {w : World} {A : Around} {E : Value → Shared → Prop} {s : Shared} {a x : Addr} {L : List (Addr × NestedKey)} {es : Array (Int × Value)} {ep : Nat} {t : SetTable} {k : NestedKey} (R : SetN w s.heap a L es ep t) (hx : IsN s.heap k x) (hu : A.units + 9 < cLine) (hfew : L.length + 1 ≤ 76) {Q : Value → Shared → Prop}
    (hQ : ∀ h' tk L' es' ep' t', Heap.SameBut a s.heap h' → SetN w h' a L' es' ep' t' → (k ∈ L.map (·.2) → L' = L) → (k ∉ L.map (·.2) → L'.Perm ((x, k) :: L)) → Q .none { s with heap := h', toks := tk }) :
    wpAny (model P w) A (call (.builtin "set.add") [.ref a, .ref x]) Q E s := by
  obtain ⟨o, ho, hex, hd⟩ := R.ob
  refine wpAny_call_entry F.slot_set_add ⟨o, ho, hex.1⟩ F.entry_set_add ?_ (F.args_set_add_2 _ _)
  unfold Builtin.«set.add» Builtin.Frozenset.oneOther
  simp only [List.isEmpty_nil, bind_assoc]
  unfold Builtin.Frozenset.addrOf
  refine wpAny_bind (wpAny_pure ?_)
  try dsimp only
  refine wpAny_bind (wpAny_pure ?_)
  try dsimp only
  refine wpAny_bind (setAddN R hx (A := A.in1) (by rw [Around.in1_units]; omega) hfew fun b h' tk L' es' ep' t' h1 h2 h3 h4 => ?_)
  show wpAny _ _ (ret Value.none) _ _ _
  exact wpAny_pure ⟨_, rfl, hQ h' tk L' es' ep' t' h1 h2 h3 h4⟩
end
end K85

set_option Elab.async false
set_option linter.all false
set_option maxRecDepth 100000
set_option maxHeartbeats 4000000
namespace K85
open PySem PySem.Spec PyProof.Rows L2
/-! ### sorted -/
structure SortOk (L : List (Addr × PyData)) : Prop where
  al : PySem.W.AllAlike (L.map (·.2))
  so : PySem.W.Sortable (L.map (·.2))
  dp : ∀ p ∈ L, p.2.depth ≤ 8
abbrev srt (L : List (Addr × PyData)) : List (Addr × PyData) := L.mergeSort (PySem.W.dataLe false (·.2))
theorem SortOk.perm {L M : List (Addr × PyData)} (x : SortOk L) (p : M.Perm L) : SortOk M where
  al := fun d hd e he => x.al d ((p.map _).mem_iff.mp hd) e ((p.map _).mem_iff.mp he)
  so := by
    rcases x.so with h | h
    · exact .inl fun d hd => h d ((p.map _).mem_iff.mp hd)
    · exact .inr fun d hd => h d ((p.map _).mem_iff.mp hd)
  dp := fun q hq => x.dp q (p.mem_iff.mp hq)
theorem valsRefs {α : Type} {f : α → Addr} : ∀ {L : List α} {us : List Value}, Vals (L.map fun p => V.ref (f p)) us → us = L.map fun p => Value.ref (f p)
  | [], _, .nil => rfl
  | p :: L, _, .cons r t => by
    cases r
    rw [valsRefs t] <;> rfl
theorem refsVals {α : Type} {f : α → Addr} : ∀ (L : List α), Vals (L.map fun p => V.ref (f p)) (L.map fun p => Value.ref (f p))
  | [] => .nil
  | p :: L => .cons rfl (refsVals L)
theorem eachSelf {α β : Type} {R : β → α → Prop} {f : α → β} : ∀ {L : List α}, (∀ p ∈ L, R (f p) p) → PySem.W.EachIs R (L.map f) L
  | [], _ => .nil
  | p :: L, h => .cons (h p List.mem_cons_self) (eachSelf fun q hq => h q (List.mem_cons_of_mem _ hq))
theorem eachMap {α β : Type} {f : α → β} : ∀ {vs : List β} {L : List α}, PySem.W.EachIs (fun v p => v = f p) vs L → vs = L.map f
  | _, _, .nil => rfl
  | _, _, .cons e t => by rw [e, eachMap t] <;> rfl
mutual
theorem noLists {h : Heap} : ∀ (d : PyData) (v : Value) (as : List Addr), keyable d = true → Reads h v d as → as = []
  | .none, _, _, _, r => by cases r; rfl
  | .bool _, _, _, _, r => by cases r; rfl
  | .int _, _, _, _, r => by cases r; rfl
  | .str _, _, _, _, r => by cases r; rfl
  | .list _, _, _, k, _ => by cases k
  | .dict _, _, _, k, _ => by cases k
  | .tuple ds, _, _, k, r => by
    cases r with
    | tuple ho hc hd hr => exact noListsAll ds _ _ k hr
theorem noListsAll {h : Heap} : ∀ (ds : List PyData) (vs : List Value) (as : List Addr), keyables ds = true → ReadsAll h vs ds as → as = []
  | [], _, _, _, r => by cases r; rfl
  | d :: ds, _, _, k, r => by
    rw [keyables, Bool.and_eq_true] at k
    cases r with
    | cons r1 r2 => rw [noLists d _ _ k.1 r1, noListsAll ds _ _ k.2 r2] <;> rfl
end
section
variable {X : Cx}
def rSortL (K : PySem.W.Frag) : List V → Hp → VK → Prop := fun vs H Q => ∃ (a : Addr) (L : List (Addr × PyData)), vs = [V.ref a] ∧ SqL K H a (L.map fun q => V.ref q.1) ∧ (∀ p ∈ L, Dp K H (.ref p.1) p.2) ∧ SortOk L ∧
  ∀ p, H p = none → Q (.ref p) (upd H p (.lst ((srt L).map fun q => V.ref q.1)))
theorem cr_sortL (hu : X.A.units + 64 < cLine) : CallR X (.builtin "sorted") (rSortL X.K) := by
  intro pins s σ H vs us Q I r h
  obtain ⟨a, L, rfl, ha, hd, ok, q⟩ := h
  obtain ⟨its, rv, hl, hz⟩ := I.list ha
  rw [Vals.ref1 r]
  have ei := valsRefs (f := Prod.fst) rv
  refine PySem.W.sorted_data (R := fun v (p : Addr × PyData) => v = Value.ref p.1) (enc := (·.2)) (vs := its) (bs := L) hl.isList (by rw [ei]; exact eachSelf fun _ _ => rfl)
    (by rw [ei]; exact eachSelf fun p hp => Dp.reads I p.2 (.ref p.1) (.ref p.1) (hd p hp) rfl) ok.al ok.so (by rw [List.length_map] at hz; exact hz) (fun p hp => by have := ok.dp p hp; omega) fun out ho ee => ?_
  have eo := eachMap (f := fun p : Addr × PyData => Value.ref p.1) ee
  obtain ⟨ep, he'⟩ := PyProof.Rows.sortedAll_at s.heap its out.toArray
  refine ⟨.ref _, upd H (s.heap.objs.size + 1) (.lst ((srt L).map fun q => V.ref q.1)), I.laid (t' := s.toks) (fun _ _ => PyProof.Rows.sortedAll_old) (Nat.le_succ _) ⟨?_, out, ep, ?_, he'⟩, rfl, q _ (I.hok.fresh (Nat.le_succ _))⟩
  · rw [List.length_map, List.length_mergeSort, ← List.length_map (f := fun q : Addr × PyData => V.ref q.1)]
    exact hz
  · rw [eo]
    exact refsVals _
/-- sorted(set) -/
def rSortS (K : PySem.W.Frag) (w : World) : List V → Hp → VK → Prop := fun vs H Q => ∃ (a : Addr) (L : List (Addr × PyData)), vs = [V.ref a] ∧ H a = some (SetDO w a L) ∧ Mems K H L ∧ SortOk L ∧
  ∀ L' p, L'.Perm L → H p = none → Q (.ref p) (upd H p (.lst ((srt L').map fun q => V.ref q.1)))
theorem cr_sortS (hc : X.calm = true) (hu : X.A.units + 64 < cLine) : CallR X (.builtin "sorted") (rSortS X.K X.w) := by
  intro pins s σ H vs us Q I r h
  obtain ⟨a, L, rfl, ha, hL, ok, q⟩ := h
  obtain ⟨es, ep, t, R⟩ := setN_get I ha hL
  rw [Vals.ref1 r]
  obtain ⟨o, ho, hex, hd⟩ := R.ob
  have hsz := R.size
  have hm := R.most
  refine Calls.call_function_entry kind_sorted plain_sorted entry_sorted (args_sorted1 _) ?_
  unfold Builtin.«sorted»
  refine wpAny_bind (m := checkCount "sorted" 1 1 _) (wpAny_pure ?_)
  refine wpAny_bind (collect_set (A := X.A.in1) (I.ok.hd hc) ⟨o, ho, hex.1, hd⟩ R.fits (by unfold scanBound; omega) R.tab.ris R.led fun s1 vs k1 hz g1 o1 pm => ?_)
  have hes : es.toList.map (·.2) = L.map fun q => Value.ref q.1 := by
    rw [R.rows]
    unfold pairsN
    rw [List.map_map, List.map_map] <;> rfl
  rw [hes] at pm
  -- the values are the members' addresses, in some order
  obtain ⟨L1, e1, p1⟩ : ∃ L1 : List (Addr × PyData), vs = L1.map (fun q => Value.ref q.1) ∧ L1.Perm L := by
    clear R hsz hm k1 hz ha hL ok q hes
    have key : ∀ (vs ws : List Value), vs.Perm ws → ∀ L : List (Addr × PyData), ws = L.map (fun q => Value.ref q.1) → ∃ L1 : List (Addr × PyData), vs = L1.map (fun q => Value.ref q.1) ∧ L1.Perm L := by
      intro vs ws pm
      induction pm with
      | nil => intro L e; exact ⟨L, e, .refl _⟩
      | @cons x l1 l2 _ ih =>
        intro L e
        cases L with
        | nil => cases e
        | cons p L =>
          rw [List.map_cons] at e
          injection e with e0 e'
          obtain ⟨L1, f1, f2⟩ := ih L e'
          exact ⟨p :: L1, by rw [List.map_cons, e0, f1], f2.cons p⟩
      | @swap x y l =>
        intro L e
        cases L with
        | nil => cases e
        | cons p L =>
          cases L with
          | nil => cases e
          | cons p2 L =>
            rw [List.map_cons, List.map_cons] at e
            injection e with e0 e'
            injection e' with e2 e3
            exact ⟨p2 :: p :: L, by rw [List.map_cons, List.map_cons, e0, e2, e3], .swap ..⟩
      | @trans l1 l2 l3 _ _ i1 i2 =>
        intro L e
        obtain ⟨L1, f1, f2⟩ := i2 L e
        obtain ⟨L2, f3, f4⟩ := i1 L1 f1
        exact ⟨L2, f3, f4.trans f2⟩
    exact key _ _ pm L rfl
  have ok1 := ok.perm p1
  have hlen : L1.length ≤ 76 := by
    rw [p1.length_eq]
    rw [keyL_len] at hm
    exact hm
  have hvl : vs.length ≤ 76 := by rw [e1, List.length_map]; exact hlen
  have I1 : Inv X pins σ H s1 := I.call' (ch := []) o1 (Un.kept k1) (I.hok.kept k1) (by rw [g1]; exact I.bare) (fun _ z => nomatch z)
  refine wpAny_bind (wpAny_newList ?_ (by rw [sizeLine_eq]; omega))
  have hoL : (s1.heap.push (seqObj "list" vs.toArray 0)).get? s1.heap.objs.size = some (seqObj "list" vs.toArray 0) := Heap.get?_push_size _ rfl
  have I2 : Inv X pins σ H { s1 with heap := s1.heap.push (seqObj "list" vs.toArray 0), toks := s1.toks } := I1.kept fun b u e => Heap.get?_push_of_some _ e
  refine wpAny_bind (wpAny_holding (PySem.W.list_sort_data (s := { s1 with heap := s1.heap.push (seqObj "list" vs.toArray 0) }) (R := fun v (p : Addr × PyData) => v = Value.ref p.1) (enc := (·.2)) (vs := vs) (bs := L1) hoL (by rw [e1]; exact eachSelf fun _ _ => rfl)
    ?_ ok1.al ok1.so (by rw [sizeLine_eq]; omega) (fun p hp => by have := ok1.dp p hp; rw [Around.in1_units]; omega) fun out ho2 ee => ?_))
  · rw [e1]
    refine eachSelf fun p hp => ?_
    obtain ⟨as, ra⟩ := Dp.reads I1 p.2 (.ref p.1) (.ref p.1) (hL p (p1.mem_iff.mp hp)).1 rfl
    refine ⟨as, PyProof.Rows.Reads.keeps (fun b u e => Heap.get?_push_of_some _ e) ra, fun hmem => ?_⟩
    rw [noLists _ _ _ (hL p (p1.mem_iff.mp hp)).2.1 ra] at hmem
    cases hmem
  · have eo := eachMap (f := fun p : Addr × PyData => Value.ref p.1) ee
    obtain ⟨c, hc2⟩ := sortedHeap_at (vs := vs) (out := out.toArray) hoL
    have kk : ∀ b u, s1.heap.get? b = some u → (sortedHeap (s1.heap.push (seqObj "list" vs.toArray 0)) s1.heap.objs.size vs out.toArray).get? b = some u := fun b u e => by
      have hlt := Heap.lt_size e
      rw [sortedHeap_old (Nat.ne_of_lt hlt) (by rw [size_push']; exact Nat.lt_succ_of_lt hlt)]
      exact Heap.get?_push_of_some _ e
    refine wpAny_pure ⟨_, rfl, .ref _, upd H s1.heap.objs.size (.lst ((srt L1).map fun q => V.ref q.1)), I1.laid (t' := s1.toks) kk (Nat.le_refl _) ⟨?_, out, c, ?_, hc2⟩, rfl, q L1 _ p1 (I1.hok.fresh (Nat.le_refl _))⟩
    · rw [List.length_map, List.length_mergeSort, sizeLine_eq]
      omega
    · rw [eo]
      exact refsVals _
end
end K85

set_option Elab.async false
set_option linter.all false
set_option maxRecDepth 100000
set_option maxHeartbeats 4000000
namespace K85
open PySem PySem.Spec PyProof.Rows L2 PpSet
section
variable {X : Cx}
/-- a member's coming to the tracked set -/
theorem addD_ok {pins : List (Addr × Obj)} {σ : L2.St} {H : Hp} {s : Shared} {E : Value → Shared → Prop} {D b : Addr} {L : List (Addr × PyData)} {d : PyData} {Q : Value → Shared → Prop} (I : Inv X pins σ H s) (hu : X.A.units + 64 < cLine) (hD : H D = some (SetDO X.w D L)) (hL : Mems X.K H L) (hd : Dp X.K H (.ref b) d) (m : Mem8 d) (few : L.length + 1 ≤ 76)
    (h : ∀ s' L', Inv X pins σ (upd H D (SetDO X.w D L')) s' → (keyOf d ∈ (L.map fun p => keyOf p.2) → L' = L) → ((keyOf d ∉ L.map fun p => keyOf p.2) → L'.Perm ((b, d) :: L)) → Q .none s') : wpAny (model X.prog X.w) X.A (call (.builtin "set.add") [.ref D, .ref b]) Q E s := by
  obtain ⟨es, ep, t, R⟩ := setN_get I hD hL
  refine callAddN R (memN I hd m) (by omega) (by rw [keyL_len]; exact few) fun h' tk L' es' ep' t' sb R' c1 c2 => ?_
  rw [keyL_snd] at c1 c2
  -- the keys drawn back
  obtain ⟨M, e1, f1, f2⟩ : ∃ M, L' = keyL M ∧ (keyOf d ∈ (L.map fun p => keyOf p.2) → M = L) ∧ ((keyOf d ∉ L.map fun p => keyOf p.2) → M.Perm ((b, d) :: L)) := by
    rcases Classical.em (keyOf d ∈ L.map fun p => keyOf p.2) with c | c
    · exact ⟨L, c1 c, fun _ => rfl, fun z => absurd c z⟩
    · have pm : L'.Perm (keyL ((b, d) :: L)) := c2 c
      have key : ∀ (A B : List (Addr × NestedKey)), A.Perm B → ∀ M : List (Addr × PyData), B = keyL M → ∃ M', A = keyL M' ∧ M'.Perm M := by
        intro A B pm
        induction pm with
        | nil => intro M e; exact ⟨M, e, .refl _⟩
        | @cons x l1 l2 _ ih =>
          intro M e
          cases M with
          | nil => cases e
          | cons p M =>
            have e' : x :: l2 = (p.1, keyOf p.2) :: keyL M := e
            injection e' with e0 e2
            obtain ⟨M', g1, g2⟩ := ih M e2
            exact ⟨p :: M', by show x :: l1 = (p.1, keyOf p.2) :: keyL M'; rw [e0, g1], g2.cons p⟩
        | @swap x y l =>
          intro M e
          cases M with
          | nil => cases e
          | cons p M =>
            cases M with
            | nil => cases e
            | cons p2 M =>
              have e' : x :: y :: l = (p.1, keyOf p.2) :: (p2.1, keyOf p2.2) :: keyL M := e
              injection e' with e0 e2
              injection e2 with e3 e4
              exact ⟨p2 :: p :: M, by show y :: x :: l = (p2.1, keyOf p2.2) :: (p.1, keyOf p.2) :: keyL M; rw [e0, e3, e4], .swap ..⟩
        | @trans l1 l2 l3 _ _ i1 i2 =>
          intro M e
          obtain ⟨M1, g1, g2⟩ := i2 M e
          obtain ⟨M2, g3, g4⟩ := i1 M1 g1
          exact ⟨M2, g3, g4.trans g2⟩
      obtain ⟨M, g1, g2⟩ := key _ _ pm _ rfl
      exact ⟨M, g1, fun z => absurd z c, fun _ => g2⟩
  subst e1
  have new := setD0_of R'
  have he : ∃ u, h'.get? D = some u := by
    have ⟨es', ep', t', ⟨o, ho, _⟩, _⟩ := new.ex
    exact ⟨o, ho⟩
  exact h _ M (I.write (e := D) (t' := tk) (by rw [hD]; trivial) (.inl rfl) (fun b u hb hu => (sb.2 b hb).trans hu) he (setD_new new)) f1 f2
/-- found.add(x), found a set of data -/
def tSAddD (K : PySem.W.Frag) (w : World) (to te : TE) : TE := fun σ H Q => to σ H fun x H1 => ∃ a L, x = V.ref a ∧ H1 a = some (SetDO w a L) ∧ te σ H1 fun y H2 => ∃ b d, y = V.ref b ∧ H2 a = some (SetDO w a L) ∧ Mems K H2 L ∧ Dp K H2 (.ref b) d ∧ Mem8 d ∧ L.length + 1 ≤ 76 ∧
  ∀ L', (keyOf d ∈ (L.map fun p => keyOf p.2) → L' = L) → ((keyOf d ∉ L.map fun p => keyOf p.2) → L'.Perm ((b, d) :: L)) → Q .non (upd H2 a (SetDO w a L'))
theorem pe_saddD {o e : Expr} {to te : TE} {apos cpos : Pos} (hu : X.A.units + 64 < cLine) (ho : PE X o to) (ha : PE X e te)
    (hbase : attributeBase o "add" X.env (eval o X.env) = eval o X.env := by rfl)
    (hfew : ((backTo cpos (starEach [e] X.env)).all (fun x => !x.1) && (backToKw cpos (keywordEach [] X.env)).all (fun x => x.1.isSome)
      && decide ([e].length + ([] : List Keyword).length + (if ([] : List Keyword).isEmpty then 0 else 1) < 30)) = true := by rfl)
    (hline : (apos.endLine == cpos.line) = true := by rfl) (hs : starEach [e] X.env = (false, eval e X.env) :: starEach [] X.env := by rfl) :
    PE X (.Call (.Attribute o "add" apos) [e] [] cpos) (tSAddD X.K X.w to te) := by
  refine ⟨fun pins s σ H Q I h => ?_⟩
  refine wpAny_Call_method_late hbase hfew hline rfl (thn (ho.run pins s σ H _ I h) fun v s1 ⟨x, H1, I1, r1, q1⟩ => ?_)
  obtain ⟨a, L, rfl, hka, q1⟩ := q1
  have R0 : SetD0 X.w s1.heap a L := (I1.hok a _ hka).1
  obtain ⟨es, ep, t, ⟨ob, hob, hex, _⟩, _⟩ := R0.ex
  cases r1
  refine ⟨"set", "set.add", F.plainAttrs_set, F.slot_set_add, F.type_set_add, ⟨ob, hob, hex.1⟩, fun b e => by injection e with e; subst e; exact ⟨ob, hob, hex.2.1⟩, ?_⟩
  rw [hs]
  refine Calls.callWith_builtin (by rfl) (Calls.evalArgs_plain (Calls.spliced_cons (thn (ha.run pins s1 σ H1 _ I1 q1) fun uv s2 ⟨y, H2, I2, r2, q2⟩ => Calls.spliced_nil ?_)))
  obtain ⟨b, d, rfl, hD, hL, hd, m, few, q⟩ := q2
  cases r2
  exact addD_ok I2 hu hD hL hd m few fun s' L' I' f1 f2 => ⟨.non, _, I', rfl, q L' f1 f2⟩
end
end K85

set_option Elab.async false
set_option linter.all false
set_option maxRecDepth 100000
set_option maxHeartbeats 4000000
namespace K85
open PySem PySem.Spec PyProof.Rows L2 PpSet
section
variable {X : Cx}
/-- one comes to the set at D -/
def StepD (K : PySem.W.Frag) (w : World) (D : Addr) (y : V) (H4 : Hp) (Nx : Hp → Prop) : Prop := ∃ (b : Addr) (d : PyData) (L : List (Addr × PyData)), y = .ref b ∧ H4 D = some (SetDO w D L) ∧ Mems K H4 L ∧ Dp K H4 (.ref b) d ∧ Mem8 d ∧ L.length + 1 ≤ 76 ∧
  ∀ L', (keyOf d ∈ (L.map fun p => keyOf p.2) → L' = L) → ((keyOf d ∉ L.map fun p => keyOf p.2) → L'.Perm ((b, d) :: L)) → Nx (upd H4 D (SetDO w D L'))
def tScD (K : PySem.W.Frag) (w : World) (wi : TI) (g : TG) (tt : TT) (te : TE) (vs : List Nat) : TE := fun σ H Q => wi σ H fun J H1 => ∀ D, H1 D = none → ∃ W : Nat → Nat → Hp → Prop, (∃ m, W 0 m (upd H1 D (SetDO w D []))) ∧ ∀ i m H, W i m H →
  (J.stop i H ∧ Q (.ref D) H) ∨ (J.go i H ∧ ∃ Nx : Hp → Prop, (∀ H', Nx H' → ∃ m', m' < m ∧ W (i + 1) m' H') ∧ ∀ x H', J.yld i H x H' → g x (wipe σ vs) H' fun σ2 H2 => wipe σ2 vs = wipe σ vs ∧ tt σ2 H2 fun b H3 =>
    if b = true then te σ2 H3 fun y H4 => StepD K w D y H4 Nx else Nx H3)
theorem scD_core {pins : List (Addr × Obj)} {s : Shared} {σ : L2.St} {H : Hp} {Q : VK} {elt tg iter : Expr} {ifs : List Expr} {scope : Scope} {own : List (PySem.Str × Nat)} {pos pos' : Pos} {wi : TI} {g : TG} {tt : TT} {te : TE} {use : Option (Value → Sem Unit)} {Qf : Value → Shared → Prop}
    (hc : X.calm = true) (hu : X.A.units + 64 < cLine) (hN : X.N.Nodup) (I : Inv X pins σ H s) (hi : PI X tg iter wi) (ok : BlkOk X.N X.env.scope scope own)
    (hg : ∀ (s : Shared) (H : Hp) (C : Addr) (cl : List (PySem.Str × Addr)) (fp : List Addr), PG (X.blk s H scope (compEnvC scope cl C X.env) fp) tg g) (ht : ∀ (s : Shared) (H : Hp) (C : Addr) (cl : List (PySem.Str × Addr)) (fp : List Addr), PTs (X.blk s H scope (compEnvC scope cl C X.env) fp) ifs tt)
    (he : ∀ (s : Shared) (H : Hp) (C : Addr) (cl : List (PySem.Str × Addr)) (fp : List Addr), PE (X.blk s H scope (compEnvC scope cl C X.env) fp) elt te) (hs : ∀ x, foldedSetIterable iter X.env x = pure x)
    (h : tScD X.K X.w wi g tt te (own.map (·.2)) σ H Q)
    (hRR : ∀ D C s' m H', Inv X pins σ H' s' → Q (.ref D) H' → s'.heap.Ns C m → FpOk X pins H' C → compPost (model X.prog X.w) X.A X.xe use Qf (.ref D) C (.ok .next) s') :
    wpAny (model X.prog X.w) X.A (comprehension (.SetComp elt [⟨tg, iter, ifs, 0⟩] scope pos) scope X.env pos' (newSet (.type "set")) false (eval iter X.env) use) Qf X.xe s := by
  have hfree : ∀ y ∈ scope.names, y.2 = .free → ∃ c, X.env.cells.lookup y.1 = some c := fun y hy e => by
    rcases ok.free y hy e with k | k
    · exact I.ok.has _ (.inl k)
    · exact I.ok.has _ (.inr k)
  refine wpAny_comprehension_free (use := use) rfl hs (closure_ok hfree) ok.kind (fun y hy e => by rw [ok.uniq y hy, e])
    (thn (hi.run pins s σ H _ I h) fun xv s1 hx => thn hx fun itv s2 h2 => ?_)
  obtain ⟨it, fp, tn, J, H2, e, I2, T, st2, f2, q⟩ := h2
  subst e
  refine newSet_ok (newEnv_comp ?_)
  generalize hD : s2.heap.objs.size = D
  have hDn : H2 D = none := I2.hok.fresh (Nat.le_of_eq hD)
  obtain ⟨W, ⟨m0, w0⟩, turn⟩ := q D hDn
  -- the new list
  generalize hs3 : ({ s2 with heap := s2.heap.push { cls := .type "set", dict := none, data := .set #[] 0 (.fresh 0 0 (!X.w.params.followText "set-order")) } } : Shared) = s3
  have I3 : Inv X pins σ (upd H2 D (SetDO X.w D [])) s3 := by
    rw [← hs3]
    refine I2.laid (t' := s2.toks) (fun b o e => Heap.get?_push_of_some _ e) (Nat.le_of_eq hD) ?_
    rw [← hD]
    exact setD_new (setD0_of (L := []) (setN_fresh (Heap.get?_push_size _ rfl)))
  have h3 : s3.heap = s2.heap.push { cls := .type "set", dict := none, data := .set #[] 0 (.fresh 0 0 (!X.w.params.followText "set-order")) } := by rw [← hs3]
  have sz : ∀ b ∈ fp, b < s2.heap.objs.size := fun b hb => by
    obtain ⟨o, e, _⟩ := T.obj _ _ st2 b hb
    exact Heap.lt_size e
  have f3 : ∀ b ∈ fp, FpOk X pins (upd H2 D (SetDO X.w D [])) b ∧ b < s3.heap.objs.size := fun b hb => by
    have hlt := sz b hb
    refine ⟨⟨?_, (f2 b hb).2⟩, by rw [h3, Heap.size_push]; exact Nat.lt_succ_of_lt hlt⟩
    rw [upd_ne (by rw [← hD]; exact Nat.ne_of_lt hlt)]
    exact (f2 b hb).1
  have st3 : tn 0 s3.heap := T.keep _ _ _ st2 fun b _ o e => by rw [h3]; exact Heap.get?_push_of_some _ e
  have I4 := block_start I3 ok hN f3
  have pg := hg s3 (upd H2 D (SetDO X.w D [])) s3.heap.objs.size (cellsFrom (s3.heap.objs.size + 1) scope.names (cloFrom X.env.cells scope.names [])) fp
  have pt := ht s3 (upd H2 D (SetDO X.w D [])) s3.heap.objs.size (cellsFrom (s3.heap.objs.size + 1) scope.names (cloFrom X.env.cells scope.names [])) fp
  have pe := he s3 (upd H2 D (SetDO X.w D [])) s3.heap.objs.size (cellsFrom (s3.heap.objs.size + 1) scope.names (cloFrom X.env.cells scope.names [])) fp
  show codeAny _ _ (.compStart (.SetComp elt [⟨tg, iter, ifs, 0⟩] scope pos) 0 (.ref it) (.ref D) (compEnvC scope (cellsFrom (s3.heap.objs.size + 1) scope.names (cloFrom X.env.cells scope.names [])) s3.heap.objs.size X.env)) (compPost (model X.prog X.w) X.A X.xe use Qf (.ref D) s3.heap.objs.size) { s3 with heap := pushCells (s3.heap.push { cls := .type "dict", data := .dict #[] }) scope.names }
  have nfp : ∀ b ∈ fp, (upd H2 D (SetDO X.w D [])) b = none := fun b hb => (f3 b hb).1.1
  generalize hce : compEnvC scope (cellsFrom (s3.heap.objs.size + 1) scope.names (cloFrom X.env.cells scope.names [])) s3.heap.objs.size X.env = ce at I4 pg pt pe ⊢
  have cL : ce.locals = s3.heap.objs.size := by subst hce; rfl
  generalize hH3 : upd H2 D (SetDO X.w D []) = H3 at I3 I4 pg pt pe w0 nfp f3
  generalize hs4 : ({ s3 with heap := pushCells (s3.heap.push { cls := .type "dict", data := .dict #[] }) scope.names } : Shared) = s4 at I4 ⊢
  have st4 : tn 0 s4.heap := T.keep _ _ _ st3 fun b _ o e => by rw [← hs4]; exact pushCells_keeps _ _ _ _ (Heap.get?_push_of_some _ e)
  have stat : ∀ {σ' : L2.St} {H' : Hp} {s' : Shared}, Inv (X.blk s3 H3 scope ce fp) [] σ' H' s' → (∀ b ∈ fp, H' b = none) → ∀ b ∈ fp, FpOk (X.blk s3 H3 scope ce fp) [] H' b := fun {σ' H' s'} I' hn b hb =>
    ⟨hn b hb, (I'.ok.exf b hb).1, I'.ok.exfs b hb, .inl hb, fun x c e => (I'.ok.exf b hb).2 x c e, fun p hp => absurd (show p ∈ ([] : List (Addr × Obj)) ++ [] from hp) (by simp)⟩
  have loop : codeAny (model X.prog X.w) X.A (.compLoop (.SetComp elt [⟨tg, iter, ifs, 0⟩] scope pos) 0 (.ref it) (.ref D) ce) (compPost (model X.prog X.w) X.A X.xe use Qf (.ref D) s3.heap.objs.size) s4 := by
    refine compLoopS_any (fun n s' => ∃ i H', Inv (X.blk s3 H3 scope ce fp) [] (wipe σ (own.map (·.2))) H' s' ∧ tn i s'.heap ∧ (∀ b ∈ fp, H' b = none) ∧ W i n H') ?_ m0 ⟨0, H3, I4, st4, nfp, w0⟩
    rintro n s5 ⟨i, H5, I5, st5, n5, w5⟩
    rcases turn i n H5 w5 with ⟨stop, qq⟩ | ⟨go, Nx, hNx, step⟩
    · have td := T.done (X.blk s3 H3 scope ce fp) rfl rfl rfl hc i [] s5 _ H5 (fun _ _ => False) I5 (stat I5 n5) st5 stop
      refine thnF td fun r s6 ⟨hr, I6⟩ => ?_
      subst hr
      -- back in the def's context
      have I7 : Inv X pins σ H5 s6 := I3.call' (ch := fp) I6.os I6.base I6.hok I6.bare fun b hb => ⟨(f3 b hb).1.2.2.2.1, (f3 b hb).1.2.1, (f3 b hb).1.2.2.2.2.1, (f3 b hb).1.2.2.2.2.2⟩
      have nC : H5 s3.heap.objs.size = none := by
        have z : H5 ce.locals = none := I6.free
        rw [cL] at z
        exact z
      obtain ⟨m, hn, _⟩ := I6.loc
      have hn : s6.heap.Ns ce.locals m := hn
      rw [cL] at hn
      exact hRR D s3.heap.objs.size s6 m H5 I7 qq hn (I3.fpOk (Nat.le_refl _) nC)
    · have ti := T.item (X.blk s3 H3 scope ce fp) rfl rfl rfl hc i [] s5 _ H5 (fun _ _ => False) I5 (stat I5 n5) st5 go
      refine thnF ti fun r s6 ⟨u, hr, h6⟩ => ?_
      subst hr
      refine thnF h6 fun _ s7 ⟨x, H7, I7, r7, y7, st7, n7⟩ => ?_
      have I7' := I7.pinned (stat I7 n7) (T.obj _ _ st7)
      refine thnF (pg.run _ s7 _ H7 x u _ I7' r7 (step x H7 y7)) fun _ s8 ⟨σ8, H8, I8, hw8, q8⟩ => ?_
      refine thnF (pt.run _ s8 σ8 H8 _ I8 q8) fun b s9 ⟨H9, I9, q9⟩ => ?_
      -- the turn's end
      have fin : ∀ {s' : Shared} {H' : Hp}, Inv (X.blk s3 H3 scope ce fp) ([] ++ pinsAt fp s7.heap) σ8 H' s' → Nx H' → ∃ m, m < n ∧ ∃ i H', Inv (X.blk s3 H3 scope ce fp) [] (wipe σ (own.map (·.2))) H' s' ∧ tn i s'.heap ∧ (∀ b ∈ fp, H' b = none) ∧ W i m H' := fun {s' H'} I' nx => by
        obtain ⟨m', hm, w'⟩ := hNx H' nx
        have pin' : ∀ b ∈ fp, ∀ o, s7.heap.get? b = some o → s'.heap.get? b = some o ∧ H' b = none := fun b hb o e =>
          let z := I'.pin (b, o) (List.mem_append_right _ (List.mem_append_right _ (mem_pinsAt hb e)))
          ⟨z.1, z.2.1⟩
        have hl : (wipe σ (own.map (·.2))).length = σ8.length := by rw [← hw8, wipe_length]
        refine ⟨m', hm, i + 1, H', (I'.unpinned (pins := [])).weak hl (fun j v e => ?_), T.keep _ _ _ st7 fun b hb o e => (pin' b hb o e).1, fun b hb => ?_, w'⟩
        · rw [← hw8] at e
          exact (wipe_some e).1
        · obtain ⟨o, e, _⟩ := T.obj _ _ st7 b hb
          exact (pin' b hb o e).2
      cases b with
      | false =>
        simp only [Bool.false_eq_true, if_false] at q9 ⊢
        exact fin I9 q9
      | true =>
        simp only [if_true] at q9 ⊢
        refine thnF (pe.run _ s9 σ8 H9 _ I9 q9) fun z s10 ⟨yv, H10, I10, r10, b0, d0, L0, ey, hD10, hL10, hd10, m10, few10, nx⟩ => ?_
        subst ey
        cases (show z = Value.ref b0 from r10)
        exact addD_ok (X := X.blk s3 H3 scope ce fp) I10 hu hD10 hL10 hd10 m10 few10 fun s11 L' I11 f1 f2 => fin I11 (nx L' f1 f2)
  exact codeAny_compStart_set loop (T.self X.A 0 _ _ _ st4 loop)
/-- as a value -/
theorem pe_scD {elt tg iter : Expr} {ifs : List Expr} {scope : Scope} {own : List (PySem.Str × Nat)} {pos : Pos} {wi : TI} {g : TG} {tt : TT} {te : TE} (hc : X.calm = true) (hu : X.A.units + 64 < cLine) (hN : X.N.Nodup) (hi : PI X tg iter wi) (ok : BlkOk X.N X.env.scope scope own)
    (hg : ∀ (s : Shared) (H : Hp) (C : Addr) (cl : List (PySem.Str × Addr)) (fp : List Addr), PG (X.blk s H scope (compEnvC scope cl C X.env) fp) tg g) (ht : ∀ (s : Shared) (H : Hp) (C : Addr) (cl : List (PySem.Str × Addr)) (fp : List Addr), PTs (X.blk s H scope (compEnvC scope cl C X.env) fp) ifs tt)
    (he : ∀ (s : Shared) (H : Hp) (C : Addr) (cl : List (PySem.Str × Addr)) (fp : List Addr), PE (X.blk s H scope (compEnvC scope cl C X.env) fp) elt te) (hs : ∀ x, foldedSetIterable iter X.env x = pure x := by intro _; rfl) :
    PE X (.SetComp elt [⟨tg, iter, ifs, 0⟩] scope pos) (tScD X.K X.w wi g tt te (own.map (·.2))) := by
  refine ⟨fun pins s σ H Q I h => ?_⟩
  rw [eval_SetComp]
  refine scD_core hc hu hN I hi ok hg ht he hs h fun D C s' m H' I' q hn f => ⟨m, hn, fun h'' sb => ?_⟩
  obtain ⟨f0, f1, f2, f3, f4, f5⟩ := f
  exact ⟨.ref D, H', I'.turned (t' := s'.toks) (fun b o hb e => (sb.2 b hb).trans e) f0 f1 f3 f4 f5, rfl, q⟩
end
/-- over a list that the block leaves as it is -/
theorem scD_list {w : World} {K : PySem.W.Frag} {a : Addr} {xs : List V} {g : TG} {tt : TT} {te : TE} {vs : List Nat} {σ : L2.St} {H1 : Hp} {D : Addr} {Qd : Hp → Prop} (Pv : Nat → Hp → Prop) (h0 : Pv 0 (upd H1 D (SetDO w D []))) (hl : ∀ i H, i ≤ xs.length → Pv i H → SqL K H a xs)
    (hs : ∀ i x H, xs[i]? = some x → Pv i H → g x (wipe σ vs) H fun σ2 H2 => wipe σ2 vs = wipe σ vs ∧ tt σ2 H2 fun b H3 =>
      if b = true then te σ2 H3 fun y H4 => StepD K w D y H4 (Pv (i + 1)) else Pv (i + 1) H3) (hd : ∀ H, Pv xs.length H → Qd H) :
    ∃ W : Nat → Nat → Hp → Prop, (∃ m, W 0 m (upd H1 D (SetDO w D []))) ∧ ∀ i m H, W i m H →
      ((Itl K a).stop i H ∧ Qd H) ∨ ((Itl K a).go i H ∧ ∃ Nx : Hp → Prop, (∀ H', Nx H' → ∃ m', m' < m ∧ W (i + 1) m' H') ∧ ∀ x H', (Itl K a).yld i H x H' → g x (wipe σ vs) H' fun σ2 H2 => wipe σ2 vs = wipe σ vs ∧ tt σ2 H2 fun b H3 =>
        if b = true then te σ2 H3 fun y H4 => StepD K w D y H4 Nx else Nx H3) := by
  refine ⟨fun i m H => m = xs.length - i ∧ i ≤ xs.length ∧ Pv i H, ⟨xs.length, by simp, Nat.zero_le _, h0⟩, ?_⟩
  rintro i m H ⟨rfl, hi, p⟩
  have q := hl i H hi p
  by_cases hlt : i < xs.length
  · refine .inr ⟨⟨xs, xs[i], q, by simp [hlt]⟩, Pv (i + 1), fun H' p' => ⟨xs.length - (i + 1), by omega, rfl, hlt, p'⟩, fun x H' y => ?_⟩
    obtain ⟨e, y⟩ := y
    subst e
    exact hs i x _ (y xs q) p
  · have e : i = xs.length := by omega
    subst e
    exact .inl ⟨⟨xs, q, Nat.le_refl _⟩, hd H p⟩
end K85

set_option Elab.async false
set_option linter.all false
set_option maxRecDepth 100000
set_option maxHeartbeats 4000000
namespace K85
open PySem PySem.Spec PyProof.Rows L2
/-! ### defs that ask super() -/
/-- the def at f stands in the class at D and asks for super() -/
structure SupF (P : Program) (K : PySem.W.Frag) (x qual : Str) (params : Arguments) (body : List Stmt) (scope : Scope) (D f cda cc : Addr) : Prop where
  fn : ∃ (oc kV doc pm ct : Value) (an od : Option Addr) (osl : Array (Option Value)), K.lookup f = some ⟨oc, od, .func (PySem.W.ksFn x qual params body scope .none kV doc pm an (.ref cda) ct cc), osl⟩
  code : PySem.W.codeIn K (.ref cda) qual = true
  file : ∃ (ccl : Value) (cdd : Option Addr) (vs : Array Value) (ccs : Array (Option Value)) (fl : Str) (tf : Tok), K.lookup cda = some ⟨ccl, cdd, .fields vs, ccs⟩ ∧ vs[2]? = some (.str fl tf) ∧ ((P.main.file : Str) == fl) = true
  cell : ∃ (cl : Value) (cld : Option Addr) (csl : Array (Option Value)), K.lookup cc = some ⟨cl, cld, .cell (some (.ref D)), csl⟩
  kp : PySem.W.keepIn K (.ref f) = true
/-- what of the text super() needs besides -/
structure SupT (P : Program) (K : PySem.W.Frag) (mg : Str → Option Value) (D : Addr) : Prop where
  mg : mg "super" = none
  top : (P.main.scope.names.lookup ("super" : Str)).isSome = false
  cls : ∃ cd, PySem.W.clsIn K D = some cd
  sub : PySem.W.mroIn K D (.ref D) = some true
  opq : PySem.W.nsIn K cStatics "thirdparty.any" = some none
/-- super().m is the def at g -/
structure SupM (K : PySem.W.Frag) (D : Addr) (m : Str) (g : Addr) : Prop where
  at_ : PySem.W.ks_superIn K D D m = some (some (.ref g))
  ty : PySem.W.typeIn K (.ref g) = some (.type "function")
  fi : PySem.W.fnIn K g = true
  nc : (m == ("__class__" : Str)) = false
/-- the context of such a def's body -/
def cxS (CX : CXT) (P : Program) (w : World) (K : PySem.W.Frag) (mg : Str → Option Value) (base : Heap) (N : List Str) (qual : Str) (scope : Scope) (f : Addr) (cd : Value) (cc : Addr) (A : Around) (outer : List Env) (s : Shared) (H : Hp) (E : XK) : Cx where
  prog := P
  w := w
  K := K
  mg := mg
  base := base
  A := A.deeper (PySem.W.ksEnv qual scope s.heap.objs.size f cd cc)
  N := N
  s_0 := s
  H_0 := H
  env := PySem.W.ksEnv qual scope s.heap.objs.size f cd cc
  outer := outer
  stack := PySem.W.ksEnv qual scope s.heap.objs.size f cd cc :: outer
  ex := []
  calm := true
  fn := fun _ => false
  pn := []
  xe := fun e s' => wpAny (model P w) (A.deeper (PySem.W.ksEnv qual scope s.heap.objs.size f cd cc)) (leaving (PySem.W.ksEnv qual scope s.heap.objs.size f cd cc) e) (fun _ s'' => CX outer H s E e s'') (fun e' s'' => CX outer H s E e' s'') s'
structure SScope (N ps : List Str) (sc : Scope) : Prop where
  kind : sc.kind = .function
  co : sc.isCoroutine = false
  gen : sc.isGenerator = false
  nd : N.Nodup
  pre : N.take ps.length = ps
  par : ∀ x ∈ ps, sc.names.lookup x = some .local
  nocell : ∀ y ∈ sc.names, y.2 ≠ .cell
  free : ∀ y ∈ sc.names, y.2 = .free → y.1 = "__class__"
theorem zipGet {x : Str} {v : Value} : ∀ {P : List Str} {us : List Value} {i : Nat}, P.Nodup → P[i]? = some x → us[i]? = some v → (P.zip us).reverse.lookup x = some v := by
  intro P us i nd h1 h2
  have mem : (x, v) ∈ (P.zip us).reverse := by
    rw [List.mem_reverse]
    refine List.mem_of_getElem? (i := i) ?_
    rw [List.getElem?_zip_eq_some]
    exact ⟨h1, h2⟩
  have key : ∀ l : List (Str × Value), (x, v) ∈ l → (∀ u, (x, u) ∈ l → u = v) → l.lookup x = some v := by
    intro l
    induction l with
    | nil => intro z; cases z
    | cons p l ih =>
      intro z one
      obtain ⟨y, u⟩ := p
      by_cases c : x = y
      · subst c
        rw [List.lookup_cons_self, one u List.mem_cons_self]
      · rw [List.lookup_cons]
        have e : (x == y) = false := beq_eq_false_iff_ne.mpr c
        rw [e]
        refine ih ?_ fun u' hu' => one u' (List.mem_cons_of_mem _ hu')
        rcases List.mem_cons.mp z with z | z
        · exact absurd (congrArg Prod.fst z) c
        · exact z
  refine key _ mem fun u hu => ?_
  rw [List.mem_reverse] at hu
  obtain ⟨j, hj⟩ := List.mem_iff_getElem?.mp hu
  rw [List.getElem?_zip_eq_some] at hj
  have hi1 : i < P.length := (List.getElem?_eq_some_iff.mp h1).1
  have hj1 : j < P.length := (List.getElem?_eq_some_iff.mp hj.1).1
  have e1 : P[i] = P[j] := Option.some.inj (by rw [← List.getElem?_eq_getElem hi1, ← List.getElem?_eq_getElem hj1, h1, hj.1])
  have eij : i = j := (List.getElem_inj nd).mp e1
  subst eij
  exact (Option.some.inj (h2.symm.trans hj.2)).symm
section
variable {CX : CXT} {P : Program} {w : World} {K : PySem.W.Frag} {mg : Str → Option Value} {base : Heap} {N ps : List Str} {x qual : Str} {params : Arguments} {body : List Stmt} {scope : Scope} {D f cda cc : Addr} {A : Around} {outer : List Env} {s : Shared} {H : Hp} {E : XK} {us : List Value} {vs : List V}
theorem startS (S : SScope N ps scope) (hd : A.handled = none) (e0 : Env0 P w K mg base A outer s H) (hl : vs.length = ps.length) (r : Vals vs us) (F : SupF P K x qual params body scope D f cda cc) {h1 : Heap} {tk : Nat}
    (hn : h1.Ns s.heap.objs.size (fun y => (ps.zip us).reverse.lookup y)) (hk : ∀ b o, s.heap.get? b = some o → h1.get? b = some o) :
    Inv (cxS CX P w K mg base N qual scope f (.ref cda) cc A outer s H E) [] (start N vs) H { s with heap := h1, toks := tk } := by
  have hpl : ps.length ≤ N.length := by have := congrArg List.length S.pre; rw [List.length_take] at this; omega
  have noA : ∀ b : Addr, b ∉ (cxS CX P w K mg base N qual scope f (.ref cda) cc A outer s H E).ex := fun b z => absurd (show b ∈ ([] : List Addr) from z) (by simp)
  obtain ⟨cl, cld, csl, hcc⟩ := F.cell
  have bcc := e0.mod.kin _ _ hcc
  have scc := e0.bs _ _ bcc
  have one : ∀ y c, (cxS CX P w K mg base N qual scope f (.ref cda) cc A outer s H E).env.cells.lookup y = some c → y = "__class__" ∧ c = cc := fun y c h => by
    have h' : List.lookup y [(("__class__" : Str), cc)] = some c := h
    rw [List.lookup_cons] at h'
    by_cases e : y = "__class__"
    · subst e
      simp at h'
      exact ⟨rfl, h'.symm⟩
    · have e' : (y == ("__class__" : Str)) = false := beq_eq_false_iff_ne.mpr e
      rw [e'] at h'
      cases h'
  refine ⟨⟨e0.mod, S.kind, rfl, rfl, Nat.le_refl _, fun y z c h1 h2 => ?_, fun y hy => ?_, fun y c z _ => Bool.noConfusion z, fun _ => hd, Around.frames_deeper e0.frames, .inr ⟨rfl, rfl⟩, fun b z => absurd z (noA b), e0.bs, e0.bsz, fun b _ _ => noA b, fun b z => absurd z (noA b), e0.funs, e0.frf⟩,
    rfl, e0.bare, Un.kept hk, ⟨_, hn, fun i y v h1 h2 h3 => ?_⟩, fun y c h => ?_, e0.hok.fresh (Nat.le_refl _), fun y c h => ?_, fun p hp => absurd (show p ∈ ([] : List (Addr × Obj)) from hp) (by simp), e0.hok.kept hk, ?_⟩
  · rw [(one y c h1).1, (one z c h2).1]
  · have hy : scope.names.lookup y = some .cell ∨ scope.names.lookup y = some .free := hy
    rcases hy with hy | hy
    · exact absurd rfl (S.nocell _ (PySem.mem_of_lookup hy))
    · have e := S.free _ (PySem.mem_of_lookup hy) rfl
      dsimp only at e
      subst e
      exact ⟨cc, by show List.lookup _ [(("__class__" : Str), cc)] = some cc; rw [List.lookup_cons_self]⟩
  · have hi : i < vs.length := by
      unfold L2.start at h2
      by_cases hi : i < vs.length
      · exact hi
      · rw [List.getElem?_append_right (by simpa using hi)] at h2
        rw [List.getElem?_replicate] at h2
        split at h2 <;> cases h2
    have ha : vs[i]? = some v := by
      unfold L2.start at h2
      rw [List.getElem?_append_left (by simpa using hi), List.getElem?_map] at h2
      cases e : vs[i]? with
      | none => rw [e] at h2; cases h2
      | some a => rw [e] at h2; cases h2; rfl
    obtain ⟨u, hu, rv⟩ := r.get ha
    have hp : ps[i]? = some y := by
      rw [← S.pre, List.getElem?_take_of_lt (by omega)]; exact h1
    have ndP : ps.Nodup := by rw [← S.pre]; exact S.nd.sublist (List.take_sublist _ _)
    exact ⟨u, rv, .inl ⟨S.par y (List.mem_of_getElem? hp), zipGet ndP hp hu⟩⟩
  · obtain ⟨e1, e2⟩ := one y c h
    subst e2
    exact ⟨_, _, hk _ _ scc.1, rfl⟩
  · obtain ⟨e1, e2⟩ := one y c h
    subst e2
    exact scc.2
  · unfold L2.start
    show _ = N.length
    rw [List.length_append, List.length_map, List.length_replicate]
    omega
/-- a block where the def's own code is seen -/
structure PSsA (X : Cx) (c : Code) (st : List Stmt) (t : TS) : Prop where
  run : ∀ (pins : List (Addr × Obj)) (s : Shared) (σ : L2.St) (H : Hp) (D : Ends), Inv X pins σ H s → t D σ H → PySem.wpAt (model X.prog X.w) X.A c (execs st X.env) (SP X pins D) X.xe s
structure PSA (X : Cx) (c : Code) (st : Stmt) (t : TS) : Prop where
  run : ∀ (pins : List (Addr × Obj)) (s : Shared) (σ : L2.St) (H : Hp) (D : Ends), Inv X pins σ H s → t D σ H → PySem.wpAt (model X.prog X.w) X.A c (exec st X.env) (SP X pins D) X.xe s
structure PEA (X : Cx) (c : Code) (e : Expr) (t : TE) : Prop where
  run : ∀ (pins : List (Addr × Obj)) (s : Shared) (σ : L2.St) (H : Hp) (Q : VK), Inv X pins σ H s → t σ H Q → PySem.wpAt (model X.prog X.w) X.A c (eval e X.env) (EP X pins σ Q) X.xe s
theorem fnS (F : SupF P K x qual params body scope D f cda cc) (S : SScope N ps scope) {k : Nat} {sp : Sp}
    (hb : ∀ (oc kV doc pm ct : Value) (an : Option Addr) (s : Shared) (us : List Value), us.length = ps.length → BindsTo s (PySem.W.ksFn x qual params body scope .none kV doc pm an (.ref cda) ct cc) ⟨us, []⟩ (ps.zip us))
    (hl : ∀ vs H Q E, sp vs H Q E → vs.length = ps.length)
    (hbody : ∀ (A : Around) (outer : List Env) (s : Shared) (H : Hp) (vs : List V) (Q : VK) (E : XK), Room k (A.deeper (PySem.W.ksEnv qual scope s.heap.objs.size f (.ref cda) cc)) → sp vs H Q E →
      ∃ t, PSsA (cxS CX P w K mg base N qual scope f (.ref cda) cc A outer s H E) (.func body (PySem.W.ksEnv qual scope s.heap.objs.size f (.ref cda) cc)) body t ∧ t { nx := fun _ H' => Q .non H', rt := Q } (start N vs) H) :
    FnR P w K mg base CX (k + 1) f sp := by
  intro A outer s H us vs Q E hr e0 r hsp
  obtain ⟨oc, kV, doc, pm, ct, an, od, osl, lk⟩ := F.fn
  have KX : K.In s.heap := e0.mod.kin.keeps fun b o e => (e0.bs b o e).1
  have lim : s.heap.NoLimit := e0.mod.nolimit.keeps fun b o e => (e0.bs b o e).1
  have hlen := hl _ _ _ _ hsp
  refine ks_codeAny_call_defAt (body := body) (binds := ps.zip us) hr.depth (KX _ _ lk) rfl lim (PySem.W.codeRec_of KX F.code) rfl (hb oc kV doc pm ct an s us (by rw [← r.length]; exact hlen)) S.nocell (fun y hy => S.par y.1 (List.of_mem_zip hy).1) (fun h₁ hn hk => ?_) S.co S.gen S.kind
  obtain ⟨t, ht, hq⟩ := hbody A outer s H vs Q E (hr.deeper _) hsp
  have I : Inv (cxS CX P w K mg base N qual scope f (.ref cda) cc A outer s H E) [] (start N vs) H { s with heap := h₁, toks := s.toks + (ps.zip us).length } := startS S hr.hd e0 hlen r F hn hk
  refine ks_wpAt_mono (ht.run [] _ (start N vs) H _ I hq) (fun fl s' hs => ?_) fun e s' hs => hs
  have fin : ∀ {σ' : L2.St} {H' : Hp} {v : V} {u : Value}, Inv (cxS CX P w K mg base N qual scope f (.ref cda) cc A outer s H E) [] σ' H' s' → RelV v u → Q v H' → CE outer P w H s Q u s' :=
    fun {σ' H' v u} J rv q => ⟨v, H', J.os, J.bare, J.base, J.hok, rv, q⟩
  cases fl with
  | ret u =>
    obtain ⟨v, σ', H', J, rv, q⟩ := hs
    exact fin J rv q
  | next =>
    obtain ⟨σ', H', J, q⟩ := hs
    exact fin (v := V.non) (u := Value.none) J rfl q
  | brk =>
    obtain ⟨_, _, _, q⟩ := hs
    exact False.elim q
  | cont =>
    obtain ⟨_, _, _, q⟩ := hs
    exact False.elim q
end
section
variable {X : Cx} {c : Code} {st : Stmt} {rest body : List Stmt} {t u : TS} {e : Expr} {te : TE} {pos : Pos}
theorem psa_of (h : PSs X rest t) : PSsA X c rest t := ⟨fun pins s σ H D I q => wpAt_of_wpAny (h.run pins s σ H D I q)⟩
theorem psa_st (h : PS X st t) : PSA X c st t := ⟨fun pins s σ H D I q => wpAt_of_wpAny (h.run pins s σ H D I q)⟩
theorem psa_cons (h1 : PSA X c st t) (h2 : PSsA X c rest u) : PSsA X c (st :: rest) (tSeq t u) := by
  refine ⟨fun pins s σ H D I h => ?_⟩
  refine ks_wpAt_execs_cons (ks_wpAt_mono (h1.run pins s σ H { D with nx := u D } I h) (fun f s1 q => ?_) fun _ _ z => z)
  cases f with
  | next =>
    obtain ⟨σ', H', I', q⟩ := q
    exact h2.run pins s1 σ' H' D I' q
  | ret v => exact q
  | brk => exact q
  | cont => exact q
theorem psa_expr (he : PEA X c e te) (hs : swapsWith e none pos.line X.env = pure false := by rfl) : PSA X c (.Expr e pos) (tDrop te) := by
  refine ⟨fun pins s σ H D I h => ?_⟩
  exact ks_wpAt_Expr_any (ks_wpAt_mono (he.run pins s σ H _ I h) (fun v s1 ⟨x, H1, I1, r1, q1⟩ => ⟨σ, H1, I1, q1⟩) fun _ _ z => z) I.quiet hs
theorem psa_set {i : Nat} {x : Str} {pos' : Pos} (hN : X.N.Nodup) (hi : X.N[i]? = some x) (hx : Loc X.env.scope x) (he : PEA X c e te) (hs : swapsWith e (some (.Name x pos')) pos.line X.env = pure false := by rfl) (hf : X.fn x = true ∨ X.env.scope.names.lookup x = some .local := by exact Or.inr rfl) :
    PSA X c (.Assign [.Name x pos'] e pos) (tAsg te (gName i)) := by
  refine ⟨fun pins s σ H D I h => ?_⟩
  refine ks_wpAt_Assign_Name (ks_wpAt_mono (he.run pins s σ H _ I h) (fun v s1 ⟨y, H1, I1, r1, q1⟩ => ?_) fun _ _ z => z) hs
  exact store_ok I1 hN hi hx r1 (fun s2 I2 => ⟨_, H1, I2, q1⟩) hf
end
section
variable {X : Cx} {body : List Stmt} {cda cc f D g : Addr} {m ar qual x : Str} {params : Arguments} {scope : Scope} {e : Expr} {es : List Expr} {t : TA} {p0 p1 apos pos : Pos}
/-- super().m(e, ..) in a method whose first name is self -/
def tSuper (D g : Addr) (sp : Sp) (E : XK) (ta : TA) : TE := fun σ H Q => ∃ x dx fs, σ[0]? = some (some (.ref x)) ∧ H x = some (.ins D dx fs) ∧ ∀ q, H q = none → ta σ (upd H q (.met g x)) fun vs H2 => H2 q = some (.met g x) ∧ sp (.ref x :: vs) H2 Q E
theorem pea_super {CX : CXT} {k : Nat} {sp : Sp} {E : XK} {an : Arg} (F : SupF X.prog X.K x qual params body scope D f cda cc) (T : SupT X.prog X.K X.mg D) (M : SupM X.K D m g) (G : FnR X.prog X.w X.K X.mg X.base CX k g sp) (hr : Room k X.A) (hx : Passes CX X E)
    (he : ∃ L, X.env = PySem.W.ksEnv qual scope L f (.ref cda) cc) (hp : (params.posonlyargs ++ params.args).head? = some an) (h0 : X.N[0]? = some an.arg)
    (hks : scope.names.lookup ("super" : Str) = some .globalImplicit) (hkc : scope.names.lookup ("__class__" : Str) = some .free) (hka : scope.names.lookup an.arg = some .local) (ha : PA X (e :: es) t)
    (hst : starEach (e :: es) X.env = (false, eval e X.env) :: starEach es X.env := by rfl) (hpl : (backTo pos (starEach es X.env)).any (·.1) = false := by rfl)
    {pl : Sem Bool} (ht : eval (.Call (.Attribute (.Call (.Name "super" p0) [] [] p1) m apos) (e :: es) [] pos) X.env = (do
      let ov ← attributeBase (.Call (.Name "super" p0) [] [] p1) m X.env (eval (.Call (.Name "super" p0) [] [] p1) X.env)
      standAt apos.atName
      let (f, first) ← holding [ov] (getMethod ov m pl)
      callWith pos f first (backTo pos (starEach (e :: es) X.env)) []) := by rfl) :
    PEA X (.func body X.env) (.Call (.Attribute (.Call (.Name "super" p0) [] [] p1) m apos) (e :: es) [] pos) (tSuper D g sp E t) := by
  refine ⟨fun pins s σ H Q I h => ?_⟩
  obtain ⟨sx, dx, fs, hs0, hH, q⟩ := h
  obtain ⟨L, eE⟩ := he
  refine ks_wpAt_MethodCall (pl := pl) ?_ ht
  obtain ⟨oc, kV, doc, pm, ct, ann, od, osl, lk⟩ := F.fn
  obtain ⟨ccl, cdd, vs, ccs, fl, tf, lkc, hvs, hfile⟩ := F.file
  obtain ⟨cl, cld, csl, lcc⟩ := F.cell
  obtain ⟨cd, hcd⟩ := T.cls
  have hkind : X.env.scope.kind = .function := I.ok.kind
  have esc : X.env.scope = scope := by rw [eE]
  have vis : Vis X.env.scope an.arg := by rw [esc]; exact .inl hka
  obtain ⟨m1, hn, hl⟩ := I.loc
  obtain ⟨u, ru, lo⟩ := hl 0 an.arg _ h0 hs0 vis
  cases ru
  have hm1 : m1 an.arg = some (.ref sx) := by
    rcases lo with ⟨_, z⟩ | ⟨z, _⟩
    · exact z
    · have e1 : X.env.kindOf an.arg = some .local := by
        show X.env.scope.names.lookup an.arg = some .local
        rw [esc]; exact hka
      rw [e1] at z
      rcases z with z | z <;> cases z
  have KX := I.kIn
  obtain ⟨oD, hD1, hD2⟩ : ∃ oD, s.heap.get? D = some oD ∧ oD.data = .cls cd := by
    unfold PySem.W.clsIn at hcd
    split at hcd
    · rename_i c d cd' sl ho
      cases hcd
      exact ⟨_, KX _ _ ho, rfl⟩
    · cases hcd
  obtain ⟨mA, O, _, _, _, _⟩ := ins_get I.hok hH
  obtain ⟨odx, J, _⟩ := O.look
  obtain ⟨mb, b1, b2⟩ := I.mod.blt
  refine ks_wpAt_super_base (env := X.env) (by rw [eE]; exact hks) (by rw [eE]; exact hkc) M.nc (by rw [eE]) (KX _ _ lk) rfl hp (by rw [eE]) (KX _ _ lkc) rfl hvs hfile T.top ?_
  refine PySem.W.ks_loadName_global hkind (by rw [eE]; exact hks) (Calls.loadGlobal_builtin (env := X.env) (by rw [I.ok.glob]; exact I.mod.glob.keeps I.bk) T.mg (by rw [I.ok.blt]; exact b1.keeps I.bk) ((b2 _ (by decide)).trans (by decide +kernel)) ⟨rfl, ?_⟩)
  refine wpAny_loadName_free hkind (by rw [eE]; exact hkc) (c := cc) (by rw [eE]; rfl) ⟨_, KX _ _ lcc, rfl⟩ ?_
  refine wpAny_loadName_local hkind (by rw [eE]; exact hka) hn hm1 ?_
  refine ks_wpAny_isType_cls hD1 hD2 ⟨rfl, ?_⟩
  obtain ⟨hh, gg, dd, tt, os⟩ := s
  refine ks_wpAny_call_super hD1 hD2 J.at_ J.cls (fun c e => ?_) (PySem.W.looks_mroIn KX T.sub) (fun h' eso k1 => ?_)
  · have := J.no
    unfold PySem.W.notCls at this
    rw [e] at this
    exact Bool.noConfusion this
  · have I1 : Inv X pins σ H ⟨h', gg, dd, tt, os⟩ := I.kept (t' := tt) k1
    have KX1 := I1.kIn
    obtain ⟨mA1, O1, _, _, _, _⟩ := ins_get I1.hok hH
    obtain ⟨odx1, J1, _⟩ := O1.look
    have hmm := M.at_
    unfold PySem.W.ks_superIn at hmm
    rw [hcd] at hmm
    obtain ⟨of, hof, hofc⟩ : ∃ of, h'.get? g = some of ∧ of.cls = .type "function" := by
      have ht' : (X.K.lookup g).map (·.cls) = some (.type "function") := M.ty
      cases z : X.K.lookup g with
      | none => rw [z] at ht'; cases ht'
      | some of => rw [z] at ht'; exact ⟨of, KX1 _ _ z, Option.some.inj ht'⟩
    refine ks_wpAny_getMethod_super eso (PySem.W.looks_opaque KX1 T.opq) (l₀ := cd.mro) ?_ rfl KX1 hmm hof hofc (PySem.W.ks_ne KX1 J1 hcd) M.nc ?_
    · exact fun A Q E s k q => wpAny_bind ((PySem.W.looks_clsIn KX1 hcd) A _ E s k (wpAny_pure q))
    · have hq0 : H h'.objs.size = none := I1.hok.fresh (Nat.le_refl _)
      have I2 : Inv X pins σ (upd H h'.objs.size (.met g sx)) ⟨h'.push { cls := .type "method", data := .fields #[.ref g, .ref sx] }, gg, dd, tt + 1, os⟩ :=
        I1.laid (t' := tt + 1) (a := h'.objs.size) (o := .met g sx) (fun b u z => Heap.get?_push_of_some _ z) (Nat.le_refl _)
          (show (h'.push (PySem.W.methodObj (.ref g) (.ref sx))).get? h'.objs.size = some (PySem.W.methodObj (.ref g) (.ref sx)) from Heap.get?_push_size h' rfl)
      have hA := ha.run pos pins _ σ _ _ I2 (q _ hq0)
      rw [hst] at hA ⊢
      refine callwith_met (a := sx) (by show ((false || (backTo pos (starEach es X.env)).any (·.1)) || false) = false; rw [hpl]; rfl) M.fi (Calls.evalArgs_plain ?_)
      refine thn hA fun us s3 ⟨vs, H3, I3, rv, hm3, hsp⟩ => ?_
      refine ⟨met_P I3 hm3, ?_⟩
      exact wpAny_call (PySem.W.method_call (met_P I3 hm3).1 (run_fnR (us := Value.ref sx :: us) (vs := V.ref sx :: vs) G hr hx I3 (.cons rfl rv) hsp))
end
end K85

set_option Elab.async false
set_option linter.all false
set_option maxRecDepth 100000
set_option maxHeartbeats 4000000
namespace K85
open PySem PySem.Spec PyProof.Rows L2
/-! ### zip of a text and a tuple of one length -/
def ItzX (K : PySem.W.Frag) (x : Str) (b : Addr) : It :=
  ⟨fun i H => ∃ (ys : List V) (y : V), SqT K H b ys ∧ i < x.cps.size ∧ ys[i]? = some y,
    fun i H v H' => ∃ T c y, v = .ref T ∧ H T = none ∧ H' = upd H T (.tup [.str ⟨#[c]⟩, y]) ∧ x.cps[i]? = some c ∧ ∀ ys, SqT K H b ys → ys[i]? = some y,
    fun i H => ∃ ys : List V, SqT K H b ys ∧ x.cps.size = ys.length ∧ i = ys.length⟩
theorem turn_zipX {P : Program} {w : World} {K : PySem.W.Frag} {elts : List Expr} {kk : Nat} {tpos : Pos} {x : Str} {t : Tok} {b z TI TO i1 i2 : Addr} (D : ZipSep2 z TI TO i1 i2 [i1] [i2, b]) (hb : b ≠ i2) (n12 : i1 ≠ i2) :
    Turn P w K (.Tuple elts kk tpos) (ItzX K x b) [z, TI, TO, i1, i2] z (fun i h => IsZip h z TI TO .none ∧ IsTupOf2 h TI (.ref i1) (.ref i2) ∧ (∃ x y, IsTupOf2 h TO x y) ∧ h.IsStrIter i1 (strIterType x) x t i ∧ h.IsTupleIter i2 b i) where
  mem := by simp
  obj := fun i h st c hc => by
    obtain ⟨hz, hTI, ⟨a1, a2, hTO⟩, ⟨o1, e1, _, d1⟩, ⟨o2, e2, _, d2⟩⟩ := st
    have e' : c = z ∨ c = TI ∨ c = TO ∨ c = i1 ∨ c = i2 := by simpa using hc
    rcases e' with q | q | q | q | q
    · rw [q]; exact ⟨_, hz, fun v q => nomatch q⟩
    · rw [q]; exact ⟨_, hTI, fun v q => nomatch q⟩
    · rw [q]; exact ⟨_, hTO, fun v q => nomatch q⟩
    · rw [q]; exact ⟨o1, e1, fun v q => by rw [d1] at q; cases q⟩
    · rw [q]; exact ⟨o2, e2, fun v q => by rw [d2] at q; cases q⟩
  keep := fun i h h' st k => by
    obtain ⟨hz, hTI, ⟨a1, a2, hTO⟩, ⟨o1, e1, r1⟩, h2⟩ := st
    exact ⟨k z (by simp) _ hz, k TI (by simp) _ hTI, ⟨a1, a2, k TO (by simp) _ hTO⟩, ⟨o1, k i1 (by simp) _ e1, r1⟩, h2.at fun o q => k i2 (by simp) o q⟩
  item := by
    intro X hP hw hK hc i pins s σ H E I hf st hg
    subst hP hw hK
    obtain ⟨hz, hTI, ⟨x0, y0, hTO⟩, h1, h2⟩ := st
    obtain ⟨ys, y, hqy, hi, hy⟩ := hg
    obtain ⟨its2, rv2, p2, _⟩ := I.tuple hqy
    obtain ⟨u2, hu2, ru2⟩ := rv2.get hy
    have hzl : z < s.heap.objs.size := Heap.lt_size hz
    have hh : X.A.in1.handled = none := I.ok.hd hc
    have p2' : s.heap.IsTuple b its2.toArray := p2
    have hl2 : i < its2.toArray.size := by
      have q := (List.getElem?_eq_some_iff.mp hu2).1
      simpa using q
    refine wpAny_pyNext_zipD2_item D (Draws.text (prog := X.prog) (w := X.w) hh i1 x t) (Draws.tuple (prog := X.prog) (w := X.w) hh i2 b hb its2.toArray) hz hTI hTO h1 ⟨h2, p2'⟩ hi hl2 fun x1 x2 h' tk q1 q2 z' TO' h1' h2' hT hsz hk => ?_
    obtain ⟨c, tk1, hc1, rfl⟩ := q1
    have e2 : x2 = u2 := by
      have q2' : its2[i]? = some x2 := by simpa using q2
      rw [hu2] at q2'
      exact (Option.some.inj q2').symm
    subst e2
    refine ⟨_, rfl, wpAny_letOwnedTupleGo_zip (s := { s with heap := h', toks := tk }) z' fun h'' z'' sb => ?_⟩
    have hT2 : h''.get? s.heap.objs.size = some { cls := .type "tuple", data := .seq #[.str ⟨#[c]⟩ tk1, x2] } := (sb.2 _ (Nat.ne_of_gt hzl)).trans hT
    have new : ObjOk X.prog X.w (upd H s.heap.objs.size (.tup [.str ⟨#[c]⟩, y])) h'' s.heap.objs.size (.tup [.str ⟨#[c]⟩, y]) :=
      ⟨by show 2 ≤ sizeLine; decide, [.str ⟨#[c]⟩ tk1, x2], .cons ⟨tk1, rfl⟩ (.cons ru2 .nil), ⟨_, hT2, rfl, _, rfl⟩⟩
    have I1 : Inv X pins σ (upd H s.heap.objs.size (.tup [.str ⟨#[c]⟩, y])) { s with heap := h'', toks := tk } :=
      I.turnedNew (t' := tk) (ch := [z, TI, TO, i1, i2]) (fun c o hb q => (sb.2 c (fun q' => hb (by simp [q']))).trans (hk c o (fun q' => hb (by simp [q'])) (fun q' => hb (by simp [q'])) (fun q' => hb (by simp [q'])) (fun q' => hb (by simp [q'])) q)) hf (Nat.le_refl _) new
    refine ⟨.ref s.heap.objs.size, _, I1, rfl, ⟨_, c, y, rfl, I.hok.fresh (Nat.le_refl _), rfl, hc1, fun l hl => by rw [I.tuple_inj hl hqy]; exact hy⟩, ⟨z'', ?_, ⟨.str ⟨#[c]⟩ tk1, x2, ?_⟩, ?_, ?_⟩, fun c hcm => ?_⟩
    · exact (sb.2 _ D.TIz).trans (hk _ _ D.TIz D.TITO D.TIi1 D.TIi2 hTI)
    · exact (sb.2 _ D.TOz).trans TO'
    · obtain ⟨o1, e1, r1⟩ := h1'
      exact ⟨o1, (sb.2 _ (Ne.symm D.zi1)).trans e1, r1⟩
    · exact h2'.1.at fun o q => (sb.2 _ (Ne.symm D.zi2)).trans q
    · have hlt : c < s.heap.objs.size := by
        have e' : c = z ∨ c = TI ∨ c = TO ∨ c = i1 ∨ c = i2 := by simpa using hcm
        rcases e' with q | q | q | q | q
        · rw [q]; exact hzl
        · rw [q]; exact Heap.lt_size hTI
        · rw [q]; exact Heap.lt_size hTO
        · rw [q]; obtain ⟨_, e1, _⟩ := h1; exact Heap.lt_size e1
        · rw [q]; obtain ⟨_, e2, _⟩ := h2; exact Heap.lt_size e2
      rw [upd_ne (Nat.ne_of_lt hlt)]
      exact (hf c hcm).1
  done := by
    intro X hP hw hK hc i pins s σ H E I hf st hg
    subst hP hw hK
    obtain ⟨hz, hTI, ⟨x0, y0, hTO⟩, h1, h2⟩ := st
    obtain ⟨ys, hqy, hl, hend⟩ := hg
    obtain ⟨its2, rv2, p2, _⟩ := I.tuple hqy
    have l2 := rv2.length
    have hh : X.A.in1.handled = none := I.ok.hd hc
    have p2' : s.heap.IsTuple b its2.toArray := p2
    have z2 : its2.toArray.size = i := by rw [List.size_toArray]; omega
    exact wpAny_pyNext_zipD2_end D (Draws.text (prog := X.prog) (w := X.w) hh i1 x t) (Draws.tuple (prog := X.prog) (w := X.w) hh i2 b hb its2.toArray) hz hTI hTO h1 ⟨h2, p2'⟩ (by omega) (by omega) (.inl (by omega)) fun h' tk hk => ⟨rfl, I.turnedL (t' := tk) (ch := [z, TI, TO, i1, i2]) (fun c o hb q =>
      hk c o (fun q' => hb (by simp [q'])) (fun q' => hb (by simp [q'])) (fun q' => hb (by simp [q'])) (fun q' => hb (by simp [q'])) q) hf⟩
  self := fun A i s Q E st h => wpAny_pyIter_zip st.1 h

def iZipX (K : PySem.W.Frag) (ta : TA) : TI := fun σ H R => ta σ H fun vs H1 => ∃ x b ys, vs = [.str x, .ref b] ∧ SqT K H1 b ys ∧ R (ItzX K x b) H1
theorem pi_zipX {X : Cx} {e e2 : Expr} {ta : TA} {p pos tpos : Pos} {elts : List Expr} {kk : Nat} (hg : Gl X "zip") (hm : X.mg "zip" = none) (ha : PA X [e, e2] ta)
    (hs : starEach [e, e2] X.env = (false, eval e X.env) :: starEach [e2] X.env := by rfl) (hpl : (backTo pos (starEach [e2] X.env)).any (·.1) = false := by rfl) :
    PI X (.Tuple elts kk tpos) (.Call (.Name "zip" p) [e, e2] [] pos) (iZipX X.K ta) := by
  refine ⟨fun pins s σ H R I h => ?_⟩
  refine Call_ (ld_blt I hg hm PyProof.Rows.boot_zip (PyProof.Rows.callWith_type1 (thn (ha.run pos pins s σ H _ I h) fun us s1 ⟨vs, H1, I1, r1, q1⟩ => ?_) hs hpl))
  obtain ⟨x, b, ys, ex, hqy, q⟩ := q1
  subst ex
  cases r1 with
  | cons r rr =>
    cases rr with
    | cons r' rr =>
      cases rr
      obtain ⟨t, rfl⟩ := r
      cases r'
      have fresh5 : ∀ c, c ∈ [s1.heap.objs.size + 4, s1.heap.objs.size + 2, s1.heap.objs.size + 3, s1.heap.objs.size, s1.heap.objs.size + 1] → FpOk X pins H1 c := fun c hcm => by
        have e' : c = s1.heap.objs.size + 4 ∨ c = s1.heap.objs.size + 2 ∨ c = s1.heap.objs.size + 3 ∨ c = s1.heap.objs.size ∨ c = s1.heap.objs.size + 1 := by simpa using hcm
        have hle : s1.heap.objs.size ≤ c := by
          rcases e' with z | z | z | z | z
          · rw [z]; exact Nat.le_add_right _ _
          · rw [z]; exact Nat.le_add_right _ _
          · rw [z]; exact Nat.le_add_right _ _
          · rw [z]; exact Nat.le_refl _
          · rw [z]; exact Nat.le_add_right _ _
        exact I1.fpOk hle (I1.hok.fresh hle)
      obtain ⟨its2, rv2, p2, _⟩ := I1.tuple hqy
      obtain ⟨o2, ho2, _⟩ := id p2
      have hlt : b < s1.heap.objs.size := Heap.lt_size ho2
      refine zip_begins2 (begins_text x t) (begins_tuple b its2.toArray) trivial (show s1.heap.IsTuple b its2.toArray from p2) fun h' hz hTI hTO h1 h2 hsz hk => wpAny_pyIter_zip hz ?_
      have I2 : Inv X pins σ H1 { s1 with heap := h' } := I1.kept (t' := s1.toks) hk
      have ap : ZipSep2 (s1.heap.objs.size + 4) (s1.heap.objs.size + 2) (s1.heap.objs.size + 3) s1.heap.objs.size (s1.heap.objs.size + 1) [s1.heap.objs.size] [s1.heap.objs.size + 1, b] := by
        have hb1 : b ≠ s1.heap.objs.size := Nat.ne_of_lt hlt
        have hb2 : ∀ k, ¬ (s1.heap.objs.size + k = b) := fun k z => absurd hlt (by rw [← z]; exact Nat.not_lt.mpr (Nat.le_add_right _ _))
        refine ⟨?_, ?_, ?_, ?_, ?_, ?_, ?_, ?_, ?_, ?_, ?_, ?_, ?_⟩
        all_goals first
          | (simp; done)
          | (simp [hb2]; done)
          | (have := hb2 0; simp at this; simp [this]; done)
      exact ⟨s1.heap.objs.size + 4, [s1.heap.objs.size + 4, s1.heap.objs.size + 2, s1.heap.objs.size + 3, s1.heap.objs.size, s1.heap.objs.size + 1], _, _, H1, rfl, I2, turn_zipX ap (Nat.ne_of_lt (Nat.lt_succ_of_lt hlt)) (Nat.ne_of_lt (Nat.lt_succ_self _)), ⟨hz, hTI, ⟨_, _, hTO⟩, ⟨_, h1, rfl, rfl⟩, ⟨_, h2, rfl, rfl⟩⟩, fresh5, q⟩
/-- a loop over it -/
theorem for_zipX {K : PySem.W.Frag} {x : Str} {b : Addr} {ys : List V} {g : TG} {tb : TS} {D : Ends} {σ : L2.St} {H : Hp} (hl : x.cps.size = ys.length) (Pv : Nat → L2.St → Hp → Prop) (h0 : Pv 0 σ H) (hq : ∀ i σ H, Pv i σ H → SqT K H b ys)
    (hs : ∀ (i c : Nat) (y : V) (T : Addr) (σ : L2.St) (H : Hp), x.cps[i]? = some c → ys[i]? = some y → Pv i σ H → H T = none → g (.ref T) σ (upd H T (.tup [.str ⟨#[c]⟩, y])) fun σ2 H2 => tb { D with nx := Pv (i + 1), ct := Pv (i + 1), bk := D.nx } σ2 H2) (hd : ∀ σ H, Pv ys.length σ H → D.nx σ H) :
    ∃ W : Nat → Nat → L2.St → Hp → Prop, (∃ m, W 0 m σ H) ∧ ∀ i m σ H, W i m σ H →
      ((ItzX K x b).stop i H ∧ D.nx σ H) ∨ ((ItzX K x b).go i H ∧ ∃ N : L2.St → Hp → Prop, (∀ σ' H', N σ' H' → ∃ m', m' < m ∧ W (i + 1) m' σ' H') ∧ ∀ v H', (ItzX K x b).yld i H v H' → g v σ H' fun σ2 H2 => tb { D with nx := N, ct := N, bk := D.nx } σ2 H2) := by
  refine ⟨fun i m σ H => m = ys.length - i ∧ i ≤ ys.length ∧ Pv i σ H, ⟨ys.length, rfl, Nat.zero_le _, h0⟩, ?_⟩
  rintro i m σ H ⟨rfl, hi, p⟩
  have qy := hq i σ H p
  by_cases hlt : i < ys.length
  · have hy : ys[i]? = some ys[i] := List.getElem?_eq_getElem hlt
    refine .inr ⟨⟨ys, _, qy, by omega, hy⟩, Pv (i + 1), fun σ' H' p' => ⟨ys.length - (i + 1), by omega, rfl, hlt, p'⟩, fun v H' y => ?_⟩
    obtain ⟨T, c, y', rfl, hT, rfl, f1, f2⟩ := y
    exact hs i c y' T σ H f1 (f2 ys qy) p hT
  · have e : i = ys.length := by omega
    subst e
    exact .inl ⟨⟨ys, qy, hl, rfl⟩, hd σ H p⟩
end K85

set_option Elab.async false
set_option linter.all false
set_option maxRecDepth 100000
set_option maxHeartbeats 4000000
/-! The text by places, and the facts of it. Printed by gen_text.py. -/
namespace K85
open PySem PySem.Spec PyProof.Rows L2
abbrev Pg : Program := PySem.Challenge.pw_oncethrough_k85_whole_looks_of_long_read
def top (i : Nat) : Stmt := Pg.main.body.getD i (.Pass ⟨0, 0, 0, 0⟩)
abbrev FnP (K : PySem.W.Frag) (x qual : Str) (st : Stmt) (f : Addr) : Prop := ∃ fd, FunD K x qual (defArgs st) (defBody st) (defScope st) [] [] f fd

abbrev s_is_name : Stmt := top 21
abbrev n_is_name : List Str := ["value", "letter"]
theorem sc_is_name : FnScope n_is_name ["value"] (defScope s_is_name) := ⟨rfl, rfl, rfl, by decide +kernel, rfl, by decide +kernel, by decide +kernel⟩
abbrev s_is_number : Stmt := top 22
abbrev n_is_number : List Str := ["value", "least", "most"]
theorem sc_is_number : FnScope n_is_number ["value", "least", "most"] (defScope s_is_number) := ⟨rfl, rfl, rfl, by decide +kernel, rfl, by decide +kernel, by decide +kernel⟩
abbrev s_is_listed : Stmt := top 23
abbrev n_is_listed : List Str := ["value"]
theorem sc_is_listed : FnScope n_is_listed ["value"] (defScope s_is_listed) := ⟨rfl, rfl, rfl, by decide +kernel, rfl, by decide +kernel, by decide +kernel⟩
abbrev s_are_things : Stmt := top 26
abbrev n_are_things : List Str := ["values", "many", "size", "value"]
theorem sc_are_things : FnScope n_are_things ["values", "many", "size"] (defScope s_are_things) := ⟨rfl, rfl, rfl, by decide +kernel, rfl, by decide +kernel, by decide +kernel⟩
abbrev s_check_tables : Stmt := top 30
abbrev n_check_tables : List Str := ["size", "tables", "name", "told", "places", "rows", "at", "row"]
theorem sc_check_tables : FnScope n_check_tables ["size", "tables"] (defScope s_check_tables) := ⟨rfl, rfl, rfl, by decide +kernel, rfl, by decide +kernel, by decide +kernel⟩
abbrev s_check_fit : Stmt := top 36
abbrev n_check_fit : List Str := ["store", "tables", "known", "name"]
theorem sc_check_fit : FnScope n_check_fit ["store", "tables"] (defScope s_check_fit) := ⟨rfl, rfl, rfl, by decide +kernel, rfl, by decide +kernel, by decide +kernel⟩
abbrev s_check_inputs : Stmt := top 38
abbrev n_check_inputs : List Str := ["store", "many", "inputs"]
theorem sc_check_inputs : FnScope n_check_inputs ["store", "many", "inputs"] (defScope s_check_inputs) := ⟨rfl, rfl, rfl, by decide +kernel, rfl, by decide +kernel, by decide +kernel⟩
abbrev s_width_of : Stmt := top 41
abbrev n_width_of : List Str := ["most", "size"]
theorem sc_width_of : FnScope n_width_of ["most", "size"] (defScope s_width_of) := ⟨rfl, rfl, rfl, by decide +kernel, rfl, by decide +kernel, by decide +kernel⟩
abbrev s_check_reading : Stmt := top 42
abbrev n_check_reading : List Str := ["reader", "store", "inputs"]
theorem sc_check_reading : FnScope n_check_reading ["reader", "store", "inputs"] (defScope s_check_reading) := ⟨rfl, rfl, rfl, by decide +kernel, rfl, by decide +kernel, by decide +kernel⟩
abbrev s_is_step : Stmt := top 52
abbrev n_is_step : List Str := ["value", "cells", "rows", "kind", "item"]
theorem sc_is_step : FnScope n_is_step ["value", "cells", "rows"] (defScope s_is_step) := ⟨rfl, rfl, rfl, by decide +kernel, rfl, by decide +kernel, by decide +kernel⟩
abbrev s_check_rows : Stmt := top 53
abbrev n_check_rows : List Str := ["cells", "rows", "places", "at", "step"]
theorem sc_check_rows : FnScope n_check_rows ["cells", "rows"] (defScope s_check_rows) := ⟨rfl, rfl, rfl, by decide +kernel, rfl, by decide +kernel, by decide +kernel⟩
abbrev s_law_box : Stmt := top 58
abbrev n_law_box : List Str := ["_law_script", "_law_mixed_here", "_law_cell"]
theorem sc_law_box : FnScope n_law_box ["_law_script"] (defScope s_law_box) := ⟨rfl, rfl, rfl, by decide +kernel, rfl, by decide +kernel, by decide +kernel⟩
abbrev s_law_pull : Stmt := top 59
abbrev n_law_pull : List Str := ["_law_box_here", "_law_many", "_law_cell", "_law_digit", "_law_twice"]
theorem sc_law_pull : FnScope n_law_pull ["_law_box_here", "_law_many"] (defScope s_law_pull) := ⟨rfl, rfl, rfl, by decide +kernel, rfl, by decide +kernel, by decide +kernel⟩
abbrev s_law_of : Stmt := top 60
abbrev n_law_of : List Str := ["_law_box_here", "_law_some"]
theorem sc_law_of : FnScope n_law_of ["_law_box_here", "_law_some"] (defScope s_law_of) := ⟨rfl, rfl, rfl, by decide +kernel, rfl, by decide +kernel, by decide +kernel⟩
abbrev s_law_mixed : Stmt := top 61
abbrev n_law_mixed : List Str := ["_law_box_here", "_law_some", "_law_found", "_law_item"]
theorem sc_law_mixed : FnScope n_law_mixed ["_law_box_here", "_law_some"] (defScope s_law_mixed) := ⟨rfl, rfl, rfl, by decide +kernel, rfl, by decide +kernel, by decide +kernel⟩
abbrev s_law_words : Stmt := top 62
abbrev n_law_words : List Str := ["_law_box_here", "_law_many", "_law_letters", "_law_stem", "_law_spot", "_law_first", "_law_k"]
theorem sc_law_words : FnScope n_law_words ["_law_box_here", "_law_many"] (defScope s_law_words) := ⟨rfl, rfl, rfl, by decide +kernel, rfl, by decide +kernel, by decide +kernel⟩
abbrev s_law_same : Stmt := top 63
abbrev n_law_same : List Str := ["_law_found", "_law_due", "_law_a", "_law_b"]
theorem sc_law_same : FnScope n_law_same ["_law_found", "_law_due"] (defScope s_law_same) := ⟨rfl, rfl, rfl, by decide +kernel, rfl, by decide +kernel, by decide +kernel⟩
abbrev s_law_every : Stmt := top 64
abbrev n_law_every : List Str := ["_law_size", "_law_places", "_law_found", "_law_k", "_law_a", "_law_j"]
theorem sc_law_every : FnScope n_law_every ["_law_size", "_law_places"] (defScope s_law_every) := ⟨rfl, rfl, rfl, by decide +kernel, rfl, by decide +kernel, by decide +kernel⟩
abbrev s_law_rows : Stmt := top 65
abbrev n_law_rows : List Str := ["_law_box_here", "_law_size", "_law_places", "_law_cap"]
theorem sc_law_rows : FnScope n_law_rows ["_law_box_here", "_law_size", "_law_places", "_law_cap"] (defScope s_law_rows) := ⟨rfl, rfl, rfl, by decide +kernel, rfl, by decide +kernel, by decide +kernel⟩
abbrev s_law_tabs : Stmt := top 66
abbrev n_law_tabs : List Str := ["_law_box_here", "_law_size", "_law_words_here", "_law_found"]
theorem sc_law_tabs : FnScope n_law_tabs ["_law_box_here", "_law_size", "_law_words_here"] (defScope s_law_tabs) := ⟨rfl, rfl, rfl, by decide +kernel, rfl, by decide +kernel, by decide +kernel⟩
abbrev s_law_copy : Stmt := top 67
abbrev n_law_copy : List Str := ["_law_tabs_here", "_law_name"]
theorem sc_law_copy : FnScope n_law_copy ["_law_tabs_here"] (defScope s_law_copy) := ⟨rfl, rfl, rfl, by decide +kernel, rfl, by decide +kernel, by decide +kernel⟩
abbrev s_law_store : Stmt := top 68
abbrev n_law_store : List Str := ["_law_size", "_law_tabs_here"]
theorem sc_law_store : FnScope n_law_store ["_law_size", "_law_tabs_here"] (defScope s_law_store) := ⟨rfl, rfl, rfl, by decide +kernel, rfl, by decide +kernel, by decide +kernel⟩
abbrev s_law_unique : Stmt := top 69
abbrev n_law_unique : List Str := ["_law_some", "_law_found", "_law_item"]
theorem sc_law_unique : FnScope n_law_unique ["_law_some"] (defScope s_law_unique) := ⟨rfl, rfl, rfl, by decide +kernel, rfl, by decide +kernel, by decide +kernel⟩
abbrev s_law : Stmt := top 70
abbrev n_law : List Str := ["_law_script", "_law_box_here", "_law_words_here", "_law_size", "_law_tabs_here", "_law_rows_here", "_law_made", "_law_reading", "_law_due", "_law_pairs", "_law_one", "_law_other", "_law_twin", "_law_state"]
theorem sc_law : FnScope n_law ["_law_script"] (defScope s_law) := ⟨rfl, rfl, rfl, by decide +kernel, rfl, by decide +kernel, by decide +kernel⟩
abbrev s_Store_init : Stmt := inClass (top 31) 1
abbrev n_Store_init : List Str := ["self", "size", "tables", "name"]
theorem sc_Store_init : FnScope n_Store_init ["self", "size", "tables"] (defScope s_Store_init) := ⟨rfl, rfl, rfl, by decide +kernel, rfl, by decide +kernel, by decide +kernel⟩
abbrev s_Store_tables : Stmt := inClass (top 31) 2
abbrev n_Store_tables : List Str := ["self"]
theorem sc_Store_tables : FnScope n_Store_tables ["self"] (defScope s_Store_tables) := ⟨rfl, rfl, rfl, by decide +kernel, rfl, by decide +kernel, by decide +kernel⟩
abbrev s_Store_table : Stmt := inClass (top 31) 3
abbrev n_Store_table : List Str := ["self", "name"]
theorem sc_Store_table : FnScope n_Store_table ["self", "name"] (defScope s_Store_table) := ⟨rfl, rfl, rfl, by decide +kernel, rfl, by decide +kernel, by decide +kernel⟩
abbrev s_Store_places : Stmt := inClass (top 31) 4
abbrev n_Store_places : List Str := ["self", "name"]
theorem sc_Store_places : FnScope n_Store_places ["self", "name"] (defScope s_Store_places) := ⟨rfl, rfl, rfl, by decide +kernel, rfl, by decide +kernel, by decide +kernel⟩
abbrev s_Store_has_row : Stmt := inClass (top 31) 8
abbrev n_Store_has_row : List Str := ["self", "name", "row"]
theorem sc_Store_has_row : FnScope n_Store_has_row ["self", "name", "row"] (defScope s_Store_has_row) := ⟨rfl, rfl, rfl, by decide +kernel, rfl, by decide +kernel, by decide +kernel⟩
abbrev s_Reading_init : Stmt := inClass (top 43) 0
abbrev n_Reading_init : List Str := ["self", "reader", "store", "inputs", "_"]
theorem sc_Reading_init : FnScope n_Reading_init ["self", "reader", "store", "inputs"] (defScope s_Reading_init) := ⟨rfl, rfl, rfl, by decide +kernel, rfl, by decide +kernel, by decide +kernel⟩
abbrev s_Reading_see : Stmt := inClass (top 43) 2
abbrev n_Reading_see : List Str := ["self", "table", "row"]
theorem sc_Reading_see : FnScope n_Reading_see ["self", "table", "row"] (defScope s_Reading_see) := ⟨rfl, rfl, rfl, by decide +kernel, rfl, by decide +kernel, by decide +kernel⟩
abbrev s_Rec_refuse : Stmt := inClass (top 43) 1
abbrev n_Rec_refuse : List Str := ["self", "why"]
theorem sc_Rec_refuse : FnScope n_Rec_refuse ["self", "why"] (defScope s_Rec_refuse) := ⟨rfl, rfl, rfl, by decide +kernel, rfl, by decide +kernel, by decide +kernel⟩
abbrev s_Rec_run : Stmt := inClass (top 43) 3
abbrev n_Rec_run : List Str := ["self", "known", "step", "state"]
theorem sc_Rec_run : FnScope n_Rec_run ["self"] (defScope s_Rec_run) := ⟨rfl, rfl, rfl, by decide +kernel, rfl, by decide +kernel, by decide +kernel⟩
abbrev s_Rec_go : Stmt := inClass (top 43) 4
abbrev n_Rec_go : List Str := ["self", "step", "word", "held", "one", "other", "good"]
theorem sc_Rec_go : FnScope n_Rec_go ["self", "step"] (defScope s_Rec_go) := ⟨rfl, rfl, rfl, by decide +kernel, rfl, by decide +kernel, by decide +kernel⟩
abbrev s_Rec_look : Stmt := inClass (top 43) 5
abbrev n_Rec_look : List Str := ["self", "step", "row", "cell", "value"]
theorem sc_Rec_look : FnScope n_Rec_look ["self", "step"] (defScope s_Rec_look) := ⟨rfl, rfl, rfl, by decide +kernel, rfl, by decide +kernel, by decide +kernel⟩
abbrev s_Rec_put1 : Stmt := inClass (top 43) 7
abbrev n_Rec_put1 : List Str := ["self", "mark", "cell"]
theorem sc_Rec_put1 : FnScope n_Rec_put1 ["self", "mark"] (defScope s_Rec_put1) := ⟨rfl, rfl, rfl, by decide +kernel, rfl, by decide +kernel, by decide +kernel⟩
abbrev s_Rec_put : Stmt := inClass (top 43) 8
abbrev n_Rec_put : List Str := ["self", "marks", "mark"]
theorem sc_Rec_put : FnScope n_Rec_put ["self", "marks"] (defScope s_Rec_put) := ⟨rfl, rfl, rfl, by decide +kernel, rfl, by decide +kernel, by decide +kernel⟩
abbrev s_Rec_like : Stmt := inClass (top 43) 11
abbrev n_Rec_like : List Str := ["self", "other"]
theorem sc_Rec_like : FnScope n_Rec_like ["self", "other"] (defScope s_Rec_like) := ⟨rfl, rfl, rfl, by decide +kernel, rfl, by decide +kernel, by decide +kernel⟩
abbrev s_Rec_seen : Stmt := inClass (top 44) 2
abbrev n_Rec_seen : List Str := ["self", "look"]
theorem sc_Rec_seen : FnScope n_Rec_seen ["self"] (defScope s_Rec_seen) := ⟨rfl, rfl, rfl, by decide +kernel, rfl, by decide +kernel, by decide +kernel⟩
abbrev s_Rec_twin : Stmt := inClass (top 44) 3
abbrev n_Rec_twin : List Str := ["self", "found"]
theorem sc_Rec_twin : FnScope n_Rec_twin ["self"] (defScope s_Rec_twin) := ⟨rfl, rfl, rfl, by decide +kernel, rfl, by decide +kernel, by decide +kernel⟩
abbrev s_Reader_init : Stmt := inClass (top 54) 1
abbrev n_Reader_init : List Str := ["self", "cells", "rows", "inputs", "at", "most"]
theorem sc_Reader_init : FnScope n_Reader_init ["self", "cells", "rows", "inputs"] (defScope s_Reader_init) := ⟨rfl, rfl, rfl, by decide +kernel, rfl, by decide +kernel, by decide +kernel⟩
abbrev s_Reader_tables : Stmt := inClass (top 54) 2
abbrev n_Reader_tables : List Str := ["self", "step"]
theorem sc_Reader_tables : FnScope n_Reader_tables ["self"] (defScope s_Reader_tables) := ⟨rfl, rfl, rfl, by decide +kernel, rfl, by decide +kernel, by decide +kernel⟩
abbrev s_Rec_init : Stmt := inClass (top 44) 0
abbrev n_Rec_init : List Str := ["self", "reader", "store", "inputs"]
theorem sc_Rec_init : SScope n_Rec_init ["self", "reader", "store", "inputs"] (defScope s_Rec_init) := ⟨rfl, rfl, rfl, by decide +kernel, rfl, by decide +kernel, by decide +kernel, by decide +kernel⟩
abbrev s_Rec_see : Stmt := inClass (top 44) 1
abbrev n_Rec_see : List Str := ["self", "table", "row", "answer"]
theorem sc_Rec_see : SScope n_Rec_see ["self", "table", "row"] (defScope s_Rec_see) := ⟨rfl, rfl, rfl, by decide +kernel, rfl, by decide +kernel, by decide +kernel, by decide +kernel⟩
section
variable (K : PySem.W.Frag)
abbrev c_Store : Addr := He.ga K "Store"
abbrev c_Recorded : Addr := He.ga K "Recorded"
abbrev c_Reader : Addr := He.ga K "Reader"
abbrev c_Reading : Addr := He.ga K "Reading"
abbrev a_is_name : Addr := He.ga K "is_name"
abbrev a_is_number : Addr := He.ga K "is_number"
abbrev a_is_listed : Addr := He.ga K "is_listed"
abbrev a_are_things : Addr := He.ga K "are_things"
abbrev a_check_tables : Addr := He.ga K "check_tables"
abbrev a_check_fit : Addr := He.ga K "check_fit"
abbrev a_check_inputs : Addr := He.ga K "check_inputs"
abbrev a_width_of : Addr := He.ga K "width_of"
abbrev a_check_reading : Addr := He.ga K "check_reading"
abbrev a_is_step : Addr := He.ga K "is_step"
abbrev a_check_rows : Addr := He.ga K "check_rows"
abbrev a_law_box : Addr := He.ga K "_law_box"
abbrev a_law_pull : Addr := He.ga K "_law_pull"
abbrev a_law_of : Addr := He.ga K "_law_of"
abbrev a_law_mixed : Addr := He.ga K "_law_mixed"
abbrev a_law_words : Addr := He.ga K "_law_words"
abbrev a_law_same : Addr := He.ga K "_law_same"
abbrev a_law_every : Addr := He.ga K "_law_every"
abbrev a_law_rows : Addr := He.ga K "_law_rows"
abbrev a_law_tabs : Addr := He.ga K "_law_tabs"
abbrev a_law_copy : Addr := He.ga K "_law_copy"
abbrev a_law_store : Addr := He.ga K "_law_store"
abbrev a_law_unique : Addr := He.ga K "_law_unique"
abbrev a_law : Addr := He.ga K "law"
abbrev a_Store_init : Addr := He.ma K (He.ga K "Store") "__init__"
abbrev a_Store_tables : Addr := He.ma K (He.ga K "Store") "tables"
abbrev a_Store_table : Addr := He.ma K (He.ga K "Store") "_table"
abbrev a_Store_places : Addr := He.ma K (He.ga K "Store") "places"
abbrev a_Store_has_row : Addr := He.ma K (He.ga K "Store") "has_row"
abbrev a_Reading_init : Addr := He.ma K (He.ga K "Reading") "__init__"
abbrev a_Reading_see : Addr := He.ma K (He.ga K "Reading") "_see"
abbrev a_Rec_refuse : Addr := He.ma K (He.ga K "Recorded") "_refuse"
abbrev a_Rec_run : Addr := He.ma K (He.ga K "Recorded") "_run"
abbrev a_Rec_go : Addr := He.ma K (He.ga K "Recorded") "_go"
abbrev a_Rec_look : Addr := He.ma K (He.ga K "Recorded") "_look"
abbrev a_Rec_put1 : Addr := He.ma K (He.ga K "Recorded") "_put"
abbrev a_Rec_put : Addr := He.ma K (He.ga K "Recorded") "put"
abbrev a_Rec_like : Addr := He.ma K (He.ga K "Recorded") "_like"
abbrev a_Rec_seen : Addr := He.ma K (He.ga K "Recorded") "seen"
abbrev a_Rec_twin : Addr := He.ma K (He.ga K "Recorded") "twin"
abbrev a_Reader_init : Addr := He.ma K (He.ga K "Reader") "__init__"
abbrev a_Reader_tables : Addr := He.ma K (He.ga K "Reader") "tables"
abbrev a_Rec_init : Addr := He.ma K (He.ga K "Recorded") "__init__"
abbrev a_Rec_see : Addr := He.ma K (He.ga K "Recorded") "_see"
end
/-- what of the text the defs lean on -/
structure Txt (w : World) (K : PySem.W.Frag) (mg : Str → Option Value) : Prop where
  n_abs : mg "abs" = none
  n_all : mg "all" = none
  n_bool : mg "bool" = none
  n_dict : mg "dict" = none
  n_enumerate : mg "enumerate" = none
  n_int : mg "int" = none
  n_isinstance : mg "isinstance" = none
  n_len : mg "len" = none
  n_list : mg "list" = none
  n_range : mg "range" = none
  n_set : mg "set" = none
  n_sorted : mg "sorted" = none
  n_str : mg "str" = none
  n_super : mg "super" = none
  n_tuple : mg "tuple" = none
  n_zip : mg "zip" = none
  i_LONGEST_NAME : ∃ t, mg "LONGEST_NAME" = some (.int 6 t)
  i_MOST_TABLES : ∃ t, mg "MOST_TABLES" = some (.int 4 t)
  i_MOST_CELLS : ∃ t, mg "MOST_CELLS" = some (.int 300 t)
  i_MOST_ROWS : ∃ t, mg "MOST_ROWS" = some (.int 10000 t)
  i_MOST_RANGE : ∃ t, mg "MOST_RANGE" = some (.int 10000 t)
  s_LETTERS : ∃ t, mg "LETTERS" = some (.str "abcdefghijklmnopqrstuvwxyz" t)
  g_FORMS : mg "FORMS" = some (.ref (He.ga K "FORMS"))
  g_PLACES : mg "PLACES" = some (.ref (He.ga K "PLACES"))
  g_LAST : mg "LAST" = some (.ref (He.ga K "LAST"))
  g_Store : mg "Store" = some (.ref (He.ga K "Store"))
  g_Recorded : mg "Recorded" = some (.ref (He.ga K "Recorded"))
  g_Reader : mg "Reader" = some (.ref (He.ga K "Reader"))
  g_is_name : mg "is_name" = some (.ref (He.ga K "is_name"))
  g_is_number : mg "is_number" = some (.ref (He.ga K "is_number"))
  g_is_listed : mg "is_listed" = some (.ref (He.ga K "is_listed"))
  g_are_things : mg "are_things" = some (.ref (He.ga K "are_things"))
  g_check_tables : mg "check_tables" = some (.ref (He.ga K "check_tables"))
  g_check_fit : mg "check_fit" = some (.ref (He.ga K "check_fit"))
  g_check_inputs : mg "check_inputs" = some (.ref (He.ga K "check_inputs"))
  g_width_of : mg "width_of" = some (.ref (He.ga K "width_of"))
  g_check_reading : mg "check_reading" = some (.ref (He.ga K "check_reading"))
  g_is_step : mg "is_step" = some (.ref (He.ga K "is_step"))
  g_check_rows : mg "check_rows" = some (.ref (He.ga K "check_rows"))
  g_law_box : mg "_law_box" = some (.ref (He.ga K "_law_box"))
  g_law_pull : mg "_law_pull" = some (.ref (He.ga K "_law_pull"))
  g_law_of : mg "_law_of" = some (.ref (He.ga K "_law_of"))
  g_law_mixed : mg "_law_mixed" = some (.ref (He.ga K "_law_mixed"))
  g_law_words : mg "_law_words" = some (.ref (He.ga K "_law_words"))
  g_law_same : mg "_law_same" = some (.ref (He.ga K "_law_same"))
  g_law_every : mg "_law_every" = some (.ref (He.ga K "_law_every"))
  g_law_rows : mg "_law_rows" = some (.ref (He.ga K "_law_rows"))
  g_law_tabs : mg "_law_tabs" = some (.ref (He.ga K "_law_tabs"))
  g_law_copy : mg "_law_copy" = some (.ref (He.ga K "_law_copy"))
  g_law_store : mg "_law_store" = some (.ref (He.ga K "_law_store"))
  g_law_unique : mg "_law_unique" = some (.ref (He.ga K "_law_unique"))
  cl_Store : Cls K (He.ga K "Store")
  mk_Store : Mk K (He.ga K "Store") (He.ma K (He.ga K "Store") "__init__")
  cl_Recorded : Cls K (He.ga K "Recorded")
  mk_Recorded : Mk K (He.ga K "Recorded") (He.ma K (He.ga K "Recorded") "__init__")
  cl_Reader : Cls K (He.ga K "Reader")
  mk_Reader : Mk K (He.ga K "Reader") (He.ma K (He.ga K "Reader") "__init__")
  no_Store_size : NoAttr K (He.ga K "Store") "size"
  no_Store_tables : NoAttr K (He.ga K "Store") "_tables"
  no_Recorded_reader : NoAttr K (He.ga K "Recorded") "reader"
  no_Recorded_store : NoAttr K (He.ga K "Recorded") "store"
  no_Recorded_state : NoAttr K (He.ga K "Recorded") "state"
  no_Recorded_why : NoAttr K (He.ga K "Recorded") "why"
  no_Recorded_row : NoAttr K (He.ga K "Recorded") "row"
  no_Recorded_held : NoAttr K (He.ga K "Recorded") "_held"
  no_Recorded_cells : NoAttr K (He.ga K "Recorded") "cells"
  no_Recorded_looks : NoAttr K (He.ga K "Recorded") "_looks"
  no_Reader_cells : NoAttr K (He.ga K "Reader") "cells"
  no_Reader_rows : NoAttr K (He.ga K "Reader") "rows"
  no_Reader_inputs : NoAttr K (He.ga K "Reader") "inputs"
  m_Store_tables : Meth K (He.ga K "Store") "tables" (He.ma K (He.ga K "Store") "tables")
  m_Store__table : Meth K (He.ga K "Store") "_table" (He.ma K (He.ga K "Store") "_table")
  m_Store_places : Meth K (He.ga K "Store") "places" (He.ma K (He.ga K "Store") "places")
  m_Store_has_row : Meth K (He.ga K "Store") "has_row" (He.ma K (He.ga K "Store") "has_row")
  m_Recorded__refuse : Meth K (He.ga K "Recorded") "_refuse" (He.ma K (He.ga K "Recorded") "_refuse")
  m_Recorded__see : Meth K (He.ga K "Recorded") "_see" (He.ma K (He.ga K "Recorded") "_see")
  m_Recorded__run : Meth K (He.ga K "Recorded") "_run" (He.ma K (He.ga K "Recorded") "_run")
  m_Recorded__go : Meth K (He.ga K "Recorded") "_go" (He.ma K (He.ga K "Recorded") "_go")
  m_Recorded__look : Meth K (He.ga K "Recorded") "_look" (He.ma K (He.ga K "Recorded") "_look")
  m_Recorded__put : Meth K (He.ga K "Recorded") "_put" (He.ma K (He.ga K "Recorded") "_put")
  m_Recorded_put : Meth K (He.ga K "Recorded") "put" (He.ma K (He.ga K "Recorded") "put")
  m_Recorded__like : Meth K (He.ga K "Recorded") "_like" (He.ma K (He.ga K "Recorded") "_like")
  m_Recorded_seen : Meth K (He.ga K "Recorded") "seen" (He.ma K (He.ga K "Recorded") "seen")
  m_Recorded_twin : Meth K (He.ga K "Recorded") "twin" (He.ma K (He.ga K "Recorded") "twin")
  m_Reader_tables : Meth K (He.ga K "Reader") "tables" (He.ma K (He.ga K "Reader") "tables")
  d_is_name : FnP K "is_name" "is_name" s_is_name (a_is_name K)
  d_is_number : FnP K "is_number" "is_number" s_is_number (a_is_number K)
  d_is_listed : FnP K "is_listed" "is_listed" s_is_listed (a_is_listed K)
  d_are_things : FnP K "are_things" "are_things" s_are_things (a_are_things K)
  d_check_tables : FnP K "check_tables" "check_tables" s_check_tables (a_check_tables K)
  d_check_fit : FnP K "check_fit" "check_fit" s_check_fit (a_check_fit K)
  d_check_inputs : FnP K "check_inputs" "check_inputs" s_check_inputs (a_check_inputs K)
  d_width_of : FnP K "width_of" "width_of" s_width_of (a_width_of K)
  d_check_reading : FnP K "check_reading" "check_reading" s_check_reading (a_check_reading K)
  d_is_step : FnP K "is_step" "is_step" s_is_step (a_is_step K)
  d_check_rows : FnP K "check_rows" "check_rows" s_check_rows (a_check_rows K)
  d_law_box : FnP K "_law_box" "_law_box" s_law_box (a_law_box K)
  d_law_pull : FnP K "_law_pull" "_law_pull" s_law_pull (a_law_pull K)
  d_law_of : FnP K "_law_of" "_law_of" s_law_of (a_law_of K)
  d_law_mixed : FnP K "_law_mixed" "_law_mixed" s_law_mixed (a_law_mixed K)
  d_law_words : FnP K "_law_words" "_law_words" s_law_words (a_law_words K)
  d_law_same : FnP K "_law_same" "_law_same" s_law_same (a_law_same K)
  d_law_every : FnP K "_law_every" "_law_every" s_law_every (a_law_every K)
  d_law_rows : FnP K "_law_rows" "_law_rows" s_law_rows (a_law_rows K)
  d_law_tabs : FnP K "_law_tabs" "_law_tabs" s_law_tabs (a_law_tabs K)
  d_law_copy : FnP K "_law_copy" "_law_copy" s_law_copy (a_law_copy K)
  d_law_store : FnP K "_law_store" "_law_store" s_law_store (a_law_store K)
  d_law_unique : FnP K "_law_unique" "_law_unique" s_law_unique (a_law_unique K)
  d_Store_init : FnP K "__init__" "Store.__init__" s_Store_init (a_Store_init K)
  d_Store_tables : FnP K "tables" "Store.tables" s_Store_tables (a_Store_tables K)
  d_Store_table : FnP K "_table" "Store._table" s_Store_table (a_Store_table K)
  d_Store_places : FnP K "places" "Store.places" s_Store_places (a_Store_places K)
  d_Store_has_row : FnP K "has_row" "Store.has_row" s_Store_has_row (a_Store_has_row K)
  d_Reading_init : FnP K "__init__" "Reading.__init__" s_Reading_init (a_Reading_init K)
  d_Reading_see : FnP K "_see" "Reading._see" s_Reading_see (a_Reading_see K)
  d_Rec_refuse : FnP K "_refuse" "Reading._refuse" s_Rec_refuse (a_Rec_refuse K)
  d_Rec_run : FnP K "_run" "Reading._run" s_Rec_run (a_Rec_run K)
  d_Rec_go : FnP K "_go" "Reading._go" s_Rec_go (a_Rec_go K)
  d_Rec_look : FnP K "_look" "Reading._look" s_Rec_look (a_Rec_look K)
  d_Rec_put1 : FnP K "_put" "Reading._put" s_Rec_put1 (a_Rec_put1 K)
  d_Rec_put : FnP K "put" "Reading.put" s_Rec_put (a_Rec_put K)
  d_Rec_like : FnP K "_like" "Reading._like" s_Rec_like (a_Rec_like K)
  d_Rec_seen : FnP K "seen" "Recorded.seen" s_Rec_seen (a_Rec_seen K)
  d_Rec_twin : FnP K "twin" "Recorded.twin" s_Rec_twin (a_Rec_twin K)
  d_Reader_init : ∃ fd, FunD K "__init__" "Reader.__init__" (defArgs s_Reader_init) (defBody s_Reader_init) (defScope s_Reader_init) [] [("inputs", V.int 0)] (a_Reader_init K) fd
  d_Reader_tables : FnP K "tables" "Reader.tables" s_Reader_tables (a_Reader_tables K)
  u_Rec_init : ∃ cda cc, SupF Pg K "__init__" "Recorded.__init__" (defArgs s_Rec_init) (defBody s_Rec_init) (defScope s_Rec_init) (c_Recorded K) (a_Rec_init K) cda cc
  u_Rec_see : ∃ cda cc, SupF Pg K "_see" "Recorded._see" (defArgs s_Rec_see) (defBody s_Rec_see) (defScope s_Rec_see) (c_Recorded K) (a_Rec_see K) cda cc
  sup : SupT Pg K mg (c_Recorded K)
  su_init : SupM K (c_Recorded K) "__init__" (a_Reading_init K)
  su_see : SupM K (c_Recorded K) "_see" (a_Reading_see K)
  con_MOST : ∃ u, Con K (He.ga K "Store") "MOST" (.int 8) u
  kd_FORMS : ∃ es n, KDict K w (He.ga K "FORMS") es n
  kd_PLACES : ∃ es n, KDict K w (He.ga K "PLACES") es n
  fo_read : ∃ u, PySem.W.nsIn K (He.ga K "FORMS") "read" = some (some u) ∧ RelV (.str "c") u
  fo_zero : ∃ u, PySem.W.nsIn K (He.ga K "FORMS") "zero" = some (some u) ∧ RelV (.str "c") u
  fo_top : ∃ u, PySem.W.nsIn K (He.ga K "FORMS") "top" = some (some u) ∧ RelV (.str "c") u
  fo_up : ∃ u, PySem.W.nsIn K (He.ga K "FORMS") "up" = some (some u) ∧ RelV (.str "c") u
  fo_copy : ∃ u, PySem.W.nsIn K (He.ga K "FORMS") "copy" = some (some u) ∧ RelV (.str "cc") u
  fo_same : ∃ u, PySem.W.nsIn K (He.ga K "FORMS") "same" = some (some u) ∧ RelV (.str "ccj") u
  fo_less : ∃ u, PySem.W.nsIn K (He.ga K "FORMS") "less" = some (some u) ∧ RelV (.str "ccj") u
  fo_has : ∃ u, PySem.W.nsIn K (He.ga K "FORMS") "has" = some (some u) ∧ RelV (.str "tcj") u
  fo_link : ∃ u, PySem.W.nsIn K (He.ga K "FORMS") "link" = some (some u) ∧ RelV (.str "tccj") u
  fo_jump : ∃ u, PySem.W.nsIn K (He.ga K "FORMS") "jump" = some (some u) ∧ RelV (.str "j") u
  fo_refuse : ∃ u, PySem.W.nsIn K (He.ga K "FORMS") "refuse" = some (some u) ∧ RelV (.str "") u
  fo_end : ∃ u, PySem.W.nsIn K (He.ga K "FORMS") "end" = some (some u) ∧ RelV (.str "") u
  pl_has : ∃ u, PySem.W.nsIn K (He.ga K "PLACES") "has" = some (some u) ∧ RelV (.int 1) u
  pl_link : ∃ u, PySem.W.nsIn K (He.ga K "PLACES") "link" = some (some u) ∧ RelV (.int 2) u
  pn_read : PySem.W.nsIn K (He.ga K "PLACES") "read" = some none
  pn_jump : PySem.W.nsIn K (He.ga K "PLACES") "jump" = some none
  t_LAST : ∀ H : Hp, SqT K H (He.ga K "LAST") [.str "jump", .str "refuse", .str "end"]
end K85

set_option Elab.async false
set_option linter.all false
set_option maxRecDepth 100000
set_option maxHeartbeats 0
/-! The head: what the top leaves, told once. Printed by gen_text.py. -/
namespace K85
open PySem PySem.Spec PyProof.Rows L2

def hf0 : List He.Fa := [.free "abs", .free "all", .free "bool", .free "dict", .free "enumerate", .free "int", .free "isinstance", .free "len", .free "list", .free "range", .free "set", .free "sorted"]
def hf1 : List He.Fa := [.free "str", .free "super", .free "tuple", .free "zip", .int "LONGEST_NAME" 6, .int "MOST_TABLES" 4, .int "MOST_CELLS" 300, .int "MOST_ROWS" 10000, .int "MOST_RANGE" 10000, .str "LETTERS" "abcdefghijklmnopqrstuvwxyz", .glo "FORMS", .glo "PLACES"]
def hf2 : List He.Fa := [.glo "LAST", .glo "Store", .glo "Recorded", .glo "Reader", .glo "is_name", .glo "is_number", .glo "is_listed", .glo "are_things", .glo "check_tables", .glo "check_fit", .glo "check_inputs", .glo "width_of"]
def hf3 : List He.Fa := [.glo "check_reading", .glo "is_step", .glo "check_rows", .glo "_law_box", .glo "_law_pull", .glo "_law_of", .glo "_law_mixed", .glo "_law_words", .glo "_law_same", .glo "_law_every", .glo "_law_rows", .glo "_law_tabs"]
def hf4 : List He.Fa := [.glo "_law_copy", .glo "_law_store", .glo "_law_unique", .glo "law", .cls "Store", .mkr "Store", .cls "Recorded", .mkr "Recorded", .cls "Reader", .mkr "Reader", .noat "Store" "size", .noat "Store" "_tables"]
def hf5 : List He.Fa := [.noat "Recorded" "reader", .noat "Recorded" "store", .noat "Recorded" "state", .noat "Recorded" "why", .noat "Recorded" "row", .noat "Recorded" "_held", .noat "Recorded" "cells", .noat "Recorded" "_looks", .noat "Reader" "cells", .noat "Reader" "rows", .noat "Reader" "inputs", .meth "Store" "tables"]
def hf6 : List He.Fa := [.meth "Store" "_table", .meth "Store" "places", .meth "Store" "has_row", .meth "Recorded" "_refuse", .meth "Recorded" "_see", .meth "Recorded" "_run", .meth "Recorded" "_go", .meth "Recorded" "_look", .meth "Recorded" "_put", .meth "Recorded" "put", .meth "Recorded" "_like", .meth "Recorded" "seen"]
def hf7 : List He.Fa := [.meth "Recorded" "twin", .meth "Reader" "tables"]
def hf : List He.Fa := hf0 ++ hf1 ++ hf2 ++ hf3 ++ hf4 ++ hf5 ++ hf6 ++ hf7
def hd0 : List He.DefD := [⟨("is_name", none), "is_name", "is_name", defArgs s_is_name, defBody s_is_name, defScope s_is_name, [], []⟩, ⟨("is_number", none), "is_number", "is_number", defArgs s_is_number, defBody s_is_number, defScope s_is_number, [], []⟩, ⟨("is_listed", none), "is_listed", "is_listed", defArgs s_is_listed, defBody s_is_listed, defScope s_is_listed, [], []⟩, ⟨("are_things", none), "are_things", "are_things", defArgs s_are_things, defBody s_are_things, defScope s_are_things, [], []⟩, ⟨("check_tables", none), "check_tables", "check_tables", defArgs s_check_tables, defBody s_check_tables, defScope s_check_tables, [], []⟩, ⟨("check_fit", none), "check_fit", "check_fit", defArgs s_check_fit, defBody s_check_fit, defScope s_check_fit, [], []⟩, ⟨("check_inputs", none), "check_inputs", "check_inputs", defArgs s_check_inputs, defBody s_check_inputs, defScope s_check_inputs, [], []⟩, ⟨("width_of", none), "width_of", "width_of", defArgs s_width_of, defBody s_width_of, defScope s_width_of, [], []⟩]
def hd1 : List He.DefD := [⟨("check_reading", none), "check_reading", "check_reading", defArgs s_check_reading, defBody s_check_reading, defScope s_check_reading, [], []⟩, ⟨("is_step", none), "is_step", "is_step", defArgs s_is_step, defBody s_is_step, defScope s_is_step, [], []⟩, ⟨("check_rows", none), "check_rows", "check_rows", defArgs s_check_rows, defBody s_check_rows, defScope s_check_rows, [], []⟩, ⟨("_law_box", none), "_law_box", "_law_box", defArgs s_law_box, defBody s_law_box, defScope s_law_box, [], []⟩, ⟨("_law_pull", none), "_law_pull", "_law_pull", defArgs s_law_pull, defBody s_law_pull, defScope s_law_pull, [], []⟩, ⟨("_law_of", none), "_law_of", "_law_of", defArgs s_law_of, defBody s_law_of, defScope s_law_of, [], []⟩, ⟨("_law_mixed", none), "_law_mixed", "_law_mixed", defArgs s_law_mixed, defBody s_law_mixed, defScope s_law_mixed, [], []⟩, ⟨("_law_words", none), "_law_words", "_law_words", defArgs s_law_words, defBody s_law_words, defScope s_law_words, [], []⟩]
def hd2 : List He.DefD := [⟨("_law_same", none), "_law_same", "_law_same", defArgs s_law_same, defBody s_law_same, defScope s_law_same, [], []⟩, ⟨("_law_every", none), "_law_every", "_law_every", defArgs s_law_every, defBody s_law_every, defScope s_law_every, [], []⟩, ⟨("_law_rows", none), "_law_rows", "_law_rows", defArgs s_law_rows, defBody s_law_rows, defScope s_law_rows, [], []⟩, ⟨("_law_tabs", none), "_law_tabs", "_law_tabs", defArgs s_law_tabs, defBody s_law_tabs, defScope s_law_tabs, [], []⟩, ⟨("_law_copy", none), "_law_copy", "_law_copy", defArgs s_law_copy, defBody s_law_copy, defScope s_law_copy, [], []⟩, ⟨("_law_store", none), "_law_store", "_law_store", defArgs s_law_store, defBody s_law_store, defScope s_law_store, [], []⟩, ⟨("_law_unique", none), "_law_unique", "_law_unique", defArgs s_law_unique, defBody s_law_unique, defScope s_law_unique, [], []⟩, ⟨("law", none), "law", "law", defArgs s_law, defBody s_law, defScope s_law, [], []⟩]
def hd3 : List He.DefD := [⟨("Store", some "__init__"), "__init__", "Store.__init__", defArgs s_Store_init, defBody s_Store_init, defScope s_Store_init, [], []⟩, ⟨("Store", some "tables"), "tables", "Store.tables", defArgs s_Store_tables, defBody s_Store_tables, defScope s_Store_tables, [], []⟩, ⟨("Store", some "_table"), "_table", "Store._table", defArgs s_Store_table, defBody s_Store_table, defScope s_Store_table, [], []⟩, ⟨("Store", some "places"), "places", "Store.places", defArgs s_Store_places, defBody s_Store_places, defScope s_Store_places, [], []⟩, ⟨("Store", some "has_row"), "has_row", "Store.has_row", defArgs s_Store_has_row, defBody s_Store_has_row, defScope s_Store_has_row, [], []⟩, ⟨("Reading", some "__init__"), "__init__", "Reading.__init__", defArgs s_Reading_init, defBody s_Reading_init, defScope s_Reading_init, [], []⟩, ⟨("Reading", some "_see"), "_see", "Reading._see", defArgs s_Reading_see, defBody s_Reading_see, defScope s_Reading_see, [], []⟩, ⟨("Recorded", some "_refuse"), "_refuse", "Reading._refuse", defArgs s_Rec_refuse, defBody s_Rec_refuse, defScope s_Rec_refuse, [], []⟩]
def hd4 : List He.DefD := [⟨("Recorded", some "_run"), "_run", "Reading._run", defArgs s_Rec_run, defBody s_Rec_run, defScope s_Rec_run, [], []⟩, ⟨("Recorded", some "_go"), "_go", "Reading._go", defArgs s_Rec_go, defBody s_Rec_go, defScope s_Rec_go, [], []⟩, ⟨("Recorded", some "_look"), "_look", "Reading._look", defArgs s_Rec_look, defBody s_Rec_look, defScope s_Rec_look, [], []⟩, ⟨("Recorded", some "_put"), "_put", "Reading._put", defArgs s_Rec_put1, defBody s_Rec_put1, defScope s_Rec_put1, [], []⟩, ⟨("Recorded", some "put"), "put", "Reading.put", defArgs s_Rec_put, defBody s_Rec_put, defScope s_Rec_put, [], []⟩, ⟨("Recorded", some "_like"), "_like", "Reading._like", defArgs s_Rec_like, defBody s_Rec_like, defScope s_Rec_like, [], []⟩, ⟨("Recorded", some "seen"), "seen", "Recorded.seen", defArgs s_Rec_seen, defBody s_Rec_seen, defScope s_Rec_seen, [], []⟩, ⟨("Recorded", some "twin"), "twin", "Recorded.twin", defArgs s_Rec_twin, defBody s_Rec_twin, defScope s_Rec_twin, [], []⟩]
def hd5 : List He.DefD := [⟨("Reader", some "__init__"), "__init__", "Reader.__init__", defArgs s_Reader_init, defBody s_Reader_init, defScope s_Reader_init, [], [("inputs", .int 0)]⟩, ⟨("Reader", some "tables"), "tables", "Reader.tables", defArgs s_Reader_tables, defBody s_Reader_tables, defScope s_Reader_tables, [], []⟩]
def hd : List He.DefD := hd0 ++ hd1 ++ hd2 ++ hd3 ++ hd4 ++ hd5
def hts : List He.Tab := [((fun K => He.ga K "FORMS"), ["read", "zero", "top", "up", "copy", "same", "less", "has", "link", "jump", "refuse", "end"]), ((fun K => He.ga K "PLACES"), ["has", "link"])]
def vFORMS : List (Str × He.Dv) := [("read", .str "c"), ("zero", .str "c"), ("top", .str "c"), ("up", .str "c"), ("copy", .str "cc"), ("same", .str "ccj"), ("less", .str "ccj"), ("has", .str "tcj"), ("link", .str "tccj"), ("jump", .str "j"), ("refuse", .str ""), ("end", .str "")]
def vPLACES : List (Str × He.Dv) := [("has", .int 1), ("link", .int 2)]
def nfF0 : List Str := [("is_name" : Str), ("is_number" : Str), ("is_listed" : Str), ("are_things" : Str), ("check_tables" : Str), ("check_fit" : Str), ("check_inputs" : Str), ("width_of" : Str), ("check_reading" : Str), ("is_step" : Str), ("check_rows" : Str), ("_law_box" : Str)]
def nfF1 : List Str := [("_law_pull" : Str), ("_law_of" : Str), ("_law_mixed" : Str), ("_law_words" : Str), ("_law_same" : Str), ("_law_every" : Str), ("_law_rows" : Str), ("_law_tabs" : Str), ("_law_copy" : Str), ("_law_store" : Str), ("_law_unique" : Str), ("law" : Str)]
def nfF2 : List Str := [("FORMS" : Str), ("PLACES" : Str), ("LAST" : Str)]
def nfF : List Str := nfF0 ++ nfF1 ++ nfF2
/-- a def that asks super(): its code, its file, its cell -/
def supB (K : PySem.W.Frag) (f : Addr) (qual : Str) (D : Addr) : Bool := match K.lookup f with
  | some ⟨_, _, .func fd, _⟩ => PySem.W.keepIn K (.ref f) && ((match fd.defaults with
    | .none => true
    | _ => false) && (PySem.W.codeIn K fd.code qual && ((match fd.code with
    | .ref cda => (match K.lookup cda with
      | some ⟨_, _, .fields vs, _⟩ => (match vs[2]? with
        | some (Value.str fl _) => ((Pg.main.file : Str) == fl)
        | _ => false)
      | _ => false)
    | _ => false) && (match fd.closure with
    | [(_, cc)] => (match K.lookup cc with
      | some ⟨_, _, .cell (some (.ref a)), _⟩ => decide (a = D)
      | _ => false)
    | _ => false))))
  | _ => false
abbrev SupV : Type := Option (Str × Str × Arguments × FuncBody × Scope × Addr × List Str × Addr)
def supV (K : PySem.W.Frag) (f : Addr) : SupV := match K.lookup f with
  | some ⟨_, _, .func fd, _⟩ => some (fd.name, fd.qualname, fd.params, fd.body, fd.scope, fd.globals, fd.closure.map (·.1), fd.builtins)
  | _ => none
theorem sup_of {K : PySem.W.Frag} {f D : Addr} {x qual : Str} {params : Arguments} {body : List Stmt} {scope : Scope} (e : supV K f = (some (x, qual, params, FuncBody.stmts body, scope, mainGlobals, ["__class__"], builtinsNs) : SupV)) (c : supB K f qual D = true) : ∃ cda cc, SupF Pg K x qual params body scope D f cda cc := by
  unfold supV at e
  unfold supB at c
  cases q : K.lookup f with
  | none =>
    rw [q] at c
    cases c
  | some o =>
    obtain ⟨oc, od, dt, osl⟩ := o
    rw [q] at c e
    cases dt with
    | func fd =>
      obtain ⟨n1, n2, n3, n4, n5, n6, n7, n8, n9, n10, n11, n12, n13, n14, n15⟩ := fd
      simp only [Option.some.injEq, Prod.mk.injEq] at e
      obtain ⟨h1, h2, h3, h4, h5, h6, h7, h8⟩ := e
      subst h1 h2 h3 h4 h5 h6 h8
      obtain ⟨kp, c⟩ := He.ba c
      obtain ⟨cn, c⟩ := He.ba c
      obtain ⟨cd, c⟩ := He.ba c
      obtain ⟨c1, c2⟩ := He.ba c
      dsimp only at cn cd c1 c2 h7
      have e8 : n8 = .none := by
        cases n8 <;> first | rfl | cases cn
      subst e8
      cases n13 with
      | ref cda =>
        dsimp only at c1
        cases q2 : K.lookup cda with
        | none =>
          rw [q2] at c1
          cases c1
        | some o2 =>
          obtain ⟨oc2, od2, dt2, osl2⟩ := o2
          rw [q2] at c1
          cases dt2 with
          | fields vs =>
            dsimp only at c1
            cases q3 : vs[2]? with
            | none =>
              rw [q3] at c1
              cases c1
            | some v =>
              rw [q3] at c1
              cases v with
              | str fl tf =>
                dsimp only at c1
                match n7, h7, c2 with
                | [(y, cc)], h7, c2 =>
                  have ey : y = "__class__" := by
                    have z : [y] = [("__class__" : Str)] := h7
                    exact (List.cons.inj z).1
                  subst ey
                  dsimp only at c2
                  cases q4 : K.lookup cc with
                  | none =>
                    rw [q4] at c2
                    cases c2
                  | some o4 =>
                    obtain ⟨oc4, od4, dt4, osl4⟩ := o4
                    rw [q4] at c2
                    cases dt4 with
                    | cell u =>
                      cases u with
                      | none => cases c2
                      | some u =>
                        cases u with
                        | ref a =>
                          have ea : a = D := of_decide_eq_true c2
                          subst ea
                          exact ⟨cda, cc, ⟨oc, n9, n10, n11, n14, n12, od, osl, q⟩, cd, ⟨oc2, od2, vs, osl2, fl, tf, q2, q3, c1⟩, ⟨oc4, od4, osl4, q4⟩, kp⟩
                        | _ => cases c2
                    | _ => cases c2
              | _ => cases c1
          | _ => cases c1
      | _ => cases c1
    | _ => cases c
/-- what else is told -/
def ex (K : PySem.W.Frag) : Bool := He.valsB K (He.ga K "FORMS") vFORMS && (He.valsB K (He.ga K "PLACES") vPLACES && (He.eqO (PySem.W.nsIn K (He.ga K "PLACES") "read") (some none) && (He.eqO (PySem.W.nsIn K (He.ga K "PLACES") "jump") (some none) &&
  (He.tupB K "LAST" [.str "jump", .str "refuse", .str "end"] && (He.conB K "Store" "MOST" (.int 8) &&
  (supB K (a_Rec_init K) "Recorded.__init__" (c_Recorded K) && (supB K (a_Rec_see K) "Recorded._see" (c_Recorded K) && ((PySem.W.clsIn K (c_Recorded K)).isSome && (decide (PySem.W.mroIn K (c_Recorded K) (.ref (c_Recorded K)) = some true) &&
  (He.eqO (PySem.W.nsIn K cStatics "thirdparty.any") (some none) && (He.eqO (PySem.W.ks_superIn K (c_Recorded K) (c_Recorded K) "__init__") (some (some (.ref (a_Reading_init K)))) && (He.eqO (PySem.W.ks_superIn K (c_Recorded K) (c_Recorded K) "_see") (some (some (.ref (a_Reading_see K)))) &&
  (decide (PySem.W.typeIn K (.ref (a_Reading_init K)) = some (.type "function")) && (decide (PySem.W.typeIn K (.ref (a_Reading_see K)) = some (.type "function")) && (PySem.W.fnIn K (a_Reading_init K) && PySem.W.fnIn K (a_Reading_see K))))))))))))))))
def sups (K : PySem.W.Frag) : List SupV := [supV K (a_Rec_init K), supV K (a_Rec_see K)]
def supsV : List SupV := [some ("__init__", "Recorded.__init__", defArgs s_Rec_init, .stmts (defBody s_Rec_init), defScope s_Rec_init, mainGlobals, ["__class__"], builtinsNs), some ("_see", "Recorded._see", defArgs s_Rec_see, .stmts (defBody s_Rec_see), defScope s_Rec_see, mainGlobals, ["__class__"], builtinsNs)]
/-- what a name of the module stands for -/
def glA (g : Addr → Option Obj) (x : Str) : List Addr := match g mainGlobals with
  | some ⟨_, _, .dict es _, _⟩ => (match es.toList.find? (·.key.isStr x) with
    | some e => He.refV e.val
    | none => [])
  | _ => []
def nxA (g : Addr → Option Obj) (as : List Addr) : List Addr := as.flatMap fun a => match g a with
  | some o => He.refsD o
  | none => []
def needF : List Str := nfF
def needC : List Str := ["Store", "Recorded", "Reader", "Reading"]
/-- the classes' dicts and lines -/
def lv1 (g : Addr → Option Obj) (cs : List Addr) : List Addr := cs ++ (nxA g cs ++ (nxA g (nxA g cs) ++ nxA g (nxA g (nxA g cs))))
def kOf (g : Addr → Option Obj) : PySem.W.Frag := He.frG g (mainGlobals :: cStatics :: (needF.flatMap (glA g) ++ (nxA g (needF.flatMap (glA g)) ++ lv1 g (needC.flatMap (glA g)))))
abbrev AlS : Type := He.AlT × Bool × List SupV
def obsS (K : PySem.W.Frag) : AlS := (He.obsT hf hd hts K, ex K, sups K)
def valS (w : World) : AlS := (He.valT hd hts w, true, supsV)
def hookS : PySem.W.Hook where
  α := AlS
  obs := fun s => obsS (kOf s.heap.get?)
  val := valS
  says := fun w h => ∃ K : PySem.W.Frag, K.In h ∧ obsS K = valS w
  of := fun _ _ e => ⟨_, He.frG_in, e⟩
  keeps := fun _ _ _ ⟨K, hK, c⟩ k => ⟨K, PySem.W.Frag.In.keeps hK k, c⟩
def ob (s : PySem.W.SharedT) : AlS := obsS (kOf (HandSHeadRun.getT s))
theorem ob_eq (s : PySem.W.SharedT) : ob s = hookS.obs s.abs := by
  have e : HandSHeadRun.getT s = s.abs.heap.get? := funext (HandSHeadRun.getT_eq s)
  show obsS (kOf (HandSHeadRun.getT s)) = obsS (kOf s.abs.heap.get?)
  rw [e]
abbrev Rw : PySem.W.OpenRow := PySem.W.OpenLaw.row PySem.Challenge.rw_oncethrough_k85_whole_looks_of_long_read
abbrev qv : Program := PySem.W.view Rw.prog [70]
def names0 : List PySem.Str := [("_wall" : PySem.Str), ("OnceError" : PySem.Str), ("Missing" : PySem.Str), ("InvalidNumber" : PySem.Str), ("InvalidTable" : PySem.Str), ("InvalidRow" : PySem.Str), ("InvalidThings" : PySem.Str), ("Unlike" : PySem.Str), ("InvalidInputs" : PySem.Str), ("Unfit" : PySem.Str), ("InvalidText" : PySem.Str), ("TooMany" : PySem.Str)]
def names1 : List PySem.Str := [("InvalidCell" : PySem.Str), ("InvalidStep" : PySem.Str), ("UnknownTable" : PySem.Str), ("LETTERS" : PySem.Str), ("DIGITS" : PySem.Str), ("LONGEST_NAME" : PySem.Str), ("MOST_DIGITS" : PySem.Str), ("is_name" : PySem.Str), ("is_number" : PySem.Str), ("is_listed" : PySem.Str), ("number_in" : PySem.Str), ("numbers_in" : PySem.Str)]
def names2 : List PySem.Str := [("are_things" : PySem.Str), ("joined" : PySem.Str), ("MOST_TABLES" : PySem.Str), ("check_tables" : PySem.Str), ("Store" : PySem.Str), ("read_size" : PySem.Str), ("read_table" : PySem.Str), ("read_row" : PySem.Str), ("read_store" : PySem.Str), ("check_fit" : PySem.Str), ("check_inputs" : PySem.Str), ("greatest" : PySem.Str)]
def names3 : List PySem.Str := [("width_of" : PySem.Str), ("check_reading" : PySem.Str), ("Reading" : PySem.Str), ("Recorded" : PySem.Str), ("MOST_CELLS" : PySem.Str), ("MOST_ROWS" : PySem.Str), ("MOST_RANGE" : PySem.Str), ("FORMS" : PySem.Str), ("PLACES" : PySem.Str), ("LAST" : PySem.Str), ("is_step" : PySem.Str), ("check_rows" : PySem.Str)]
def names4 : List PySem.Str := [("Reader" : PySem.Str), ("read_cells" : PySem.Str), ("read_step" : PySem.Str), ("_law_box" : PySem.Str), ("_law_pull" : PySem.Str), ("_law_of" : PySem.Str), ("_law_mixed" : PySem.Str), ("_law_words" : PySem.Str), ("_law_same" : PySem.Str), ("_law_every" : PySem.Str), ("_law_rows" : PySem.Str), ("_law_tabs" : PySem.Str)]
def names5 : List PySem.Str := [("_law_copy" : PySem.Str), ("_law_store" : PySem.Str), ("_law_unique" : PySem.Str)]
def names : List PySem.Str := names0 ++ names1 ++ names2 ++ names3 ++ names4 ++ names5
open PySem PySem.W PySem.Calls PyProof.Rows in
abbrev RunP (w : World) : Prop := ∀ os : OsState, (HandSHeadRun.endF (HandSHeadRun.stepQ (HandSHeadRun.denQ HandSHeadRun.tabQ) Rw.prog w) 8000 Rw.prog w os).map (fun s => (HandSHeadRun.looksF Rw.prog (boot_heap w.params) s.abs, HandSHeadRun.seenQ qv names (importedModules Rw.prog.main.body) (fun s => PySem.W.xlAt qv [] s && PySem.W.recOk Rw.toRowW.records s) s.abs, ob s)) = some (true, PySem.W.openGood qv names, hookS.val w)
theorem run_f (w : World) : RunP (w.withFollow "special-get-raises" false) := by
  intro os
  kernel_rfl
theorem run_t (w : World) : RunP (w.withFollow "special-get-raises" true) := by
  intro os
  kernel_rfl
theorem run (w : World) : HandSHeadRun.RunEq Rw qv hookS ob 8000 names w := PySem.W.byRow2 "special-get-raises" (P := RunP) run_f run_t w
theorem txt_of {w : World} {K : PySem.W.Frag} {h : Heap} {mg : Str → Option Value} (X : K.In h) (G : h.Ns mainGlobals mg) (c : obsS K = valS w) : Txt w K mg := by
  have ct : He.SaysT hf hd hts w K := congrArg (fun z : AlS => z.1) c
  have ce : ex K = true := congrArg (fun z : AlS => z.2.1) c
  have cs : sups K = supsV := congrArg (fun z : AlS => z.2.2) c
  have cd : He.SaysD hf hd K := ct.d
  have s1 : supV K (a_Rec_init K) = (some ("__init__", "Recorded.__init__", defArgs s_Rec_init, .stmts (defBody s_Rec_init), defScope s_Rec_init, mainGlobals, ["__class__"], builtinsNs) : SupV) := (List.cons.inj cs).1
  have s2 : supV K (a_Rec_see K) = (some ("_see", "Recorded._see", defArgs s_Rec_see, .stmts (defBody s_Rec_see), defScope s_Rec_see, mainGlobals, ["__class__"], builtinsNs) : SupV) := (List.cons.inj (List.cons.inj cs).2).1
  unfold ex at ce
  obtain ⟨e1, ce⟩ := He.ba ce
  obtain ⟨e2, ce⟩ := He.ba ce
  obtain ⟨e3, ce⟩ := He.ba ce
  obtain ⟨e4, ce⟩ := He.ba ce
  obtain ⟨e5, ce⟩ := He.ba ce
  obtain ⟨e6, ce⟩ := He.ba ce
  obtain ⟨e7, ce⟩ := He.ba ce
  obtain ⟨e8, ce⟩ := He.ba ce
  obtain ⟨e9, ce⟩ := He.ba ce
  obtain ⟨e10, ce⟩ := He.ba ce
  obtain ⟨e11, ce⟩ := He.ba ce
  obtain ⟨e12, ce⟩ := He.ba ce
  obtain ⟨e13, ce⟩ := He.ba ce
  obtain ⟨e14, ce⟩ := He.ba ce
  obtain ⟨e15, ce⟩ := He.ba ce
  obtain ⟨e16, e17⟩ := He.ba ce
  exact {
    n_abs := He.free_ok X G (cd.fact 0 (f := .free "abs") rfl)
    n_all := He.free_ok X G (cd.fact 1 (f := .free "all") rfl)
    n_bool := He.free_ok X G (cd.fact 2 (f := .free "bool") rfl)
    n_dict := He.free_ok X G (cd.fact 3 (f := .free "dict") rfl)
    n_enumerate := He.free_ok X G (cd.fact 4 (f := .free "enumerate") rfl)
    n_int := He.free_ok X G (cd.fact 5 (f := .free "int") rfl)
    n_isinstance := He.free_ok X G (cd.fact 6 (f := .free "isinstance") rfl)
    n_len := He.free_ok X G (cd.fact 7 (f := .free "len") rfl)
    n_list := He.free_ok X G (cd.fact 8 (f := .free "list") rfl)
    n_range := He.free_ok X G (cd.fact 9 (f := .free "range") rfl)
    n_set := He.free_ok X G (cd.fact 10 (f := .free "set") rfl)
    n_sorted := He.free_ok X G (cd.fact 11 (f := .free "sorted") rfl)
    n_str := He.free_ok X G (cd.fact 12 (f := .free "str") rfl)
    n_super := He.free_ok X G (cd.fact 13 (f := .free "super") rfl)
    n_tuple := He.free_ok X G (cd.fact 14 (f := .free "tuple") rfl)
    n_zip := He.free_ok X G (cd.fact 15 (f := .free "zip") rfl)
    i_LONGEST_NAME := He.int_ok X G (cd.fact 16 (f := .int "LONGEST_NAME" 6) rfl)
    i_MOST_TABLES := He.int_ok X G (cd.fact 17 (f := .int "MOST_TABLES" 4) rfl)
    i_MOST_CELLS := He.int_ok X G (cd.fact 18 (f := .int "MOST_CELLS" 300) rfl)
    i_MOST_ROWS := He.int_ok X G (cd.fact 19 (f := .int "MOST_ROWS" 10000) rfl)
    i_MOST_RANGE := He.int_ok X G (cd.fact 20 (f := .int "MOST_RANGE" 10000) rfl)
    s_LETTERS := He.str_ok X G (cd.fact 21 (f := .str "LETTERS" "abcdefghijklmnopqrstuvwxyz") rfl)
    g_FORMS := He.glo_ok X G (cd.fact 22 (f := .glo "FORMS") rfl)
    g_PLACES := He.glo_ok X G (cd.fact 23 (f := .glo "PLACES") rfl)
    g_LAST := He.glo_ok X G (cd.fact 24 (f := .glo "LAST") rfl)
    g_Store := He.glo_ok X G (cd.fact 25 (f := .glo "Store") rfl)
    g_Recorded := He.glo_ok X G (cd.fact 26 (f := .glo "Recorded") rfl)
    g_Reader := He.glo_ok X G (cd.fact 27 (f := .glo "Reader") rfl)
    g_is_name := He.glo_ok X G (cd.fact 28 (f := .glo "is_name") rfl)
    g_is_number := He.glo_ok X G (cd.fact 29 (f := .glo "is_number") rfl)
    g_is_listed := He.glo_ok X G (cd.fact 30 (f := .glo "is_listed") rfl)
    g_are_things := He.glo_ok X G (cd.fact 31 (f := .glo "are_things") rfl)
    g_check_tables := He.glo_ok X G (cd.fact 32 (f := .glo "check_tables") rfl)
    g_check_fit := He.glo_ok X G (cd.fact 33 (f := .glo "check_fit") rfl)
    g_check_inputs := He.glo_ok X G (cd.fact 34 (f := .glo "check_inputs") rfl)
    g_width_of := He.glo_ok X G (cd.fact 35 (f := .glo "width_of") rfl)
    g_check_reading := He.glo_ok X G (cd.fact 36 (f := .glo "check_reading") rfl)
    g_is_step := He.glo_ok X G (cd.fact 37 (f := .glo "is_step") rfl)
    g_check_rows := He.glo_ok X G (cd.fact 38 (f := .glo "check_rows") rfl)
    g_law_box := He.glo_ok X G (cd.fact 39 (f := .glo "_law_box") rfl)
    g_law_pull := He.glo_ok X G (cd.fact 40 (f := .glo "_law_pull") rfl)
    g_law_of := He.glo_ok X G (cd.fact 41 (f := .glo "_law_of") rfl)
    g_law_mixed := He.glo_ok X G (cd.fact 42 (f := .glo "_law_mixed") rfl)
    g_law_words := He.glo_ok X G (cd.fact 43 (f := .glo "_law_words") rfl)
    g_law_same := He.glo_ok X G (cd.fact 44 (f := .glo "_law_same") rfl)
    g_law_every := He.glo_ok X G (cd.fact 45 (f := .glo "_law_every") rfl)
    g_law_rows := He.glo_ok X G (cd.fact 46 (f := .glo "_law_rows") rfl)
    g_law_tabs := He.glo_ok X G (cd.fact 47 (f := .glo "_law_tabs") rfl)
    g_law_copy := He.glo_ok X G (cd.fact 48 (f := .glo "_law_copy") rfl)
    g_law_store := He.glo_ok X G (cd.fact 49 (f := .glo "_law_store") rfl)
    g_law_unique := He.glo_ok X G (cd.fact 50 (f := .glo "_law_unique") rfl)
    cl_Store := He.cls_ok (cd.fact 52 (f := .cls "Store") rfl)
    mk_Store := He.mkr_ok (cd.fact 53 (f := .mkr "Store") rfl)
    cl_Recorded := He.cls_ok (cd.fact 54 (f := .cls "Recorded") rfl)
    mk_Recorded := He.mkr_ok (cd.fact 55 (f := .mkr "Recorded") rfl)
    cl_Reader := He.cls_ok (cd.fact 56 (f := .cls "Reader") rfl)
    mk_Reader := He.mkr_ok (cd.fact 57 (f := .mkr "Reader") rfl)
    no_Store_size := He.noat_ok (cd.fact 58 (f := .noat "Store" "size") rfl)
    no_Store_tables := He.noat_ok (cd.fact 59 (f := .noat "Store" "_tables") rfl)
    no_Recorded_reader := He.noat_ok (cd.fact 60 (f := .noat "Recorded" "reader") rfl)
    no_Recorded_store := He.noat_ok (cd.fact 61 (f := .noat "Recorded" "store") rfl)
    no_Recorded_state := He.noat_ok (cd.fact 62 (f := .noat "Recorded" "state") rfl)
    no_Recorded_why := He.noat_ok (cd.fact 63 (f := .noat "Recorded" "why") rfl)
    no_Recorded_row := He.noat_ok (cd.fact 64 (f := .noat "Recorded" "row") rfl)
    no_Recorded_held := He.noat_ok (cd.fact 65 (f := .noat "Recorded" "_held") rfl)
    no_Recorded_cells := He.noat_ok (cd.fact 66 (f := .noat "Recorded" "cells") rfl)
    no_Recorded_looks := He.noat_ok (cd.fact 67 (f := .noat "Recorded" "_looks") rfl)
    no_Reader_cells := He.noat_ok (cd.fact 68 (f := .noat "Reader" "cells") rfl)
    no_Reader_rows := He.noat_ok (cd.fact 69 (f := .noat "Reader" "rows") rfl)
    no_Reader_inputs := He.noat_ok (cd.fact 70 (f := .noat "Reader" "inputs") rfl)
    m_Store_tables := He.meth_ok (cd.fact 71 (f := .meth "Store" "tables") rfl)
    m_Store__table := He.meth_ok (cd.fact 72 (f := .meth "Store" "_table") rfl)
    m_Store_places := He.meth_ok (cd.fact 73 (f := .meth "Store" "places") rfl)
    m_Store_has_row := He.meth_ok (cd.fact 74 (f := .meth "Store" "has_row") rfl)
    m_Recorded__refuse := He.meth_ok (cd.fact 75 (f := .meth "Recorded" "_refuse") rfl)
    m_Recorded__see := He.meth_ok (cd.fact 76 (f := .meth "Recorded" "_see") rfl)
    m_Recorded__run := He.meth_ok (cd.fact 77 (f := .meth "Recorded" "_run") rfl)
    m_Recorded__go := He.meth_ok (cd.fact 78 (f := .meth "Recorded" "_go") rfl)
    m_Recorded__look := He.meth_ok (cd.fact 79 (f := .meth "Recorded" "_look") rfl)
    m_Recorded__put := He.meth_ok (cd.fact 80 (f := .meth "Recorded" "_put") rfl)
    m_Recorded_put := He.meth_ok (cd.fact 81 (f := .meth "Recorded" "put") rfl)
    m_Recorded__like := He.meth_ok (cd.fact 82 (f := .meth "Recorded" "_like") rfl)
    m_Recorded_seen := He.meth_ok (cd.fact 83 (f := .meth "Recorded" "seen") rfl)
    m_Recorded_twin := He.meth_ok (cd.fact 84 (f := .meth "Recorded" "twin") rfl)
    m_Reader_tables := He.meth_ok (cd.fact 85 (f := .meth "Reader" "tables") rfl)
    d_is_name := cd.def_ 0 (d := ⟨("is_name", none), "is_name", "is_name", defArgs s_is_name, defBody s_is_name, defScope s_is_name, [], []⟩) rfl
    d_is_number := cd.def_ 1 (d := ⟨("is_number", none), "is_number", "is_number", defArgs s_is_number, defBody s_is_number, defScope s_is_number, [], []⟩) rfl
    d_is_listed := cd.def_ 2 (d := ⟨("is_listed", none), "is_listed", "is_listed", defArgs s_is_listed, defBody s_is_listed, defScope s_is_listed, [], []⟩) rfl
    d_are_things := cd.def_ 3 (d := ⟨("are_things", none), "are_things", "are_things", defArgs s_are_things, defBody s_are_things, defScope s_are_things, [], []⟩) rfl
    d_check_tables := cd.def_ 4 (d := ⟨("check_tables", none), "check_tables", "check_tables", defArgs s_check_tables, defBody s_check_tables, defScope s_check_tables, [], []⟩) rfl
    d_check_fit := cd.def_ 5 (d := ⟨("check_fit", none), "check_fit", "check_fit", defArgs s_check_fit, defBody s_check_fit, defScope s_check_fit, [], []⟩) rfl
    d_check_inputs := cd.def_ 6 (d := ⟨("check_inputs", none), "check_inputs", "check_inputs", defArgs s_check_inputs, defBody s_check_inputs, defScope s_check_inputs, [], []⟩) rfl
    d_width_of := cd.def_ 7 (d := ⟨("width_of", none), "width_of", "width_of", defArgs s_width_of, defBody s_width_of, defScope s_width_of, [], []⟩) rfl
    d_check_reading := cd.def_ 8 (d := ⟨("check_reading", none), "check_reading", "check_reading", defArgs s_check_reading, defBody s_check_reading, defScope s_check_reading, [], []⟩) rfl
    d_is_step := cd.def_ 9 (d := ⟨("is_step", none), "is_step", "is_step", defArgs s_is_step, defBody s_is_step, defScope s_is_step, [], []⟩) rfl
    d_check_rows := cd.def_ 10 (d := ⟨("check_rows", none), "check_rows", "check_rows", defArgs s_check_rows, defBody s_check_rows, defScope s_check_rows, [], []⟩) rfl
    d_law_box := cd.def_ 11 (d := ⟨("_law_box", none), "_law_box", "_law_box", defArgs s_law_box, defBody s_law_box, defScope s_law_box, [], []⟩) rfl
    d_law_pull := cd.def_ 12 (d := ⟨("_law_pull", none), "_law_pull", "_law_pull", defArgs s_law_pull, defBody s_law_pull, defScope s_law_pull, [], []⟩) rfl
    d_law_of := cd.def_ 13 (d := ⟨("_law_of", none), "_law_of", "_law_of", defArgs s_law_of, defBody s_law_of, defScope s_law_of, [], []⟩) rfl
    d_law_mixed := cd.def_ 14 (d := ⟨("_law_mixed", none), "_law_mixed", "_law_mixed", defArgs s_law_mixed, defBody s_law_mixed, defScope s_law_mixed, [], []⟩) rfl
    d_law_words := cd.def_ 15 (d := ⟨("_law_words", none), "_law_words", "_law_words", defArgs s_law_words, defBody s_law_words, defScope s_law_words, [], []⟩) rfl
    d_law_same := cd.def_ 16 (d := ⟨("_law_same", none), "_law_same", "_law_same", defArgs s_law_same, defBody s_law_same, defScope s_law_same, [], []⟩) rfl
    d_law_every := cd.def_ 17 (d := ⟨("_law_every", none), "_law_every", "_law_every", defArgs s_law_every, defBody s_law_every, defScope s_law_every, [], []⟩) rfl
    d_law_rows := cd.def_ 18 (d := ⟨("_law_rows", none), "_law_rows", "_law_rows", defArgs s_law_rows, defBody s_law_rows, defScope s_law_rows, [], []⟩) rfl
    d_law_tabs := cd.def_ 19 (d := ⟨("_law_tabs", none), "_law_tabs", "_law_tabs", defArgs s_law_tabs, defBody s_law_tabs, defScope s_law_tabs, [], []⟩) rfl
    d_law_copy := cd.def_ 20 (d := ⟨("_law_copy", none), "_law_copy", "_law_copy", defArgs s_law_copy, defBody s_law_copy, defScope s_law_copy, [], []⟩) rfl
    d_law_store := cd.def_ 21 (d := ⟨("_law_store", none), "_law_store", "_law_store", defArgs s_law_store, defBody s_law_store, defScope s_law_store, [], []⟩) rfl
    d_law_unique := cd.def_ 22 (d := ⟨("_law_unique", none), "_law_unique", "_law_unique", defArgs s_law_unique, defBody s_law_unique, defScope s_law_unique, [], []⟩) rfl
    d_Store_init := cd.def_ 24 (d := ⟨("Store", some "__init__"), "__init__", "Store.__init__", defArgs s_Store_init, defBody s_Store_init, defScope s_Store_init, [], []⟩) rfl
    d_Store_tables := cd.def_ 25 (d := ⟨("Store", some "tables"), "tables", "Store.tables", defArgs s_Store_tables, defBody s_Store_tables, defScope s_Store_tables, [], []⟩) rfl
    d_Store_table := cd.def_ 26 (d := ⟨("Store", some "_table"), "_table", "Store._table", defArgs s_Store_table, defBody s_Store_table, defScope s_Store_table, [], []⟩) rfl
    d_Store_places := cd.def_ 27 (d := ⟨("Store", some "places"), "places", "Store.places", defArgs s_Store_places, defBody s_Store_places, defScope s_Store_places, [], []⟩) rfl
    d_Store_has_row := cd.def_ 28 (d := ⟨("Store", some "has_row"), "has_row", "Store.has_row", defArgs s_Store_has_row, defBody s_Store_has_row, defScope s_Store_has_row, [], []⟩) rfl
    d_Reading_init := cd.def_ 29 (d := ⟨("Reading", some "__init__"), "__init__", "Reading.__init__", defArgs s_Reading_init, defBody s_Reading_init, defScope s_Reading_init, [], []⟩) rfl
    d_Reading_see := cd.def_ 30 (d := ⟨("Reading", some "_see"), "_see", "Reading._see", defArgs s_Reading_see, defBody s_Reading_see, defScope s_Reading_see, [], []⟩) rfl
    d_Rec_refuse := cd.def_ 31 (d := ⟨("Recorded", some "_refuse"), "_refuse", "Reading._refuse", defArgs s_Rec_refuse, defBody s_Rec_refuse, defScope s_Rec_refuse, [], []⟩) rfl
    d_Rec_run := cd.def_ 32 (d := ⟨("Recorded", some "_run"), "_run", "Reading._run", defArgs s_Rec_run, defBody s_Rec_run, defScope s_Rec_run, [], []⟩) rfl
    d_Rec_go := cd.def_ 33 (d := ⟨("Recorded", some "_go"), "_go", "Reading._go", defArgs s_Rec_go, defBody s_Rec_go, defScope s_Rec_go, [], []⟩) rfl
    d_Rec_look := cd.def_ 34 (d := ⟨("Recorded", some "_look"), "_look", "Reading._look", defArgs s_Rec_look, defBody s_Rec_look, defScope s_Rec_look, [], []⟩) rfl
    d_Rec_put1 := cd.def_ 35 (d := ⟨("Recorded", some "_put"), "_put", "Reading._put", defArgs s_Rec_put1, defBody s_Rec_put1, defScope s_Rec_put1, [], []⟩) rfl
    d_Rec_put := cd.def_ 36 (d := ⟨("Recorded", some "put"), "put", "Reading.put", defArgs s_Rec_put, defBody s_Rec_put, defScope s_Rec_put, [], []⟩) rfl
    d_Rec_like := cd.def_ 37 (d := ⟨("Recorded", some "_like"), "_like", "Reading._like", defArgs s_Rec_like, defBody s_Rec_like, defScope s_Rec_like, [], []⟩) rfl
    d_Rec_seen := cd.def_ 38 (d := ⟨("Recorded", some "seen"), "seen", "Recorded.seen", defArgs s_Rec_seen, defBody s_Rec_seen, defScope s_Rec_seen, [], []⟩) rfl
    d_Rec_twin := cd.def_ 39 (d := ⟨("Recorded", some "twin"), "twin", "Recorded.twin", defArgs s_Rec_twin, defBody s_Rec_twin, defScope s_Rec_twin, [], []⟩) rfl
    d_Reader_init := cd.def_ 40 (d := ⟨("Reader", some "__init__"), "__init__", "Reader.__init__", defArgs s_Reader_init, defBody s_Reader_init, defScope s_Reader_init, [], [("inputs", .int 0)]⟩) rfl
    d_Reader_tables := cd.def_ 41 (d := ⟨("Reader", some "tables"), "tables", "Reader.tables", defArgs s_Reader_tables, defBody s_Reader_tables, defScope s_Reader_tables, [], []⟩) rfl
    u_Rec_init := sup_of s1 e7
    u_Rec_see := sup_of s2 e8
    sup := ⟨He.free_ok X G (cd.fact 13 (f := .free "super") rfl), by decide +kernel, Option.isSome_iff_exists.mp e9, of_decide_eq_true e10, He.eqO_ok e11⟩
    su_init := ⟨He.eqO_ok e12, of_decide_eq_true e14, e16, by decide⟩
    su_see := ⟨He.eqO_ok e13, of_decide_eq_true e15, e17, by decide⟩
    con_MOST := He.conB_ok e6
    kd_FORMS := ct.tab 0 rfl
    kd_PLACES := ct.tab 1 rfl
    fo_read := He.valsB_ok e1 (q := ("read", .str "c")) (by simp [vFORMS])
    fo_zero := He.valsB_ok e1 (q := ("zero", .str "c")) (by simp [vFORMS])
    fo_top := He.valsB_ok e1 (q := ("top", .str "c")) (by simp [vFORMS])
    fo_up := He.valsB_ok e1 (q := ("up", .str "c")) (by simp [vFORMS])
    fo_copy := He.valsB_ok e1 (q := ("copy", .str "cc")) (by simp [vFORMS])
    fo_same := He.valsB_ok e1 (q := ("same", .str "ccj")) (by simp [vFORMS])
    fo_less := He.valsB_ok e1 (q := ("less", .str "ccj")) (by simp [vFORMS])
    fo_has := He.valsB_ok e1 (q := ("has", .str "tcj")) (by simp [vFORMS])
    fo_link := He.valsB_ok e1 (q := ("link", .str "tccj")) (by simp [vFORMS])
    fo_jump := He.valsB_ok e1 (q := ("jump", .str "j")) (by simp [vFORMS])
    fo_refuse := He.valsB_ok e1 (q := ("refuse", .str "")) (by simp [vFORMS])
    fo_end := He.valsB_ok e1 (q := ("end", .str "")) (by simp [vFORMS])
    pl_has := He.valsB_ok e2 (q := ("has", .int 1)) (by simp [vPLACES])
    pl_link := He.valsB_ok e2 (q := ("link", .int 2)) (by simp [vPLACES])
    pn_read := He.eqO_ok e3
    pn_jump := He.eqO_ok e4
    t_LAST := fun H => He.tupB_ok e5 H
  }
def ixLaw : Nat := 51
def kLaw : Nat := 23
end K85

set_option Elab.async false
set_option linter.all false
set_option maxRecDepth 100000
set_option maxHeartbeats 4000000
namespace K85
open PySem PySem.Spec PyProof.Rows L2
/-! ### what stays -/
/-- all that was tracked outside M is as it was -/
def Kp (M : List Addr) (H H' : Hp) : Prop := ∀ b o, b ∉ M → H b = some o → H' b = some o
section
variable {M N : List Addr} {H H1 H2 H' : Hp} {a b p : Addr} {o : HO}
theorem Kp.refl (M : List Addr) (H : Hp) : Kp M H H := fun _ _ _ h => h
theorem Kp.trans (x : Kp M H H1) (y : Kp M H1 H2) : Kp M H H2 := fun b o n h => y b o n (x b o n h)
theorem Kp.mono (x : Kp M H H1) (h : ∀ m ∈ M, m ∈ N) : Kp N H H1 := fun b o n e => x b o (fun z => n (h b z)) e
theorem Kp.same (x : L2.Same H H1) : Kp M H H1 := fun b o _ e => x b o e
theorem Kp.nil (x : Kp [] H H1) : L2.Same H H1 := fun b o e => x b o (fun z => by cases z) e
theorem Kp.upd (x : Kp M H H1) (h : a ∈ M) (o : HO) : Kp M H (upd H1 a o) := fun b u n e => by
  have z : b ≠ a := fun q => n (q ▸ h)
  rw [upd_ne z]
  exact x b u n e
theorem Kp.new (x : Kp M H H1) (h : H1 p = none) (o : HO) : Kp M H (L2.upd H1 p o) := fun b u n e => by
  have q := x b u n e
  rw [upd_ne (ne_of_none q h)]
  exact q
/-- written where nothing stood at the start -/
theorem Kp.newer (x : Kp M H H1) (h : H p = none) (o : HO) : Kp M H (L2.upd H1 p o) := fun b u n e => by
  have q := x b u n e
  rw [upd_ne (ne_of_none e h)]
  exact q
theorem same_new (h : H p = none) (o : HO) : L2.Same H (upd H p o) := fun b u e => by
  rw [upd_ne (ne_of_none e h)]
  exact e
theorem same_newer (x : L2.Same H H1) (h : H p = none) (o : HO) : L2.Same H (upd H1 p o) := fun b u e => by
  rw [upd_ne (ne_of_none e h)]
  exact x b u e
theorem Kp.free (x : Kp M H H1) (h : H1 p = none) (n : p ∉ M) : H p = none := by
  cases q : H p with
  | none => rfl
  | some o => rw [x p o n q] at h; cases h
/-- a thing that may be written -/
def isW : HO → Prop
  | .tup _ => False
  | .frz _ _ => False
  | _ => True
def Wr (H : Hp) (m : Addr) : Prop := ∃ o, H m = some o ∧ isW o
theorem Wr.lst {xs : List V} (h : H a = some (.lst xs)) : Wr H a := ⟨_, h, trivial⟩
theorem Wr.ins {C dx : Addr} {fs : List (Str × V)} (h : H a = some (.ins C dx fs)) : Wr H a := ⟨_, h, trivial⟩
theorem Wr.dK {kvs : List (Key × V)} (h : H a = some (.dK kvs)) : Wr H a := ⟨_, h, trivial⟩
/-- all of M may be written: tuples stay -/
def Wrs (H : Hp) (M : List Addr) : Prop := ∀ m ∈ M, Wr H m
theorem Wrs.no (w : Wrs H M) {b : Addr} {o : HO} (h : H b = some o) (ho : isW o = False) : b ∉ M := fun z => by
  obtain ⟨u, e, q⟩ := w b z
  rw [h] at e
  cases e
  rw [ho] at q
  exact q
theorem kp_T {K : PySem.W.Frag} (x : Kp M H H1) (w : Wrs H M) {xs : List V} (h : SqT K H a xs) : SqT K H1 a xs := by
  rcases h with (h | ⟨o, h⟩) | h
  · exact .inl (.inl (x _ _ (w.no h rfl) h))
  · exact .inl (.inr ⟨o, x _ _ (w.no h rfl) h⟩)
  · exact .inr h
theorem kp_L {K : PySem.W.Frag} (x : Kp M H H1) (n : a ∉ M) {xs : List V} (h : SqL K H a xs) : SqL K H1 a xs := by
  rcases h with (h | ⟨o, h⟩) | h
  · exact .inl (.inl (x _ _ n h))
  · exact .inl (.inr ⟨o, x _ _ n h⟩)
  · exact .inr h
theorem same_T {K : PySem.W.Frag} (x : L2.Same H H1) {xs : List V} (h : SqT K H a xs) : SqT K H1 a xs := by
  rcases h with (h | ⟨o, h⟩) | h
  · exact .inl (.inl (x _ _ h))
  · exact .inl (.inr ⟨o, x _ _ h⟩)
  · exact .inr h
mutual
/-- data of tuples stays -/
theorem dp_kp {K : PySem.W.Frag} (x : Kp M H H1) (w : Wrs H M) : ∀ (d : PyData) (v : V), keyable d = true → Dp K H v d → Dp K H1 v d
  | .none, _, _, h => by cases h; exact .non
  | .bool b, _, _, h => by cases h; exact .bl b
  | .int i, _, _, h => by cases h; exact .int i
  | .str s, _, _, h => by cases h; exact .str s
  | .list _, _, k, _ => by cases k
  | .dict _, _, k, _ => by cases k
  | .tuple ds, _, k, h => by
    cases h with
    | tup hs ha => exact .tup (kp_T x w hs) (dpAll_kp x w ds _ k ha)
theorem dpAll_kp {K : PySem.W.Frag} (x : Kp M H H1) (w : Wrs H M) : ∀ (ds : List PyData) (vs : List V), keyables ds = true → DpAll K H vs ds → DpAll K H1 vs ds
  | [], _, _, h => by cases h; exact .nil
  | d :: ds, _, k, h => by
    rw [keyables, Bool.and_eq_true] at k
    cases h with
    | cons h1 h2 => exact .cons (dp_kp x w d _ k.1 h1) (dpAll_kp x w ds _ k.2 h2)
end
mutual
theorem dp_same {K : PySem.W.Frag} (x : L2.Same H H1) : ∀ (d : PyData) (v : V), Dp K H v d → Dp K H1 v d
  | .none, _, h => by cases h; exact .non
  | .bool b, _, h => by cases h; exact .bl b
  | .int i, _, h => by cases h; exact .int i
  | .str s, _, h => by cases h; exact .str s
  | .list ds, _, h => by
    cases h with
    | lst hs ha => exact .lst (x.seq hs) (dpAll_same x ds _ ha)
  | .dict _, _, h => by cases h
  | .tuple ds, _, h => by
    cases h with
    | tup hs ha => exact .tup (same_T x hs) (dpAll_same x ds _ ha)
theorem dpAll_same {K : PySem.W.Frag} (x : L2.Same H H1) : ∀ (ds : List PyData) (vs : List V), DpAll K H vs ds → DpAll K H1 vs ds
  | [], _, h => by cases h; exact .nil
  | d :: ds, _, h => by
    cases h with
    | cons h1 h2 => exact .cons (dp_same x d _ h1) (dpAll_same x ds _ h2)
end
theorem dpAll_of {K : PySem.W.Frag} : ∀ {L : List (Addr × PyData)}, (∀ p ∈ L, Dp K H (.ref p.1) p.2) → DpAll K H (L.map fun p => V.ref p.1) (L.map (·.2))
  | [], _ => .nil
  | p :: L, h => .cons (h p List.mem_cons_self) (dpAll_of fun q hq => h q (List.mem_cons_of_mem _ hq))
theorem dpAll_ints {K : PySem.W.Frag} : ∀ ns : List Int, DpAll K H (ns.map V.int) (ns.map PyData.int)
  | [] => .nil
  | n :: ns => .cons (.int n) (dpAll_ints ns)
end
/-! ### built-in names -/
theorem bt_bool : bootBuiltins "bool" = some (.type "bool") := by decide +kernel
theorem bt_dict : bootBuiltins "dict" = some (.type "dict") := by decide +kernel
theorem bt_int : bootBuiltins "int" = some (.type "int") := by decide +kernel
theorem bt_list : bootBuiltins "list" = some (.type "list") := by decide +kernel
theorem bt_range : bootBuiltins "range" = some (.type "range") := by decide +kernel
theorem bt_set : bootBuiltins "set" = some (.type "set") := by decide +kernel
theorem bt_str : bootBuiltins "str" = some (.type "str") := by decide +kernel
theorem bt_tuple : bootBuiltins "tuple" = some (.type "tuple") := by decide +kernel
theorem bt_zip : bootBuiltins "zip" = some (.type "zip") := by decide +kernel
theorem bt_enumerate : bootBuiltins "enumerate" = some (.type "enumerate") := by decide +kernel
theorem bt_abs : bootBuiltins "abs" = some (.builtin "abs") := by decide +kernel
theorem bt_all : bootBuiltins "all" = some (.builtin "all") := by decide +kernel
theorem bt_isinstance : bootBuiltins "isinstance" = some (.builtin "isinstance") := by decide +kernel
theorem bt_len : bootBuiltins "len" = some (.builtin "len") := by decide +kernel
theorem bt_sorted : bootBuiltins "sorted" = some (.builtin "sorted") := by decide +kernel
/-! ### calls by positional promises -/
section
variable {P : Program} {w : World} {K : PySem.W.Frag} {mg : Str → Option Value} {base : Heap} {x qual : Str} {st : Stmt} {f : Addr} {N ps : List Str} {k : Nat} {sp : Sp}
theorem fnr_of (D : FnP K x qual st f) (S : FnScope N ps (defScope st))
    (hb : ∀ (kV doc pm : Value) (an : Option Addr) (cdv ct : Value) (us : List Value), us.length = ps.length → bindArgs (PySem.W.fnOf x qual (defArgs st) (defBody st) (defScope st) .none kV doc pm an cdv ct) ⟨us, []⟩ = pure (ps.zip us))
    (len : ∀ vs H Q E, sp vs H Q E → vs.length = ps.length)
    (hbody : ∀ (cdv : Value) (A : Around) (outer : List Env) (s : Shared) (H : Hp) (vs : List V) (Q : VK) (E : XK), Room k (A.deeper (envOfC qual (defScope st) s.heap.objs.size f cdv)) → sp vs H Q E →
      ∃ t, PSs (cxOf CX0 P w K mg base N qual (defScope st) f cdv A outer s H E).nox (defBody st) t ∧ t { nx := fun _ H' => Q .non H', rt := Q } (L2.start N vs) H) : FnR P w K mg base CX0 (k + 1) f sp := by
  obtain ⟨fd, F⟩ := D
  have G : FnOk P w K mg base CX0 (k + 1) f fd ps sp := F.ok S len fun cdv A outer s H vs Q E hr h => by
    obtain ⟨t, ht, q⟩ := hbody cdv A outer s H vs Q E hr h
    exact ⟨t, ht.nox, q⟩
  have r := G.raw (F.bindsN hb) .nil
  exact r.imp fun vs H Q E h => by rw [List.append_nil]; exact h
theorem fnr_kp (D : FnP K x qual st f) : PySem.W.keepIn K (.ref f) = true := by
  obtain ⟨fd, F⟩ := D
  exact F.kp
end
section
variable {X : Cx} {CX : CXT} {k : Nat} {f C : Addr} {m : Str} {sp : Sp} {E : XK} {x : Str} {o e : Expr} {es : List Expr} {ta : TE} {t : TA} {p pos apos : Pos}
def tCR (sp : Sp) (E : XK) (t : TA) : TE := fun σ H Q => t σ H fun vs H1 => sp vs H1 Q E
/-- f(e, ..) -/
theorem pe_callR (F : FnR X.prog X.w X.K X.mg X.base CX k f sp) (hr : Room k X.A) (hg : Gl X x) (hm : X.mg x = some (.ref f)) (hk : PySem.W.keepIn X.K (.ref f) = true) (hx : Passes CX X E) (ha : PA X (e :: es) t) (hd : (x == ("__debug__" : Str)) = false := by decide)
    (he : starEach (e :: es) X.env = (false, eval e X.env) :: starEach es X.env := by rfl) (hpl : (backTo pos (starEach es X.env)).any (·.1) = false := by rfl) :
    PE X (.Call (.Name x p) (e :: es) [] pos) (tCR sp E t) := by
  refine ⟨fun pins s σ H Q I h => ?_⟩
  refine wpAny_Call_Name_kw (ld_glob I hg hm ?_ hd)
  refine PySem.W.callWith_K (h₀ := X.base) I.ok.mod.kin hk (thn (ha.run pos pins s σ H _ I h) fun us s1 ⟨vs, H1, I1, r, q⟩ => ⟨I1.kIn, ?_⟩) he hpl
  exact wpAny_call (run_fnR F hr hx I1 r q)
theorem pe_gi {i : Int} (h : ∃ t, X.mg x = some (.int i t)) (hg : Gl X x := by rfl) (hd : (x == ("__debug__" : Str)) = false := by decide) : PE X (.Name x pos) (tC (.int i)) := by
  obtain ⟨t, e⟩ := h
  exact pe_glob hg e ⟨t, rfl⟩ hd
theorem pe_gs {z : Str} (h : ∃ t, X.mg x = some (.str z t)) (hg : Gl X x := by rfl) (hd : (x == ("__debug__" : Str)) = false := by decide) : PE X (.Name x pos) (tC (.str z)) := by
  obtain ⟨t, e⟩ := h
  exact pe_glob hg e ⟨t, rfl⟩ hd
def tMR0 (C : Addr) (m : Str) (sp : Sp) (E : XK) (ta : TE) : TE := fun σ H Q => ta σ H fun x H1 => ∃ a dx fs, x = .ref a ∧ H1 a = some (.ins C dx fs) ∧ fs.lookup m = none ∧ sp [x] H1 Q E
/-- o.m() -/
theorem pe_methR0 {pl : Sem Bool} (he : PE X o ta) (c : Cls X.K C) (hm : Meth X.K C m f) (F : FnR X.prog X.w X.K X.mg X.base CX k f sp) (hr : Room k X.A) (hx : Passes CX X E)
    (ht : eval (.Call (.Attribute o m apos) [] [] pos) X.env = (do
      let ov ← eval o X.env
      standAt apos.atName
      let (f, first) ← holding [ov] (getMethod ov m pl)
      callWith pos f first (backTo pos (starEach [] X.env)) (backToKw pos (keywordEach [] X.env))) := by rfl) :
    PE X (.Call (.Attribute o m apos) [] [] pos) (tMR0 C m sp E ta) := by
  refine ⟨fun pins s σ H Q I h => ?_⟩
  refine PySem.W.methodCall_KW (pl := pl) (thn (he.run pins s σ H _ I h) fun u s1 ⟨x, H1, I1, rx, a, dx, fs, ex, ea, l, q⟩ => ?_) ht
  subst ex
  obtain rfl : u = Value.ref a := rx
  refine getmeth_ok I1 ea c hm l ?_
  exact PySem.W.callWith_K0 (first := [.ref a]) I1.kIn hm.kp (wpAny_call (run_fnR (us := [.ref a]) (vs := [.ref a]) F hr hx I1 (.cons rfl .nil) q))
end
end K85

set_option Elab.async false
set_option linter.all false
set_option maxRecDepth 100000
set_option maxHeartbeats 4000000
namespace K85
open PySem PySem.Spec PyProof.Rows L2
/-! ### isinstance -/
def tyD : PyData → String
  | .none => "NoneType"
  | .bool _ => "bool"
  | .int _ => "int"
  | .str _ => "str"
  | .list _ => "list"
  | .tuple _ => "tuple"
  | .dict _ => "dict"
theorem ki_int_int : kitB "int" "int" = some true := by decide +kernel
theorem ki_int_bool : kitB "int" "bool" = some false := by decide +kernel
theorem ki_str_str : kitB "str" "str" = some true := by decide +kernel
theorem ki_tuple_tuple : kitB "tuple" "tuple" = some true := by decide +kernel
theorem ki_list_list : kitB "list" "list" = some true := by decide +kernel
theorem ki_list_tuple : kitB "list" "tuple" = some false := by decide +kernel
theorem ki_tuple_list : kitB "tuple" "list" = some false := by decide +kernel
theorem ki_str_list : kitB "str" "list" = some false := by decide +kernel
theorem ki_str_tuple : kitB "str" "tuple" = some false := by decide +kernel
theorem ki_int_list : kitB "int" "list" = some false := by decide +kernel
theorem ki_int_tuple : kitB "int" "tuple" = some false := by decide +kernel
theorem ki_bool_list : kitB "bool" "list" = some false := by decide +kernel
theorem ki_bool_tuple : kitB "bool" "tuple" = some false := by decide +kernel
theorem ki_bool_bool : kitB "bool" "bool" = some true := by decide +kernel
theorem ki_str_bool : kitB "str" "bool" = some false := by decide +kernel
theorem ki_bool_int : kitB "bool" "int" = some true := by decide +kernel
theorem ki_str_int : kitB "str" "int" = some false := by decide +kernel
theorem ki_int_str : kitB "int" "str" = some false := by decide +kernel
theorem dpTy {K : PySem.W.Frag} {H : Hp} {x : V} {d : PyData} (h : Dp K H x d) : TyX K H x (.type (tyD d)) := by
  cases h with
  | non => exact .base .non
  | bl b => exact .base (.bl b)
  | int i => exact .base (.int i)
  | str s => exact .base (.str s)
  | lst hs ha =>
    rcases hs with (hs | ⟨o, hs⟩) | ⟨o, its, n, h1, h2, _⟩
    · exact .base (.lst hs)
    · exact .base (.frz hs)
    · exact .kList h1 h2
  | tup hs ha =>
    rcases hs with (hs | ⟨o, hs⟩) | ⟨o, its, n, h1, h2, _⟩
    · exact .base (.tup hs)
    · exact .fTuple hs
    · exact .kTuple h1 h2
section
variable {X : Cx} {e : Expr} {te : TE} {T T2 : Str} {n n2 : String} {p p1 p2 pos tpos : Pos} {k : Nat}
abbrev tIsi (K : PySem.W.Frag) (te : TE) (n : String) : TE := tCB (rIsi K) (tCons te (tCons (tC (.ty n)) tNil))
theorem pe_isi (hm : X.mg "isinstance" = none) (mT : X.mg T = none) (bT : bootBuiltins T = some (.type n)) (he : PE X e te) (hg : Gl X "isinstance" := by rfl) (gT : Gl X T := by rfl) (nT : T ≠ "__name__" := by decide) (dT : (T == ("__debug__" : Str)) = false := by decide)
    (h1 : starEach [e, .Name T p1] X.env = (false, eval e X.env) :: starEach [.Name T p1] X.env := by rfl) (h2 : (backTo pos (starEach [.Name T p1] X.env)).any (·.1) = false := by rfl)
    (h3 : starEach [.Name T p1] X.env = (false, eval (.Name T p1) X.env) :: starEach [] X.env := by rfl) :
    PE X (.Call (.Name "isinstance" p) [e, .Name T p1] [] pos) (tIsi X.K te n) :=
  pe_callB call_isi hg hm PyProof.Rows.boot_isinstance (pa_cons he (pa_cons (pe_bltn gT mT bT rfl nT dT) pa_nil h3) h1) (by decide) (by decide) h1 h2
/-- isinstance(x, (T, T2)) -/
theorem pe_isi2 (hm : X.mg "isinstance" = none) (mT : X.mg T = none) (bT : bootBuiltins T = some (.type n)) (mT2 : X.mg T2 = none) (bT2 : bootBuiltins T2 = some (.type n2)) (he : PE X e te) (hg : Gl X "isinstance" := by rfl) (gT : Gl X T := by rfl) (gT2 : Gl X T2 := by rfl) (nT : T ≠ "__name__" := by decide) (dT : (T == ("__debug__" : Str)) = false := by decide)
    (nT2 : T2 ≠ "__name__" := by decide) (dT2 : (T2 == ("__debug__" : Str)) = false := by decide)
    (h1 : starEach [e, .Tuple [.Name T p1, .Name T2 p2] k tpos] X.env = (false, eval e X.env) :: starEach [.Tuple [.Name T p1, .Name T2 p2] k tpos] X.env := by rfl) (h2 : (backTo pos (starEach [.Tuple [.Name T p1, .Name T2 p2] k tpos] X.env)).any (·.1) = false := by rfl)
    (h3 : starEach [.Tuple [.Name T p1, .Name T2 p2] k tpos] X.env = (false, eval (.Tuple [.Name T p1, .Name T2 p2] k tpos) X.env) :: starEach [] X.env := by rfl)
    (h4 : starEach [.Name T p1, .Name T2 p2] X.env = (false, eval (.Name T p1) X.env) :: starEach [.Name T2 p2] X.env := by rfl) (h5 : starEach [.Name T2 p2] X.env = (false, eval (.Name T2 p2) X.env) :: starEach [] X.env := by rfl) :
    PE X (.Call (.Name "isinstance" p) [e, .Tuple [.Name T p1, .Name T2 p2] k tpos] [] pos) (tCB (rIsiT X.K) (tCons te (tCons (tTup (tCons (tC (.ty n)) (tCons (tC (.ty n2)) tNil))) tNil))) :=
  pe_callB call_isiT hg hm PyProof.Rows.boot_isinstance (pa_cons he (pa_cons (pe_tup (pa_cons (pe_bltn gT mT bT rfl nT dT) (pa_cons (pe_bltn gT2 mT2 bT2 rfl nT2 dT2) pa_nil h5) h4)) pa_nil h3) h1) (by decide) (by decide) h1 h2
end
/-! ### is_number, is_listed -/
section
variable {P : Program} {w : World} {K : PySem.W.Frag} {mg : Str → Option Value} {base : Heap}
def sp_is_number : Sp := fun vs H Q _ => ∃ v a b : Int, vs = [.int v, .int a, .int b] ∧ Q (.bl (decide (a ≤ v ∧ v ≤ b))) H
theorem r_is_number (T : Txt w K mg) : FnR P w K mg base CX0 1 (a_is_number K) sp_is_number := by
  refine fnr_of T.d_is_number sc_is_number (fun _ _ _ _ _ _ us hl => match us, hl with | [_, _, _], _ => rfl) (fun vs H Q E ⟨v, a, b, e, _⟩ => by rw [e] <;> rfl) fun cdv A outer s H vs Q E hr h => ?_
  obtain ⟨v, a, b, rfl, q⟩ := h
  refine ⟨_, pss_one (ps_ret (pe_and (pe_isi T.n_isinstance T.n_int bt_int (pv 0)) (pe_and (pe_not (pe_isi T.n_isinstance T.n_bool bt_bool (pv 0))) (pe_one (pe_chain op_le op_le (pv 1) (pv 0) (pv 2)))))), ?_⟩
  refine ⟨_, rfl, _, _, _, _, true, rfl, .ty _, dpTy (.int v), kit_ty ki_int_int, true, rfl, iteT ⟨_, rfl, _, _, _, _, false, rfl, .ty _, dpTy (.int v), kit_ty ki_int_bool, false, rfl, true, rfl, iteT ?_⟩⟩
  refine ⟨_, rfl, _, rfl, _, _, rfl, rfl, _, rfl, ?_⟩
  by_cases c : a ≤ v
  · rw [decide_eq_true c]
    refine iteT ⟨_, rfl, _, _, rfl, rfl, ?_⟩
    have e : decide (a ≤ v ∧ v ≤ b) = decide (v ≤ b) := by simp [c]
    rw [e] at q
    exact q
  · rw [decide_eq_false c]
    refine iteF ?_
    have e : decide (a ≤ v ∧ v ≤ b) = false := by simp [c]
    rw [e] at q
    exact q
end
end K85

set_option Elab.async false
set_option linter.all false
set_option maxRecDepth 100000
set_option maxHeartbeats 4000000
namespace K85
open PySem PySem.Spec PyProof.Rows L2
/-! ### comprehensions that lay a new list and leave the rest -/
section
variable {K : PySem.W.Frag} {a D : Addr} {H H1 : Hp} {xs : List V}
theorem kpD_L (h : SqL K H1 a xs) (hD : H1 D = none) (x : Kp [D] H1 H) : SqL K H a xs := by
  rcases h with (h | ⟨o, h⟩) | h
  · exact .inl (.inl (x _ _ (by simpa using ne_of_none h hD) h))
  · exact .inl (.inr ⟨o, x _ _ (by simpa using ne_of_none h hD) h⟩)
  · exact .inr h
theorem kpD_T (h : SqT K H1 a xs) (hD : H1 D = none) (x : Kp [D] H1 H) : SqT K H a xs := by
  rcases h with (h | ⟨o, h⟩) | h
  · exact .inl (.inl (x _ _ (by simpa using ne_of_none h hD) h))
  · exact .inl (.inr ⟨o, x _ _ (by simpa using ne_of_none h hD) h⟩)
  · exact .inr h
/-- what holds of the things made so far stands through growth and the list's own change -/
def Stab (D : Addr) (R : Nat → V → Hp → Prop) : Prop := ∀ i y H H', (∃ l, H D = some (.lst l)) → Kp [D] H H' → R i y H → R i y H'
/-- after i turns -/
def LcI (H1 : Hp) (D : Addr) (R : Nat → V → Hp → Prop) (i : Nat) (H : Hp) : Prop := Kp [D] H1 H ∧ ∃ acc, H D = some (.lst acc) ∧ acc.length = i ∧ ∀ j y, acc[j]? = some y → R j y H
theorem LcI.zero {R : Nat → V → Hp → Prop} (hD : H1 D = none) : LcI H1 D R 0 (upd H1 D (.lst [])) :=
  ⟨(Kp.refl _ _).upd (List.mem_singleton.mpr rfl) _, [], upd_same, rfl, fun j y h => by simp at h⟩
theorem LcI.step {R : Nat → V → Hp → Prop} {i : Nat} {H4 : Hp} {y : V} (st : Stab D R) (hi : i < sizeLine) (x : LcI H1 D R i H) (s : L2.Same H H4) (r : R i y H4) : ∃ acc, H4 D = some (.lst acc) ∧ acc.length < sizeLine ∧ LcI H1 D R (i + 1) (upd H4 D (.lst (acc ++ [y]))) := by
  obtain ⟨k, acc, h1, h2, h3⟩ := x
  have h4 := s _ _ h1
  refine ⟨acc, h4, by omega, ?_, acc ++ [y], upd_same, by rw [List.length_append, h2]; rfl, fun j z hz => ?_⟩
  · exact (k.trans (Kp.same s)).upd (List.mem_singleton.mpr rfl) _
  · have k2 : Kp [D] H4 (upd H4 D (.lst (acc ++ [y]))) := (Kp.refl _ _).upd (List.mem_singleton.mpr rfl) _
    by_cases hj : j < acc.length
    · rw [List.getElem?_append_left hj] at hz
      exact st j z _ _ ⟨_, h4⟩ k2 (st j z _ _ ⟨_, h1⟩ (Kp.same s) (h3 j z hz))
    · rw [List.getElem?_append_right (by omega)] at hz
      have ej : j - acc.length = 0 := by
        rcases Nat.eq_zero_or_pos (j - acc.length) with z | z
        · exact z
        · rw [List.getElem?_eq_none (by simp; omega)] at hz
          cases hz
      rw [ej] at hz
      have ez : y = z := Option.some.inj hz
      have e2 : j = i := by omega
      rw [← ez, e2]
      exact st i y _ _ ⟨_, h4⟩ k2 r
variable {g : TG} {tt : TT} {te : TE} {vs : List Nat} {σ : L2.St} {Qd : Hp → Prop}
/-- the turn's wish -/
abbrev LcT (g : TG) (tt : TT) (te : TE) (vs : List Nat) (σ : L2.St) (D : Addr) (x : V) (H : Hp) (Nx : Hp → Prop) : Prop :=
  g x (wipe σ vs) H fun σ2 H2 => wipe σ2 vs = wipe σ vs ∧ tt σ2 H2 fun b H3 => if b = true then te σ2 H3 fun y H4 => ∃ acc, H4 D = some (.lst acc) ∧ acc.length < sizeLine ∧ Nx (upd H4 D (.lst (acc ++ [y]))) else Nx H3
theorem lcL (R : Nat → V → Hp → Prop) (hD : H1 D = none) (hz : xs.length ≤ 1000) (src : SqL K H1 a xs) (st : Stab D R)
    (hs : ∀ i x H (Nx : Hp → Prop), xs[i]? = some x → Kp [D] H1 H → (∃ l, H D = some (.lst l)) → (∀ y H4, L2.Same H H4 → R i y H4 → ∃ acc, H4 D = some (.lst acc) ∧ acc.length < sizeLine ∧ Nx (upd H4 D (.lst (acc ++ [y])))) → LcT g tt te vs σ D x H Nx)
    (hd : ∀ H ys, Kp [D] H1 H → H D = some (.lst ys) → ys.length = xs.length → (∀ j y, ys[j]? = some y → R j y H) → Qd H) :
    ∃ W : Nat → Nat → Hp → Prop, (∃ m, W 0 m (upd H1 D (.lst []))) ∧ ∀ i m H, W i m H → ((Itl K a).stop i H ∧ Qd H) ∨ ((Itl K a).go i H ∧ ∃ Nx : Hp → Prop, (∀ H', Nx H' → ∃ m', m' < m ∧ W (i + 1) m' H') ∧ ∀ x H', (Itl K a).yld i H x H' → LcT g tt te vs σ D x H' Nx) := by
  refine lc_list (K := K) (a := a) (xs := xs) (LcI H1 D R) (LcI.zero hD) (fun i H _ p => kpD_L src hD p.1) (fun i x H hx p => ?_) fun H p => ?_
  · have hi : i < xs.length := (List.getElem?_eq_some_iff.mp hx).1
    exact hs i x H _ hx p.1 (let ⟨_, acc, h, _⟩ := p; ⟨acc, h⟩) fun y H4 s r => p.step st (Nat.lt_of_lt_of_le (Nat.lt_of_lt_of_le hi hz) (by decide)) s r
  · obtain ⟨k, acc, h1, h2, h3⟩ := p
    exact hd H acc k h1 h2 h3
theorem lcTu (R : Nat → V → Hp → Prop) (hD : H1 D = none) (hz : xs.length ≤ 1000) (src : SqT K H1 a xs) (st : Stab D R)
    (hs : ∀ i x H (Nx : Hp → Prop), xs[i]? = some x → Kp [D] H1 H → (∃ l, H D = some (.lst l)) → (∀ y H4, L2.Same H H4 → R i y H4 → ∃ acc, H4 D = some (.lst acc) ∧ acc.length < sizeLine ∧ Nx (upd H4 D (.lst (acc ++ [y])))) → LcT g tt te vs σ D x H Nx)
    (hd : ∀ H ys, Kp [D] H1 H → H D = some (.lst ys) → ys.length = xs.length → (∀ j y, ys[j]? = some y → R j y H) → Qd H) :
    ∃ W : Nat → Nat → Hp → Prop, (∃ m, W 0 m (upd H1 D (.lst []))) ∧ ∀ i m H, W i m H → ((Itt K a).stop i H ∧ Qd H) ∨ ((Itt K a).go i H ∧ ∃ Nx : Hp → Prop, (∀ H', Nx H' → ∃ m', m' < m ∧ W (i + 1) m' H') ∧ ∀ x H', (Itt K a).yld i H x H' → LcT g tt te vs σ D x H' Nx) := by
  refine lc_tup (K := K) (a := a) (xs := xs) (LcI H1 D R) (LcI.zero hD) (fun i H _ p => kpD_T src hD p.1) (fun i x H hx p => ?_) fun H p => ?_
  · have hi : i < xs.length := (List.getElem?_eq_some_iff.mp hx).1
    exact hs i x H _ hx p.1 (let ⟨_, acc, h, _⟩ := p; ⟨acc, h⟩) fun y H4 s r => p.step st (Nat.lt_of_lt_of_le (Nat.lt_of_lt_of_le hi hz) (by decide)) s r
  · obtain ⟨k, acc, h1, h2, h3⟩ := p
    exact hd H acc k h1 h2 h3
theorem lcR {n : Nat} (R : Nat → V → Hp → Prop) (hD : H1 D = none) (hz : n ≤ 1000) (st : Stab D R)
    (hs : ∀ i H (Nx : Hp → Prop), i < n → Kp [D] H1 H → (∃ l, H D = some (.lst l)) → (∀ y H4, L2.Same H H4 → R i y H4 → ∃ acc, H4 D = some (.lst acc) ∧ acc.length < sizeLine ∧ Nx (upd H4 D (.lst (acc ++ [y])))) → LcT g tt te vs σ D (.int (0 + (i : Int))) H Nx)
    (hd : ∀ H ys, Kp [D] H1 H → H D = some (.lst ys) → ys.length = n → (∀ j y, ys[j]? = some y → R j y H) → Qd H) :
    ∃ W : Nat → Nat → Hp → Prop, (∃ m, W 0 m (upd H1 D (.lst []))) ∧ ∀ i m H, W i m H → ((Itr 0 n).stop i H ∧ Qd H) ∨ ((Itr 0 n).go i H ∧ ∃ Nx : Hp → Prop, (∀ H', Nx H' → ∃ m', m' < m ∧ W (i + 1) m' H') ∧ ∀ x H', (Itr 0 n).yld i H x H' → LcT g tt te vs σ D x H' Nx) := by
  refine lc_range (lo := 0) (n := n) (LcI H1 D R) (LcI.zero hD) (fun i H hi p => ?_) fun H p => ?_
  · exact hs i H _ hi p.1 (let ⟨_, acc, h, _⟩ := p; ⟨acc, h⟩) fun y H4 s r => p.step st (Nat.lt_of_lt_of_le (Nat.lt_of_lt_of_le hi hz) (by decide)) s r
  · obtain ⟨k, acc, h1, h2, h3⟩ := p
    exact hd H acc k h1 h2 h3
theorem stabP {P : Nat → V → Prop} : Stab D fun i y _ => P i y := fun _ _ _ _ _ _ h => h
theorem stabDp {K : PySem.W.Frag} {f : Nat → PyData} (hk : ∀ i, keyable (f i) = true) : Stab D fun i y H => Dp K H y (f i) := fun i y H H' ⟨l, hl⟩ k h =>
  dp_kp k (fun m hm => by rw [List.mem_singleton.mp hm]; exact Wr.lst hl) _ _ (hk i) h
/-- a list all of whose items are known -/
theorem list_is {xs : List V} {ys : List V} (hl : xs.length = ys.length) (h : ∀ (j : Nat) (y : V), xs[j]? = some y → ys[j]? = some y) : xs = ys := by
  apply List.ext_getElem? 
  intro j
  by_cases c : j < xs.length
  · have e := List.getElem?_eq_getElem c
    rw [e, h j _ e]
  · rw [List.getElem?_eq_none (by omega), List.getElem?_eq_none (by omega)]
end
end K85

set_option Elab.async false
set_option linter.all false
set_option maxRecDepth 100000
set_option maxHeartbeats 4000000
namespace K85
open PySem PySem.Spec PyProof.Rows L2
section
variable {P : Program} {w : World} {K : PySem.W.Frag} {mg : Str → Option Value} {base : Heap}
theorem kitAny2 {t a b : String} {r1 r2 : Bool} (h1 : kitB t a = some r1) (h2 : kitB t b = some r2) : PySem.W.kitAny K (.type t) [.type a, .type b] = some (r1 || r2) := by
  refine kitAny_cons (kit_ty h1) (fun e => ?_) fun e => by rw [e]; rfl
  refine kitAny_cons (kit_ty h2) (fun e2 => ?_) fun e2 => by rw [e, e2]; rfl
  rw [e, e2]
  exact kitAny_nil
def sp_is_listed (K : PySem.W.Frag) : Sp := fun vs H Q _ => ∃ x d, vs = [x] ∧ Dp K H x d ∧ (tyD d = "list" ∨ tyD d = "tuple") ∧ ∀ H', L2.Same H H' → Q (.bl true) H'
theorem r_is_listed (T : Txt w K mg) : FnR P w K mg base CX0 1 (a_is_listed K) (sp_is_listed K) := by
  refine fnr_of T.d_is_listed sc_is_listed (fun _ _ _ _ _ _ us hl => match us, hl with | [_], _ => rfl) (fun vs H Q E ⟨x, d, e, _⟩ => by rw [e] <;> rfl) fun cdv A outer s H vs Q E hr h => ?_
  obtain ⟨x, d, rfl, hd, ht, q⟩ := h
  refine ⟨_, pss_one (ps_ret (pe_isi2 T.n_isinstance T.n_list bt_list T.n_tuple bt_tuple (pv 0))), ?_⟩
  refine ⟨_, rfl, by show 2 ≤ sizeLine; decide, fun p hp => ?_⟩
  have S := same_new hp (.tup [.ty "list", .ty "tuple"])
  have ty := dpTy (dp_same S _ _ hd)
  rcases ht with e | e
  · rw [e] at ty
    exact ⟨x, p, _, _, _, true, rfl, upd_same, .cons (.ty _) (.cons (.ty _) .nil), ty, kitAny2 ki_list_list ki_list_tuple, q _ S⟩
  · rw [e] at ty
    exact ⟨x, p, _, _, _, true, rfl, upd_same, .cons (.ty _) (.cons (.ty _) .nil), ty, kitAny2 ki_tuple_list ki_tuple_tuple, q _ S⟩
def sp_are_things (K : PySem.W.Frag) : Sp := fun vs H Q _ => ∃ (a : Addr) (xs : List Int) (m : Int) (size : Int), vs = [.ref a, .int m, .int size] ∧ (SqL K H a (xs.map V.int) ∨ SqT K H a (xs.map V.int)) ∧ m = xs.length ∧ (∀ n ∈ xs, 0 ≤ n ∧ n < size) ∧ xs.length < 100 ∧ ∀ H', L2.Same H H' → Q (.bl true) H'
/-- all([..]) of what a comprehension made -/
theorem trues {ys : List V} {n : Nat} (hl : ys.length = n) (h : ∀ (j : Nat) (y : V), ys[j]? = some y → y = .bl true) : ys = (List.replicate n true).map V.bl := by
  refine list_is (by rw [hl, List.length_map, List.length_replicate]) fun j y hj => ?_
  have hlt : j < n := by rw [← hl]; exact (List.getElem?_eq_some_iff.mp hj).1
  rw [h j y hj, List.getElem?_map, List.getElem?_replicate, if_pos hlt] <;> rfl
theorem all_rep (n : Nat) : (List.replicate n true).all id = true := by simp
theorem r_are_things (T : Txt w K mg) : FnR P w K mg base CX0 2 (a_are_things K) (sp_are_things K) := by
  refine fnr_of T.d_are_things sc_are_things (fun _ _ _ _ _ _ us hl => match us, hl with | [_, _, _], _ => rfl) (fun vs H Q E ⟨_, _, _, _, e, _⟩ => by rw [e] <;> rfl) fun cdv A outer s H vs Q E hr h => ?_
  obtain ⟨a, xs, m, size, rfl, hs, hm, hb, hlen, q⟩ := h
  have len1 : decide (V.int ((xs.map V.int).length : Int) = V.int m) = true := decide_eq_true (by rw [hm, List.length_map])
  -- one turn
  have turn : ∀ (i : Nat) (x : V), (xs.map V.int)[i]? = some x → ∃ n : Int, x = .int n ∧ decide (0 ≤ n ∧ n ≤ size - 1) = true := fun i x hx => by
    rw [List.getElem?_map] at hx
    obtain ⟨n, hn, e⟩ := Option.map_eq_some_iff.mp hx
    have := hb n (List.mem_of_getElem? hn)
    exact ⟨n, e.symm, decide_eq_true (by omega)⟩
  have fin : ∀ {D : Addr} {H2 : Hp} {ys : List V}, H D = none → Kp [D] H H2 → H2 D = some (.lst ys) → ys.length = (xs.map V.int).length → (∀ (j : Nat) (y : V), ys[j]? = some y → y = .bl true) →
      ∃ (a : Addr) (bs : List Bool), [V.ref D] = [V.ref a] ∧ SqL K H2 a (bs.map V.bl) ∧ Q (.bl (bs.all id)) H2 := fun {D H2 ys} hD k h2 hl hy => by
    refine ⟨D, List.replicate (xs.map V.int).length true, rfl, ?_, ?_⟩
    · rw [← trues hl hy]
      exact .inl (.inl h2)
    · rw [all_rep]
      exact q _ fun b o e => k b o (by simpa using ne_of_none e hD) e
  rcases hs with hs | hs
  · refine ⟨_, pss_one (ps_ret (pe_and (pe_cmpR op_eq (pe_callB call_len_seq (by rfl) T.n_len bt_len (pa_cons (pv 0) pa_nil)) (pv 1) (nomark _)) (pe_one (pe_callB (cr_all rfl) (by rfl) T.n_all bt_all (pa_cons
      (pe_lc (own := [("value", 3)]) (g := gName 3) (tt := tYes) rfl sc_are_things.nd (pi_list (pv 0)) (blkOk_by (own := [("value", 3)]) (N := n_are_things) (sc := defScope s_are_things) (by decide +kernel)) (fun _ _ _ _ _ => pg_name (i := 3) sc_are_things.nd rfl (Or.inl rfl)) (fun _ _ _ _ _ => pts_nil)
        (fun _ _ _ _ _ => pe_callR (r_is_number T) hr rfl T.g_is_number (fnr_kp T.d_is_number) pass0 (pa_cons (pv 3) (pa_cons pe_int (pa_cons (pe_op op_sub (pv 2) pe_int) pa_nil))))) pa_nil))))), ?_⟩
    refine ⟨_, rfl, a, _, rfl, .inl hs, _, rfl, rfl, _, rfl, ?_⟩
    rw [len1]
    refine iteT ⟨_, rfl, a, rfl, ⟨_, hs⟩, fun D hD => lcL (K := K) (xs := xs.map V.int) (fun _ y _ => y = .bl true) hD (by rw [List.length_map]; omega) hs stabP (fun i x H2 Nx hx k hl f => ?_) fun H2 ys k h2 hl hy => fin hD k h2 hl hy⟩
    obtain ⟨n, rfl, hn⟩ := turn i x hx
    refine ⟨rfl, _, rfl, _, rfl, _, _, rfl, rfl, n, 0, size - 1, rfl, f _ _ (L2.Same.refl _) (by rw [hn])⟩
  · refine ⟨_, pss_one (ps_ret (pe_and (pe_cmpR op_eq (pe_callB call_len_seq (by rfl) T.n_len bt_len (pa_cons (pv 0) pa_nil)) (pv 1) (nomark _)) (pe_one (pe_callB (cr_all rfl) (by rfl) T.n_all bt_all (pa_cons
      (pe_lc (own := [("value", 3)]) (g := gName 3) (tt := tYes) rfl sc_are_things.nd (pi_tup (pv 0)) (blkOk_by (own := [("value", 3)]) (N := n_are_things) (sc := defScope s_are_things) (by decide +kernel)) (fun _ _ _ _ _ => pg_name (i := 3) sc_are_things.nd rfl (Or.inl rfl)) (fun _ _ _ _ _ => pts_nil)
        (fun _ _ _ _ _ => pe_callR (r_is_number T) hr rfl T.g_is_number (fnr_kp T.d_is_number) pass0 (pa_cons (pv 3) (pa_cons pe_int (pa_cons (pe_op op_sub (pv 2) pe_int) pa_nil))))) pa_nil))))), ?_⟩
    refine ⟨_, rfl, a, _, rfl, .inr hs, _, rfl, rfl, _, rfl, ?_⟩
    rw [len1]
    refine iteT ⟨_, rfl, a, rfl, ⟨_, hs⟩, fun D hD => lcTu (K := K) (xs := xs.map V.int) (fun _ y _ => y = .bl true) hD (by rw [List.length_map]; omega) hs stabP (fun i x H2 Nx hx k hl f => ?_) fun H2 ys k h2 hl hy => fin hD k h2 hl hy⟩
    obtain ⟨n, rfl, hn⟩ := turn i x hx
    refine ⟨rfl, _, rfl, _, rfl, _, _, rfl, rfl, n, 0, size - 1, rfl, f _ _ (L2.Same.refl _) (by rw [hn])⟩
end
end K85

set_option Elab.async false
set_option linter.all false
set_option maxRecDepth 100000
set_option maxHeartbeats 4000000
namespace K85
open PySem PySem.Spec PyProof.Rows L2
/-- a comprehension over a text's signs -/
theorem lcS {H1 : Hp} {D : Addr} {z : Str} {g : TG} {tt : TT} {te : TE} {vs : List Nat} {σ : L2.St} {Qd : Hp → Prop} (R : Nat → V → Hp → Prop) (hD : H1 D = none) (hz : z.cps.size ≤ 1000) (st : Stab D R)
    (hs : ∀ (i c : Nat) H (Nx : Hp → Prop), z.cps[i]? = some c → Kp [D] H1 H → (∃ l, H D = some (.lst l)) → (∀ y H4, L2.Same H H4 → R i y H4 → ∃ acc, H4 D = some (.lst acc) ∧ acc.length < sizeLine ∧ Nx (upd H4 D (.lst (acc ++ [y])))) → LcT g tt te vs σ D (.str ⟨#[c]⟩) H Nx)
    (hd : ∀ H ys, Kp [D] H1 H → H D = some (.lst ys) → ys.length = z.cps.size → (∀ j y, ys[j]? = some y → R j y H) → Qd H) :
    ∃ W : Nat → Nat → Hp → Prop, (∃ m, W 0 m (upd H1 D (.lst []))) ∧ ∀ i m H, W i m H → ((Its z).stop i H ∧ Qd H) ∨ ((Its z).go i H ∧ ∃ Nx : Hp → Prop, (∀ H', Nx H' → ∃ m', m' < m ∧ W (i + 1) m' H') ∧ ∀ x H', (Its z).yld i H x H' → LcT g tt te vs σ D x H' Nx) := by
  refine ⟨fun i m H => m = z.cps.size - i ∧ i ≤ z.cps.size ∧ LcI H1 D R i H, ⟨z.cps.size, by simp, Nat.zero_le _, LcI.zero hD⟩, ?_⟩
  rintro i m H ⟨rfl, hi, p⟩
  by_cases hlt : i < z.cps.size
  · refine .inr ⟨hlt, LcI H1 D R (i + 1), fun H' p' => ⟨z.cps.size - (i + 1), by omega, rfl, hlt, p'⟩, fun x H' y => ?_⟩
    obtain ⟨e, c, hc, ex⟩ := y
    subst e ex
    exact hs i c _ _ hc p.1 (let ⟨_, acc, h, _⟩ := p; ⟨acc, h⟩) fun y H4 s r => p.step st (Nat.lt_of_lt_of_le (Nat.lt_of_lt_of_le hlt hz) (by decide)) s r
  · have e : i = z.cps.size := by omega
    subst e
    obtain ⟨k, acc, h1, h2, h3⟩ := p
    exact .inl ⟨Nat.le_refl _, hd H acc k h1 h2 h3⟩
section
variable {P : Program} {w : World} {K : PySem.W.Frag} {mg : Str → Option Value} {base : Heap}
def NameOk (x : Str) : Prop := 1 ≤ x.cps.size ∧ x.cps.size ≤ 6 ∧ ∀ c ∈ x.cps.toList, c ∈ ("abcdefghijklmnopqrstuvwxyz" : Str).cps.toList
def sp_is_name : Sp := fun vs H Q _ => ∃ x, vs = [.str x] ∧ NameOk x ∧ ∀ H', L2.Same H H' → Q (.bl true) H'
theorem r_is_name (T : Txt w K mg) : FnR P w K mg base CX0 1 (a_is_name K) sp_is_name := by
  refine fnr_of T.d_is_name sc_is_name (fun _ _ _ _ _ _ us hl => match us, hl with | [_], _ => rfl) (fun vs H Q E ⟨x, e, _⟩ => by rw [e] <;> rfl) fun cdv A outer s H vs Q E hr h => ?_
  obtain ⟨x, rfl, ⟨h1, h2, h3⟩, q⟩ := h
  refine ⟨_, pss_cons (ps_if (PW.pt (pw_or (pt_not (pt_val (pe_isi T.n_isinstance T.n_str bt_str (pv 0)))) (pw_or1 (pt_not (pt_chain op_le op_le pe_int (pe_callB call_len_str (by rfl) T.n_len bt_len (pa_cons (pv 0) pa_nil)) (pe_gi T.i_LONGEST_NAME)))))) (pss_one ps_never) pss_nil)
    (pss_one (ps_ret (pe_callB (cr_all rfl) (by rfl) T.n_all bt_all (pa_cons
      (pe_lc (own := [("letter", 1)]) (g := gName 1) (tt := tYes) rfl sc_is_name.nd (pi_str (pv 0)) (blkOk_by (own := [("letter", 1)]) (N := n_is_name) (sc := defScope s_is_name) (by decide +kernel)) (fun _ _ _ _ _ => pg_name (i := 1) sc_is_name.nd rfl (Or.inl rfl)) (fun _ _ _ _ _ => pts_nil)
        (fun _ _ _ _ _ => pe_cmpR op_in_sign (pv 1) (pe_gs T.s_LETTERS) rfl)) pa_nil)))), ?_⟩
  refine ⟨_, rfl, _, _, _, _, true, rfl, .ty _, dpTy (.str x), kit_ty ki_str_str, true, rfl, ?_⟩
  refine iteF ?_
  have d1 : decide ((1 : Int) ≤ ((x.length : Nat) : Int)) = true := decide_eq_true (by show (1 : Int) ≤ ((x.cps.size : Nat) : Int); omega)
  have d2 : decide (((x.length : Nat) : Int) ≤ (6 : Int)) = true := decide_eq_true (by show ((x.cps.size : Nat) : Int) ≤ (6 : Int); omega)
  refine ⟨_, rfl, x, rfl, by show x.cps.size ≤ sizeLine; rw [sizeLine_eq]; omega, _, _, rfl, rfl, _, rfl, ?_⟩
  rw [d1]
  refine iteT ⟨_, _, rfl, rfl, _, rfl, ?_⟩
  rw [d2]
  refine iteF ?_
  refine ⟨_, rfl, x, rfl, fun D hD => lcS (z := x) (fun _ y _ => y = .bl true) hD (by omega) stabP (fun i c H2 Nx hc k hl f => ?_) fun H2 ys k h2' hl hy => ?_⟩
  · refine ⟨rfl, _, rfl, c, _, rfl, rfl, f _ _ (L2.Same.refl _) ?_⟩
    have hm : c ∈ x.cps.toList := by
      have q : x.cps.toList[i]? = some c := by rw [Array.getElem?_toList]; exact hc
      exact List.mem_of_getElem? q
    rw [decide_eq_true (h3 c hm)]
  · refine ⟨D, List.replicate x.cps.size true, rfl, ?_, ?_⟩
    · rw [← trues hl hy]
      exact .inl (.inl h2')
    · rw [all_rep]
      exact q _ fun b o e => k b o (by simpa using ne_of_none e hD) e
end
end K85

set_option Elab.async false
set_option linter.all false
set_option maxRecDepth 100000
set_option maxHeartbeats 4000000
namespace K85
open PySem PySem.Spec PyProof.Rows L2
/-! ### rows of ints as data -/
def rowD (ns : List Int) : PyData := .tuple (ns.map .int)
theorem keyables_ints : ∀ ns : List Int, keyables (ns.map .int) = true
  | [] => rfl
  | n :: ns => by
    show (keyable (.int n) && keyables (ns.map .int)) = true
    rw [keyables_ints ns] <;> rfl
theorem key_row (ns : List Int) : keyable (rowD ns) = true := keyables_ints ns
theorem lay_ints : ∀ ns : List Int, PyData.canLayAll0 (ns.map .int) = true
  | [] => rfl
  | n :: ns => by
    show (PyData.canLay0 (.int n) && PyData.canLayAll0 (ns.map .int)) = true
    rw [lay_ints ns] <;> rfl
theorem lay_row (ns : List Int) : (rowD ns).canLay0 = true := lay_ints ns
theorem dep_row (ns : List Int) : (rowD ns).depth = 1 := by
  show PyData.depthAll (ns.map .int) + 1 = 1
  rw [PySem.W.depth_ints]
theorem shaped_row (ns : List Int) : SeqAt.shaped (rowD ns) = true := by
  unfold SeqAt.shaped
  rw [lay_row, dep_row] <;> rfl
theorem lay_rows : ∀ rs : List (List Int), PyData.canLayAll0 (rs.map rowD) = true
  | [] => rfl
  | r :: rs => by
    show (PyData.canLay0 (rowD r) && PyData.canLayAll0 (rs.map rowD)) = true
    rw [lay_row, lay_rows rs] <;> rfl
theorem dep_rows : ∀ rs : List (List Int), PyData.depthAll (rs.map rowD) ≤ 1
  | [] => Nat.zero_le _
  | r :: rs => by
    show max (rowD r).depth (PyData.depthAll (rs.map rowD)) ≤ 1
    have := dep_rows rs
    rw [dep_row]
    omega
theorem shaped_rows (rs : List (List Int)) : SeqAt.shaped (.list (rs.map rowD)) = true := by
  unfold SeqAt.shaped
  have h1 : (PyData.list (rs.map rowD)).canLay0 = true := lay_rows rs
  have h2 : (PyData.list (rs.map rowD)).depth ≤ 64 := by
    show PyData.depthAll (rs.map rowD) + 1 ≤ 64
    have := dep_rows rs
    omega
  rw [h1, decide_eq_true h2] <;> rfl
theorem eqv_ints : ∀ xs ys : List Int, PyData.eqvAll (xs.map .int) (ys.map .int) = decide (xs = ys)
  | [], [] => rfl
  | [], _ :: _ => rfl
  | _ :: _, [] => rfl
  | x :: xs, y :: ys => by
    show ((x == y) && PyData.eqvAll (xs.map .int) (ys.map .int)) = decide (x :: xs = y :: ys)
    rw [eqv_ints xs ys]
    by_cases h : x = y
    · subst h
      simp
    · simp [h]
theorem eqv_row (xs ys : List Int) : PyData.eqv (rowD xs) (rowD ys) = decide (xs = ys) := eqv_ints xs ys
theorem any_row (rs : List (List Int)) (r : List Int) : ((rs.map rowD).any fun z => PyData.eqv z (rowD r)) = decide (r ∈ rs) := by
  induction rs with
  | nil => rfl
  | cons q rs ih =>
    rw [List.map_cons, List.any_cons, ih, eqv_row]
    by_cases h : q = r
    · subst h
      simp
    · have h' : ¬ r = q := fun z => h z.symm
      simp [h, h']
theorem dpRow {K : PySem.W.Frag} {H : Hp} {t : Addr} {ns : List Int} (h : SqT K H t (ns.map V.int)) : Dp K H (.ref t) (rowD ns) := .tup h (dpAll_ints ns)
theorem dpRow_inv {K : PySem.W.Frag} {H : Hp} : ∀ {ns : List Int} {xs : List V}, DpAll K H xs (ns.map .int) → xs = ns.map V.int
  | [], _, h => by cases h; rfl
  | n :: ns, _, h => by
    cases h with
    | cons h1 h2 =>
      cases h1
      rw [dpRow_inv h2] <;> rfl
theorem dpRow_T {K : PySem.W.Frag} {H : Hp} {t : Addr} {ns : List Int} (h : Dp K H (.ref t) (rowD ns)) : SqT K H t (ns.map V.int) := by
  unfold rowD at h
  cases h with
  | tup hs ha =>
    rw [dpRow_inv ha] at hs
    exact hs
abbrev adr (rs : List (Addr × List Int)) : List V := rs.map fun r => V.ref r.1
abbrev intsR (rs : List (Addr × List Int)) : List (List Int) := rs.map fun r => r.2
theorem adr_take (rs : List (Addr × List Int)) (j : Nat) : (adr rs).take j = adr (rs.take j) := by unfold adr; rw [List.map_take]
theorem intsR_take (rs : List (Addr × List Int)) (j : Nat) : intsR (rs.take j) = (intsR rs).take j := by unfold intsR; rw [List.map_take]
/-- rows at their addresses -/
abbrev RowsAt (K : PySem.W.Frag) (H : Hp) (rs : List (Addr × List Int)) : Prop := ∀ r ∈ rs, SqT K H r.1 (r.2.map V.int)
theorem dpRows {K : PySem.W.Frag} {H : Hp} : ∀ {rs : List (Addr × List Int)}, RowsAt K H rs → DpAll K H (adr rs) ((intsR rs).map rowD)
  | [], _ => .nil
  | r :: rs, h => .cons (dpRow (h r List.mem_cons_self)) (dpRows fun q hq => h q (List.mem_cons_of_mem _ hq))
/-! ### tables -/
structure Tb where
  nm : Str
  p : Int
  t : Addr
  l : Addr
  rows : List (Addr × List Int)
structure TbAt (K : PySem.W.Frag) (H : Hp) (e : Tb) : Prop where
  tup0 : H e.t = some (.tup [.int e.p, .ref e.l])
  lst0 : H e.l = some (.lst (adr e.rows))
  rows : RowsAt K H e.rows
structure TbOk (size : Int) (e : Tb) : Prop where
  nm : NameOk e.nm
  p : e.p = 1 ∨ e.p = 2
  few : e.rows.length ≤ 64
  row : ∀ r ∈ e.rows, (r.2.length : Int) = e.p ∧ ∀ n ∈ r.2, 0 ≤ n ∧ n < size
  nd : (intsR e.rows).Nodup
abbrev kvT (L : List Tb) : List (Key × V) := L.map fun e => (Sum.inr e.nm, V.ref e.t)
structure TabsAt (K : PySem.W.Frag) (H : Hp) (d : Addr) (L : List Tb) : Prop where
  dic : H d = some (.dK (kvT L))
  tb : ∀ e ∈ L, TbAt K H e
structure TabsOk (size : Int) (L : List Tb) : Prop where
  few : L.length ≤ 4
  nd : (L.map (·.nm)).Nodup
  tb : ∀ e ∈ L, TbOk size e
theorem valV_kvT : ∀ {L : List Tb} {e : Tb}, (L.map (·.nm)).Nodup → e ∈ L → valV (kvT L) (Sum.inr e.nm) = some (.ref e.t)
  | [], _, _, h => by cases h
  | a :: L, e, nd, h => by
    have nd' := List.nodup_cons.mp (show (a.nm :: L.map (·.nm)).Nodup from nd)
    unfold valV
    show Option.map (fun x => x.snd) (List.find? (fun kv => decide (kv.1 = Sum.inr e.nm)) ((Sum.inr a.nm, V.ref a.t) :: kvT L)) = some (V.ref e.t)
    rw [List.find?_cons]
    by_cases c : a.nm = e.nm
    · have ea : a = e := by
        rcases List.mem_cons.mp h with z | z
        · exact z.symm
        · exact absurd (List.mem_map.mpr ⟨e, z, c.symm⟩) nd'.1
      subst ea
      simp
    · have ne : ¬ ((Sum.inr a.nm : Key) = Sum.inr e.nm) := fun z => c (Sum.inr.inj z)
      simp only [ne, decide_false]
      rcases List.mem_cons.mp h with z | z
      · exact absurd (congrArg Tb.nm z.symm) c
      · exact valV_kvT nd'.2 z
theorem kvT_at {L : List Tb} {i : Nat} {e : Tb} (h : L[i]? = some e) : (kvT L)[i]? = some (Sum.inr e.nm, V.ref e.t) := by
  rw [List.getElem?_map, h] <;> rfl
theorem walk_tbs {d : Addr} {o : Obj} {L : List Tb} : Walk (Iti d o (kvT L)) L.length (fun H => H d = some (.frz o (.dK (kvT L)))) (fun i H v H' => ∃ T e, L[i]? = some e ∧ v = .ref T ∧ H T = none ∧ H' = upd H T (.tup [.str e.nm, .ref e.t])) := by
  refine ⟨fun i _ hi q => ⟨q, by rw [List.length_map]; exact hi⟩, fun _ q => ⟨q, by rw [List.length_map]; exact Nat.le_refl _⟩, fun i H x H' hi _ y => ?_⟩
  obtain ⟨T, k, v, h1, h2, h3, h4⟩ := y
  have e := kvT_at (List.getElem?_eq_getElem hi)
  rw [e] at h1
  cases h1
  exact ⟨T, _, List.getElem?_eq_getElem hi, h2, h3, h4⟩
theorem TbAt.tup {K : PySem.W.Frag} {H : Hp} {e : Tb} (x : TbAt K H e) : SqT K H e.t [.int e.p, .ref e.l] := SqT.of x.tup0
theorem TbAt.lst {K : PySem.W.Frag} {H : Hp} {e : Tb} (x : TbAt K H e) : SqL K H e.l (adr e.rows) := SqL.of x.lst0
theorem TbAt.kp {K : PySem.W.Frag} {H H1 : Hp} {M : List Addr} {e : Tb} (x : TbAt K H e) (k : Kp M H H1) (w : Wrs H M) (n : e.l ∉ M) : TbAt K H1 e :=
  ⟨k _ _ (w.no x.tup0 rfl) x.tup0, k _ _ n x.lst0, fun r hr => kp_T k w (x.rows r hr)⟩
theorem TbAt.same {K : PySem.W.Frag} {H H1 : Hp} {e : Tb} (x : TbAt K H e) (k : L2.Same H H1) : TbAt K H1 e :=
  ⟨k _ _ x.tup0, k _ _ x.lst0, fun r hr => same_T k (x.rows r hr)⟩
theorem TabsAt.same {K : PySem.W.Frag} {H H1 : Hp} {d : Addr} {L : List Tb} (x : TabsAt K H d L) (k : L2.Same H H1) : TabsAt K H1 d L := ⟨k _ _ x.dic, fun e he => (x.tb e he).same k⟩
/-- a list is not the dict, or it is written -/
theorem kp_Ld {K : PySem.W.Frag} {H H1 : Hp} {a d : Addr} {xs : List V} {kvs : List (Key × V)} (h : SqL K H a xs) (hd : H d = some (.dK kvs)) (k : Kp [d] H H1) : SqL K H1 a xs := by
  rcases h with (h | ⟨o, h⟩) | h
  · exact .inl (.inl (k _ _ (by simpa using ne_of h hd (by intro z; cases z)) h))
  · exact .inl (.inr ⟨o, k _ _ (by simpa using ne_of h hd (by intro z; cases z)) h⟩)
  · exact .inr h
theorem TbAt.kpd {K : PySem.W.Frag} {H H1 : Hp} {e : Tb} {d : Addr} {kvs : List (Key × V)} (x : TbAt K H e) (hd : H d = some (.dK kvs)) (k : Kp [d] H H1) : TbAt K H1 e := by
  have w : Wrs H [d] := fun m hm => by rw [List.mem_singleton.mp hm]; exact Wr.dK hd
  exact ⟨k _ _ (w.no x.tup0 rfl) x.tup0, k _ _ (by simpa using ne_of x.lst0 hd (by intro z; cases z)) x.lst0, fun r hr => kp_T k w (x.rows r hr)⟩
theorem unlock {H H1 : Hp} {d : Addr} {u : HO} (hd : H d = some u) (k : Kp [d] H H1) : L2.Same H (upd H1 d u) := fun b o e => by
  by_cases c : b = d
  · subst c
    rw [upd_same]
    rw [hd] at e
    exact e
  · rw [upd_ne c]
    exact k b o (by simpa using c) e
theorem lockK (H : Hp) (d : Addr) (o : HO) : Kp [d] H (upd H d o) := (Kp.refl _ _).upd (List.mem_singleton.mpr rfl) _
/-- s[:i] of the first i -/
theorem cut_to {xs : List V} {i : Nat} (h : i ≤ xs.length) : cutV xs Option.none (some (i : Int)) = xs.take i := by
  unfold cutV
  rw [HT.sIx_none, HT.sIx_nat, Nat.min_eq_left h, Nat.sub_zero, List.drop_zero]
end K85

set_option Elab.async false
set_option linter.all false
set_option maxRecDepth 100000
set_option maxHeartbeats 4000000
namespace K85
open PySem PySem.Spec PyProof.Rows L2
/-! ### the rules with the written part named (for the elements of comprehensions) -/
section
variable {X : Cx} {K : PySem.W.Frag} {e : Expr} {te : TE} {f T : Str} {n : String} {pos p p1 : Pos}
theorem kfld (h : X.K = K) (he : PE X e te) (hb : attributeBase e f X.env (eval e X.env) = eval e X.env := by rfl) : PE X (.Attribute e f pos) (tFld K te f) := by
  subst h
  exact pe_fld he hb
theorem kix_list (h : X.K = K) : IxR X (rIxL K) := by
  subst h
  exact ix_list
theorem kix_tup (h : X.K = K) : IxR X (rIxT K) := by
  subst h
  exact ix_tup
theorem ksl_tup (h : X.K = K) : SlR X (rSlT K) := by
  subst h
  exact sl_tup
theorem kop_catT (h : X.K = K) : OpR X (binaryOp .Add) (rCatT K) := by
  subst h
  exact op_catT
def rLenQ (K : PySem.W.Frag) : List V → Hp → VK → Prop := fun xs H Q => ∃ p ys, xs = [.ref p] ∧ (SqL K H p ys ∨ SqT K H p ys) ∧ Q (.int ys.length) H
theorem klen (h : X.K = K) : CallR X (.builtin "len") (rLenQ K) := by
  subst h
  exact call_len_seq
def rListOf (K : PySem.W.Frag) : List V → Hp → VK → Prop := fun xs H Q => ∃ p ys, xs = [.ref p] ∧ (SqL K H p ys ∨ SqT K H p ys) ∧ ∀ l, H l = none → Q (.ref l) (upd H l (.lst ys))
theorem klist_of (h : X.K = K) : CallR X (.type "list") (rListOf K) := by
  subst h
  exact call_list_of
def rTupleOf (K : PySem.W.Frag) : List V → Hp → VK → Prop := fun xs H Q => ∃ p ys, xs = [.ref p] ∧ ((SqL K H p ys ∧ ∀ l, H l = none → Q (.ref l) (upd H l (.tup ys))) ∨ (SqT K H p ys ∧ Q (.ref p) H))
theorem ktuple_of (h : X.K = K) : CallR X (.type "tuple") (rTupleOf K) := by
  subst h
  exact call_tuple_of
theorem ksortL (h : X.K = K) (hu : X.A.units + 64 < cLine) : CallR X (.builtin "sorted") (rSortL K) := by
  subst h
  exact cr_sortL hu
theorem kall (h : X.K = K) (hc : X.calm = true) : CallR X (.builtin "all") (rAll K) := by
  subst h
  exact cr_all hc
abbrev rInKd (K : PySem.W.Frag) (d : Addr) : R2 := fun x y H Q => ∃ (z : Str) (r : Option Value), x = .str z ∧ y = .ref d ∧ PySem.W.nsIn K d z = some r ∧ Q (.bl r.isSome) H
abbrev rNotInKd (K : PySem.W.Frag) (d : Addr) : R2 := fun x y H Q => ∃ (z : Str) (r : Option Value), x = .str z ∧ y = .ref d ∧ PySem.W.nsIn K d z = some r ∧ Q (.bl (!r.isSome)) H
abbrev rItKd (K : PySem.W.Frag) (d : Addr) : R2 := fun x y H Q => ∃ (z : Str) (u0 : Value) (v0 : V), x = .ref d ∧ y = .str z ∧ PySem.W.nsIn K d z = some (some u0) ∧ RelV v0 u0 ∧ Q v0 H
theorem kinKd {d : Addr} {w : World} (h : X.K = K) (hw : X.w = w) (D : ∃ es n, KDict K w d es n) : OpR X (compareOp .In) (rInKd K d) := by
  subst h hw
  obtain ⟨es, n, D⟩ := D
  exact op_in_kd D
theorem knotinKd {d : Addr} {w : World} (h : X.K = K) (hw : X.w = w) (D : ∃ es n, KDict K w d es n) : OpR X (compareOp .NotIn) (rNotInKd K d) := by
  subst h hw
  obtain ⟨es, n, D⟩ := D
  exact op_notIn_kd D
theorem kitKd {d : Addr} {w : World} (h : X.K = K) (hw : X.w = w) (D : ∃ es n, KDict K w d es n) : OpR X getItem (rItKd K d) := by
  subst h hw
  obtain ⟨es, n, D⟩ := D
  exact op_item_kd D
theorem kinD (h : X.K = K) (hu : X.A.units + 65 < cLine) : OpR X (compareOp .In) (rInD K) := by
  subst h
  exact op_inD hu
theorem kneD (h : X.K = K) (hu : X.A.units + 64 < cLine) : OpR X (compareOp .NotEq) (rNeD K) := by
  subst h
  exact op_neD hu
theorem keqD (h : X.K = K) (hu : X.A.units + 64 < cLine) : OpR X (compareOp .Eq) (rEqD K) := by
  subst h
  exact op_eqD hu
theorem Room.u65 {k : Nat} {A : Around} (r : Room k A) : A.units + 65 < cLine := by have := r.un; omega
end
end K85
namespace K85
open PySem PySem.Spec PyProof.Rows L2
section
variable {X : Cx} {K : PySem.W.Frag} {o i : Expr} {to ti : TE} {d : Addr} {w : World} {pos : Pos}
/-- d[k], d a written dict with text keys -/
theorem pe_kd (h : X.K = K) (hw : X.w = w) (D : ∃ es n, KDict K w d es n) (ho : PE X o to) (hi : PE X i ti) (hs : NoSl i := by exact fun _ _ => rfl) : PE X (.Subscript o i pos) (tOp (rItKd K d) to ti) := by
  subst h hw
  obtain ⟨es, n, D⟩ := D
  refine ⟨fun pins s σ H Q I h => ?_⟩
  refine subD_of PySem.F.slot_dict_getitem.lookup hs (thn (ho.run pins s σ H _ I h) fun u s1 ⟨x, H1, I1, rx, q1⟩ => thn (hi.run pins s1 σ H1 _ I1 q1) fun iv s2 ⟨y, H2, I2, ry, q2⟩ => ?_)
  have e : u = .ref d := by
    obtain ⟨z, u0, v0, ex, _⟩ := q2
    subst ex
    exact rx
  have T : s2.TypeIs u "dict" := by
    rw [e]
    exact kd_type D I2
  exact ⟨T, op_item_kd D pins s2 σ H2 x y u iv Q I2 rx ry q2⟩
end
end K85
namespace K85
open PySem PySem.Spec PyProof.Rows L2
/-- a dict comprehension over any walk -/
theorem dcIt {J : It} {n : Nat} {G : Hp → Prop} {Y : Nat → Hp → V → Hp → Prop} (w : Walk J n G Y) {g : TG} {tt : TT} {tk tv : TE} {vs : List Nat} {σ : L2.St} {H1 : Hp} {D : Addr} {Qd : Hp → Prop} (Pv : Nat → Hp → Prop) (h0 : Pv 0 (upd H1 D (.dK []))) (hG : ∀ i H, i ≤ n → Pv i H → G H)
    (hs : ∀ i x H H', i < n → Pv i H → Y i H x H' → g x (wipe σ vs) H' fun σ2 H2 => wipe σ2 vs = wipe σ vs ∧ tt σ2 H2 fun b H3 =>
      if b = true then tk σ2 H3 fun y H4 => tv σ2 H4 fun z H5 => ∃ kvs k, y = kV k ∧ H5 D = some (.dK kvs) ∧ kvs.length < sizeLine ∧ Pv (i + 1) (upd H5 D (.dK (putK kvs k z))) else Pv (i + 1) H3) (hd : ∀ H, Pv n H → Qd H) :
    ∃ W : Nat → Nat → Hp → Prop, (∃ m, W 0 m (upd H1 D (.dK []))) ∧ ∀ i m H, W i m H →
      (J.stop i H ∧ Qd H) ∨ (J.go i H ∧ ∃ Nx : Hp → Prop, (∀ H', Nx H' → ∃ m', m' < m ∧ W (i + 1) m' H') ∧ ∀ x H', J.yld i H x H' → g x (wipe σ vs) H' fun σ2 H2 => wipe σ2 vs = wipe σ vs ∧ tt σ2 H2 fun b H3 =>
        if b = true then tk σ2 H3 fun y H4 => tv σ2 H4 fun z H5 => ∃ kvs k, y = kV k ∧ H5 D = some (.dK kvs) ∧ kvs.length < sizeLine ∧ Nx (upd H5 D (.dK (putK kvs k z))) else Nx H3) := by
  refine ⟨fun i m H => m = n - i ∧ i ≤ n ∧ Pv i H, ⟨n, by simp, Nat.zero_le _, h0⟩, ?_⟩
  rintro i m H ⟨rfl, hi, p⟩
  have q := hG i H hi p
  by_cases hlt : i < n
  · refine .inr ⟨w.goes i H hlt q, Pv (i + 1), fun H' p' => ⟨n - (i + 1), by omega, rfl, hlt, p'⟩, fun x H' y => hs i x H H' hlt p (w.yields i H x H' hlt q y)⟩
  · have e : i = n := by omega
    subst e
    exact .inl ⟨w.stops H q, hd H p⟩
/-- a new key comes last -/
theorem putK_new {kvs : List (Key × V)} {k : Key} {v : V} (h : ∀ q ∈ kvs, q.1 ≠ k) : putK kvs k v = kvs ++ [(k, v)] := by
  unfold putK
  have e : (kvs.any fun kv => decide (kv.1 = k)) = false := by
    rw [List.any_eq_false]
    intro q hq
    simpa using h q hq
  rw [e] <;> rfl
end K85

set_option Elab.async false
set_option linter.all false
set_option maxRecDepth 100000
set_option maxHeartbeats 4000000
namespace K85
open PySem PySem.Spec PyProof.Rows L2
section
variable {P : Program} {w : World} {K : PySem.W.Frag} {mg : Str → Option Value} {base : Heap}
def sp_check_tables (K : PySem.W.Frag) : Sp := fun vs H Q _ => ∃ (size : Int) (d : Addr) (L : List Tb), vs = [.int size, .ref d] ∧ TabsAt K H d L ∧ TabsOk size L ∧ ∀ H', L2.Same H H' → Q .non H'
theorem r_check_tables (T : Txt w K mg) : FnR P w K mg base CX0 3 (a_check_tables K) (sp_check_tables K) := by
  refine fnr_of T.d_check_tables sc_check_tables (fun _ _ _ _ _ _ us hl => match us, hl with | [_, _], _ => rfl) (fun vs H Q E ⟨_, _, _, e, _⟩ => by rw [e] <;> rfl) fun cdv A outer s H vs Q E hr h => ?_
  obtain ⟨size, d, L, rfl, hT, hO, q⟩ := h
  have hu65 : (A.deeper (envOfC "check_tables" (defScope s_check_tables) s.heap.objs.size (a_check_tables K) cdv)).units + 65 < cLine := by have := hr.un; omega
  refine ⟨_, (pss_cons (ps_if (pt_cmpR op_gt (pe_callB call_lenD (by rfl) T.n_len bt_len (pa_cons (pv 1) pa_nil)) (pe_gi T.i_MOST_TABLES) (nomark _)) (pss_one ps_never) pss_nil)
    (pss_cons (ps_lock (ps_for PassesOwn.never rfl (pi_items (pv 1)) (pg_tup rfl (pgs_cons (pg_name (i := 2) sc_check_tables.nd rfl (Or.inl rfl)) (pgs_cons (pg_name (i := 3) sc_check_tables.nd rfl (Or.inl rfl)) pgs_nil))) (pss_cons (ps_if (PW.pt (pw_or (pt_not (pt_val (pe_callR (r_is_name T) (hr.mono (by decide)) rfl T.g_is_name (fnr_kp T.d_is_name) pass0 (pa_cons (pv 2) pa_nil)))) (pw_or (pt_not (pt_val (pe_isi T.n_isinstance T.n_tuple bt_tuple (pv 3)))) (pw_or1 (pt_cmpR op_ne (pe_callB (klen (K := K) rfl) (by rfl) T.n_len bt_len (pa_cons (pv 3) pa_nil)) pe_int (nomark _)))))) (pss_one ps_never) pss_nil)
    (pss_one (ps_if (PW.pt (pw_or (pt_not (pt_val (pe_callR (r_is_number T) (hr.mono (by decide)) rfl T.g_is_number (fnr_kp T.d_is_number) pass0 (pa_cons (pe_ix (kix_tup (K := K) rfl) (pv 3) pe_int (fun _ _ => rfl)) (pa_cons pe_int (pa_cons pe_int pa_nil)))))) (pw_or1 (pt_not (pt_val (pe_callR (r_is_listed T) (hr.mono (by decide)) rfl T.g_is_listed (fnr_kp T.d_is_listed) pass0 (pa_cons (pe_ix (kix_tup (K := K) rfl) (pv 3) pe_int (fun _ _ => rfl)) pa_nil))))))) (pss_one ps_never) pss_nil)))))
    (pss_one (ps_for PassesOwn.never rfl (pi_list (pe_callB cr_sortedS (by rfl) T.n_sorted bt_sorted (pa_cons (pe_callTy (L2.call_list_dK rfl) (by rfl) T.n_list bt_list (pa_cons (pv 1) pa_nil)) pa_nil))) (pg_name (i := 2) sc_check_tables.nd rfl (Or.inl rfl)) (pss_cons (ps_asg (pe_dget (hu_of hr) (pv 1) (pv 2) (fun _ _ => rfl)) (pg_tup rfl (pgs_cons (pg_name (i := 4) sc_check_tables.nd rfl (Or.inl rfl)) (pgs_cons (pg_name (i := 5) sc_check_tables.nd rfl (Or.inl rfl)) pgs_nil))))
    (pss_one (ps_for PassesOwn.never rfl (pi_enum (by rfl) T.n_enumerate (pa_cons (pv 5) pa_nil)) (pg_tup rfl (pgs_cons (pg_name (i := 6) sc_check_tables.nd rfl (Or.inl rfl)) (pgs_cons (pg_name (i := 7) sc_check_tables.nd rfl (Or.inl rfl)) pgs_nil))) (pss_one (ps_if (PW.pt (pw_or (pt_not (pt_val (pe_isi T.n_isinstance T.n_tuple bt_tuple (pv 7)))) (pw_or (pt_not (pt_val (pe_callR (r_are_things T) (hr.mono (by decide)) rfl T.g_are_things (fnr_kp T.d_are_things) pass0 (pa_cons (pv 7) (pa_cons (pv 4) (pa_cons (pv 0) pa_nil)))))) (pw_or1 (pt_cmpR (op_inD hu65) (pv 7) (pe_slice sl_list (pv 5) po_none (po_some (pv 6))) rfl))))) (pss_one ps_never) pss_nil))))))))), ?_⟩
  have lenL : decide ((4 : Int) < (((kvT L).length : Nat) : Int)) = false := decide_eq_false (by rw [List.length_map]; have := hO.few; omega)
  refine ⟨_, rfl, d, _, rfl, hT.dic, _, _, rfl, rfl, _, rfl, ?_⟩
  rw [lenL]
  refine iteF ?_
  refine ⟨d, _, hT.dic, trivial, fun od => ?_⟩
  refine ⟨_, rfl, d, od, _, rfl, upd_same, for_it walk_tbs (fun i σ H' => ∃ v2 v3, σ = [some (.int size), some (.ref d), v2, v3, none, none, none, none] ∧ Kp [d] H H' ∧ H' d = some (.frz od (.dK (kvT L)))) ⟨_, _, rfl, lockK _ _ _, upd_same⟩ (fun i σ H' _ ⟨_, _, _, _, z⟩ => z) ?_ ?_⟩
  · rintro i x σ H1 H' hi ⟨v2, v3, rfl, k, hz⟩ ⟨T1, e, he, rfl, hT1, rfl⟩
    have hmem : e ∈ L := List.mem_of_getElem? he
    have at0 := (hT.tb e hmem).kpd hT.dic k
    have ok := hO.tb e hmem
    have S1 : L2.Same H1 (upd H1 T1 (.tup [.str e.nm, .ref e.t])) := same_new hT1 _
    refine ⟨T1, _, rfl, SqT.of upd_same, rfl, _, _, rfl, _, _, rfl, rfl, ?_⟩
    refine ⟨_, rfl, e.nm, rfl, ok.nm, fun H2 S2 => ?_⟩
    have S12 := S1.trans S2
    have at2 := at0.same S12
    refine ⟨true, rfl, iteF ?_⟩
    refine ⟨_, rfl, _, _, _, _, true, rfl, .ty _, dpTy (d := .tuple [.int e.p, .list ((intsR e.rows).map rowD)]) (.tup at2.tup (.cons (.int _) (.cons (.lst at2.lst (dpRows at2.rows)) .nil))), kit_ty ki_tuple_tuple, true, rfl, iteF ?_⟩
    refine ⟨_, rfl, e.t, _, rfl, .inr at2.tup, rfl, _, rfl, iteF ?_⟩
    have num : decide ((1 : Int) ≤ e.p ∧ e.p ≤ 2) = true := decide_eq_true (by rcases ok.p with z | z <;> omega)
    refine ⟨_, rfl, e.t, _, _, _, rfl, rfl, at2.tup, atI_nat (j := 0) rfl, e.p, 1, 2, rfl, ?_⟩
    rw [num]
    refine ⟨true, rfl, iteF ?_⟩
    refine ⟨_, rfl, e.t, _, _, _, rfl, rfl, at2.tup, atI_nat (j := 1) rfl, .ref e.l, .list ((intsR e.rows).map rowD), rfl, .lst at2.lst (dpRows at2.rows), .inl rfl, fun H3 S3 => ?_⟩
    refine ⟨true, rfl, iteF ?_⟩
    have S := S12.trans S3
    exact ⟨_, _, rfl, k.trans (Kp.same S), S _ _ hz⟩
  · rintro σ H1 ⟨v2, v3, rfl, k, hz⟩
    refine ⟨hz, ?_⟩
    have S1 := unlock hT.dic k
    generalize upd H1 d (.dK (kvT L)) = H2 at S1
    clear k hz H1
    refine ⟨_, rfl, d, _, rfl, S1 _ _ hT.dic, fun p hp => ?_⟩
    have S2 := S1.trans (same_new hp (.lst ((kvT L).map fun kv => kV kv.1)))
    have nms : (kvT L).map (fun kv => kV kv.1) = (L.map (·.nm)).map V.str := by rw [List.map_map, List.map_map] <;> rfl
    rw [nms] at S2 ⊢
    refine ⟨p, L.map (·.nm), rfl, .inl (.inl upd_same), by rw [List.length_map]; have := hO.few; omega, fun ys p2 pm _ hp2 => ?_⟩
    have S3 := S2.trans (same_new hp2 (.lst (ys.map V.str)))
    have hys : SqL K (upd (upd H2 p (.lst ((L.map (·.nm)).map V.str))) p2 (.lst (ys.map V.str))) p2 (ys.map V.str) := .inl (.inl upd_same)
    generalize upd (upd H2 p (.lst ((L.map (·.nm)).map V.str))) p2 (.lst (ys.map V.str)) = H3 at S3 hys
    clear hp hp2 S2 S1
    refine ⟨p2, rfl, ⟨_, hys⟩, for_it (walk_list (xs := ys.map V.str)) (fun i σ H' => ∃ v2 v3 v4 v5 v6 v7, σ = [some (.int size), some (.ref d), v2, v3, v4, v5, v6, v7] ∧ L2.Same H3 H') ⟨_, _, _, _, _, _, rfl, L2.Same.refl _⟩ (fun i σ H' _ ⟨_, _, _, _, _, _, _, z⟩ => z.seq hys) ?_ ?_⟩
    · rintro i x σ H4' H4 hi ⟨v2, v3, v4, v5, v6, v7, rfl, S4⟩ ⟨rfl, hx⟩
      obtain ⟨e, hmem, rfl⟩ : ∃ e ∈ L, x = V.str e.nm := by
        have hx' := List.mem_of_getElem? hx
        obtain ⟨z, hz, e1⟩ := List.mem_map.mp hx'
        obtain ⟨e, he, e2⟩ := List.mem_map.mp (pm.mem_iff.mp hz)
        exact ⟨e, he, by rw [← e1, ← e2]⟩
      have S := S3.trans S4
      have at4 := (hT.tb e hmem).same S
      have ok := hO.tb e hmem
      refine ⟨_, rfl, _, rfl, d, .ref e.t, rfl, ?_, e.t, _, rfl, at4.tup, rfl, _, _, rfl, _, _, rfl, rfl, ?_⟩
      · have z := DGet.k (k := Sum.inr e.nm) (S _ _ hT.dic)
        rw [valV_kvT hO.nd hmem] at z
        exact z
      refine ⟨_, rfl, e.l, _, rfl, at4.lst, for_it (walk_enum (xs := adr e.rows)) (fun i σ H' => ∃ v2 v3 v6 v7, σ = [some (.int size), some (.ref d), v2, v3, some (.int e.p), some (.ref e.l), v6, v7] ∧ L2.Same H4 H') ⟨_, _, _, _, rfl, L2.Same.refl _⟩ (fun i σ H' _ ⟨_, _, _, _, _, z⟩ => z.seq at4.lst) ?_ ?_⟩
      · rintro j x σ H5 H' hj ⟨v2, v3, v6, v7, rfl, S5⟩ ⟨T1, x1, y1, rfl, hT1, rfl, e1, e2⟩
        cases e1
        have hj' : j < e.rows.length := by rw [List.length_map] at hj; exact hj
        obtain ⟨r, hr1, rfl⟩ : ∃ r, e.rows[j]? = some r ∧ y1 = .ref r.1 := by
          have e2' : (adr e.rows)[j]? = some y1 := e2
          rw [List.getElem?_map] at e2'
          obtain ⟨r, h1, h2⟩ := Option.map_eq_some_iff.mp e2'
          exact ⟨r, h1, h2.symm⟩
        have hrm : r ∈ e.rows := List.mem_of_getElem? hr1
        have S6 := S5.trans (same_new hT1 (.tup [V.int (j : Nat), .ref r.1]))
        have at6 := at4.same S6
        have hrow := at6.rows r hrm
        refine ⟨T1, _, rfl, SqT.of upd_same, rfl, _, _, rfl, _, _, rfl, rfl, ?_⟩
        refine ⟨_, rfl, _, _, _, _, true, rfl, .ty _, dpTy (dpRow hrow), kit_ty ki_tuple_tuple, true, rfl, iteF ?_⟩
        refine ⟨_, rfl, _, rfl, _, rfl, r.1, r.2, e.p, size, rfl, .inr hrow, (ok.row r hrm).1.symm, (ok.row r hrm).2, ?_, fun H7 S7 => ?_⟩
        · have := (ok.row r hrm).1
          rcases ok.p with z | z <;> omega
        refine ⟨true, rfl, iteF ?_⟩
        have S8 := S6.trans S7
        have at8 := at4.same S8
        refine ⟨_, rfl, _, rfl, _, rfl, (j : Int), rfl, e.l, _, rfl, at8.lst, fun p9 hp9 => ?_⟩
        have ecut : cutV (adr e.rows) Option.none (some ((j : Nat) : Int)) = adr (e.rows.take j) := by
          rw [cut_to (by rw [List.length_map]; omega), adr_take]
        rw [ecut]
        have S9 := same_new hp9 (.lst (adr (e.rows.take j)))
        have at9 := at8.same S9
        have rows9 : RowsAt K _ (e.rows.take j) := fun z hz => at9.rows z (List.mem_of_mem_take hz)
        refine ⟨rowD r.2, ((intsR (e.rows.take j)).map rowD), dpRow (at9.rows r hrm), .lst (.inl (.inl upd_same)) (dpRows rows9), shaped_row _, shaped_rows _, _, rfl, ?_⟩
        have no : decide (r.2 ∈ intsR (e.rows.take j)) = false := by
          refine decide_eq_false fun z => ?_
          rw [intsR_take] at z
          obtain ⟨i2, h2⟩ := List.mem_iff_getElem?.mp z
          have hi2 : i2 < j := by
            rcases Nat.lt_or_ge i2 j with c | c
            · exact c
            · rw [List.getElem?_eq_none (by rw [List.length_take, List.length_map]; omega)] at h2
              cases h2
          rw [List.getElem?_take_of_lt hi2] at h2
          have h3 : (intsR e.rows)[j]? = some r.2 := by rw [List.getElem?_map, hr1] <;> rfl
          have n1 : i2 < (intsR e.rows).length := (List.getElem?_eq_some_iff.mp h2).1
          have n2 : j < (intsR e.rows).length := (List.getElem?_eq_some_iff.mp h3).1
          have e1 : (intsR e.rows)[i2] = (intsR e.rows)[j] := Option.some.inj (by rw [← List.getElem?_eq_getElem n1, ← List.getElem?_eq_getElem n2, h2, h3])
          have := (List.getElem_inj ok.nd).mp e1
          omega
        rw [any_row, no]
        refine iteF ?_
        exact ⟨_, _, _, _, rfl, S8.trans S9⟩
      · rintro σ H5 ⟨v2, v3, v6, v7, rfl, S5⟩
        exact ⟨_, _, _, _, _, _, rfl, S4.trans S5⟩
    · rintro σ H4 ⟨v2, v3, v4, v5, v6, v7, rfl, S4⟩
      exact q _ (S3.trans S4)
end
end K85

set_option Elab.async false
set_option linter.all false
set_option maxRecDepth 100000
set_option maxHeartbeats 4000000
namespace K85
open PySem PySem.Spec PyProof.Rows L2
/-- a rearranged list of images, drawn back -/
theorem permBack {α β : Type} {f : α → β} : ∀ {A B : List β}, A.Perm B → ∀ L : List α, B = L.map f → ∃ M : List α, A = M.map f ∧ M.Perm L := by
  intro A B pm
  induction pm with
  | nil => intro L e; exact ⟨L, e, .refl _⟩
  | @cons x l1 l2 _ ih =>
    intro L e
    cases L with
    | nil => cases e
    | cons p L =>
      rw [List.map_cons] at e
      injection e with e0 e'
      obtain ⟨M, f1, f2⟩ := ih L e'
      exact ⟨p :: M, by rw [List.map_cons, e0, f1], f2.cons p⟩
  | @swap x y l =>
    intro L e
    cases L with
    | nil => cases e
    | cons p L =>
      cases L with
      | nil => cases e
      | cons p2 L =>
        rw [List.map_cons, List.map_cons] at e
        injection e with e0 e'
        injection e' with e2 e3
        exact ⟨p2 :: p :: L, by rw [List.map_cons, List.map_cons, e0, e2, e3], .swap ..⟩
  | @trans l1 l2 l3 _ _ i1 i2 =>
    intro L e
    obtain ⟨M1, f1, f2⟩ := i2 L e
    obtain ⟨M2, f3, f4⟩ := i1 M1 f1
    exact ⟨M2, f3, f4.trans f2⟩
/-- rows as data at their addresses -/
abbrev rowL (rs : List (Addr × List Int)) : List (Addr × PyData) := rs.map fun r => (r.1, rowD r.2)
theorem rowL_adr (rs : List (Addr × List Int)) : (rowL rs).map (fun q => V.ref q.1) = adr rs := by
  unfold rowL adr
  rw [List.map_map] <;> rfl
theorem rowL_ok {rs : List (Addr × List Int)} (h : ∀ r ∈ rs, r.2 ≠ []) : SortOk (rowL rs) where
  al := by
    intro d hd d' hd'
    obtain ⟨q, hq, rfl⟩ := List.mem_map.mp hd
    obtain ⟨q', hq', rfl⟩ := List.mem_map.mp hd'
    obtain ⟨r, _, rfl⟩ := List.mem_map.mp hq
    obtain ⟨r', _, rfl⟩ := List.mem_map.mp hq'
    exact PySem.W.alike_ints r.2 r'.2
  so := by
    refine .inl fun d hd => ?_
    obtain ⟨q, hq, rfl⟩ := List.mem_map.mp hd
    obtain ⟨r, hr, rfl⟩ := List.mem_map.mp hq
    have z := h r hr
    show ∃ x xs, rowD r.2 = .tuple (x :: xs)
    cases e : r.2 with
    | nil => exact absurd e z
    | cons n ns => exact ⟨_, _, rfl⟩
  dp := fun q hq => by
    obtain ⟨r, _, rfl⟩ := List.mem_map.mp hq
    show (rowD r.2).depth ≤ 8
    rw [dep_row]
    decide
theorem rowL_dp {K : PySem.W.Frag} {H : Hp} {rs : List (Addr × List Int)} (h : RowsAt K H rs) : ∀ p ∈ rowL rs, Dp K H (.ref p.1) p.2 := fun q hq => by
  obtain ⟨r, hr, rfl⟩ := List.mem_map.mp hq
  exact dpRow (h r hr)
/-! ### a store -/
def fsS (size : Int) (td : Addr) : List (Str × V) := [("size", .int size), ("_tables", .ref td)]
def fs0 (size : Int) : List (Str × V) := [("size", .int size)]
theorem fsS_0 (size : Int) : putF "size" (.int size) [] = fs0 size := rfl
theorem fsS_1 (size : Int) (td : Addr) : putF "_tables" (.ref td) (fs0 size) = fsS size td := by kernel_rfl
theorem fsS_size (size : Int) (td : Addr) : (fsS size td).lookup ("size" : Str) = some (V.int size) := by kernel_rfl
theorem fsS_tabs (size : Int) (td : Addr) : (fsS size td).lookup ("_tables" : Str) = some (V.ref td) := by kernel_rfl
theorem fsS_m1 (size : Int) (td : Addr) : (fsS size td).lookup ("tables" : Str) = Option.none := by kernel_rfl
theorem fsS_m2 (size : Int) (td : Addr) : (fsS size td).lookup ("_table" : Str) = Option.none := by kernel_rfl
theorem fsS_m3 (size : Int) (td : Addr) : (fsS size td).lookup ("places" : Str) = Option.none := by kernel_rfl
theorem fsS_m4 (size : Int) (td : Addr) : (fsS size td).lookup ("has_row" : Str) = Option.none := by kernel_rfl
/-- the same tables, each with its rows in some order -/
structure Same2 (L L' : List Tb) : Prop where
  nm : (L'.map (·.nm)).Perm (L.map (·.nm))
  tb : ∀ e' ∈ L', ∃ e ∈ L, e'.nm = e.nm ∧ e'.p = e.p ∧ e'.rows.Perm e.rows
section
variable {P : Program} {w : World} {K : PySem.W.Frag} {mg : Str → Option Value} {base : Heap}
def sp_Store_init (K : PySem.W.Frag) : Sp := fun vs H Q _ => ∃ (p dx : Addr) (size : Int) (d : Addr) (L : List Tb), vs = [.ref p, .int size, .ref d] ∧ H p = some (.ins (c_Store K) dx []) ∧ 1 ≤ size ∧ size ≤ 8 ∧ TabsAt K H d L ∧ TabsOk size L ∧
  ∀ H' td L', Kp [p] H H' → H' p = some (.ins (c_Store K) dx (fsS size td)) → TabsAt K H' td L' → Same2 L L' → Q .non H'
theorem r_Store_init (T : Txt w K mg) : FnR P w K mg base CX0 4 (a_Store_init K) (sp_Store_init K) := by
  refine fnr_of T.d_Store_init sc_Store_init (fun _ _ _ _ _ _ us hl => match us, hl with | [_, _, _], _ => rfl) (fun vs H Q E ⟨_, _, _, _, _, e, _⟩ => by rw [e] <;> rfl) fun cdv A outer s H vs Q E hr h => ?_
  obtain ⟨p, dx, size, d, L, rfl, hp, s1, s8, hT, hO, q⟩ := h
  obtain ⟨uM, hM⟩ := T.con_MOST
  refine ⟨_, (pss_cons (ps_if (pt_not (pt_val (pe_callR (r_is_number T) (hr.mono (by decide)) rfl T.g_is_number (fnr_kp T.d_is_number) pass0 (pa_cons (pv 1) (pa_cons pe_int (pa_cons (pe_con (pv 0) rfl) pa_nil)))))) (pss_one ps_never) pss_nil)
    (pss_cons (ps_expr (pe_callR (r_check_tables T) (hr.mono (by decide)) rfl T.g_check_tables (fnr_kp T.d_check_tables) pass0 (pa_cons (pv 1) (pa_cons (pv 2) pa_nil))))
    (pss_cons (ps_fld (pv 0) (pv 1) rfl)
    (pss_one (ps_fld (pv 0) (pe_dc (own := [("name", 3)]) (g := gName 3) (tt := tYes) rfl sc_Store_init.nd (pi_list (pe_callB cr_sortedS (by rfl) T.n_sorted bt_sorted (pa_cons (pe_callTy (L2.call_list_dK rfl) (by rfl) T.n_list bt_list (pa_cons (pv 2) pa_nil)) pa_nil))) (blkOk_by (own := [("name", 3)]) (N := n_Store_init) (sc := defScope s_Store_init) (by decide +kernel)) (fun _ _ _ _ _ => pg_name (i := 3) sc_Store_init.nd rfl (Or.inl rfl)) (fun _ _ _ _ _ => pts_nil) (fun _ _ _ _ _ => (pv 3)) (fun _ _ _ _ _ => (pe_tup (pa_cons (pe_ix (kix_tup (K := K) rfl) (pe_dget (hu_of hr) (pv 2) (pv 3) (fun _ _ => rfl)) pe_int (fun _ _ => rfl)) (pa_cons (pe_callB (ksortL (K := K) rfl hr.units) (by rfl) T.n_sorted bt_sorted (pa_cons (pe_ix (kix_tup (K := K) rfl) (pe_dget (hu_of hr) (pv 2) (pv 3) (fun _ _ => rfl)) pe_int (fun _ _ => rfl)) pa_nil)) pa_nil))))) rfl))))), ?_⟩
  have d1 : decide ((1 : Int) ≤ size ∧ size ≤ 8) = true := decide_eq_true ⟨s1, s8⟩
  refine ⟨_, rfl, _, rfl, p, _, dx, _, _, uM, rfl, hp, T.cl_Store, hM, rfl, size, 1, 8, rfl, ?_⟩
  rw [d1]
  refine ⟨true, rfl, iteF ?_⟩
  refine ⟨_, rfl, _, rfl, size, d, L, rfl, hT, hO, fun H1 S1 => ?_⟩
  have hp1 := S1 _ _ hp
  refine ⟨_, rfl, _, rfl, p, _, dx, _, rfl, hp1, T.cl_Store, T.no_Store_size, by decide, ?_⟩
  rw [fsS_0]
  have k1 : Kp [p] H (upd H1 p (.ins (c_Store K) dx (fs0 size))) := (Kp.same S1).upd (List.mem_singleton.mpr rfl) _
  have hp2 : (upd H1 p (.ins (c_Store K) dx (fs0 size))) p = some (.ins (c_Store K) dx (fs0 size)) := upd_same
  generalize upd H1 p (.ins (c_Store K) dx (fs0 size)) = H2 at k1 hp2
  have wp : Wrs H [p] := fun m hm => by rw [List.mem_singleton.mp hm]; exact Wr.ins hp
  have tbk : ∀ {H3 : Hp}, Kp [p] H H3 → TabsAt K H3 d L := fun {H3} k =>
    ⟨k _ _ (by simpa using ne_of hT.dic hp (by intro z; cases z)) hT.dic, fun e he => (hT.tb e he).kp k wp (by simpa using ne_of (hT.tb e he).lst0 hp (by intro z; cases z))⟩
  have T2 := tbk k1
  -- the names, sorted
  refine ⟨_, rfl, d, _, rfl, T2.dic, fun l1 hl1 => ?_⟩
  have nms : (kvT L).map (fun kv => kV kv.1) = (L.map (·.nm)).map V.str := by rw [List.map_map, List.map_map] <;> rfl
  rw [nms]
  refine ⟨l1, L.map (·.nm), rfl, .inl (.inl upd_same), by rw [List.length_map]; have := hO.few; omega, fun ys l2 pm _ hl2 => ?_⟩
  have S3 := same_newer (same_new hl1 (.lst ((L.map (·.nm)).map V.str))) ((same_new hl1 (.lst ((L.map (·.nm)).map V.str))).free hl2) (.lst (ys.map V.str))
  have hys : SqL K (upd (upd H2 l1 (.lst ((L.map (·.nm)).map V.str))) l2 (.lst (ys.map V.str))) l2 (ys.map V.str) := .inl (.inl upd_same)
  generalize upd (upd H2 l1 (.lst ((L.map (·.nm)).map V.str))) l2 (.lst (ys.map V.str)) = H3 at S3 hys
  have ylen : ys.length ≤ 4 := by rw [pm.length_eq, List.length_map]; exact hO.few
  refine ⟨l2, rfl, ⟨_, hys⟩, fun D hD => ?_⟩
  have k3 : Kp [p] H H3 := k1.trans (Kp.same S3)
  have hp3 := S3 _ _ hp2
  have ynd : ys.Nodup := pm.nodup_iff.mpr hO.nd
  -- what has been made of the first i names
  refine dcIt (walk_list (K := K) (a := l2) (xs := ys.map V.str)) (fun i H' => Kp [D] H3 H' ∧ ∃ L', H' D = some (.dK (kvT L')) ∧ L'.map (·.nm) = ys.take i ∧ (∀ e' ∈ L', TbAt K H' e' ∧ ∃ e ∈ L, e'.nm = e.nm ∧ e'.p = e.p ∧ e'.rows.Perm e.rows)) ⟨lockK _ _ _, [], upd_same, rfl, fun e' h => (by cases h)⟩ (fun i H' _ ⟨k, _⟩ => kpD_L hys hD k) ?_ ?_
  · rintro i x H4' H4 hi ⟨k4, L', hD4, nm4, tb4⟩ ⟨rfl, hx⟩
    obtain ⟨z, hz, rfl⟩ : ∃ z, ys[i]? = some z ∧ x = V.str z := by
      rw [List.getElem?_map] at hx
      obtain ⟨z, h1, h2⟩ := Option.map_eq_some_iff.mp hx
      exact ⟨z, h1, h2.symm⟩
    obtain ⟨e, he, rfl⟩ := List.mem_map.mp (pm.mem_iff.mp (List.mem_of_getElem? hz))
    -- the tables as they came
    have T3 := tbk k3
    have wD : ∀ {M : HO}, H4 D = some M → isW M → Wrs H4 [D] := fun h1 h2 m hm => by rw [List.mem_singleton.mp hm]; exact ⟨_, h1, h2⟩
    have kd4 : H4 d = some (.dK (kvT L)) := k4 _ _ (by simpa using ne_of_none T3.dic hD) T3.dic
    have at4 : TbAt K H4 e := by
      have x3 := T3.tb e he
      exact ⟨k4 _ _ (by simpa using ne_of_none x3.tup0 hD) x3.tup0, k4 _ _ (by simpa using ne_of_none x3.lst0 hD) x3.lst0, fun r hr => kpD_T (x3.rows r hr) hD k4⟩
    have hget : DGet H4 d (.str e.nm) (some (.ref e.t)) := by
      have z := DGet.k (k := Sum.inr e.nm) kd4
      rw [valV_kvT hO.nd he] at z
      exact z
    refine ⟨rfl, _, rfl, _, rfl, _, rfl, d, .ref e.t, rfl, hget, e.t, _, _, _, rfl, rfl, at4.tup, atI_nat (j := 0) rfl, _, rfl, _, rfl, d, .ref e.t, rfl, hget, e.t, _, _, _, rfl, rfl, at4.tup, atI_nat (j := 1) rfl, ?_⟩
    have ne : ∀ r ∈ e.rows, r.2 ≠ [] := fun r hr z => by
      have := ((hO.tb e he).row r hr).1
      rw [z] at this
      have hp := (hO.tb e he).p
      simp at this
      omega
    refine ⟨e.l, rowL e.rows, rfl, by rw [rowL_adr]; exact at4.lst, rowL_dp at4.rows, rowL_ok ne, fun q1 hq1 => ?_⟩
    obtain ⟨rs, ers, prs⟩ := permBack (f := fun r : Addr × List Int => (r.1, rowD r.2)) (List.mergeSort_perm (rowL e.rows) (PySem.W.dataLe false (·.2))) e.rows rfl
    have esrt : (srt (rowL e.rows)).map (fun q => V.ref q.1) = adr rs := by
      show ((rowL e.rows).mergeSort (PySem.W.dataLe false (·.2))).map (fun q => V.ref q.1) = adr rs
      rw [ers, List.map_map] <;> rfl
    rw [esrt]
    have S5 := same_new hq1 (.lst (adr rs))
    refine ⟨by show 2 ≤ sizeLine; decide, fun q2 hq2 => ?_⟩
    have S6 := S5.trans (same_new hq2 (.tup [.int e.p, .ref q1]))
    have h61 : (upd (upd H4 q1 (.lst (adr rs))) q2 (.tup [.int e.p, .ref q1])) q1 = some (.lst (adr rs)) := same_new hq2 _ _ _ upd_same
    have h62 : (upd (upd H4 q1 (.lst (adr rs))) q2 (.tup [.int e.p, .ref q1])) q2 = some (.tup [.int e.p, .ref q1]) := upd_same
    have hn1 : q1 ≠ D := fun z => by rw [z, hD4] at hq1; cases hq1
    have hn2 : q2 ≠ D := fun z => by
      have := S5 _ _ hD4
      rw [z, this] at hq2
      cases hq2
    generalize upd (upd H4 q1 (.lst (adr rs))) q2 (.tup [.int e.p, .ref q1]) = H6 at S6 h61 h62
    have hD6 := S6 _ _ hD4
    have hlen : L'.length ≤ 4 := by
      have := congrArg List.length nm4
      rw [List.length_map, List.length_take] at this
      omega
    refine ⟨kvT L', Sum.inr e.nm, rfl, hD6, by rw [List.length_map]; exact Nat.lt_of_le_of_lt hlen (by decide), ?_⟩
    have hnew : ∀ q ∈ kvT L', q.1 ≠ Sum.inr e.nm := fun q hq z => by
      obtain ⟨e', he', rfl⟩ := List.mem_map.mp hq
      have z' : e'.nm = e.nm := Sum.inr.inj z
      have m1 : e'.nm ∈ ys.take i := by rw [← nm4]; exact List.mem_map.mpr ⟨e', he', rfl⟩
      rw [z'] at m1
      obtain ⟨j, hj⟩ := List.mem_iff_getElem?.mp m1
      have hji : j < i := by
        rcases Nat.lt_or_ge j i with c | c
        · exact c
        · rw [List.getElem?_eq_none (by rw [List.length_take]; omega)] at hj
          cases hj
      rw [List.getElem?_take_of_lt hji] at hj
      have := nd_ix ynd hj hz
      omega
    rw [putK_new hnew]
    have k6 : Kp [D] H4 (upd H6 D (.dK (kvT L' ++ [(Sum.inr e.nm, V.ref q2)]))) := (Kp.same S6).upd (List.mem_singleton.mpr rfl) _
    refine ⟨k4.trans k6, L' ++ [⟨e.nm, e.p, q2, q1, rs⟩], by rw [upd_same]; rw [show kvT (L' ++ [⟨e.nm, e.p, q2, q1, rs⟩]) = kvT L' ++ [(Sum.inr e.nm, V.ref q2)] from List.map_append ..], ?_, fun e' h => ?_⟩
    · rw [List.map_append, nm4, take_next hz] <;> rfl
    · rcases List.mem_append.mp h with h | h
      · obtain ⟨x1, x2⟩ := tb4 e' h
        exact ⟨x1.kpd hD4 k6, x2⟩
      · rw [List.mem_singleton.mp h]
        refine ⟨⟨?_, ?_, fun r hr => ?_⟩, e, he, rfl, rfl, prs⟩
        · rw [upd_ne hn2]; exact h62
        · rw [upd_ne hn1]; exact h61
        · exact kp_T k6 (wD hD4 trivial) (at4.rows r (prs.mem_iff.mp hr))
  · rintro H4 ⟨k4, L', hD4, nm4, tb4⟩
    rw [List.length_map, List.take_length] at nm4
    have hp4 : H4 p = some (.ins (c_Store K) dx (fs0 size)) := k4 _ _ (by simpa using ne_of_none hp3 hD) hp3
    refine ⟨_, rfl, p, _, dx, _, rfl, hp4, T.cl_Store, T.no_Store_tables, by show 1 < 1000; decide, ?_⟩
    rw [fsS_1]
    have k5 : Kp [p] H4 (upd H4 p (.ins (c_Store K) dx (fsS size D))) := (Kp.refl _ _).upd (List.mem_singleton.mpr rfl) _
    have k6 : Kp [p] H (upd H4 p (.ins (c_Store K) dx (fsS size D))) := fun b o n e => by
      have nb : b ≠ p := by simpa using n
      rw [upd_ne nb]
      have e3 := k3 b o n e
      exact k4 b o (by simpa using ne_of_none e3 hD) e3
    have w4 : Wrs H4 [p] := fun m hm => by rw [List.mem_singleton.mp hm]; exact Wr.ins hp4
    refine q _ D L' k6 upd_same ⟨k5 _ _ (by simpa using ne_of hD4 hp4 (by intro z; cases z)) hD4, fun e' h => (tb4 e' h).1.kp k5 w4 (by simpa using ne_of (tb4 e' h).1.lst0 hp4 (by intro z; cases z))⟩ ⟨by rw [nm4]; exact pm, fun e' h => (tb4 e' h).2⟩
end
end K85

set_option Elab.async false
set_option linter.all false
set_option maxRecDepth 100000
set_option maxHeartbeats 4000000
namespace K85
open PySem PySem.Spec PyProof.Rows L2
/-- a store stands at S -/
structure StAt (K : PySem.W.Frag) (H : Hp) (S : Addr) (size : Int) (td : Addr) (L : List Tb) : Prop where
  ins : ∃ dx, H S = some (.ins (c_Store K) dx (fsS size td))
  tabs : TabsAt K H td L
theorem StAt.same {K : PySem.W.Frag} {H H1 : Hp} {S td : Addr} {size : Int} {L : List Tb} (x : StAt K H S size td L) (k : L2.Same H H1) : StAt K H1 S size td L := by
  obtain ⟨⟨dx, h⟩, t⟩ := x
  exact ⟨⟨dx, k _ _ h⟩, t.same k⟩
theorem StAt.kp {K : PySem.W.Frag} {H H1 : Hp} {S td : Addr} {size : Int} {L : List Tb} {M : List Addr} (x : StAt K H S size td L) (k : Kp M H H1) (w : Wrs H M) (n1 : S ∉ M) (n2 : td ∉ M) (n3 : ∀ e ∈ L, e.l ∉ M) : StAt K H1 S size td L := by
  obtain ⟨⟨dx, h⟩, t⟩ := x
  exact ⟨⟨dx, k _ _ n1 h⟩, k _ _ n2 t.dic, fun e he => (t.tb e he).kp k w (n3 e he)⟩
section
variable {P : Program} {w : World} {K : PySem.W.Frag} {mg : Str → Option Value} {base : Heap}
def sp_Store_tables (K : PySem.W.Frag) : Sp := fun vs H Q _ => ∃ (S td : Addr) (size : Int) (L : List Tb), vs = [.ref S] ∧ StAt K H S size td L ∧ ∀ p, H p = none → Q (.ref p) (upd H p (.lst ((L.map (·.nm)).map V.str)))
theorem r_Store_tables (T : Txt w K mg) : FnR P w K mg base CX0 1 (a_Store_tables K) (sp_Store_tables K) := by
  refine fnr_of T.d_Store_tables sc_Store_tables (fun _ _ _ _ _ _ us hl => match us, hl with | [_], _ => rfl) (fun vs H Q E ⟨_, _, _, _, e, _⟩ => by rw [e] <;> rfl) fun cdv A outer s H vs Q E hr h => ?_
  obtain ⟨S, td, size, L, rfl, ⟨⟨dx, hS⟩, hT⟩, q⟩ := h
  refine ⟨_, (pss_one (ps_ret (pe_callTy (L2.call_list_dK rfl) (by rfl) T.n_list bt_list (pa_cons (kfld (K := K) rfl (pv 0)) pa_nil)))), ?_⟩
  refine ⟨_, rfl, S, _, dx, _, _, rfl, hS, T.cl_Store, T.no_Store_tables, fsS_tabs _ _, td, _, rfl, hT.dic, fun p hp => ?_⟩
  have nms : (kvT L).map (fun kv => kV kv.1) = (L.map (·.nm)).map V.str := by rw [List.map_map, List.map_map] <;> rfl
  rw [nms]
  exact q p hp
def sp_Store_table (K : PySem.W.Frag) : Sp := fun vs H Q _ => ∃ (S td : Addr) (size : Int) (L : List Tb) (e : Tb), vs = [.ref S, .str e.nm] ∧ StAt K H S size td L ∧ (L.map (·.nm)).Nodup ∧ e ∈ L ∧ Q (.ref e.t) H
theorem r_Store_table (T : Txt w K mg) : FnR P w K mg base CX0 1 (a_Store_table K) (sp_Store_table K) := by
  refine fnr_of T.d_Store_table sc_Store_table (fun _ _ _ _ _ _ us hl => match us, hl with | [_, _], _ => rfl) (fun vs H Q E ⟨_, _, _, _, _, e, _⟩ => by rw [e] <;> rfl) fun cdv A outer s H vs Q E hr h => ?_
  obtain ⟨S, td, size, L, e, rfl, ⟨⟨dx, hS⟩, hT⟩, nd, he, q⟩ := h
  have hget : DGet H td (.str e.nm) (some (.ref e.t)) := by
    have z := DGet.k (k := Sum.inr e.nm) hT.dic
    rw [valV_kvT nd he] at z
    exact z
  refine ⟨_, (pss_cons (ps_if (PW.pt (pw_or (pt_not (pt_val (pe_isi T.n_isinstance T.n_str bt_str (pv 1)))) (pw_or1 (pt_cmp (pc_dnotin (hu_of hr) (pv 1) (kfld (K := K) rfl (pv 0))))))) (pss_one ps_never) pss_nil)
    (pss_one (ps_ret (pe_dget (hu_of hr) (kfld (K := K) rfl (pv 0)) (pv 1) (fun _ _ => rfl))))), ?_⟩
  refine ⟨_, rfl, _, _, _, _, true, rfl, .ty _, dpTy (.str e.nm), kit_ty ki_str_str, true, rfl, iteF ?_⟩
  refine ⟨_, rfl, _, rfl, S, _, dx, _, _, rfl, hS, T.cl_Store, T.no_Store_tables, fsS_tabs _ _, td, _, rfl, hget, _, rfl, iteF ?_⟩
  exact ⟨_, rfl, S, _, dx, _, _, rfl, hS, T.cl_Store, T.no_Store_tables, fsS_tabs _ _, _, rfl, td, _, rfl, hget, q⟩
def sp_Store_places (K : PySem.W.Frag) : Sp := fun vs H Q _ => ∃ (S td : Addr) (size : Int) (L : List Tb) (e : Tb), vs = [.ref S, .str e.nm] ∧ StAt K H S size td L ∧ (L.map (·.nm)).Nodup ∧ e ∈ L ∧ Q (.int e.p) H
theorem r_Store_places (T : Txt w K mg) : FnR P w K mg base CX0 2 (a_Store_places K) (sp_Store_places K) := by
  refine fnr_of T.d_Store_places sc_Store_places (fun _ _ _ _ _ _ us hl => match us, hl with | [_, _], _ => rfl) (fun vs H Q E ⟨_, _, _, _, _, e, _⟩ => by rw [e] <;> rfl) fun cdv A outer s H vs Q E hr h => ?_
  obtain ⟨S, td, size, L, e, rfl, hSt, nd, he, q⟩ := h
  obtain ⟨dx, hS⟩ := hSt.ins
  refine ⟨_, (pss_one (ps_ret (pe_ix (kix_tup (K := K) rfl) (pe_methR (pv 0) T.cl_Store T.m_Store__table (r_Store_table T) (hr.mono (by decide)) pass0 (pa_cons (pv 1) pa_nil)) pe_int (fun _ _ => rfl)))), ?_⟩
  exact ⟨_, rfl, S, dx, _, rfl, hS, fsS_m2 _ _, _, rfl, S, td, size, L, e, rfl, hSt, nd, he, e.t, _, _, _, rfl, rfl, (hSt.tabs.tb e he).tup, atI_nat (j := 0) rfl, q⟩
def sp_Store_has_row (K : PySem.W.Frag) : Sp := fun vs H Q _ => ∃ (S td : Addr) (size : Int) (L : List Tb) (e : Tb) (t : Addr) (r : List Int), vs = [.ref S, .str e.nm, .ref t] ∧ StAt K H S size td L ∧ (L.map (·.nm)).Nodup ∧ e ∈ L ∧ SqT K H t (r.map V.int) ∧ Q (.bl (decide (r ∈ intsR e.rows))) H
theorem r_Store_has_row (T : Txt w K mg) : FnR P w K mg base CX0 1 (a_Store_has_row K) (sp_Store_has_row K) := by
  refine fnr_of T.d_Store_has_row sc_Store_has_row (fun _ _ _ _ _ _ us hl => match us, hl with | [_, _, _], _ => rfl) (fun vs H Q E ⟨_, _, _, _, _, _, _, e, _⟩ => by rw [e] <;> rfl) fun cdv A outer s H vs Q E hr h => ?_
  obtain ⟨S, td, size, L, e, t, r, rfl, ⟨⟨dx, hS⟩, hT⟩, nd, he, ht, q⟩ := h
  have hget : DGet H td (.str e.nm) (some (.ref e.t)) := by
    have z := DGet.k (k := Sum.inr e.nm) hT.dic
    rw [valV_kvT nd he] at z
    exact z
  have at0 := hT.tb e he
  refine ⟨_, (pss_one (ps_ret (pe_cmpR (kinD (K := K) rfl (Room.u65 hr)) (pv 2) (pe_ix (kix_tup (K := K) rfl) (pe_dget (hu_of hr) (kfld (K := K) rfl (pv 0)) (pv 1) (fun _ _ => rfl)) pe_int (fun _ _ => rfl)) rfl))), ?_⟩
  refine ⟨_, rfl, _, rfl, S, _, dx, _, _, rfl, hS, T.cl_Store, T.no_Store_tables, fsS_tabs _ _, _, rfl, td, _, rfl, hget, e.t, _, _, _, rfl, rfl, at0.tup, atI_nat (j := 1) rfl, ?_⟩
  refine ⟨rowD r, (intsR e.rows).map rowD, dpRow ht, .lst at0.lst (dpRows at0.rows), shaped_row _, shaped_rows _, ?_⟩
  rw [any_row]
  exact q
end
end K85

set_option Elab.async false
set_option linter.all false
set_option maxRecDepth 100000
set_option maxHeartbeats 4000000
namespace K85
open PySem PySem.Spec PyProof.Rows L2
theorem tyT {K : PySem.W.Frag} {H : Hp} {t : Addr} {xs : List V} (h : SqT K H t xs) : TyX K H (.ref t) (.type "tuple") := by
  rcases h with (hs | ⟨o, hs⟩) | ⟨o, its, n, h1, h2, _⟩
  · exact .base (.tup hs)
  · exact .fTuple hs
  · exact .kTuple h1 h2
theorem tyL {K : PySem.W.Frag} {H : Hp} {t : Addr} {xs : List V} (h : SqL K H t xs) : TyX K H (.ref t) (.type "list") := by
  rcases h with (hs | ⟨o, hs⟩) | ⟨o, its, n, h1, h2, _⟩
  · exact .base (.lst hs)
  · exact .base (.frz hs)
  · exact .kList h1 h2
theorem sign_eq {c d : Nat} : ((⟨#[c]⟩ : Str) = ⟨#[d]⟩) ↔ c = d := by
  constructor
  · intro h
    have h1 : (#[c] : Array Nat) = #[d] := congrArg Str.cps h
    have h2 := congrArg Array.toList h1
    exact (List.cons.inj h2).1
  · intro h
    rw [h]
theorem str_t : ("t" : Str) = ⟨#[116]⟩ := by decide +kernel
theorem str_c : ("c" : Str) = ⟨#[99]⟩ := by decide +kernel
theorem is_t (c : Nat) : decide (V.str ⟨#[c]⟩ = V.str "t") = decide (c = 116) := by
  rw [str_t]
  by_cases h : c = 116
  · rw [h]; simp
  · have : ¬ V.str ⟨#[c]⟩ = V.str ⟨#[116]⟩ := fun z => h (sign_eq.mp (V.str.inj z))
    simp [this, h]
theorem is_c (c : Nat) : decide (V.str ⟨#[c]⟩ = V.str "c") = decide (c = 99) := by
  rw [str_c]
  by_cases h : c = 99
  · rw [h]; simp
  · have : ¬ V.str ⟨#[c]⟩ = V.str ⟨#[99]⟩ := fun z => h (sign_eq.mp (V.str.inj z))
    simp [this, h]
/-- an item fits its kind -/
def ItemOk (cells rows : Int) (c : Nat) (y : V) : Prop := (c = 116 ∧ ∃ nm, y = .str nm ∧ NameOk nm) ∨ (c ≠ 116 ∧ ∃ n : Int, y = .int n ∧ 0 ≤ n ∧ n ≤ (if c = 99 then cells else rows) - 1)
section
variable {P : Program} {w : World} {K : PySem.W.Frag} {mg : Str → Option Value} {base : Heap}
def sp_is_step (K : PySem.W.Frag) : Sp := fun vs H Q _ => ∃ (t : Addr) (cells rows : Int) (wd z : Str) (items : List V), vs = [.ref t, .int cells, .int rows] ∧ SqT K H t (.str wd :: items) ∧ (∃ u, PySem.W.nsIn K (He.ga K "FORMS") wd = some (some u) ∧ RelV (.str z) u) ∧
  z.cps.size = items.length ∧ items.length ≤ 4 ∧ (∀ (i c : Nat) (y : V), z.cps[i]? = some c → items[i]? = some y → ItemOk cells rows c y) ∧ ∀ H', L2.Same H H' → Q (.bl true) H'
theorem r_is_step (T : Txt w K mg) : FnR P w K mg base CX0 2 (a_is_step K) (sp_is_step K) := by
  refine fnr_of T.d_is_step sc_is_step (fun _ _ _ _ _ _ us hl => match us, hl with | [_, _, _], _ => rfl) (fun vs H Q E ⟨_, _, _, _, _, _, e, _⟩ => by rw [e] <;> rfl) fun cdv A outer s H vs Q E hr h => ?_
  obtain ⟨t, cells, rows, wd, z, items, rfl, ht, ⟨uF, hF, rF⟩, hz, h4, hit, q⟩ := h
  refine ⟨_, (pss_cons (ps_if (PW.pt (pw_or (pt_not (pt_val (pe_isi T.n_isinstance T.n_tuple bt_tuple (pv 0)))) (pw_or (pt_cmpR op_eq (pe_callB (klen (K := K) rfl) (by rfl) T.n_len bt_len (pa_cons (pv 0) pa_nil)) pe_int (nomark _)) (pw_or1 (pt_not (pt_val (pe_isi T.n_isinstance T.n_str bt_str (pe_ix (kix_tup (K := K) rfl) (pv 0) pe_int (fun _ _ => rfl))))))))) (pss_one (ps_ret pe_bl)) pss_nil)
    (pss_cons (ps_if (PW.pt (pw_or (pt_cmpR (knotinKd (K := K) rfl rfl T.kd_FORMS) (pe_ix (kix_tup (K := K) rfl) (pv 0) pe_int (fun _ _ => rfl)) (pe_glob (v := .ref _) rfl T.g_FORMS rfl) rfl) (pw_or1 (pt_cmpR op_ne (pe_callB (klen (K := K) rfl) (by rfl) T.n_len bt_len (pa_cons (pv 0) pa_nil)) (pe_op op_add pe_int (pe_callB call_len_str (by rfl) T.n_len bt_len (pa_cons (pe_kd (K := K) rfl rfl T.kd_FORMS (pe_glob (v := .ref _) rfl T.g_FORMS rfl) (pe_ix (kix_tup (K := K) rfl) (pv 0) pe_int (fun _ _ => rfl))) pa_nil))) (nomark _))))) (pss_one (ps_ret pe_bl)) pss_nil)
    (pss_cons (ps_for PassesOwn.never rfl (pi_zipX (by rfl) T.n_zip (pa_cons (pe_kd (K := K) rfl rfl T.kd_FORMS (pe_glob (v := .ref _) rfl T.g_FORMS rfl) (pe_ix (kix_tup (K := K) rfl) (pv 0) pe_int (fun _ _ => rfl))) (pa_cons (pe_slice (ksl_tup (K := K) rfl) (pv 0) (po_some pe_int) po_none) pa_nil))) (pg_tup rfl (pgs_cons (pg_name (i := 3) sc_is_step.nd rfl (Or.inl rfl)) (pgs_cons (pg_name (i := 4) sc_is_step.nd rfl (Or.inl rfl)) pgs_nil))) (pss_cons (ps_if (PW.pt (pw_and (pt_cmpR op_eq (pv 3) pe_str (nomark _)) (pw_and1 (pt_not (pt_val (pe_callR (r_is_name T) (hr.mono (by decide)) rfl T.g_is_name (fnr_kp T.d_is_name) pass0 (pa_cons (pv 4) pa_nil))))))) (pss_one (ps_ret pe_bl)) pss_nil)
    (pss_one (ps_if (PW.pt (pw_and (pt_cmpR op_ne (pv 3) pe_str (nomark _)) (pw_and1 (pt_not (pt_val (pe_callR (r_is_number T) (hr.mono (by decide)) rfl T.g_is_number (fnr_kp T.d_is_number) pass0 (pa_cons (pv 4) (pa_cons pe_int (pa_cons (pe_op op_sub (pe_ifExp (pt_cmpR op_eq (pv 3) pe_str (nomark _)) (pv 1) (pv 2)) pe_int) pa_nil))))))))) (pss_one (ps_ret pe_bl)) pss_nil))))
    (pss_one (ps_ret pe_bl))))), ?_⟩
  have zl : decide (V.int (((V.str wd :: items).length : Nat) : Int) = V.int 0) = false := decide_eq_false (by
    intro z
    have := V.int.inj z
    rw [List.length_cons] at this
    omega)
  have ul : (!decide (V.int (((V.str wd :: items).length : Nat) : Int) = V.int (1 + ((z.length : Nat) : Int)))) = false := by
    have : decide (V.int (((V.str wd :: items).length : Nat) : Int) = V.int (1 + ((z.length : Nat) : Int))) = true := decide_eq_true (by
      rw [List.length_cons]
      have e : z.length = items.length := hz
      rw [e]
      congr 1
      omega)
    rw [this] <;> rfl
  have zs : z.length ≤ sizeLine := by show z.cps.size ≤ sizeLine; rw [sizeLine_eq]; omega
  refine ⟨_, rfl, _, _, _, _, true, rfl, .ty _, tyT ht, kit_ty ki_tuple_tuple, true, rfl, iteF ?_⟩
  refine ⟨_, rfl, t, _, rfl, .inr ht, rfl, _, rfl, ?_⟩
  rw [zl]
  refine iteF ?_
  refine ⟨_, rfl, t, _, _, _, rfl, rfl, ht, atI_nat (j := 0) rfl, _, _, _, _, true, rfl, .ty _, dpTy (.str wd), kit_ty ki_str_str, true, rfl, iteF ?_⟩
  refine ⟨_, rfl, t, _, _, _, rfl, rfl, ht, atI_nat (j := 0) rfl, wd, _, rfl, rfl, hF, _, rfl, iteF ?_⟩
  refine ⟨_, rfl, t, _, rfl, .inr ht, _, rfl, t, _, _, _, rfl, rfl, ht, atI_nat (j := 0) rfl, wd, _, .str z, rfl, rfl, hF, rF, z, rfl, zs, _, _, rfl, rfl, rfl, _, rfl, ?_⟩
  rw [ul]
  refine iteF ?_
  have hcut : cutV (V.str wd :: items) (some 1) Option.none = items := by
    unfold cutV
    rw [HT.sIx_none, show (1 : Int) = ((1 : Nat) : Int) from rfl, HT.sIx_nat, List.length_cons, Nat.min_eq_left (by omega), List.drop_one, List.tail_cons, Nat.add_sub_cancel, List.take_length]
  refine ⟨_, rfl, t, _, _, _, rfl, rfl, ht, atI_nat (j := 0) rfl, wd, _, .str z, rfl, rfl, hF, rF, _, rfl, 1, rfl, t, _, rfl, ht, ?_, fun p hp => ?_⟩
  · rintro ⟨z1, _⟩
    rw [show (1 : Int) = ((1 : Nat) : Int) from rfl, HT.sIx_nat, List.length_cons, Nat.min_eq_left (by omega)] at z1
    cases z1
  rw [hcut]
  have S1 := same_new hp (.tup items)
  have hp1 : SqT K (upd H p (.tup items)) p items := SqT.of upd_same
  generalize upd H p (.tup items) = H1 at S1 hp1
  refine ⟨z, p, items, rfl, hp1, for_zipX hz (fun i σ H' => ∃ v3 v4, σ = [some (.ref t), some (.int cells), some (.int rows), v3, v4] ∧ L2.Same H1 H') ⟨_, _, rfl, L2.Same.refl _⟩ (fun i σ H' ⟨_, _, _, k⟩ => same_T k hp1) ?_ ?_⟩
  · rintro i c y T1 σ H2 hc hy ⟨v3, v4, rfl, S2⟩ hT1
    have S3 := S2.trans (same_new hT1 (.tup [.str ⟨#[c]⟩, y]))
    refine ⟨T1, _, rfl, SqT.of upd_same, rfl, _, _, rfl, _, _, rfl, rfl, ?_⟩
    generalize upd H2 T1 (.tup [.str ⟨#[c]⟩, y]) = H3 at S3
    have ic : ∀ {c d : Nat}, c = d → decide (c = d) = true := fun h => decide_eq_true h
    rcases hit i c y hc hy with ⟨rfl, nm, rfl, hnm⟩ | ⟨hne, n, rfl, n0, n1⟩
    · refine ⟨_, rfl, rfl, _, rfl, ?_⟩
      rw [is_t]
      refine iteT ⟨_, rfl, nm, rfl, hnm, fun H4 S4 => ⟨true, rfl, iteF ?_⟩⟩
      refine ⟨_, rfl, rfl, _, rfl, ?_⟩
      rw [is_t]
      refine iteF ?_
      exact ⟨_, _, rfl, S3.trans S4⟩
    · refine ⟨_, rfl, rfl, _, rfl, ?_⟩
      rw [is_t, decide_eq_false hne]
      refine iteF ?_
      refine ⟨_, rfl, rfl, _, rfl, ?_⟩
      rw [is_t, decide_eq_false hne]
      refine iteT ⟨_, rfl, ?_⟩
      refine ⟨_, rfl, rfl, _, rfl, ?_⟩
      rw [is_c]
      by_cases h9 : c = 99
      · rw [decide_eq_true h9]
        rw [if_pos h9] at n1
        refine iteT ⟨_, rfl, _, _, rfl, rfl, n, 0, cells - 1, rfl, ?_⟩
        rw [decide_eq_true ⟨n0, n1⟩]
        exact ⟨true, rfl, iteF ⟨_, _, rfl, S3⟩⟩
      · rw [decide_eq_false h9]
        rw [if_neg h9] at n1
        refine iteF ⟨_, rfl, _, _, rfl, rfl, n, 0, rows - 1, rfl, ?_⟩
        rw [decide_eq_true ⟨n0, n1⟩]
        exact ⟨true, rfl, iteF ⟨_, _, rfl, S3⟩⟩
  · rintro σ H2 ⟨v3, v4, rfl, S2⟩
    exact q _ (S1.trans S2)
end
end K85

set_option Elab.async false
set_option linter.all false
set_option maxRecDepth 100000
set_option maxHeartbeats 4000000
namespace K85
open PySem PySem.Spec PyProof.Rows L2
/-- the reader's five rows -/
def stepV (w0 w1 : Str) : List (List V) := [[.str "read", .int 0], [.str "read", .int 1], [.str "link", .str w0, .int 0, .int 1, .int 3], [.str "has", .str w1, .int 1, .int 4], [.str "jump", .int 0]]
def stepZ : List Str := ["c", "c", "tccj", "tcj", "j"]
structure StepsAt (K : PySem.W.Frag) (H : Hp) (w0 w1 : Str) (t0 t1 t2 t3 t4 : Addr) : Prop where
  h0 : SqT K H t0 [.str "read", .int 0]
  h1 : SqT K H t1 [.str "read", .int 1]
  h2 : SqT K H t2 [.str "link", .str w0, .int 0, .int 1, .int 3]
  h3 : SqT K H t3 [.str "has", .str w1, .int 1, .int 4]
  h4 : SqT K H t4 [.str "jump", .int 0]
theorem StepsAt.same {K : PySem.W.Frag} {H H1 : Hp} {w0 w1 : Str} {t0 t1 t2 t3 t4 : Addr} (x : StepsAt K H w0 w1 t0 t1 t2 t3 t4) (k : L2.Same H H1) : StepsAt K H1 w0 w1 t0 t1 t2 t3 t4 :=
  ⟨same_T k x.h0, same_T k x.h1, same_T k x.h2, same_T k x.h3, same_T k x.h4⟩
theorem StepsAt.kp {K : PySem.W.Frag} {H H1 : Hp} {M : List Addr} {w0 w1 : Str} {t0 t1 t2 t3 t4 : Addr} (x : StepsAt K H w0 w1 t0 t1 t2 t3 t4) (k : Kp M H H1) (w : Wrs H M) : StepsAt K H1 w0 w1 t0 t1 t2 t3 t4 :=
  ⟨kp_T k w x.h0, kp_T k w x.h1, kp_T k w x.h2, kp_T k w x.h3, kp_T k w x.h4⟩
theorem z_c : ("c" : Str).cps = #[99] := by decide +kernel
theorem z_tccj : ("tccj" : Str).cps = #[116, 99, 99, 106] := by decide +kernel
theorem z_tcj : ("tcj" : Str).cps = #[116, 99, 106] := by decide +kernel
theorem z_j : ("j" : Str).cps = #[106] := by decide +kernel
theorem itI {c : Nat} {n m k : Int} (hc : c ≠ 116) (h0 : 0 ≤ n) (h1 : c = 99 → n ≤ m - 1) (h2 : c ≠ 99 → n ≤ k - 1) : ItemOk m k c (.int n) := .inr ⟨hc, n, rfl, h0, by
  by_cases h : c = 99
  · rw [if_pos h]; exact h1 h
  · rw [if_neg h]; exact h2 h⟩
theorem itN {m k : Int} {x : Str} (h : NameOk x) : ItemOk m k 116 (.str x) := .inl ⟨rfl, x, rfl, h⟩
/-- items against kinds, one by one -/
theorem items_ok {m k : Int} {cs : List Nat} {ys : List V} (h : PySem.W.EachIs (ItemOk m k) cs ys) {z : Str} (hz : z.cps = cs.toArray) : z.cps.size = ys.length ∧ ∀ (i c : Nat) (y : V), z.cps[i]? = some c → ys[i]? = some y → ItemOk m k c y := by
  rw [hz]
  refine ⟨by rw [List.size_toArray]; exact h.length, fun i c y h1 h2 => ?_⟩
  have h1' : cs[i]? = some c := by simpa using h1
  clear hz h1
  induction h generalizing i with
  | nil => simp at h1'
  | @cons a b l1 l2 hab _ ih =>
    cases i with
    | zero =>
      simp at h1' h2
      rw [← h1', ← h2]
      exact hab
    | succ i => exact ih i (by simpa using h2) (by simpa using h1')
section
variable {P : Program} {w : World} {K : PySem.W.Frag} {mg : Str → Option Value} {base : Heap}
def sp_check_rows (K : PySem.W.Frag) : Sp := fun vs H Q _ => ∃ (rl : Addr) (w0 w1 : Str) (t0 t1 t2 t3 t4 : Addr), vs = [.int 2, .ref rl] ∧ SqL K H rl [.ref t0, .ref t1, .ref t2, .ref t3, .ref t4] ∧ StepsAt K H w0 w1 t0 t1 t2 t3 t4 ∧ NameOk w0 ∧ NameOk w1 ∧ w0 ≠ w1 ∧ ∀ H', L2.Same H H' → Q .non H'
theorem r_check_rows (T : Txt w K mg) : FnR P w K mg base CX0 3 (a_check_rows K) (sp_check_rows K) := by
  refine fnr_of T.d_check_rows sc_check_rows (fun _ _ _ _ _ _ us hl => match us, hl with | [_, _], _ => rfl) (fun vs H Q E ⟨_, _, _, _, _, _, _, _, e, _⟩ => by rw [e] <;> rfl) fun cdv A outer s H vs Q E hr h => ?_
  obtain ⟨rl, w0, w1, t0, t1, t2, t3, t4, rfl, hrl, hst, n0, n1, hne, q⟩ := h
  refine ⟨_, (pss_cons (ps_set (i := 2) sc_check_rows.nd rfl (Or.inl rfl) pe_dnewK)
    (pss_cons (ps_for PassesOwn.never rfl (pi_enum (by rfl) T.n_enumerate (pa_cons (pv 1) pa_nil)) (pg_tup rfl (pgs_cons (pg_name (i := 3) sc_check_rows.nd rfl (Or.inl rfl)) (pgs_cons (pg_name (i := 4) sc_check_rows.nd rfl (Or.inl rfl)) pgs_nil))) (pss_cons (ps_if (pt_not (pt_val (pe_callR (r_is_step T) (hr.mono (by decide)) rfl T.g_is_step (fnr_kp T.d_is_step) pass0 (pa_cons (pv 4) (pa_cons (pv 0) (pa_cons (pe_callB (klen (K := K) rfl) (by rfl) T.n_len bt_len (pa_cons (pv 1) pa_nil)) pa_nil)))))) (pss_one ps_never) pss_nil)
    (pss_one (ps_if (pt_cmpR (kinKd (K := K) rfl rfl T.kd_PLACES) (pe_ix (kix_tup (K := K) rfl) (pv 4) pe_int (fun _ _ => rfl)) (pe_glob (v := .ref _) rfl T.g_PLACES rfl) rfl) (pss_cons (ps_if (pt_cmpR op_ne (pe_dget2 (hu_of hr) (pv 2) (pe_ix (kix_tup (K := K) rfl) (pv 4) pe_int (fun _ _ => rfl)) (pe_kd (K := K) rfl rfl T.kd_PLACES (pe_glob (v := .ref _) rfl T.g_PLACES rfl) (pe_ix (kix_tup (K := K) rfl) (pv 4) pe_int (fun _ _ => rfl))) ⟨rfl, rfl, rfl, rfl⟩) (pe_kd (K := K) rfl rfl T.kd_PLACES (pe_glob (v := .ref _) rfl T.g_PLACES rfl) (pe_ix (kix_tup (K := K) rfl) (pv 4) pe_int (fun _ _ => rfl))) (nomark _)) (pss_one ps_never) pss_nil)
    (pss_one (ps_dput (hu_of hr) (pv 2) (pe_ix (kix_tup (K := K) rfl) (pv 4) pe_int (fun _ _ => rfl)) (pe_kd (K := K) rfl rfl T.kd_PLACES (pe_glob (v := .ref _) rfl T.g_PLACES rfl) (pe_ix (kix_tup (K := K) rfl) (pv 4) pe_int (fun _ _ => rfl))) rfl))) pss_nil))))
    (pss_cons (ps_if (pt_cmpR op_eq (pe_callB (klen (K := K) rfl) (by rfl) T.n_len bt_len (pa_cons (pv 1) pa_nil)) pe_int (nomark _)) (pss_one ps_never) pss_nil)
    (pss_one (ps_if (pt_cmpR op_notIn_seq (pe_ix (kix_tup (K := K) rfl) (pe_ix (kix_list (K := K) rfl) (pv 1) (pe_un un_neg pe_int) (fun _ _ => rfl)) pe_int (fun _ _ => rfl)) (pe_glob (v := .ref _) rfl T.g_LAST rfl) rfl) (pss_one ps_never) pss_nil))))), ?_⟩
  have okc : ItemOk 2 5 99 (.int 0) := itI (by decide) (by decide) (fun _ => by decide) (fun h => absurd rfl h)
  have okc1 : ItemOk 2 5 99 (.int 1) := itI (by decide) (by decide) (fun _ => by decide) (fun h => absurd rfl h)
  have okj : ∀ n : Int, 0 ≤ n → n ≤ 4 → ItemOk 2 5 106 (.int n) := fun n a b => itI (by decide) a (fun h => absurd h (by decide)) (fun _ => b)
  -- each row is a step
  have step : ∀ {H1 : Hp}, StepsAt K H1 w0 w1 t0 t1 t2 t3 t4 → ∀ (i : Nat) (t : Addr), ([t0, t1, t2, t3, t4] : List Addr)[i]? = some t → ∃ (wd z : Str) (items : List V), SqT K H1 t (.str wd :: items) ∧ (∃ u, PySem.W.nsIn K (He.ga K "FORMS") wd = some (some u) ∧ RelV (.str z) u) ∧ z.cps.size = items.length ∧ items.length ≤ 4 ∧
      ∀ (i c : Nat) (y : V), z.cps[i]? = some c → items[i]? = some y → ItemOk 2 5 c y := fun {H1} x i t ht => by
    have five : i = 0 ∨ i = 1 ∨ i = 2 ∨ i = 3 ∨ i = 4 := by
      have := (List.getElem?_eq_some_iff.mp ht).1
      simp at this
      omega
    rcases five with rfl | rfl | rfl | rfl | rfl
    · cases ht
      obtain ⟨a, b⟩ := items_ok (m := 2) (k := 5) (.cons okc .nil) z_c
      exact ⟨_, _, _, x.h0, T.fo_read, a, by simp, b⟩
    · cases ht
      obtain ⟨a, b⟩ := items_ok (m := 2) (k := 5) (.cons okc1 .nil) z_c
      exact ⟨_, _, _, x.h1, T.fo_read, a, by simp, b⟩
    · cases ht
      obtain ⟨a, b⟩ := items_ok (m := 2) (k := 5) (.cons (itN n0) (.cons okc (.cons okc1 (.cons (okj 3 (by decide) (by decide)) .nil)))) z_tccj
      exact ⟨_, _, _, x.h2, T.fo_link, a, by simp, b⟩
    · cases ht
      obtain ⟨a, b⟩ := items_ok (m := 2) (k := 5) (.cons (itN n1) (.cons okc1 (.cons (okj 4 (by decide) (by decide)) .nil))) z_tcj
      exact ⟨_, _, _, x.h3, T.fo_has, a, by simp, b⟩
    · cases ht
      obtain ⟨a, b⟩ := items_ok (m := 2) (k := 5) (.cons (okj 0 (by decide) (by decide)) .nil) z_j
      exact ⟨_, _, _, x.h4, T.fo_jump, a, by simp, b⟩
  obtain ⟨ul, hul, rul⟩ := T.pl_link
  obtain ⟨uh, huh, ruh⟩ := T.pl_has
  intro pd hpd
  have S0 := same_new hpd (.dK [])
  have hp0 : (upd H pd (.dK [])) pd = some (.dK []) := upd_same
  generalize upd H pd (.dK []) = H0 at S0 hp0
  have np : ∀ {H' : Hp}, Kp [pd] H0 H' → StepsAt K H' w0 w1 t0 t1 t2 t3 t4 := fun {H'} k => (hst.same S0).kp k (fun m hm => by rw [List.mem_singleton.mp hm]; exact Wr.dK hp0)
  have nl : ∀ {H' : Hp}, Kp [pd] H0 H' → SqL K H' rl [.ref t0, .ref t1, .ref t2, .ref t3, .ref t4] := fun {H'} k => kp_Ld (S0.seq hrl) hp0 k
  let pls : Nat → List (Key × V) := fun i => if i ≤ 2 then [] else if i = 3 then [(Sum.inr w0, .int 2)] else [(Sum.inr w0, .int 2), (Sum.inr w1, .int 1)]
  refine ⟨_, rfl, rl, _, rfl, nl (Kp.refl _ _), for_it (walk_enum (xs := [V.ref t0, .ref t1, .ref t2, .ref t3, .ref t4])) (fun i σ H' => ∃ v3 v4, σ = [some (.int 2), some (.ref rl), some (.ref pd), v3, v4] ∧ Kp [pd] H0 H' ∧ H' pd = some (.dK (pls i))) ⟨_, _, rfl, Kp.refl _ _, hp0⟩ (fun i σ H' _ ⟨_, _, _, k, _⟩ => nl k) ?_ ?_⟩
  · rintro i x σ H1 H' hi ⟨v3, v4, rfl, k1, hd1⟩ ⟨T1, x1, y1, rfl, hT1, rfl, e1, e2⟩
    cases e1
    obtain ⟨t, ht, rfl⟩ : ∃ t, ([t0, t1, t2, t3, t4] : List Addr)[i]? = some t ∧ y1 = .ref t := by
      have e3 : (([t0, t1, t2, t3, t4] : List Addr).map V.ref)[i]? = some y1 := e2
      rw [List.getElem?_map] at e3
      obtain ⟨t, a, b⟩ := Option.map_eq_some_iff.mp e3
      exact ⟨t, a, b.symm⟩
    have S2 := same_new hT1 (.tup [V.int (i : Nat), .ref t])
    have k2 := k1.trans (Kp.same S2)
    have hd2 := S2 _ _ hd1
    have hT2 : SqT K (upd H1 T1 (.tup [V.int (i : Nat), .ref t])) T1 [V.int (i : Nat), .ref t] := SqT.of upd_same
    generalize upd H1 T1 (.tup [V.int (i : Nat), .ref t]) = H2 at S2 k2 hd2 hT2
    obtain ⟨wd, z, items, st, fo, sz, l4, its⟩ := step (np k2) i t ht
    refine ⟨T1, _, rfl, hT2, rfl, _, _, rfl, _, _, rfl, rfl, ?_⟩
    refine ⟨_, rfl, _, rfl, _, rfl, rl, _, rfl, .inl (nl k2), t, 2, 5, wd, z, items, rfl, st, fo, sz, l4, its, fun H3 S3 => ⟨true, rfl, iteF ?_⟩⟩
    have k3 := k2.trans (Kp.same S3)
    have hd3 := S3 _ _ hd2
    have st3 := np k3
    have five : i = 0 ∨ i = 1 ∨ i = 2 ∨ i = 3 ∨ i = 4 := by
      have := (List.getElem?_eq_some_iff.mp ht).1
      simp at this
      omega
    clear st fo sz l4 its step
    rcases five with rfl | rfl | rfl | rfl | rfl
    · cases ht
      exact ⟨_, rfl, t0, _, _, _, rfl, rfl, st3.h0, atI_nat (j := 0) rfl, _, _, rfl, rfl, T.pn_read, _, rfl, iteF ⟨_, _, rfl, k3, hd3⟩⟩
    · cases ht
      exact ⟨_, rfl, t1, _, _, _, rfl, rfl, st3.h1, atI_nat (j := 0) rfl, _, _, rfl, rfl, T.pn_read, _, rfl, iteF ⟨_, _, rfl, k3, hd3⟩⟩
    · cases ht
      refine ⟨_, rfl, t2, _, _, _, rfl, rfl, st3.h2, atI_nat (j := 0) rfl, _, _, rfl, rfl, hul, _, rfl, iteT ?_⟩
      refine ⟨_, rfl, pd, rfl, .inl ⟨_, .inl hd3⟩, _, rfl, t2, _, _, _, rfl, rfl, st3.h2, atI_nat (j := 1) rfl, _, rfl, t2, _, _, _, rfl, rfl, st3.h2, atI_nat (j := 0) rfl, _, _, .int 2, rfl, rfl, hul, rul, _, DGet.k (k := Sum.inr w0) hd3, ?_⟩
      refine ⟨_, rfl, t2, _, _, _, rfl, rfl, st3.h2, atI_nat (j := 0) rfl, _, _, .int 2, rfl, rfl, hul, rul, rfl, _, rfl, iteF ?_⟩
      refine ⟨_, rfl, t2, _, _, _, rfl, rfl, st3.h2, atI_nat (j := 0) rfl, _, _, .int 2, rfl, rfl, hul, rul, _, rfl, _, rfl, t2, _, _, _, rfl, rfl, st3.h2, atI_nat (j := 1) rfl, pd, _, rfl, DPut.k (k := Sum.inr w0) hd3 (by show 0 < sizeLine; decide), ?_⟩
      exact ⟨_, _, rfl, k3.upd (List.mem_singleton.mpr rfl) _, upd_same⟩
    · cases ht
      have v1 : valV (pls 3) (Sum.inr w1) = Option.none := by
        show ((List.find? (fun kv : Key × V => decide (kv.1 = Sum.inr w1)) [(Sum.inr w0, V.int 2)]).map (·.2)) = Option.none
        have : ¬ ((Sum.inr w0 : Key) = Sum.inr w1) := fun z => hne (Sum.inr.inj z)
        simp [this]
      refine ⟨_, rfl, t3, _, _, _, rfl, rfl, st3.h3, atI_nat (j := 0) rfl, _, _, rfl, rfl, huh, _, rfl, iteT ?_⟩
      refine ⟨_, rfl, pd, rfl, .inl ⟨_, .inl hd3⟩, _, rfl, t3, _, _, _, rfl, rfl, st3.h3, atI_nat (j := 1) rfl, _, rfl, t3, _, _, _, rfl, rfl, st3.h3, atI_nat (j := 0) rfl, _, _, .int 1, rfl, rfl, huh, ruh, Option.none, ?_, ?_⟩
      · have z := DGet.k (k := Sum.inr w1) hd3
        rw [v1] at z
        exact z
      refine ⟨_, rfl, t3, _, _, _, rfl, rfl, st3.h3, atI_nat (j := 0) rfl, _, _, .int 1, rfl, rfl, huh, ruh, rfl, _, rfl, iteF ?_⟩
      refine ⟨_, rfl, t3, _, _, _, rfl, rfl, st3.h3, atI_nat (j := 0) rfl, _, _, .int 1, rfl, rfl, huh, ruh, _, rfl, _, rfl, t3, _, _, _, rfl, rfl, st3.h3, atI_nat (j := 1) rfl, pd, _, rfl, DPut.k (k := Sum.inr w1) hd3 (by show 1 < sizeLine; decide), ?_⟩
      refine ⟨_, _, rfl, k3.upd (List.mem_singleton.mpr rfl) _, ?_⟩
      rw [upd_same, putK_new (fun q hq => by
        have hq' : q ∈ [((Sum.inr w0 : Key), V.int 2)] := hq
        rw [List.mem_singleton.mp hq']
        exact fun z => hne (Sum.inr.inj z))] <;> rfl
    · cases ht
      exact ⟨_, rfl, t4, _, _, _, rfl, rfl, st3.h4, atI_nat (j := 0) rfl, _, _, rfl, rfl, T.pn_jump, _, rfl, iteF ⟨_, _, rfl, k3, hd3⟩⟩
  · rintro σ H1 ⟨v3, v4, rfl, k1, hd1⟩
    have st1 := np k1
    have inJ : inV (.str "jump") [.str "jump", .str "refuse", .str "end"] = true := by decide +kernel
    refine ⟨_, rfl, rl, _, rfl, .inl (nl k1), rfl, _, rfl, iteF ?_⟩
    refine ⟨_, rfl, _, rfl, rl, _, _, _, rfl, rfl, nl k1, atI_last [V.ref t0, .ref t1, .ref t2, .ref t3] (.ref t4), t4, _, _, _, rfl, rfl, st1.h4, atI_nat (j := 0) rfl, ?_⟩
    refine ⟨_, _, rfl, .inr (T.t_LAST _), rfl, rfl, _, rfl, ?_⟩
    rw [inJ]
    refine iteF ?_
    exact q _ fun b o e => k1 b o (by simpa using ne_of_none e hpd) (S0 b o e)
end
end K85

set_option Elab.async false
set_option linter.all false
set_option maxRecDepth 100000
set_option maxHeartbeats 4000000
namespace K85
open PySem PySem.Spec PyProof.Rows L2
/-! ### a reader -/
def fsRd0 (cl : Addr) : List (Str × V) := [("cells", .ref cl)]
def fsRd1 (cl rw : Addr) : List (Str × V) := [("cells", .ref cl), ("rows", .ref rw)]
def fsRd (cl rw : Addr) : List (Str × V) := [("cells", .ref cl), ("rows", .ref rw), ("inputs", .int 0)]
theorem fsRd_p0 (cl : Addr) : putF "cells" (.ref cl) [] = fsRd0 cl := rfl
theorem fsRd_p1 (cl rw : Addr) : putF "rows" (.ref rw) (fsRd0 cl) = fsRd1 cl rw := by kernel_rfl
theorem fsRd_p2 (cl rw : Addr) : putF "inputs" (.int 0) (fsRd1 cl rw) = fsRd cl rw := by kernel_rfl
theorem fsRd_cells (cl rw : Addr) : (fsRd cl rw).lookup ("cells" : Str) = some (V.ref cl) := by kernel_rfl
theorem fsRd_rows (cl rw : Addr) : (fsRd cl rw).lookup ("rows" : Str) = some (V.ref rw) := by kernel_rfl
theorem fsRd_inputs (cl rw : Addr) : (fsRd cl rw).lookup ("inputs" : Str) = some (V.int 0) := by kernel_rfl
theorem fsRd_m (cl rw : Addr) : (fsRd cl rw).lookup ("tables" : Str) = Option.none := by kernel_rfl
/-- the five rows' addresses -/
structure T5 where
  t0 : Addr
  t1 : Addr
  t2 : Addr
  t3 : Addr
  t4 : Addr
abbrev T5.vs (t : T5) : List V := [.ref t.t0, .ref t.t1, .ref t.t2, .ref t.t3, .ref t.t4]
abbrev StAts (K : PySem.W.Frag) (H : Hp) (w0 w1 : Str) (t : T5) : Prop := StepsAt K H w0 w1 t.t0 t.t1 t.t2 t.t3 t.t4
/-- the reader at R -/
structure RdAt (K : PySem.W.Frag) (H : Hp) (R cl rw : Addr) (w0 w1 : Str) (t : T5) : Prop where
  ins : ∃ dx, H R = some (.ins (c_Reader K) dx (fsRd cl rw))
  cells : H cl = some (.tup [.int 0, .int 0])
  rows : H rw = some (.tup t.vs)
  steps : StAts K H w0 w1 t
theorem RdAt.same {K : PySem.W.Frag} {H H1 : Hp} {R cl rw : Addr} {w0 w1 : Str} {t : T5} (x : RdAt K H R cl rw w0 w1 t) (k : L2.Same H H1) : RdAt K H1 R cl rw w0 w1 t := by
  obtain ⟨⟨dx, h⟩, h1, h2, h3⟩ := x
  exact ⟨⟨dx, k _ _ h⟩, k _ _ h1, k _ _ h2, h3.same k⟩
theorem RdAt.kp {K : PySem.W.Frag} {H H1 : Hp} {M : List Addr} {R cl rw : Addr} {w0 w1 : Str} {t : T5} (x : RdAt K H R cl rw w0 w1 t) (k : Kp M H H1) (w : Wrs H M) (n : R ∉ M) : RdAt K H1 R cl rw w0 w1 t := by
  obtain ⟨⟨dx, h⟩, h1, h2, h3⟩ := x
  exact ⟨⟨dx, k _ _ n h⟩, k _ _ (w.no h1 rfl) h1, k _ _ (w.no h2 rfl) h2, h3.kp k w⟩
section
variable {P : Program} {w : World} {K : PySem.W.Frag} {mg : Str → Option Value} {base : Heap}
def sp_Reader_init (K : PySem.W.Frag) : Sp := fun vs H Q _ => ∃ (p dx c rl : Addr) (w0 w1 : Str) (t : T5), vs = [.ref p, .ref c, .ref rl] ∧ H p = some (.ins (c_Reader K) dx []) ∧ SqL K H c [.int 0, .int 0] ∧ SqL K H rl t.vs ∧ c ≠ p ∧ rl ≠ p ∧ StAts K H w0 w1 t ∧ NameOk w0 ∧ NameOk w1 ∧ w0 ≠ w1 ∧
  ∀ H' cl rw, Kp [p] H H' → RdAt K H' p cl rw w0 w1 t → Q .non H'
theorem r_Reader_init (T : Txt w K mg) : FnR P w K mg base CX0 4 (a_Reader_init K) (sp_Reader_init K) := by
  obtain ⟨fd, F⟩ := T.d_Reader_init
  obtain ⟨ds, rds, hb⟩ := F.binds0 (ps := ["self", "cells", "rows", "inputs"]) 3 (by decide) rfl fun D doc pm an cdv ct us ks hl hk => match us, ks, hl, hk with | [a, b, c], [k], _, _ => ⟨_, _, _, _, _, _, rfl, rfl, rfl⟩
  have G : FnOk P w K mg base CX0 4 (a_Reader_init K) fd ["self", "cells", "rows", "inputs"] (fun vs H Q E => ∃ ws, vs = ws ++ [.int 0] ∧ sp_Reader_init K ws H Q E) := by
    refine F.ok sc_Reader_init (fun vs H Q E ⟨ws, e, _, _, _, _, _, _, _, e2, _⟩ => by rw [e, e2] <;> rfl) fun cdv A outer s H vs Q E hr h => ?_
    obtain ⟨ws, rfl, p, dx, c, rl, w0, w1, t, rfl, hp, hc, hrl, ncp, nlp, hst, n0, n1, hne, q⟩ := h
    refine ⟨_, PSs.nox (pss_cons (ps_if (pt_cmpR op_gt (pe_callB (klen (K := K) rfl) (by rfl) T.n_len bt_len (pa_cons (pv 1) pa_nil)) (pe_gi T.i_MOST_CELLS) (nomark _)) (pss_one ps_never) pss_nil)
    (pss_cons (ps_for PassesOwn.never rfl (pi_enum (by rfl) T.n_enumerate (pa_cons (pv 1) pa_nil)) (pg_tup rfl (pgs_cons (pg_name (i := 4) sc_Reader_init.nd rfl (Or.inl rfl)) (pgs_cons (pg_name (i := 5) sc_Reader_init.nd rfl (Or.inl rfl)) pgs_nil))) (pss_one (ps_if (pt_not (pt_val (pe_callR (r_is_number T) (hr.mono (by decide)) rfl T.g_is_number (fnr_kp T.d_is_number) pass0 (pa_cons (pv 5) (pa_cons pe_int (pa_cons (pe_gi T.i_MOST_RANGE) pa_nil)))))) (pss_one ps_never) pss_nil)))
    (pss_cons (ps_if (pt_not (pt_val (pe_callR (r_is_number T) (hr.mono (by decide)) rfl T.g_is_number (fnr_kp T.d_is_number) pass0 (pa_cons (pv 3) (pa_cons pe_int (pa_cons (pe_callB (klen (K := K) rfl) (by rfl) T.n_len bt_len (pa_cons (pv 1) pa_nil)) pa_nil)))))) (pss_one ps_never) pss_nil)
    (pss_cons (ps_for PassesOwn.never rfl (pi_range1 (by rfl) T.n_range (pa_cons (pv 3) pa_nil)) (pg_name (i := 4) sc_Reader_init.nd rfl (Or.inl rfl)) (pss_one (ps_if (pt_cmpR op_ne (pe_ix (kix_list (K := K) rfl) (pv 1) (pv 4) (fun _ _ => rfl)) pe_int (nomark _)) (pss_one ps_never) pss_nil)))
    (pss_cons (ps_if (pt_cmpR op_gt (pe_callB (klen (K := K) rfl) (by rfl) T.n_len bt_len (pa_cons (pv 2) pa_nil)) (pe_gi T.i_MOST_ROWS) (nomark _)) (pss_one ps_never) pss_nil)
    (pss_cons (ps_expr (pe_callR (r_check_rows T) (hr.mono (by decide)) rfl T.g_check_rows (fnr_kp T.d_check_rows) pass0 (pa_cons (pe_callB (klen (K := K) rfl) (by rfl) T.n_len bt_len (pa_cons (pv 1) pa_nil)) (pa_cons (pv 2) pa_nil))))
    (pss_cons (ps_fld (pv 0) (pe_callTy (ktuple_of (K := K) rfl) (by rfl) T.n_tuple bt_tuple (pa_cons (pv 1) pa_nil)) rfl)
    (pss_cons (ps_fld (pv 0) (pe_callTy (ktuple_of (K := K) rfl) (by rfl) T.n_tuple bt_tuple (pa_cons (pv 2) pa_nil)) rfl)
    (pss_one (ps_fld (pv 0) (pv 3) rfl)))))))))), ?_⟩
    have five : decide ((10000 : Int) < (((t.vs).length : Nat) : Int)) = false := rfl
    refine ⟨_, rfl, c, _, rfl, .inl hc, _, _, rfl, rfl, _, rfl, iteF ?_⟩
    refine ⟨_, rfl, c, _, rfl, hc, for_it (walk_enum (xs := [V.int 0, .int 0])) (fun i σ H' => ∃ v4 v5, σ = [some (.ref p), some (.ref c), some (.ref rl), some (.int 0), v4, v5] ∧ L2.Same H H') ⟨_, _, rfl, L2.Same.refl _⟩ (fun i σ H' _ ⟨_, _, _, k⟩ => k.seq hc) ?_ ?_⟩
    · rintro i x σ H1 H' hi ⟨v4, v5, rfl, S1⟩ ⟨T1, x1, y1, rfl, hT1, rfl, e1, e2⟩
      have ey : y1 = .int 0 := by
        have e3 : ([V.int 0, .int 0] : List V)[i]? = some y1 := e2
        have hi' : i = 0 ∨ i = 1 := by
          have : i < 2 := hi
          omega
        rcases hi' with rfl | rfl <;> (cases e3; rfl)
      subst ey
      have S2 := S1.trans (same_new hT1 (.tup [x1, .int 0]))
      refine ⟨T1, _, rfl, SqT.of upd_same, rfl, _, _, rfl, _, _, rfl, rfl, ?_⟩
      refine ⟨_, rfl, 0, 0, 10000, rfl, true, rfl, iteF ?_⟩
      exact ⟨_, _, rfl, S2⟩
    · rintro σ H1 ⟨v4, v5, rfl, S1⟩
      refine ⟨_, rfl, _, rfl, c, _, rfl, .inl (S1.seq hc), 0, 0, 2, rfl, true, rfl, iteF ?_⟩
      refine ⟨_, rfl, 0, rfl, by decide, by decide, for_range (lo := 0) (n := 0) (fun i σ H' => ∃ v4 v5, σ = [some (.ref p), some (.ref c), some (.ref rl), some (.int 0), v4, v5] ∧ H' = H1) ⟨_, _, rfl, rfl⟩ (fun i σ H' hi => absurd hi (Nat.not_lt_zero _)) ?_⟩
      rintro σ H' ⟨v4, v5, rfl, rfl⟩
      refine ⟨_, rfl, rl, _, rfl, .inl (S1.seq hrl), _, _, rfl, rfl, _, rfl, iteF ?_⟩
      refine ⟨_, rfl, c, _, rfl, .inl (S1.seq hc), _, rfl, rl, w0, w1, _, _, _, _, _, rfl, S1.seq hrl, hst.same S1, n0, n1, hne, fun H2 S2 => ?_⟩
      have S := S1.trans S2
      refine ⟨_, rfl, c, _, rfl, .inl ⟨S.seq hc, fun cl hcl => ?_⟩⟩
      have S3 := S.trans (same_new hcl (.tup [.int 0, .int 0]))
      have h3 : (upd H2 cl (.tup [.int 0, .int 0])) cl = some (.tup [.int 0, .int 0]) := upd_same
      generalize upd H2 cl (.tup [.int 0, .int 0]) = H3 at S3 h3
      have hp3 := S3 _ _ hp
      refine ⟨_, rfl, p, _, dx, _, rfl, hp3, T.cl_Reader, T.no_Reader_cells, by decide, ?_⟩
      rw [fsRd_p0]
      have wr : Wrs H [p] := fun m hm => by rw [List.mem_singleton.mp hm]; exact Wr.ins hp
      have k4 : Kp [p] H (upd H3 p (.ins (c_Reader K) dx (fsRd0 cl))) := (Kp.same S3).upd (List.mem_singleton.mpr rfl) _
      have hp4 : (upd H3 p (.ins (c_Reader K) dx (fsRd0 cl))) p = some (.ins (c_Reader K) dx (fsRd0 cl)) := upd_same
      have h4 : (upd H3 p (.ins (c_Reader K) dx (fsRd0 cl))) cl = some (.tup [.int 0, .int 0]) := by
        rw [upd_ne (ne_of h3 hp3 (by intro z; cases z))]
        exact h3
      generalize upd H3 p (.ins (c_Reader K) dx (fsRd0 cl)) = H4 at k4 hp4 h4
      refine ⟨_, rfl, rl, _, rfl, .inl ⟨kp_L k4 (by simpa using nlp) hrl, fun rw_ hrw => ?_⟩⟩
      have S5 := same_new hrw (.tup t.vs)
      have h5 : (upd H4 rw_ (.tup t.vs)) rw_ = some (.tup t.vs) := upd_same
      generalize upd H4 rw_ (.tup t.vs) = H5 at S5 h5
      have hp5 := S5 _ _ hp4
      refine ⟨_, rfl, p, _, dx, _, rfl, hp5, T.cl_Reader, T.no_Reader_rows, by show 1 < 1000; decide, ?_⟩
      rw [fsRd_p1]
      have k6 : Kp [p] H (upd H5 p (.ins (c_Reader K) dx (fsRd1 cl rw_))) := (k4.trans (Kp.same S5)).upd (List.mem_singleton.mpr rfl) _
      have h6a : (upd H5 p (.ins (c_Reader K) dx (fsRd1 cl rw_))) cl = some (.tup [.int 0, .int 0]) := by
        rw [upd_ne (ne_of h4 hp4 (by intro z; cases z))]
        exact S5 _ _ h4
      have h6b : (upd H5 p (.ins (c_Reader K) dx (fsRd1 cl rw_))) rw_ = some (.tup t.vs) := by
        rw [upd_ne (ne_of h5 hp5 (by intro z; cases z))]
        exact h5
      have hp6 : (upd H5 p (.ins (c_Reader K) dx (fsRd1 cl rw_))) p = some (.ins (c_Reader K) dx (fsRd1 cl rw_)) := upd_same
      generalize upd H5 p (.ins (c_Reader K) dx (fsRd1 cl rw_)) = H6 at k6 h6a h6b hp6
      refine ⟨_, rfl, _, rfl, p, _, dx, _, rfl, hp6, T.cl_Reader, T.no_Reader_inputs, by show 2 < 1000; decide, ?_⟩
      rw [fsRd_p2]
      have k7 : Kp [p] H (upd H6 p (.ins (c_Reader K) dx (fsRd cl rw_))) := k6.upd (List.mem_singleton.mpr rfl) _
      refine q _ cl rw_ k7 ⟨⟨dx, upd_same⟩, ?_, ?_, hst.kp k7 wr⟩
      · rw [upd_ne (ne_of h6a hp6 (by intro z; cases z))]
        exact h6a
      · rw [upd_ne (ne_of h6b hp6 (by intro z; cases z))]
        exact h6b
  have r := G.raw hb rds
  exact r.imp fun vs H Q E h => ⟨vs, rfl, h⟩
abbrev kvRd (w0 w1 : Str) : List (Key × V) := [(Sum.inr w0, .int 2), (Sum.inr w1, .int 1)]
def sp_Reader_tables (K : PySem.W.Frag) : Sp := fun vs H Q _ => ∃ (R cl rw : Addr) (w0 w1 : Str) (t : T5), vs = [.ref R] ∧ RdAt K H R cl rw w0 w1 t ∧ w0 ≠ w1 ∧ ∀ H' D, L2.Same H H' → H' D = some (.dK (kvRd w0 w1)) → Q (.ref D) H'
theorem r_Reader_tables (T : Txt w K mg) : FnR P w K mg base CX0 1 (a_Reader_tables K) (sp_Reader_tables K) := by
  refine fnr_of T.d_Reader_tables sc_Reader_tables (fun _ _ _ _ _ _ us hl => match us, hl with | [_], _ => rfl) (fun vs H Q E ⟨_, _, _, _, _, _, e, _⟩ => by rw [e] <;> rfl) fun cdv A outer s H vs Q E hr h => ?_
  obtain ⟨R, cl, rw_, w0, w1, t, rfl, hR, hne, q⟩ := h
  obtain ⟨dx, hI⟩ := hR.ins
  obtain ⟨ul, hul, rul⟩ := T.pl_link
  obtain ⟨uh, huh, ruh⟩ := T.pl_has
  refine ⟨_, (pss_one (ps_ret (pe_dc (own := [("step", 1)]) (g := gName 1) rfl sc_Reader_tables.nd (pi_tup (kfld (K := K) rfl (pv 0))) (blkOk_by (own := [("step", 1)]) (N := n_Reader_tables) (sc := defScope s_Reader_tables) (by decide +kernel)) (fun _ _ _ _ _ => pg_name (i := 1) sc_Reader_tables.nd rfl (Or.inl rfl)) (fun _ _ _ _ _ => pts_one (pt_cmpR (kinKd (K := K) rfl rfl T.kd_PLACES) (pe_ix (kix_tup (K := K) rfl) (pv 1) pe_int (fun _ _ => rfl)) (pe_glob (v := .ref _) rfl T.g_PLACES rfl) rfl)) (fun _ _ _ _ _ => (pe_ix (kix_tup (K := K) rfl) (pv 1) pe_int (fun _ _ => rfl))) (fun _ _ _ _ _ => (pe_kd (K := K) rfl rfl T.kd_PLACES (pe_glob (v := .ref _) rfl T.g_PLACES rfl) (pe_ix (kix_tup (K := K) rfl) (pv 1) pe_int (fun _ _ => rfl))))))), ?_⟩
  let pls : Nat → List (Key × V) := fun i => if i ≤ 2 then [] else if i = 3 then [(Sum.inr w0, .int 2)] else [(Sum.inr w0, .int 2), (Sum.inr w1, .int 1)]
  refine ⟨_, rfl, R, _, dx, _, _, rfl, hI, T.cl_Reader, T.no_Reader_rows, fsRd_rows _ _, rw_, rfl, ⟨_, SqT.of hR.rows⟩, fun D hD => dcIt (walk_tup (K := K) (a := rw_) (xs := t.vs)) (fun i H' => Kp [D] H H' ∧ H' D = some (.dK (pls i))) ⟨lockK _ _ _, upd_same⟩ (fun i H' _ ⟨k, _⟩ => kpD_T (SqT.of hR.rows) hD k) ?_ ?_⟩
  · rintro i x H1' H1 hi ⟨k1, hd1⟩ ⟨rfl, hx⟩
    have st1 : StAts K H1 w0 w1 t := ⟨kpD_T hR.steps.h0 hD k1, kpD_T hR.steps.h1 hD k1, kpD_T hR.steps.h2 hD k1, kpD_T hR.steps.h3 hD k1, kpD_T hR.steps.h4 hD k1⟩
    have five : i = 0 ∨ i = 1 ∨ i = 2 ∨ i = 3 ∨ i = 4 := by
      have : i < 5 := hi
      omega
    rcases five with rfl | rfl | rfl | rfl | rfl
    · cases hx
      exact ⟨rfl, _, rfl, t.t0, _, _, _, rfl, rfl, st1.h0, atI_nat (j := 0) rfl, _, _, rfl, rfl, T.pn_read, _, rfl, iteF ⟨k1, hd1⟩⟩
    · cases hx
      exact ⟨rfl, _, rfl, t.t1, _, _, _, rfl, rfl, st1.h1, atI_nat (j := 0) rfl, _, _, rfl, rfl, T.pn_read, _, rfl, iteF ⟨k1, hd1⟩⟩
    · cases hx
      exact ⟨rfl, _, rfl, t.t2, _, _, _, rfl, rfl, st1.h2, atI_nat (j := 0) rfl, _, _, rfl, rfl, hul, _, rfl, iteT ⟨_, rfl, t.t2, _, _, _, rfl, rfl, st1.h2, atI_nat (j := 1) rfl, _, rfl, t.t2, _, _, _, rfl, rfl, st1.h2, atI_nat (j := 0) rfl, _, _, .int 2, rfl, rfl, hul, rul, _, Sum.inr w0, rfl, hd1, by show 0 < sizeLine; decide,
        k1.upd (List.mem_singleton.mpr rfl) _, upd_same⟩⟩
    · cases hx
      refine ⟨rfl, _, rfl, t.t3, _, _, _, rfl, rfl, st1.h3, atI_nat (j := 0) rfl, _, _, rfl, rfl, huh, _, rfl, iteT ⟨_, rfl, t.t3, _, _, _, rfl, rfl, st1.h3, atI_nat (j := 1) rfl, _, rfl, t.t3, _, _, _, rfl, rfl, st1.h3, atI_nat (j := 0) rfl, _, _, .int 1, rfl, rfl, huh, ruh, _, Sum.inr w1, rfl, hd1, by show 1 < sizeLine; decide,
        k1.upd (List.mem_singleton.mpr rfl) _, ?_⟩⟩
      rw [upd_same, putK_new (fun q hq => by
        have hq' : q ∈ [((Sum.inr w0 : Key), V.int 2)] := hq
        rw [List.mem_singleton.mp hq']
        exact fun z => hne (Sum.inr.inj z))] <;> rfl
    · cases hx
      exact ⟨rfl, _, rfl, t.t4, _, _, _, rfl, rfl, st1.h4, atI_nat (j := 0) rfl, _, _, rfl, rfl, T.pn_jump, _, rfl, iteF ⟨k1, hd1⟩⟩
  · rintro H1 ⟨k1, hd1⟩
    exact q _ D (fun b o e => k1 b o (by simpa using ne_of_none e hD) e) hd1
end
end K85

set_option Elab.async false
set_option linter.all false
set_option maxRecDepth 100000
set_option maxHeartbeats 4000000
namespace K85
open PySem PySem.Spec PyProof.Rows L2
theorem inV_str {x : Str} {xs : List Str} (h : x ∈ xs) : inV (.str x) (xs.map V.str) = true := by
  unfold inV
  rw [List.any_eq_true]
  exact ⟨.str x, List.mem_map.mpr ⟨x, h, rfl⟩, by show decide (_ = _) = true; simp⟩
theorem flat_strs (xs : List Str) : (xs.map V.str).all flatV = true := by
  rw [List.all_eq_true]
  intro v hv
  obtain ⟨x, _, rfl⟩ := List.mem_map.mp hv
  rfl
/-- the store fits the reader -/
structure Fits (w0 w1 : Str) (L : List Tb) : Prop where
  nd : (L.map (·.nm)).Nodup
  e0 : ∃ e ∈ L, e.nm = w0 ∧ e.p = 2
  e1 : ∃ e ∈ L, e.nm = w1 ∧ e.p = 1
  ne : w0 ≠ w1
section
variable {P : Program} {w : World} {K : PySem.W.Frag} {mg : Str → Option Value} {base : Heap}
def sp_check_fit (K : PySem.W.Frag) : Sp := fun vs H Q _ => ∃ (S td D : Addr) (size : Int) (L : List Tb) (w0 w1 : Str), vs = [.ref S, .ref D] ∧ StAt K H S size td L ∧ Fits w0 w1 L ∧ H D = some (.dK (kvRd w0 w1)) ∧ ∀ H', L2.Same H H' → Q .non H'
theorem r_check_fit (T : Txt w K mg) : FnR P w K mg base CX0 3 (a_check_fit K) (sp_check_fit K) := by
  refine fnr_of T.d_check_fit sc_check_fit (fun _ _ _ _ _ _ us hl => match us, hl with | [_, _], _ => rfl) (fun vs H Q E ⟨_, _, _, _, _, _, _, e, _⟩ => by rw [e] <;> rfl) fun cdv A outer s H vs Q E hr h => ?_
  obtain ⟨S, td, D, size, L, w0, w1, rfl, hS, hF, hD, q⟩ := h
  refine ⟨_, (pss_cons (ps_set (i := 2) sc_check_fit.nd rfl (Or.inl rfl) (pe_methR0 (pv 0) T.cl_Store T.m_Store_tables (r_Store_tables T) (hr.mono (by decide)) pass0))
    (pss_one (ps_for PassesOwn.never rfl (pi_list (pe_callB cr_sortedS (by rfl) T.n_sorted bt_sorted (pa_cons (pe_callTy (L2.call_list_dK rfl) (by rfl) T.n_list bt_list (pa_cons (pv 1) pa_nil)) pa_nil))) (pg_name (i := 3) sc_check_fit.nd rfl (Or.inl rfl)) (pss_one (ps_if (PW.pt (pw_or (pt_cmpR op_notIn_seq (pv 3) (pv 2) rfl) (pw_or1 (pt_cmpR op_ne (pe_methR (pv 0) T.cl_Store T.m_Store_places (r_Store_places T) (hr.mono (by decide)) pass0 (pa_cons (pv 3) pa_nil)) (pe_dget (hu_of hr) (pv 1) (pv 3) (fun _ _ => rfl)) (nomark _))))) (pss_one ps_never) pss_nil))))), ?_⟩
  obtain ⟨dx, hI⟩ := hS.ins
  refine ⟨_, rfl, S, dx, _, rfl, hI, fsS_m1 _ _, S, td, size, L, rfl, hS, fun kn hkn => ?_⟩
  have S1 := same_new hkn (.lst ((L.map (·.nm)).map V.str))
  have h1 : (upd H kn (.lst ((L.map (·.nm)).map V.str))) kn = some (.lst ((L.map (·.nm)).map V.str)) := upd_same
  generalize upd H kn (.lst ((L.map (·.nm)).map V.str)) = H1 at S1 h1
  have nms : (kvRd w0 w1).map (fun kv => kV kv.1) = [w0, w1].map V.str := rfl
  refine ⟨_, rfl, D, _, rfl, S1 _ _ hD, fun l1 hl1 => ?_⟩
  rw [nms]
  refine ⟨l1, [w0, w1], rfl, .inl (.inl upd_same), by show 2 < 64; decide, fun ys l2 pm _ hl2 => ?_⟩
  have S2 := same_newer (same_new hl1 (.lst ([w0, w1].map V.str))) ((same_new hl1 (.lst ([w0, w1].map V.str))).free hl2) (.lst (ys.map V.str))
  have hys : SqL K (upd (upd H1 l1 (.lst ([w0, w1].map V.str))) l2 (.lst (ys.map V.str))) l2 (ys.map V.str) := .inl (.inl upd_same)
  generalize upd (upd H1 l1 (.lst ([w0, w1].map V.str))) l2 (.lst (ys.map V.str)) = H2 at S2 hys
  refine ⟨l2, rfl, ⟨_, hys⟩, for_it (walk_list (xs := ys.map V.str)) (fun i σ H' => ∃ v3, σ = [some (.ref S), some (.ref D), some (.ref kn), v3] ∧ L2.Same H2 H') ⟨_, rfl, L2.Same.refl _⟩ (fun i σ H' _ ⟨_, _, z⟩ => z.seq hys) ?_ ?_⟩
  · rintro i x σ H3' H3 hi ⟨v3, rfl, S3⟩ ⟨rfl, hx⟩
    obtain ⟨z, hz, rfl⟩ := List.mem_map.mp (List.mem_of_getElem? hx)
    have Sa := (S1.trans S2).trans S3
    have hz' : z = w0 ∨ z = w1 := by simpa using pm.mem_iff.mp hz
    obtain ⟨e, pv_, he, rfl, hp, hv⟩ : ∃ (e : Tb) (n : Int), e ∈ L ∧ e.nm = z ∧ e.p = n ∧ valV (kvRd w0 w1) (Sum.inr z) = some (.int n) := by
      rcases hz' with rfl | rfl
      · obtain ⟨e, he, h2, h3⟩ := hF.e0
        exact ⟨e, 2, he, h2, h3, by unfold valV; simp⟩
      · obtain ⟨e, he, h2, h3⟩ := hF.e1
        have ne : ¬ ((Sum.inr w0 : Key) = Sum.inr z) := fun q => hF.ne (Sum.inr.inj q)
        exact ⟨e, 1, he, h2, h3, by unfold valV; simp [ne]⟩
    have hk3 : SqL K H3 kn ((L.map (·.nm)).map V.str) := (S2.trans S3).seq (SqL.of h1)
    have hd3 := Sa _ _ hD
    have get : DGet H3 D (.str e.nm) (some (.int pv_)) := by
      have z := DGet.k (k := Sum.inr e.nm) hd3
      rw [hv] at z
      exact z
    have inn : inV (.str e.nm) ((L.map (·.nm)).map V.str) = true := inV_str (List.mem_map.mpr ⟨e, he, rfl⟩)
    refine ⟨_, rfl, _, rfl, kn, _, rfl, .inl hk3, rfl, flat_strs _, _, rfl, ?_⟩
    rw [inn]
    refine iteF ?_
    refine ⟨_, rfl, S, dx, _, rfl, Sa _ _ hI, fsS_m3 _ _, _, rfl, S, td, size, L, e, rfl, hS.same Sa, hF.nd, he, _, rfl, _, rfl, D, _, rfl, get, rfl, _, rfl, ?_⟩
    have eqn : (!decide (V.int e.p = V.int pv_)) = false := by rw [hp]; simp
    rw [eqn]
    exact iteF ⟨_, rfl, S3⟩
  · rintro σ H3 ⟨v3, rfl, S3⟩
    exact q _ ((S1.trans S2).trans S3)
def sp_check_inputs (K : PySem.W.Frag) : Sp := fun vs H Q _ => ∃ (S td il : Addr) (size : Int) (L : List Tb), vs = [.ref S, .int 0, .ref il] ∧ StAt K H S size td L ∧ SqL K H il [] ∧ ∀ H', L2.Same H H' → Q .non H'
theorem r_check_inputs (T : Txt w K mg) : FnR P w K mg base CX0 3 (a_check_inputs K) (sp_check_inputs K) := by
  refine fnr_of T.d_check_inputs sc_check_inputs (fun _ _ _ _ _ _ us hl => match us, hl with | [_, _, _], _ => rfl) (fun vs H Q E ⟨_, _, _, _, _, e, _⟩ => by rw [e] <;> rfl) fun cdv A outer s H vs Q E hr h => ?_
  obtain ⟨S, td, il, size, L, rfl, hS, hil, q⟩ := h
  refine ⟨_, (pss_cons (ps_if (pt_not (pt_val (pe_callR (r_is_listed T) (hr.mono (by decide)) rfl T.g_is_listed (fnr_kp T.d_is_listed) pass0 (pa_cons (pv 2) pa_nil)))) (pss_one ps_never) pss_nil)
    (pss_one (ps_if (pt_not (pt_val (pe_callR (r_are_things T) (hr.mono (by decide)) rfl T.g_are_things (fnr_kp T.d_are_things) pass0 (pa_cons (pv 2) (pa_cons (pv 1) (pa_cons (kfld (K := K) rfl (pv 0)) pa_nil)))))) (pss_one ps_never) pss_nil))), ?_⟩
  obtain ⟨dx, hI⟩ := hS.ins
  refine ⟨_, rfl, .ref il, .list [], rfl, .lst hil .nil, .inl rfl, fun H1 S1 => ⟨true, rfl, iteF ?_⟩⟩
  refine ⟨_, rfl, _, rfl, _, rfl, S, _, dx, _, _, rfl, S1 _ _ hI, T.cl_Store, T.no_Store_size, fsS_size _ _, il, [], 0, size, rfl, .inl (S1.seq hil), rfl, (fun n hn => by cases hn), by decide, fun H2 S2 => ⟨true, rfl, iteF ?_⟩⟩
  exact q _ (S1.trans S2)
def sp_width_of : Sp := fun vs H Q _ => ∃ size : Int, vs = [.int 0, .int size] ∧ Q (.int size) H
theorem r_width_of (T : Txt w K mg) : FnR P w K mg base CX0 1 (a_width_of K) sp_width_of := by
  refine fnr_of T.d_width_of sc_width_of (fun _ _ _ _ _ _ us hl => match us, hl with | [_, _], _ => rfl) (fun vs H Q E ⟨_, e, _⟩ => by rw [e] <;> rfl) fun cdv A outer s H vs Q E hr h => ?_
  obtain ⟨size, rfl, q⟩ := h
  refine ⟨_, (pss_one (ps_ret (pe_ifExp (pt_cmpR op_eq (pv 0) pe_int (nomark _)) (pv 1) (pv 0)))), ?_⟩
  exact ⟨_, rfl, rfl, _, rfl, iteT ⟨_, rfl, q⟩⟩
def sp_check_reading (K : PySem.W.Frag) : Sp := fun vs H Q _ => ∃ (R cl rw S td il : Addr) (size : Int) (L : List Tb) (w0 w1 : Str) (t : T5), vs = [.ref R, .ref S, .ref il] ∧ RdAt K H R cl rw w0 w1 t ∧ StAt K H S size td L ∧ Fits w0 w1 L ∧ SqL K H il [] ∧ ∀ H', L2.Same H H' → Q .non H'
theorem r_check_reading (T : Txt w K mg) : FnR P w K mg base CX0 4 (a_check_reading K) (sp_check_reading K) := by
  refine fnr_of T.d_check_reading sc_check_reading (fun _ _ _ _ _ _ us hl => match us, hl with | [_, _, _], _ => rfl) (fun vs H Q E ⟨_, _, _, _, _, _, _, _, _, _, _, e, _⟩ => by rw [e] <;> rfl) fun cdv A outer s H vs Q E hr h => ?_
  obtain ⟨R, cl, rw_, S, td, il, size, L, w0, w1, t, rfl, hR, hS, hF, hil, q⟩ := h
  refine ⟨_, (pss_cons (ps_expr (pe_callR (r_check_fit T) (hr.mono (by decide)) rfl T.g_check_fit (fnr_kp T.d_check_fit) pass0 (pa_cons (pv 1) (pa_cons (pe_methR0 (pv 0) T.cl_Reader T.m_Reader_tables (r_Reader_tables T) (hr.mono (by decide)) pass0) pa_nil))))
    (pss_one (ps_expr (pe_callR (r_check_inputs T) (hr.mono (by decide)) rfl T.g_check_inputs (fnr_kp T.d_check_inputs) pass0 (pa_cons (pv 1) (pa_cons (kfld (K := K) rfl (pv 0)) (pa_cons (pv 2) pa_nil))))))), ?_⟩
  obtain ⟨dx, hI⟩ := hR.ins
  refine ⟨_, rfl, _, rfl, R, dx, _, rfl, hI, fsRd_m _ _, R, cl, rw_, w0, w1, t, rfl, hR, hF.ne, fun H1 D S1 hD => ?_⟩
  refine ⟨S, td, D, size, L, w0, w1, rfl, hS.same S1, hF, hD, fun H2 S2 => ?_⟩
  have Sa := S1.trans S2
  refine ⟨_, rfl, _, rfl, R, _, dx, _, _, rfl, Sa _ _ hI, T.cl_Reader, T.no_Reader_inputs, fsRd_inputs _ _, _, rfl, S, td, il, size, L, rfl, hS.same Sa, Sa.seq hil, fun H3 S3 => ?_⟩
  exact q _ (Sa.trans S3)
end
end K85

set_option Elab.async false
set_option linter.all false
set_option maxRecDepth 100000
set_option maxHeartbeats 4000000
/-! A reading's fields. Printed by gen_fs.py. -/
namespace K85
open PySem PySem.Spec PyProof.Rows L2
def fsR (lk R S : Addr) (st wy : Str) (row : Int) (hd cl : Addr) : List (Str × V) := [("_looks", .ref lk), ("reader", .ref R), ("store", .ref S), ("state", .str st), ("why", .str wy), ("row", .int row), ("_held", .ref hd), ("cells", .ref cl)]
theorem fsR_looks (lk R S : Addr) (st wy : Str) (row : Int) (hd cl : Addr) : (fsR lk R S st wy row hd cl).lookup ("_looks" : Str) = some (V.ref lk) := by kernel_rfl
theorem fsR_reader (lk R S : Addr) (st wy : Str) (row : Int) (hd cl : Addr) : (fsR lk R S st wy row hd cl).lookup ("reader" : Str) = some (V.ref R) := by kernel_rfl
theorem fsR_store (lk R S : Addr) (st wy : Str) (row : Int) (hd cl : Addr) : (fsR lk R S st wy row hd cl).lookup ("store" : Str) = some (V.ref S) := by kernel_rfl
theorem fsR_state (lk R S : Addr) (st wy : Str) (row : Int) (hd cl : Addr) : (fsR lk R S st wy row hd cl).lookup ("state" : Str) = some (V.str st) := by kernel_rfl
theorem fsR_why (lk R S : Addr) (st wy : Str) (row : Int) (hd cl : Addr) : (fsR lk R S st wy row hd cl).lookup ("why" : Str) = some (V.str wy) := by kernel_rfl
theorem fsR_row (lk R S : Addr) (st wy : Str) (row : Int) (hd cl : Addr) : (fsR lk R S st wy row hd cl).lookup ("row" : Str) = some (V.int row) := by kernel_rfl
theorem fsR_held (lk R S : Addr) (st wy : Str) (row : Int) (hd cl : Addr) : (fsR lk R S st wy row hd cl).lookup ("_held" : Str) = some (V.ref hd) := by kernel_rfl
theorem fsR_cells (lk R S : Addr) (st wy : Str) (row : Int) (hd cl : Addr) : (fsR lk R S st wy row hd cl).lookup ("cells" : Str) = some (V.ref cl) := by kernel_rfl
theorem fsR_mNrefuse (lk R S : Addr) (st wy : Str) (row : Int) (hd cl : Addr) : (fsR lk R S st wy row hd cl).lookup ("_refuse" : Str) = Option.none := by kernel_rfl
theorem fsR_mNsee (lk R S : Addr) (st wy : Str) (row : Int) (hd cl : Addr) : (fsR lk R S st wy row hd cl).lookup ("_see" : Str) = Option.none := by kernel_rfl
theorem fsR_mNrun (lk R S : Addr) (st wy : Str) (row : Int) (hd cl : Addr) : (fsR lk R S st wy row hd cl).lookup ("_run" : Str) = Option.none := by kernel_rfl
theorem fsR_mNgo (lk R S : Addr) (st wy : Str) (row : Int) (hd cl : Addr) : (fsR lk R S st wy row hd cl).lookup ("_go" : Str) = Option.none := by kernel_rfl
theorem fsR_mNlook (lk R S : Addr) (st wy : Str) (row : Int) (hd cl : Addr) : (fsR lk R S st wy row hd cl).lookup ("_look" : Str) = Option.none := by kernel_rfl
theorem fsR_mNput (lk R S : Addr) (st wy : Str) (row : Int) (hd cl : Addr) : (fsR lk R S st wy row hd cl).lookup ("_put" : Str) = Option.none := by kernel_rfl
theorem fsR_mput (lk R S : Addr) (st wy : Str) (row : Int) (hd cl : Addr) : (fsR lk R S st wy row hd cl).lookup ("put" : Str) = Option.none := by kernel_rfl
theorem fsR_mNlike (lk R S : Addr) (st wy : Str) (row : Int) (hd cl : Addr) : (fsR lk R S st wy row hd cl).lookup ("_like" : Str) = Option.none := by kernel_rfl
theorem fsR_mseen (lk R S : Addr) (st wy : Str) (row : Int) (hd cl : Addr) : (fsR lk R S st wy row hd cl).lookup ("seen" : Str) = Option.none := by kernel_rfl
theorem fsR_mtwin (lk R S : Addr) (st wy : Str) (row : Int) (hd cl : Addr) : (fsR lk R S st wy row hd cl).lookup ("twin" : Str) = Option.none := by kernel_rfl
theorem fsR_plooks (lk R S : Addr) (st wy : Str) (row : Int) (hd cl : Addr) (lk2 : Addr) : putF "_looks" (V.ref lk2) (fsR lk R S st wy row hd cl) = fsR lk2 R S st wy row hd cl := by kernel_rfl
theorem fsR_pstate (lk R S : Addr) (st wy : Str) (row : Int) (hd cl : Addr) (st2 : Str) : putF "state" (V.str st2) (fsR lk R S st wy row hd cl) = fsR lk R S st2 wy row hd cl := by kernel_rfl
theorem fsR_pwhy (lk R S : Addr) (st wy : Str) (row : Int) (hd cl : Addr) (wy2 : Str) : putF "why" (V.str wy2) (fsR lk R S st wy row hd cl) = fsR lk R S st wy2 row hd cl := by kernel_rfl
theorem fsR_prow (lk R S : Addr) (st wy : Str) (row : Int) (hd cl : Addr) (row2 : Int) : putF "row" (V.int row2) (fsR lk R S st wy row hd cl) = fsR lk R S st wy row2 hd cl := by kernel_rfl
theorem fsR_pheld (lk R S : Addr) (st wy : Str) (row : Int) (hd cl : Addr) (hd2 : Addr) : putF "_held" (V.ref hd2) (fsR lk R S st wy row hd cl) = fsR lk R S st wy row hd2 cl := by kernel_rfl
theorem fsR_pcells (lk R S : Addr) (st wy : Str) (row : Int) (hd cl : Addr) (cl2 : Addr) : putF "cells" (V.ref cl2) (fsR lk R S st wy row hd cl) = fsR lk R S st wy row hd cl2 := by kernel_rfl
def fsQ1 (lk R S : Addr) (st wy : Str) (row : Int) (hd cl : Addr) : List (Str × V) := [("_looks", .ref lk)]
def fsQ2 (lk R S : Addr) (st wy : Str) (row : Int) (hd cl : Addr) : List (Str × V) := [("_looks", .ref lk), ("reader", .ref R)]
def fsQ3 (lk R S : Addr) (st wy : Str) (row : Int) (hd cl : Addr) : List (Str × V) := [("_looks", .ref lk), ("reader", .ref R), ("store", .ref S)]
def fsQ4 (lk R S : Addr) (st wy : Str) (row : Int) (hd cl : Addr) : List (Str × V) := [("_looks", .ref lk), ("reader", .ref R), ("store", .ref S), ("state", .str st)]
def fsQ5 (lk R S : Addr) (st wy : Str) (row : Int) (hd cl : Addr) : List (Str × V) := [("_looks", .ref lk), ("reader", .ref R), ("store", .ref S), ("state", .str st), ("why", .str wy)]
def fsQ6 (lk R S : Addr) (st wy : Str) (row : Int) (hd cl : Addr) : List (Str × V) := [("_looks", .ref lk), ("reader", .ref R), ("store", .ref S), ("state", .str st), ("why", .str wy), ("row", .int row)]
def fsQ7 (lk R S : Addr) (st wy : Str) (row : Int) (hd cl : Addr) : List (Str × V) := [("_looks", .ref lk), ("reader", .ref R), ("store", .ref S), ("state", .str st), ("why", .str wy), ("row", .int row), ("_held", .ref hd)]
theorem fsQ_p0 (lk R S : Addr) (st wy : Str) (row : Int) (hd cl : Addr) : putF "_looks" (.ref lk) [] = fsQ1 lk R S st wy row hd cl := rfl
theorem fsQ_p1 (lk R S : Addr) (st wy : Str) (row : Int) (hd cl : Addr) : putF "reader" (V.ref R) (fsQ1 lk R S st wy row hd cl) = fsQ2 lk R S st wy row hd cl := by kernel_rfl
theorem fsQ_p2 (lk R S : Addr) (st wy : Str) (row : Int) (hd cl : Addr) : putF "store" (V.ref S) (fsQ2 lk R S st wy row hd cl) = fsQ3 lk R S st wy row hd cl := by kernel_rfl
theorem fsQ_p3 (lk R S : Addr) (st wy : Str) (row : Int) (hd cl : Addr) : putF "state" (V.str st) (fsQ3 lk R S st wy row hd cl) = fsQ4 lk R S st wy row hd cl := by kernel_rfl
theorem fsQ_p4 (lk R S : Addr) (st wy : Str) (row : Int) (hd cl : Addr) : putF "why" (V.str wy) (fsQ4 lk R S st wy row hd cl) = fsQ5 lk R S st wy row hd cl := by kernel_rfl
theorem fsQ_p5 (lk R S : Addr) (st wy : Str) (row : Int) (hd cl : Addr) : putF "row" (V.int row) (fsQ5 lk R S st wy row hd cl) = fsQ6 lk R S st wy row hd cl := by kernel_rfl
theorem fsQ_p6 (lk R S : Addr) (st wy : Str) (row : Int) (hd cl : Addr) : putF "_held" (V.ref hd) (fsQ6 lk R S st wy row hd cl) = fsQ7 lk R S st wy row hd cl := by kernel_rfl
theorem fsQ_p7 (lk R S : Addr) (st wy : Str) (row : Int) (hd cl : Addr) : putF "cells" (V.ref cl) (fsQ7 lk R S st wy row hd cl) = fsR lk R S st wy row hd cl := by kernel_rfl
theorem fsQ_held (lk R S : Addr) (st wy : Str) (row : Int) (hd cl : Addr) : (fsQ7 lk R S st wy row hd cl).lookup ("_held" : Str) = some (V.ref hd) := by kernel_rfl
end K85

set_option Elab.async false
set_option linter.all false
set_option maxRecDepth 100000
set_option maxHeartbeats 4000000
namespace K85
open PySem PySem.Spec PyProof.Rows L2
/-- what of a recorded reading does not change -/
structure RcS where
  x : Addr
  lk : Addr
  hd : Addr
  R : Addr
  cR : Addr
  rw : Addr
  S : Addr
  td : Addr
  size : Int
  L : List Tb
  w0 : Str
  w1 : Str
  t : T5
/-- what changes -/
structure RcV where
  st : Str
  wy : Str
  row : Int
  h0 : Int
  h1 : Int
  ls : List (Addr × PyData)
abbrev rM (r : RcS) : List Addr := [r.x, r.lk, r.hd]
structure RcAt (K : PySem.W.Frag) (H : Hp) (r : RcS) (v : RcV) : Prop where
  ins : ∃ dx cl c0 c1, H r.x = some (.ins (c_Recorded K) dx (fsR r.lk r.R r.S v.st v.wy v.row r.hd cl)) ∧ H cl = some (.tup [.int c0, .int c1])
  held : H r.hd = some (.lst [.int v.h0, .int v.h1])
  looks : H r.lk = some (.lst (v.ls.map fun p => V.ref p.1))
  lks : ∀ p ∈ v.ls, Dp K H (.ref p.1) p.2 ∧ keyable p.2 = true
  rd : RdAt K H r.R r.cR r.rw r.w0 r.w1 r.t
  sto : StAt K H r.S r.size r.td r.L
  ne : r.lk ≠ r.hd
  nR : r.R ≠ r.x
  nS : r.S ≠ r.x
  sep : ∀ e ∈ r.L, e.l ≠ r.lk ∧ e.l ≠ r.hd
/-- what of it is known at all times -/
structure RcOk (r : RcS) : Prop where
  s1 : 1 ≤ r.size
  s8 : r.size ≤ 8
  fits : Fits r.w0 r.w1 r.L
section
variable {K : PySem.W.Frag} {H H1 : Hp} {r : RcS} {v : RcV} {M : List Addr}
theorem RcAt.wrs (x : RcAt K H r v) : Wrs H (rM r) := fun m hm => by
  obtain ⟨dx, cl, c0, c1, h1, _⟩ := x.ins
  rcases List.mem_cons.mp hm with e | hm
  · rw [e]; exact Wr.ins h1
  · rcases List.mem_cons.mp hm with e | hm
    · rw [e]; exact Wr.lst x.looks
    · rw [List.mem_singleton.mp hm]; exact Wr.lst x.held
theorem RcAt.xlk (x : RcAt K H r v) : r.x ≠ r.lk := by
  obtain ⟨dx, cl, c0, c1, h1, _⟩ := x.ins
  exact ne_of h1 x.looks (by intro z; cases z)
theorem RcAt.xhd (x : RcAt K H r v) : r.x ≠ r.hd := by
  obtain ⟨dx, cl, c0, c1, h1, _⟩ := x.ins
  exact ne_of h1 x.held (by intro z; cases z)
theorem RcAt.rdk (x : RcAt K H r v) (k : Kp (rM r) H H1) : RdAt K H1 r.R r.cR r.rw r.w0 r.w1 r.t := by
  refine x.rd.kp k x.wrs fun z => ?_
  obtain ⟨dx, hI⟩ := x.rd.ins
  rcases List.mem_cons.mp z with e | z
  · exact x.nR e
  · rcases List.mem_cons.mp z with e | z
    · exact ne_of hI x.looks (by intro z; cases z) e
    · exact ne_of hI x.held (by intro z; cases z) (List.mem_singleton.mp z)
theorem RcAt.stk (x : RcAt K H r v) (k : Kp (rM r) H H1) : StAt K H1 r.S r.size r.td r.L := by
  obtain ⟨dx, cl, c0, c1, h1, _⟩ := x.ins
  refine x.sto.kp k x.wrs (fun z => ?_) (fun z => ?_) fun e he z => ?_
  · obtain ⟨dx, hI⟩ := x.sto.ins
    rcases List.mem_cons.mp z with e | z
    · exact x.nS e
    · rcases List.mem_cons.mp z with e | z
      · exact ne_of hI x.looks (by intro z; cases z) e
      · exact ne_of hI x.held (by intro z; cases z) (List.mem_singleton.mp z)
  · have hI := x.sto.tabs.dic
    rcases List.mem_cons.mp z with e | z
    · exact ne_of hI h1 (by intro z; cases z) e
    · rcases List.mem_cons.mp z with e | z
      · exact ne_of hI x.looks (by intro z; cases z) e
      · exact ne_of hI x.held (by intro z; cases z) (List.mem_singleton.mp z)
  · have hI := (x.sto.tabs.tb e he).lst0
    rcases List.mem_cons.mp z with q | z
    · exact ne_of hI h1 (by intro z; cases z) q
    · rcases List.mem_cons.mp z with q | z
      · exact (x.sep e he).1 q
      · exact (x.sep e he).2 (List.mem_singleton.mp z)
theorem RcAt.lkk (x : RcAt K H r v) (k : Kp (rM r) H H1) : ∀ p ∈ v.ls, Dp K H1 (.ref p.1) p.2 ∧ keyable p.2 = true := fun p hp => ⟨dp_kp k x.wrs _ _ (x.lks p hp).2 (x.lks p hp).1, (x.lks p hp).2⟩
theorem RcAt.same (x : RcAt K H r v) (k : L2.Same H H1) : RcAt K H1 r v := by
  obtain ⟨dx, cl, c0, c1, h1, h2⟩ := x.ins
  exact ⟨⟨dx, cl, c0, c1, k _ _ h1, k _ _ h2⟩, k _ _ x.held, k _ _ x.looks, x.lkk (Kp.same k), x.rd.same k, x.sto.same k, x.ne, x.nR, x.nS, x.sep⟩
/-- the fields are written -/
theorem RcAt.setx (x : RcAt K H r v) {dx cl : Addr} {c0 c1 : Int} {st wy : Str} {row : Int} {o : HO} (hx : H r.x = some o) (hc : H cl = some (.tup [.int c0, .int c1])) : Kp (rM r) H (upd H r.x (.ins (c_Recorded K) dx (fsR r.lk r.R r.S st wy row r.hd cl))) ∧
    RcAt K (upd H r.x (.ins (c_Recorded K) dx (fsR r.lk r.R r.S st wy row r.hd cl))) r { v with st := st, wy := wy, row := row } := by
  obtain ⟨dx0, cl0, d0, d1, h1, h2⟩ := x.ins
  have k : Kp (rM r) H (upd H r.x (.ins (c_Recorded K) dx (fsR r.lk r.R r.S st wy row r.hd cl))) := (Kp.refl _ _).upd List.mem_cons_self _
  refine ⟨k, ⟨dx, cl, c0, c1, upd_same, ?_⟩, ?_, ?_, x.lkk k, x.rdk k, x.stk k, x.ne, x.nR, x.nS, x.sep⟩
  · rw [upd_ne (ne_of hc h1 (by intro z; cases z))]; exact hc
  · rw [upd_ne (Ne.symm x.xhd)]; exact x.held
  · rw [upd_ne (Ne.symm x.xlk)]; exact x.looks
/-- the cells are written -/
theorem RcAt.seth (x : RcAt K H r v) (a b : Int) : Kp (rM r) H (upd H r.hd (.lst [.int a, .int b])) ∧ RcAt K (upd H r.hd (.lst [.int a, .int b])) r { v with h0 := a, h1 := b } := by
  obtain ⟨dx0, cl0, d0, d1, h1, h2⟩ := x.ins
  have k : Kp (rM r) H (upd H r.hd (.lst [.int a, .int b])) := (Kp.refl _ _).upd (by simp) _
  refine ⟨k, ⟨dx0, cl0, d0, d1, ?_, ?_⟩, upd_same, ?_, x.lkk k, x.rdk k, x.stk k, x.ne, x.nR, x.nS, x.sep⟩
  · rw [upd_ne x.xhd]; exact h1
  · rw [upd_ne (ne_of h2 x.held (by intro z; cases z))]; exact h2
  · rw [upd_ne x.ne]; exact x.looks
/-- a look is told -/
theorem RcAt.setl (x : RcAt K H r v) {T : Addr} {d : PyData} (hd : Dp K H (.ref T) d) (hk : keyable d = true) : Kp (rM r) H (upd H r.lk (.lst ((v.ls.map fun p => V.ref p.1) ++ [.ref T]))) ∧
    RcAt K (upd H r.lk (.lst ((v.ls.map fun p => V.ref p.1) ++ [.ref T]))) r { v with ls := v.ls ++ [(T, d)] } := by
  obtain ⟨dx0, cl0, d0, d1, h1, h2⟩ := x.ins
  have k : Kp (rM r) H (upd H r.lk (.lst ((v.ls.map fun p => V.ref p.1) ++ [.ref T]))) := (Kp.refl _ _).upd (by simp) _
  refine ⟨k, ⟨dx0, cl0, d0, d1, ?_, ?_⟩, ?_, ?_, fun p hp => ?_, x.rdk k, x.stk k, x.ne, x.nR, x.nS, x.sep⟩
  · rw [upd_ne x.xlk]; exact h1
  · rw [upd_ne (ne_of h2 x.looks (by intro z; cases z))]; exact h2
  · rw [upd_ne (Ne.symm x.ne)]; exact x.held
  · rw [upd_same, List.map_append] <;> rfl
  · rcases List.mem_append.mp hp with h | h
    · exact x.lkk k p h
    · rw [List.mem_singleton.mp h]
      exact ⟨dp_kp k x.wrs _ _ hk hd, hk⟩
end
/-- a look as data -/
def lookD (nm : Str) (r : List Int) (b : Bool) : PyData := .tuple [.str nm, rowD r, .bool b]
theorem key_look (nm : Str) (r : List Int) (b : Bool) : keyable (lookD nm r b) = true := by
  show (keyable (.str nm) && (keyable (rowD r) && (keyable (.bool b) && true))) = true
  rw [key_row] <;> rfl
theorem dpLook {K : PySem.W.Frag} {H : Hp} {T t : Addr} {nm : Str} {r : List Int} {b : Bool} (h : SqT K H T [.str nm, .ref t, .bl b]) (ht : SqT K H t (r.map V.int)) : Dp K H (.ref T) (lookD nm r b) := .tup h (.cons (.str _) (.cons (dpRow ht) (.cons (.bl _) .nil)))
section
variable {w : World} {K : PySem.W.Frag} {mg : Str → Option Value} {base : Heap}
def sp_Rec_refuse (K : PySem.W.Frag) : Sp := fun vs H Q _ => ∃ (r : RcS) (v : RcV) (wy : Str), vs = [.ref r.x, .str wy] ∧ RcAt K H r v ∧ ∀ H', Kp (rM r) H H' → RcAt K H' r { v with st := "refused", wy := wy } → Q .non H'
theorem r_Rec_refuse (T : Txt w K mg) : FnR Pg w K mg base CX0 1 (a_Rec_refuse K) (sp_Rec_refuse K) := by
  refine fnr_of T.d_Rec_refuse sc_Rec_refuse (fun _ _ _ _ _ _ us hl => match us, hl with | [_, _], _ => rfl) (fun vs H Q E ⟨_, _, _, e, _⟩ => by rw [e] <;> rfl) fun cdv A outer s H vs Q E hr h => ?_
  obtain ⟨r, v, wy, rfl, x, q⟩ := h
  refine ⟨_, (pss_cons (ps_fld (pv 0) pe_str rfl)
    (pss_one (ps_fld (pv 0) (pv 1) rfl))), ?_⟩
  obtain ⟨dx, cl, c0, c1, h1, h2⟩ := x.ins
  refine ⟨_, rfl, r.x, _, dx, _, rfl, h1, T.cl_Recorded, T.no_Recorded_state, by show 8 < 1000; decide, ?_⟩
  rw [fsR_pstate]
  obtain ⟨k1, x1⟩ := x.setx (dx := dx) (st := "refused") (wy := v.wy) (row := v.row) h1 h2
  have h3 := k1 _ _ (x.wrs.no h2 rfl) h2
  have h4 : (upd H r.x (.ins (c_Recorded K) dx (fsR r.lk r.R r.S "refused" v.wy v.row r.hd cl))) r.x = some (.ins (c_Recorded K) dx (fsR r.lk r.R r.S "refused" v.wy v.row r.hd cl)) := upd_same
  generalize upd H r.x (.ins (c_Recorded K) dx (fsR r.lk r.R r.S "refused" v.wy v.row r.hd cl)) = H1 at k1 x1 h3 h4
  refine ⟨_, rfl, _, rfl, r.x, _, dx, _, rfl, h4, T.cl_Recorded, T.no_Recorded_why, by show 8 < 1000; decide, ?_⟩
  rw [fsR_pwhy]
  obtain ⟨k2, x2⟩ := x1.setx (dx := dx) (st := "refused") (wy := wy) (row := v.row) h4 h3
  exact q _ (k1.trans k2) x2
def sp_Reading_see (K : PySem.W.Frag) : Sp := fun vs H Q _ => ∃ (r : RcS) (v : RcV) (e : Tb) (t : Addr) (ns : List Int), vs = [.ref r.x, .str e.nm, .ref t] ∧ RcAt K H r v ∧ RcOk r ∧ e ∈ r.L ∧ SqT K H t (ns.map V.int) ∧ Q (.bl (decide (ns ∈ intsR e.rows))) H
theorem r_Reading_see (T : Txt w K mg) : FnR Pg w K mg base CX0 2 (a_Reading_see K) (sp_Reading_see K) := by
  refine fnr_of T.d_Reading_see sc_Reading_see (fun _ _ _ _ _ _ us hl => match us, hl with | [_, _, _], _ => rfl) (fun vs H Q E ⟨_, _, _, _, _, e, _⟩ => by rw [e] <;> rfl) fun cdv A outer s H vs Q E hr h => ?_
  obtain ⟨r, v, e, t, ns, rfl, x, ok, he, ht, q⟩ := h
  refine ⟨_, (pss_one (ps_ret (pe_methR (kfld (K := K) rfl (pv 0)) T.cl_Store T.m_Store_has_row (r_Store_has_row T) (hr.mono (by decide)) pass0 (pa_cons (pv 1) (pa_cons (pv 2) pa_nil))))), ?_⟩
  obtain ⟨dx, cl, c0, c1, h1, h2⟩ := x.ins
  obtain ⟨ds, hS⟩ := x.sto.ins
  exact ⟨_, rfl, r.x, _, dx, _, _, rfl, h1, T.cl_Recorded, T.no_Recorded_store, fsR_store .., r.S, ds, _, rfl, hS, fsS_m4 _ _, _, rfl, _, rfl, r.S, r.td, r.size, r.L, e, t, ns, rfl, x.sto, ok.fits.nd, he, ht, q⟩
end
end K85

set_option Elab.async false
set_option linter.all false
set_option maxRecDepth 100000
set_option maxHeartbeats 4000000
namespace K85
open PySem PySem.Spec PyProof.Rows L2
section
variable {w : World} {K : PySem.W.Frag} {mg : Str → Option Value} {base : Heap}
def sp_Rec_see (K : PySem.W.Frag) : Sp := fun vs H Q _ => ∃ (r : RcS) (v : RcV) (e : Tb) (t : Addr) (ns : List Int), vs = [.ref r.x, .str e.nm, .ref t] ∧ RcAt K H r v ∧ RcOk r ∧ e ∈ r.L ∧ SqT K H t (ns.map V.int) ∧ v.ls.length < 1000 ∧
  ∀ H' T, Kp (rM r) H H' → RcAt K H' r { v with ls := v.ls ++ [(T, lookD e.nm ns (decide (ns ∈ intsR e.rows)))] } → Q (.bl (decide (ns ∈ intsR e.rows))) H'
theorem r_Rec_see (T : Txt w K mg) : FnR Pg w K mg base CX0 3 (a_Rec_see K) (sp_Rec_see K) := by
  obtain ⟨cda, cc, F⟩ := T.u_Rec_see
  refine fnS F sc_Rec_see (fun _ _ _ _ _ _ _ us hl => match us, hl with | [_, _, _], _ => .of_eq rfl) (fun vs H Q E ⟨_, _, _, _, _, e, _⟩ => by rw [e] <;> rfl) fun A outer s H vs Q E hr h => ?_
  obtain ⟨r, v, e, t, ns, rfl, x, ok, he, ht, hl, q⟩ := h
  refine ⟨_, psa_cons (psa_set (i := 3) sc_Rec_see.nd rfl (Or.inl rfl) (pea_super F T.sup T.su_see (r_Reading_see T) hr pass0 ⟨_, rfl⟩ rfl rfl rfl rfl rfl (pa_cons (pv 1) (pa_cons (pv 2) pa_nil))))
    (psa_of (pss_cons (ps_expr (pe_bm PySem.F.plainAttrs_list PySem.F.slot_list_append PySem.F.type_list_append mt_append (kfld (K := K) rfl (pv 0)) (pa_cons (pe_tup (pa_cons (pv 1) (pa_cons (pv 2) (pa_cons (pv 3) pa_nil)))) pa_nil))) (pss_one (ps_ret (pv 3))))), ?_⟩
  obtain ⟨dx, cl, c0, c1, h1, h2⟩ := x.ins
  refine ⟨r.x, dx, _, rfl, h1, fun qa hqa => ?_⟩
  have S1 := same_new hqa (.met (a_Reading_see K) r.x)
  have h3 : (upd H qa (.met (a_Reading_see K) r.x)) qa = some (.met (a_Reading_see K) r.x) := upd_same
  generalize upd H qa (.met (a_Reading_see K) r.x) = H1 at S1 h3
  have x1 := x.same S1
  refine ⟨_, rfl, _, rfl, h3, r, v, e, t, ns, rfl, x1, ok, he, same_T S1 ht, ?_⟩
  obtain ⟨dx1, cl1, d0, d1, g1, g2⟩ := x1.ins
  refine ⟨_, rfl, r.x, _, dx1, _, _, rfl, g1, T.cl_Recorded, T.no_Recorded_looks, fsR_looks .., .inl ⟨rfl, _, SqL.of x1.looks⟩, _, rfl, _, rfl, _, rfl, by show 3 ≤ sizeLine; decide, fun Tl hTl => ?_⟩
  have S2 := same_new hTl (.tup [.str e.nm, .ref t, .bl (decide (ns ∈ intsR e.rows))])
  have h5 : (upd H1 Tl (.tup [.str e.nm, .ref t, .bl (decide (ns ∈ intsR e.rows))])) Tl = some (.tup [.str e.nm, .ref t, .bl (decide (ns ∈ intsR e.rows))]) := upd_same
  generalize upd H1 Tl (.tup [.str e.nm, .ref t, .bl (decide (ns ∈ intsR e.rows))]) = H2 at S2 h5
  have x2 := x1.same S2
  obtain ⟨k3, x3⟩ := x2.setl (T := Tl) (d := lookD e.nm ns (decide (ns ∈ intsR e.rows))) (dpLook (SqT.of h5) (same_T (S1.trans S2) ht)) (key_look _ _ _)
  refine ⟨r.lk, _, _, rfl, rfl, x2.looks, by rw [List.length_map, sizeLine_eq]; omega, _, rfl, ?_⟩
  exact q _ Tl ((Kp.same (S1.trans S2)).trans k3) x3
end
end K85

set_option Elab.async false
set_option linter.all false
set_option maxRecDepth 100000
set_option maxHeartbeats 4000000
namespace K85
open PySem PySem.Spec PyProof.Rows L2
def cellsOf (two : Bool) : List Int := if two then [0, 1] else [1]
def nsOf (two : Bool) (a b : Int) : List Int := if two then [a, b] else [b]
def stepX (two : Bool) (nm : Str) (nx : Int) : List V := if two then [.str "link", .str nm, .int 0, .int 1, .int nx] else [.str "has", .str nm, .int 1, .int nx]
theorem stepX_cut (two : Bool) (nm : Str) (nx : Int) : cutV (stepX two nm nx) (some 2) (some (-1)) = (cellsOf two).map V.int := by cases two <;> rfl
theorem stepX_ne (two : Bool) (nm : Str) (nx : Int) : ¬ (HT.sIx (stepX two nm nx).length 0 (some 2) = 0 ∧ HT.sIx (stepX two nm nx).length (stepX two nm nx).length (some (-1)) = (stepX two nm nx).length) := by
  cases two <;> (intro z; exact absurd (show (2 : Nat) = 0 from z.1) (by decide))
theorem stepX_1 (two : Bool) (nm : Str) (nx : Int) : atI (stepX two nm nx) 1 = some (.str nm) := by cases two <;> rfl
theorem stepX_l (two : Bool) (nm : Str) (nx : Int) : atI (stepX two nm nx) (-1) = some (.int nx) := by cases two <;> rfl
theorem cells_at (two : Bool) (a b : Int) (i : Nat) (x : V) (h : ((cellsOf two).map V.int)[i]? = some x) : ∃ c n : Int, x = .int c ∧ atI [V.int a, .int b] c = some (.int n) ∧ (nsOf two a b)[i]? = some n := by
  cases two with
  | true =>
    have hi : i < 2 := (List.getElem?_eq_some_iff.mp h).1
    rcases (by omega : i = 0 ∨ i = 1) with rfl | rfl <;> (cases h; exact ⟨_, _, rfl, rfl, rfl⟩)
  | false =>
    have hi : i < 1 := (List.getElem?_eq_some_iff.mp h).1
    rcases (by omega : i = 0) with rfl
    cases h
    exact ⟨_, _, rfl, rfl, rfl⟩
theorem ns_len (two : Bool) (a b : Int) : (nsOf two a b).length = ((cellsOf two).map V.int).length := by cases two <;> rfl
theorem ns_lt {two : Bool} {a b size : Int} (ha : a < size) (hb : b < size) : ∀ n ∈ nsOf two a b, n < size := by
  cases two with
  | true => intro n hn; simp [nsOf] at hn; omega
  | false => intro n hn; simp [nsOf] at hn; omega
section
variable {w : World} {K : PySem.W.Frag} {mg : Str → Option Value} {base : Heap}
def sp_Rec_look (K : PySem.W.Frag) : Sp := fun vs H Q _ => ∃ (r : RcS) (v : RcV) (e : Tb) (stp : Addr) (two : Bool), vs = [.ref r.x, .ref stp] ∧ RcAt K H r v ∧ RcOk r ∧ e ∈ r.L ∧ SqT K H stp (stepX two e.nm (v.row + 1)) ∧ v.ls.length < 1000 ∧ v.h0 < r.size ∧ v.h1 < r.size ∧
  ∀ H' T, Kp (rM r) H H' → RcAt K H' r { v with row := v.row + 1, ls := v.ls ++ [(T, lookD e.nm (nsOf two v.h0 v.h1) (decide (nsOf two v.h0 v.h1 ∈ intsR e.rows)))] } → Q .non H'
theorem r_Rec_look (T : Txt w K mg) : FnR Pg w K mg base CX0 4 (a_Rec_look K) (sp_Rec_look K) := by
  refine fnr_of T.d_Rec_look sc_Rec_look (fun _ _ _ _ _ _ us hl => match us, hl with | [_, _], _ => rfl) (fun vs H Q E ⟨_, _, _, _, _, e, _⟩ => by rw [e] <;> rfl) fun cdv A outer s H vs Q E hr h => ?_
  obtain ⟨r, v, e, stp, two, rfl, x, ok, he, hs, hl, b0, b1, q⟩ := h
  refine ⟨_, (pss_cons (ps_set (i := 2) sc_Rec_look.nd rfl (Or.inl rfl) (pe_callTy (ktuple_of (K := K) rfl) (by rfl) T.n_tuple bt_tuple (pa_cons (pe_lc (own := [("cell", 3)]) (g := gName 3) (tt := tYes) rfl sc_Rec_look.nd (pi_tup (pe_slice (ksl_tup (K := K) rfl) (pv 1) (po_some pe_int) (po_some (pe_un un_neg pe_int)))) (blkOk_by (own := [("cell", 3)]) (N := n_Rec_look) (sc := defScope s_Rec_look) (by decide +kernel)) (fun _ _ _ _ _ => pg_name (i := 3) sc_Rec_look.nd rfl (Or.inl rfl)) (fun _ _ _ _ _ => pts_nil) (fun _ _ _ _ _ => (pe_ix (kix_list (K := K) rfl) (kfld (K := K) rfl (pv 0)) (pv 3) (fun _ _ => rfl)))) pa_nil)))
    (pss_one (ps_if (pt_not (pt_val (pe_callB (kall (K := K) rfl rfl) (by rfl) T.n_all bt_all (pa_cons (pe_lc (own := [("value", 4)]) (g := gName 4) (tt := tYes) rfl sc_Rec_look.nd (pi_tup (pv 2)) (blkOk_by (own := [("value", 4)]) (N := n_Rec_look) (sc := defScope s_Rec_look) (by decide +kernel)) (fun _ _ _ _ _ => pg_name (i := 4) sc_Rec_look.nd rfl (Or.inl rfl)) (fun _ _ _ _ _ => pts_nil) (fun _ _ _ _ _ => (pe_cmpR op_lt (pv 4) (kfld (K := K) rfl (kfld (K := K) rfl (pv 0))) (nomark _)))) pa_nil)))) (pss_one (ps_expr (pe_methR (pv 0) T.cl_Recorded T.m_Recorded__refuse (r_Rec_refuse T) (hr.mono (by decide)) pass0 (pa_cons pe_str pa_nil)))) (pss_one (ps_fld (pv 0) (pe_ifExp (pt_val (pe_methR (pv 0) T.cl_Recorded T.m_Recorded__see (r_Rec_see T) (hr.mono (by decide)) pass0 (pa_cons (pe_ix (kix_tup (K := K) rfl) (pv 1) pe_int (fun _ _ => rfl)) (pa_cons (pv 2) pa_nil)))) (pe_op op_add (kfld (K := K) rfl (pv 0)) pe_int) (pe_ix (kix_tup (K := K) rfl) (pv 1) (pe_un un_neg pe_int) (fun _ _ => rfl))) rfl))))), ?_⟩
  obtain ⟨dx, cl, c0, c1, h1, h2⟩ := x.ins
  -- the row
  refine ⟨_, rfl, 2, rfl, _, rfl, -1, rfl, stp, _, rfl, hs, stepX_ne two e.nm _, fun p hp => ?_⟩
  rw [stepX_cut]
  have S1 := same_new hp (.tup ((cellsOf two).map V.int))
  have g1 : (upd H p (.tup ((cellsOf two).map V.int))) p = some (.tup ((cellsOf two).map V.int)) := upd_same
  generalize upd H p (.tup ((cellsOf two).map V.int)) = H1 at S1 g1
  have x1 := x.same S1
  have h11 := S1 _ _ h1
  refine ⟨p, rfl, ⟨_, SqT.of g1⟩, fun D hD => lcTu (K := K) (xs := (cellsOf two).map V.int) (fun i y _ => ∃ n, y = .int n ∧ (nsOf two v.h0 v.h1)[i]? = some n) hD (by cases two <;> decide) (SqT.of g1) stabP (fun i c H2 Nx hc k hlD f => ?_) fun H2 ys k hD2 hlen hy => ?_⟩
  · obtain ⟨c, n, rfl, hat, hn⟩ := cells_at two v.h0 v.h1 i c hc
    have nxD : r.x ≠ D := ne_of_none h11 hD
    have nhD : r.hd ≠ D := ne_of_none x1.held hD
    exact ⟨rfl, _, rfl, r.x, _, dx, _, _, rfl, k _ _ (by simpa using nxD) h11, T.cl_Recorded, T.no_Recorded_held, fsR_held .., _, rfl, r.hd, _, _, _, rfl, rfl, SqL.of (k _ _ (by simpa using nhD) x1.held), hat, f _ _ (L2.Same.refl _) ⟨n, rfl, hn⟩⟩
  have eys : ys = (nsOf two v.h0 v.h1).map V.int := by
    refine list_is (by rw [hlen, List.length_map, List.length_map, ns_len, List.length_map]) fun j y hj => ?_
    obtain ⟨n, rfl, hn⟩ := hy j y hj
    rw [List.getElem?_map, hn] <;> rfl
  subst eys
  have S2 : L2.Same H1 H2 := fun b o e => k b o (by simpa using ne_of_none e hD) e
  clear hy hlen k
  refine ⟨D, _, rfl, .inl ⟨SqL.of hD2, fun tr htr => ?_⟩⟩
  have S3 := S2.trans (same_new htr (.tup ((nsOf two v.h0 v.h1).map V.int)))
  have g3 : (upd H2 tr (.tup ((nsOf two v.h0 v.h1).map V.int))) tr = some (.tup ((nsOf two v.h0 v.h1).map V.int)) := upd_same
  generalize upd H2 tr (.tup ((nsOf two v.h0 v.h1).map V.int)) = H3 at S3 g3
  have Sa := S1.trans S3
  have x3 := x.same Sa
  clear S1 S2 S3 x1 g1 hD hD2 hp htr h11
  -- the test
  refine ⟨_, rfl, tr, rfl, ⟨_, SqT.of g3⟩, fun D2 hD2 => lcTu (K := K) (xs := (nsOf two v.h0 v.h1).map V.int) (fun _ y _ => y = .bl true) hD2 (by rw [List.length_map, ns_len]; cases two <;> decide) (SqT.of g3) stabP (fun i c H4 Nx hc k hlD f => ?_) fun H4 ys k hD4 hlen hy => ?_⟩
  · obtain ⟨n, hn, rfl⟩ : ∃ n ∈ nsOf two v.h0 v.h1, c = .int n := by
      obtain ⟨n, hn, e⟩ := List.mem_map.mp (List.mem_of_getElem? hc)
      exact ⟨n, hn, e.symm⟩
    have nxD : r.x ≠ D2 := ne_of_none (Sa _ _ h1) hD2
    obtain ⟨ds, hS⟩ := x3.sto.ins
    have nsD : r.S ≠ D2 := ne_of_none hS hD2
    refine ⟨rfl, _, rfl, _, rfl, r.x, _, dx, _, _, rfl, k _ _ (by simpa using nxD) (Sa _ _ h1), T.cl_Recorded, T.no_Recorded_store, fsR_store .., r.S, _, ds, _, _, rfl, k _ _ (by simpa using nsD) hS, T.cl_Store, T.no_Store_size, fsS_size _ _, _, _, rfl, rfl, f _ _ (L2.Same.refl _) ?_⟩
    show V.bl (decide (n < r.size)) = V.bl true
    rw [decide_eq_true (ns_lt b0 b1 n hn)]
  refine ⟨D2, List.replicate ((nsOf two v.h0 v.h1).map V.int).length true, rfl, ?_, true, ?_⟩
  · rw [← trues hlen hy]
    exact .inl (.inl hD4)
  refine ⟨by rw [all_rep], iteF ?_⟩
  have S4 : L2.Same H3 H4 := fun b o e => k b o (by simpa using ne_of_none e hD2) e
  have Sb := Sa.trans S4
  have x4 := x.same Sb
  have h14 := Sb _ _ h1
  have hs4 := same_T Sb hs
  -- the look
  refine ⟨_, rfl, r.x, dx, _, rfl, h14, fsR_mNsee .., _, rfl, stp, _, _, _, rfl, rfl, hs4, stepX_1 two e.nm _, _, rfl, r, v, e, tr, nsOf two v.h0 v.h1, rfl, x4, ok, he, SqT.of (S4 _ _ g3), hl, fun H5 Tl k5 x5 => ?_⟩
  obtain ⟨dx5, cl5, d0, d1, f1, f2⟩ := x5.ins
  refine ⟨_, rfl, ite2 (fun _ => ?_) (fun _ => ?_)⟩
  · refine ⟨_, rfl, r.x, _, dx5, _, _, rfl, f1, T.cl_Recorded, T.no_Recorded_row, fsR_row .., _, _, rfl, rfl, _, rfl, r.x, _, dx5, _, rfl, f1, T.cl_Recorded, T.no_Recorded_row, by show 8 < 1000; decide, ?_⟩
    rw [fsR_prow]
    obtain ⟨k6, x6⟩ := x5.setx (dx := dx5) (st := v.st) (wy := v.wy) (row := v.row + 1) f1 f2
    exact q _ Tl (((Kp.same Sb).trans k5).trans k6) x6
  · refine ⟨_, rfl, _, rfl, stp, _, _, _, rfl, rfl, kp_T k5 x4.wrs hs4, stepX_l two e.nm _, _, rfl, r.x, _, dx5, _, rfl, f1, T.cl_Recorded, T.no_Recorded_row, by show 8 < 1000; decide, ?_⟩
    rw [fsR_prow]
    obtain ⟨k6, x6⟩ := x5.setx (dx := dx5) (st := v.st) (wy := v.wy) (row := v.row + 1) f1 f2
    exact q _ Tl (((Kp.same Sb).trans k5).trans k6) x6
end
end K85

set_option Elab.async false
set_option linter.all false
set_option maxRecDepth 100000
set_option maxHeartbeats 4000000
namespace K85
open PySem PySem.Spec PyProof.Rows L2
theorem stepX_0 (two : Bool) (nm : Str) (nx : Int) : atI (stepX two nm nx) 0 = some (.str (if two then "link" else "has")) := by cases two <;> rfl
section
variable {w : World} {K : PySem.W.Frag} {mg : Str → Option Value} {base : Heap}
def sp_Rec_go (K : PySem.W.Frag) : Sp := fun vs H Q _ => ∃ (r : RcS) (v : RcV) (stp : Addr), vs = [.ref r.x, .ref stp] ∧ RcAt K H r v ∧ RcOk r ∧
  ((SqT K H stp [.str "jump", .int 0] ∧ ∀ H', Kp (rM r) H H' → RcAt K H' r { v with row := 0 } → Q .non H') ∨
   ∃ (e : Tb) (two : Bool), e ∈ r.L ∧ SqT K H stp (stepX two e.nm (v.row + 1)) ∧ v.ls.length < 1000 ∧ v.h0 < r.size ∧ v.h1 < r.size ∧
    ∀ H' T, Kp (rM r) H H' → RcAt K H' r { v with row := v.row + 1, ls := v.ls ++ [(T, lookD e.nm (nsOf two v.h0 v.h1) (decide (nsOf two v.h0 v.h1 ∈ intsR e.rows)))] } → Q .non H')
theorem r_Rec_go (T : Txt w K mg) : FnR Pg w K mg base CX0 5 (a_Rec_go K) (sp_Rec_go K) := by
  refine fnr_of T.d_Rec_go sc_Rec_go (fun _ _ _ _ _ _ us hl => match us, hl with | [_, _], _ => rfl) (fun vs H Q E ⟨_, _, _, e, _⟩ => by rw [e] <;> rfl) fun cdv A outer s H vs Q E hr h => ?_
  obtain ⟨r, v, stp, rfl, x, ok, q⟩ := h
  refine ⟨_, (pss_cons (ps_par (i := 2) (j := 3) (by rfl) sc_Rec_go.nd rfl rfl (by decide) rfl rfl (pa_cons (pe_ix (kix_tup (K := K) rfl) (pv 1) pe_int (fun _ _ => rfl)) (pa_cons (kfld (K := K) rfl (pv 0)) pa_nil)) (by rfl))
    (pss_one (ps_if (pt_cmpR op_eq (pv 2) pe_str (nomark _)) (pss_one (ps_fld (pv 0) (pe_ix (kix_tup (K := K) rfl) (pv 1) pe_int (fun _ _ => rfl)) rfl)) (pss_one (ps_if (pt_cmpR op_in_seq (pv 2) (pe_tup (pa_cons pe_str (pa_cons pe_str pa_nil))) rfl) pss_never (pss_one (ps_if (pt_cmpR op_in_seq (pv 2) (pe_tup (pa_cons pe_str (pa_cons pe_str pa_nil))) rfl) (pss_one (ps_expr (pe_methR (pv 0) T.cl_Recorded T.m_Recorded__look (r_Rec_look T) (hr.mono (by decide)) pass0 (pa_cons (pv 1) pa_nil)))) pss_never))))))), ?_⟩
  obtain ⟨dx, cl, c0, c1, h1, h2⟩ := x.ins
  rcases q with ⟨hs, q⟩ | ⟨e, two, he, hs, hl, b0, b1, q⟩
  · refine ⟨_, rfl, stp, _, _, _, rfl, rfl, hs, atI_nat (j := 0) rfl, _, rfl, r.x, _, dx, _, _, rfl, h1, T.cl_Recorded, T.no_Recorded_held, fsR_held .., _, _, rfl, ?_⟩
    refine ⟨_, rfl, rfl, _, rfl, iteT ?_⟩
    refine ⟨_, rfl, stp, _, _, _, rfl, rfl, hs, atI_nat (j := 1) rfl, _, rfl, r.x, _, dx, _, rfl, h1, T.cl_Recorded, T.no_Recorded_row, by show 8 < 1000; decide, ?_⟩
    rw [fsR_prow]
    obtain ⟨k6, x6⟩ := x.setx (dx := dx) (st := v.st) (wy := v.wy) (row := 0) h1 h2
    exact q _ k6 x6
  · refine ⟨_, rfl, stp, _, _, _, rfl, rfl, hs, stepX_0 two e.nm _, _, rfl, r.x, _, dx, _, _, rfl, h1, T.cl_Recorded, T.no_Recorded_held, fsR_held .., _, _, rfl, ?_⟩
    have nj : decide (V.str (if two then "link" else "has") = V.str "jump") = false := by cases two <;> decide +kernel
    have n1 : inV (.str (if two then "link" else "has")) [.str "same", .str "less"] = false := by cases two <;> decide +kernel
    have n2 : inV (.str (if two then "link" else "has")) [.str "has", .str "link"] = true := by cases two <;> decide +kernel
    refine ⟨_, rfl, rfl, _, rfl, ?_⟩
    rw [nj]
    refine iteF ⟨_, rfl, by show 2 ≤ sizeLine; decide, fun p hp => ?_⟩
    have S1 := same_new hp (.tup [.str "same", .str "less"])
    refine ⟨p, _, rfl, .inr (SqT.of upd_same), rfl, rfl, _, rfl, ?_⟩
    rw [n1]
    generalize upd H p (.tup [.str "same", .str "less"]) = H1 at S1
    refine iteF ⟨_, rfl, by show 2 ≤ sizeLine; decide, fun p2 hp2 => ?_⟩
    have S2 := S1.trans (same_new hp2 (.tup [.str "has", .str "link"]))
    refine ⟨p2, _, rfl, .inr (SqT.of upd_same), rfl, rfl, _, rfl, ?_⟩
    rw [n2]
    generalize upd H1 p2 (.tup [.str "has", .str "link"]) = H2 at S2
    have x2 := x.same S2
    obtain ⟨dx2, cl2, d0, d1, g1, g2⟩ := x2.ins
    exact iteT ⟨_, rfl, r.x, dx2, _, rfl, g1, fsR_mNlook .., _, rfl, r, v, e, stp, two, rfl, x2, ok, he, same_T S2 hs, hl, b0, b1, fun H' Tl k3 x3 => q H' Tl ((Kp.same S2).trans k3) x3⟩
end
end K85

set_option Elab.async false
set_option linter.all false
set_option maxRecDepth 100000
set_option maxHeartbeats 4000000
namespace K85
open PySem PySem.Spec PyProof.Rows L2
/-- the state of a round as data -/
def stD (i a b : Int) : PyData := .tuple [.int i, rowD [a, b]]
theorem mem_stD (i a b : Int) : Mem8 (stD i a b) := by
  refine ⟨rfl, ?_⟩
  show (NestedKey.tup [.num i, .tup [.num a, .num b]]).depth ≤ 8
  simp [NestedKey.depth, NestedKey.depthAll]
theorem stD_inj {i j a b c d : Int} (h : keyOf (stD i a b) = keyOf (stD j c d)) : i = j := by
  have h1 : NestedKey.tup [.num i, .tup [.num a, .num b]] = NestedKey.tup [.num j, .tup [.num c, .num d]] := h
  injection h1 with h2
  injection h2 with h3 _
  injection h3
theorem dpSt {K : PySem.W.Frag} {H : Hp} {p q : Addr} {i a b : Int} (h : SqT K H p [.int i, .ref q]) (hq : SqT K H q [.int a, .int b]) : Dp K H (.ref p) (stD i a b) := .tup h (.cons (.int _) (.cons (dpRow (ns := [a, b]) hq) .nil))
/-- the state behind a pair -/
def vA (v : RcV) (e0 : Tb) (T1 : Addr) : RcV := { v with row := 3, ls := v.ls ++ [(T1, lookD e0.nm [v.h0, v.h1] (decide ([v.h0, v.h1] ∈ intsR e0.rows)))] }
def vB (v : RcV) (e0 e1 : Tb) (T1 T2 : Addr) : RcV := { v with row := 4, ls := (vA v e0 T1).ls ++ [(T2, lookD e1.nm [v.h1] (decide ([v.h1] ∈ intsR e1.rows)))] }
def vC (v : RcV) (e0 e1 : Tb) (T1 T2 : Addr) : RcV := { vB v e0 e1 T1 T2 with row := 0 }
/-- the phases of a run -/
def Ph (v : RcV) (e0 e1 : Tb) : Nat → RcV → Prop
  | 0 => fun v' => ((v.row = 0 ∨ v.row = 1) ∧ v' = v) ∨ (v.row = 2 ∧ ∃ T1 T2, v' = vC v e0 e1 T1 T2)
  | 1 => fun v' => v.row = 2 ∧ ∃ T1 T2, v' = vB v e0 e1 T1 T2
  | 2 => fun v' => v.row = 2 ∧ ∃ T1, v' = vA v e0 T1
  | 3 => fun v' => v.row = 2 ∧ v' = v
  | _ => fun _ => False
theorem Ph.h {v v' : RcV} {e0 e1 : Tb} : ∀ {m : Nat}, Ph v e0 e1 m v' → v'.h0 = v.h0 ∧ v'.h1 = v.h1 ∧ v'.st = v.st ∧ v'.wy = v.wy ∧ v'.ls.length ≤ v.ls.length + 2
  | 0, h => by
    rcases h with ⟨_, rfl⟩ | ⟨_, T1, T2, rfl⟩
    · exact ⟨rfl, rfl, rfl, rfl, by omega⟩
    · exact ⟨rfl, rfl, rfl, rfl, by simp [vC, vB, vA]⟩
  | 1, h => by
    obtain ⟨_, T1, T2, rfl⟩ := h
    exact ⟨rfl, rfl, rfl, rfl, by simp [vB, vA]⟩
  | 2, h => by
    obtain ⟨_, T1, rfl⟩ := h
    exact ⟨rfl, rfl, rfl, rfl, by simp [vA]⟩
  | 3, h => by
    obtain ⟨_, rfl⟩ := h
    exact ⟨rfl, rfl, rfl, rfl, by omega⟩
  | _ + 4, h => h.elim
theorem Ph.row {v v' : RcV} {e0 e1 : Tb} {m : Nat} (h : Ph v e0 e1 (m + 1) v') : m ≤ 2 ∧ v'.row = 4 - (m : Int) := by
  match m, h with
  | 0, h => obtain ⟨_, T1, T2, rfl⟩ := h; exact ⟨by omega, rfl⟩
  | 1, h => obtain ⟨_, T1, rfl⟩ := h; exact ⟨by omega, rfl⟩
  | 2, h => obtain ⟨h1, rfl⟩ := h; exact ⟨by omega, by rw [h1]; rfl⟩
  | _ + 3, h => exact h.elim
section
variable {w : World} {K : PySem.W.Frag} {mg : Str → Option Value} {base : Heap}
/-- a row's step, and what comes of it -/
theorem phase {r : RcS} {v v' : RcV} {e0 e1 : Tb} {m : Nat} (ok : RcOk r) (he0 : e0 ∈ r.L) (n0 : e0.nm = r.w0) (he1 : e1 ∈ r.L) (n1 : e1.nm = r.w1) (hl : v.ls.length < 900) (b0 : v.h0 < r.size) (b1 : v.h1 < r.size) (h : Ph v e0 e1 (m + 1) v') :
    ∃ (stp : Addr) (wd : Str) (rest : List V), atI r.t.vs v'.row = some (.ref stp) ∧ (∀ H', StAts K H' r.w0 r.w1 r.t → SqT K H' stp (.str wd :: rest)) ∧ inV (.str wd) [.str "read", .str "end"] = false ∧ decide (V.str wd = V.str "refuse") = false ∧
      ∀ (H2 : Hp) (N : Hp → Prop) (E : XK), RcAt K H2 r v' → (∀ H3 v'', Kp (rM r) H2 H3 → RcAt K H3 r v'' → Ph v e0 e1 m v'' → N H3) → sp_Rec_go K [.ref r.x, .ref stp] H2 (fun _ H3 => N H3) E := by
  match m, h with
  | 0, h =>
    obtain ⟨hr, T1, T2, rfl⟩ := h
    refine ⟨r.t.t4, "jump", [.int 0], rfl, fun H' st => st.h4, by decide +kernel, by decide +kernel, fun H2 N E x go => ?_⟩
    exact ⟨r, _, r.t.t4, rfl, x, ok, .inl ⟨x.rd.steps.h4, fun H3 k x3 => go H3 _ k x3 (.inr ⟨hr, T1, T2, rfl⟩)⟩⟩
  | 1, h =>
    obtain ⟨hr, T1, rfl⟩ := h
    refine ⟨r.t.t3, "has", [.str r.w1, .int 1, .int 4], rfl, fun H' st => st.h3, by decide +kernel, by decide +kernel, fun H2 N E x go => ?_⟩
    refine ⟨r, _, r.t.t3, rfl, x, ok, .inr ⟨e1, false, he1, ?_, ?_, b0, b1, fun H3 T k x3 => go H3 _ k x3 ⟨hr, T1, T, rfl⟩⟩⟩
    · have := x.rd.steps.h3
      rw [← n1] at this
      exact this
    · show (v.ls ++ _).length < 1000
      rw [List.length_append, List.length_singleton]
      omega
  | 2, h =>
    obtain ⟨hr, rfl⟩ := h
    refine ⟨r.t.t2, "link", [.str r.w0, .int 0, .int 1, .int 3], by rw [hr]; rfl, fun H' st => st.h2, by decide +kernel, by decide +kernel, fun H2 N E x go => ?_⟩
    refine ⟨r, _, r.t.t2, rfl, x, ok, .inr ⟨e0, true, he0, ?_, by omega, b0, b1, fun H3 T k x3 => go H3 _ k x3 ⟨hr, T, ?_⟩⟩⟩
    · have := x.rd.steps.h2
      rw [← n0] at this
      rw [hr]
      exact this
    · unfold vA
      rw [hr]
      rfl
  | _ + 3, h => exact h.elim
end
end K85

set_option Elab.async false
set_option linter.all false
set_option maxRecDepth 100000
set_option maxHeartbeats 4000000
namespace K85
open PySem PySem.Spec PyProof.Rows L2
section
variable {X : Cx} {K : PySem.W.Frag} {w : World} {o e : Expr} {to te : TE} {apos cpos : Pos}
theorem kset0 (hw : X.w = w) : CallR X (.type "set") (rSet0D w) := by
  subst hw
  exact cr_set0D
theorem ksinD (hK : X.K = K) (hw : X.w = w) (hu : X.A.units + 64 < cLine) : OpR X (compareOp .In) (rSInD K w) := by
  subst hK hw
  exact or_sinD hu
theorem ksaddD (hK : X.K = K) (hw : X.w = w) (hu : X.A.units + 64 < cLine) (ho : PE X o to) (ha : PE X e te)
    (hbase : attributeBase o "add" X.env (eval o X.env) = eval o X.env := by rfl)
    (hfew : ((backTo cpos (starEach [e] X.env)).all (fun x => !x.1) && (backToKw cpos (keywordEach [] X.env)).all (fun x => x.1.isSome)
      && decide ([e].length + ([] : List Keyword).length + (if ([] : List Keyword).isEmpty then 0 else 1) < 30)) = true := by rfl)
    (hline : (apos.endLine == cpos.line) = true := by rfl) (hs : starEach [e] X.env = (false, eval e X.env) :: starEach [] X.env := by rfl) :
    PE X (.Call (.Attribute o "add" apos) [e] [] cpos) (tSAddD K w to te) := by
  subst hK hw
  exact pe_saddD hu ho ha hbase hfew hline hs
end
section
variable {w : World} {K : PySem.W.Frag} {mg : Str → Option Value} {base : Heap}
/-- a phase has its step already done: the reading row -/
theorem phase0 {r : RcS} {v v' : RcV} {e0 e1 : Tb} (h : Ph v e0 e1 0 v') : ∃ (stp : Addr) (i : Int), atI r.t.vs v'.row = some (.ref stp) ∧ ∀ (K : PySem.W.Frag) (H' : Hp), StAts K H' r.w0 r.w1 r.t → SqT K H' stp [.str "read", .int i] := by
  rcases h with ⟨h, rfl⟩ | ⟨_, T1, T2, rfl⟩
  · rcases h with h | h
    · exact ⟨r.t.t0, 0, by rw [h]; rfl, fun K H' st => st.h0⟩
    · exact ⟨r.t.t1, 1, by rw [h]; rfl, fun K H' st => st.h1⟩
  · exact ⟨r.t.t0, 0, rfl, fun K H' st => st.h0⟩
def sp_Rec_run (K : PySem.W.Frag) : Sp := fun vs H Q _ => ∃ (r : RcS) (v : RcV) (e0 e1 : Tb), vs = [.ref r.x] ∧ RcAt K H r v ∧ RcOk r ∧ v.st = "waits" ∧ (v.row = 0 ∨ v.row = 1 ∨ v.row = 2) ∧ e0 ∈ r.L ∧ e0.nm = r.w0 ∧ e1 ∈ r.L ∧ e1.nm = r.w1 ∧ v.ls.length < 900 ∧ (v.row = 2 → v.h0 < r.size ∧ v.h1 < r.size) ∧
  ∀ H' v', Kp (rM r) H H' → RcAt K H' r v' → Ph v e0 e1 0 v' → Q .non H'
theorem r_Rec_run (T : Txt w K mg) : FnR Pg w K mg base CX0 6 (a_Rec_run K) (sp_Rec_run K) := by
  refine fnr_of T.d_Rec_run sc_Rec_run (fun _ _ _ _ _ _ us hl => match us, hl with | [_], _ => rfl) (fun vs H Q E ⟨_, _, _, _, e, _⟩ => by rw [e] <;> rfl) fun cdv A outer s H vs Q E hr h => ?_
  obtain ⟨r, v, e0, e1, rfl, x, ok, hst, hrow, he0, n0, he1, n1, hl, hb, q⟩ := h
  refine ⟨_, (pss_cons (ps_set (i := 1) sc_Rec_run.nd rfl (Or.inl rfl) (pe_callTy0 (kset0 (w := w) rfl) (by rfl) T.n_set bt_set))
    (pss_cons (ps_while PassesOwn.never (pt_cmpR op_eq (kfld (K := K) rfl (pv 0)) pe_str (nomark _)) (pss_cons (ps_set (i := 2) sc_Rec_run.nd rfl (Or.inl rfl) (pe_ix (kix_tup (K := K) rfl) (kfld (K := K) rfl (kfld (K := K) rfl (pv 0))) (kfld (K := K) rfl (pv 0)) (fun _ _ => rfl)))
    (pss_cons (ps_if (pt_cmpR op_in_seq (pe_ix (kix_tup (K := K) rfl) (pv 2) pe_int (fun _ _ => rfl)) (pe_tup (pa_cons pe_str (pa_cons pe_str pa_nil))) rfl) (pss_cons (ps_fld (pv 0) (pe_ifExp (pt_cmpR op_eq (pe_ix (kix_tup (K := K) rfl) (pv 2) pe_int (fun _ _ => rfl)) pe_str (nomark _)) pe_str pe_str) rfl)
    (pss_one ps_break)) pss_nil)
    (pss_cons (ps_set (i := 3) sc_Rec_run.nd rfl (Or.inl rfl) (pe_tup (pa_cons (kfld (K := K) rfl (pv 0)) (pa_cons (pe_callTy (ktuple_of (K := K) rfl) (by rfl) T.n_tuple bt_tuple (pa_cons (kfld (K := K) rfl (pv 0)) pa_nil)) pa_nil))))
    (pss_one (ps_if (pt_cmpR (ksinD (K := K) (w := w) rfl rfl hr.units) (pv 3) (pv 1) rfl) (pss_one (ps_expr (pe_methR (pv 0) T.cl_Recorded T.m_Recorded__refuse (r_Rec_refuse T) (hr.mono (by decide)) pass0 (pa_cons pe_str pa_nil)))) (pss_one (ps_if (pt_cmpR op_eq (pe_ix (kix_tup (K := K) rfl) (pv 2) pe_int (fun _ _ => rfl)) pe_str (nomark _)) (pss_one (ps_expr (pe_methR (pv 0) T.cl_Recorded T.m_Recorded__refuse (r_Rec_refuse T) (hr.mono (by decide)) pass0 (pa_cons pe_str pa_nil)))) (pss_cons (ps_expr (ksaddD (K := K) (w := w) rfl rfl hr.units (pv 1) (pv 3)))
    (pss_one (ps_expr (pe_methR (pv 0) T.cl_Recorded T.m_Recorded__go (r_Rec_go T) (hr.mono (by decide)) pass0 (pa_cons (pv 2) pa_nil)))))))))))))
    (pss_one (ps_fld (pv 0) (pe_callTy (ktuple_of (K := K) rfl) (by rfl) T.n_tuple bt_tuple (pa_cons (kfld (K := K) rfl (pv 0)) pa_nil)) rfl)))), ?_⟩
  refine ⟨rfl, fun kn hkn => ?_⟩
  have S0 := same_new hkn (SetDO w kn [])
  have g0 : (upd H kn (SetDO w kn [])) kn = some (SetDO w kn []) := upd_same
  generalize hH0 : upd H kn (SetDO w kn []) = H0 at S0 g0
  have x0 := x.same S0
  have knM : kn ∉ rM r := fun z => by
    obtain ⟨u, e, _⟩ := x.wrs kn z
    rw [hkn] at e
    cases e
  -- what stands in the set
  let SetOk : Nat → Hp → Prop := fun m H' => ∃ Ls, H' kn = some (SetDO w kn Ls) ∧ Mems K H' Ls ∧ (∀ p ∈ Ls, ∃ i, p.2 = stD i v.h0 v.h1 ∧ i < 5 - (m : Int)) ∧ Ls.length + m ≤ 3
  refine ⟨fun m σ H' => ∃ v2 v3 v', σ = [some (.ref r.x), some (.ref kn), v2, v3] ∧ Kp (rM r) H H' ∧ RcAt K H' r v' ∧ Ph v e0 e1 m v' ∧ (m = 0 ∨ SetOk m H'), ?_, ?_⟩
  · rcases hrow with h | h | h
    · exact ⟨0, _, _, v, rfl, Kp.same S0, x0, .inl ⟨.inl h, rfl⟩, .inl rfl⟩
    · exact ⟨0, _, _, v, rfl, Kp.same S0, x0, .inl ⟨.inr h, rfl⟩, .inl rfl⟩
    · exact ⟨3, _, _, v, rfl, Kp.same S0, x0, ⟨h, rfl⟩, .inr ⟨[], g0, fun p hp => (by cases hp), fun p hp => (by cases hp), by decide⟩⟩
  · rintro m σ H1 ⟨v2, v3, v', rfl, k1, x1, ph, so⟩
    have hph := ph.h
    obtain ⟨dx, cl, c0, c1, h1, h2⟩ := x1.ins
    have w1 : decide (V.str v'.st = V.str "waits") = true := decide_eq_true (by rw [hph.2.2.1, hst])
    refine ⟨_, rfl, r.x, _, dx, _, _, rfl, h1, T.cl_Recorded, T.no_Recorded_state, fsR_state .., rfl, _, rfl, ?_⟩
    rw [w1]
    refine iteT ⟨fun σ' H' => ∃ m', m' < m ∧ ∃ v2 v3 v', σ' = [some (.ref r.x), some (.ref kn), v2, v3] ∧ Kp (rM r) H H' ∧ RcAt K H' r v' ∧ Ph v e0 e1 m' v' ∧ (m' = 0 ∨ SetOk m' H'), fun σ' H' h => h, ?_⟩
    obtain ⟨dR, hR⟩ := x1.rd.ins
    match m, ph, so with
    | 0, ph, _ =>
      obtain ⟨stp, i, hat, hstp⟩ := phase0 (r := r) ph
      have st1 := hstp K H1 x1.rd.steps
      refine ⟨_, rfl, r.x, _, dx, _, _, rfl, h1, T.cl_Recorded, T.no_Recorded_reader, fsR_reader .., r.R, _, dR, _, _, rfl, hR, T.cl_Reader, T.no_Reader_rows, fsRd_rows _ _, _, rfl, r.x, _, dx, _, _, rfl, h1, T.cl_Recorded, T.no_Recorded_row, fsR_row .., r.rw, _, _, _, rfl, rfl, SqT.of x1.rd.rows, hat, ?_⟩
      refine ⟨_, rfl, stp, _, _, _, rfl, rfl, st1, atI_nat (j := 0) rfl, by show 2 ≤ sizeLine; decide, fun p hp => ⟨p, _, rfl, .inr (SqT.of upd_same), rfl, rfl, _, rfl, ?_⟩⟩
      have S2 := same_new hp (.tup [.str "read", .str "end"])
      have i1 : inV (.str "read") [.str "read", .str "end"] = true := by decide +kernel
      rw [i1]
      generalize upd H1 p (.tup [.str "read", .str "end"]) = H2 at S2
      have x2 := x1.same S2
      refine iteT ⟨_, rfl, stp, _, _, _, rfl, rfl, same_T S2 st1, atI_nat (j := 0) rfl, rfl, _, rfl, iteT ?_⟩
      refine ⟨_, rfl, r.x, _, dx, _, rfl, S2 _ _ h1, T.cl_Recorded, T.no_Recorded_state, by show 8 < 1000; decide, ?_⟩
      rw [fsR_pstate]
      obtain ⟨k3, x3⟩ := x2.setx (dx := dx) (st := "waits") (wy := v'.wy) (row := v'.row) (S2 _ _ h1) (S2 _ _ h2)
      have ev : ({ v' with st := "waits", wy := v'.wy, row := v'.row } : RcV) = v' := by
        have e := hph.2.2.1.trans hst
        cases v'
        simp only at e
        rw [e]
      rw [ev] at x3
      have kH := (k1.trans (Kp.same S2)).trans k3
      have h3 : (upd H2 r.x (.ins (c_Recorded K) dx (fsR r.lk r.R r.S "waits" v'.wy v'.row r.hd cl))) r.x = some (.ins (c_Recorded K) dx (fsR r.lk r.R r.S "waits" v'.wy v'.row r.hd cl)) := upd_same
      generalize upd H2 r.x (.ins (c_Recorded K) dx (fsR r.lk r.R r.S "waits" v'.wy v'.row r.hd cl)) = H3 at k3 x3 kH h3
      -- behind the loop
      refine ⟨_, rfl, r.x, _, dx, _, _, rfl, h3, T.cl_Recorded, T.no_Recorded_held, fsR_held .., r.hd, _, rfl, .inl ⟨SqL.of x3.held, fun l hl4 => ?_⟩⟩
      have S4 := same_new hl4 (.tup [.int v'.h0, .int v'.h1])
      have h4 : (upd H3 l (.tup [.int v'.h0, .int v'.h1])) l = some (.tup [.int v'.h0, .int v'.h1]) := upd_same
      generalize upd H3 l (.tup [.int v'.h0, .int v'.h1]) = H4 at S4 h4
      refine ⟨_, rfl, r.x, _, dx, _, rfl, S4 _ _ h3, T.cl_Recorded, T.no_Recorded_cells, by show 8 < 1000; decide, ?_⟩
      rw [fsR_pcells]
      obtain ⟨k5, x5⟩ := (x3.same S4).setx (dx := dx) (st := "waits") (wy := v'.wy) (row := v'.row) (S4 _ _ h3) h4
      rw [ev] at x5
      exact q _ v' ((kH.trans (Kp.same S4)).trans k5) x5 ph
    | m + 1, ph, so =>
      obtain ⟨m2, hrw⟩ := ph.row
      rcases so with so | ⟨Ls, hkn1, hMs, hkeys, hlen⟩
      · cases so
      have hb2 : v.h0 < r.size ∧ v.h1 < r.size := hb (by
        match m, ph with
        | 0, ph => exact ph.1
        | 1, ph => exact ph.1
        | 2, ph => exact ph.1
        | _ + 3, ph => exact ph.elim)
      obtain ⟨stp, wd, rest, hat, hstp, in1, re1, go⟩ := phase (K := K) ok he0 n0 he1 n1 hl hb2.1 hb2.2 ph
      have st1 := hstp H1 x1.rd.steps
      refine ⟨_, rfl, r.x, _, dx, _, _, rfl, h1, T.cl_Recorded, T.no_Recorded_reader, fsR_reader .., r.R, _, dR, _, _, rfl, hR, T.cl_Reader, T.no_Reader_rows, fsRd_rows _ _, _, rfl, r.x, _, dx, _, _, rfl, h1, T.cl_Recorded, T.no_Recorded_row, fsR_row .., r.rw, _, _, _, rfl, rfl, SqT.of x1.rd.rows, hat, ?_⟩
      refine ⟨_, rfl, stp, _, _, _, rfl, rfl, st1, atI_nat (j := 0) rfl, by show 2 ≤ sizeLine; decide, fun p hp => ⟨p, _, rfl, .inr (SqT.of upd_same), rfl, rfl, _, rfl, ?_⟩⟩
      have S2 := same_new hp (.tup [.str "read", .str "end"])
      rw [in1]
      generalize upd H1 p (.tup [.str "read", .str "end"]) = H2 at S2
      refine iteF ?_
      have x2 := x1.same S2
      -- state = (self.row, tuple(self._held))
      refine ⟨_, rfl, r.x, _, dx, _, _, rfl, S2 _ _ h1, T.cl_Recorded, T.no_Recorded_row, fsR_row .., _, rfl, r.x, _, dx, _, _, rfl, S2 _ _ h1, T.cl_Recorded, T.no_Recorded_held, fsR_held .., r.hd, _, rfl, .inl ⟨SqL.of x2.held, fun l hl3 => ?_⟩⟩
      refine ⟨by show 2 ≤ sizeLine; decide, fun p2 hp2 => ?_⟩
      have S3 := same_newer (same_new hl3 (.tup [.int v'.h0, .int v'.h1])) ((same_new hl3 (.tup [.int v'.h0, .int v'.h1])).free hp2) (.tup [.int v'.row, .ref l])
      have g1 : (upd (upd H2 l (.tup [.int v'.h0, .int v'.h1])) p2 (.tup [.int v'.row, .ref l])) p2 = some (.tup [.int v'.row, .ref l]) := upd_same
      have g2 : (upd (upd H2 l (.tup [.int v'.h0, .int v'.h1])) p2 (.tup [.int v'.row, .ref l])) l = some (.tup [.int v'.h0, .int v'.h1]) := same_new hp2 _ _ _ upd_same
      generalize upd (upd H2 l (.tup [.int v'.h0, .int v'.h1])) p2 (.tup [.int v'.row, .ref l]) = H3 at S3 g1 g2
      have x3 := x2.same S3
      have Sa := S2.trans S3
      have hkn3 := Sa _ _ hkn1
      have hMs3 : Mems K H3 Ls := fun p hp => ⟨dp_same Sa _ _ (hMs p hp).1, (hMs p hp).2⟩
      have dst : Dp K H3 (.ref p2) (stD v'.row v'.h0 v'.h1) := dpSt (SqT.of g1) (SqT.of g2)
      have nin : keyOf (stD v'.row v'.h0 v'.h1) ∉ Ls.map fun p => keyOf p.2 := fun z => by
        obtain ⟨p, hp, e⟩ := List.mem_map.mp z
        obtain ⟨i, e2, hi⟩ := hkeys p hp
        rw [e2] at e
        have := stD_inj e
        rw [hrw] at this
        omega
      refine ⟨_, rfl, _, rfl, p2, kn, _, Ls, rfl, rfl, hkn3, hMs3, dst, mem_stD _ _ _, nin, _, rfl, iteF ?_⟩
      refine ⟨_, rfl, stp, _, _, _, rfl, rfl, same_T Sa st1, atI_nat (j := 0) rfl, rfl, _, rfl, ?_⟩
      rw [re1]
      refine iteF ?_
      refine ⟨_, rfl, kn, Ls, rfl, hkn3, _, rfl, p2, _, rfl, hkn3, hMs3, dst, mem_stD _ _ _, by omega, fun L' _ f2 => ?_⟩
      have pm := f2 nin
      have k4 : Kp [kn] H3 (upd H3 kn (SetDO w kn L')) := lockK _ _ _
      have g4 : (upd H3 kn (SetDO w kn L')) kn = some (SetDO w kn L') := upd_same
      have wkn : Wrs H3 [kn] := fun m hm => by rw [List.mem_singleton.mp hm]; exact ⟨_, hkn3, trivial⟩
      generalize upd H3 kn (SetDO w kn L') = H4 at k4 g4
      have kx : kn ≠ r.x := fun z => knM (by rw [z]; simp)
      have klk : kn ≠ r.lk := fun z => knM (by rw [z]; simp)
      have khd : kn ≠ r.hd := fun z => knM (by rw [z]; simp)
      have x4 : RcAt K H4 r v' := by
        obtain ⟨dx3, cl3, d0, d1, f1, f2⟩ := x3.ins
        refine ⟨⟨dx3, cl3, d0, d1, k4 _ _ (by simpa using Ne.symm kx) f1, k4 _ _ (wkn.no f2 rfl) f2⟩, k4 _ _ (by simpa using Ne.symm khd) x3.held, k4 _ _ (by simpa using Ne.symm klk) x3.looks, fun p hp => ⟨dp_kp k4 wkn _ _ (x3.lks p hp).2 (x3.lks p hp).1, (x3.lks p hp).2⟩, ?_, ?_, x3.ne, x3.nR, x3.nS, x3.sep⟩
        · obtain ⟨dR3, hR3⟩ := x3.rd.ins
          exact x3.rd.kp k4 wkn (by simpa using ne_of hR3 hkn3 (by intro z; cases z))
        · obtain ⟨dS3, hS3⟩ := x3.sto.ins
          exact x3.sto.kp k4 wkn (by simpa using ne_of hS3 hkn3 (by intro z; cases z)) (by simpa using ne_of x3.sto.tabs.dic hkn3 (by intro z; cases z)) fun e he => by simpa using ne_of (x3.sto.tabs.tb e he).lst0 hkn3 (by intro z; cases z)
      have hMs4 : Mems K H4 L' := fun p hp => by
        rcases List.mem_cons.mp (pm.mem_iff.mp hp) with z | z
        · rw [z]
          exact ⟨dp_kp k4 wkn _ _ rfl dst, mem_stD _ _ _⟩
        · exact ⟨dp_kp k4 wkn _ _ (hMs3 p z).2.1 (hMs3 p z).1, (hMs3 p z).2⟩
      have kH4 : Kp (rM r) H H4 := fun b o n e => by
        have e3 := Sa b o (k1 b o n e)
        exact k4 b o (by simpa using ne_of_none e hkn) e3
      obtain ⟨dx4, cl4, d0, d1, f1, f2'⟩ := x4.ins
      refine ⟨_, rfl, r.x, dx4, _, rfl, f1, fsR_mNgo .., _, rfl, go H4 _ L2.E0 x4 fun H5 v5 k5 x5 ph5 => ?_⟩
      refine ⟨m, by omega, _, _, v5, rfl, kH4.trans k5, x5, ph5, ?_⟩
      rcases Nat.eq_zero_or_pos m with z | z
      · exact .inl z
      · refine .inr ⟨L', k5 _ _ knM g4, fun p hp => ⟨dp_kp k5 x4.wrs _ _ (hMs4 p hp).2.1 (hMs4 p hp).1, (hMs4 p hp).2⟩, fun p hp => ?_, by rw [pm.length_eq, List.length_cons]; omega⟩
        rcases List.mem_cons.mp (pm.mem_iff.mp hp) with e | e
        · refine ⟨v'.row, by rw [e, hph.1, hph.2.1], by rw [hrw]; omega⟩
        · obtain ⟨i, a, b⟩ := hkeys p e
          exact ⟨i, a, by omega⟩
end
end K85

set_option Elab.async false
set_option linter.all false
set_option maxRecDepth 100000
set_option maxHeartbeats 4000000
namespace K85
open PySem PySem.Spec PyProof.Rows L2
/-- what one mark asks, and what it does -/
def PutPre (r : RcS) (v : RcV) (m : Int) : Prop := v.st = "refused" ∨ (v.st = "waits" ∧ v.ls.length < 900 ∧ (v.row = 0 ∨ (v.row = 1 ∧ 0 ≤ m ∧ m < r.size ∧ v.h0 < r.size)))
def PutR (r : RcS) (e0 e1 : Tb) (v : RcV) (m : Int) (v' : RcV) : Prop :=
  (v.st = "refused" ∧ v' = v) ∨ (v.st = "waits" ∧ v.row = 0 ∧ (0 ≤ m ∧ m < r.size) ∧ v' = { v with h0 := m, row := 1 }) ∨ (v.st = "waits" ∧ v.row = 0 ∧ ¬ (0 ≤ m ∧ m < r.size) ∧ v' = { v with st := "refused", wy := "mark" }) ∨
  (v.st = "waits" ∧ v.row = 1 ∧ ∃ T1 T2, v' = vC { v with h1 := m, row := 2 } e0 e1 T1 T2)
section
variable {w : World} {K : PySem.W.Frag} {mg : Str → Option Value} {base : Heap}
def sp_Rec_put1 (K : PySem.W.Frag) : Sp := fun vs H Q _ => ∃ (r : RcS) (v : RcV) (e0 e1 : Tb) (m : Int), vs = [.ref r.x, .int m] ∧ RcAt K H r v ∧ RcOk r ∧ PutPre r v m ∧ e0 ∈ r.L ∧ e0.nm = r.w0 ∧ e1 ∈ r.L ∧ e1.nm = r.w1 ∧ ∀ H' v', Kp (rM r) H H' → RcAt K H' r v' → PutR r e0 e1 v m v' → Q .non H'
theorem r_Rec_put1 (T : Txt w K mg) : FnR Pg w K mg base CX0 7 (a_Rec_put1 K) (sp_Rec_put1 K) := by
  refine fnr_of T.d_Rec_put1 sc_Rec_put1 (fun _ _ _ _ _ _ us hl => match us, hl with | [_, _], _ => rfl) (fun vs H Q E ⟨_, _, _, _, _, e, _⟩ => by rw [e] <;> rfl) fun cdv A outer s H vs Q E hr h => ?_
  obtain ⟨r, v, e0, e1, m, rfl, x, ok, pre, he0, n0, he1, n1, q⟩ := h
  refine ⟨_, (pss_cons (ps_if (pt_cmpR op_eq (kfld (K := K) rfl (pv 0)) pe_str (nomark _)) (pss_one ps_retN) pss_nil)
    (pss_cons (ps_if (pt_cmpR op_eq (kfld (K := K) rfl (pv 0)) pe_str (nomark _)) pss_never pss_nil)
    (pss_cons (ps_set (i := 2) sc_Rec_put1.nd rfl (Or.inl rfl) (pe_ix (kix_tup (K := K) rfl) (pe_ix (kix_tup (K := K) rfl) (kfld (K := K) rfl (kfld (K := K) rfl (pv 0))) (kfld (K := K) rfl (pv 0)) (fun _ _ => rfl)) pe_int (fun _ _ => rfl)))
    (pss_cons (ps_if (pt_not (pt_val (pe_callR (r_is_number T) (hr.mono (by decide)) rfl T.g_is_number (fnr_kp T.d_is_number) pass0 (pa_cons (pv 1) (pa_cons pe_int (pa_cons (pe_op op_sub (pe_callR (r_width_of T) (hr.mono (by decide)) rfl T.g_width_of (fnr_kp T.d_width_of) pass0 (pa_cons (pe_ix (kix_tup (K := K) rfl) (kfld (K := K) rfl (kfld (K := K) rfl (pv 0))) (pv 2) (fun _ _ => rfl)) (pa_cons (kfld (K := K) rfl (kfld (K := K) rfl (pv 0))) pa_nil))) pe_int) pa_nil)))))) (pss_cons (ps_expr (pe_methR (pv 0) T.cl_Recorded T.m_Recorded__refuse (r_Rec_refuse T) (hr.mono (by decide)) pass0 (pa_cons pe_str pa_nil)))
    (pss_one ps_retN)) pss_nil)
    (pss_cons (ps_asg (pv 1) (pg_sub (kfld (K := K) rfl (pv 0)) (pv 2) set_list))
    (pss_cons (ps_fldaug (pv 0) pe_int in_add)
    (pss_one (ps_expr (pe_methR0 (pv 0) T.cl_Recorded T.m_Recorded__run (r_Rec_run T) (hr.mono (by decide)) pass0))))))))), ?_⟩
  obtain ⟨dx, cl, c0, c1, h1, h2⟩ := x.ins
  rcases pre with hst | ⟨hst, hl, hrow⟩
  · have d1 : decide (V.str v.st = V.str "refused") = true := decide_eq_true (by rw [hst])
    refine ⟨_, rfl, r.x, _, dx, _, _, rfl, h1, T.cl_Recorded, T.no_Recorded_state, fsR_state .., rfl, _, rfl, ?_⟩
    rw [d1]
    exact iteT (q H v (Kp.refl _ _) x (.inl ⟨hst, rfl⟩))
  · have d1 : decide (V.str v.st = V.str "refused") = false := by rw [hst]; decide +kernel
    have d2 : decide (V.str v.st = V.str "done") = false := by rw [hst]; decide +kernel
    refine ⟨_, rfl, r.x, _, dx, _, _, rfl, h1, T.cl_Recorded, T.no_Recorded_state, fsR_state .., rfl, _, rfl, ?_⟩
    rw [d1]
    refine iteF ⟨_, rfl, r.x, _, dx, _, _, rfl, h1, T.cl_Recorded, T.no_Recorded_state, fsR_state .., rfl, _, rfl, ?_⟩
    rw [d2]
    refine iteF ?_
    obtain ⟨dR, hR⟩ := x.rd.ins
    obtain ⟨dS, hS⟩ := x.sto.ins
    -- the row's cell is the row's number
    obtain ⟨stp, hat, hstp⟩ : ∃ stp, atI r.t.vs v.row = some (.ref stp) ∧ SqT K H stp [.str "read", .int v.row] := by
      rcases hrow with h | ⟨h, _⟩
      · exact ⟨r.t.t0, by rw [h]; rfl, by rw [h]; exact x.rd.steps.h0⟩
      · exact ⟨r.t.t1, by rw [h]; rfl, by rw [h]; exact x.rd.steps.h1⟩
    have hcell : atI [V.int 0, .int 0] v.row = some (.int 0) := by
      rcases hrow with h | ⟨h, _⟩ <;> (rw [h]; rfl)
    refine ⟨_, rfl, r.x, _, dx, _, _, rfl, h1, T.cl_Recorded, T.no_Recorded_reader, fsR_reader .., r.R, _, dR, _, _, rfl, hR, T.cl_Reader, T.no_Reader_rows, fsRd_rows _ _, _, rfl, r.x, _, dx, _, _, rfl, h1, T.cl_Recorded, T.no_Recorded_row, fsR_row .., r.rw, _, _, _, rfl, rfl, SqT.of x.rd.rows, hat, stp, _, _, _, rfl, rfl, hstp, atI_nat (j := 1) rfl, ?_⟩
    refine ⟨_, rfl, _, rfl, r.x, _, dx, _, _, rfl, h1, T.cl_Recorded, T.no_Recorded_reader, fsR_reader .., r.R, _, dR, _, _, rfl, hR, T.cl_Reader, T.no_Reader_cells, fsRd_cells _ _, _, rfl, r.cR, _, _, _, rfl, rfl, SqT.of x.rd.cells, hcell, _, rfl, r.x, _, dx, _, _, rfl, h1, T.cl_Recorded, T.no_Recorded_store, fsR_store .., r.S, _, dS, _, _, rfl, hS, T.cl_Store, T.no_Store_size, fsS_size _ _, r.size, rfl, _, _, rfl, rfl, m, 0, r.size - 1, rfl, ?_⟩
    by_cases hm : 0 ≤ m ∧ m ≤ r.size - 1
    · rw [decide_eq_true hm]
      have hm2 : 0 ≤ m ∧ m < r.size := by omega
      refine ⟨true, rfl, iteF ?_⟩
      obtain ⟨a, b, eab, jx, hix, hset⟩ : ∃ a b, (([V.int v.h0, .int v.h1] : List V).set (v.row.toNat) (.int m) = [.int a, .int b]) ∧ ixN 2 v.row = some v.row.toNat ∧ ((v.row = 0 ∧ a = m ∧ b = v.h1) ∨ (v.row = 1 ∧ a = v.h0 ∧ b = m)) ∧ True := by
        rcases hrow with h | ⟨h, _⟩
        · exact ⟨m, v.h1, by rw [h]; rfl, by rw [h]; rfl, .inl ⟨h, rfl, rfl⟩, trivial⟩
        · exact ⟨v.h0, m, by rw [h]; rfl, by rw [h]; rfl, .inr ⟨h, rfl, rfl⟩, trivial⟩
      refine ⟨_, rfl, _, rfl, r.x, _, dx, _, _, rfl, h1, T.cl_Recorded, T.no_Recorded_held, fsR_held .., _, rfl, r.hd, _, _, _, rfl, rfl, x.held, jx, ?_⟩
      rw [eab]
      obtain ⟨k2, x2⟩ := x.seth a b
      generalize upd H r.hd (.lst [.int a, .int b]) = H2 at k2 x2
      obtain ⟨dx2, cl2, d0, d1', g1, g2⟩ := x2.ins
      refine ⟨_, rfl, r.x, _, dx2, _, _, rfl, g1, T.cl_Recorded, T.no_Recorded_row, fsR_row .., _, _, rfl, rfl, dx2, _, g1, by show 8 < 1000; decide, ?_⟩
      rw [fsR_prow]
      obtain ⟨k3, x3⟩ := x2.setx (dx := dx2) (st := v.st) (wy := v.wy) (row := v.row + 1) g1 g2
      generalize upd H2 r.x (.ins (c_Recorded K) dx2 (fsR r.lk r.R r.S v.st v.wy (v.row + 1) r.hd cl2)) = H3 at k3 x3
      obtain ⟨dx3, cl3, d2', d3', f1, f2⟩ := x3.ins
      refine ⟨_, rfl, r.x, dx3, _, rfl, f1, fsR_mNrun .., r, _, e0, e1, rfl, x3, ok, hst, ?_, he0, n0, he1, n1, hl, ?_, fun H4 v4 k4 x4 ph => ?_⟩
      · rcases hix with ⟨h, _⟩ | ⟨h, _⟩
        · right; left; show v.row + 1 = 1; omega
        · right; right; show v.row + 1 = 2; omega
      · intro h
        have h' : v.row + 1 = 2 := h
        rcases hrow with z | ⟨z, _, z1, z2⟩
        · omega
        · rcases hix with ⟨y, _⟩ | ⟨_, y1, y2⟩
          · omega
          · exact ⟨by show a < r.size; rw [y1]; exact z2, by show b < r.size; rw [y2]; exact z1⟩
      · refine q H4 v4 ((k2.trans k3).trans k4) x4 ?_
        rcases hix with ⟨h, ea, eb⟩ | ⟨h, ea, eb⟩
        · refine .inr (.inl ⟨hst, h, hm2, ?_⟩)
          rcases ph with ⟨_, e⟩ | ⟨z, _⟩
          · rw [e, ea, eb, h] <;> rfl
          · have z' : v.row + 1 = 2 := z
            omega
        · refine .inr (.inr (.inr ⟨hst, h, ?_⟩))
          rcases ph with ⟨z, _⟩ | ⟨_, T1, T2, e⟩
          · have z' : v.row + 1 = 0 ∨ v.row + 1 = 1 := z
            omega
          · refine ⟨T1, T2, ?_⟩
            rw [e, ea, eb, h] <;> rfl
    · rw [decide_eq_false hm]
      have hm2 : ¬ (0 ≤ m ∧ m < r.size) := by omega
      refine ⟨false, rfl, iteT ?_⟩
      refine ⟨_, rfl, r.x, dx, _, rfl, h1, fsR_mNrefuse .., r, v, "mark", rfl, x, fun H4 k4 x4 => ?_⟩
      refine q H4 _ k4 x4 (.inr (.inr (.inl ⟨hst, ?_, hm2, rfl⟩)))
      rcases hrow with z | ⟨z, z1, z2, _⟩
      · exact z
      · exact absurd ⟨z1, z2⟩ hm2
end
end K85

set_option Elab.async false
set_option linter.all false
set_option maxRecDepth 100000
set_option maxHeartbeats 4000000
namespace K85
open PySem PySem.Spec PyProof.Rows L2
section
variable {w : World} {K : PySem.W.Frag} {mg : Str → Option Value} {base : Heap}
/-- what the marks do, one behind another -/
def PutG (r : RcS) (e0 e1 : Tb) (v : RcV) (ms : List Int) (G : Nat → RcV → Prop) : Prop := G 0 v ∧ ∀ i m v', ms[i]? = some m → G i v' → PutPre r v' m ∧ ∀ v'', PutR r e0 e1 v' m v'' → G (i + 1) v''
def sp_Rec_put (K : PySem.W.Frag) : Sp := fun vs H Q _ => ∃ (r : RcS) (v : RcV) (e0 e1 : Tb) (ms : List Int) (G : Nat → RcV → Prop), vs = .ref r.x :: ms.map V.int ∧ ms.length ≤ 2 ∧ RcAt K H r v ∧ RcOk r ∧ e0 ∈ r.L ∧ e0.nm = r.w0 ∧ e1 ∈ r.L ∧ e1.nm = r.w1 ∧ PutG r e0 e1 v ms G ∧
  ∀ H' v', Kp (rM r) H H' → RcAt K H' r v' → G ms.length v' → Q (.str v'.st) H'
theorem r_Rec_put (T : Txt w K mg) : FnR Pg w K mg base CX0 8 (a_Rec_put K) (sp_Rec_put K) := by
  obtain ⟨fd, F⟩ := T.d_Rec_put
  obtain ⟨oc, od, dV, kV, doc, pm, an, cdv, ct, osl, rfl, lk, hcd, hdv, _⟩ := F.ex
  obtain ⟨_, rfl⟩ : ([] : List V) = [] ∧ dV = .none := by
    rcases hdv with z | ⟨z, _⟩
    · exact ⟨rfl, z.2⟩
    · exact absurd rfl z
  have G0 := StX.fn_star (P := Pg) (w := w) (mg := mg) (base := base) (k := 7) (ps := ["self"]) (pv := "marks") (sp := fun vs H Q E => ∃ (r : RcS) (v : RcV) (e0 e1 : Tb) (ms : List Int) (G : Nat → RcV → Prop) (p : Addr), vs = [.ref r.x, .ref p] ∧ H p = some (.tup (ms.map V.int)) ∧ RcAt K H r v ∧ RcOk r ∧ e0 ∈ r.L ∧ e0.nm = r.w0 ∧ e1 ∈ r.L ∧ e1.nm = r.w1 ∧ PutG r e0 e1 v ms G ∧
    ∀ H' v', Kp (rM r) H H' → RcAt K H' r v' → G ms.length v' → Q (.str v'.st) H') lk hcd sc_Rec_put StX.cxUp_none (StX.bind_star1 (B := fun l => bindArgs (PySem.W.fnOf "put" "Reading.put" (defArgs s_Rec_put) (defBody s_Rec_put) (defScope s_Rec_put) .none kV doc pm an cdv ct) ⟨l, []⟩) (p1 := "self") (pv := "marks") (fun _ => rfl) (fun _ _ _ => rfl)) fun A outer s H vs Q E hr h => ?_
  · refine G0.imp fun vs H Q E h => ?_
    obtain ⟨r, v, e0, e1, ms, G, rfl, hms, x, ok, he0, n0, he1, n1, hG, q⟩ := h
    refine ⟨[.ref r.x], ms.map V.int, rfl, rfl, by rw [List.length_map, sizeLine_eq]; omega, fun p hp => ?_⟩
    have S := same_new hp (.tup (ms.map V.int))
    exact ⟨r, v, e0, e1, ms, G, p, rfl, upd_same, x.same S, ok, he0, n0, he1, n1, hG, fun H' v' k' x' g' => q H' v' ((Kp.same S).trans k') x' g'⟩
  · obtain ⟨r, v, e0, e1, ms, G, p, rfl, hp, x, ok, he0, n0, he1, n1, ⟨g0, hG⟩, q⟩ := h
    refine ⟨_, PSs.nox (pss_cons (ps_for PassesOwn.never rfl (pi_tup (pv 1)) (pg_name (i := 2) sc_Rec_put.nd rfl (Or.inl rfl)) (pss_one (ps_expr (pe_methR (pv 0) T.cl_Recorded T.m_Recorded__put (r_Rec_put1 T) (hr.mono (by decide)) pass0 (pa_cons (pv 2) pa_nil)))))
    (pss_one (ps_ret (kfld (K := K) rfl (pv 0))))), ?_⟩
    refine ⟨_, rfl, p, rfl, ⟨_, SqT.of hp⟩, for_it (walk_tup (xs := ms.map V.int)) (fun i σ H' => ∃ v2 v', σ = [some (.ref r.x), some (.ref p), v2] ∧ Kp (rM r) H H' ∧ RcAt K H' r v' ∧ G i v') ⟨_, v, rfl, Kp.refl _ _, x, g0⟩ (fun i σ H' _ ⟨_, _, _, k, _, _⟩ => kp_T k x.wrs (SqT.of hp)) ?_ ?_⟩
    · rintro i y σ H1 H' hi ⟨v2, v', rfl, k1, x1, g1⟩ ⟨rfl, hy⟩
      rw [List.getElem?_map] at hy
      cases hm : ms[i]? with
      | none => rw [hm] at hy; cases hy
      | some m =>
        rw [hm] at hy
        cases hy
        obtain ⟨pre, step⟩ := hG i m v' hm g1
        obtain ⟨dx, cl, c0, c1, h1, h2⟩ := x1.ins
        refine ⟨_, rfl, r.x, dx, _, rfl, h1, fsR_mNput .., _, rfl, r, v', e0, e1, m, rfl, x1, ok, pre, he0, n0, he1, n1, fun H2 v'' k2 x2 pr => ?_⟩
        exact ⟨_, v'', rfl, k1.trans k2, x2, step v'' pr⟩
    · rintro σ H1 ⟨v2, v', rfl, k1, x1, g1⟩
      rw [List.length_map] at g1
      obtain ⟨dx, cl, c0, c1, h1, h2⟩ := x1.ins
      exact ⟨_, rfl, r.x, _, dx, _, _, rfl, h1, T.cl_Recorded, T.no_Recorded_state, fsR_state .., q _ v' k1 x1 g1⟩
end
end K85

set_option Elab.async false
set_option linter.all false
set_option maxRecDepth 100000
set_option maxHeartbeats 4000000
namespace K85
open PySem PySem.Spec PyProof.Rows L2
section
variable {w : World} {K : PySem.W.Frag} {mg : Str → Option Value} {base : Heap}
/-- what the making of a reading wants, and gives -/
structure RdPre (K : PySem.W.Frag) (H : Hp) (x R cR rw S td inp : Addr) (size : Int) (L : List Tb) (w0 w1 : Str) (t : T5) : Prop where
  rd : RdAt K H R cR rw w0 w1 t
  sto : StAt K H S size td L
  fits : Fits w0 w1 L
  ain : SqL K H inp []
  nR : R ≠ x
  nS : S ≠ x
  nI : inp ≠ x
  s1 : 1 ≤ size
  s8 : size ≤ 8
theorem RdPre.same {H H1 : Hp} {x R cR rw S td inp : Addr} {size : Int} {L : List Tb} {w0 w1 : Str} {t : T5} (p : RdPre K H x R cR rw S td inp size L w0 w1 t) (s : L2.Same H H1) : RdPre K H1 x R cR rw S td inp size L w0 w1 t :=
  ⟨p.rd.same s, p.sto.same s, p.fits, s.seq p.ain, p.nR, p.nS, p.nI, p.s1, p.s8⟩
/-- the object itself is written -/
theorem RdPre.upx {H : Hp} {x R cR rw S td inp C dx dx' : Addr} {fs fs' : List (Str × V)} {size : Int} {L : List Tb} {w0 w1 : Str} {t : T5} (p : RdPre K H x R cR rw S td inp size L w0 w1 t) (hx : H x = some (.ins C dx fs)) : RdPre K (upd H x (.ins C dx' fs')) x R cR rw S td inp size L w0 w1 t := by
  have k : Kp [x] H (upd H x (.ins C dx' fs')) := (Kp.refl _ _).upd (List.mem_singleton.mpr rfl) _
  have wr : Wrs H [x] := fun m hm => by rw [List.mem_singleton.mp hm]; exact Wr.ins hx
  refine ⟨p.rd.kp k wr (by simpa using p.nR), p.sto.kp k wr (by simpa using p.nS) ?_ ?_, p.fits, kp_L k (by simpa using p.nI) p.ain, p.nR, p.nS, p.nI, p.s1, p.s8⟩
  · simpa using ne_of p.sto.tabs.dic hx (by intro z; cases z)
  · intro e he
    simpa using ne_of (p.sto.tabs.tb e he).lst0 hx (by intro z; cases z)
/-- so far -/
structure RiAt (K : PySem.W.Frag) (H H1 : Hp) (x dx lk R cR rw S td inp : Addr) (size : Int) (L : List Tb) (w0 w1 : Str) (t : T5) (fs : List (Str × V)) : Prop where
  ins : H1 x = some (.ins (c_Recorded K) dx fs)
  lk : H1 lk = some (.lst [])
  pre : RdPre K H1 x R cR rw S td inp size L w0 w1 t
  kp : Kp [x] H H1
theorem RiAt.put {H H1 : Hp} {x dx lk R cR rw S td inp : Addr} {size : Int} {L : List Tb} {w0 w1 : Str} {t : T5} {fs : List (Str × V)} (i : RiAt K H H1 x dx lk R cR rw S td inp size L w0 w1 t fs) (fs' : List (Str × V)) : RiAt K H (upd H1 x (.ins (c_Recorded K) dx fs')) x dx lk R cR rw S td inp size L w0 w1 t fs' := by
  refine ⟨upd_same, ?_, i.pre.upx i.ins, i.kp.upd (List.mem_singleton.mpr rfl) _⟩
  rw [upd_ne (ne_of i.lk i.ins (by intro z; cases z))]
  exact i.lk
theorem RiAt.same {H H1 H2 : Hp} {x dx lk R cR rw S td inp : Addr} {size : Int} {L : List Tb} {w0 w1 : Str} {t : T5} {fs : List (Str × V)} (i : RiAt K H H1 x dx lk R cR rw S td inp size L w0 w1 t fs) (s : L2.Same H1 H2) : RiAt K H H2 x dx lk R cR rw S td inp size L w0 w1 t fs :=
  ⟨s _ _ i.ins, s _ _ i.lk, i.pre.same s, i.kp.trans (Kp.same s)⟩
def sp_Reading_init (K : PySem.W.Frag) : Sp := fun vs H Q _ => ∃ (x dx lk R cR rw S td inp : Addr) (size : Int) (L : List Tb) (w0 w1 : Str) (t : T5), vs = [.ref x, .ref R, .ref S, .ref inp] ∧ H x = some (.ins (c_Recorded K) dx [("_looks", .ref lk)]) ∧ H lk = some (.lst []) ∧ RdPre K H x R cR rw S td inp size L w0 w1 t ∧ (∀ e ∈ L, e.l ≠ lk) ∧
  ∀ H' hd, Kp [x, lk] H H' → H hd = none → RcAt K H' ⟨x, lk, hd, R, cR, rw, S, td, size, L, w0, w1, t⟩ ⟨"waits", "", 0, 0, 0, []⟩ → Q .non H'
theorem r_Reading_init (T : Txt w K mg) : FnR Pg w K mg base CX0 7 (a_Reading_init K) (sp_Reading_init K) := by
  refine fnr_of T.d_Reading_init sc_Reading_init (fun _ _ _ _ _ _ us hl => match us, hl with | [_, _, _, _], _ => rfl) (fun vs H Q E ⟨_, _, _, _, _, _, _, _, _, _, _, _, _, _, e, _⟩ => by rw [e] <;> rfl) fun cdv A outer s H vs Q E hr h => ?_
  obtain ⟨x, dx, lk, R, cR, rw_, S, td, inp, size, L, w0, w1, t, rfl, hx, hlk, pre, sep, q⟩ := h
  refine ⟨_, (pss_cons (ps_expr (pe_callR (r_check_reading T) (hr.mono (by decide)) rfl T.g_check_reading (fnr_kp T.d_check_reading) pass0 (pa_cons (pv 1) (pa_cons (pv 2) (pa_cons (pv 3) pa_nil)))))
    (pss_cons (ps_fld (pv 0) (pv 1) rfl)
    (pss_cons (ps_fld (pv 0) (pv 2) rfl)
    (pss_cons (ps_fld (pv 0) pe_str rfl)
    (pss_cons (ps_fld (pv 0) pe_str rfl)
    (pss_cons (ps_fld (pv 0) pe_int rfl)
    (pss_cons (ps_fld (pv 0) (pe_lst (StX.pa_star (pv 3) (StX.pa_star (pe_lc (own := [("_", 4)]) (g := gName 4) (tt := tYes) rfl sc_Reading_init.nd (pi_tup (pe_slice sl_tupA (kfld (K := K) rfl (pv 1)) (po_some (kfld (K := K) rfl (pv 1))) po_none)) (blkOk_by (own := [("_", 4)]) (N := n_Reading_init) (sc := defScope s_Reading_init) (by decide +kernel)) (fun _ _ _ _ _ => pg_name (i := 4) sc_Reading_init.nd rfl (Or.inl rfl)) (fun _ _ _ _ _ => pts_nil) (fun _ _ _ _ _ => pe_int)) pa_nil))) rfl)
    (pss_cons (ps_fld (pv 0) (pe_callTy (ktuple_of (K := K) rfl) (by rfl) T.n_tuple bt_tuple (pa_cons (kfld (K := K) rfl (pv 0)) pa_nil)) rfl)
    (pss_one (ps_expr (pe_methR0 (pv 0) T.cl_Recorded T.m_Recorded__run (r_Rec_run T) (hr.mono (by decide)) pass0))))))))))), ?_⟩
  refine ⟨_, rfl, _, rfl, _, rfl, R, cR, rw_, S, td, inp, size, L, w0, w1, t, rfl, pre.rd, pre.sto, pre.fits, pre.ain, fun H1 S1 => ?_⟩
  have i1 : RiAt K H H1 x dx lk R cR rw_ S td inp size L w0 w1 t (fsQ1 lk R S "waits" "" 0 lk lk) := ⟨S1 _ _ hx, S1 _ _ hlk, pre.same S1, Kp.same S1⟩
  refine ⟨_, rfl, _, rfl, x, _, dx, _, rfl, i1.ins, T.cl_Recorded, T.no_Recorded_reader, by show 1 < 1000; decide, ?_⟩
  rw [fsQ_p1]
  have i2 := i1.put (fsQ2 lk R S "waits" "" 0 lk lk)
  generalize upd H1 x (.ins (c_Recorded K) dx (fsQ2 lk R S "waits" "" 0 lk lk)) = H2 at i2
  refine ⟨_, rfl, _, rfl, x, _, dx, _, rfl, i2.ins, T.cl_Recorded, T.no_Recorded_store, by show 2 < 1000; decide, ?_⟩
  rw [fsQ_p2]
  have i3 := i2.put (fsQ3 lk R S "waits" "" 0 lk lk)
  generalize upd H2 x (.ins (c_Recorded K) dx (fsQ3 lk R S "waits" "" 0 lk lk)) = H3 at i3
  refine ⟨_, rfl, x, _, dx, _, rfl, i3.ins, T.cl_Recorded, T.no_Recorded_state, by show 3 < 1000; decide, ?_⟩
  rw [fsQ_p3]
  have i4 := i3.put (fsQ4 lk R S "waits" "" 0 lk lk)
  generalize upd H3 x (.ins (c_Recorded K) dx (fsQ4 lk R S "waits" "" 0 lk lk)) = H4 at i4
  refine ⟨_, rfl, x, _, dx, _, rfl, i4.ins, T.cl_Recorded, T.no_Recorded_why, by show 4 < 1000; decide, ?_⟩
  rw [fsQ_p4]
  have i5 := i4.put (fsQ5 lk R S "waits" "" 0 lk lk)
  generalize upd H4 x (.ins (c_Recorded K) dx (fsQ5 lk R S "waits" "" 0 lk lk)) = H5 at i5
  refine ⟨_, rfl, x, _, dx, _, rfl, i5.ins, T.cl_Recorded, T.no_Recorded_row, by show 5 < 1000; decide, ?_⟩
  rw [fsQ_p5]
  have i6 := i5.put (fsQ6 lk R S "waits" "" 0 lk lk)
  generalize upd H5 x (.ins (c_Recorded K) dx (fsQ6 lk R S "waits" "" 0 lk lk)) = H6 at i6
  obtain ⟨dR, hR⟩ := i6.pre.rd.ins
  refine ⟨_, rfl, inp, _, rfl, .inr i6.pre.ain, ?_⟩
  refine ⟨_, rfl, R, _, dR, _, _, rfl, hR, T.cl_Reader, T.no_Reader_cells, fsRd_cells _ _, ?_⟩
  refine ⟨_, rfl, R, _, dR, _, _, rfl, hR, T.cl_Reader, T.no_Reader_inputs, fsRd_inputs _ _, ?_⟩
  refine ⟨_, rfl, cR, _, rfl, SqT.of i6.pre.rd.cells, fun _ => ?_, fun z => absurd ⟨rfl, rfl⟩ z⟩
  refine ⟨cR, rfl, ⟨_, SqT.of i6.pre.rd.cells⟩, fun D hD => lcTu (K := K) (xs := [V.int 0, .int 0]) (fun i y _ => y = .int 0) hD (by decide) (SqT.of i6.pre.rd.cells) stabP (fun i c H2 Nx hc k hlD f => ?_) fun H7 ys k hD2 hlen hy => ?_⟩
  · exact ⟨rfl, f _ _ (L2.Same.refl _) rfl⟩
  have eys : ys = [.int 0, .int 0] := by
    match ys, hlen, hy with
    | [a, b], _, hy => rw [hy 0 a rfl, hy 1 b rfl]
  subst eys
  have S7 : L2.Same H6 H7 := fun b o e => k b o (by simpa using ne_of_none e hD) e
  have i7 := i6.same S7
  refine ⟨D, _, rfl, .inr (SqL.of hD2), ?_⟩
  refine ⟨by show 2 ≤ sizeLine; decide, fun hd hhd => ?_⟩
  have hHd : H hd = none := by
    refine i7.kp.free hhd ?_
    intro z
    rw [List.mem_singleton.mp z] at hhd
    rw [i7.ins] at hhd
    cases hhd
  have S8 := same_new hhd (.lst ([] ++ ([V.int 0, V.int 0] ++ [])))
  have g8 : (upd H7 hd (.lst ([] ++ ([V.int 0, V.int 0] ++ [])))) hd = some (.lst [.int 0, .int 0]) := upd_same
  have i8 := i7.same S8
  have nlk : lk ≠ hd := ne_of_none i7.lk hhd
  have nse : ∀ e ∈ L, e.l ≠ hd := fun e he => ne_of_none (i7.pre.sto.tabs.tb e he).lst0 hhd
  have nhx : hd ≠ x := fun z => by rw [← z] at i7; have := i7.ins; rw [hhd] at this; cases this
  refine ⟨_, rfl, x, _, dx, _, rfl, i8.ins, T.cl_Recorded, T.no_Recorded_held, by show 6 < 1000; decide, ?_⟩
  generalize upd H7 hd (.lst ([] ++ ([V.int 0, V.int 0] ++ []))) = H8 at S8 g8 i8
  rw [show putF "_held" (V.ref hd) (fsQ6 lk R S "waits" "" 0 lk lk) = fsQ7 lk R S "waits" "" 0 hd lk from fsQ_p6 ..]
  have i9 := i8.put (fsQ7 lk R S "waits" "" 0 hd lk)
  have g9 : (upd H8 x (.ins (c_Recorded K) dx (fsQ7 lk R S "waits" "" 0 hd lk))) hd = some (.lst [.int 0, .int 0]) := by rw [upd_ne nhx]; exact g8
  generalize upd H8 x (.ins (c_Recorded K) dx (fsQ7 lk R S "waits" "" 0 hd lk)) = H9 at i9 g9
  refine ⟨_, rfl, x, _, dx, _, _, rfl, i9.ins, T.cl_Recorded, T.no_Recorded_held, fsQ_held .., hd, _, rfl, .inl ⟨SqL.of g9, fun cl hcl => ?_⟩⟩
  have S10 := same_new hcl (.tup [V.int 0, .int 0])
  have g10 : (upd H9 cl (.tup [V.int 0, .int 0])) cl = some (.tup [.int 0, .int 0]) := upd_same
  have i10 := i9.same S10
  have g10h := S10 _ _ g9
  generalize upd H9 cl (.tup [V.int 0, .int 0]) = H10 at S10 g10 i10 g10h
  refine ⟨_, rfl, x, _, dx, _, rfl, i10.ins, T.cl_Recorded, T.no_Recorded_cells, by show 7 < 1000; decide, ?_⟩
  rw [show putF "cells" (V.ref cl) (fsQ7 lk R S "waits" "" 0 hd lk) = fsR lk R S "waits" "" 0 hd cl from fsQ_p7 ..]
  have i11 := i10.put (fsR lk R S "waits" "" 0 hd cl)
  have ncx : cl ≠ x := ne_of g10 i10.ins (by intro z; cases z)
  have g11 : (upd H10 x (.ins (c_Recorded K) dx (fsR lk R S "waits" "" 0 hd cl))) cl = some (.tup [.int 0, .int 0]) := by rw [upd_ne ncx]; exact g10
  have g11h : (upd H10 x (.ins (c_Recorded K) dx (fsR lk R S "waits" "" 0 hd cl))) hd = some (.lst [.int 0, .int 0]) := by rw [upd_ne nhx]; exact g10h
  generalize upd H10 x (.ins (c_Recorded K) dx (fsR lk R S "waits" "" 0 hd cl)) = H11 at i11 g11 g11h
  have x11 : RcAt K H11 ⟨x, lk, hd, R, cR, rw_, S, td, size, L, w0, w1, t⟩ ⟨"waits", "", 0, 0, 0, []⟩ :=
    ⟨⟨dx, cl, 0, 0, i11.ins, g11⟩, g11h, i11.lk, fun p hp => (by cases hp), i11.pre.rd, i11.pre.sto, nlk, i11.pre.nR, i11.pre.nS, fun e he => ⟨sep e he, nse e he⟩⟩
  obtain ⟨e0, he0, n0, _⟩ := pre.fits.e0
  obtain ⟨e1, he1, n1, _⟩ := pre.fits.e1
  refine ⟨_, rfl, x, dx, _, rfl, i11.ins, fsR_mNrun .., _, _, e0, e1, rfl, x11, ⟨pre.s1, pre.s8, pre.fits⟩, rfl, .inl rfl, he0, n0, he1, n1, by show 0 < 900; decide, fun z => absurd (show (0 : Int) = 2 from z) (by decide), fun H12 v' k12 x12 ph => ?_⟩
  have ev : v' = ⟨"waits", "", 0, 0, 0, []⟩ := by
    rcases ph with ⟨_, e⟩ | ⟨z, _⟩
    · exact e
    · exact absurd z (by decide)
  rw [ev] at x12
  refine q H12 hd (fun b o n e => ?_) hHd x12
  have nx : b ≠ x := fun z => n (by rw [z]; simp)
  have nl : b ≠ lk := fun z => n (by rw [z]; simp)
  refine k12 b o ?_ (i11.kp b o (by simpa using nx) e)
  have nh : b ≠ hd := fun z => by rw [z, hHd] at e; cases e
  intro z
  rcases List.mem_cons.mp z with z | z
  · exact nx z
  · rcases List.mem_cons.mp z with z | z
    · exact nl z
    · exact nh (List.mem_singleton.mp z)
end
end K85

set_option Elab.async false
set_option linter.all false
set_option maxRecDepth 100000
set_option maxHeartbeats 4000000
namespace K85
open PySem PySem.Spec PyProof.Rows L2
section
variable {w : World} {K : PySem.W.Frag} {mg : Str → Option Value} {base : Heap}
def sp_Rec_init (K : PySem.W.Frag) : Sp := fun vs H Q _ => ∃ (x dx R cR rw S td inp : Addr) (size : Int) (L : List Tb) (w0 w1 : Str) (t : T5), vs = [.ref x, .ref R, .ref S, .ref inp] ∧ H x = some (.ins (c_Recorded K) dx []) ∧ RdPre K H x R cR rw S td inp size L w0 w1 t ∧
  ∀ H' lk hd, Kp [x] H H' → H lk = none → H hd = none → RcAt K H' ⟨x, lk, hd, R, cR, rw, S, td, size, L, w0, w1, t⟩ ⟨"waits", "", 0, 0, 0, []⟩ → Q .non H'
theorem r_Rec_init (T : Txt w K mg) : FnR Pg w K mg base CX0 8 (a_Rec_init K) (sp_Rec_init K) := by
  obtain ⟨cda, cc, F⟩ := T.u_Rec_init
  refine fnS F sc_Rec_init (fun _ _ _ _ _ _ _ us hl => match us, hl with | [_, _, _, _], _ => .of_eq rfl) (fun vs H Q E ⟨_, _, _, _, _, _, _, _, _, _, _, _, _, e, _⟩ => by rw [e] <;> rfl) fun A outer s H vs Q E hr h => ?_
  obtain ⟨x, dx, R, cR, rw_, S, td, inp, size, L, w0, w1, t, rfl, hx, pre, q⟩ := h
  refine ⟨_, psa_cons (psa_st (ps_fld (pv 0) (pe_lst pa_nil) rfl)) (psa_cons (psa_expr (pea_super F T.sup T.su_init (r_Reading_init T) hr pass0 ⟨_, rfl⟩ rfl rfl rfl rfl rfl (pa_cons (pv 1) (pa_cons (pv 2) (pa_cons (pv 3) pa_nil))))) (psa_of pss_nil)), ?_⟩
  refine ⟨by show 0 ≤ sizeLine; decide, fun lk hlk => ?_⟩
  have S1 := same_new hlk (.lst [])
  have g1 : (upd H lk (.lst [])) lk = some (.lst []) := upd_same
  have hx1 := S1 _ _ hx
  have p1 := pre.same S1
  have sep : ∀ e ∈ L, e.l ≠ lk := fun e he => ne_of_none (pre.sto.tabs.tb e he).lst0 hlk
  have nlx : lk ≠ x := fun z => by rw [z, hx] at hlk; cases hlk
  generalize upd H lk (.lst []) = H1 at S1 g1 hx1 p1
  refine ⟨_, rfl, x, _, dx, _, rfl, hx1, T.cl_Recorded, T.no_Recorded_looks, by show 0 < 1000; decide, ?_⟩
  have p2 := p1.upx (dx' := dx) (fs' := putF "_looks" (.ref lk) []) hx1
  have g2 : (upd H1 x (.ins (c_Recorded K) dx (putF "_looks" (.ref lk) []))) lk = some (.lst []) := by rw [upd_ne nlx]; exact g1
  have k2 : Kp [x] H1 (upd H1 x (.ins (c_Recorded K) dx (putF "_looks" (.ref lk) []))) := lockK _ _ _
  have hx2 : (upd H1 x (.ins (c_Recorded K) dx (putF "_looks" (.ref lk) []))) x = some (.ins (c_Recorded K) dx [("_looks", .ref lk)]) := upd_same
  generalize upd H1 x (.ins (c_Recorded K) dx (putF "_looks" (.ref lk) [])) = H2 at p2 g2 k2 hx2
  refine ⟨x, dx, _, rfl, hx2, fun qa hqa => ?_⟩
  have S3 := same_new hqa (.met (a_Reading_init K) x)
  have h3 : (upd H2 qa (.met (a_Reading_init K) x)) qa = some (.met (a_Reading_init K) x) := upd_same
  generalize upd H2 qa (.met (a_Reading_init K) x) = H3 at S3 h3
  refine ⟨_, rfl, _, rfl, _, rfl, h3, x, dx, lk, R, cR, rw_, S, td, inp, size, L, w0, w1, t, rfl, S3 _ _ hx2, S3 _ _ g2, p2.same S3, sep, fun H4 hd k4 hhd x4 => ?_⟩
  have hd0 : H hd = none := by
    have z : hd ≠ x := fun z => by rw [z, S3 _ _ hx2] at hhd; cases hhd
    exact ((Kp.same (M := [x]) S1).trans (k2.trans (Kp.same S3))).free hhd (by simpa using z)
  refine q H4 lk hd (fun b o n e => ?_) hlk hd0 x4
  have nx : b ≠ x := by simpa using n
  refine k4 b o ?_ (S3 _ _ (k2 b o n (S1 _ _ e)))
  intro z
  rcases List.mem_cons.mp z with z | z
  · exact nx z
  · rw [List.mem_singleton.mp z, hlk] at e
    cases e
end
end K85

set_option Elab.async false
set_option linter.all false
set_option maxRecDepth 100000
set_option maxHeartbeats 4000000
namespace K85
open PySem PySem.Spec PyProof.Rows L2
section
variable {w : World} {K : PySem.W.Frag} {mg : Str → Option Value} {base : Heap}
/-- the object written anew, its lists changed -/
theorem RcAt.re {H H1 : Hp} {r : RcS} {v : RcV} (x : RcAt K H r v) (k : Kp [r.x] H H1) {dx cl lk hd : Addr} {c0 c1 a b : Int} {st wy : Str} {row : Int} {ls : List (Addr × PyData)} (hx : H1 r.x = some (.ins (c_Recorded K) dx (fsR lk r.R r.S st wy row hd cl)))
    (hc : H1 cl = some (.tup [.int c0, .int c1])) (hh : H1 hd = some (.lst [.int a, .int b])) (hl : H1 lk = some (.lst (ls.map fun p => V.ref p.1))) (hls : ∀ p ∈ ls, Dp K H1 (.ref p.1) p.2 ∧ keyable p.2 = true) (ne : lk ≠ hd) (sep : ∀ e ∈ r.L, e.l ≠ lk ∧ e.l ≠ hd) :
    RcAt K H1 { r with lk := lk, hd := hd } ⟨st, wy, row, a, b, ls⟩ := by
  obtain ⟨dx0, cl0, d0, d1, h1, h2⟩ := x.ins
  have wr : Wrs H [r.x] := fun m hm => by rw [List.mem_singleton.mp hm]; exact Wr.ins h1
  refine ⟨⟨dx, cl, c0, c1, hx, hc⟩, hh, hl, hls, x.rd.kp k wr (by simpa using x.nR), x.sto.kp k wr (by simpa using x.nS) ?_ ?_, ne, x.nR, x.nS, sep⟩
  · simpa using ne_of x.sto.tabs.dic h1 (by intro z; cases z)
  · intro e he
    simpa using ne_of (x.sto.tabs.tb e he).lst0 h1 (by intro z; cases z)
def sp_Rec_like (K : PySem.W.Frag) : Sp := fun vs H Q _ => ∃ (r r2 : RcS) (v v2 : RcV), vs = [.ref r2.x, .ref r.x] ∧ RcAt K H r2 v2 ∧ RcAt K H r v ∧ r.x ≠ r2.x ∧
  ∀ H' hd a b, Kp [r2.x] H H' → H hd = none → RcAt K H' { r2 with hd := hd } ⟨v.st, v.wy, v.row, a, b, v2.ls⟩ → Q .non H'
theorem r_Rec_like (T : Txt w K mg) : FnR Pg w K mg base CX0 1 (a_Rec_like K) (sp_Rec_like K) := by
  refine fnr_of T.d_Rec_like sc_Rec_like (fun _ _ _ _ _ _ us hl => match us, hl with | [_, _], _ => rfl) (fun vs H Q E ⟨_, _, _, _, e, _⟩ => by rw [e] <;> rfl) fun cdv A outer s H vs Q E hr h => ?_
  obtain ⟨r, r2, v, v2, rfl, x2, x, ne, q⟩ := h
  refine ⟨_, (pss_cons (ps_fld (pv 0) (kfld (K := K) rfl (pv 1)) rfl)
    (pss_cons (ps_fld (pv 0) (kfld (K := K) rfl (pv 1)) rfl)
    (pss_cons (ps_fld (pv 0) (kfld (K := K) rfl (pv 1)) rfl)
    (pss_cons (ps_fld (pv 0) (kfld (K := K) rfl (pv 1)) rfl)
    (pss_one (ps_fld (pv 0) (pe_callTy (klist_of (K := K) rfl) (by rfl) T.n_list bt_list (pa_cons (kfld (K := K) rfl (pv 1)) pa_nil)) rfl)))))), ?_⟩
  obtain ⟨dx, cl, c0, c1, h1, h2⟩ := x.ins
  obtain ⟨dx2, cl2, d0, d1, g1, g2⟩ := x2.ins
  have ncl : cl ≠ r2.x := ne_of h2 g1 (by intro z; cases z)
  have st : ∀ {H1 : Hp} {fs : List (Str × V)}, Kp [r2.x] H H1 → Kp [r2.x] H (upd H1 r2.x (.ins (c_Recorded K) dx2 fs)) ∧ (upd H1 r2.x (.ins (c_Recorded K) dx2 fs)) r2.x = some (.ins (c_Recorded K) dx2 fs) := fun k => ⟨k.upd (List.mem_singleton.mpr rfl) _, upd_same⟩
  refine ⟨_, rfl, r.x, _, dx, _, _, rfl, h1, T.cl_Recorded, T.no_Recorded_state, fsR_state .., _, rfl, r2.x, _, dx2, _, rfl, g1, T.cl_Recorded, T.no_Recorded_state, by show 8 < 1000; decide, ?_⟩
  rw [fsR_pstate]
  obtain ⟨k1, i1⟩ := st (fs := fsR r2.lk r2.R r2.S v.st v2.wy v2.row r2.hd cl2) (Kp.refl _ H)
  have o1 := k1 _ _ (by simpa using ne) h1
  generalize upd H r2.x (.ins (c_Recorded K) dx2 (fsR r2.lk r2.R r2.S v.st v2.wy v2.row r2.hd cl2)) = H1 at k1 i1 o1
  refine ⟨_, rfl, r.x, _, dx, _, _, rfl, o1, T.cl_Recorded, T.no_Recorded_why, fsR_why .., _, rfl, r2.x, _, dx2, _, rfl, i1, T.cl_Recorded, T.no_Recorded_why, by show 8 < 1000; decide, ?_⟩
  rw [fsR_pwhy]
  obtain ⟨k2, i2⟩ := st (fs := fsR r2.lk r2.R r2.S v.st v.wy v2.row r2.hd cl2) k1
  have o2 := k2 _ _ (by simpa using ne) h1
  generalize upd H1 r2.x (.ins (c_Recorded K) dx2 (fsR r2.lk r2.R r2.S v.st v.wy v2.row r2.hd cl2)) = H2 at k2 i2 o2
  refine ⟨_, rfl, r.x, _, dx, _, _, rfl, o2, T.cl_Recorded, T.no_Recorded_row, fsR_row .., _, rfl, r2.x, _, dx2, _, rfl, i2, T.cl_Recorded, T.no_Recorded_row, by show 8 < 1000; decide, ?_⟩
  rw [fsR_prow]
  obtain ⟨k3, i3⟩ := st (fs := fsR r2.lk r2.R r2.S v.st v.wy v.row r2.hd cl2) k2
  have o3 := k3 _ _ (by simpa using ne) h1
  generalize upd H2 r2.x (.ins (c_Recorded K) dx2 (fsR r2.lk r2.R r2.S v.st v.wy v.row r2.hd cl2)) = H3 at k3 i3 o3
  refine ⟨_, rfl, r.x, _, dx, _, _, rfl, o3, T.cl_Recorded, T.no_Recorded_cells, fsR_cells .., _, rfl, r2.x, _, dx2, _, rfl, i3, T.cl_Recorded, T.no_Recorded_cells, by show 8 < 1000; decide, ?_⟩
  rw [fsR_pcells]
  obtain ⟨k4, i4⟩ := st (fs := fsR r2.lk r2.R r2.S v.st v.wy v.row r2.hd cl) k3
  have o4 := k4 _ _ (by simpa using ne) h1
  have c4 := k4 _ _ (by simpa using ncl) h2
  generalize upd H3 r2.x (.ins (c_Recorded K) dx2 (fsR r2.lk r2.R r2.S v.st v.wy v.row r2.hd cl)) = H4 at k4 i4 o4 c4
  refine ⟨_, rfl, r.x, _, dx, _, _, rfl, o4, T.cl_Recorded, T.no_Recorded_cells, fsR_cells .., cl, _, rfl, .inr (SqT.of c4), fun hd hhd => ?_⟩
  have S5 := same_new hhd (.lst [.int c0, .int c1])
  have g5 : (upd H4 hd (.lst [.int c0, .int c1])) hd = some (.lst [.int c0, .int c1]) := upd_same
  have nhx : hd ≠ r2.x := fun z => by rw [z, i4] at hhd; cases hhd
  have hhd0 : H hd = none := k4.free hhd (by simpa using nhx)
  refine ⟨_, rfl, r2.x, _, dx2, _, rfl, S5 _ _ i4, T.cl_Recorded, T.no_Recorded_held, by show 8 < 1000; decide, ?_⟩
  rw [fsR_pheld]
  have k5 : Kp [r2.x] H (upd H4 hd (.lst [.int c0, .int c1])) := k4.trans (Kp.same S5)
  have c5 := S5 _ _ c4
  generalize upd H4 hd (.lst [.int c0, .int c1]) = H5 at S5 g5 k5 c5
  obtain ⟨k6, i6⟩ := st (fs := fsR r2.lk r2.R r2.S v.st v.wy v.row hd cl) k5
  have g6 : (upd H5 r2.x (.ins (c_Recorded K) dx2 (fsR r2.lk r2.R r2.S v.st v.wy v.row hd cl))) hd = some (.lst [.int c0, .int c1]) := by rw [upd_ne nhx]; exact g5
  have c6 : (upd H5 r2.x (.ins (c_Recorded K) dx2 (fsR r2.lk r2.R r2.S v.st v.wy v.row hd cl))) cl = some (.tup [.int c0, .int c1]) := by rw [upd_ne ncl]; exact c5
  generalize upd H5 r2.x (.ins (c_Recorded K) dx2 (fsR r2.lk r2.R r2.S v.st v.wy v.row hd cl)) = H6 at k6 i6 g6 c6
  have wr : Wrs H [r2.x] := fun m hm => by rw [List.mem_singleton.mp hm]; exact Wr.ins g1
  exact q H6 hd c0 c1 k6 hhd0 (x2.re k6 i6 c6 g6 (k6 _ _ (by simpa using Ne.symm x2.xlk) x2.looks) (fun p hp => ⟨dp_kp k6 wr _ _ (x2.lks p hp).2 (x2.lks p hp).1, (x2.lks p hp).2⟩) (ne_of_none x2.looks hhd0) fun e he => ⟨(x2.sep e he).1, ne_of_none (x2.sto.tabs.tb e he).lst0 hhd0⟩)
end
end K85

set_option Elab.async false
set_option linter.all false
set_option maxRecDepth 100000
set_option maxHeartbeats 4000000
/-! The plain law of told looks: in order, each once. -/
namespace K85
open PySem PySem.Spec PyProof.Rows L2
abbrev dO : PyProof.Rows.KeyOrd := PyProof.Rows.listOrd PyProof.Rows.itemOrd
abbrev dlt (a b : PyData) : Prop := dO.blt (PySem.W.keyToks a) (PySem.W.keyToks b) = true
theorem dlt_irrefl {a : PyData} (h : dlt a a) : False := by
  rw [dlt, dO.irrefl] at h
  cases h
theorem dlt_trans {a b c : PyData} (h : dlt a b) (g : dlt b c) : dlt a c := dO.trans _ _ _ h g
structure IsU (ds fs : List PyData) : Prop where
  st : fs.Pairwise dlt
  mem : ∀ d, d ∈ fs ↔ d ∈ ds
theorem dlt_eq : ∀ {fs gs : List PyData}, fs.Pairwise dlt → gs.Pairwise dlt → (∀ d, d ∈ fs ↔ d ∈ gs) → fs = gs
  | [], [], _, _, _ => rfl
  | [], g :: gs, _, _, h => by have z := (h g).mpr List.mem_cons_self; cases z
  | f :: fs, [], _, _, h => by have z := (h f).mp List.mem_cons_self; cases z
  | f :: fs, g :: gs, hf, hg, h => by
    rw [List.pairwise_cons] at hf hg
    have e : f = g := by
      rcases List.mem_cons.mp ((h f).mp List.mem_cons_self) with z | z
      · exact z
      · rcases List.mem_cons.mp ((h g).mpr List.mem_cons_self) with y | y
        · exact y.symm
        · exact (dlt_irrefl (dlt_trans (hg.1 f z) (hf.1 g y))).elim
    subst e
    refine congrArg (f :: ·) (dlt_eq hf.2 hg.2 fun d => ?_)
    constructor
    · intro hd
      rcases List.mem_cons.mp ((h d).mp (List.mem_cons_of_mem _ hd)) with z | z
      · exact (dlt_irrefl (z ▸ hf.1 d hd)).elim
      · exact z
    · intro hd
      rcases List.mem_cons.mp ((h d).mpr (List.mem_cons_of_mem _ hd)) with z | z
      · exact (dlt_irrefl (z ▸ hg.1 d hd)).elim
      · exact z
theorem IsU.uniq {ds es fs gs : List PyData} (x : IsU ds fs) (y : IsU es gs) (h : ∀ d, d ∈ ds ↔ d ∈ es) : fs = gs := dlt_eq x.st y.st fun d => (x.mem d).trans ((h d).trans (y.mem d).symm)
/-! ### looks -/
def isLk (d : PyData) : Prop := ∃ nm ns b, PyData.canLay0 (.str nm) = true ∧ d = lookD nm ns b
theorem toks_ints : ∀ {ns ms : List Int} {l m : List (Int ⊕ List Nat)}, PySem.W.keyToksAll (ns.map PyData.int) ++ l = PySem.W.keyToksAll (ms.map PyData.int) ++ m → ns = ms ∧ l = m
  | [], [], l, m, h => ⟨rfl, by simpa [PySem.W.keyToksAll] using h⟩
  | [], b :: ms, l, m, h => by simp [PySem.W.keyToksAll] at h
  | a :: ns, [], l, m, h => by simp [PySem.W.keyToksAll] at h
  | a :: ns, b :: ms, l, m, h => by
    simp only [List.map_cons, PySem.W.keyToksAll, PySem.W.keyToks, List.cons_append, List.nil_append, List.cons.injEq, Sum.inl.injEq, true_and, List.append_assoc] at h
    obtain ⟨e, h⟩ := h
    obtain ⟨e1, e2⟩ := toks_ints h
    exact ⟨by rw [e, e1], e2⟩
theorem toks_look {nm nm' : Str} {ns ns' : List Int} {b b' : Bool} (h : PySem.W.keyToks (lookD nm ns b) = PySem.W.keyToks (lookD nm' ns' b')) : lookD nm ns b = lookD nm' ns' b' := by
  simp only [lookD, rowD, PySem.W.keyToksAll, PySem.W.keyToks, List.cons_append, List.nil_append, List.cons.injEq, Sum.inr.injEq, true_and] at h
  obtain ⟨e, h⟩ := h
  obtain ⟨e1, e2⟩ := toks_ints h
  have eb : b = b' := by
    cases b <;> cases b' <;> simp at e2 <;> rfl
  rw [PySem.W.str_of_cps e, e1, eb]
theorem key_ints : ∀ {ns ms : List Int}, keysOf (ns.map PyData.int) = keysOf (ms.map PyData.int) → ns = ms
  | [], [], _ => rfl
  | [], b :: ms, h => by simp [keysOf] at h
  | a :: ns, [], h => by simp [keysOf] at h
  | a :: ns, b :: ms, h => by
    simp only [List.map_cons, keysOf, keyOf, List.cons.injEq, NestedKey.num.injEq] at h
    rw [h.1, key_ints h.2]
theorem key_look_inj {nm nm' : Str} {ns ns' : List Int} {b b' : Bool} (h : keyOf (lookD nm ns b) = keyOf (lookD nm' ns' b')) : lookD nm ns b = lookD nm' ns' b' := by
  simp only [lookD, rowD, keyOf, keysOf, NestedKey.tup.injEq, List.cons.injEq, NestedKey.text.injEq, NestedKey.num.injEq] at h
  obtain ⟨e, e1, e2, _⟩ := h
  have eb : b = b' := by
    cases b <;> cases b' <;> simp at e2 <;> rfl
  rw [e, key_ints e1, eb]
theorem isLk.inj {d e : PyData} (x : isLk d) (y : isLk e) (h : keyOf d = keyOf e) : d = e := by
  obtain ⟨nm, ns, b, _, rfl⟩ := x
  obtain ⟨nm', ns', b', _, rfl⟩ := y
  exact key_look_inj h
theorem isLk.toks {d e : PyData} (x : isLk d) (y : isLk e) (h : PySem.W.keyToks d = PySem.W.keyToks e) : d = e := by
  obtain ⟨nm, ns, b, _, rfl⟩ := x
  obtain ⟨nm', ns', b', _, rfl⟩ := y
  exact toks_look h
theorem depth_ints : ∀ ns : List Int, NestedKey.depthAll (keysOf (ns.map PyData.int)) ≤ 1
  | [] => by simp [keysOf, NestedKey.depthAll]
  | n :: ns => by
    have := depth_ints ns
    simp [keysOf, keyOf, NestedKey.depthAll, NestedKey.depth]
    omega
theorem isLk.mem8 {d : PyData} (x : isLk d) : Mem8 d := by
  obtain ⟨nm, ns, b, _, rfl⟩ := x
  refine ⟨key_look nm ns b, ?_⟩
  have := depth_ints ns
  simp [lookD, rowD, keyOf, keysOf, NestedKey.depth, NestedKey.depthAll]
  omega
theorem isLk.key {d : PyData} (x : isLk d) : keyable d = true := x.mem8.1
theorem sortOk_lk {L : List (Addr × PyData)} (h : ∀ p ∈ L, isLk p.2) : SortOk L where
  al := by
    intro d hd d' hd'
    obtain ⟨q, hq, rfl⟩ := List.mem_map.mp hd
    obtain ⟨q', hq', rfl⟩ := List.mem_map.mp hd'
    obtain ⟨nm, ns, b, _, e⟩ := h q hq
    obtain ⟨nm', ns', b', _, e'⟩ := h q' hq'
    rw [e, e']
    have z := PySem.W.alike_ints ns ns'
    simp only [lookD, PySem.W.alike, PySem.W.alikeAll, Bool.true_and, Bool.and_true]
    exact z
  so := by
    refine .inl fun d hd => ?_
    obtain ⟨q, hq, rfl⟩ := List.mem_map.mp hd
    obtain ⟨nm, ns, b, _, e⟩ := h q hq
    exact ⟨_, _, e⟩
  dp := by
    intro p hp
    obtain ⟨nm, ns, b, _, e⟩ := h p hp
    rw [e]
    have : ∀ ns : List Int, PyData.depthAll (ns.map PyData.int) ≤ 1 := fun ns => by
      induction ns with
      | nil => simp [PyData.depthAll]
      | cons n ns ih => simp [PyData.depthAll, PyData.depth]; omega
    have := this ns
    simp [lookD, rowD, PyData.depth, PyData.depthAll]
    omega
theorem shaped_lk {d : PyData} (x : isLk d) : SeqAt.shaped d = true := by
  obtain ⟨nm, ns, b, hn, rfl⟩ := x
  unfold SeqAt.shaped
  have h1 : (lookD nm ns b).canLay0 = true := by
    show (PyData.canLay0 (.str nm) && (PyData.canLay0 (rowD ns) && (PyData.canLay0 (.bool b) && true))) = true
    rw [lay_row, hn] <;> rfl
  have h2 : (lookD nm ns b).depth ≤ 64 := by
    show max (PyData.depth (.str nm)) (max (rowD ns).depth (max (PyData.depth (.bool b)) 0)) + 1 ≤ 64
    rw [dep_row]
    have e1 : PyData.depth (.str nm) = 0 := rfl
    have e2 : PyData.depth (.bool b) = 0 := rfl
    omega
  rw [h1, decide_eq_true h2] <;> rfl
/-- in order, with keys told once: strictly -/
theorem srt_dlt {L : List (Addr × PyData)} (hn : (L.map fun p => keyOf p.2).Nodup) (h : ∀ p ∈ L, isLk p.2) : ((srt L).map (·.2)).Pairwise dlt := by
  have pm : (srt L).Perm L := List.mergeSort_perm _ _
  have so := PySem.W.sort_pairwise (PySem.W.sortLe_total dO false fun p : Addr × PyData => PySem.W.keyToks p.2) L
  have nd : ((srt L).map fun p => keyOf p.2).Nodup := (pm.map _).nodup_iff.mpr hn
  have hm : ∀ p ∈ srt L, isLk p.2 := fun p hp => h p (pm.mem_iff.mp hp)
  rw [List.pairwise_map]
  have nd2 : (srt L).Pairwise fun a b => keyOf a.2 ≠ keyOf b.2 := by
    have z := nd
    rw [List.Nodup, List.pairwise_map] at z
    exact z
  have both := List.pairwise_and_iff.mpr ⟨so, nd2⟩
  refine both.imp_of_mem fun {a b} ha hb hab => ?_
  have h1 : (!dO.blt (PySem.W.keyToks b.2) (PySem.W.keyToks a.2)) = true := hab.1
  cases h2 : dO.blt (PySem.W.keyToks a.2) (PySem.W.keyToks b.2) with
  | true => exact h2
  | false =>
    have h3 : dO.blt (PySem.W.keyToks b.2) (PySem.W.keyToks a.2) = false := by simpa using h1
    exact absurd (congrArg keyOf ((hm a ha).toks (hm b hb) (dO.total _ _ h2 h3))) hab.2
/-- few members of a small crowd -/
theorem pig {α : Type} : ∀ {l m : List α}, l.Nodup → (∀ x ∈ l, x ∈ m) → l.length ≤ m.length
  | [], _, _, _ => Nat.zero_le _
  | x :: l, m, nd, sub => by
    classical
    rw [List.nodup_cons] at nd
    have hx := sub x List.mem_cons_self
    have z := pig (l := l) (m := m.erase x) nd.2 fun y hy => (List.mem_erase_of_ne (fun e => nd.1 (by rw [← e]; exact hy))).mpr (sub y (List.mem_cons_of_mem _ hy))
    have e := List.length_erase_of_mem hx
    have p := List.length_pos_of_mem hx
    rw [List.length_cons]
    omega
end K85

set_option Elab.async false
set_option linter.all false
set_option maxRecDepth 100000
set_option maxHeartbeats 4000000
namespace K85
open PySem PySem.Spec PyProof.Rows L2
section
variable {X : Cx} {K : PySem.W.Frag} {w : World}
theorem ksortS (hK : X.K = K) (hw : X.w = w) (hc : X.calm = true) (hu : X.A.units + 64 < cLine) : CallR X (.builtin "sorted") (rSortS K w) := by
  subst hK hw
  exact cr_sortS hc hu
end
section
variable {w : World} {K : PySem.W.Frag} {mg : Str → Option Value} {base : Heap}
/-- what the told looks must be -/
structure LkOk (ls : List (Addr × PyData)) : Prop where
  lk : ∀ p ∈ ls, isLk p.2
  few : ∃ U : List PyData, U.length ≤ 72 ∧ ∀ p ∈ ls, p.2 ∈ U
def sp_Rec_seen (K : PySem.W.Frag) : Sp := fun vs H Q _ => ∃ (r : RcS) (v : RcV), vs = [.ref r.x] ∧ RcAt K H r v ∧ LkOk v.ls ∧
  ∀ (H' : Hp) (p : Addr) (Ls : List (Addr × PyData)), L2.Same H H' → H' p = some (.lst (Ls.map fun q : Addr × PyData => V.ref q.1)) → H p = none → (∀ q ∈ Ls, Dp K H' (.ref q.1) q.2 ∧ isLk q.2) → IsU (v.ls.map (·.2)) (Ls.map (·.2)) → Q (.ref p) H'
theorem r_Rec_seen (T : Txt w K mg) : FnR Pg w K mg base CX0 1 (a_Rec_seen K) (sp_Rec_seen K) := by
  refine fnr_of T.d_Rec_seen sc_Rec_seen (fun _ _ _ _ _ _ us hl => match us, hl with | [_], _ => rfl) (fun vs H Q E ⟨_, _, e, _⟩ => by rw [e] <;> rfl) fun cdv A outer s H vs Q E hr h => ?_
  obtain ⟨r, v, rfl, x, ⟨hlk, U, hU, hfew⟩, q⟩ := h
  refine ⟨_, (pss_one (ps_ret (pe_callB (ksortS (K := K) (w := w) rfl rfl rfl hr.units) (by rfl) T.n_sorted bt_sorted (pa_cons (pe_scD (own := [("look", 1)]) (g := gName 1) (tt := tYes) rfl hr.units sc_Rec_seen.nd (pi_list (kfld (K := K) rfl (pv 0))) (blkOk_by (own := [("look", 1)]) (N := n_Rec_seen) (sc := defScope s_Rec_seen) (by decide +kernel)) (fun _ _ _ _ _ => pg_name (i := 1) sc_Rec_seen.nd rfl (Or.inl rfl)) (fun _ _ _ _ _ => pts_nil) (fun _ _ _ _ _ => (pv 1))) pa_nil)))), ?_⟩
  obtain ⟨dx, cl, c0, c1, h1, h2⟩ := x.ins
  refine ⟨_, rfl, r.x, _, dx, _, _, rfl, h1, T.cl_Recorded, T.no_Recorded_looks, fsR_looks .., r.lk, rfl, ⟨_, SqL.of x.looks⟩, fun D hD => ?_⟩
  have nD : r.lk ≠ D := ne_of_none x.looks hD
  refine scD_list (w := w) (K := K) (xs := v.ls.map fun p => V.ref p.1) (fun i H' => Kp [D] H H' ∧ ∃ L, H' D = some (SetDO w D L) ∧ Mems K H' L ∧ (L.map fun p => keyOf p.2).Nodup ∧ (∀ p ∈ L, isLk p.2 ∧ p.2 ∈ v.ls.map (·.2)) ∧ ∀ j p, j < i → v.ls[j]? = some p → ∃ q ∈ L, q.2 = p.2) ?_ (fun i H' _ ⟨k, _⟩ => .inl (.inl (k _ _ (by simpa using nD) x.looks))) ?_ ?_
  · exact ⟨lockK _ _ _, [], upd_same, (fun p hp => by cases hp), List.nodup_nil, (fun p hp => by cases hp), fun j p hj => absurd hj (Nat.not_lt_zero _)⟩
  · rintro i y H1 hy ⟨k1, L, hL, hM, nd, hin, hall⟩
    rw [List.getElem?_map] at hy
    cases hp : v.ls[i]? with
    | none => rw [hp] at hy; cases hy
    | some p =>
      rw [hp] at hy
      cases hy
      have hpm : p ∈ v.ls := List.mem_of_getElem? hp
      have wD : Wrs H1 [D] := fun m hm => by rw [List.mem_singleton.mp hm]; exact ⟨_, hL, trivial⟩
      have dp1 : Dp K H1 (.ref p.1) p.2 := by
        have S1 : L2.Same H H1 := fun b o e => k1 b o (by simpa using ne_of_none e hD) e
        exact dp_same S1 _ _ (x.lks p hpm).1
      have lkp := hlk p hpm
      have len : L.length ≤ 72 := by
        have z := pig (l := L.map (·.2)) (m := U) ?_ ?_
        · rw [List.length_map] at z; omega
        · rw [List.Nodup, List.pairwise_map] at nd ⊢
          exact nd.imp fun h e => h (congrArg keyOf e)
        · intro d hd
          obtain ⟨p', hp', rfl⟩ := List.mem_map.mp hd
          obtain ⟨p'', hp'', e⟩ := List.mem_map.mp (hin p' hp').2
          rw [← e]
          exact hfew p'' hp''
      refine ⟨rfl, _, rfl, p.1, p.2, L, rfl, hL, hM, dp1, lkp.mem8, by omega, fun L' f1 f2 => ?_⟩
      have kU : Kp [D] H1 (upd H1 D (SetDO w D L')) := lockK _ _ _
      have up : (upd H1 D (SetDO w D L')) D = some (SetDO w D L') := upd_same
      generalize upd H1 D (SetDO w D L') = H2 at kU up
      by_cases hk : keyOf p.2 ∈ L.map fun p => keyOf p.2
      · have e := f1 hk
        subst e
        refine ⟨k1.trans kU, L', up, fun p hp => ⟨dp_kp kU wD _ _ (hM p hp).2.1 (hM p hp).1, (hM p hp).2⟩, nd, hin, fun j p' hj hp' => ?_⟩
        by_cases hji : j < i
        · exact hall j p' hji hp'
        · have e : j = i := by omega
          subst e
          rw [hp] at hp'
          cases hp'
          obtain ⟨p2, hp2, e2⟩ := List.mem_map.mp hk
          exact ⟨p2, hp2, (hin p2 hp2).1.inj lkp e2⟩
      · have pm := f2 hk
        have hM2 : Mems K H2 L' := fun p' hp' => by
          rcases List.mem_cons.mp (pm.mem_iff.mp hp') with z | z
          · rw [z]
            exact ⟨dp_kp kU wD _ _ lkp.key dp1, lkp.mem8⟩
          · exact ⟨dp_kp kU wD _ _ (hM p' z).2.1 (hM p' z).1, (hM p' z).2⟩
        refine ⟨k1.trans kU, L', up, hM2, ?_, fun p' hp' => ?_, fun j p' hj hp' => ?_⟩
        · refine (pm.map _).nodup_iff.mpr ?_
          rw [List.map_cons, List.nodup_cons]
          exact ⟨hk, nd⟩
        · rcases List.mem_cons.mp (pm.mem_iff.mp hp') with z | z
          · rw [z]
            exact ⟨lkp, List.mem_map.mpr ⟨p, hpm, rfl⟩⟩
          · exact hin p' z
        · by_cases hji : j < i
          · obtain ⟨q', hq', e⟩ := hall j p' hji hp'
            exact ⟨q', pm.mem_iff.mpr (List.mem_cons_of_mem _ hq'), e⟩
          · have e : j = i := by omega
            subst e
            rw [hp] at hp'
            cases hp'
            exact ⟨_, pm.mem_iff.mpr List.mem_cons_self, rfl⟩
  · rintro H1 ⟨k1, L, hL, hM, nd, hin, hall⟩
    rw [List.length_map] at hall
    have S1 : L2.Same H H1 := fun b o e => k1 b o (by simpa using ne_of_none e hD) e
    refine ⟨D, L, rfl, hL, hM, sortOk_lk fun p hp => (hin p hp).1, fun L' p pm hp => ?_⟩
    have S2 := same_new hp (.lst ((srt L').map fun q => V.ref q.1))
    have pm2 : (srt L').Perm L := (List.mergeSort_perm _ _).trans pm
    have hpH : H p = none := by
      cases e : H p with
      | none => rfl
      | some o => rw [S1 _ _ e] at hp; cases hp
    refine q _ p (srt L') (S1.trans S2) upd_same hpH (fun q hq => ?_) ⟨srt_dlt ((pm.map _).nodup_iff.mpr nd) fun p hp => (hin p (pm.mem_iff.mp hp)).1, fun d => ?_⟩
    · have hq' := pm2.mem_iff.mp hq
      exact ⟨dp_same S2 _ _ (hM q hq').1, (hin q hq').1⟩
    · constructor
      · intro hd
        obtain ⟨q', hq', rfl⟩ := List.mem_map.mp hd
        exact (hin q' (pm2.mem_iff.mp hq')).2
      · intro hd
        obtain ⟨q', hq', rfl⟩ := List.mem_map.mp hd
        obtain ⟨j, hj, e⟩ := List.getElem_of_mem hq'
        obtain ⟨q2, hq2, e2⟩ := hall j q' hj (by rw [List.getElem?_eq_getElem hj, e])
        exact List.mem_map.mpr ⟨q2, pm2.mem_iff.mpr hq2, e2⟩
end
end K85

set_option Elab.async false
set_option linter.all false
set_option maxRecDepth 100000
set_option maxHeartbeats 4000000
namespace K85
open PySem PySem.Spec PyProof.Rows L2
section
variable {w : World} {K : PySem.W.Frag} {mg : Str → Option Value} {base : Heap}
def sp_Rec_twin (K : PySem.W.Frag) : Sp := fun vs H Q _ => ∃ (r : RcS) (v : RcV), vs = [.ref r.x] ∧ RcAt K H r v ∧ RcOk r ∧ v.ls.length < 1000 ∧
  ∀ (H' : Hp) (x2 lk2 hd2 : Addr) (a b : Int), L2.Same H H' → H x2 = none → H lk2 = none → H hd2 = none → RcAt K H' { r with x := x2, lk := lk2, hd := hd2 } ⟨v.st, v.wy, v.row, a, b, v.ls⟩ → Q (.ref x2) H'
theorem same_none {H H1 : Hp} {a : Addr} (s : L2.Same H H1) (h : H1 a = none) : H a = none := by
  cases e : H a with
  | none => rfl
  | some o => rw [s _ _ e] at h; cases h
theorem r_Rec_twin (T : Txt w K mg) : FnR Pg w K mg base CX0 10 (a_Rec_twin K) (sp_Rec_twin K) := by
  refine fnr_of T.d_Rec_twin sc_Rec_twin (fun _ _ _ _ _ _ us hl => match us, hl with | [_], _ => rfl) (fun vs H Q E ⟨_, _, e, _⟩ => by rw [e] <;> rfl) fun cdv A outer s H vs Q E hr h => ?_
  obtain ⟨r, v, rfl, x, ok, hlen, q⟩ := h
  refine ⟨_, (pss_cons (ps_set (i := 1) sc_Rec_twin.nd rfl (Or.inl rfl) (StX.pe_makeR T.mk_Recorded (r_Rec_init T) (hr.mono (by decide)) rfl T.g_Recorded pass0 (pa_cons (kfld (K := K) rfl (pv 0)) (pa_cons (kfld (K := K) rfl (pv 0)) (pa_cons (pe_op op_rep (pe_lst (pa_cons pe_int pa_nil)) (kfld (K := K) rfl (kfld (K := K) rfl (pv 0)))) pa_nil)))))
    (pss_cons (ps_expr (pe_methR (pv 1) T.cl_Recorded T.m_Recorded__like (r_Rec_like T) (hr.mono (by decide)) pass0 (pa_cons (pv 0) pa_nil)))
    (pss_cons (ps_fld (pv 1) (pe_callTy (klist_of (K := K) rfl) (by rfl) T.n_list bt_list (pa_cons (kfld (K := K) rfl (pv 0)) pa_nil)) rfl)
    (pss_one (ps_ret (pv 1)))))), ?_⟩
  obtain ⟨dx, cl, c0, c1, h1, h2⟩ := x.ins
  obtain ⟨dR, hR⟩ := x.rd.ins
  refine ⟨_, rfl, r.x, _, dx, _, _, rfl, h1, T.cl_Recorded, T.no_Recorded_reader, fsR_reader .., _, rfl, r.x, _, dx, _, _, rfl, h1, T.cl_Recorded, T.no_Recorded_store, fsR_store .., ?_⟩
  refine ⟨by show 1 ≤ sizeLine; decide, fun z1 hz1 => ?_⟩
  have S1 := same_new hz1 (.lst [V.int 0])
  have gz : (upd H z1 (.lst [V.int 0])) z1 = some (.lst [V.int 0]) := upd_same
  generalize upd H z1 (.lst [V.int 0]) = H1 at S1 gz
  refine ⟨_, rfl, r.x, _, dx, _, _, rfl, S1 _ _ h1, T.cl_Recorded, T.no_Recorded_reader, fsR_reader .., r.R, _, dR, _, _, rfl, S1 _ _ hR, T.cl_Reader, T.no_Reader_inputs, fsRd_inputs _ _, ?_⟩
  refine ⟨z1, 0, _, rfl, rfl, gz, by decide, by decide, by decide, fun z2 hz2 => ?_⟩
  have S2 := S1.trans (same_new hz2 (.lst (List.replicate (0 : Int).toNat [V.int 0]).flatten))
  have gz2 : (upd H1 z2 (.lst (List.replicate (0 : Int).toNat [V.int 0]).flatten)) z2 = some (.lst []) := upd_same
  generalize upd H1 z2 (.lst (List.replicate (0 : Int).toNat [V.int 0]).flatten) = H2 at S2 gz2
  have x2 := x.same S2
  intro x2a dx2 hx2 hdx2 nx2
  have S3 : L2.Same H2 (upd (upd H2 dx2 (.own x2a)) x2a (.ins (c_Recorded K) dx2 [])) := same_newer (same_new hdx2 _) hx2 _
  have g3 : (upd (upd H2 dx2 (.own x2a)) x2a (.ins (c_Recorded K) dx2 [])) x2a = some (.ins (c_Recorded K) dx2 []) := upd_same
  generalize upd (upd H2 dx2 (.own x2a)) x2a (.ins (c_Recorded K) dx2 []) = H3 at S3 g3
  have x3 := x2.same S3
  have Sa := S2.trans S3
  have nx : r.x ≠ x2a := fun z => by rw [← z, S2 _ _ h1] at hx2; cases hx2
  have hx2' : H x2a = none := same_none S2 hx2
  refine ⟨x2a, dx2, r.R, r.cR, r.rw, r.S, r.td, z2, r.size, r.L, r.w0, r.w1, r.t, rfl, g3, ⟨x3.rd, x3.sto, ok.fits, SqL.of (S3 _ _ gz2), fun z => ?_, fun z => ?_, fun z => ?_, ok.s1, ok.s8⟩, fun H4 lk hd k4 hlk hhd x4 => ⟨rfl, ?_⟩⟩
  · rw [← z, S2 _ _ hR] at hx2; cases hx2
  · obtain ⟨dS, hS⟩ := x.sto.ins
    rw [← z, S2 _ _ hS] at hx2; cases hx2
  · rw [← z, gz2] at hx2; cases hx2
  have kk : L2.Same H H4 := fun b o e => k4 b o (by simpa using ne_of_none e hx2') (Sa b o e)
  obtain ⟨dx4, cl4, d0, d1, i1, i2⟩ := x4.ins
  refine ⟨_, rfl, x2a, dx4, _, rfl, i1, fsR_mNlike .., _, rfl, r, _, v, _, rfl, x4, x.same kk, nx, fun H5 hd5 a b k5 hhd5 x5 => ?_⟩
  have k5' : L2.Same H H5 := fun b o e => k5 b o (by simpa using ne_of_none e hx2') (kk b o e)
  obtain ⟨dx5, cl5, d0', d1', j1, j2⟩ := x5.ins
  have xo := x.same k5'
  obtain ⟨dxo, clo, do0, do1, o1, o2⟩ := xo.ins
  refine ⟨_, rfl, r.x, _, dxo, _, _, rfl, o1, T.cl_Recorded, T.no_Recorded_looks, fsR_looks .., r.lk, _, rfl, .inl (SqL.of xo.looks), fun lk6 hlk6 => ?_⟩
  have S6 := same_new hlk6 (.lst (v.ls.map fun p => V.ref p.1))
  have g6 : (upd H5 lk6 (.lst (v.ls.map fun p => V.ref p.1))) lk6 = some (.lst (v.ls.map fun p => V.ref p.1)) := upd_same
  have x6 := x5.same S6
  have xo6 := xo.same S6
  generalize upd H5 lk6 (.lst (v.ls.map fun p => V.ref p.1)) = H6 at S6 g6 x6 xo6
  obtain ⟨dx6, cl6, e0, e1, l1, l2⟩ := x6.ins
  replace l1 : H6 x2a = some (.ins (c_Recorded K) dx6 (fsR lk r.R r.S v.st v.wy v.row hd5 cl6)) := l1
  refine ⟨_, rfl, x2a, _, dx6, _, rfl, l1, T.cl_Recorded, T.no_Recorded_looks, by show 8 < 1000; decide, ?_⟩
  rw [fsR_plooks]
  have k7 : Kp [x2a] H6 (upd H6 x2a (.ins (c_Recorded K) dx6 (fsR lk6 r.R r.S v.st v.wy v.row hd5 cl6))) := lockK _ _ _
  have g7 : (upd H6 x2a (.ins (c_Recorded K) dx6 (fsR lk6 r.R r.S v.st v.wy v.row hd5 cl6))) x2a = some (.ins (c_Recorded K) dx6 (fsR lk6 r.R r.S v.st v.wy v.row hd5 cl6)) := upd_same
  have wx : Wrs H6 [x2a] := fun m hm => by rw [List.mem_singleton.mp hm]; exact Wr.ins l1
  generalize upd H6 x2a (.ins (c_Recorded K) dx6 (fsR lk6 r.R r.S v.st v.wy v.row hd5 cl6)) = H7 at k7 g7
  have hlk6' : H lk6 = none := same_none k5' hlk6
  have hhd5' : H hd5 = none := by
    cases e : H hd5 with
    | none => rfl
    | some o => rw [kk _ _ e] at hhd5; cases hhd5
  refine ⟨_, rfl, q H7 x2a lk6 hd5 a b (fun b o e => k7 b o (by simpa using ne_of_none e hx2') (S6 _ _ (k5' b o e))) hx2' hlk6' hhd5' ?_⟩
  refine x6.re k7 g7 (k7 _ _ (wx.no l2 rfl) l2) (k7 _ _ ?_ x6.held) (k7 _ _ ?_ g6) (fun p hp => ⟨dp_kp k7 wx _ _ (x.lks p hp).2 (xo6.lks p hp).1, (x.lks p hp).2⟩) (fun z => ?_) fun e he => ⟨ne_of_none (xo.sto.tabs.tb e he).lst0 hlk6, (x6.sep e he).2⟩
  · simpa using Ne.symm x6.xhd
  · intro z
    rw [List.mem_singleton.mp z] at g6
    rw [l1] at g6
    cases g6
  · have y := x5.held
    rw [show ({ r with x := x2a, lk := lk, hd := hd5 } : RcS).hd = hd5 from rfl] at y
    rw [z, y] at hlk6
    cases hlk6
end
end K85

set_option Elab.async false
set_option linter.all false
set_option maxRecDepth 100000
set_option maxHeartbeats 4000000
namespace K85
open PySem PySem.Spec PyProof.Rows L2
/-- the law's box of picks -/
structure BoxAt (H : Hp) (b sl : Addr) : Prop where
  ex : ∃ (ns : List Int) (idx big mix cnt : Int), H b = some (.lst [.ref sl, .int idx, .int big, .int mix, .int cnt]) ∧ H sl = some (.lst (ns.map V.int)) ∧ 0 ≤ idx ∧ 0 ≤ big ∧ 0 ≤ mix ∧ mix < 2147483587
theorem BoxAt.same {H H1 : Hp} {b sl : Addr} (x : BoxAt H b sl) (s : L2.Same H H1) : BoxAt H1 b sl := by
  obtain ⟨ns, i, g, m, c, h1, h2, r⟩ := x.ex
  exact ⟨ns, i, g, m, c, s _ _ h1, s _ _ h2, r⟩
theorem BoxAt.ne {H : Hp} {b sl : Addr} (x : BoxAt H b sl) : sl ≠ b := by
  obtain ⟨ns, i, g, m, c, h1, h2, r⟩ := x.ex
  intro e
  rw [e, h1] at h2
  injection h2 with h2
  injection h2 with h2
  cases ns with
  | nil => cases h2
  | cons n ns => injection h2 with h3; cases h3
theorem BoxAt.kp {H H1 : Hp} {M : List Addr} {b sl : Addr} (x : BoxAt H b sl) (k : Kp M H H1) (h1 : b ∉ M) (h2 : sl ∉ M) : BoxAt H1 b sl := by
  obtain ⟨ns, i, g, m, c, e1, e2, r⟩ := x.ex
  exact ⟨ns, i, g, m, c, k _ _ h1 e1, k _ _ h2 e2, r⟩
theorem cut_map {α : Type} {f : α → V} (ns : List α) (lo hi : Option Int) : ∃ ms : List α, cutV (ns.map f) lo hi = ms.map f ∧ ∀ m ∈ ms, m ∈ ns := by
  unfold cutV
  rw [← List.map_drop, ← List.map_take]
  exact ⟨_, rfl, fun m h => List.mem_of_mem_drop (List.mem_of_mem_take h)⟩
theorem cmulR {i j : Int} (h1 : -(2 ^ 64) < j) (h2 : j < 2 ^ 64) : CMul i j := .inr ⟨h1, h2⟩
section
variable {w : World} {K : PySem.W.Frag} {mg : Str → Option Value} {base : Heap}
def sp_law_box (K : PySem.W.Frag) : Sp := fun vs H Q _ => ∃ (a : Addr) (ns : List Int), vs = [.ref a] ∧ SqL K H a (ns.map V.int) ∧ ∀ (H' : Hp) (b sl : Addr), L2.Same H H' → H b = none → H sl = none → BoxAt H' b sl → Q (.ref b) H'
theorem r_law_box (T : Txt w K mg) : FnR Pg w K mg base CX0 1 (He.ga K "_law_box") (sp_law_box K) := by
  refine fnr_of T.d_law_box sc_law_box (fun _ _ _ _ _ _ us hl => match us, hl with | [_], _ => rfl) (fun vs H Q E ⟨_, _, e, _⟩ => by rw [e] <;> rfl) fun cdv A outer s H vs Q E hr h => ?_
  obtain ⟨a, ns, rfl, ha, q⟩ := h
  refine ⟨_, (pss_cons (ps_set (i := 1) sc_law_box.nd rfl (Or.inl rfl) pe_int)
    (pss_cons (ps_for PassesOwn.never rfl (pi_list (pe_slice sl_list (pv 0) po_none (po_some pe_int))) (pg_name (i := 2) sc_law_box.nd rfl (Or.inl rfl)) (pss_one (ps_set (i := 1) sc_law_box.nd rfl (Or.inl rfl) (pe_op op_mod (pe_callTy call_int1 (by rfl) T.n_int bt_int (pa_cons (pe_op op_add (pe_op op_add (pe_op op_mul (pv 1) pe_int) (pe_op op_mul (pe_op op_mod (pe_callTy call_int1 (by rfl) T.n_int bt_int (pa_cons (pv 2) pa_nil)) pe_int) pe_int)) pe_int) pa_nil)) pe_int))))
    (pss_one (ps_ret (pe_lst (pa_cons (pe_callTy (klist_of (K := K) rfl) (by rfl) T.n_list bt_list (pa_cons (pe_slice sl_list (pv 0) po_none (po_some pe_int)) pa_nil)) (pa_cons pe_int (pa_cons pe_int (pa_cons (pv 1) (pa_cons pe_int pa_nil)))))))))), ?_⟩
  refine ⟨_, rfl, _, rfl, a, _, rfl, ha, fun p hp => ?_⟩
  obtain ⟨ms, ems, _⟩ := cut_map (f := V.int) ns Option.none (some 63)
  have S1 := same_new hp (.lst (cutV (ns.map V.int) Option.none (some 63)))
  have g1 : (upd H p (.lst (cutV (ns.map V.int) Option.none (some 63)))) p = some (.lst (ms.map V.int)) := by rw [ems]; exact upd_same
  generalize upd H p (.lst (cutV (ns.map V.int) Option.none (some 63))) = H1 at S1 g1
  refine ⟨p, rfl, ⟨_, SqL.of g1⟩, for_it (walk_list (xs := ms.map V.int)) (fun i σ H' => ∃ m v2, σ = [some (.ref a), some (.int m), v2] ∧ H' = H1 ∧ 0 ≤ m ∧ m < 2147483579) ⟨_, _, rfl, rfl, by decide, by decide⟩ (fun i σ H' _ ⟨_, _, _, e, _, _⟩ => by rw [e]; exact SqL.of g1) ?_ ?_⟩
  · rintro i y σ H2 H' hi ⟨m, v2, rfl, rfl, m0, m1⟩ ⟨rfl, hy⟩
    rw [List.getElem?_map] at hy
    cases hn : ms[i]? with
    | none => rw [hn] at hy; cases hy
    | some n =>
      rw [hn] at hy
      cases hy
      refine ⟨_, rfl, _, _, rfl, rfl, cmulR (by decide) (by decide), ?_⟩
      refine ⟨_, rfl, .inl ⟨n, rfl, _, _, rfl, rfl, by show (0 : Int) < 1000003; decide, _, _, rfl, rfl, cmulR (by decide) (by decide), ?_⟩⟩
      refine ⟨_, _, rfl, rfl, _, _, rfl, rfl, .inl ⟨_, rfl, _, _, rfl, rfl, by show (0 : Int) < 2147483579; decide, ?_⟩⟩
      exact ⟨_, _, rfl, rfl, Int.emod_nonneg _ (by decide), Int.emod_lt_of_pos _ (by decide)⟩
  · rintro σ H2 ⟨m, v2, rfl, rfl, m0, m1⟩
    refine ⟨_, rfl, _, rfl, a, _, rfl, S1.seq ha, fun p2 hp2 => ?_⟩
    have S2 := S1.trans (same_new hp2 (.lst (cutV (ns.map V.int) Option.none (some 63))))
    have g2 : (upd H2 p2 (.lst (cutV (ns.map V.int) Option.none (some 63)))) p2 = some (.lst (ms.map V.int)) := by rw [ems]; exact upd_same
    generalize upd H2 p2 (.lst (cutV (ns.map V.int) Option.none (some 63))) = H3 at S2 g2
    refine ⟨p2, _, rfl, .inl (SqL.of g2), fun sl hsl => ?_⟩
    have S3 := same_new hsl (.lst (ms.map V.int))
    have g3 : (upd H3 sl (.lst (ms.map V.int))) sl = some (.lst (ms.map V.int)) := upd_same
    generalize upd H3 sl (.lst (ms.map V.int)) = H4 at S3 g3
    refine ⟨_, rfl, by show 5 ≤ sizeLine; decide, fun b hb => ?_⟩
    have S4 := same_new hb (.lst [V.ref sl, .int 0, .int 0, .int m, .int 0])
    exact q _ b sl ((S2.trans S3).trans S4) (same_none (S2.trans S3) hb) (same_none S2 hsl) ⟨ms, 0, 0, m, 0, upd_same, S4 _ _ g3, by decide, by decide, m0, by omega⟩
end
end K85

set_option Elab.async false
set_option linter.all false
set_option maxRecDepth 100000
set_option maxHeartbeats 4000000
namespace K85
open PySem PySem.Spec PyProof.Rows L2
theorem seq_pre {t u : TS} {D : Ends} {σ : L2.St} {H : Hp} (P : L2.St → Hp → Prop) (h2 : ∀ σ H, P σ H → u D σ H) (h1 : ∀ N : L2.St → Hp → Prop, (∀ σ H, P σ H → N σ H) → t { D with nx := N } σ H) : tSeq t u D σ H := h1 _ h2
theorem iteT' {b : Bool} {p q : Prop} (h : b = true) (x : p) : if b = true then p else q := by rw [if_pos h]; exact x
theorem iteF' {b : Bool} {p q : Prop} (h : b = false) (x : q) : if b = true then p else q := by rw [h]; exact x
structure BxAt (H0 H : Hp) (b sl : Addr) (ns : List Int) (idx big mix cnt : Int) : Prop where
  at_ : H b = some (.lst [.ref sl, .int idx, .int big, .int mix, .int cnt])
  kp : Kp [b] H0 H
theorem BxAt.put {H0 H : Hp} {b sl : Addr} {ns : List Int} {idx big mix cnt : Int} (x : BxAt H0 H b sl ns idx big mix cnt) (idx' big' mix' cnt' : Int) : BxAt H0 (upd H b (.lst [.ref sl, .int idx', .int big', .int mix', .int cnt'])) b sl ns idx' big' mix' cnt' :=
  ⟨upd_same, x.kp.upd (List.mem_singleton.mpr rfl) _⟩
section
variable {w : World} {K : PySem.W.Frag} {mg : Str → Option Value} {base : Heap}
def sp_law_pull (K : PySem.W.Frag) : Sp := fun vs H Q _ => ∃ (b sl : Addr) (many : Int), vs = [.ref b, .int many] ∧ BoxAt H b sl ∧ 0 < many ∧ many < 1000000 ∧ ∀ (H' : Hp) (d : Int), Kp [b] H H' → BoxAt H' b sl → 0 ≤ d → d < many → Q (.int d) H'
theorem r_law_pull (T : Txt w K mg) : FnR Pg w K mg base CX0 1 (He.ga K "_law_pull") (sp_law_pull K) := by
  refine fnr_of T.d_law_pull sc_law_pull (fun _ _ _ _ _ _ us hl => match us, hl with | [_, _], _ => rfl) (fun vs H Q E ⟨_, _, _, e, _⟩ => by rw [e] <;> rfl) fun cdv A outer s H vs Q E hr h => ?_
  obtain ⟨b, sl, many, rfl, bx, hm0, hm1, q⟩ := h
  refine ⟨_, (pss_cons (ps_asg (pe_op op_add (pe_ix (kix_list (K := K) rfl) (pv 0) pe_int (fun _ _ => rfl)) pe_int) (pg_sub (pv 0) pe_int set_list))
    (pss_cons (ps_if (PW.pt (pw_and (pt_cmpR op_eq (pe_ix (kix_list (K := K) rfl) (pv 0) pe_int (fun _ _ => rfl)) pe_int (nomark _)) (pw_and1 (pt_cmpR op_lt (pe_ix (kix_list (K := K) rfl) (pv 0) pe_int (fun _ _ => rfl)) (pe_callB (klen (K := K) rfl) (by rfl) T.n_len bt_len (pa_cons (pe_ix (kix_list (K := K) rfl) (pv 0) pe_int (fun _ _ => rfl)) pa_nil)) (nomark _))))) (pss_cons (ps_set (i := 2) sc_law_pull.nd rfl (Or.inl rfl) (pe_ix (kix_list (K := K) rfl) (pe_ix (kix_list (K := K) rfl) (pv 0) pe_int (fun _ _ => rfl)) (pe_ix (kix_list (K := K) rfl) (pv 0) pe_int (fun _ _ => rfl)) (fun _ _ => rfl)))
    (pss_cons (ps_asg (pe_op op_add (pe_ix (kix_list (K := K) rfl) (pv 0) pe_int (fun _ _ => rfl)) pe_int) (pg_sub (pv 0) pe_int set_list))
    (pss_one (ps_if (pt_cmpR op_ge (pe_callB call_abs (by rfl) T.n_abs bt_abs (pa_cons (pv 2) pa_nil)) (pe_op op_pow pe_int pe_int) (nomark _)) (pss_one (ps_asg (pe_callB call_abs (by rfl) T.n_abs bt_abs (pa_cons (pv 2) pa_nil)) (pg_sub (pv 0) pe_int set_list))) (pss_one (ps_asg (pe_op op_mod (pe_callTy call_int1 (by rfl) T.n_int bt_int (pa_cons (pe_op op_add (pe_op op_add (pe_op op_mul (pe_ix (kix_list (K := K) rfl) (pv 0) pe_int (fun _ _ => rfl)) pe_int) (pe_op op_mul (pe_op op_mod (pe_callTy call_int1 (by rfl) T.n_int bt_int (pa_cons (pv 2) pa_nil)) pe_int) pe_int)) pe_int) pa_nil)) pe_int) (pg_sub (pv 0) pe_int set_list))))))) pss_nil)
    (pss_cons (ps_if (pt_cmpR op_gt (pe_ix (kix_list (K := K) rfl) (pv 0) pe_int (fun _ _ => rfl)) pe_int (nomark _)) (pss_cons (ps_set (i := 3) sc_law_pull.nd rfl (Or.inl rfl) (pe_op op_mod (pe_callTy call_int1 (by rfl) T.n_int bt_int (pa_cons (pe_ix (kix_list (K := K) rfl) (pv 0) pe_int (fun _ _ => rfl)) pa_nil)) (pv 1)))
    (pss_cons (ps_asg (pe_op op_fdiv (pe_ix (kix_list (K := K) rfl) (pv 0) pe_int (fun _ _ => rfl)) (pv 1)) (pg_sub (pv 0) pe_int set_list))
    (pss_one (ps_ret (pv 3))))) pss_nil)
    (pss_cons (ps_set (i := 4) sc_law_pull.nd rfl (Or.inl rfl) (pe_op op_mod (pe_callTy call_int1 (by rfl) T.n_int bt_int (pa_cons (pe_op op_add (pe_op op_mul (pe_ix (kix_list (K := K) rfl) (pv 0) pe_int (fun _ _ => rfl)) (pe_ix (kix_list (K := K) rfl) (pv 0) pe_int (fun _ _ => rfl))) (pe_op op_mul (pe_ix (kix_list (K := K) rfl) (pv 0) pe_int (fun _ _ => rfl)) pe_int)) pa_nil)) pe_int))
    (pss_cons (ps_asg (pe_op op_mod (pe_callTy call_int1 (by rfl) T.n_int bt_int (pa_cons (pe_op op_add (pe_op op_add (pe_op op_mul (pv 4) pe_int) (pe_op op_mul (pe_ix (kix_list (K := K) rfl) (pv 0) pe_int (fun _ _ => rfl)) pe_int)) pe_int) pa_nil)) pe_int) (pg_sub (pv 0) pe_int set_list))
    (pss_one (ps_ret (pe_op op_mod (pe_callTy call_int1 (by rfl) T.n_int bt_int (pa_cons (pe_op op_fdiv (pe_ix (kix_list (K := K) rfl) (pv 0) pe_int (fun _ _ => rfl)) pe_int) pa_nil)) (pv 1))))))))), ?_⟩
  have nsl := bx.ne
  obtain ⟨ns, idx, big, mix, cnt, hb, hs, hidx, hbig, hmix0, hmix1⟩ := bx.ex
  have x0 : BxAt H H b sl ns idx big mix cnt := ⟨hb, Kp.refl _ _⟩
  have hsl : ∀ {H'}, Kp [b] H H' → SqL K H' sl (ns.map V.int) := fun k => SqL.of (k _ _ (by simpa using nsl) hs)
  refine ⟨_, rfl, b, _, _, _, rfl, rfl, SqL.of hb, rfl, _, _, rfl, rfl, ?_⟩
  refine ⟨_, rfl, b, _, _, _, rfl, rfl, hb, rfl, ?_⟩
  have x1 := x0.put idx big mix (cnt + 1)
  dsimp only
  refine seq_pre (fun σ H' => ∃ v2 idx big mix cnt, σ = [some (.ref b), some (.int many), v2, none, none] ∧ BxAt H H' b sl ns idx big mix cnt ∧ 0 ≤ idx ∧ 0 ≤ big ∧ 0 ≤ mix ∧ mix < 2147483587) ?_ ?_
  · rintro σ H2 ⟨v2, idx, big, mix, cnt, rfl, x2, hidx, hbig, hmix0, hmix1⟩
    have hb2 := x2.at_
    refine ⟨_, rfl, b, _, _, _, rfl, rfl, SqL.of hb2, rfl, _, _, rfl, rfl, _, rfl, ?_⟩
    by_cases hbg : big > 0
    · refine iteT' (decide_eq_true hbg) ?_
      refine ⟨_, rfl, b, _, _, _, rfl, rfl, SqL.of hb2, rfl, .inl ⟨_, rfl, _, rfl, _, _, rfl, rfl, hm0, ?_⟩⟩
      refine ⟨_, rfl, b, _, _, _, rfl, rfl, SqL.of hb2, rfl, _, rfl, _, _, rfl, rfl, ⟨hm0, by omega⟩, ?_⟩
      refine ⟨_, rfl, b, _, _, _, rfl, rfl, hb2, rfl, ?_⟩
      have x3 := x2.put idx (big / many) mix cnt
      exact ⟨_, rfl, q _ (big % many) x3.kp ⟨ns, idx, big / many, mix, cnt, x3.at_, x3.kp _ _ (by simpa using nsl) hs, hidx, Int.ediv_nonneg hbig (by omega), hmix0, hmix1⟩ (Int.emod_nonneg _ (by omega)) (Int.emod_lt_of_pos _ hm0)⟩
    · refine iteF' (decide_eq_false hbg) ?_
      refine ⟨_, rfl, b, _, _, _, rfl, rfl, SqL.of hb2, rfl, _, rfl, b, _, _, _, rfl, rfl, SqL.of hb2, rfl, _, _, rfl, rfl, .inl ⟨by omega, by omega⟩, ?_⟩
      refine ⟨_, rfl, b, _, _, _, rfl, rfl, SqL.of hb2, rfl, _, _, rfl, rfl, cmulR (by decide) (by decide), _, _, rfl, rfl, .inl ⟨_, rfl, _, _, rfl, rfl, by show (0 : Int) < 2147483543; decide, ?_⟩⟩
      refine ⟨_, rfl, _, _, rfl, rfl, cmulR (by decide) (by decide), _, rfl, b, _, _, _, rfl, rfl, SqL.of hb2, rfl, _, _, rfl, rfl, cmulR (by decide) (by decide), _, _, rfl, rfl, _, _, rfl, rfl, .inl ⟨_, rfl, _, _, rfl, rfl, by show (0 : Int) < 2147483587; decide, ?_⟩⟩
      have mxE : ∃ mx, mx = ((mix * mix + cnt * 8291) % 2147483543 * 15907 + mix * 60013 + 53987) % 2147483587 := ⟨_, rfl⟩
      obtain ⟨mx, hM⟩ := mxE
      have mx0 : 0 ≤ mx := by rw [hM]; exact Int.emod_nonneg _ (by decide)
      have mx1 : mx < 2147483587 := by rw [hM]; exact Int.emod_lt_of_pos _ (by decide)
      refine ⟨_, rfl, b, _, _, _, rfl, rfl, hb2, rfl, ?_⟩
      have x3 := x2.put idx big mx cnt
      rw [hM] at x3 mx0 mx1
      refine ⟨_, rfl, b, _, _, _, rfl, rfl, SqL.of x3.at_, rfl, _, _, rfl, rfl, ⟨by decide, by decide⟩, .inl ⟨_, rfl, _, rfl, _, _, rfl, rfl, hm0, ?_⟩⟩
      exact q _ _ x3.kp ⟨ns, idx, big, _, cnt, x3.at_, x3.kp _ _ (by simpa using nsl) hs, hidx, hbig, mx0, mx1⟩ (Int.emod_nonneg _ (by omega)) (Int.emod_lt_of_pos _ hm0)
  · intro N hN
    have hb1 := x1.at_
    refine ⟨_, rfl, b, _, _, _, rfl, rfl, SqL.of hb1, rfl, rfl, _, rfl, ?_⟩
    by_cases hbg : big = 0
    · refine iteT' (decide_eq_true (by rw [hbg])) ?_
      refine ⟨_, rfl, b, _, _, _, rfl, rfl, SqL.of hb1, rfl, _, rfl, b, _, _, _, rfl, rfl, SqL.of hb1, rfl, sl, _, rfl, .inl (hsl x1.kp), _, _, rfl, rfl, _, rfl, ?_⟩
      rw [List.length_map]
      by_cases hix : idx < (ns.length : Int)
      · refine iteT' (decide_eq_true hix) ?_
        obtain ⟨j, ej⟩ : ∃ j : Nat, idx = (j : Int) := ⟨idx.toNat, by omega⟩
        subst ej
        have hj : j < ns.length := by omega
        have hc : (ns.map V.int)[j]? = some (.int ns[j]) := by rw [List.getElem?_map, List.getElem?_eq_getElem hj] <;> rfl
        refine ⟨_, rfl, b, _, _, _, rfl, rfl, SqL.of hb1, rfl, _, rfl, b, _, _, _, rfl, rfl, SqL.of hb1, rfl, sl, _, _, _, rfl, rfl, hsl x1.kp, atI_nat hc, ?_⟩
        generalize ns[j] = cell
        refine ⟨_, rfl, b, _, _, _, rfl, rfl, SqL.of hb1, rfl, _, _, rfl, rfl, _, rfl, b, _, _, _, rfl, rfl, hb1, rfl, ?_⟩
        have x2 := x1.put (j + 1) big mix (cnt + 1)
        have hb2 := x2.at_
        refine ⟨_, rfl, cell, rfl, _, _, rfl, rfl, ⟨by decide, by decide, by decide⟩, _, _, rfl, rfl, _, rfl, ?_⟩
        have hab : 0 ≤ (if cell < 0 then -cell else cell) := by split <;> omega
        by_cases hbig2 : (10 : Int) ^ (18 : Int).toNat ≤ (if cell < 0 then -cell else cell)
        · refine iteT' (decide_eq_true hbig2) ?_
          refine ⟨_, rfl, cell, rfl, _, rfl, b, _, _, _, rfl, rfl, hb2, rfl, ?_⟩
          exact hN _ _ ⟨_, j + 1, _, mix, cnt + 1, rfl, x2.put (j + 1) (if cell < 0 then -cell else cell) mix (cnt + 1), by omega, hab, hmix0, hmix1⟩
        · refine iteF' (decide_eq_false hbig2) ?_
          refine ⟨_, rfl, b, _, _, _, rfl, rfl, SqL.of hb2, rfl, _, _, rfl, rfl, cmulR (by decide) (by decide), _, rfl, .inl ⟨cell, rfl, _, _, rfl, rfl, by show (0 : Int) < 1000003; decide, _, _, rfl, rfl, cmulR (by decide) (by decide), _, _, rfl, rfl, _, _, rfl, rfl, .inl ⟨_, rfl, _, _, rfl, rfl, by show (0 : Int) < 2147483587; decide, ?_⟩⟩⟩
          refine ⟨_, rfl, b, _, _, _, rfl, rfl, hb2, rfl, ?_⟩
          exact hN _ _ ⟨_, j + 1, _, _, cnt + 1, rfl, x2.put (j + 1) big ((mix * 40093 + cell % 1000003 * 727 + 37) % 2147483587) (cnt + 1), by omega, hbig, Int.emod_nonneg _ (by decide), Int.emod_lt_of_pos _ (by decide)⟩
      · refine iteF' (decide_eq_false hix) ?_
        exact (hN _ _ ⟨_, idx, big, mix, cnt + 1, rfl, x1, hidx, hbig, hmix0, hmix1⟩)
    · refine iteF' (decide_eq_false (by intro z; injection z with z; exact hbg z)) ?_
      exact iteF (hN _ _ ⟨_, idx, big, mix, cnt + 1, rfl, x1, hidx, hbig, hmix0, hmix1⟩)
end
end K85

set_option Elab.async false
set_option linter.all false
set_option maxRecDepth 100000
set_option maxHeartbeats 4000000
namespace K85
open PySem PySem.Spec PyProof.Rows L2
section
variable {w : World} {K : PySem.W.Frag} {mg : Str → Option Value} {base : Heap}
def sp_law_of (K : PySem.W.Frag) : Sp := fun vs H Q _ => ∃ (b sl : Addr) (x : V), vs = [.ref b, x] ∧ BoxAt H b sl ∧
  ((∃ l xs, x = .ref l ∧ SqL K H l xs ∧ l ≠ b ∧ 0 < xs.length ∧ xs.length < 1000 ∧ ∀ (H' : Hp) (y : V), Kp [b] H H' → BoxAt H' b sl → y ∈ xs → Q y H') ∨
   (∃ z : Str, x = .str z ∧ 0 < z.length ∧ z.length < 1000 ∧ ∀ (H' : Hp) (c : Nat), Kp [b] H H' → BoxAt H' b sl → c ∈ z.cps.toList → Q (.str ⟨#[c]⟩) H'))
theorem r_law_of (T : Txt w K mg) : FnR Pg w K mg base CX0 2 (He.ga K "_law_of") (sp_law_of K) := by
  refine fnr_of T.d_law_of sc_law_of (fun _ _ _ _ _ _ us hl => match us, hl with | [_, _], _ => rfl) (fun vs H Q E ⟨_, _, _, e, _⟩ => by rw [e] <;> rfl) fun cdv A outer s H vs Q E hr h => ?_
  obtain ⟨b, sl, x, rfl, bx, h⟩ := h
  refine ⟨_, (pss_one (ps_ret (pe_ix ix_seq (pv 1) (pe_callR (r_law_pull T) (hr.mono (by decide)) rfl T.g_law_pull (fnr_kp T.d_law_pull) pass0 (pa_cons (pv 0) (pa_cons (pe_callB (CallR.or (klen (K := K) rfl) call_len_str) (by rfl) T.n_len bt_len (pa_cons (pv 1) pa_nil)) pa_nil))) (fun _ _ => rfl)))), ?_⟩
  rcases h with ⟨l, xs, rfl, hl, ne, h0, h1, q⟩ | ⟨z, rfl, h0, h1, q⟩
  · refine ⟨_, rfl, _, rfl, _, rfl, .inl ⟨l, xs, rfl, .inl hl, b, sl, _, rfl, bx, by omega, by omega, fun H' d k bx' d0 d1 => ?_⟩⟩
    obtain ⟨j, rfl⟩ : ∃ j : Nat, d = (j : Int) := ⟨d.toNat, by omega⟩
    have hj : j < xs.length := by omega
    exact .inl ⟨l, xs, _, _, rfl, rfl, kp_L k (by simpa using ne) hl, atI_nat (List.getElem?_eq_getElem hj), q H' _ k bx' (List.getElem_mem hj)⟩
  · refine ⟨_, rfl, _, rfl, _, rfl, .inr ⟨z, rfl, by rw [sizeLine_eq]; omega, b, sl, _, rfl, bx, by omega, by omega, fun H' d k bx' d0 d1 => ?_⟩⟩
    obtain ⟨j, rfl⟩ : ∃ j : Nat, d = (j : Int) := ⟨d.toNat, by omega⟩
    have e : z.cps.toList.length = z.length := by simp [Str.length]
    have hj : j < z.cps.toList.length := by omega
    exact .inr (.inr ⟨z, _, _, rfl, rfl, by rw [sizeLine_eq]; omega, atI_nat (List.getElem?_eq_getElem hj), q H' _ k bx' (List.getElem_mem hj)⟩)
def sp_law_mixed (K : PySem.W.Frag) : Sp := fun vs H Q _ => ∃ (b sl l : Addr) (xs : List V), vs = [.ref b, .ref l] ∧ BoxAt H b sl ∧ SqL K H l xs ∧ l ≠ b ∧ xs.length < 1000 ∧
  ∀ (H' : Hp) (f : Addr) (ys : List V), Kp [b] H H' → BoxAt H' b sl → H' f = some (.lst ys) → H f = none → ys.Perm xs → Q (.ref f) H'
theorem r_law_mixed (T : Txt w K mg) : FnR Pg w K mg base CX0 2 (He.ga K "_law_mixed") (sp_law_mixed K) := by
  refine fnr_of T.d_law_mixed sc_law_mixed (fun _ _ _ _ _ _ us hl => match us, hl with | [_, _], _ => rfl) (fun vs H Q E ⟨_, _, _, _, e, _⟩ => by rw [e] <;> rfl) fun cdv A outer s H vs Q E hr h => ?_
  obtain ⟨b, sl, l, xs, rfl, bx, hl, ne, hlen, q⟩ := h
  refine ⟨_, (pss_cons (ps_set (i := 2) sc_law_mixed.nd rfl (Or.inl rfl) (pe_lst pa_nil))
    (pss_cons (ps_for PassesOwn.never rfl (pi_list (pv 1)) (pg_name (i := 3) sc_law_mixed.nd rfl (Or.inl rfl)) (pss_one (ps_expr (pe_bm PySem.F.plainAttrs_list PySem.F.slot_list_insert PySem.F.type_list_insert mt_insert (pv 2) (pa_cons (pe_callR (r_law_pull T) (hr.mono (by decide)) rfl T.g_law_pull (fnr_kp T.d_law_pull) pass0 (pa_cons (pv 0) (pa_cons (pe_op op_add (pe_callB (klen (K := K) rfl) (by rfl) T.n_len bt_len (pa_cons (pv 2) pa_nil)) pe_int) pa_nil))) (pa_cons (pv 3) pa_nil))))))
    (pss_one (ps_ret (pv 2))))), ?_⟩
  refine ⟨by show 0 ≤ sizeLine; decide, fun f hf => ?_⟩
  have S1 := same_new hf (.lst [])
  have g1 : (upd H f (.lst [])) f = some (.lst []) := upd_same
  generalize upd H f (.lst []) = H1 at S1 g1
  have nfb : f ≠ b := fun z => by
    obtain ⟨_, _, _, _, _, e, _⟩ := bx.ex
    rw [z, e] at hf; cases hf
  have nfs : f ≠ sl := fun z => by
    obtain ⟨_, _, _, _, _, _, e, _⟩ := bx.ex
    rw [z, e] at hf; cases hf
  refine ⟨_, rfl, l, rfl, ⟨_, S1.seq hl⟩, for_it (walk_list (xs := xs)) (fun i σ H' => ∃ ys v3, σ = [some (.ref b), some (.ref l), some (.ref f), v3] ∧ Kp [b] H H' ∧ BoxAt H' b sl ∧ H' f = some (.lst ys) ∧ ys.Perm (xs.take i)) ⟨[], _, rfl, Kp.same S1, bx.same S1, g1, by rw [List.take_zero]⟩ (fun i σ H' _ ⟨_, _, _, k, _⟩ => kp_L k (by simpa using ne) hl) ?_ ?_⟩
  · rintro i y σ H2 H' hi ⟨ys, v3, rfl, k2, bx2, hf2, pm⟩ ⟨rfl, hy⟩
    have ly : ys.length = i := by rw [pm.length_eq, List.length_take]; omega
    refine ⟨_, rfl, .inl ⟨rfl, _, SqL.of hf2⟩, _, rfl, _, rfl, f, _, rfl, .inl (SqL.of hf2), _, _, rfl, rfl, b, sl, _, rfl, bx2, by omega, by omega, fun H3 d k3 bx3 d0 d1 => ?_⟩
    have hf3 := k3 _ _ (by simpa using nfb) hf2
    refine ⟨_, rfl, f, ys, d, y, rfl, rfl, hf3, by rw [sizeLine_eq]; omega, d0, by omega, ?_⟩
    refine ⟨_, _, rfl, (k2.trans k3).newer hf _, ?_, upd_same, ?_⟩
    · exact bx3.kp (M := [f]) (lockK _ _ _) (by simpa using Ne.symm nfb) (by simpa using Ne.symm nfs)
    · have e : xs.take (i + 1) = xs.take i ++ [y] := by rw [List.take_add_one, hy] <;> rfl
      rw [e]
      have p1 : (ys.take d.toNat ++ [y] ++ ys.drop d.toNat).Perm (ys ++ [y]) := by
        rw [List.append_assoc]
        refine (List.Perm.append_left _ List.perm_append_comm).trans ?_
        rw [← List.append_assoc, List.take_append_drop]
      exact p1.trans (pm.append_right _)
  · rintro σ H2 ⟨ys, v3, rfl, k2, bx2, hf2, pm⟩
    rw [List.take_length] at pm
    exact ⟨_, rfl, q H2 f ys k2 bx2 hf2 hf pm⟩
end
end K85

set_option Elab.async false
set_option linter.all false
set_option maxRecDepth 100000
set_option maxHeartbeats 4000000
namespace K85
open PySem PySem.Spec PyProof.Rows L2
abbrev LT : List Nat := ("abcdefghijklmnopqrstuvwxyz" : Str).cps.toList
theorem LT_at : ∀ i : Nat, i < 26 → LT[i]? = some (97 + i) := by decide +kernel
theorem LT_len : LT.length = 26 := by decide +kernel
theorem joinL_one : ∀ cs : List Nat, TL.joinL [] (cs.map fun c => [c]) = cs
  | [] => rfl
  | [c] => rfl
  | c :: d :: cs => by
    show [c] ++ ([] ++ TL.joinL [] ((d :: cs).map fun c => [c])) = c :: d :: cs
    rw [joinL_one (d :: cs)] <;> rfl
theorem join_one (cs : List Nat) : (Txt.join ("" : Str) (cs.map fun c => (⟨#[c]⟩ : Str))).cps.toList = cs := by
  show TL.tl (Txt.join ("" : Str) (cs.map fun c => (⟨#[c]⟩ : Str))) = cs
  rw [Txt.join, StrLaws.glued_eq_join, TL.tl_join, List.map_map]
  exact joinL_one cs
/-- a stem with one letter put in -/
def wordL (st : List Nat) (sp c : Nat) : List Nat := st.take sp ++ ([c] ++ st.drop sp)
theorem wordL_inj {st : List Nat} {sp c d : Nat} (h : wordL st sp c = wordL st sp d) : c = d := by
  unfold wordL at h
  have := List.append_cancel_left h
  simpa using this
theorem wordL_ok {st : List Nat} {sp c : Nat} (h : st.length ≤ 5) (hs : ∀ x ∈ st, x ∈ LT) (hc : c ∈ LT) {z : Str} (e : z.cps.toList = wordL st sp c) : NameOk z := by
  have l : z.cps.size = (wordL st sp c).length := by rw [← e, Array.length_toList]
  have l2 : (wordL st sp c).length = st.length + 1 := by
    unfold wordL
    rw [List.length_append, List.length_append, List.length_take, List.length_drop]
    simp only [List.length_singleton]
    omega
  refine ⟨by omega, by omega, fun x hx => ?_⟩
  rw [e] at hx
  unfold wordL at hx
  rcases List.mem_append.mp hx with z | z
  · exact hs x (List.mem_of_mem_take z)
  · rcases List.mem_append.mp z with z | z
    · rw [List.mem_singleton.mp z]; exact hc
    · exact hs x (List.mem_of_mem_drop z)
section
variable {w : World} {K : PySem.W.Frag} {mg : Str → Option Value} {base : Heap}
structure Words3 (w0 w1 w2 : Str) : Prop where
  n0 : NameOk w0
  n1 : NameOk w1
  n2 : NameOk w2
  ne01 : w0 ≠ w1
  ne02 : w0 ≠ w2
  ne12 : w1 ≠ w2
def sp_law_words (K : PySem.W.Frag) : Sp := fun vs H Q _ => ∃ (b sl : Addr), vs = [.ref b, .int 3] ∧ BoxAt H b sl ∧
  ∀ (H' : Hp) (f : Addr) (w0 w1 w2 : Str), Kp [b] H H' → BoxAt H' b sl → H' f = some (.lst [.str w0, .str w1, .str w2]) → H f = none → Words3 w0 w1 w2 → Q (.ref f) H'
theorem r_law_words (T : Txt w K mg) : FnR Pg w K mg base CX0 3 (He.ga K "_law_words") (sp_law_words K) := by
  refine fnr_of T.d_law_words sc_law_words (fun _ _ _ _ _ _ us hl => match us, hl with | [_, _], _ => rfl) (fun vs H Q E ⟨_, _, e, _⟩ => by rw [e] <;> rfl) fun cdv A outer s H vs Q E hr h => ?_
  obtain ⟨b, sl, rfl, bx, q⟩ := h
  refine ⟨_, (pss_cons (ps_set (i := 2) sc_law_words.nd rfl (Or.inr rfl) pe_str)
    (pss_cons (ps_set (i := 3) sc_law_words.nd rfl (Or.inr rfl) (pe_join pe_str (pe_lc (own := [("_law_k", 6)]) (g := gName 6) (tt := tYes) rfl sc_law_words.nd (pi_range1 (by rfl) T.n_range (pa_cons (pe_callR (r_law_of T) (hr.mono (by decide)) rfl T.g_law_of (fnr_kp T.d_law_of) pass0 (pa_cons (pv 0) (pa_cons (pe_lst (pa_cons pe_int (pa_cons pe_int (pa_cons pe_int (pa_cons pe_int (pa_cons pe_int pa_nil)))))) pa_nil))) pa_nil)) (blkOk_by (own := [("_law_k", 6)]) (N := n_law_words) (sc := defScope s_law_words) (by decide +kernel)) (fun _ _ _ _ _ => pg_name (i := 6) sc_law_words.nd rfl (Or.inl rfl)) (fun _ _ _ _ _ => pts_nil) (fun _ _ _ _ _ => (pe_callR (r_law_of T) (hr.mono (by decide)) rfl T.g_law_of (fnr_kp T.d_law_of) pass0 (pa_cons (pv 0) (pa_cons (pv 2) pa_nil)))))))
    (pss_cons (ps_asg (pe_tup (pa_cons (pe_callR (r_law_pull T) (hr.mono (by decide)) rfl T.g_law_pull (fnr_kp T.d_law_pull) pass0 (pa_cons (pv 0) (pa_cons (pe_op op_add (pe_callB call_len_str (by rfl) T.n_len bt_len (pa_cons (pv 3) pa_nil)) pe_int) pa_nil))) (pa_cons (pe_callR (r_law_pull T) (hr.mono (by decide)) rfl T.g_law_pull (fnr_kp T.d_law_pull) pass0 (pa_cons (pv 0) (pa_cons pe_int pa_nil))) pa_nil))) (pg_tup rfl (pgs_cons (pg_name (i := 4) sc_law_words.nd rfl (Or.inr rfl)) (pgs_cons (pg_name (i := 5) sc_law_words.nd rfl (Or.inr rfl)) pgs_nil))))
    (pss_one (ps_ret (pe_lc (own := [("_law_k", 6)]) (g := gName 6) (tt := tYes) rfl sc_law_words.nd (pi_range1 (by rfl) T.n_range (pa_cons (pv 1) pa_nil)) (blkOk_by (own := [("_law_k", 6)]) (N := n_law_words) (sc := defScope s_law_words) (by decide +kernel)) (fun _ _ _ _ _ => pg_name (i := 6) sc_law_words.nd rfl (Or.inl rfl)) (fun _ _ _ _ _ => pts_nil) (fun _ _ _ _ _ => (pe_op op_add_str (pe_op op_add_str (pe_slice sl_str (pv 3) po_none (po_some (pv 4))) (pe_ix ix_str (pv 2) (pe_op op_mod (pe_callTy call_int1 (by rfl) T.n_int bt_int (pa_cons (pe_op op_add (pv 5) (pe_op op_mul pe_int (pv 6))) pa_nil)) pe_int) (fun _ _ => rfl))) (pe_slice sl_str (pv 3) (po_some (pv 4)) po_none))))))))), ?_⟩
  refine ⟨⟨_, rfl⟩, _, rfl, by show 5 ≤ sizeLine; decide, fun l0 hl0 => ?_⟩
  have S1 := same_new hl0 (.lst [V.int 0, .int 0, .int 1, .int 2, .int 5])
  have g1 : (upd H l0 (.lst [V.int 0, .int 0, .int 1, .int 2, .int 5])) l0 = some (.lst [V.int 0, .int 0, .int 1, .int 2, .int 5]) := upd_same
  generalize upd H l0 (.lst [V.int 0, .int 0, .int 1, .int 2, .int 5]) = H1 at S1 g1
  have nl0 : l0 ≠ b := fun z => by
    obtain ⟨_, _, _, _, _, e, _⟩ := bx.ex
    rw [z, e] at hl0; cases hl0
  refine ⟨b, sl, _, rfl, bx.same S1, .inl ⟨l0, _, rfl, SqL.of g1, nl0, by decide, by decide, fun H2 y k2 bx2 hy => ?_⟩⟩
  obtain ⟨n, ey, hn⟩ : ∃ n : Nat, y = .int (n : Int) ∧ n ≤ 5 := by
    simp only [List.mem_cons, List.not_mem_nil, or_false] at hy
    rcases hy with rfl | rfl | rfl | rfl | rfl
    · exact ⟨0, rfl, by decide⟩
    · exact ⟨0, rfl, by decide⟩
    · exact ⟨1, rfl, by decide⟩
    · exact ⟨2, rfl, by decide⟩
    · exact ⟨5, rfl, by decide⟩
  subst ey
  have kH : Kp [b] H H2 := (Kp.same S1).trans k2
  refine ⟨(n : Int), rfl, by omega, by omega, fun D hD => ?_⟩
  rw [Int.toNat_natCast]
  have nDb : D ≠ b := fun z => by
    obtain ⟨_, _, _, _, _, e, _⟩ := bx2.ex
    rw [z, e] at hD; cases hD
  have nDs : D ≠ sl := fun z => by
    obtain ⟨_, _, _, _, _, _, e, _⟩ := bx2.ex
    rw [z, e] at hD; cases hD
  have hDH : H D = none := kH.free hD (by simpa using nDb)
  refine lc_range (lo := 0) (n := n) (fun i H' => Kp [b] H H' ∧ BoxAt H' b sl ∧ ∃ cs : List Nat, cs.length = i ∧ (∀ c ∈ cs, c ∈ LT) ∧ H' D = some (.lst (cs.map fun c => V.str ⟨#[c]⟩))) ?_ ?_ ?_
  · exact ⟨kH.newer hDH _, bx2.same (same_new hD _), [], rfl, fun c hc => (by cases hc), upd_same⟩
  · rintro i H3 hi ⟨k3, bx3, cs, hcs, hL, hD3⟩
    refine ⟨rfl, _, rfl, _, rfl, b, sl, _, rfl, bx3, .inr ⟨_, rfl, by decide +kernel, by decide +kernel, fun H4 c k4 bx4 hc => ?_⟩⟩
    have hD4 := k4 _ _ (by simpa using nDb) hD3
    refine ⟨_, hD4, by rw [List.length_map, sizeLine_eq]; omega, (k3.trans k4).newer hDH _, bx4.kp (M := [D]) (lockK _ _ _) (by simpa using Ne.symm nDb) (by simpa using Ne.symm nDs), cs ++ [c], by rw [List.length_append, hcs] <;> rfl, fun x hx => ?_, ?_⟩
    · rcases List.mem_append.mp hx with z | z
      · exact hL x z
      · rw [List.mem_singleton.mp z]; exact hc
    · rw [upd_same, List.map_append] <;> rfl
  · rintro H3 ⟨k3, bx3, cs, hcs, hL, hD3⟩
    refine ⟨"", D, cs.map fun c => (⟨#[c]⟩ : Str), rfl, rfl, .inl (SqL.of (by rw [hD3, List.map_map] <;> rfl)), ?_, ?_⟩
    · have e : (cs.map fun c => (⟨#[c]⟩ : Str)).map (·.length) = cs.map fun _ => 1 := by rw [List.map_map] <;> rfl
      rw [e, List.length_map]
      have e2 : (cs.map fun _ => 1).sum = cs.length := by
        clear hD3 hL hcs e
        induction cs with
        | nil => rfl
        | cons c cs ih => rw [List.map_cons, List.sum_cons, ih, List.length_cons]; omega
      rw [e2]
      have : ("" : Str).length = 0 := rfl
      rw [this]
      omega
    obtain ⟨z, hz, ez⟩ : ∃ z : Str, z = Txt.join ("" : Str) (cs.map fun c => (⟨#[c]⟩ : Str)) ∧ z.cps.toList = cs := ⟨_, rfl, join_one cs⟩
    rw [← hz]
    have lz : z.length = cs.length := by rw [← ez] <;> simp [Str.length]
    have nle : cs.length ≤ 5 := by omega
    have lzs : z.length ≤ sizeLine := by rw [sizeLine_eq]; omega
    refine ⟨_, rfl, _, rfl, z, rfl, lzs, _, _, rfl, rfl, b, sl, _, rfl, bx3, by omega, by omega, fun H4 d k4 bx4 d0 d1 => ?_⟩
    refine ⟨_, rfl, b, sl, _, rfl, bx4, by decide, by decide, fun H5 e k5 bx5 e0 e1 => ?_⟩
    refine ⟨by show 2 ≤ sizeLine; decide, fun p hp => ⟨p, _, rfl, SqT.of upd_same, rfl, _, _, rfl, _, _, rfl, rfl, ?_⟩⟩
    have S6 := same_new hp (.tup [.int d, .int e])
    have k6 : Kp [b] H (upd H5 p (.tup [.int d, .int e])) := ((k3.trans k4).trans k5).trans (Kp.same S6)
    have bx6 := bx5.same S6
    generalize upd H5 p (.tup [.int d, .int e]) = H6 at S6 k6 bx6
    obtain ⟨sp, esp⟩ : ∃ sp : Nat, d = (sp : Int) := ⟨d.toNat, by omega⟩
    obtain ⟨fi, efi⟩ : ∃ fi : Nat, e = (fi : Int) := ⟨e.toNat, by omega⟩
    subst esp efi
    have hsp : sp ≤ cs.length := by omega
    have cut1 : (cutS z Option.none (some (sp : Int))).cps.toList = cs.take sp := by
      unfold cutS
      rw [ez, HT.sIx_none, HT.sIx_nat, lz, Nat.min_eq_left hsp, Nat.sub_zero, List.drop_zero]
    have cut2 : (cutS z (some (sp : Int)) Option.none).cps.toList = cs.drop sp := by
      unfold cutS
      rw [ez, HT.sIx_none, HT.sIx_nat, lz, Nat.min_eq_left hsp]
      show ((cs.drop sp).take (cs.length - sp)) = cs.drop sp
      rw [← List.length_drop, List.take_length]
    have l1 : (cutS z Option.none (some (sp : Int))).length ≤ 5 := by
      have : (cutS z Option.none (some (sp : Int))).length = (cs.take sp).length := by rw [← cut1] <;> simp [Str.length]
      rw [this, List.length_take]; omega
    have l2 : (cutS z (some (sp : Int)) Option.none).length ≤ 5 := by
      have : (cutS z (some (sp : Int)) Option.none).length = (cs.drop sp).length := by rw [← cut2] <;> simp [Str.length]
      rw [this, List.length_drop]; omega
    refine ⟨_, rfl, 3, rfl, by decide, by decide, fun D2 hD2 => ?_⟩
    refine lcR (n := 3) (fun i y _ => ∃ wd : Str, y = .str wd ∧ wd.cps.toList = wordL cs sp (97 + (fi + 7 * i) % 26)) hD2 (by decide) stabP (fun i H7 Nx hi k7 hl7 f => ?_) (fun H7 ys k7 hD7 hlen hy => ?_)
    · have hm : (fi + 7 * i) % 26 < 26 := Nat.mod_lt _ (by decide)
      have em : ((fi : Int) + 7 * (0 + (i : Int))) % 26 = (((fi + 7 * i) % 26 : Nat) : Int) := by omega
      refine ⟨rfl, _, rfl, _, rfl, _, rfl, z, rfl, lzs, _, rfl, _, rfl, _, rfl, _, _, rfl, rfl, .inl ⟨by decide, by decide⟩, _, _, rfl, rfl, .inl ⟨_, rfl, _, _, rfl, rfl, by show (0 : Int) < 26; decide, ?_⟩⟩
      refine ⟨_, _, _, rfl, rfl, by decide +kernel, (show atI LT (((fi : Int) + 7 * (0 + (i : Int))) % 26) = some (97 + (fi + 7 * i) % 26) by rw [em]; exact atI_nat (LT_at _ hm)), _, _, rfl, rfl, ?_, ?_⟩
      · have : (⟨#[97 + (fi + 7 * i) % 26]⟩ : Str).length = 1 := rfl
        rw [this, sizeLine_eq]; omega
      · refine ⟨_, rfl, _, rfl, _, rfl, z, rfl, lzs, _, _, rfl, rfl, ?_, ?_⟩
        · have e3 : ∀ a b : Str, (a ++ b).length = a.length + b.length := fun a b => by
            have := TL.tl_append a b
            have e1 : (TL.tl (a ++ b)).length = (a ++ b).length := by simp [Str.length, TL.tl]
            have e2 : (TL.tl a).length = a.length := by simp [Str.length, TL.tl]
            have e3 : (TL.tl b).length = b.length := by simp [Str.length, TL.tl]
            rw [← e1, this, List.length_append, e2, e3]
          rw [e3]
          have : (⟨#[97 + (fi + 7 * i) % 26]⟩ : Str).length = 1 := rfl
          rw [this, sizeLine_eq]; omega
        · refine f _ _ (L2.Same.refl _) ⟨_, rfl, ?_⟩
          show TL.tl (cutS z Option.none (some (sp : Int)) ++ (⟨#[97 + (fi + 7 * i) % 26]⟩ : Str) ++ cutS z (some (sp : Int)) Option.none) = _
          rw [TL.tl_append, TL.tl_append]
          show (cutS z Option.none (some (sp : Int))).cps.toList ++ [97 + (fi + 7 * i) % 26] ++ (cutS z (some (sp : Int)) Option.none).cps.toList = _
          rw [cut1, cut2, List.append_assoc] <;> rfl
    · match ys, hlen, hy with
      | [a0, a1, a2], _, hy =>
        obtain ⟨w0, rfl, t0⟩ := hy 0 a0 rfl
        obtain ⟨w1, rfl, t1⟩ := hy 1 a1 rfl
        obtain ⟨w2, rfl, t2⟩ := hy 2 a2 rfl
        have inL : ∀ i : Nat, 97 + (fi + 7 * i) % 26 ∈ LT := fun i => List.mem_of_getElem? (LT_at _ (Nat.mod_lt _ (by decide)))
        have nD2b : D2 ≠ b := fun z => by
          obtain ⟨_, _, _, _, _, e, _⟩ := bx6.ex
          rw [z, e] at hD2; cases hD2
        have nD2s : D2 ≠ sl := fun z => by
          obtain ⟨_, _, _, _, _, _, e, _⟩ := bx6.ex
          rw [z, e] at hD2; cases hD2
        have hD2H : H D2 = none := k6.free hD2 (by simpa using nD2b)
        have S7 : L2.Same H6 H7 := fun b o e => k7 b o (by simpa using ne_of_none e hD2) e
        have dif : ∀ {x y : Str} {i j : Nat}, x.cps.toList = wordL cs sp (97 + (fi + 7 * i) % 26) → y.cps.toList = wordL cs sp (97 + (fi + 7 * j) % 26) → x = y → (fi + 7 * i) % 26 = (fi + 7 * j) % 26 := fun {x y i j} hx hy e => by
          have z := wordL_inj (hx.symm.trans ((congrArg (fun s : Str => s.cps.toList) e).trans hy))
          omega
        refine q H7 D2 w0 w1 w2 (k6.trans (Kp.same S7)) (bx6.same S7) hD7 hD2H ⟨wordL_ok nle hL (inL 0) t0, wordL_ok nle hL (inL 1) t1, wordL_ok nle hL (inL 2) t2, fun e => ?_, fun e => ?_, fun e => ?_⟩
        · have := dif t0 t1 e; omega
        · have := dif t0 t2 e; omega
        · have := dif t1 t2 e; omega
end
end K85

set_option Elab.async false
set_option linter.all false
set_option maxRecDepth 100000
set_option maxHeartbeats 4000000
namespace K85
open PySem PySem.Spec PyProof.Rows L2
def okS : Nat → PyData → Prop
  | 0, .bool _ => True
  | 0, .int _ => True
  | 0, .str _ => True
  | 0, _ => False
  | _ + 1, .bool _ => True
  | _ + 1, .int _ => True
  | _ + 1, .str _ => True
  | n + 1, .list ds => ds.length ≤ 900 ∧ ∀ d ∈ ds, okS n d
  | n + 1, .tuple ds => ds.length ≤ 900 ∧ ∀ d ∈ ds, okS n d
  | _ + 1, _ => False
theorem walk_zipT {K : PySem.W.Frag} {a b : Addr} {xs ys : List V} {n : Nat} (hn : n = min xs.length ys.length) : Walk (RZ.ItzT K a b) n (fun H => SqT K H a xs ∧ SqT K H b ys) (YPair (fun i => xs[i]?) (fun i => ys[i]?)) := by
  subst hn
  refine ⟨fun i _ hi q => ?_, fun _ q => ⟨xs, ys, q.1, q.2, by omega⟩, fun i H v H' _ q y => ?_⟩
  · have h1 : i < xs.length := by omega
    have h2 : i < ys.length := by omega
    exact ⟨xs, ys, xs[i], ys[i], q.1, q.2, by simp [h1], by simp [h2]⟩
  · obtain ⟨T, x, z, h1, h2, h3, h4, h5⟩ := y
    exact ⟨T, x, z, h1, h2, h3, h4 xs q.1, h5 ys q.2⟩
theorem dpAll_at {K : PySem.W.Frag} {H : Hp} : ∀ {ds : List PyData} {vs : List V} {i : Nat} {v : V}, DpAll K H vs ds → vs[i]? = some v → ∃ d, ds[i]? = some d ∧ Dp K H v d
  | [], _, i, v, h, e => by cases h; simp at e
  | d :: ds, _, 0, v, h, e => by
    cases h with
    | cons h1 h2 =>
      cases e
      exact ⟨d, rfl, h1⟩
  | d :: ds, _, i + 1, v, h, e => by
    cases h with
    | cons h1 h2 => exact dpAll_at (i := i) h2 e
theorem dpAll_len {K : PySem.W.Frag} {H : Hp} : ∀ {ds : List PyData} {vs : List V}, DpAll K H vs ds → vs.length = ds.length
  | [], _, h => by cases h; rfl
  | d :: ds, _, h => by
    cases h with
    | cons h1 h2 => rw [List.length_cons, List.length_cons, dpAll_len h2]
theorem kpg_tup {X : Cx} {K : PySem.W.Frag} (hK : X.K = K) {es : List Expr} {k : Nat} {t : TGs} {n : Nat} {pos : Pos} (hc : X.calm = true) (h : PGs X es t) (hn : (assignEach es X.env).length = n := by rfl) (hst : (assignEach es X.env).findIdx? (·.1) = none := by rfl) : PG X (.Tuple es k pos) (gTup K n t) := by
  subst hK
  exact pg_tup hc h hn hst
section
variable {w : World} {K : PySem.W.Frag} {mg : Str → Option Value} {base : Heap}
def sp_law_same (K : PySem.W.Frag) (n : Nat) : Sp := fun vs H Q _ => ∃ (x y : V) (d : PyData) (m : Nat), n = m + 1 ∧ vs = [x, y] ∧ Dp K H x d ∧ Dp K H y d ∧ okS m d ∧ ∀ (H' : Hp), L2.Same H H' → Q (.bl true) H'
theorem r_law_same (T : Txt w K mg) : ∀ n : Nat, FnR Pg w K mg base CX0 n (He.ga K "_law_same") (sp_law_same K n)
  | 0 => fun A outer s H us vs Q E hr e0 r h => by
    obtain ⟨_, _, _, m, e, _⟩ := h
    cases e
  | n + 1 => by
    have ih := r_law_same T n
    refine fnr_of T.d_law_same sc_law_same (fun _ _ _ _ _ _ us hl => match us, hl with | [_, _], _ => rfl) (fun vs H Q E ⟨_, _, _, _, _, e, _⟩ => by rw [e] <;> rfl) fun cdv A outer s H vs Q E hr h => ?_
    obtain ⟨x, y, d, m, em, rfl, hx, hy, hok, q⟩ := h
    obtain rfl : n = m := by omega
    refine ⟨_, (pss_cons (ps_if (PW.pt (pw_or (pt_cmpR op_isN (pv 1) pe_non (nomark _)) (pw_or1 (pt_cmpR op_isN (pv 0) pe_non (nomark _))))) (pss_one ps_never) pss_nil)
    (pss_cons (ps_if (pt_val (pe_isi2 T.n_isinstance T.n_list bt_list T.n_tuple bt_tuple (pv 1))) (pss_cons (ps_if (PW.pt (pw_or (pt_cmpR op_ne (pe_isi T.n_isinstance T.n_list bt_list (pv 0)) (pe_isi T.n_isinstance T.n_list bt_list (pv 1)) (nomark _)) (pw_or1 (pt_cmpR op_ne (pe_isi T.n_isinstance T.n_tuple bt_tuple (pv 0)) (pe_isi T.n_isinstance T.n_tuple bt_tuple (pv 1)) (nomark _))))) (pss_one (ps_ret pe_bl)) pss_nil)
    (pss_one (ps_ret (pe_and (pe_cmpR op_eq (pe_callB (klen (K := K) rfl) (by rfl) T.n_len bt_len (pa_cons (pv 0) pa_nil)) (pe_callB (klen (K := K) rfl) (by rfl) T.n_len bt_len (pa_cons (pv 1) pa_nil)) (nomark _)) (pe_one (pe_callB (kall (K := K) rfl rfl) (by rfl) T.n_all bt_all (pa_cons (pe_lc (own := [("_law_a", 2), ("_law_b", 3)]) (g := gTup K 2 (gCons (gName 2) (gCons (gName 3) gNil))) (tt := tYes) rfl sc_law_same.nd (RZ.pi_zipA (by rfl) T.n_zip (pa_cons (pv 0) (pa_cons (pv 1) pa_nil))) (blkOk_by (own := [("_law_a", 2), ("_law_b", 3)]) (N := n_law_same) (sc := defScope s_law_same) (by decide +kernel)) (fun _ _ _ _ _ => kpg_tup (K := K) rfl rfl (pgs_cons (pg_name (i := 2) sc_law_same.nd rfl (Or.inl rfl)) (pgs_cons (pg_name (i := 3) sc_law_same.nd rfl (Or.inl rfl)) pgs_nil))) (fun _ _ _ _ _ => pts_nil) (fun _ _ _ _ _ => (pe_callR ih (hr.mono (Nat.le_refl _)) rfl T.g_law_same (fnr_kp T.d_law_same) pass0 (pa_cons (pv 2) (pa_cons (pv 3) pa_nil))))) pa_nil))))))) pss_nil)
    (pss_cons (ps_if (PW.pt (pw_or (pt_val (pe_isi T.n_isinstance T.n_bool bt_bool (pv 1))) (pw_or1 (pt_val (pe_isi T.n_isinstance T.n_bool bt_bool (pv 0)))))) (pss_one (ps_ret (pe_and (pe_isi T.n_isinstance T.n_bool bt_bool (pv 1)) (pe_and (pe_isi T.n_isinstance T.n_bool bt_bool (pv 0)) (pe_one (pe_cmpR op_eq (pv 0) (pv 1) (nomark _))))))) pss_nil)
    (pss_cons (ps_if (pt_val (pe_isi T.n_isinstance T.n_int bt_int (pv 1))) (pss_one (ps_ret (pe_and (pe_isi T.n_isinstance T.n_int bt_int (pv 0)) (pe_one (pe_cmpR op_eq (pv 0) (pv 1) (nomark _)))))) pss_nil)
    (pss_one (ps_ret (pe_and (pe_isi T.n_isinstance T.n_str bt_str (pv 0)) (pe_and (pe_isi T.n_isinstance T.n_str bt_str (pv 1)) (pe_one (pe_cmpR op_eq (pv 0) (pv 1) (nomark _))))))))))), ?_⟩
    have nn : d ≠ .none := by
      intro e
      subst e
      cases n <;> exact hok
    have nv : ∀ {z : V}, Dp K H z d → decide (z = V.non) = false := fun {z} hz => by
      refine decide_eq_false fun e => ?_
      subst e
      cases hz
      exact nn rfl
    refine ⟨_, rfl, rfl, _, rfl, iteF' (nv hy) ⟨_, rfl, rfl, _, rfl, iteF' (nv hx) ?_⟩⟩
    refine ⟨_, rfl, by show 2 ≤ sizeLine; decide, fun p hp => ?_⟩
    have S := same_new hp (.tup [.ty "list", .ty "tuple"])
    have g1 : (upd H p (.tup [.ty "list", .ty "tuple"])) p = some (.tup [.ty "list", .ty "tuple"]) := upd_same
    generalize upd H p (.tup [.ty "list", .ty "tuple"]) = H1 at S g1
    have hx1 := dp_same S _ _ hx
    have hy1 := dp_same S _ _ hy
    have tys : ∀ {b : Bool}, PySem.W.kitAny K (.type (tyD d)) [.type "list", .type "tuple"] = some b → True := fun _ => trivial
    match d, hok, hx1, hy1 with
    | .bool c, _, hx1, hy1 =>
      refine ⟨y, p, _, _, _, false, rfl, g1, .cons (.ty _) (.cons (.ty _) .nil), dpTy hy1, kitAny2 ki_bool_list ki_bool_tuple, _, rfl, iteF ?_⟩
      refine ⟨_, rfl, _, _, _, _, true, rfl, .ty _, dpTy hy1, kit_ty ki_bool_bool, true, rfl, iteT (iteT ?_)⟩
      refine ⟨_, rfl, _, _, _, _, true, rfl, .ty _, dpTy hy1, kit_ty ki_bool_bool, true, rfl, iteT ⟨_, rfl, _, _, _, _, true, rfl, .ty _, dpTy hx1, kit_ty ki_bool_bool, true, rfl, iteT ?_⟩⟩
      cases hx1
      cases hy1
      refine ⟨_, rfl, _, rfl, rfl, ?_⟩
      rw [decide_eq_true (rfl : V.bl c = V.bl c)]
      exact q _ S
    | .int c, _, hx1, hy1 =>
      refine ⟨y, p, _, _, _, false, rfl, g1, .cons (.ty _) (.cons (.ty _) .nil), dpTy hy1, kitAny2 ki_int_list ki_int_tuple, _, rfl, iteF ?_⟩
      refine ⟨_, rfl, _, _, _, _, false, rfl, .ty _, dpTy hy1, kit_ty ki_int_bool, false, rfl, iteF ⟨_, rfl, _, _, _, _, false, rfl, .ty _, dpTy hx1, kit_ty ki_int_bool, false, rfl, iteF ?_⟩⟩
      refine ⟨_, rfl, _, _, _, _, true, rfl, .ty _, dpTy hy1, kit_ty ki_int_int, true, rfl, iteT ?_⟩
      refine ⟨_, rfl, _, _, _, _, true, rfl, .ty _, dpTy hx1, kit_ty ki_int_int, true, rfl, iteT ?_⟩
      cases hx1
      cases hy1
      refine ⟨_, rfl, _, rfl, rfl, ?_⟩
      rw [decide_eq_true (rfl : V.int c = V.int c)]
      exact q _ S
    | .str c, _, hx1, hy1 =>
      refine ⟨y, p, _, _, _, false, rfl, g1, .cons (.ty _) (.cons (.ty _) .nil), dpTy hy1, kitAny2 ki_str_list ki_str_tuple, _, rfl, iteF ?_⟩
      refine ⟨_, rfl, _, _, _, _, false, rfl, .ty _, dpTy hy1, kit_ty ki_str_bool, false, rfl, iteF ⟨_, rfl, _, _, _, _, false, rfl, .ty _, dpTy hx1, kit_ty ki_str_bool, false, rfl, iteF ?_⟩⟩
      refine ⟨_, rfl, _, _, _, _, false, rfl, .ty _, dpTy hy1, kit_ty ki_str_int, false, rfl, iteF ?_⟩
      refine ⟨_, rfl, _, _, _, _, true, rfl, .ty _, dpTy hx1, kit_ty ki_str_str, true, rfl, iteT ⟨_, rfl, _, _, _, _, true, rfl, .ty _, dpTy hy1, kit_ty ki_str_str, true, rfl, iteT ?_⟩⟩
      cases hx1
      cases hy1
      refine ⟨_, rfl, _, rfl, rfl, ?_⟩
      rw [decide_eq_true (rfl : V.str c = V.str c)]
      exact q _ S
    | .list ds, hok, hx1, hy1 =>
      refine ⟨y, p, _, _, _, true, rfl, g1, .cons (.ty _) (.cons (.ty _) .nil), dpTy hy1, kitAny2 ki_list_list ki_list_tuple, _, rfl, iteT ?_⟩
      refine ⟨_, rfl, _, _, _, _, true, rfl, .ty _, dpTy hx1, kit_ty ki_list_list, _, rfl, _, _, _, _, true, rfl, .ty _, dpTy hy1, kit_ty ki_list_list, rfl, _, rfl, iteF ?_⟩
      refine ⟨_, rfl, _, _, _, _, false, rfl, .ty _, dpTy hx1, kit_ty ki_list_tuple, _, rfl, _, _, _, _, false, rfl, .ty _, dpTy hy1, kit_ty ki_list_tuple, rfl, _, rfl, iteF ?_⟩
      match n, hok, ih with
      | m + 1, ⟨hlen, hok⟩, ih =>
      cases hx1 with
      | @lst a xs _ hsx hax =>
      cases hy1 with
      | @lst b ys _ hsy hay =>
      have lx := dpAll_len hax
      have ly := dpAll_len hay
      have el : decide (V.int (xs.length : Int) = V.int (ys.length : Int)) = true := decide_eq_true (by rw [lx, ly])
      refine ⟨_, rfl, a, xs, rfl, .inl hsx, _, rfl, b, ys, rfl, .inl hsy, rfl, _, rfl, ?_⟩
      refine iteT' el ?_
      refine ⟨_, rfl, _, rfl, a, b, xs, ys, rfl, .inl ⟨hsx, hsy, fun D hD => ?_⟩⟩
      refine lc_it (walk_zip (xs := xs) (ys := ys) (n := xs.length) (by omega)) (fun i H' => LcI H1 D (fun _ y _ => y = .bl true) i H') (LcI.zero hD) (fun i H' _ k => ⟨kpD_L hsx hD k.1, kpD_L hsy hD k.1⟩) ?_ ?_
      · rintro i v H2 H' hi k ⟨T1, x1, y1, rfl, hT1, rfl, e1, e2⟩
        obtain ⟨d1, hd1, dx1⟩ := dpAll_at hax e1
        obtain ⟨d2, hd2, dy1⟩ := dpAll_at hay e2
        rw [hd1] at hd2
        cases hd2
        have S2 := same_new hT1 (.tup [x1, y1])
        have nT : ∀ b o, H1 b = some o → H2 b = some o := fun b o e => k.1 b o (by simpa using ne_of_none e hD) e
        have Sx : L2.Same H1 (upd H2 T1 (.tup [x1, y1])) := fun b o e => S2 _ _ (nT b o e)
        refine ⟨T1, _, rfl, SqT.of upd_same, rfl, _, _, rfl, _, _, rfl, rfl, rfl, _, rfl, _, rfl, x1, y1, d1, m, rfl, rfl, dp_same Sx _ _ dx1, dp_same Sx _ _ dy1, hok d1 (List.mem_of_getElem? hd1), fun H4 S4 => ?_⟩
        exact k.step stabP (by rw [sizeLine_eq]; omega) (S2.trans S4) rfl
      · rintro H2 ⟨k2, acc, hD2, hacc, hall⟩
        refine ⟨D, List.replicate xs.length true, rfl, ?_, ?_⟩
        · rw [← trues hacc hall]
          exact SqL.of hD2
        · rw [all_rep]
          exact q _ (S.trans fun b o e => k2 b o (by simpa using ne_of_none e hD) e)
    | .tuple ds, hok, hx1, hy1 =>
      refine ⟨y, p, _, _, _, true, rfl, g1, .cons (.ty _) (.cons (.ty _) .nil), dpTy hy1, kitAny2 ki_tuple_list ki_tuple_tuple, _, rfl, iteT ?_⟩
      refine ⟨_, rfl, _, _, _, _, false, rfl, .ty _, dpTy hx1, kit_ty ki_tuple_list, _, rfl, _, _, _, _, false, rfl, .ty _, dpTy hy1, kit_ty ki_tuple_list, rfl, _, rfl, iteF ?_⟩
      refine ⟨_, rfl, _, _, _, _, true, rfl, .ty _, dpTy hx1, kit_ty ki_tuple_tuple, _, rfl, _, _, _, _, true, rfl, .ty _, dpTy hy1, kit_ty ki_tuple_tuple, rfl, _, rfl, iteF ?_⟩
      match n, hok, ih with
      | m + 1, ⟨hlen, hok⟩, ih =>
      cases hx1 with
      | @tup a xs _ hsx hax =>
      cases hy1 with
      | @tup b ys _ hsy hay =>
      have lx := dpAll_len hax
      have ly := dpAll_len hay
      have el : decide (V.int (xs.length : Int) = V.int (ys.length : Int)) = true := decide_eq_true (by rw [lx, ly])
      refine ⟨_, rfl, a, xs, rfl, .inr hsx, _, rfl, b, ys, rfl, .inr hsy, rfl, _, rfl, ?_⟩
      refine iteT' el ?_
      refine ⟨_, rfl, _, rfl, a, b, xs, ys, rfl, .inr ⟨hsx, hsy, fun D hD => ?_⟩⟩
      refine lc_it (walk_zipT (xs := xs) (ys := ys) (n := xs.length) (by omega)) (fun i H' => LcI H1 D (fun _ y _ => y = .bl true) i H') (LcI.zero hD) (fun i H' _ k => ⟨kpD_T hsx hD k.1, kpD_T hsy hD k.1⟩) ?_ ?_
      · rintro i v H2 H' hi k ⟨T1, x1, y1, rfl, hT1, rfl, e1, e2⟩
        obtain ⟨d1, hd1, dx1⟩ := dpAll_at hax e1
        obtain ⟨d2, hd2, dy1⟩ := dpAll_at hay e2
        rw [hd1] at hd2
        cases hd2
        have S2 := same_new hT1 (.tup [x1, y1])
        have nT : ∀ b o, H1 b = some o → H2 b = some o := fun b o e => k.1 b o (by simpa using ne_of_none e hD) e
        have Sx : L2.Same H1 (upd H2 T1 (.tup [x1, y1])) := fun b o e => S2 _ _ (nT b o e)
        refine ⟨T1, _, rfl, SqT.of upd_same, rfl, _, _, rfl, _, _, rfl, rfl, rfl, _, rfl, _, rfl, x1, y1, d1, m, rfl, rfl, dp_same Sx _ _ dx1, dp_same Sx _ _ dy1, hok d1 (List.mem_of_getElem? hd1), fun H4 S4 => ?_⟩
        exact k.step stabP (by rw [sizeLine_eq]; omega) (S2.trans S4) rfl
      · rintro H2 ⟨k2, acc, hD2, hacc, hall⟩
        refine ⟨D, List.replicate xs.length true, rfl, ?_, ?_⟩
        · rw [← trues hacc hall]
          exact SqL.of hD2
        · rw [all_rep]
          exact q _ (S.trans fun b o e => k2 b o (by simpa using ne_of_none e hD) e)
    | .none, hok, _, _ => exact absurd rfl nn
    | .dict _, hok, _, _ => cases n <;> exact hok.elim
end
end K85

set_option Elab.async false
set_option linter.all false
set_option maxRecDepth 100000
set_option maxHeartbeats 4000000
namespace K85
open PySem PySem.Spec PyProof.Rows L2
def all1 (n : Nat) : List (List Int) := (List.range n).map fun a : Nat => [(a : Int)]
def all2 (n : Nat) : List (List Int) := (List.range (n * n)).map fun j : Nat => [((j / n : Nat) : Int), ((j % n : Nat) : Int)]
/-- what a comprehension of rows made -/
theorem rows_of {K : PySem.W.Frag} {H : Hp} : ∀ (rows : List (List Int)) (ys : List V), ys.length = rows.length → (∀ (j : Nat) (y : V) (r : List Int), ys[j]? = some y → rows[j]? = some r → Dp K H y (rowD r)) → ∃ rs, ys = adr rs ∧ intsR rs = rows ∧ RowsAt K H rs
  | [], ys, hl, _ => ⟨[], by match ys, hl with | [], _ => rfl, rfl, fun r hr => by cases hr⟩
  | r :: rows, [], hl, _ => by cases hl
  | r :: rows, y :: ys, hl, h => by
    obtain ⟨rs, e1, e2, e3⟩ := rows_of rows ys (by simpa using hl) fun j y r hy hr => h (j + 1) y r hy hr
    have d := h 0 y r rfl rfl
    cases y with
    | ref t => exact ⟨(t, r) :: rs, by rw [e1] <;> rfl, by rw [← e2] <;> rfl, fun q hq => by
        rcases List.mem_cons.mp hq with z | z
        · rw [z]; exact dpRow_T d
        · exact e3 q z⟩
    | _ => cases d
section
variable {w : World} {K : PySem.W.Frag} {mg : Str → Option Value} {base : Heap}
def sp_law_every (K : PySem.W.Frag) : Sp := fun vs H Q _ => ∃ (n : Nat) (pl : Int), vs = [.int (n : Int), .int pl] ∧ 1 ≤ n ∧ n ≤ 8 ∧ (pl = 1 ∨ pl = 2) ∧
  ∀ (H' : Hp) (f : Addr) (rs : List (Addr × List Int)), L2.Same H H' → H' f = some (.lst (adr rs)) → H f = none → RowsAt K H' rs → intsR rs = (if pl = 1 then all1 n else all2 n) → Q (.ref f) H'
theorem r_law_every (T : Txt w K mg) : FnR Pg w K mg base CX0 1 (He.ga K "_law_every") (sp_law_every K) := by
  refine fnr_of T.d_law_every sc_law_every (fun _ _ _ _ _ _ us hl => match us, hl with | [_, _], _ => rfl) (fun vs H Q E ⟨_, _, e, _⟩ => by rw [e] <;> rfl) fun cdv A outer s H vs Q E hr h => ?_
  obtain ⟨n, pl, rfl, n1, n8, hpl, q⟩ := h
  refine ⟨_, (pss_cons (ps_set (i := 2) sc_law_every.nd rfl (Or.inr rfl) (pe_lc (own := [("_law_a", 4)]) (g := gName 4) (tt := tYes) rfl sc_law_every.nd (pi_range1 (by rfl) T.n_range (pa_cons (pv 0) pa_nil)) (blkOk_by (own := [("_law_a", 4)]) (N := n_law_every) (sc := defScope s_law_every) (by decide +kernel)) (fun _ _ _ _ _ => pg_name (i := 4) sc_law_every.nd rfl (Or.inl rfl)) (fun _ _ _ _ _ => pts_nil) (fun _ _ _ _ _ => (pe_tup (pa_cons (pv 4) pa_nil)))))
    (pss_cons (ps_for PassesOwn.never rfl (pi_range1 (by rfl) T.n_range (pa_cons (pe_op op_sub (pv 1) pe_int) pa_nil)) (pg_name (i := 3) sc_law_every.nd rfl (Or.inl rfl)) (pss_one (ps_set (i := 2) sc_law_every.nd rfl (Or.inr rfl) (pe_lc (own := [("_law_j", 5)]) (g := gName 5) (tt := tYes) rfl sc_law_every.nd (pi_range1 (by rfl) T.n_range (pa_cons (pe_op op_mul (pe_callB (klen (K := K) rfl) (by rfl) T.n_len bt_len (pa_cons (pv 2) pa_nil)) (pv 0)) pa_nil)) (blkOk_by (own := [("_law_j", 5)]) (N := n_law_every) (sc := defScope s_law_every) (by decide +kernel)) (fun _ _ _ _ _ => pg_name (i := 5) sc_law_every.nd rfl (Or.inl rfl)) (fun _ _ _ _ _ => pts_nil) (fun _ _ _ _ _ => (pe_op (kop_catT (K := K) rfl) (pe_ix (kix_list (K := K) rfl) (pv 2) (pe_op op_fdiv (pe_callTy call_int1 (by rfl) T.n_int bt_int (pa_cons (pv 5) pa_nil)) (pv 0)) (fun _ _ => rfl)) (pe_tup (pa_cons (pe_op op_mod (pe_callTy call_int1 (by rfl) T.n_int bt_int (pa_cons (pv 5) pa_nil)) (pv 0)) pa_nil))))))))
    (pss_one (ps_ret (pv 2))))), ?_⟩
  refine ⟨_, rfl, (n : Int), rfl, by omega, by omega, fun D hD => ?_⟩
  rw [Int.toNat_natCast]
  refine lcR (n := n) (fun i y H' => Dp K H' y (rowD [(i : Int)])) hD (by omega) (stabDp (f := fun i => rowD [(i : Int)]) fun i => key_row _) (fun i H7 Nx hi k7 hl7 f => ?_) (fun H1 ys k1 hD1 hlen hy => ?_)
  · refine ⟨rfl, _, rfl, by show 1 ≤ sizeLine; decide, fun p hp => f _ _ (same_new hp _) ?_⟩
    rw [Int.zero_add]
    exact dpRow (ns := [(i : Int)]) (SqT.of upd_same)
  have S1 : L2.Same H H1 := fun b o e => k1 b o (by simpa using ne_of_none e hD) e
  obtain ⟨rs1, er1, ei1, ra1⟩ := rows_of (K := K) (H := H1) (all1 n) ys (by rw [hlen, all1, List.length_map, List.length_range]) fun j y r hy' hr' => by
    have hj : j < n := by
      have := (List.getElem?_eq_some_iff.mp hy').1
      omega
    rw [all1, List.getElem?_map, List.getElem?_range hj] at hr'
    cases hr'
    exact hy j y hy'
  rw [er1] at hD1
  have hplN : (pl - 1).toNat = 0 ∨ (pl - 1).toNat = 1 := by rcases hpl with h | h <;> (rw [h]; decide)
  refine ⟨_, rfl, _, _, rfl, rfl, pl - 1, rfl, by omega, by omega, for_it (walk_range (lo := 0) (n := (pl - 1).toNat)) (fun i σ H' => ∃ f rs v3 v4 v5, σ = [some (.int (n : Int)), some (.int pl), some (.ref f), v3, v4, v5] ∧ L2.Same H H' ∧ H' f = some (.lst (adr rs)) ∧ H f = none ∧ RowsAt K H' rs ∧ intsR rs = (if i = 0 then all1 n else all2 n)) ⟨D, rs1, _, _, _, rfl, S1, hD1, hD, ra1, ei1⟩ (fun i σ H' _ _ => trivial) ?_ ?_⟩
  · rintro i x σ H2 H' hi ⟨f, rs, v3, v4, v5, rfl, S2, hf2, hf, ra, ei⟩ ⟨rfl, rfl⟩
    have i0 : i = 0 := by omega
    subst i0
    rw [if_pos rfl] at ei
    have lrs : rs.length = n := by
      have z := congrArg List.length ei
      rw [List.length_map, all1, List.length_map, List.length_range] at z
      exact z
    have ladr : (adr rs).length = n := by rw [List.length_map, lrs]
    have nn : n * n ≤ 64 := Nat.mul_le_mul n8 n8
    have eN : (((adr rs).length : Int) * (n : Int)).toNat = n * n := by rw [ladr, ← Int.natCast_mul, Int.toNat_natCast]
    refine ⟨_, rfl, f, _, rfl, .inl (SqL.of hf2), _, rfl, _, _, rfl, rfl, cmulR (by omega) (by omega), ((adr rs).length : Int) * (n : Int), rfl, ?_, ?_, fun D2 hD2 => ?_⟩
    · rw [ladr, ← Int.natCast_mul]; omega
    · rw [ladr, ← Int.natCast_mul]; omega
    rw [eN]
    have nf : f ≠ D2 := ne_of_none hf2 hD2
    refine lcR (n := n * n) (fun i y H' => Dp K H' y (rowD [((i / n : Nat) : Int), ((i % n : Nat) : Int)])) hD2 (by omega) (stabDp (f := fun i => rowD [((i / n : Nat) : Int), ((i % n : Nat) : Int)]) fun i => key_row _) (fun j H3 Nx hj k3 hl3 g => ?_) (fun H3 ys k3 hD3 hlen3 hy3 => ?_)
    · have hjn : j / n < n := Nat.div_lt_of_lt_mul hj
      have hjr : j / n < rs.length := by rw [lrs]; exact hjn
      have hat : (adr rs)[j / n]? = some (.ref (rs[j / n]).1) := by rw [List.getElem?_map, List.getElem?_eq_getElem hjr] <;> rfl
      have h2 : (rs[j / n]).2 = [((j / n : Nat) : Int)] := by
        have z : (intsR rs)[j / n]? = some (rs[j / n]).2 := by rw [List.getElem?_map, List.getElem?_eq_getElem hjr] <;> rfl
        rw [ei, all1, List.getElem?_map, List.getElem?_range hjn] at z
        exact (Option.some.inj z).symm
      have hT : SqT K H3 (rs[j / n]).1 [.int ((j / n : Nat) : Int)] := by
        have z := ra _ (List.getElem_mem hjr)
        rw [h2] at z
        exact kpD_T z hD2 k3
      have ed : (0 + (j : Int)) / (n : Int) = ((j / n : Nat) : Int) := by rw [Int.zero_add, Int.natCast_ediv]
      have em : (0 + (j : Int)) % (n : Int) = ((j % n : Nat) : Int) := by rw [Int.zero_add, Int.natCast_emod]
      generalize (rs[j / n]).1 = ta at hat hT
      refine ⟨rfl, _, rfl, _, rfl, .inl ⟨_, rfl, _, rfl, _, _, rfl, rfl, ⟨by omega, by omega⟩, f, adr rs, _, _, rfl, rfl, kpD_L (SqL.of hf2) hD2 k3, (show atI (adr rs) ((0 + (j : Int)) / (n : Int)) = some (.ref ta) by rw [ed]; exact atI_nat hat), ?_⟩⟩
      refine ⟨_, rfl, .inl ⟨_, rfl, _, rfl, _, _, rfl, rfl, (show (0 : Int) < (n : Int) by omega), ?_⟩⟩
      refine ⟨by show 1 ≤ sizeLine; decide, fun p hp => ?_⟩
      have S4 := same_new hp (.tup [V.int ((0 + (j : Int)) % (n : Int))])
      have g4 : (upd H3 p (.tup [V.int ((0 + (j : Int)) % (n : Int))])) p = some (.tup [.int ((j % n : Nat) : Int)]) := by rw [em]; exact upd_same
      refine ⟨ta, p, _, _, rfl, rfl, same_T S4 hT, SqT.of upd_same, (by simp), by show 2 ≤ sizeLine; decide, fun z => absurd z (by simp), fun _ p2 hp2 => ?_⟩
      refine g _ _ (S4.trans (same_new hp2 _)) ?_
      refine dpRow (ns := [((j / n : Nat) : Int), ((j % n : Nat) : Int)]) (SqT.of ?_)
      rw [← em]
      exact upd_same
    · have S3 := fun b o e => k3 b o (by simpa using ne_of_none e hD2) e
      obtain ⟨rs2, er2, ei2, ra2⟩ := rows_of (K := K) (H := H3) (all2 n) ys (by rw [hlen3, all2, List.length_map, List.length_range]) fun j y r hy' hr' => by
        have hj : j < n * n := by
          have := (List.getElem?_eq_some_iff.mp hy').1
          omega
        rw [all2, List.getElem?_map, List.getElem?_range hj] at hr'
        cases hr'
        exact hy3 j y hy'
      rw [er2] at hD3
      exact ⟨D2, rs2, _, _, _, rfl, S2.trans S3, hD3, same_none S2 hD2, ra2, by rw [ei2] <;> rfl⟩
  · rintro σ H2 ⟨f, rs, v3, v4, v5, rfl, S2, hf2, hf, ra, ei⟩
    refine ⟨_, rfl, q H2 f rs S2 hf2 hf ra ?_⟩
    rw [ei]
    rcases hpl with h | h <;> (rw [h]; rfl)
end
end K85

set_option Elab.async false
set_option linter.all false
set_option maxRecDepth 100000
set_option maxHeartbeats 4000000
namespace K85
open PySem PySem.Spec PyProof.Rows L2
abbrev allR (n : Nat) (pl : Int) : List (List Int) := if pl = 1 then all1 n else all2 n
theorem all1_nd (n : Nat) : (all1 n).Nodup := by
  unfold all1
  rw [List.Nodup, List.pairwise_map]
  refine (List.nodup_range (n := n)).imp fun h e => h ?_
  simp at e
  omega
theorem all2_nd (n : Nat) (hn : 1 ≤ n) : (all2 n).Nodup := by
  unfold all2
  rw [List.Nodup, List.pairwise_map]
  refine (List.nodup_range (n := n * n)).imp fun {a b} h e => h ?_
  simp only [List.cons.injEq, and_true] at e
  have e1 : a / n = b / n := by omega
  have e2 : a % n = b % n := by omega
  rw [← Nat.div_add_mod a n, ← Nat.div_add_mod b n, e1, e2]
theorem all1_mem {n : Nat} {r : List Int} : r ∈ all1 n ↔ ∃ a : Int, r = [a] ∧ 0 ≤ a ∧ a < n := by
  unfold all1
  rw [List.mem_map]
  constructor
  · rintro ⟨a, ha, rfl⟩
    have := List.mem_range.mp ha
    exact ⟨_, rfl, by omega, by omega⟩
  · rintro ⟨a, rfl, h0, h1⟩
    exact ⟨a.toNat, List.mem_range.mpr (by omega), by rw [Int.toNat_of_nonneg h0]⟩
theorem all2_mem {n : Nat} (hn : 1 ≤ n) {r : List Int} : r ∈ all2 n ↔ ∃ a b : Int, r = [a, b] ∧ 0 ≤ a ∧ a < n ∧ 0 ≤ b ∧ b < n := by
  unfold all2
  rw [List.mem_map]
  constructor
  · rintro ⟨j, hj, rfl⟩
    have hj' := List.mem_range.mp hj
    have h1 : j / n < n := Nat.div_lt_of_lt_mul hj'
    have h2 : j % n < n := Nat.mod_lt _ hn
    exact ⟨_, _, rfl, Int.natCast_nonneg _, Int.ofNat_lt.mpr h1, Int.natCast_nonneg _, Int.ofNat_lt.mpr h2⟩
  · rintro ⟨a, b, rfl, a0, a1, b0, b1⟩
    obtain ⟨a, rfl⟩ : ∃ x : Nat, a = (x : Int) := ⟨a.toNat, by omega⟩
    obtain ⟨b, rfl⟩ : ∃ x : Nat, b = (x : Int) := ⟨b.toNat, by omega⟩
    have ha : a < n := by omega
    have hb : b < n := by omega
    refine ⟨n * a + b, List.mem_range.mpr ?_, ?_⟩
    · have : n * (a + 1) ≤ n * n := Nat.mul_le_mul_left n ha
      rw [Nat.mul_add] at this
      omega
    · have e1 : (n * a + b) / n = a := by rw [Nat.mul_add_div hn, Nat.div_eq_of_lt hb, Nat.add_zero]
      have e2 : (n * a + b) % n = b := by rw [Nat.mul_add_mod, Nat.mod_eq_of_lt hb]
      rw [e1, e2]
theorem all2_len (n : Nat) : (all2 n).length = n * n := by rw [all2, List.length_map, List.length_range]
theorem all1_len (n : Nat) : (all1 n).length = n := by rw [all1, List.length_map, List.length_range]
theorem cut_sub {α : Type} {f : α → V} (ns : List α) (lo hi : Option Int) : ∃ ms : List α, cutV (ns.map f) lo hi = ms.map f ∧ ms.Sublist ns := by
  unfold cutV
  rw [← List.map_drop, ← List.map_take]
  exact ⟨_, rfl, (List.take_sublist _ _).trans (List.drop_sublist _ _)⟩
section
variable {w : World} {K : PySem.W.Frag} {mg : Str → Option Value} {base : Heap}
def sp_law_rows (K : PySem.W.Frag) : Sp := fun vs H Q _ => ∃ (b sl : Addr) (n : Nat) (pl cap : Int), vs = [.ref b, .int (n : Int), .int pl, .int cap] ∧ BoxAt H b sl ∧ 1 ≤ n ∧ n ≤ 8 ∧ (pl = 1 ∨ pl = 2) ∧ 0 ≤ cap ∧ cap < 1000 ∧
  ∀ (H' : Hp) (f : Addr) (rs : List (Addr × List Int)), Kp [b] H H' → BoxAt H' b sl → H' f = some (.lst (adr rs)) → H f = none → RowsAt K H' rs → (intsR rs).Nodup → (∀ r ∈ intsR rs, r ∈ allR n pl) → rs.length ≤ 64 → Q (.ref f) H'
theorem r_law_rows (T : Txt w K mg) : FnR Pg w K mg base CX0 3 (He.ga K "_law_rows") (sp_law_rows K) := by
  refine fnr_of T.d_law_rows sc_law_rows (fun _ _ _ _ _ _ us hl => match us, hl with | [_, _, _, _], _ => rfl) (fun vs H Q E ⟨_, _, _, _, _, e, _⟩ => by rw [e] <;> rfl) fun cdv A outer s H vs Q E hr h => ?_
  obtain ⟨b, sl, n, pl, cap, rfl, bx, n1, n8, hpl, c0, c1, q⟩ := h
  refine ⟨_, (pss_one (ps_ret (pe_slice sl_list (pe_callR (r_law_mixed T) (hr.mono (by decide)) rfl T.g_law_mixed (fnr_kp T.d_law_mixed) pass0 (pa_cons (pv 0) (pa_cons (pe_callR (r_law_every T) (hr.mono (by decide)) rfl T.g_law_every (fnr_kp T.d_law_every) pass0 (pa_cons (pv 1) (pa_cons (pv 2) pa_nil))) pa_nil))) po_none (po_some (pe_callR (r_law_pull T) (hr.mono (by decide)) rfl T.g_law_pull (fnr_kp T.d_law_pull) pass0 (pa_cons (pv 0) (pa_cons (pe_op op_add (pv 3) pe_int) pa_nil))))))), ?_⟩
  have nn : n * n ≤ 64 := Nat.mul_le_mul n8 n8
  refine ⟨_, rfl, _, rfl, _, rfl, n, pl, rfl, n1, n8, hpl, fun H1 f1 rs1 S1 hf1 hn1 ra1 ei1 => ?_⟩
  have lall : (allR n pl).length ≤ 64 := by
    show (if pl = 1 then all1 n else all2 n).length ≤ 64
    split
    · rw [all1_len]; omega
    · rw [all2_len]; omega
  have nall : (allR n pl).Nodup := by
    show (if pl = 1 then all1 n else all2 n).Nodup
    split
    · exact all1_nd n
    · exact all2_nd n n1
  have lrs : rs1.length ≤ 64 := by
    have lall : (if pl = 1 then all1 n else all2 n).length ≤ 64 := lall
    have z := congrArg List.length ei1
    rw [List.length_map] at z
    omega
  have bx1 := bx.same S1
  have nf1 : f1 ≠ b := fun z => by
    obtain ⟨_, _, _, _, _, e, _⟩ := bx.ex
    rw [z, e] at hn1; cases hn1
  refine ⟨b, sl, f1, adr rs1, rfl, bx1, SqL.of hf1, nf1, by rw [List.length_map]; omega, fun H2 f2 ys k2 bx2 hf2 hn2 pm => ?_⟩
  obtain ⟨rs2, e2, pm2⟩ := permBack (f := fun r : Addr × List Int => V.ref r.1) pm rs1 rfl
  have wb : Wrs H1 [b] := fun m hm => by
    obtain ⟨_, _, _, _, _, e, _⟩ := bx1.ex
    rw [List.mem_singleton.mp hm]; exact Wr.lst e
  have ra2 : RowsAt K H2 rs2 := fun r hr => kp_T k2 wb (ra1 r (pm2.mem_iff.mp hr))
  have nf2 : f2 ≠ b := fun z => by
    obtain ⟨_, _, _, _, _, e, _⟩ := bx1.ex
    rw [z, e] at hn2; cases hn2
  have wb2 : Wrs H2 [b] := fun m hm => by
    obtain ⟨_, _, _, _, _, e, _⟩ := bx2.ex
    rw [List.mem_singleton.mp hm]; exact Wr.lst e
  refine ⟨_, rfl, _, rfl, _, _, rfl, rfl, b, sl, _, rfl, bx2, by omega, by omega, fun H3 d k3 bx3 d0 d1 => ?_⟩
  have ra3 : RowsAt K H3 rs2 := fun r hr => kp_T k3 wb2 (ra2 r hr)
  have hf3 := k3 _ _ (by simpa using nf2) hf2
  rw [e2] at hf3
  refine ⟨_, rfl, f2, _, rfl, SqL.of hf3, fun p hp => ?_⟩
  obtain ⟨rs3, e3, sb⟩ := cut_sub (f := fun r : Addr × List Int => V.ref r.1) rs2 Option.none (some d)
  have S4 := same_new hp (.lst (cutV (rs2.map fun r => V.ref r.1) Option.none (some d)))
  have kk : Kp [b] H H3 := ((Kp.same S1).trans k2).trans k3
  have npb : p ≠ b := fun z => by
    obtain ⟨_, _, _, _, _, e, _⟩ := bx3.ex
    rw [z, e] at hp; cases hp
  refine q _ p rs3 (kk.trans (Kp.same S4)) (bx3.same S4) (by rw [upd_same, e3]) (kk.free hp (by simpa using npb)) (fun r hr => same_T S4 (ra3 r (sb.subset hr))) ?_ ?_ ?_
  · have z : (intsR rs2).Nodup := by
      have y := (pm2.map fun r : Addr × List Int => r.2).nodup_iff.mpr (by rw [show rs1.map (fun r : Addr × List Int => r.2) = intsR rs1 from rfl, ei1]; exact nall)
      exact y
    exact z.sublist (sb.map _)
  · intro r hr
    obtain ⟨q', hq', rfl⟩ := List.mem_map.mp hr
    have y := pm2.mem_iff.mp (sb.subset hq')
    have z : q'.2 ∈ intsR rs1 := List.mem_map.mpr ⟨q', y, rfl⟩
    rw [ei1] at z
    exact z
  · have := sb.length_le
    have := pm2.length_eq
    omega
end
end K85

set_option Elab.async false
set_option linter.all false
set_option maxRecDepth 100000
set_option maxHeartbeats 4000000
namespace K85
open PySem PySem.Spec PyProof.Rows L2
theorem tb_ok {n : Nat} {nm : Str} {p : Int} {t l : Addr} {rs : List (Addr × List Int)} (n1 : 1 ≤ n) (hn : NameOk nm) (hp : p = 1 ∨ p = 2) (few : rs.length ≤ 64) (nd : (intsR rs).Nodup) (hr : ∀ r ∈ intsR rs, r ∈ allR n p) : TbOk (n : Int) ⟨nm, p, t, l, rs⟩ := by
  refine ⟨hn, hp, few, fun r hrs => ?_, nd⟩
  have z := hr r.2 (List.mem_map.mpr ⟨r, hrs, rfl⟩)
  rcases hp with rfl | rfl
  · obtain ⟨a, e, a0, a1⟩ := all1_mem.mp (show r.2 ∈ all1 n from z)
    rw [e]
    exact ⟨rfl, fun x hx => by rw [List.mem_singleton.mp hx]; exact ⟨a0, a1⟩⟩
  · obtain ⟨a, b, e, a0, a1, b0, b1⟩ := (all2_mem n1).mp (show r.2 ∈ all2 n from z)
    rw [e]
    refine ⟨rfl, fun x hx => ?_⟩
    rcases List.mem_cons.mp hx with z | z
    · rw [z]; exact ⟨a0, a1⟩
    · rw [List.mem_singleton.mp z]; exact ⟨b0, b1⟩
theorem BoxAt.wrs {H : Hp} {b sl : Addr} (x : BoxAt H b sl) : Wrs H [b] := fun m hm => by
  obtain ⟨_, _, _, _, _, e, _⟩ := x.ex
  rw [List.mem_singleton.mp hm]
  exact Wr.lst e
theorem BoxAt.nb {H : Hp} {b sl c : Addr} (x : BoxAt H b sl) (h : H c = none) : c ≠ b := fun z => by
  obtain ⟨_, _, _, _, _, e, _⟩ := x.ex
  rw [z, e] at h
  cases h
theorem BoxAt.ns {H : Hp} {b sl c : Addr} (x : BoxAt H b sl) (h : H c = none) : c ≠ sl := fun z => by
  obtain ⟨_, _, _, _, _, _, e, _⟩ := x.ex
  rw [z, e] at h
  cases h
theorem BoxAt.upd {H : Hp} {b sl c : Addr} (x : BoxAt H b sl) (h1 : c ≠ b) (h2 : c ≠ sl) (o : HO) : BoxAt (upd H c o) b sl := x.kp (M := [c]) (lockK _ _ _) (by simpa using Ne.symm h1) (by simpa using Ne.symm h2)
section
variable {w : World} {K : PySem.W.Frag} {mg : Str → Option Value} {base : Heap}
structure TabsL (n : Nat) (w0 w1 : Str) (L : List Tb) : Prop where
  ok : TabsOk (n : Int) L
  hd : ∃ e0 e1 rest, L = e0 :: e1 :: rest ∧ e0.nm = w0 ∧ e0.p = 2 ∧ e1.nm = w1 ∧ e1.p = 1
def sp_law_tabs (K : PySem.W.Frag) : Sp := fun vs H Q _ => ∃ (b sl wl : Addr) (n : Nat) (w0 w1 w2 : Str), vs = [.ref b, .int (n : Int), .ref wl] ∧ BoxAt H b sl ∧ H wl = some (.lst [.str w0, .str w1, .str w2]) ∧ Words3 w0 w1 w2 ∧ wl ≠ b ∧ 1 ≤ n ∧ n ≤ 8 ∧
  ∀ (H' : Hp) (d : Addr) (L : List Tb), Kp [b] H H' → BoxAt H' b sl → H d = none → (∀ e ∈ L, H e.l = none) → TabsAt K H' d L → TabsL n w0 w1 L → Q (.ref d) H'
theorem r_law_tabs (T : Txt w K mg) : FnR Pg w K mg base CX0 4 (He.ga K "_law_tabs") (sp_law_tabs K) := by
  refine fnr_of T.d_law_tabs sc_law_tabs (fun _ _ _ _ _ _ us hl => match us, hl with | [_, _, _], _ => rfl) (fun vs H Q E ⟨_, _, _, _, _, _, _, e, _⟩ => by rw [e] <;> rfl) fun cdv A outer s H vs Q E hr h => ?_
  obtain ⟨b, sl, wl, n, w0, w1, w2, rfl, bx, hwl, hw, nwb, n1, n8, q⟩ := h
  refine ⟨_, (pss_cons (ps_set (i := 3) sc_law_tabs.nd rfl (Or.inl rfl) (pe_disp (pps_cons (pe_ix (kix_list (K := K) rfl) (pv 2) pe_int (fun _ _ => rfl)) (pe_tup (pa_cons pe_int (pa_cons (pe_callR (r_law_rows T) (hr.mono (by decide)) rfl T.g_law_rows (fnr_kp T.d_law_rows) pass0 (pa_cons (pv 0) (pa_cons (pv 1) (pa_cons pe_int (pa_cons (pe_op op_mul pe_int (pv 1)) pa_nil))))) pa_nil))) (pps_cons (pe_ix (kix_list (K := K) rfl) (pv 2) pe_int (fun _ _ => rfl)) (pe_tup (pa_cons pe_int (pa_cons (pe_callR (r_law_rows T) (hr.mono (by decide)) rfl T.g_law_rows (fnr_kp T.d_law_rows) pass0 (pa_cons (pv 0) (pa_cons (pv 1) (pa_cons pe_int (pa_cons (pv 1) pa_nil))))) pa_nil))) pps_nil)) (by rfl) (by rfl) (fun z => by cases z) (by decide)))
    (pss_cons (ps_if (pt_cmpR op_eq (pe_callR (r_law_pull T) (hr.mono (by decide)) rfl T.g_law_pull (fnr_kp T.d_law_pull) pass0 (pa_cons (pv 0) (pa_cons pe_int pa_nil))) pe_int (nomark _)) (pss_one (ps_dput (hu_of hr) (pv 3) (pe_ix (kix_list (K := K) rfl) (pv 2) pe_int (fun _ _ => rfl)) (pe_tup (pa_cons pe_int (pa_cons (pe_callR (r_law_rows T) (hr.mono (by decide)) rfl T.g_law_rows (fnr_kp T.d_law_rows) pass0 (pa_cons (pv 0) (pa_cons (pv 1) (pa_cons pe_int (pa_cons pe_int pa_nil))))) pa_nil))) rfl)) pss_nil)
    (pss_one (ps_ret (pv 3))))), ?_⟩
  have wlk : ∀ {H'}, Kp [b] H H' → H' wl = some (.lst [.str w0, .str w1, .str w2]) := fun k => k _ _ (by simpa using nwb) hwl
  intro d hd
  have S1 := same_new hd (.dK [])
  have hd1 : (upd H d (.dK [])) d = some (.dK []) := upd_same
  have ndb := bx.nb hd
  have nds := bx.ns hd
  have bx1 := bx.same S1
  have k1 : Kp [b] H (upd H d (.dK [])) := Kp.same S1
  generalize upd H d (.dK []) = H1 at S1 hd1 bx1 k1
  refine ⟨_, rfl, wl, _, _, _, rfl, rfl, SqL.of (wlk k1), rfl, ?_⟩
  refine ⟨_, rfl, _, rfl, _, rfl, _, _, rfl, rfl, cmulR (by omega) (by omega), b, sl, n, 2, _, rfl, bx1, n1, n8, .inr rfl, by omega, by omega, fun H2 l0 rs0 k2 bx2 hl0 nl0 ra0 nd0 in0 few0 => ?_⟩
  refine ⟨by show 2 ≤ sizeLine; decide, fun t0 ht0 => ?_⟩
  have S3 := same_new ht0 (.tup [.int 2, .ref l0])
  have at0 : TbAt K (upd H2 t0 (.tup [.int 2, .ref l0])) ⟨w0, 2, t0, l0, rs0⟩ := ⟨upd_same, S3 _ _ hl0, fun r hr => same_T S3 (ra0 r hr)⟩
  have bx3 := bx2.same S3
  have kA : Kp [b] H1 (upd H2 t0 (.tup [.int 2, .ref l0])) := k2.trans (Kp.same S3)
  generalize upd H2 t0 (.tup [.int 2, .ref l0]) = H3 at S3 at0 bx3 kA
  have k3 := k1.trans kA
  have hl0H : H l0 = none := k1.free nl0 (by simpa using bx1.nb nl0)
  refine ⟨_, rfl, wl, _, _, _, rfl, rfl, SqL.of (wlk k3), rfl, ?_⟩
  refine ⟨_, rfl, _, rfl, _, rfl, b, sl, n, 1, _, rfl, bx3, n1, n8, .inl rfl, by omega, by omega, fun H4 l1 rs1 k4 bx4 hl1 nl1 ra1 nd1 in1 few1 => ?_⟩
  refine ⟨by show 2 ≤ sizeLine; decide, fun t1 ht1 => ?_⟩
  have hl1H : H l1 = none := k3.free nl1 (by simpa using bx3.nb nl1)
  have nl0b : l0 ≠ b := bx1.nb nl0
  have at0' := at0.kp k4 bx3.wrs (by simpa using nl0b)
  have S5 := same_new ht1 (.tup [.int 1, .ref l1])
  have at1 : TbAt K (upd H4 t1 (.tup [.int 1, .ref l1])) ⟨w1, 1, t1, l1, rs1⟩ := ⟨upd_same, S5 _ _ hl1, fun r hr => same_T S5 (ra1 r hr)⟩
  have at0'' := at0'.same S5
  have bx5 := bx4.same S5
  have k5 : Kp [b] H (upd H4 t1 (.tup [.int 1, .ref l1])) := (k3.trans k4).trans (Kp.same S5)
  have kd5 : Kp [b] H1 (upd H4 t1 (.tup [.int 1, .ref l1])) := (kA.trans k4).trans (Kp.same S5)
  generalize upd H4 t1 (.tup [.int 1, .ref l1]) = H5 at S5 at1 at0'' bx5 k5 kd5
  have hd5 := kd5 _ _ (by simpa using ndb) hd1
  have mk : mergeK [] [((Sum.inr w0 : Key), V.ref t0), (Sum.inr w1, .ref t1)] = [((Sum.inr w0 : Key), V.ref t0), (Sum.inr w1, .ref t1)] := by
    show putK (putK [] (Sum.inr w0) (V.ref t0)) (Sum.inr w1) (.ref t1) = _
    have e1 : putK [] (Sum.inr w0 : Key) (V.ref t0) = [(Sum.inr w0, .ref t0)] := rfl
    rw [e1, putK_new (fun z hz => by rw [List.mem_singleton.mp hz]; exact fun y => hw.ne01 (Sum.inr.inj y))] <;> rfl
  refine ⟨hd5, [((Sum.inr w0 : Key), V.ref t0), (Sum.inr w1, .ref t1)], rfl, by show 2 ≤ 15; decide, ?_⟩
  rw [mk]
  have kd6 : Kp [d] H5 (upd H5 d (.dK [((Sum.inr w0 : Key), V.ref t0), (Sum.inr w1, .ref t1)])) := lockK _ _ _
  have a0 := at0''.kpd hd5 kd6
  have a1 := at1.kpd hd5 kd6
  have hd6 : (upd H5 d (.dK [((Sum.inr w0 : Key), V.ref t0), (Sum.inr w1, .ref t1)])) d = some (.dK [((Sum.inr w0 : Key), V.ref t0), (Sum.inr w1, .ref t1)]) := upd_same
  have bx6 := bx5.upd ndb nds (.dK [((Sum.inr w0 : Key), V.ref t0), (Sum.inr w1, .ref t1)])
  have k6 := k5.newer hd (.dK [((Sum.inr w0 : Key), V.ref t0), (Sum.inr w1, .ref t1)])
  generalize upd H5 d (.dK [((Sum.inr w0 : Key), V.ref t0), (Sum.inr w1, .ref t1)]) = H6 at kd6 a0 a1 hd6 bx6 k6
  have ok0 : TbOk (n : Int) ⟨w0, 2, t0, l0, rs0⟩ := tb_ok n1 hw.n0 (.inr rfl) few0 nd0 in0
  have ok1 : TbOk (n : Int) ⟨w1, 1, t1, l1, rs1⟩ := tb_ok n1 hw.n1 (.inl rfl) few1 nd1 in1
  refine ⟨_, rfl, b, sl, _, rfl, bx6, by decide, by decide, fun H7 c k7 bx7 c0 c1 => ?_⟩
  have wb6 := bx6.wrs
  have a0' := a0.kp k7 wb6 (by simpa using nl0b)
  have a1' := a1.kp k7 wb6 (by simpa using bx3.nb nl1)
  have hd7 := k7 _ _ (by simpa using ndb) hd6
  have kk7 := k6.trans k7
  refine ⟨rfl, _, rfl, ?_⟩
  by_cases hc : c = 0
  · refine iteT' (decide_eq_true (by rw [hc])) ?_
    refine ⟨_, rfl, _, rfl, b, sl, n, 2, _, rfl, bx7, n1, n8, .inr rfl, by decide, by decide, fun H8 l2 rs2 k8 bx8 hl2 nl2 ra2 nd2 in2 few2 => ?_⟩
    refine ⟨by show 2 ≤ sizeLine; decide, fun t2 ht2 => ?_⟩
    have hl2H : H l2 = none := kk7.free nl2 (by simpa using bx7.nb nl2)
    have S9 := same_new ht2 (.tup [.int 2, .ref l2])
    have a2 : TbAt K (upd H8 t2 (.tup [.int 2, .ref l2])) ⟨w2, 2, t2, l2, rs2⟩ := ⟨upd_same, S9 _ _ hl2, fun r hr => same_T S9 (ra2 r hr)⟩
    have a0'' := (a0'.kp k8 bx7.wrs (by simpa using nl0b)).same S9
    have a1'' := (a1'.kp k8 bx7.wrs (by simpa using bx3.nb nl1)).same S9
    have bx9 := bx8.same S9
    have hd9 := S9 _ _ (k8 _ _ (by simpa using ndb) hd7)
    have k9 := (kk7.trans k8).trans (Kp.same (M := [b]) S9)
    generalize upd H8 t2 (.tup [.int 2, .ref l2]) = H9 at S9 a2 a0'' a1'' bx9 hd9 k9
    refine ⟨_, rfl, _, rfl, wl, _, _, _, rfl, rfl, SqL.of (wlk k9), rfl, d, _, rfl, DPut.k (k := Sum.inr w2) hd9 (by show 2 < sizeLine; decide), ?_⟩
    rw [putK_new (fun z hz => by
      rcases List.mem_cons.mp hz with y | y
      · rw [y]; exact fun y => hw.ne02 (Sum.inr.inj y)
      · rw [List.mem_singleton.mp y]; exact fun y => hw.ne12 (Sum.inr.inj y))]
    have kd : ∀ o, Kp [d] H9 (upd H9 d o) := fun o => lockK _ _ _
    refine ⟨_, rfl, q _ d [⟨w0, 2, t0, l0, rs0⟩, ⟨w1, 1, t1, l1, rs1⟩, ⟨w2, 2, t2, l2, rs2⟩] (k9.newer hd _) (bx9.upd ndb nds _) hd ?_ ⟨upd_same, ?_⟩ ⟨⟨by show 3 ≤ 4; decide, ?_, ?_⟩, _, _, _, rfl, rfl, rfl, rfl, rfl⟩⟩
    · intro e he
      simp only [List.mem_cons, List.not_mem_nil, or_false] at he
      rcases he with rfl | rfl | rfl
      · exact hl0H
      · exact hl1H
      · exact hl2H
    · intro e he
      simp only [List.mem_cons, List.not_mem_nil, or_false] at he
      rcases he with rfl | rfl | rfl
      · exact a0''.kpd hd9 (kd _)
      · exact a1''.kpd hd9 (kd _)
      · exact a2.kpd hd9 (kd _)
    · show [w0, w1, w2].Nodup
      simp [hw.ne01, hw.ne02, hw.ne12]
    · intro e he
      simp only [List.mem_cons, List.not_mem_nil, or_false] at he
      rcases he with rfl | rfl | rfl
      · exact ok0
      · exact ok1
      · exact tb_ok n1 hw.n2 (.inr rfl) few2 nd2 in2
  · refine iteF' (decide_eq_false (by intro z; injection z with z; exact hc z)) ?_
    refine ⟨_, rfl, q _ d [⟨w0, 2, t0, l0, rs0⟩, ⟨w1, 1, t1, l1, rs1⟩] kk7 bx7 hd ?_ ⟨hd7, ?_⟩ ⟨⟨by show 2 ≤ 4; decide, ?_, ?_⟩, _, _, _, rfl, rfl, rfl, rfl, rfl⟩⟩
    · intro e he
      simp only [List.mem_cons, List.not_mem_nil, or_false] at he
      rcases he with rfl | rfl
      · exact hl0H
      · exact hl1H
    · intro e he
      simp only [List.mem_cons, List.not_mem_nil, or_false] at he
      rcases he with rfl | rfl
      · exact a0'
      · exact a1'
    · show [w0, w1].Nodup
      simp [hw.ne01]
    · intro e he
      simp only [List.mem_cons, List.not_mem_nil, or_false] at he
      rcases he with rfl | rfl
      · exact ok0
      · exact ok1
end
end K85

set_option Elab.async false
set_option linter.all false
set_option maxRecDepth 100000
set_option maxHeartbeats 4000000
namespace K85
open PySem PySem.Spec PyProof.Rows L2
theorem mergeK_nd : ∀ {more acc : List (Key × V)}, (∀ q ∈ more, ∀ p ∈ acc, p.1 ≠ q.1) → (more.map (·.1)).Nodup → mergeK acc more = acc ++ more
  | [], acc, _, _ => by rw [List.append_nil] <;> rfl
  | q :: more, acc, h, nd => by
    rw [List.map_cons, List.nodup_cons] at nd
    show mergeK (putK acc q.1 q.2) more = acc ++ q :: more
    rw [putK_new (h q List.mem_cons_self), mergeK_nd (acc := acc ++ [(q.1, q.2)]) ?_ nd.2, List.append_assoc]
    · rfl
    · intro q' hq' p hp
      rcases List.mem_append.mp hp with z | z
      · exact h q' (List.mem_cons_of_mem _ hq') p z
      · rw [List.mem_singleton.mp z]
        exact fun e => nd.1 (List.mem_map.mpr ⟨q', hq', e.symm⟩)
theorem paired_imp {α β : Type} {F G : α → β → Prop} (h : ∀ a b, F a b → G a b) {l : List α} {m : List β} (x : Paired F l m) : Paired G l m := by
  induction x with
  | nil => exact .nil
  | cons a _ ih => exact .cons (h _ _ a) ih
abbrev tbK (e : Tb) : Str × Int × List (Addr × List Int) := (e.nm, e.p, e.rows)
def CopyAt (K : PySem.W.Frag) (H0 : Hp) (D : Addr) (H : Hp) (e : Tb) (y : V) : Prop := ∃ pr t l, y = .ref pr ∧ SqT K H pr [.str e.nm, .ref t] ∧ TbAt K H ⟨e.nm, e.p, t, l, e.rows⟩ ∧ l ≠ D ∧ H0 l = none
theorem copies {K : PySem.W.Frag} {H0 H : Hp} {D : Addr} : ∀ (L : List Tb) (ys : List V), ys.length = L.length → (∀ (j : Nat) (y : V) (e : Tb), ys[j]? = some y → L[j]? = some e → CopyAt K H0 D H e y) →
    ∃ (prs : List Addr) (L' : List Tb), ys = prs.map V.ref ∧ Paired (fun p kv => SqT K H p [kV kv.1, kv.2]) prs (kvT L') ∧ L'.map tbK = L.map tbK ∧ ∀ e ∈ L', TbAt K H e ∧ H0 e.l = none
  | [], [], _, _ => ⟨[], [], rfl, .nil, rfl, fun e he => by cases he⟩
  | [], _ :: _, hl, _ => by cases hl
  | _ :: _, [], hl, _ => by cases hl
  | e :: L, y :: ys, hl, h => by
    obtain ⟨prs, L', e1, e2, e3, e4⟩ := copies L ys (by simpa using hl) fun j y e hy he => h (j + 1) y e hy he
    obtain ⟨pr, t, l, rfl, hs, ht, _, hn⟩ := h 0 y e rfl rfl
    refine ⟨pr :: prs, ⟨e.nm, e.p, t, l, e.rows⟩ :: L', by rw [e1] <;> rfl, .cons hs e2, by rw [List.map_cons, List.map_cons, e3], fun e' he' => ?_⟩
    rcases List.mem_cons.mp he' with z | z
    · rw [z]; exact ⟨ht, hn⟩
    · exact e4 e' z
section
variable {w : World} {K : PySem.W.Frag} {mg : Str → Option Value} {base : Heap}
def sp_law_copy (K : PySem.W.Frag) : Sp := fun vs H Q _ => ∃ (d : Addr) (L : List Tb), vs = [.ref d] ∧ TabsAt K H d L ∧ (L.map (·.nm)).Nodup ∧ L.length ≤ 4 ∧
  ∀ (H' : Hp) (d' : Addr) (L' : List Tb), L2.Same H H' → H d' = none → (∀ e ∈ L', H e.l = none) → TabsAt K H' d' L' → L'.map tbK = L.map tbK → Q (.ref d') H'
theorem r_law_copy (T : Txt w K mg) : FnR Pg w K mg base CX0 1 (He.ga K "_law_copy") (sp_law_copy K) := by
  refine fnr_of T.d_law_copy sc_law_copy (fun _ _ _ _ _ _ us hl => match us, hl with | [_], _ => rfl) (fun vs H Q E ⟨_, _, e, _⟩ => by rw [e] <;> rfl) fun cdv A outer s H vs Q E hr h => ?_
  obtain ⟨d, L, rfl, hT, nd, few, q⟩ := h
  refine ⟨_, (pss_one (ps_ret (pe_callTy (L2.call_dictP rfl) (by rfl) T.n_dict bt_dict (pa_cons (pe_lock (pe_lc (own := [("_law_name", 1)]) (g := gName 1) (tt := tYes) rfl sc_law_copy.nd (pi_keys (pv 0)) (blkOk_by (own := [("_law_name", 1)]) (N := n_law_copy) (sc := defScope s_law_copy) (by decide +kernel)) (fun _ _ _ _ _ => pg_name (i := 1) sc_law_copy.nd rfl (Or.inl rfl)) (fun _ _ _ _ _ => pts_nil) (fun _ _ _ _ _ => (pe_tup (pa_cons (pv 1) (pa_cons (pe_tup (pa_cons (pe_ix (kix_tup (K := K) rfl) (pe_dget (hu_of hr) (pv 0) (pv 1) (fun _ _ => rfl)) pe_int (fun _ _ => rfl)) (pa_cons (pe_callTy (klist_of (K := K) rfl) (by rfl) T.n_list bt_list (pa_cons (pe_ix (kix_tup (K := K) rfl) (pe_dget (hu_of hr) (pv 0) (pv 1) (fun _ _ => rfl)) pe_int (fun _ _ => rfl)) pa_nil)) pa_nil))) pa_nil)))))) pa_nil)))), ?_⟩
  refine ⟨d, _, hT.dic, trivial, fun od => ?_⟩
  refine ⟨_, rfl, d, od, rfl, .inl ⟨_, upd_same, fun D hD => ?_⟩⟩
  have kF : Kp [d] H (upd H d (.frz od (.dK (kvT L)))) := lockK _ _ _
  have gF : (upd H d (.frz od (.dK (kvT L)))) d = some (.frz od (.dK (kvT L))) := upd_same
  generalize upd H d (.frz od (.dK (kvT L))) = HF at kF gF hD
  have ndD : d ≠ D := ne_of_none gF hD
  have hDH : H D = none := kF.free hD (by simpa using Ne.symm ndD)
  have stab : Stab D (fun i y H' => ∀ e, L[i]? = some e → CopyAt K H D H' e y) := fun i y H1 H2 ⟨l, hl⟩ k hR e he => by
    obtain ⟨pr, t, l', rfl, hs, ht, hn, hn2⟩ := hR e he
    have wD : Wrs H1 [D] := fun m hm => by rw [List.mem_singleton.mp hm]; exact Wr.lst hl
    exact ⟨pr, t, l', rfl, kp_T k wD hs, ht.kp k wD (by simpa using hn), hn, hn2⟩
  refine lc_it (walk_keys (kvs := kvT L)) (fun i H' => LcI HF D (fun i y H' => ∀ e, L[i]? = some e → CopyAt K H D H' e y) i H') (LcI.zero hD) (fun i H' _ k => k.1 _ _ (by simpa using ndD) gF) ?_ ?_
  · rintro i x H1 H1' hi k ⟨rfl, ky, vv, hkv, rfl⟩
    have hiL : i < L.length := by rw [List.length_map] at hi; exact hi
    have hat : (kvT L)[i]? = some (Sum.inr L[i].nm, V.ref L[i].t) := kvT_at (List.getElem?_eq_getElem hiL)
    rw [hat] at hkv
    cases hkv
    have hmem : L[i] ∈ L := List.getElem_mem hiL
    have heq : L[i]? = some L[i] := List.getElem?_eq_getElem hiL
    generalize L[i] = e at hat hmem heq
    have hF1 := k.1 _ _ (by simpa using ndD) gF
    have get : ∀ {H2}, L2.Same H1' H2 → DGet H2 d (.str e.nm) (some (.ref e.t)) := fun {H2} S => .inl ⟨_, Sum.inr e.nm, .inr ⟨od, S _ _ hF1⟩, rfl, (valV_kvT nd hmem).symm⟩
    have at0 := hT.tb e hmem
    have atF := at0.kpd hT.dic kF
    have at1 : TbAt K H1' e := by
      have SF : L2.Same HF H1' := fun b o h => k.1 b o (by simpa using ne_of_none h hD) h
      exact atF.same SF
    refine ⟨rfl, _, rfl, _, rfl, _, rfl, d, _, rfl, get (L2.Same.refl _), e.t, _, _, _, rfl, rfl, at1.tup, atI_nat (j := 0) rfl, ?_⟩
    refine ⟨_, rfl, _, rfl, d, _, rfl, get (L2.Same.refl _), e.t, _, _, _, rfl, rfl, at1.tup, atI_nat (j := 1) rfl, e.l, _, rfl, .inl at1.lst, fun l2 hl2 => ?_⟩
    have S2 := same_new hl2 (.lst (adr e.rows))
    have g2 : (upd H1' l2 (.lst (adr e.rows))) l2 = some (.lst (adr e.rows)) := upd_same
    generalize upd H1' l2 (.lst (adr e.rows)) = H2 at S2 g2
    refine ⟨by show 2 ≤ sizeLine; decide, fun t2 ht2 => ?_⟩
    have S3 := same_new ht2 (.tup [.int e.p, .ref l2])
    have g3 : (upd H2 t2 (.tup [.int e.p, .ref l2])) t2 = some (.tup [.int e.p, .ref l2]) := upd_same
    generalize upd H2 t2 (.tup [.int e.p, .ref l2]) = H3 at S3 g3
    refine ⟨by show 2 ≤ sizeLine; decide, fun pr hpr => ?_⟩
    have S4 := same_new hpr (.tup [.str e.nm, .ref t2])
    have Sa := (S2.trans S3).trans S4
    refine k.step stab (Nat.lt_of_lt_of_le (Nat.lt_of_lt_of_le hiL few) (by decide)) Sa fun e' he' => ?_
    rw [heq] at he'
    cases he'
    have nlD : l2 ≠ D := fun z => by
      obtain ⟨_, acc, hacc, _⟩ := k
      rw [z, hacc] at hl2
      cases hl2
    have nld : l2 ≠ d := fun z => by rw [z, hF1] at hl2; cases hl2
    have hl2H : H l2 = none := kF.free (k.1.free hl2 (by simpa using nlD)) (by simpa using nld)
    exact ⟨pr, t2, l2, rfl, SqT.of upd_same, ⟨S4 _ _ g3, S4 _ _ (S3 _ _ g2), fun r hr => same_T Sa (at1.rows r hr)⟩, nlD, hl2H⟩
  · rintro H1 ⟨k1, ys, hD1, hlen, hall⟩
    rw [List.length_map] at hlen
    have hF1 := k1 _ _ (by simpa using ndD) gF
    refine ⟨hF1, ?_⟩
    obtain ⟨prs, L', e1, e2, e3, e4⟩ := copies L ys hlen fun j y e hy he => hall j y hy e he
    have SU : L2.Same H (upd H1 d (.dK (kvT L))) := fun b o h => by
      by_cases c : b = d
      · subst c
        rw [upd_same]
        rw [hT.dic] at h
        exact h
      · rw [upd_ne c]
        exact k1 b o (by simpa using ne_of_none h hDH) (kF b o (by simpa using c) h)
    have uT : ∀ {a : Addr} {xs : List V}, SqT K H1 a xs → SqT K (upd H1 d (.dK (kvT L))) a xs := fun {a xs} h => by
      rcases h with (h | ⟨o, h⟩) | h
      · refine .inl (.inl ?_)
        rw [upd_ne (ne_of h hF1 (by intro z; cases z))]
        exact h
      · refine .inl (.inr ⟨o, ?_⟩)
        rw [upd_ne (ne_of h hF1 (by intro z; cases z))]
        exact h
      · exact .inr h
    refine ⟨D, prs, kvT L', rfl, ?_, ?_, fun p hp => ?_⟩
    · rw [← e1]
      refine SqL.of ?_
      rw [upd_ne (Ne.symm ndD)]
      exact hD1
    · exact paired_imp (fun _ _ h => uT h) e2
    · have nd' : (L'.map (·.nm)).Nodup := by
        have z : L'.map (·.nm) = L.map (·.nm) := by
          have y := congrArg (List.map fun x : Str × Int × List (Addr × List Int) => x.1) e3
          rw [List.map_map, List.map_map] at y
          exact y
        rw [z]
        exact nd
      have mk : mergeK [] (kvT L') = kvT L' := by
        rw [mergeK_nd (fun q _ p hp => by cases hp) ?_] <;> try rfl
        rw [List.map_map]
        have y : (L'.map (·.nm)).map (Sum.inr : Str → Key) = L'.map ((fun x : Key × V => x.1) ∘ fun e => (Sum.inr e.nm, V.ref e.t)) := by rw [List.map_map] <;> rfl
        rw [← y, List.Nodup, List.pairwise_map]
        exact nd'.imp fun h e => h (Sum.inr.inj e)
      rw [mk]
      have S9 := same_new hp (.dK (kvT L'))
      refine q _ p L' (SU.trans S9) (same_none SU hp) (fun e he => (e4 e he).2) ⟨upd_same, fun e he => ?_⟩ e3
      have at1 := (e4 e he).1
      refine TbAt.same ⟨?_, ?_, fun r hr => uT (at1.rows r hr)⟩ S9
      · rw [upd_ne (ne_of at1.tup0 hF1 (by intro z; cases z))]
        exact at1.tup0
      · rw [upd_ne (ne_of at1.lst0 hF1 (by intro z; cases z))]
        exact at1.lst0
end
end K85

set_option Elab.async false
set_option linter.all false
set_option maxRecDepth 100000
set_option maxHeartbeats 4000000
namespace K85
open PySem PySem.Spec PyProof.Rows L2
theorem tbK_mem {L L' : List Tb} (h : L'.map tbK = L.map tbK) {e : Tb} (he : e ∈ L') : ∃ e0 ∈ L, e.nm = e0.nm ∧ e.p = e0.p ∧ e.rows = e0.rows := by
  have z : tbK e ∈ L.map tbK := by rw [← h]; exact List.mem_map.mpr ⟨e, he, rfl⟩
  obtain ⟨e0, h0, h1⟩ := List.mem_map.mp z
  injection h1 with a b
  injection b with b c
  exact ⟨e0, h0, a.symm, b.symm, c.symm⟩
theorem tbK_nm {L L' : List Tb} (h : L'.map tbK = L.map tbK) : L'.map (·.nm) = L.map (·.nm) := by
  have y := congrArg (List.map fun x : Str × Int × List (Addr × List Int) => x.1) h
  rw [List.map_map, List.map_map] at y
  exact y
theorem TabsOk.copy {size : Int} {L L' : List Tb} (x : TabsOk size L) (h : L'.map tbK = L.map tbK) : TabsOk size L' := by
  refine ⟨?_, by rw [tbK_nm h]; exact x.nd, fun e he => ?_⟩
  · have := congrArg List.length h
    rw [List.length_map, List.length_map] at this
    rw [this]
    exact x.few
  · obtain ⟨e0, h0, a, b, c⟩ := tbK_mem h he
    have ok := x.tb e0 h0
    exact ⟨by rw [a]; exact ok.nm, by rw [b]; exact ok.p, by rw [c]; exact ok.few, by rw [c, b]; exact ok.row, by rw [c]; exact ok.nd⟩
theorem Same2.fits {n : Nat} {w0 w1 : Str} {L L' : List Tb} (s : Same2 L L') (x : TabsL n w0 w1 L) (ne : w0 ≠ w1) : Fits w0 w1 L' := by
  have nd : (L'.map (·.nm)).Nodup := s.nm.nodup_iff.mpr x.ok.nd
  have fnd : ∀ e0 ∈ L, ∃ e ∈ L', e.nm = e0.nm ∧ e.p = e0.p := fun e0 h0 => by
    have z : e0.nm ∈ L'.map (·.nm) := s.nm.mem_iff.mpr (List.mem_map.mpr ⟨e0, h0, rfl⟩)
    obtain ⟨e, he, en⟩ := List.mem_map.mp z
    obtain ⟨e2, h2, a, b, _⟩ := s.tb e he
    have : e2 = e0 := by
      have l := x.ok.nd
      have y : e2.nm = e0.nm := by rw [← a]; exact en
      exact nd_inj l h2 h0 y
    exact ⟨e, he, en, by rw [b, this]⟩
  obtain ⟨e0, e1, rest, rfl, n0, p0, n1, p1⟩ := x.hd
  obtain ⟨a, ha, na, pa⟩ := fnd e0 List.mem_cons_self
  obtain ⟨b, hb, nb, pb⟩ := fnd e1 (List.mem_cons_of_mem _ List.mem_cons_self)
  exact ⟨nd, ⟨a, ha, by rw [na, n0], by rw [pa, p0]⟩, ⟨b, hb, by rw [nb, n1], by rw [pb, p1]⟩, ne⟩
where
  nd_inj : ∀ {L : List Tb} {a b : Tb}, (L.map (·.nm)).Nodup → a ∈ L → b ∈ L → a.nm = b.nm → a = b
    | [], _, _, _, h, _, _ => by cases h
    | c :: L, a, b, nd, ha, hb, e => by
      rw [List.map_cons, List.nodup_cons] at nd
      rcases List.mem_cons.mp ha with x | x
      · rcases List.mem_cons.mp hb with y | y
        · rw [x, y]
        · exact absurd (List.mem_map.mpr ⟨b, y, by rw [← e, x]⟩) nd.1
      · rcases List.mem_cons.mp hb with y | y
        · exact absurd (List.mem_map.mpr ⟨a, x, by rw [e, y]⟩) nd.1
        · exact nd_inj nd.2 x y e
section
variable {w : World} {K : PySem.W.Frag} {mg : Str → Option Value} {base : Heap}
def sp_law_store (K : PySem.W.Frag) : Sp := fun vs H Q _ => ∃ (size : Int) (d : Addr) (L : List Tb), vs = [.int size, .ref d] ∧ TabsAt K H d L ∧ TabsOk size L ∧ 1 ≤ size ∧ size ≤ 8 ∧
  ∀ (H' : Hp) (S td : Addr) (L' : List Tb), L2.Same H H' → H S = none → StAt K H' S size td L' → Same2 L L' → Q (.ref S) H'
theorem r_law_store (T : Txt w K mg) : FnR Pg w K mg base CX0 6 (He.ga K "_law_store") (sp_law_store K) := by
  refine fnr_of T.d_law_store sc_law_store (fun _ _ _ _ _ _ us hl => match us, hl with | [_, _], _ => rfl) (fun vs H Q E ⟨_, _, _, e, _⟩ => by rw [e] <;> rfl) fun cdv A outer s H vs Q E hr h => ?_
  obtain ⟨size, d, L, rfl, hT, hO, s1, s8, q⟩ := h
  refine ⟨_, (pss_one (ps_ret (StX.pe_makeR T.mk_Store (r_Store_init T) (hr.mono (by decide)) rfl T.g_Store pass0 (pa_cons (pv 0) (pa_cons (pe_callR (r_law_copy T) (hr.mono (by decide)) rfl T.g_law_copy (fnr_kp T.d_law_copy) pass0 (pa_cons (pv 1) pa_nil)) pa_nil))))), ?_⟩
  refine ⟨_, rfl, _, rfl, d, L, rfl, hT, hO.nd, hO.few, fun H1 d1 L1 S1 hd1 nl1 hT1 e1 => ?_⟩
  intro p dx hp hdx ndx
  have S3 : L2.Same H1 (upd (upd H1 dx (.own p)) p (.ins (c_Store K) dx [])) := same_newer (same_new hdx _) hp _
  refine ⟨p, dx, size, d1, L1, rfl, upd_same, s1, s8, hT1.same S3, hO.copy e1, fun H2 td L2' k2 hp2 hT2 s2 => ⟨rfl, ?_⟩⟩
  have hpH : H p = none := same_none S1 hp
  refine q H2 p td L2' (fun b o e => k2 b o (by simpa using ne_of_none e hpH) (S3 _ _ (S1 _ _ e))) hpH ⟨⟨dx, hp2⟩, hT2⟩ ⟨by rw [← tbK_nm e1]; exact s2.nm, fun e' he' => ?_⟩
  obtain ⟨e0, h0, a, b, c⟩ := s2.tb e' he'
  obtain ⟨e00, h00, a', b', c'⟩ := tbK_mem e1 h0
  exact ⟨e00, h00, by rw [a, a'], by rw [b, b'], by rw [← c']; exact c⟩
end
end K85

set_option Elab.async false
set_option linter.all false
set_option maxRecDepth 100000
set_option maxHeartbeats 4000000
namespace K85
open PySem PySem.Spec PyProof.Rows L2
theorem eqv_look {nm nm' : Str} {ns ns' : List Int} {b b' : Bool} (h : PyData.eqv (lookD nm ns b) (lookD nm' ns' b') = true) : lookD nm ns b = lookD nm' ns' b' := by
  have h' : (PyData.eqv (.str nm) (.str nm') && (PyData.eqv (rowD ns) (rowD ns') && (PyData.eqv (.bool b) (.bool b') && true))) = true := h
  rw [eqv_row, Bool.and_eq_true, Bool.and_eq_true, Bool.and_eq_true] at h'
  obtain ⟨h1, h2, h3, _⟩ := h'
  have e1 : nm = nm' := by
    have z : (nm == nm') = true := h1
    exact beq_iff_eq.mp z
  have e2 : ns = ns' := of_decide_eq_true h2
  have e3 : b = b' := by
    cases b <;> cases b' <;> first | rfl | exact absurd h3 (by decide)
  rw [e1, e2, e3]
theorem eqv_lk {d e : PyData} (x : isLk d) (y : isLk e) : PyData.eqv d e = decide (keyOf d = keyOf e) := by
  by_cases h : d = e
  · subst h
    rw [decide_eq_true rfl]
    obtain ⟨nm, ns, b, _, rfl⟩ := x
    show (PyData.eqv (.str nm) (.str nm) && (PyData.eqv (rowD ns) (rowD ns) && (PyData.eqv (.bool b) (.bool b) && true))) = true
    have e1 : PyData.eqv (.str nm) (.str nm) = true := by
      show (nm == nm) = true
      exact beq_self_eq_true nm
    have e3 : PyData.eqv (.bool b) (.bool b) = true := by cases b <;> rfl
    rw [eqv_row, e1, e3, decide_eq_true rfl] <;> rfl
  · have n1 : ¬ keyOf d = keyOf e := fun z => h (x.inj y z)
    rw [decide_eq_false n1]
    cases q : PyData.eqv d e with
    | false => rfl
    | true =>
      obtain ⟨nm, ns, b, _, rfl⟩ := x
      obtain ⟨nm', ns', b', _, rfl⟩ := y
      exact absurd (eqv_look q) h
theorem shaped_lks {ds : List PyData} (h : ∀ d ∈ ds, isLk d) : SeqAt.shaped (.list ds) = true := by
  unfold SeqAt.shaped
  have h1 : ∀ ds : List PyData, (∀ d ∈ ds, isLk d) → PyData.canLayAll0 ds = true ∧ PyData.depthAll ds ≤ 63 := fun ds => by
    induction ds with
    | nil => intro _; exact ⟨rfl, Nat.zero_le _⟩
    | cons d ds ih =>
      intro h
      obtain ⟨a, b⟩ := ih fun x hx => h x (List.mem_cons_of_mem _ hx)
      have z := shaped_lk (h d List.mem_cons_self)
      unfold SeqAt.shaped at z
      rw [Bool.and_eq_true] at z
      obtain ⟨nm, ns, bb, _, e⟩ := h d List.mem_cons_self
      refine ⟨?_, ?_⟩
      · show (PyData.canLay0 d && PyData.canLayAll0 ds) = true
        rw [z.1, a] <;> rfl
      · show max d.depth (PyData.depthAll ds) ≤ 63
        have dd : d.depth ≤ 3 := by
          rw [e]
          show max (PyData.depth (.str nm)) (max (rowD ns).depth (max (PyData.depth (.bool bb)) 0)) + 1 ≤ 3
          rw [dep_row]
          have e1 : PyData.depth (.str nm) = 0 := rfl
          have e2 : PyData.depth (.bool bb) = 0 := rfl
          omega
        omega
  obtain ⟨a, b⟩ := h1 ds h
  have c1 : (PyData.list ds).canLay0 = true := a
  have c2 : (PyData.list ds).depth ≤ 64 := by
    show PyData.depthAll ds + 1 ≤ 64
    omega
  rw [c1, decide_eq_true c2] <;> rfl
theorem eqv_nil (ds : List PyData) : PyData.eqv (.list ds) (.list []) = decide (ds = []) := by
  cases ds with
  | nil => rfl
  | cons d ds => rfl
section
variable {w : World} {K : PySem.W.Frag} {mg : Str → Option Value} {base : Heap}
abbrev refs (L : List (Addr × PyData)) : List V := L.map fun q => V.ref q.1
structure LksAt (K : PySem.W.Frag) (H : Hp) (L : List (Addr × PyData)) : Prop where
  at_ : ∀ q ∈ L, Dp K H (.ref q.1) q.2 ∧ isLk q.2
theorem LksAt.same {H H1 : Hp} {L : List (Addr × PyData)} (x : LksAt K H L) (s : L2.Same H H1) : LksAt K H1 L := ⟨fun q hq => ⟨dp_same s _ _ (x.at_ q hq).1, (x.at_ q hq).2⟩⟩
theorem LksAt.kp {H H1 : Hp} {M : List Addr} {L : List (Addr × PyData)} (x : LksAt K H L) (k : Kp M H H1) (w : Wrs H M) : LksAt K H1 L := ⟨fun q hq => ⟨dp_kp k w _ _ (x.at_ q hq).2.key (x.at_ q hq).1, (x.at_ q hq).2⟩⟩
def sp_law_unique (K : PySem.W.Frag) : Sp := fun vs H Q _ => ∃ (a : Addr) (L : List (Addr × PyData)), vs = [.ref a] ∧ SqL K H a (refs L) ∧ LksAt K H L ∧ L.length ≤ 900 ∧
  ∀ (H' : Hp) (f : Addr) (F : List (Addr × PyData)), L2.Same H H' → H' f = some (.lst (refs F)) → LksAt K H' F → IsU (L.map (·.2)) (F.map (·.2)) → F.length ≤ L.length → Q (.ref f) H'
theorem r_law_unique (T : Txt w K mg) : FnR Pg w K mg base CX0 1 (He.ga K "_law_unique") (sp_law_unique K) := by
  refine fnr_of T.d_law_unique sc_law_unique (fun _ _ _ _ _ _ us hl => match us, hl with | [_], _ => rfl) (fun vs H Q E ⟨_, _, e, _⟩ => by rw [e] <;> rfl) fun cdv A outer s H vs Q E hr h => ?_
  obtain ⟨a, L, rfl, ha, hL, hlen, q⟩ := h
  refine ⟨_, (pss_cons (ps_set (i := 1) sc_law_unique.nd rfl (Or.inl rfl) (pe_lst pa_nil))
    (pss_cons (ps_for PassesOwn.never rfl (pi_list (pe_callB (ksortL (K := K) rfl hr.units) (by rfl) T.n_sorted bt_sorted (pa_cons (pv 0) pa_nil))) (pg_name (i := 2) sc_law_unique.nd rfl (Or.inl rfl)) (pss_one (ps_if (PW.pt (pw_or (pt_cmpR (keqD (K := K) rfl hr.units) (pv 1) (pe_lst pa_nil) (nomark _)) (pw_or1 (pt_cmpR (kneD (K := K) rfl hr.units) (pe_ix (kix_list (K := K) rfl) (pv 1) (pe_un un_neg pe_int) (fun _ _ => rfl)) (pv 2) (nomark _))))) (pss_one (ps_expr (pe_bm PySem.F.plainAttrs_list PySem.F.slot_list_append PySem.F.type_list_append mt_append (pv 1) (pa_cons (pv 2) pa_nil)))) pss_nil)))
    (pss_one (ps_ret (pv 1))))), ?_⟩
  refine ⟨by show 0 ≤ sizeLine; decide, fun f hf => ?_⟩
  have S1 := same_new hf (.lst [])
  have g1 : (upd H f (.lst [])) f = some (.lst []) := upd_same
  generalize upd H f (.lst []) = H1 at S1 g1
  have pm : (srt L).Perm L := List.mergeSort_perm _ _
  refine ⟨_, rfl, a, L, rfl, S1.seq ha, fun p hp => ((hL.same S1).at_ p hp).1, sortOk_lk fun p hp => (hL.at_ p hp).2, fun p hp => ?_⟩
  have S2 := same_new hp (.lst (refs (srt L)))
  have g2 : (upd H1 p (.lst (refs (srt L)))) p = some (.lst (refs (srt L))) := upd_same
  have nfp : f ≠ p := ne_of_none g1 hp
  have g2f := S2 _ _ g1
  have hL2 : LksAt K (upd H1 p (.lst (refs (srt L)))) (srt L) := ⟨fun q hq => ((hL.same S1).same S2).at_ q (pm.mem_iff.mp hq)⟩
  generalize upd H1 p (.lst (refs (srt L))) = H2 at S2 g2 g2f hL2
  have so := PySem.W.sort_pairwise (PySem.W.sortLe_total dO false fun p : Addr × PyData => PySem.W.keyToks p.2) L
  refine ⟨p, rfl, ⟨_, SqL.of g2⟩, for_it (walk_list (xs := refs (srt L))) (fun i σ H' => ∃ F v2, σ = [some (.ref a), some (.ref f), v2] ∧ Kp [f] H2 H' ∧ H' f = some (.lst (refs F)) ∧ (∀ q ∈ F, q ∈ srt L) ∧ (F.map (·.2)).Pairwise dlt ∧ (∀ d, d ∈ F.map (·.2) ↔ d ∈ ((srt L).take i).map (·.2)) ∧ F.length ≤ i) ⟨[], _, rfl, Kp.refl _ _, g2f, (fun q hq => by cases hq), List.Pairwise.nil, fun d => by rw [List.take_zero], Nat.le_refl _⟩ (fun i σ H' _ ⟨_, _, _, k, _⟩ => SqL.of (k _ _ (by simpa using Ne.symm nfp) g2)) ?_ ?_⟩
  · rintro i y σ Hx H3 hi ⟨F, v2, rfl, k3, hf3, hin, pw, mm, hFi⟩ ⟨rfl, hy⟩
    rw [List.getElem?_map] at hy
    cases hq : (srt L)[i]? with
    | none => rw [hq] at hy; cases hy
    | some it =>
      rw [hq] at hy
      cases hy
      have hil : i < L.length := by
        have := (List.getElem?_eq_some_iff.mp hq).1
        rw [pm.length_eq] at this
        exact this
      have wf2 : Wrs H2 [f] := fun m hm => by rw [List.mem_singleton.mp hm]; exact Wr.lst g2f
      have hL3 := hL2.kp k3 wf2
      have hit : it ∈ srt L := List.mem_of_getElem? hq
      have hLF : LksAt K H3 F := ⟨fun q hq => hL3.at_ q (hin q hq)⟩
      have e1 : (srt L).take (i + 1) = (srt L).take i ++ [it] := by rw [List.take_add_one, hq] <;> rfl
      -- all before are not above
      have le : ∀ z ∈ (srt L).take i, dO.blt (PySem.W.keyToks it.2) (PySem.W.keyToks z.2) = false := fun z hz => by
        have y : ((srt L).take (i + 1)).Pairwise fun a b => PySem.W.sortLe dO false (fun p : Addr × PyData => PySem.W.keyToks p.2) a b = true := so.sublist (List.take_sublist _ _)
        rw [e1, List.pairwise_append] at y
        have x := y.2.2 z hz it (List.mem_singleton.mpr rfl)
        have x' : (!dO.blt (PySem.W.keyToks it.2) (PySem.W.keyToks z.2)) = true := x
        simpa using x'
      have lt : ∀ d ∈ F.map (·.2), d ≠ it.2 → dlt d it.2 := fun d hd hne => by
        obtain ⟨z, hz, ez⟩ := List.mem_map.mp ((mm d).mp hd)
        have nz := le z hz
        rw [ez] at nz
        cases c : dO.blt (PySem.W.keyToks d) (PySem.W.keyToks it.2) with
        | true => exact c
        | false =>
          have lkd : isLk d := by rw [← ez]; exact (hL3.at_ z (List.mem_of_mem_take hz)).2
          exact absurd (lkd.toks (hL3.at_ it hit).2 (dO.total _ _ c nz)) hne
      have app : (∀ d ∈ F.map (·.2), d ≠ it.2) → ∃ F' v2', [some (V.ref a), some (.ref f), some (.ref it.1)] = [some (.ref a), some (.ref f), v2'] ∧ Kp [f] H2 (upd H3 f (.lst (refs F ++ [.ref it.1]))) ∧ (upd H3 f (.lst (refs F ++ [.ref it.1]))) f = some (.lst (refs F')) ∧ (∀ q ∈ F', q ∈ srt L) ∧ (F'.map (·.2)).Pairwise dlt ∧ (∀ d, d ∈ F'.map (·.2) ↔ d ∈ ((srt L).take (i + 1)).map (·.2)) ∧ F'.length ≤ i + 1 := fun hne => by
        refine ⟨F ++ [it], _, rfl, k3.upd (List.mem_singleton.mpr rfl) _, ?_, ?_, ?_, ?_, ?_⟩
        · rw [upd_same]
          show some (HO.lst (refs F ++ [V.ref it.1])) = some (HO.lst ((F ++ [it]).map fun q => V.ref q.1))
          rw [List.map_append] <;> rfl
        · intro q hq
          rcases List.mem_append.mp hq with z | z
          · exact hin q z
          · rw [List.mem_singleton.mp z]; exact hit
        · rw [List.map_append, List.pairwise_append]
          refine ⟨pw, List.pairwise_singleton _ _, fun d hd e he => ?_⟩
          rw [List.mem_singleton.mp he]
          exact lt d hd (hne d hd)
        · intro d
          rw [e1, List.map_append, List.map_append, List.mem_append, List.mem_append, mm d]
        · rw [List.length_append, List.length_singleton]; omega
      have lkF : ∀ d ∈ F.map (·.2), isLk d := fun d hd => by
        obtain ⟨z, hz, ez⟩ := List.mem_map.mp hd
        rw [← ez]
        exact (hLF.at_ z hz).2
      refine ⟨_, rfl, by show 0 ≤ sizeLine; decide, fun nl hnl => ?_⟩
      have S4 := same_new hnl (.lst [])
      have g4 : (upd H3 nl (.lst [])) nl = some (.lst []) := upd_same
      have hf4 := S4 _ _ hf3
      have nlf : nl ≠ f := fun z => by rw [z, hf3] at hnl; cases hnl
      have hnl2 : H2 nl = none := k3.free hnl (by simpa using nlf)
      refine ⟨.list (F.map (·.2)), .list [], .lst (SqL.of hf4) (dpAll_of fun q hq => ((hLF.same S4).at_ q hq).1), .lst (SqL.of g4) .nil, shaped_lks lkF, shaped_lks (fun d hd => by cases hd), _, rfl, ?_⟩
      rw [eqv_nil]
      have k4 : Kp [f] H2 (upd H3 nl (.lst [])) := k3.trans (Kp.same S4)
      have hLF4 := hLF.same S4
      have hL4 := hL3.same S4
      generalize upd H3 nl (.lst []) = H4 at S4 g4 hf4 k4 hLF4 hL4
      have fin : (∀ d ∈ F.map (·.2), d ≠ it.2) → ∃ F' v2', [some (V.ref a), some (.ref f), some (.ref it.1)] = [some (.ref a), some (.ref f), v2'] ∧ Kp [f] H2 (upd H4 f (.lst (refs F ++ [.ref it.1]))) ∧ (upd H4 f (.lst (refs F ++ [.ref it.1]))) f = some (.lst (refs F')) ∧ (∀ q ∈ F', q ∈ srt L) ∧ (F'.map (·.2)).Pairwise dlt ∧ (∀ d, d ∈ F'.map (·.2) ↔ d ∈ ((srt L).take (i + 1)).map (·.2)) ∧ F'.length ≤ i + 1 := fun hne => by
        obtain ⟨F', v2', c1, _, c3, c4, c5, c6, c7⟩ := app hne
        rw [upd_same] at c3
        exact ⟨F', v2', c1, k4.upd (List.mem_singleton.mpr rfl) _, by rw [upd_same]; exact c3, c4, c5, c6, c7⟩
      by_cases hE : F.map (·.2) = []
      · refine iteT' (decide_eq_true hE) (iteT ?_)
        refine ⟨_, rfl, .inl ⟨rfl, _, SqL.of hf4⟩, _, rfl, f, _, _, rfl, rfl, hf4, by rw [List.length_map, sizeLine_eq]; omega, ?_⟩
        exact fin (by rw [hE]; intro d hd; cases hd)
      · refine iteF' (decide_eq_false hE) ?_
        obtain ⟨G, x, rfl⟩ : ∃ G x, F = G ++ [x] := by
          cases hF : F.reverse with
          | nil =>
            have : F = [] := by simpa using hF
            rw [this] at hE
            exact absurd rfl hE
          | cons x G => exact ⟨G.reverse, x, by rw [← List.reverse_reverse F, hF, List.reverse_cons]⟩
        have er : refs (G ++ [x]) = refs G ++ [V.ref x.1] := by
          show ((G ++ [x]).map fun q => V.ref q.1) = _
          rw [List.map_append] <;> rfl
        have hx : x ∈ G ++ [x] := List.mem_append_right _ (List.mem_singleton.mpr rfl)
        have xl := (hLF4.at_ x hx)
        have il := hL4.at_ it hit
        refine ⟨_, rfl, _, rfl, f, _, _, _, rfl, rfl, SqL.of hf4, (by rw [er]; exact atI_last _ _), _, rfl, x.2, it.2, xl.1, il.1, shaped_lk xl.2, shaped_lk il.2, _, rfl, ?_⟩
        rw [eqv_lk xl.2 il.2]
        by_cases hk : keyOf x.2 = keyOf it.2
        · refine iteF' (by rw [decide_eq_true hk] <;> rfl) ?_
          have ex := xl.2.inj il.2 hk
          refine ⟨G ++ [x], _, rfl, k4, hf4, hin, pw, fun d => ?_, by omega⟩
          rw [mm d, e1, List.map_append, List.mem_append]
          constructor
          · exact .inl
          · rintro (h | h)
            · exact h
            · rw [List.map_singleton, List.mem_singleton] at h
              refine (mm d).mp (List.mem_map.mpr ⟨x, hx, ?_⟩)
              rw [h, ex]
        · refine iteT' (by rw [decide_eq_false hk] <;> rfl) ?_
          refine ⟨_, rfl, .inl ⟨rfl, _, SqL.of hf4⟩, _, rfl, f, _, _, rfl, rfl, hf4, by rw [List.length_map, sizeLine_eq]; omega, ?_⟩
          refine fin fun d hd e => ?_
          -- the last is below, the others below it
          have px : dlt x.2 it.2 := lt x.2 (List.mem_map.mpr ⟨x, hx, rfl⟩) fun z => hk (congrArg keyOf z)
          rw [List.map_append, List.mem_append] at hd
          rcases hd with hd | hd
          · rw [List.map_append, List.pairwise_append] at pw
            have pd := pw.2.2 d hd x.2 (List.mem_singleton.mpr rfl)
            rw [e] at pd
            exact dlt_irrefl (dlt_trans pd px)
          · rw [List.map_singleton, List.mem_singleton] at hd
            exact hk (by rw [← hd, e])
  · rintro σ H3 ⟨F, v2, rfl, k3, hf3, hin, pw, mm, hFi⟩
    rw [List.length_map] at mm hFi
    rw [List.take_length] at mm
    have wf2 : Wrs H2 [f] := fun m hm => by rw [List.mem_singleton.mp hm]; exact Wr.lst g2f
    have hL3 := hL2.kp k3 wf2
    refine ⟨_, rfl, q H3 f F (fun b o e => k3 b o (by simpa using ne_of_none e hf) (S2 _ _ (S1 _ _ e))) hf3 ⟨fun q hq => hL3.at_ q (hin q hq)⟩ ⟨pw, fun d => ?_⟩ (by rw [pm.length_eq] at hFi; exact hFi)⟩
    rw [mm d]
    exact (pm.map _).mem_iff
end
end K85

set_option Elab.async false
set_option linter.all false
set_option maxRecDepth 100000
set_option maxHeartbeats 4000000
/-! What stands while the law walks. -/
namespace K85
open PySem PySem.Spec PyProof.Rows L2
section
variable {K : PySem.W.Frag} {H H1 : Hp}
/-- a reading stays, where others are written -/
theorem RcAt.kpo {r : RcS} {v : RcV} {M : List Addr} (x : RcAt K H r v) (k : Kp M H H1) (w : Wrs H M) (h1 : r.x ∉ M) (h2 : r.lk ∉ M) (h3 : r.hd ∉ M) (h4 : r.R ∉ M) (h5 : r.S ∉ M) (h6 : r.td ∉ M) (h7 : ∀ e ∈ r.L, e.l ∉ M) : RcAt K H1 r v := by
  obtain ⟨dx, cl, c0, c1, e1, e2⟩ := x.ins
  exact ⟨⟨dx, cl, c0, c1, k _ _ h1 e1, k _ _ (w.no e2 rfl) e2⟩, k _ _ h3 x.held, k _ _ h2 x.looks, fun p hp => ⟨dp_kp k w _ _ (x.lks p hp).2 (x.lks p hp).1, (x.lks p hp).2⟩, x.rd.kp k w h4, x.sto.kp k w h5 h6 h7, x.ne, x.nR, x.nS, x.sep⟩
/-- the box is no list of objects -/
theorem BoxAt.nrefs {b sl a : Addr} {α : Type} {f : α → Addr} {xs : List α} (x : BoxAt H b sl) (h : H a = some (.lst (xs.map fun y => V.ref (f y)))) : a ≠ b := fun z => by
  obtain ⟨_, _, _, _, _, e, _⟩ := x.ex
  rw [z, e] at h
  injection h with h
  injection h with h
  match xs, h with
  | _ :: _ :: _, h =>
    rw [List.map_cons, List.map_cons] at h
    injection h with _ h
    injection h with h _
    cases h
theorem BoxAt.n2 {b sl a : Addr} {x y : V} (bx : BoxAt H b sl) (h : H a = some (.lst [x, y])) : a ≠ b := fun z => by
  obtain ⟨_, _, _, _, _, e, _⟩ := bx.ex
  rw [z, e] at h
  injection h with h
  injection h with h
  cases h
theorem BoxAt.n3 {b sl a : Addr} {x y u : V} (bx : BoxAt H b sl) (h : H a = some (.lst [x, y, u])) : a ≠ b := fun z => by
  obtain ⟨_, _, _, _, _, e, _⟩ := bx.ex
  rw [z, e] at h
  injection h with h
  injection h with h
  cases h
theorem BoxAt.nobj {b sl a : Addr} {o : HO} (bx : BoxAt H b sl) (h : H a = some o) (ho : ∀ xs, o ≠ .lst xs) : a ≠ b := fun z => by
  obtain ⟨_, _, _, _, _, e, _⟩ := bx.ex
  rw [z, e] at h
  injection h with h
  exact ho _ h.symm
/-- a reading beside the box -/
theorem RcAt.kpb {r : RcS} {v : RcV} {b sl : Addr} (x : RcAt K H r v) (bx : BoxAt H b sl) (k : Kp [b] H H1) : RcAt K H1 r v := by
  obtain ⟨dx, cl, c0, c1, e1, e2⟩ := x.ins
  obtain ⟨dR, hR⟩ := x.rd.ins
  obtain ⟨dS, hS⟩ := x.sto.ins
  refine x.kpo k bx.wrs ?_ ?_ ?_ ?_ ?_ ?_ ?_
  · simpa using bx.nobj e1 (fun xs z => by cases z)
  · simpa using bx.nrefs x.looks
  · simpa using bx.n2 x.held
  · simpa using bx.nobj hR (fun xs z => by cases z)
  · simpa using bx.nobj hS (fun xs z => by cases z)
  · simpa using bx.nobj x.sto.tabs.dic (fun xs z => by cases z)
  · intro e he
    simpa using bx.nrefs (x.sto.tabs.tb e he).lst0
/-- what the walk does not change -/
structure LwC where
  b : Addr
  sl : Addr
  wl : Addr
  d : Addr
  it : Addr
  n : Nat
  w0 : Str
  w1 : Str
  w2 : Str
  L : List Tb
  r : RcS
  rsI : List (Addr × List Int)
structure LwAt (K : PySem.W.Frag) (H : Hp) (c : LwC) (v : RcV) (du : Addr) (D : List (Addr × PyData)) : Prop where
  box : BoxAt H c.b c.sl
  wds : H c.wl = some (.lst [.str c.w0, .str c.w1, .str c.w2])
  tabs : TabsAt K H c.d c.L
  rc : RcAt K H c.r v
  due : H du = some (.lst (refs D))
  dlk : LksAt K H D
  it : H c.it = some (.lst (adr c.rsI))
  rows : RowsAt K H c.rsI
  s1 : c.sl ≠ c.r.lk ∧ c.sl ≠ c.r.hd
  s2 : ∀ e ∈ c.L, e.l ≠ c.r.lk ∧ e.l ≠ c.r.hd
  s3 : c.it ≠ c.r.lk ∧ c.it ≠ c.r.hd
  s4 : du ≠ c.r.lk ∧ du ≠ c.r.hd
variable {c : LwC} {v v' : RcV} {du : Addr} {D : List (Addr × PyData)}
theorem LwAt.same (x : LwAt K H c v du D) (s : L2.Same H H1) : LwAt K H1 c v du D :=
  ⟨x.box.same s, s _ _ x.wds, x.tabs.same s, x.rc.same s, s _ _ x.due, x.dlk.same s, s _ _ x.it, fun r hr => same_T s (x.rows r hr), x.s1, x.s2, x.s3, x.s4⟩
/-- the box was drawn from -/
theorem LwAt.kpb (x : LwAt K H c v du D) (k : Kp [c.b] H H1) (bx : BoxAt H1 c.b c.sl) : LwAt K H1 c v du D := by
  have w := x.box.wrs
  refine ⟨bx, k _ _ (by simpa using x.box.n3 x.wds) x.wds, ⟨k _ _ (by simpa using x.box.nobj x.tabs.dic (fun xs z => by cases z)) x.tabs.dic, fun e he => (x.tabs.tb e he).kp k w (by simpa using x.box.nrefs (x.tabs.tb e he).lst0)⟩, x.rc.kpb x.box k, k _ _ (by simpa using x.box.nrefs x.due) x.due, x.dlk.kp k w, k _ _ (by simpa using x.box.nrefs x.it) x.it, fun r hr => kp_T k w (x.rows r hr), x.s1, x.s2, x.s3, x.s4⟩
theorem nrM {r : RcS} {v : RcV} {a : Addr} {xs : List V} (x : RcAt K H r v) (h : H a = some (.lst xs)) (h1 : a ≠ r.lk) (h2 : a ≠ r.hd) : a ∉ rM r := fun z => by
  obtain ⟨dx, cl, c0, c1, e1, e2⟩ := x.ins
  rcases List.mem_cons.mp z with e | z
  · rw [e, e1] at h
    cases h
  · rcases List.mem_cons.mp z with e | z
    · exact h1 e
    · exact h2 (List.mem_singleton.mp z)
theorem nrO {r : RcS} {v : RcV} {a : Addr} {o : HO} (x : RcAt K H r v) (h : H a = some o) (h1 : ∀ xs, o ≠ .lst xs) (h2 : ∀ C dx fs, o ≠ .ins C dx fs) : a ∉ rM r := fun z => by
  obtain ⟨dx, cl, c0, c1, e1, e2⟩ := x.ins
  rcases List.mem_cons.mp z with e | z
  · rw [e, e1] at h
    exact h2 _ _ _ (Option.some.inj h).symm
  · rcases List.mem_cons.mp z with e | z
    · rw [e, x.looks] at h
      exact h1 _ (Option.some.inj h).symm
    · rw [List.mem_singleton.mp z, x.held] at h
      exact h1 _ (Option.some.inj h).symm
/-- the reading went on -/
theorem LwAt.kpr (x : LwAt K H c v du D) (k : Kp (rM c.r) H H1) (y : RcAt K H1 c.r v') : LwAt K H1 c v' du D := by
  have w := x.rc.wrs
  obtain ⟨ns, ix, bg, mx, ct, hb, hs, _⟩ := x.box.ex
  have hwd := nrM x.rc x.wds
    (fun z => by
      have h := x.wds
      rw [z, x.rc.looks] at h
      injection h with h
      injection h with h
      match v.ls, h with
      | p :: _, h =>
        rw [List.map_cons] at h
        injection h with h _
        cases h)
    (fun z => by
      have h := x.wds
      rw [z, x.rc.held] at h
      injection h with h
      injection h with h
      cases h)
  refine ⟨x.box.kp k (nrM x.rc hb (fun z => x.box.nrefs x.rc.looks z.symm) (fun z => x.box.n2 x.rc.held z.symm)) (nrM x.rc hs x.s1.1 x.s1.2), k _ _ hwd x.wds, ⟨k _ _ (nrO x.rc x.tabs.dic (fun xs z => by cases z) (fun _ _ _ z => by cases z)) x.tabs.dic, fun e he => (x.tabs.tb e he).kp k w (nrM x.rc (x.tabs.tb e he).lst0 (x.s2 e he).1 (x.s2 e he).2)⟩, y, k _ _ (nrM x.rc x.due x.s4.1 x.s4.2) x.due, x.dlk.kp k w, k _ _ (nrM x.rc x.it x.s3.1 x.s3.2) x.it, fun r hr => kp_T k w (x.rows r hr), x.s1, x.s2, x.s3, x.s4⟩
/-- a new list of due looks -/
theorem LwAt.redue (x : LwAt K H c v du D) {du' : Addr} {D' : List (Addr × PyData)} (h1 : H du' = some (.lst (refs D'))) (h2 : LksAt K H D') (h3 : du' ≠ c.r.lk ∧ du' ≠ c.r.hd) : LwAt K H c v du' D' :=
  ⟨x.box, x.wds, x.tabs, x.rc, h1, h2, x.it, x.rows, x.s1, x.s2, x.s3, h3⟩
end
end K85
namespace K85
open PySem PySem.Spec PyProof.Rows L2
theorem LwAt.reit {K : PySem.W.Frag} {H : Hp} {c : LwC} {v : RcV} {du : Addr} {D : List (Addr × PyData)} (x : LwAt K H c v du D) {it : Addr} {rs : List (Addr × List Int)} (h1 : H it = some (.lst (adr rs))) (h2 : RowsAt K H rs) (h3 : it ≠ c.r.lk ∧ it ≠ c.r.hd) : LwAt K H { c with it := it, rsI := rs } v du D :=
  ⟨x.box, x.wds, x.tabs, x.rc, x.due, x.dlk, h1, h2, x.s1, x.s2, h3, x.s4⟩
/-- what two marks do to a waiting reading -/
theorem put2 {r : RcS} {e0 e1 : Tb} {v : RcV} {a b : Int} (hs : v.st = "waits") (hr : v.row = 0) (hl : v.ls.length < 800) (a0 : 0 ≤ a) (a1 : a < r.size) (b0 : 0 ≤ b) (b1 : b < r.size) :
    PutG r e0 e1 v [a, b] (fun i v' => (i = 0 ∧ v' = v) ∨ (i = 1 ∧ v' = { v with h0 := a, row := 1 }) ∨ (i = 2 ∧ ∃ T1 T2, v' = vC { v with h0 := a, h1 := b, row := 2 } e0 e1 T1 T2)) := by
  have nref : v.st ≠ "refused" := by rw [hs]; decide +kernel
  refine ⟨.inl ⟨rfl, rfl⟩, fun i m v' hm hG => ?_⟩
  match i, hm with
  | 0, hm =>
    cases hm
    rcases hG with ⟨_, rfl⟩ | ⟨z, _⟩ | ⟨z, _⟩
    · refine ⟨.inr ⟨hs, by omega, .inl hr⟩, fun v'' h => ?_⟩
      rcases h with ⟨z, _⟩ | ⟨_, _, _, e⟩ | ⟨_, _, z, _⟩ | ⟨_, z, _⟩
      · exact absurd z nref
      · exact .inr (.inl ⟨rfl, e⟩)
      · exact absurd ⟨a0, a1⟩ z
      · rw [hr] at z; cases z
    · cases z
    · cases z
  | 1, hm =>
    cases hm
    rcases hG with ⟨z, _⟩ | ⟨_, rfl⟩ | ⟨z, _⟩
    · cases z
    · refine ⟨.inr ⟨hs, by show v.ls.length < 900; omega, .inr ⟨rfl, b0, b1, a1⟩⟩, fun v'' h => ?_⟩
      rcases h with ⟨z, _⟩ | ⟨_, z, _⟩ | ⟨_, z, _⟩ | ⟨_, _, T1, T2, e⟩
      · exact absurd z nref
      · exact absurd (show (1 : Int) = 0 from z) (by decide)
      · exact absurd (show (1 : Int) = 0 from z) (by decide)
      · exact .inr (.inr ⟨rfl, T1, T2, e⟩)
    · cases z
  | i + 2, hm => simp at hm
/-- what a bad mark does -/
theorem putBad {r : RcS} {e0 e1 : Tb} {v : RcV} {m : Int} (hs : v.st = "waits") (hr : v.row = 0) (hl : v.ls.length < 800) (hm : ¬ (0 ≤ m ∧ m < r.size)) : PutG r e0 e1 v [m] (fun i v' => (i = 0 ∧ v' = v) ∨ (i = 1 ∧ v' = { v with st := "refused", wy := "mark" })) := by
  have nref : v.st ≠ "refused" := by rw [hs]; decide +kernel
  refine ⟨.inl ⟨rfl, rfl⟩, fun i x v' hx hG => ?_⟩
  match i, hx with
  | 0, hx =>
    cases hx
    rcases hG with ⟨_, rfl⟩ | ⟨z, _⟩
    · refine ⟨.inr ⟨hs, by omega, .inl hr⟩, fun v'' h => ?_⟩
      rcases h with ⟨z, _⟩ | ⟨_, _, z, _⟩ | ⟨_, _, _, e⟩ | ⟨_, z, _⟩
      · exact absurd z nref
      · exact absurd z hm
      · exact .inr ⟨rfl, e⟩
      · rw [hr] at z; cases z
    · cases z
  | i + 1, hx => simp at hx
/-- a mark behind a refusal does nothing -/
theorem putRef {r : RcS} {e0 e1 : Tb} {v : RcV} {m : Int} (hs : v.st = "refused") : PutG r e0 e1 v [m] (fun _ v' => v' = v) := by
  have nref : v.st ≠ "waits" := by rw [hs]; decide +kernel
  refine ⟨rfl, fun i x v' hx hG => ?_⟩
  subst hG
  refine ⟨.inl hs, fun v'' h => ?_⟩
  rcases h with ⟨_, e⟩ | ⟨z, _⟩ | ⟨z, _⟩ | ⟨z, _⟩
  · exact e
  · exact absurd z nref
  · exact absurd z nref
  · exact absurd z nref
/-! ### the due looks -/
section
variable (w0 w1 : Str) (R0 R1 : List (List Int))
def lkOf : List Int → List PyData
  | [a, b] => [lookD w0 [a, b] (decide ([a, b] ∈ R0)), lookD w1 [b] (decide ([b] ∈ R1))]
  | _ => []
def dueOf (rs : List (List Int)) : List PyData := rs.flatMap (lkOf w0 w1 R0 R1)
/-- all there can be -/
def allLk (n : Nat) : List PyData := ((all2 n).map fun r => lookD w0 r (decide (r ∈ R0))) ++ ((all1 n).map fun r => lookD w1 r (decide (r ∈ R1)))
variable {w0 w1 R0 R1}
theorem allLk_len (n : Nat) : (allLk w0 w1 R0 R1 n).length = n * n + n := by
  unfold allLk
  rw [List.length_append, List.length_map, List.length_map, all2_len, all1_len]
theorem due_in {n : Nat} (hn : 1 ≤ n) {rs : List (List Int)} (h : ∀ r ∈ rs, r ∈ all2 n) {d : PyData} (hd : d ∈ dueOf w0 w1 R0 R1 rs) : d ∈ allLk w0 w1 R0 R1 n := by
  obtain ⟨r, hr, hd⟩ := List.mem_flatMap.mp hd
  have hr2 := h r hr
  obtain ⟨a, b, rfl, a0, a1, b0, b1⟩ := (all2_mem hn).mp hr2
  simp only [lkOf, List.mem_cons, List.not_mem_nil, or_false] at hd
  unfold allLk
  rw [List.mem_append]
  rcases hd with rfl | rfl
  · exact .inl (List.mem_map.mpr ⟨_, hr2, rfl⟩)
  · exact .inr (List.mem_map.mpr ⟨_, all1_mem.mpr ⟨b, rfl, b0, b1⟩, rfl⟩)
theorem in_due {n : Nat} (hn : 1 ≤ n) {rs : List (List Int)} (h : ∀ r ∈ all2 n, r ∈ rs) {d : PyData} (hd : d ∈ allLk w0 w1 R0 R1 n) : d ∈ dueOf w0 w1 R0 R1 rs := by
  unfold allLk at hd
  rw [List.mem_append] at hd
  refine List.mem_flatMap.mpr ?_
  rcases hd with hd | hd
  · obtain ⟨r, hr, rfl⟩ := List.mem_map.mp hd
    obtain ⟨a, b, rfl, _⟩ := (all2_mem hn).mp hr
    exact ⟨_, h _ hr, by simp [lkOf]⟩
  · obtain ⟨r, hr, rfl⟩ := List.mem_map.mp hd
    obtain ⟨b, rfl, b0, b1⟩ := all1_mem.mp hr
    exact ⟨[b, b], h _ ((all2_mem hn).mpr ⟨b, b, rfl, b0, b1, b0, b1⟩), by simp [lkOf]⟩
theorem look_eq {nm nm' : Str} {r r' : List Int} {b b' : Bool} (h : lookD nm r b = lookD nm' r' b') : nm = nm' ∧ r = r' := by
  unfold lookD at h
  injection h with h
  injection h with h1 h
  injection h with h2 _
  injection h1 with h1
  unfold rowD at h2
  injection h2 with h2
  refine ⟨h1, ?_⟩
  have z : ∀ {x y : List Int}, x.map PyData.int = y.map PyData.int → x = y := fun {x} => by
    induction x with
    | nil => intro y e; cases y with | nil => rfl | cons _ _ => cases e
    | cons a x ih =>
      intro y e
      cases y with
      | nil => cases e
      | cons b y =>
        rw [List.map_cons, List.map_cons] at e
        injection e with e1 e2
        injection e1 with e1
        rw [e1, ih e2]
  exact z h2
theorem allLk_nd {n : Nat} (hn : 1 ≤ n) (ne : w0 ≠ w1) : (allLk w0 w1 R0 R1 n).Nodup := by
  unfold allLk
  rw [List.Nodup, List.pairwise_append]
  refine ⟨?_, ?_, ?_⟩
  · rw [List.pairwise_map]
    exact (all2_nd n hn).imp fun h e => h (look_eq e).2
  · rw [List.pairwise_map]
    exact (all1_nd n).imp fun h e => h (look_eq e).2
  · intro x hx y hy e
    obtain ⟨r, _, rfl⟩ := List.mem_map.mp hx
    obtain ⟨r', _, rfl⟩ := List.mem_map.mp hy
    exact ne (look_eq e).1
/-- how many are told once -/
theorem due_len {n : Nat} (hn : 1 ≤ n) (ne : w0 ≠ w1) {rs : List (List Int)} (h1 : ∀ r ∈ rs, r ∈ all2 n) (h2 : ∀ r ∈ all2 n, r ∈ rs) {F : List PyData} (x : IsU (dueOf w0 w1 R0 R1 rs) F) : F.length = n * n + n := by
  have nd : F.Nodup := List.Pairwise.imp (R := dlt) (S := (· ≠ ·)) (fun {a b} h (e : a = b) => dlt_irrefl (a := b) (by rw [e] at h; exact h)) x.st
  have l1 := pig nd (m := allLk w0 w1 R0 R1 n) fun d hd => due_in hn h1 ((x.mem d).mp hd)
  have l2 := pig (allLk_nd (R0 := R0) (R1 := R1) hn ne) (m := F) fun d hd => (x.mem d).mpr (in_due hn h2 hd)
  rw [allLk_len] at l1 l2
  omega
end
end K85
namespace K85
open PySem PySem.Spec PyProof.Rows L2
theorem lay_name {x : Str} (h : NameOk x) : PyData.canLay0 (.str x) = true := by
  show PyData.strOk x = true
  unfold PyData.strOk
  rw [Array.all_eq_true']
  intro c hc
  have z := h.2.2 c (Array.mem_toList_iff.mpr hc)
  have y : ∀ c ∈ LT, c < 0x110000 := by decide +kernel
  exact decide_eq_true (y c z)
theorem okS_ints {m : Nat} : ∀ {ns : List Int}, ∀ d ∈ ns.map PyData.int, okS m d := fun {ns} d hd => by
  obtain ⟨n, _, rfl⟩ := List.mem_map.mp hd
  cases m <;> exact trivial
theorem okS_look {nm : Str} {ns : List Int} {b : Bool} (h : ns.length ≤ 2) : okS 2 (lookD nm ns b) := by
  refine ⟨by show 3 ≤ 900; decide, fun d hd => ?_⟩
  simp only [List.mem_cons, List.not_mem_nil, or_false] at hd
  rcases hd with rfl | rfl | rfl
  · exact trivial
  · exact ⟨by rw [List.length_map]; omega, okS_ints⟩
  · exact trivial
section
variable {w0 w1 : Str} {R0 R1 : List (List Int)} {n : Nat}
theorem allLk_ok (hn : 1 ≤ n) (h0 : NameOk w0) (h1 : NameOk w1) {d : PyData} (hd : d ∈ allLk w0 w1 R0 R1 n) : isLk d ∧ okS 2 d := by
  unfold allLk at hd
  rw [List.mem_append] at hd
  rcases hd with hd | hd
  · obtain ⟨r, hr, rfl⟩ := List.mem_map.mp hd
    obtain ⟨a, b, rfl, _⟩ := (all2_mem hn).mp hr
    exact ⟨⟨_, _, _, lay_name h0, rfl⟩, okS_look (by show 2 ≤ 2; decide)⟩
  · obtain ⟨r, hr, rfl⟩ := List.mem_map.mp hd
    obtain ⟨b, rfl, _⟩ := all1_mem.mp hr
    exact ⟨⟨_, _, _, lay_name h1, rfl⟩, okS_look (by show 1 ≤ 2; decide)⟩
theorem due_lks (hn : 1 ≤ n) (h8 : n ≤ 8) (h0 : NameOk w0) (h1 : NameOk w1) {rs : List (List Int)} (hr : ∀ r ∈ rs, r ∈ all2 n) {ls : List (Addr × PyData)} (e : ls.map (·.2) = dueOf w0 w1 R0 R1 rs) : LkOk ls ∧ ∀ d ∈ ls.map (·.2), isLk d ∧ okS 2 d := by
  have z : ∀ d ∈ ls.map (·.2), d ∈ allLk w0 w1 R0 R1 n := fun d hd => by
    rw [e] at hd
    exact due_in hn hr hd
  have nn : n * n ≤ 64 := Nat.mul_le_mul h8 h8
  exact ⟨⟨fun p hp => (allLk_ok hn h0 h1 (z p.2 (List.mem_map.mpr ⟨p, hp, rfl⟩))).1, ⟨allLk w0 w1 R0 R1 n, by rw [allLk_len]; omega, fun p hp => z p.2 (List.mem_map.mpr ⟨p, hp, rfl⟩)⟩⟩, fun d hd => allLk_ok hn h0 h1 (z d hd)⟩
/-- a list of told looks is fit to be compared -/
theorem okS_lks {ds F : List PyData} (h : ∀ d ∈ ds, isLk d ∧ okS 2 d) (x : IsU ds F) (hl : F.length ≤ 900) : okS 3 (.list F) := ⟨hl, fun d hd => (h d ((x.mem d).mp hd)).2⟩
theorem okS_up : ∀ {m : Nat} {d : PyData}, okS m d → okS (m + 1) d
  | 0, d, h => by cases d <;> first | exact trivial | exact h.elim
  | m + 1, d, h => by
    cases d with
    | list ds => exact ⟨h.1, fun d hd => okS_up (h.2 d hd)⟩
    | tuple ds => exact ⟨h.1, fun d hd => okS_up (h.2 d hd)⟩
    | _ => first | exact trivial | exact h.elim
end
theorem cut_len (xs : List V) {k : Nat} : (cutV xs Option.none (some (k : Int))).length ≤ k := by
  unfold cutV
  rw [HT.sIx_none, HT.sIx_nat, Nat.sub_zero, List.length_take]
  omega
end K85

set_option Elab.async false
set_option linter.all false
set_option maxRecDepth 100000
set_option maxHeartbeats 4000000
namespace K85
open PySem PySem.Spec PyProof.Rows L2
section
variable {w : World} {K : PySem.W.Frag} {mg : Str → Option Value} {base : Heap}
def sp_law (K : PySem.W.Frag) : Sp := fun vs H Q _ => ∃ (a : Addr) (ns : List Int), vs = [.ref a] ∧ SqL K H a (ns.map V.int) ∧ ∀ H', Q (.bl true) H'
theorem r_law {f : Addr} {fd : FuncData} (T : Txt w K mg) (F : FunD K "law" "law" (defArgs s_law) (defBody s_law) (defScope s_law) [] [] f fd) : FnOk Pg w K mg base CX0 12 f fd ["_law_script"] (sp_law K) := by
  refine F.ok sc_law (fun vs H Q E ⟨_, _, e, _⟩ => by rw [e] <;> rfl) fun cdv A outer s H vs Q E hr h => ?_
  obtain ⟨a, ns, rfl, ha, q⟩ := h
  refine ⟨_, PSs.nox (pss_cons (ps_set (i := 1) sc_law.nd rfl (Or.inl rfl) (pe_callR (r_law_box T) (hr.mono (by decide)) rfl T.g_law_box (fnr_kp T.d_law_box) pass0 (pa_cons (pv 0) pa_nil)))
    (pss_cons (ps_par (i := 2) (j := 3) (by rfl) sc_law.nd rfl rfl (by decide) rfl rfl (pa_cons (pe_callR (r_law_words T) (hr.mono (by decide)) rfl T.g_law_words (fnr_kp T.d_law_words) pass0 (pa_cons (pv 1) (pa_cons pe_int pa_nil))) (pa_cons (pe_op op_add pe_int (pe_callR (r_law_pull T) (hr.mono (by decide)) rfl T.g_law_pull (fnr_kp T.d_law_pull) pass0 (pa_cons (pv 1) (pa_cons pe_int pa_nil)))) pa_nil)) (by rfl))
    (pss_cons (ps_set (i := 4) sc_law.nd rfl (Or.inl rfl) (pe_callR (r_law_tabs T) (hr.mono (by decide)) rfl T.g_law_tabs (fnr_kp T.d_law_tabs) pass0 (pa_cons (pv 1) (pa_cons (pv 3) (pa_cons (pv 2) pa_nil)))))
    (pss_cons (ps_set (i := 5) sc_law.nd rfl (Or.inl rfl) (pe_lst (pa_cons (pe_tup (pa_cons pe_str (pa_cons pe_int pa_nil))) (pa_cons (pe_tup (pa_cons pe_str (pa_cons pe_int pa_nil))) (pa_cons (pe_tup (pa_cons pe_str (pa_cons (pe_ix (kix_list (K := K) rfl) (pv 2) pe_int (fun _ _ => rfl)) (pa_cons pe_int (pa_cons pe_int (pa_cons pe_int pa_nil)))))) (pa_cons (pe_tup (pa_cons pe_str (pa_cons (pe_ix (kix_list (K := K) rfl) (pv 2) pe_int (fun _ _ => rfl)) (pa_cons pe_int (pa_cons pe_int pa_nil))))) (pa_cons (pe_tup (pa_cons pe_str (pa_cons pe_int pa_nil))) pa_nil)))))))
    (pss_cons (ps_set (i := 6) sc_law.nd rfl (Or.inl rfl) (StX.pe_makeR T.mk_Reader (r_Reader_init T) (hr.mono (by decide)) rfl T.g_Reader pass0 (pa_cons (pe_lst (pa_cons pe_int (pa_cons pe_int pa_nil))) (pa_cons (pv 5) pa_nil))))
    (pss_cons (ps_par (i := 7) (j := 8) (by rfl) sc_law.nd rfl rfl (by decide) rfl rfl (pa_cons (StX.pe_makeR T.mk_Recorded (r_Rec_init T) (hr.mono (by decide)) rfl T.g_Recorded pass0 (pa_cons (pv 6) (pa_cons (pe_callR (r_law_store T) (hr.mono (by decide)) rfl T.g_law_store (fnr_kp T.d_law_store) pass0 (pa_cons (pv 3) (pa_cons (pv 4) pa_nil))) (pa_cons (pe_lst pa_nil) pa_nil)))) (pa_cons (pe_lst pa_nil) pa_nil)) (by rfl))
    (pss_cons (ps_set (i := 9) sc_law.nd rfl (Or.inl rfl) (pe_callR (r_law_mixed T) (hr.mono (by decide)) rfl T.g_law_mixed (fnr_kp T.d_law_mixed) pass0 (pa_cons (pv 1) (pa_cons (pe_callR (r_law_every T) (hr.mono (by decide)) rfl T.g_law_every (fnr_kp T.d_law_every) pass0 (pa_cons (pv 3) (pa_cons pe_int pa_nil))) pa_nil))))
    (pss_cons (ps_for PassesOwn.never rfl (pi_list (pe_op op_cat (pv 9) (pe_slice sl_list (pv 9) po_none (po_some (pe_callR (r_law_pull T) (hr.mono (by decide)) rfl T.g_law_pull (fnr_kp T.d_law_pull) pass0 (pa_cons (pv 1) (pa_cons pe_int pa_nil))))))) (pg_tup rfl (pgs_cons (pg_name (i := 10) sc_law.nd rfl (Or.inl rfl)) (pgs_cons (pg_name (i := 11) sc_law.nd rfl (Or.inl rfl)) pgs_nil))) (pss_cons (ps_if (pt_not (pt_val (pe_callR (r_law_same T 5) (hr.mono (by decide)) rfl T.g_law_same (fnr_kp T.d_law_same) pass0 (pa_cons (pe_methR (pv 7) T.cl_Recorded T.m_Recorded_put (r_Rec_put T) (hr.mono (by decide)) pass0 (pa_cons (pv 10) (pa_cons (pv 11) pa_nil))) (pa_cons pe_str pa_nil))))) (pss_one (ps_ret pe_bl)) pss_nil)
    (pss_cons (ps_set (i := 8) sc_law.nd rfl (Or.inl rfl) (pe_op op_cat (pv 8) (pe_lst (pa_cons (pe_tup (pa_cons (pe_ix (kix_list (K := K) rfl) (pv 2) pe_int (fun _ _ => rfl)) (pa_cons (pe_tup (pa_cons (pv 10) (pa_cons (pv 11) pa_nil))) (pa_cons (pe_cmpR (kinD (K := K) rfl (Room.u65 hr)) (pe_tup (pa_cons (pv 10) (pa_cons (pv 11) pa_nil))) (pe_ix (kix_tup (K := K) rfl) (pe_dget (hu_of hr) (pv 4) (pe_ix (kix_list (K := K) rfl) (pv 2) pe_int (fun _ _ => rfl)) (fun _ _ => rfl)) pe_int (fun _ _ => rfl)) rfl) pa_nil)))) (pa_cons (pe_tup (pa_cons (pe_ix (kix_list (K := K) rfl) (pv 2) pe_int (fun _ _ => rfl)) (pa_cons (pe_tup (pa_cons (pv 11) pa_nil)) (pa_cons (pe_cmpR (kinD (K := K) rfl (Room.u65 hr)) (pe_tup (pa_cons (pv 11) pa_nil)) (pe_ix (kix_tup (K := K) rfl) (pe_dget (hu_of hr) (pv 4) (pe_ix (kix_list (K := K) rfl) (pv 2) pe_int (fun _ _ => rfl)) (fun _ _ => rfl)) pe_int (fun _ _ => rfl)) rfl) pa_nil)))) pa_nil)))))
    (pss_one (ps_if (PW.pt (pw_and (pt_cmpR op_eq (pe_callR (r_law_pull T) (hr.mono (by decide)) rfl T.g_law_pull (fnr_kp T.d_law_pull) pass0 (pa_cons (pv 1) (pa_cons pe_int pa_nil))) pe_int (nomark _)) (pw_and1 (pt_not (pt_val (pe_callR (r_law_same T 5) (hr.mono (by decide)) rfl T.g_law_same (fnr_kp T.d_law_same) pass0 (pa_cons (pe_methR0 (pv 7) T.cl_Recorded T.m_Recorded_seen (r_Rec_seen T) (hr.mono (by decide)) pass0) (pa_cons (pe_callR (r_law_unique T) (hr.mono (by decide)) rfl T.g_law_unique (fnr_kp T.d_law_unique) pass0 (pa_cons (pv 8) pa_nil)) pa_nil)))))))) (pss_one (ps_ret pe_bl)) pss_nil)))))
    (pss_cons (ps_set (i := 12) sc_law.nd rfl (Or.inl rfl) (pe_methR0 (pv 7) T.cl_Recorded T.m_Recorded_twin (r_Rec_twin T) (hr.mono (by decide)) pass0))
    (pss_cons (ps_if (pt_not (pt_val (pe_callR (r_law_same T 5) (hr.mono (by decide)) rfl T.g_law_same (fnr_kp T.d_law_same) pass0 (pa_cons (pe_lst (pa_cons (pe_methR0 (pv 7) T.cl_Recorded T.m_Recorded_seen (r_Rec_seen T) (hr.mono (by decide)) pass0) (pa_cons (pe_methR0 (pv 12) T.cl_Recorded T.m_Recorded_seen (r_Rec_seen T) (hr.mono (by decide)) pass0) pa_nil))) (pa_cons (pe_op op_rep (pe_lst (pa_cons (pe_callR (r_law_unique T) (hr.mono (by decide)) rfl T.g_law_unique (fnr_kp T.d_law_unique) pass0 (pa_cons (pv 8) pa_nil)) pa_nil)) pe_int) pa_nil))))) (pss_one (ps_ret pe_bl)) pss_nil)
    (pss_cons (ps_set (i := 13) sc_law.nd rfl (Or.inl rfl) (pe_methR (pv 7) T.cl_Recorded T.m_Recorded_put (r_Rec_put T) (hr.mono (by decide)) pass0 (pa_cons (pe_callR (r_law_of T) (hr.mono (by decide)) rfl T.g_law_of (fnr_kp T.d_law_of) pass0 (pa_cons (pv 1) (pa_cons (pe_lst (pa_cons (pv 3) (pa_cons (pe_un un_neg pe_int) (pa_cons (pe_op op_pow pe_int pe_int) pa_nil)))) pa_nil))) pa_nil)))
    (pss_cons (ps_if (pt_not (pt_val (pe_callR (r_law_same T 5) (hr.mono (by decide)) rfl T.g_law_same (fnr_kp T.d_law_same) pass0 (pa_cons (pe_lst (pa_cons (pv 13) (pa_cons (kfld (K := K) rfl (pv 7)) (pa_cons (pe_methR0 (pv 7) T.cl_Recorded T.m_Recorded_seen (r_Rec_seen T) (hr.mono (by decide)) pass0) (pa_cons (kfld (K := K) rfl (pv 12)) pa_nil))))) (pa_cons (pe_lst (pa_cons pe_str (pa_cons pe_str (pa_cons (pe_callR (r_law_unique T) (hr.mono (by decide)) rfl T.g_law_unique (fnr_kp T.d_law_unique) pass0 (pa_cons (pv 8) pa_nil)) (pa_cons pe_str pa_nil))))) pa_nil))))) (pss_one (ps_ret pe_bl)) pss_nil)
    (pss_one (ps_ret (pe_callR (r_law_same T 5) (hr.mono (by decide)) rfl T.g_law_same (fnr_kp T.d_law_same) pass0 (pa_cons (pe_lst (pa_cons (pe_methR (pv 7) T.cl_Recorded T.m_Recorded_put (r_Rec_put T) (hr.mono (by decide)) pass0 (pa_cons pe_int pa_nil)) (pa_cons (pe_methR0 (pv 7) T.cl_Recorded T.m_Recorded_seen (r_Rec_seen T) (hr.mono (by decide)) pass0) (pa_cons (pe_callB (klen (K := K) rfl) (by rfl) T.n_len bt_len (pa_cons (pe_methR0 (pv 7) T.cl_Recorded T.m_Recorded_seen (r_Rec_seen T) (hr.mono (by decide)) pass0) pa_nil)) pa_nil)))) (pa_cons (pe_lst (pa_cons pe_str (pa_cons (pe_callR (r_law_unique T) (hr.mono (by decide)) rfl T.g_law_unique (fnr_kp T.d_law_unique) pass0 (pa_cons (pv 8) pa_nil)) (pa_cons (pe_op op_add (pe_op op_mul (pv 3) (pv 3)) (pv 3)) pa_nil)))) pa_nil))))))))))))))))), ?_⟩
  refine ⟨_, rfl, a, ns, rfl, ha, fun H1 b sl S1 hb hsl bx1 => ?_⟩
  refine ⟨_, rfl, b, sl, rfl, bx1, fun H2 wl w0 w1 w2 k2 bx2 hwl2 nwl W => ?_⟩
  refine ⟨_, rfl, b, sl, _, rfl, bx2, by decide, by decide, fun H3 dd k3 bx3 d0 d1 => ?_⟩
  refine ⟨_, _, rfl, rfl, ?_⟩
  obtain ⟨n, en⟩ : ∃ n : Nat, 1 + dd = (n : Int) := ⟨(1 + dd).toNat, by omega⟩
  have n1 : 1 ≤ n := by omega
  have n8 : n ≤ 8 := by omega
  have nwb : wl ≠ b := bx2.n3 hwl2
  have hwl3 := k3 _ _ (by simpa using nwb) hwl2
  refine ⟨_, _, rfl, ?_⟩
  rw [show (fun i j : Int => V.int (i + j)) 1 dd = V.int (n : Int) from congrArg V.int en]
  refine ⟨_, rfl, _, rfl, _, rfl, b, sl, wl, n, w0, w1, w2, rfl, bx3, hwl3, W, nwb, n1, n8, fun H4 d L k4 bx4 hd nl hT hTL => ?_⟩
  have hwl4 := k4 _ _ (by simpa using nwb) hwl3
  clear hwl2 hwl3 k2 k3 k4 nl hd bx1 bx2 bx3
  -- the rows
  refine ⟨by show 2 ≤ sizeLine; decide, fun t0 ht0 => ?_⟩
  have S5 := same_new ht0 (.tup [.str "read", .int 0])
  have g0 : (upd H4 t0 (.tup [.str "read", .int 0])) t0 = some (.tup [.str "read", .int 0]) := upd_same
  generalize upd H4 t0 (.tup [.str "read", .int 0]) = H5 at S5 g0
  refine ⟨by show 2 ≤ sizeLine; decide, fun t1 ht1 => ?_⟩
  have S6 := same_new ht1 (.tup [.str "read", .int 1])
  have g1 : (upd H5 t1 (.tup [.str "read", .int 1])) t1 = some (.tup [.str "read", .int 1]) := upd_same
  generalize upd H5 t1 (.tup [.str "read", .int 1]) = H6 at S6 g1
  refine ⟨_, rfl, wl, _, _, _, rfl, rfl, SqL.of ((S5.trans S6) _ _ hwl4), rfl, ?_⟩
  refine ⟨by show 5 ≤ sizeLine; decide, fun t2 ht2 => ?_⟩
  have S7 := same_new ht2 (.tup [.str "link", .str w0, .int 0, .int 1, .int 3])
  have g2 : (upd H6 t2 (.tup [.str "link", .str w0, .int 0, .int 1, .int 3])) t2 = some (.tup [.str "link", .str w0, .int 0, .int 1, .int 3]) := upd_same
  generalize upd H6 t2 (.tup [.str "link", .str w0, .int 0, .int 1, .int 3]) = H7 at S7 g2
  refine ⟨_, rfl, wl, _, _, _, rfl, rfl, SqL.of (((S5.trans S6).trans S7) _ _ hwl4), rfl, ?_⟩
  refine ⟨by show 4 ≤ sizeLine; decide, fun t3 ht3 => ?_⟩
  have S8 := same_new ht3 (.tup [.str "has", .str w1, .int 1, .int 4])
  have g3 : (upd H7 t3 (.tup [.str "has", .str w1, .int 1, .int 4])) t3 = some (.tup [.str "has", .str w1, .int 1, .int 4]) := upd_same
  generalize upd H7 t3 (.tup [.str "has", .str w1, .int 1, .int 4]) = H8 at S8 g3
  refine ⟨by show 2 ≤ sizeLine; decide, fun t4 ht4 => ?_⟩
  have S9 := same_new ht4 (.tup [.str "jump", .int 0])
  have g4 : (upd H8 t4 (.tup [.str "jump", .int 0])) t4 = some (.tup [.str "jump", .int 0]) := upd_same
  generalize upd H8 t4 (.tup [.str "jump", .int 0]) = H9 at S9 g4
  have st9 : StAts K H9 w0 w1 ⟨t0, t1, t2, t3, t4⟩ := ⟨SqT.of (S9 _ _ (S8 _ _ (S7 _ _ (S6 _ _ g0)))), SqT.of (S9 _ _ (S8 _ _ (S7 _ _ g1))), SqT.of (S9 _ _ (S8 _ _ g2)), SqT.of (S9 _ _ g3), SqT.of g4⟩
  refine ⟨by show 5 ≤ sizeLine; decide, fun rl hrl => ?_⟩
  have S10 := same_new hrl (.lst [.ref t0, .ref t1, .ref t2, .ref t3, .ref t4])
  have g10 : (upd H9 rl (.lst [.ref t0, .ref t1, .ref t2, .ref t3, .ref t4])) rl = some (.lst [.ref t0, .ref t1, .ref t2, .ref t3, .ref t4]) := upd_same
  generalize upd H9 rl (.lst [.ref t0, .ref t1, .ref t2, .ref t3, .ref t4]) = H10 at S10 g10
  have S4_10 : L2.Same H4 H10 := ((((S5.trans S6).trans S7).trans S8).trans S9).trans S10
  have st10 := st9.same S10
  replace g10 : H10 rl = some (.lst (T5.vs ⟨t0, t1, t2, t3, t4⟩)) := g10
  generalize (⟨t0, t1, t2, t3, t4⟩ : T5) = t at st9 st10 g10
  refine ⟨by show 2 ≤ sizeLine; decide, fun c0 hc0 => ⟨_, rfl, fun R dR hR hdR nR => ?_⟩⟩
  have S11 := same_new hc0 (.lst [.int 0, .int 0])
  have g11 : (upd H10 c0 (.lst [.int 0, .int 0])) c0 = some (.lst [.int 0, .int 0]) := upd_same
  generalize upd H10 c0 (.lst [.int 0, .int 0]) = H11 at S11 g11 hR hdR
  have S12 : L2.Same H11 (upd (upd H11 dR (.own R)) R (.ins (c_Reader K) dR [])) := same_newer (same_new hdR _) hR _
  have nc0 : c0 ≠ R := ne_of_none g11 hR
  have nrl : rl ≠ R := ne_of_none (S11 _ _ g10) hR
  refine ⟨R, dR, c0, rl, w0, w1, t, rfl, upd_same, SqL.of (S12 _ _ g11), SqL.of (S12 _ _ (S11 _ _ g10)), nc0, nrl, st10.same (S11.trans S12), W.n0, W.n1, W.ne01, fun H13 cR rw_ k13 hRd => ⟨rfl, ?_⟩⟩
  have hR4 : H4 R = none := same_none (S4_10.trans S11) hR
  have S4_13 : L2.Same H4 H13 := fun b o e => k13 b o (by simpa using ne_of_none e hR4) (S12 _ _ (S11 _ _ (S4_10 _ _ e)))
  clear g10 g11 S12 k13 S11 st10 S10 S9 S8 S7 S6 S5 g0 g1 g2 g3 g4 st9
  -- the reading
  have hT13 := hT.same S4_13
  refine ⟨_, rfl, _, rfl, _, rfl, (n : Int), d, L, rfl, hT13, hTL.ok, by omega, by omega, fun H14 S td L' S14 hS stA s2 => ?_⟩
  refine ⟨by show 0 ≤ sizeLine; decide, fun il hil x dx hx hdx nx => ?_⟩
  have S15 := same_new hil (.lst [])
  have g15 : (upd H14 il (.lst [])) il = some (.lst []) := upd_same
  generalize upd H14 il (.lst []) = H15 at S15 g15 hx hdx
  have S16 : L2.Same H15 (upd (upd H15 dx (.own x)) x (.ins (c_Recorded K) dx [])) := same_newer (same_new hdx _) hx _
  have g16 : (upd (upd H15 dx (.own x)) x (.ins (c_Recorded K) dx [])) x = some (.ins (c_Recorded K) dx []) := upd_same
  generalize upd (upd H15 dx (.own x)) x (.ins (c_Recorded K) dx []) = H16 at S16 g16
  have S13_16 := (S14.trans S15).trans S16
  have hRd16 := hRd.same S13_16
  have stA16 := stA.same (S15.trans S16)
  have S4_15 := (S4_13.trans S14).trans S15
  have fit : Fits w0 w1 L' := s2.fits hTL W.ne01
  obtain ⟨dRx, hRi⟩ := hRd.ins
  obtain ⟨dSx, hSi⟩ := stA.ins
  have nRx : R ≠ x := ne_of_none ((S14.trans S15) _ _ hRi) hx
  have nSx : S ≠ x := ne_of_none (S15 _ _ hSi) hx
  have nIx : il ≠ x := ne_of_none g15 hx
  refine ⟨x, dx, R, cR, rw_, S, td, il, (n : Int), L', w0, w1, t, rfl, g16, ⟨hRd16, stA16, fit, SqL.of (S16 _ _ g15), nRx, nSx, nIx, by omega, by omega⟩, fun H17 lk hd k17 hlk hhd x17 => ⟨rfl, ?_⟩⟩
  have S4_16 := S4_15.trans S16
  have hx4 : H4 x = none := same_none S4_15 hx
  have hlk4 : H4 lk = none := same_none S4_16 hlk
  have hhd4 : H4 hd = none := same_none S4_16 hhd
  have S4_17 : L2.Same H4 H17 := fun b o e => k17 b o (by simpa using ne_of_none e hx4) (S4_16 _ _ e)
  generalize er : (⟨x, lk, hd, R, cR, rw_, S, td, (n : Int), L', w0, w1, t⟩ : RcS) = r at x17
  have rx : r.lk = lk := by rw [← er]
  have rh : r.hd = hd := by rw [← er]
  have rL : r.L = L' := by rw [← er]
  have rw0 : r.w0 = w0 := by rw [← er]
  have rw1 : r.w1 = w1 := by rw [← er]
  have rX : r.x = x := by rw [← er]
  have rsz : r.size = (n : Int) := by rw [← er]
  have rok : RcOk r := by rw [← er]; exact ⟨by show (1 : Int) ≤ n; omega, by show (n : Int) ≤ 8; omega, fit⟩
  clear k17 S4_16 S13_16 S14 S15 S16 g15 g16 hRd16 stA16 hRd stA hT13
  -- due
  refine ⟨by show 0 ≤ sizeLine; decide, fun du hdu => ?_⟩
  have S18 := same_new hdu (.lst [])
  have g18 : (upd H17 du (.lst [])) du = some (.lst (refs [])) := upd_same
  have x18 := x17.same S18
  have S4_18 := S4_17.trans S18
  have ndu : du ≠ r.lk ∧ du ≠ r.hd := ⟨Ne.symm (ne_of_none x17.looks hdu), Ne.symm (ne_of_none x17.held hdu)⟩
  generalize upd H17 du (.lst []) = H18 at S18 g18 x18 S4_18
  refine ⟨_, _, rfl, ?_⟩
  refine ⟨_, rfl, _, rfl, n, 2, rfl, n1, n8, .inr rfl, fun H19 f1 rs1 S19 hf1 hn1 ra1 ei1 => ?_⟩
  have nn : n * n ≤ 64 := Nat.mul_le_mul n8 n8
  have lrs1 : rs1.length = n * n := by
    have z := congrArg List.length ei1
    rw [List.length_map] at z
    rw [z]
    exact all2_len n
  have S4_19 := S4_18.trans S19
  have hT4 := hT
  have A19 : LwAt K H19 ⟨b, sl, wl, d, f1, n, w0, w1, w2, L, r, rs1⟩ ⟨"waits", "", 0, 0, 0, []⟩ du [] :=
    ⟨bx4.same S4_19, S4_19 _ _ hwl4, hT.same S4_19, x18.same S19, S19 _ _ g18, ⟨fun q hq => by cases hq⟩, hf1, ra1,
      ⟨by rw [rx]; exact Ne.symm (bx4.ns hlk4), by rw [rh]; exact Ne.symm (bx4.ns hhd4)⟩, fun e he => ⟨by rw [rx]; exact ne_of_none (hT.tb e he).lst0 hlk4, by rw [rh]; exact ne_of_none (hT.tb e he).lst0 hhd4⟩,
      ⟨Ne.symm (ne_of_none x18.looks hn1), Ne.symm (ne_of_none x18.held hn1)⟩, ndu⟩
  refine ⟨b, sl, f1, adr rs1, rfl, A19.box, SqL.of hf1, A19.box.nrefs A19.it, by rw [List.length_map]; omega, fun H20 pl ys k20 bx20 hpl npl pm => ?_⟩
  have A20 := A19.kpb k20 bx20
  obtain ⟨rs2, e2, pm2⟩ := permBack (f := fun r : Addr × List Int => V.ref r.1) pm rs1 rfl
  rw [e2] at hpl
  have ra2 : RowsAt K H20 rs2 := fun r hr => A20.rows r (pm2.mem_iff.mp hr)
  have nplr : pl ≠ r.lk ∧ pl ≠ r.hd := ⟨Ne.symm (ne_of_none A19.rc.looks npl), Ne.symm (ne_of_none A19.rc.held npl)⟩
  have B20 := A20.reit hpl ra2 nplr
  refine ⟨_, rfl, _, rfl, _, rfl, b, sl, _, rfl, bx20, by decide, by decide, fun H21 kk k21 bx21 kk0 kk1 => ?_⟩
  have B21 := B20.kpb k21 bx21
  refine ⟨_, rfl, pl, _, rfl, SqL.of B21.it, fun p hp => ?_⟩
  obtain ⟨rs3, e3, sb⟩ := cut_sub (f := fun r : Addr × List Int => V.ref r.1) rs2 Option.none (some kk)
  have S22 := same_new hp (.lst (cutV (adr rs2) Option.none (some kk)))
  have g22 : (upd H21 p (.lst (cutV (adr rs2) Option.none (some kk)))) p = some (.lst (adr rs3)) := by rw [upd_same, e3]
  have len3 : (adr rs3).length ≤ 8 := by
    obtain ⟨k, rfl⟩ : ∃ k : Nat, kk = (k : Int) := ⟨kk.toNat, by omega⟩
    have z := cut_len (adr rs2) (k := k)
    rw [show cutV (adr rs2) Option.none (some (k : Int)) = rs3.map fun r => V.ref r.1 from e3] at z
    have y : (adr rs3).length ≤ k := z
    omega
  generalize upd H21 p (.lst (cutV (adr rs2) Option.none (some kk))) = H22 at S22 g22
  have B22 := B21.same S22
  have lrs2 : rs2.length = n * n := by rw [pm2.length_eq, lrs1]
  refine ⟨pl, p, _, _, rfl, rfl, B22.it, g22, by rw [List.length_map, sizeLine_eq, lrs2]; omega, fun it hit => ?_⟩
  have S23 := same_new hit (.lst (adr rs2 ++ adr rs3))
  have eI : adr rs2 ++ adr rs3 = adr (rs2 ++ rs3) := by unfold adr; rw [List.map_append]
  rw [eI] at S23 ⊢
  have g23 : (upd H22 it (.lst (adr (rs2 ++ rs3)))) it = some (.lst (adr (rs2 ++ rs3))) := upd_same
  have nit : it ≠ r.lk ∧ it ≠ r.hd := ⟨Ne.symm (ne_of_none B22.rc.looks hit), Ne.symm (ne_of_none B22.rc.held hit)⟩
  generalize upd H22 it (.lst (adr (rs2 ++ rs3))) = H23 at S23 g23
  have C23 := (B22.same S23).reit g23 (rs := rs2 ++ rs3) (fun q hq => by
    rcases List.mem_append.mp hq with z | z
    · exact (B22.same S23).rows q z
    · exact (B22.same S23).rows q (sb.subset z)) nit
  -- what the rows hold
  have ei1' : intsR rs1 = all2 n := ei1
  have hI1 : ∀ z ∈ intsR (rs2 ++ rs3), z ∈ all2 n := fun z hz => by
    obtain ⟨q, hq, rfl⟩ := List.mem_map.mp hz
    have hq2 : q ∈ rs1 := by
      rcases List.mem_append.mp hq with y | y
      · exact pm2.mem_iff.mp y
      · exact pm2.mem_iff.mp (sb.subset y)
    rw [← ei1']
    exact List.mem_map.mpr ⟨q, hq2, rfl⟩
  have hI2 : ∀ z ∈ all2 n, z ∈ intsR (rs2 ++ rs3) := fun z hz => by
    rw [← ei1'] at hz
    obtain ⟨q, hq, rfl⟩ := List.mem_map.mp hz
    exact List.mem_map.mpr ⟨q, List.mem_append_left _ (pm2.mem_iff.mpr hq), rfl⟩
  have hI3 : (rs2 ++ rs3).length ≤ 72 := by
    rw [List.length_append, lrs2]
    rw [List.length_map] at len3
    omega
  generalize rs2 ++ rs3 = rsI at C23 g23 hI1 hI2 hI3
  -- the tables
  obtain ⟨e0, e1, rest, eL, m0, p0, m1, p1⟩ := hTL.hd
  have he0 : e0 ∈ L := by rw [eL]; simp
  have he1 : e1 ∈ L := by rw [eL]; simp
  have same_e : ∀ f ∈ L', ∀ e ∈ L, f.nm = e.nm → ∀ y, decide (y ∈ intsR f.rows) = decide (y ∈ intsR e.rows) := fun f hf e he en y => by
    obtain ⟨e', he', a1, _, pr⟩ := s2.tb f hf
    have ee : e' = e := Same2.fits.nd_inj hTL.ok.nd he' he (by rw [← a1, en])
    subst ee
    exact decide_eq_decide.mpr ((pr.map _).mem_iff)
  obtain ⟨f0, hf0, q0, _⟩ := fit.e0
  obtain ⟨f1', hf1', q1, _⟩ := fit.e1
  have fl0 := same_e f0 hf0 e0 he0 (by rw [q0, m0])
  have fl1 := same_e f1' hf1' e1 he1 (by rw [q1, m1])
  have hr0 : f0 ∈ r.L := by rw [rL]; exact hf0
  have hr1 : f1' ∈ r.L := by rw [rL]; exact hf1'
  have k0 : f0.nm = r.w0 := by rw [q0, rw0]
  have k1' : f1'.nm = r.w1 := by rw [q1, rw1]
  clear same_e s2 fit pm2 sb e2 e3 g22 B20 B21 B22 A19 A20 hf0 hf1' hT4
  subst rX
  generalize hR0 : intsR e0.rows = R0 at fl0
  generalize hR1 : intsR e1.rows = R1 at fl1
  have get0 : ∀ {H' : Hp}, TabsAt K H' d L → DGet H' d (.str w0) (some (.ref e0.t)) := fun {H'} t => by
    have z := DGet.k (k := Sum.inr e0.nm) t.dic
    rw [valV_kvT hTL.ok.nd he0] at z
    rw [← m0]
    exact z
  have get1 : ∀ {H' : Hp}, TabsAt K H' d L → DGet H' d (.str w1) (some (.ref e1.t)) := fun {H'} t => by
    have z := DGet.k (k := Sum.inr e1.nm) t.dic
    rw [valV_kvT hTL.ok.nd he1] at z
    rw [← m1]
    exact z
  refine ⟨it, rfl, ⟨_, SqL.of g23⟩, for_it (walk_list (xs := adr rsI)) (fun i σ H' => ∃ v du D v10 v11, σ = [some (.ref a), some (.ref b), some (.ref wl), some (.int (n : Int)), some (.ref d), some (.ref rl), some (.ref R), some (.ref r.x), some (.ref du), some (.ref pl), v10, v11, none, none] ∧ LwAt K H' ⟨b, sl, wl, d, it, n, w0, w1, w2, L, r, rsI⟩ v du D ∧ v.st = "waits" ∧ v.row = 0 ∧ D.map (·.2) = v.ls.map (·.2) ∧ v.ls.map (·.2) = dueOf w0 w1 R0 R1 (intsR (rsI.take i)) ∧ v.ls.length = 2 * i) ⟨_, du, [], _, _, rfl, C23, rfl, rfl, rfl, by rw [List.take_zero] <;> rfl, rfl⟩ (fun i σ H' _ ⟨_, _, _, _, _, _, z, _⟩ => SqL.of z.it) ?_ ?_⟩
  · rintro i y σ Hx H' hi ⟨v, du, D, v10, v11, rfl, A, hst, hrow, hD, hlk, hln⟩ ⟨rfl, hy⟩
    have hi72 : i < 72 := by rw [List.length_map] at hi; omega
    rw [List.getElem?_map] at hy
    cases hq : rsI[i]? with
    | none => rw [hq] at hy; cases hy
    | some z =>
    rw [hq] at hy
    cases hy
    have hz : z ∈ rsI := List.mem_of_getElem? hq
    obtain ⟨xa, xb, exy, xa0, xa1, xb0, xb1⟩ := (all2_mem n1).mp (hI1 z.2 (List.mem_map.mpr ⟨z, hz, rfl⟩))
    have hzT := A.rows z hz
    rw [exy] at hzT
    obtain ⟨dxr, clr, c0r, c1r, ir1, ir2⟩ := A.rc.ins
    refine ⟨z.1, _, rfl, hzT, rfl, _, _, rfl, _, _, rfl, rfl, ?_⟩
    refine ⟨_, rfl, r.x, dxr, _, rfl, ir1, fsR_mput .., _, rfl, _, rfl, r, v, f0, f1', [xa, xb], _, rfl, by show 2 ≤ 2; decide, A.rc, rok, hr0, k0, hr1, k1', put2 hst hrow (by omega) xa0 (by rw [rsz]; exact xa1) xb0 (by rw [rsz]; exact xb1), fun H1 v1 j1 x1 G => ?_⟩
    obtain ⟨T1, T2, ev⟩ : ∃ T1 T2, v1 = vC { v with h0 := xa, h1 := xb, row := 2 } f0 f1' T1 T2 := by
      rcases G with ⟨z, _⟩ | ⟨z, _⟩ | ⟨_, h⟩
      · cases z
      · cases z
      · exact h
    have A1 := A.kpr j1 x1
    have st1 : v1.st = "waits" := by rw [ev]; exact hst
    have row1 : v1.row = 0 := by rw [ev] <;> rfl
    have ls1 : v1.ls = v.ls ++ [(T1, lookD w0 [xa, xb] (decide ([xa, xb] ∈ R0))), (T2, lookD w1 [xb] (decide ([xb] ∈ R1)))] := by
      rw [ev, ← fl0, ← fl1, ← q0, ← q1]
      show (v.ls ++ [_]) ++ [_] = _
      rw [List.append_assoc] <;> rfl
    clear G ev
    refine ⟨.str v1.st, .str "waits", .str "waits", 4, rfl, rfl, by rw [st1]; exact .str _, .str _, trivial, fun H2 S2 => ⟨true, rfl, iteF ?_⟩⟩
    have A2 := A1.same S2
    clear A1 x1 j1
    -- the due looks
    refine ⟨_, rfl, ?_⟩
    refine ⟨_, rfl, wl, _, _, _, rfl, rfl, SqL.of A2.wds, rfl, _, rfl, _, rfl, by show 2 ≤ sizeLine; decide, fun ta hta => ?_⟩
    have S3 := same_new hta (.tup [.int xa, .int xb])
    have ga : (upd H2 ta (.tup [.int xa, .int xb])) ta = some (.tup [.int xa, .int xb]) := upd_same
    generalize upd H2 ta (.tup [.int xa, .int xb]) = H3 at S3 ga
    refine ⟨_, rfl, _, rfl, by show 2 ≤ sizeLine; decide, fun tb htb => ?_⟩
    have S4 := same_new htb (.tup [.int xa, .int xb])
    have gb : (upd H3 tb (.tup [.int xa, .int xb])) tb = some (.tup [.int xa, .int xb]) := upd_same
    generalize upd H3 tb (.tup [.int xa, .int xb]) = H4' at S4 gb
    have A4 := (A2.same S3).same S4
    have at0 := A4.tabs.tb e0 he0
    refine ⟨_, rfl, _, rfl, wl, _, _, _, rfl, rfl, SqL.of A4.wds, rfl, d, _, rfl, get0 A4.tabs, e0.t, _, _, _, rfl, rfl, at0.tup, atI_nat (j := 1) rfl, ?_⟩
    refine ⟨rowD [xa, xb], (intsR e0.rows).map rowD, dpRow (ns := [xa, xb]) (SqT.of gb), .lst at0.lst (dpRows at0.rows), shaped_row _, shaped_rows _, ?_⟩
    rw [any_row, hR0]
    refine ⟨by show 3 ≤ sizeLine; decide, fun L1 hL1 => ?_⟩
    have S5 := same_new hL1 (.tup [.str w0, .ref ta, .bl (decide ([xa, xb] ∈ R0))])
    have gL1 : (upd H4' L1 (.tup [.str w0, .ref ta, .bl (decide ([xa, xb] ∈ R0))])) L1 = some (.tup [.str w0, .ref ta, .bl (decide ([xa, xb] ∈ R0))]) := upd_same
    generalize upd H4' L1 (.tup [.str w0, .ref ta, .bl (decide ([xa, xb] ∈ R0))]) = H5 at S5 gL1
    have A5 := A4.same S5
    refine ⟨_, rfl, wl, _, _, _, rfl, rfl, SqL.of A5.wds, rfl, _, rfl, by show 1 ≤ sizeLine; decide, fun tc htc => ?_⟩
    have S6 := same_new htc (.tup [.int xb])
    have gc : (upd H5 tc (.tup [.int xb])) tc = some (.tup [.int xb]) := upd_same
    generalize upd H5 tc (.tup [.int xb]) = H6 at S6 gc
    refine ⟨_, rfl, by show 1 ≤ sizeLine; decide, fun td' htd' => ?_⟩
    have S7 := same_new htd' (.tup [.int xb])
    have gd : (upd H6 td' (.tup [.int xb])) td' = some (.tup [.int xb]) := upd_same
    generalize upd H6 td' (.tup [.int xb]) = H7 at S7 gd
    have A7 := (A5.same S6).same S7
    have at1 := A7.tabs.tb e1 he1
    refine ⟨_, rfl, _, rfl, wl, _, _, _, rfl, rfl, SqL.of A7.wds, rfl, d, _, rfl, get1 A7.tabs, e1.t, _, _, _, rfl, rfl, at1.tup, atI_nat (j := 1) rfl, ?_⟩
    refine ⟨rowD [xb], (intsR e1.rows).map rowD, dpRow (ns := [xb]) (SqT.of gd), .lst at1.lst (dpRows at1.rows), shaped_row _, shaped_rows _, ?_⟩
    rw [any_row, hR1]
    refine ⟨by show 3 ≤ sizeLine; decide, fun L2' hL2 => ?_⟩
    have S8 := same_new hL2 (.tup [.str w1, .ref tc, .bl (decide ([xb] ∈ R1))])
    have gL2 : (upd H7 L2' (.tup [.str w1, .ref tc, .bl (decide ([xb] ∈ R1))])) L2' = some (.tup [.str w1, .ref tc, .bl (decide ([xb] ∈ R1))]) := upd_same
    generalize upd H7 L2' (.tup [.str w1, .ref tc, .bl (decide ([xb] ∈ R1))]) = H8 at S8 gL2
    have A8 := A7.same S8
    refine ⟨by show 2 ≤ sizeLine; decide, fun l9 hl9 => ?_⟩
    have S9 := same_new hl9 (.lst [.ref L1, .ref L2'])
    have g9 : (upd H8 l9 (.lst [.ref L1, .ref L2'])) l9 = some (.lst [.ref L1, .ref L2']) := upd_same
    generalize upd H8 l9 (.lst [.ref L1, .ref L2']) = H9' at S9 g9
    have A9 := A8.same S9
    have lD : D.length = 2 * i := by
      have z := congrArg List.length hD
      rw [List.length_map, List.length_map] at z
      omega
    refine ⟨du, l9, _, _, rfl, rfl, A9.due, g9, by rw [List.length_map, sizeLine_eq]; show D.length + 2 ≤ _; omega, fun du2 hdu2 => ?_⟩
    have S10 := same_new hdu2 (.lst (refs D ++ [.ref L1, .ref L2']))
    have eD : refs D ++ [V.ref L1, .ref L2'] = refs (D ++ [(L1, lookD w0 [xa, xb] (decide ([xa, xb] ∈ R0))), (L2', lookD w1 [xb] (decide ([xb] ∈ R1)))]) := by
      show _ = (D ++ _).map _
      rw [List.map_append] <;> rfl
    have g10 : (upd H9' du2 (.lst (refs D ++ [.ref L1, .ref L2']))) du2 = some (.lst (refs (D ++ [(L1, lookD w0 [xa, xb] (decide ([xa, xb] ∈ R0))), (L2', lookD w1 [xb] (decide ([xb] ∈ R1)))]))) := by rw [upd_same, eD]
    have ndu2 : du2 ≠ r.lk ∧ du2 ≠ r.hd := ⟨Ne.symm (ne_of_none A9.rc.looks hdu2), Ne.symm (ne_of_none A9.rc.held hdu2)⟩
    generalize upd H9' du2 (.lst (refs D ++ [.ref L1, .ref L2'])) = H10' at S10 g10
    have SL1 := ((S6.trans S7).trans S8).trans (S9.trans S10)
    have SL2 := S9.trans S10
    have A10 := (A9.same S10).redue g10 ⟨fun p hp => by
      rcases List.mem_append.mp hp with z | z
      · exact ((A9.same S10).dlk.at_ p z)
      · simp only [List.mem_cons, List.not_mem_nil, or_false] at z
        rcases z with rfl | rfl
        · exact ⟨dpLook (SqT.of (SL1 _ _ (gL1))) (SqT.of (SL1 _ _ (S5 _ _ (S4 _ _ ga)))), _, _, _, lay_name W.n0, rfl⟩
        · exact ⟨dpLook (SqT.of (SL2 _ _ gL2)) (SqT.of (SL2 _ _ (S8 _ _ (S7 _ _ gc)))), _, _, _, lay_name W.n1, rfl⟩⟩ ndu2
    have hD2 : (D ++ [(L1, lookD w0 [xa, xb] (decide ([xa, xb] ∈ R0))), (L2', lookD w1 [xb] (decide ([xb] ∈ R1)))]).map (·.2) = v1.ls.map (·.2) := by
      rw [ls1, List.map_append, List.map_append, hD] <;> rfl
    have hlk2 : v1.ls.map (·.2) = dueOf w0 w1 R0 R1 (intsR (rsI.take (i + 1))) := by
      have e1 : rsI.take (i + 1) = rsI.take i ++ [z] := by rw [List.take_add_one, hq] <;> rfl
      rw [ls1, List.map_append, hlk, e1]
      unfold intsR dueOf
      rw [List.map_append, List.flatMap_append, List.map_singleton, exy] <;> rfl
    have hln2 : v1.ls.length = 2 * (i + 1) := by rw [ls1, List.length_append, hln] <;> rfl
    have lD2 : (D ++ [(L1, lookD w0 [xa, xb] (decide ([xa, xb] ∈ R0))), (L2', lookD w1 [xb] (decide ([xb] ∈ R1)))]).length = 2 * (i + 1) := by rw [List.length_append, lD] <;> rfl
    generalize D ++ [(L1, lookD w0 [xa, xb] (decide ([xa, xb] ∈ R0))), (L2', lookD w1 [xb] (decide ([xb] ∈ R1)))] = D2 at A10 hD2 lD2 g10
    clear g10 SL1 SL2 S10 S9 S8 S7 S6 S5 S4 S3 A9 A8 A7 A5 A4 A2 g9 gL1 gL2 ga gb gc gd at0 at1 ls1
    refine ⟨_, rfl, b, sl, _, rfl, A10.box, by decide, by decide, fun H11 cc k11 bx11 cc0 cc1 => ?_⟩
    have A11 := A10.kpb k11 bx11
    refine ⟨rfl, _, rfl, ?_⟩
    have fin : ∀ {H'}, L2.Same H11 H' → ∃ v du' D v10 v11, ([some (V.ref a), some (.ref b), some (.ref wl), some (.int (n : Int)), some (.ref d), some (.ref rl), some (.ref R), some (.ref r.x), some (.ref du2), some (.ref pl), some (.int xa), some (.int xb), none, none] : L2.St) = [some (.ref a), some (.ref b), some (.ref wl), some (.int (n : Int)), some (.ref d), some (.ref rl), some (.ref R), some (.ref r.x), some (.ref du'), some (.ref pl), v10, v11, none, none] ∧ LwAt K H' ⟨b, sl, wl, d, it, n, w0, w1, w2, L, r, rsI⟩ v du' D ∧ v.st = "waits" ∧ v.row = 0 ∧ D.map (·.2) = v.ls.map (·.2) ∧ v.ls.map (·.2) = dueOf w0 w1 R0 R1 (intsR (rsI.take (i + 1))) ∧ v.ls.length = 2 * (i + 1) :=
      fun {H'} S => ⟨v1, du2, D2, _, _, rfl, A11.same S, st1, row1, hD2, hlk2, hln2⟩
    by_cases hc : cc = 0
    · refine iteT' (decide_eq_true (by rw [hc])) ?_
      obtain ⟨lkok, dok⟩ := due_lks n1 n8 W.n0 W.n1 (rs := intsR (rsI.take (i + 1))) (fun y hy => hI1 y (by
        obtain ⟨q', hq', rfl⟩ := List.mem_map.mp hy
        exact List.mem_map.mpr ⟨q', List.mem_of_mem_take hq', rfl⟩)) hlk2
      obtain ⟨dx2, cl2, d0', d1', i1, i2⟩ := A11.rc.ins
      refine ⟨_, rfl, r.x, dx2, _, rfl, i1, fsR_mseen .., r, v1, rfl, A11.rc, lkok, fun H12 p12 Ls S12 hp12 hn12 hLs12 U12 => ?_⟩
      have A12 := A11.same S12
      refine ⟨_, rfl, du2, D2, rfl, SqL.of A12.due, A12.dlk, by omega, fun H13' f13 F13 S13 hf13 hF13 U13 len13 => ?_⟩
      have eF : Ls.map (·.2) = F13.map (·.2) := U12.uniq U13 fun dd' => by rw [hD2]
      refine ⟨.ref p12, .ref f13, .list (F13.map fun q : Addr × PyData => q.2), 4, rfl, rfl, .lst (SqL.of (S13 _ _ hp12)) (by rw [← eF]; exact dpAll_of fun q hq => dp_same S13 _ _ (hLs12 q hq).1), .lst (SqL.of hf13) (dpAll_of fun q hq => (hF13.at_ q hq).1), okS_up (okS_lks dok (by rw [← eF]; exact U12) (by rw [List.length_map]; omega)), fun H14' S14 => ⟨true, rfl, iteF ?_⟩⟩
      exact fin ((S12.trans S13).trans S14)
    · refine iteF' (decide_eq_false (by intro z; injection z with z; exact hc z)) (iteF ?_)
      exact fin (L2.Same.refl _)
  · rintro σ H' ⟨v, du, D, v10, v11, rfl, A, hst, hrow, hD, hlk, hln⟩
    rw [List.length_map] at hlk hln
    rw [List.take_length] at hlk
    obtain ⟨lkok, dok⟩ := due_lks n1 n8 W.n0 W.n1 hI1 hlk
    have lD : D.length = 2 * rsI.length := by
      have z := congrArg List.length hD
      rw [List.length_map, List.length_map] at z
      omega
    obtain ⟨dx1, cl1, a1, b1, i1, i1'⟩ := A.rc.ins
    refine ⟨_, rfl, r.x, dx1, _, rfl, i1, fsR_mtwin .., r, v, rfl, A.rc, rok, by omega, fun H1 x2 lk2 hd2 ta tb S1 hx2 hlk2 hhd2 xt => ?_⟩
    have A1 := A.same S1
    generalize er2 : ({ r with x := x2, lk := lk2, hd := hd2 } : RcS) = r2 at xt
    have r2x : r2.x = x2 := by rw [← er2]
    have r2lk : r2.lk = lk2 := by rw [← er2]
    have r2hd : r2.hd = hd2 := by rw [← er2]
    have r2R : r2.R = r.R := by rw [← er2]
    have r2S : r2.S = r.S := by rw [← er2]
    have r2td : r2.td = r.td := by rw [← er2]
    have r2L : r2.L = r.L := by rw [← er2]
    subst r2x
    have nx12 : r2.x ∉ rM r := fun z => by
      rcases List.mem_cons.mp z with e | z
      · rw [e, i1] at hx2; cases hx2
      · rcases List.mem_cons.mp z with e | z
        · rw [e, A.rc.looks] at hx2; cases hx2
        · rw [List.mem_singleton.mp z, A.rc.held] at hx2; cases hx2
    have nl12 : r2.lk ∉ rM r := fun z => by
      rw [r2lk] at z
      rcases List.mem_cons.mp z with e | z
      · rw [e, i1] at hlk2; cases hlk2
      · rcases List.mem_cons.mp z with e | z
        · rw [e, A.rc.looks] at hlk2; cases hlk2
        · rw [List.mem_singleton.mp z, A.rc.held] at hlk2; cases hlk2
    have nh12 : r2.hd ∉ rM r := fun z => by
      rw [r2hd] at z
      rcases List.mem_cons.mp z with e | z
      · rw [e, i1] at hhd2; cases hhd2
      · rcases List.mem_cons.mp z with e | z
        · rw [e, A.rc.looks] at hhd2; cases hhd2
        · rw [List.mem_singleton.mp z, A.rc.held] at hhd2; cases hhd2
    clear er2 S1
    -- both tell alike
    obtain ⟨dx2, cl2, a2, b2, i2, i2'⟩ := A1.rc.ins
    refine ⟨_, rfl, r.x, dx2, _, rfl, i2, fsR_mseen .., r, v, rfl, A1.rc, lkok, fun H2 p2 L2' S2 hp2 hn2 hL2 U2 => ?_⟩
    have A2 := A1.same S2
    have xt2 := xt.same S2
    obtain ⟨dx3, cl3, a3, b3, i3, i3'⟩ := xt2.ins
    refine ⟨_, rfl, r2.x, dx3, _, rfl, i3, fsR_mseen .., r2, _, rfl, xt2, lkok, fun H3 p3 L3' S3 hp3 hn3 hL3 U3 => ?_⟩
    have A3 := A2.same S3
    have xt3 := xt2.same S3
    refine ⟨by show 2 ≤ sizeLine; decide, fun l4 hl4 => ?_⟩
    have S4 := same_new hl4 (.lst [.ref p2, .ref p3])
    have g4 : (upd H3 l4 (.lst [.ref p2, .ref p3])) l4 = some (.lst [.ref p2, .ref p3]) := upd_same
    generalize upd H3 l4 (.lst [.ref p2, .ref p3]) = H4' at S4 g4
    have A4 := A3.same S4
    have xt4 := xt3.same S4
    refine ⟨_, rfl, du, D, rfl, SqL.of A4.due, A4.dlk, by omega, fun H5 f5 F5 S5 hf5 hF5 U5 len5 => ?_⟩
    refine ⟨by show 1 ≤ sizeLine; decide, fun l6 hl6 => ?_⟩
    have S6 := same_new hl6 (.lst [.ref f5])
    have g6 : (upd H5 l6 (.lst [.ref f5])) l6 = some (.lst [.ref f5]) := upd_same
    generalize upd H5 l6 (.lst [.ref f5]) = H6 at S6 g6
    refine ⟨l6, 2, _, rfl, rfl, g6, by decide, by decide, by show 1 * 2 ≤ sizeLine; decide, fun l7 hl7 => ?_⟩
    have S7 := same_new hl7 (.lst (List.replicate (2 : Int).toNat [V.ref f5]).flatten)
    have g7 : (upd H6 l7 (.lst (List.replicate (2 : Int).toNat [V.ref f5]).flatten)) l7 = some (.lst [.ref f5, .ref f5]) := upd_same
    generalize upd H6 l7 (.lst (List.replicate (2 : Int).toNat [V.ref f5]).flatten) = H7 at S7 g7
    have eF2 : L2'.map (·.2) = F5.map (·.2) := U2.uniq U5 fun y => by rw [hD]
    have eF3 : L3'.map (·.2) = F5.map (·.2) := U3.uniq U5 fun y => by rw [hD]
    have S57 := S6.trans S7
    have S37 := (S4.trans S5).trans S57
    have S27 := S3.trans S37
    have dpF : ∀ {H' : Hp}, L2.Same H5 H' → Dp K H' (.ref f5) (.list (F5.map fun q : Addr × PyData => q.2)) := fun {H'} S => .lst (SqL.of (S _ _ hf5)) (dpAll_of fun q hq => dp_same S _ _ (hF5.at_ q hq).1)
    have okF : okS 3 (.list (F5.map fun q : Addr × PyData => q.2)) := okS_lks dok (by rw [← eF2]; exact U2) (by rw [List.length_map]; omega)
    have dp2 : Dp K H7 (.ref p2) (.list (F5.map fun q : Addr × PyData => q.2)) := by
      rw [← eF2]
      exact .lst (SqL.of (S27 _ _ hp2)) (dpAll_of fun q hq => dp_same S27 _ _ (hL2 q hq).1)
    have dp3 : Dp K H7 (.ref p3) (.list (F5.map fun q : Addr × PyData => q.2)) := by
      rw [← eF3]
      exact .lst (SqL.of (S37 _ _ hp3)) (dpAll_of fun q hq => dp_same S37 _ _ (hL3 q hq).1)
    refine ⟨.ref l4, .ref l7, .list [.list (F5.map fun q : Addr × PyData => q.2), .list (F5.map fun q : Addr × PyData => q.2)], 4, rfl, rfl, .lst (SqL.of ((S5.trans S57) _ _ g4)) (.cons dp2 (.cons dp3 .nil)), .lst (SqL.of g7) (.cons (dpF S57) (.cons (dpF S57) .nil)), ⟨by show 2 ≤ 900; decide, fun y hy => by
      simp only [List.mem_cons, List.not_mem_nil, or_false] at hy
      rcases hy with rfl | rfl <;> exact okF⟩, fun H8 S8 => ⟨true, rfl, iteF ?_⟩⟩
    have S48 := (S5.trans S57).trans S8
    have A8 := A4.same S48
    have xt8 := xt4.same S48
    clear dp2 dp3 S37 S27 S57 S7 g7 S6 g6 S4 g4 hp2 hp3 hL2 hL3 U2 U3 eF2 eF3 hf5 dpF S48 S8
    -- a bad mark
    obtain ⟨dx9, cl9, a9, b9, i9, i9'⟩ := A8.rc.ins
    refine ⟨_, rfl, r.x, dx9, _, rfl, i9, fsR_mput .., ?_⟩
    refine ⟨_, rfl, _, rfl, _, rfl, _, _, rfl, rfl, ⟨by decide, by decide, by decide⟩, by show 3 ≤ sizeLine; decide, fun l9 hl9 => ?_⟩
    have S9 := same_new hl9 (.lst [V.int (n : Int), .int (-1), .int (10 ^ (14 : Int).toNat)])
    have g9 : (upd H8 l9 (.lst [V.int (n : Int), .int (-1), .int (10 ^ (14 : Int).toNat)])) l9 = some (.lst [V.int (n : Int), .int (-1), .int (10 ^ (14 : Int).toNat)]) := upd_same
    have A9 := A8.same S9
    have xt9 := xt8.same S9
    have nl9 : l9 ≠ b := A8.box.nb hl9
    refine ⟨b, sl, _, rfl, A9.box, .inl ⟨l9, _, rfl, SqL.of g9, nl9, by show 0 < 3; decide, by show 3 < 1000; decide, fun H10' y k10 bx10 hy => ?_⟩⟩
    have A10 := A9.kpb k10 bx10
    have xt10 := xt9.kpb A9.box k10
    obtain ⟨m, rfl, hm⟩ : ∃ m : Int, y = .int m ∧ ¬ (0 ≤ m ∧ m < r.size) := by
      have p14 : (10 : Int) ^ (14 : Int).toNat = 100000000000000 := by decide
      simp only [List.mem_cons, List.not_mem_nil, or_false] at hy
      rcases hy with rfl | rfl | rfl
      · exact ⟨_, rfl, by rw [rsz]; omega⟩
      · exact ⟨_, rfl, by omega⟩
      · exact ⟨_, rfl, by rw [rsz, p14]; omega⟩
    refine ⟨r, v, f0, f1', [m], _, rfl, by show 1 ≤ 2; decide, A10.rc, rok, hr0, k0, hr1, k1', putBad hst hrow (by omega) hm, fun H11 v3 k11 x11 G => ?_⟩
    have ev : v3 = { v with st := "refused", wy := "mark" } := by
      rcases G with ⟨z, _⟩ | ⟨_, h⟩
      · cases z
      · exact h
    have st3 : v3.st = "refused" := by rw [ev]
    have wy3 : v3.wy = "mark" := by rw [ev]
    have ls3 : v3.ls = v.ls := by rw [ev]
    clear G ev
    have A11 := A10.kpr k11 x11
    have wr10 := A10.rc.wrs
    have xt11 : RcAt K H11 r2 ⟨v.st, v.wy, v.row, ta, tb, v.ls⟩ := by
      obtain ⟨dRa, hRa⟩ := A10.rc.rd.ins
      obtain ⟨dSa, hSa⟩ := A10.rc.sto.ins
      obtain ⟨dxa, cla, aa, ba, ia, ia'⟩ := A10.rc.ins
      refine xt10.kpo k11 wr10 nx12 nl12 nh12 ?_ ?_ ?_ ?_
      · rw [r2R]
        intro z
        rcases List.mem_cons.mp z with e | z
        · exact A10.rc.nR e
        · rcases List.mem_cons.mp z with e | z
          · exact ne_of hRa A10.rc.looks (by intro z; cases z) e
          · exact ne_of hRa A10.rc.held (by intro z; cases z) (List.mem_singleton.mp z)
      · rw [r2S]
        intro z
        rcases List.mem_cons.mp z with e | z
        · exact A10.rc.nS e
        · rcases List.mem_cons.mp z with e | z
          · exact ne_of hSa A10.rc.looks (by intro z; cases z) e
          · exact ne_of hSa A10.rc.held (by intro z; cases z) (List.mem_singleton.mp z)
      · rw [r2td]
        exact nrO A10.rc A10.rc.sto.tabs.dic (fun xs z => by cases z) (fun _ _ _ z => by cases z)
      · intro e he
        rw [r2L] at he
        exact nrM A10.rc (A10.rc.sto.tabs.tb e he).lst0 (A10.rc.sep e he).1 (A10.rc.sep e he).2
    clear A9 A10 xt9 xt10 S9 k10 k11 wr10
    -- what is told then
    obtain ⟨dx12, cl12, a12, b12, i12, i12'⟩ := A11.rc.ins
    have lkok3 : LkOk v3.ls := by rw [ls3]; exact lkok
    refine ⟨_, rfl, _, rfl, r.x, _, dx12, _, _, rfl, i12, T.cl_Recorded, T.no_Recorded_why, fsR_why .., ?_⟩
    refine ⟨_, rfl, r.x, dx12, _, rfl, i12, fsR_mseen .., r, v3, rfl, A11.rc, lkok3, fun H12 p12 L12 S12 hp12 hn12 hL12 U12 => ?_⟩
    have A12 := A11.same S12
    have xt12 := xt11.same S12
    obtain ⟨dx13, cl13, a13, b13, i13, i13'⟩ := xt12.ins
    refine ⟨_, rfl, r2.x, _, dx13, _, _, rfl, i13, T.cl_Recorded, T.no_Recorded_state, fsR_state .., ?_⟩
    refine ⟨by show 4 ≤ sizeLine; decide, fun l13 hl13 => ?_⟩
    have S13 := same_new hl13 (.lst [V.str v3.st, .str v3.wy, .ref p12, .str v.st])
    have g13 : (upd H12 l13 (.lst [V.str v3.st, .str v3.wy, .ref p12, .str v.st])) l13 = some (.lst [V.str v3.st, .str v3.wy, .ref p12, .str v.st]) := upd_same
    generalize upd H12 l13 (.lst [V.str v3.st, .str v3.wy, .ref p12, .str v.st]) = H13 at S13 g13
    have A13 := A12.same S13
    refine ⟨_, rfl, du, D, rfl, SqL.of A13.due, A13.dlk, by omega, fun H14 f14 F14 S14 hf14 hF14 U14 len14 => ?_⟩
    refine ⟨by show 4 ≤ sizeLine; decide, fun l15 hl15 => ?_⟩
    have S15 := same_new hl15 (.lst [V.str "refused", .str "mark", .ref f14, .str "waits"])
    have g15 : (upd H14 l15 (.lst [V.str "refused", .str "mark", .ref f14, .str "waits"])) l15 = some (.lst [V.str "refused", .str "mark", .ref f14, .str "waits"]) := upd_same
    generalize upd H14 l15 (.lst [V.str "refused", .str "mark", .ref f14, .str "waits"]) = H15' at S15 g15
    have eF12 : L12.map (·.2) = F14.map (·.2) := U12.uniq U14 fun y => by rw [ls3, hD]
    have ok14 : okS 3 (.list (F14.map fun q : Addr × PyData => q.2)) := okS_lks dok (by rw [← eF12, ← ls3]; exact U12) (by rw [List.length_map]; omega)
    have S12_15 := (S13.trans S14).trans S15
    have dpL12 : Dp K H15' (.ref p12) (.list (F14.map fun q : Addr × PyData => q.2)) := by
      rw [← eF12]
      exact .lst (SqL.of (S12_15 _ _ hp12)) (dpAll_of fun q hq => dp_same S12_15 _ _ (hL12 q hq).1)
    have dpF14 : Dp K H15' (.ref f14) (.list (F14.map fun q : Addr × PyData => q.2)) := .lst (SqL.of (S15 _ _ hf14)) (dpAll_of fun q hq => dp_same S15 _ _ (hF14.at_ q hq).1)
    rw [st3, wy3, hst] at g13
    refine ⟨.ref l13, .ref l15, .list [.str "refused", .str "mark", .list (F14.map fun q : Addr × PyData => q.2), .str "waits"], 4, rfl, rfl, .lst (SqL.of ((S14.trans S15) _ _ g13)) (.cons (.str _) (.cons (.str _) (.cons dpL12 (.cons (.str _) .nil)))), .lst (SqL.of g15) (.cons (.str _) (.cons (.str _) (.cons dpF14 (.cons (.str _) .nil)))), ⟨by show 4 ≤ 900; decide, fun y hy => by
      simp only [List.mem_cons, List.not_mem_nil, or_false] at hy
      rcases hy with rfl | rfl | rfl | rfl
      · exact trivial
      · exact trivial
      · exact ok14
      · exact trivial⟩, fun H16' S16' => ⟨true, rfl, iteF ?_⟩⟩
    have A16 := A13.same ((S14.trans S15).trans S16')
    clear dpL12 dpF14 S12_15 ok14 eF12 S15 g15 S13 g13 S12 S14 hp12 hL12 U12 hf14 hF14 U14 S16'
    -- behind the refusal
    obtain ⟨dx17, cl17, a17, b17, i17, i17'⟩ := A16.rc.ins
    refine ⟨_, rfl, r.x, dx17, _, rfl, i17, fsR_mput .., r, v3, f0, f1', [0], _, rfl, by show 1 ≤ 2; decide, A16.rc, rok, hr0, k0, hr1, k1', putRef st3, fun H17' v4 k17' x17' G => ?_⟩
    subst G
    have A17 := A16.kpr k17' x17'
    obtain ⟨dx18, cl18, a18, b18, i18, i18'⟩ := A17.rc.ins
    refine ⟨_, rfl, r.x, dx18, _, rfl, i18, fsR_mseen .., r, v4, rfl, A17.rc, lkok3, fun H18' p18 L18 S18' hp18 hn18 hL18 U18 => ?_⟩
    have A18 := A17.same S18'
    obtain ⟨dx19, cl19, a19, b19, i19, i19'⟩ := A18.rc.ins
    refine ⟨_, rfl, r.x, dx19, _, rfl, i19, fsR_mseen .., r, v4, rfl, A18.rc, lkok3, fun H19' p19 L19 S19' hp19 hn19 hL19 U19 => ?_⟩
    have A19 := A18.same S19'
    refine ⟨p19, _, rfl, .inl (SqL.of hp19), by show 3 ≤ sizeLine; decide, fun l20 hl20 => ?_⟩
    have S20 := same_new hl20 (.lst [V.str v4.st, .ref p18, .int ((refs L19).length : Int)])
    have g20 : (upd H19' l20 (.lst [V.str v4.st, .ref p18, .int ((refs L19).length : Int)])) l20 = some (.lst [V.str v4.st, .ref p18, .int ((refs L19).length : Int)]) := upd_same
    generalize upd H19' l20 (.lst [V.str v4.st, .ref p18, .int ((refs L19).length : Int)]) = H20' at S20 g20
    have A20 := A19.same S20
    refine ⟨_, rfl, du, D, rfl, SqL.of A20.due, A20.dlk, by omega, fun H21' f21 F21 S21 hf21 hF21 U21 len21 => ?_⟩
    refine ⟨_, rfl, _, rfl, _, _, rfl, rfl, cmulR (by omega) (by omega), _, rfl, _, _, rfl, rfl, ?_⟩
    have elen : ((refs L19).length : Int) = (n : Int) * (n : Int) + (n : Int) := by
      have z := due_len n1 W.ne01 hI1 hI2 (F := L19.map (·.2)) (by rw [← hlk, ← ls3]; exact U19)
      rw [List.length_map] at z
      rw [List.length_map, z, Int.natCast_add, Int.natCast_mul]
    refine ⟨by show 3 ≤ sizeLine; decide, fun l22 hl22 => ?_⟩
    have S22' := same_new hl22 (.lst [V.str "refused", .ref f21, .int ((n : Int) * (n : Int) + (n : Int))])
    have g22' : (upd H21' l22 (.lst [V.str "refused", .ref f21, .int ((n : Int) * (n : Int) + (n : Int))])) l22 = some (.lst [V.str "refused", .ref f21, .int ((n : Int) * (n : Int) + (n : Int))]) := upd_same
    generalize upd H21' l22 (.lst [V.str "refused", .ref f21, .int ((n : Int) * (n : Int) + (n : Int))]) = H22' at S22' g22'
    rw [st3, elen] at g20
    have eF18 : L18.map (·.2) = F21.map (·.2) := U18.uniq U21 fun y => by rw [ls3, hD]
    have ok21 : okS 3 (.list (F21.map fun q : Addr × PyData => q.2)) := okS_lks dok (by rw [← eF18, ← ls3]; exact U18) (by rw [List.length_map]; omega)
    have S1822 := ((S19'.trans S20).trans S21).trans S22'
    have dp18 : Dp K H22' (.ref p18) (.list (F21.map fun q : Addr × PyData => q.2)) := by
      rw [← eF18]
      exact .lst (SqL.of (S1822 _ _ hp18)) (dpAll_of fun q hq => dp_same S1822 _ _ (hL18 q hq).1)
    have dp21 : Dp K H22' (.ref f21) (.list (F21.map fun q : Addr × PyData => q.2)) := .lst (SqL.of (S22' _ _ hf21)) (dpAll_of fun q hq => dp_same S22' _ _ (hF21.at_ q hq).1)
    refine ⟨.ref l20, .ref l22, .list [.str "refused", .list (F21.map fun q : Addr × PyData => q.2), .int ((n : Int) * (n : Int) + (n : Int))], 4, rfl, rfl, .lst (SqL.of ((S21.trans S22') _ _ g20)) (.cons (.str _) (.cons dp18 (.cons (.int _) .nil))), .lst (SqL.of g22') (.cons (.str _) (.cons dp21 (.cons (.int _) .nil))), ⟨by show 3 ≤ 900; decide, fun y hy => by
      simp only [List.mem_cons, List.not_mem_nil, or_false] at hy
      rcases hy with rfl | rfl | rfl
      · exact trivial
      · exact ok21
      · exact trivial⟩, fun H23' S23' => ?_⟩
    exact q H23'
end
end K85

set_option Elab.async false
set_option linter.all false
set_option maxRecDepth 100000
set_option maxHeartbeats 0
namespace K85
open PySem PySem.Spec PyProof.Rows L2
theorem law_facts {w : World} {K : PySem.W.Frag} {h : Heap} {mg : Str → Option Value} {f : Addr} (X : K.In h) (G : h.Ns mainGlobals mg) (hfa : mg ("law" : Str) = some (.ref f)) (c : obsS K = valS w) :
    ∃ fd : FuncData, (∀ (s : Shared) (v : Value), BindsTo s fd ⟨[v], []⟩ [("_law_script", v)]) ∧ ∀ base : Heap, K.In base → base.Ns mainGlobals mg → FnOk Pg w K mg base CX0 12 f fd ["_law_script"] (sp_law K) := by
  have ct : He.SaysT hf hd hts w K := congrArg (fun z : AlS => z.1) c
  have cd : He.SaysD hf hd K := ct.d
  obtain ⟨fd, F⟩ := cd.def_ kLaw (d := ⟨("law", none), "law", "law", defArgs s_law, defBody s_law, defScope s_law, [], []⟩) rfl
  have e := hfa.symm.trans (He.glo_ok X G (cd.fact ixLaw (f := .glo "law") rfl))
  cases e
  have b := FunD.bindsA (ps := ["_law_script"]) F fun _ _ _ _ _ _ us hl => match us, hl with | [_], _ => rfl
  exact ⟨fd, fun s v => b s [v] rfl, fun base _ _ => r_law (txt_of X G c) F⟩
end K85
open PySem PySem.W PySem.Calls PyProof.Rows
theorem PySem.Challenge.cw_oncethrough_k85_whole_looks_of_long_read_holds : PySem.Challenge.rw_oncethrough_k85_whole_looks_of_long_read.Holds := by
  w_on; o_law
  refine HandSHeadRun.head_any (r := OpenLaw.row PySem.Challenge.rw_oncethrough_k85_whole_looks_of_long_read) (q := K85.qv) (H := K85.hookS) (ob := K85.ob) (M := 8000) (loose := K85.names) (d := HandSHeadRun.topDef (OpenLaw.row PySem.Challenge.rw_oncethrough_k85_whole_looks_of_long_read).prog 70) (kwd := []) K85.ob_eq
    (by kernel_rfl) (fun s => by kernel_rfl) K85.run (by kernel_rfl) (by kernel_rfl) (by kernel_rfl) (by rfl) (by first | assumption | decide +kernel) (by decide +kernel) ⟨rfl, rfl, rfl, rfl, rfl, by decide +kernel⟩ ?hw ?hc
  case hw => w_witness2
  case hc =>
    refine L2.walk_ofE (l := PySem.Challenge.rw_oncethrough_k85_whole_looks_of_long_read) (n := 63) (k := 12) (x := "_law_script") (CX := L2.CX0) rfl (by decide) (by kernel_rfl) ⟨rfl, by decide, by decide⟩ ?F (fun _ _ _ _ z => z)
    intro w mg fa h Y G hmg0
    obtain ⟨K, KX, c⟩ := Y
    have hmg : mg ("law" : PySem.Str) = some (.ref fa) := by
      have e : (HandSHeadRun.topDef (OpenLaw.row PySem.Challenge.rw_oncethrough_k85_whole_looks_of_long_read).prog 70).name = ("law" : PySem.Str) := by kernel_rfl
      rw [← e]
      exact hmg0
    obtain ⟨fd, hb, hF⟩ := K85.law_facts (w := w) KX G hmg c
    exact ⟨K, fd, K85.sp_law K, KX, hb, fun H a ns hl _ hS => ⟨a, ns, rfl, hS, fun _ => rfl⟩, hF⟩

