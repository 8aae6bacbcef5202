import PyProof.Rows.All
import Wide.All
import OpenK.AllK
import Wide.FinOn
import HandS.Base
import HandS.Call
import HandS.List
import HandS.Comp
import HandS.Ends
import HandS.Dict
import HandS.Iter
import HandS.Text
import HandS.Words
import HandS.WordsList
import HandS.WordsDict
import HandS.Exc
import HandS.ExcOwn
import HandS.WordsExc
import HandS.IsInst
import HandS.Zip
import HandS.Deep
import HandS.TupAny
import HandS.TupLe
import HandS.ExcCtx
import HandS.HotCalls
import HandS.ExcIs
import HandS.TupSets
import KE.KeyNested
import HandS.SetFor
import KE.LtData
import KE.SortData
import KE.KDictKeyed
import HandS.TupMul
import HandS.Conv
import PyProof.StrOps2
import HandS.Wide
import HandS.TryOnly
import HandS.Style
import KE.KDictDisplayH
import KE.KDictList
import KE.GoesEnum
import KE.KDictLaws
import HandS.Strs
import KE.DataMinMax
import HandS.StrMore
import HandS.RaiseMore
import HandS.Codes
import KE.KIndexOf
import KE.DataFind
import HandS.Defaults
import HandS.Head0
import HandS.Head1
import HandS.Head2
import HandS.HeadEnd
import HandS.HeadHook1
import HandS.HeadHook2
import PySem.Challenge.RW_unseenways_k13_whole_at_bounds
set_option Elab.async false
set_option linter.all false
set_option maxRecDepth 100000
/-! Sets of nested tuples (whole numbers, bools, texts, None, tuples of such). -/
namespace UW
open PySem PySem.Spec PyProof.Rows L2
abbrev NK := NestedKey
/-- at an address lies a key -/
def KIs (h : Heap) (k : NK) (a : Addr) : Prop := NestedIs h k (.ref a) ∧ k.depth ≤ 8
theorem KIs.inj {h : Heap} {a : Addr} {x y : NK} (hx : KIs h x a) (hy : KIs h y a) : x = y := NestedIs.inj _ _ _ hx.1 hy.1
theorem KIs.move {h h' : Heap} {k : NK} {a : Addr} (x : KIs h k a) (hk : ∀ b o vs n, h.get? b = some o → o.data = .seq vs n → h'.get? b = some o) : KIs h' k a := ⟨NestedIs.at hk k _ x.1, x.2⟩
theorem KIs.keep {h h' : Heap} {k : NK} {a : Addr} (x : KIs h k a) (hk : ∀ b o, h.get? b = some o → h'.get? b = some o) : KIs h' k a := x.move fun b o _ _ e _ => hk b o e
theorem KIs.but {h h' : Heap} {k : NK} {a b : Addr} {o : Obj} {es : Array (Int × Value)} {ep : Nat} {t : SetTable} (x : KIs h k b) (ho : h.get? a = some o) (hd : o.data = .set es ep t) (hs : Heap.SameBut a h h') : KIs h' k b := x.move fun c oc vs n hc hv => by
  refine (hs.2 c fun e => ?_).trans hc
  subst e
  rw [ho] at hc
  cases hc
  rw [hd] at hv
  cases hv
section
variable {P : Program} {w : World} {A : Around} {E : Value → Shared → Prop} {s : Shared}
theorem k_hash {k : NK} {a : Addr} {Q : Int → Shared → Prop} (hu : A.units + 8 < cLine) (hk : KIs s.heap k a) (h : Q (k.hash w) { s with toks := s.toks + k.draws }) : wpAny (model P w) A (pyHash (.ref a)) Q E s := (nestedKind P w).pyHash hu hk h
theorem k_eq {x y : NK} {a b : Addr} {Q : Bool → Shared → Prop} (hu : A.units + 8 < cLine) (hx : KIs s.heap x a) (hy : KIs s.heap y b) (h : Q (decide (x = y)) s) : wpAny (model P w) A (eqBool (.ref a) (.ref b)) Q E s := (nestedKind P w).eqBool hu hx hy h
theorem k_quiet {k : NK} {a : Addr} {Q : Bool → Shared → Prop} (hk : KIs s.heap k a) (h : Q true s) : wpAny (model P w) A (eqIsQuiet 8 (.ref a)) Q E s := (nestedKind P w).quiet hk h
/-- no class statement made what a key is made of -/
def Plainly (P : Program) (w : World) (n : Nat) (s : Shared) (v : Value) : Prop := ∀ (A : Around) (E : Value → Shared → Prop) (Q : Bool → Shared → Prop), Q false s → wpAny (model P w) A (ofAClassStatement n v) Q E s
theorem plainly_tup {n : Nat} {a : Addr} {o : Obj} {vs : Array Value} {m : Nat} (ho : s.heap.get? a = some o) (hc : o.cls = .type "tuple") (hd : o.data = .seq vs m) (hq : ∀ v ∈ vs.toList, Plainly P w n s v) : Plainly P w (n + 1) s (.ref a) := fun A E Q h => by
  have hT : s.TypeIs (.ref a) "tuple" := ⟨o, ho, hc⟩
  unfold ofAClassStatement
  refine wpAny_bind (wpAny_typeOf hT ?_)
  dsimp only
  have e : (("tuple" : String) == "tuple") = true := by decide
  simp only [e, if_true, Bool.not_true, Bool.false_eq_true, if_false]
  try refine wpAny_bind (wpAny_pure ?_)
  try simp only [Bool.not_true, Bool.false_eq_true, if_false]
  refine wpAny_bind (wpAny_seqItems ho hd ?_)
  refine wpAny_bind ?_
  show wpAny _ _ (forIn vs _ _) _ _ s
  rw [← Array.forIn_toList]
  refine wpAny_forIn_list _ (fun rest r s' => r.1 = none ∧ s' = s ∧ ∀ v ∈ rest, Plainly P w n s v) _ (fun v rest r s' hi => ?_) (fun r s' hi => ?_) _ _ ⟨rfl, rfl, hq⟩
  · obtain ⟨hr, rfl, hall⟩ := hi
    refine wpAny_bind (hall v List.mem_cons_self _ _ _ ?_)
    simp only [Bool.false_eq_true, if_false]
    exact wpAny_pure ⟨rfl, rfl, fun u hu' => hall u (List.mem_cons_of_mem _ hu')⟩
  · obtain ⟨r1, r2⟩ := r
    obtain ⟨hr, rfl, _⟩ := hi
    simp only at hr
    subst hr
    exact wpAny_pure h
mutual
theorem plainly_key : ∀ (k : NK) (v : Value) (n : Nat) (s : Shared), NestedIs s.heap k v → k.depth ≤ n → Plainly P w n s v
  | .none, _, n, s, x, _ => by cases x; exact fun A E Q h => by cases n <;> exact wpAny_pure h
  | .num i, _, n, s, x, _ => by cases x <;> exact fun A E Q h => by cases n <;> exact wpAny_pure h
  | .text y, _, n, s, x, _ => by cases x; exact fun A E Q h => by cases n <;> exact wpAny_pure h
  | .tup ks, _, n, s, x, hn => by
    cases x with
    | tup hg hc hd hk =>
      simp only [NestedKey.depth] at hn
      cases n with
      | zero => omega
      | succ n => exact plainly_tup hg hc hd (plainly_keys ks _ n s hk (by omega))
theorem plainly_keys : ∀ (ks : List NK) (vs : List Value) (n : Nat) (s : Shared), NestedAll s.heap ks vs → NestedKey.depthAll ks ≤ n → ∀ v ∈ vs, Plainly P w n s v
  | [], _, n, s, x, _, v, hv => by cases x; cases hv
  | k :: ks, _, n, s, x, hn, v, hv => by
    cases x with
    | cons x1 x2 =>
      simp only [NestedKey.depthAll] at hn
      rcases List.mem_cons.mp hv with e | hv
      · rw [e]; exact plainly_key k _ n s x1 (by omega)
      · exact plainly_keys ks _ n s x2 (by omega) v hv
end
/-- whether the hash goes by value: it is told, one way or the other -/
def Told (P : Program) (w : World) (n : Nat) (s : Shared) (v : Value) : Prop := ∀ (A : Around) (E : Value → Shared → Prop) (Q : Bool → Shared → Prop), (∀ b, Q b s) → wpAny (model P w) A (hashByValue n v) Q E s
theorem told_tup {n : Nat} {a : Addr} {o : Obj} {vs : Array Value} {m : Nat} (ho : s.heap.get? a = some o) (hc : o.cls = .type "tuple") (hd : o.data = .seq vs m) (hq : ∀ v ∈ vs.toList, Told P w n s v) : Told P w (n + 1) s (.ref a) := fun A E Q h => by
  have hT : s.TypeIs (.ref a) "tuple" := ⟨o, ho, hc⟩
  unfold hashByValue
  refine wpAny_bind (wpAny_specialOf hT F.slot_tuple_hash.lookup ?_)
  show wpAny _ _ (seqItems? (.ref a) >>= _) _ _ s
  refine wpAny_bind (wpAny_seqItems ho hd ?_)
  refine wpAny_bind ?_
  show wpAny _ _ (forIn vs _ _) _ _ s
  rw [← Array.forIn_toList]
  refine wpAny_forIn_list _ (fun rest r s' => s' = s ∧ ∀ v ∈ rest, Told P w n s v) _ (fun v rest r s' hi => ?_) (fun r s' hi => ?_) _ _ ⟨rfl, hq⟩
  · obtain ⟨rfl, hall⟩ := hi
    refine wpAny_bind (hall v List.mem_cons_self _ _ _ fun b => ?_)
    cases b with
    | true =>
      simp only [Bool.not_true, Bool.false_eq_true, if_false]
      exact wpAny_pure ⟨rfl, fun u hu' => hall u (List.mem_cons_of_mem _ hu')⟩
    | false =>
      simp only [Bool.not_false, if_true]
      exact wpAny_pure (wpAny_pure (h false))
  · obtain ⟨r1, r2⟩ := r
    obtain ⟨rfl, _⟩ := hi
    cases r1 with
    | none => exact wpAny_pure (h true)
    | some b => exact wpAny_pure (h b)
mutual
theorem told_key : ∀ (k : NK) (v : Value) (n : Nat) (s : Shared), NestedIs s.heap k v → Told P w n s v
  | .none, _, n, s, x => by cases x; exact fun A E Q h => by cases n <;> exact wpAny_pure (h _)
  | .num i, _, n, s, x => by cases x <;> exact fun A E Q h => by cases n <;> exact wpAny_pure (h _)
  | .text y, _, n, s, x => by cases x; exact fun A E Q h => by cases n <;> exact wpAny_pure (h _)
  | .tup ks, _, n, s, x => by
    cases x with
    | tup hg hc hd hk =>
      cases n with
      | zero => exact fun A E Q h => wpAny_pure (h _)
      | succ n => exact told_tup hg hc hd (told_keys ks _ n s hk)
theorem told_keys : ∀ (ks : List NK) (vs : List Value) (n : Nat) (s : Shared), NestedAll s.heap ks vs → ∀ v ∈ vs, Told P w n s v
  | [], _, n, s, x, v, hv => by cases x; cases hv
  | k :: ks, _, n, s, x, v, hv => by
    cases x with
    | cons x1 x2 =>
      rcases List.mem_cons.mp hv with e | hv
      · rw [e]; exact told_key k _ n s x1
      · exact told_keys ks _ n s x2 v hv
end
/-- a search among keys shows nothing -/
theorem k_unseen {k : NK} {b : Addr} {Q : Bool → Shared → Prop} (hk : KIs s.heap k b) {ys : List Value} (hy : ∀ y ∈ ys, ∃ k' c, y = Value.ref c ∧ KIs s.heap k' c) (h : Q false s) :
    wpAny (model P w) A (searchCouldBeSeen (.ref b) ys) Q E s := by
  unfold searchCouldBeSeen
  refine wpAny_bind ?_
  refine wpAny_forIn_list _ (fun rest r s' => r.1 = none ∧ s' = s ∧ ∀ y ∈ rest, ∃ k' c, y = Value.ref c ∧ KIs s.heap k' c) _ (fun v rest r s' hi => ?_) (fun r s' hi => ?_) _ _ ⟨rfl, rfl, hy⟩
  · obtain ⟨hr, rfl, hall⟩ := hi
    obtain ⟨k', c, rfl, hc⟩ := hall v List.mem_cons_self
    have more := fun u hu' => hall u (List.mem_cons_of_mem _ hu')
    dsimp only
    by_cases hv : (b == c || (carriedByValue (.ref b) && carriedByValue (.ref c))) = true
    · exact wp_if_pos hv (wpAny_pure ⟨rfl, rfl, more⟩)
    · refine wp_if_neg hv (wpAny_bind (k_quiet hk ?_))
      simp only [Bool.not_true, Bool.false_eq_true, if_false]
      refine wpAny_bind (k_quiet hc ?_)
      simp only [Bool.not_true, Bool.false_eq_true, if_false]
      refine wpAny_bind (plainly_key k _ 8 _ hk.1 hk.2 _ _ _ ?_)
      simp only [Bool.false_eq_true, if_false]
      refine wpAny_bind (plainly_key k' _ 8 _ hc.1 hc.2 _ _ _ ?_)
      simp only [Bool.false_eq_true, if_false]
      exact wpAny_pure ⟨rfl, rfl, more⟩
  · obtain ⟨r1, r2⟩ := r
    obtain ⟨hr, rfl, _⟩ := hi
    simp only at hr
    subst hr
    exact wpAny_pure h
end
/-! ### a set of keys -/
abbrev AK := Addr × NK
abbrev hOf (w : World) (p : AK) : Int := p.2.hash w
abbrev rowOf (w : World) (p : AK) : Int × Value := (p.2.hash w, Value.ref p.1)
structure NSet (w : World) (h : Heap) (a : Addr) (L : List AK) (es : Array (Int × Value)) (ep : Nat) (t : SetTable) : Prop where
  ob : ∃ o, h.get? a = some o ∧ o.ExactSet ∧ o.data = .set es ep t
  rows : es.toList = L.map (rowOf w)
  tab : TabOk t (L.map (hOf w))
  nd : (L.map (·.2)).Nodup
  keys : ∀ p ∈ L, KIs h p.2 p.1
  led : w.params.followText "set-order" = true ∨ t.led = true
  room : L.length * 5 < t.mask * 3
  few : L.length < 64
section
variable {P : Program} {w : World} {A : Around} {E : Value → Shared → Prop} {s : Shared} {a : Addr} {L : List AK} {es : Array (Int × Value)} {ep : Nat} {t : SetTable}
theorem rows_size (h : es.toList = L.map (rowOf w)) : es.size = L.length := by
  rw [← Array.length_toList, h, List.length_map]
theorem rows_at (h : es.toList = L.map (rowOf w)) {i : Nat} {p : AK} (hp : L[i]? = some p) : es[i]? = some (rowOf w p) := by
  rw [← Array.getElem?_toList, h, List.getElem?_map, hp]
  rfl
theorem fits_of (hs : t.place.size = es.size) (hd : t.dummies = #[]) (hm : es.size ≤ t.mask) : t.fits es.size = true := by
  unfold SetTable.fits SetTable.fill
  rw [hd, Bool.and_eq_true, beq_iff_eq, decide_eq_true_eq]
  exact ⟨hs, show t.place.size + 0 ≤ t.mask by omega⟩
theorem NSet.size (R : NSet w s.heap a L es ep t) : es.size = L.length := rows_size R.rows
theorem NSet.place (R : NSet w s.heap a L es ep t) : t.place.size = L.length := by rw [R.tab.sz, List.length_map]
theorem NSet.fits (R : NSet w s.heap a L es ep t) : t.fits es.size = true := fits_of (R.place.trans R.size.symm) R.tab.dm (by
  have := R.room
  rw [R.size]
  omega)
/-- the c-th stand of the way of a hash -/
abbrev stand (m : Nat) (h : Int) (c : Nat) : SetTable.Probe := nth m (runAt m (SetTable.bits h % (m + 1)) (SetTable.bits h)) c
theorem stand_add (m : Nat) (h : Int) (c q : Nat) : nth m (stand m h c) q = stand m h (c + q) := (nth_add m c _ q).symm
theorem stand_clean (m : Nat) (h : Int) (c : Nat) : (stand m h c).dummy = none := by
  have key : ∀ (n : Nat) (p : SetTable.Probe), p.dummy = none → (nth m p n).dummy = none := by
    intro n
    induction n with
    | zero => exact fun p h => h
    | succ n ih =>
      refine fun p h => ih (adv m p) ?_
      unfold adv
      split <;> exact h
  exact key c _ rfl
/-- what a probe from the c-th stand finds: a row of that hash, or the first empty slot -/
theorem NSet.probe (R : NSet w s.heap a L es ep t) (hv : Int) {K c : Nat} (hc : c ≤ K) (hKf : K < 10 * SetTable.turns t.mask) (hK : way t.mask hv K ∉ t.place.toList) (hKb : ∀ q, q < K → way t.mask hv q ∈ t.place.toList) :
    (∃ (q i : Nat) (p : AK), c ≤ q ∧ q < K ∧ L[i]? = some p ∧ t.place.toList[i]? = some (way t.mask hv q) ∧ t.probe (fun i => (es[i]?.map (·.1)).getD 0) hv (stand t.mask hv c) = some (.candidate (way t.mask hv q) i (stand t.mask hv (q + 1))) ∧
      ∀ (q' i' : Nat) (p' : AK), c ≤ q' → q' < q → L[i']? = some p' → t.place.toList[i']? = some (way t.mask hv q') → p'.2.hash w ≠ hv) ∨
    (t.probe (fun i => (es[i]?.map (·.1)).getD 0) hv (stand t.mask hv c) = some (.empty (way t.mask hv K) none) ∧
      ∀ (q' i' : Nat) (p' : AK), c ≤ q' → q' < K → L[i']? = some p' → t.place.toList[i']? = some (way t.mask hv q') → p'.2.hash w ≠ hv) := by
  have at_ : ∀ {i : Nat} {p : AK}, L[i]? = some p → (es[i]?.map (·.1)).getD 0 = p.2.hash w := fun hp => by
    rw [rows_at R.rows hp]
    rfl
  have j_ : ∀ q, (nth t.mask (stand t.mask hv c) q).j = way t.mask hv (c + q) := fun q => congrArg SetTable.Probe.j (stand_add t.mask hv c q)
  have jc : ∀ q', c ≤ q' → (nth t.mask (stand t.mask hv c) (q' - c)).j = way t.mask hv q' := fun q' h1 => by rw [j_, show c + (q' - c) = q' by omega]
  rcases go_spec t R.tab.ris R.tab.dm (fun i => (es[i]?.map (·.1)).getD 0) hv (10 * SetTable.turns t.mask) (K - c) _ (stand_clean t.mask hv c) (by omega) (fun q hq => by rw [j_]; exact hKb _ (by omega)) (by rw [jc K hc]; exact hK) with ⟨q, i, hq, hi, hh, hno, hpr⟩ | ⟨hno, hpr⟩
  · left
    have hil : i < L.length := by
      have h1 : i < t.place.toList.length := (List.getElem?_eq_some_iff.mp hi).1
      rw [Array.length_toList, R.place] at h1
      exact h1
    rw [j_] at hi
    refine ⟨c + q, i, L[i], Nat.le_add_right _ _, by omega, List.getElem?_eq_getElem hil, hi, ?_, fun q' i' p' h1 h2 h3 h4 e => ?_⟩
    · rw [j_, stand_add] at hpr
      exact hpr
    · exact hno (q' - c) i' (by omega) (by rw [jc q' h1]; exact h4) ((at_ h3).trans e)
  · right
    refine ⟨?_, fun q' i' p' h1 h2 h3 h4 e => hno (q' - c) i' (by omega) (by rw [jc q' h1]; exact h4) ((at_ h3).trans e)⟩
    rw [jc K hc] at hpr
    exact hpr
theorem same_mem (t : SetTable) : t.sameMemory t.moves t.mask = some true := by
  unfold SetTable.sameMemory
  rw [if_pos (beq_self_eq_true _)]
end
end UW
namespace UW
open PySem PySem.Spec PyProof.Rows L2
section
variable {P : Program} {w : World} {A : Around} {E : Value → Shared → Prop} {s : Shared} {a : Addr} {L : List AK} {es : Array (Int × Value)} {ep : Nat} {t : SetTable}
theorem NSet.slots (R : NSet w s.heap a L es ep t) {i i' : Nat} {j : Nat} (h1 : t.place.toList[i]? = some j) (h2 : t.place.toList[i']? = some j) : i = i' := by
  have e1 := slot_live R.tab.ris h1
  have e2 := slot_live R.tab.ris h2
  rw [e1] at e2
  injection e2
/-- the search, from the c-th stand on; what stands on the way before c is not the key -/
theorem NSet.search (R : NSet w s.heap a L es ep t) {x : Addr} {k : NK} (hx : KIs s.heap k x) (hu : A.units + 8 < cLine) {K : Nat} (hKf : K < 10 * SetTable.turns t.mask)
    (hK : way t.mask (k.hash w) K ∉ t.place.toList) (hKb : ∀ c, c < K → way t.mask (k.hash w) c ∈ t.place.toList) {Q : SetFound → Shared → Prop}
    (hin : k ∈ L.map (·.2) → Q (.there none) s) (hout : k ∉ L.map (·.2) → Q (.free (way t.mask (k.hash w) K) false) s) :
    ∀ (f c : Nat) (st : Option SetTable.Probe), st.getD (t.probeStart (k.hash w)) = stand t.mask (k.hash w) c → c ≤ K → K - c < f →
      (∀ (i : Nat) (p : AK), L[i]? = some p → p.2 = k → ∃ c', c ≤ c' ∧ c' < K ∧ t.place.toList[i]? = some (way t.mask (k.hash w) c')) →
      wpAny (model P w) A (setSearchFrom a (.ref x) (k.hash w) true f st) Q E s := by
  obtain ⟨o, ho, hex, hd⟩ := R.ob
  have hgw : ¬ t.gaveWay = true := by
    unfold SetTable.gaveWay
    rw [mask_odd R.tab.mok]
    decide
  intro f
  induction f with
  | zero => exact fun c st _ _ hf => absurd hf (Nat.not_lt_zero _)
  | succ f ih =>
    intro c st hst hc hf hre
    rw [setSearchFrom_succ]
    refine wpAny_bind (wpAny_setState_of ho hd R.fits ?_)
    dsimp only
    refine wp_if_neg hgw ?_
    try refine wpAny_bind (wpAny_pure ?_)
    rw [hst]
    rcases R.probe (k.hash w) hc hKf hK hKb with ⟨q, i, p, q1, q2, hp, hi, hpr, hno⟩ | ⟨hpr, hno⟩
    · rw [hpr]
      dsimp only
      have hm : p ∈ L := List.mem_of_getElem? hp
      have rest : wpAny (model P w) A (searchRest a (.ref x) (k.hash w) true f es t (way t.mask (k.hash w) q) i (stand t.mask (k.hash w) (q + 1))) Q E s := by
        unfold searchRest
        rw [rows_at R.rows hp]
        dsimp only
        refine wpAny_bind (wpAny_holding (k_eq hu (R.keys p hm) hx ?_))
        refine wpAny_bind (wpAny_setState_of ho hd R.fits ?_)
        dsimp only
        by_cases e : p.2 = k
        · exact wp_if_pos (by simp [e]) (wpAny_pure (hin (List.mem_map.mpr ⟨p, hm, e⟩)))
        · refine wp_if_neg (by simp [e]) ?_
          try refine wpAny_bind (wpAny_pure ?_)
          rw [same_mem]
          dsimp only
          simp only [if_true, slot_live R.tab.ris hi, rows_at R.rows hp]
          refine wpAny_bind (wpAny_isSame_ref_self (wpAny_bind (wpAny_pure ?_)))
          simp only [if_true]
          refine wp_if_neg (by simp [e]) (ih (q + 1) _ rfl (by omega) (by omega) fun i0 p0 h0 hk0 => ?_)
          obtain ⟨c', a1, a2, a3⟩ := hre i0 p0 h0 hk0
          refine ⟨c', ?_, a2, a3⟩
          rcases Nat.lt_trichotomy c' q with z | z | z
          · exact absurd (congrArg (NestedKey.hash w) hk0) (hno c' i0 p0 a1 z h0 a3)
          · rw [z] at a3
            rw [R.slots a3 hi, hp] at h0
            exact absurd ((congrArg Prod.snd (Option.some.inj h0)).trans hk0) e
          · exact z
      by_cases hl : t.led = true
      · refine wp_if_neg (by simp [hl]) ?_
        try refine wpAny_bind (wpAny_pure ?_)
        exact rest
      · refine wp_if_pos (by simp [hl]) (wpAny_bind (k_unseen hx (fun y hy => ?_) ?_))
        · obtain ⟨e, he, ee⟩ := List.mem_map.mp hy
          have he1 : e ∈ es ∧ e.1 = k.hash w := by simpa using he
          have he2 : e ∈ es.toList := by simpa using he1.1
          rw [R.rows] at he2
          obtain ⟨p2, hp2, e2⟩ := List.mem_map.mp he2
          exact ⟨p2.2, p2.1, by rw [← ee, ← e2], R.keys p2 hp2⟩
        · refine wp_if_neg (by decide) ?_
          try refine wpAny_bind (wpAny_pure ?_)
          exact rest
    · rw [hpr]
      dsimp only
      refine wpAny_pure (hout fun hm => ?_)
      obtain ⟨p0, h0, hk0⟩ := List.mem_map.mp hm
      obtain ⟨i0, hi0, e0⟩ := List.getElem_of_mem h0
      have h00 : L[i0]? = some p0 := by rw [List.getElem?_eq_getElem hi0, e0]
      obtain ⟨c', a1, a2, a3⟩ := hre i0 p0 h00 hk0
      exact hno c' i0 p0 a1 a2 h00 a3 (congrArg (NestedKey.hash w) hk0)
theorem NSet.find (R : NSet w s.heap a L es ep t) {x : Addr} {k : NK} (hx : KIs s.heap k x) (hu : A.units + 8 < cLine) {Q : SetFound → Shared → Prop}
    (hin : k ∈ L.map (·.2) → Q (.there none) s)
    (hout : ∀ K, k ∉ L.map (·.2) → way t.mask (k.hash w) K ∉ t.place.toList → (∀ c, c < K → way t.mask (k.hash w) c ∈ t.place.toList) → Q (.free (way t.mask (k.hash w) K) false) s) :
    wpAny (model P w) A (setSearch a (.ref x) (k.hash w) true) Q E s := by
  have hroom := R.room
  obtain ⟨K, hKf, hK, hKb⟩ := R.tab.first (by rw [List.length_map]; omega) (k.hash w)
  have hbig : 10 * SetTable.turns t.mask ≤ 1420 := by
    unfold SetTable.turns
    rcases R.tab.mok with e | e | e <;> omega
  unfold setSearch
  refine R.search hx hu hKf hK hKb hin (fun hn => hout K hn hK hKb) 100000 0 none rfl (Nat.zero_le _) (by omega) fun i p hp e => ?_
  have hi : (L.map (hOf w))[i]? = some (k.hash w) := by
    rw [List.getElem?_map, hp, ← e]
    rfl
  have hil : i < t.place.toList.length := by
    rw [Array.length_toList, R.place]
    exact (List.getElem?_eq_some_iff.mp hp).1
  have hj := List.getElem?_eq_getElem hil
  obtain ⟨c, hc, e⟩ := R.tab.before hK hi hj
  exact ⟨c, Nat.zero_le _, hc, by rw [hj, e]⟩
/-- rows in another order -/
theorem rows_order (hr : es.toList = L.map (rowOf w)) {order : Array Nat} (hp : order.toList.Perm (List.range L.length)) :
    ∃ L2 : List AK, (order.filterMap (es[·]?)).toList = L2.map (rowOf w) ∧ L2.Perm L ∧ L2.map (hOf w) = order.toList.map fun i => (es.map (·.1)).getD i 0 := by
  have key : ∀ l : List Nat, (∀ i ∈ l, i < L.length) → l.filterMap (fun i => es[i]?) = (l.filterMap fun i => L[i]?).map (rowOf w) ∧ (l.filterMap fun i => L[i]?).map (hOf w) = l.map fun i => (es.map (·.1)).getD i 0 := by
    intro l
    induction l with
    | nil => exact fun _ => ⟨rfl, rfl⟩
    | cons i l ih =>
      intro hl
      have hi := hl i List.mem_cons_self
      have hL : L[i]? = some L[i] := List.getElem?_eq_getElem hi
      obtain ⟨e1, e2⟩ := ih fun j hj => hl j (List.mem_cons_of_mem _ hj)
      have eE := rows_at hr hL
      constructor
      · rw [List.filterMap_cons_some eE, List.filterMap_cons_some hL, List.map_cons, e1]
      · rw [List.filterMap_cons_some hL, List.map_cons, List.map_cons, e2]
        have e5 : (es.map (·.1))[i]? = some (hOf w L[i]) := by
          rw [Array.getElem?_map, eE]
          rfl
        simp [Array.getD_eq_getD_getElem?, e5]
  obtain ⟨e1, e2⟩ := key order.toList fun i hi => List.mem_range.mp (hp.mem_iff.mp hi)
  have h2 : ∀ n, n ≤ L.length → (List.range n).filterMap (fun i => L[i]?) = L.take n := by
    intro n
    induction n with
    | zero => exact fun _ => rfl
    | succ n ih =>
      intro hn
      rw [List.range_succ, List.filterMap_append, ih (Nat.le_of_lt hn), List.take_succ, List.getElem?_eq_getElem hn, List.filterMap_cons_some (List.getElem?_eq_getElem hn)]
      rfl
  refine ⟨_, by first | (rw [Array.toList_filterMap]; exact e1) | simpa using e1, ?_, e2⟩
  have h1 := hp.filterMap fun i => L[i]?
  rw [h2 _ (Nat.le_refl _), List.take_length] at h1
  exact h1
/-- the table, laid anew -/
theorem n_relay {o : Obj} (ho : s.heap.get? a = some o) (hex : o.ExactSet) (hd : o.data = .set es ep t) (hr : es.toList = L.map (rowOf w)) (hsz : t.place.size = es.size) (hdm : t.dummies = #[]) (hfl : es.size ≤ t.mask)
    (nd : (L.map (·.2)).Nodup) (hk : ∀ p ∈ L, KIs s.heap p.2 p.1) (ld : w.params.followText "set-order" = true ∨ t.led = true) (few : L.length < 64) {wanted M : Nat}
    (hw : SetTable.sizeAbove wanted - 1 = M) (hM : MaskOk M) (hw2 : SetTable.sizeAbove wanted ≤ 128) (hn : L.length * 5 < M * 3) {Q : Unit → Shared → Prop}
    (hQ : ∀ h' L' es' ep' t', Heap.SameBut a s.heap h' → NSet w h' a L' es' ep' t' → L'.Perm L → Q () { s with heap := h' }) : wpAny (model P w) A (setRelay a wanted) Q E s := by
  have hsl := rows_size hr
  obtain ⟨t', order, e, hp, T, em, el, _, ed⟩ := relaid_ok t (hs := es.map (·.1)) (wanted := wanted) hw hM (by rw [Array.size_map, hsl]; omega)
  rw [Array.size_map, hsl] at hp
  obtain ⟨L2, r1, r2, r3⟩ := rows_order hr hp
  rw [← r3] at T
  have hs2 : (order.filterMap (es[·]?)).size = es.size := by rw [rows_size r1, r2.length_eq, hsl]
  rw [setRelay_eq]
  refine wpAny_bind (wpAny_setState_of ho hd (fits_of hsz hdm hfl) ?_)
  dsimp only
  refine wp_if_neg (by rw [sizeLine_eq]; omega) ?_
  try refine wpAny_bind (wpAny_pure ?_)
  rw [e]
  dsimp only
  refine wpAny_bind ?_
  refine wp_if_neg (by rw [hs2]; simp) ?_
  try refine wpAny_bind (wpAny_pure ?_)
  refine wpAny_pure ?_
  dsimp only
  refine wpAny_storeSet_of ho hd ?_ (by rw [hs2, hsl, sizeLine_eq]; omega)
  have sb : Heap.SameBut a s.heap (s.heap.update a (Obj.putSet (order.filterMap (es[·]?)) t')) := Heap.SameBut.update ..
  refine hQ _ L2 (order.filterMap (es[·]?)) (ep + 1) t' sb ⟨⟨_, store_at ho hd, ⟨hex.1, hex.2.1, hex.2.2⟩, rfl⟩, r1, T, (r2.map (·.2)).nodup_iff.mpr nd, fun p hpm => (hk p (r2.mem_iff.mp hpm)).but ho hd sb, by rw [el]; exact ld, ?_, by rw [r2.length_eq]; exact few⟩ r2
  rw [r2.length_eq, em]
  exact hn
theorem tab_plain {t : SetTable} {hs : List Int} (T : TabOk t hs) (b : Bool) : TabOk { t with plain := b } hs := ⟨T.ris, T.dm, T.sz, T.mok, T.bd, T.reach⟩
/-- one key more -/
theorem NSet.add (R : NSet w s.heap a L es ep t) {x : Addr} {k : NK} (hx : KIs s.heap k x) (hu : A.units + 8 < cLine) (hfew : L.length + 1 < 64) {Q : Bool → Shared → Prop}
    (hQ : ∀ b h' L' es' ep' t', Heap.SameBut a s.heap h' → NSet w h' a L' es' ep' t' → (k ∈ L.map (·.2) → L' = L) → (k ∉ L.map (·.2) → L'.Perm ((x, k) :: L)) → Q b { s with heap := h' }) :
    wpAny (model P w) A (setAddHashed a (.ref x) (k.hash w)) Q E s := by
  obtain ⟨o, ho, hex, hd⟩ := R.ob
  have hsl := R.size
  have hroom := R.room
  unfold setAddHashed
  refine wpAny_holding ?_
  rw [show (100000 : Nat) = 99999 + 1 from rfl, setAddHashedIn_succ]
  refine wpAny_bind (wpAny_setState_of ho hd R.fits ?_)
  dsimp only
  refine wp_if_neg (by simp [byScan, Value.scannable]) ?_
  try refine wpAny_bind (wpAny_pure ?_)
  refine wpAny_bind (R.find hx hu (fun hm => ?_) fun K hm hK hb => ?_)
  · dsimp only
    exact wpAny_pure (hQ false s.heap L es ep t (Heap.SameBut.refl a s.heap) R (fun _ => rfl) fun z => absurd hm z)
  · dsimp only
    refine wpAny_bind (wpAny_setState_of ho hd R.fits ?_)
    dsimp only
    obtain ⟨q1, q2, q3, q4, q5, q6, q7, q8, q9⟩ := R.tab.put hK hb
    generalize hpt : t.put (way t.mask (k.hash w) K) = pt at q1 q3 q4 q5 q6 q7 q8 q9 ⊢
    obtain ⟨t1, p⟩ := pt
    dsimp only at q1 q3 q4 q5 q6 q7 q8 q9 ⊢
    have hin : (SetTable.insertAt es p (rowOf w (x, k))).toList = (L.take p ++ (x, k) :: L.drop p).map (rowOf w) := by
      rw [SetTable.toList_insertAt, R.rows, List.map_append, List.map_cons, List.map_take, List.map_drop]
    rw [← q1] at q2 q3
    have pm := put_perm L p (x, k)
    have hhs : (L.take p ++ (x, k) :: L.drop p).map (hOf w) = (L.map (hOf w)).take p ++ k.hash w :: (L.map (hOf w)).drop p := by
      rw [List.map_append, List.map_cons, List.map_take, List.map_drop]
    rw [← hhs] at q3
    have nd1 : ((L.take p ++ (x, k) :: L.drop p).map (·.2)).Nodup := by
      refine (pm.map (·.2)).nodup_iff.mpr ?_
      rw [List.map_cons]
      exact List.nodup_cons.mpr ⟨hm, R.nd⟩
    have hlen : (L.take p ++ (x, k) :: L.drop p).length = L.length + 1 := pm.length_eq
    have ld1 : w.params.followText "set-order" = true ∨ t1.led = true := by rw [q5]; exact R.led
    rw [List.length_map] at q9
    generalize L.take p ++ (x, k) :: L.drop p = L1 at pm hlen q3 nd1 hin
    -- whether the table is plain says nothing here
    have step : ∀ t2 : SetTable, TabOk t2 (L1.map (hOf w)) → t2.mask = t.mask → (w.params.followText "set-order" = true ∨ t2.led = true) → t2.fill = L.length + 1 →
        wpAny (model P w) A (do
          storeSet a (SetTable.insertAt es p (k.hash w, Value.ref x)) t2
          if (!false && t2.tooFull) = true then setRelay a (SetTable.grown (es.size + 1))
          return true) Q E s := by
      intro t2 T2 m2 l2 f2
      have hes := rows_size hin
      rw [hlen] at hes
      change (SetTable.insertAt es p (k.hash w, Value.ref x)).toList = _ at hin
      change (SetTable.insertAt es p (k.hash w, Value.ref x)).size = _ at hes
      generalize SetTable.insertAt es p (k.hash w, Value.ref x) = es1 at hin hes
      refine wpAny_bind (wpAny_storeSet_of ho hd ?_ (by rw [hes, sizeLine_eq]; omega))
      have sb : Heap.SameBut a s.heap (s.heap.update a (Obj.putSet es1 t2)) := Heap.SameBut.update ..
      have ho1 := store_at (es' := es1) (t' := t2) ho hd
      generalize s.heap.update a (Obj.putSet es1 t2) = h1 at sb ho1 ⊢
      have k1 : ∀ p ∈ L1, KIs h1 p.2 p.1 := fun p hp => by
        rcases List.mem_cons.mp (pm.mem_iff.mp hp) with e | hp
        · rw [e]; exact hx.but ho hd sb
        · exact (R.keys p hp).but ho hd sb
      by_cases hf : t2.tooFull = true
      · first
          | (refine wpAny_bind ?_; refine wp_if_pos (by simp [hf]) ?_)
          | (refine wp_if_pos (by simp [hf]) ?_; refine wpAny_bind ?_)
        have hfull : (L.length + 1) * 5 ≥ t.mask * 3 := by
          have h := hf
          unfold SetTable.tooFull at h
          rw [decide_eq_true_eq, f2, m2] at h
          exact h
        rw [hsl]
        have hsz1 : t2.place.size = es1.size := by rw [T2.sz, List.length_map, hlen, hes]
        have two : (t.mask = 7 ∧ L.length = 4) ∨ (t.mask = 31 ∧ L.length = 18) := by
          rcases R.tab.mok with e | e | e
          · exact .inl ⟨e, by omega⟩
          · exact .inr ⟨e, by omega⟩
          · omega
        have go : ∀ M, SetTable.sizeAbove (SetTable.grown (L.length + 1)) - 1 = M → MaskOk M → SetTable.sizeAbove (SetTable.grown (L.length + 1)) ≤ 128 → (L.length + 1) * 5 < M * 3 →
            wpAny (model P w) A (setRelay a (SetTable.grown (L.length + 1))) (fun _ s' => wpAny (model P w) A (pure true) Q E s') E { s with heap := h1 } := fun M g1 g2 g3 g4 => by
          refine n_relay (s := { s with heap := h1 }) ho1 ⟨hex.1, hex.2.1, hex.2.2⟩ rfl hin hsz1 T2.dm (by rw [hes, m2]; rcases two with ⟨e, e2⟩ | ⟨e, e2⟩ <;> omega) nd1 k1 l2 (by rw [hlen]; exact hfew) g1 g2 g3 (by rw [hlen]; exact g4) ?_
          intro h2 L2 es2 ep2 t2 sb2 R2 pm2
          exact wpAny_pure (hQ true h2 L2 es2 ep2 t2 (sb.trans sb2) R2 (fun z => absurd z hm) fun _ => pm2.trans pm)
        rcases two with ⟨_, e2⟩ | ⟨_, e2⟩
        · exact go 31 (by rw [e2, size_20]) (.inr (.inl rfl)) (by rw [e2, size_20]; decide) (by omega)
        · exact go 127 (by rw [e2, size_76]) (.inr (.inr rfl)) (by rw [e2, size_76]; decide) (by omega)
      · first
          | refine wp_if_neg (by simp [hf]) ?_
          | (refine wpAny_bind ?_; refine wp_if_neg (by simp [hf]) ?_; refine wpAny_pure ?_)
        refine wpAny_pure (hQ true h1 L1 es1 (ep + 1) t2 sb ⟨⟨_, ho1, ⟨hex.1, hex.2.1, hex.2.2⟩, rfl⟩, hin, T2, nd1, k1, l2, ?_, by rw [hlen]; exact hfew⟩ (fun z => absurd z hm) fun _ => pm)
        have h := hf
        unfold SetTable.tooFull at h
        rw [decide_eq_true_eq, f2, m2] at h
        rw [hlen, m2]
        omega
    have fin : ∀ b : Bool, wpAny (model P w) A (do
          storeSet a (SetTable.insertAt es p (k.hash w, Value.ref x)) (if b = true then t1 else { t1 with plain := false })
          if (!false && (if b = true then t1 else { t1 with plain := false }).tooFull) = true then setRelay a (SetTable.grown (es.size + 1))
          return true) Q E s := fun b => by
      cases b with
      | true => exact step t1 q3 q4 ld1 q9
      | false => exact step { t1 with plain := false } (tab_plain q3 false) q4 ld1 q9
    by_cases hp : t1.plain = true
    · first
        | (refine wpAny_bind ?_; refine wp_if_pos hp ?_; exact told_key k _ 8 _ hx.1 _ _ _ fin)
        | exact wp_if_pos hp (wpAny_bind (told_key k _ 8 _ hx.1 _ _ _ fin))
    · first
        | (refine wpAny_bind ?_; refine wp_if_neg hp ?_; exact wpAny_pure (fin true))
        | exact wp_if_neg hp (wpAny_bind (wpAny_pure (fin true)))
        | exact wp_if_neg hp (fin true)
end
end UW
namespace UW
open PySem PySem.Spec PyProof.Rows L2
/-- the set has got the first i of the keys -/
structure KGot (ks : List AK) (i : Nat) (L : List AK) : Prop where
  sub : ∀ p ∈ L, p ∈ ks.take i
  all : ∀ p ∈ ks.take i, p.2 ∈ L.map (·.2)
  len : L.length ≤ i
theorem KGot.zero (ks : List AK) : KGot ks 0 [] := ⟨fun p h => (by cases h), fun p h => (by simp at h), Nat.le_refl 0⟩
theorem KGot.same {ks L : List AK} {i : Nat} {x : AK} (g : KGot ks i L) (h : ks[i]? = some x) (hm : x.2 ∈ L.map (·.2)) : KGot ks (i + 1) L := by
  refine ⟨fun p hp => ?_, fun p hp => ?_, Nat.le_succ_of_le g.len⟩
  · rw [take_next h]; exact List.mem_append_left _ (g.sub p hp)
  · rw [take_next h] at hp
    rcases List.mem_append.mp hp with z | z
    · exact g.all p z
    · cases List.mem_singleton.mp z; exact hm
theorem KGot.more {ks L L' : List AK} {i : Nat} {x : AK} (g : KGot ks i L) (h : ks[i]? = some x) (pm : L'.Perm (x :: L)) : KGot ks (i + 1) L' := by
  refine ⟨fun p hp => ?_, fun p hp => ?_, ?_⟩
  · rw [take_next h]
    rcases List.mem_cons.mp (pm.mem_iff.mp hp) with e | z
    · cases e; exact List.mem_append_right _ (List.mem_singleton.mpr rfl)
    · exact List.mem_append_left _ (g.sub p z)
  · rw [(pm.map (·.2)).mem_iff, List.map_cons]
    rw [take_next h] at hp
    rcases List.mem_append.mp hp with z | z
    · exact List.mem_cons_of_mem _ (g.all p z)
    · cases List.mem_singleton.mp z; exact List.mem_cons_self
  · have e := pm.length_eq
    rw [List.length_cons] at e
    have := g.len
    omega
abbrev newSet (w : World) : Obj := { cls := .type "set", dict := none, data := .set #[] 0 (.fresh 0 0 (!w.params.followText "set-order")) }
section
variable {P : Program} {w : World} {A : Around} {E : Value → Shared → Prop} {s : Shared}
theorem NSet.keep {h h' : Heap} {a : Addr} {L : List AK} {es : Array (Int × Value)} {ep : Nat} {t : SetTable} (R : NSet w h a L es ep t) (ha : ∀ o, h.get? a = some o → h'.get? a = some o) (ht : ∀ p ∈ L, KIs h' p.2 p.1) : NSet w h' a L es ep t := by
  obtain ⟨o, ho, r⟩ := R.ob
  exact ⟨⟨o, ha o ho, r⟩, R.rows, R.tab, R.nd, ht, R.led, R.room, R.few⟩
theorem nset_new {h : Heap} {a : Addr} (ho : h.get? a = some (newSet w)) : NSet w h a [] #[] 0 (.fresh 0 0 (!w.params.followText "set-order")) where
  ob := ⟨_, ho, ⟨rfl, rfl, rfl⟩, rfl⟩
  rows := rfl
  tab := ⟨List.Pairwise.nil, rfl, rfl, .inl rfl, fun x hx => (by cases hx), fun i h j hi => (by simp at hi)⟩
  nd := List.nodup_nil
  keys := fun p hp => (by cases hp)
  led := by
    show _ ∨ (!w.params.followText "set-order") = true
    cases w.params.followText "set-order" <;> first | exact .inl rfl | exact .inr rfl
  room := show 0 * 5 < 7 * 3 by decide
  few := show 0 < 64 by decide
/-- the loop that puts the items in -/
theorem keys_in {I : Addr} {fp wr : List Addr} {G : Array GenState → Array GenState → Prop} {n : Nat} {Pv : Nat → Value → Prop} {St : Nat → Shared → Prop} {R : Result → Shared → Prop}
    (W : WalksS P w A.in1 I fp wr G n Pv St) (S : Addr) (hSf : S ∉ fp) (ks : List AK) (hn : n = ks.length) (hfew : ks.length < 64) (hval : ∀ i v, Pv i v → ∃ p, ks[i]? = some p ∧ v = .ref p.1)
    (h0 : Heap) (hk : ∀ p ∈ ks, KIs h0 p.2 p.1) (hS0 : h0.get? S = none) (hw0 : ∀ b ∈ wr, h0.get? b = none) (hu : A.in1.units + 8 < cLine) :
    ∀ (k i : Nat) (s : Shared), n - i = k → i ≤ n → St i s → (∀ b o, h0.get? b = some o → s.heap.get? b = some o) → (∃ L es ep t, NSet w s.heap S L es ep t ∧ KGot ks i L) →
      (∀ s' L es ep t, Moved (S :: wr) G s s' → NSet w s'.heap S L es ep t → KGot ks n L → (∀ b o, h0.get? b = some o → s'.heap.get? b = some o) → R (.ok (.ret .none)) s') →
      codeAny (model P w) A (.builtin "set.update.loop" ⟨[.ref S, .ref I], []⟩) R s := by
  have hSw : S ∉ wr := fun h => hSf (W.sub _ h)
  have hsub : ∀ b ∈ wr, b ∈ S :: wr := fun b hb => List.mem_cons_of_mem _ hb
  have keepM : ∀ {s s' : Shared}, Moved wr G s s' → (∀ b o, h0.get? b = some o → s.heap.get? b = some o) → ∀ b o, h0.get? b = some o → s'.heap.get? b = some o :=
    fun hm hkp b o e => hm.heap b o (fun hb => nomatch (hw0 b hb).symm.trans e) (hkp b o e)
  have kept : ∀ {h' : Heap} {p : AK}, (∀ b o, h0.get? b = some o → h'.get? b = some o) → p ∈ ks → KIs h' p.2 p.1 := fun hkp hp => (hk _ hp).keep hkp
  intro k
  induction k with
  | zero =>
    intro i s hk' hi hst hkp ⟨L, es, ep, t, hS, g⟩ hR
    obtain rfl : i = n := by omega
    refine codeAny_builtin F.entry_set_update_loop ?_; rw [Around.under_plainId F.plain_set_update_loop _]
    change wpAny _ A.in1 (pyNext (.ref I) >>= _) _ _ s
    refine wpAny_bind (W.done s _ _ hst fun s' hm => ?_)
    have hkp' := keepM hm hkp
    exact wpAny_pure (hR s' L es ep t (hm.mono hsub) (hS.keep (fun o e => hm.heap S o hSw e) fun p hp => kept hkp' (List.mem_of_mem_take (g.sub p hp))) g hkp')
  | succ k ih =>
    intro i s hk' hi hst hkp ⟨L, es, ep, t, hS, g⟩ hR
    have hlt : i < n := by omega
    refine codeAny_builtin F.entry_set_update_loop ?_; rw [Around.under_plainId F.plain_set_update_loop _]
    change wpAny _ A.in1 (pyNext (.ref I) >>= _) _ _ s
    refine wpAny_bind (W.item i s _ _ hlt hst fun v s' hP hst' hm => ?_)
    obtain ⟨p, hp, rfl⟩ := hval i v hP
    have hkp' := keepM hm hkp
    have hS' : NSet w s'.heap S L es ep t := hS.keep (fun o e => hm.heap S o hSw e) fun q hq => kept hkp' (List.mem_of_mem_take (g.sub q hq))
    have hx : KIs s'.heap p.2 p.1 := kept hkp' (List.mem_of_getElem? hp)
    change wpAny _ A.in1 (holding [Value.ref p.1] (setAdd S (.ref p.1)) >>= _) _ _ s'
    refine wpAny_bind (wpAny_holding ?_)
    unfold setAdd
    refine wpAny_holding (wpAny_bind (k_hash hu hx ?_))
    refine NSet.add (s := { s' with toks := s'.toks + p.2.draws }) hS' hx hu (by have := g.len; omega) fun b h' L' es' ep' t' hsb hS2 c1 c2 => ?_
    have g' : KGot ks (i + 1) L' := by
      by_cases c : p.2 ∈ L.map (·.2)
      · rw [c1 c]; exact g.same hp c
      · exact g.more hp (c2 c)
    have hkp2 : ∀ b o, h0.get? b = some o → h'.get? b = some o := fun b o e => (hsb.2 b (fun z => by rw [z, hS0] at e; cases e)).trans (hkp' b o e)
    refine wpAny_pure ⟨plainId_quiet F.plain_set_update_loop _, ih (i + 1) _ (by omega) hlt (W.frame _ s' _ _ hst' (Nat.le_add_right _ _) fun b hb o e => ?_) hkp2 ⟨L', es', ep', t', hS2, g'⟩ fun s'' L2 es2 ep2 t2 hm'' hS'' g'' hkp'' => ?_⟩
    · exact (hsb.2 b fun h : b = S => hSf (h ▸ hb)).trans e
    · refine hR s'' L2 es2 ep2 t2 (Moved.trans W.gtrans ((hm.mono hsub).then_heap (Nat.le_add_right _ _) fun b o hb e => ?_) hm'') hS'' g'' hkp''
      exact (hsb.2 b fun h : b = S => hb (by rw [h]; exact List.mem_cons_self)).trans e
abbrev itOflist (l : Addr) : Obj := { cls := .type "list_iterator", data := .fields #[.ref l, .int 0 0] }
set_option maxHeartbeats 3200000 in
/-- set(x) of a list: what the loop does is handed in -/
theorem set_call_list {l : Addr} {items : Array Value} {Q : Value → Shared → Prop} {Ps : Heap → Prop} {G : Array GenState → Array GenState → Prop} (hG : ∀ a b, G a b → b = a) (hl : s.heap.IsList l items)
    (loop : ∀ R : Result → Shared → Prop, (∀ s', Moved [s.heap.objs.size, s.heap.objs.size + 1] G { s with heap := (s.heap.push (newSet w)).push (itOflist l) } s' → Ps s'.heap → (∀ b o, s.heap.get? b = some o → s'.heap.get? b = some o) → R (.ok (.ret .none)) s') →
      codeAny (model P w) A.in1.in1 (.builtin "set.update.loop" ⟨[.ref s.heap.objs.size, .ref (s.heap.objs.size + 1)], []⟩) R { s with heap := (s.heap.push (newSet w)).push (itOflist l) })
    (h : ∀ (h' : Heap) (tk : Nat), Ps h' → (∀ b o, s.heap.get? b = some o → h'.get? b = some o) → Q (.ref s.heap.objs.size) { s with heap := h', toks := tk }) :
    wpAny (model P w) A (call (.type "set") [.ref l]) Q E s := by
  obtain ⟨c, tl, hmro⟩ := F.called_set.mro
  have hmade := F.called_set.made; have hsub := F.called_set.sub
  refine wpAny_call (codeAny_of_tree ?_); change wpAny _ _ (callAny (.type "set") _) _ _ _
  refine wpAny_pure ⟨Code.quiet_builtin _ (by decide +kernel), codeAny_builtin F.entry_type_call ?_⟩; rw [Around.under_plain (weight_type_call_type "set" [.ref l] []) rfl]
  have h1 := F.called_set.notType; have h2 := F.called_set.canCreate; have hct := F.typeCall_set_1 (.ref l)
  repeat (any_goals (first | wp_step | assumption))
  refine codeAny_mono (code_set_led1 (.ref l) (E := E) (Q₁ := fun obj s₁ => obj = .ref s.heap.objs.size ∧ s₁ = { s with heap := s.heap.push (newSet w) }) ⟨rfl, rfl⟩) fun r s₁ hr => ?_
  cases r with
  | error e => exact hr
  | ok fl =>
    cases fl with
    | ret obj =>
      obtain ⟨rfl, rfl⟩ := hr
      have hS : (s.heap.push (newSet w)).get? s.heap.objs.size = some (newSet w) := Heap.get?_push_size _ rfl
      have hT : Shared.TypeIs { s with heap := s.heap.push (newSet w) } (.ref s.heap.objs.size) "set" := ⟨_, hS, rfl⟩
      have hli := F.called_set.init.lookup; have hbi := F.called_set.init.bind (.ref s.heap.objs.size)
      repeat (any_goals (first | wp_step | assumption))
      refine codeAny_mono (codeAny_call_builtin (R := wants (fun r s₂ => r = .none ∧ ∃ h' tk, s₂ = { s with heap := h', toks := tk } ∧ Ps h' ∧
          (∀ b o, s.heap.get? b = some o → h'.get? b = some o)) E) F.called_set.init.plain F.entry_set_init (check_set_init_1 hT ?_)) fun r₂ s₂ hr₂ => ?_
      · obtain ⟨ol, hol, hcl, nl, hdl⟩ := hl
        obtain ⟨ocls, odict, odata, oslots⟩ := ol
        simp only at hcl hdl
        subst hcl; subst hdl
        have hol' : (s.heap.push (newSet w)).get? l = some { cls := .type "list", dict := odict, data := .seq items nl, slots := oslots } := Heap.get?_push_of_some _ hol
        have hsls := F.sub_list_set; have hslf := F.sub_list_frozenset
        have hne : (Value.type "list" == Value.type "dict") = false := rfl
        have hl1 : (s.heap.push (newSet w)).IsList l items := ⟨_, hol', rfl, nl, rfl⟩
        unfold Builtin.«set.__init__» noKeywords Builtin.Frozenset.updateFrom; generalize hPI : pyIter = PI
        wp_walk
        subst hPI
        refine wpAny_pyIter_list hl1 (wpAny_bind (wpAny_runValue ?_))
        have hz1 : (s.heap.push (newSet w)).objs.size = s.heap.objs.size + 1 := Heap.size_push ..
        rw [hz1]
        refine loop _ fun s' hm hP hkp => ?_
        obtain ⟨h', g2, d', tk', os'⟩ := s'
        obtain rfl : g2 = s.gens := hG _ _ hm.gens
        obtain rfl : d' = s.drawn := hm.drawn
        obtain rfl : os' = s.os := hm.os
        exact wpAny_pure (wpAny_pure ⟨rfl, h', tk', rfl, hP, hkp⟩)
      · cases r₂ with
        | error e => exact hr₂
        | ok fl₂ =>
          cases fl₂ with
          | ret r =>
            obtain ⟨rfl, h', tk, rfl, hP, hk'⟩ := hr₂
            repeat (any_goals (first | wp_step | assumption))
            exact h _ _ hP hk'
          | _ => exact hr₂.elim
    | _ => exact hr.elim
/-- set(x) of a list of keys -/
theorem set_of_list {l : Addr} {items : Array Value} (ks : List AK) {Q : Value → Shared → Prop} (hh : A.handled = none) (hl : s.heap.IsList l items) (hit : items.toList = ks.map fun p => Value.ref p.1)
    (hk : ∀ p ∈ ks, KIs s.heap p.2 p.1) (hfew : ks.length < 64) (hu : A.units + 12 < cLine)
    (h : ∀ (h' : Heap) (tk : Nat) L es ep t, NSet w h' s.heap.objs.size L es ep t → KGot ks ks.length L → (∀ b o, s.heap.get? b = some o → h'.get? b = some o) → Q (.ref s.heap.objs.size) { s with heap := h', toks := tk }) :
    wpAny (model P w) A (call (.type "set") [.ref l]) Q E s := by
  have hisz : items.size = ks.length := by
    rw [← Array.length_toList, hit, List.length_map]
  have hlS : l < s.heap.objs.size := by
    obtain ⟨ol, hol, _⟩ := hl
    exact Heap.lt_size hol
  have hl1 : (s.heap.push (newSet w)).IsList l items := hl.push _
  have hval : ∀ (i : Nat) (v : Value), items[i]? = some v → ∃ p, ks[i]? = some p ∧ v = .ref p.1 := fun i v hv => by
    have q : items.toList[i]? = some v := by rw [Array.getElem?_toList]; exact hv
    rw [hit, List.getElem?_map, Option.map_eq_some_iff] at q
    obtain ⟨p, e1, e2⟩ := q
    exact ⟨p, e1, e2.symm⟩
  have none_of : ∀ b, s.heap.objs.size ≤ b → s.heap.get? b = none := fun b hb => by
    cases q : s.heap.get? b with
    | none => rfl
    | some o => exact absurd (Nat.lt_of_lt_of_le (Heap.lt_size q) hb) (Nat.lt_irrefl _)
  have hh3 : A.in1.in1.in1.handled = none := by simp [hh]
  have hz1 : (s.heap.push (newSet w)).objs.size = s.heap.objs.size + 1 := Heap.size_push ..
  have hI : ((s.heap.push (newSet w)).push (itOflist l)).get? (s.heap.objs.size + 1) = some (itOflist l) := by
    rw [← hz1]; exact Heap.get?_push_size _ rfl
  refine set_call_list (Ps := fun h' => ∃ L es ep t, NSet w h' s.heap.objs.size L es ep t ∧ KGot ks ks.length L) (fun _ _ e => e) hl (fun R hR => ?_) fun h' tk ⟨L, es, ep, t, r1, r2⟩ hk => h h' tk L es ep t r1 r2 hk
  refine keys_in ((Walks.list hh3 (s.heap.objs.size + 1) l (Nat.ne_of_lt (Nat.lt_succ_of_lt hlS)) items).toS) s.heap.objs.size (by
      simp only [List.mem_cons, List.not_mem_nil, or_false, not_or]
      exact ⟨Nat.ne_of_lt (Nat.lt_succ_self _), Nat.ne_of_gt hlS⟩)
    ks hisz hfew hval s.heap hk (none_of _ (Nat.le_refl _)) (fun b hb => none_of b (by
      rw [List.mem_singleton.mp hb]; exact Nat.le_succ _)) (show A.units + 1 + 1 + 1 + 8 < cLine by omega) (items.size - 0) 0 _ rfl (Nat.zero_le _)
    ⟨⟨_, hI, rfl, rfl⟩, hl1.push _⟩ (fun b o e => Heap.get?_push_of_some _ (Heap.get?_push_of_some _ e)) ⟨[], #[], 0, _, nset_new (Heap.get?_push_of_some _ (Heap.get?_push_size _ rfl)), .zero ks⟩ fun s' L es ep t hm hS g hkp => ?_
  rw [hisz] at g
  exact hR s' hm ⟨L, es, ep, t, hS, g⟩ hkp
/-- set(x) of a list of whole numbers -/
theorem set_ints_list {l : Addr} {items : Array Value} (ns : List Int) {Q : Value → Shared → Prop} (hh : A.handled = none) (hl : s.heap.IsList l items) (hit : IntsAre items.toList ns) (hb : ns.length + 1 < scanBound)
    (h : ∀ (h' : Heap) (tk c : Nat), SetR w h' s.heap.objs.size (fun j => decide (j ∈ ns)) c → c ≤ ns.length → (∀ b o, s.heap.get? b = some o → h'.get? b = some o) → Q (.ref s.heap.objs.size) { s with heap := h', toks := tk }) :
    wpAny (model P w) A (call (.type "set") [.ref l]) Q E s := by
  have hisz : items.size = ns.length := by
    rw [← Array.length_toList]; exact IntsAre.length hit
  have hlS : l < s.heap.objs.size := by
    obtain ⟨ol, hol, _⟩ := hl
    exact Heap.lt_size hol
  have hl1 : (s.heap.push (newSet w)).IsList l items := hl.push _
  have hval : ∀ (i : Nat) (v : Value), items[i]? = some v → ∃ k t, ns[i]? = some k ∧ v = .int k t := fun i v hv => by
    have hi : i < ns.length := hisz ▸ (Array.getElem?_eq_some_iff.mp hv).1
    obtain ⟨t, e⟩ := PyProof.Rows.IntsAre.int_at hit i v (by rw [Array.getElem?_toList, hv])
    exact ⟨ns[i], t, List.getElem?_eq_getElem hi, by rw [e, List.getD_eq_getElem?_getD, List.getElem?_eq_getElem hi]; rfl⟩
  have hh3 : A.in1.in1.in1.handled = none := by simp [hh]
  have hz1 : (s.heap.push (newSet w)).objs.size = s.heap.objs.size + 1 := Heap.size_push ..
  have hI : ((s.heap.push (newSet w)).push (itOflist l)).get? (s.heap.objs.size + 1) = some (itOflist l) := by
    rw [← hz1]; exact Heap.get?_push_size _ rfl
  refine set_call_list (Ps := fun h' => ∃ c, SetR w h' s.heap.objs.size (fun j => decide (j ∈ ns)) c ∧ c ≤ ns.length) (fun _ _ e => e) hl (fun R hR => ?_) fun h' tk ⟨c, r1, r2⟩ hk => h h' tk c r1 r2 hk
  refine set_update_ints ((Walks.list hh3 (s.heap.objs.size + 1) l (Nat.ne_of_lt (Nat.lt_succ_of_lt hlS)) items).toS) s.heap.objs.size (by
      simp only [List.mem_cons, List.not_mem_nil, or_false, not_or]
      exact ⟨Nat.ne_of_lt (Nat.lt_succ_self _), Nat.ne_of_gt hlS⟩)
    ns hisz hb hval (items.size - 0) 0 _ rfl (Nat.zero_le _) ⟨⟨_, hI, rfl, rfl⟩, hl1.push _⟩ ⟨0, Nat.le_refl 0, setR_new_at (Heap.get?_push_of_some _ (Heap.get?_push_size _ rfl))⟩ fun s' c hm hc hS => ?_
  rw [hisz] at hc
  refine hR s' hm ⟨c, hS, hc⟩ fun b o e => ?_
  have hb0 : b < s.heap.objs.size := Heap.lt_size e
  refine hm.heap b o ?_ (Heap.get?_push_of_some _ (Heap.get?_push_of_some _ e))
  simp only [List.mem_cons, List.not_mem_nil, or_false, not_or]
  exact ⟨Nat.ne_of_lt hb0, Nat.ne_of_lt (Nat.lt_succ_of_lt hb0)⟩
abbrev itOftuple (l : Addr) : Obj := { cls := .type "tuple_iterator", data := .fields #[.ref l, .int 0 0] }
set_option maxHeartbeats 3200000 in
/-- set(x) of a tuple: what the loop does is handed in -/
theorem set_call_tuple {l : Addr} {items : Array Value} {Q : Value → Shared → Prop} {Ps : Heap → Prop} {G : Array GenState → Array GenState → Prop} (hG : ∀ a b, G a b → b = a) (hl : s.heap.IsTuple l items)
    (loop : ∀ R : Result → Shared → Prop, (∀ s', Moved [s.heap.objs.size, s.heap.objs.size + 1] G { s with heap := (s.heap.push (newSet w)).push (itOftuple l) } s' → Ps s'.heap → (∀ b o, s.heap.get? b = some o → s'.heap.get? b = some o) → R (.ok (.ret .none)) s') →
      codeAny (model P w) A.in1.in1 (.builtin "set.update.loop" ⟨[.ref s.heap.objs.size, .ref (s.heap.objs.size + 1)], []⟩) R { s with heap := (s.heap.push (newSet w)).push (itOftuple l) })
    (h : ∀ (h' : Heap) (tk : Nat), Ps h' → (∀ b o, s.heap.get? b = some o → h'.get? b = some o) → Q (.ref s.heap.objs.size) { s with heap := h', toks := tk }) :
    wpAny (model P w) A (call (.type "set") [.ref l]) Q E s := by
  obtain ⟨c, tl, hmro⟩ := F.called_set.mro
  have hmade := F.called_set.made; have hsub := F.called_set.sub
  refine wpAny_call (codeAny_of_tree ?_); change wpAny _ _ (callAny (.type "set") _) _ _ _
  refine wpAny_pure ⟨Code.quiet_builtin _ (by decide +kernel), codeAny_builtin F.entry_type_call ?_⟩; rw [Around.under_plain (weight_type_call_type "set" [.ref l] []) rfl]
  have h1 := F.called_set.notType; have h2 := F.called_set.canCreate; have hct := F.typeCall_set_1 (.ref l)
  repeat (any_goals (first | wp_step | assumption))
  refine codeAny_mono (code_set_led1 (.ref l) (E := E) (Q₁ := fun obj s₁ => obj = .ref s.heap.objs.size ∧ s₁ = { s with heap := s.heap.push (newSet w) }) ⟨rfl, rfl⟩) fun r s₁ hr => ?_
  cases r with
  | error e => exact hr
  | ok fl =>
    cases fl with
    | ret obj =>
      obtain ⟨rfl, rfl⟩ := hr
      have hS : (s.heap.push (newSet w)).get? s.heap.objs.size = some (newSet w) := Heap.get?_push_size _ rfl
      have hT : Shared.TypeIs { s with heap := s.heap.push (newSet w) } (.ref s.heap.objs.size) "set" := ⟨_, hS, rfl⟩
      have hli := F.called_set.init.lookup; have hbi := F.called_set.init.bind (.ref s.heap.objs.size)
      repeat (any_goals (first | wp_step | assumption))
      refine codeAny_mono (codeAny_call_builtin (R := wants (fun r s₂ => r = .none ∧ ∃ h' tk, s₂ = { s with heap := h', toks := tk } ∧ Ps h' ∧
          (∀ b o, s.heap.get? b = some o → h'.get? b = some o)) E) F.called_set.init.plain F.entry_set_init (check_set_init_1 hT ?_)) fun r₂ s₂ hr₂ => ?_
      · obtain ⟨ol, hol, hcl, nl, hdl⟩ := hl
        obtain ⟨ocls, odict, odata, oslots⟩ := ol
        simp only at hcl hdl
        subst hcl; subst hdl
        have hol' : (s.heap.push (newSet w)).get? l = some { cls := .type "tuple", dict := odict, data := .seq items nl, slots := oslots } := Heap.get?_push_of_some _ hol
        have hsls := F.sub_tuple_set; have hslf := F.sub_tuple_frozenset
        have hne : (Value.type "tuple" == Value.type "dict") = false := rfl
        have hl1 : (s.heap.push (newSet w)).IsTuple l items := ⟨_, hol', rfl, nl, rfl⟩
        unfold Builtin.«set.__init__» noKeywords Builtin.Frozenset.updateFrom; generalize hPI : pyIter = PI
        wp_walk
        subst hPI
        refine wpAny_pyIter_tuple hl1 (wpAny_bind (wpAny_runValue ?_))
        have hz1 : (s.heap.push (newSet w)).objs.size = s.heap.objs.size + 1 := Heap.size_push ..
        rw [hz1]
        refine loop _ fun s' hm hP hkp => ?_
        obtain ⟨h', g2, d', tk', os'⟩ := s'
        obtain rfl : g2 = s.gens := hG _ _ hm.gens
        obtain rfl : d' = s.drawn := hm.drawn
        obtain rfl : os' = s.os := hm.os
        exact wpAny_pure (wpAny_pure ⟨rfl, h', tk', rfl, hP, hkp⟩)
      · cases r₂ with
        | error e => exact hr₂
        | ok fl₂ =>
          cases fl₂ with
          | ret r =>
            obtain ⟨rfl, h', tk, rfl, hP, hk'⟩ := hr₂
            repeat (any_goals (first | wp_step | assumption))
            exact h _ _ hP hk'
          | _ => exact hr₂.elim
    | _ => exact hr.elim
/-- set(x) of a tuple of keys -/
theorem set_of_tuple {l : Addr} {items : Array Value} (ks : List AK) {Q : Value → Shared → Prop} (hh : A.handled = none) (hl : s.heap.IsTuple l items) (hit : items.toList = ks.map fun p => Value.ref p.1)
    (hk : ∀ p ∈ ks, KIs s.heap p.2 p.1) (hfew : ks.length < 64) (hu : A.units + 12 < cLine)
    (h : ∀ (h' : Heap) (tk : Nat) L es ep t, NSet w h' s.heap.objs.size L es ep t → KGot ks ks.length L → (∀ b o, s.heap.get? b = some o → h'.get? b = some o) → Q (.ref s.heap.objs.size) { s with heap := h', toks := tk }) :
    wpAny (model P w) A (call (.type "set") [.ref l]) Q E s := by
  have hisz : items.size = ks.length := by
    rw [← Array.length_toList, hit, List.length_map]
  have hlS : l < s.heap.objs.size := by
    obtain ⟨ol, hol, _⟩ := hl
    exact Heap.lt_size hol
  have hl1 : (s.heap.push (newSet w)).IsTuple l items := hl.push _
  have hval : ∀ (i : Nat) (v : Value), items[i]? = some v → ∃ p, ks[i]? = some p ∧ v = .ref p.1 := fun i v hv => by
    have q : items.toList[i]? = some v := by rw [Array.getElem?_toList]; exact hv
    rw [hit, List.getElem?_map, Option.map_eq_some_iff] at q
    obtain ⟨p, e1, e2⟩ := q
    exact ⟨p, e1, e2.symm⟩
  have none_of : ∀ b, s.heap.objs.size ≤ b → s.heap.get? b = none := fun b hb => by
    cases q : s.heap.get? b with
    | none => rfl
    | some o => exact absurd (Nat.lt_of_lt_of_le (Heap.lt_size q) hb) (Nat.lt_irrefl _)
  have hh3 : A.in1.in1.in1.handled = none := by simp [hh]
  have hz1 : (s.heap.push (newSet w)).objs.size = s.heap.objs.size + 1 := Heap.size_push ..
  have hI : ((s.heap.push (newSet w)).push (itOftuple l)).get? (s.heap.objs.size + 1) = some (itOftuple l) := by
    rw [← hz1]; exact Heap.get?_push_size _ rfl
  refine set_call_tuple (Ps := fun h' => ∃ L es ep t, NSet w h' s.heap.objs.size L es ep t ∧ KGot ks ks.length L) (fun _ _ e => e) hl (fun R hR => ?_) fun h' tk ⟨L, es, ep, t, r1, r2⟩ hk => h h' tk L es ep t r1 r2 hk
  refine keys_in ((Walks.tuple hh3 (s.heap.objs.size + 1) l (Nat.ne_of_lt (Nat.lt_succ_of_lt hlS)) items).toS) s.heap.objs.size (by
      simp only [List.mem_cons, List.not_mem_nil, or_false, not_or]
      exact ⟨Nat.ne_of_lt (Nat.lt_succ_self _), Nat.ne_of_gt hlS⟩)
    ks hisz hfew hval s.heap hk (none_of _ (Nat.le_refl _)) (fun b hb => none_of b (by
      rw [List.mem_singleton.mp hb]; exact Nat.le_succ _)) (show A.units + 1 + 1 + 1 + 8 < cLine by omega) (items.size - 0) 0 _ rfl (Nat.zero_le _)
    ⟨⟨_, hI, rfl, rfl⟩, hl1.push _⟩ (fun b o e => Heap.get?_push_of_some _ (Heap.get?_push_of_some _ e)) ⟨[], #[], 0, _, nset_new (Heap.get?_push_of_some _ (Heap.get?_push_size _ rfl)), .zero ks⟩ fun s' L es ep t hm hS g hkp => ?_
  rw [hisz] at g
  exact hR s' hm ⟨L, es, ep, t, hS, g⟩ hkp
/-- set(x) of a tuple of whole numbers -/
theorem set_ints_tuple {l : Addr} {items : Array Value} (ns : List Int) {Q : Value → Shared → Prop} (hh : A.handled = none) (hl : s.heap.IsTuple l items) (hit : IntsAre items.toList ns) (hb : ns.length + 1 < scanBound)
    (h : ∀ (h' : Heap) (tk c : Nat), SetR w h' s.heap.objs.size (fun j => decide (j ∈ ns)) c → c ≤ ns.length → (∀ b o, s.heap.get? b = some o → h'.get? b = some o) → Q (.ref s.heap.objs.size) { s with heap := h', toks := tk }) :
    wpAny (model P w) A (call (.type "set") [.ref l]) Q E s := by
  have hisz : items.size = ns.length := by
    rw [← Array.length_toList]; exact IntsAre.length hit
  have hlS : l < s.heap.objs.size := by
    obtain ⟨ol, hol, _⟩ := hl
    exact Heap.lt_size hol
  have hl1 : (s.heap.push (newSet w)).IsTuple l items := hl.push _
  have hval : ∀ (i : Nat) (v : Value), items[i]? = some v → ∃ k t, ns[i]? = some k ∧ v = .int k t := fun i v hv => by
    have hi : i < ns.length := hisz ▸ (Array.getElem?_eq_some_iff.mp hv).1
    obtain ⟨t, e⟩ := PyProof.Rows.IntsAre.int_at hit i v (by rw [Array.getElem?_toList, hv])
    exact ⟨ns[i], t, List.getElem?_eq_getElem hi, by rw [e, List.getD_eq_getElem?_getD, List.getElem?_eq_getElem hi]; rfl⟩
  have hh3 : A.in1.in1.in1.handled = none := by simp [hh]
  have hz1 : (s.heap.push (newSet w)).objs.size = s.heap.objs.size + 1 := Heap.size_push ..
  have hI : ((s.heap.push (newSet w)).push (itOftuple l)).get? (s.heap.objs.size + 1) = some (itOftuple l) := by
    rw [← hz1]; exact Heap.get?_push_size _ rfl
  refine set_call_tuple (Ps := fun h' => ∃ c, SetR w h' s.heap.objs.size (fun j => decide (j ∈ ns)) c ∧ c ≤ ns.length) (fun _ _ e => e) hl (fun R hR => ?_) fun h' tk ⟨c, r1, r2⟩ hk => h h' tk c r1 r2 hk
  refine set_update_ints ((Walks.tuple hh3 (s.heap.objs.size + 1) l (Nat.ne_of_lt (Nat.lt_succ_of_lt hlS)) items).toS) s.heap.objs.size (by
      simp only [List.mem_cons, List.not_mem_nil, or_false, not_or]
      exact ⟨Nat.ne_of_lt (Nat.lt_succ_self _), Nat.ne_of_gt hlS⟩)
    ns hisz hb hval (items.size - 0) 0 _ rfl (Nat.zero_le _) ⟨⟨_, hI, rfl, rfl⟩, hl1.push _⟩ ⟨0, Nat.le_refl 0, setR_new_at (Heap.get?_push_of_some _ (Heap.get?_push_size _ rfl))⟩ fun s' c hm hc hS => ?_
  rw [hisz] at hc
  refine hR s' hm ⟨c, hS, hc⟩ fun b o e => ?_
  have hb0 : b < s.heap.objs.size := Heap.lt_size e
  refine hm.heap b o ?_ (Heap.get?_push_of_some _ (Heap.get?_push_of_some _ e))
  simp only [List.mem_cons, List.not_mem_nil, or_false, not_or]
  exact ⟨Nat.ne_of_lt hb0, Nat.ne_of_lt (Nat.lt_succ_of_lt hb0)⟩
end
end UW
namespace UW
open PySem PySem.Spec PyProof.Rows L2
section
variable {P : Program} {w : World} {A : Around} {E : Value → Shared → Prop} {s : Shared}
theorem perm_map_ex {α β : Type} {f : α → β} : ∀ {L : List α} {vs : List β}, vs.Perm (L.map f) → ∃ L1 : List α, vs = L1.map f ∧ L1.Perm L
  | [], vs, h => ⟨[], List.perm_nil.mp h, .refl _⟩
  | x :: L, vs, h => by
    have hm : f x ∈ vs := h.mem_iff.mpr List.mem_cons_self
    obtain ⟨a, b, rfl⟩ := List.append_of_mem hm
    have h2 : (f x :: (a ++ b)).Perm (f x :: L.map f) := List.perm_middle.symm.trans h
    obtain ⟨L1, e1, p1⟩ := perm_map_ex (f := f) ((List.perm_cons _).mp h2)
    obtain ⟨La, Lb, rfl, rfl, rfl⟩ := List.map_eq_append_iff.mp e1.symm
    exact ⟨La ++ x :: Lb, by simp, List.perm_middle.trans (p1.cons x)⟩
theorem each_refl : ∀ (L : List AK), PySem.W.EachIs (fun v (b : AK) => v = Value.ref b.1) (L.map fun q => Value.ref q.1) L
  | [] => .nil
  | _ :: L => .cons rfl (each_refl L)
theorem each_refs : ∀ {vs : List Value} {L : List AK}, PySem.W.EachIs (fun v (b : AK) => v = Value.ref b.1) vs L → vs = L.map fun q => Value.ref q.1
  | _, _, .nil => rfl
  | _, _, .cons h t => by rw [h, each_refs t]; rfl
theorem each_mem' {β : Type} {R R' : Value → β → Prop} : ∀ {vs : List Value} {L : List β}, PySem.W.EachIs R vs L → (∀ v b, b ∈ L → R v b → R' v b) → PySem.W.EachIs R' vs L
  | _, _, .nil, _ => .nil
  | _, _, .cons h t, k => .cons (k _ _ List.mem_cons_self h) (each_mem' t fun v b hb => k v b (List.mem_cons_of_mem _ hb))
theorem sortable_perm {l l' : List PyData} (p : l.Perm l') (h : PySem.W.Sortable l') : PySem.W.Sortable l := by
  rcases h with h | h
  · exact .inl fun d hd => h d (p.mem_iff.mp hd)
  · exact .inr fun d hd => h d (p.mem_iff.mp hd)
set_option maxHeartbeats 1600000 in
/-- sorted(set) -/
theorem sorted_nset {a : Addr} {L : List AK} {es : Array (Int × Value)} {ep : Nat} {t : SetTable} {Q : Value → Shared → Prop} (R : NSet w s.heap a L es ep t) (hh : A.handled = none)
    {enc : AK → PyData} (hr : ∀ p ∈ L, ∃ as, Reads s.heap (.ref p.1) (enc p) as) (hal : PySem.W.AllAlike (L.map enc)) (hk : PySem.W.Sortable (L.map enc)) (hu : ∀ p, p ∈ L → A.units + 2 + (enc p).depth < cLine)
    (hQ : ∀ s' p (out : Array Value) (c : Nat) (L1 : List AK), (∀ b o, s.heap.get? b = some o → s'.heap.get? b = some o) → s'.gens = s.gens → s'.os = s.os → s.heap.objs.size ≤ p →
      s'.heap.get? p = some (seqObj "list" out c) → L1.Perm L → out.toList = (L1.mergeSort (PySem.W.dataLe false enc)).map (fun q => Value.ref q.1) → Q (.ref p) s') :
    wpAny (model P w) A (call (.builtin "sorted") [.ref a]) Q E s := by
  obtain ⟨o, ho, hex, hd⟩ := R.ob
  have hsz := R.size
  have hfew := R.few
  refine Calls.call_function_entry kind_sorted plain_sorted entry_sorted (args_sorted1 _) ?_
  unfold Builtin.«sorted»
  refine wpAny_bind (m := checkCount "sorted" 1 1 _) (wpAny_pure ?_)
  refine wpAny_bind (collect_set (A := A.in1) hh ⟨o, ho, hex.1, hd⟩ R.fits (by unfold scanBound; omega) R.tab.ris R.led fun s1 vs k1 hz g1 o1 pm => ?_)
  have hes : es.toList.map (·.2) = L.map fun q => Value.ref q.1 := by
    rw [R.rows, List.map_map]
    rfl
  rw [hes] at pm
  obtain ⟨L1, e1, pL⟩ : ∃ L1 : List AK, vs = L1.map (fun q => Value.ref q.1) ∧ L1.Perm L := perm_map_ex pm
  subst e1
  have hvl : L1.length < 64 := by rw [pL.length_eq]; exact hfew
  have hvl2 : (L1.map fun q => Value.ref q.1).length < 64 := by rw [List.length_map]; exact hvl
  have e : PySem.W.EachIs (fun v (b : AK) => v = Value.ref b.1) (L1.map fun q => Value.ref q.1) L1 := each_refl L1
  generalize L1.map (fun q => Value.ref q.1) = vs at e hvl2 ⊢
  clear pm hes
  refine wpAny_bind (wpAny_newList ?_ (by rw [sizeLine_eq]; omega))
  have hoL : (s1.heap.push (seqObj "list" vs.toArray 0)).get? s1.heap.objs.size = some (seqObj "list" vs.toArray 0) := Heap.get?_push_size _ rfl
  have keep2 : ∀ b u, s.heap.get? b = some u → (PySem.W.sortingHeap (s1.heap.push (seqObj "list" vs.toArray 0)) s1.heap.objs.size vs).get? b = some u := fun b u eb => by
    have q := k1 b u eb
    have hlt := Heap.lt_size q
    exact PySem.W.sortingHeap_old (Nat.ne_of_lt hlt) (Heap.get?_push_of_some _ q)
  have er2 : PySem.W.EachIs (fun v b => ∃ as, Reads (PySem.W.sortingHeap (s1.heap.push (seqObj "list" vs.toArray 0)) s1.heap.objs.size vs) v (enc b) as) vs L1 := by
    refine each_mem' e fun v b hb ev => ?_
    subst ev
    obtain ⟨as, r⟩ := hr b (pL.mem_iff.mp hb)
    exact ⟨as, PyProof.Rows.Reads.keeps keep2 r⟩
  have so := PySem.W.SortsAt.data (prog := P) (w := w) (A := A.in1.in1) (s := { s1 with heap := PySem.W.sortingHeap (s1.heap.push (seqObj "list" vs.toArray 0)) s1.heap.objs.size vs })
    (PySem.W.each_map (R := fun v d => ∃ as, Reads (PySem.W.sortingHeap (s1.heap.push (seqObj "list" vs.toArray 0)) s1.heap.objs.size vs) v d as) enc er2)
    (fun d hd d' hd' => hal d ((pL.map enc).mem_iff.mp hd) d' ((pL.map enc).mem_iff.mp hd')) (sortable_perm (pL.map enc) hk) (PySem.W.bound_map fun b hb => hu b (pL.mem_iff.mp hb))
  refine wpAny_bind (wpAny_holding (wpAny_call_entry slot_list_sort ⟨_, hoL, rfl⟩ entry_list_sort ?_ (args_list_sort _)))
  refine PySem.W.list_sort_vals (s := { s1 with heap := s1.heap.push (seqObj "list" vs.toArray 0) }) hoL so (by rw [sizeLine_eq]; omega) ⟨_, rfl, wpAny_pure ⟨_, rfl, ?_⟩⟩
  have ed := PySem.W.sortVals_data (R := fun v (b : AK) => v = Value.ref b.1) false e er2 (fun d hd d' hd' => hal d ((pL.map enc).mem_iff.mp hd) d' ((pL.map enc).mem_iff.mp hd'))
  generalize PySem.W.sortVals (PySem.W.dataKind (PySem.W.sortingHeap (s1.heap.push (seqObj "list" vs.toArray 0)) s1.heap.objs.size vs) (L1.map enc)) false vs vs = out at ed
  obtain ⟨c, hc⟩ := sortedHeap_at (vs := vs) (out := out.toArray) hoL
  refine hQ _ s1.heap.objs.size out.toArray c L1 (fun b u eb => ?_) g1 o1 hz hc pL (by simpa using each_refs ed)
  have q := k1 b u eb
  have hlt := Heap.lt_size q
  refine (sortedHeap_old (Nat.ne_of_lt hlt) (by rw [size_push']; exact Nat.lt_succ_of_lt hlt)).trans (Heap.get?_push_of_some _ q)
end
end UW
namespace UW
open PySem PySem.Spec PyProof.Rows L2

/-- the fragment, with the world and the program -/
structure Kw where
  k : PySem.W.Frag
  w : World
  P : Program
instance : CoeOut Kw PySem.W.Frag := ⟨Kw.k⟩
abbrev KW (X : Cx) : Kw := ⟨X.K, X.w, X.prog⟩
/-- Python data, by value -/
inductive D where
  | non
  | bl (b : Bool)
  | int (i : Int)
  | str (x : Str)
  | tup (ds : List D)
  | lst (ds : List D)
  | dct (ks vs : List D)
  | ref (i : Nat)
  | fn (x : Str)
  | exc (a : Addr)
  | scr (ns : List Int)
  | fdc (ks vs : List D)
  | dnt (ks vs : List D)
  | fdn (ks vs : List D)
  | tpw (ds : List D)

/-- an object of the store: one that has an identity -/
inductive Ob where
  | lst (ds : List D)
  | ins (c : Str) (fs : List (Str × D))
  | dnt (ks vs : List D)
abbrev Sto := List Ob
/-- how a run ends -/
inductive Res (A : Type) where
  | ok (a : A) (s : Sto)
  | exc (c : Str) (s : Sto)
  | bad
def Res.bind {A B : Type} : Res A → (A → Sto → Res B) → Res B
  | .ok a s, f => f a s
  | .exc c s, _ => .exc c s
  | .bad, _ => .bad
/-- cl: it may be kept; fr: new, nobody else has it; dy i: the list or dict that the slot i owns -/
inductive Tag where
  | cl
  | fr
  | dy (i : Nat)
structure TV where
  t : Tag
  d : D
/-- a slot: empty; data; data of which the slot is the only owner -/
inductive Sl where
  | no
  | sh (d : D)
  | ow (d : D)
abbrev DSt := List Sl

/-! ### data and the heap -/
def kD : Key → D
  | .inl i => .int i
  | .inr x => .str x
/-! ### dicts with keys that are tuples -/
mutual
/-- the key that data are; True is 1 -/
def D.nb : D → Option NK
  | .non => some .none
  | .bl b => some (.num (if b = true then 1 else 0))
  | .int i => some (.num i)
  | .str x => some (.text x)
  | .tup ds => (D.nbs ds).map .tup
  | _ => none
def D.nbs : List D → Option (List NK)
  | [] => some []
  | d :: ds => (D.nb d).bind fun k => (D.nbs ds).map (k :: ·)
end
abbrev NV := NK × Addr × V
def DN0 (K : Kw) (h : Heap) (a : Addr) (ys : List (NK × Addr × Value)) : Prop :=
  (a == sysModules) = false ∧ ys.length ≤ sizeLine ∧ ∃ o es ep, h.get? a = some o ∧ o.ExactDict ∧ o.data = .dict es ep ∧ es.toList = ys.map (entryOfKey (nestedKind K.P K.w)) ∧ (ys.map (·.1)).Nodup
def NVs (xs : List NV) (ys : List (NK × Addr × Value)) : Prop := Paired (fun (p : NV) (q : NK × Addr × Value) => p.1 = q.1 ∧ p.2.1 = q.2.1 ∧ RelV p.2.2 q.2.2) xs ys
def DNO (K : Kw) (a : Addr) (xs : List NV) : HO := .ext fun h => ∃ ys, NVs xs ys ∧ DN0 K h a ys
/-- the keys, as data -/
def KsOk (xs : List NV) (ks : List D) : Prop := ks.map D.nb = xs.map (fun p => some p.1) ∧ ∀ p ∈ xs, p.1.depth ≤ 8
/-- an object of a tuple that has no dict -/
def TpO (o : Obj) : Prop := o.cls = .type "tuple" ∧ o.dict = none
/-- a tuple whose object is known -/
def TupN (R : Hp) (a : Addr) (xs : List V) : Prop := ∃ o, R a = some (.frz o (.tup xs)) ∧ TpO o
theorem TupN.sq {K : PySem.W.Frag} {R : Hp} {a : Addr} {xs : List V} (h : TupN R a xs) : SqT K R a xs := by
  obtain ⟨o, h, _⟩ := h
  exact .inl (.inr ⟨o, h⟩)
theorem TupN.mono {R R' : Hp} {a : Addr} {xs : List V} (e : Same R R') (h : TupN R a xs) : TupN R' a xs := by
  obtain ⟨o, h, q⟩ := h
  exact ⟨o, e _ _ h, q⟩
theorem TupN.new {R : Hp} {a : Addr} {xs : List V} {o : Obj} (h : TpO o) : TupN (upd R a (.frz o (.tup xs))) a xs := ⟨o, upd_same, h⟩
mutual
inductive Rep (K : Kw) (mg : Str → Option Value) (L : List Addr) (R : Hp) : V → D → Prop
  | non : Rep K mg L R .non .non
  | bl (b : Bool) : Rep K mg L R (.bl b) (.bl b)
  | int (i : Int) : Rep K mg L R (.int i) (.int i)
  | str (x : Str) : Rep K mg L R (.str x) (.str x)
  | tup {a : Addr} {xs : List V} {ds : List D} : TupN R a xs → RepAll K mg L R xs ds → Rep K mg L R (.ref a) (.tup ds)
  | tpw {a : Addr} {xs : List V} {ds : List D} : SqT K R a xs → RepAll K mg L R xs ds → Rep K mg L R (.ref a) (.tpw ds)
  | lst {a : Addr} {xs : List V} {ds : List D} : R a = some (.lst xs) → RepAll K mg L R xs ds → Rep K mg L R (.ref a) (.lst ds)
  | dK {a : Addr} {kvs : List (Key × V)} {vs : List D} : Rd R a (.dK kvs) → RepAll K mg L R (kvs.map (·.2)) vs → Rep K mg L R (.ref a) (.dct (kvs.map fun p => kD p.1) vs)
  | ref {i : Nat} {a : Addr} : L[i]? = some a → Rep K mg L R (.ref a) (.ref i)
  | fn {x : Str} {a : Addr} : mg x = some (.ref a) → Rep K mg L R (.ref a) (.fn x)
  | exc (a : Addr) : Rep K mg L R (.ref a) (.exc a)
  | scr {a : Addr} {ns : List Int} : SqL K R a (ns.map V.int) → Rep K mg L R (.ref a) (.scr ns)
  | fdc {a : Addr} {o : Obj} {kvs : List (Key × V)} {vs : List D} : R a = some (.frz o (.dK kvs)) → RepAll K mg L R (kvs.map (·.2)) vs → Rep K mg L R (.ref a) (.fdc (kvs.map fun p => kD p.1) vs)
  | dN {a : Addr} {xs : List NV} {ks vs : List D} : Rd R a (DNO K a xs) → KsOk xs ks → RepAll K mg L R (xs.map fun p => V.ref p.2.1) ks → RepAll K mg L R (xs.map (·.2.2)) vs → Rep K mg L R (.ref a) (.dnt ks vs)
  | fN {a : Addr} {o : Obj} {xs : List NV} {ks vs : List D} : R a = some (.frz o (DNO K a xs)) → KsOk xs ks → RepAll K mg L R (xs.map fun p => V.ref p.2.1) ks → RepAll K mg L R (xs.map (·.2.2)) vs → Rep K mg L R (.ref a) (.fdn ks vs)
inductive RepAll (K : Kw) (mg : Str → Option Value) (L : List Addr) (R : Hp) : List V → List D → Prop
  | nil : RepAll K mg L R [] []
  | cons {v : V} {vs : List V} {d : D} {ds : List D} : Rep K mg L R v d → RepAll K mg L R vs ds → RepAll K mg L R (v :: vs) (d :: ds)
end

theorem Same.tupl {K : PySem.W.Frag} {H H' : Hp} {a : Addr} {xs : List V} (e : Same H H') (h : SqT K H a xs) : SqT K H' a xs := by
  rcases h with (h | ⟨o, h⟩) | h
  · exact .inl (.inl (e _ _ h))
  · exact .inl (.inr ⟨o, e _ _ h⟩)
  · exact .inr h
theorem pre_get {A : Type} {L L' : List A} (h : L <+: L') {i : Nat} {a : A} (e : L[i]? = some a) : L'[i]? = some a := by
  obtain ⟨t, rfl⟩ := h
  rw [List.getElem?_append_left (List.getElem?_eq_some_iff.mp e).1]
  exact e

section
variable {K : Kw} {mg : Str → Option Value} {L L' : List Addr} {R R' : Hp}
mutual
theorem Rep.mono (hL : L <+: L') (hR : Same R R') : ∀ (d : D) {v : V}, Rep K mg L R v d → Rep K mg L' R' v d
  | .non, _, h => by cases h; exact .non
  | .bl _, _, h => by cases h; exact .bl _
  | .int _, _, h => by cases h; exact .int _
  | .str _, _, h => by cases h; exact .str _
  | .tup ds, _, h => by
    cases h with
    | tup h1 h2 => exact .tup (h1.mono hR) (RepAll.mono hL hR ds h2)
  | .tpw ds, _, h => by
    cases h with
    | tpw h1 h2 => exact .tpw (Same.tupl hR h1) (RepAll.mono hL hR ds h2)
  | .lst ds, _, h => by
    cases h with
    | lst h1 h2 => exact .lst (hR _ _ h1) (RepAll.mono hL hR ds h2)
  | .dct _ vs, _, h => by
    cases h with
    | dK h1 h2 => exact .dK (h1.imp (fun z => hR _ _ z) fun ⟨o, z⟩ => ⟨o, hR _ _ z⟩) (RepAll.mono hL hR vs h2)
  | .ref _, _, h => by
    cases h with
    | ref h1 => exact .ref (pre_get hL h1)
  | .fn _, _, h => by
    cases h with
    | fn h1 => exact .fn h1
  | .exc _, _, h => by cases h; exact .exc _
  | .scr _, _, h => by
    cases h with
    | scr h1 => exact .scr (hR.seq h1)
  | .fdc _ vs, _, h => by
    cases h with
    | fdc h1 h2 => exact .fdc (hR _ _ h1) (RepAll.mono hL hR vs h2)
  | .dnt ks vs, _, h => by
    cases h with
    | dN h1 h2 h3 h4 => exact .dN (h1.imp (fun z => hR _ _ z) fun ⟨o, z⟩ => ⟨o, hR _ _ z⟩) h2 (RepAll.mono hL hR ks h3) (RepAll.mono hL hR vs h4)
  | .fdn ks vs, _, h => by
    cases h with
    | fN h1 h2 h3 h4 => exact .fN (hR _ _ h1) h2 (RepAll.mono hL hR ks h3) (RepAll.mono hL hR vs h4)
theorem RepAll.mono (hL : L <+: L') (hR : Same R R') : ∀ (ds : List D) {vs : List V}, RepAll K mg L R vs ds → RepAll K mg L' R' vs ds
  | [], _, h => by cases h; exact .nil
  | d :: ds, _, h => by
    cases h with
    | cons h1 h2 => exact .cons (Rep.mono hL hR d h1) (RepAll.mono hL hR ds h2)
end
theorem RepAll.length : ∀ {ds : List D} {vs : List V}, RepAll K mg L R vs ds → vs.length = ds.length
  | [], _, h => by cases h; rfl
  | _ :: _, _, h => by
    cases h with
    | cons _ h2 => rw [List.length_cons, List.length_cons, h2.length]
theorem RepAll.get : ∀ {ds : List D} {vs : List V} {i : Nat} {d : D}, RepAll K mg L R vs ds → ds[i]? = some d → ∃ v, vs[i]? = some v ∧ Rep K mg L R v d
  | [], _, _, _, _, e => by simp at e
  | x :: ds, _, 0, d, h, e => by
    cases h with
    | cons h1 h2 =>
      have e' : x = d := Option.some.inj e
      subst e'
      exact ⟨_, rfl, h1⟩
  | x :: ds, _, i + 1, d, h, e => by
    cases h with
    | cons h1 h2 =>
      obtain ⟨v, e1, e2⟩ := RepAll.get (i := i) h2 e
      exact ⟨v, e1, e2⟩
theorem RepAll.get' : ∀ {ds : List D} {vs : List V} {i : Nat} {v : V}, RepAll K mg L R vs ds → vs[i]? = some v → ∃ d, ds[i]? = some d ∧ Rep K mg L R v d
  | [], _, _, _, h, e => by cases h; simp at e
  | x :: ds, _, 0, v, h, e => by
    cases h with
    | cons h1 h2 =>
      have e' := Option.some.inj e
      subst e'
      exact ⟨_, rfl, h1⟩
  | x :: ds, _, i + 1, v, h, e => by
    cases h with
    | cons h1 h2 =>
      obtain ⟨d, e1, e2⟩ := RepAll.get' (i := i) h2 e
      exact ⟨d, e1, e2⟩
theorem RepAll.append : ∀ {ds es : List D} {vs ws : List V}, RepAll K mg L R vs ds → RepAll K mg L R ws es → RepAll K mg L R (vs ++ ws) (ds ++ es)
  | [], _, _, _, h, h' => by cases h; exact h'
  | _ :: _, _, _, _, h, h' => by
    cases h with
    | cons h1 h2 => exact .cons h1 (h2.append h')
theorem RepAll.one {v : V} {d : D} (h : Rep K mg L R v d) : RepAll K mg L R [v] [d] := .cons h .nil
theorem RepAll.take : ∀ (n : Nat) {ds : List D} {vs : List V}, RepAll K mg L R vs ds → RepAll K mg L R (vs.take n) (ds.take n)
  | 0, _, _, _ => .nil
  | _ + 1, [], _, h => by cases h; exact .nil
  | n + 1, _ :: _, _, h => by
    cases h with
    | cons h1 h2 => exact .cons h1 (h2.take n)
theorem RepAll.drop : ∀ (n : Nat) {ds : List D} {vs : List V}, RepAll K mg L R vs ds → RepAll K mg L R (vs.drop n) (ds.drop n)
  | 0, _, _, h => h
  | _ + 1, [], _, h => by cases h; exact .nil
  | n + 1, _ :: _, _, h => by
    cases h with
    | cons h1 h2 => exact h2.drop n
end

/-- the object of a list or a dict stands at p: its parts in R, itself in H -/
def Top (K : Kw) (mg : Str → Option Value) (L : List Addr) (R H : Hp) (p : Addr) : D → Prop
  | .lst ds => ∃ xs, H p = some (.lst xs) ∧ RepAll K mg L R xs ds
  | .dct ks vs => ∃ kvs, H p = some (.dK kvs) ∧ ks = (kvs.map fun q => kD q.1) ∧ RepAll K mg L R (kvs.map (·.2)) vs
  | .dnt ks vs => ∃ xs, H p = some (DNO K p xs) ∧ KsOk xs ks ∧ RepAll K mg L R (xs.map fun p => V.ref p.2.1) ks ∧ RepAll K mg L R (xs.map (·.2.2)) vs
  | _ => False
theorem Top.mono {K : Kw} {mg : Str → Option Value} {L L' : List Addr} {R R' H H' : Hp} {p : Addr} {d : D} (hL : L <+: L') (hR : Same R R') (hp : H' p = H p) (h : Top K mg L R H p d) : Top K mg L' R' H' p d := by
  cases d with
  | lst ds => obtain ⟨xs, h1, h2⟩ := h; exact ⟨xs, hp.trans h1, h2.mono hL hR⟩
  | dct ks vs => obtain ⟨kvs, h1, h2, h3⟩ := h; exact ⟨kvs, hp.trans h1, h2, h3.mono hL hR⟩
  | dnt ks vs => obtain ⟨xs, h1, h2, h3, h4⟩ := h; exact ⟨xs, hp.trans h1, h2, h3.mono hL hR, h4.mono hL hR⟩
  | _ => exact h.elim
theorem Top.some {K : Kw} {mg : Str → Option Value} {L : List Addr} {R H : Hp} {p : Addr} {d : D} (h : Top K mg L R H p d) : ∃ o, H p = some o := by
  cases d with
  | lst ds => obtain ⟨xs, h1, h2⟩ := h; exact ⟨_, h1⟩
  | dct ks vs => obtain ⟨kvs, h1, h2, h3⟩ := h; exact ⟨_, h1⟩
  | dnt ks vs => obtain ⟨xs, h1, _⟩ := h; exact ⟨_, h1⟩
  | _ => exact h.elim
/-- it becomes visible -/
theorem Top.rep {K : Kw} {mg : Str → Option Value} {L : List Addr} {R R' H : Hp} {p : Addr} {d : D} {o : HO} (h : Top K mg L R H p d) (ho : H p = Option.some o) (hR : Same R R') (hp : R' p = Option.some o) : Rep K mg L R' (.ref p) d := by
  cases d with
  | lst ds =>
    obtain ⟨xs, h1, h2⟩ := h
    rw [ho] at h1; cases h1
    exact .lst hp (h2.mono (List.prefix_refl _) hR)
  | dct ks vs =>
    obtain ⟨kvs, h1, h2, h3⟩ := h
    rw [ho] at h1; cases h1
    subst h2
    exact .dK (.inl hp) (h3.mono (List.prefix_refl _) hR)
  | dnt ks vs =>
    obtain ⟨xs, h1, h2, h3, h4⟩ := h
    rw [ho] at h1; cases h1
    exact .dN (.inl hp) h2 (h3.mono (List.prefix_refl _) hR) (h4.mono (List.prefix_refl _) hR)
  | _ => exact h.elim

/-- an object of the store at a -/
def ObAt (K : Kw) (mg : Str → Option Value) (L : List Addr) (R H : Hp) (a : Addr) : Ob → Prop
  | .lst ds => ∃ xs, H a = some (.lst xs) ∧ RepAll K mg L R xs ds
  | .dnt ks vs => ∃ xs, (H a = some (DNO K a xs) ∨ (xs = [] ∧ H a = some (.dK []))) ∧ KsOk xs ks ∧ RepAll K mg L R (xs.map fun p => V.ref p.2.1) ks ∧ RepAll K mg L R (xs.map (·.2.2)) vs
  | .ins c fs => ∃ C dx gs, mg c = some (.ref C) ∧ H a = some (.ins C dx gs) ∧ H dx = some (.own a) ∧ R dx = none ∧ gs.map (·.1) = fs.map (·.1) ∧ RepAll K mg L R (gs.map (·.2)) (fs.map (·.2))

/-- the ghosts: where the store's objects lie; the heap, the visible heap, the store's length at the entry -/
structure Cn where
  L : List Addr
  H0 : Hp
  R0 : Hp
  n0 : Nat

/-- the store lies at L -/
structure StoAt (K : Kw) (mg : Str → Option Value) (L : List Addr) (R H : Hp) (s : Sto) : Prop where
  len : s.length = L.length
  nd : L.Nodup
  at_ : ∀ (i : Nat) (ob : Ob) (a : Addr), s[i]? = some ob → L[i]? = some a → ObAt K mg L R H a ob ∧ R a = none

/-- what holds at every point of a body -/
structure Bas (K : Kw) (mg : Str → Option Value) (C : Cn) (R H : Hp) (s : Sto) : Prop where
  sub : Same R H
  new : ∀ a o, R a = some o → C.R0 a = some o ∨ C.H0 a = none
  r0 : Same C.R0 R
  keep : ∀ a o, C.H0 a = some o → a ∉ C.L.take C.n0 → H a = some o
  sto : StoAt K mg C.L R H s
  n0 : C.n0 ≤ C.L.length
  ln0 : ∀ (i : Nat) (a : Addr), C.n0 ≤ i → C.L[i]? = some a → C.H0 a = none
/-- .. with the slots -/
structure Rel (K : Kw) (mg : Str → Option Value) (C : Cn) (R : Hp) (ρ : DSt) (σ : L2.St) (H : Hp) (s : Sto) : Prop where
  bas : Bas K mg C R H s
  len : ρ.length = σ.length
  shr : ∀ (i : Nat) (d : D), ρ[i]? = some (.sh d) → ∃ v, σ[i]? = some (some v) ∧ Rep K mg C.L R v d
  own : ∀ (i : Nat) (d : D), ρ[i]? = some (.ow d) → ∃ p, σ[i]? = some (some (.ref p)) ∧ Top K mg C.L R H p d ∧ C.H0 p = none ∧ R p = none ∧ p ∉ C.L
  nd : ∀ (i j : Nat) (d e : D) (p : Addr), ρ[i]? = some (.ow d) → ρ[j]? = some (.ow e) → σ[i]? = some (some (.ref p)) → σ[j]? = some (some (.ref p)) → i = j

/-- the ghosts grow -/
structure Cn.Le (C C' : Cn) : Prop where
  L : C.L <+: C'.L
  H0 : C'.H0 = C.H0
  R0 : C'.R0 = C.R0
  n0 : C'.n0 = C.n0
theorem Cn.Le.refl (C : Cn) : C.Le C := ⟨List.prefix_refl _, rfl, rfl, rfl⟩
theorem Cn.Le.trans {C C1 C2 : Cn} (a : C.Le C1) (b : C1.Le C2) : C.Le C2 := ⟨a.L.trans b.L, b.H0.trans a.H0, b.R0.trans a.R0, b.n0.trans a.n0⟩

/-- a value that an expression gives -/
def VRep (K : Kw) (mg : Str → Option Value) (C : Cn) (R : Hp) (ρ : DSt) (σ : L2.St) (H : Hp) (v : V) (tv : TV) : Prop :=
  match tv.t with
  | .cl => Rep K mg C.L R v tv.d
  | .dy i => ρ[i]? = some (.ow tv.d) ∧ σ[i]? = some (some v)
  | .fr => ∃ p, v = .ref p ∧ Top K mg C.L R H p tv.d ∧ R p = none ∧ p ∉ C.L ∧ C.H0 p = none ∧ ∀ (i : Nat) (d : D), ρ[i]? = some (.ow d) → σ[i]? ≠ some (some (.ref p))

/-- a value that is only looked at: its object in H, its parts in R -/
def PRep (K : Kw) (mg : Str → Option Value) (L : List Addr) (R H : Hp) (v : V) : D → Prop
  | .lst ds => ∃ a xs, v = .ref a ∧ H a = some (.lst xs) ∧ RepAll K mg L R xs ds
  | .dct ks vs => ∃ a kvs, v = .ref a ∧ Rd H a (.dK kvs) ∧ ks = (kvs.map fun q => kD q.1) ∧ RepAll K mg L R (kvs.map (·.2)) vs
  | .dnt ks vs => ∃ a xs, v = .ref a ∧ Rd H a (DNO K a xs) ∧ KsOk xs ks ∧ RepAll K mg L R (xs.map fun p => V.ref p.2.1) ks ∧ RepAll K mg L R (xs.map (·.2.2)) vs
  | d => Rep K mg L R v d
end UW
namespace UW
open PySem PySem.Spec PyProof.Rows L2

/-! ### new tuples: their objects are known to have no dict -/
/-- what follows a new tuple -/
def NT (H : Hp) (xs : List V) (Q : VK) : Prop := ∀ p o, H p = none → TpO o → Q (.ref p) (upd H p (.frz o (.tup xs)))
section
variable {X : Cx} {pins : List (Addr × Obj)} {σ : L2.St} {H : Hp} {s : Shared}
theorem lay_tup {xs : List V} {us : List Value} {Q : VK} (I : Inv X pins σ H s) (r : Vals xs us) (hz : xs.length ≤ sizeLine) (q : NT H xs Q) :
    EP X pins σ Q (.ref s.heap.objs.size) { s with heap := s.heap.push { cls := .type "tuple", data := .seq us.toArray } } := by
  have hn := I.hok.fresh (Nat.le_refl s.heap.objs.size)
  have new : ObjOk X.prog X.w (upd H s.heap.objs.size (.frz { cls := .type "tuple", data := .seq us.toArray } (.tup xs))) (s.heap.push { cls := .type "tuple", data := .seq us.toArray }) s.heap.objs.size (.frz { cls := .type "tuple", data := .seq us.toArray } (.tup xs)) :=
    ⟨Heap.get?_push_size _ rfl, hz, us, r, IsTup.new _ _⟩
  exact ⟨.ref s.heap.objs.size, _, I.laid (t' := s.toks) (fun c o e => Heap.get?_push_of_some _ e) (Nat.le_refl _) new, rfl, q _ _ hn ⟨rfl, rfl⟩⟩
end
section
variable {X : Cx}
def tTupN (t : TA) : TE := fun σ H Q => t σ H fun xs H1 => xs.length ≤ sizeLine ∧ NT H1 xs Q
theorem pe_tupN {es : List Expr} {t : TA} {pos : Pos} {k} (h : PA X es t) : PE X (.Tuple es k pos) (tTupN t) :=
  ⟨fun pins s σ H Q I hq => wpAny_Tuple_spliced (thn (h.run pos pins s σ H _ I hq) fun us s1 ⟨xs, H1, I1, r, z, q⟩ => ⟨by rw [← r.length]; exact z, lay_tup I1 r z q⟩)⟩
/-- t + u -/
def rCatN (K : PySem.W.Frag) : R2 := fun x y H Q => ∃ a b xs ys, (x = .ref a ∧ y = .ref b) ∧ (SqT K H a xs ∧ SqT K H b ys) ∧ xs.length + ys.length ≤ sizeLine ∧
  (xs = [] → Q (.ref b) H) ∧ (xs ≠ [] → ys = [] → Q (.ref a) H) ∧ (xs ≠ [] → ys ≠ [] → NT H (xs ++ ys) Q)
theorem op_catN : OpR X (binaryOp .Add) (rCatN X.K) := by
  intro pins s σ H x y v u Q I rx ry ⟨a, b, xs, ys, ⟨ex, ey⟩, ⟨ha, hb⟩, hl, c0, c1, c2⟩
  subst ex ey
  by_cases hx : xs = []
  · exact op_catA pins s σ H _ _ v u Q I rx ry ⟨a, b, xs, ys, rfl, rfl, ha, hb, hl, c0, c1, fun z => absurd hx z⟩
  · cases rx
    cases ry
    obtain ⟨us, r1, t1, _⟩ := I.tuple ha
    obtain ⟨ws, r2, t2, _⟩ := I.tuple hb
    have n1 : us ≠ [] := fun e => hx (r1.nil_iff.mp e)
    refine HT.cat_tup t1 t2 n1 (fun e => ⟨.ref a, H, I, rfl, c1 hx (r2.nil_iff.mp e)⟩) (fun e => ?_) (by rw [← r1.length, ← r2.length]; exact hl)
    exact lay_tup I (r1.append r2) (by rw [List.length_append]; exact hl) (c2 hx fun w => e (r2.nil_iff.mpr w))
/-- t[lo:hi] -/
def rSlN (K : PySem.W.Frag) : V → Option Int → Option Int → Hp → VK → Prop := fun x lo hi H Q => ∃ a xs, (x = .ref a ∧ SqT K H a xs) ∧
  (HT.sIx xs.length 0 lo = 0 ∧ HT.sIx xs.length xs.length hi = xs.length → Q (.ref a) H) ∧ (¬ (HT.sIx xs.length 0 lo = 0 ∧ HT.sIx xs.length xs.length hi = xs.length) → NT H (cutV xs lo hi) Q)
theorem sl_tupN : SlR X (rSlN X.K) := by
  intro pins s σ H x v vl vu lo hi sl Q I rx hs pl pu ⟨a, xs, ⟨ex, hx⟩, c1, c2⟩
  subst ex
  by_cases hw : HT.sIx xs.length 0 lo = 0 ∧ HT.sIx xs.length xs.length hi = xs.length
  · exact sl_tupA pins s σ H _ v vl vu lo hi sl Q I rx hs pl pu ⟨a, xs, rfl, hx, c1, fun z => absurd hw z⟩
  · cases rx
    obtain ⟨us, r, ht, hz⟩ := I.tuple hx
    have hlen : us.toArray.size = xs.length := by rw [List.size_toArray, r.length]
    refine ⟨"tuple", _, PyProof.Rows.slot_tuple_getitem.lookup, ht.typeIs, HT.getItem_tuple_cut ht hs pl pu (by rw [hlen]; exact hw) ?_ (by rw [hlen]; exact hz)⟩
    rw [hlen]
    exact lay_tup I ((r.drop _).take _) (Nat.le_trans (cutV_length xs lo hi) hz) (c2 hw)
/-- tuple(x) -/
def rTupleN (K : PySem.W.Frag) : List V → Hp → VK → Prop := fun xs H Q => ∃ p ys, xs = [V.ref p] ∧ ((SqL K H p ys ∧ NT H ys Q) ∨ (SqT K H p ys ∧ Q (.ref p) H))
theorem call_tupleN : CallR X (.type "tuple") (rTupleN X.K) := by
  intro pins s σ H xs us Q I r ⟨p, ys, e, h⟩
  subst e
  rcases h with ⟨hq, q⟩ | ⟨hq, q⟩
  · obtain ⟨u, rfl, ru⟩ := vals1 r
    cases ru
    obtain ⟨ws, rw1, pl, hz⟩ := I.list hq
    refine call_tuple_list pl.isList (fun h' kp => ?_) (by rw [List.size_toArray, ← rw1.length]; exact hz)
    exact lay_tup (s := { s with heap := h' }) (I.kept (t' := s.toks) kp) rw1 hz q
  · exact call_tuple_of pins s σ H _ us Q I r ⟨p, ys, rfl, .inr ⟨hq, q⟩⟩
/-- tuple(range(..)) -/
def tTupRN (te : L2.St → Hp → (Int → Int → Hp → Prop) → Prop) : TE := fun σ H Q => te σ H fun a b H1 => RgOk a b ∧ NT H1 (rgV a b) Q
theorem pe_tupRN {e : Expr} {te : L2.St → Hp → (Int → Int → Hp → Prop) → Prop} {p pos : Pos} (hc : X.calm = true) (hg : Gl X "tuple") (hm : X.mg "tuple" = none) (he : PRg X e te) (na : starEach [e] X.env = (false, eval e X.env) :: starEach [] X.env) : PE X (.Call (.Name "tuple" p) [e] [] pos) (tTupRN te) :=
  ⟨fun pins s σ H Q I h => Call_ (ld_blt I hg hm boot_tuple (PyProof.Rows.callWith_type1 (args_cons (thn (he pins s σ H _ I h) fun x s1 ⟨r, a, b, t, u, v, H1, ex, hr, I1, ok, q⟩ => args_nil (by
    subst ex
    have ok' := ok
    obtain ⟨o1, o2, o3, o4, o5⟩ := ok
    refine call_tuple_range (I1.ok.hd hc) hr (small_one o1 o2 o3 o4) (rangeSize_nat a b) o5 fun h' tk acc hk hi => ?_
    have J : Inv X pins σ H1 { s1 with heap := h', toks := tk } := I1.kept hk
    have z := lay_tup J (vals_rg hi) (by rw [rgV_length, sizeLine_eq]; omega) q
    rw [Array.toArray_toList] at z
    exact z)) na) na))⟩
theorem tuple_mul1 (l : Addr) (items : Array Value) (n : Nat) (dd : Option Addr) (sl : Array (Option Value)) (u : Tok) :
    Meets (Builtin.«tuple.__mul__» ⟨[.ref l, .int 1 u], []⟩) (fun _ R s => s.heap.get? l = some { cls := .type "tuple", dict := dd, data := .seq items n, slots := sl } ∧
      R (.ok (.ret (Value.ref l))) s) :=
  .of_wp fun prog w A R s h => by
    obtain ⟨hp, g, d, tk, os⟩ := s
    obtain ⟨hl, h⟩ := h
    have f1 := AutoSeq1.idx_int
    have c1 : (items.isEmpty || (1 : Int) == 1) = true := by simp
    wp_walk using wpAny_loadPart' hl
    exact ⟨_, rfl, h⟩
/-- t * n -/
def rRepN (K : PySem.W.Frag) : R2 := fun x y H Q => ∃ l k xs, (x = .ref l ∧ y = .int k) ∧ SqT K H l xs ∧ xs ≠ [] ∧ xs.length ≤ 1000 ∧ (((2 ≤ k ∧ k ≤ 1000) ∧ NT H (List.replicate k.toNat xs).flatten Q) ∨ (k = 1 ∧ Q (.ref l) H))
theorem op_repN : OpR X (binaryOp .Mult) (rRepN X.K) := by
  intro pins s σ H x y v u Q I rx ry ⟨l, k, xs, ⟨ex, ey⟩, hT, hne, hz, q⟩
  rcases q with ⟨⟨k1, k2⟩, q⟩ | ⟨k1, q⟩
  rotate_left
  · subst ex ey k1
    cases rx
    obtain ⟨t, rfl⟩ := ry
    obtain ⟨us, r, ⟨⟨cls, dd, data, sl⟩, ho, hc, n, hd⟩, hs⟩ := I.tuple hT
    have hc : cls = .type "tuple" := hc
    have hd : data = .seq us.toArray n := hd
    subst hc hd
    exact wpAny_binaryOp_repeat_ref (T := "tuple") (U := "int") (by decide) ⟨_, ho, rfl⟩ (fun s' => typeIs_int s' 1 t) noFill_tuple_mul F.fills_int_mul F.slot_int_rmul repeat_tuple F.slot_int_index.lookup
      (call_meets F.slot_int_rmul (typeIs_int s 1 t) F.entry_int_rmul (F.args_int_rmul_2 _ _) (int_rmul_tuple 1 t l us.toArray n dd sl) ⟨ho, rfl, ⟨_, ho, rfl⟩, call_meets F.slot_tuple_mul ⟨_, ho, rfl⟩ F.entry_tuple_mul (F.args_tuple_mul_2 _ _)
        (tuple_mul1 l us.toArray n dd sl t) ⟨ho, ⟨.ref l, H, I, rfl, q⟩⟩⟩)
  subst ex ey
  cases rx
  obtain ⟨t, rfl⟩ := ry
  obtain ⟨us, r, ⟨⟨cls, dd, data, sl⟩, ho, hc, n, hd⟩, hs⟩ := I.tuple hT
  have hc : cls = .type "tuple" := hc
  have hd : data = .seq us.toArray n := hd
  subst hc hd
  have le : us.length = xs.length := r.length.symm
  have sz : us.toArray.size = xs.length := by rw [List.size_toArray, le]
  have ie : us.toArray.isEmpty = false := by
    cases us with
    | cons a b => rfl
    | nil =>
      cases xs with
      | nil => exact absurd rfl hne
      | cons a b => cases le
  have m1 : k.toNat * xs.length ≤ 1000 * 1000 := Nat.mul_le_mul (by omega) hz
  have m2 : ((us.toArray.size : Nat) : Int) * k ≤ 1000 * 1000 := by
    have z : ((xs.length : Nat) : Int) * k ≤ 1000 * k := Int.mul_le_mul_of_nonneg_right (by omega) (by omega)
    rw [sz]
    omega
  have fl : (List.replicate k.toNat us).flatten.length ≤ sizeLine := by
    rw [PyProof.Rows.lm_len_rep_flat, le, sizeLine_eq]
    omega
  have d0 : (decide (k < -(2 ^ 63)) || decide (k ≥ 2 ^ 63)) = false := by simp; omega
  have d1 : (us.toArray.isEmpty || k == 1) = false := by rw [ie]; simp; omega
  have d2 : (decide (k ≤ 0) || us.toArray.isEmpty) = false := by rw [ie]; simp; omega
  have d4 : Builtin.Tuple.tupleTooMany (((us.toArray.size : Nat) : Int) * k) = false := by
    unfold Builtin.Tuple.tupleTooMany
    rw [sizeLine_eq]
    exact decide_eq_false (by omega)
  have fin := lay_tup I (r.rep k.toNat) (by rw [PyProof.Rows.lm_len_rep_flat, sizeLine_eq]; omega) q
  exact wpAny_binaryOp_repeat_ref (T := "tuple") (U := "int") (by decide) ⟨_, ho, rfl⟩ (fun s' => typeIs_int s' k t) noFill_tuple_mul F.fills_int_mul F.slot_int_rmul repeat_tuple F.slot_int_index.lookup
    (call_meets F.slot_int_rmul (typeIs_int s k t) F.entry_int_rmul (F.args_int_rmul_2 _ _) (int_rmul_tuple k t l us.toArray n dd sl) ⟨ho, rfl, ⟨_, ho, rfl⟩, call_meets F.slot_tuple_mul ⟨_, ho, rfl⟩ F.entry_tuple_mul (F.args_tuple_mul_2 _ _)
      (tuple_mulW l us.toArray n dd sl k t d0 d1 d2 (by omega) d4 (by rw [size_rep, List.size_toArray]; exact fl)) ⟨ho, by rw [size_rep]; exact fin⟩⟩)
end
end UW
namespace UW
open PySem PySem.Spec PyProof.Rows L2
section
variable {K : Kw} {mg : Str → Option Value} {C C' : Cn} {R R' H H' : Hp} {ρ : DSt} {σ : L2.St} {s s' : Sto}

/-! ### heaps of objects -/
theorem ObAt.mono {L L' : List Addr} {a : Addr} {ob : Ob} (hL : L <+: L') (hR : Same R R') (hp : ∀ b o, H b = some o → (b = a ∨ o = .own a) → H' b = some o) (hd : ∀ b, H b = some (.own a) → R b = none → R' b = none) (h : ObAt K mg L R H a ob) : ObAt K mg L' R' H' a ob := by
  cases ob with
  | lst ds => obtain ⟨xs, h1, h2⟩ := h; exact ⟨xs, hp _ _ h1 (.inl rfl), h2.mono hL hR⟩
  | ins c fs => obtain ⟨C, dx, gs, h1, h2, h3, h4, h5, h6⟩ := h; exact ⟨C, dx, gs, h1, hp _ _ h2 (.inl rfl), hp _ _ h3 (.inr rfl), hd _ h3 h4, h5, h6.mono hL hR⟩
  | dnt ks vs => obtain ⟨xs, h1, h2, h3, h4⟩ := h; exact ⟨xs, h1.imp (fun z => hp _ _ z (.inl rfl)) (fun z => ⟨z.1, hp _ _ z.2 (.inl rfl)⟩), h2, h3.mono hL hR, h4.mono hL hR⟩
theorem ObAt.some {L : List Addr} {a : Addr} {ob : Ob} (h : ObAt K mg L R H a ob) : ∃ o, H a = some o := by
  cases ob with
  | lst ds => obtain ⟨xs, h1, h2⟩ := h; exact ⟨_, h1⟩
  | ins c fs => obtain ⟨C, dx, gs, h1, h2, h3⟩ := h; exact ⟨_, h2⟩
  | dnt ks vs =>
    obtain ⟨xs, h1, _⟩ := h
    rcases h1 with h1 | ⟨_, h1⟩
    · exact ⟨_, h1⟩
    · exact ⟨_, h1⟩

theorem StoAt.free {L : List Addr} (x : StoAt K mg L R H s) {a : Addr} (ha : a ∈ L) : R a = none ∧ ∃ o, H a = some o := by
  obtain ⟨i, hi, e⟩ := List.mem_iff_getElem.mp ha
  have h1 : i < s.length := by rw [x.len]; exact hi
  obtain ⟨h2, h3⟩ := x.at_ i s[i] a (List.getElem?_eq_getElem h1) (by rw [List.getElem?_eq_getElem hi, e])
  exact ⟨h3, h2.some⟩

/-- the heap grows, more is visible; what is in the store is not touched -/
theorem StoAt.grow {L : List Addr} (x : StoAt K mg L R H s) (hR : Same R R') (hH : Same H H') (hn : ∀ a o, R' a = some o → R a = some o ∨ H a = none) : StoAt K mg L R' H' s where
  len := x.len
  nd := x.nd
  at_ := fun i ob a e1 e2 => by
    obtain ⟨h1, h2⟩ := x.at_ i ob a e1 e2
    have key : ∀ b o, H b = some o → R b = none → R' b = none := fun b o hb h2 => by
      cases q : R' b with
      | none => rfl
      | some u =>
        rcases hn b u q with z | z
        · rw [h2] at z; cases z
        · rw [hb] at z; cases z
    refine ⟨h1.mono (List.prefix_refl _) hR (fun b o e _ => hH b o e) (fun b e1 e2 => key b _ e1 e2), ?_⟩
    obtain ⟨o, ho⟩ := h1.some
    exact key a o ho h2

/-- the heap grows -/
theorem Bas.grow (x : Bas K mg C R H s) (hR : Same R R') (hH : Same H H') (hRH : Same R' H') (hn : ∀ a o, R' a = some o → R a = some o ∨ H a = none) (h0 : ∀ a o, R' a = some o → R a = some o ∨ C.H0 a = none) : Bas K mg C R' H' s where
  sub := hRH
  new := fun a o e => by
    rcases h0 a o e with z | z
    · exact x.new a o z
    · exact .inr z
  r0 := x.r0.trans hR
  keep := fun a o e hn => hH _ _ (x.keep a o e hn)
  sto := x.sto.grow hR hH hn
  n0 := x.n0
  ln0 := x.ln0
/-- what is free now was free at the entry -/
theorem Bas.free0 (x : Bas K mg C R H s) {p : Addr} (h : H p = none) : C.H0 p = none := by
  cases q : C.H0 p with
  | none => rfl
  | some o =>
    have hp : p ∉ C.L := fun hm => by
      obtain ⟨_, o, e⟩ := x.sto.free hm
      rw [h] at e; cases e
    have z := x.keep p o q fun hm => hp (List.mem_of_mem_take hm)
    rw [h] at z; cases z
theorem Bas.freeL (x : Bas K mg C R H s) {p : Addr} (h : H p = none) : p ∉ C.L := fun hm => by
  obtain ⟨_, o, e⟩ := x.sto.free hm
  rw [h] at e; cases e

theorem Rel.grow (x : Rel K mg C R ρ σ H s) (hR : Same R R') (hH : Same H H') (hRH : Same R' H') (hn : ∀ a o, R' a = some o → R a = some o ∨ H a = none) : Rel K mg C R' ρ σ H' s where
  bas := x.bas.grow hR hH hRH hn (fun a o e => (hn a o e).imp id fun z => x.bas.free0 z)
  len := x.len
  shr := fun i d e => by
    obtain ⟨v, h1, h2⟩ := x.shr i d e
    exact ⟨v, h1, h2.mono (List.prefix_refl _) hR⟩
  own := fun i d e => by
    obtain ⟨p, h1, h2, h3, h4, h5⟩ := x.own i d e
    obtain ⟨o, ho⟩ := h2.some
    refine ⟨p, h1, h2.mono (List.prefix_refl _) hR ((hH p o ho).trans ho.symm), h3, ?_, h5⟩
    cases q : R' p with
    | none => rfl
    | some u =>
      rcases hn p u q with z | z
      · rw [h4] at z; cases z
      · rw [ho] at z; cases z
  nd := x.nd

theorem same_upd {p : Addr} {o : HO} (h : H p = none) : Same H (upd H p o) := fun b u e => by
  rw [upd_ne (ne_of_none e h)]; exact e
theorem same_none (hS : Same R H) {p : Addr} (h : H p = none) : R p = none := L2.Same.free hS h
theorem upd_some {p a : Addr} {o u : HO} (e : upd H p o a = some u) : (a = p ∧ u = o) ∨ (a ≠ p ∧ H a = some u) := by
  by_cases h : a = p
  · subst h; rw [upd_same] at e; cases e; exact .inl ⟨rfl, rfl⟩
  · rw [upd_ne h] at e; exact .inr ⟨h, e⟩
theorem same_upd2 {p : Addr} {o : HO} (hS : Same R H) : Same (upd R p o) (upd H p o) := fun b u e => by
  rcases upd_some e with ⟨rfl, rfl⟩ | ⟨h1, h2⟩
  · exact upd_same
  · rw [upd_ne h1]; exact hS _ _ h2

/-- a new visible object -/
theorem Rel.alloc (x : Rel K mg C R ρ σ H s) {p : Addr} {o : HO} (hp : H p = none) : Same R (upd R p o) ∧ Rel K mg C (upd R p o) ρ σ (upd H p o) s := by
  have r := same_none x.bas.sub hp
  refine ⟨same_upd r, x.grow (same_upd r) (same_upd hp) (same_upd2 x.bas.sub) fun a u e => ?_⟩
  rcases upd_some e with ⟨rfl, rfl⟩ | ⟨h1, h2⟩
  · exact .inr hp
  · exact .inl h2
/-- a new object that nobody sees yet -/
theorem Rel.allocF (x : Rel K mg C R ρ σ H s) {p : Addr} {o : HO} (hp : H p = none) : Rel K mg C R ρ σ (upd H p o) s :=
  x.grow (Same.refl _) (same_upd hp) (x.bas.sub.trans (same_upd hp)) fun a u e => .inl e

/-- a new list or dict as a value -/
theorem Rel.fresh (x : Rel K mg C R ρ σ H s) {p : Addr} {o : HO} {d : D} (hp : H p = none) (ht : Top K mg C.L R (upd H p o) p d) : VRep K mg C R ρ σ (upd H p o) (.ref p) ⟨.fr, d⟩ := by
  refine ⟨p, rfl, ht, same_none x.bas.sub hp, x.bas.freeL hp, x.bas.free0 hp, fun i d' e q => ?_⟩
  obtain ⟨p', h1, h2, _⟩ := x.own i d' e
  rw [q] at h1; cases h1
  obtain ⟨o', ho⟩ := h2.some
  rw [hp] at ho; cases ho

/-- what is new becomes visible -/
theorem Rel.absorb (x : Rel K mg C R ρ σ H s) {v : V} {d : D} (h : VRep K mg C R ρ σ H v ⟨.fr, d⟩) : ∃ R', Same R R' ∧ Rel K mg C R' ρ σ H s ∧ Rep K mg C.L R' v d := by
  obtain ⟨p, rfl, ht, hr, hl, h0, hi⟩ := h
  obtain ⟨o, ho⟩ := ht.some
  have sR : Same R (upd R p o) := same_upd hr
  have sH : Same (upd R p o) H := fun b u e => by
    rcases upd_some e with ⟨rfl, rfl⟩ | ⟨h1, h2⟩
    · exact ho
    · exact x.bas.sub _ _ h2
  refine ⟨upd R p o, sR, ⟨⟨sH, fun a u e => ?_, x.bas.r0.trans sR, x.bas.keep, ⟨x.bas.sto.len, x.bas.sto.nd, fun i ob a e1 e2 => ?_⟩, x.bas.n0, x.bas.ln0⟩, x.len, fun i d' e => ?_, fun i d' e => ?_, x.nd⟩, ht.rep ho sR upd_same⟩
  · rcases upd_some e with ⟨rfl, rfl⟩ | ⟨h1, h2⟩
    · exact .inr h0
    · exact x.bas.new _ _ h2
  · obtain ⟨h1, h2⟩ := x.bas.sto.at_ i ob a e1 e2
    have ne : a ≠ p := fun z => hl (by rw [← z]; exact List.mem_of_getElem? e2)
    refine ⟨h1.mono (List.prefix_refl _) sR (fun _ _ e _ => e) (fun b e3 e4 => ?_), by rw [upd_ne ne]; exact h2⟩
    by_cases hb : b = p
    · subst hb
      rw [ho] at e3
      cases e3
      cases d with
      | lst ds => obtain ⟨xs, q, _⟩ := ht; rw [ho] at q; cases q
      | dct ks vs => obtain ⟨xs, q, _⟩ := ht; rw [ho] at q; cases q
      | dnt ks vs => obtain ⟨xs, q, _⟩ := ht; rw [ho] at q; exact absurd (Option.some.inj q) (fun z => by unfold DNO at z; cases z)
      | _ => exact (show False from ht).elim
    · rw [upd_ne hb]; exact e4
  · obtain ⟨w, h1, h2⟩ := x.shr i d' e
    exact ⟨w, h1, h2.mono (List.prefix_refl _) sR⟩
  · obtain ⟨q, h1, h2, h3, h4, h5⟩ := x.own i d' e
    refine ⟨q, h1, h2.mono (List.prefix_refl _) sR rfl, h3, ?_, h5⟩
    rw [upd_ne fun z => hi i d' e (by rw [← z]; exact h1)]
    exact h4

/-- any value is one to look at -/
theorem Rep.look {L : List Addr} (hS : Same R H) : ∀ {d : D} {v : V}, Rep K mg L R v d → PRep K mg L R H v d
  | .non, _, h => h
  | .bl _, _, h => h
  | .int _, _, h => h
  | .str _, _, h => h
  | .tup _, _, h => h
  | .lst _, _, h => by
    cases h with
    | lst h1 h2 => exact ⟨_, _, rfl, hS _ _ h1, h2⟩
  | .dct _ _, _, h => by
    cases h with
    | dK h1 h2 => exact ⟨_, _, rfl, h1.imp (fun z => hS _ _ z) fun ⟨o, z⟩ => ⟨o, hS _ _ z⟩, rfl, h2⟩
  | .ref _, _, h => h
  | .fn _, _, h => h
  | .exc _, _, h => h
  | .scr _, _, h => h
  | .fdc _ _, _, h => h
  | .dnt _ _, _, h => by
    cases h with
    | dN h1 h2 h3 h4 => exact ⟨_, _, rfl, h1.imp (fun z => hS _ _ z) fun ⟨o, z⟩ => ⟨o, hS _ _ z⟩, h2, h3, h4⟩
  | .fdn _ _, _, h => h
  | .tpw _, _, h => h
theorem Top.look {L : List Addr} {p : Addr} : ∀ {d : D}, Top K mg L R H p d → PRep K mg L R H (.ref p) d
  | .lst _, h => by obtain ⟨xs, h1, h2⟩ := h; exact ⟨_, _, rfl, h1, h2⟩
  | .dct _ _, h => by obtain ⟨xs, h1, h2, h3⟩ := h; exact ⟨_, _, rfl, .inl h1, h2, h3⟩
  | .dnt _ _, h => by obtain ⟨xs, h1, h2⟩ := h; exact ⟨_, _, rfl, .inl h1, h2⟩
theorem VRep.look (x : Rel K mg C R ρ σ H s) {v : V} {tv : TV} (h : VRep K mg C R ρ σ H v tv) : PRep K mg C.L R H v tv.d := by
  obtain ⟨t, d⟩ := tv
  cases t with
  | cl => exact Rep.look x.bas.sub h
  | fr => obtain ⟨p, rfl, h1, _⟩ := h; exact h1.look
  | dy i =>
    obtain ⟨h1, h2⟩ := h
    obtain ⟨p, e, h3, _⟩ := x.own i d h1
    have h2 : σ[i]? = some (some v) := h2
    rw [e] at h2; cases h2
    exact h3.look

/-! ### slots -/
theorem get_set {A : Type} {l : List A} {i j : Nat} {a b : A} (h : (l.set i a)[j]? = some b) : (i = j ∧ b = a ∧ j < l.length) ∨ (i ≠ j ∧ l[j]? = some b) := by
  by_cases e : i = j
  · subst e
    by_cases hl : i < l.length
    · rw [List.getElem?_set_self hl] at h
      cases h
      exact .inl ⟨rfl, rfl, hl⟩
    · rw [List.getElem?_eq_none (by simpa using hl)] at h; cases h
  · rw [List.getElem?_set_ne e] at h
    exact .inr ⟨e, h⟩
theorem Rel.setSh (x : Rel K mg C R ρ σ H s) {i : Nat} {v : V} {d : D} (h : Rep K mg C.L R v d) : Rel K mg C R (ρ.set i (.sh d)) (σ.set i (some v)) H s where
  bas := x.bas
  len := by rw [List.length_set, List.length_set]; exact x.len
  shr := fun j e q => by
    rcases get_set q with ⟨rfl, z, hl⟩ | ⟨ne, q⟩
    · cases z
      exact ⟨v, by rw [List.getElem?_set_self (by rw [← x.len]; exact hl)], h⟩
    · obtain ⟨w, h1, h2⟩ := x.shr j e q
      exact ⟨w, by rw [List.getElem?_set_ne ne]; exact h1, h2⟩
  own := fun j e q => by
    rcases get_set q with ⟨rfl, z, hl⟩ | ⟨ne, q⟩
    · cases z
    · obtain ⟨p, h1, h2⟩ := x.own j e q
      exact ⟨p, by rw [List.getElem?_set_ne ne]; exact h1, h2⟩
  nd := fun j k d e p q1 q2 q3 q4 => by
    rcases get_set q1 with ⟨rfl, z, hl⟩ | ⟨ne1, q1⟩
    · cases z
    rcases get_set q2 with ⟨rfl, z, hl⟩ | ⟨ne2, q2⟩
    · cases z
    rw [List.getElem?_set_ne ne1] at q3
    rw [List.getElem?_set_ne ne2] at q4
    exact x.nd j k d e p q1 q2 q3 q4
theorem Rel.setOw (x : Rel K mg C R ρ σ H s) {i : Nat} {v : V} {d : D} (h : VRep K mg C R ρ σ H v ⟨.fr, d⟩) : Rel K mg C R (ρ.set i (.ow d)) (σ.set i (some v)) H s := by
  obtain ⟨p, rfl, ht, hr, hl, h0, hi⟩ := h
  refine ⟨x.bas, by rw [List.length_set, List.length_set]; exact x.len, fun j e q => ?_, fun j e q => ?_, fun j k d e p' q1 q2 q3 q4 => ?_⟩
  · rcases get_set q with ⟨rfl, z, hl⟩ | ⟨ne, q⟩
    · cases z
    · obtain ⟨w, h1, h2⟩ := x.shr j e q
      exact ⟨w, by rw [List.getElem?_set_ne ne]; exact h1, h2⟩
  · rcases get_set q with ⟨rfl, z, hl2⟩ | ⟨ne, q⟩
    · cases z
      exact ⟨p, by rw [List.getElem?_set_self (by rw [← x.len]; exact hl2)], ht, h0, hr, hl⟩
    · obtain ⟨p, h1, h2⟩ := x.own j e q
      exact ⟨p, by rw [List.getElem?_set_ne ne]; exact h1, h2⟩
  · rcases get_set q1 with ⟨rfl, z, hl1⟩ | ⟨ne1, q1⟩
    · cases z
      rw [List.getElem?_set_self (by rw [← x.len]; exact hl1)] at q3
      cases q3
      rcases get_set q2 with ⟨rfl, z, hl2⟩ | ⟨ne2, q2⟩
      · rfl
      · rw [List.getElem?_set_ne ne2] at q4
        exact absurd q4 (hi k e q2)
    · rw [List.getElem?_set_ne ne1] at q3
      rcases get_set q2 with ⟨rfl, z, hl2⟩ | ⟨ne2, q2⟩
      · cases z
        rw [List.getElem?_set_self (by rw [← x.len]; exact hl2)] at q4
        cases q4
        exact absurd q3 (hi j d q1)
      · rw [List.getElem?_set_ne ne2] at q4
        exact x.nd j k d e p' q1 q2 q3 q4
/-- a slot is forgotten -/
theorem Rel.setNo (x : Rel K mg C R ρ σ H s) (i : Nat) (ov : Option V) : Rel K mg C R (ρ.set i .no) (σ.set i ov) H s where
  bas := x.bas
  len := by rw [List.length_set, List.length_set]; exact x.len
  shr := fun j e q => by
    rcases get_set q with ⟨rfl, z, hl⟩ | ⟨ne, q⟩
    · cases z
    · obtain ⟨w, h1, h2⟩ := x.shr j e q
      exact ⟨w, by rw [List.getElem?_set_ne ne]; exact h1, h2⟩
  own := fun j e q => by
    rcases get_set q with ⟨rfl, z, hl⟩ | ⟨ne, q⟩
    · cases z
    · obtain ⟨p, h1, h2⟩ := x.own j e q
      exact ⟨p, by rw [List.getElem?_set_ne ne]; exact h1, h2⟩
  nd := fun j k d e p q1 q2 q3 q4 => by
    rcases get_set q1 with ⟨rfl, z, hl⟩ | ⟨ne1, q1⟩
    · cases z
    rcases get_set q2 with ⟨rfl, z, hl⟩ | ⟨ne2, q2⟩
    · cases z
    rw [List.getElem?_set_ne ne1] at q3
    rw [List.getElem?_set_ne ne2] at q4
    exact x.nd j k d e p q1 q2 q3 q4
/-- a slot is its object's owner no longer: a new value, that nobody owns -/
theorem Rel.disown (x : Rel K mg C R ρ σ H s) {i : Nat} {d : D} {v : V} (h : ρ[i]? = some (.ow d)) (hv : σ[i]? = some (some v)) : Rel K mg C R (ρ.set i .no) σ H s ∧ VRep K mg C R (ρ.set i .no) σ H v ⟨.fr, d⟩ := by
  obtain ⟨p, e, h2, h3, h4, h5⟩ := x.own i d h
  rw [hv] at e; cases e
  have hs : σ.set i (some (.ref p)) = σ := by
    apply List.ext_getElem?
    intro j
    by_cases z : i = j
    · subst z
      rw [List.getElem?_set_self (List.getElem?_eq_some_iff.mp hv).1, hv]
    · rw [List.getElem?_set_ne z]
  have y := x.setNo i (some (.ref p))
  rw [hs] at y
  refine ⟨y, p, rfl, h2, h4, h5, h3, fun j e q q2 => ?_⟩
  rcases get_set q with ⟨rfl, z, hl⟩ | ⟨ne, q⟩
  · cases z
  · exact ne (x.nd i j d e p h q hv q2)
/-- a slot's own object is shown to all -/
theorem Rel.share (x : Rel K mg C R ρ σ H s) {i : Nat} {d : D} (h : ρ[i]? = some (.ow d)) : ∃ R', Same R R' ∧ Rel K mg C R' (ρ.set i (.sh d)) σ H s := by
  obtain ⟨p, hv, _⟩ := x.own i d h
  obtain ⟨y, f⟩ := x.disown h hv
  obtain ⟨R', sR, y', r⟩ := y.absorb f
  have z := y'.setSh (i := i) r
  rw [List.set_set] at z
  refine ⟨R', sR, ?_⟩
  have hs : σ.set i (some (.ref p)) = σ := by
    apply List.ext_getElem?
    intro j
    by_cases z : i = j
    · subst z
      rw [List.getElem?_set_self (List.getElem?_eq_some_iff.mp hv).1, hv]
    · rw [List.getElem?_set_ne z]
  rw [hs] at z
  exact z
/-- a slot's own dict is locked, and shown to all -/
theorem Rel.lock (x : Rel K mg C R ρ σ H s) {i : Nat} {ks vs : List D} (h : ρ[i]? = some (.ow (.dct ks vs))) : ∃ p kvs, σ[i]? = some (some (.ref p)) ∧ H p = some (.dK kvs) ∧ ∀ od, ∃ R', Same R R' ∧ Rel K mg C R' (ρ.set i (.sh (.fdc ks vs))) σ (upd H p (.frz od (.dK kvs))) s := by
  obtain ⟨p, hv, ⟨kvs, hp, rfl, ra⟩, h0, hr, hl⟩ := x.own i _ h
  refine ⟨p, kvs, hv, hp, fun od => ?_⟩
  have sR : Same R (upd R p (.frz od (.dK kvs))) := same_upd hr
  refine ⟨_, sR, ⟨⟨fun b u e => ?_, fun a u e => ?_, x.bas.r0.trans sR, fun a u e hn => ?_, ⟨x.bas.sto.len, x.bas.sto.nd, fun j ob a e1 e2 => ?_⟩, x.bas.n0, x.bas.ln0⟩, by rw [List.length_set]; exact x.len, fun j d q => ?_, fun j d q => ?_, fun j k d e p' q1 q2 q3 q4 => ?_⟩⟩
  · rcases upd_some e with ⟨rfl, rfl⟩ | ⟨h1, h2⟩
    · exact upd_same
    · rw [upd_ne h1]; exact x.bas.sub _ _ h2
  · rcases upd_some e with ⟨rfl, rfl⟩ | ⟨h1, h2⟩
    · exact .inr h0
    · exact x.bas.new _ _ h2
  · rw [upd_ne fun z => by rw [z, h0] at e; cases e]
    exact x.bas.keep a u e hn
  · obtain ⟨h6, h7⟩ := x.bas.sto.at_ j ob a e1 e2
    have ne : a ≠ p := fun z => hl (z ▸ List.mem_of_getElem? e2)
    refine ⟨h6.mono (List.prefix_refl _) sR (fun b u e3 e4 => ?_) (fun b e3 e4 => ?_), by rw [upd_ne ne]; exact h7⟩
    · rw [upd_ne fun z => ?_]
      · exact e3
      · subst z
        rcases e4 with e4 | e4
        · exact ne e4.symm
        · subst e4; rw [hp] at e3; cases e3
    · rw [upd_ne fun z => by rw [z, hp] at e3; cases e3]
      exact e4
  · rcases get_set q with ⟨rfl, z, _⟩ | ⟨ne', q⟩
    · cases z
      exact ⟨.ref p, hv, .fdc upd_same (ra.mono (List.prefix_refl _) sR)⟩
    · obtain ⟨w, a1, a2⟩ := x.shr j d q
      exact ⟨w, a1, a2.mono (List.prefix_refl _) sR⟩
  · rcases get_set q with ⟨rfl, z, _⟩ | ⟨ne', q⟩
    · cases z
    · obtain ⟨p', e1, e2, e3, e4, e5⟩ := x.own j d q
      have np : p' ≠ p := fun z => ne' (x.nd i j _ d p h q hv (z ▸ e1))
      exact ⟨p', e1, e2.mono (List.prefix_refl _) sR (upd_ne np), e3, by rw [upd_ne np]; exact e4, e5⟩
  · rcases get_set q1 with ⟨rfl, z, _⟩ | ⟨_, q1⟩
    · cases z
    rcases get_set q2 with ⟨rfl, z, _⟩ | ⟨_, q2⟩
    · cases z
    exact x.nd j k d e p' q1 q2 q3 q4
/-- a slot's own dict is locked, and shown to all -/
theorem Rel.lockN (x : Rel K mg C R ρ σ H s) {i : Nat} {ks vs : List D} (h : ρ[i]? = some (.ow (.dnt ks vs))) : ∃ p kvs, σ[i]? = some (some (.ref p)) ∧ H p = some (DNO K p kvs) ∧ ∀ od, ∃ R', Same R R' ∧ Rel K mg C R' (ρ.set i (.sh (.fdn ks vs))) σ (upd H p (.frz od (DNO K p kvs))) s := by
  obtain ⟨p, hv, ⟨kvs, hp, rk, rb, ra⟩, h0, hr, hl⟩ := x.own i _ h
  refine ⟨p, kvs, hv, hp, fun od => ?_⟩
  have sR : Same R (upd R p (.frz od (DNO K p kvs))) := same_upd hr
  refine ⟨_, sR, ⟨⟨fun b u e => ?_, fun a u e => ?_, x.bas.r0.trans sR, fun a u e hn => ?_, ⟨x.bas.sto.len, x.bas.sto.nd, fun j ob a e1 e2 => ?_⟩, x.bas.n0, x.bas.ln0⟩, by rw [List.length_set]; exact x.len, fun j d q => ?_, fun j d q => ?_, fun j k d e p' q1 q2 q3 q4 => ?_⟩⟩
  · rcases upd_some e with ⟨rfl, rfl⟩ | ⟨h1, h2⟩
    · exact upd_same
    · rw [upd_ne h1]; exact x.bas.sub _ _ h2
  · rcases upd_some e with ⟨rfl, rfl⟩ | ⟨h1, h2⟩
    · exact .inr h0
    · exact x.bas.new _ _ h2
  · rw [upd_ne fun z => by rw [z, h0] at e; cases e]
    exact x.bas.keep a u e hn
  · obtain ⟨h6, h7⟩ := x.bas.sto.at_ j ob a e1 e2
    have ne : a ≠ p := fun z => hl (z ▸ List.mem_of_getElem? e2)
    refine ⟨h6.mono (List.prefix_refl _) sR (fun b u e3 e4 => ?_) (fun b e3 e4 => ?_), by rw [upd_ne ne]; exact h7⟩
    · rw [upd_ne fun z => ?_]
      · exact e3
      · subst z
        rcases e4 with e4 | e4
        · exact ne e4.symm
        · subst e4; rw [hp] at e3; exact absurd (Option.some.inj e3) (fun z => by unfold DNO at z; cases z)
    · rw [upd_ne fun z => by rw [z, hp] at e3; exact absurd (Option.some.inj e3) (fun z => by unfold DNO at z; cases z)]
      exact e4
  · rcases get_set q with ⟨rfl, z, _⟩ | ⟨ne', q⟩
    · cases z
      exact ⟨.ref p, hv, .fN upd_same rk (rb.mono (List.prefix_refl _) sR) (ra.mono (List.prefix_refl _) sR)⟩
    · obtain ⟨w, a1, a2⟩ := x.shr j d q
      exact ⟨w, a1, a2.mono (List.prefix_refl _) sR⟩
  · rcases get_set q with ⟨rfl, z, _⟩ | ⟨ne', q⟩
    · cases z
    · obtain ⟨p', e1, e2, e3, e4, e5⟩ := x.own j d q
      have np : p' ≠ p := fun z => ne' (x.nd i j _ d p h q hv (z ▸ e1))
      exact ⟨p', e1, e2.mono (List.prefix_refl _) sR (upd_ne np), e3, by rw [upd_ne np]; exact e4, e5⟩
  · rcases get_set q1 with ⟨rfl, z, _⟩ | ⟨_, q1⟩
    · cases z
    rcases get_set q2 with ⟨rfl, z, _⟩ | ⟨_, q2⟩
    · cases z
    exact x.nd j k d e p' q1 q2 q3 q4
/-- the own object of a slot is written -/
theorem Rel.write (x : Rel K mg C R ρ σ H s) {i : Nat} {d d' : D} {p : Addr} {o : HO} (h : ρ[i]? = some (.ow d)) (hv : σ[i]? = some (some (.ref p))) (ht : Top K mg C.L R (upd H p o) p d') (hno : ∀ y, H p ≠ some (.own y)) : Rel K mg C R (ρ.set i (.ow d')) σ (upd H p o) s := by
  obtain ⟨p', e, h2, h3, h4, h5⟩ := x.own i d h
  rw [hv] at e; cases e
  have ne : ∀ a u, R a = some u → a ≠ p := fun a u e z => by rw [z, h4] at e; cases e
  have neL : ∀ a, a ∈ C.L → a ≠ p := fun a e z => h5 (z ▸ e)
  refine ⟨⟨fun a u e => by rw [upd_ne (ne a u e)]; exact x.bas.sub a u e, x.bas.new, x.bas.r0, fun a u e hn => ?_, ⟨x.bas.sto.len, x.bas.sto.nd, fun j ob a e1 e2 => ?_⟩, x.bas.n0, x.bas.ln0⟩, by rw [List.length_set]; exact x.len, fun j e q => ?_, fun j e q => ?_, fun j k d e p' q1 q2 q3 q4 => ?_⟩
  · rw [upd_ne fun z => by rw [z, h3] at e; cases e]
    exact x.bas.keep a u e hn
  · obtain ⟨h6, h7⟩ := x.bas.sto.at_ j ob a e1 e2
    refine ⟨h6.mono (List.prefix_refl _) (Same.refl _) (fun b u e3 e4 => ?_) (fun _ _ e => e), h7⟩
    rw [upd_ne fun z => ?_]
    · exact e3
    · subst z
      rcases e4 with e4 | e4
      · exact neL a (List.mem_of_getElem? e2) e4.symm
      · subst e4
        exact hno a e3
  · rcases get_set q with ⟨rfl, z, hl⟩ | ⟨ne', q⟩
    · cases z
    · exact x.shr j e q
  · rcases get_set q with ⟨rfl, z, hl⟩ | ⟨ne', q⟩
    · cases z
      exact ⟨p, hv, ht, h3, h4, h5⟩
    · obtain ⟨p', e1, e2, e3, e4, e5⟩ := x.own j e q
      refine ⟨p', e1, e2.mono (List.prefix_refl _) (Same.refl _) (upd_ne fun z => ?_), e3, e4, e5⟩
      subst z
      exact ne' (x.nd i j d e p' h q hv e1)
  · have hj : ∃ d, ρ[j]? = some (.ow d) := by
      rcases get_set q1 with ⟨rfl, z, hl⟩ | ⟨ne', q⟩
      · exact ⟨_, h⟩
      · exact ⟨_, q⟩
    have hk : ∃ d, ρ[k]? = some (.ow d) := by
      rcases get_set q2 with ⟨rfl, z, hl⟩ | ⟨ne', q⟩
      · exact ⟨_, h⟩
      · exact ⟨_, q⟩
    obtain ⟨d1, a1⟩ := hj
    obtain ⟨d2, a2⟩ := hk
    exact x.nd j k d1 d2 p' a1 a2 q3 q4
end
end UW
namespace UW
open PySem PySem.Spec PyProof.Rows L2

abbrev E := DSt → Sto → Res TV
abbrev T := DSt → Sto → Res Bool
abbrev EL := DSt → Sto → Res (List TV)

/-! ### readings -/
/-- the end of a run: P of what comes out; an error is as the wish says -/
def PostR (K : Kw) (mg : Str → Option Value) (W : WX) (σ : L2.St) (C : Cn) (R : Hp) {A : Type} (P : A → Sto → Prop) : Res A → Prop
  | .ok a s' => P a s'
  | .exc c s' => ∀ a C' R' H', mg c = some (.ref a) → C.Le C' → Same R R' → Bas K mg C' R' H' s' → W (.ref a) none σ H'
  | .bad => False
def OkE (K : Kw) (mg : Str → Option Value) (ρ : DSt) (σ : L2.St) (C : Cn) (R : Hp) (Q : VK) (tv : TV) (s' : Sto) : Prop :=
  ∀ v C' R' H', C.Le C' → Same R R' → Rel K mg C' R' ρ σ H' s' → VRep K mg C' R' ρ σ H' v tv → Q v H'
def OkT (K : Kw) (mg : Str → Option Value) (ρ : DSt) (σ : L2.St) (C : Cn) (R : Hp) (Q : Bool → Hp → Prop) (b : Bool) (s' : Sto) : Prop :=
  ∀ C' R' H', C.Le C' → Same R R' → Rel K mg C' R' ρ σ H' s' → Q b H'
/-- arguments: none of them new -/
inductive VReps (K : Kw) (mg : Str → Option Value) (C : Cn) (R : Hp) (ρ : DSt) (σ : L2.St) (H : Hp) : List V → List TV → Prop
  | nil : VReps K mg C R ρ σ H [] []
  | cons {v : V} {vs : List V} {tv : TV} {tvs : List TV} : VRep K mg C R ρ σ H v tv → tv.t ≠ .fr → VReps K mg C R ρ σ H vs tvs → VReps K mg C R ρ σ H (v :: vs) (tv :: tvs)
def OkL (K : Kw) (mg : Str → Option Value) (ρ : DSt) (σ : L2.St) (C : Cn) (R : Hp) (Q : List V → Hp → Prop) (tvs : List TV) (s' : Sto) : Prop :=
  ∀ vs C' R' H', C.Le C' → Same R R' → Rel K mg C' R' ρ σ H' s' → VReps K mg C' R' ρ σ H' vs tvs → Q vs H'
def tD (K : Kw) (mg : Str → Option Value) (W : WX) (f : E) : TE := fun σ H Q => ∃ C R ρ s, Rel K mg C R ρ σ H s ∧ PostR K mg W σ C R (OkE K mg ρ σ C R Q) (f ρ s)
def tDT (K : Kw) (mg : Str → Option Value) (W : WX) (f : T) : TT := fun σ H Q => ∃ C R ρ s, Rel K mg C R ρ σ H s ∧ PostR K mg W σ C R (OkT K mg ρ σ C R Q) (f ρ s)
def tDL (K : Kw) (mg : Str → Option Value) (W : WX) (f : EL) : TA := fun σ H Q => ∃ C R ρ s, Rel K mg C R ρ σ H s ∧ PostR K mg W σ C R (OkL K mg ρ σ C R Q) (f ρ s)
abbrev DE (X : Cx) (W : WX) (e : Expr) (f : E) : Prop := PE X e (tD (KW X) X.mg W f)
abbrev DT (X : Cx) (W : WX) (e : Expr) (f : T) : Prop := PT X e (tDT (KW X) X.mg W f)
abbrev DW (X : Cx) (W : WX) (e : Expr) (f : T) : Prop := PW X e (tDT (KW X) X.mg W f)
abbrev DL (X : Cx) (W : WX) (es : List Expr) (f : EL) : Prop := PA X es (tDL (KW X) X.mg W f)

theorem PE.weak {X : Cx} {e : Expr} {t t' : TE} (h : PE X e t) (k : ∀ σ H Q, t' σ H Q → t σ H Q) : PE X e t' := ⟨fun pins s σ H Q I q => h.run pins s σ H Q I (k σ H Q q)⟩
theorem PT.weak {X : Cx} {e : Expr} {t t' : TT} (h : PT X e t) (k : ∀ σ H Q, t' σ H Q → t σ H Q) : PT X e t' := ⟨fun pins s σ H Q I q => h.run pins s σ H Q I (k σ H Q q)⟩
theorem PW.weak {X : Cx} {e : Expr} {t t' : TT} (h : PW X e t) (k : ∀ σ H Q, t' σ H Q → t σ H Q) : PW X e t' := ⟨fun wh pins s σ H Q I q => h.run wh pins s σ H Q I (k σ H Q q)⟩
theorem PA.weak {X : Cx} {es : List Expr} {t t' : TA} (h : PA X es t) (k : ∀ σ H Q, t' σ H Q → t σ H Q) : PA X es t' := ⟨fun pos pins s σ H Q I q => h.run pos pins s σ H Q I (k σ H Q q)⟩

section
variable {K : Kw} {mg : Str → Option Value} {W : WX} {C C1 : Cn} {R R1 H H1 : Hp} {ρ : DSt} {σ : L2.St} {s s1 : Sto}
theorem PostR.mono {A : Type} {P P' : A → Sto → Prop} (le : C.Le C1) (sR : Same R R1) (hP : ∀ a s, P a s → P' a s) : ∀ {r : Res A}, PostR K mg W σ C R P r → PostR K mg W σ C1 R1 P' r
  | .ok a s', h => hP a s' h
  | .exc c s', h => fun a C' R' H' e1 e2 e3 e4 => h a C' R' H' e1 (le.trans e2) (L2.Same.trans sR e3) e4
  | .bad, h => h
theorem OkE.mono {Q : VK} (le : C.Le C1) (sR : Same R R1) {tv : TV} {s' : Sto} (h : OkE K mg ρ σ C R Q tv s') : OkE K mg ρ σ C1 R1 Q tv s' := fun v C' R' H' e1 e2 e3 e4 => h v C' R' H' (le.trans e1) (L2.Same.trans sR e2) e3 e4
theorem OkT.mono {Q : Bool → Hp → Prop} (le : C.Le C1) (sR : Same R R1) {b : Bool} {s' : Sto} (h : OkT K mg ρ σ C R Q b s') : OkT K mg ρ σ C1 R1 Q b s' := fun C' R' H' e1 e2 e3 => h C' R' H' (le.trans e1) (L2.Same.trans sR e2) e3
theorem OkL.mono {Q : List V → Hp → Prop} (le : C.Le C1) (sR : Same R R1) {tvs : List TV} {s' : Sto} (h : OkL K mg ρ σ C R Q tvs s') : OkL K mg ρ σ C1 R1 Q tvs s' := fun v C' R' H' e1 e2 e3 e4 => h v C' R' H' (le.trans e1) (L2.Same.trans sR e2) e3 e4
theorem PostR.monoE {Q : VK} (le : C.Le C1) (sR : Same R R1) {r : Res TV} (h : PostR K mg W σ C R (OkE K mg ρ σ C R Q) r) : PostR K mg W σ C1 R1 (OkE K mg ρ σ C1 R1 Q) r := PostR.mono le sR (fun _ _ z => z.mono le sR) h
theorem PostR.monoT {Q : Bool → Hp → Prop} (le : C.Le C1) (sR : Same R R1) {r : Res Bool} (h : PostR K mg W σ C R (OkT K mg ρ σ C R Q) r) : PostR K mg W σ C1 R1 (OkT K mg ρ σ C1 R1 Q) r := PostR.mono le sR (fun _ _ z => z.mono le sR) h
theorem PostR.monoL {Q : List V → Hp → Prop} (le : C.Le C1) (sR : Same R R1) {r : Res (List TV)} (h : PostR K mg W σ C R (OkL K mg ρ σ C R Q) r) : PostR K mg W σ C1 R1 (OkL K mg ρ σ C1 R1 Q) r := PostR.mono le sR (fun _ _ z => z.mono le sR) h

/-- an expression, then what follows -/
theorem seqE {A : Type} {f : E} {g : TV → Sto → Res A} {P : A → Sto → Prop} {Q' : VK} (x : Rel K mg C R ρ σ H s) (h : PostR K mg W σ C R P ((f ρ s).bind g))
    (k : ∀ tv s1 v C1 R1 H1, C.Le C1 → Same R R1 → Rel K mg C1 R1 ρ σ H1 s1 → VRep K mg C1 R1 ρ σ H1 v tv → PostR K mg W σ C R P (g tv s1) → Q' v H1) : tD K mg W f σ H Q' := by
  refine ⟨C, R, ρ, s, x, ?_⟩
  cases e : f ρ s with
  | ok tv s1 => rw [e] at h; exact fun v C1 R1 H1 e1 e2 e3 e4 => k tv s1 v C1 R1 H1 e1 e2 e3 e4 h
  | exc c s1 => rw [e] at h; exact h
  | bad => rw [e] at h; exact h
theorem seqT {A : Type} {f : T} {g : Bool → Sto → Res A} {P : A → Sto → Prop} {Q' : Bool → Hp → Prop} (x : Rel K mg C R ρ σ H s) (h : PostR K mg W σ C R P ((f ρ s).bind g))
    (k : ∀ b s1 C1 R1 H1, C.Le C1 → Same R R1 → Rel K mg C1 R1 ρ σ H1 s1 → PostR K mg W σ C R P (g b s1) → Q' b H1) : tDT K mg W f σ H Q' := by
  refine ⟨C, R, ρ, s, x, ?_⟩
  cases e : f ρ s with
  | ok tv s1 => rw [e] at h; exact fun C1 R1 H1 e1 e2 e3 => k tv s1 C1 R1 H1 e1 e2 e3 h
  | exc c s1 => rw [e] at h; exact h
  | bad => rw [e] at h; exact h
theorem seqL {A : Type} {f : EL} {g : List TV → Sto → Res A} {P : A → Sto → Prop} {Q' : List V → Hp → Prop} (x : Rel K mg C R ρ σ H s) (h : PostR K mg W σ C R P ((f ρ s).bind g))
    (k : ∀ tvs s1 vs C1 R1 H1, C.Le C1 → Same R R1 → Rel K mg C1 R1 ρ σ H1 s1 → VReps K mg C1 R1 ρ σ H1 vs tvs → PostR K mg W σ C R P (g tvs s1) → Q' vs H1) : tDL K mg W f σ H Q' := by
  refine ⟨C, R, ρ, s, x, ?_⟩
  cases e : f ρ s with
  | ok tv s1 => rw [e] at h; exact fun v C1 R1 H1 e1 e2 e3 e4 => k tv s1 v C1 R1 H1 e1 e2 e3 e4 h
  | exc c s1 => rw [e] at h; exact h
  | bad => rw [e] at h; exact h

/-- the end: a scalar or a clean value, the heap as it is -/
theorem OkE.cl {Q : VK} {d : D} {v : V} (h : OkE K mg ρ σ C R Q ⟨.cl, d⟩ s) (x : Rel K mg C R ρ σ H s) (r : Rep K mg C.L R v d) : Q v H := h v C R H (.refl C) (L2.Same.refl R) x r
/-- .. with more visible -/
theorem VRep.mono {R2 H2 : Hp} {C2 : Cn} {v : V} {tv : TV} (le : C.Le C2) (sR : Same R R2) (hf : tv.t ≠ .fr) (h : VRep K mg C R ρ σ H v tv) : VRep K mg C2 R2 ρ σ H2 v tv := by
  obtain ⟨t, d⟩ := tv
  cases t with
  | cl => exact Rep.mono le.L sR d h
  | fr => exact absurd rfl hf
  | dy i => exact h
theorem VReps.mono {R2 H2 : Hp} {C2 : Cn} (le : C.Le C2) (sR : Same R R2) : ∀ {vs : List V} {tvs : List TV}, VReps K mg C R ρ σ H vs tvs → VReps K mg C2 R2 ρ σ H2 vs tvs
  | _, _, .nil => .nil
  | _, _, .cons h1 h2 h3 => .cons (h1.mono le sR h2) h2 (h3.mono le sR)
end

/-! ### the value that is kept: what is new becomes clean -/
def TV.keep : TV → TV
  | ⟨.fr, d⟩ => ⟨.cl, d⟩
  | tv => tv
theorem TV.keep_nf (tv : TV) : tv.keep.t ≠ .fr := by
  obtain ⟨t, d⟩ := tv
  cases t <;> exact fun z => nomatch z
@[simp] theorem TV.keep_d (tv : TV) : tv.keep.d = tv.d := by
  obtain ⟨t, d⟩ := tv
  cases t <;> rfl
theorem Rel.kept {K : Kw} {mg : Str → Option Value} {C : Cn} {R H : Hp} {ρ : DSt} {σ : L2.St} {s : Sto} (x : Rel K mg C R ρ σ H s) {v : V} {tv : TV} (h : VRep K mg C R ρ σ H v tv) :
    ∃ R', Same R R' ∧ Rel K mg C R' ρ σ H s ∧ VRep K mg C R' ρ σ H v tv.keep := by
  obtain ⟨t, d⟩ := tv
  cases t with
  | cl => exact ⟨R, L2.Same.refl _, x, h⟩
  | dy i => exact ⟨R, L2.Same.refl _, x, h⟩
  | fr => exact x.absorb h

/-! ### combinators -/
def eVar (i : Nat) : E := fun ρ s => match ρ[i]? with
  | some (.sh d) => .ok ⟨.cl, d⟩ s
  | some (.ow d) => .ok ⟨.dy i, d⟩ s
  | _ => .bad
def eC (d : D) : E := fun _ s => .ok ⟨.cl, d⟩ s
def eBad : E := fun _ _ => .bad
def lNil : EL := fun _ s => .ok [] s
def lCons (a : E) (r : EL) : EL := fun ρ s => (a ρ s).bind fun x s1 => (r ρ s1).bind fun xs s2 => .ok (x.keep :: xs) s2
/-- all of them clean -/
def cleans : List TV → Option (List D)
  | [] => some []
  | ⟨.cl, d⟩ :: r => (cleans r).map (d :: ·)
  | _ :: _ => none
def eTup (l : EL) : E := fun ρ s => (l ρ s).bind fun tvs s1 => match cleans tvs with
  | some ds => if ds.length ≤ 16777216 then .ok ⟨.cl, .tup ds⟩ s1 else .bad
  | none => .bad
def eLst (l : EL) : E := fun ρ s => (l ρ s).bind fun tvs s1 => match cleans tvs with
  | some ds => if ds.length ≤ 16777216 then .ok ⟨.fr, .lst ds⟩ s1 else .bad
  | none => .bad
def tOf (a : E) : T := fun ρ s => (a ρ s).bind fun x s1 => match x.d with
  | .bl b => .ok b s1
  | _ => .bad
def tAnd (a b : T) : T := fun ρ s => (a ρ s).bind fun x s1 => if x = true then b ρ s1 else .ok false s1
def tOr (a b : T) : T := fun ρ s => (a ρ s).bind fun x s1 => if x = true then .ok true s1 else b ρ s1
def tNot (a : T) : T := fun ρ s => (a ρ s).bind fun x s1 => .ok (!x) s1
def eAnd (a b : E) : E := fun ρ s => (a ρ s).bind fun x s1 => match x.d with
  | .bl true => b ρ s1
  | .bl false => .ok ⟨.cl, .bl false⟩ s1
  | _ => .bad
def eOr (a b : E) : E := fun ρ s => (a ρ s).bind fun x s1 => match x.d with
  | .bl true => .ok ⟨.cl, .bl true⟩ s1
  | .bl false => b ρ s1
  | _ => .bad
def eNot (a : E) : E := fun ρ s => (a ρ s).bind fun x s1 => match x.d with
  | .bl b => .ok ⟨.cl, .bl (!b)⟩ s1
  | _ => .bad
def eIf (c : T) (a b : E) : E := fun ρ s => (c ρ s).bind fun x s1 => if x = true then a ρ s1 else b ρ s1

theorem sizeLine_is : sizeLine = 16777216 := rfl

section
variable {X : Cx} {W : WX} {a b c : Expr} {es : List Expr} {fa fb : E} {fc : T} {pos : Pos}
theorem de_bad {e : Expr} : DE X W e eBad := ⟨fun _ _ _ _ _ _ h => by obtain ⟨_, _, _, _, _, z⟩ := h; exact z.elim⟩
theorem de_var {i : Nat} {x : Str} (hN : X.N[i]? = some x) (hv : Vis X.env.scope x) (hd : (x == ("__debug__" : Str)) = false) (hcd : (x == ("__classdict__" : Str)) = false) : DE X W (.Name x pos) (eVar i) :=
  PE.weak (pe_var hN hv hd hcd) fun σ H Q ⟨C, R, ρ, s, x, h⟩ => by
    unfold eVar at h
    split at h
    · rename_i d e
      obtain ⟨v, h1, h2⟩ := x.shr i d e
      exact ⟨v, h1, h.cl x h2⟩
    · rename_i d e
      obtain ⟨p, h1, _⟩ := x.own i d e
      exact ⟨.ref p, h1, h (.ref p) C R H (.refl C) (L2.Same.refl R) x ⟨e, h1⟩⟩
    · exact h.elim
theorem de_int {i : Int} {j} : DE X W (.Constant (.int i) j pos) (eC (.int i)) := PE.weak pe_int fun σ H Q ⟨C, R, ρ, s, x, h⟩ => h.cl x (.int i)
theorem de_bl {i : Bool} {j} : DE X W (.Constant (.bool i) j pos) (eC (.bl i)) := PE.weak pe_bl fun σ H Q ⟨C, R, ρ, s, x, h⟩ => h.cl x (.bl i)
theorem de_non {j} : DE X W (.Constant .none j pos) (eC .non) := PE.weak pe_non fun σ H Q ⟨C, R, ρ, s, x, h⟩ => h.cl x .non
theorem de_str {z : Str} {j} : DE X W (.Constant (.str z) j pos) (eC (.str z)) := PE.weak pe_str fun σ H Q ⟨C, R, ρ, s, x, h⟩ => h.cl x (.str z)
theorem dl_nil : DL X W [] lNil := PA.weak pa_nil fun σ H Q ⟨C, R, ρ, s, x, h⟩ => h [] C R H (.refl C) (L2.Same.refl R) x .nil
theorem dl_cons {fl : EL} (ha : DE X W a fa) (hr : DL X W es fl) (hs : starEach (a :: es) X.env = (false, eval a X.env) :: starEach es X.env) : DL X W (a :: es) (lCons fa fl) :=
  PA.weak (pa_cons ha hr hs) fun σ H Q ⟨C, R, ρ, s, x, h⟩ => by
    refine seqE x h fun tv s1 v C1 R1 H1 l1 r1 x1 v1 h1 => ?_
    obtain ⟨R2, r2, x2, v2⟩ := x1.kept v1
    refine seqL x2 (PostR.mono l1 (L2.Same.trans r1 r2) (fun _ _ z => z) h1) fun tvs s3 vs C3 R3 H3 l3 r3 x3 v3 h3 => ?_
    exact h3 _ C3 R3 H3 (l1.trans l3) (L2.Same.trans r1 (L2.Same.trans r2 r3)) x3 (.cons (v2.mono l3 r3 tv.keep_nf) tv.keep_nf v3)
theorem cleans_rep {C : Cn} {R H : Hp} {ρ : DSt} {σ : L2.St} : ∀ {tvs : List TV} {vs : List V} {ds : List D}, cleans tvs = some ds → VReps (KW X) X.mg C R ρ σ H vs tvs → RepAll (KW X) X.mg C.L R vs ds
  | [], _, _, e, h => by
    cases h
    cases e
    exact .nil
  | ⟨.cl, d⟩ :: r, _, _, e, h => by
    cases h with
    | cons h1 h2 h3 =>
      unfold cleans at e
      cases q : cleans r with
      | none => rw [q] at e; cases e
      | some ds =>
        rw [q] at e
        cases e
        exact .cons h1 (cleans_rep q h3)
  | ⟨.fr, d⟩ :: r, _, _, e, h => by cases e
  | ⟨.dy _, d⟩ :: r, _, _, e, h => by cases e
theorem de_tup {fl : EL} {k} (hl : DL X W es fl) : DE X W (.Tuple es k pos) (eTup fl) :=
  PE.weak (pe_tupN hl) fun σ H Q ⟨C, R, ρ, s, x, h⟩ => by
    refine seqL x h fun tvs s1 vs C1 R1 H1 l1 r1 x1 v1 h1 => ?_
    split at h1
    · rename_i ds e
      split at h1
      · rename_i hle
        have ra := cleans_rep e v1
        refine ⟨by rw [ra.length]; exact hle, fun p ob hp to => ?_⟩
        obtain ⟨r2, x2⟩ := x1.alloc (o := .frz ob (.tup vs)) hp
        exact h1 _ C1 _ _ l1 (L2.Same.trans r1 r2) x2 (.tup (TupN.new to) (ra.mono (List.prefix_refl _) r2))
      · exact h1.elim
    · exact h1.elim
theorem de_lst {fl : EL} (hl : DL X W es fl) : DE X W (.List es pos) (eLst fl) :=
  PE.weak (pe_lst hl) fun σ H Q ⟨C, R, ρ, s, x, h⟩ => by
    refine seqL x h fun tvs s1 vs C1 R1 H1 l1 r1 x1 v1 h1 => ?_
    split at h1
    · rename_i ds e
      split at h1
      · rename_i hle
        have ra := cleans_rep e v1
        refine ⟨by rw [ra.length]; exact hle, fun p hp => ?_⟩
        exact h1 _ C1 _ _ l1 r1 (x1.allocF hp) (x1.fresh (d := .lst ds) hp ⟨vs, upd_same, ra⟩)
      · exact h1.elim
    · exact h1.elim

/-! ### tests -/
theorem look_bl {K : Kw} {mg : Str → Option Value} {C : Cn} {R H : Hp} {ρ : DSt} {σ : L2.St} {s : Sto} {v : V} {tv : TV} {k : Bool} (x : Rel K mg C R ρ σ H s) (h : VRep K mg C R ρ σ H v tv) (e : tv.d = .bl k) : v = .bl k := by
  have z := VRep.look x h
  rw [e] at z
  have z' : Rep K mg C.L R v (.bl k) := z
  cases z'
  rfl
theorem dt_of (ha : DE X W a fa) (he : ∀ whole, isTrue a X.env whole = (do let v ← whole; standAt a.pos; holding [v] (truthy v))) : DT X W a (tOf fa) :=
  PT.weak (pt_val ha he) fun σ H Q ⟨C, R, ρ, s, x, h⟩ => by
    refine seqE x h fun tv s1 v C1 R1 H1 l1 r1 x1 v1 h1 => ?_
    split at h1
    · rename_i k e
      exact ⟨k, look_bl x1 v1 e, h1 C1 R1 H1 l1 r1 x1⟩
    · exact h1.elim
theorem dt_not {f : T} (ha : DT X W a f) : DT X W (.UnaryOp .Not a pos) (tNot f) :=
  PT.weak (pt_not ha) fun σ H Q ⟨C, R, ρ, s, x, h⟩ => seqT x h fun k s1 C1 R1 H1 l1 r1 x1 h1 => h1 C1 R1 H1 l1 r1 x1
theorem dw_and1 {f : T} (ha : DT X W a f) : DW X W (.BoolOp .And [a] pos) f := pw_and1 ha
theorem dw_or1 {f : T} (ha : DT X W a f) : DW X W (.BoolOp .Or [a] pos) f := pw_or1 ha
theorem dw_and {f g : T} {rest : List Expr} (ha : DT X W a f) (hb : DW X W (.BoolOp .And (b :: rest) pos) g) : DW X W (.BoolOp .And (a :: b :: rest) pos) (tAnd f g) :=
  PW.weak (pw_and ha hb) fun σ H Q ⟨C, R, ρ, s, x, h⟩ => seqT x h fun k s1 C1 R1 H1 l1 r1 x1 h1 => by
    cases k with
    | true => exact ⟨C1, R1, ρ, s1, x1, PostR.monoT l1 r1 h1⟩
    | false => exact h1 C1 R1 H1 l1 r1 x1
theorem dw_or {f g : T} {rest : List Expr} (ha : DT X W a f) (hb : DW X W (.BoolOp .Or (b :: rest) pos) g) : DW X W (.BoolOp .Or (a :: b :: rest) pos) (tOr f g) :=
  PW.weak (pw_or ha hb) fun σ H Q ⟨C, R, ρ, s, x, h⟩ => seqT x h fun k s1 C1 R1 H1 l1 r1 x1 h1 => by
    cases k with
    | true => exact h1 C1 R1 H1 l1 r1 x1
    | false => exact ⟨C1, R1, ρ, s1, x1, PostR.monoT l1 r1 h1⟩
theorem DW.dt {e : Expr} {f : T} (h : DW X W e f) : DT X W e f := PW.pt h
theorem de_one {op} (h : DE X W a fa) : DE X W (.BoolOp op [a] pos) fa := pe_one h
theorem de_and {rest : List Expr} (ha : DE X W a fa) (hb : DE X W (.BoolOp .And (b :: rest) pos) fb) : DE X W (.BoolOp .And (a :: b :: rest) pos) (eAnd fa fb) :=
  PE.weak (pe_and ha hb) fun σ H Q ⟨C, R, ρ, s, x, h⟩ => seqE x h fun tv s1 v C1 R1 H1 l1 r1 x1 v1 h1 => by
    split at h1
    · rename_i e
      refine ⟨true, look_bl x1 v1 e, ?_⟩
      exact ⟨C1, R1, ρ, s1, x1, PostR.monoE l1 r1 h1⟩
    · rename_i e
      refine ⟨false, look_bl x1 v1 e, ?_⟩
      exact h1 _ C1 R1 H1 l1 r1 x1 (.bl false)
    · exact h1.elim
theorem de_or {rest : List Expr} (ha : DE X W a fa) (hb : DE X W (.BoolOp .Or (b :: rest) pos) fb) : DE X W (.BoolOp .Or (a :: b :: rest) pos) (eOr fa fb) :=
  PE.weak (pe_or ha hb) fun σ H Q ⟨C, R, ρ, s, x, h⟩ => seqE x h fun tv s1 v C1 R1 H1 l1 r1 x1 v1 h1 => by
    split at h1
    · rename_i e
      refine ⟨true, look_bl x1 v1 e, ?_⟩
      exact h1 _ C1 R1 H1 l1 r1 x1 (.bl true)
    · rename_i e
      refine ⟨false, look_bl x1 v1 e, ?_⟩
      exact ⟨C1, R1, ρ, s1, x1, PostR.monoE l1 r1 h1⟩
    · exact h1.elim
theorem de_not (ha : DE X W a fa) : DE X W (.UnaryOp .Not a pos) (eNot fa) :=
  PE.weak (pe_not ha) fun σ H Q ⟨C, R, ρ, s, x, h⟩ => seqE x h fun tv s1 v C1 R1 H1 l1 r1 x1 v1 h1 => by
    split at h1
    · rename_i k e
      exact ⟨k, look_bl x1 v1 e, h1 _ C1 R1 H1 l1 r1 x1 (.bl _)⟩
    · exact h1.elim
theorem de_if (hc : DT X W c fc) (ha : DE X W a fa) (hb : DE X W b fb) : DE X W (.IfExp c a b pos) (eIf fc fa fb) :=
  PE.weak (pe_ifExp hc ha hb) fun σ H Q ⟨C, R, ρ, s, x, h⟩ => seqT x h fun k s1 C1 R1 H1 l1 r1 x1 h1 => by
    cases k with
    | true => exact ⟨C1, R1, ρ, s1, x1, PostR.monoE l1 r1 h1⟩
    | false => exact ⟨C1, R1, ρ, s1, x1, PostR.monoE l1 r1 h1⟩
end
end UW
namespace UW
open PySem PySem.Spec PyProof.Rows L2

/-! ### plain data -/
mutual
def D.pd : D → PyData
  | .bl b => .bool b
  | .int i => .int i
  | .str x => .str x
  | .tup ds => .tuple (D.pds ds)
  | .lst ds => .list (D.pds ds)
  | .scr ns => .list (ns.map .int)
  | _ => .none
def D.pds : List D → List PyData
  | [] => []
  | d :: ds => D.pd d :: D.pds ds
end
mutual
def D.plain : D → Bool
  | .non => true
  | .bl _ => true
  | .int _ => true
  | .str _ => true
  | .tup ds => D.plains ds
  | .lst ds => D.plains ds
  | .scr _ => true
  | _ => false
def D.plains : List D → Bool
  | [] => true
  | d :: ds => D.plain d && D.plains ds
end
theorem D.pds_map : ∀ ds : List D, D.pds ds = ds.map D.pd
  | [] => rfl
  | d :: ds => by rw [D.pds, D.pds_map ds]; rfl
/-- data that may be compared -/
def D.shp (d : D) : Bool := d.plain && SeqAt.shaped d.pd

section
variable {K : Kw} {mg : Str → Option Value} {L : List Addr} {R H : Hp}
theorem dp_ints (K : PySem.W.Frag) (H : Hp) : ∀ ns : List Int, DpAll K H (ns.map V.int) (ns.map PyData.int)
  | [] => .nil
  | n :: r => .cons (.int n) (dp_ints K H r)
mutual
theorem Rep.dp (hS : Same R H) : ∀ (d : D) {v : V}, d.plain = true → Rep K mg L R v d → Dp K H v d.pd
  | .non, _, _, h => by cases h; exact .non
  | .bl _, _, _, h => by cases h; exact .bl _
  | .int _, _, _, h => by cases h; exact .int _
  | .str _, _, _, h => by cases h; exact .str _
  | .tup ds, _, e, h => by
    cases h with
    | tup h1 h2 => exact .tup (Same.tupl hS h1.sq) (RepAll.dp hS ds e h2)
  | .lst ds, _, e, h => by
    cases h with
    | lst h1 h2 => exact .lst (SqL.of (hS _ _ h1)) (RepAll.dp hS ds e h2)
  | .scr ns, _, e, h => by
    cases h with
    | scr h1 => exact .lst (hS.seq h1) (dp_ints K H ns)
  | .dct _ _, _, e, _ => by cases e
  | .ref _, _, e, _ => by cases e
  | .fn _, _, e, _ => by cases e
  | .exc _, _, e, _ => by cases e
theorem RepAll.dp (hS : Same R H) : ∀ (ds : List D) {vs : List V}, D.plains ds = true → RepAll K mg L R vs ds → DpAll K H vs (D.pds ds)
  | [], _, _, h => by cases h; exact .nil
  | d :: ds, _, e, h => by
    cases h with
    | cons h1 h2 =>
      have e' := Bool.and_eq_true_iff.mp e
      exact .cons (Rep.dp hS d e'.1 h1) (RepAll.dp hS ds e'.2 h2)
end
theorem PRep.dp (hS : Same R H) : ∀ {d : D} {v : V}, d.plain = true → PRep K mg L R H v d → Dp K H v d.pd
  | .non, _, e, h => Rep.dp hS _ e h
  | .bl _, _, e, h => Rep.dp hS _ e h
  | .int _, _, e, h => Rep.dp hS _ e h
  | .str _, _, e, h => Rep.dp hS _ e h
  | .tup _, _, e, h => Rep.dp hS _ e h
  | .scr _, _, e, h => Rep.dp hS _ e h
  | .lst ds, _, e, h => by
    obtain ⟨a, xs, rfl, h1, h2⟩ := h
    exact .lst (SqL.of h1) (RepAll.dp hS ds e h2)
  | .dct _ _, _, e, _ => by cases e
  | .ref _, _, e, _ => by cases e
  | .fn _, _, e, _ => by cases e
  | .exc _, _, e, _ => by cases e
theorem PRep.int {v : V} {i : Int} (h : PRep K mg L R H v (.int i)) : v = .int i := by
  have h' : Rep K mg L R v (.int i) := h
  cases h'; rfl
theorem PRep.str {v : V} {i : Str} (h : PRep K mg L R H v (.str i)) : v = .str i := by
  have h' : Rep K mg L R v (.str i) := h
  cases h'; rfl
theorem PRep.bl {v : V} {i : Bool} (h : PRep K mg L R H v (.bl i)) : v = .bl i := by
  have h' : Rep K mg L R v (.bl i) := h
  cases h'; rfl
theorem PRep.tup {v : V} {ds : List D} (h : PRep K mg L R H v (.tup ds)) : ∃ a xs, v = .ref a ∧ SqT K R a xs ∧ RepAll K mg L R xs ds := by
  have h' : Rep K mg L R v (.tup ds) := h
  cases h' with
  | tup h1 h2 => exact ⟨_, _, rfl, h1.sq, h2⟩
theorem PRep.tupN {v : V} {ds : List D} (h : PRep K mg L R H v (.tup ds)) : ∃ a xs, v = .ref a ∧ TupN R a xs ∧ RepAll K mg L R xs ds := by
  have h' : Rep K mg L R v (.tup ds) := h
  cases h' with
  | tup h1 h2 => exact ⟨_, _, rfl, h1, h2⟩
theorem PRep.scr {v : V} {ns : List Int} (hS : Same R H) (h : PRep K mg L R H v (.scr ns)) : ∃ a, v = .ref a ∧ SqL K H a (ns.map V.int) := by
  have h' : Rep K mg L R v (.scr ns) := h
  cases h' with
  | scr h1 => exact ⟨_, rfl, hS.seq h1⟩
/-- is it None? -/
def D.isNon : D → Bool
  | .non => true
  | _ => false
theorem PRep.non {v : V} {d : D} (h : PRep K mg L R H v d) : decide (v = V.non) = d.isNon := by
  cases d with
  | lst ds => obtain ⟨a, xs, rfl, _⟩ := h; rfl
  | dct ks vs => obtain ⟨a, xs, rfl, _⟩ := h; rfl
  | dnt ks vs => obtain ⟨a, xs, rfl, _⟩ := h; rfl
  | _ =>
    have h' : Rep K mg L R v _ := h
    cases h' <;> rfl
end

/-! ### operators -/
/-- what an operation on two looked-at values does -/
def B2 (K : Kw) (mg : Str → Option Value) (r : R2) (op : D → D → Option TV) : Prop :=
  ∀ C R ρ σ H s x y dx dy tv Q, Rel K mg C R ρ σ H s → PRep K mg C.L R H x dx → PRep K mg C.L R H y dy → op dx dy = some tv → OkE K mg ρ σ C R Q tv s → r x y H Q
def eOp (op : D → D → Option TV) (a b : E) : E := fun ρ s => (a ρ s).bind fun x s1 => (b ρ s1).bind fun y s2 => match op x.d y.d with
  | some tv => .ok tv s2
  | none => .bad
theorem OpR.or {X : Cx} {f : Value → Value → Sem Value} {r r' : R2} (h : OpR X f r) (h' : OpR X f r') : OpR X f (fun x y H Q => r x y H Q ∨ r' x y H Q) := by
  intro pins s σ H x y v u Q I rx ry q
  rcases q with q | q
  · exact h pins s σ H x y v u Q I rx ry q
  · exact h' pins s σ H x y v u Q I rx ry q
/-- first this one, then that one -/
def orElse2 (f g : D → D → Option TV) : D → D → Option TV := fun a b => match f a b with
  | some tv => some tv
  | none => g a b
theorem B2.or {K : Kw} {mg : Str → Option Value} {r r' : R2} {f g : D → D → Option TV} (h : B2 K mg r f) (h' : B2 K mg r' g) : B2 K mg (fun x y H Q => r x y H Q ∨ r' x y H Q) (orElse2 f g) := by
  intro C R ρ σ H s x y dx dy tv Q rel px py e ok
  unfold orElse2 at e
  split at e
  · rename_i tv' e'
    cases e
    exact .inl (h C R ρ σ H s x y dx dy tv Q rel px py e' ok)
  · exact .inr (h' C R ρ σ H s x y dx dy tv Q rel px py e ok)

section
variable {X : Cx} {W : WX} {a b : Expr} {fa fb : E} {pos : Pos}
theorem op_read {r : R2} {op : D → D → Option TV} (hb : B2 (KW X) X.mg r op) {σ : L2.St} {H : Hp} {Q : VK} (h : tD (KW X) X.mg W (eOp op fa fb) σ H Q) : tOp r (tD (KW X) X.mg W fa) (tD (KW X) X.mg W fb) σ H Q := by
  obtain ⟨C, R, ρ, s, x, h⟩ := h
  refine seqE x h fun tv s1 v C1 R1 H1 l1 r1 x1 v1 h1 => ?_
  obtain ⟨R2, r2, x2, v2⟩ := x1.kept v1
  refine seqE x2 (PostR.mono l1 (L2.Same.trans r1 r2) (fun _ _ z => z) h1) fun tw s3 w C3 R3 H3 l3 r3 x3 v3 h3 => ?_
  have rr := L2.Same.trans r1 (L2.Same.trans r2 r3)
  split at h3
  · rename_i tz e
    have p1 := VRep.look x3 (v2.mono (H2 := H3) l3 r3 tv.keep_nf)
    rw [TV.keep_d] at p1
    refine hb C3 R3 ρ σ H3 s3 v w _ _ tz Q x3 p1 (VRep.look x3 v3) e ?_
    exact OkE.mono (l1.trans l3) rr h3
  · exact h3.elim
theorem de_op {op : Operator} {r : R2} {f : D → D → Option TV} (ho : OpR X (binaryOp op) r) (hB : B2 (KW X) X.mg r f) (ha : DE X W a fa) (hb : DE X W b fb) : DE X W (.BinOp a op b pos) (eOp f fa fb) := PE.weak (pe_op ho ha hb) fun _ _ _ h => op_read hB h
theorem de_cmp {op : CmpOp} {r : R2} {f : D → D → Option TV} (ho : OpR X (compareOp op) r) (hB : B2 (KW X) X.mg r f) (ha : DE X W a fa) (hb : DE X W b fb) (hm : behindInMarks op b = false) : DE X W (.Compare a [op] [b] pos) (eOp f fa fb) :=
  PE.weak (pe_cmpR ho ha hb hm) fun _ _ _ h => op_read hB h
theorem dt_cmp {op : CmpOp} {r : R2} {f : D → D → Option TV} (ho : OpR X (compareOp op) r) (hB : B2 (KW X) X.mg r f) (ha : DE X W a fa) (hb : DE X W b fb) (hm : behindInMarks op b = false) : DT X W (.Compare a [op] [b] pos) (tOf (eOp f fa fb)) :=
  PT.weak (pt_cmpR ho ha hb hm) fun σ H Q h => by
    obtain ⟨C, R, ρ, s, x, h⟩ := h
    show tOp r (tD (KW X) X.mg W fa) (tD (KW X) X.mg W fb) σ H (fun y H1 => ∃ k, y = .bl k ∧ Q k H1)
    refine op_read (op := f) hB (seqE x h fun tv s1 v C1 R1 H1 l1 r1 x1 v1 h1 => ?_)
    split at h1
    · rename_i k e
      exact ⟨k, look_bl x1 v1 e, h1 C1 R1 H1 l1 r1 x1⟩
    · exact h1.elim
end

/-! ### the operations -/
section
variable {K : Kw} {mg : Str → Option Value}
/-- two ints, under a test, and a value -/
def opI (c : Int → Int → Bool) (g : Int → Int → D) : D → D → Option TV
  | .int i, .int j => if c i j = true then some ⟨.cl, g i j⟩ else none
  | _, _ => none
theorem opI_some {c : Int → Int → Bool} {g : Int → Int → D} {a b : D} {tv : TV} (h : opI c g a b = some tv) : ∃ i j, a = .int i ∧ b = .int j ∧ c i j = true ∧ tv = ⟨.cl, g i j⟩ := by
  unfold opI at h
  split at h
  · rename_i i j
    split at h
    · rename_i hc
      cases h
      exact ⟨i, j, rfl, rfl, hc, rfl⟩
    · cases h
  · cases h
theorem b2_I {P : Int → Int → Prop} {c : Int → Int → Bool} {g : Int → Int → V} {gD : Int → Int → D} (hc : ∀ i j, c i j = true → P i j) (hg : ∀ i j L R, Rep K mg L R (g i j) (gD i j)) : B2 K mg (rI P g) (opI c gD) := by
  intro C R ρ σ H s x y dx dy tv Q rel px py e ok
  obtain ⟨i, j, rfl, rfl, h, rfl⟩ := opI_some e
  exact ⟨i, j, px.int, py.int, hc i j h, OkE.cl ok rel (hg i j _ _)⟩
theorem b2_I0 {g : Int → Int → V} {gD : Int → Int → D} (hg : ∀ i j L R, Rep K mg L R (g i j) (gD i j)) : B2 K mg (rI0 g) (opI (fun _ _ => true) gD) := by
  intro C R ρ σ H s x y dx dy tv Q rel px py e ok
  obtain ⟨i, j, rfl, rfl, h, rfl⟩ := opI_some e
  exact ⟨i, j, px.int, py.int, OkE.cl ok rel (hg i j _ _)⟩
def opAddI := opI (fun _ _ => true) fun i j => .int (i + j)
def opSub := opI (fun _ _ => true) fun i j => .int (i - j)
def mulOk (i j : Int) : Bool := (decide (-(2 ^ 64) < i) && decide (i < 2 ^ 64)) || (decide (-(2 ^ 64) < j) && decide (j < 2 ^ 64))
def opMulI := opI mulOk fun i j => .int (i * j)
def opMod := opI (fun _ j => decide (0 < j)) fun i j => .int (i % j)
def opMulW := opI (fun i j => decide (i.natAbs < 2 ^ 250) && decide (j.natAbs < 2 ^ 250)) fun i j => .int (i * j)
def opDiv := opI (fun _ j => decide (0 < j) && decide (j < 2 ^ 250)) fun i j => .int (i / j)
def opPow := opI (fun i j => decide (0 ≤ j) && (decide (j ≤ 1000000) && decide (i.natAbs < 2 ^ 64))) fun i j => .int (i ^ j.toNat)
def opLtI := opI (fun _ _ => true) fun i j => .bl (decide (i < j))
def opLeI := opI (fun _ _ => true) fun i j => .bl (decide (i ≤ j))
def opGtI := opI (fun _ _ => true) fun i j => .bl (decide (j < i))
def opGeI := opI (fun _ _ => true) fun i j => .bl (decide (j ≤ i))
/-- texts -/
def opAddS : D → D → Option TV
  | .str x, .str y => if x.length + y.length ≤ 16777216 then some ⟨.cl, .str (x ++ y)⟩ else none
  | _, _ => none
def opAddL : D → D → Option TV
  | .lst x, .lst y => if x.length + y.length ≤ 16777216 then some ⟨.fr, .lst (x ++ y)⟩ else none
  | _, _ => none
def opAddT : D → D → Option TV
  | .tup x, .tup y => if x.length + y.length ≤ 16777216 then some ⟨.cl, .tup (x ++ y)⟩ else none
  | _, _ => none
def opAdd := orElse2 opAddI (orElse2 opAddS (orElse2 opAddL opAddT))
theorem b2_addS : B2 K mg (fun x y H Q => ∃ i j, x = V.str i ∧ y = V.str j ∧ i.length + j.length ≤ sizeLine ∧ Q (.str (i ++ j)) H) opAddS := by
  intro C R ρ σ H s x y dx dy tv Q rel px py e ok
  unfold opAddS at e
  split at e
  · split at e
    · rename_i hl
      cases e
      exact ⟨_, _, px.str, py.str, hl, OkE.cl ok rel (.str _)⟩
    · cases e
  · cases e
theorem b2_addL : B2 K mg rCat opAddL := by
  intro C R ρ σ H s x y dx dy tv Q rel px py e ok
  unfold opAddL at e
  split at e
  · split at e
    · rename_i hl
      cases e
      obtain ⟨a, xs, rfl, h1, h2⟩ := px
      obtain ⟨b, ys, rfl, h3, h4⟩ := py
      refine ⟨a, b, xs, ys, rfl, rfl, h1, h3, by rw [h2.length, h4.length]; exact hl, fun p hp => ?_⟩
      exact ok _ C R _ (.refl C) (L2.Same.refl R) (rel.allocF hp) (rel.fresh (d := .lst _) hp ⟨_, upd_same, h2.append h4⟩)
    · cases e
  · cases e
theorem b2_addT : B2 K mg (rCatN K) opAddT := by
  intro C R ρ σ H s x y dx dy tv Q rel px py e ok
  unfold opAddT at e
  split at e
  · split at e
    · rename_i ds es hl
      cases e
      obtain ⟨a, xs, rfl, h1, h2⟩ := px.tupN
      obtain ⟨b, ys, rfl, h3, h4⟩ := py.tupN
      refine ⟨a, b, xs, ys, ⟨rfl, rfl⟩, ⟨Same.tupl rel.bas.sub h1.sq, Same.tupl rel.bas.sub h3.sq⟩, by rw [h2.length, h4.length]; exact hl, fun z => ?_, fun z1 z2 => ?_, fun z1 z2 p ob hp to => ?_⟩
      · subst z
        cases ds with
        | nil => exact OkE.cl ok rel (.tup h3 h4)
        | cons _ _ => cases h2
      · subst z2
        cases es with
        | nil => exact OkE.cl ok rel (.tup h1 (by rw [List.append_nil]; exact h2))
        | cons _ _ => cases h4
      · obtain ⟨r2, x2⟩ := rel.alloc (o := .frz ob (.tup (xs ++ ys))) hp
        exact ok _ C _ _ (.refl C) r2 x2 (.tup (TupN.new to) ((h2.append h4).mono (List.prefix_refl _) r2))
    · cases e
  · cases e
/-- a list, a tuple, a text times an int -/
def opMulL : D → D → Option TV
  | .lst x, .int k => if -(2 ^ 63) ≤ k ∧ k < 2 ^ 63 ∧ x.length * k.toNat ≤ 16777216 then some ⟨.fr, .lst (List.replicate k.toNat x).flatten⟩ else none
  | _, _ => none
def opMulT : D → D → Option TV
  | .tup x, .int k => if x ≠ [] ∧ 1 ≤ k ∧ k ≤ 1000 ∧ x.length ≤ 1000 then some ⟨.cl, .tup (List.replicate k.toNat x).flatten⟩ else none
  | _, _ => none
theorem RepAll.rep {L : List Addr} {R : Hp} {xs : List V} {ds : List D} (h : RepAll K mg L R xs ds) : ∀ n : Nat, RepAll K mg L R (List.replicate n xs).flatten (List.replicate n ds).flatten
  | 0 => .nil
  | n + 1 => by
    rw [List.replicate_succ, List.replicate_succ, List.flatten_cons, List.flatten_cons]
    exact h.append (h.rep n)
theorem b2_mulL : B2 K mg rRep opMulL := by
  intro C R ρ σ H s x y dx dy tv Q rel px py e ok
  unfold opMulL at e
  split at e
  · split at e
    · rename_i hl
      cases e
      obtain ⟨a, xs, rfl, h1, h2⟩ := px
      refine ⟨a, _, xs, rfl, py.int, h1, hl.1, hl.2.1, by rw [h2.length]; exact hl.2.2, fun p hp => ?_⟩
      exact ok _ C R _ (.refl C) (L2.Same.refl R) (rel.allocF hp) (rel.fresh (d := .lst _) hp ⟨_, upd_same, h2.rep _⟩)
    · cases e
  · cases e
theorem b2_mulT : B2 K mg (rRepN K) opMulT := by
  intro C R ρ σ H s x y dx dy tv Q rel px py e ok
  unfold opMulT at e
  split at e
  · split at e
    · rename_i ds k hl
      cases e
      obtain ⟨a, xs, rfl, h1, h2⟩ := px.tup
      have hne : xs ≠ [] := fun z => by
        subst z
        cases ds with
        | nil => exact hl.1 rfl
        | cons _ _ => cases h2
      by_cases k1 : k = 1
      · subst k1
        refine ⟨a, _, xs, ⟨rfl, py.int⟩, Same.tupl rel.bas.sub h1, hne, by rw [h2.length]; exact hl.2.2.2, .inr ⟨rfl, ?_⟩⟩
        have e1 : (List.replicate (1 : Int).toNat ds).flatten = ds := by
          show (List.replicate 1 ds).flatten = ds
          simp
        rw [e1] at ok
        exact ok _ C R _ (.refl C) (L2.Same.refl R) rel px
      refine ⟨a, _, xs, ⟨rfl, py.int⟩, Same.tupl rel.bas.sub h1, hne, by rw [h2.length]; exact hl.2.2.2, .inl ⟨⟨by have := hl.2.1; omega, hl.2.2.1⟩, fun p ob hp to => ?_⟩⟩
      obtain ⟨r2, x2⟩ := rel.alloc (o := .frz ob (.tup (List.replicate k.toNat xs).flatten)) hp
      exact ok _ C _ _ (.refl C) r2 x2 (.tup (TupN.new to) ((h2.rep _).mono (List.prefix_refl _) r2))
    · cases e
  · cases e
/-- a text, so often -/
def mulS (x : Str) (n : Int) : Str := if n < 1 then Str.empty else if (n == 1 || x.length == 0) = true then x else ⟨(List.replicate n.toNat x.cps).foldl (· ++ ·) #[]⟩
def opMulS : D → D → Option TV
  | .str x, .int n => if x.length ≤ 1000 ∧ -1000 ≤ n ∧ n ≤ 1000 then some ⟨.cl, .str (mulS x n)⟩ else none
  | _, _ => none
def rMulS : R2 := fun x y H Q => ∃ z n, x = V.str z ∧ y = V.int n ∧ z.length ≤ 1000 ∧ -1000 ≤ n ∧ n ≤ 1000 ∧ Q (.str (mulS z n)) H
theorem foldl_len : ∀ (n : Nat) (a b : Array Nat), ((List.replicate n a).foldl (· ++ ·) b).size = b.size + n * a.size
  | 0, _, _ => by simp
  | n + 1, a, b => by
    rw [List.replicate_succ, List.foldl_cons, foldl_len n a (b ++ a), Array.size_append, Nat.succ_mul]
    omega
theorem op_mulS {X : Cx} : OpR X (binaryOp .Mult) rMulS := by
  intro pins s σ H x y v u Q I rx ry h
  obtain ⟨z, n, rfl, rfl, h1, h2, h3, q⟩ := h
  obtain ⟨t, rfl⟩ := rx
  obtain ⟨t', rfl⟩ := ry
  have big : z.length * n.toNat ≤ 1000000 := by
    have : n.toNat ≤ 1000 := by omega
    exact Nat.le_trans (Nat.mul_le_mul h1 this) (by decide)
  refine P.mul_str (by rw [decide_eq_false (by omega), decide_eq_false (by omega)]; rfl) (fun g1 g2 => ?_) (fun g1 g2 => ?_) ?_
  · have : (1000 : Int) ≤ (2 ^ 63 - 1) / n := (Int.le_ediv_iff_mul_le (by omega)).mpr (by omega)
    omega
  · have := sizeLine_eq
    show decide (_ > sizeLine) = false
    exact decide_eq_false (by omega)
  · unfold mulS at q
    split
    · rename_i c
      rw [if_pos c] at q
      exact ⟨by decide, .str _, H, I.tok _, ⟨_, rfl⟩, q⟩
    · rename_i c
      rw [if_neg c] at q
      split
      · rename_i c2
        rw [if_pos c2] at q
        exact ⟨.str _, H, I, ⟨_, rfl⟩, q⟩
      · rename_i c2
        rw [if_neg c2] at q
        refine ⟨?_, .str _, H, I.tok _, ⟨_, rfl⟩, q⟩
        have e : (⟨(List.replicate n.toNat z.cps).foldl (· ++ ·) #[]⟩ : Str).length = n.toNat * z.length := by
          show Array.size _ = _
          rw [foldl_len]
          show 0 + _ = _
          rw [Nat.zero_add]
          rfl
        have := sizeLine_eq
        have e2 : n.toNat * z.length = z.length * n.toNat := Nat.mul_comm _ _
        omega
theorem b2_mulS : B2 K mg rMulS opMulS := by
  intro C R ρ σ H s x y dx dy tv Q rel px py e ok
  unfold opMulS at e
  split at e
  · split at e
    · rename_i hl
      cases e
      exact ⟨_, _, px.str, py.int, hl.1, hl.2.1, hl.2.2, OkE.cl ok rel (.str _)⟩
    · cases e
  · cases e
def opMul := orElse2 opMulI (orElse2 opMulL (orElse2 opMulT (orElse2 opMulW opMulS)))

/-! ### comparisons -/
def opEq (a b : D) : Option TV := if a.shp = true ∧ b.shp = true then some ⟨.cl, .bl (PyData.eqv a.pd b.pd)⟩ else none
def opNe (a b : D) : Option TV := if a.shp = true ∧ b.shp = true then some ⟨.cl, .bl (!PyData.eqv a.pd b.pd)⟩ else none
theorem b2_eq : B2 K mg (rEqD K) opEq := by
  intro C R ρ σ H s x y dx dy tv Q rel px py e ok
  unfold opEq at e
  split at e
  · rename_i h
    cases e
    obtain ⟨h1, h2⟩ := Bool.and_eq_true_iff.mp h.1
    obtain ⟨h3, h4⟩ := Bool.and_eq_true_iff.mp h.2
    exact ⟨_, _, PRep.dp rel.bas.sub h1 px, PRep.dp rel.bas.sub h3 py, h2, h4, OkE.cl ok rel (.bl _)⟩
  · cases e
theorem b2_ne : B2 K mg (rNeD K) opNe := by
  intro C R ρ σ H s x y dx dy tv Q rel px py e ok
  unfold opNe at e
  split at e
  · rename_i h
    cases e
    obtain ⟨h1, h2⟩ := Bool.and_eq_true_iff.mp h.1
    obtain ⟨h3, h4⟩ := Bool.and_eq_true_iff.mp h.2
    exact ⟨_, _, PRep.dp rel.bas.sub h1 px, PRep.dp rel.bas.sub h3 py, h2, h4, OkE.cl ok rel (.bl _)⟩
  · cases e
/-- data in order -/
def opLtD (a b : D) : Option TV := if a.plain = true ∧ b.plain = true ∧ PySem.W.alike a.pd b.pd = true ∧ a.isNon = false ∧ a.pd.depth ≤ 64 then some ⟨.cl, .bl (PySem.W.dataLt a.pd b.pd)⟩ else none
def rLtD (K : PySem.W.Frag) : R2 := fun x y H Q => ∃ d e, Dp K H x d ∧ Dp K H y e ∧ PySem.W.alike d e = true ∧ d ≠ .none ∧ d.depth ≤ 64 ∧ Q (.bl (PySem.W.dataLt d e)) H
theorem op_ltD {X : Cx} (hu : X.A.units + 64 < cLine) : OpR X (compareOp .Lt) (rLtD X.K) := by
  intro pins s σ H x y v u Q I rx ry h
  obtain ⟨d, e, hd, he, al, nn, dp, q⟩ := h
  obtain ⟨as, r1⟩ := Dp.reads I d x v hd rx
  obtain ⟨bs, r2⟩ := Dp.reads I e y u he ry
  show wpAny _ _ (richCompare .Lt v u) _ _ _
  exact PySem.W.rcLt_alike d e X.A s v u as bs r1 r2 al nn (by have := Nat.min_le_left d.depth e.depth; omega) _ _ _ _ ⟨.bl _, H, I, rfl, q⟩
theorem pd_none {d : D} (h : d.plain = true) (hn : d.isNon = false) : d.pd ≠ .none := by
  cases d with
  | non => cases hn
  | bl _ => rw [D.pd]; exact fun z => nomatch z
  | int _ => rw [D.pd]; exact fun z => nomatch z
  | str _ => rw [D.pd]; exact fun z => nomatch z
  | tup _ => rw [D.pd]; exact fun z => nomatch z
  | lst _ => rw [D.pd]; exact fun z => nomatch z
  | scr _ => rw [D.pd]; exact fun z => nomatch z
  | dct _ _ => cases h
  | ref _ => cases h
  | fn _ => cases h
  | exc _ => cases h
  | fdc _ _ => cases h
  | dnt _ _ => cases h
  | fdn _ _ => cases h
  | tpw _ => cases h
theorem b2_ltD : B2 K mg (rLtD K) opLtD := by
  intro C R ρ σ H s x y dx dy tv Q rel px py e ok
  unfold opLtD at e
  split at e
  · rename_i h
    cases e
    exact ⟨_, _, PRep.dp rel.bas.sub h.1 px, PRep.dp rel.bas.sub h.2.1 py, h.2.2.1, pd_none h.1 h.2.2.2.1, h.2.2.2.2, OkE.cl ok rel (.bl _)⟩
  · cases e
def opLt := orElse2 opLtI opLtD
/-- x is None -/
def opIs (a b : D) : Option TV := match b with
  | .non => some ⟨.cl, .bl a.isNon⟩
  | _ => none
def opIsNot (a b : D) : Option TV := match b with
  | .non => some ⟨.cl, .bl (!a.isNon)⟩
  | _ => none
theorem b2_is : B2 K mg (fun x y H Q => y = V.non ∧ Q (.bl (decide (x = .non))) H) opIs := by
  intro C R ρ σ H s x y dx dy tv Q rel px py e ok
  unfold opIs at e
  split at e
  · cases e
    refine ⟨?_, ?_⟩
    · have h' : Rep K mg C.L R y .non := py
      cases h'; rfl
    · rw [px.non]
      exact OkE.cl ok rel (.bl _)
  · cases e
theorem b2_isNot : B2 K mg (fun x y H Q => y = V.non ∧ Q (.bl (!decide (x = .non))) H) opIsNot := by
  intro C R ρ σ H s x y dx dy tv Q rel px py e ok
  unfold opIsNot at e
  split at e
  · cases e
    refine ⟨?_, ?_⟩
    · have h' : Rep K mg C.L R y .non := py
      cases h'; rfl
    · rw [px.non]
      exact OkE.cl ok rel (.bl _)
  · cases e
/-- x in a list -/
def opInL (a b : D) : Option TV := match b with
  | .lst ds => if a.shp = true ∧ (D.lst ds).shp = true then some ⟨.cl, .bl (ds.any fun z => PyData.eqv z.pd a.pd)⟩ else none
  | _ => none
def opNotInL (a b : D) : Option TV := match b with
  | .lst ds => if a.shp = true ∧ (D.lst ds).shp = true then some ⟨.cl, .bl (!ds.any fun z => PyData.eqv z.pd a.pd)⟩ else none
  | _ => none
theorem b2_inL : B2 K mg (rInD K) opInL := by
  intro C R ρ σ H s x y dx dy tv Q rel px py e ok
  unfold opInL at e
  split at e
  · split at e
    · rename_i ds h
      cases e
      obtain ⟨h1, h2⟩ := Bool.and_eq_true_iff.mp h.1
      obtain ⟨h3, h4⟩ := Bool.and_eq_true_iff.mp h.2
      refine ⟨_, D.pds ds, PRep.dp rel.bas.sub h1 px, PRep.dp (d := .lst ds) rel.bas.sub h3 py, h2, h4, ?_⟩
      have q := OkE.cl ok rel (Rep.bl (ds.any fun z => PyData.eqv z.pd dx.pd))
      rw [D.pds_map, List.any_map]
      exact q
    · cases e
  · cases e
theorem b2_notInL : B2 K mg (rNotInD K) opNotInL := by
  intro C R ρ σ H s x y dx dy tv Q rel px py e ok
  unfold opNotInL at e
  split at e
  · split at e
    · rename_i ds h
      cases e
      obtain ⟨h1, h2⟩ := Bool.and_eq_true_iff.mp h.1
      obtain ⟨h3, h4⟩ := Bool.and_eq_true_iff.mp h.2
      refine ⟨_, D.pds ds, PRep.dp rel.bas.sub h1 px, PRep.dp (d := .lst ds) rel.bas.sub h3 py, h2, h4, ?_⟩
      have q := OkE.cl ok rel (Rep.bl (!ds.any fun z => PyData.eqv z.pd dx.pd))
      rw [D.pds_map, List.any_map]
      exact q
    · cases e
  · cases e
end
end UW
/-! Dicts with keys that are tuples (whole numbers, bools, texts, None, tuples of such). -/
namespace UW
open PySem PySem.Spec PyProof.Rows L2
mutual
theorem reads_nb {h : Heap} : ∀ (d : D) {k : NK} {v : Value} {as : List Addr}, d.nb = some k → Reads h v d.pd as → NestedIs h k v
  | .non, _, _, _, e, r => by rw [D.nb] at e; cases e; rw [D.pd] at r; cases r; exact .none; all_goals simp
  | .bl b, _, _, _, e, r => by rw [D.nb] at e; cases e; rw [D.pd] at r; cases r; exact .bool rfl
  | .int i, _, _, _, e, r => by rw [D.nb] at e; cases e; rw [D.pd] at r; cases r; exact .int _ _
  | .str x, _, _, _, e, r => by rw [D.nb] at e; cases e; rw [D.pd] at r; cases r; exact .text _ _
  | .tup ds, _, _, _, e, r => by
    rw [D.nb, Option.map_eq_some_iff] at e
    obtain ⟨ks, e, rfl⟩ := e
    rw [D.pd] at r
    cases r with
    | tuple h1 h2 h3 h4 => exact .tup h1 h2 h3 (reads_nbs ds e h4)
  | .lst _, _, _, _, e, _ => by simp [D.nb] at e
  | .dct _ _, _, _, _, e, _ => by simp [D.nb] at e
  | .ref _, _, _, _, e, _ => by simp [D.nb] at e
  | .fn _, _, _, _, e, _ => by simp [D.nb] at e
  | .exc _, _, _, _, e, _ => by simp [D.nb] at e
  | .scr _, _, _, _, e, _ => by simp [D.nb] at e
  | .fdc _ _, _, _, _, e, _ => by simp [D.nb] at e
  | .dnt _ _, _, _, _, e, _ => by simp [D.nb] at e
  | .fdn _ _, _, _, _, e, _ => by simp [D.nb] at e
  | .tpw _, _, _, _, e, _ => by simp [D.nb] at e
theorem reads_nbs {h : Heap} : ∀ (ds : List D) {ks : List NK} {vs : List Value} {as : List Addr}, D.nbs ds = some ks → ReadsAll h vs (D.pds ds) as → NestedAll h ks vs
  | [], _, _, _, e, r => by rw [D.nbs] at e; cases e; rw [D.pds] at r; cases r; exact .nil
  | d :: ds, _, _, _, e, r => by
    rw [D.nbs, Option.bind_eq_some_iff] at e
    obtain ⟨k, e1, e2⟩ := e
    rw [Option.map_eq_some_iff] at e2
    obtain ⟨ks, e3, rfl⟩ := e2
    rw [D.pds] at r
    cases r with
    | cons h1 h2 => exact .cons (reads_nb d e1 h1) (reads_nbs ds e3 h2)
end
mutual
theorem nb_plain : ∀ (d : D) {k : NK}, d.nb = some k → d.plain = true
  | .non, _, _ => by rw [D.plain]
  | .bl b, _, _ => by rw [D.plain]
  | .int i, _, _ => by rw [D.plain]
  | .str x, _, _ => by rw [D.plain]
  | .tup ds, _, e => by
    rw [D.nb, Option.map_eq_some_iff] at e
    obtain ⟨ks, e, rfl⟩ := e
    rw [D.plain]
    exact nbs_plain ds e
  | .lst _, _, e => by simp [D.nb] at e
  | .dct _ _, _, e => by simp [D.nb] at e
  | .ref _, _, e => by simp [D.nb] at e
  | .fn _, _, e => by simp [D.nb] at e
  | .exc _, _, e => by simp [D.nb] at e
  | .scr _, _, e => by simp [D.nb] at e
  | .fdc _ _, _, e => by simp [D.nb] at e
  | .dnt _ _, _, e => by simp [D.nb] at e
  | .fdn _ _, _, e => by simp [D.nb] at e
  | .tpw _, _, e => by simp [D.nb] at e
theorem nbs_plain : ∀ (ds : List D) {ks : List NK}, D.nbs ds = some ks → D.plains ds = true
  | [], _, _ => by rw [D.plains]
  | d :: ds, _, e => by
    rw [D.nbs, Option.bind_eq_some_iff] at e
    obtain ⟨k, e1, e2⟩ := e
    rw [Option.map_eq_some_iff] at e2
    obtain ⟨ks, e3, _⟩ := e2
    rw [D.plains, nb_plain d e1, nbs_plain ds e3]
    rfl
end
/-- at b lies the tuple of the key k -/
def KAt (K : PySem.W.Frag) (H : Hp) (b : Addr) (k : NK) : Prop := ∃ d : D, Dp K H (.ref b) d.pd ∧ d.nb = some k ∧ k.depth ≤ 8
theorem inv_kat {X : Cx} {pins : List (Addr × Obj)} {σ : L2.St} {H : Hp} {s : Shared} {b : Addr} {k : NK} (I : Inv X pins σ H s) (h : KAt X.K H b k) : KIs s.heap k b := by
  obtain ⟨d, h1, h2, h3⟩ := h
  obtain ⟨as, r⟩ := Dp.reads I _ _ (.ref b) h1 rfl
  exact ⟨reads_nb d h2 r, h3⟩
def XsOk (K : PySem.W.Frag) (H : Hp) (xs : List NV) : Prop := ∀ p ∈ xs, KAt K H p.2.1 p.1
theorem objN {X : Cx} {pins : List (Addr × Obj)} {σ : L2.St} {H : Hp} {s : Shared} {a : Addr} {xs : List NV} (I : Inv X pins σ H s) (h : Rd H a (DNO (KW X) a xs)) : ∃ ys, NVs xs ys ∧ DN0 (KW X) s.heap a ys := by
  rcases h with h | ⟨o, h⟩
  · exact (I.hok a _ h).1
  · exact (I.hok a _ h).2.1
theorem nvs_mem {xs : List NV} {ys : List (NK × Addr × Value)} (h : NVs xs ys) : ∀ y ∈ ys, ∃ x ∈ xs, x.1 = y.1 ∧ x.2.1 = y.2.1 := by
  induction h with
  | nil => intro y hy; cases hy
  | @cons a b l1 l2 r t ih =>
    intro y hy
    rcases List.mem_cons.mp hy with e | hy
    · exact ⟨a, List.mem_cons_self, e ▸ r.1, e ▸ r.2.1⟩
    · obtain ⟨x, hx, z⟩ := ih y hy
      exact ⟨x, List.mem_cons_of_mem _ hx, z⟩
theorem dictN {X : Cx} {pins : List (Addr × Obj)} {σ : L2.St} {H : Hp} {s : Shared} {a : Addr} {xs : List NV} (I : Inv X pins σ H s) (h : Rd H a (DNO (KW X) a xs)) (hk : XsOk X.K H xs) :
    ∃ ys, NVs xs ys ∧ s.heap.DictOfH (nestedKind X.prog X.w) a ys ∧ (a == sysModules) = false ∧ ys.length ≤ sizeLine := by
  obtain ⟨ys, h1, h2, h3, o, es, ep, e1, e2, e3, e4, e5⟩ := objN I h
  refine ⟨ys, h1, ⟨o, es, ep, e1, e2, e3, e4, fun y hy => ?_, e5⟩, h2, h3⟩
  obtain ⟨x, hx, z1, z2⟩ := nvs_mem h1 y hy
  have := inv_kat I (hk x hx)
  rw [z1, z2] at this
  exact this
/-- the value of a key -/
def valN (xs : List NV) (k : NK) : Option V := (xs.find? fun p => decide (p.1 = k)).map (·.2.2)
theorem nvs_val {xs : List NV} {ys : List (NK × Addr × Value)} (h : NVs xs ys) (k : NK) : (valN xs k = none ∧ atKey ys k = none) ∨ ∃ v p, valN xs k = some v ∧ atKey ys k = some p ∧ RelV v p.2 := by
  induction h with
  | nil => exact .inl ⟨rfl, rfl⟩
  | @cons a b l1 l2 r t ih =>
    by_cases e : b.1 = k
    · have e' : a.1 = k := r.1.trans e
      refine .inr ⟨a.2.2, b.2, ?_, ?_, r.2.2⟩
      · unfold valN; rw [List.find?_cons_of_pos (by simp [e'])]; rfl
      · unfold atKey; rw [List.find?_cons_of_pos (by simp [e])]; rfl
    · have e' : a.1 ≠ k := fun z => e (r.1.symm.trans z)
      have e1 : valN (a :: l1) k = valN l1 k := by unfold valN; rw [List.find?_cons_of_neg (by simp [e'])]
      have e2 : atKey (b :: l2) k = atKey l2 k := by unfold atKey; rw [List.find?_cons_of_neg (by simp [e])]
      rw [e1, e2]
      exact ih
/-- d[k] = v -/
def putN (xs : List NV) (k : NK) (a : Addr) (v : V) : List NV := if (valN xs k).isSome = true then xs.map fun p => if p.1 = k then (p.1, p.2.1, v) else p else xs ++ [(k, a, v)]
theorem nvs_len {xs : List NV} {ys : List (NK × Addr × Value)} (h : NVs xs ys) : xs.length = ys.length := by
  induction h with
  | nil => rfl
  | cons _ _ ih => rw [List.length_cons, List.length_cons, ih]
theorem nvs_put {xs : List NV} {ys : List (NK × Addr × Value)} (h : NVs xs ys) {k : NK} {a : Addr} {v : V} {u : Value} (rv : RelV v u) : NVs (putN xs k a v) (storedH ys k a u) := by
  unfold putN storedH
  rcases nvs_val h k with ⟨e1, e2⟩ | ⟨w, p, e1, e2, _⟩
  · rw [e1, e2]
    simp only [Option.isSome_none, Bool.false_eq_true, if_false]
    exact Paired.snoc h ⟨rfl, rfl, rv⟩
  · rw [e1, e2]
    simp only [Option.isSome_some, if_true]
    clear e1 e2
    induction h with
    | nil => exact .nil
    | @cons a b l1 l2 r t ih =>
      refine .cons ?_ ih
      unfold putAt
      dsimp only
      by_cases e : b.1 = k
      · rw [if_pos e, if_pos (r.1.trans e)]
        exact ⟨r.1, r.2.1, rv⟩
      · rw [if_neg e, if_neg fun z => e (r.1.symm.trans z)]
        exact r
theorem putN_len (xs : List NV) (k : NK) (a : Addr) (v : V) : (putN xs k a v).length ≤ xs.length + 1 := by
  unfold putN
  split
  · simp
  · simp
section
variable {X : Cx} {A : Around} {E : Value → Shared → Prop} {pins : List (Addr × Obj)} {σ : L2.St} {H : Hp} {s : Shared} {a b : Addr} {k : NK} {xs : List NV}
theorem n_typeIs (I : Inv X pins σ H s) (e : Rd H a (DNO (KW X) a xs)) : s.TypeIs (.ref a) "dict" ∧ (∀ b, Value.ref a = .ref b → ∃ ob, s.heap.get? b = some ob ∧ ob.dict = none) ∧ (a == sysModules) = false := by
  obtain ⟨ys, h1, h2, h3, o, es, ep, e1, e2, e3, e4, e5⟩ := objN I e
  refine ⟨⟨o, e1, e2.1⟩, fun b q => ?_, h2⟩
  cases q
  exact ⟨o, e1, e2.2.1⟩
theorem n_getItem {v : V} {Q : Value → Shared → Prop} (hu : A.units + 10 < cLine) (I : Inv X pins σ H s) (e : Rd H a (DNO (KW X) a xs)) (hx : XsOk X.K H xs) (hk : KAt X.K H b k) (hv : valN xs k = some v) (h : ∀ w' s', Inv X pins σ H s' → RelV v w' → Q w' s') :
    wpAny (model X.prog X.w) A (getItem (.ref a) (.ref b)) Q E s := by
  obtain ⟨ys, h1, h2, h3, h4⟩ := dictN I e hx
  rcases nvs_val h1 k with ⟨z, _⟩ | ⟨w, p, z1, z2, z3⟩
  · rw [hv] at z; cases z
  · rw [hv] at z1
    cases z1
    exact wpAny_getItem_heap (show A.units + 1 + 8 < cLine by omega) (inv_kat I hk) h2 z2 (h _ _ (I.tok _) z3)
theorem n_in {Q : Value → Shared → Prop} (hu : A.units + 10 < cLine) (I : Inv X pins σ H s) (e : Rd H a (DNO (KW X) a xs)) (hx : XsOk X.K H xs) (hk : KAt X.K H b k) (h : ∀ s', Inv X pins σ H s' → Q (.bool (valN xs k).isSome) s') :
    wpAny (model X.prog X.w) A (compareOp .In (.ref b) (.ref a)) Q E s := by
  obtain ⟨ys, h1, h2, h3, h4⟩ := dictN I e hx
  refine wpAny_in_heap (show A.units + 1 + 8 < cLine by omega) (inv_kat I hk) h3 h2 ?_
  have : (atKey ys k).isSome = (valN xs k).isSome := by
    rcases nvs_val h1 k with ⟨z1, z2⟩ | ⟨w, p, z1, z2, z3⟩ <;> rw [z1, z2] <;> rfl
  rw [this]
  exact h _ (I.tok _)
theorem n_notIn {Q : Value → Shared → Prop} (hu : A.units + 10 < cLine) (I : Inv X pins σ H s) (e : Rd H a (DNO (KW X) a xs)) (hx : XsOk X.K H xs) (hk : KAt X.K H b k) (h : ∀ s', Inv X pins σ H s' → Q (.bool (!(valN xs k).isSome)) s') :
    wpAny (model X.prog X.w) A (compareOp .NotIn (.ref b) (.ref a)) Q E s := by
  obtain ⟨ys, h1, h2, h3, h4⟩ := dictN I e hx
  refine notIn_keyed (show A.units + 1 + 8 < cLine by omega) (inv_kat I hk) h3 ⟨ys, h2, rfl⟩ ?_
  have : (valueAt (pairsH ys) k).isSome = (valN xs k).isSome := by
    rw [valueAt_pairsH, Option.isSome_map]
    rcases nvs_val h1 k with ⟨z1, z2⟩ | ⟨w, p, z1, z2, z3⟩ <;> rw [z1, z2] <;> rfl
  rw [this]
  exact h _ (I.tok _)
theorem dno_new {P : Program} {w : World} {K : Kw} {H' : Hp} {h' : Heap} {ys : List (NK × Addr × Value)} (hl : ys.length ≤ sizeLine) (hd : (a == sysModules) = false) (rel : NVs xs ys) (hP : K.P = P) (hw : K.w = w) (dd : h'.DictOfH (nestedKind K.P K.w) a ys) : ObjOk P w H' h' a (DNO K a xs) := by
  obtain ⟨o, es, ep, e1, e2, e3, e4, e5, e6⟩ := dd
  refine ⟨⟨ys, rel, hd, hl, o, es, ep, e1, e2, e3, e4, e6⟩, ⟨o, e1⟩, fun h1 h2 p k => ?_⟩
  obtain ⟨ys', r, hd', hl', o', es', ep', f1, f2⟩ := p
  exact ⟨ys', r, hd', hl', o', es', ep', k o' f1, f2⟩
theorem n_setItem {v : V} {r : Value} {Q : Unit → Shared → Prop} (hu : A.units + 10 < cLine) (I : Inv X pins σ H s) (e : H a = some (DNO (KW X) a xs)) (hx : XsOk X.K H xs) (hk : KAt X.K H b k) (rv : RelV v r) (hl : xs.length < sizeLine)
    (h : ∀ s', Inv X pins σ (upd H a (DNO (KW X) a (putN xs k b v))) s' → Q () s') : wpAny (model X.prog X.w) A (setItem (.ref a) (.ref b) r) Q E s := by
  obtain ⟨ys, h1, h2, h3, h4⟩ := dictN I (.inl e) hx
  refine wpAny_setItem_heap (hsz := h4) (show A.units + 1 + 8 < cLine by omega) (inv_kat I hk) h2 fun h' dd hs => h _ ?_
  have he : ∃ q, h'.get? a = some q := let ⟨q, _, _, hq, _⟩ := dd; ⟨q, hq⟩
  have hput := nvs_put h1 (k := k) (a := b) rv
  have hlen : (storedH ys k b r).length ≤ sizeLine := by
    rw [← nvs_len hput]
    have := putN_len xs k b v
    omega
  exact d_write I (by rw [e]; exact True.intro) hs he (dno_new hlen h3 hput rfl rfl dd)
theorem n_sdf {v : V} {r : Value} {Q : Value → Shared → Prop} (hu : A.units + 10 < cLine) (I : Inv X pins σ H s) (e : H a = some (DNO (KW X) a xs)) (hx : XsOk X.K H xs) (hk : KAt X.K H b k) (rv : RelV v r) (hl : xs.length < sizeLine)
    (q1 : ∀ w w' s', valN xs k = some w → Inv X pins σ H s' → RelV w w' → Q w' s') (q2 : ∀ s', valN xs k = none → Inv X pins σ (upd H a (DNO (KW X) a (putN xs k b v))) s' → Q r s') :
    wpAny (model X.prog X.w) A (call (.builtin "dict.setdefault") [.ref a, .ref b, r]) Q E s := by
  obtain ⟨ys, h1, h2, h3, h4⟩ := dictN I (.inl e) hx
  refine call_setdefault_heap (hsz := h4) (show A.units + 1 + 8 < cLine by omega) (inv_kat I hk) h3 h2 (fun p hp => ?_) fun hn h' dd hs => ?_
  · rcases nvs_val h1 k with ⟨_, z⟩ | ⟨w, p', z1, z2, z3⟩
    · rw [hp] at z; cases z
    · rw [hp] at z2
      cases z2
      exact q1 w _ _ z1 (I.tok _) z3
  · rcases nvs_val h1 k with ⟨z, _⟩ | ⟨w, p', z1, z2, z3⟩
    · have he : ∃ q, h'.get? a = some q := let ⟨q, _, _, hq, _⟩ := dd; ⟨q, hq⟩
      have hput := nvs_put h1 (k := k) (a := b) rv
      have hlen : (storedH ys k b r).length ≤ sizeLine := by
        rw [← nvs_len hput]
        have := putN_len xs k b v
        omega
      exact q2 _ z (d_write I (by rw [e]; exact True.intro) hs he (dno_new hlen h3 hput rfl rfl dd))
    · rw [hn] at z2; cases z2
/-- an empty dict is one with tuple keys -/
theorem dk_dn (I : Inv X pins σ H s) (e : Rd H a (.dK [])) : ∃ ys, NVs [] ys ∧ DN0 (KW X) s.heap a ys := by
  obtain ⟨z, hd, vs, rel, o, es, ep, h1, h2, h3, h4, h5, _⟩ := dk_rd I.hok e
  cases rel
  refine ⟨[], .nil, hd, Nat.zero_le _, o, es, ep, h1, h2, h3, ?_, List.nodup_nil⟩
  generalize es.toList = l at h5
  cases h5
  rfl
end
-- a key's tuple has nothing to do with the store
section
variable {K : Kw} {mg : Str → Option Value} {L L' : List Addr} {R : Hp}
mutual
theorem nb_anyL : ∀ (d : D) {k : NK} {v : V}, d.nb = some k → Rep K mg L R v d → Rep K mg L' R v d
  | .non, _, _, _, r => by cases r; exact .non
  | .bl b, _, _, _, r => by cases r; exact .bl _
  | .int i, _, _, _, r => by cases r; exact .int _
  | .str x, _, _, _, r => by cases r; exact .str _
  | .tup ds, _, _, e, r => by
    rw [D.nb, Option.map_eq_some_iff] at e
    obtain ⟨ks, e, rfl⟩ := e
    cases r with
    | tup h1 h2 => exact .tup h1 (nbs_anyL ds e h2)
  | .lst _, _, _, e, _ => by simp [D.nb] at e
  | .dct _ _, _, _, e, _ => by simp [D.nb] at e
  | .ref _, _, _, e, _ => by simp [D.nb] at e
  | .fn _, _, _, e, _ => by simp [D.nb] at e
  | .exc _, _, _, e, _ => by simp [D.nb] at e
  | .scr _, _, _, e, _ => by simp [D.nb] at e
  | .fdc _ _, _, _, e, _ => by simp [D.nb] at e
  | .dnt _ _, _, _, e, _ => by simp [D.nb] at e
  | .fdn _ _, _, _, e, _ => by simp [D.nb] at e
  | .tpw _, _, _, e, _ => by simp [D.nb] at e
theorem nbs_anyL : ∀ (ds : List D) {ks : List NK} {vs : List V}, D.nbs ds = some ks → RepAll K mg L R vs ds → RepAll K mg L' R vs ds
  | [], _, _, _, r => by cases r; exact .nil
  | d :: ds, _, _, e, r => by
    rw [D.nbs, Option.bind_eq_some_iff] at e
    obtain ⟨k, e1, e2⟩ := e
    rw [Option.map_eq_some_iff] at e2
    obtain ⟨ks, e3, rfl⟩ := e2
    cases r with
    | cons h1 h2 => exact .cons (nb_anyL d e1 h1) (nbs_anyL ds e3 h2)
end
theorem ks_anyL : ∀ {xs : List NV} {ks : List D} {vs : List V}, ks.map D.nb = xs.map (fun p => some p.1) → RepAll K mg L R vs ks → RepAll K mg L' R vs ks
  | [], ks, _, hk, h => by
    cases ks with
    | nil => cases h; exact .nil
    | cons _ _ => cases hk
  | p :: xs, ks, _, hk, h => by
    cases ks with
    | nil => cases hk
    | cons kd ks =>
      cases h with
      | cons h1 h2 =>
        rw [List.map_cons, List.map_cons] at hk
        injection hk with e1 e2
        exact .cons (nb_anyL kd e1 h1) (ks_anyL e2 h2)
end
/-! ### as data -/
def dntOf : D → Option (List D × List D)
  | .dnt ks vs => some (ks, vs)
  | .fdn ks vs => some (ks, vs)
  | _ => none
def dgetN : List D → List D → NK → Option D
  | k :: ks, v :: vs, q => if k.nb = some q then some v else dgetN ks vs q
  | _, _, _ => none
def dsetN : List D → List D → NK → D → List D
  | k :: ks, v :: vs, q, d => (if k.nb = some q then d else v) :: dsetN ks vs q d
  | _, _, _, _ => []
def dputNK (ks vs : List D) (kd : D) (q : NK) : List D := if (dgetN ks vs q).isSome = true then ks else ks ++ [kd]
def dputNV (ks vs : List D) (q : NK) (d : D) : List D := if (dgetN ks vs q).isSome = true then dsetN ks vs q d else vs ++ [d]
section
variable {K : Kw} {mg : Str → Option Value} {L : List Addr} {R H : Hp}
theorem dnt_at {v : V} {d : D} {ks vs : List D} (hS : Same R H) (e : dntOf d = some (ks, vs)) (h : PRep K mg L R H v d) : ∃ a xs, v = .ref a ∧ Rd H a (DNO K a xs) ∧ KsOk xs ks ∧ RepAll K mg L R (xs.map fun p => V.ref p.2.1) ks ∧ RepAll K mg L R (xs.map (·.2.2)) vs := by
  unfold dntOf at e
  split at e
  · cases e
    obtain ⟨a, xs, h1, h2, h3, h4, h5⟩ := h
    exact ⟨a, xs, h1, h2, h3, h4, h5⟩
  · cases e
    have h : Rep K mg L R v (.fdn ks vs) := h
    cases h with
    | fN h1 h2 h3 h4 => exact ⟨_, _, rfl, .inr ⟨_, hS _ _ h1⟩, h2, h3, h4⟩
  · cases e
/-- a key, as data -/
def isNK (d : D) : Option NK := match d with
  | .tup _ => (match d.nb with
    | some k => if k.depth ≤ 8 then some k else none
    | none => none)
  | _ => none
theorem isNK_is {d : D} {k : NK} (h : isNK d = some k) : d.nb = some k ∧ k.depth ≤ 8 ∧ ∃ ds, d = .tup ds := by
  unfold isNK at h
  split at h
  · split at h
    · rename_i k' e
      split at h
      · cases h
        exact ⟨e, by assumption, _, rfl⟩
      · cases h
    · cases h
  · cases h
theorem kat_of {v : V} {d : D} {k : NK} (hS : Same R H) (h : isNK d = some k) (r : PRep K mg L R H v d) : ∃ b, v = .ref b ∧ KAt K H b k ∧ Rep K mg L R (.ref b) d := by
  obtain ⟨e1, e2, ds, rfl⟩ := isNK_is h
  have r : Rep K mg L R v (.tup ds) := r
  have r0 := r
  cases r with
  | tup q1 q2 => exact ⟨_, rfl, ⟨.tup ds, Rep.dp hS _ (nb_plain _ e1) r0, e1, e2⟩, r0⟩
theorem xsOk_of (hS : Same R H) : ∀ {xs : List NV} {ks : List D}, KsOk xs ks → RepAll K mg L R (xs.map fun p => V.ref p.2.1) ks → XsOk K H xs
  | [], _, _, _ => fun _ z => nomatch z
  | p :: xs, ks, hk, h => by
    cases h with
    | @cons _ _ d ds h1 h2 =>
      obtain ⟨e, hd⟩ := hk
      rw [List.map_cons, List.map_cons] at e
      injection e with e1 e2
      have ih := xsOk_of hS (xs := xs) (ks := ds) ⟨e2, fun q hq => hd q (List.mem_cons_of_mem _ hq)⟩ h2
      intro q hq
      rcases List.mem_cons.mp hq with z | z
      · rw [z]
        exact ⟨d, Rep.dp hS _ (nb_plain _ e1) h1, e1, hd p List.mem_cons_self⟩
      · exact ih q z
theorem dgetN_rep (q : NK) : ∀ {xs : List NV} {ks vs : List D}, ks.map D.nb = xs.map (fun p => some p.1) → RepAll K mg L R (xs.map (·.2.2)) vs → (valN xs q = none ∧ dgetN ks vs q = none) ∨ ∃ v d, valN xs q = some v ∧ dgetN ks vs q = some d ∧ Rep K mg L R v d
  | [], ks, _, hk, h => by
    cases h
    cases ks with
    | nil => exact .inl ⟨rfl, rfl⟩
    | cons _ _ => cases hk
  | p :: xs, ks, _, hk, h => by
    cases ks with
    | nil => cases hk
    | cons kd ks =>
      cases h with
      | @cons _ _ d ds h1 h2 =>
        rw [List.map_cons, List.map_cons] at hk
        injection hk with e1 e2
        by_cases e : p.1 = q
        · refine .inr ⟨p.2.2, d, ?_, ?_, h1⟩
          · unfold valN; rw [List.find?_cons_of_pos (by simp [e])]; rfl
          · rw [dgetN, if_pos (by rw [e1, e])]
        · have e3 : valN (p :: xs) q = valN xs q := by unfold valN; rw [List.find?_cons_of_neg (by simp [e])]
          rw [e3, dgetN, if_neg (by rw [e1]; exact fun z => e (Option.some.inj z))]
          exact dgetN_rep q e2 h2
theorem dgetN_is {q : NK} {xs : List NV} {ks vs : List D} (hk : ks.map D.nb = xs.map fun p => some p.1) (h : RepAll K mg L R (xs.map (·.2.2)) vs) : (valN xs q).isSome = (dgetN ks vs q).isSome := by
  rcases dgetN_rep q hk h with ⟨a, b⟩ | ⟨v, d, a, b, _⟩ <;> rw [a, b] <;> rfl
theorem dsetN_rep {q : NK} {y : V} {d : D} (hy : Rep K mg L R y d) : ∀ {xs : List NV} {ks vs : List D}, ks.map D.nb = xs.map (fun p => some p.1) → RepAll K mg L R (xs.map (·.2.2)) vs →
    RepAll K mg L R ((xs.map fun p => if p.1 = q then (p.1, p.2.1, y) else p).map (·.2.2)) (dsetN ks vs q d)
  | [], ks, _, hk, h => by
    cases h
    cases ks with
    | nil => exact .nil
    | cons _ _ => cases hk
  | p :: xs, ks, _, hk, h => by
    cases ks with
    | nil => cases hk
    | cons kd ks =>
      cases h with
      | @cons _ _ e ds h1 h2 =>
        rw [List.map_cons, List.map_cons] at hk
        injection hk with e1 e2
        have ih := dsetN_rep (q := q) hy e2 h2
        rw [dsetN, List.map_cons, List.map_cons]
        by_cases c : p.1 = q
        · rw [if_pos c, if_pos (by rw [e1, c])]
          exact .cons hy ih
        · rw [if_neg c, if_neg (by rw [e1]; exact fun z => c (Option.some.inj z))]
          exact .cons h1 ih
theorem dputN_rep {q : NK} {b : Addr} {y : V} {kd d : D} {xs : List NV} {ks vs : List D} (hk : KsOk xs ks) (ra : RepAll K mg L R (xs.map fun p => V.ref p.2.1) ks) (h : RepAll K mg L R (xs.map (·.2.2)) vs) (hb : Rep K mg L R (.ref b) kd) (hq : kd.nb = some q) (hd : q.depth ≤ 8) (hy : Rep K mg L R y d) :
    KsOk (putN xs q b y) (dputNK ks vs kd q) ∧ RepAll K mg L R ((putN xs q b y).map fun p => V.ref p.2.1) (dputNK ks vs kd q) ∧ RepAll K mg L R ((putN xs q b y).map (·.2.2)) (dputNV ks vs q d) := by
  unfold putN dputNK dputNV
  rw [dgetN_is hk.1 h]
  split
  · refine ⟨⟨?_, fun p hp => ?_⟩, ?_, dsetN_rep hy hk.1 h⟩
    · rw [hk.1, List.map_map]
      refine List.map_congr_left fun p _ => ?_
      show some p.1 = some (if p.1 = q then (p.1, p.2.1, y) else p).1
      split <;> rfl
    · obtain ⟨p0, h0, rfl⟩ := List.mem_map.mp hp
      have := hk.2 p0 h0
      split <;> exact this
    · have e : (xs.map fun p => if p.1 = q then (p.1, p.2.1, y) else p).map (fun p => V.ref p.2.1) = xs.map fun p => V.ref p.2.1 := by
        rw [List.map_map]
        refine List.map_congr_left fun p _ => ?_
        show V.ref (if p.1 = q then (p.1, p.2.1, y) else p).2.1 = _
        split <;> rfl
      rw [e]
      exact ra
  · refine ⟨⟨?_, fun p hp => ?_⟩, ?_, ?_⟩
    · rw [List.map_append, List.map_append, hk.1]
      show _ ++ [kd.nb] = _ ++ [some q]
      rw [hq]
    · rcases List.mem_append.mp hp with hp | hp
      · exact hk.2 p hp
      · rw [List.mem_singleton.mp hp]; exact hd
    · rw [List.map_append]
      exact ra.append (.one hb)
    · rw [List.map_append]
      exact h.append (.one hy)
end
end UW
namespace UW
open PySem PySem.Spec PyProof.Rows L2

/-! ### dicts -/
def keyD : D → Option Key
  | .int i => some (.inl i)
  | .str x => some (.inr x)
  | _ => none
@[simp] theorem keyD_kD (k : Key) : keyD (kD k) = some k := by cases k <;> rfl
def dget : List D → List D → Key → Option D
  | k :: ks, v :: vs, q => if keyD k = some q then some v else dget ks vs q
  | _, _, _ => none
def dset : List D → List D → Key → D → List D
  | k :: ks, v :: vs, q, d => (if keyD k = some q then d else v) :: dset ks vs q d
  | _, _, _, _ => []
def dputK (ks vs : List D) (q : Key) : List D := if (dget ks vs q).isSome = true then ks else ks ++ [kD q]
def dputV (ks vs : List D) (q : Key) (d : D) : List D := if (dget ks vs q).isSome = true then dset ks vs q d else vs ++ [d]
section
variable {K : Kw} {mg : Str → Option Value} {L : List Addr} {R H : Hp}
theorem key_val {v : V} {d : D} {q : Key} (e : keyD d = some q) (h : PRep K mg L R H v d) : v = kV q := by
  unfold keyD at e
  split at e
  · cases e
    have h : Rep K mg L R v (.int _) := h
    cases h
    rfl
  · cases e
    have h : Rep K mg L R v (.str _) := h
    cases h
    rfl
  · cases e
abbrev kds (kvs : List (Key × V)) : List D := kvs.map fun p => kD p.1
theorem dget_rep (q : Key) : ∀ {kvs : List (Key × V)} {vs : List D}, RepAll K mg L R (kvs.map (·.2)) vs → (valV kvs q = none ∧ dget (kds kvs) vs q = none) ∨ ∃ v d, valV kvs q = some v ∧ dget (kds kvs) vs q = some d ∧ Rep K mg L R v d
  | [], _, h => by cases h; exact .inl ⟨rfl, rfl⟩
  | p :: kvs, _, h => by
    cases h with
    | @cons v _ d ds h1 h2 =>
      by_cases e : p.1 = q
      · refine .inr ⟨p.2, d, valV_pos e, ?_, h1⟩
        show (if keyD (kD p.1) = some q then some d else _) = some d
        rw [if_pos (by rw [keyD_kD, e])]
      · have e2 : dget (kds (p :: kvs)) (d :: ds) q = dget (kds kvs) ds q := by
          show (if keyD (kD p.1) = some q then some d else _) = _
          rw [if_neg (by rw [keyD_kD]; exact fun z => e (Option.some.inj z))]
        rw [e2, valV_neg e]
        exact dget_rep q h2
theorem dget_is {q : Key} {kvs : List (Key × V)} {vs : List D} (h : RepAll K mg L R (kvs.map (·.2)) vs) : (valV kvs q).isSome = (dget (kds kvs) vs q).isSome := by
  rcases dget_rep q h with ⟨a, b⟩ | ⟨v, d, a, b, _⟩
  · rw [a, b]
    rfl
  · rw [a, b]
    rfl
theorem dset_rep {q : Key} {y : V} {d : D} (hy : Rep K mg L R y d) : ∀ {kvs : List (Key × V)} {vs : List D}, RepAll K mg L R (kvs.map (·.2)) vs →
    RepAll K mg L R ((kvs.map fun kv => if kv.1 = q then (kv.1, y) else kv).map (·.2)) (dset (kds kvs) vs q d)
  | [], _, h => by cases h; exact .nil
  | p :: kvs, _, h => by
    cases h with
    | @cons v _ e ds h1 h2 =>
      have ih := dset_rep (q := q) hy h2
      by_cases c : p.1 = q
      · have e1 : dset (kds (p :: kvs)) (e :: ds) q d = d :: dset (kds kvs) ds q d := by
          show (if keyD (kD p.1) = some q then d else e) :: _ = _
          rw [if_pos (by rw [keyD_kD, c])]
        rw [e1, List.map_cons, if_pos c]
        exact .cons hy ih
      · have e1 : dset (kds (p :: kvs)) (e :: ds) q d = e :: dset (kds kvs) ds q d := by
          show (if keyD (kD p.1) = some q then d else e) :: _ = _
          rw [if_neg (by rw [keyD_kD]; exact fun z => c (Option.some.inj z))]
        rw [e1, List.map_cons, if_neg c]
        exact .cons h1 ih
theorem dput_rep {q : Key} {y : V} {d : D} {kvs : List (Key × V)} {vs : List D} (h : RepAll K mg L R (kvs.map (·.2)) vs) (hy : Rep K mg L R y d) :
    dputK (kds kvs) vs q = kds (putK kvs q y) ∧ RepAll K mg L R ((putK kvs q y).map (·.2)) (dputV (kds kvs) vs q d) := by
  have e : (kvs.any fun kv => decide (kv.1 = q)) = (dget (kds kvs) vs q).isSome := by rw [valV_any]; exact dget_is h
  unfold dputK dputV putK
  rw [e]
  split
  · refine ⟨?_, dset_rep hy h⟩
    rw [kds, kds, List.map_map]
    refine List.map_congr_left fun p _ => ?_
    show kD p.1 = kD (if p.1 = q then (p.1, y) else p).1
    split <;> rfl
  · refine ⟨?_, ?_⟩
    · rw [kds, kds, List.map_append]
      rfl
    · rw [List.map_append]
      exact h.append (.one hy)
end
/-- a dict's keys and values -/
def dctOf : D → Option (List D × List D)
  | .dct ks vs => some (ks, vs)
  | .fdc ks vs => some (ks, vs)
  | _ => none
theorem dct_at {K : Kw} {mg : Str → Option Value} {L : List Addr} {R H : Hp} {v : V} {d : D} {ks vs : List D} (hS : Same R H) (e : dctOf d = some (ks, vs)) (h : PRep K mg L R H v d) : ∃ a kvs, v = .ref a ∧ Rd H a (.dK kvs) ∧ ks = kds kvs ∧ RepAll K mg L R (kvs.map (·.2)) vs := by
  unfold dctOf at e
  split at e
  · cases e
    obtain ⟨a, kvs, h1, h2, h3, h4⟩ := h
    exact ⟨a, kvs, h1, h2, h3, h4⟩
  · cases e
    have h : Rep K mg L R v (.fdc ks vs) := h
    cases h with
    | fdc h1 h2 => exact ⟨_, _, rfl, .inr ⟨_, hS _ _ h1⟩, rfl, h2⟩
  · cases e

/-! ### items, slices -/
section
variable {K : Kw} {mg : Str → Option Value} {L : List Addr} {R H : Hp}
theorem RepAll.at {xs : List V} {ds : List D} {i : Int} {d : D} (h : RepAll K mg L R xs ds) (e : atI ds i = some d) : ∃ v, atI xs i = some v ∧ Rep K mg L R v d := by
  unfold atI at e ⊢
  rw [h.length]
  cases q : ixN ds.length i with
  | none => rw [q] at e; cases e
  | some j =>
    rw [q] at e
    exact h.get e
theorem atI_map {A B : Type} (f : A → B) (xs : List A) (i : Int) : atI (xs.map f) i = (atI xs i).map f := by
  unfold atI
  rw [List.length_map]
  cases ixN xs.length i with
  | none => rfl
  | some j => exact List.getElem?_map
def cutD {A : Type} (ds : List A) (lo hi : Option Int) : List A := (ds.drop (HT.sIx ds.length 0 lo)).take (HT.sIx ds.length ds.length hi - HT.sIx ds.length 0 lo)
theorem RepAll.cut {xs : List V} {ds : List D} (h : RepAll K mg L R xs ds) (lo hi : Option Int) : RepAll K mg L R (cutV xs lo hi) (cutD ds lo hi) := by
  unfold cutV cutD
  rw [h.length]
  exact (h.drop _).take _
/-- x[i] -/
def opIx : D → D → Option TV
  | .lst ds, .int i => (atI ds i).map fun d => ⟨.cl, d⟩
  | .tup ds, .int i => (atI ds i).map fun d => ⟨.cl, d⟩
  | .scr ns, .int i => (atI ns i).map fun n => ⟨.cl, .int n⟩
  | .str z, .int i => if z.length ≤ 16777216 then (atI z.cps.toList i).map fun c => ⟨.cl, .str ⟨#[c]⟩⟩ else none
  | .dct ks vs, k => (keyD k).bind fun q => (dget ks vs q).map fun d => ⟨.cl, d⟩
  | .fdc ks vs, k => (keyD k).bind fun q => (dget ks vs q).map fun d => ⟨.cl, d⟩
  | .dnt ks vs, k => (isNK k).bind fun q => (dgetN ks vs q).map fun d => ⟨.cl, d⟩
  | .fdn ks vs, k => (isNK k).bind fun q => (dgetN ks vs q).map fun d => ⟨.cl, d⟩
  | _, _ => none
def rIxD : R2 := fun x y H Q => ∃ a v, x = .ref a ∧ DGet H a y (some v) ∧ Q v H
theorem ix_dict {X : Cx} (hu : X.A.units + 1 < cLine) : IxR X rIxD := by
  intro value slice pins s σ H x y v u Q I rx ry h hs
  obtain ⟨a, w, rfl, g, q⟩ := h
  cases rx
  refine tail_any (dict_typeIs I g) PySem.F.slot_dict_getitem.lookup ?_ hs
  exact d_getItem hu I g ry fun w' s3 I3 rw' => ⟨w, H, I3, rw', q⟩
def rIxN (K : Kw) : R2 := fun x y H Q => ∃ a b xs k v, x = .ref a ∧ y = .ref b ∧ Rd H a (DNO K a xs) ∧ XsOk K H xs ∧ KAt K H b k ∧ valN xs k = some v ∧ Q v H
theorem ix_dictN {X : Cx} (hu : X.A.units + 10 < cLine) : IxR X (rIxN (KW X)) := by
  intro value slice pins s σ H x y v u Q I rx ry h hs
  obtain ⟨a, b, xs, k, w, rfl, rfl, hr, hx, hk, hv, q⟩ := h
  cases rx
  cases ry
  refine tail_any (n_typeIs I hr).1 PySem.F.slot_dict_getitem.lookup ?_ hs
  exact n_getItem hu I hr hx hk hv fun w' s3 I3 rw' => ⟨w, H, I3, rw', q⟩
def rIx (K : Kw) : R2 := fun x y H Q => (((rIxL K x y H Q ∨ rIxT K x y H Q) ∨ rIxS x y H Q) ∨ rIxD x y H Q) ∨ rIxN K x y H Q
theorem ix_all {X : Cx} (hu : X.A.units + 10 < cLine) : IxR X (rIx (KW X)) := (((ix_list.or ix_tup).or ix_str).or (ix_dict (by omega))).or (ix_dictN hu)
theorem ixN_read {C : Cn} {ρ : DSt} {σ : L2.St} {s : Sto} {x y : V} {dx dy : D} {ks vs : List D} {tv : TV} {Q : VK} (rel : Rel K mg C R ρ σ H s) (px : PRep K mg C.L R H x dx) (py : PRep K mg C.L R H y dy) (hd : dntOf dx = some (ks, vs))
    (e : ((isNK dy).bind fun q => (dgetN ks vs q).map fun d => (⟨.cl, d⟩ : TV)) = some tv) (ok : OkE K mg ρ σ C R Q tv s) : rIxN K x y H Q := by
  obtain ⟨a, xs, rfl, h1, h2, h3, h4⟩ := dnt_at rel.bas.sub hd px
  rw [Option.bind_eq_some_iff] at e
  obtain ⟨q, ek, e⟩ := e
  rw [Option.map_eq_some_iff] at e
  obtain ⟨d, e, rfl⟩ := e
  obtain ⟨b, rfl, kat, _⟩ := kat_of rel.bas.sub ek py
  rcases dgetN_rep q h2.1 h4 with ⟨_, z⟩ | ⟨v, d', z1, z2, z3⟩
  · rw [e] at z; cases z
  · rw [e] at z2
    cases z2
    exact ⟨a, b, xs, q, v, rfl, rfl, h1, xsOk_of rel.bas.sub h2 h3, kat, z1, OkE.cl ok rel z3⟩
theorem ixD_read {C : Cn} {ρ : DSt} {σ : L2.St} {s : Sto} {x y : V} {dx dy : D} {ks vs : List D} {tv : TV} {Q : VK} (rel : Rel K mg C R ρ σ H s) (px : PRep K mg C.L R H x dx) (py : PRep K mg C.L R H y dy) (hd : dctOf dx = some (ks, vs))
    (e : ((keyD dy).bind fun q => (dget ks vs q).map fun d => (⟨.cl, d⟩ : TV)) = some tv) (ok : OkE K mg ρ σ C R Q tv s) : rIxD x y H Q := by
  obtain ⟨a, kvs, rfl, h1, rfl, h2⟩ := dct_at rel.bas.sub hd px
  cases ek : keyD dy with
  | none => rw [ek] at e; cases e
  | some q =>
    rw [ek] at e
    have ey := key_val ek py
    rcases dget_rep q h2 with ⟨_, z⟩ | ⟨v, d, z1, z2, z3⟩
    · have e : (dget (kds kvs) vs q).map (fun d => (⟨.cl, d⟩ : TV)) = some tv := e
      rw [z] at e
      cases e
    · have e : (dget (kds kvs) vs q).map (fun d => (⟨.cl, d⟩ : TV)) = some tv := e
      rw [z2] at e
      cases e
      exact ⟨a, v, rfl, .inl ⟨kvs, q, h1, ey, z1.symm⟩, OkE.cl ok rel z3⟩
theorem b2_ix : B2 K mg (rIx K) opIx := by
  intro C R ρ σ H s x y dx dy tv Q rel px py e ok
  unfold opIx at e
  split at e
  · rename_i ds i
    cases q : atI ds i with
    | none => rw [q] at e; cases e
    | some d =>
      rw [q] at e
      cases e
      obtain ⟨a, xs, rfl, h1, h2⟩ := px
      obtain ⟨v, h3, h4⟩ := h2.at q
      exact .inl (.inl (.inl (.inl ⟨a, xs, i, v, rfl, py.int, SqL.of h1, h3, OkE.cl ok rel h4⟩)))
  · rename_i ds i
    cases q : atI ds i with
    | none => rw [q] at e; cases e
    | some d =>
      rw [q] at e
      cases e
      obtain ⟨a, xs, rfl, h1, h2⟩ := px.tup
      obtain ⟨v, h3, h4⟩ := h2.at q
      exact .inl (.inl (.inl (.inr ⟨a, xs, i, v, rfl, py.int, Same.tupl rel.bas.sub h1, h3, OkE.cl ok rel h4⟩)))
  · rename_i ns i
    cases q : atI ns i with
    | none => rw [q] at e; cases e
    | some d =>
      rw [q] at e
      cases e
      obtain ⟨a, rfl, h1⟩ := PRep.scr rel.bas.sub px
      exact .inl (.inl (.inl (.inl ⟨a, _, i, .int d, rfl, py.int, h1, by rw [atI_map, q]; rfl, OkE.cl ok rel (.int d)⟩)))
  · rename_i z i
    split at e
    · rename_i hz
      cases q : atI z.cps.toList i with
      | none => rw [q] at e; cases e
      | some c =>
        rw [q] at e
        cases e
        exact .inl (.inl (.inr ⟨z, i, c, px.str, py.int, hz, q, OkE.cl ok rel (.str _)⟩))
    · cases e
  · exact .inl (.inr (ixD_read rel px py rfl e ok))
  · exact .inl (.inr (ixD_read rel px py rfl e ok))
  · exact .inr (ixN_read rel px py rfl e ok)
  · exact .inr (ixN_read rel px py rfl e ok)
  · cases e
/-- x[lo:hi] -/
def opSl : D → Option Int → Option Int → Option TV
  | .lst ds, lo, hi => some ⟨.fr, .lst (cutD ds lo hi)⟩
  | .tup ds, lo, hi => some ⟨.cl, .tup (cutD ds lo hi)⟩
  | .str z, lo, hi => if z.length ≤ 16777216 then some ⟨.cl, .str (cutS z lo hi)⟩ else none
  | _, _, _ => none
def rSl (K : PySem.W.Frag) : V → Option Int → Option Int → Hp → VK → Prop := fun x lo hi H Q => (rSlL K x lo hi H Q ∨ rSlN K x lo hi H Q) ∨ rSlS x lo hi H Q
theorem sl_all {X : Cx} : SlR X (rSl X.K) := (sl_list.or sl_tupN).or sl_str
theorem cutD_whole {A : Type} (ds : List A) (lo hi : Option Int) (h1 : HT.sIx ds.length 0 lo = 0) (h2 : HT.sIx ds.length ds.length hi = ds.length) : cutD ds lo hi = ds := by
  unfold cutD
  rw [h1, h2, List.drop_zero, Nat.sub_zero, List.take_length]
theorem b_sl {C : Cn} {ρ : DSt} {σ : L2.St} {s : Sto} {x : V} {dx : D} {lo hi : Option Int} {tv : TV} {Q : VK} (rel : Rel K mg C R ρ σ H s) (px : PRep K mg C.L R H x dx) (e : opSl dx lo hi = some tv) (ok : OkE K mg ρ σ C R Q tv s) : rSl K x lo hi H Q := by
  unfold opSl at e
  split at e
  · rename_i ds
    cases e
    obtain ⟨a, xs, rfl, h1, h2⟩ := px
    refine .inl (.inl ⟨a, xs, rfl, SqL.of h1, fun p hp => ?_⟩)
    exact ok _ C R _ (.refl C) (L2.Same.refl R) (rel.allocF hp) (rel.fresh (d := .lst _) hp ⟨_, upd_same, h2.cut lo hi⟩)
  · rename_i ds
    cases e
    obtain ⟨a, xs, rfl, h1, h2⟩ := px.tupN
    refine .inl (.inr ⟨a, xs, ⟨rfl, Same.tupl rel.bas.sub h1.sq⟩, fun hw => ?_, fun hw p ob hp to => ?_⟩)
    · rw [h2.length] at hw
      rw [cutD_whole ds lo hi hw.1 hw.2] at ok
      exact OkE.cl ok rel (.tup h1 h2)
    · obtain ⟨r2, x2⟩ := rel.alloc (o := .frz ob (.tup (cutV xs lo hi))) hp
      exact ok _ C _ _ (.refl C) r2 x2 (.tup (TupN.new to) ((h2.cut lo hi).mono (List.prefix_refl _) r2))
  · rename_i z
    split at e
    · rename_i hz
      cases e
      exact .inr ⟨z, px.str, hz, OkE.cl ok rel (.str _)⟩
    · cases e
  · cases e
end
abbrev O := DSt → Sto → Res (Option Int)
def oNone : O := fun _ s => .ok none s
def oSome (a : E) : O := fun ρ s => (a ρ s).bind fun x s1 => match x.d with
  | .int i => .ok (some i) s1
  | _ => .bad
def OkO (K : Kw) (mg : Str → Option Value) (ρ : DSt) (σ : L2.St) (C : Cn) (R : Hp) (Q : Option Int → Hp → Prop) (o : Option Int) (s' : Sto) : Prop :=
  ∀ C' R' H', C.Le C' → Same R R' → Rel K mg C' R' ρ σ H' s' → Q o H'
def tDO (K : Kw) (mg : Str → Option Value) (W : WX) (f : O) : TO := fun σ H Q => ∃ C R ρ s, Rel K mg C R ρ σ H s ∧ PostR K mg W σ C R (OkO K mg ρ σ C R Q) (f ρ s)
abbrev DO (X : Cx) (W : WX) (e : Option Expr) (f : O) : Prop := PO X e (tDO (KW X) X.mg W f)
theorem seqO {K : Kw} {mg : Str → Option Value} {W : WX} {C : Cn} {R H : Hp} {ρ : DSt} {σ : L2.St} {s : Sto} {A : Type} {f : O} {g : Option Int → Sto → Res A} {P : A → Sto → Prop} {Q' : Option Int → Hp → Prop} (x : Rel K mg C R ρ σ H s) (h : PostR K mg W σ C R P ((f ρ s).bind g))
    (k : ∀ b s1 C1 R1 H1, C.Le C1 → Same R R1 → Rel K mg C1 R1 ρ σ H1 s1 → PostR K mg W σ C R P (g b s1) → Q' b H1) : tDO K mg W f σ H Q' := by
  refine ⟨C, R, ρ, s, x, ?_⟩
  cases e : f ρ s with
  | ok tv s1 => rw [e] at h; exact fun C1 R1 H1 e1 e2 e3 => k tv s1 C1 R1 H1 e1 e2 e3 h
  | exc c s1 => rw [e] at h; exact h
  | bad => rw [e] at h; exact h
def eIx (a i : E) : E := eOp opIx a i
def eSl (a : E) (lo hi : O) : E := fun ρ s => (a ρ s).bind fun x s1 => (lo ρ s1).bind fun l s2 => (hi ρ s2).bind fun h s3 => match opSl x.d l h with
  | some tv => .ok tv s3
  | none => .bad
theorem PO.weak {X : Cx} {e : Option Expr} {t t' : TO} (h : PO X e t) (k : ∀ σ H Q, t' σ H Q → t σ H Q) : PO X e t' := ⟨fun pins s σ H Q I q => h.run pins s σ H Q I (k σ H Q q)⟩
section
variable {X : Cx} {W : WX} {a b : Expr} {fa fb : E} {pos p2 : Pos}
theorem do_none : DO X W none oNone := PO.weak po_none fun σ H Q ⟨C, R, ρ, s, x, h⟩ => h C R H (.refl C) (L2.Same.refl R) x
theorem do_some (ha : DE X W a fa) : DO X W (some a) (oSome fa) := PO.weak (po_some ha) fun σ H Q ⟨C, R, ρ, s, x, h⟩ => by
  refine seqE x h fun tv s1 v C1 R1 H1 l1 r1 x1 v1 h1 => ?_
  split at h1
  · rename_i i e
    have z := VRep.look x1 v1
    rw [e] at z
    exact ⟨i, z.int, h1 C1 R1 H1 l1 r1 x1⟩
  · exact h1.elim
theorem de_ix (hu : X.A.units + 10 < cLine) (ha : DE X W a fa) (hb : DE X W b fb) (hs : PlainIx b) : DE X W (.Subscript a b pos) (eIx fa fb) := PE.weak (pe_ix (ix_all hu) ha hb hs) fun _ _ _ h => op_read b2_ix h
theorem de_sl {lo hi : Option Expr} {fl fh : O} (ha : DE X W a fa) (hl : DO X W lo fl) (hh : DO X W hi fh) : DE X W (.Subscript a (.Slice lo hi none p2) pos) (eSl fa fl fh) :=
  PE.weak (pe_slice sl_all ha hl hh) fun σ H Q ⟨C, R, ρ, s, x, h⟩ => by
    refine seqE x h fun tv s1 v C1 R1 H1 l1 r1 x1 v1 h1 => ?_
    obtain ⟨R2, r2, x2, v2⟩ := x1.kept v1
    refine seqO x2 (PostR.mono l1 (L2.Same.trans r1 r2) (fun _ _ z => z) h1) fun lo s3 C3 R3 H3 l3 r3 x3 h3 => ?_
    refine seqO x3 (PostR.mono l3 r3 (fun _ _ z => z) h3) fun hi s4 C4 R4 H4 l4 r4 x4 h4 => ?_
    split at h4
    · rename_i tz e
      have p1 := VRep.look x4 (v2.mono (H2 := H4) (l3.trans l4) (L2.Same.trans r3 r4) tv.keep_nf)
      rw [TV.keep_d] at p1
      exact b_sl x4 p1 e (OkE.mono (l1.trans (l3.trans l4)) (L2.Same.trans r1 (L2.Same.trans r2 (L2.Same.trans r3 r4))) h4)
    · exact h4.elim
end

/-! ### built-in functions -/
inductive PReps (K : Kw) (mg : Str → Option Value) (L : List Addr) (R H : Hp) : List V → List D → Prop
  | nil : PReps K mg L R H [] []
  | cons {v : V} {vs : List V} {d : D} {ds : List D} : PRep K mg L R H v d → PReps K mg L R H vs ds → PReps K mg L R H (v :: vs) (d :: ds)
theorem VReps.look {K : Kw} {mg : Str → Option Value} {C : Cn} {R H : Hp} {ρ : DSt} {σ : L2.St} {s : Sto} (x : Rel K mg C R ρ σ H s) : ∀ {vs : List V} {tvs : List TV}, VReps K mg C R ρ σ H vs tvs → PReps K mg C.L R H vs (tvs.map (·.d))
  | _, _, .nil => .nil
  | _, _, .cons h1 _ h3 => .cons (VRep.look x h1) (h3.look x)
/-- what a call on looked-at values does -/
def BL (K : Kw) (mg : Str → Option Value) (r : List V → Hp → VK → Prop) (op : List D → Option TV) : Prop :=
  ∀ C R ρ σ H s vs ds tv Q, Rel K mg C R ρ σ H s → PReps K mg C.L R H vs ds → op ds = some tv → OkE K mg ρ σ C R Q tv s → r vs H Q
def eB (op : List D → Option TV) (l : EL) : E := fun ρ s => (l ρ s).bind fun tvs s1 => match op (tvs.map (·.d)) with
  | some tv => .ok tv s1
  | none => .bad
def orElseL (f g : List D → Option TV) : List D → Option TV := fun a => match f a with
  | some tv => some tv
  | none => g a
theorem BL.or {K : Kw} {mg : Str → Option Value} {r r' : List V → Hp → VK → Prop} {f g : List D → Option TV} (h : BL K mg r f) (h' : BL K mg r' g) : BL K mg (fun x H Q => r x H Q ∨ r' x H Q) (orElseL f g) := by
  intro C R ρ σ H s vs ds tv Q rel px e ok
  unfold orElseL at e
  split at e
  · rename_i tv' e'
    cases e
    exact .inl (h C R ρ σ H s vs ds tv Q rel px e' ok)
  · exact .inr (h' C R ρ σ H s vs ds tv Q rel px e ok)
theorem B_read {X : Cx} {W : WX} {r : List V → Hp → VK → Prop} {op : List D → Option TV} {fl : EL} (hb : BL (KW X) X.mg r op) {σ : L2.St} {H : Hp} {Q : VK} (h : tD (KW X) X.mg W (eB op fl) σ H Q) : tCB r (tDL (KW X) X.mg W fl) σ H Q := by
  obtain ⟨C, R, ρ, s, x, h⟩ := h
  refine seqL x h fun tvs s1 vs C1 R1 H1 l1 r1 x1 v1 h1 => ?_
  split at h1
  · rename_i tz e
    exact hb C1 R1 ρ σ H1 s1 vs _ tz Q x1 (v1.look x1) e (OkE.mono l1 r1 h1)
  · exact h1.elim
section
variable {X : Cx} {W : WX} {e : Expr} {es : List Expr} {fl : EL} {x : Str} {p pos : Pos} {id T : String} {r : List V → Hp → VK → Prop} {op : List D → Option TV}
theorem de_callB (hc : CallR X (.builtin id) r) (hB : BL (KW X) X.mg r op) (hg : Gl X x) (hm : X.mg x = none) (hv : bootBuiltins x = some (.builtin id)) (ha : DL X W (e :: es) fl) (hn : x ≠ "__name__") (hdb : (x == ("__debug__" : Str)) = false)
    (he : starEach (e :: es) X.env = (false, eval e X.env) :: starEach es X.env) (hpl : (backTo pos (starEach es X.env)).any (·.1) = false) : DE X W (.Call (.Name x p) (e :: es) [] pos) (eB op fl) :=
  PE.weak (pe_callB hc hg hm hv ha hn hdb he hpl) fun _ _ _ h => B_read hB h
theorem de_callTy (hc : CallR X (.type T) r) (hB : BL (KW X) X.mg r op) (hg : Gl X x) (hm : X.mg x = none) (hv : bootBuiltins x = some (.type T)) (ha : DL X W (e :: es) fl) (hn : x ≠ "__name__") (hdb : (x == ("__debug__" : Str)) = false)
    (he : starEach (e :: es) X.env = (false, eval e X.env) :: starEach es X.env) (hpl : (backTo pos (starEach es X.env)).any (·.1) = false) : DE X W (.Call (.Name x p) (e :: es) [] pos) (eB op fl) :=
  PE.weak (pe_callTy hc hg hm hv ha hn hdb he hpl) fun _ _ _ h => B_read hB h
end
section
variable {K : Kw} {mg : Str → Option Value}
theorem PReps.one {L : List Addr} {R H : Hp} {vs : List V} {d : D} (h : PReps K mg L R H vs [d]) : ∃ v, vs = [v] ∧ PRep K mg L R H v d := by
  cases h with
  | cons h1 h2 => cases h2; exact ⟨_, rfl, h1⟩
theorem PReps.two {L : List Addr} {R H : Hp} {vs : List V} {d e : D} (h : PReps K mg L R H vs [d, e]) : ∃ v w, vs = [v, w] ∧ PRep K mg L R H v d ∧ PRep K mg L R H w e := by
  cases h with
  | cons h1 h2 =>
    obtain ⟨w, rfl, h3⟩ := h2.one
    exact ⟨_, w, rfl, h1, h3⟩
/-- len -/
def bLen : List D → Option TV
  | [.lst ds] => some ⟨.cl, .int ds.length⟩
  | [.tup ds] => some ⟨.cl, .int ds.length⟩
  | [.scr ns] => some ⟨.cl, .int ns.length⟩
  | [.str z] => if z.length ≤ 16777216 then some ⟨.cl, .int z.length⟩ else none
  | _ => none
def rLen (K : PySem.W.Frag) : List V → Hp → VK → Prop := fun xs H Q => (∃ p ys, xs = [V.ref p] ∧ (SqL K H p ys ∨ SqT K H p ys) ∧ Q (.int ys.length) H) ∨ ∃ z, xs = [V.str z] ∧ z.length ≤ sizeLine ∧ Q (.int z.length) H
theorem cr_len {X : Cx} : CallR X (.builtin "len") (rLen X.K) := call_len_seq.or call_len_str
theorem bl_len : BL K mg (rLen K) bLen := by
  intro C R ρ σ H s vs ds tv Q rel px e ok
  unfold bLen at e
  split at e
  · cases e
    obtain ⟨v, rfl, h⟩ := px.one
    obtain ⟨a, xs, rfl, h1, h2⟩ := h
    refine .inl ⟨a, xs, rfl, .inl (SqL.of h1), ?_⟩
    rw [h2.length]
    exact OkE.cl ok rel (.int _)
  · cases e
    obtain ⟨v, rfl, h⟩ := px.one
    obtain ⟨a, xs, rfl, h1, h2⟩ := h.tup
    refine .inl ⟨a, xs, rfl, .inr (Same.tupl rel.bas.sub h1), ?_⟩
    rw [h2.length]
    exact OkE.cl ok rel (.int _)
  · cases e
    obtain ⟨v, rfl, h⟩ := px.one
    obtain ⟨a, rfl, h1⟩ := PRep.scr rel.bas.sub h
    refine .inl ⟨a, _, rfl, .inl h1, ?_⟩
    rw [List.length_map]
    exact OkE.cl ok rel (.int _)
  · rename_i z
    split at e
    · rename_i hz
      cases e
      obtain ⟨v, rfl, h⟩ := px.one
      rw [h.str]
      exact .inr ⟨z, rfl, hz, OkE.cl ok rel (.int _)⟩
    · cases e
  · cases e
/-- the truth values of a list -/
def bools : List D → Option (List Bool)
  | [] => some []
  | .bl b :: r => (bools r).map (b :: ·)
  | _ :: _ => none
theorem bools_rep {L : List Addr} {R : Hp} : ∀ {ds : List D} {bs : List Bool} {xs : List V}, bools ds = some bs → RepAll K mg L R xs ds → xs = bs.map V.bl
  | [], _, _, e, h => by cases h; cases e; rfl
  | .bl b :: r, _, _, e, h => by
    cases h with
    | cons h1 h2 =>
      unfold bools at e
      cases q : bools r with
      | none => rw [q] at e; cases e
      | some bs =>
        rw [q] at e
        cases e
        cases h1
        rw [bools_rep q h2]
        rfl
  | .non :: _, _, _, e, _ => by cases e
  | .int _ :: _, _, _, e, _ => by cases e
  | .str _ :: _, _, _, e, _ => by cases e
  | .tup _ :: _, _, _, e, _ => by cases e
  | .lst _ :: _, _, _, e, _ => by cases e
  | .dct _ _ :: _, _, _, e, _ => by cases e
  | .ref _ :: _, _, _, e, _ => by cases e
  | .fn _ :: _, _, _, e, _ => by cases e
  | .exc _ :: _, _, _, e, _ => by cases e
  | .scr _ :: _, _, _, e, _ => by cases e
def bAll : List D → Option TV
  | [.lst ds] => (bools ds).map fun bs => ⟨.cl, .bl (bs.all id)⟩
  | _ => none
def bAny : List D → Option TV
  | [.lst ds] => (bools ds).map fun bs => ⟨.cl, .bl (bs.any id)⟩
  | _ => none
theorem bl_all : BL K mg (rAll K) bAll := by
  intro C R ρ σ H s vs ds tv Q rel px e ok
  unfold bAll at e
  split at e
  · rename_i es
    cases q : bools es with
    | none => rw [q] at e; cases e
    | some bs =>
      rw [q] at e
      cases e
      obtain ⟨v, rfl, h⟩ := px.one
      obtain ⟨a, xs, rfl, h1, h2⟩ := h
      have := bools_rep q h2
      subst this
      exact ⟨a, bs, rfl, SqL.of h1, OkE.cl ok rel (.bl _)⟩
  · cases e
theorem bl_any : BL K mg (rAny K) bAny := by
  intro C R ρ σ H s vs ds tv Q rel px e ok
  unfold bAny at e
  split at e
  · rename_i es
    cases q : bools es with
    | none => rw [q] at e; cases e
    | some bs =>
      rw [q] at e
      cases e
      obtain ⟨v, rfl, h⟩ := px.one
      obtain ⟨a, xs, rfl, h1, h2⟩ := h
      have := bools_rep q h2
      subst this
      exact ⟨a, bs, rfl, SqL.of h1, OkE.cl ok rel (.bl _)⟩
  · cases e
/-- min, max of two numbers -/
def bMin2 : List D → Option TV
  | [.int i, .int j] => some ⟨.cl, .int (if j < i then j else i)⟩
  | _ => none
def bMax2 : List D → Option TV
  | [.int i, .int j] => some ⟨.cl, .int (if j > i then j else i)⟩
  | _ => none
theorem bl_min2 : BL K mg (fun xs H Q => ∃ i j, xs = [V.int i, .int j] ∧ Q (.int (if j < i then j else i)) H) bMin2 := by
  intro C R ρ σ H s vs ds tv Q rel px e ok
  unfold bMin2 at e
  split at e
  · cases e
    obtain ⟨v, w, rfl, h, h'⟩ := px.two
    rw [h.int, h'.int]
    exact ⟨_, _, rfl, OkE.cl ok rel (.int _)⟩
  · cases e
theorem bl_max2 : BL K mg (fun xs H Q => ∃ i j, xs = [V.int i, .int j] ∧ Q (.int (if j > i then j else i)) H) bMax2 := by
  intro C R ρ σ H s vs ds tv Q rel px e ok
  unfold bMax2 at e
  split at e
  · cases e
    obtain ⟨v, w, rfl, h, h'⟩ := px.two
    rw [h.int, h'.int]
    exact ⟨_, _, rfl, OkE.cl ok rel (.int _)⟩
  · cases e
/-- tuple(x), list(x) -/
def bTuple : List D → Option TV
  | [.lst ds] => some ⟨.cl, .tup ds⟩
  | [.tup ds] => some ⟨.cl, .tup ds⟩
  | _ => none
theorem bl_tuple : BL K mg (rTupleN K) bTuple := by
  intro C R ρ σ H s vs ds tv Q rel px e ok
  unfold bTuple at e
  split at e
  · cases e
    obtain ⟨v, rfl, h⟩ := px.one
    obtain ⟨a, xs, rfl, h1, h2⟩ := h
    refine ⟨a, xs, rfl, .inl ⟨SqL.of h1, fun p ob hp to => ?_⟩⟩
    obtain ⟨r2, x2⟩ := rel.alloc (o := .frz ob (.tup xs)) hp
    exact ok _ C _ _ (.refl C) r2 x2 (.tup (TupN.new to) (h2.mono (List.prefix_refl _) r2))
  · cases e
    obtain ⟨v, rfl, h⟩ := px.one
    obtain ⟨a, xs, rfl, h1, h2⟩ := h.tupN
    exact ⟨a, xs, rfl, .inr ⟨Same.tupl rel.bas.sub h1.sq, OkE.cl ok rel (.tup h1 h2)⟩⟩
  · cases e
def bList : List D → Option TV
  | [.lst ds] => some ⟨.fr, .lst ds⟩
  | [.tup ds] => some ⟨.fr, .lst ds⟩
  | _ => none
def rList (K : PySem.W.Frag) : List V → Hp → VK → Prop := fun xs H Q => ∃ p ys, xs = [V.ref p] ∧ (SqL K H p ys ∨ SqT K H p ys) ∧ ∀ l, H l = none → Q (.ref l) (upd H l (.lst ys))
theorem bl_list : BL K mg (rList K) bList := by
  intro C R ρ σ H s vs ds tv Q rel px e ok
  unfold bList at e
  split at e
  · cases e
    obtain ⟨v, rfl, h⟩ := px.one
    obtain ⟨a, xs, rfl, h1, h2⟩ := h
    refine ⟨a, xs, rfl, .inl (SqL.of h1), fun p hp => ?_⟩
    exact ok _ C R _ (.refl C) (L2.Same.refl R) (rel.allocF hp) (rel.fresh (d := .lst _) hp ⟨_, upd_same, h2⟩)
  · cases e
    obtain ⟨v, rfl, h⟩ := px.one
    obtain ⟨a, xs, rfl, h1, h2⟩ := h.tup
    refine ⟨a, xs, rfl, .inr (Same.tupl rel.bas.sub h1), fun p hp => ?_⟩
    exact ok _ C R _ (.refl C) (L2.Same.refl R) (rel.allocF hp) (rel.fresh (d := .lst _) hp ⟨_, upd_same, h2⟩)
  · cases e
/-- int(x) of a number or a truth value, str(n) -/
def bInt : List D → Option TV
  | [.int i] => some ⟨.cl, .int i⟩
  | [.bl b] => some ⟨.cl, .int (if b then 1 else 0)⟩
  | [.str z] => if z.length ≤ 640 then (PySem.intText? z).map fun n => ⟨.cl, .int n⟩ else none
  | _ => none
theorem bl_int : BL K mg (fun xs H Q => ((∃ i, xs = [V.int i] ∧ Q (.int i) H) ∨ ∃ k, xs = [V.bl k] ∧ Q (.int (if k then 1 else 0)) H) ∨ ∃ a n, xs = [.str a] ∧ PySem.intText? a = some n ∧ a.length ≤ 640 ∧ Q (.int n) H) bInt := by
  intro C R ρ σ H s vs ds tv Q rel px e ok
  unfold bInt at e
  split at e
  · cases e
    obtain ⟨v, rfl, h⟩ := px.one
    rw [h.int]
    exact .inl (.inl ⟨_, rfl, OkE.cl ok rel (.int _)⟩)
  · cases e
    obtain ⟨v, rfl, h⟩ := px.one
    rw [h.bl]
    exact .inl (.inr ⟨_, rfl, OkE.cl ok rel (.int _)⟩)
  · rename_i z
    split at e
    · rename_i hl
      cases q : PySem.intText? z with
      | none => rw [q] at e; cases e
      | some n =>
        rw [q] at e
        cases e
        obtain ⟨v, rfl, h⟩ := px.one
        rw [h.str]
        exact .inr ⟨_, _, rfl, q, hl, OkE.cl ok rel (.int _)⟩
    · cases e
  · cases e
def bStr : List D → Option TV
  | [.int i] => if i.natAbs.log2 < 1920 then some ⟨.cl, .str (toString i : String)⟩ else none
  | [.str z] => some ⟨.cl, .str z⟩
  | _ => none
theorem bl_str : BL K mg (fun xs H Q => (∃ i : Int, xs = [V.int i] ∧ i.natAbs.log2 < 1920 ∧ Q (.str (toString i : String)) H) ∨ ∃ a, xs = [.str a] ∧ Q (.str a) H) bStr := by
  intro C R ρ σ H s vs ds tv Q rel px e ok
  unfold bStr at e
  split at e
  · split at e
    · rename_i hi
      cases e
      obtain ⟨v, rfl, h⟩ := px.one
      rw [h.int]
      exact .inl ⟨_, rfl, hi, OkE.cl ok rel (.str _)⟩
    · cases e
  · cases e
    obtain ⟨v, rfl, h⟩ := px.one
    rw [h.str]
    exact .inr ⟨_, rfl, OkE.cl ok rel (.str _)⟩
  · cases e
/-! ### sorted -/
def leD : D → D → Bool := PySem.W.dataLe false D.pd
def sortD (ds : List D) : List D := ds.mergeSort leD
/-- may a list be sorted? -/
def sortable (ds : List D) : Bool := ds.all (fun d => d.plain && decide (d.pd.depth ≤ 64)) && (ds.all fun d => ds.all fun e => PySem.W.alike d.pd e.pd) && ((ds.all fun d => match d with | .tup (_ :: _) => true | _ => false) || ds.all fun d => match d with | .non => false | .tup _ => false | _ => true)
def bSorted : List D → Option TV
  | [.lst ds] => if sortable ds = true ∧ ds.length ≤ 16777216 then some ⟨.fr, .lst (sortD ds)⟩ else none
  | [.tup ds] => if sortable ds = true ∧ ds.length ≤ 16777216 then some ⟨.fr, .lst (sortD ds)⟩ else none
  | _ => none
def rSorted (K : PySem.W.Frag) : List V → Hp → VK → Prop := fun xs H Q => ∃ (a : Addr) (bs : List (V × D)), xs = [V.ref a] ∧ (SqL K H a (bs.map (·.1)) ∨ SqT K H a (bs.map (·.1))) ∧ (∀ b, b ∈ bs → Dp K H b.1 b.2.pd) ∧ PySem.W.AllAlike (bs.map fun b => b.2.pd) ∧ PySem.W.Sortable (bs.map fun b => b.2.pd) ∧ bs.length ≤ sizeLine ∧
  (∀ b, b ∈ bs → b.2.pd.depth ≤ 64) ∧ ∀ p, H p = none → Q (.ref p) (upd H p (.lst ((bs.mergeSort (PySem.W.dataLe false fun b => b.2.pd)).map (·.1))))
theorem each_of_vals {X : Cx} {pins : List (Addr × Obj)} {σ : L2.St} {H : Hp} {s : Shared} (I : Inv X pins σ H s) : ∀ {bs : List (V × D)} {its : List Value}, Vals (bs.map (·.1)) its → (∀ b, b ∈ bs → Dp X.K H b.1 b.2.pd) →
    PySem.W.EachIs (fun v (b : V × D) => RelV b.1 v) its bs ∧ PySem.W.EachIs (fun v (b : V × D) => ∃ as, Reads s.heap v b.2.pd as) its bs
  | [], _, r, _ => by cases r; exact ⟨.nil, .nil⟩
  | b :: bs, _, r, h => by
    cases r with
    | cons r1 r2 =>
      obtain ⟨e1, e2⟩ := each_of_vals I r2 fun c hc => h c (List.mem_cons_of_mem _ hc)
      exact ⟨.cons r1 e1, .cons (Dp.reads I _ _ _ (h b List.mem_cons_self) r1) e2⟩
theorem vals_of_each : ∀ {bs : List (V × D)} {its : List Value}, PySem.W.EachIs (fun v (b : V × D) => RelV b.1 v) its bs → Vals (bs.map (·.1)) its
  | _, _, .nil => .nil
  | _, _, .cons r t => .cons r (vals_of_each t)
section
variable {P : Program} {w : World} {A : Around} {E : Value → Shared → Prop} {s : Shared}
/-- a tuple's items, as a list gets them -/
theorem collT {t : Addr} {us : List Value} {Q : List Value → Shared → Prop} (ht : IsTup s.heap t us.toArray) (hz : us.length ≤ sizeLine)
    (hq : Q us { s with heap := (s.heap.push (seqObj "list" #[] 0)).update s.heap.objs.size (Obj.mapSeq (· ++ us.toArray)) }) : wpAny (model P w) A (collect (.ref t)) Q E s := by
  obtain ⟨ob, e1, e2, k, e3⟩ := ht
  have n1 : (s.heap.push (seqObj "list" #[] 0)).get? t = some ob := Heap.get?_push_of_some _ e1
  have n2 : (s.heap.push (seqObj "list" #[] 0)).get? s.heap.objs.size = some (seqObj "list" #[] 0) := Heap.get?_push_size _ rfl
  unfold collect
  refine wpAny_bind (wpAny_runValue (codeAny_builtin entry_proto_collect' ?_))
  show wpAny (model P w) _ (do again (.builtin "list.__iadd__" ⟨[← newList [], .ref t], []⟩)) _ _ s
  refine wpAny_bind (wpAny_newList (wpAny_pure ⟨Code.quiet_builtin _ (by decide +kernel), codeAny_builtin entry_list_iadd' ?_⟩))
  show wpAny (model P w) _ (Builtin.List.listExtendWith (.ref s.heap.objs.size) (.ref t) (.ref s.heap.objs.size)) _ _ { s with heap := s.heap.push (seqObj "list" #[] 0) }
  unfold Builtin.List.listExtendWith
  refine wpAny_bind (wpAny_typeOf (T := "tuple") ⟨ob, n1, e2⟩ ?_)
  have tt : (Builtin.List.listSameRef (.ref s.heap.objs.size) (.ref t) || Value.type "tuple" == Value.type "list" || Value.type "tuple" == Value.type "tuple") = true := by
    have : (Value.type "tuple" == Value.type "tuple") = true := rfl
    rw [this, Bool.or_true]
  rw [if_pos tt]
  refine wpAny_bind (listItems_at n1 e3 (wpAny_bind (listItems_at (xs := #[]) (n := 0) n2 rfl ?_)))
  rw [if_neg (by simp)]
  refine wpAny_bind (listUpdate_at (xs := #[]) (n := 0) n2 rfl ?_ (Nat.zero_le _) ?_)
  · refine wpAny_pure ?_
    show wpAny (model P w) A (load s.heap.objs.size >>= fun o => match o.data with
      | .seq xs _ => pure xs.toList
      | _ => unsupported "internal:collect") Q E { s with heap := (s.heap.push (seqObj "list" #[] 0)).update s.heap.objs.size (Obj.mapSeq (· ++ us.toArray)) }
    refine wpAny_bind (wpAny_load (get?_update_seq n2 _) ?_)
    have e : ((#[] : Array Value) ++ us.toArray).toList = us := by simp
    show wpAny (model P w) A (pure ((#[] : Array Value) ++ us.toArray).toList) Q E _
    rw [e]
    exact wpAny_pure hq
  · have : ((#[] : Array Value) ++ us.toArray).size = us.length := by simp
    show ((#[] : Array Value) ++ us.toArray).size ≤ sizeLine + 1
    omega
/-- sorted(tuple) -/
theorem sortT {β : Type} {Rv : Value → β → Prop} {enc : β → PyData} {bs : List β} {t : Addr} {us : List Value} {Q : Value → Shared → Prop} (ht : IsTup s.heap t us.toArray) (e : PySem.W.EachIs Rv us bs) (er : PySem.W.EachIs (fun v b => ∃ as, Reads s.heap v (enc b) as) us bs)
    (hal : PySem.W.AllAlike (bs.map enc)) (hk : PySem.W.Sortable (bs.map enc)) (hL : bs.length ≤ sizeLine) (hu : ∀ b, b ∈ bs → A.units + 2 + (enc b).depth < cLine)
    (h : ∀ out, out.length = bs.length → PySem.W.EachIs Rv out (bs.mergeSort (PySem.W.dataLe false enc)) → Q (.ref (s.heap.objs.size + 1)) { s with heap := sortedAll s.heap us (List.toArray out) }) : wpAny (model P w) A (call (.builtin "sorted") [.ref t]) Q E s := by
  have hz : us.length ≤ sizeLine := by rw [e.length]; exact hL
  have er2 : PySem.W.EachIs (fun v b => ∃ as, Reads (PySem.W.sortingHeap (PySem.W.copyHeap s.heap us) (s.heap.objs.size + 1) us) v (enc b) as) us bs := er.mono fun _ _ ⟨as, r⟩ => ⟨as, PyProof.Rows.Reads.keeps (fun _ _ => PySem.W.sorting_copy_old) r⟩
  have so := PySem.W.SortsAt.data (prog := P) (w := w) (A := A.in1.in1) (s := { s with heap := PySem.W.sortingHeap (PySem.W.copyHeap s.heap us) (s.heap.objs.size + 1) us }) (PySem.W.each_map (R := fun v d => ∃ as, Reads (PySem.W.sortingHeap (PySem.W.copyHeap s.heap us) (s.heap.objs.size + 1) us) v d as) enc er2) hal hk (PySem.W.bound_map hu)
  refine Calls.call_function_entry kind_sorted plain_sorted entry_sorted (args_sorted1 _) ?_
  unfold Builtin.«sorted»
  refine wpAny_bind (m := checkCount "sorted" 1 1 _) (wpAny_pure (wpAny_bind (collT ht hz (wpAny_bind (wpAny_newList ?_ hz)))))
  have sz : ((s.heap.push (seqObj "list" #[] 0)).update s.heap.objs.size (Obj.mapSeq (· ++ us.toArray))).objs.size = s.heap.objs.size + 1 := by
    rw [Heap.size_update, size_push']
  show wpAny (model P w) _ _ _ _ { s with heap := PySem.W.copyHeap s.heap us }
  rw [sz]
  refine wpAny_bind (wpAny_holding (wpAny_call_entry slot_list_sort ⟨_, PySem.W.copyHeap_at s.heap us, rfl⟩ entry_list_sort ?_ (args_list_sort _)))
  exact PySem.W.list_sort_vals (s := { s with heap := PySem.W.copyHeap s.heap us }) (PySem.W.copyHeap_at s.heap us) so hz ⟨_, rfl, wpAny_pure ⟨_, rfl, h _ (by rw [PySem.W.sortVals_length false rfl]; exact e.length) (PySem.W.sortVals_data false e er2 hal)⟩⟩
end
theorem cr_sorted {X : Cx} (hu : X.A.units + 66 < cLine) : CallR X (.builtin "sorted") (rSorted X.K) := by
  intro pins s σ H vs us Q I r h
  obtain ⟨a, bs, rfl, hs, hd, al, so, hl, dp, q⟩ := h
  rw [Vals.ref1 r]
  have du : ∀ b, b ∈ bs → X.A.units + 2 + b.2.pd.depth < cLine := fun b hb => by have := dp b hb; omega
  rcases hs with hs | hs
  · obtain ⟨its, rv, hp, hz⟩ := I.list hs
    obtain ⟨e1, e2⟩ := each_of_vals I rv hd
    refine PySem.W.sorted_data (enc := fun b : V × D => b.2.pd) hp.isList e1 e2 al so hl du fun out hout eo => ?_
    obtain ⟨ep, he'⟩ := PyProof.Rows.sortedAll_at s.heap its out.toArray
    refine ⟨.ref _, upd H (s.heap.objs.size + 1) (.lst ((bs.mergeSort (PySem.W.dataLe false fun b => b.2.pd)).map (·.1))), I.laid (t' := s.toks) (fun _ _ => PyProof.Rows.sortedAll_old) (Nat.le_succ _) ⟨?_, out, ep, vals_of_each eo, he'⟩, rfl, q _ (I.hok.fresh (Nat.le_succ _))⟩
    rw [List.length_map, List.length_mergeSort]
    exact hl
  · obtain ⟨its, rv, hp, hz⟩ := I.tuple hs
    obtain ⟨e1, e2⟩ := each_of_vals I rv hd
    refine sortT (enc := fun b : V × D => b.2.pd) hp e1 e2 al so hl du fun out hout eo => ?_
    obtain ⟨ep, he'⟩ := PyProof.Rows.sortedAll_at s.heap its out.toArray
    refine ⟨.ref _, upd H (s.heap.objs.size + 1) (.lst ((bs.mergeSort (PySem.W.dataLe false fun b => b.2.pd)).map (·.1))), I.laid (t' := s.toks) (fun _ _ => PyProof.Rows.sortedAll_old) (Nat.le_succ _) ⟨?_, out, ep, vals_of_each eo, he'⟩, rfl, q _ (I.hok.fresh (Nat.le_succ _))⟩
    rw [List.length_map, List.length_mergeSort]
    exact hl
theorem rep_zip {L : List Addr} {R : Hp} : ∀ {ds : List D} {xs : List V}, RepAll K mg L R xs ds → (xs.zip ds).map (·.1) = xs ∧ (xs.zip ds).map (·.2) = ds ∧ ∀ b, b ∈ xs.zip ds → Rep K mg L R b.1 b.2
  | [], _, h => by cases h; exact ⟨rfl, rfl, fun _ z => nomatch z⟩
  | d :: ds, _, h => by
    cases h with
    | cons h1 h2 =>
      obtain ⟨e1, e2, e3⟩ := rep_zip h2
      refine ⟨by rw [List.zip_cons_cons, List.map_cons, e1], by rw [List.zip_cons_cons, List.map_cons, e2], fun b hb => ?_⟩
      rw [List.zip_cons_cons] at hb
      rcases List.mem_cons.mp hb with rfl | hb
      · exact h1
      · exact e3 b hb
theorem zip_rep {L : List Addr} {R : Hp} : ∀ {bs : List (V × D)}, (∀ b, b ∈ bs → Rep K mg L R b.1 b.2) → RepAll K mg L R (bs.map (·.1)) (bs.map (·.2))
  | [], _ => .nil
  | b :: bs, h => .cons (h b List.mem_cons_self) (zip_rep fun c hc => h c (List.mem_cons_of_mem _ hc))
theorem sorted_core {C : Cn} {R : Hp} {ρ : DSt} {σ : L2.St} {H : Hp} {s : Sto} {Q : VK} {a : Addr} {xs : List V} {es : List D} (rel : Rel K mg C R ρ σ H s) (hq : SqL K H a xs ∨ SqT K H a xs) (h2 : RepAll K mg C.L R xs es) (hs : sortable es = true ∧ es.length ≤ 16777216) (ok : OkE K mg ρ σ C R Q ⟨.fr, .lst (sortD es)⟩ s) : rSorted K [.ref a] H Q := by
  obtain ⟨z1, z2, z3⟩ := rep_zip h2
  obtain ⟨hs, hl⟩ := hs
  unfold sortable at hs
  simp only [Bool.and_eq_true, List.all_eq_true, Bool.or_eq_true, decide_eq_true_eq] at hs
  obtain ⟨⟨s1, s2⟩, s3⟩ := hs
  have mm : ∀ b, b ∈ xs.zip es → b.2 ∈ es := fun b hb => by
    rw [← z2]
    exact List.mem_map.mpr ⟨b, hb, rfl⟩
  have em : (xs.zip es).map (fun b => b.2.pd) = es.map D.pd := by
    have : (xs.zip es).map (fun b => b.2.pd) = ((xs.zip es).map (·.2)).map D.pd := by rw [List.map_map]; rfl
    rw [this, z2]
  refine ⟨a, xs.zip es, rfl, by rw [z1]; exact hq, fun b hb => Rep.dp rel.bas.sub _ (s1 _ (mm b hb)).1 (z3 b hb), ?_, ?_, ?_, fun b hb => (s1 _ (mm b hb)).2, fun p hp => ?_⟩
  · rw [em]
    intro d hd d' hd'
    obtain ⟨x, hx, rfl⟩ := List.mem_map.mp hd
    obtain ⟨y, hy, rfl⟩ := List.mem_map.mp hd'
    exact s2 x hx y hy
  · rw [em]
    rcases s3 with s3 | s3
    · refine .inl fun d hd => ?_
      obtain ⟨x, hx, rfl⟩ := List.mem_map.mp hd
      have := s3 x hx
      split at this
      · rename_i y r
        exact ⟨y.pd, D.pds r, rfl⟩
      · cases this
    · refine .inr fun d hd => ?_
      obtain ⟨x, hx, rfl⟩ := List.mem_map.mp hd
      have t := s3 x hx
      have t1 := (s1 x hx).1
      refine ⟨pd_none t1 (by cases x <;> first | rfl | cases t), fun ys => ?_⟩
      cases x with
      | tup _ => cases t
      | non => cases t
      | bl _ => rw [D.pd]; exact fun z => nomatch z
      | int _ => rw [D.pd]; exact fun z => nomatch z
      | str _ => rw [D.pd]; exact fun z => nomatch z
      | lst _ => rw [D.pd]; exact fun z => nomatch z
      | scr _ => rw [D.pd]; exact fun z => nomatch z
      | dct _ _ => cases t1
      | ref _ => cases t1
      | fn _ => cases t1
      | exc _ => cases t1
      | fdc _ _ => cases t1
      | dnt _ _ => cases t1
      | fdn _ _ => cases t1
      | tpw _ => cases t1
  · have : (xs.zip es).length = es.length := by
      have := congrArg List.length z2
      rw [List.length_map] at this
      exact this
    rw [this]
    exact hl
  · have e2 : ((xs.zip es).mergeSort (PySem.W.dataLe false fun b => b.2.pd)).map (fun b : V × D => b.2) = sortD es := by
      have t := PySem.W.sort_maps (r := PySem.W.dataLe false fun b : V × D => b.2.pd) (s := leD) (l := xs.zip es) (fun b : V × D => b.2) (fun _ _ _ _ => rfl)
      rw [t]
      show ((xs.zip es).map (·.2)).mergeSort leD = _
      rw [z2]
      rfl
    have ra : RepAll K mg C.L R (((xs.zip es).mergeSort (PySem.W.dataLe false fun b => b.2.pd)).map (·.1)) (sortD es) := by
      rw [← e2]
      exact zip_rep fun b hb => z3 b (List.mem_mergeSort.mp hb)
    exact ok _ C R _ (.refl C) (L2.Same.refl R) (rel.allocF hp) (rel.fresh (d := .lst _) hp ⟨_, upd_same, ra⟩)
theorem bl_sorted : BL K mg (rSorted K) bSorted := by
  intro C R ρ σ H s vs ds tv Q rel px e ok
  unfold bSorted at e
  split at e
  · split at e
    · rename_i hs
      cases e
      obtain ⟨v, rfl, h⟩ := px.one
      obtain ⟨a, xs, rfl, h1, h2⟩ := h
      exact sorted_core rel (.inl (SqL.of h1)) h2 hs ok
    · cases e
  · split at e
    · rename_i hs
      cases e
      obtain ⟨v, rfl, h⟩ := px.one
      obtain ⟨a, xs, rfl, h1, h2⟩ := h.tup
      exact sorted_core rel (.inr (Same.tupl rel.bas.sub h1)) h2 hs ok
    · cases e
  · cases e
end
end UW
namespace UW
open PySem PySem.Spec PyProof.Rows L2

/-! ### what is walked -/
/-- a turn's item: as it stands, or a new tuple -/
def Yields (K : Kw) (mg : Str → Option Value) (L : List Addr) (R H : Hp) (x : V) (H' : Hp) (d : D) : Prop :=
  (H' = H ∧ Rep K mg L R x d) ∨ ∃ T o, H T = none ∧ H' = upd H T o ∧ Rep K mg L (upd R T o) x d
/-- J walks ds as long as the sources are as they were -/
def ItOk (K : Kw) (mg : Str → Option Value) (R0 : Hp) (J : It) (vs : List V) (src : List D) (ds : List D) : Prop :=
  ∀ L R H, Same R0 R → Same R H → PReps K mg L R H vs src → (∀ i, ds.length ≤ i → J.stop i H) ∧ (∀ i, i < ds.length → J.go i H) ∧ ∀ i x H' d, ds[i]? = some d → J.yld i H x H' → Yields K mg L R H x H' d
abbrev IW := DSt → Sto → Res (List TV × List D)
def OkI (K : Kw) (mg : Str → Option Value) (ρ : DSt) (σ : L2.St) (C : Cn) (R : Hp) (Q : It → Hp → Prop) (z : List TV × List D) (s' : Sto) : Prop :=
  ∀ J vs C' R' H', C.Le C' → Same R R' → Rel K mg C' R' ρ σ H' s' → VReps K mg C' R' ρ σ H' vs z.1 → ItOk K mg R' J vs (z.1.map (·.d)) z.2 → Q J H'
def tDI (K : Kw) (mg : Str → Option Value) (W : WX) (f : IW) : TI := fun σ H Q => ∃ C R ρ s, Rel K mg C R ρ σ H s ∧ PostR K mg W σ C R (OkI K mg ρ σ C R Q) (f ρ s)
abbrev DI (X : Cx) (W : WX) (tg e : Expr) (f : IW) : Prop := PI X tg e (tDI (KW X) X.mg W f)
theorem PI.weak {X : Cx} {tg e : Expr} {t t' : TI} (h : PI X tg e t) (k : ∀ σ H Q, t' σ H Q → t σ H Q) : PI X tg e t' := ⟨fun pins s σ H Q I q => h.run pins s σ H Q I (k σ H Q q)⟩

/-! the keys of a locked dict with tuple keys -/
theorem frzN {X : Cx} {pins : List (Addr × Obj)} {σ : L2.St} {H : Hp} {s : Shared} {d : Addr} {o : Obj} {xs : List NV} (I : Inv X pins σ H s) (h : H d = some (.frz o (DNO (KW X) d xs))) :
    (d == sysModules) = false ∧ s.heap.get? d = some o ∧ o.ExactDict ∧ ∃ (es : Array DictEntry) (ep : Nat), o.data = .dict es ep ∧ es.size = xs.length ∧ ∀ (i : Nat) (p : NV), xs[i]? = some p → ∃ en, es[i]? = some en ∧ en.key = .ref p.2.1 := by
  obtain ⟨hd, ⟨ys, r, h2, h3, o', es, ep, e1, e2, e3, e4, e5⟩, _⟩ := I.hok d _ h
  rw [hd] at e1
  cases e1
  refine ⟨h2, hd, e2, es, ep, e3, ?_, fun i p hp => ?_⟩
  · rw [← Array.length_toList, e4, List.length_map, nvs_len r]
  · obtain ⟨q, hq, z1, z2, z3⟩ := L2.paired_get r hp
    have := entry_at e4 i
    rw [hq] at this
    exact ⟨_, this, by show Value.ref q.2.1 = _; rw [z2]⟩
def ItN (K : Kw) (d : Addr) (o : Obj) (xs : List NV) : It :=
  ⟨fun i H => H d = some (.frz o (DNO K d xs)) ∧ i < xs.length, fun i H x H' => H' = H ∧ ∃ p, xs[i]? = some p ∧ x = .ref p.2.1, fun i H => H d = some (.frz o (DNO K d xs)) ∧ xs.length ≤ i⟩
theorem turnN {P : Program} {w : World} {K : PySem.W.Frag} {tg : Expr} {d : Addr} {o : Obj} {es : Array DictEntry} {ep : Nat} {xs : List NV} (it : Addr) (hod : o.data = .dict es ep) : Turn P w K tg (ItN ⟨K, w, P⟩ d o xs) [it] it (fun i h => h.IsKeyIter it d i xs.length ep) where
  mem := by simp
  obj := fun i h st b hb => by
    cases (show b = it by simpa using hb)
    obtain ⟨oi, e, c, dd⟩ := st
    exact ⟨oi, e, fun v z => by rw [dd] at z; cases z⟩
  keep := fun i h h' st k => st.at fun oi e => k it (by simp) oi e
  item := by
    intro X hP hw hK hc i pins s σ H E I hf st hg
    subst hP hw hK
    obtain ⟨hd, hi⟩ := hg
    obtain ⟨f0, f1, f2, f3, f4, f5⟩ := hf it (by simp)
    obtain ⟨hs, hgd, hx, es', ep', hdt, hsz, ent⟩ := frzN I hd
    obtain ⟨rfl, rfl⟩ := dict_ep hod hdt
    obtain ⟨en, hen, hkey⟩ := ent i xs[i] (List.getElem?_eq_getElem hi)
    refine next_key_item st hgd hdt hsz hen fun h' st' sb => ?_
    have I1 : Inv X pins σ H { s with heap := h' } := I.turned (t' := s.toks) (fun b ob hb e => (sb.2 b hb).trans e) f0 f1 f3 f4 f5
    obtain ⟨oi, e, c, dd⟩ := id st'
    exact ⟨en.key, rfl, go_of (s := { s with heap := h' }) e c dd (by decide) ⟨.ref xs[i].2.1, H, I1, hkey, ⟨rfl, xs[i], List.getElem?_eq_getElem hi, rfl⟩, st', fun b hb => (hf b hb).1⟩⟩
  done := by
    intro X hP hw hK hc i pins s σ H E I hf st hg
    subst hP hw hK
    obtain ⟨hd, hi⟩ := hg
    obtain ⟨f0, f1, f2, f3, f4, f5⟩ := hf it (by simp)
    obtain ⟨hs, hgd, hx, es', ep', hdt, hsz, ent⟩ := frzN I hd
    obtain ⟨rfl, rfl⟩ := dict_ep hod hdt
    exact next_key_end (I.ok.hd hc) st hgd hdt hsz hi fun h' eb => ⟨rfl, I.turned (t' := s.toks) (fun b ob hb e => eb b ob hb e) f0 f1 f3 f4 f5⟩
  self := fun A i s Q E st h => wpAny_pyIter_keyiter st h
/-- the items of a thing that is walked by itself -/
def items : D → Option (List D)
  | .lst ds => some ds
  | .tup ds => some ds
  | .str z => some (z.cps.toList.map fun c => .str ⟨#[c]⟩)
  | .fdc ks _ => some ks
  | .fdn ks _ => some ks
  | _ => none
def iAny (a : E) : IW := fun ρ s => (a ρ s).bind fun x s1 => match items x.d with
  | some ds => .ok ([x.keep], ds) s1
  | none => .bad
def iAnyT (K : Kw) (tl : TE) : TI := fun σ H R => tl σ H fun x H1 => (∃ a, x = .ref a ∧ (∃ xs, SqL K H1 a xs) ∧ R (Itl K a) H1) ∨ (∃ a, x = .ref a ∧ (∃ xs, SqT K H1 a xs) ∧ R (Itt K a) H1) ∨ (∃ z, x = .str z ∧ R (Its z) H1) ∨ (∃ a o kvs, x = .ref a ∧ H1 a = some (.frz o (.dK kvs)) ∧ R (Itk a o kvs) H1) ∨ ∃ a o xs, x = .ref a ∧ H1 a = some (.frz o (DNO K a xs)) ∧ R (ItN K a o xs) H1
theorem pi_any {X : Cx} {tg l : Expr} {tl : TE} (hl : PE X l tl) : PI X tg l (iAnyT (KW X) tl) := by
  refine ⟨fun pins s σ H R I h => ?_⟩
  refine thn (hl.run pins s σ H _ I h) fun v s1 ⟨x, H1, I1, r1, q1⟩ => ?_
  rcases q1 with ⟨a, e, ⟨xs, hq⟩, q⟩ | ⟨a, e, ⟨xs, hq⟩, q⟩ | ⟨z, e, q⟩ | ⟨a, o, kvs, e, hq, q⟩ | ⟨a, o, xs, e, hq, q⟩
  · cases e
    cases r1
    obtain ⟨_, _, p, _⟩ := I1.list hq
    exact wpAny_pyIter_list p.isList (pi_one (tk := s1.toks) I1 _ (turn_list a _) ⟨_, Heap.get?_push_size _ rfl, rfl, rfl⟩ q)
  · cases e
    cases r1
    obtain ⟨its, _, p, _⟩ := I1.tuple hq
    exact wpAny_pyIter_tuple (show s1.heap.IsTuple a its.toArray from p) (pi_one (tk := s1.toks) I1 _ (turn_tuple a _) ⟨_, Heap.get?_push_size _ rfl, rfl, rfl⟩ q)
  · cases e
    obtain ⟨t, rfl⟩ := r1
    cases ha : z.cps.all (· < 128) with
    | false => exact wpAny_pyIter_wide ha (pi_one (tk := s1.toks) I1 _ (turn_str _ z t "str_iterator" (.inr rfl)) ⟨_, Heap.get?_push_size _ rfl, rfl, rfl⟩ q)
    | true => exact wpAny_pyIter_ascii ha (pi_one (tk := s1.toks) I1 _ (turn_str _ z t "str_ascii_iterator" (.inl rfl)) ⟨_, Heap.get?_push_size _ rfl, rfl, rfl⟩ q)
  · cases e
    cases r1
    obtain ⟨b1, b2, b3, es, ep, vs, b4, b5, b6, b7⟩ := I1.frzK hq
    refine iter_keys b1 b2 b3 b4 ?_
    exact pi_one (tk := s1.toks) I1 _ (turn_keys _ b4) ⟨_, Heap.get?_push_size _ rfl, rfl, by rw [b5]; rfl⟩ q
  · cases e
    cases r1
    obtain ⟨b1, b2, b3, es, ep, b4, b5, b6⟩ := frzN I1 hq
    refine iter_keys b1 b2 b3 b4 ?_
    exact pi_one (tk := s1.toks) I1 _ (turnN _ b4) ⟨_, Heap.get?_push_size _ rfl, rfl, by rw [b5]; rfl⟩ q
section
variable {K : Kw} {mg : Str → Option Value}
theorem itok_lst {R0 : Hp} {a : Addr} {ds : List D} : ItOk K mg R0 (Itl K a) [.ref a] [.lst ds] ds := fun L R H s0 sub ps => by
  obtain ⟨v, e, h⟩ := ps.one
  cases e
  obtain ⟨b, xs, e, h1, h2⟩ := h
  cases e
  refine ⟨fun i hi => ⟨xs, SqL.of h1, by rw [h2.length]; exact hi⟩, fun i hi => ?_, fun i x H' d e hy => ?_⟩
  · obtain ⟨v, q, _⟩ := h2.get (List.getElem?_eq_getElem hi)
    exact ⟨xs, v, SqL.of h1, q⟩
  · obtain ⟨rfl, hy⟩ := hy
    obtain ⟨v, q, r⟩ := h2.get e
    have := hy xs (SqL.of h1)
    rw [q] at this
    cases this
    exact .inl ⟨rfl, r⟩
theorem itok_tup {R0 : Hp} {a : Addr} {ds : List D} : ItOk K mg R0 (Itt K a) [.ref a] [.tup ds] ds := fun L R H s0 sub ps => by
  obtain ⟨v, e, h⟩ := ps.one
  cases e
  obtain ⟨b, xs, e, h1, h2⟩ := h.tup
  cases e
  have h1 := Same.tupl sub h1
  refine ⟨fun i hi => ⟨xs, h1, by rw [h2.length]; exact hi⟩, fun i hi => ?_, fun i x H' d e hy => ?_⟩
  · obtain ⟨v, q, _⟩ := h2.get (List.getElem?_eq_getElem hi)
    exact ⟨xs, v, h1, q⟩
  · obtain ⟨rfl, hy⟩ := hy
    obtain ⟨v, q, r⟩ := h2.get e
    have := hy xs h1
    rw [q] at this
    cases this
    exact .inl ⟨rfl, r⟩
theorem rep_key {L : List Addr} {R : Hp} (k : Key) : Rep K mg L R (kV k) (kD k) := by
  cases k with
  | inl i => exact .int i
  | inr x => exact .str x
theorem itok_fdc {R0 : Hp} {a : Addr} {o : Obj} {kvs : List (Key × V)} {ws : List V} {src : List D} (h0 : R0 a = some (.frz o (.dK kvs))) : ItOk K mg R0 (Itk a o kvs) ws src (kvs.map fun p => kD p.1) := fun L R H s0 sub ps => by
  have hH : H a = some (.frz o (.dK kvs)) := sub _ _ (s0 _ _ h0)
  refine ⟨fun i hi => ⟨hH, by simpa using hi⟩, fun i hi => ⟨hH, by simpa using hi⟩, fun i x H' d e hy => ?_⟩
  obtain ⟨rfl, k, v, hk, rfl⟩ := hy
  rw [List.getElem?_map, hk] at e
  cases e
  exact .inl ⟨rfl, rep_key k⟩
theorem itok_fdn {R0 : Hp} {L0 : List Addr} {a : Addr} {o : Obj} {xs : List NV} {ks : List D} {ws : List V} {src : List D} (h0 : R0 a = some (.frz o (DNO K a xs))) (hk : KsOk xs ks) (rk : RepAll K mg L0 R0 (xs.map fun p => V.ref p.2.1) ks) : ItOk K mg R0 (ItN K a o xs) ws src ks := fun L R H s0 sub ps => by
  have hH : H a = some (.frz o (DNO K a xs)) := sub _ _ (s0 _ _ h0)
  have hl : xs.length = ks.length := by have := rk.length; rwa [List.length_map] at this
  refine ⟨fun i hi => ⟨hH, by omega⟩, fun i hi => ⟨hH, by omega⟩, fun i x H' d e hy => ?_⟩
  obtain ⟨rfl, p, hp, rfl⟩ := hy
  obtain ⟨v, z1, z2⟩ := (ks_anyL (L' := L) hk.1 (rk.mono (List.prefix_refl _) s0)).get e
  rw [List.getElem?_map, hp] at z1
  cases z1
  exact .inl ⟨rfl, z2⟩
theorem itok_str {R0 : Hp} {z : Str} {vs : List V} {src : List D} : ItOk K mg R0 (Its z) vs src (z.cps.toList.map fun c => .str ⟨#[c]⟩) := fun L R H s0 sub ps => by
  refine ⟨fun i hi => ?_, fun i hi => ?_, fun i x H' d e hy => ?_⟩
  · rw [List.length_map, Array.length_toList] at hi
    exact hi
  · rw [List.length_map, Array.length_toList] at hi
    exact hi
  · obtain ⟨rfl, c, h1, rfl⟩ := hy
    rw [List.getElem?_map, Array.getElem?_toList, h1] at e
    cases e
    exact .inl ⟨rfl, .str _⟩
theorem itok_rng {R0 : Hp} {lo : Int} {n : Nat} {vs : List V} {src : List D} : ItOk K mg R0 (Itr lo n) vs src ((List.range n).map fun k : Nat => .int (lo + (k : Int))) := fun L R H s0 sub ps => by
  refine ⟨fun i hi => ?_, fun i hi => ?_, fun i x H' d e hy => ?_⟩
  · rw [List.length_map, List.length_range] at hi
    exact hi
  · rw [List.length_map, List.length_range] at hi
    exact hi
  · obtain ⟨rfl, rfl⟩ := hy
    rw [List.getElem?_map] at e
    cases q : (List.range n)[i]? with
    | none => rw [q] at e; cases e
    | some k =>
      rw [q] at e
      cases e
      obtain ⟨h1, h2⟩ := List.getElem?_eq_some_iff.mp q
      rw [List.getElem_range] at h2
      subst h2
      exact .inl ⟨rfl, .int _⟩
end
section
variable {X : Cx} {W : WX} {tg a b : Expr} {fa fb : E} {pos p : Pos}
theorem di_any (ha : DE X W a fa) : DI X W tg a (iAny fa) := PI.weak (pi_any ha) fun σ H Q ⟨C, R, ρ, s, x, h⟩ => by
  refine seqE x h fun tv s1 v C1 R1 H1 l1 r1 x1 v1 h1 => ?_
  obtain ⟨R2, r2, x2, v2⟩ := x1.kept v1
  split at h1
  · rename_i ds e
    have vr : VReps (KW X) X.mg C1 R2 ρ σ H1 [v] [tv.keep] := .cons v2 tv.keep_nf .nil
    have lk := VRep.look x2 v2
    rw [TV.keep_d] at lk
    unfold items at e
    split at e
    · rename_i ed
      cases e
      rw [ed] at lk
      obtain ⟨a, xs, rfl, q1, q2⟩ := lk
      refine .inl ⟨a, rfl, ⟨xs, SqL.of q1⟩, h1 _ _ C1 R2 H1 l1 (L2.Same.trans r1 r2) x2 vr ?_⟩
      show ItOk _ _ _ _ _ [tv.keep.d] _
      rw [TV.keep_d, ed]
      exact itok_lst
    · rename_i ed
      cases e
      rw [ed] at lk
      obtain ⟨a, xs, rfl, q1, q2⟩ := lk.tup
      refine .inr (.inl ⟨a, rfl, ⟨xs, Same.tupl x2.bas.sub q1⟩, h1 _ _ C1 R2 H1 l1 (L2.Same.trans r1 r2) x2 vr ?_⟩)
      show ItOk _ _ _ _ _ [tv.keep.d] _
      rw [TV.keep_d, ed]
      exact itok_tup
    · rename_i z ed
      cases e
      rw [ed] at lk
      exact .inr (.inr (.inl ⟨z, lk.str, h1 _ _ C1 R2 H1 l1 (L2.Same.trans r1 r2) x2 vr itok_str⟩))
    · rename_i us ed
      cases e
      rw [ed] at lk
      have lk : Rep (KW X) X.mg C1.L R2 v (.fdc ds us) := lk
      cases lk with
      | fdc q1 q2 => exact .inr (.inr (.inr (.inl ⟨_, _, _, rfl, x2.bas.sub _ _ q1, h1 _ _ C1 R2 H1 l1 (L2.Same.trans r1 r2) x2 vr (itok_fdc q1)⟩)))
    · rename_i us ed
      cases e
      rw [ed] at lk
      have lk : Rep (KW X) X.mg C1.L R2 v (.fdn ds us) := lk
      cases lk with
      | fN q1 q2 q3 q4 =>
        exact .inr (.inr (.inr (.inr ⟨_, _, _, rfl, x2.bas.sub _ _ q1, h1 _ _ C1 R2 H1 l1 (L2.Same.trans r1 r2) x2 vr (itok_fdn q1 q2 q3)⟩)))
    · cases e
  · exact h1.elim
def rangeD (lo hi : Int) : List D := (List.range (hi - lo).toNat).map fun k : Nat => .int (lo + (k : Int))
def iRange (l : EL) : IW := fun ρ s => (l ρ s).bind fun tvs s1 => match tvs.map TV.d with
  | [.int j] => if -(2 ^ 62) ≤ j ∧ j < 2 ^ 62 then .ok ([], rangeD 0 j) s1 else .bad
  | [.int i, .int j] => if -(2 ^ 62) ≤ i ∧ i < 2 ^ 62 ∧ -(2 ^ 62) ≤ j ∧ j < 2 ^ 62 then .ok ([], rangeD i j) s1 else .bad
  | _ => .bad
def rangeC (lo c : Int) (n : Nat) : List D := (List.range n).map fun k : Nat => .int (lo + (k : Int) * c)
def rngCK (s : Sto) : List D → Res (List TV × List D)
  | [.int i, .int j, .int c] => if c ≠ 0 ∧ c.natAbs < 1073741824 ∧ Builtin.Range.small i j c = true ∧ 0 ≤ Builtin.Range.rangeSize i j c then .ok ([], rangeC i c (Builtin.Range.rangeSize i j c).toNat) s else .bad
  | _ => .bad
def iRange3 (l : EL) : IW := fun ρ s => (l ρ s).bind fun tvs s1 => rngCK s1 (tvs.map TV.d)
theorem itok_rngC {K : Kw} {mg : Str → Option Value} {R0 : Hp} {lo c : Int} {n : Nat} {vs : List V} {src : List D} : ItOk K mg R0 (Itc lo c n) vs src (rangeC lo c n) := fun L R H s0 sub ps => by
  unfold rangeC
  refine ⟨fun i hi => ?_, fun i hi => ?_, fun i x H' d e hy => ?_⟩
  · rw [List.length_map, List.length_range] at hi
    exact hi
  · rw [List.length_map, List.length_range] at hi
    exact hi
  · obtain ⟨rfl, rfl⟩ := hy
    rw [List.getElem?_map] at e
    cases q : (List.range n)[i]? with
    | none => rw [q] at e; cases e
    | some k =>
      rw [q] at e
      cases e
      obtain ⟨h1, h2⟩ := List.getElem?_eq_some_iff.mp q
      rw [List.getElem_range] at h2
      subst h2
      exact .inl ⟨rfl, .int _⟩
theorem preps_len {K : Kw} {mg : Str → Option Value} {L : List Addr} {R H : Hp} : ∀ {vs : List V} {ds : List D}, PReps K mg L R H vs ds → vs.length = ds.length
  | _, _, .nil => rfl
  | _, _, .cons _ h => by rw [List.length_cons, List.length_cons, preps_len h]
theorem di_range1 {fl : EL} (hg : Gl X "range") (hm : X.mg "range" = none) (ha : DL X W [a] fl) (hs : starEach [a] X.env = [(false, eval a X.env)]) (hl : ∀ ρ s tvs s', fl ρ s = .ok tvs s' → tvs.length = 1) : DI X W tg (.Call (.Name "range" p) [a] [] pos) (iRange fl) :=
  PI.weak (pi_range1 hg hm ha hs) fun σ H Q ⟨C, R, ρ, s, x, h⟩ => by
    refine ⟨C, R, ρ, s, x, ?_⟩
    unfold iRange at h
    cases q : fl ρ s with
    | exc c s1 => rw [q] at h; exact h
    | bad => rw [q] at h; exact h
    | ok tvs s1 =>
      rw [q] at h
      intro vs C1 R1 H1 l1 r1 x1 v1
      have lk := v1.look x1
      have h : PostR (KW X) X.mg W σ C R (OkI (KW X) X.mg ρ σ C R Q) (match tvs.map TV.d with
        | [.int j] => if -(2 ^ 62) ≤ j ∧ j < 2 ^ 62 then .ok ([], rangeD 0 j) s1 else .bad
        | [.int i, .int j] => if -(2 ^ 62) ≤ i ∧ i < 2 ^ 62 ∧ -(2 ^ 62) ≤ j ∧ j < 2 ^ 62 then .ok ([], rangeD i j) s1 else .bad
        | _ => .bad) := h
      have l := hl ρ s tvs s1 q
      split at h
      · rename_i j e
        rw [e] at lk
        obtain ⟨v, rfl, lv⟩ := lk.one
        split at h
        · rename_i hj
          refine ⟨j, by rw [lv.int], hj.1, hj.2, ?_⟩
          refine h (Itr 0 j.toNat) [] C1 R1 H1 l1 r1 x1 .nil ?_
          show ItOk _ _ _ _ _ _ (rangeD 0 j)
          unfold rangeD
          rw [Int.sub_zero]
          exact itok_rng
        · exact h.elim
      · rename_i i j e
        have := congrArg List.length e
        rw [List.length_map, l] at this
        cases this
      · exact h.elim
theorem di_range3 {c : Expr} {fl : EL} (hg : Gl X "range") (hm : X.mg "range" = none) (ha : DL X W [a, b, c] fl) (hs : starEach [a, b, c] X.env = (false, eval a X.env) :: starEach [b, c] X.env) (hpl : (backTo pos (starEach [b, c] X.env)).any (·.1) = false) :
    DI X W tg (.Call (.Name "range" p) [a, b, c] [] pos) (iRange3 fl) :=
  PI.weak (pi_range3 hg hm ha hs hpl) fun σ H Q ⟨C, R, ρ, s, x, h⟩ => by
    refine ⟨C, R, ρ, s, x, ?_⟩
    unfold iRange3 at h
    cases q : fl ρ s with
    | exc c s1 => rw [q] at h; exact h
    | bad => rw [q] at h; exact h
    | ok tvs s1 =>
      rw [q] at h
      intro vs C1 R1 H1 l1 r1 x1 v1
      have lk := v1.look x1
      have h : PostR (KW X) X.mg W σ C R (OkI (KW X) X.mg ρ σ C R Q) (rngCK s1 (tvs.map TV.d)) := h
      unfold rngCK at h
      split at h
      · rename_i i j c e
        rw [e] at lk
        cases lk with
        | cons lv lk =>
          obtain ⟨w, z, rfl, lw, lz⟩ := lk.two
          split at h
          · rename_i hj
            exact ⟨i, j, c, _, by rw [lv.int, lw.int, lz.int], ⟨hj.1, hj.2.1, hj.2.2.1, (Int.toNat_of_nonneg hj.2.2.2).symm⟩, h (Itc i c _) [] C1 R1 H1 l1 r1 x1 .nil itok_rngC⟩
          · exact h.elim
      · exact h.elim
theorem di_range2 {fl : EL} (hg : Gl X "range") (hm : X.mg "range" = none) (ha : DL X W [a, b] fl) (hs : starEach [a, b] X.env = [(false, eval a X.env), (false, eval b X.env)]) (hs2 : starEach [b] X.env = [(false, eval b X.env)]) (hl : ∀ ρ s tvs s', fl ρ s = .ok tvs s' → tvs.length = 2) :
    DI X W tg (.Call (.Name "range" p) [a, b] [] pos) (iRange fl) :=
  PI.weak (pi_range2 hg hm ha hs hs2) fun σ H Q ⟨C, R, ρ, s, x, h⟩ => by
    refine ⟨C, R, ρ, s, x, ?_⟩
    unfold iRange at h
    cases q : fl ρ s with
    | exc c s1 => rw [q] at h; exact h
    | bad => rw [q] at h; exact h
    | ok tvs s1 =>
      rw [q] at h
      intro vs C1 R1 H1 l1 r1 x1 v1
      have lk := v1.look x1
      have h : PostR (KW X) X.mg W σ C R (OkI (KW X) X.mg ρ σ C R Q) (match tvs.map TV.d with
        | [.int j] => if -(2 ^ 62) ≤ j ∧ j < 2 ^ 62 then .ok ([], rangeD 0 j) s1 else .bad
        | [.int i, .int j] => if -(2 ^ 62) ≤ i ∧ i < 2 ^ 62 ∧ -(2 ^ 62) ≤ j ∧ j < 2 ^ 62 then .ok ([], rangeD i j) s1 else .bad
        | _ => .bad) := h
      have l := hl ρ s tvs s1 q
      split at h
      · rename_i j e
        have := congrArg List.length e
        rw [List.length_map, l] at this
        cases this
      · rename_i i j e
        rw [e] at lk
        obtain ⟨v, w, rfl, lv, lw⟩ := lk.two
        split at h
        · rename_i hj
          exact ⟨i, j, by rw [lv.int, lw.int], hj, h (Itr i (j - i).toNat) [] C1 R1 H1 l1 r1 x1 .nil itok_rng⟩
        · exact h.elim
      · exact h.elim
/-- zip of two lists, of two tuples -/
def zipD : List D → List D → List D
  | x :: xs, y :: ys => .tpw [x, y] :: zipD xs ys
  | _, _ => []
theorem zipD_len : ∀ xs ys : List D, (zipD xs ys).length = min xs.length ys.length
  | [], _ => by simp [zipD]
  | _ :: _, [] => by simp [zipD]
  | x :: xs, y :: ys => by rw [zipD, List.length_cons, zipD_len xs ys, List.length_cons, List.length_cons]; omega
theorem zipD_get : ∀ {xs ys : List D} {i : Nat} {d : D}, (zipD xs ys)[i]? = some d → ∃ x y, xs[i]? = some x ∧ ys[i]? = some y ∧ d = .tpw [x, y]
  | [], _, _, _, h => by simp [zipD] at h
  | _ :: _, [], _, _, h => by simp [zipD] at h
  | x :: xs, y :: ys, 0, d, h => by
    rw [zipD] at h
    cases h
    exact ⟨x, y, rfl, rfl, rfl⟩
  | x :: xs, y :: ys, i + 1, d, h => by
    rw [zipD] at h
    obtain ⟨a, b, h1, h2, h3⟩ := zipD_get (xs := xs) (ys := ys) (i := i) h
    exact ⟨a, b, h1, h2, h3⟩
def iZip (l : EL) : IW := fun ρ s => (l ρ s).bind fun tvs s1 => match tvs.map TV.d with
  | [.lst xs, .lst ys] => .ok (tvs, zipD xs ys) s1
  | [.tup xs, .tup ys] => .ok (tvs, zipD xs ys) s1
  | _ => .bad
theorem itok_zipL {K : Kw} {mg : Str → Option Value} {R0 : Hp} {a b : Addr} {xs ys : List D} : ItOk K mg R0 (Itz K a b) [.ref a, .ref b] [.lst xs, .lst ys] (zipD xs ys) := fun L R H s0 sub ps => by
  obtain ⟨v, w, e, h, h'⟩ := ps.two
  cases e
  obtain ⟨_, us, e, h1, h2⟩ := h
  cases e
  obtain ⟨_, ws, e, h3, h4⟩ := h'
  cases e
  refine ⟨fun i hi => ⟨us, ws, SqL.of h1, SqL.of h3, ?_⟩, fun i hi => ?_, fun i x H' d e hy => ?_⟩
  · rw [zipD_len] at hi
    rw [h2.length, h4.length]
    omega
  · obtain ⟨x, y, e1, e2, e3⟩ := zipD_get (List.getElem?_eq_getElem hi)
    obtain ⟨u, q1, _⟩ := h2.get e1
    obtain ⟨w, q2, _⟩ := h4.get e2
    exact ⟨us, ws, u, w, SqL.of h1, SqL.of h3, q1, q2⟩
  · obtain ⟨T, u, w, rfl, hT, rfl, y1, y2⟩ := hy
    obtain ⟨x, y, e1, e2, rfl⟩ := zipD_get e
    obtain ⟨u', q1, r1⟩ := h2.get e1
    obtain ⟨w', q2, r2⟩ := h4.get e2
    have y1 := y1 us (SqL.of h1)
    have y2 := y2 ws (SqL.of h3)
    rw [q1] at y1
    rw [q2] at y2
    cases y1
    cases y2
    have sR : Same R (upd R T (.tup [u, w])) := same_upd (same_none sub hT)
    exact .inr ⟨T, _, hT, rfl, .tpw (SqT.of upd_same) (.cons (r1.mono (List.prefix_refl _) sR) (.cons (r2.mono (List.prefix_refl _) sR) .nil))⟩
theorem itok_zipT {K : Kw} {mg : Str → Option Value} {R0 : Hp} {a b : Addr} {xs ys : List D} : ItOk K mg R0 (RZ.ItzT K a b) [.ref a, .ref b] [.tup xs, .tup ys] (zipD xs ys) := fun L R H s0 sub ps => by
  obtain ⟨v, w, e, h, h'⟩ := ps.two
  cases e
  obtain ⟨_, us, e, h1, h2⟩ := h.tup
  cases e
  obtain ⟨_, ws, e, h3, h4⟩ := h'.tup
  cases e
  have h1 := Same.tupl sub h1
  have h3 := Same.tupl sub h3
  refine ⟨fun i hi => ⟨us, ws, h1, h3, ?_⟩, fun i hi => ?_, fun i x H' d e hy => ?_⟩
  · rw [zipD_len] at hi
    rw [h2.length, h4.length]
    omega
  · obtain ⟨x, y, e1, e2, e3⟩ := zipD_get (List.getElem?_eq_getElem hi)
    obtain ⟨u, q1, _⟩ := h2.get e1
    obtain ⟨w, q2, _⟩ := h4.get e2
    exact ⟨us, ws, u, w, h1, h3, q1, q2⟩
  · obtain ⟨T, u, w, rfl, hT, rfl, y1, y2⟩ := hy
    obtain ⟨x, y, e1, e2, rfl⟩ := zipD_get e
    obtain ⟨u', q1, r1⟩ := h2.get e1
    obtain ⟨w', q2, r2⟩ := h4.get e2
    have y1 := y1 us h1
    have y2 := y2 ws h3
    rw [q1] at y1
    rw [q2] at y2
    cases y1
    cases y2
    have sR : Same R (upd R T (.tup [u, w])) := same_upd (same_none sub hT)
    exact .inr ⟨T, _, hT, rfl, .tpw (SqT.of upd_same) (.cons (r1.mono (List.prefix_refl _) sR) (.cons (r2.mono (List.prefix_refl _) sR) .nil))⟩
theorem di_zip {fl : EL} {elts : List Expr} {kk : Nat} {tpos : Pos} (hg : Gl X "zip") (hm : X.mg "zip" = none) (ha : DL X W [a, b] fl) (hs : starEach [a, b] X.env = (false, eval a X.env) :: starEach [b] X.env) (hpl : (backTo pos (starEach [b] X.env)).any (·.1) = false) :
    DI X W (.Tuple elts kk tpos) (.Call (.Name "zip" p) [a, b] [] pos) (iZip fl) :=
  PI.weak (RZ.pi_zipA hg hm ha hs hpl) fun σ H Q ⟨C, R, ρ, s, x, h⟩ => by
    refine seqL x h fun tvs s1 vs C1 R1 H1 l1 r1 x1 v1 h1 => ?_
    have lk := v1.look x1
    split at h1
    · rename_i xs ys e
      rw [e] at lk
      obtain ⟨v, w, rfl, lv, lw⟩ := lk.two
      obtain ⟨a, us, rfl, q1, q2⟩ := lv
      obtain ⟨b, ws, rfl, q3, q4⟩ := lw
      refine ⟨a, b, us, ws, rfl, .inl ⟨SqL.of q1, SqL.of q3, h1 _ _ C1 R1 H1 l1 r1 x1 v1 ?_⟩⟩
      show ItOk _ _ _ _ _ (tvs.map (·.d)) _
      rw [e]
      exact itok_zipL
    · rename_i xs ys e
      rw [e] at lk
      obtain ⟨v, w, rfl, lv, lw⟩ := lk.two
      obtain ⟨a, us, rfl, q1, q2⟩ := lv.tup
      obtain ⟨b, ws, rfl, q3, q4⟩ := lw.tup
      refine ⟨a, b, us, ws, rfl, .inr ⟨Same.tupl x1.bas.sub q1, Same.tupl x1.bas.sub q3, h1 _ _ C1 R1 H1 l1 r1 x1 v1 ?_⟩⟩
      show ItOk _ _ _ _ _ (tvs.map (·.d)) _
      rw [e]
      exact itok_zipT
    · exact h1.elim
end
end UW
namespace UW
open PySem PySem.Spec PyProof.Rows L2

/-! ### targets -/
abbrev G := D → DSt → Option DSt
abbrev Gs := List D → DSt → Option DSt
def gN (i : Nat) : G := fun d ρ => some (ρ.set i (.sh d))
def gT (gs : Gs) : G := fun d ρ => match d with
  | .tup ds => gs ds ρ
  | .tpw ds => gs ds ρ
  | .lst ds => gs ds ρ
  | _ => none
def gsNil : Gs := fun ds ρ => match ds with
  | [] => some ρ
  | _ :: _ => none
def gsCons (g : G) (gs : Gs) : Gs := fun ds ρ => match ds with
  | [] => none
  | d :: r => (g d ρ).bind (gs r)
/-- σ' is σ but at the slots ts -/
def Agree (ts : List Nat) (σ σ' : L2.St) : Prop := σ'.length = σ.length ∧ ∀ j : Nat, j ∉ ts → σ'[j]? = σ[j]?
def tDG (K : Kw) (mg : Str → Option Value) (ts : List Nat) (f : G) : TG := fun v σ H Q => ∃ C R ρ s d ρ', Rel K mg C R ρ σ H s ∧ Rep K mg C.L R v d ∧ f d ρ = some ρ' ∧ ∀ σ', Rel K mg C R ρ' σ' H s → Agree ts σ σ' → Q σ' H
def tDGs (K : Kw) (mg : Str → Option Value) (ts : List Nat) (f : Gs) : TGs := fun vs σ H Q => ∃ C R ρ s ds ρ', Rel K mg C R ρ σ H s ∧ RepAll K mg C.L R vs ds ∧ f ds ρ = some ρ' ∧ ∀ σ', Rel K mg C R ρ' σ' H s → Agree ts σ σ' → Q σ' H
abbrev DG (X : Cx) (tg : Expr) (ts : List Nat) (f : G) : Prop := PG X tg (tDG (KW X) X.mg ts f)
abbrev DGs (X : Cx) (tgs : List Expr) (ts : List Nat) (f : Gs) : Prop := PGs X tgs (tDGs (KW X) X.mg ts f)
theorem PG.weak {X : Cx} {tg : Expr} {t t' : TG} (h : PG X tg t) (k : ∀ v σ H Q, t' v σ H Q → t v σ H Q) : PG X tg t' := ⟨fun pins s σ H v u Q I r q => h.run pins s σ H v u Q I r (k v σ H Q q)⟩
theorem PGs.weak {X : Cx} {tg : List Expr} {t t' : TGs} (h : PGs X tg t) (k : ∀ v σ H Q, t' v σ H Q → t v σ H Q) : PGs X tg t' := ⟨fun pins s σ H v u Q I r q => h.run pins s σ H v u Q I r (k v σ H Q q)⟩
theorem agree_refl {ts : List Nat} {σ : L2.St} : Agree ts σ σ := ⟨rfl, fun _ _ => rfl⟩
theorem Agree.trans {ts : List Nat} {σ σ1 σ2 : L2.St} (a : Agree ts σ σ1) (b : Agree ts σ1 σ2) : Agree ts σ σ2 := ⟨b.1.trans a.1, fun j h => (b.2 j h).trans (a.2 j h)⟩
theorem Agree.mono {ts us : List Nat} {σ σ1 : L2.St} (a : Agree ts σ σ1) (h : ∀ i, i ∈ ts → i ∈ us) : Agree us σ σ1 := ⟨a.1, fun j hj => a.2 j fun z => hj (h j z)⟩
section
variable {X : Cx} {pos : Pos}
theorem dg_name {i : Nat} {x : Str} (hN : X.N.Nodup) (hi : X.N[i]? = some x) (hx : Loc X.env.scope x) (hf : X.fn x = true ∨ X.env.scope.names.lookup x = some .local) : DG X (.Name x pos) [i] (gN i) :=
  PG.weak (pg_name hN hi hx hf) fun v σ H Q ⟨C, R, ρ, s, d, ρ', rel, rep, e, q⟩ => by
    cases e
    exact q _ (rel.setSh rep) ⟨List.length_set, fun j hj => by rw [List.getElem?_set_ne]; intro z; exact hj (by simp [z])⟩
theorem dgs_nil : DGs X [] [] gsNil := PGs.weak pgs_nil fun v σ H Q ⟨C, R, ρ, s, ds, ρ', rel, rep, e, q⟩ => by
  cases ds with
  | nil =>
    cases e
    cases rep
    exact ⟨rfl, q σ rel agree_refl⟩
  | cons _ _ => cases e
theorem dgs_cons {t : Expr} {es : List Expr} {g : G} {gs : Gs} {ts us : List Nat} (h1 : DG X t ts g) (h2 : DGs X es us gs) (hs : (assignEach (t :: es) X.env).map (·.2) = assign t X.env :: (assignEach es X.env).map (·.2)) : DGs X (t :: es) (ts ++ us) (gsCons g gs) :=
  PGs.weak (pgs_cons h1 h2 hs) fun v σ H Q ⟨C, R, ρ, s, ds, ρ', rel, rep, e, q⟩ => by
    cases ds with
    | nil => cases e
    | cons d r =>
      cases rep with
      | cons r1 r2 =>
        unfold gsCons at e
        dsimp only at e
        cases e1 : g d ρ with
        | none => rw [e1] at e; cases e
        | some ρ1 =>
          rw [e1] at e
          refine ⟨_, _, rfl, C, R, ρ, s, d, ρ1, rel, r1, e1, fun σ1 rel1 a1 => ?_⟩
          exact ⟨C, R, ρ1, s, r, ρ', rel1, r2, e, fun σ2 rel2 a2 => q σ2 rel2 ((a1.mono fun i hi => List.mem_append_left _ hi).trans (a2.mono fun i hi => List.mem_append_right _ hi))⟩
theorem pg_tl {es : List Expr} {k n : Nat} {t : TGs} (hc : X.calm = true) (h : PGs X es t) (hn : (assignEach es X.env).length = n) (hst : (assignEach es X.env).findIdx? (·.1) = none) : PG X (.Tuple es k pos) (fun v σ H Q => gTup X.K n t v σ H Q ∨ gLst X.K n t v σ H Q) :=
  ⟨fun pins s σ H v u Q I r hw => hw.elim (fun z => (pg_tup hc h hn hst).run pins s σ H v u Q I r z) fun z => (pg_lst hc h hn hst).run pins s σ H v u Q I r z⟩
theorem gs_len {es : List Expr} {gs : Gs} : True := trivial
theorem dg_tup {es : List Expr} {k n : Nat} {gs : Gs} {ts : List Nat} (hc : X.calm = true) (h : DGs X es ts gs) (hn : (assignEach es X.env).length = n) (hst : (assignEach es X.env).findIdx? (·.1) = none) (hl : ∀ ds ρ ρ', gs ds ρ = some ρ' → ds.length = n) : DG X (.Tuple es k pos) ts (gT gs) :=
  PG.weak (pg_tl hc h hn hst) fun v σ H Q ⟨C, R, ρ, s, d, ρ', rel, rep, e, q⟩ => by
    unfold gT at e
    split at e
    · rename_i ds
      cases rep with
      | tup r1 r2 => exact .inl ⟨_, _, rfl, Same.tupl rel.bas.sub r1.sq, by rw [r2.length]; exact hl _ _ _ e, C, R, ρ, s, ds, ρ', rel, r2, e, q⟩
    · rename_i ds
      cases rep with
      | tpw r1 r2 => exact .inl ⟨_, _, rfl, Same.tupl rel.bas.sub r1, by rw [r2.length]; exact hl _ _ _ e, C, R, ρ, s, ds, ρ', rel, r2, e, q⟩
    · rename_i ds
      cases rep with
      | lst r1 r2 => exact .inr ⟨_, _, rfl, SqL.of (rel.bas.sub _ _ r1), by rw [r2.length]; exact hl _ _ _ e, C, R, ρ, s, ds, ρ', rel, r2, e, q⟩
    · cases e
end

/-! ### an object that is to stay as it is -/
section
variable {K : Kw} {mg : Str → Option Value} {C C' : Cn} {R R' H H' : Hp} {ρ : DSt} {σ : L2.St} {s s' : Sto} {p : Addr} {o : HO}
def Cn.guard (C : Cn) (p : Addr) (o : HO) : Cn := { C with H0 := upd C.H0 p o }
/-- nobody has it -/
structure Alone (C : Cn) (R : Hp) (ρ : DSt) (σ : L2.St) (p : Addr) : Prop where
  r : R p = none
  l : p ∉ C.L
  h0 : C.H0 p = none
  own : ∀ (i : Nat) (d : D), ρ[i]? = some (.ow d) → σ[i]? ≠ some (some (.ref p))
theorem Rel.guard (x : Rel K mg C R ρ σ H s) (al : Alone C R ρ σ p) (ho : H p = some o) : Rel K mg (C.guard p o) R ρ σ H s where
  bas := by
    refine ⟨x.bas.sub, fun a u e => ?_, x.bas.r0, fun a u e hn => ?_, x.bas.sto, x.bas.n0, fun i a hi e => ?_⟩
    · rcases x.bas.new a u e with z | z
      · exact .inl z
      · refine .inr ?_
        show upd C.H0 p o a = none
        rw [upd_ne fun q => by rw [q, al.r] at e; cases e]
        exact z
    · rcases upd_some (show upd C.H0 p o a = some u from e) with ⟨rfl, rfl⟩ | ⟨h1, h2⟩
      · exact ho
      · exact x.bas.keep a u h2 hn
    · show upd C.H0 p o a = none
      have hm := List.mem_of_getElem? (show C.L[i]? = some a from e)
      rw [upd_ne fun q => by rw [q] at hm; exact al.l hm]
      exact x.bas.ln0 i a hi e
  len := x.len
  shr := x.shr
  own := fun i d e => by
    obtain ⟨q, h1, h2, h3, h4, h5⟩ := x.own i d e
    refine ⟨q, h1, h2, ?_, h4, h5⟩
    show upd C.H0 p o q = none
    rw [upd_ne fun z => by rw [z] at h1; exact al.own i d e h1]
    exact h3
  nd := x.nd
/-- .. and stays -/
theorem Bas.guarded (x : Bas K mg C' R' H' s') (le : (C.guard p o).Le C') (al : Alone C R ρ σ p) (r0 : Same C.R0 R) (hn0 : C.n0 ≤ C.L.length) : H' p = some o ∧ R' p = none ∧ p ∉ C'.L ∧ Bas K mg { C' with H0 := C.H0 } R' H' s' ∧ C.Le { C' with H0 := C.H0 } := by
  have e0 : C'.H0 = upd C.H0 p o := le.H0
  have eR : C'.R0 = C.R0 := le.R0
  have en : C'.n0 = C.n0 := le.n0
  have pre : C.L <+: C'.L := le.L
  have hp0 : C'.H0 p = some o := by rw [e0]; exact upd_same
  have hL : p ∉ C'.L := fun hm => by
    obtain ⟨i, hi, e⟩ := List.mem_iff_getElem.mp hm
    have e' : C'.L[i]? = some p := by rw [List.getElem?_eq_getElem hi, e]
    by_cases hc : C'.n0 ≤ i
    · have z := x.ln0 i p hc e'
      rw [hp0] at z; cases z
    · obtain ⟨t, ht⟩ := pre
      have hlt : i < C.L.length := by omega
      rw [← ht, List.getElem?_append_left hlt] at e'
      exact al.l (List.mem_of_getElem? e')
  have hr : R' p = none := by
    cases q : R' p with
    | none => rfl
    | some u =>
      rcases x.new p u q with z | z
      · rw [eR] at z
        have := r0 p u z
        rw [al.r] at this; cases this
      · rw [hp0] at z; cases z
  have hn : ∀ a, C'.H0 a = none → C.H0 a = none := fun a h => by
    rw [e0] at h
    by_cases z : a = p
    · rw [z, upd_same] at h; cases h
    · rw [upd_ne z] at h; exact h
  refine ⟨x.keep p o hp0 fun hm => hL (List.mem_of_mem_take hm), hr, hL, ⟨x.sub, fun a u e => ?_, x.r0, fun a u e hm => ?_, x.sto, x.n0, fun i a hi e => hn a (x.ln0 i a hi e)⟩, ⟨pre, rfl, eR, en⟩⟩
  · exact (x.new a u e).imp id (hn a)
  · refine x.keep a u ?_ hm
    rw [e0]
    by_cases z : a = p
    · rw [z, al.h0] at e; cases e
    · rw [upd_ne z]; exact e
theorem Rel.guarded {ρ' : DSt} {σ' : L2.St} (x : Rel K mg C' R' ρ' σ' H' s') (le : (C.guard p o).Le C') (al : Alone C R ρ σ p) (r0 : Same C.R0 R) (hn0 : C.n0 ≤ C.L.length) : H' p = some o ∧ Rel K mg { C' with H0 := C.H0 } R' ρ' σ' H' s' ∧ C.Le { C' with H0 := C.H0 } ∧ Alone { C' with H0 := C.H0 } R' ρ' σ' p := by
  obtain ⟨h1, h2, h3, h4, h5⟩ := x.bas.guarded le al r0 hn0
  have e0 : C'.H0 = upd C.H0 p o := le.H0
  refine ⟨h1, ⟨h4, x.len, x.shr, fun i d e => ?_, x.nd⟩, h5, ⟨h2, h3, al.h0, fun i d e q => ?_⟩⟩
  · obtain ⟨q, a1, a2, a3, a4, a5⟩ := x.own i d e
    refine ⟨q, a1, a2, ?_, a4, a5⟩
    show C.H0 q = none
    rw [e0] at a3
    by_cases z : q = p
    · rw [z, upd_same] at a3; cases a3
    · rw [upd_ne z] at a3; exact a3
  · obtain ⟨q', a1, a2, a3, a4, a5⟩ := x.own i d e
    rw [q] at a1
    cases a1
    rw [e0, upd_same] at a3
    cases a3
/-- the object that nobody has is written -/
theorem Rel.writeAlone (x : Rel K mg C R ρ σ H s) (al : Alone C R ρ σ p) {o' : HO} (hno : ∀ y, H p ≠ some (.own y)) : Rel K mg C R ρ σ (upd H p o') s where
  bas := by
    refine ⟨fun a u e => ?_, x.bas.new, x.bas.r0, fun a u e hn => ?_, ⟨x.bas.sto.len, x.bas.sto.nd, fun i ob a e1 e2 => ?_⟩, x.bas.n0, x.bas.ln0⟩
    · rw [upd_ne fun q => by rw [q, al.r] at e; cases e]
      exact x.bas.sub a u e
    · rw [upd_ne fun q => by rw [q, al.h0] at e; cases e]
      exact x.bas.keep a u e hn
    · obtain ⟨h1, h2⟩ := x.bas.sto.at_ i ob a e1 e2
      refine ⟨h1.mono (List.prefix_refl _) (L2.Same.refl _) (fun b u e3 e4 => ?_) (fun _ _ e => e), h2⟩
      rw [upd_ne fun z => ?_]
      · exact e3
      · subst z
        rcases e4 with e4 | e4
        · have hm := List.mem_of_getElem? e2
          rw [← e4] at hm
          exact al.l hm
        · subst e4
          exact hno a e3
  len := x.len
  shr := x.shr
  own := fun i d e => by
    obtain ⟨q, h1, h2, h3, h4, h5⟩ := x.own i d e
    exact ⟨q, h1, h2.mono (List.prefix_refl _) (L2.Same.refl _) (upd_ne fun z => by rw [z] at h1; exact al.own i d e h1), h3, h4, h5⟩
  nd := x.nd
end
end UW
namespace UW
open PySem PySem.Spec PyProof.Rows L2

def W0 : WX := fun _ _ _ _ => False
def wipeD (ρ : DSt) : List Nat → DSt
  | [] => ρ
  | v :: vs => (wipeD ρ vs).set v .no
def noOwn (ρ : DSt) (vs : List Nat) : Bool := vs.all fun i => match ρ[i]? with
  | some (.ow _) => false
  | _ => true
def Res.nox {A : Type} : Res A → Res A
  | .exc _ _ => .bad
  | r => r
def compL (g : G) (tt : T) (te : E) (ρ : DSt) : List D → Sto → Res (List D)
  | [], s => .ok [] s
  | d :: ds, s => match g d ρ with
    | none => .bad
    | some ρ' => (tt ρ' s).nox.bind fun b s1 => if b = true then (te ρ' s1).nox.bind fun x s2 => match x.keep with
        | ⟨.cl, y⟩ => (compL g tt te ρ ds s2).bind fun r s3 => .ok (y :: r) s3
        | _ => .bad
      else compL g tt te ρ ds s1
def eComp (vs : List Nat) (it : IW) (g : G) (tt : T) (te : E) : E := fun ρ s => (it ρ s).bind fun z s1 => if noOwn ρ vs = true ∧ z.2.length ≤ 16777216 then (compL g tt te (wipeD ρ vs) z.2 s1).bind fun r s2 => .ok ⟨.fr, .lst r⟩ s2 else .bad
/-- a target touches its own slots alone -/
def GFr (ts : List Nat) (g : G) : Prop := ∀ d ρ ρ', g d ρ = some ρ' → ∀ j : Nat, j ∉ ts → ρ'[j]? = ρ[j]?
theorem wipeD_length (ρ : DSt) : ∀ vs : List Nat, (wipeD ρ vs).length = ρ.length
  | [] => rfl
  | v :: vs => by unfold wipeD; rw [List.length_set, wipeD_length ρ vs]
theorem wipeD_out {ρ : DSt} {j : Nat} : ∀ {vs : List Nat}, j ∉ vs → (wipeD ρ vs)[j]? = ρ[j]?
  | [], _ => rfl
  | v :: vs, h => by
    rw [List.mem_cons, not_or] at h
    unfold wipeD
    rw [List.getElem?_set_ne (Ne.symm h.1)]
    exact wipeD_out h.2
theorem wipeD_in {ρ : DSt} {j : Nat} {d : D} : ∀ {vs : List Nat}, (wipeD ρ vs)[j]? = some (.ow d) → j ∉ vs
  | [], _ => by simp
  | v :: vs, h => by
    unfold wipeD at h
    rcases get_set h with ⟨rfl, z, _⟩ | ⟨ne, h⟩
    · cases z
    · rw [List.mem_cons, not_or]
      exact ⟨fun e => ne e.symm, wipeD_in h⟩
theorem wipe_keep {σ : L2.St} {j : Nat} : ∀ {vs : List Nat}, j ∉ vs → (wipe σ vs)[j]? = σ[j]?
  | [], _ => rfl
  | v :: vs, h => by
    rw [List.mem_cons, not_or] at h
    unfold wipe
    rw [List.getElem?_set_ne (Ne.symm h.1)]
    exact wipe_keep h.2
theorem wipe_gone {σ : L2.St} {j : Nat} : ∀ {vs : List Nat}, j ∈ vs → j < σ.length → (wipe σ vs)[j]? = some none
  | v :: vs, h, hl => by
    unfold wipe
    by_cases e : v = j
    · subst e
      rw [List.getElem?_set_self (by rw [wipe_length]; exact hl)]
    · rw [List.getElem?_set_ne e]
      rcases List.mem_cons.mp h with z | z
      · exact absurd z.symm e
      · exact wipe_gone z hl
theorem Agree.wipe_eq {vs ts : List Nat} {σ σ2 : L2.St} (a : Agree ts (wipe σ vs) σ2) (h : ∀ i, i ∈ ts → i ∈ vs) : wipe σ2 vs = wipe σ vs := by
  apply List.ext_getElem?
  intro j
  have hl : σ2.length = σ.length := a.1.trans (wipe_length _ _)
  by_cases hj : j ∈ vs
  · by_cases hlt : j < σ.length
    · rw [wipe_gone hj (by rw [hl]; exact hlt), wipe_gone hj hlt]
    · rw [List.getElem?_eq_none (by rw [wipe_length, hl]; omega), List.getElem?_eq_none (by rw [wipe_length]; omega)]
  · rw [wipe_keep hj, a.2 j fun z => hj (h j z)]
theorem noOwn_out {ρ : DSt} {vs : List Nat} (h : noOwn ρ vs = true) {i : Nat} {d : D} (e : ρ[i]? = some (.ow d)) : i ∉ vs := fun hm => by
  have := List.all_eq_true.mp h i hm
  rw [e] at this
  cases this

section
variable {K : Kw} {mg : Str → Option Value} {C C' : Cn} {R R' H H' : Hp} {ρ ρ' : DSt} {σ σ' : L2.St} {s s' : Sto}
theorem Rel.wiped (x : Rel K mg C R ρ σ H s) : ∀ vs : List Nat, Rel K mg C R (wipeD ρ vs) (wipe σ vs) H s
  | [] => x
  | v :: vs => (x.wiped vs).setNo v none
/-- what the slots were, they are again -/
theorem Rel.back (x : Rel K mg C R ρ σ H s) (y : Rel K mg C' R' ρ' σ' H' s') (le : C.Le C') (sR : Same R R') (h : ∀ (j : Nat) (d : D), ρ[j]? = some (.ow d) → ρ'[j]? = some (.ow d) ∧ σ'[j]? = σ[j]?) : Rel K mg C' R' ρ σ H' s' where
  bas := y.bas
  len := x.len
  shr := fun i d e => by
    obtain ⟨v, h1, h2⟩ := x.shr i d e
    exact ⟨v, h1, h2.mono le.L sR⟩
  own := fun i d e => by
    obtain ⟨h1, h2⟩ := h i d e
    obtain ⟨p, a1, a2⟩ := y.own i d h1
    exact ⟨p, h2 ▸ a1, a2⟩
  nd := fun i j d e p q1 q2 q3 q4 => by
    obtain ⟨h1, h2⟩ := h i d q1
    obtain ⟨h3, h4⟩ := h j e q2
    exact y.nd i j d e p h1 h3 (by rw [h2]; exact q3) (by rw [h4]; exact q4)
theorem Alone.back {p : Addr} (al : Alone C' R' ρ' σ' p) (h : ∀ (j : Nat) (d : D), ρ[j]? = some (.ow d) → ρ'[j]? = some (.ow d) ∧ σ'[j]? = σ[j]?) : Alone C' R' ρ σ p := ⟨al.r, al.l, al.h0, fun i d e q => by
  obtain ⟨h1, h2⟩ := h i d e
  exact al.own i d h1 (by rw [h2]; exact q)⟩
theorem VReps.wiped {vs : List Nat} {H2 : Hp} (hn : noOwn ρ vs = true) (le : C.Le C') (sR : Same R R') : ∀ {xs : List V} {tvs : List TV}, VReps K mg C R ρ σ H xs tvs → VReps K mg C' R' (wipeD ρ vs) (wipe σ vs) H2 xs tvs
  | _, _, .nil => .nil
  | _, ⟨.cl, d⟩ :: _, .cons h1 h2 h3 => .cons (show VRep K mg C' R' _ _ H2 _ ⟨.cl, d⟩ from Rep.mono le.L sR d h1) h2 (h3.wiped hn le sR)
  | _, ⟨.fr, _⟩ :: _, .cons h1 h2 h3 => absurd rfl h2
  | _, ⟨.dy i, d⟩ :: _, .cons h1 h2 h3 => .cons (by
      have hi := noOwn_out hn h1.1
      exact ⟨by rw [wipeD_out hi]; exact h1.1, by rw [wipe_keep hi]; exact h1.2⟩) h2 (h3.wiped hn le sR)
end

theorem PostR.W0 {K : Kw} {mg : Str → Option Value} {σ σ' : L2.St} {C C' : Cn} {R R' : Hp} {A B : Type} {P : B → Sto → Prop} {P' : A → Sto → Prop} {W : WX} {r : Res A} {k : A → Sto → Res B} (h : PostR K mg W σ C R P (r.nox.bind k)) (hk : ∀ a s, PostR K mg W σ C R P (k a s) → P' a s) : PostR K mg W0 σ' C' R' P' r := by
  cases r with
  | ok a s => exact hk a s h
  | exc c s => exact (show False from h).elim
  | bad => exact h

section
variable {X : Cx} {W : WX}
/-- a comprehension's reading -/
theorem comp_read {vs ts : List Nat} {fi : IW} {g : G} {ft : T} {fe : E} (hgf : GFr ts g) (hts : ∀ i, i ∈ ts → i ∈ vs) {σ : L2.St} {H : Hp} {Q : VK} (h : tD (KW X) X.mg W (eComp vs fi g ft fe) σ H Q) :
    tLc (tDI (KW X) X.mg W fi) (tDG (KW X) X.mg ts g) (tDT (KW X) X.mg W0 ft) (tD (KW X) X.mg W0 fe) vs σ H Q := by
  obtain ⟨C, R, ρ, s, x, h⟩ := h
  refine ⟨C, R, ρ, s, x, ?_⟩
  unfold eComp at h
  cases q : fi ρ s with
  | exc c s1 => rw [q] at h; exact h
  | bad => rw [q] at h; exact h
  | ok z s1 =>
    rw [q] at h
    obtain ⟨src, ds⟩ := z
    intro J ws C1 R1 H1 l1 r1 x1 v1 jo A hA
    have v1 : VReps (KW X) X.mg C1 R1 ρ σ H1 ws src := v1
    have jo : ItOk (KW X) X.mg R1 J ws (src.map (·.d)) ds := jo
    have h : PostR (KW X) X.mg W σ C R (OkE (KW X) X.mg ρ σ C R Q) (if noOwn ρ vs = true ∧ ds.length ≤ 16777216 then (compL g ft fe (wipeD ρ vs) ds s1).bind fun r s2 => .ok ⟨.fr, .lst r⟩ s2 else .bad) := h
    split at h
    · rename_i hno
      obtain ⟨hno, hlen⟩ := hno
      -- the invariant
      refine ⟨fun i m H2 => m = ds.length - i ∧ i ≤ ds.length ∧ ∃ C2 R2 s2 acc xs, C1.Le C2 ∧ Same R1 R2 ∧ Rel (KW X) X.mg C2 R2 (wipeD ρ vs) (wipe σ vs) H2 s2 ∧ H2 A = some (.lst xs) ∧ RepAll (KW X) X.mg C2.L R2 xs acc ∧ acc.length ≤ i ∧ Alone C2 R2 (wipeD ρ vs) (wipe σ vs) A ∧
        PostR (KW X) X.mg W σ C R (OkE (KW X) X.mg ρ σ C R Q) ((compL g ft fe (wipeD ρ vs) (ds.drop i) s2).bind fun r s3 => .ok ⟨.fr, .lst (acc ++ r)⟩ s3), ⟨ds.length, by simp, Nat.zero_le _, ?_⟩, ?_⟩
      · have xw := x1.wiped vs
        refine ⟨C1, R1, s1, [], [], .refl _, L2.Same.refl _, xw.allocF hA, upd_same, .nil, Nat.le_refl _, ?_, by simpa using h⟩
        refine ⟨same_none xw.bas.sub hA, xw.bas.freeL hA, xw.bas.free0 hA, fun i d e e2 => ?_⟩
        obtain ⟨p, a1, a2, _⟩ := xw.own i d e
        rw [e2] at a1
        cases a1
        obtain ⟨o, ho⟩ := a2.some
        rw [hA] at ho
        cases ho
      · rintro i m H2 ⟨rfl, hi, C2, R2, s2, acc, xs, l2, r2, x2, hx, ra, ha, al, post⟩
        have vw := v1.wiped (vs := vs) (H2 := H2) hno l2 r2
        obtain ⟨jstop, jgo, jy⟩ := jo C2.L R2 H2 r2 x2.bas.sub (vw.look x2)
        by_cases hlt : i < ds.length
        · refine .inr ⟨jgo i hlt, fun H3 => i + 1 ≤ ds.length ∧ ∃ C2 R2 s2 acc xs, C1.Le C2 ∧ Same R1 R2 ∧ Rel (KW X) X.mg C2 R2 (wipeD ρ vs) (wipe σ vs) H3 s2 ∧ H3 A = some (.lst xs) ∧ RepAll (KW X) X.mg C2.L R2 xs acc ∧ acc.length ≤ i + 1 ∧ Alone C2 R2 (wipeD ρ vs) (wipe σ vs) A ∧
            PostR (KW X) X.mg W σ C R (OkE (KW X) X.mg ρ σ C R Q) ((compL g ft fe (wipeD ρ vs) (ds.drop (i + 1)) s2).bind fun r s3 => .ok ⟨.fr, .lst (acc ++ r)⟩ s3), fun H3 z => ⟨ds.length - (i + 1), by omega, rfl, z.1, z.2⟩, fun v H3 hy => ?_⟩
          have ed : ds[i]? = some ds[i] := List.getElem?_eq_getElem hlt
          have edr : ds.drop i = ds[i] :: ds.drop (i + 1) := List.drop_eq_getElem_cons hlt
          rw [edr, compL] at post
          generalize ds[i] = d at ed post
          -- the item
          obtain ⟨R3, r3, x3, hx3, al3, rep⟩ : ∃ R3, Same R2 R3 ∧ Rel (KW X) X.mg C2 R3 (wipeD ρ vs) (wipe σ vs) H3 s2 ∧ H3 A = some (.lst xs) ∧ Alone C2 R3 (wipeD ρ vs) (wipe σ vs) A ∧ Rep (KW X) X.mg C2.L R3 v d := by
            rcases jy i v H3 d ed hy with ⟨rfl, rp⟩ | ⟨T, o, hT, rfl, rp⟩
            · exact ⟨R2, L2.Same.refl _, x2, hx, al, rp⟩
            · obtain ⟨rr, xx⟩ := x2.alloc (o := o) hT
              have ne : A ≠ T := fun z => by rw [z, hT] at hx; cases hx
              exact ⟨_, rr, xx, by rw [upd_ne ne]; exact hx, ⟨by rw [upd_ne ne]; exact al.r, al.l, al.h0, al.own⟩, rp⟩
          cases eg : g d (wipeD ρ vs) with
          | none => rw [eg] at post; exact (show False from post).elim
          | some ρ2 =>
            rw [eg] at post
            have hn0 := x3.bas.n0
            have fr := hgf d _ _ eg
            have xg := x3.guard al3 hx3
            refine ⟨C2.guard A (.lst xs), R3, wipeD ρ vs, s2, d, ρ2, xg, rep, eg, fun σ2 x4 ag => ⟨ag.wipe_eq hts, ?_⟩⟩
            have own : ∀ (j : Nat) (d : D), (wipeD ρ vs)[j]? = some (.ow d) → ρ2[j]? = some (.ow d) ∧ σ2[j]? = (wipe σ vs)[j]? := fun j d e => by
              have nv := wipeD_in e
              have nt : j ∉ ts := fun z => nv (hts j z)
              exact ⟨(fr j nt).trans e, ag.2 j nt⟩
            have post : PostR (KW X) X.mg W σ C R (OkE (KW X) X.mg ρ σ C R Q) (((ft ρ2 s2).nox.bind fun b s1 => if b = true then (fe ρ2 s1).nox.bind fun x s2 => match x.keep with
              | ⟨.cl, y⟩ => (compL g ft fe (wipeD ρ vs) (ds.drop (i + 1)) s2).bind fun r s3 => .ok (y :: r) s3
              | _ => .bad
              else compL g ft fe (wipeD ρ vs) (ds.drop (i + 1)) s1).bind fun r s3 => .ok ⟨.fr, .lst (acc ++ r)⟩ s3) := post
            -- the test
            refine ⟨C2.guard A (.lst xs), R3, ρ2, s2, x4, ?_⟩
            cases et : ft ρ2 s2 with
            | exc c s5 => rw [et] at post; exact (show False from post).elim
            | bad => rw [et] at post; exact (show False from post).elim
            | ok b s5 =>
              rw [et] at post
              intro C5 R5 H5 l5 r5 x5
              cases b with
              | false =>
                obtain ⟨g1, g2, g3, g4⟩ := x5.guarded l5 al3 x3.bas.r0 hn0
                have post : PostR (KW X) X.mg W σ C R (OkE (KW X) X.mg ρ σ C R Q) ((compL g ft fe (wipeD ρ vs) (ds.drop (i + 1)) s5).bind fun r s3 => .ok ⟨.fr, .lst (acc ++ r)⟩ s3) := post
                exact ⟨hlt, _, R5, s5, acc, xs, l2.trans g3, L2.Same.trans r2 (L2.Same.trans r3 r5), x3.back g2 g3 r5 own, g1, ra.mono g3.L (L2.Same.trans r3 r5), Nat.le_succ_of_le ha, g4.back own, post⟩
              | true =>
                have post : PostR (KW X) X.mg W σ C R (OkE (KW X) X.mg ρ σ C R Q) (((fe ρ2 s5).nox.bind fun x s2 => match x.keep with
                  | ⟨.cl, y⟩ => (compL g ft fe (wipeD ρ vs) (ds.drop (i + 1)) s2).bind fun r s3 => .ok (y :: r) s3
                  | _ => .bad).bind fun r s3 => .ok ⟨.fr, .lst (acc ++ r)⟩ s3) := post
                refine ⟨C5, R5, ρ2, s5, x5, ?_⟩
                cases ee : fe ρ2 s5 with
                | exc c s6 => rw [ee] at post; exact (show False from post).elim
                | bad => rw [ee] at post; exact (show False from post).elim
                | ok tv s6 =>
                  rw [ee] at post
                  intro y C6 R6 H6 l6 r6 x6 v6
                  obtain ⟨R7, r7, x7, v7⟩ := x6.kept v6
                  obtain ⟨g1, g2, g3, g4⟩ := x7.guarded (l5.trans l6) al3 x3.bas.r0 hn0
                  have post : PostR (KW X) X.mg W σ C R (OkE (KW X) X.mg ρ σ C R Q) ((match tv.keep with
                    | ⟨.cl, y⟩ => (compL g ft fe (wipeD ρ vs) (ds.drop (i + 1)) s6).bind fun r s3 => .ok (y :: r) s3
                    | _ => .bad).bind fun r s3 => .ok ⟨.fr, .lst (acc ++ r)⟩ s3) := post
                  obtain ⟨tt, dd⟩ := tv
                  have key : ∀ {dv : D}, (Rep (KW X) X.mg C6.L R7 y dv) → PostR (KW X) X.mg W σ C R (OkE (KW X) X.mg ρ σ C R Q) (((compL g ft fe (wipeD ρ vs) (ds.drop (i + 1)) s6).bind fun r s3 => .ok (dv :: r) s3).bind fun r s3 => .ok ⟨.fr, .lst (acc ++ r)⟩ s3) →
                      ∃ acc', H6 A = some (.lst acc') ∧ acc'.length < sizeLine ∧ (i + 1 ≤ ds.length ∧ ∃ C2 R2 s2 acc xs, C1.Le C2 ∧ Same R1 R2 ∧ Rel (KW X) X.mg C2 R2 (wipeD ρ vs) (wipe σ vs) (upd H6 A (.lst (acc' ++ [y]))) s2 ∧ (upd H6 A (.lst (acc' ++ [y]))) A = some (.lst xs) ∧ RepAll (KW X) X.mg C2.L R2 xs acc ∧ acc.length ≤ i + 1 ∧ Alone C2 R2 (wipeD ρ vs) (wipe σ vs) A ∧
                        PostR (KW X) X.mg W σ C R (OkE (KW X) X.mg ρ σ C R Q) ((compL g ft fe (wipeD ρ vs) (ds.drop (i + 1)) s2).bind fun r s3 => .ok ⟨.fr, .lst (acc ++ r)⟩ s3)) := fun {dv} rp post => by
                    have rr := L2.Same.trans r3 (L2.Same.trans r5 (L2.Same.trans r6 r7))
                    have ra' := ra.mono (K := KW X) (mg := X.mg) g3.L rr
                    have xb := x3.back g2 g3 (L2.Same.trans r5 (L2.Same.trans r6 r7)) own
                    have ab := g4.back own
                    refine ⟨xs, g1, ?_, hlt, _, R7, s6, acc ++ [dv], xs ++ [y], l2.trans g3, L2.Same.trans r2 rr, xb.writeAlone ab (fun z => by rw [g1]; exact fun e => nomatch e), upd_same, ra'.append (.one rp), by rw [List.length_append]; exact Nat.succ_le_succ ha, ab, ?_⟩
                    · rw [ra.length, sizeLine_is]
                      omega
                    · cases ec : compL g ft fe (wipeD ρ vs) (ds.drop (i + 1)) s6 with
                      | exc c s7 => rw [ec] at post; exact post
                      | bad => rw [ec] at post; exact post
                      | ok r s7 =>
                        rw [ec] at post
                        have post : OkE (KW X) X.mg ρ σ C R Q ⟨.fr, .lst (acc ++ dv :: r)⟩ s7 := post
                        show OkE (KW X) X.mg ρ σ C R Q ⟨.fr, .lst (acc ++ [dv] ++ r)⟩ s7
                        rw [List.append_assoc]
                        exact post
                  cases tt with
                  | cl => exact key v7 post
                  | fr => exact key v7 post
                  | dy j => exact (show False from post).elim
        · have e : i = ds.length := by omega
          subst e
          refine .inl ⟨jstop _ (Nat.le_refl _), ?_⟩
          rw [List.drop_length, compL] at post
          have post : OkE (KW X) X.mg ρ σ C R Q ⟨.fr, .lst (acc ++ [])⟩ s2 := post
          rw [List.append_nil] at post
          have own : ∀ (j : Nat) (d : D), ρ[j]? = some (.ow d) → (wipeD ρ vs)[j]? = some (.ow d) ∧ (wipe σ vs)[j]? = σ[j]? := fun j d e => by
            have nv := noOwn_out hno e
            exact ⟨(wipeD_out nv).trans e, wipe_keep nv⟩
          have xb := x1.back x2 l2 r2 own
          have ab := al.back own
          exact post _ C2 R2 H2 (l1.trans l2) (L2.Same.trans r1 r2) xb ⟨A, rfl, ⟨xs, hx, ra⟩, ab.r, ab.l, ab.h0, ab.own⟩
    · exact h.elim
end
end UW
namespace UW
open PySem PySem.Spec PyProof.Rows L2

inductive Out where
  | nx (ρ : DSt)
  | rt (tv : TV)
abbrev S := DSt → Sto → Res Out

/-- a value that a def hands back -/
def RtRep (K : Kw) (mg : Str → Option Value) (C : Cn) (R H : Hp) (v : V) (tv : TV) : Prop :=
  match tv.t with
  | .cl => Rep K mg C.L R v tv.d
  | .fr => ∃ p, v = .ref p ∧ Top K mg C.L R H p tv.d ∧ R p = none ∧ p ∉ C.L ∧ C.H0 p = none
  | .dy _ => False
def OkS (K : Kw) (mg : Str → Option Value) (n : Nat) (C : Cn) (R : Hp) (Z : Ends) : Out → Sto → Prop
  | .nx ρ', s' => ∀ σ' C' R' H', C.Le C' → Same R R' → Rel K mg C' R' ρ' σ' H' s' → σ'.length = n → Z.nx σ' H'
  | .rt tv, s' => ∀ v C' R' H', C.Le C' → Same R R' → Bas K mg C' R' H' s' → RtRep K mg C' R' H' v tv → Z.rt v H'
def PostS (K : Kw) (mg : Str → Option Value) (W : WX) (n : Nat) (C : Cn) (R : Hp) (P : Out → Sto → Prop) : Res Out → Prop
  | .ok a s' => P a s'
  | .exc c s' => ∀ a σ' C' R' H', mg c = some (.ref a) → C.Le C' → Same R R' → Bas K mg C' R' H' s' → σ'.length = n → W (.ref a) none σ' H'
  | .bad => False
def tDS (K : Kw) (mg : Str → Option Value) (W : WX) (f : S) : TS := fun Z σ H => ∃ C R ρ s, Rel K mg C R ρ σ H s ∧ PostS K mg W σ.length C R (OkS K mg σ.length C R Z) (f ρ s)
abbrev DS (X : Cx) (W : WX) (st : Stmt) (f : S) : Prop := PS X st (tDS (KW X) X.mg W f)
abbrev DSs (X : Cx) (W : WX) (sts : List Stmt) (f : S) : Prop := PSs X sts (tDS (KW X) X.mg W f)
theorem PS.weak {X : Cx} {st : Stmt} {t t' : TS} (h : PS X st t) (k : ∀ Z σ H, t' Z σ H → t Z σ H) : PS X st t' := ⟨fun pins s σ H Z I q => h.run pins s σ H Z I (k Z σ H q)⟩
theorem PSs.weak {X : Cx} {st : List Stmt} {t t' : TS} (h : PSs X st t) (k : ∀ Z σ H, t' Z σ H → t Z σ H) : PSs X st t' := ⟨fun pins s σ H Z I q => h.run pins s σ H Z I (k Z σ H q)⟩

section
variable {K : Kw} {mg : Str → Option Value} {W : WX} {C C1 : Cn} {R R1 H H1 : Hp} {ρ : DSt} {σ : L2.St} {s s1 : Sto} {n : Nat}
theorem OkS.mono {Z : Ends} (le : C.Le C1) (sR : Same R R1) : ∀ {o : Out} {s' : Sto}, OkS K mg n C R Z o s' → OkS K mg n C1 R1 Z o s'
  | .nx _, _, h => fun σ' C' R' H' e1 e2 e3 e4 => h σ' C' R' H' (le.trans e1) (L2.Same.trans sR e2) e3 e4
  | .rt _, _, h => fun v C' R' H' e1 e2 e3 e4 => h v C' R' H' (le.trans e1) (L2.Same.trans sR e2) e3 e4
theorem PostS.mono {P P' : Out → Sto → Prop} (le : C.Le C1) (sR : Same R R1) (hP : ∀ a s, P a s → P' a s) : ∀ {r : Res Out}, PostS K mg W n C R P r → PostS K mg W n C1 R1 P' r
  | .ok a s', h => hP a s' h
  | .exc c s', h => fun a σ' C' R' H' e1 e2 e3 e4 e5 => h a σ' C' R' H' e1 (le.trans e2) (L2.Same.trans sR e3) e4 e5
  | .bad, h => h
theorem PostS.monoS {Z : Ends} (le : C.Le C1) (sR : Same R R1) {r : Res Out} (h : PostS K mg W n C R (OkS K mg n C R Z) r) : PostS K mg W n C1 R1 (OkS K mg n C1 R1 Z) r := PostS.mono le sR (fun _ _ z => OkS.mono le sR z) h
/-- an expression in a statement -/
theorem sE {f : E} {g : TV → Sto → Res Out} {P : Out → Sto → Prop} {Q' : VK} (x : Rel K mg C R ρ σ H s) (h : PostS K mg W σ.length C R P ((f ρ s).bind g))
    (k : ∀ tv s1 v C1 R1 H1, C.Le C1 → Same R R1 → Rel K mg C1 R1 ρ σ H1 s1 → VRep K mg C1 R1 ρ σ H1 v tv → PostS K mg W σ.length C R P (g tv s1) → Q' v H1) : tD K mg W f σ H Q' := by
  refine ⟨C, R, ρ, s, x, ?_⟩
  cases e : f ρ s with
  | ok tv s1 => rw [e] at h; exact fun v C1 R1 H1 e1 e2 e3 e4 => k tv s1 v C1 R1 H1 e1 e2 e3 e4 h
  | exc c s1 => rw [e] at h; exact fun a C' R' H' e1 e2 e3 e4 => h a σ C' R' H' e1 e2 e3 e4 rfl
  | bad => rw [e] at h; exact h
theorem sT {f : T} {g : Bool → Sto → Res Out} {P : Out → Sto → Prop} {Q' : Bool → Hp → Prop} (x : Rel K mg C R ρ σ H s) (h : PostS K mg W σ.length C R P ((f ρ s).bind g))
    (k : ∀ b s1 C1 R1 H1, C.Le C1 → Same R R1 → Rel K mg C1 R1 ρ σ H1 s1 → PostS K mg W σ.length C R P (g b s1) → Q' b H1) : tDT K mg W f σ H Q' := by
  refine ⟨C, R, ρ, s, x, ?_⟩
  cases e : f ρ s with
  | ok tv s1 => rw [e] at h; exact fun C1 R1 H1 e1 e2 e3 => k tv s1 C1 R1 H1 e1 e2 e3 h
  | exc c s1 => rw [e] at h; exact fun a C' R' H' e1 e2 e3 e4 => h a σ C' R' H' e1 e2 e3 e4 rfl
  | bad => rw [e] at h; exact h
theorem sL {f : EL} {g : List TV → Sto → Res Out} {P : Out → Sto → Prop} {Q' : List V → Hp → Prop} (x : Rel K mg C R ρ σ H s) (h : PostS K mg W σ.length C R P ((f ρ s).bind g))
    (k : ∀ tvs s1 vs C1 R1 H1, C.Le C1 → Same R R1 → Rel K mg C1 R1 ρ σ H1 s1 → VReps K mg C1 R1 ρ σ H1 vs tvs → PostS K mg W σ.length C R P (g tvs s1) → Q' vs H1) : tDL K mg W f σ H Q' := by
  refine ⟨C, R, ρ, s, x, ?_⟩
  cases e : f ρ s with
  | ok tv s1 => rw [e] at h; exact fun v C1 R1 H1 e1 e2 e3 e4 => k tv s1 v C1 R1 H1 e1 e2 e3 e4 h
  | exc c s1 => rw [e] at h; exact fun a C' R' H' e1 e2 e3 e4 => h a σ C' R' H' e1 e2 e3 e4 rfl
  | bad => rw [e] at h; exact h

/-- the store's list is written -/
theorem Rel.writeSto (x : Rel K mg C R ρ σ H s) {i : Nat} {a : Addr} {ds ds' : List D} {xs : List V} (hs : s[i]? = some (.lst ds)) (hL : C.L[i]? = some a) (ra : RepAll K mg C.L R xs ds') : Rel K mg C R ρ σ (upd H a (.lst xs)) (s.set i (.lst ds')) := by
  obtain ⟨⟨ys, hy, _⟩, hR⟩ := x.bas.sto.at_ i _ a hs hL
  have ne : ∀ b u, R b = some u → b ≠ a := fun b u e z => by rw [z, hR] at e; cases e
  have hil : i < C.L.length := (List.getElem?_eq_some_iff.mp hL).1
  refine ⟨⟨fun b u e => by rw [upd_ne (ne b u e)]; exact x.bas.sub b u e, x.bas.new, x.bas.r0, fun b u e hn => ?_, ⟨by rw [List.length_set]; exact x.bas.sto.len, x.bas.sto.nd, fun j ob b e1 e2 => ?_⟩, x.bas.n0, x.bas.ln0⟩, x.len, x.shr, fun j d e => ?_, x.nd⟩
  · rw [upd_ne fun z => ?_]
    · exact x.bas.keep b u e hn
    · subst z
      by_cases hc : C.n0 ≤ i
      · rw [x.bas.ln0 i b hc hL] at e; cases e
      · exact hn (List.mem_take_iff_getElem.mpr ⟨i, by omega, (List.getElem?_eq_some_iff.mp hL).2⟩)
  · rcases get_set e1 with ⟨rfl, rfl, _⟩ | ⟨nij, e1⟩
    · rw [hL] at e2; cases e2
      exact ⟨⟨xs, upd_same, ra⟩, hR⟩
    · obtain ⟨h1, h2⟩ := x.bas.sto.at_ j ob b e1 e2
      have nba : b ≠ a := fun z => nij (by
        subst z
        exact nd_ix x.bas.sto.nd hL e2)
      refine ⟨h1.mono (List.prefix_refl _) (L2.Same.refl _) (fun c u e3 e4 => ?_) (fun _ _ e => e), h2⟩
      rw [upd_ne fun z => ?_]
      · exact e3
      · subst z
        rcases e4 with e4 | e4
        · exact nba e4.symm
        · subst e4
          rw [hy] at e3; cases e3
  · obtain ⟨p, h1, h2, h3, h4, h5⟩ := x.own j d e
    exact ⟨p, h1, h2.mono (List.prefix_refl _) (L2.Same.refl _) (upd_ne fun z => h5 (by rw [z]; exact List.mem_of_getElem? hL)), h3, h4, h5⟩
end

/-! ### statements -/
def sNil : S := fun ρ s => .ok (.nx ρ) s
def sSeq (f g : S) : S := fun ρ s => (f ρ s).bind fun o s1 => match o with
  | .nx ρ1 => g ρ1 s1
  | .rt tv => .ok (.rt tv) s1
def sIf (c : T) (a b : S) : S := fun ρ s => (c ρ s).bind fun x s1 => if x = true then a ρ s1 else b ρ s1
def sRet (e : E) : S := fun ρ s => (e ρ s).bind fun x s1 => match x with
  | ⟨.dy _, d⟩ => .ok (.rt ⟨.fr, d⟩) s1
  | tv => .ok (.rt tv) s1
def sRetN : S := fun _ s => .ok (.rt ⟨.cl, .non⟩) s
def sDrop (e : E) : S := fun ρ s => (e ρ s).bind fun _ s1 => .ok (.nx ρ) s1
/-- a value into a slot -/
def putTV (i : Nat) (tv : TV) (ρ : DSt) (s : Sto) : Res Out := match tv with
  | ⟨.cl, d⟩ => .ok (.nx (ρ.set i (.sh d))) s
  | ⟨.fr, d⟩ => .ok (.nx (ρ.set i (.ow d))) s
  | ⟨.dy _, _⟩ => .bad
def sAsg (i : Nat) (e : E) : S := fun ρ s => (e ρ s).bind fun x s1 => putTV i x ρ s1
def sAsgT (g : G) (e : E) : S := fun ρ s => (e ρ s).bind fun x s1 => match x.keep with
  | ⟨.cl, d⟩ => (match g d ρ with
    | some ρ' => .ok (.nx ρ') s1
    | none => .bad)
  | _ => .bad
def sPar (i j : Nat) (l : EL) : S := fun ρ s => (l ρ s).bind fun tvs s1 => match cleans tvs with
  | some [a, b] => .ok (.nx ((ρ.set i (.sh a)).set j (.sh b))) s1
  | _ => .bad
/-- a slot's own object is shown to all -/
def frz (i : Nat) (ρ : DSt) : DSt := match ρ[i]? with
  | some (.ow (.dct ks vs)) => ρ.set i (.sh (.fdc ks vs))
  | some (.ow (.dnt ks vs)) => ρ.set i (.sh (.fdn ks vs))
  | some (.ow d) => ρ.set i (.sh d)
  | _ => ρ
def sFrz (i : Nat) (f : S) : S := fun ρ s => f (frz i ρ) s
def forL (g : G) (body : S) : List D → DSt → Sto → Res Out
  | [], ρ, s => .ok (.nx ρ) s
  | d :: ds, ρ, s => match g d ρ with
    | none => .bad
    | some ρ1 => (body ρ1 s).bind fun o s1 => match o with
      | .nx ρ2 => forL g body ds ρ2 s1
      | .rt tv => .ok (.rt tv) s1
def allCl : List TV → Bool
  | [] => true
  | ⟨.cl, _⟩ :: r => allCl r
  | _ :: _ => false
def sFor (it : IW) (g : G) (body : S) : S := fun ρ s => (it ρ s).bind fun z s1 => if allCl z.1 = true then forL g body z.2 ρ s1 else .bad
def whileL (c : T) (body : S) : Nat → DSt → Sto → Res Out
  | 0, _, _ => .bad
  | n + 1, ρ, s => (c ρ s).bind fun b s1 => if b = true then (body ρ s1).bind fun o s2 => match o with
      | .nx ρ2 => whileL c body n ρ2 s2
      | .rt tv => .ok (.rt tv) s2
    else .ok (.nx ρ) s1
def sWhile (fuel : Nat) (c : T) (body : S) : S := fun ρ s => whileL c body fuel ρ s
/-- x.append(e), x.extend(e), where x owns its list, or is a list of the store -/
def sApp (j : Nat) (e : E) : S := fun ρ s => match ρ[j]? with
  | some (.ow (.lst ds)) => (e ρ s).bind fun x s1 => (match x.keep with
    | ⟨.cl, d⟩ => if ds.length < 16777216 then .ok (.nx (ρ.set j (.ow (.lst (ds ++ [d]))))) s1 else .bad
    | _ => .bad)
  | some (.sh (.ref i)) => (match s[i]? with
    | some (.lst _) => (e ρ s).bind fun x s1 => (match x.keep with
      | ⟨.cl, d⟩ => (match s1[i]? with
        | some (.lst ds) => if ds.length < 16777216 then .ok (.nx ρ) (s1.set i (.lst (ds ++ [d]))) else .bad
        | _ => .bad)
      | _ => .bad)
    | _ => .bad)
  | _ => .bad
def sExt (j : Nat) (e : E) : S := fun ρ s => match ρ[j]? with
  | some (.ow (.lst ds)) => (e ρ s).bind fun x s1 => (match x.keep with
    | ⟨.cl, .lst es⟩ => if ds.length + es.length ≤ 16777216 then .ok (.nx (ρ.set j (.ow (.lst (ds ++ es))))) s1 else .bad
    | _ => .bad)
  | _ => .bad

section
variable {X : Cx} {W : WX} {st : Stmt} {rest a b : List Stmt} {f g : S} {e : Expr} {fe : E} {pos : Pos}
theorem ds_bad : DS X W st (fun _ _ => .bad) := ⟨fun _ _ _ _ _ _ h => by obtain ⟨_, _, _, _, _, z⟩ := h; exact z.elim⟩
theorem dss_nil : DSs X W [] sNil := PSs.weak pss_nil fun Z σ H ⟨C, R, ρ, s, x, h⟩ => h σ C R H (.refl C) (L2.Same.refl R) x rfl
theorem dss_cons (h1 : DS X W st f) (h2 : DSs X W rest g) : DSs X W (st :: rest) (sSeq f g) := PSs.weak (pss_cons h1 h2) fun Z σ H ⟨C, R, ρ, s, x, h⟩ => by
  refine ⟨C, R, ρ, s, x, ?_⟩
  unfold sSeq at h
  cases q : f ρ s with
  | exc c s1 => rw [q] at h; exact h
  | bad => rw [q] at h; exact h
  | ok o s1 =>
    rw [q] at h
    cases o with
    | rt tv => exact h
    | nx ρ1 =>
      intro σ1 C1 R1 H1 l1 r1 x1 n1
      refine ⟨C1, R1, ρ1, s1, x1, ?_⟩
      rw [n1]
      exact PostS.monoS l1 r1 h
theorem ds_if {c : Expr} {fc : T} (hc : DT X W c fc) (ha : DSs X W a f) (hb : DSs X W b g) : DS X W (.If c a b pos) (sIf fc f g) := PS.weak (ps_if hc ha hb) fun Z σ H ⟨C, R, ρ, s, x, h⟩ => sT x h fun k s1 C1 R1 H1 l1 r1 x1 h1 => by
  cases k with
  | true => exact ⟨C1, R1, ρ, s1, x1, PostS.monoS l1 r1 h1⟩
  | false => exact ⟨C1, R1, ρ, s1, x1, PostS.monoS l1 r1 h1⟩
theorem ds_ret (he : DE X W e fe) : DS X W (.Return (some e) pos) (sRet fe) := PS.weak (ps_ret he) fun Z σ H ⟨C, R, ρ, s, x, h⟩ => sE x h fun tv s1 v C1 R1 H1 l1 r1 x1 v1 h1 => by
  obtain ⟨t, d⟩ := tv
  cases t with
  | cl => exact h1 v C1 R1 H1 l1 r1 x1.bas v1
  | fr =>
    obtain ⟨p, rfl, q1, q2, q3, q4, q5⟩ := v1
    exact h1 _ C1 R1 H1 l1 r1 x1.bas ⟨p, rfl, q1, q2, q3, q4⟩
  | dy i =>
    obtain ⟨q1, q2⟩ := v1
    obtain ⟨p, a1, a2, a3, a4, a5⟩ := x1.own i d q1
    have q2 : σ[i]? = some (some v) := q2
    rw [a1] at q2
    cases q2
    exact h1 _ C1 R1 H1 l1 r1 x1.bas ⟨p, rfl, a2, a4, a5, a3⟩
theorem ds_retN : DS X W (.Return none pos) sRetN := PS.weak ps_retN fun Z σ H ⟨C, R, ρ, s, x, h⟩ => h _ C R H (.refl C) (L2.Same.refl R) x.bas .non
theorem ds_drop (he : DE X W e fe) (hs : swapsWith e none pos.line X.env = pure false) : DS X W (.Expr e pos) (sDrop fe) := PS.weak (ps_expr he hs) fun Z σ H ⟨C, R, ρ, s, x, h⟩ => sE x h fun tv s1 v C1 R1 H1 l1 r1 x1 v1 h1 => h1 σ C1 R1 H1 l1 r1 x1 rfl
theorem ds_pass : DS X W (.Pass pos) sNil := PS.weak ps_pass fun Z σ H ⟨C, R, ρ, s, x, h⟩ => h σ C R H (.refl C) (L2.Same.refl R) x rfl
theorem put_read {K : Kw} {mg : Str → Option Value} {i : Nat} {σ : L2.St} {C C1 : Cn} {R R1 H1 : Hp} {ρ : DSt} {s1 : Sto} {tv : TV} {v : V} {Z : Ends} (l1 : C.Le C1) (r1 : Same R R1) (x1 : Rel K mg C1 R1 ρ σ H1 s1) (v1 : VRep K mg C1 R1 ρ σ H1 v tv)
    (h1 : PostS K mg W σ.length C R (OkS K mg σ.length C R Z) (putTV i tv ρ s1)) : Z.nx (σ.set i (some v)) H1 := by
  obtain ⟨t, d⟩ := tv
  cases t with
  | cl => exact h1 _ C1 R1 H1 l1 r1 (x1.setSh v1) List.length_set
  | fr => exact h1 _ C1 R1 H1 l1 r1 (x1.setOw v1) List.length_set
  | dy i => exact (show False from h1).elim
theorem ds_asg {i : Nat} {y : Str} {py : Pos} (hN : X.N.Nodup) (hi : X.N[i]? = some y) (hx : Loc X.env.scope y) (he : DE X W e fe) (hs : swapsWith e (some (.Name y py)) pos.line X.env = pure false) (hf : X.fn y = true ∨ X.env.scope.names.lookup y = some .local) :
    DS X W (.Assign [.Name y py] e pos) (sAsg i fe) := PS.weak (ps_set hN hi hx he hs hf) fun Z σ H ⟨C, R, ρ, s, x, h⟩ => sE x h fun tv s1 v C1 R1 H1 l1 r1 x1 v1 h1 => put_read l1 r1 x1 v1 h1
/-- name = a comprehension -/
theorem ds_setLc {i : Nat} {y : Str} {py : Pos} {elt tg iter : Expr} {ifs : List Expr} {scope : Scope} {own : List (Str × Nat)} {spos : Pos} {fi : IW} {g : G} {ts : List Nat} {ft : T} {fe : E} (hc : X.calm = true) (hN : X.N.Nodup) (hy : X.N[i]? = some y) (hyl : X.env.scope.names.lookup y = some .local)
    (hsw : swapsWith (.ListComp elt [⟨tg, iter, ifs, 0⟩] scope pos) (some (.Name y py)) spos.line X.env = pure true) (hi : DI X W tg iter fi) (ok : BlkOk X.N X.env.scope scope own) (hgf : GFr ts g) (hts : ∀ i, i ∈ ts → i ∈ own.map (·.2))
    (hg : ∀ (s : Shared) (H : Hp) (C : Addr) (cl : List (Str × Addr)) (fp : List Addr), DG (X.blk s H scope (compEnvC scope cl C X.env) fp) tg ts g)
    (ht : ∀ (s : Shared) (H : Hp) (C : Addr) (cl : List (Str × Addr)) (fp : List Addr), PTs (X.blk s H scope (compEnvC scope cl C X.env) fp) ifs (tDT (KW X) X.mg W0 ft))
    (he : ∀ (s : Shared) (H : Hp) (C : Addr) (cl : List (Str × Addr)) (fp : List Addr), DE (X.blk s H scope (compEnvC scope cl C X.env) fp) W0 elt fe) (hs : ∀ x, foldedSetIterable iter X.env x = pure x) :
    DS X W (.Assign [.Name y py] (.ListComp elt [⟨tg, iter, ifs, 0⟩] scope pos) spos) (sAsg i (eComp (own.map (·.2)) fi g ft fe)) :=
  PS.weak (ps_setLc hc hN hy hyl hsw hi ok hg ht he hs) fun Z σ H ⟨C, R, ρ, s, x, h⟩ => by
    refine comp_read hgf hts (sE x h fun tv s1 v C1 R1 H1 l1 r1 x1 v1 h1 => ?_)
    exact put_read l1 r1 x1 v1 h1
theorem de_comp {elt tg iter : Expr} {ifs : List Expr} {scope : Scope} {own : List (Str × Nat)} {fi : IW} {g : G} {ts : List Nat} {ft : T} {fe : E} (hc : X.calm = true) (hN : X.N.Nodup) (hi : DI X W tg iter fi) (ok : BlkOk X.N X.env.scope scope own) (hgf : GFr ts g) (hts : ∀ i, i ∈ ts → i ∈ own.map (·.2))
    (hg : ∀ (s : Shared) (H : Hp) (C : Addr) (cl : List (Str × Addr)) (fp : List Addr), DG (X.blk s H scope (compEnvC scope cl C X.env) fp) tg ts g)
    (ht : ∀ (s : Shared) (H : Hp) (C : Addr) (cl : List (Str × Addr)) (fp : List Addr), PTs (X.blk s H scope (compEnvC scope cl C X.env) fp) ifs (tDT (KW X) X.mg W0 ft))
    (he : ∀ (s : Shared) (H : Hp) (C : Addr) (cl : List (Str × Addr)) (fp : List Addr), DE (X.blk s H scope (compEnvC scope cl C X.env) fp) W0 elt fe) (hs : ∀ x, foldedSetIterable iter X.env x = pure x) :
    DE X W (.ListComp elt [⟨tg, iter, ifs, 0⟩] scope pos) (eComp (own.map (·.2)) fi g ft fe) :=
  PE.weak (pe_lc hc hN hi ok hg ht he hs) fun σ H Q h => comp_read hgf hts h
/-- targets = e -/
theorem ds_asgT {tg : Expr} {g : G} {ts : List Nat} (he : DE X W e fe) (hg : DG X tg ts g) (hs : swapsWithSole [tg] e pos.line X.env = pure false) (hw : swappedStores [tg] e X.env = pure none) (h1 : (assignEach [tg] X.env).map (·.2) = [assign tg X.env]) :
    DS X W (.Assign [tg] e pos) (sAsgT g fe) := PS.weak (ps_asg he hg hs hw h1) fun Z σ H ⟨C, R, ρ, s, x, h⟩ => sE x h fun tv s1 v C1 R1 H1 l1 r1 x1 v1 h1 => by
  obtain ⟨R2, r2, x2, v2⟩ := x1.kept v1
  have key : ∀ {d : D}, Rep (KW X) X.mg C1.L R2 v d → PostS (KW X) X.mg W σ.length C R (OkS (KW X) X.mg σ.length C R Z) (match g d ρ with | some ρ' => .ok (.nx ρ') s1 | none => .bad) → tDG (KW X) X.mg ts g v σ H1 Z.nx := fun {d} rp h1 => by
    cases q : g d ρ with
    | none => rw [q] at h1; exact (show False from h1).elim
    | some ρ' =>
      rw [q] at h1
      exact ⟨C1, R2, ρ, s1, d, ρ', x2, rp, q, fun σ' x3 ag => h1 σ' C1 R2 H1 l1 (L2.Same.trans r1 r2) x3 ag.1⟩
  obtain ⟨t, d⟩ := tv
  cases t with
  | cl => exact key v2 h1
  | fr => exact key v2 h1
  | dy i => exact (show False from h1).elim
theorem ds_par {i j : Nat} {x y : Str} {e1 e2 : Expr} {fl : EL} {px py pt : Pos} {kt k2 pt2} (hc : X.calm = true) (hN : X.N.Nodup) (hi : X.N[i]? = some x) (hj : X.N[j]? = some y) (hij : i ≠ j)
    (hx : X.env.scope.names.lookup x = some .local) (hy : X.env.scope.names.lookup y = some .local) (ha : DL X W [e1, e2] fl)
    (hw : swappedStores [.Tuple [.Name x px, .Name y py] kt pt] (.Tuple [e1, e2] k2 pt2) X.env = pure (some [x, y]))
    (hs : swapsWithSole [.Tuple [.Name x px, .Name y py] kt pt] (.Tuple [e1, e2] k2 pt2) pos.line X.env = pure false) :
    DS X W (.Assign [.Tuple [.Name x px, .Name y py] kt pt] (.Tuple [e1, e2] k2 pt2) pos) (sPar i j fl) :=
  PS.weak (ps_par hc hN hi hj hij hx hy ha hw hs) fun Z σ H ⟨C, R, ρ, s, x, h⟩ => sL x h fun tvs s1 vs C1 R1 H1 l1 r1 x1 v1 h1 => by
    split at h1
    · rename_i a b e
      have ra := cleans_rep e v1
      cases ra with
      | cons ra rb =>
        cases rb with
        | cons rb rc =>
          cases rc
          refine ⟨_, _, rfl, ?_⟩
          exact h1 _ C1 R1 H1 l1 r1 ((x1.setSh ra).setSh rb) (by rw [List.length_set, List.length_set])
    · exact h1.elim
theorem frz_run {pins : List (Addr × Obj)} {C : Cn} {R H : Hp} {ρ : DSt} {σ : L2.St} {s : Sto} {sh : Shared} (i : Nat) (I : Inv X pins σ H sh) (x : Rel (KW X) X.mg C R ρ σ H s) : ∃ R' H', Same R R' ∧ Inv X pins σ H' sh ∧ Rel (KW X) X.mg C R' (frz i ρ) σ H' s := by
  unfold frz
  split
  · rename_i ks vs e
    obtain ⟨p, kvs, _, hp, k⟩ := x.lock e
    obtain ⟨od, J⟩ := I.lock hp True.intro
    obtain ⟨R', r, x'⟩ := k od
    exact ⟨R', _, r, J, x'⟩
  · rename_i ks vs e
    obtain ⟨p, kvs, _, hp, k⟩ := x.lockN e
    obtain ⟨od, J⟩ := I.lock hp True.intro
    obtain ⟨R', r, x'⟩ := k od
    exact ⟨R', _, r, J, x'⟩
  · rename_i d _ _ e
    obtain ⟨R', r, x'⟩ := x.share e
    exact ⟨R', H, r, I, x'⟩
  · exact ⟨R, H, L2.Same.refl _, I, x⟩
theorem ds_frz {i : Nat} (h : DS X W st f) : DS X W st (sFrz i f) := ⟨fun pins sh σ H Z I ⟨C, R, ρ, s, x, q⟩ => by
  obtain ⟨R', H', r, J, x'⟩ := frz_run i I x
  exact h.run pins sh σ H' Z J ⟨C, R', _, s, x', PostS.monoS (.refl C) r q⟩⟩
theorem dss_frz {i : Nat} {sts : List Stmt} (h : DSs X W sts f) : DSs X W sts (sFrz i f) := ⟨fun pins sh σ H Z I ⟨C, R, ρ, s, x, q⟩ => by
  obtain ⟨R', H', r, J, x'⟩ := frz_run i I x
  exact h.run pins sh σ H' Z J ⟨C, R', _, s, x', PostS.monoS (.refl C) r q⟩⟩

/-! ### loops -/
theorem allCl_keep {K : Kw} {mg : Str → Option Value} {C C' : Cn} {R R' H H' : Hp} {ρ ρ' : DSt} {σ σ' : L2.St} (le : C.Le C') (sR : Same R R') : ∀ {vs : List V} {tvs : List TV}, allCl tvs = true → VReps K mg C R ρ σ H vs tvs → VReps K mg C' R' ρ' σ' H' vs tvs
  | _, [], _, .nil => .nil
  | _, ⟨.cl, d⟩ :: r, h, .cons h1 h2 h3 => .cons (show VRep K mg C' R' ρ' σ' H' _ ⟨.cl, d⟩ from Rep.mono le.L sR d h1) h2 (allCl_keep le sR h h3)
  | _, ⟨.fr, _⟩ :: _, h, _ => by cases h
  | _, ⟨.dy _, _⟩ :: _, h, _ => by cases h
theorem ds_for {tg iter : Expr} {body : List Stmt} {fi : IW} {g : G} {ts : List Nat} {fb : S} (hp : PassesOwn (model X.prog X.w) X.A X.env X.xe) (hc : X.calm = true) (hi : DI X W tg iter fi) (hg : DG X tg ts g) (hb : DSs X W body fb) (hs : ∀ x, foldedSetIterable iter X.env x = pure x) :
    DS X W (.For tg iter body [] pos) (sFor fi g fb) := PS.weak (ps_for hp hc hi hg hb hs) fun Z σ H ⟨C, R, ρ, s, x, h⟩ => by
  refine ⟨C, R, ρ, s, x, ?_⟩
  unfold sFor at h
  cases q : fi ρ s with
  | exc c s1 => rw [q] at h; exact fun a C' R' H' e1 e2 e3 e4 => h a σ C' R' H' e1 e2 e3 e4 rfl
  | bad => rw [q] at h; exact h
  | ok z s1 =>
    rw [q] at h
    obtain ⟨src, ds⟩ := z
    intro J ws C1 R1 H1 l1 r1 x1 v1 jo
    have v1 : VReps (KW X) X.mg C1 R1 ρ σ H1 ws src := v1
    have jo : ItOk (KW X) X.mg R1 J ws (src.map (·.d)) ds := jo
    have h : PostS (KW X) X.mg W σ.length C R (OkS (KW X) X.mg σ.length C R Z) (if allCl src = true then forL g fb ds ρ s1 else .bad) := h
    split at h
    · rename_i hcl
      refine ⟨fun i m σ2 H2 => m = ds.length - i ∧ i ≤ ds.length ∧ σ2.length = σ.length ∧ ∃ C2 R2 ρ2 s2, C1.Le C2 ∧ Same R1 R2 ∧ Rel (KW X) X.mg C2 R2 ρ2 σ2 H2 s2 ∧ PostS (KW X) X.mg W σ.length C R (OkS (KW X) X.mg σ.length C R Z) (forL g fb (ds.drop i) ρ2 s2), ⟨ds.length, by simp, Nat.zero_le _, rfl, C1, R1, ρ, s1, .refl _, L2.Same.refl _, x1, by simpa using h⟩, ?_⟩
      rintro i m σ2 H2 ⟨rfl, hi, hn, C2, R2, ρ2, s2, l2, r2, x2, post⟩
      obtain ⟨jstop, jgo, jy⟩ := jo C2.L R2 H2 r2 x2.bas.sub ((allCl_keep l2 r2 hcl v1).look x2)
      by_cases hlt : i < ds.length
      · refine .inr ⟨jgo i hlt, fun σ3 H3 => i + 1 ≤ ds.length ∧ σ3.length = σ.length ∧ ∃ C2 R2 ρ2 s2, C1.Le C2 ∧ Same R1 R2 ∧ Rel (KW X) X.mg C2 R2 ρ2 σ3 H3 s2 ∧ PostS (KW X) X.mg W σ.length C R (OkS (KW X) X.mg σ.length C R Z) (forL g fb (ds.drop (i + 1)) ρ2 s2), fun σ3 H3 z => ⟨ds.length - (i + 1), by omega, rfl, z.1, z.2.1, z.2.2⟩, fun v H3 hy => ?_⟩
        have ed : ds[i]? = some ds[i] := List.getElem?_eq_getElem hlt
        have edr : ds.drop i = ds[i] :: ds.drop (i + 1) := List.drop_eq_getElem_cons hlt
        rw [edr, forL] at post
        generalize ds[i] = d at ed post
        obtain ⟨R3, r3, x3, rep⟩ : ∃ R3, Same R2 R3 ∧ Rel (KW X) X.mg C2 R3 ρ2 σ2 H3 s2 ∧ Rep (KW X) X.mg C2.L R3 v d := by
          rcases jy i v H3 d ed hy with ⟨rfl, rp⟩ | ⟨T, o, hT, rfl, rp⟩
          · exact ⟨R2, L2.Same.refl _, x2, rp⟩
          · obtain ⟨rr, xx⟩ := x2.alloc (o := o) hT
            exact ⟨_, rr, xx, rp⟩
        cases eg : g d ρ2 with
        | none => rw [eg] at post; exact (show False from post).elim
        | some ρ3 =>
          rw [eg] at post
          refine ⟨C2, R3, ρ2, s2, d, ρ3, x3, rep, eg, fun σ4 x4 ag => ?_⟩
          refine ⟨C2, R3, ρ3, s2, x4, ?_⟩
          have n4 : σ4.length = σ.length := ag.1.trans hn
          rw [n4]
          have post : PostS (KW X) X.mg W σ.length C R (OkS (KW X) X.mg σ.length C R Z) ((fb ρ3 s2).bind fun o s1 => match o with | .nx ρ2 => forL g fb (ds.drop (i + 1)) ρ2 s1 | .rt tv => .ok (.rt tv) s1) := post
          have l3 := l1.trans l2
          have rr := L2.Same.trans r1 (L2.Same.trans r2 r3)
          cases eb : fb ρ3 s2 with
          | exc c s5 =>
            rw [eb] at post
            exact fun a σ' C' R' H' e1 e2 e3 e4 e5 => post a σ' C' R' H' e1 (l3.trans e2) (L2.Same.trans rr e3) e4 e5
          | bad => rw [eb] at post; exact post
          | ok o s5 =>
            rw [eb] at post
            cases o with
            | nx ρ5 => exact fun σ5 C5 R5 H5 l5 r5 x5 n5 => ⟨hlt, n5, C5, R5, ρ5, s5, l2.trans l5, L2.Same.trans r2 (L2.Same.trans r3 r5), x5, post⟩
            | rt tv => exact fun v C' R' H' e1 e2 e3 e4 => post v C' R' H' (l3.trans e1) (L2.Same.trans rr e2) e3 e4
      · have e : i = ds.length := by omega
        subst e
        refine .inl ⟨jstop _ (Nat.le_refl _), ?_⟩
        rw [List.drop_length, forL] at post
        exact post σ2 C2 R2 H2 (l1.trans l2) (L2.Same.trans r1 r2) x2 hn
    · exact h.elim
theorem ds_while {c : Expr} {fc : T} {body : List Stmt} {fb : S} {n : Nat} (hp : PassesOwn (model X.prog X.w) X.A X.env X.xe) (hc : DT X W c fc) (hb : DSs X W body fb) : DS X W (.While c body [] pos) (sWhile n fc fb) := PS.weak (ps_while hp hc hb) fun Z σ H ⟨C, R, ρ, s, x, h⟩ => by
  refine ⟨fun m σ2 H2 => σ2.length = σ.length ∧ ∃ C2 R2 ρ2 s2, C.Le C2 ∧ Same R R2 ∧ Rel (KW X) X.mg C2 R2 ρ2 σ2 H2 s2 ∧ PostS (KW X) X.mg W σ.length C R (OkS (KW X) X.mg σ.length C R Z) (whileL fc fb m ρ2 s2), ⟨n, rfl, C, R, ρ, s, .refl _, L2.Same.refl _, x, h⟩, ?_⟩
  rintro m σ2 H2 ⟨hn, C2, R2, ρ2, s2, l2, r2, x2, post⟩
  cases m with
  | zero => exact (show False from post).elim
  | succ m =>
    rw [whileL] at post
    refine ⟨C2, R2, ρ2, s2, x2, ?_⟩
    cases ec : fc ρ2 s2 with
    | exc c s5 =>
      rw [ec] at post
      exact fun a C' R' H' e1 e2 e3 e4 => post a σ2 C' R' H' e1 (l2.trans e2) (L2.Same.trans r2 e3) e4 hn
    | bad => rw [ec] at post; exact post
    | ok k s5 =>
      rw [ec] at post
      intro C5 R5 H5 l5 r5 x5
      have l6 := l2.trans l5
      have r6 := L2.Same.trans r2 r5
      cases k with
      | false => exact post σ2 C5 R5 H5 l6 r6 x5 hn
      | true =>
        have post : PostS (KW X) X.mg W σ.length C R (OkS (KW X) X.mg σ.length C R Z) ((fb ρ2 s5).bind fun o s2 => match o with | .nx ρ2 => whileL fc fb m ρ2 s2 | .rt tv => .ok (.rt tv) s2) := post
        refine ⟨fun σ3 H3 => σ3.length = σ.length ∧ ∃ C2 R2 ρ2 s2, C.Le C2 ∧ Same R R2 ∧ Rel (KW X) X.mg C2 R2 ρ2 σ3 H3 s2 ∧ PostS (KW X) X.mg W σ.length C R (OkS (KW X) X.mg σ.length C R Z) (whileL fc fb m ρ2 s2), fun σ3 H3 z => ⟨m, Nat.lt_succ_self m, z⟩, ?_⟩
        refine ⟨C5, R5, ρ2, s5, x5, ?_⟩
        rw [hn]
        cases eb : fb ρ2 s5 with
        | exc c s7 =>
          rw [eb] at post
          exact fun a σ' C' R' H' e1 e2 e3 e4 e5 => post a σ' C' R' H' e1 (l6.trans e2) (L2.Same.trans r6 e3) e4 e5
        | bad => rw [eb] at post; exact post
        | ok o s7 =>
          rw [eb] at post
          cases o with
          | nx ρ7 => exact fun σ7 C7 R7 H7 l7 r7 x7 n7 => ⟨n7, C7, R7, ρ7, s7, l6.trans l7, L2.Same.trans r6 r7, x7, post⟩
          | rt tv => exact fun v C' R' H' e1 e2 e3 e4 => post v C' R' H' (l6.trans e1) (L2.Same.trans r6 e2) e3 e4

/-! ### lists that grow -/
theorem own_no {K : Kw} {mg : Str → Option Value} {C : Cn} {R H : Hp} {p : Addr} {ds : List D} (h : Top K mg C.L R H p (.lst ds)) : ∀ y, H p ≠ some (.own y) := fun y => by
  obtain ⟨xs, h1, _⟩ := h
  rw [h1]
  exact fun z => nomatch z
theorem ds_app {j : Nat} {y : Str} {apos cpos py : Pos} (hN : X.N[j]? = some y) (hv : Vis X.env.scope y) (hd : (y == ("__debug__" : Str)) = false) (hcd : (y == ("__classdict__" : Str)) = false) (he : DE X W e fe)
    (hbase : attributeBase (.Name y py) "append" X.env (eval (.Name y py) X.env) = eval (.Name y py) X.env)
    (hfew : ((backTo cpos (starEach [e] X.env)).all (fun x => !x.1) && (backToKw cpos (keywordEach [] X.env)).all (fun x => x.1.isSome) && decide (([e] : List Expr).length + ([] : List Keyword).length + (if ([] : List Keyword).isEmpty then 0 else 1) < 30)) = true)
    (hline : (apos.endLine == cpos.line) = true) (hs : starEach [e] X.env = (false, eval e X.env) :: starEach [] X.env) (hplain : (backTo cpos (starEach [] X.env)).any (·.1) = false)
    (hsw : swapsWith (.Call (.Attribute (.Name y py) "append" apos) [e] [] cpos) none pos.line X.env = pure false) :
    DS X W (.Expr (.Call (.Attribute (.Name y py) "append" apos) [e] [] cpos) pos) (sApp j fe) :=
  PS.weak (ps_expr (pe_bm PySem.F.plainAttrs_list PySem.F.slot_list_append PySem.F.type_list_append mt_append (pe_var hN hv hd hcd) (pa_cons he pa_nil hs) hbase hfew hline hs hplain) hsw) fun Z σ H ⟨C, R, ρ, s, x, h⟩ => by
    unfold sApp at h
    split at h
    · rename_i ds hj
      obtain ⟨p, hp, ht, _⟩ := x.own j _ hj
      obtain ⟨ys, hy, _⟩ := ht
      refine ⟨.ref p, hp, .inl ⟨rfl, _, SqL.of hy⟩, ?_⟩
      refine sE x h fun tv s1 v C1 R1 H1 l1 r1 x1 v1 h1 => ?_
      obtain ⟨R2, r2, x2, v2⟩ := x1.kept v1
      obtain ⟨p2, hp2, ht2, _⟩ := x2.own j _ hj
      rw [hp] at hp2
      cases hp2
      obtain ⟨xs, hx, ra⟩ := ht2
      have key : ∀ {d : D}, Rep (KW X) X.mg C1.L R2 v d → PostS (KW X) X.mg W σ.length C R (OkS (KW X) X.mg σ.length C R Z) (if ds.length < 16777216 then .ok (.nx (ρ.set j (.ow (.lst (ds ++ [d]))))) s1 else .bad) → rAppend (.ref p) [v] H1 (fun _ H2 => Z.nx σ H2) := fun {d} rp h1 => by
        split at h1
        · rename_i hlen
          refine ⟨p, xs, v, rfl, rfl, hx, by rw [ra.length]; exact hlen, ?_⟩
          exact h1 σ C1 R2 _ l1 (L2.Same.trans r1 r2) (x2.write hj hp ⟨_, upd_same, ra.append (.one rp)⟩ (own_no (C := C1) ⟨xs, hx, ra⟩)) rfl
        · exact h1.elim
      obtain ⟨t, d⟩ := tv
      cases t with
      | cl => exact key v2 h1
      | fr => exact key v2 h1
      | dy i => exact (show False from h1).elim
    · rename_i i hj
      obtain ⟨v0, hv0, hr0⟩ := x.shr j _ hj
      cases hr0 with
      | @ref _ a hLa =>
        split at h
        · rename_i ds0 ob
          obtain ⟨⟨ys, hy, _⟩, _⟩ := x.bas.sto.at_ i _ a ob hLa
          refine ⟨.ref a, hv0, .inl ⟨rfl, _, SqL.of hy⟩, ?_⟩
          refine sE x h fun tv s1 v C1 R1 H1 l1 r1 x1 v1 h1 => ?_
          obtain ⟨R2, r2, x2, v2⟩ := x1.kept v1
          have key : ∀ {d : D}, Rep (KW X) X.mg C1.L R2 v d → PostS (KW X) X.mg W σ.length C R (OkS (KW X) X.mg σ.length C R Z) (match s1[i]? with
              | some (.lst ds) => if ds.length < 16777216 then .ok (.nx ρ) (s1.set i (.lst (ds ++ [d]))) else .bad
              | _ => .bad) → rAppend (.ref a) [v] H1 (fun _ H2 => Z.nx σ H2) := fun {d} rp h1 => by
            split at h1
            · rename_i ds1 ob1
              split at h1
              · rename_i hlen
                have hL1 := pre_get l1.L hLa
                obtain ⟨⟨xs, hx, ra⟩, _⟩ := x2.bas.sto.at_ i _ a ob1 hL1
                refine ⟨a, xs, v, rfl, rfl, hx, by rw [ra.length]; exact hlen, ?_⟩
                exact h1 σ C1 R2 _ l1 (L2.Same.trans r1 r2) (x2.writeSto ob1 hL1 (ra.append (.one rp))) rfl
              · exact h1.elim
            · exact h1.elim
          obtain ⟨t, d⟩ := tv
          cases t with
          | cl => exact key v2 h1
          | fr => exact key v2 h1
          | dy i => exact (show False from h1).elim
        · exact h.elim
    · exact h.elim
theorem ds_ext {j : Nat} {y : Str} {apos cpos py : Pos} (hN : X.N[j]? = some y) (hv : Vis X.env.scope y) (hd : (y == ("__debug__" : Str)) = false) (hcd : (y == ("__classdict__" : Str)) = false) (he : DE X W e fe)
    (hbase : attributeBase (.Name y py) "extend" X.env (eval (.Name y py) X.env) = eval (.Name y py) X.env)
    (hfew : ((backTo cpos (starEach [e] X.env)).all (fun x => !x.1) && (backToKw cpos (keywordEach [] X.env)).all (fun x => x.1.isSome) && decide (([e] : List Expr).length + ([] : List Keyword).length + (if ([] : List Keyword).isEmpty then 0 else 1) < 30)) = true)
    (hline : (apos.endLine == cpos.line) = true) (hs : starEach [e] X.env = (false, eval e X.env) :: starEach [] X.env) (hplain : (backTo cpos (starEach [] X.env)).any (·.1) = false)
    (hsw : swapsWith (.Call (.Attribute (.Name y py) "extend" apos) [e] [] cpos) none pos.line X.env = pure false) :
    DS X W (.Expr (.Call (.Attribute (.Name y py) "extend" apos) [e] [] cpos) pos) (sExt j fe) :=
  PS.weak (ps_expr (pe_bm PySem.F.plainAttrs_list PySem.F.slot_list_extend PySem.F.type_list_extend mt_extend (pe_var hN hv hd hcd) (pa_cons he pa_nil hs) hbase hfew hline hs hplain) hsw) fun Z σ H ⟨C, R, ρ, s, x, h⟩ => by
    unfold sExt at h
    split at h
    · rename_i ds hj
      obtain ⟨p, hp, ht, _⟩ := x.own j _ hj
      obtain ⟨ys, hy, _⟩ := ht
      refine ⟨.ref p, hp, .inl ⟨rfl, _, SqL.of hy⟩, ?_⟩
      refine sE x h fun tv s1 v C1 R1 H1 l1 r1 x1 v1 h1 => ?_
      obtain ⟨R2, r2, x2, v2⟩ := x1.kept v1
      obtain ⟨p2, hp2, ht2, _⟩ := x2.own j _ hj
      rw [hp] at hp2
      cases hp2
      obtain ⟨xs, hx, ra⟩ := ht2
      have key : ∀ {es : List D}, Rep (KW X) X.mg C1.L R2 v (.lst es) → PostS (KW X) X.mg W σ.length C R (OkS (KW X) X.mg σ.length C R Z) (if ds.length + es.length ≤ 16777216 then .ok (.nx (ρ.set j (.ow (.lst (ds ++ es))))) s1 else .bad) → rExtend (.ref p) [v] H1 (fun _ H2 => Z.nx σ H2) := fun {es} rp h1 => by
        split at h1
        · rename_i hlen
          cases rp with
          | lst q1 q2 =>
            refine ⟨p, _, xs, _, rfl, rfl, hx, x2.bas.sub _ _ q1, by rw [ra.length, q2.length]; exact hlen, ?_⟩
            exact h1 σ C1 R2 _ l1 (L2.Same.trans r1 r2) (x2.write hj hp ⟨_, upd_same, ra.append q2⟩ (own_no (C := C1) ⟨xs, hx, ra⟩)) rfl
        · exact h1.elim
      split at h1
      · rename_i es ek
        have v3 : VRep (KW X) X.mg C1 R2 ρ σ H1 v ⟨.cl, .lst es⟩ := ek ▸ v2
        exact key v3 h1
      · exact h1.elim
    · exact h.elim
end
end UW
namespace UW
open PySem PySem.Spec PyProof.Rows L2

/-! ### defs -/
abbrev Fn := List D → Sto → Res TV
/-- what a def promises -/
def PostF (K : Kw) (mg : Str → Option Value) (C : Cn) (R : Hp) (Q : VK) (Z : XK) : Res TV → Prop
  | .ok tv s' => ∀ v C' R' H', C.Le C' → Same R R' → Bas K mg C' R' H' s' → RtRep K mg C' R' H' v tv → Q v H'
  | .exc c s' => ∀ a C' R' H', mg c = some (.ref a) → C.Le C' → Same R R' → Bas K mg C' R' H' s' → Z (.ref a) none H'
  | .bad => False
def spD (K : Kw) (mg : Str → Option Value) (n : Nat) (F : Fn) : Sp := fun vs H Q Z => vs.length = n ∧ ∃ L R ds s, Bas K mg ⟨L, H, R, L.length⟩ R H s ∧ RepAll K mg L R vs ds ∧ PostF K mg ⟨L, H, R, L.length⟩ R Q Z (F ds s)

section
variable {K : Kw} {mg : Str → Option Value} {C C' : Cn} {R R' H H' : Hp} {ρ : DSt} {σ : L2.St} {s s' : Sto}
/-- a callee's entry -/
theorem Rel.entry (x : Rel K mg C R ρ σ H s) : Bas K mg ⟨C.L, H, R, C.L.length⟩ R H s where
  sub := x.bas.sub
  new := fun a o e => .inl e
  r0 := L2.Same.refl _
  keep := fun a o e _ => e
  sto := x.bas.sto
  n0 := Nat.le_refl _
  ln0 := fun i a hi e => absurd (List.getElem?_eq_some_iff.mp e).1 (Nat.not_lt.mpr hi)
/-- behind a call -/
theorem Rel.after (x : Rel K mg C R ρ σ H s) (b : Bas K mg C' R' H' s') (le : Cn.Le ⟨C.L, H, R, C.L.length⟩ C') (sR : Same R R') : Rel K mg { C with L := C'.L } R' ρ σ H' s' ∧ C.Le { C with L := C'.L } := by
  have e0 : C'.H0 = H := le.H0
  have eR : C'.R0 = R := le.R0
  have en : C'.n0 = C.L.length := le.n0
  obtain ⟨t, ht⟩ := (show C.L <+: C'.L from le.L)
  have take0 : C'.L.take C.n0 = C.L.take C.n0 := by
    rw [← ht, List.take_append_of_le_length x.bas.n0]
  have inL : ∀ a, a ∈ C'.L.take C'.n0 → a ∈ C.L := fun a h => by
    rw [en, ← ht, List.take_left'] at h
    · exact h
    · rfl
  have keepH : ∀ a o, H a = some o → a ∉ C.L → H' a = some o := fun a o e hn => b.keep a o (by rw [e0]; exact e) fun h => hn (inL a h)
  have newL : ∀ a, a ∈ C'.L → a ∉ C.L → H a = none := fun a h hn => by
    obtain ⟨i, hi, e⟩ := List.mem_iff_getElem.mp h
    have e' : C'.L[i]? = some a := by rw [List.getElem?_eq_getElem hi, e]
    by_cases hc : C'.n0 ≤ i
    · have := b.ln0 i a hc e'
      rw [e0] at this
      exact this
    · rw [en] at hc
      rw [← ht, List.getElem?_append_left (by omega)] at e'
      exact absurd (List.mem_of_getElem? e') hn
  have newR : ∀ a o, R' a = some o → R a = some o ∨ H a = none := fun a o e => by
    rcases b.new a o e with z | z
    · rw [eR] at z; exact .inl z
    · rw [e0] at z; exact .inr z
  refine ⟨⟨⟨b.sub, fun a o e => ?_, L2.Same.trans x.bas.r0 sR, fun a o e hn => ?_, b.sto, ?_, fun i a hi e => ?_⟩, x.len, fun i d e => ?_, fun i d e => ?_, x.nd⟩, ⟨⟨t, ht⟩, rfl, rfl, rfl⟩⟩
  · rcases newR a o e with z | z
    · exact x.bas.new a o z
    · exact .inr (x.bas.free0 z)
  · have hn : a ∉ C'.L.take C.n0 := hn
    rw [take0] at hn
    refine keepH a o (x.bas.keep a o e hn) fun hm => ?_
    obtain ⟨i, hi, ei⟩ := List.mem_iff_getElem.mp hm
    by_cases hc : C.n0 ≤ i
    · have := x.bas.ln0 i a hc (by rw [List.getElem?_eq_getElem hi, ei])
      have e : C.H0 a = some o := e
      rw [this] at e; cases e
    · exact hn (List.mem_take_iff_getElem.mpr ⟨i, by omega, ei⟩)
  · show C.n0 ≤ C'.L.length
    rw [← ht, List.length_append]
    have := x.bas.n0
    omega
  · show C.H0 a = none
    have e : C'.L[i]? = some a := e
    have hi : C.n0 ≤ i := hi
    by_cases hlt : i < C.L.length
    · rw [← ht, List.getElem?_append_left hlt] at e
      exact x.bas.ln0 i a hi e
    · have := b.ln0 i a (by rw [en]; omega) e
      rw [e0] at this
      exact x.bas.free0 this
  · obtain ⟨v, h1, h2⟩ := x.shr i d e
    exact ⟨v, h1, h2.mono ⟨t, ht⟩ sR⟩
  · obtain ⟨p, h1, h2, h3, h4, h5⟩ := x.own i d e
    obtain ⟨o, ho⟩ := h2.some
    refine ⟨p, h1, h2.mono ⟨t, ht⟩ sR ((keepH p o ho h5).trans ho.symm), h3, ?_, fun hm => ?_⟩
    · cases q : R' p with
      | none => rfl
      | some u =>
        rcases newR p u q with z | z
        · rw [h4] at z; cases z
        · rw [ho] at z; cases z
    · have := newL p hm h5
      rw [ho] at this; cases this
theorem RtRep.vrep (x : Rel K mg C R ρ σ H s) (le : Cn.Le ⟨C.L, H, R, C.L.length⟩ C') {v : V} {tv : TV} (h : RtRep K mg C' R' H' v tv) : VRep K mg { C with L := C'.L } R' ρ σ H' v tv := by
  obtain ⟨t, d⟩ := tv
  cases t with
  | cl => exact h
  | dy i => exact (show False from h).elim
  | fr =>
    obtain ⟨p, rfl, h1, h2, h3, h4⟩ := h
    have hp : H p = none := by
      have e0 : C'.H0 = H := le.H0
      rw [e0] at h4
      exact h4
    refine ⟨p, rfl, h1, h2, h3, x.bas.free0 hp, fun i e q z => ?_⟩
    obtain ⟨p', a1, a2, _⟩ := x.own i e q
    rw [z] at a1
    cases a1
    obtain ⟨o, ho⟩ := a2.some
    rw [hp] at ho; cases ho
end

def eCall (F : Fn) (l : EL) : E := fun ρ s => (l ρ s).bind fun tvs s1 => match cleans tvs with
  | some ds => F ds s1
  | none => .bad
/-- a def that stands at a name -/
structure FnAt (X : Cx) (x : Str) (n : Nat) (F : Fn) : Prop where
  ok : ∃ (f : Addr) (fd : FuncData) (ps : List Str) (k : Nat), FnOk X.prog X.w (KW X) X.mg X.base (L2N.CX X.prog X.w) k f fd ps (spD (KW X) X.mg n F) ∧ Room k X.A ∧ X.mg x = some (.ref f) ∧ PySem.W.keepIn X.K (.ref f) = true ∧ Binds X.K fd ps []
section
variable {X : Cx} {W : WX} {e : Expr} {es : List Expr} {fl : EL} {x : Str} {p pos : Pos} {n : Nat} {F : Fn}
theorem call_read {σ : L2.St} {H : Hp} {Q : VK} (hl : ∀ ρ s tvs s', fl ρ s = .ok tvs s' → tvs.length = n) (h : tD (KW X) X.mg W (eCall F fl) σ H Q) : tCallS (spD (KW X) X.mg n F) (WE W) (tDL (KW X) X.mg W fl) σ H Q := by
  obtain ⟨C, R, ρ, s, x, h⟩ := h
  refine ⟨C, R, ρ, s, x, ?_⟩
  unfold eCall at h
  cases q : fl ρ s with
  | exc c s1 => rw [q] at h; exact h
  | bad => rw [q] at h; exact h
  | ok tvs s1 =>
    rw [q] at h
    intro vs C1 R1 H1 l1 r1 x1 v1
    have h : PostR (KW X) X.mg W σ C R (OkE (KW X) X.mg ρ σ C R Q) (match cleans tvs with
      | some ds => F ds s1
      | none => .bad) := h
    split at h
    · rename_i ds ec
      have ra := cleans_rep ec v1
      have hn : vs.length = n := by
        rw [ra.length]
        have : ds.length = tvs.length := by
          have : ∀ (tvs : List TV) (ds : List D), cleans tvs = some ds → ds.length = tvs.length := by
            intro tvs
            induction tvs with
            | nil => intro ds e; cases e; rfl
            | cons tv r ih =>
              intro ds e
              obtain ⟨t, d⟩ := tv
              cases t with
              | cl =>
                unfold cleans at e
                cases q : cleans r with
                | none => rw [q] at e; cases e
                | some es =>
                  rw [q] at e
                  cases e
                  rw [List.length_cons, List.length_cons, ih es q]
              | fr => cases e
              | dy i => cases e
          exact this tvs ds ec
        rw [this]
        exact hl ρ s tvs s1 q
      refine ⟨hn, C1.L, R1, ds, s1, x1.entry, ra, ?_⟩
      cases ef : F ds s1 with
      | bad => rw [ef] at h; exact h.elim
      | exc c s2 =>
        rw [ef] at h
        intro a C' R' H' e1 e2 e3 e4
        obtain ⟨y, le⟩ := x1.after e4 e2 e3
        exact h a _ R' H' e1 (l1.trans le) (L2.Same.trans r1 e3) y.bas
      | ok tv s2 =>
        rw [ef] at h
        intro v C' R' H' e2 e3 e4 e5
        obtain ⟨y, le⟩ := x1.after e4 e2 e3
        exact h v _ R' H' (l1.trans le) (L2.Same.trans r1 e3) y (e5.vrep x1 e2)
    · exact h.elim
theorem de_call (tk : L2N.Takes X W) (fa : FnAt X x n F) (hg : Gl X x) (ha : DL X W (e :: es) fl) (hl : ∀ ρ s tvs s', fl ρ s = .ok tvs s' → tvs.length = n) (hdb : (x == ("__debug__" : Str)) = false)
    (he : starEach (e :: es) X.env = (false, eval e X.env) :: starEach es X.env) (hpl : (backTo pos (starEach es X.env)).any (·.1) = false) : DE X W (.Call (.Name x p) (e :: es) [] pos) (eCall F fl) := by
  obtain ⟨f, fd, ps, k, F1, hr, hm, hk, hb⟩ := fa.ok
  exact PE.weak (pe_callS (E := WE W) F1 hr hg hm hk hb (fun σ => L2N.passAt tk σ) ha hdb he hpl) fun σ H Q h => call_read hl h
/-- a def's name as a value -/
theorem de_fn {f : Addr} (hg : Gl X x) (hm : X.mg x = some (.ref f)) (hdb : (x == ("__debug__" : Str)) = false) : DE X W (.Name x p) (eC (.fn x)) := PE.weak (pe_glob (v := .ref f) hg hm rfl hdb) fun σ H Q ⟨C, R, ρ, s, y, h⟩ => h.cl y (.fn hm)
/-- a constant of the module -/
theorem de_gint {i : Int} {t : Tok} (hg : Gl X x) (hm : X.mg x = some (.int i t)) (hdb : (x == ("__debug__" : Str)) = false) : DE X W (.Name x p) (eC (.int i)) := PE.weak (pe_glob (v := .int i) hg hm ⟨t, rfl⟩ hdb) fun σ H Q ⟨C, R, ρ, s, y, h⟩ => h.cl y (.int i)
theorem de_gstr {i : Str} {t : Tok} (hg : Gl X x) (hm : X.mg x = some (.str i t)) (hdb : (x == ("__debug__" : Str)) = false) : DE X W (.Name x p) (eC (.str i)) := PE.weak (pe_glob (v := .str i) hg hm ⟨t, rfl⟩ hdb) fun σ H Q ⟨C, R, ρ, s, y, h⟩ => h.cl y (.str i)
end

/-! ### one of several defs: fs[i](..) -/
abbrev Tbl := List (Str × Nat × Fn)
def eCallX (t : Tbl) (a : E) (l : EL) : E := fun ρ s => (a ρ s).bind fun x s1 => match x.d with
  | .fn y => (match t.lookup y with
    | some (n, F) => (l ρ s1).bind fun tvs s2 => if tvs.length = n then (match cleans tvs with
      | some ds => F ds s2
      | none => .bad) else .bad
    | none => .bad)
  | _ => .bad
section
variable {X : Cx} {W : WX} {a e : Expr} {es : List Expr} {fa : E} {fl : EL} {pos : Pos} {t : Tbl}
theorem de_callX (tk : L2N.Takes X W) (ht : ∀ y n F, t.lookup y = some (n, F) → FnAt X y n F) (ha : DE X W a fa) (hl : DL X W (e :: es) fl)
    (hev : eval (.Call a (e :: es) [] pos) X.env = (do callWith pos (← eval a X.env) [] (backTo pos (starEach (e :: es) X.env)) (backToKw pos (keywordEach [] X.env))))
    (he : starEach (e :: es) X.env = (false, eval e X.env) :: starEach es X.env) (hpl : (backTo pos (starEach es X.env)).any (·.1) = false) : DE X W (.Call a (e :: es) [] pos) (eCallX t fa fl) := by
  refine ⟨fun pins s0 σ H Q J h => ?_⟩
  obtain ⟨C, R, ρ, s, x, h⟩ := h
  refine Call_ ?_ hev
  refine thn (ha.run pins s0 σ H (fun v H1 => ∃ y n F f, v = .ref f ∧ t.lookup y = some (n, F) ∧ X.mg y = some (.ref f) ∧ tDL (KW X) X.mg W fl σ H1 fun vs H2 => spD (KW X) X.mg n F vs H2 Q (WE W σ)) J (seqE x h fun tv s1 v C1 R1 H1 l1 r1 x1 v1 h1 => ?_)) fun fv s1 ⟨v, H1, J1, rv, y, n, F, f, ev, ey, em, q⟩ => ?_
  · split at h1
    · rename_i y ed
      have lk := VRep.look x1 v1
      rw [ed] at lk
      have lk' : Rep (KW X) X.mg C1.L R1 v (.fn y) := lk
      cases lk' with
      | @fn _ f em =>
        split at h1
        · rename_i n F ey
          refine ⟨y, n, F, f, rfl, ey, em, ?_⟩
          refine seqL x1 (PostR.mono l1 r1 (fun _ _ z => z) h1) fun tvs s3 vs C3 R3 H3 l3 r3 x3 v3 h3 => ?_
          split at h3
          · rename_i hn
            split at h3
            · rename_i ds ec
              have ra := cleans_rep ec v3
              have lenv : ∀ {vs : List V} {tvs : List TV}, VReps (KW X) X.mg C3 R3 ρ σ H3 vs tvs → vs.length = tvs.length := by
                intro vs tvs z
                induction z with
                | nil => rfl
                | cons _ _ _ ih => rw [List.length_cons, List.length_cons, ih]
              refine ⟨(lenv v3).trans hn, C3.L, R3, ds, s3, x3.entry, ra, ?_⟩
              cases ef : F ds s3 with
              | bad => rw [ef] at h3; exact h3.elim
              | exc c s4 =>
                rw [ef] at h3
                intro a C' R' H' e1 e2 e3 e4
                obtain ⟨y, le⟩ := x3.after e4 e2 e3
                exact h3 a _ R' H' e1 (l3.trans le) (L2.Same.trans r3 e3) y.bas
              | ok tv s4 =>
                rw [ef] at h3
                intro v C' R' H' e2 e3 e4 e5
                obtain ⟨y, le⟩ := x3.after e4 e2 e3
                exact h3 v _ R' H' (l1.trans (l3.trans le)) (L2.Same.trans r1 (L2.Same.trans r3 e3)) y (e5.vrep x3 e2)
            · exact h3.elim
          · exact h3.elim
        · exact h1.elim
    · exact h1.elim
  · subst ev
    cases rv
    obtain ⟨f', fd, ps, k, F1, hr, hm, hk, hb⟩ := (ht y n F ey).ok
    rw [em] at hm
    cases hm
    refine PySem.W.callWith_K (h₀ := X.base) J1.ok.mod.kin hk (thn (hl.run pos pins s1 σ H1 _ J1 q) fun us s2 ⟨vs, H2, J2, r, q2⟩ => ⟨J2.kIn, ?_⟩) he hpl
    exact run_fnS (E := WE W) F1 hr hb (L2N.passAt tk σ) J2 r q2
end

/-! ### isinstance -/
def tyD : D → Option String
  | .non => some "NoneType"
  | .bl _ => some "bool"
  | .int _ => some "int"
  | .str _ => some "str"
  | .tup _ => some "tuple"
  | .lst _ => some "list"
  | .dct _ _ => some "dict"
  | .fdc _ _ => some "dict"
  | _ => none
def eIsi (T : String) (a : E) : E := fun ρ s => (a ρ s).bind fun x s1 => match tyD x.d with
  | some t => (match kitB t T with
    | some b => .ok ⟨.cl, .bl b⟩ s1
    | none => .bad)
  | none => .bad
theorem PRep.ty {K : Kw} {mg : Str → Option Value} {L : List Addr} {R H : Hp} (sub : Same R H) : ∀ {d : D} {v : V} {t : String}, PRep K mg L R H v d → tyD d = some t → TyX K H v (.type t)
  | .non, _, _, h, e => by
    cases e
    have h' : Rep K mg L R _ .non := h
    cases h'
    exact .base .non
  | .bl _, _, _, h, e => by cases e; rw [h.bl]; exact .base (.bl _)
  | .int _, _, _, h, e => by cases e; rw [h.int]; exact .base (.int _)
  | .str _, _, _, h, e => by cases e; rw [h.str]; exact .base (.str _)
  | .tup _, _, _, h, e => by
    cases e
    obtain ⟨a, xs, rfl, h1, _⟩ := h.tup
    rcases Same.tupl sub h1 with (z | ⟨o, z⟩) | ⟨o, its, n, z, zc, _⟩
    · exact .base (.tup z)
    · exact .fTuple z
    · exact .kTuple z zc
  | .lst _, _, _, h, e => by
    cases e
    obtain ⟨a, xs, rfl, h1, _⟩ := h
    exact .base (.lst h1)
  | .dct _ _, _, _, h, e => by
    cases e
    obtain ⟨a, xs, rfl, h1, _⟩ := h
    rcases h1 with h1 | ⟨o, h1⟩
    · exact .base (.dK h1)
    · exact .fDict h1
  | .fdc _ _, _, _, h, e => by
    cases e
    have h : Rep K mg L R _ (.fdc _ _) := h
    cases h with
    | fdc h1 h2 => exact .fDict (sub _ _ h1)
  | .ref _, _, _, _, e => by cases e
  | .fn _, _, _, _, e => by cases e
  | .exc _, _, _, _, e => by cases e
  | .scr _, _, _, _, e => by cases e
  | .dnt _ _, _, _, _, e => by cases e
  | .fdn _ _, _, _, _, e => by cases e
  | .tpw _, _, _, _, e => by cases e
section
variable {X : Cx} {W : WX} {a : Expr} {fa : E} {pos p p2 : Pos} {y : Str} {T : String}
theorem de_isi (hg : Gl X "isinstance") (hm : X.mg "isinstance" = none) (hv : bootBuiltins "isinstance" = some (.builtin "isinstance")) (hgT : Gl X y) (hmT : X.mg y = none) (hvT : bootBuiltins y = some (.type T)) (hnT : y ≠ "__name__") (hdT : (y == ("__debug__" : Str)) = false) (ha : DE X W a fa)
    (hs1 : starEach [.Name y p2] X.env = (false, eval (.Name y p2) X.env) :: starEach [] X.env) (hs2 : starEach [a, .Name y p2] X.env = (false, eval a X.env) :: starEach [.Name y p2] X.env) (hpl : (backTo pos (starEach [.Name y p2] X.env)).any (·.1) = false) :
    DE X W (.Call (.Name "isinstance" p) [a, .Name y p2] [] pos) (eIsi T fa) :=
  PE.weak (pe_callB call_isi hg hm hv (pa_cons ha (pa_cons (pe_bltn (v := .ty T) hgT hmT hvT rfl hnT hdT) pa_nil hs1) hs2) (by decide) (by decide) hs2 hpl) fun σ H Q ⟨C, R, ρ, s, x, h⟩ => by
    refine seqE x h fun tv s1 v C1 R1 H1 l1 r1 x1 v1 h1 => ?_
    split at h1
    · rename_i t et
      split at h1
      · rename_i b eb
        exact ⟨v, .ty T, .type t, .type T, b, rfl, .ty T, PRep.ty x1.bas.sub (VRep.look x1 v1) et, kit_ty eb, h1 _ C1 R1 H1 l1 r1 x1 (.bl b)⟩
      · exact h1.elim
    · exact h1.elim
/-- isinstance(e, C), e the error that is held -/
def eIsP (i : Nat) (pa : Addr) (b : Bool) : E := fun ρ s => match ρ[i]? with
  | some (.sh (.exc a)) => if a = pa then .ok ⟨.cl, .bl b⟩ s else .bad
  | _ => .bad
theorem call_isP {X : Cx} {pa D : Addr} {oe : Obj} (C : ExcC X.K D) (hp : (pa, oe) ∈ X.pn) (hz : oe.cls = .ref D ∧ oe.dict = none) (hf : ∃ vs, oe.data = .fields vs) : CallR X (.builtin "isinstance") (rIsE X.K D pa) := by
  intro pins s σ H xs us Q J r h
  obtain ⟨c, cv, b, rfl, hcv, e, q⟩ := h
  obtain ⟨u1, u2, rfl, r1, r2⟩ := vals2 r
  cases r1
  have ec := hcv _ r2
  subst ec
  have hget := (J.pin (pa, oe) (List.mem_append_left _ hp)).1
  obtain ⟨vs, hv⟩ := hf
  have In : PySem.W.InstAt s.heap pa oe D none := by
    obtain ⟨oc, od, oda, osl⟩ := oe
    obtain ⟨h1, h2⟩ := hz
    cases h1
    cases h2
    cases hv
    exact ⟨hget, rfl, rfl, trivial⟩
  exact PySem.W.kia_one (PySem.W.handS_kitx_exc C.hg C.hk C.hs C.hd C.ha C.hn C.ht C.hm) J.kIn In e (fun z => nomatch z) fun tk => ⟨.bl b, H, J.kept (t' := tk) fun _ _ z => z, rfl, q⟩
theorem de_isP {i : Nat} {x : Str} {pa D : Addr} {oe : Obj} {cv : Value} {c : V} {b : Bool} (EC : ExcC X.K D) (hp : (pa, oe) ∈ X.pn) (hz : oe.cls = .ref D ∧ oe.dict = none) (hf : ∃ vs, oe.data = .fields vs)
    (hg : Gl X "isinstance") (hm : X.mg "isinstance" = none) (hv : bootBuiltins "isinstance" = some (.builtin "isinstance")) (hN : X.N[i]? = some x) (hvis : Vis X.env.scope x) (hd : (x == ("__debug__" : Str)) = false) (hcd : (x == ("__classdict__" : Str)) = false)
    (hcl : PE X (.Name y p2) (tC c)) (hcv : ∀ u, RelV c u → u = cv) (hk : PySem.W.kitOne X.K (.ref D) cv = some b)
    (hs1 : starEach [.Name y p2] X.env = (false, eval (.Name y p2) X.env) :: starEach [] X.env) (hs2 : starEach [.Name x pos, .Name y p2] X.env = (false, eval (.Name x pos) X.env) :: starEach [.Name y p2] X.env) {cp : Pos} (hpl : (backTo cp (starEach [.Name y p2] X.env)).any (·.1) = false) :
    DE X W (.Call (.Name "isinstance" p) [.Name x pos, .Name y p2] [] cp) (eIsP i pa b) :=
  PE.weak (pe_callB (call_isP EC hp hz hf) hg hm hv (pa_cons (pe_var hN hvis hd hcd) (pa_cons hcl pa_nil hs1) hs2) (by decide) (by decide) hs2 hpl) fun σ H Q ⟨C, R, ρ, s, x, h⟩ => by
    unfold eIsP at h
    split at h
    · rename_i a e
      split at h
      · rename_i ea
        subst ea
        obtain ⟨v, h1, h2⟩ := x.shr i _ e
        cases h2
        exact ⟨_, h1, c, cv, b, rfl, hcv, hk, h.cl x (.bl b)⟩
      · exact h.elim
    · exact h.elim
end

/-! ### list.count, list.index of flat values -/
def flatD : D → Option V
  | .non => some .non
  | .bl b => some (.bl b)
  | .int i => some (.int i)
  | .str x => some (.str x)
  | _ => none
def flats : List D → Option (List V)
  | [] => some []
  | d :: r => match flatD d, flats r with
    | some v, some vs => some (v :: vs)
    | _, _ => none
theorem flatD_rep {K : Kw} {mg : Str → Option Value} {L : List Addr} {R : Hp} {d : D} {v w : V} (e : flatD d = some w) (h : Rep K mg L R v d) : v = w ∧ flatV w = true := by
  cases d <;> first | (cases e; cases h; exact ⟨rfl, rfl⟩) | cases e
theorem flats_rep {K : Kw} {mg : Str → Option Value} {L : List Addr} {R : Hp} : ∀ {ds : List D} {vs ws : List V}, flats ds = some ws → RepAll K mg L R vs ds → vs = ws ∧ ws.all flatV = true
  | [], _, _, e, h => by cases h; cases e; exact ⟨rfl, rfl⟩
  | d :: r, _, _, e, h => by
    cases h with
    | cons h1 h2 =>
      unfold flats at e
      split at e
      · rename_i v vs e1 e2
        cases e
        obtain ⟨rfl, f1⟩ := flatD_rep e1 h1
        obtain ⟨rfl, f2⟩ := flats_rep e2 h2
        exact ⟨rfl, by rw [List.all_cons, f1, f2]; rfl⟩
      · cases e
def rCountV (K : PySem.W.Frag) : V → List V → Hp → VK → Prop := fun x xs H Q => ∃ (a : Addr) (ys : List V) (y : V), x = V.ref a ∧ xs = [y] ∧ SqL K H a ys ∧ flatV y = true ∧ ys.all flatV = true ∧ Q (.int ((ys.countP fun z => eqV z y : Nat) : Int)) H
def eqOf (y : V) (u : Value) : Bool := match absV u with
  | some z => eqV z y
  | none => false
theorem countP_vals {y : V} : ∀ {ys : List V} {us : List Value}, Vals ys us → us.countP (eqOf y) = ys.countP fun z => eqV z y
  | _, _, .nil => rfl
  | _, _, .cons r t => by
    rw [List.countP_cons, List.countP_cons, countP_vals t]
    congr 1
    unfold eqOf
    rw [r.abs]
theorem mt_countV {X : Cx} : MtR X "list.count" (rCountV X.K) := by
  intro pins s σ H x xs v us Q J rx rxs h
  obtain ⟨a, ys, y, rfl, rfl, hs, fy, fys, q⟩ := h
  cases rx
  obtain ⟨u, rfl, ru⟩ := rxs.one
  obtain ⟨its, rv, ⟨⟨cls, dd, data, sl⟩, n, ho, hc, hdn, hd⟩, hlen⟩ := J.list hs
  cases hc
  cases hd
  refine call_meets PySem.F.slot_list_count ⟨_, ho, rfl⟩ PySem.F.entry_list_count (PySem.F.args_list_count_2 _ _) (SeqAt.list_countAt a its.toArray n dd sl u (eqOf y)) ⟨ho, fun z hz => ?_, ?_⟩
  · have hz : z ∈ its := by simpa using hz
    obtain ⟨i, hi, ei⟩ := List.mem_iff_getElem.mp hz
    have hl := rv.length
    have hi2 : i < ys.length := by omega
    obtain ⟨w, ew, rw'⟩ := rv.get (List.getElem?_eq_getElem hi2)
    rw [List.getElem?_eq_getElem hi, ei] at ew
    cases ew
    have e : eqOf y z = eqV ys[i] y := by unfold eqOf; rw [rw'.abs]
    rw [e]
    exact eqAt_V rw' ru (List.all_eq_true.mp fys _ (List.getElem_mem hi2)) fy
  · refine ⟨.int ((ys.countP fun z => eqV z y : Nat) : Int), H, J.tok _, ⟨s.toks, ?_⟩, q⟩
    rw [← countP_vals rv]
/-- methods on looked-at values -/
def BM (K : Kw) (mg : Str → Option Value) (T : String) (r : V → List V → Hp → VK → Prop) (op : D → List D → Option TV) : Prop :=
  ∀ C R ρ σ H s v dv vs ds tv Q, Rel K mg C R ρ σ H s → PRep K mg C.L R H v dv → PReps K mg C.L R H vs ds → op dv ds = some tv → OkE K mg ρ σ C R Q tv s → r v vs H Q
def eM (ok : D → Bool) (op : D → List D → Option TV) (a : E) (l : EL) : E := fun ρ s => (a ρ s).bind fun x s1 => if ok x.d = true then (l ρ s1).bind fun tvs s2 => (match op x.d (tvs.map (·.d)) with
  | some tv => .ok tv s2
  | none => .bad) else .bad
section
variable {X : Cx} {W : WX} {o e : Expr} {es : List Expr} {fo : E} {fl : EL} {name : Str} {apos cpos : Pos} {T id : String} {r : V → List V → Hp → VK → Prop} {ok : D → Bool} {op : D → List D → Option TV}
theorem de_bm (pa : PlainAttrs T) (slot : Slot T name id) (hty : typeOf (.builtin id) = pure (.type "method_descriptor")) (hm : MtR X id r) (hB : BM (KW X) X.mg T r op) (hok : ∀ C R H v d, PRep (KW X) X.mg C R H v d → ok d = true → Same R H → tyV X.K T v H) (ho : DE X W o fo) (ha : DL X W (e :: es) fl)
    (hbase : attributeBase o name X.env (eval o X.env) = eval o X.env)
    (hfew : ((backTo cpos (starEach (e :: es) X.env)).all (fun x => !x.1) && (backToKw cpos (keywordEach [] X.env)).all (fun x => x.1.isSome) && decide ((e :: es).length + ([] : List Keyword).length + (if ([] : List Keyword).isEmpty then 0 else 1) < 30)) = true)
    (hline : (apos.endLine == cpos.line) = true) (hs : starEach (e :: es) X.env = (false, eval e X.env) :: starEach es X.env) (hplain : (backTo cpos (starEach es X.env)).any (·.1) = false) :
    DE X W (.Call (.Attribute o name apos) (e :: es) [] cpos) (eM ok op fo fl) :=
  PE.weak (pe_bm pa slot hty hm ho ha hbase hfew hline hs hplain) fun σ H Q ⟨C, R, ρ, s, x, h⟩ => by
    refine seqE x h fun tv s1 v C1 R1 H1 l1 r1 x1 v1 h1 => ?_
    obtain ⟨R2, r2, x2, v2⟩ := x1.kept v1
    have lk := VRep.look x2 v2
    rw [TV.keep_d] at lk
    split at h1
    · rename_i hk
      refine ⟨hok _ _ _ _ _ lk hk x2.bas.sub, ?_⟩
      refine seqL x2 (PostR.mono l1 (L2.Same.trans r1 r2) (fun _ _ z => z) h1) fun tvs s3 vs C3 R3 H3 l3 r3 x3 v3 h3 => ?_
      split at h3
      · rename_i tz ez
        have p1 := VRep.look x3 (v2.mono (H2 := H3) l3 r3 tv.keep_nf)
        rw [TV.keep_d] at p1
        exact hB C3 R3 ρ σ H3 s3 v _ vs _ tz Q x3 p1 (v3.look x3) ez (OkE.mono (l1.trans l3) (L2.Same.trans r1 (L2.Same.trans r2 r3)) h3)
      · exact h3.elim
    · exact h1.elim
end
def isLst : D → Bool
  | .lst _ => true
  | _ => false
theorem isLst_ty {K : Kw} {mg : Str → Option Value} {L : List Addr} {R H : Hp} {v : V} {d : D} (h : PRep K mg L R H v d) (e : isLst d = true) : tyV K "list" v H := by
  cases d with
  | lst ds =>
    obtain ⟨a, xs, rfl, h1, _⟩ := h
    exact .inl ⟨rfl, xs, SqL.of h1⟩
  | _ => cases e
def mCount : D → List D → Option TV
  | .lst ds, [d] => (match flats ds, flatD d with
    | some ys, some y => some ⟨.cl, .int ((ys.countP fun z => eqV z y : Nat) : Int)⟩
    | _, _ => none)
  | _, _ => none
def mIndex : D → List D → Option TV
  | .lst ds, [d] => (match flats ds, flatD d with
    | some ys, some y => (ys.findIdx? fun z => eqV z y).map fun j => ⟨.cl, .int (j : Int)⟩
    | _, _ => none)
  | _, _ => none
section
variable {K : Kw} {mg : Str → Option Value}
theorem bm_count : BM K mg "list" (rCountV K) mCount := by
  intro C R ρ σ H s v dv vs ds tv Q rel pv ps e ok
  unfold mCount at e
  split at e
  · rename_i es d
    split at e
    · rename_i ys y e1 e2
      cases e
      obtain ⟨a, xs, rfl, h1, h2⟩ := pv
      obtain ⟨w, rfl, h3⟩ := ps.one
      obtain ⟨rfl, f1⟩ := flats_rep e1 h2
      have h4 : Rep K mg C.L R w d := by cases d <;> first | exact h3 | cases e2
      obtain ⟨rfl, f2⟩ := flatD_rep e2 h4
      exact ⟨a, xs, w, rfl, rfl, SqL.of h1, f2, f1, OkE.cl ok rel (.int _)⟩
    · cases e
  · cases e
theorem bm_index : BM K mg "list" (rIndex K) mIndex := by
  intro C R ρ σ H s v dv vs ds tv Q rel pv ps e ok
  unfold mIndex at e
  split at e
  · rename_i es d
    split at e
    · rename_i ys y e1 e2
      cases ej : (ys.findIdx? fun z => eqV z y) with
      | none => rw [ej] at e; cases e
      | some j =>
        rw [ej] at e
        cases e
        obtain ⟨a, xs, rfl, h1, h2⟩ := pv
        obtain ⟨w, rfl, h3⟩ := ps.one
        obtain ⟨rfl, f1⟩ := flats_rep e1 h2
        have h4 : Rep K mg C.L R w d := by cases d <;> first | exact h3 | cases e2
        obtain ⟨rfl, f2⟩ := flatD_rep e2 h4
        obtain ⟨hj, hp, hn⟩ := List.findIdx?_eq_some_iff_getElem.mp ej
        refine ⟨a, xs, w, j, xs[j], rfl, rfl, SqL.of h1, f2, f1, List.getElem?_eq_getElem hj, hp, fun m z hm hz => ?_, OkE.cl ok rel (.int _)⟩
        obtain ⟨hm2, em⟩ := List.getElem?_eq_some_iff.mp hz
        have := hn m hm
        rw [em] at this
        simpa using this
    · cases e
  · cases e
end
end UW
namespace UW
open PySem PySem.Spec PyProof.Rows L2

theorem Bas.bare {K : Kw} {mg : Str → Option Value} {C : Cn} {R H : Hp} {s : Sto} (x : Bas K mg C R H s) : Rel K mg C R [] [] H s :=
  ⟨x, rfl, fun i d e => by simp at e, fun i d e => by simp at e, fun i j d e p q => by simp at q⟩
/-! ### raise -/
def sRaise (c : Str) : S := fun _ s => .exc c s
/-- an own class of errors stands at a name -/
structure ExcX (K : PySem.W.Frag) (mg : Str → Option Value) (c : Str) : Prop where
  ok : ∃ C : Addr, mg c = some (.ref C) ∧ PySem.W.excIn K C [.type "ValueError", .type "Exception", .type "BaseException", .type "object"] "ValueError.__new__" = true ∧ PySem.W.keepIn K (.ref C) = true ∧
    PySem.W.subIn K (.ref C) (.type "BaseException") = some true ∧ PySem.W.typeIn K (.ref C) = some (.type "type")
section
variable {X : Cx} {W : WX} {c m : Str} {p p2 pos pos2 : Pos} {j : Nat}
theorem ds_raise (hc : X.calm = true) (tk : L2N.Takes X W) (ex : ExcX X.K X.mg c) (hg : Gl X c) (hdb : (c == ("__debug__" : Str)) = false) : DS X W (.Raise (some (.Call (.Name c p) [.Constant (.str m) j p2] [] pos2)) none pos) (sRaise c) := by
  obtain ⟨C, gC, q, kC, h1, h2⟩ := ex.ok
  exact PS.weak (L2N.ps_raise hc tk (L2N.pmk_own PySem.F.excBase_ValueError q gC kC (raises_own h1 h2) hg hdb)) fun Z σ H ⟨Cn, R, ρ, s, x, h⟩ => h C σ Cn R H gC (.refl _) (L2.Same.refl _) x.bas rfl
end

/-! ### a def that is called in an except suite, with the error that is held -/
structure FnW (P : Program) (w : World) (K : PySem.W.Frag) (mg : Str → Option Value) (base : Heap) (k : Nat) (f : Addr) (fd : FuncData) (ps : List Str) (sp : Addr × Obj → Sp) : Prop where
  len : ∀ p vs H Q Z, sp p vs H Q Z → vs.length = ps.length
  run : ∀ (A : Around) (outer : List Env) (s : Shared) (H : Hp) (args : Args) (us : List Value) (vs : List V) (Q : VK) (Z : XK) (p : Addr × Obj), L2H.RoomH k A → L2H.Hot1 A p → L2H.PinOk outer H s p → Env0 P w K mg base A outer s H →
    BindsTo s fd args (ps.zip us) → Vals vs us → sp p vs H Q Z → codeAny (model P w) A (.call (.ref f) args) (CR (L2N.CX P w) outer P w H s Q Z) s
theorem fnW_of {P : Program} {w : World} {K : PySem.W.Frag} {mg : Str → Option Value} {base : Heap} {k : Nat} {f : Addr} {name qual : Str} {params : Arguments} {body : List Stmt} {scope : Scope} {dV kV doc pm cdv ct oc : Value} {an od : Option Addr}
    {osl : Array (Option Value)} {N ps : List Str} {sp : Addr × Obj → Sp} (lk : K.lookup f = some ⟨oc, od, .func (PySem.W.fnOf name qual params body scope dV kV doc pm an cdv ct), osl⟩) (hcd : PySem.W.codeIn K cdv qual = true) (Sc : FnScope N ps scope)
    (len : ∀ p vs H Q Z, sp p vs H Q Z → vs.length = ps.length)
    (hbody : ∀ (A : Around) (outer : List Env) (s : Shared) (H : Hp) (vs : List V) (Q : VK) (Z : XK) (p : Addr × Obj), L2H.Hot1 A p → L2H.RoomH k (A.deeper (envOfC qual scope s.heap.objs.size f cdv)) → sp p vs H Q Z →
      ∃ t, PSs (L2H.cxH (L2N.CX P w) P w K mg base N qual scope f cdv A outer s H Z p) body t ∧ t { nx := fun _ H' => Q .non H', rt := Q } (L2.start N vs) H) :
    FnW P w K mg base (k + 1) f (PySem.W.fnOf name qual params body scope dV kV doc pm an cdv ct) ps sp := by
  refine ⟨len, fun A outer s H args us vs Q Z p hr hot hpin e0 hb rv hsp => ?_⟩
  have inK : K.In s.heap := e0.mod.kin.keeps fun b o e => (e0.bs b o e).1
  have kinds : ∀ y, y ∈ ps.zip us → scope.names.lookup y.1 = some .local ∨ (scope.names.lookup y.1 = some .cell ∧ ((cellsFrom (s.heap.objs.size + 1) scope.names []).lookup y.1).isSome = true) := by
    rintro ⟨n, v⟩ hy
    exact (Sc.par n (List.of_mem_zip hy).1).imp id fun q => ⟨q, PySem.W.cellsFrom_some _ _ _ (.inl q)⟩
  refine codeAny_call_function hr.depth (inK _ _ lk) rfl Sc.co Sc.gen rfl (PySem.W.codeRec_of inK hcd) (hb _ _ _ _ (wpAny_newFunctionEnv_cells Sc.kind kinds fun env he s1 x => ?_))
  cases he
  refine ⟨(e0.mod.nolimit.keeps fun b o e => (e0.bs b o e).1).keeps x.toInCall.keep, codeAny_func ?_⟩
  obtain ⟨t, ht, hq⟩ := hbody A outer s H vs Q Z p hot (hr.deeper _) hsp
  refine wpAny_mono (ht.run [] s1 (L2.start N vs) H _ (L2H.inv_startH Sc hpin e0 (len _ _ _ _ _ hsp) rv x) hq) (fun fl s' hs => ?_) fun e s' hs => hs
  cases fl with
  | brk => obtain ⟨_, _, _, z⟩ := hs; exact z.elim
  | cont => obtain ⟨_, _, _, z⟩ := hs; exact z.elim
  | ret u => obtain ⟨v, _, H', J, r, z⟩ := hs; exact ⟨v, H', J.os, J.bare, J.base, J.hok, r, z⟩
  | next => obtain ⟨_, H', J, z⟩ := hs; exact ⟨V.non, H', J.os, J.bare, J.base, J.hok, rfl, z⟩

/-- by the class's name and the store: what the def tells of the held error -/
abbrev FnE := Str → Sto → Res TV
/-- its promise: p is the held error -/
def spE (K : Kw) (mg : Str → Option Value) (F : FnE) : Addr × Obj → Sp := fun p vs H Q Z => vs = [.ref p.1] ∧ ∃ c C, mg c = some (.ref C) ∧ p.2.cls = .ref C ∧ p.2.dict = none ∧ (∃ fs, p.2.data = .fields fs) ∧
  ∃ L R s, Bas K mg ⟨L, H, R, L.length⟩ R H s ∧ PostF K mg ⟨L, H, R, L.length⟩ R Q Z (F c s)

/-! ### try: body, except X as n: return g(n) -/
def sTry (i : Nat) (cs : List Str) (body : S) (F : FnE) : S := fun ρ s => match body ρ s with
  | .exc c s1 => if c ∈ cs ∧ i < ρ.length then (match F c s1 with
    | .ok tv s2 => .ok (.rt tv) s2
    | _ => .bad) else .bad
  | r => r
section
variable {X : Cx} {W : WX}
theorem ds_try {x g n : Str} {i : Nat} {body : List Stmt} {fb : S} {np pos pos' gp ep cp rp : Pos} {f : Addr} {fd : FuncData} {k : Nat} {c : Value} {F : FnE} {cs : List Str} {ps : List Str}
    (hs : X.stack = X.env :: X.outer) (hf : X.env.frame = some X.env.locals) (hN : X.N.Nodup) (hi : X.N[i]? = some n) (hln : X.env.scope.names.lookup n = some .local) (hc : Names X x c) (tk : L2N.Takes X W)
    (hb : ∀ (W' : WX) (pn : List (Addr × Obj)) (xe : Value → Shared → Prop), L2N.Takes (X.tr pn xe) W' → PassesOwn (model X.prog X.w) X.A X.env xe → DSs (X.tr pn xe) W' body fb)
    (G : FnW X.prog X.w X.K X.mg X.base k f fd ps (spE (KW X) X.mg F)) (hr : Room k X.A) (hg : Gl X g) (hm : X.mg g = some (.ref f)) (hk : PySem.W.keepIn X.K (.ref f) = true) (hbind : Binds X.K fd ps [])
    (hcs : ∀ y, y ∈ cs → ∀ a, X.mg y = some (.ref a) → PySem.W.exmOne X.K (.ref a) c = some true) (hdb : (g == ("__debug__" : Str)) = false) (hd1 : (n == ("__debug__" : Str)) = false) (hd2 : (n == ("__classdict__" : Str)) = false) :
    DS X W (.Try body [.ExceptHandler (some (.Name x np)) (some n) [.Return (some (.Call (.Name g gp) [.Name n ep] [] cp)) rp] pos'] [] [] pos) (sTry i cs fb F) := by
  have hsu : ∀ (a : Addr) (oe : Obj) (cls : Value) (d : Option Addr) (pn : List (Addr × Obj)), L2N.Zn cls d oe → (∃ vs, oe.data = .fields vs) →
      PSs (X.suite a ((a, oe) :: pn)) [.Return (some (.Call (.Name g gp) [.Name n ep] [] cp)) rp] (fun Z σ H => σ[i]? = some (some (.ref a)) ∧ ∀ oe'', L2N.Zn cls d oe'' → (∃ vs, oe''.data = .fields vs) → spE (KW X) X.mg F (a, oe'') [.ref a] H Z.rt (fun _ _ _ => False)) := by
    intro a oe cls d pn hz hfi
    refine ⟨fun pins s σ H Z J h => ?_⟩
    obtain ⟨hσ, hsp⟩ := h
    have hpe : PE (X.suite a ((a, oe) :: pn)) (.Call (.Name g gp) [.Name n ep] [] cp) (fun σ H Q => σ[i]? = some (some (.ref a)) ∧ spE (KW X) X.mg F (a, oe) [.ref a] H Q (fun _ _ _ => False)) := by
      refine ⟨fun pins s σ H Q J h => ?_⟩
      obtain ⟨hσ, hsp⟩ := h
      refine wpAny_Call_Name_kw (ld_glob (X := X.suite a ((a, oe) :: pn)) J hg hm ?_ hdb)
      have ha : PA (X.suite a ((a, oe) :: pn)) [.Name n ep] (tCons (tVar i) tNil) := pa_cons (pe_var (X := X.suite a ((a, oe) :: pn)) hi (.inl hln) hd1 hd2) pa_nil rfl
      refine PySem.W.callWith_K (h₀ := X.base) J.ok.mod.kin hk (thn (ha.run cp pins s σ H (fun vs H1 => vs = [.ref a] ∧ H1 = H) J ⟨_, hσ, rfl, rfl⟩) fun us s1 ⟨vs, H1, J1, r, ev, eH⟩ => ⟨J1.kIn, ?_⟩) rfl rfl
      subst ev
      rw [eH] at J1
      have hot : L2H.Hot1 (X.suite a ((a, oe) :: pn)).A (a, oe) := by
        obtain ⟨vs, hv⟩ := hfi
        exact ⟨rfl, vs, hv, hz.2.2 vs hv⟩
      have P1 := J1.pin (a, oe) (List.mem_append_left _ List.mem_cons_self)
      have hpin : L2H.PinOk X.stack H s1 (a, oe) := ⟨P1.1, P1.2.1, fun hm => (List.mem_cons.mp (J1.stkSub a hm)).elim P1.2.2.1 P1.2.2.2.1, P1.2.2.2.2⟩
      have hl : us.length = ps.length := by rw [← r.length]; exact G.len _ _ _ _ _ hsp
      have b := hbind s1 us J1.kIn (by rw [List.append_nil]; exact hl)
      rw [List.append_nil] at b
      refine wpAny_call (codeAny_mono (G.run (X.suite a ((a, oe) :: pn)).A X.stack s1 H ⟨us, []⟩ us [.ref a] Q (fun _ _ _ => False) (a, oe) ⟨hr.dp, hr.un⟩ hot hpin J1.env0 b r hsp) fun r s' hq => ?_)
      cases r with
      | error e =>
        obtain ⟨_, _, _, _, _, _, _, _, _, _, _, _, z⟩ := hq
        exact z.elim
      | ok fl =>
        cases fl with
        | ret u => exact J1.after hq
        | next => exact False.elim hq
        | brk => exact False.elim hq
        | cont => exact False.elim hq
    exact (pss_one (ps_ret hpe)).run pins s σ H Z J ⟨hσ, hsp oe hz hfi⟩
  refine PS.weak (L2N.ps_try_as (tb := fun W' => tDS (KW X) X.mg W' fb) hs hf hN hi hln hc tk (fun W' pn xe t p => hb W' pn xe t p) hsu) fun Z σ H ⟨C, R, ρ, s, y, h⟩ => ?_
  refine ⟨C, R, ρ, s, y, ?_⟩
  unfold sTry at h
  cases q : fb ρ s with
  | bad => rw [q] at h; exact h
  | ok o s1 => rw [q] at h; exact h
  | exc cn s1 =>
    rw [q] at h
    intro a σ' C' R' H' e1 e2 e3 e4 e5
    have h : PostS (KW X) X.mg W σ.length C R (OkS (KW X) X.mg σ.length C R Z) (if cn ∈ cs ∧ i < ρ.length then (match F cn s1 with
      | .ok tv s2 => .ok (.rt tv) s2
      | _ => .bad) else .bad) := h
    split at h
    · rename_i hcn
      obtain ⟨hcn, hil⟩ := hcn
      have hil : i < σ'.length := by rw [e5, ← y.len]; exact hil
      refine ⟨true, hcs cn hcn a e1, fun _ ae hae => ⟨List.getElem?_set_self hil, fun oe hz hfi => ⟨rfl, cn, a, e1, hz.1, hz.2.1, hfi, ?_⟩⟩, fun z => nomatch z⟩
      have r0 := e4.bare
      refine ⟨C'.L, R', s1, r0.entry, ?_⟩
      cases ef : F cn s1 with
      | bad => rw [ef] at h; exact h.elim
      | exc c2 s2 => rw [ef] at h; exact h.elim
      | ok tv s2 =>
        rw [ef] at h
        intro v C2 R2 H2 l2 r2 b2 rt2
        obtain ⟨y2, le2⟩ := r0.after b2 l2 r2
        refine h v _ R2 H2 (e2.trans le2) (L2.Same.trans e3 r2) y2.bas ?_
        have vr := rt2.vrep r0 l2
        obtain ⟨t, d⟩ := tv
        cases t with
        | cl => exact vr
        | dy j => exact (show False from rt2).elim
        | fr =>
          obtain ⟨p, e, q1, q2, q3, q4, _⟩ := vr
          exact ⟨p, e, q1, q2, q3, q4⟩
    · exact h.elim
end
end UW
namespace UW
open PySem PySem.Spec PyProof.Rows L2

/-! ### forms of syntax -/
def noStar : Expr → Bool
  | .Starred _ _ => false
  | _ => true
theorem star_cons {e : Expr} {es : List Expr} {env : Env} (h : noStar e = true) : starEach (e :: es) env = (false, eval e env) :: starEach es env := by
  cases e <;> first | rfl | cases h
theorem star_any {es : List Expr} {env : Env} {pos : Pos} (h : es.all noStar = true) : (backTo pos (starEach es env)).any (·.1) = false := by
  induction es with
  | nil => rfl
  | cons e es ih =>
    rw [List.all_cons, Bool.and_eq_true] at h
    rw [star_cons h.1]
    show (false || (backTo pos (starEach es env)).any (·.1)) = false
    rw [ih h.2]
    rfl
theorem star_all {es : List Expr} {env : Env} {pos : Pos} (h : es.all noStar = true) : (backTo pos (starEach es env)).all (fun x => !x.1) = true := by
  induction es with
  | nil => rfl
  | cons e es ih =>
    rw [List.all_cons, Bool.and_eq_true] at h
    rw [star_cons h.1]
    show (true && (backTo pos (starEach es env)).all (fun x => !x.1)) = true
    rw [ih h.2]
    rfl
theorem few {es : List Expr} {env : Env} {pos : Pos} (h : es.all noStar = true) (hl : es.length < 30) :
    ((backTo pos (starEach es env)).all (fun x => !x.1) && (backToKw pos (keywordEach [] env)).all (fun x => x.1.isSome) && decide (es.length + ([] : List Keyword).length + (if ([] : List Keyword).isEmpty then 0 else 1) < 30)) = true := by
  rw [star_all h]
  have e : decide (es.length + ([] : List Keyword).length + (if ([] : List Keyword).isEmpty then 0 else 1) < 30) = true := decide_eq_true hl
  rw [e]
  rfl
def isComp : Expr → Bool
  | .ListComp .. => true
  | .SetComp .. => true
  | .DictComp .. => true
  | _ => false
theorem swaps_no {e : Expr} {t : Option Expr} {l : Nat} {env : Env} (h : isComp e = false) : swapsWith e t l env = pure false := by
  cases e <;> first | rfl | cases h
def plainTest : Expr → Bool
  | .UnaryOp .Not _ _ => false
  | .BoolOp .. => false
  | .IfExp .. => false
  | .Compare .. => false
  | _ => true
theorem isTrue_no {e : Expr} {env : Env} (h : plainTest e = true) (whole : Sem Value) : isTrue e env whole = (do let v ← whole; standAt e.pos; holding [v] (truthy v)) := by
  cases e with
  | UnaryOp op a p => cases op <;> first | rfl | cases h
  | BoolOp _ _ _ => cases h
  | IfExp _ _ _ _ => cases h
  | Compare _ _ _ _ => cases h
  | _ => rfl
def isSlice : Expr → Bool
  | .Slice .. => true
  | _ => false
theorem plainIx_of {b : Expr} (h : isSlice b = false) : PlainIx b := fun o i => by
  cases b <;> first | rfl | cases h
def isSet : Expr → Bool
  | .Set .. => true
  | _ => false
theorem folded_no {e : Expr} {env : Env} (h : isSet e = false) (x : Value) : foldedSetIterable e env x = pure x := by
  cases e <;> first | rfl | cases h
theorem marks_no {e : Expr} {op : CmpOp} (h : isSet e = false) : behindInMarks op e = false := by
  cases e <;> first | rfl | cases h
def isCall : Expr → Bool
  | .Call (.Name _ _) [] [] _ => true
  | _ => false
theorem base_no {o : Expr} {n : Str} {env : Env} (h : isCall o = false) : attributeBase o n env (eval o env) = eval o env := by
  unfold attributeBase
  split
  · cases h
  · rfl
theorem assign_cons {t : Expr} {es : List Expr} {env : Env} (h : noStar t = true) : (assignEach (t :: es) env).map (·.2) = assign t env :: (assignEach es env).map (·.2) := by
  cases t <;> first | rfl | cases h
theorem assign_len {es : List Expr} {env : Env} : (assignEach es env).length = es.length := by
  induction es with
  | nil => rfl
  | cons t es ih =>
    cases t <;> (show (assignEach es env).length + 1 = es.length + 1; rw [ih])
theorem assign_star {es : List Expr} {env : Env} (h : es.all noStar = true) : (assignEach es env).findIdx? (·.1) = none := by
  rw [List.findIdx?_eq_none_iff]
  induction es with
  | nil => intro x hx; cases hx
  | cons t es ih =>
    rw [List.all_cons, Bool.and_eq_true] at h
    intro x hx
    have hm : x = (false, assign t env) ∨ x ∈ assignEach es env := by
      cases t <;> first | exact List.mem_cons.mp hx | cases h.1
    rcases hm with rfl | hm
    · rfl
    · exact ih h.2 x hm
theorem call_other {a : Expr} {args : List Expr} {pos : Pos} {env : Env} (h : (match a with | .Attribute .. => true | _ => false) = false) : eval (.Call a args [] pos) env = (do callWith pos (← eval a env) [] (backTo pos (starEach args env)) (backToKw pos (keywordEach [] env))) := by
  cases a <;> first | rfl | cases h
end UW
namespace UW
open PySem PySem.Spec PyProof.Rows L2

/-! ### t[::-1] of a tuple -/
section
variable {P : Program} {w : World} {A : Around} {E : Value → Shared → Prop} {s : Shared}
theorem applied_rev {sl : Addr} {n : Nat} {u : Tok} {Q : Int × Int × Nat → Shared → Prop} (hs : s.heap.IsSliceOf sl .none .none (.int (-1) u)) (h : Q ((n : Int) - 1, -1, n) s) : wpAny (model P w) A (Builtin.Slice.sliceApplied (.ref sl) (pure (n : Int))) Q E s := by
  obtain ⟨ob, e1, _, e3⟩ := id hs
  unfold Builtin.Slice.sliceApplied Builtin.Slice.sliceFields
  refine wpAny_bind (wpAny_bind (wpAny_field e1 e3 (x := .none) rfl (wpAny_bind (wpAny_field e1 e3 (x := .none) rfl (wpAny_bind (wpAny_field e1 e3 (x := .int (-1) u) rfl (wpAny_pure ?_)))))))
  refine wpAny_bind (HT.slicePart_ (.int (-1) u) ?_)
  show wpAny (model P w) A (if ((-1 : Int) == 0) = true then _ else _) _ _ s
  rw [if_neg (by decide)]
  refine wpAny_bind (HT.slicePart_ .none (wpAny_bind (HT.slicePart_ .none (wpAny_bind (wpAny_pure ?_)))))
  show wpAny (model P w) A (pure ((n : Int) - 1, (-1 : Int), Builtin.Slice.slicePlaces ((n : Int) - 1) (-1) (-1))) _ _ s
  have e : Builtin.Slice.slicePlaces ((n : Int) - 1) (-1) (-1) = n := by
    unfold Builtin.Slice.slicePlaces
    have h1 : ¬ ((-1 : Int) > 0) := by omega
    rw [if_neg h1]
    by_cases h2 : (n : Int) - 1 > -1
    · rw [if_pos h2]
      have : ((n : Int) - 1 - -1 - 1) / (- -1) + 1 = n := by
        rw [show (- -1 : Int) = 1 from rfl, Int.ediv_one]
        omega
      rw [this]
      omega
    · rw [if_neg h2]
      omega
  rw [e]
  exact wpAny_pure h
theorem fm_map {α β : Type} {f : α → Option β} {g : α → β} : ∀ {l : List α}, (∀ x, x ∈ l → f x = some (g x)) → l.filterMap f = l.map g
  | [], _ => rfl
  | x :: l, h => by
    rw [List.filterMap_cons, h x List.mem_cons_self, fm_map fun y hy => h y (List.mem_cons_of_mem _ hy)]
    rfl
theorem pick_rev (xs : Array Value) : ((List.range xs.size).filterMap fun (k : Nat) => xs[((xs.size : Int) - 1 + (k : Int) * -1).toNat]?) = xs.toList.reverse := by
  apply List.ext_getElem?
  intro i
  have e : ((List.range xs.size).filterMap fun (k : Nat) => xs[((xs.size : Int) - 1 + (k : Int) * -1).toNat]?) = (List.range xs.size).map fun (k : Nat) => xs.toList.reverse.getD k default := by
    refine fm_map fun k hk => ?_
    rw [List.mem_range] at hk
    have h1 : ((xs.size : Int) - 1 + (k : Int) * -1).toNat = xs.size - 1 - k := by omega
    rw [h1]
    have h2 : k < xs.toList.reverse.length := by rw [List.length_reverse, Array.length_toList]; exact hk
    have h3 : xs.size - 1 - k < xs.size := by omega
    simp only [List.getD_eq_getElem?_getD, List.getElem?_eq_getElem h2, Option.getD_some, Array.getElem?_eq_getElem h3]
    rw [List.getElem_reverse]
    simp
  rw [e]
  by_cases h : i < xs.size
  · have h2 : i < xs.toList.reverse.length := by rw [List.length_reverse, Array.length_toList]; exact h
    rw [List.getElem?_map, List.getElem?_range h, List.getElem?_eq_getElem h2]
    simp only [Option.map_some, List.getD_eq_getElem?_getD, List.getElem?_eq_getElem h2, Option.getD_some]
  · rw [List.getElem?_eq_none (by rw [List.length_map, List.length_range]; omega), List.getElem?_eq_none (by rw [List.length_reverse, Array.length_toList]; omega)]
theorem get_rev {t sl : Addr} {us : List Value} {u : Tok} {Q : Value → Shared → Prop} (ht : IsTup s.heap t us.toArray) (hs : s.heap.IsSliceOf sl .none .none (.int (-1) u)) (hz : us.length ≤ sizeLine)
    (h : Q (.ref s.heap.objs.size) { s with heap := s.heap.push { cls := .type "tuple", data := .seq us.reverse.toArray } }) : wpAny (model P w) A (getItem (.ref t) (.ref sl)) Q E s := by
  have ok : sizeOk (.seq us.reverse.toArray) := by
    show us.reverse.toArray.size ≤ sizeLine
    rw [List.size_toArray, List.length_reverse]
    exact hz
  obtain ⟨ob, e1, e2, e3⟩ := id hs
  have ts : s.TypeIs (.ref sl) "slice" := ⟨ob, e1, e2⟩
  unfold getItem
  try with_reducible refine wpAny_holding ?_
  first | refine wpAny_bind (wpAny_pure ?_) | skip
  refine wpAny_bind (wpAny_sequenceKey ht.typeIs (by decide) ?_)
  refine wpAny_bind (wpAny_callSpecial?_slot (name := Str.ofString "__getitem__") ht.typeIs slot_tuple_getitem (wpAny_call_entry slot_tuple_getitem ht.typeIs entry_tuple_getitem ?_ (args_tuple_getitem _ _)))
  show wpAny (model P w) _ (Builtin.Tuple.tupleItemsOf (.ref t) >>= _) _ _ s
  refine wpAny_bind (tupleItemsOf_ ht (wpAny_bind (wpAny_typeOf ts ?_)))
  rw [if_pos (by decide)]
  refine wpAny_bind (applied_rev hs ?_)
  have no : ¬ (((us.toArray.size : Int) - 1 == 0 && (-1 : Int) == 1 && us.toArray.size == us.toArray.size) = true) := by
    rw [show ((-1 : Int) == 1) = false from rfl, Bool.and_false, Bool.false_and]
    exact Bool.false_ne_true
  show wpAny (model P w) _ (if ((us.toArray.size : Int) - 1 == 0 && (-1 : Int) == 1 && us.toArray.size == us.toArray.size) = true then _ else _) _ _ s
  rw [if_neg no, pick_rev]
  first
    | exact wpAny_bind (m := Builtin.Tuple.tupleExact _) (wpAny_newObj_type (wpAny_pure ⟨_, rfl, wpAny_pure h⟩) ok)
    | exact wpAny_bind (m := Builtin.Tuple.tupleExact _) (wpAny_newObj_type (wpAny_bind (wpAny_pure (wpAny_pure ⟨_, rfl, wpAny_pure h⟩))) ok)
    | exact wpAny_bind (wpAny_bind (m := Builtin.Tuple.tupleExact _) (wpAny_newObj_type (wpAny_pure (wpAny_pure ⟨_, rfl, wpAny_pure h⟩)) ok))
    | exact wpAny_bind (wpAny_bind (m := Builtin.Tuple.tupleExact _) (wpAny_newObj_type (wpAny_pure ⟨_, rfl, wpAny_pure h⟩) ok))
end
def eRevT (a : E) : E := fun ρ s => (a ρ s).bind fun x s1 => match x.d with
  | .tup ds => .ok ⟨.cl, .tup ds.reverse⟩ s1
  | _ => .bad
theorem RepAll.rev {K : Kw} {mg : Str → Option Value} {L : List Addr} {R : Hp} : ∀ {xs : List V} {ds : List D}, RepAll K mg L R xs ds → RepAll K mg L R xs.reverse ds.reverse
  | _, [], .nil => .nil
  | _, _ :: _, .cons h1 h2 => by
    rw [List.reverse_cons, List.reverse_cons]
    exact (RepAll.rev h2).append (.one h1)
theorem de_revT {X : Cx} {W : WX} {e : Expr} {fe : E} {k : Nat} {p1 p2 p3 pos : Pos} (he : DE X W e fe) : DE X W (.Subscript e (.Slice none none (some (.UnaryOp .USub (.Constant (.int 1) k p1) p2)) p3) pos) (eRevT fe) := by
  refine ⟨fun pins s σ H Q I h => ?_⟩
  obtain ⟨C, R, ρ, st, x, h⟩ := h
  refine Subscript_ (thn (he.run pins s σ H (fun v H1 => ∃ a xs, v = .ref a ∧ SqT X.K H1 a xs ∧ NT H1 xs.reverse Q) I (seqE x h fun tv s1 v C1 R1 H1 l1 r1 x1 v1 h1 => ?_)) fun v s1 ⟨y, H1, I1, r1, a, xs, ex, hx, q⟩ => ?_)
  · have lk := VRep.look x1 v1
    split at h1
    · rename_i ds ed
      rw [ed] at lk
      obtain ⟨a, xs, rfl, e1, e2⟩ := lk.tup
      refine ⟨a, xs, rfl, Same.tupl x1.bas.sub e1, fun p ob hp to => ?_⟩
      obtain ⟨rr, x2⟩ := x1.alloc (o := .frz ob (.tup xs.reverse)) hp
      exact h1 _ C1 _ _ l1 (L2.Same.trans r1 rr) x2 (.tup (TupN.new to) (RepAll.rev (e2.mono (List.prefix_refl _) rr)))
    · exact h1.elim
  · subst ex
    cases r1
    have hst : PO X (some (.UnaryOp .USub (.Constant (.int 1) k p1) p2)) (tPart (tUn (rU fun i => .int (-i)) (tC (.int 1)))) := po_some (pe_un un_neg pe_int)
    refine wpAny_Slice (thn (po_none.run pins s1 σ H1 (fun o H2 => o = none ∧ H2 = H1) I1 ⟨rfl, rfl⟩) fun vl s2 ⟨l, H2, I2, pl, el, e2⟩ => ?_)
    subst el e2
    refine thn (po_none.run pins s2 σ H2 (fun o H3 => o = none ∧ H3 = H2) I2 ⟨rfl, rfl⟩) fun vu s3 ⟨u, H3, I3, pu, eu, e3⟩ => ?_
    subst eu e3
    refine thn (hst.run pins s3 σ H3 (fun o H4 => o = some (-1) ∧ H4 = H3) I3 ⟨1, rfl, -1, rfl, rfl, rfl⟩) fun vs s4 ⟨o, H4, I4, ps, eo, e4⟩ => ?_
    subst eo e4
    cases pl
    cases pu
    cases ps with
    | int i tk =>
      have I5 : Inv X pins σ H4 { s4 with heap := s4.heap.push { cls := .type "slice", data := .fields #[.none, .none, .int (-1) tk] } } := I4.kept (t' := s4.toks) fun b ob q => Heap.get?_push_of_some _ q
      obtain ⟨its, r, ht, hz⟩ := I5.tuple hx
      show wpAny (model X.prog X.w) X.A (subscriptTail e (.Slice none none (some (.UnaryOp .USub (.Constant (.int 1) k p1) p2)) p3) (.ref a) (.ref s4.heap.objs.size)) (EP X pins σ Q) X.xe { s4 with heap := s4.heap.push { cls := .type "slice", data := .fields #[.none, .none, .int (-1) tk] } }
      refine tail_any (ops := [.ref a, .ref s4.heap.objs.size]) ht.typeIs slot_tuple_getitem.lookup ?_ (by with_unfolding_all rfl)
      refine get_rev ht (Heap.IsSliceOf.new _ .none .none (.int (-1) tk)) (by rw [← r.length]; exact hz) ?_
      exact lay_tup I5 r.reverse (by rw [List.length_reverse]; exact hz) q
/-! ### list(range(..)), tuple(range(..)) -/
theorem rep_range {K : Kw} {mg : Str → Option Value} {L : List Addr} {R : Hp} (a b : Int) : RepAll K mg L R (rgV a b) (rangeD a b) := by
  unfold rgV rangeD
  induction List.range (b - a).toNat with
  | nil => exact .nil
  | cons k l ih => exact .cons (.int _) ih
def eLstR (a : E) : E := fun ρ s => (a ρ s).bind fun x s1 => match x.d with
  | .int n => if 0 ≤ n ∧ n ≤ 16777216 then .ok ⟨.fr, .lst (rangeD 0 n)⟩ s1 else .bad
  | _ => .bad
def eTupR (a : E) : E := fun ρ s => (a ρ s).bind fun x s1 => match x.d with
  | .int n => if 0 ≤ n ∧ n ≤ 16777216 then .ok ⟨.cl, .tup (rangeD 0 n)⟩ s1 else .bad
  | _ => .bad
section
variable {X : Cx} {W : WX} {a : Expr} {fa : E} {p q pos pos2 : Pos}
theorem de_lstR (hc : X.calm = true) (hg : Gl X "list") (hm : X.mg "list" = none) (hg2 : Gl X "range") (hm2 : X.mg "range" = none) (ha : DE X W a fa) (hs : noStar a = true) : DE X W (.Call (.Name "list" p) [.Call (.Name "range" q) [a] [] pos2] [] pos) (eLstR fa) := by
  refine PE.weak (pe_listRg hc hg hm (prg_1 hg2 hm2 ha (star_cons hs)) (star_cons rfl)) fun σ H Q ⟨C, R, ρ, s, x, h⟩ => ?_
  refine seqE x h fun tv s1 v C1 R1 H1 l1 r1 x1 v1 h1 => ?_
  have lk := VRep.look x1 v1
  split at h1
  · rename_i n ed
    rw [ed] at lk
    split at h1
    · rename_i hn
      cases lk
      refine ⟨n, rfl, RgOk.of_le (by omega) (by omega) (by omega) (by omega), fun y hy => ?_⟩
      exact h1 _ C1 R1 _ l1 r1 (x1.allocF hy) (x1.fresh hy ⟨_, upd_same, rep_range 0 n⟩)
    · exact h1.elim
  · exact h1.elim
theorem de_tupR (hc : X.calm = true) (hg : Gl X "tuple") (hm : X.mg "tuple" = none) (hg2 : Gl X "range") (hm2 : X.mg "range" = none) (ha : DE X W a fa) (hs : noStar a = true) : DE X W (.Call (.Name "tuple" p) [.Call (.Name "range" q) [a] [] pos2] [] pos) (eTupR fa) := by
  refine PE.weak (pe_tupRN hc hg hm (prg_1 hg2 hm2 ha (star_cons hs)) (star_cons rfl)) fun σ H Q ⟨C, R, ρ, s, x, h⟩ => ?_
  refine seqE x h fun tv s1 v C1 R1 H1 l1 r1 x1 v1 h1 => ?_
  have lk := VRep.look x1 v1
  split at h1
  · rename_i n ed
    rw [ed] at lk
    split at h1
    · rename_i hn
      cases lk
      refine ⟨n, rfl, RgOk.of_le (by omega) (by omega) (by omega) (by omega), fun y ob hy to => ?_⟩
      obtain ⟨rr, x2⟩ := x1.alloc (o := .frz ob (.tup (rgV 0 n))) hy
      exact h1 _ C1 _ _ l1 (L2.Same.trans r1 rr) x2 (.tup (TupN.new to) (rep_range 0 n))
    · exact h1.elim
  · exact h1.elim
end
end UW
/-! Dicts with tuple keys: in, displays, walks. -/
namespace UW
open PySem PySem.Spec PyProof.Rows L2
/-- a dict with tuple keys, or an empty one -/
def RdN (K : Kw) (H : Hp) (a : Addr) (xs : List NV) : Prop := Rd H a (DNO K a xs) ∨ (xs = [] ∧ Rd H a (.dK []))
section
variable {X : Cx} {A : Around} {E : Value → Shared → Prop} {pins : List (Addr × Obj)} {σ : L2.St} {H : Hp} {s : Shared} {a b : Addr} {k : NK} {xs : List NV}
theorem rdn_at (I : Inv X pins σ H s) (e : RdN (KW X) H a xs) : ∃ ys, NVs xs ys ∧ DN0 (KW X) s.heap a ys := by
  rcases e with e | ⟨rfl, e⟩
  · exact objN I e
  · exact dk_dn I e
theorem rdn_dict (I : Inv X pins σ H s) (e : RdN (KW X) H a xs) (hk : XsOk X.K H xs) : ∃ ys, NVs xs ys ∧ s.heap.DictOfH (nestedKind X.prog X.w) a ys ∧ (a == sysModules) = false ∧ ys.length ≤ sizeLine := by
  obtain ⟨ys, h1, h2, h3, o, es, ep, e1, e2, e3, e4, e5⟩ := rdn_at I e
  refine ⟨ys, h1, ⟨o, es, ep, e1, e2, e3, e4, fun y hy => ?_, e5⟩, h2, h3⟩
  obtain ⟨x, hx, z1, z2⟩ := nvs_mem h1 y hy
  have := inv_kat I (hk x hx)
  rw [z1, z2] at this
  exact this
theorem rdn_type (I : Inv X pins σ H s) (e : RdN (KW X) H a xs) : s.TypeIs (.ref a) "dict" ∧ (∀ b, Value.ref a = .ref b → ∃ ob, s.heap.get? b = some ob ∧ ob.dict = none) ∧ (a == sysModules) = false := by
  obtain ⟨ys, h1, h2, h3, o, es, ep, e1, e2, e3, e4, e5⟩ := rdn_at I e
  refine ⟨⟨o, e1, e2.1⟩, fun b q => ?_, h2⟩
  cases q
  exact ⟨o, e1, e2.2.1⟩
end
/-! ### k in d -/
def opInN (neg : Bool) (a b : D) : Option TV := match b with
  | .dct [] [] => (isNK a).map fun _ => ⟨.cl, .bl neg⟩
  | .fdc [] [] => (isNK a).map fun _ => ⟨.cl, .bl neg⟩
  | .dnt ks vs => (isNK a).map fun q => ⟨.cl, .bl (neg ^^ (dgetN ks vs q).isSome)⟩
  | .fdn ks vs => (isNK a).map fun q => ⟨.cl, .bl (neg ^^ (dgetN ks vs q).isSome)⟩
  | _ => none
def rInN (K : Kw) (neg : Bool) : R2 := fun y x H Q => ∃ a b xs k, x = .ref a ∧ y = .ref b ∧ RdN K H a xs ∧ XsOk K H xs ∧ KAt K H b k ∧ Q (.bl (neg ^^ (valN xs k).isSome)) H
theorem op_inN {X : Cx} (hu : X.A.units + 10 < cLine) : OpR X (compareOp .In) (rInN (KW X) false) := by
  intro pins s σ H x y v u Q I rx ry h
  obtain ⟨a, b, xs, k, rfl, rfl, hr, hx, hk, q⟩ := h
  cases rx
  cases ry
  rw [Bool.false_xor] at q
  obtain ⟨ys, h1, h2, h3, h4⟩ := rdn_dict I hr hx
  refine wpAny_in_heap (show X.A.units + 1 + 8 < cLine by omega) (inv_kat I hk) h3 h2 ?_
  have : (atKey ys k).isSome = (valN xs k).isSome := by
    rcases nvs_val h1 k with ⟨z1, z2⟩ | ⟨w, p, z1, z2, z3⟩ <;> rw [z1, z2] <;> rfl
  rw [this]
  exact ⟨.bl _, H, I.tok _, rfl, q⟩
theorem op_notInN {X : Cx} (hu : X.A.units + 10 < cLine) : OpR X (compareOp .NotIn) (rInN (KW X) true) := by
  intro pins s σ H x y v u Q I rx ry h
  obtain ⟨a, b, xs, k, rfl, rfl, hr, hx, hk, q⟩ := h
  cases rx
  cases ry
  rw [Bool.true_xor] at q
  obtain ⟨ys, h1, h2, h3, h4⟩ := rdn_dict I hr hx
  refine notIn_keyed (show X.A.units + 1 + 8 < cLine by omega) (inv_kat I hk) h3 ⟨ys, h2, rfl⟩ ?_
  have : (valueAt (pairsH ys) k).isSome = (valN xs k).isSome := by
    rw [valueAt_pairsH, Option.isSome_map]
    rcases nvs_val h1 k with ⟨z1, z2⟩ | ⟨w, p, z1, z2, z3⟩ <;> rw [z1, z2] <;> rfl
  rw [this]
  exact ⟨.bl _, H, I.tok _, rfl, q⟩
theorem rd_nil {K : Kw} {mg : Str → Option Value} {L : List Addr} {R H : Hp} {v : V} {d : D} (hS : Same R H) (e : dctOf d = some ([], [])) (h : PRep K mg L R H v d) : ∃ a, v = .ref a ∧ Rd H a (.dK []) := by
  obtain ⟨a, kvs, rfl, h1, h2, h3⟩ := dct_at hS e h
  have : kvs = [] := by
    cases kvs with
    | nil => rfl
    | cons _ _ => cases h2
  subst this
  exact ⟨a, rfl, h1⟩
theorem b2_inN {K : Kw} {mg : Str → Option Value} {neg : Bool} : B2 K mg (rInN K neg) (opInN neg) := by
  intro C R ρ σ H s x y dx dy tv Q rel px py e ok
  have emp : dctOf dy = some ([], []) → ((isNK dx).map fun _ => (⟨.cl, .bl neg⟩ : TV)) = some tv → rInN K neg x y H Q := fun hd e => by
    rw [Option.map_eq_some_iff] at e
    obtain ⟨q, ek, rfl⟩ := e
    obtain ⟨b, rfl, kat, _⟩ := kat_of rel.bas.sub ek px
    obtain ⟨a, rfl, h1⟩ := rd_nil rel.bas.sub hd py
    refine ⟨a, b, [], q, rfl, rfl, .inr ⟨rfl, h1⟩, (fun _ z => nomatch z), kat, ?_⟩
    have : (neg ^^ (valN [] q).isSome) = neg := by cases neg <;> rfl
    rw [this]
    exact OkE.cl ok rel (.bl _)
  have ful : ∀ ks vs, dntOf dy = some (ks, vs) → ((isNK dx).map fun q => (⟨.cl, .bl (neg ^^ (dgetN ks vs q).isSome)⟩ : TV)) = some tv → rInN K neg x y H Q := fun ks vs hd e => by
    rw [Option.map_eq_some_iff] at e
    obtain ⟨q, ek, rfl⟩ := e
    obtain ⟨b, rfl, kat, _⟩ := kat_of rel.bas.sub ek px
    obtain ⟨a, xs, rfl, h1, h2, h3, h4⟩ := dnt_at rel.bas.sub hd py
    refine ⟨a, b, xs, q, rfl, rfl, .inl h1, xsOk_of rel.bas.sub h2 h3, kat, ?_⟩
    rw [dgetN_is h2.1 h4]
    exact OkE.cl ok rel (.bl _)
  unfold opInN at e
  split at e
  · exact emp rfl e
  · exact emp rfl e
  · exact ful _ _ rfl e
  · exact ful _ _ rfl e
  · cases e
/-! ### a display of one pair -/
def tDisp1 (K : Kw) (tk tv : TE) : TE := fun σ H Q => ∀ p, H p = none → tk σ (upd H p (.dK [])) fun x H1 => tv σ H1 fun y H2 => H2 p = some (.dK []) ∧
  ((∃ q, x = kV q ∧ Q (.ref p) (upd H2 p (.dK [(q, y)]))) ∨ ∃ b k, x = .ref b ∧ KAt K H2 b k ∧ Q (.ref p) (upd H2 p (DNO K p [(k, b, y)])))
theorem sub_disp {P : Program} {w : World} {A : Around} {E : Value → Shared → Prop} {s : Shared} {pairs : List (Sem Value × Sem Value)} {Q : Addr → Shared → Prop} (hu : A.units + 8 < cLine) (hlen : pairs.length ≤ 15)
    (h : wpAny (model P w) A (evalPairs pairs) (fun vs s₁ =>
      (∃ kvs, Carries (mixKind P w) vs kvs ∧ s₁.heap.DictOf (mixKind P w) s.heap.objs.size [] ∧ ∀ h' tk, h'.DictOf (mixKind P w) s.heap.objs.size (merged [] kvs) → Heap.SameBut s.heap.objs.size s₁.heap h' → Q s.heap.objs.size { s₁ with heap := h', toks := tk }) ∨
      ∃ ps, CarriesH (nestedKind P w) s₁.heap vs ps ∧ s₁.heap.DictOfH (nestedKind P w) s.heap.objs.size [] ∧ ∀ h' tk, h'.DictOfH (nestedKind P w) s.heap.objs.size (storedAllH [] ps) → Heap.SameBut s.heap.objs.size s₁.heap h' → Q s.heap.objs.size { s₁ with heap := h', toks := tk }) E
      { s with heap := s.heap.push { cls := .type "dict", data := .dict #[] } }) : wpAny (model P w) A (subDict pairs) Q E s := by
  unfold subDict
  refine wpAny_bind (wpAny_alloc (wpAny_bind (wpAny_holding ?_)))
  rw [if_pos hlen]
  refine wpAny_bind (wpAny_mono (wpAny_evalPairs_len h) (fun vs s₁ ⟨hvl, h₁⟩ => ?_) fun _ _ e => e)
  rcases h₁ with ⟨kvs, hc, hm, hQ⟩ | ⟨ps, hc, hm, hQ⟩
  · have e := hc.length
    refine wpAny_holding (wpAny_bind (wpAny_storeAll vs kvs [] s₁ _ hc hm (by rw [sizeLine_eq, List.length_nil]; omega) fun h' hm' hs' => wpAny_pure (wpAny_pure (hQ h' _ hm' hs'))))
  · have e := hc.length
    refine wpAny_holding (wpAny_bind (wpAny_storeAllH (show A.units + 8 < cLine from hu) vs ps [] s₁ _ hc hm (by rw [sizeLine_eq, List.length_nil]; omega) fun h' tk hm' hs' => wpAny_pure (wpAny_pure (hQ h' tk hm' hs'))))
section
variable {X : Cx} {W : WX} {a b o : Expr} {fa fb fo : E} {pos : Pos}
theorem pe_disp1 {tk tv : TE} (hu : X.A.units + 8 < cLine) (hk : PE X a tk) (hv : PE X b tv) : PE X (.Dict [some a] [b] pos) (tDisp1 (KW X) tk tv) := by
  refine ⟨fun pins s σ H Q I q => ?_⟩
  have hn := I.hok.fresh (Nat.le_refl s.heap.objs.size)
  have I1 := I.laid (a := s.heap.objs.size) (o := .dK []) (h' := s.heap.push { cls := .type "dict", data := .dict #[] }) (t' := s.toks) (fun _ _ q => Heap.get?_push_of_some _ q) (Nat.le_refl _) (dk_empty s.heap I.big)
  have pp := (pps_cons (pos := pos) hk hv pps_nil).run pins _ σ _ (fun ps H2 => match ps with
    | [(x, y)] => H2 s.heap.objs.size = some (.dK []) ∧
      ((∃ q, x = kV q ∧ Q (.ref s.heap.objs.size) (upd H2 s.heap.objs.size (.dK [(q, y)]))) ∨ ∃ b k, x = .ref b ∧ KAt X.K H2 b k ∧ Q (.ref s.heap.objs.size) (upd H2 s.heap.objs.size (DNO (KW X) s.heap.objs.size [(k, b, y)])))
    | _ => False) I1 (q _ hn)
  have hsh := zip_pairTrees [some a] [b] X.env pos rfl rfl
  rw [arm_eval_Dict, hsh, dictDisplay_pairs _ (by simp [pairTrees]) (by simp [pairTrees])]
  refine wpAny_bind (wpAny_standAt (wpAny_bind (sub_disp (Q := fun d s' => wpAny (model X.prog X.w) X.A (pure (Value.ref d)) _ X.xe s') hu (by simp [pairTrees]) (wpAny_mono pp (fun vs s2 ⟨ps, H2, I2, rel, hq⟩ => ?_) fun _ _ e => e))))
  cases rel with
  | nil => exact hq.elim
  | @cons p1 q1 _ _ r t =>
    cases t with
    | cons _ _ => exact hq.elim
    | nil =>
      obtain ⟨x, y⟩ := p1
      obtain ⟨u, v⟩ := q1
      obtain ⟨e, hq⟩ := hq
      obtain ⟨rx, ry⟩ := r
      obtain ⟨z, hd, vs0, r0, dd⟩ := dk_of I2.hok e
      cases r0
      rcases hq with ⟨q, rfl, hq⟩ | ⟨b, k, rfl, kat, hq⟩
      · refine .inl ⟨[(q, v)], ⟨kV_is rx, rfl, True.intro⟩, dd, fun h' tk dd' hs => wpAny_pure ?_⟩
        have he : ∃ q, h'.get? s.heap.objs.size = some q := let ⟨q, _, _, hq, _⟩ := dd'; ⟨q, hq⟩
        exact ⟨.ref s.heap.objs.size, _, d_write I2 (by rw [e]; exact True.intro) hs he (dk_new (kvs := [(q, y)]) (show 1 ≤ sizeLine by decide) hd (.cons ⟨rfl, ry⟩ .nil) dd'), rfl, hq⟩
      · cases rx
        obtain ⟨ys, n1, n2, n3, o, es, ep, f1, f2, f3, f4, f5⟩ := dk_dn I2 (.inl e)
        cases n1
        refine .inr ⟨[(k, b, v)], ⟨rfl, rfl, inv_kat I2 kat, True.intro⟩, ⟨o, es, ep, f1, f2, f3, f4, (fun _ z => nomatch z), f5⟩, fun h' tk dd' hs => wpAny_pure ?_⟩
        have he : ∃ q, h'.get? s.heap.objs.size = some q := let ⟨q, _, _, hq, _⟩ := dd'; ⟨q, hq⟩
        exact ⟨.ref s.heap.objs.size, _, d_write I2 (by rw [e]; exact True.intro) hs he (dno_new (xs := [(k, b, y)]) (ys := [(k, b, v)]) (show 1 ≤ sizeLine by decide) hd (.cons ⟨rfl, rfl, ry⟩ .nil) rfl rfl dd'), rfl, hq⟩
/-! ### d.setdefault(k, z) -/
def tSdfN (K : Kw) (td ty tx : TE) : TE := fun σ H Q => td σ H fun x H1 => ∃ a, x = .ref a ∧ (IsD H1 a ∨ ∃ xs, RdN K H1 a xs) ∧ ty σ H1 fun y H2 => tx σ H2 fun z H3 =>
  (∃ kvs k, H3 a = some (.dK kvs) ∧ y = kV k ∧ kvs.length < sizeLine ∧ (∀ v, valV kvs k = some v → Q v H3) ∧ (valV kvs k = none → Q z (upd H3 a (.dK (putK kvs k z))))) ∨
  ∃ xs b k, (H3 a = some (DNO K a xs) ∨ (xs = [] ∧ H3 a = some (.dK []))) ∧ XsOk K H3 xs ∧ y = .ref b ∧ KAt K H3 b k ∧ xs.length < sizeLine ∧ (∀ v, valN xs k = some v → Q v H3) ∧ (valN xs k = none → Q z (upd H3 a (DNO K a (putN xs k b z))))
end
section
variable {X : Cx} {A : Around} {E : Value → Shared → Prop} {pins : List (Addr × Obj)} {σ : L2.St} {H : Hp} {s : Shared} {a b : Addr} {k : NK} {xs : List NV}
theorem at_own (e : H a = some (DNO (KW X) a xs) ∨ (xs = [] ∧ H a = some (.dK []))) : RdN (KW X) H a xs ∧ Mut (H a) := by
  rcases e with e | ⟨e1, e⟩
  · exact ⟨.inl (.inl e), by rw [e]; exact True.intro⟩
  · exact ⟨.inr ⟨e1, .inl e⟩, by rw [e]; exact True.intro⟩
theorem own_put {v : V} {r : Value} {ys : List (NK × Addr × Value)} {h' : Heap} {tk : Nat} (I : Inv X pins σ H s) (mu : Mut (H a)) (h1 : NVs xs ys) (h3 : (a == sysModules) = false) (rv : RelV v r) (hl : xs.length < sizeLine) (dd : h'.DictOfH (nestedKind X.prog X.w) a (storedH ys k b r)) (hs : Heap.SameBut a s.heap h') :
    Inv X pins σ (upd H a (DNO (KW X) a (putN xs k b v))) { s with heap := h', toks := tk } := by
  have he : ∃ q, h'.get? a = some q := let ⟨q, _, _, hq, _⟩ := dd; ⟨q, hq⟩
  have hput := nvs_put h1 (k := k) (a := b) rv
  have hlen : (storedH ys k b r).length ≤ sizeLine := by
    rw [← nvs_len hput]
    have := putN_len xs k b v
    omega
  exact d_write I mu hs he (dno_new hlen h3 hput rfl rfl dd)
theorem n_sdf2 {v : V} {r : Value} {Q : VK} (hu : A.units + 10 < cLine) (I : Inv X pins σ H s) (e : H a = some (DNO (KW X) a xs) ∨ (xs = [] ∧ H a = some (.dK []))) (hx : XsOk X.K H xs) (hk : KAt X.K H b k) (rv : RelV v r) (hl : xs.length < sizeLine)
    (q1 : ∀ w, valN xs k = some w → Q w H) (q2 : valN xs k = none → Q v (upd H a (DNO (KW X) a (putN xs k b v)))) : wpAny (model X.prog X.w) A (call (.builtin "dict.setdefault") [.ref a, .ref b, r]) (EP X pins σ Q) E s := by
  obtain ⟨rd, mu⟩ := at_own e
  obtain ⟨ys, h1, h2, h3, h4⟩ := rdn_dict I rd hx
  refine call_setdefault_heap (hsz := h4) (show A.units + 1 + 8 < cLine by omega) (inv_kat I hk) h3 h2 (fun p hp => ?_) fun hn h' dd hs => ?_
  · rcases nvs_val h1 k with ⟨_, z⟩ | ⟨w, p', z1, z2, z3⟩
    · rw [hp] at z; cases z
    · rw [hp] at z2
      cases z2
      exact ⟨w, H, I.tok _, z3, q1 w z1⟩
  · rcases nvs_val h1 k with ⟨z, _⟩ | ⟨w, p', z1, z2, z3⟩
    · exact ⟨v, _, own_put I mu h1 h3 rv hl dd hs, rv, q2 z⟩
    · rw [hn] at z2; cases z2
theorem n_put2 {v : V} {r : Value} {Q : Unit → Shared → Prop} (hu : A.units + 10 < cLine) (I : Inv X pins σ H s) (e : H a = some (DNO (KW X) a xs) ∨ (xs = [] ∧ H a = some (.dK []))) (hx : XsOk X.K H xs) (hk : KAt X.K H b k) (rv : RelV v r) (hl : xs.length < sizeLine)
    (h : ∀ s', Inv X pins σ (upd H a (DNO (KW X) a (putN xs k b v))) s' → Q () s') : wpAny (model X.prog X.w) A (setItem (.ref a) (.ref b) r) Q E s := by
  obtain ⟨rd, mu⟩ := at_own e
  obtain ⟨ys, h1, h2, h3, h4⟩ := rdn_dict I rd hx
  exact wpAny_setItem_heap (hsz := h4) (show A.units + 1 + 8 < cLine by omega) (inv_kat I hk) h2 fun h' dd hs => h _ (own_put I mu h1 h3 rv hl dd hs)
end
/-! ### lists of the keys, of the values -/
section
variable {prog : Program} {w : World} {d r : Addr} {es : Array DictEntry} {ep : Nat}
theorem raw_lt {h : Heap} (x : h.DictRaw d es ep) : d < h.objs.size := let ⟨_, ho, _⟩ := x; Heap.lt_size ho
theorem kdlR_dict (lo : (d == sysModules) = false) : PySem.W.KdlSrc prog w "dict" d d es.size (fun i v => ∃ hi : i < es.size, v = es[i].key) (fun h => h.DictRaw d es ep) where
  type := fun _ x => x.typeIs
  there := fun _ x => ⟨raw_lt x, raw_lt x⟩
  keep := fun _ _ x hk => x.at fun o e => hk d (.inl rfl) o e
  notList := by decide
  notTuple := by decide
  hint := fun _ _ _ _ x hq => PySem.W.kdl_hint_dict x.typeIs hq
  iter := fun _ _ hh x => ⟨_, _, (fun _ _ hq => wpAny_pyIter_dict_raw lo x hq), Walks.rawKeys hh _ d (Nat.ne_of_lt (raw_lt x)) es ep, ⟨⟨_, Heap.get?_push_size _ rfl, rfl, rfl⟩, x.at fun o e => Heap.get?_push_of_some _ e⟩⟩
theorem kdlR_values : PySem.W.KdlSrc prog w "dict_values" r d es.size (fun i v => ∃ hi : i < es.size, v = es[i].val) (fun h => h.IsValuesView r d ∧ h.DictRaw d es ep) where
  type := fun _ x => x.1.typeIs
  there := fun _ x => ⟨let ⟨_, ho, _⟩ := x.1; Heap.lt_size ho, raw_lt x.2⟩
  keep := fun _ _ x hk => ⟨let ⟨o, ho, y⟩ := x.1; ⟨o, hk r (.inl rfl) o ho, y⟩, x.2.at fun o e => hk d (.inr rfl) o e⟩
  notList := by decide
  notTuple := by decide
  hint := fun _ _ _ _ x hq => PySem.W.kdl_hint_values x.1.typeIs hq
  iter := fun _ _ hh x => ⟨_, _, (fun _ _ hq => wpAny_pyIter_values_raw x.1 x.2 hq), Walks.rawValues hh _ d (Nat.ne_of_lt (raw_lt x.2)) es ep, ⟨⟨_, Heap.get?_push_size _ rfl, rfl, rfl⟩, x.2.at fun o e => Heap.get?_push_of_some _ e⟩⟩
end
section
variable {X : Cx} {pins : List (Addr × Obj)} {σ : L2.St} {H : Hp} {s : Shared} {a : Addr} {xs : List NV}
theorem rdn_raw (I : Inv X pins σ H s) (e : Rd H a (DNO (KW X) a xs)) : (a == sysModules) = false ∧ ∃ es ep, s.heap.DictRaw a es ep ∧ es.size = xs.length ∧ es.size ≤ sizeLine ∧
    (∀ us : List Value, us.length = es.size → (∀ (i : Nat) u, us[i]? = some u → ∃ hi : i < es.size, u = es[i].val) → Vals (xs.map (·.2.2)) us) ∧
    (∀ us : List Value, us.length = es.size → (∀ (i : Nat) u, us[i]? = some u → ∃ hi : i < es.size, u = es[i].key) → Vals (xs.map fun p => V.ref p.2.1) us) := by
  obtain ⟨ys, r, h2, h3, o, es, ep, e1, e2, e3, e4, e5⟩ := objN I e
  have hsz : es.size = xs.length := by rw [← Array.length_toList, e4, List.length_map, nvs_len r]
  have hsz2 : es.size = ys.length := by rw [hsz, nvs_len r]
  have ent : ∀ (i : Nat) (hi : i < es.size), ∃ y, ys[i]? = some y ∧ es[i].key = .ref y.2.1 ∧ es[i].val = y.2.2 := fun i hi => by
    have hy : i < ys.length := by omega
    have q := entry_at e4 i
    rw [List.getElem?_eq_getElem hy, Array.getElem?_eq_getElem hi] at q
    have q := Option.some.inj q
    exact ⟨ys[i], List.getElem?_eq_getElem hy, by rw [q]; rfl, by rw [q]; rfl⟩
  refine ⟨h2, es, ep, ⟨o, e1, e2, e3⟩, hsz, by omega, fun us hl hu => ?_, fun us hl hu => ?_⟩
  · have eu : us = ys.map (·.2.2) := by
      apply List.ext_getElem?
      intro i
      rw [List.getElem?_map]
      cases q : us[i]? with
      | none =>
        have : ys.length ≤ i := by have := List.getElem?_eq_none_iff.mp q; omega
        rw [List.getElem?_eq_none this]; rfl
      | some u =>
        obtain ⟨hi, eu⟩ := hu i u q
        obtain ⟨y, z1, _, z3⟩ := ent i hi
        rw [z1, eu, z3]; rfl
    rw [eu]
    clear eu hu hl ent e4 hsz hsz2 h3 e5 e
    induction r with
    | nil => exact .nil
    | cons h _ ih => exact .cons h.2.2 ih
  · have eu : us = ys.map (fun y => Value.ref y.2.1) := by
      apply List.ext_getElem?
      intro i
      rw [List.getElem?_map]
      cases q : us[i]? with
      | none =>
        have : ys.length ≤ i := by have := List.getElem?_eq_none_iff.mp q; omega
        rw [List.getElem?_eq_none this]; rfl
      | some u =>
        obtain ⟨hi, eu⟩ := hu i u q
        obtain ⟨y, z1, z2, _⟩ := ent i hi
        rw [z1, eu, z2]; rfl
    rw [eu]
    clear eu hu hl ent e4 hsz hsz2 h3 e5 e
    induction r with
    | nil => exact .nil
    | cons h _ ih => exact .cons (by show Value.ref _ = Value.ref _; rw [h.2.1]) ih
end
end UW
namespace UW
open PySem PySem.Spec PyProof.Rows L2

/-! ### k in d -/
def opInD (neg : Bool) (a b : D) : Option TV := match dctOf b with
  | some (ks, vs) => (keyD a).map fun q => ⟨.cl, .bl (neg ^^ (dget ks vs q).isSome)⟩
  | none => none
def rInD (neg : Bool) : R2 := fun y x H Q => ∃ a o, x = .ref a ∧ DGet H a y o ∧ Q (.bl (neg ^^ o.isSome)) H
theorem op_inDk {X : Cx} (hu : X.A.units + 1 < cLine) : OpR X (compareOp .In) (rInD false) := by
  intro pins s σ H x y v u Q J rx ry h
  obtain ⟨a, o, rfl, g, q⟩ := h
  cases ry
  rw [Bool.false_xor] at q
  exact d_in hu J g rx fun s' J' => ⟨.bl _, H, J', rfl, q⟩
theorem op_notInDk {X : Cx} (hu : X.A.units + 1 < cLine) : OpR X (compareOp .NotIn) (rInD true) := by
  intro pins s σ H x y v u Q J rx ry h
  obtain ⟨a, o, rfl, g, q⟩ := h
  cases ry
  rw [Bool.true_xor] at q
  exact d_notIn hu J g rx fun s' J' => ⟨.bl _, H, J', rfl, q⟩
theorem b2_inD {K : Kw} {mg : Str → Option Value} {neg : Bool} : B2 K mg (rInD neg) (opInD neg) := by
  intro C R ρ σ H s x y dx dy tv Q rel px py e ok
  unfold opInD at e
  split at e
  · rename_i ks vs hd
    obtain ⟨a, kvs, rfl, h1, rfl, h2⟩ := dct_at rel.bas.sub hd py
    cases ek : keyD dx with
    | none => rw [ek] at e; cases e
    | some q =>
      rw [ek] at e
      cases e
      refine ⟨a, _, rfl, .inl ⟨kvs, q, h1, key_val ek px, rfl⟩, ?_⟩
      rw [dget_is h2]
      exact OkE.cl ok rel (.bl _)
  · cases e

/-! ### displays -/
def eDNew : E := fun _ s => .ok ⟨.fr, .dct [] []⟩ s
def dispD (x : TV) (y : TV) (s : Sto) : Res TV := match y.keep with
  | ⟨.cl, d⟩ => (match keyD x.d with
    | some q => .ok ⟨.fr, .dct [kD q] [d]⟩ s
    | none => (match isNK x.d with
      | some _ => .ok ⟨.fr, .dnt [x.d] [d]⟩ s
      | none => .bad))
  | _ => .bad
def eDisp (a b : E) : E := fun ρ s => (a ρ s).nox.bind fun x s1 => (b ρ s1).nox.bind fun y s2 => dispD x y s2
section
variable {X : Cx} {W : WX} {a b o : Expr} {fa fb fo : E} {pos : Pos}
theorem de_dnew : DE X W (.Dict [] [] pos) eDNew := PE.weak pe_dnewK fun σ H Q ⟨C, R, ρ, s, x, h⟩ p hp =>
  h _ C R _ (.refl C) (L2.Same.refl R) (x.allocF hp) (x.fresh (d := .dct [] []) hp ⟨[], upd_same, rfl, .nil⟩)
theorem de_disp (hu : X.A.units + 8 < cLine) (ha : DE X W a fa) (hb : DE X W b fb) : DE X W (.Dict [some a] [b] pos) (eDisp fa fb) :=
  PE.weak (pe_disp1 hu ha hb) fun σ H Q ⟨C, R, ρ, s, x, h⟩ p hp => by
    have al : Alone C R ρ σ p := ⟨same_none x.bas.sub hp, x.bas.freeL hp, x.bas.free0 hp, fun i d e e2 => by
      obtain ⟨p', a1, a2, _⟩ := x.own i d e
      rw [e2] at a1
      cases a1
      obtain ⟨o, ho⟩ := a2.some
      rw [hp] at ho
      cases ho⟩
    have xg := (x.allocF (o := .dK []) hp).guard al upd_same
    refine ⟨_, R, ρ, s, xg, ?_⟩
    unfold eDisp at h
    cases ea : fa ρ s with
    | exc c s1 => rw [ea] at h; exact (show False from h).elim
    | bad => rw [ea] at h; exact h
    | ok tx s1 =>
      rw [ea] at h
      intro v C1 R1 H1 l1 r1 x1 v1
      obtain ⟨R1', rk, x1', v1'⟩ := x1.kept v1
      refine ⟨C1, R1', ρ, s1, x1', ?_⟩
      have h : PostR (KW X) X.mg W σ C R (OkE (KW X) X.mg ρ σ C R Q) ((fb ρ s1).nox.bind fun y s2 => dispD tx y s2) := h
      cases eb : fb ρ s1 with
      | exc c s2 => rw [eb] at h; exact (show False from h).elim
      | bad => rw [eb] at h; exact h
      | ok ty s2 =>
        rw [eb] at h
        intro w C2 R2 H2 l2 r2 x2 v2
        obtain ⟨R3, r3, x3, v3⟩ := x2.kept v2
        obtain ⟨g1, g2, g3, g4⟩ := x3.guarded (l1.trans l2) al x.bas.r0 x.bas.n0
        refine ⟨g1, ?_⟩
        have h : PostR (KW X) X.mg W σ C R (OkE (KW X) X.mg ρ σ C R Q) (dispD tx ty s2) := h
        have vx : VRep (KW X) X.mg C2 R3 ρ σ H2 v tx.keep := v1'.mono l2 (L2.Same.trans r2 r3) tx.keep_nf
        have lk := VRep.look x3 vx
        rw [TV.keep_d] at lk
        have rr := L2.Same.trans r1 (L2.Same.trans rk (L2.Same.trans r2 r3))
        have wr : ∀ {o : HO} {d' : D}, Top (KW X) X.mg (Cn.mk C2.L C.H0 C.R0 C.n0).L R3 (upd H2 p o) p d' → True := fun _ => trivial
        unfold dispD at h
        split at h
        · rename_i d ed
          rw [ed] at v3
          have v3 : Rep (KW X) X.mg C2.L R3 w d := v3
          split at h
          · rename_i q ek
            have ev := key_val ek lk
            refine .inl ⟨q, ev, ?_⟩
            refine h (.ref p) _ R3 _ g3 rr (g2.writeAlone g4 (fun z => by rw [g1]; exact fun e => nomatch e)) ?_
            exact ⟨p, rfl, ⟨[(q, w)], upd_same, rfl, .one v3⟩, g4.r, g4.l, g4.h0, g4.own⟩
          · split at h
            · rename_i q eq
              obtain ⟨b, rfl, kat, rb⟩ := kat_of x3.bas.sub eq lk
              obtain ⟨n1, n2, _⟩ := isNK_is eq
              refine .inr ⟨b, q, rfl, kat, ?_⟩
              refine h (.ref p) _ R3 _ g3 rr (g2.writeAlone g4 (fun z => by rw [g1]; exact fun e => nomatch e)) ?_
              refine ⟨p, rfl, ⟨[(q, b, w)], upd_same, ⟨by rw [List.map_cons, n1]; rfl, fun r hr => ?_⟩, .one rb, .one v3⟩, g4.r, g4.l, g4.h0, g4.own⟩
              rw [List.mem_singleton.mp hr]
              exact n2
            · exact h.elim
        · exact h.elim

/-! ### d.get(k, z) -/
def eDGet (fo fa fb : E) : E := fun ρ s => (fo ρ s).bind fun x s1 => if (dctOf x.d).isSome = true then (fa ρ s1).bind fun y s2 => (fb ρ s2).bind fun z s3 => (match dctOf x.d, keyD y.d, z.keep with
  | some kv, some q, ⟨.cl, dz⟩ => .ok ⟨.cl, (dget kv.1 kv.2 q).getD dz⟩ s3
  | _, _, _ => .bad) else .bad
theorem de_dget (hu : X.A.units + 1 < cLine) {apos : Pos} (ho : DE X W o fo) (ha : DE X W a fa) (hb : DE X W b fb) (m : M2 X o "get" apos a b pos) : DE X W (.Call (.Attribute o "get" apos) [a, b] [] pos) (eDGet fo fa fb) :=
  PE.weak (pe_dget2 hu ho ha hb m) fun σ H Q ⟨C, R, ρ, s, x, h⟩ => seqE x h fun tv s1 v C1 R1 H1 l1 r1 x1 v1 h1 => by
    split at h1
    · rename_i hsome
      obtain ⟨kv, hkv⟩ := Option.isSome_iff_exists.mp hsome
      obtain ⟨R1', rk, x1', v1'⟩ := x1.kept v1
      have lk := VRep.look x1' v1'
      rw [TV.keep_d] at lk
      obtain ⟨p, kvs, rfl, hr, _, _⟩ := dct_at x1'.bas.sub hkv lk
      refine ⟨p, rfl, .inl ⟨kvs, hr⟩, ?_⟩
      have rr1 := L2.Same.trans r1 rk
      refine seqE x1' (PostR.mono l1 rr1 (fun _ _ z => z) h1) fun tw s2 w C2 R2 H2 l2 r2 x2 v2 h2 => ?_
      refine seqE x2 (PostR.mono l2 r2 (fun _ _ z => z) h2) fun tz s3 z C3 R3 H3 l3 r3 x3 v3 h3 => ?_
      obtain ⟨R4, rz, x4, v4⟩ := x3.kept v3
      have rr := L2.Same.trans r2 (L2.Same.trans r3 rz)
      have v5 : VRep (KW X) X.mg C3 R4 ρ σ H3 (.ref p) tv.keep := v1'.mono (l2.trans l3) rr tv.keep_nf
      have lk5 := VRep.look x4 v5
      rw [TV.keep_d] at lk5
      obtain ⟨p', kvs', ep, hr', eks, ra⟩ := dct_at x4.bas.sub hkv lk5
      cases ep
      split at h3
      · rename_i kv' q dz e1 e2 e3
        rw [hkv] at e1
        cases e1
        have ey := key_val e2 (VRep.look x2 v2)
        rw [e3] at v4
        have v4 : Rep (KW X) X.mg C3.L R4 z dz := v4
        refine ⟨_, .inl ⟨kvs', q, hr', ey, rfl⟩, ?_⟩
        have fin : ∀ {u : V}, Rep (KW X) X.mg C3.L R4 u ((dget kv.1 kv.2 q).getD dz) → Q u H3 := fun {u} ru => h3 _ C3 R4 H3 (l1.trans (l2.trans l3)) (L2.Same.trans rr1 rr) x4 ru
        obtain ⟨ks, vs⟩ := kv
        have eks : ks = kds kvs' := eks
        subst eks
        rcases dget_rep q ra with ⟨z1, z2⟩ | ⟨u, d, z1, z2, z3⟩
        · rw [z1]
          refine fin ?_
          show Rep _ _ _ _ _ ((dget (kds kvs') vs q).getD dz)
          rw [z2]
          exact v4
        · rw [z1]
          refine fin ?_
          show Rep _ _ _ _ _ ((dget (kds kvs') vs q).getD dz)
          rw [z2]
          exact z3
      · exact h3.elim
    · exact h1.elim

/-! ### list(d.values()) -/
def tLVals (K : Kw) (td : TE) : TE := fun σ H Q => td σ H fun x H1 => (∃ a kvs, x = V.ref a ∧ Rd H1 a (.dK kvs) ∧ ∀ p, H1 p = none → Q (.ref p) (upd H1 p (.lst (kvs.map (·.2))))) ∨
  ∃ a xs, x = V.ref a ∧ Rd H1 a (DNO K a xs) ∧ ∀ p, H1 p = none → Q (.ref p) (upd H1 p (.lst (xs.map (·.2.2))))
theorem kv_vals : ∀ {kvs : List (Key × V)} {vs : List (Key × Value)}, KV kvs vs → Vals (kvs.map (·.2)) (vs.map (·.2))
  | _, _, .nil => .nil
  | _, _, .cons h t => .cons h.2 (kv_vals t)
theorem pe_lvals {td : TE} {p apos mpos : Pos} (hc : X.calm = true) (hg : Gl X "list") (hm : X.mg "list" = none) (ho : PE X o td) (hbase : attributeBase o "values" X.env (eval o X.env) = eval o X.env) (hline : (apos.endLine == mpos.line) = true) :
    PE X (.Call (.Name "list" p) [.Call (.Attribute o "values" apos) [] [] mpos] [] pos) (tLVals (KW X) td) := by
  have na : starEach [Expr.Call (.Attribute o "values" apos) [] [] mpos] X.env = (false, eval (Expr.Call (.Attribute o "values" apos) [] [] mpos) X.env) :: starEach [] X.env := rfl
  refine ⟨fun pins s σ H Q I h => ?_⟩
  refine Call_ (ld_blt I hg hm PyProof.Rows.boot_list (PyProof.Rows.callWith_type1 (args_cons ?_ na) na))
  refine wpAny_Call_method0_late hbase hline (thn (ho.run pins s σ H _ I h) fun v s1 ⟨x, H1, I1, r1, hq⟩ => ?_)
  rcases hq with ⟨a, kvs, ex, ha, q⟩ | ⟨a, xs, ex, ha, q⟩
  rotate_left
  · subst ex
    cases r1
    obtain ⟨hsys, es, ep, raw, hsz, hle, hv, _⟩ := rdn_raw I1 ha
    obtain ⟨ob, hob, hex, hdt⟩ := id raw
    refine ⟨"dict", "dict.values", F.plainAttrs_dict, F.slot_dict_values, F.type_dict_values, ⟨ob, hob, hex.1⟩, fun b e => ?_, Calls.callWith_builtin rfl (PySem.evalArgs_none ?_)⟩
    · cases e
      exact ⟨ob, hob, hex.2.1⟩
    refine call_meetsIn F.slot_dict_values ⟨ob, hob, hex.1⟩ F.entry_dict_values (F.args_dict_values_1 _) (meets_dict_values_raw a hsys) ⟨⟨es, ep, raw⟩, args_nil ?_⟩
    have k1 : ∀ b u, s1.heap.get? b = some u → (s1.heap.push { cls := .type "dict_values", data := .fields #[.ref a] }).get? b = some u := fun b u e => Heap.get?_push_of_some _ e
    refine PySem.W.kdl_call (s := { s1 with heap := s1.heap.push { cls := .type "dict_values", data := .fields #[.ref a] } }) (kdlR_values (r := s1.heap.objs.size) (d := a) (es := es) (ep := ep)) (I1.ok.hd hc) ⟨⟨_, Heap.get?_push_size _ rfl, rfl, rfl⟩, raw.at fun o e => k1 _ o e⟩ hle fun h' tk acc c hk hS hacc => ?_
    have hlt : s1.heap.objs.size ≤ (s1.heap.push { cls := .type "dict_values", data := .fields #[.ref a] }).objs.size := by rw [Heap.size_push]; omega
    have vv := hv acc.toList (by rw [Array.length_toList]; exact hacc.1) fun i u e => hacc.2 i u (by rw [← Array.getElem?_toList]; exact e)
    exact ⟨.ref _, _, I1.laid (t' := tk) (o := .lst (xs.map (·.2.2))) (fun b u e => hk b u (k1 b u e)) hlt ⟨by rw [List.length_map]; omega, acc.toList, c, vv, by rw [Array.toArray_toList]; exact hS⟩, rfl, q _ (I1.hok.fresh hlt)⟩
  subst ex
  cases r1
  obtain ⟨hz, hsys, vs, rel, dof⟩ := dk_rd I1.hok ha
  obtain ⟨ep, dat⟩ := dof.dictAt
  obtain ⟨ob, es, hob, hex, _⟩ := id dat
  refine ⟨"dict", "dict.values", F.plainAttrs_dict, F.slot_dict_values, F.type_dict_values, ⟨ob, hob, hex.1⟩, fun b e => ?_, Calls.callWith_builtin rfl (PySem.evalArgs_none ?_)⟩
  · cases e
    exact ⟨ob, hob, hex.2.1⟩
  refine call_meetsIn F.slot_dict_values ⟨ob, hob, hex.1⟩ F.entry_dict_values (F.args_dict_values_1 _) (meets_dict_values (mixKind X.prog X.w) a hsys) ⟨⟨vs, dof⟩, args_nil ?_⟩
  have k1 : ∀ b u, s1.heap.get? b = some u → (s1.heap.push { cls := .type "dict_values", data := .fields #[.ref a] }).get? b = some u := fun b u e => Heap.get?_push_of_some _ e
  have hl : kvs.length = vs.length := Paired.length rel
  refine PySem.W.kdl_call (s := { s1 with heap := s1.heap.push { cls := .type "dict_values", data := .fields #[.ref a] } }) (PySem.W.kdl_values (knd := mixKind X.prog X.w) (r := s1.heap.objs.size) (d := a) (kvs := vs) (ep := ep)) (I1.ok.hd hc) ⟨⟨_, Heap.get?_push_size _ rfl, rfl, rfl⟩, dat.keep k1⟩ (by rw [← hl]; exact hz) fun h' tk acc c hk hS hacc => ?_
  have eacc : acc.toList = vs.map (·.2) := PySem.W.kdl_vals_eq acc.toList (by rw [Array.length_toList]; exact hacc.1) fun j u e => hacc.2 j u (by rw [← Array.getElem?_toList]; exact e)
  have hlt : s1.heap.objs.size ≤ (s1.heap.push { cls := .type "dict_values", data := .fields #[.ref a] }).objs.size := by rw [Heap.size_push]; omega
  refine ⟨.ref _, _, I1.laid (t' := tk) (o := .lst (kvs.map (·.2))) (fun b u e => hk b u (k1 b u e)) hlt ⟨by rw [List.length_map]; exact hz, acc.toList, c, by rw [eacc]; exact kv_vals rel, by rw [Array.toArray_toList]; exact hS⟩, rfl, q _ (I1.hok.fresh hlt)⟩
def dicOf (d : D) : Option (List D × List D) := match dctOf d with
  | some kv => some kv
  | none => dntOf d
def eLVals (fo : E) : E := fun ρ s => (fo ρ s).bind fun x s1 => match dicOf x.d with
  | some kv => .ok ⟨.fr, .lst kv.2⟩ s1
  | none => .bad
theorem de_lvals {p apos mpos : Pos} (hc : X.calm = true) (hg : Gl X "list") (hm : X.mg "list" = none) (ho : DE X W o fo) (hbase : attributeBase o "values" X.env (eval o X.env) = eval o X.env) (hline : (apos.endLine == mpos.line) = true) :
    DE X W (.Call (.Name "list" p) [.Call (.Attribute o "values" apos) [] [] mpos] [] pos) (eLVals fo) := PE.weak (pe_lvals hc hg hm ho hbase hline) fun σ H Q ⟨C, R, ρ, s, x, h⟩ => seqE x h fun tv s1 v C1 R1 H1 l1 r1 x1 v1 h1 => by
  split at h1
  · rename_i kv ed
    obtain ⟨ks, vs⟩ := kv
    unfold dicOf at ed
    split at ed
    · rename_i kv' ed'
      cases ed
      obtain ⟨a, kvs, rfl, hr, _, ra⟩ := dct_at x1.bas.sub ed' (VRep.look x1 v1)
      exact .inl ⟨a, kvs, rfl, hr, fun p hp => h1 _ C1 R1 _ l1 r1 (x1.allocF hp) (x1.fresh hp ⟨_, upd_same, ra⟩)⟩
    · obtain ⟨a, xs, rfl, hr, _, _, ra⟩ := dnt_at x1.bas.sub ed (VRep.look x1 v1)
      exact .inr ⟨a, xs, rfl, hr, fun p hp => h1 _ C1 R1 _ l1 r1 (x1.allocF hp) (x1.fresh hp ⟨_, upd_same, ra⟩)⟩
  · exact h1.elim
/-! ### list(d) -/
theorem keys_vals {P : Program} {w : World} : ∀ {kvs : List (Key × V)} {vs : List (Key × Value)}, KV kvs vs → ∀ us : List Value, us.length = kvs.length → (∀ (j : Nat) u, us[j]? = some u → ∃ k y, vs[j]? = some (k, y) ∧ (mixKind P w).is k u = true) → Vals (kvs.map fun q => kV q.1) us
  | _, _, .nil, us, hlen, _ => by
    cases us with
    | nil => exact .nil
    | cons _ _ => cases hlen
  | _, _, .cons (a := p0) hpq t, us, hlen, hat => by
    cases us with
    | nil => cases hlen
    | cons u us =>
      obtain ⟨k, y, e1, e2⟩ := hat 0 u rfl
      cases e1
      have e3 : p0.1 = k := hpq.1
      refine .cons ?_ (keys_vals t us (by simpa using hlen) fun j u' e => hat (j + 1) u' e)
      show RelV (kV p0.1) u
      rw [e3]
      exact relV_key (show keyIs k u = true from e2)
theorem pe_lkeys {td : TE} {p : Pos} (hc : X.calm = true) (hg : Gl X "list") (hm : X.mg "list" = none) (ho : PE X o td) (na : starEach [o] X.env = (false, eval o X.env) :: starEach [] X.env) :
    PE X (.Call (.Name "list" p) [o] [] pos) (fun σ H Q => td σ H fun x H1 => ∃ a kvs, x = V.ref a ∧ Rd H1 a (.dK kvs) ∧ ∀ p, H1 p = none → Q (.ref p) (upd H1 p (.lst (kvs.map fun q => kV q.1)))) := by
  refine ⟨fun pins s σ H Q I h => ?_⟩
  refine Call_ (ld_blt I hg hm PyProof.Rows.boot_list (PyProof.Rows.callWith_type1 (args_cons (thn (ho.run pins s σ H _ I h) fun v s1 ⟨x, H1, I1, r1, a, kvs, ex, ha, q⟩ => args_nil ?_) na) na))
  subst ex
  cases r1
  obtain ⟨hz, hsys, vs, rel, dof⟩ := dk_rd I1.hok ha
  obtain ⟨ep, dat⟩ := dof.dictAt
  have hl : kvs.length = vs.length := Paired.length rel
  refine PySem.W.kdl_call (PySem.W.kdl_dict (knd := mixKind X.prog X.w) (d := a) (kvs := vs) (ep := ep) hsys) (I1.ok.hd hc) dat (by rw [← hl]; exact hz) fun h' tk acc c hk hS hacc => ?_
  have hv : Vals (kvs.map fun q => kV q.1) acc.toList := by
    have hlen : acc.toList.length = kvs.length := by rw [Array.length_toList, hl]; exact hacc.1
    have hat : ∀ j u, acc.toList[j]? = some u → ∃ k y, vs[j]? = some (k, y) ∧ (mixKind X.prog X.w).is k u = true := fun j u e => hacc.2 j u (by rw [← Array.getElem?_toList]; exact e)
    exact keys_vals rel acc.toList hlen hat
  refine ⟨.ref _, _, I1.laid (t' := tk) (o := .lst (kvs.map fun q => kV q.1)) hk (Nat.le_refl _) ⟨by rw [List.length_map]; exact hz, acc.toList, c, hv, by rw [Array.toArray_toList]; exact hS⟩, rfl, q _ (I1.hok.fresh (Nat.le_refl _))⟩
theorem rep_keys {K : Kw} {mg : Str → Option Value} {L : List Addr} {R : Hp} : ∀ kvs : List (Key × V), RepAll K mg L R (kvs.map fun q => kV q.1) (kds kvs)
  | [] => .nil
  | _ :: r => .cons (rep_key _) (rep_keys r)
/-! ### d[k] = v -/
def putDN (j : Nat) (ks vs : List D) (yd dv : D) (ρ : DSt) (s : Sto) : Res Out := match isNK yd with
  | some q => if ks.length < 16777216 then .ok (.nx (ρ.set j (.ow (.dnt (dputNK ks vs yd q) (dputNV ks vs q dv))))) s else .bad
  | none => .bad
def sPut (j : Nat) (fk fv : E) : S := fun ρ s => (fv ρ s).bind fun x s1 => match x.keep, ρ[j]? with
  | ⟨.cl, dv⟩, some (.ow (.dct ks vs)) => (fk ρ s1).bind fun y s2 => (match keyD y.d with
    | some q => if ks.length < 16777216 then .ok (.nx (ρ.set j (.ow (.dct (dputK ks vs q) (dputV ks vs q dv))))) s2 else .bad
    | none => if ks.isEmpty = true ∧ vs.isEmpty = true then putDN j [] [] y.d dv ρ s2 else .bad)
  | ⟨.cl, dv⟩, some (.ow (.dnt ks vs)) => (fk ρ s1).bind fun y s2 => putDN j ks vs y.d dv ρ s2
  | ⟨.cl, dv⟩, some (.ow (.lst ds)) => (fk ρ s1).bind fun y s2 => (match y.d with
    | .int k => if 0 ≤ k ∧ k.toNat < ds.length then .ok (.nx (ρ.set j (.ow (.lst (ds.set k.toNat dv))))) s2 else .bad
    | _ => .bad)
  | _, _ => .bad
def sDPutN (K : Kw) (td ty tv : TE) : TS := fun D σ H => tv σ H fun v H1 => td σ H1 fun x H2 => ty σ H2 fun y H3 => ∃ a, x = .ref a ∧
  (((∃ H4, DPut H3 a y v H4 ∧ D.nx σ H4) ∨ ∃ xs b k, (H3 a = some (DNO K a xs) ∨ (xs = [] ∧ H3 a = some (.dK []))) ∧ XsOk K H3 xs ∧ y = .ref b ∧ KAt K H3 b k ∧ xs.length < sizeLine ∧ D.nx σ (upd H3 a (DNO K a (putN xs k b v)))) ∨ ∃ x, x = V.ref a ∧ rSetL x y v H3 fun H4 => D.nx σ H4)
theorem ps_dputN {td ty tv : TE} {i value : Expr} {pos' : Pos} (hu : X.A.units + 10 < cLine) (ho : PE X o td) (hi : PE X i ty) (hv : PE X value tv) (hs : swapsWith value (some (.Subscript o i pos')) pos.line X.env = pure false) :
    PS X (.Assign [.Subscript o i pos'] value pos) (sDPutN (KW X) td ty tv) := by
  refine ⟨fun pins s σ H D I h => ?_⟩
  refine wpAny_Assign_Subscript (thn (hv.run pins s σ H _ I h) fun r s1 ⟨v, H1, I1, rv, q1⟩ => thn (ho.run pins s1 σ H1 _ I1 q1) fun u s2 ⟨x, H2, I2, rx, q2⟩ => thn (hi.run pins s2 σ H2 _ I2 q2) fun iv s3 ⟨y, H3, I3, ry, a, ex, g⟩ => ?_) hs
  subst ex
  obtain rfl : u = Value.ref a := rx
  rcases g with (⟨H4, g, q3⟩ | ⟨xs, b, k, e, hx, rfl, kat, hl, q3⟩) | ⟨x, rfl, g⟩
  · exact d_setItem (by omega) I3 g ry rv fun s4 I4 => ⟨σ, H4, I4, q3⟩
  · cases ry
    exact n_put2 hu I3 e hx kat rv hl fun s4 I4 => ⟨σ, _, I4, q3⟩
  · exact thn (set_list pins s3 σ H3 (.ref a) _ _ (.ref a) _ _ _ I3 rfl ry rv g) fun _ s4 ⟨H4, I4, q4⟩ => ⟨σ, H4, I4, q4⟩
theorem RepAll.set {K : Kw} {mg : Str → Option Value} {L : List Addr} {R : Hp} {w : V} {dv : D} : ∀ (n : Nat) {ds : List D} {vs : List V}, RepAll K mg L R vs ds → Rep K mg L R w dv → RepAll K mg L R (vs.set n w) (ds.set n dv)
  | _, _, _, .nil, _ => .nil
  | 0, _, _, .cons h t, r => .cons r t
  | n + 1, _, _, .cons h t, r => .cons h (RepAll.set n t r)
theorem top_dn {C : Cn} {R H : Hp} {ρ : DSt} {σ : L2.St} {s : Sto} {j : Nat} {d : D} (x : Rel (KW X) X.mg C R ρ σ H s) (hj : ρ[j]? = some (.ow d)) {ks vs : List D} (hd : d = .dnt ks vs ∨ (d = .dct [] [] ∧ ks = [] ∧ vs = [])) :
    ∃ p xs, σ[j]? = some (some (.ref p)) ∧ (H p = some (DNO (KW X) p xs) ∨ (xs = [] ∧ H p = some (.dK []))) ∧ KsOk xs ks ∧ RepAll (KW X) X.mg C.L R (xs.map fun p => V.ref p.2.1) ks ∧ RepAll (KW X) X.mg C.L R (xs.map (·.2.2)) vs ∧ ∀ y, H p ≠ some (.own y) := by
  obtain ⟨p, hp, ht, _⟩ := x.own j _ hj
  rcases hd with rfl | ⟨rfl, rfl, rfl⟩
  · obtain ⟨xs, h1, h2, h3, h4⟩ := ht
    exact ⟨p, xs, hp, .inl h1, h2, h3, h4, fun y => by rw [h1]; exact fun e => absurd (Option.some.inj e) (fun z => by unfold DNO at z; cases z)⟩
  · obtain ⟨kvs, h1, h2, h3⟩ := ht
    have : kvs = [] := by
      cases kvs with
      | nil => rfl
      | cons _ _ => cases h2
    subst this
    exact ⟨p, [], hp, .inr ⟨rfl, h1⟩, ⟨rfl, fun _ z => nomatch z⟩, .nil, .nil, fun y => by rw [h1]; exact fun e => nomatch e⟩
theorem ds_put {j : Nat} {y : Str} {py pos' : Pos} (hu : X.A.units + 10 < cLine) (hN : X.N[j]? = some y) (hv : Vis X.env.scope y) (hd : (y == ("__debug__" : Str)) = false) (hcd : (y == ("__classdict__" : Str)) = false) (ha : DE X W a fa) (hb : DE X W b fb)
    (hs : swapsWith b (some (.Subscript (.Name y py) a pos')) pos.line X.env = pure false) : DS X W (.Assign [.Subscript (.Name y py) a pos'] b pos) (sPut j fa fb) :=
  PS.weak (ps_dputN hu (pe_var hN hv hd hcd) ha hb hs) fun Z σ H ⟨C, R, ρ, s, x, h⟩ => sE x h fun tv s1 v C1 R1 H1 l1 r1 x1 v1 h1 => by
    obtain ⟨R2, r2, x2, v2⟩ := x1.kept v1
    have rr := L2.Same.trans r1 r2
    have dn : ∀ {dv : D} {ks vs : List D} {d : D} {C3 : Cn} {R3 H3 : Hp} {s3 : Sto} {w : V} {tw : TV} {p : Addr}, ρ[j]? = some (.ow d) → (d = .dnt ks vs ∨ (d = .dct [] [] ∧ ks = [] ∧ vs = [])) → σ[j]? = some (some (.ref p)) → Rep (KW X) X.mg C1.L R2 v dv → C1.Le C3 → Same R2 R3 → Rel (KW X) X.mg C3 R3 ρ σ H3 s3 → VRep (KW X) X.mg C3 R3 ρ σ H3 w tw →
        PostS (KW X) X.mg W σ.length C1 R2 (OkS (KW X) X.mg σ.length C R Z) (putDN j ks vs tw.d dv ρ s3) → ∃ a, V.ref p = .ref a ∧ (((∃ H4, DPut H3 a w v H4 ∧ Z.nx σ H4) ∨ ∃ xs b k, (H3 a = some (DNO (KW X) a xs) ∨ (xs = [] ∧ H3 a = some (.dK []))) ∧ XsOk X.K H3 xs ∧ w = .ref b ∧ KAt X.K H3 b k ∧ xs.length < sizeLine ∧ Z.nx σ (upd H3 a (DNO (KW X) a (putN xs k b v)))) ∨ ∃ x, x = V.ref a ∧ rSetL x w v H3 fun H4 => Z.nx σ H4) := by
      intro dv ks vs d C3 R3 H3 s3 w tw p hj hd hp rv l3 r3 x3 v3 h3
      unfold putDN at h3
      split at h3
      · rename_i q eq
        split at h3
        · rename_i hlen
          obtain ⟨p', xs, hp', e, k1, k2, k3, k4⟩ := top_dn x3 hj hd
          rw [hp] at hp'
          cases hp'
          obtain ⟨b, rfl, kat, rb⟩ := kat_of x3.bas.sub eq (VRep.look x3 v3)
          obtain ⟨n1, n2, _⟩ := isNK_is eq
          have rv := rv.mono l3.L r3
          obtain ⟨d1, d2, d3⟩ := dputN_rep (q := q) k1 k2 k3 rb n1 n2 rv
          have hlen : xs.length < sizeLine := by
            have := k2.length
            rw [List.length_map] at this
            rw [sizeLine_eq]
            omega
          refine ⟨p, rfl, .inl (.inr ⟨xs, b, q, e, xsOk_of x3.bas.sub k1 k2, rfl, kat, hlen, ?_⟩)⟩
          exact h3 σ C3 R3 _ (l1.trans l3) (L2.Same.trans rr r3) (x3.write hj hp ⟨_, upd_same, d1, d2, d3⟩ k4) rfl
        · exact h3.elim
      · exact h3.elim
    split at h1
    · rename_i dv ks vs ek hj
      rw [ek] at v2
      have v2 : Rep (KW X) X.mg C1.L R2 v dv := v2
      obtain ⟨p, hp, _⟩ := x2.own j _ hj
      refine ⟨.ref p, hp, ?_⟩
      refine sE x2 (PostS.mono l1 rr (fun _ _ z => z) h1) fun tw s3 w C3 R3 H3 l3 r3 x3 v3 h3 => ?_
      split at h3
      · rename_i q eq
        split at h3
        · rename_i hlen
          have ey := key_val eq (VRep.look x3 v3)
          obtain ⟨p', hp', ⟨kvs, hk, eks, ra⟩, _⟩ := x3.own j _ hj
          rw [hp] at hp'
          cases hp'
          subst eks
          have rv := v2.mono l3.L r3
          obtain ⟨d1, d2⟩ := dput_rep (q := q) ra rv
          have hlen : kvs.length < sizeLine := by
            rw [List.length_map] at hlen
            exact hlen
          refine ⟨p, rfl, .inl (.inl ⟨_, .inl ⟨kvs, q, hk, ey, hlen, rfl⟩, ?_⟩)⟩
          exact h3 σ C3 R3 _ (l1.trans l3) (L2.Same.trans rr r3) (x3.write hj hp ⟨_, upd_same, d1, d2⟩ (fun z => by rw [hk]; exact fun e => nomatch e)) rfl
        · exact h3.elim
      · split at h3
        · rename_i hem
          rw [List.isEmpty_iff, List.isEmpty_iff] at hem
          obtain ⟨rfl, rfl⟩ := hem
          exact dn hj (.inr ⟨rfl, rfl, rfl⟩) hp v2 l3 r3 x3 v3 h3
        · exact h3.elim
    · rename_i dv ks vs ek hj
      rw [ek] at v2
      have v2 : Rep (KW X) X.mg C1.L R2 v dv := v2
      obtain ⟨p, hp, _⟩ := x2.own j _ hj
      refine ⟨.ref p, hp, ?_⟩
      refine sE x2 (PostS.mono l1 rr (fun _ _ z => z) h1) fun tw s3 w C3 R3 H3 l3 r3 x3 v3 h3 => ?_
      exact dn hj (.inl rfl) hp v2 l3 r3 x3 v3 h3
    · rename_i dv ds ek hj
      rw [ek] at v2
      have v2 : Rep (KW X) X.mg C1.L R2 v dv := v2
      obtain ⟨p, hp, _⟩ := x2.own j _ hj
      refine ⟨.ref p, hp, ?_⟩
      refine sE x2 (PostS.mono l1 rr (fun _ _ z => z) h1) fun tw s3 w C3 R3 H3 l3 r3 x3 v3 h3 => ?_
      have lk := VRep.look x3 v3
      split at h3
      · rename_i k ed
        rw [ed] at lk
        have ev := PRep.int lk
        subst ev
        split at h3
        · rename_i hk
          obtain ⟨p', hp', ht, _⟩ := x3.own j _ hj
          rw [hp] at hp'
          cases hp'
          obtain ⟨xs, hx, ra⟩ := ht
          have rv := v2.mono l3.L r3
          have hl := ra.length
          have e1 : ixN xs.length k = some k.toNat := by
            obtain ⟨m, rfl⟩ : ∃ m : Nat, k = m := ⟨k.toNat, by omega⟩
            rw [Int.toNat_natCast] at hk ⊢
            unfold ixN
            rw [if_pos (by omega), if_pos (by omega)]
            simp
          refine ⟨p, rfl, .inr ⟨_, rfl, p, xs, k, k.toNat, rfl, rfl, hx, e1, ?_⟩⟩
          exact h3 σ C3 R3 _ (l1.trans l3) (L2.Same.trans rr r3) (x3.write (d' := .lst (ds.set k.toNat dv)) hj hp ⟨_, upd_same, ra.set k.toNat rv⟩ (own_no (C := C3) ⟨xs, hx, ra⟩)) rfl
        · exact h3.elim
      · exact h3.elim
    · exact h1.elim
end

/-! ### sum -/
def intsD : List D → Option (List Int)
  | [] => some []
  | .int i :: r => (intsD r).map (i :: ·)
  | _ :: _ => none
def bSum : List D → Option TV
  | [.lst ds] => (intsD ds).map fun ns => ⟨.cl, .int ns.sum⟩
  | _ => none
theorem ints_rep {K : Kw} {mg : Str → Option Value} {L : List Addr} {R : Hp} : ∀ {xs : List V} {ds : List D} {ns : List Int}, intsD ds = some ns → RepAll K mg L R xs ds → xs = ns.map V.int
  | _, [], _, e, .nil => by cases e; rfl
  | _, d :: ds, _, e, .cons h1 h2 => by
    cases d with
    | int i =>
      unfold intsD at e
      cases q : intsD ds with
      | none => rw [q] at e; cases e
      | some ms =>
        rw [q] at e
        cases e
        cases h1
        rw [ints_rep q h2]
        rfl
    | _ => cases e
theorem bl_sum {K : Kw} {mg : Str → Option Value} : BL K mg (rSum K) bSum := by
  intro C R ρ σ H s vs ds tv Q rel ps e ok
  unfold bSum at e
  split at e
  · rename_i es
    cases q : intsD es with
    | none => rw [q] at e; cases e
    | some ns =>
      rw [q] at e
      cases e
      obtain ⟨v, rfl, h⟩ := ps.one
      obtain ⟨a, xs, rfl, h1, h2⟩ := h
      refine ⟨a, ns, rfl, ?_, OkE.cl ok rel (.int _)⟩
      rw [← ints_rep q h2]
      exact SqL.of h1
  · cases e

/-! ### enumerate(t) of a tuple -/
def IteT (K : PySem.W.Frag) (a : Addr) : It where
  go := fun i H => ∃ (xs : List V) (x : V), SqT K H a xs ∧ xs[i]? = some x
  yld := fun i H v H' => ∃ T x, v = .ref T ∧ H T = none ∧ H' = upd H T (.tup [.int (i : Nat), x]) ∧ ∀ xs, SqT K H a xs → xs[i]? = some x
  stop := fun i H => ∃ xs : List V, SqT K H a xs ∧ xs.length ≤ i
def enumD : Nat → List D → List D
  | _, [] => []
  | n, d :: ds => .tpw [.int (n : Nat), d] :: enumD (n + 1) ds
end UW
namespace UW
open PySem PySem.Spec PyProof.Rows L2

set_option maxHeartbeats 1000000 in
theorem meets_enum1 {v : Value} {o : Obj} {G : Heap → Prop} (B : Begins v o G) :
    Meets (Builtin.«enumerate.__new__» ⟨[.type "enumerate", v], []⟩) (fun _ R s => G s.heap ∧ R (.ok (.ret (.ref (s.heap.push o).objs.size)))
      { s with heap := (s.heap.push o).push { cls := .type "enumerate", data := .fields #[.none, .bool false, .ref s.heap.objs.size, rawInt 0, .none, .none] } }) :=
  .of_wp fun prog w A R s ⟨g1, g2⟩ => by
    obtain ⟨hp, gs, dr, tk, os⟩ := s
    have sb := sub_enumerate
    have go : ∀ {A' : Around} {E : Value → Shared → Prop} {Q : Value → Shared → Prop}, Q (.ref hp.objs.size) ⟨hp.push o, gs, dr, tk, os⟩ → wpAny (model prog w) A' (pyIter v) Q E ⟨hp, gs, dr, tk, os⟩ := fun q => B.iter prog w _ _ ⟨hp, gs, dr, tk, os⟩ _ g1 q
    wp_walk using go
    refine wpAny_stack_any fun st => wpAny_pure ?_
    split
    · rename_i c _ _ _ _ _
      cases (c == Value.type "enumerate") <;> (wp_walk using go; exact ⟨_, rfl, g2⟩)
    · wp_walk using go
      exact ⟨_, rfl, g2⟩
section
variable {prog : Program} {w : World} {A : Around} {E : Value → Shared → Prop} {s : Shared}
theorem call_enumT {v : Value} {o : Obj} {G : Heap → Prop} {Q : Value → Shared → Prop} (B : Begins v o G) (g : G s.heap)
    (h : ∀ h', IsEnum h' (s.heap.objs.size + 1) s.heap.objs.size 0 .none → h'.get? s.heap.objs.size = some o → (∀ b o, s.heap.get? b = some o → h'.get? b = some o) → Q (.ref (s.heap.objs.size + 1)) { s with heap := h' }) :
    wpAny (model prog w) A (call (.type "enumerate") [v]) Q E s := by
  have z : (s.heap.push o).objs.size = s.heap.objs.size + 1 := Heap.size_push ..
  refine callType_new F.called_enumerate (by decide) (F.typeCall_enumerate_1 v) (F.newCall_enumerate_1 v) (fun ob => F.args_object_init_2 ob v) F.entry_enumerate_new (meets_enum1 B) ⟨g, ?_⟩
  show _ ∧ _
  rw [z]
  have he : IsEnum ((s.heap.push o).push { cls := .type "enumerate", data := .fields #[.none, .bool false, .ref s.heap.objs.size, rawInt 0, .none, .none] }) (s.heap.objs.size + 1) s.heap.objs.size 0 .none := by
    rw [← z]
    exact Heap.get?_push_size (s.heap.push o) rfl
  exact ⟨⟨_, he, rfl⟩, h _ he (Heap.get?_push_of_some _ (Heap.get?_push_size _ B.free)) fun b u x => Heap.get?_push_of_some _ (Heap.get?_push_of_some _ x)⟩
/-- behind the last -/
theorem draws_end (hh : A.handled = none) (it t : Addr) (items : Array Value) (i : Nat) (hi : items.size ≤ i) :
    Draws prog w A it [it, t] i (fun _ _ => True) (fun j h => j = i ∧ h.IsTupleIter it t i ∧ h.IsTuple t items) where
  live := fun _ _ st => by
    obtain ⟨_, ⟨o, ho, _⟩, _⟩ := st
    exact ⟨o, ho⟩
  frame := fun _ _ _ st hk => ⟨st.1, st.2.1.at fun o e => hk it (by simp) o e, st.2.2.at fun o e => hk t (by simp) o e⟩
  item := fun j s Q E hj st hQ => absurd st.1 (Nat.ne_of_lt hj)
  done := fun s Q E st hE => wpAny_nextOf_tuple_end hh st.2.1 st.2.2 (Array.getElem?_eq_none hi) hE
end
theorem turn_enumT {P : Program} {w : World} {K : PySem.W.Frag} {elts : List Expr} {kk : Nat} {tpos : Pos} (a e it : Addr) :
    Turn P w K (.Tuple elts kk tpos) (IteT K a) [e, it] e (fun i h => (∃ old, IsEnum h e it ((i : Nat) : Int) old) ∧ h.IsTupleIter it a i ∧ e ≠ it) where
  mem := List.mem_cons_self
  obj := fun i h st b hb => by
    obtain ⟨⟨old, he⟩, ⟨o, ho, _, hd⟩, _⟩ := st
    rcases List.mem_cons.mp hb with rfl | hb
    · exact ⟨_, he, fun v q => nomatch q⟩
    · rw [List.mem_singleton] at hb
      subst hb
      exact ⟨o, ho, fun v q => by rw [hd] at q; cases q⟩
  keep := fun i h h' st k => by
    obtain ⟨⟨old, he⟩, hi, hne⟩ := st
    exact ⟨⟨old, k e (by simp) _ he⟩, hi.at fun o q => k it (by simp) o q, hne⟩
  item := by
    intro X hP hw hK hc i pins s σ H E I hf st hg
    subst hP hw hK
    obtain ⟨⟨old, he⟩, hit, hne⟩ := st
    obtain ⟨xs, x, hq, hx⟩ := hg
    obtain ⟨its, rv, p, hz⟩ := I.tuple hq
    have pT : s.heap.IsTuple a its.toArray := p
    obtain ⟨u, hu, ru⟩ := rv.get hx
    have hel : e < s.heap.objs.size := Heap.lt_size he
    have hil : it < s.heap.objs.size := by
      obtain ⟨_, q, _⟩ := hit
      exact Heap.lt_size q
    have hai : a ≠ it := fun z => by
      obtain ⟨o1, q1, c1, _⟩ := id hit
      obtain ⟨o2, q2, c2, _⟩ := id pT
      rw [z, q1] at q2
      cases q2
      rw [c1] at c2
      exact absurd (Value.type.inj c2) (by decide)
    have hae : a ≠ e := fun z => by
      obtain ⟨o2, q2, c2, _⟩ := id pT
      rw [z, he] at q2
      cases q2
      exact absurd (Value.type.inj c2) (by decide)
    have hin : i < its.toArray.size := by
      rw [List.size_toArray]
      exact (List.getElem?_eq_some_iff.mp hu).1
    refine wpAny_pyNext_enum_itemD (Draws.tuple (A := X.A.in1) (I.ok.hd hc) it a hai its.toArray) he ⟨hit, pT⟩ hin hne (by simp [hne, Ne.symm hae]) fun x' h' tk hP ho st' hT hsz hk => ?_
    have ex : x' = u := by
      have hP : its.toArray[i]? = some x' := hP
      rw [List.getElem?_toArray, hu] at hP
      exact (Option.some.inj hP).symm
    subst ex
    refine ⟨_, rfl, wpAny_letOwnedTupleGo_enum (s := { s with heap := h', toks := tk + 1 }) ho fun h'' he' sb => ?_⟩
    have hT2 := (sb.2 _ (Nat.ne_of_gt hel)).trans hT
    have new : ObjOk X.prog X.w (upd H s.heap.objs.size (.tup [.int (i : Nat), x])) h'' s.heap.objs.size (.tup [.int (i : Nat), x]) := by
      refine ⟨by show 2 ≤ sizeLine; decide, [.int i tk, x'], .cons ⟨_, rfl⟩ (.cons ru .nil), ?_⟩
      exact ⟨_, hT2, rfl, _, rfl⟩
    have J : Inv X pins σ (upd H s.heap.objs.size (.tup [.int (i : Nat), x])) { s with heap := h'', toks := tk + 1 } := by
      refine I.turnedNew (ch := [e, it]) (fun b ob hb q => ?_) hf (Nat.le_refl _) new
      have n1 : b ≠ e := fun z => hb (by simp [z])
      have n2 : b ≠ it := fun z => hb (by simp [z])
      exact (sb.2 b n1).trans (hk b ob n1 n2 q)
    refine ⟨.ref s.heap.objs.size, _, J, rfl, ⟨_, x, rfl, I.hok.fresh (Nat.le_refl _), rfl, fun ys hy => ?_⟩, ⟨⟨x', ?_⟩, st'.1.at fun o q => (sb.2 it (Ne.symm hne)).trans q, hne⟩, fun b hb => ?_⟩
    · rw [I.tuple_inj hy hq]
      exact hx
    · have e1 : ((i + 1 : Nat) : Int) = (i : Int) + 1 := by omega
      rw [e1]
      exact he'
    · have hb' : b < s.heap.objs.size := by
        rcases List.mem_cons.mp hb with rfl | hb
        · exact hel
        · rw [List.mem_singleton] at hb
          subst hb
          exact hil
      rw [upd_ne (Nat.ne_of_lt hb')]
      exact (hf b hb).1
  done := by
    intro X hP hw hK hc i pins s σ H E I hf st hg
    subst hP hw hK
    obtain ⟨⟨old, he⟩, hit, hne⟩ := st
    obtain ⟨xs, hq, hx⟩ := hg
    obtain ⟨its, rv, p, hz⟩ := I.tuple hq
    obtain ⟨f0, f1, f2, f3, f4, f5⟩ := hf it (by simp)
    have hl := rv.length
    refine wpAny_pyNext_enum_endD (draws_end (A := X.A.in1) (I.ok.hd hc) it a its.toArray i (by rw [List.size_toArray]; omega)) he ⟨rfl, hit, p⟩ fun h' eb => ?_
    exact ⟨rfl, I.turned (t' := s.toks) (fun b o hb q => eb b o hb q) f0 f1 f3 f4 f5⟩
  self := fun A i s Q E st h => by
    obtain ⟨⟨_, he⟩, _⟩ := st
    exact wpAny_pyIter_enum he h
theorem enumD_len : ∀ (n : Nat) (ds : List D), (enumD n ds).length = ds.length
  | _, [] => rfl
  | n, d :: ds => by rw [enumD, List.length_cons, List.length_cons, enumD_len (n + 1) ds]
theorem enumD_get : ∀ {n : Nat} {ds : List D} {i : Nat} {d : D}, (enumD n ds)[i]? = some d → ∃ y, ds[i]? = some y ∧ d = .tpw [.int ((n + i : Nat) : Int), y]
  | _, [], _, _, h => by simp [enumD] at h
  | n, x :: ds, 0, d, h => by
    rw [enumD] at h
    cases h
    exact ⟨x, rfl, rfl⟩
  | n, x :: ds, i + 1, d, h => by
    rw [enumD] at h
    obtain ⟨y, h1, h2⟩ := enumD_get (n := n + 1) (ds := ds) (i := i) h
    refine ⟨y, h1, ?_⟩
    rw [h2]
    have : n + 1 + i = n + (i + 1) := by omega
    rw [this]
theorem itok_enumT {K : Kw} {mg : Str → Option Value} {R0 : Hp} {a : Addr} {xs : List D} : ItOk K mg R0 (IteT K a) [.ref a] [.tup xs] (enumD 0 xs) := fun L R H s0 sub ps => by
  obtain ⟨v, e, h⟩ := ps.one
  cases e
  obtain ⟨_, us, e, h1, h2⟩ := h.tup
  cases e
  have h1 := Same.tupl sub h1
  refine ⟨fun i hi => ⟨us, h1, ?_⟩, fun i hi => ?_, fun i x H' d e hy => ?_⟩
  · rw [enumD_len] at hi
    rw [h2.length]
    exact hi
  · obtain ⟨y, e1, _⟩ := enumD_get (List.getElem?_eq_getElem hi)
    obtain ⟨u, q1, _⟩ := h2.get e1
    exact ⟨us, u, h1, q1⟩
  · obtain ⟨T, u, rfl, hT, rfl, y1⟩ := hy
    obtain ⟨y, e1, rfl⟩ := enumD_get e
    obtain ⟨u', q1, r1⟩ := h2.get e1
    have y1 := y1 us h1
    rw [q1] at y1
    cases y1
    have sR : Same R (upd R T (.tup [.int (i : Nat), u])) := same_upd (same_none sub hT)
    rw [Nat.zero_add]
    exact .inr ⟨T, _, hT, rfl, .tpw (SqT.of upd_same) (.cons (.int _) (.cons (r1.mono (List.prefix_refl _) sR) .nil))⟩
theorem itok_enumL {K : Kw} {mg : Str → Option Value} {R0 : Hp} {a : Addr} {xs : List D} : ItOk K mg R0 (L2.Ite K a) [.ref a] [.lst xs] (enumD 0 xs) := fun L R H s0 sub ps => by
  obtain ⟨v, e, h⟩ := ps.one
  cases e
  obtain ⟨_, us, e, h0, h2⟩ := h
  cases e
  have h1 : SqL K H a us := SqL.of h0
  refine ⟨fun i hi => ⟨us, h1, ?_⟩, fun i hi => ?_, fun i x H' d e hy => ?_⟩
  · rw [enumD_len] at hi
    rw [h2.length]
    exact hi
  · obtain ⟨y, e1, _⟩ := enumD_get (List.getElem?_eq_getElem hi)
    obtain ⟨u, q1, _⟩ := h2.get e1
    exact ⟨us, u, h1, q1⟩
  · obtain ⟨T, u, rfl, hT, rfl, y1⟩ := hy
    obtain ⟨y, e1, rfl⟩ := enumD_get e
    obtain ⟨u', q1, r1⟩ := h2.get e1
    have y1 := y1 us h1
    rw [q1] at y1
    cases y1
    have sR : Same R (upd R T (.tup [.int (i : Nat), u])) := same_upd (same_none sub hT)
    rw [Nat.zero_add]
    exact .inr ⟨T, _, hT, rfl, .tpw (SqT.of upd_same) (.cons (.int _) (.cons (r1.mono (List.prefix_refl _) sR) .nil))⟩
section
variable {X : Cx} {W : WX} {a : Expr}
def iEnumT (K : PySem.W.Frag) (ta : TA) : TI := fun σ H R => ta σ H fun vs H1 => (∃ a xs, vs = [.ref a] ∧ SqT K H1 a xs ∧ R (IteT K a) H1) ∨ ∃ a xs, vs = [.ref a] ∧ SqL K H1 a xs ∧ R (L2.Ite K a) H1
theorem pi_enumT {ta : TA} {p pos tpos : Pos} {elts : List Expr} {kk : Nat} (hg : Gl X "enumerate") (hm : X.mg "enumerate" = none) (ha : PA X [a] ta) (hs : starEach [a] X.env = [(false, eval a X.env)]) :
    PI X (.Tuple elts kk tpos) (.Call (.Name "enumerate" p) [a] [] pos) (iEnumT X.K ta) := by
  refine ⟨fun pins s σ H R I h => ?_⟩
  refine Call_ (ld_blt I hg hm boot_enumerate (PyProof.Rows.callWith_type1 (thn (ha.run pos pins s σ H _ I h) fun us s1 ⟨vs, H1, I1, r1, q1⟩ => ?_) hs rfl))
  rcases q1 with ⟨t, xs, rfl, hq, q⟩ | ⟨t, xs, rfl, hq, q⟩
  · cases r1 with
    | cons r rr =>
    cases rr
    cases r
    obtain ⟨its, rv, pt, hz⟩ := I1.tuple hq
    refine call_enumT (begins_tuple t its.toArray) pt fun h' he hit hk => wpAny_pyIter_enum he ?_
    have I2 : Inv X pins σ H1 { s1 with heap := h' } := I1.kept (t' := s1.toks) hk
    refine ⟨s1.heap.objs.size + 1, [s1.heap.objs.size + 1, s1.heap.objs.size], _, _, H1, rfl, I2, turn_enumT t _ _, ⟨⟨.none, he⟩, ⟨_, hit, rfl, rfl⟩, Nat.succ_ne_self _⟩, fun b hb => ?_, q⟩
    have hle : s1.heap.objs.size ≤ b := by
      rcases List.mem_cons.mp hb with rfl | hb
      · exact Nat.le_add_right _ _
      · rw [List.mem_singleton] at hb
        exact Nat.le_of_eq hb.symm
    exact I1.fpOk hle (I1.hok.fresh hle)
  · cases r1 with
    | cons r rr =>
    cases rr
    cases r
    obtain ⟨its, rv, p', hz⟩ := I1.list hq
    refine call_enumerate_list p'.isList fun h' he hit hsz hk => wpAny_pyIter_enum he ?_
    have I2 : Inv X pins σ H1 { s1 with heap := h' } := I1.kept (t' := s1.toks) hk
    refine ⟨s1.heap.objs.size + 1, [s1.heap.objs.size + 1, s1.heap.objs.size], _, _, H1, rfl, I2, turn_enum t (s1.heap.objs.size + 1) s1.heap.objs.size, ⟨⟨.none, he⟩, hit, Nat.succ_ne_self _⟩, fun b hb => ?_, q⟩
    have e' : b = s1.heap.objs.size + 1 ∨ b = s1.heap.objs.size := by simpa using hb
    have hle : s1.heap.objs.size ≤ b := by
      rcases e' with z | z
      · rw [z]; exact Nat.le_add_right _ _
      · rw [z]; exact Nat.le_refl _
    exact I1.fpOk hle (I1.hok.fresh hle)
def iEnum (l : EL) : IW := fun ρ s => (l ρ s).bind fun tvs s1 => match tvs.map TV.d with
  | [.tup xs] => .ok (tvs, enumD 0 xs) s1
  | [.lst xs] => .ok (tvs, enumD 0 xs) s1
  | _ => .bad
theorem di_enum {fl : EL} {p pos tpos : Pos} {elts : List Expr} {kk : Nat} (hg : Gl X "enumerate") (hm : X.mg "enumerate" = none) (ha : DL X W [a] fl) (hs : starEach [a] X.env = [(false, eval a X.env)]) :
    DI X W (.Tuple elts kk tpos) (.Call (.Name "enumerate" p) [a] [] pos) (iEnum fl) :=
  PI.weak (pi_enumT hg hm ha hs) fun σ H Q ⟨C, R, ρ, s, x, h⟩ => by
    refine seqL x h fun tvs s1 vs C1 R1 H1 l1 r1 x1 v1 h1 => ?_
    have lk := v1.look x1
    split at h1
    · rename_i xs e
      rw [e] at lk
      obtain ⟨v, rfl, lv⟩ := lk.one
      obtain ⟨a, us, rfl, q1, q2⟩ := lv.tup
      refine .inl ⟨a, us, rfl, Same.tupl x1.bas.sub q1, h1 _ _ C1 R1 H1 l1 r1 x1 v1 ?_⟩
      show ItOk _ _ _ _ _ (tvs.map (·.d)) _
      rw [e]
      exact itok_enumT
    · rename_i xs e
      rw [e] at lk
      obtain ⟨v, rfl, lv⟩ := lk.one
      obtain ⟨a, us, rfl, q1, q2⟩ := lv
      refine .inr ⟨a, us, rfl, SqL.of q1, h1 _ _ C1 R1 H1 l1 r1 x1 v1 ?_⟩
      show ItOk _ _ _ _ _ (tvs.map (·.d)) _
      rw [e]
      exact itok_enumL
    · exact h1.elim
end
end UW
namespace UW
open PySem PySem.Spec PyProof.Rows L2

/-! ### d.setdefault(k, z) -/
def tSdf0 (td ty tx : TE) : TE := fun σ H Q => td σ H fun x H1 => ∃ a, x = .ref a ∧ IsD H1 a ∧ ty σ H1 fun y H2 => tx σ H2 fun z H3 => ∃ kvs k, H3 a = some (.dK kvs) ∧ y = kV k ∧ kvs.length < sizeLine ∧
  (∀ v, valV kvs k = some v → Q v H3) ∧ (valV kvs k = none → Q z (upd H3 a (.dK (putK kvs k z))))
section
variable {X : Cx} {W : WX} {o a b : Expr} {fa fb : E} {pos apos cpos : Pos}
theorem d_sdf {A : Around} {E : Value → Shared → Prop} {pins : List (Addr × Obj)} {σ : L2.St} {H : Hp} {s : Shared} {p : Addr} {kvs : List (Key × V)} {k : Key} {z : V} {u r : Value} {Q : VK} (I : Inv X pins σ H s) (e : H p = some (.dK kvs)) (ry : RelV (kV k) u) (rz : RelV z r) (hl : kvs.length < sizeLine)
    (q1 : ∀ v, valV kvs k = some v → Q v H) (q2 : valV kvs k = none → Q z (upd H p (.dK (putK kvs k z)))) : wpAny (model X.prog X.w) A (call (.builtin "dict.setdefault") [.ref p, u, r]) (EP X pins σ Q) E s := by
  obtain ⟨zz, hd, vs, rel, dd⟩ := dk_of I.hok e
  have hv : vs.length ≤ sizeLine := by rw [← rel.length]; exact zz
  have hput : (putK kvs k z).length ≤ sizeLine := by have := length_putK kvs k z; omega
  refine call_meetsIn PySem.F.slot_dict_setdefault dd.typeIs PySem.F.entry_dict_setdefault (PySem.F.args_dict_setdefault_3 _ _ _) (kt_meets_setdefault (mixKind X.prog X.w) p (kV_is ry) hd r) ⟨vs, dd, hv, fun v hv => ?_, fun hn h' dd' hs => ?_⟩
  · have rv := rel.val k
    rw [hv] at rv
    cases qv : valV kvs k with
    | none => rw [qv] at rv; exact (show False from rv).elim
    | some x =>
      rw [qv] at rv
      exact ⟨x, H, I.tok _, rv, q1 x qv⟩
  · have rv := rel.val k
    rw [hn] at rv
    cases qv : valV kvs k with
    | some x => rw [qv] at rv; exact (show False from rv).elim
    | none =>
      have he : ∃ q, h'.get? p = some q := let ⟨q, _, _, hq, _⟩ := dd'; ⟨q, hq⟩
      exact ⟨z, _, d_write I (by rw [e]; exact True.intro) hs he (dk_new hput hd (rel.put k rz) dd'), rz, q2 qv⟩
theorem pe_sdf {td ty tx : TE} (hu : X.A.units + 10 < cLine) (ho : PE X o td) (ha : PE X a ty) (hb : PE X b tx) (m : M2 X o "setdefault" apos a b cpos) : PE X (.Call (.Attribute o "setdefault" apos) [a, b] [] cpos) (tSdfN (KW X) td ty tx) := by
  refine ⟨fun pins s σ H Q I h => ?_⟩
  refine wpAny_Call_method m.base m.few m.line PySem.F.plainAttrs_dict PySem.F.slot_dict_setdefault PySem.F.type_dict_setdefault (thn (ho.run pins s σ H _ I h) fun u s1 ⟨x, H1, I1, rx, p, ex, d, q1⟩ => ?_)
  subst ex
  cases rx
  obtain ⟨t1, t2, _⟩ : s1.TypeIs (.ref p) "dict" ∧ (∀ b, Value.ref p = .ref b → ∃ ob, s1.heap.get? b = some ob ∧ ob.dict = none) ∧ (p == sysModules) = false := by
    rcases d with d | ⟨xs, d⟩
    · exact isD_at I1 d
    · exact rdn_type I1 d
  refine ⟨t1, t2, ?_⟩
  rw [m.trees]
  refine Calls.callWith_builtin rfl (Calls.evalArgs_plain (Calls.spliced_cons (thn (ha.run pins s1 σ H1 _ I1 q1) fun iv s2 ⟨y, H2, I2, ry, q2⟩ => ?_)))
  refine Calls.spliced_cons (thn (hb.run pins s2 σ H2 _ I2 q2) fun fv s3 ⟨z, H3, I3, rz, hq⟩ => Calls.spliced_nil ?_)
  rcases hq with ⟨kvs, k, e, ey, hl, w1, w2⟩ | ⟨xs, b, k, e, hx, ey, kat, hl, w1, w2⟩
  · subst ey
    exact d_sdf I3 e ry rz hl w1 w2
  · subst ey
    cases ry
    exact n_sdf2 hu I3 e hx kat rz hl w1 w2
def sdfDN (j : Nat) (ks vs : List D) (yd dv : D) (ρ : DSt) (s : Sto) : Res Out := match isNK yd with
  | some q => if ks.length < 16777216 then .ok (.nx (if (dgetN ks vs q).isSome = true then ρ else ρ.set j (.ow (.dnt (dputNK ks vs yd q) (dputNV ks vs q dv))))) s else .bad
  | none => .bad
def sSdf (j : Nat) (fa fb : E) : S := fun ρ s => match ρ[j]? with
  | some (.ow (.dct ks vs)) => (fa ρ s).bind fun y s1 => (fb ρ s1).bind fun z s2 => (match z.keep with
    | ⟨.cl, dv⟩ => (match keyD y.d with
      | some q => if ks.length < 16777216 then .ok (.nx (if (dget ks vs q).isSome = true then ρ else ρ.set j (.ow (.dct (dputK ks vs q) (dputV ks vs q dv))))) s2 else .bad
      | none => if ks.isEmpty = true ∧ vs.isEmpty = true then sdfDN j [] [] y.d dv ρ s2 else .bad)
    | _ => .bad)
  | some (.ow (.dnt ks vs)) => (fa ρ s).bind fun y s1 => (fb ρ s1).bind fun z s2 => (match z.keep with
    | ⟨.cl, dv⟩ => sdfDN j ks vs y.d dv ρ s2
    | _ => .bad)
  | _ => .bad
theorem ds_sdf {j : Nat} {y : Str} {py : Pos} (hu : X.A.units + 10 < cLine) (hN : X.N[j]? = some y) (hv : Vis X.env.scope y) (hd : (y == ("__debug__" : Str)) = false) (hcd : (y == ("__classdict__" : Str)) = false) (ha : DE X W a fa) (hb : DE X W b fb) (m : M2 X (.Name y py) "setdefault" apos a b cpos)
    (hsw : swapsWith (.Call (.Attribute (.Name y py) "setdefault" apos) [a, b] [] cpos) none pos.line X.env = pure false) : DS X W (.Expr (.Call (.Attribute (.Name y py) "setdefault" apos) [a, b] [] cpos) pos) (sSdf j fa fb) :=
  PS.weak (ps_expr (pe_sdf hu (pe_var hN hv hd hcd) ha hb m) hsw) fun Z σ H ⟨C, R, ρ, s, x, h⟩ => by
    have dn : ∀ {dv : D} {ks vs : List D} {d : D} {C1 C3 : Cn} {R1 R3 H1 H3 : Hp} {s1 s3 : Sto} {v w : V} {tv : TV} {p : Addr}, ρ[j]? = some (.ow d) → (d = .dnt ks vs ∨ (d = .dct [] [] ∧ ks = [] ∧ vs = [])) → σ[j]? = some (some (.ref p)) → C.Le C3 → Same R R3 → Rel (KW X) X.mg C3 R3 ρ σ H3 s3 → VRep (KW X) X.mg C3 R3 ρ σ H3 v tv.keep → Rep (KW X) X.mg C3.L R3 w dv →
        PostS (KW X) X.mg W σ.length C1 R1 (OkS (KW X) X.mg σ.length C R Z) (sdfDN j ks vs tv.d dv ρ s3) → (∃ kvs k, H3 p = some (.dK kvs) ∧ v = kV k ∧ kvs.length < sizeLine ∧ (∀ u, valV kvs k = some u → Z.nx σ H3) ∧ (valV kvs k = none → Z.nx σ (upd H3 p (.dK (putK kvs k w))))) ∨
          ∃ xs b k, (H3 p = some (DNO (KW X) p xs) ∨ (xs = [] ∧ H3 p = some (.dK []))) ∧ XsOk X.K H3 xs ∧ v = .ref b ∧ KAt X.K H3 b k ∧ xs.length < sizeLine ∧ (∀ u, valN xs k = some u → Z.nx σ H3) ∧ (valN xs k = none → Z.nx σ (upd H3 p (DNO (KW X) p (putN xs k b w)))) := by
      intro dv ks vs d C1 C3 R1 R3 H1 H3 s1 s3 v w tv p hj hd hp l3 r3 x3 v3 rw3 h3
      have lk := VRep.look x3 v3
      rw [TV.keep_d] at lk
      unfold sdfDN at h3
      split at h3
      · rename_i q eq
        split at h3
        · rename_i hlen
          obtain ⟨p', xs, hp', e, k1, k2, k3, k4⟩ := top_dn x3 hj hd
          rw [hp] at hp'
          cases hp'
          obtain ⟨b, rfl, kat, rb⟩ := kat_of x3.bas.sub eq lk
          obtain ⟨n1, n2, _⟩ := isNK_is eq
          obtain ⟨d1, d2, d3⟩ := dputN_rep (q := q) k1 k2 k3 rb n1 n2 rw3
          have hlen : xs.length < sizeLine := by
            have := k2.length
            rw [List.length_map] at this
            rw [sizeLine_eq]
            omega
          have di := dgetN_is (q := q) k1.1 k3
          refine .inr ⟨xs, b, q, e, xsOk_of x3.bas.sub k1 k2, rfl, kat, hlen, fun u hu => ?_, fun hn => ?_⟩
          · rw [hu] at di
            have e : (dgetN ks vs q).isSome = true := di.symm
            rw [if_pos e] at h3
            exact h3 σ C3 R3 _ l3 r3 x3 rfl
          · rw [hn] at di
            have e : ¬ (dgetN ks vs q).isSome = true := by rw [← di]; exact Bool.false_ne_true
            rw [if_neg e] at h3
            exact h3 σ C3 R3 _ l3 r3 (x3.write hj hp ⟨_, upd_same, d1, d2, d3⟩ k4) rfl
        · exact h3.elim
      · exact h3.elim
    unfold sSdf at h
    split at h
    · rename_i ks vs hj
      obtain ⟨p, hp, ht, _⟩ := x.own j _ hj
      obtain ⟨kvs0, hk0, _, _⟩ := ht
      refine ⟨.ref p, hp, p, rfl, .inl (.inl ⟨kvs0, .inl hk0⟩), ?_⟩
      refine sE x h fun tv s1 v C1 R1 H1 l1 r1 x1 v1 h1 => ?_
      obtain ⟨R1', rk, x1', v1'⟩ := x1.kept v1
      refine sE x1' (PostS.mono l1 (L2.Same.trans r1 rk) (fun _ _ z => z) h1) fun tw s2 w C2 R2 H2 l2 r2 x2 v2 h2 => ?_
      obtain ⟨R3, r3, x3, v3⟩ := x2.kept v2
      have vk : VRep (KW X) X.mg C2 R3 ρ σ H2 v tv.keep := v1'.mono l2 (L2.Same.trans r2 r3) tv.keep_nf
      have rr := L2.Same.trans r1 (L2.Same.trans rk (L2.Same.trans r2 r3))
      split at h2
      · rename_i dv ez
        rw [ez] at v3
        have v3 : Rep (KW X) X.mg C2.L R3 w dv := v3
        split at h2
        · rename_i q ek
          split at h2
          · rename_i hlen
            have lk := VRep.look x3 vk
            rw [TV.keep_d] at lk
            have ey := key_val ek lk
            obtain ⟨p', hp', ⟨kvs, hk, eks, ra⟩, _⟩ := x3.own j _ hj
            rw [hp] at hp'
            cases hp'
            subst eks
            have hlen : kvs.length < sizeLine := by
              rw [List.length_map] at hlen
              exact hlen
            obtain ⟨d1, d2⟩ := dput_rep (q := q) ra v3
            have di := dget_is (q := q) ra
            refine .inl ⟨kvs, q, hk, ey, hlen, fun u hu => ?_, fun hn => ?_⟩
            · rw [hu] at di
              have e : (dget (kds kvs) vs q).isSome = true := di.symm
              rw [if_pos e] at h2
              exact h2 σ C2 R3 _ (l1.trans l2) rr x3 rfl
            · rw [hn] at di
              have e : ¬ (dget (kds kvs) vs q).isSome = true := by rw [← di]; exact Bool.false_ne_true
              rw [if_neg e] at h2
              exact h2 σ C2 R3 _ (l1.trans l2) rr (x3.write hj hp ⟨_, upd_same, d1, d2⟩ (fun z => by rw [hk]; exact fun e => nomatch e)) rfl
          · exact h2.elim
        · split at h2
          · rename_i hem
            rw [List.isEmpty_iff, List.isEmpty_iff] at hem
            obtain ⟨rfl, rfl⟩ := hem
            exact dn (H1 := H) (s1 := s) hj (.inr ⟨rfl, rfl, rfl⟩) hp (l1.trans l2) rr x3 vk v3 h2
          · exact h2.elim
      · exact h2.elim
    · rename_i ks vs hj
      obtain ⟨p, hp, ht, _⟩ := x.own j _ hj
      obtain ⟨xs0, hk0, _⟩ := ht
      refine ⟨.ref p, hp, p, rfl, .inr ⟨xs0, .inl (.inl hk0)⟩, ?_⟩
      refine sE x h fun tv s1 v C1 R1 H1 l1 r1 x1 v1 h1 => ?_
      obtain ⟨R1', rk, x1', v1'⟩ := x1.kept v1
      refine sE x1' (PostS.mono l1 (L2.Same.trans r1 rk) (fun _ _ z => z) h1) fun tw s2 w C2 R2 H2 l2 r2 x2 v2 h2 => ?_
      obtain ⟨R3, r3, x3, v3⟩ := x2.kept v2
      have vk : VRep (KW X) X.mg C2 R3 ρ σ H2 v tv.keep := v1'.mono l2 (L2.Same.trans r2 r3) tv.keep_nf
      have rr := L2.Same.trans r1 (L2.Same.trans rk (L2.Same.trans r2 r3))
      split at h2
      · rename_i dv ez
        rw [ez] at v3
        have v3 : Rep (KW X) X.mg C2.L R3 w dv := v3
        exact dn (H1 := H) (s1 := s) hj (.inl rfl) hp (l1.trans l2) rr x3 vk v3 h2
      · exact h2.elim
    · exact h.elim
/-! ### list(d), as a call -/
def rLKeys : List V → Hp → VK → Prop := fun vs H Q => ∃ p kvs, vs = [V.ref p] ∧ Rd H p (.dK kvs) ∧ ∀ z, H z = none → Q (.ref z) (upd H z (.lst (kvs.map fun q => kV q.1)))
theorem cr_lkeys (hc : X.calm = true) : CallR X (.type "list") rLKeys := by
  intro pins s σ H vs us Q I r h
  obtain ⟨p, kvs, rfl, ha, q⟩ := h
  rw [Vals.ref1 r]
  obtain ⟨hz, hsys, vs, rel, dof⟩ := dk_rd I.hok ha
  obtain ⟨ep, dat⟩ := dof.dictAt
  have hl : kvs.length = vs.length := Paired.length rel
  refine PySem.W.kdl_call (PySem.W.kdl_dict (knd := mixKind X.prog X.w) (d := p) (kvs := vs) (ep := ep) hsys) (I.ok.hd hc) dat (by rw [← hl]; exact hz) fun h' tk acc c hk hS hacc => ?_
  have hv : Vals (kvs.map fun q => kV q.1) acc.toList := keys_vals rel acc.toList (by rw [Array.length_toList, hl]; exact hacc.1) fun j u e => hacc.2 j u (by rw [← Array.getElem?_toList]; exact e)
  exact ⟨.ref _, _, I.laid (t' := tk) (o := .lst (kvs.map fun q => kV q.1)) hk (Nat.le_refl _) ⟨by rw [List.length_map]; exact hz, acc.toList, c, hv, by rw [Array.toArray_toList]; exact hS⟩, rfl, q _ (I.hok.fresh (Nat.le_refl _))⟩
def bLKeys : List D → Option TV
  | [d] => (dctOf d).map fun kv => ⟨.fr, .lst kv.1⟩
  | _ => none
def rLKeysN (K : Kw) : List V → Hp → VK → Prop := fun vs H Q => ∃ p xs, vs = [V.ref p] ∧ Rd H p (DNO K p xs) ∧ ∀ z, H z = none → Q (.ref z) (upd H z (.lst (xs.map fun q => V.ref q.2.1)))
theorem cr_lkeysN (hc : X.calm = true) : CallR X (.type "list") (rLKeysN (KW X)) := by
  intro pins s σ H vs us Q I r h
  obtain ⟨p, xs, rfl, ha, q⟩ := h
  rw [Vals.ref1 r]
  obtain ⟨hsys, es, ep, raw, hsz, hle, _, hv⟩ := rdn_raw I ha
  refine PySem.W.kdl_call (kdlR_dict (d := p) (es := es) (ep := ep) hsys) (I.ok.hd hc) raw hle fun h' tk acc c hk hS hacc => ?_
  have vv := hv acc.toList (by rw [Array.length_toList]; exact hacc.1) fun i u e => hacc.2 i u (by rw [← Array.getElem?_toList]; exact e)
  exact ⟨.ref _, _, I.laid (t' := tk) (o := .lst (xs.map fun q => V.ref q.2.1)) hk (Nat.le_refl _) ⟨by rw [List.length_map]; omega, acc.toList, c, vv, by rw [Array.toArray_toList]; exact hS⟩, rfl, q _ (I.hok.fresh (Nat.le_refl _))⟩
def bLKeysN : List D → Option TV
  | [d] => (dntOf d).map fun kv => ⟨.fr, .lst kv.1⟩
  | _ => none
theorem bl_lkeysN {K : Kw} {mg : Str → Option Value} : BL K mg (rLKeysN K) bLKeysN := by
  intro C R ρ σ H s vs ds tv Q rel ps e ok
  unfold bLKeysN at e
  split at e
  · rename_i d
    rw [Option.map_eq_some_iff] at e
    obtain ⟨⟨ks, ws⟩, q, rfl⟩ := e
    obtain ⟨v, rfl, h⟩ := ps.one
    obtain ⟨p, xs, rfl, hr, hk, ra, _⟩ := dnt_at rel.bas.sub q h
    exact ⟨p, xs, rfl, hr, fun z hz => ok _ C R _ (.refl C) (L2.Same.refl R) (rel.allocF hz) (rel.fresh hz ⟨_, upd_same, ra⟩)⟩
  · cases e
theorem bl_lkeys {K : Kw} {mg : Str → Option Value} : BL K mg rLKeys bLKeys := by
  intro C R ρ σ H s vs ds tv Q rel ps e ok
  unfold bLKeys at e
  split at e
  · rename_i d
    cases q : dctOf d with
    | none => rw [q] at e; cases e
    | some kv =>
      rw [q] at e
      cases e
      obtain ⟨ks, ws⟩ := kv
      obtain ⟨v, rfl, h⟩ := ps.one
      obtain ⟨p, kvs, rfl, hr, eks, ra⟩ := dct_at rel.bas.sub q h
      refine ⟨p, kvs, rfl, hr, fun z hz => ?_⟩
      have eks : ks = kds kvs := eks
      subst eks
      exact ok _ C R _ (.refl C) (L2.Same.refl R) (rel.allocF hz) (rel.fresh hz ⟨_, upd_same, rep_keys kvs⟩)
  · cases e
end
theorem CallR.or {X : Cx} {f : Value} {r r' : List V → Hp → VK → Prop} (h : CallR X f r) (h' : CallR X f r') : CallR X f (fun vs H Q => r vs H Q ∨ r' vs H Q) := by
  intro pins s σ H vs us Q I rv q
  rcases q with q | q
  · exact h pins s σ H vs us Q I rv q
  · exact h' pins s σ H vs us Q I rv q
end UW
namespace UW
open PySem PySem.Spec PyProof.Rows L2
theorem beqD {α : Type} [BEq α] [LawfulBEq α] [DecidableEq α] (a b : α) : (a == b) = decide (a = b) := by
  rw [Bool.eq_iff_iff, beq_iff_eq, decide_eq_true_eq]
def D.eq2 (a b : D) : Bool := PyData.eqv a.pd b.pd
def eq2s : List D → List D → Bool
  | [], [] => true
  | a :: r, b :: t => a.eq2 b && eq2s r t
  | _, _ => false
theorem eqvAll_pds : ∀ xs ys : List D, PyData.eqvAll (D.pds xs) (D.pds ys) = eq2s xs ys
  | [], [] => by simp [D.pds, PyData.eqvAll, eq2s]
  | [], _ :: _ => by simp [D.pds, PyData.eqvAll, eq2s]
  | _ :: _, [] => by simp [D.pds, PyData.eqvAll, eq2s]
  | x :: xs, y :: ys => by
    rw [D.pds, D.pds, PyData.eqvAll, eq2s, eqvAll_pds xs ys]
    rfl
@[simp] theorem eq2_tup {xs ys : List D} : (D.tup xs).eq2 (.tup ys) = eq2s xs ys := by
  unfold D.eq2
  rw [D.pd, D.pd, PyData.eqv, eqvAll_pds]
@[simp] theorem eq2_lst {xs ys : List D} : (D.lst xs).eq2 (.lst ys) = eq2s xs ys := by
  unfold D.eq2
  rw [D.pd, D.pd, PyData.eqv, eqvAll_pds]
@[simp] theorem eq2_int {x y : Int} : (D.int x).eq2 (.int y) = decide (x = y) := by
  unfold D.eq2
  rw [D.pd, D.pd, PyData.eqv]
  exact beqD x y
@[simp] theorem eq2_str {x y : Str} : (D.str x).eq2 (.str y) = decide (x = y) := by
  unfold D.eq2
  rw [D.pd, D.pd, PyData.eqv]
  exact beqD x y
@[simp] theorem eq2_bl {x y : Bool} : (D.bl x).eq2 (.bl y) = decide (x = y) := by
  unfold D.eq2
  rw [D.pd, D.pd, PyData.eqv]
  exact beqD x y
@[simp] theorem eq2s_nil : eq2s [] [] = true := rfl
@[simp] theorem eq2s_cons {a b : D} {r t : List D} : eq2s (a :: r) (b :: t) = (a.eq2 b && eq2s r t) := rfl
@[simp] theorem eq2s_nc {b : D} {t : List D} : eq2s [] (b :: t) = false := rfl
@[simp] theorem eq2s_cn {b : D} {t : List D} : eq2s (b :: t) [] = false := rfl

def ltD (a b : D) : Bool := PySem.W.dataLt a.pd b.pd
theorem leD_is (a b : D) : leD a b = !ltD b a := rfl
theorem lt_irr (a : D) : ltD a a = false := lex_irrefl _
theorem lt_tr {a b c : D} (h1 : ltD a b = true) (h2 : ltD b c = true) : ltD a c = true := lex_trans _ _ _ h1 h2
theorem leD_total (a b : D) : (leD a b || leD b a) = true := by
  rw [leD_is, leD_is]
  cases h : ltD b a with
  | false => rfl
  | true =>
    cases h2 : ltD a b with
    | false => rfl
    | true =>
      have := lt_tr h h2
      rw [lt_irr] at this
      cases this
theorem leD_trans (a b c : D) (h1 : leD a b = true) (h2 : leD b c = true) : leD a c = true := by
  rw [leD_is] at h1 h2 ⊢
  cases h : ltD c a with
  | false => rfl
  | true =>
    rcases lex_negTrans _ (PySem.W.keyToks b.pd) _ h with z | z
    · have z : ltD c b = true := z
      rw [z] at h2
      cases h2
    · have z : ltD b a = true := z
      rw [z] at h1
      cases h1
theorem sortD_perm (ds : List D) : (sortD ds).Perm ds := List.mergeSort_perm ds leD
theorem sortD_pw (ds : List D) : (sortD ds).Pairwise fun a b => leD a b = true := List.pairwise_mergeSort leD_trans leD_total ds
theorem sortD_mem {ds : List D} {d : D} : d ∈ sortD ds ↔ d ∈ ds := (sortD_perm ds).mem_iff
theorem sortD_len (ds : List D) : (sortD ds).length = ds.length := (sortD_perm ds).length_eq
theorem eq2_of_nlt {a b : D} (al : PySem.W.alike a.pd b.pd = true) (h1 : ltD a b = false) (h2 : ltD b a = false) : a.eq2 b = true := by
  have e := lex_total _ _ h1 h2
  cases q : a.eq2 b with
  | true => rfl
  | false =>
    have z := (PySem.W.toks_eqv a.pd b.pd al).2 q [] [Sum.inl 0]
    rw [e, lex_irrefl] at z
    have z2 : ∀ l : List (Int ⊕ List Nat), PyProof.Rows.lexLt itemOrd (l ++ []) (l ++ [Sum.inl 0]) = true := by
      intro l
      rw [PySem.W.lex_pre]
      rfl
    rw [z2] at z
    cases z

/-! ### the key that data are -/
mutual
def D.nk : D → Option NK
  | .non => some .none
  | .int i => some (.num i)
  | .str x => some (.text x)
  | .tup ds => (D.nks ds).map .tup
  | _ => none
def D.nks : List D → Option (List NK)
  | [] => some []
  | d :: ds => (D.nk d).bind fun k => (D.nks ds).map (k :: ·)
end
mutual
def nkd : NK → D
  | .none => .non
  | .num i => .int i
  | .text x => .str x
  | .tup ks => .tup (nkds ks)
def nkds : List NK → List D
  | [] => []
  | k :: ks => nkd k :: nkds ks
end
theorem nkds_map : ∀ ks : List NK, nkds ks = ks.map nkd
  | [] => by rw [nkds]; rfl
  | k :: ks => by rw [nkds, nkds_map ks]; rfl
mutual
theorem nk_inv : ∀ (d : D) {k : NK}, d.nk = some k → nkd k = d
  | .non, _, h => by rw [D.nk] at h; cases h; rw [nkd]
  | .int i, _, h => by rw [D.nk] at h; cases h; rw [nkd]
  | .str x, _, h => by rw [D.nk] at h; cases h; rw [nkd]
  | .tup ds, k, h => by
    rw [D.nk, Option.map_eq_some_iff] at h
    obtain ⟨ks, h1, rfl⟩ := h
    rw [nkd, nks_inv ds h1]
  | .bl _, _, h => by simp [D.nk] at h
  | .lst _, _, h => by simp [D.nk] at h
  | .dct _ _, _, h => by simp [D.nk] at h
  | .ref _, _, h => by simp [D.nk] at h
  | .fn _, _, h => by simp [D.nk] at h
  | .exc _, _, h => by simp [D.nk] at h
  | .scr _, _, h => by simp [D.nk] at h
  | .fdc _ _, _, h => by simp [D.nk] at h
  | .dnt _ _, _, h => by simp [D.nk] at h
  | .fdn _ _, _, h => by simp [D.nk] at h
  | .tpw _, _, h => by simp [D.nk] at h
theorem nks_inv : ∀ (ds : List D) {ks : List NK}, D.nks ds = some ks → nkds ks = ds
  | [], _, h => by rw [D.nks] at h; cases h; rw [nkds]
  | d :: ds, _, h => by
    rw [D.nks, Option.bind_eq_some_iff] at h
    obtain ⟨k, h1, h2⟩ := h
    rw [Option.map_eq_some_iff] at h2
    obtain ⟨ks, h3, rfl⟩ := h2
    rw [nkds, nk_inv d h1, nks_inv ds h3]
end
mutual
theorem nk_nkd : ∀ k : NK, (nkd k).nk = some k
  | .none => by rw [nkd, D.nk]
  | .num _ => by rw [nkd, D.nk]
  | .text _ => by rw [nkd, D.nk]
  | .tup ks => by rw [nkd, D.nk, nks_nkds ks]; rfl
theorem nks_nkds : ∀ ks : List NK, D.nks (nkds ks) = some ks
  | [] => by rw [nkds, D.nks]
  | k :: ks => by rw [nkds, D.nks, nk_nkd k, nks_nkds ks]; rfl
end
theorem nkd_inj {a b : NK} (h : nkd a = nkd b) : a = b := by
  have e := nk_nkd a
  rw [h, nk_nkd b] at e
  exact (Option.some.inj e).symm
mutual
theorem plain_nkd : ∀ k : NK, (nkd k).plain = true
  | .none => by rw [nkd, D.plain]
  | .num _ => by rw [nkd, D.plain]
  | .text _ => by rw [nkd, D.plain]
  | .tup ks => by rw [nkd, D.plain, plains_nkds ks]
theorem plains_nkds : ∀ ks : List NK, D.plains (nkds ks) = true
  | [] => by rw [nkds, D.plains]
  | k :: ks => by rw [nkds, D.plains, plain_nkd k, plains_nkds ks]; rfl
end
mutual
theorem reads_key {h : Heap} : ∀ (k : NK) {v : Value} {as : List Addr}, Reads h v (nkd k).pd as → NestedIs h k v
  | .none, _, _, r => by rw [nkd, D.pd] at r; cases r; exact .none; all_goals simp
  | .num i, _, _, r => by rw [nkd, D.pd] at r; cases r; exact .int _ _
  | .text x, _, _, r => by rw [nkd, D.pd] at r; cases r; exact .text _ _
  | .tup ks, _, _, r => by
    rw [nkd, D.pd] at r
    cases r with
    | tuple h1 h2 h3 h4 => exact .tup h1 h2 h3 (reads_keys ks h4)
theorem reads_keys {h : Heap} : ∀ (ks : List NK) {vs : List Value} {as : List Addr}, ReadsAll h vs (D.pds (nkds ks)) as → NestedAll h ks vs
  | [], _, _, r => by rw [nkds, D.pds] at r; cases r; exact .nil
  | k :: ks, _, _, r => by
    rw [nkds, D.pds] at r
    cases r with
    | cons h1 h2 => exact .cons (reads_key k h1) (reads_keys ks h2)
end
/-- each once -/
def ddup {α : Type} [DecidableEq α] : List α → List α
  | [] => []
  | a :: r => if a ∈ r then ddup r else a :: ddup r
theorem ddup_mem {α : Type} [DecidableEq α] {x : α} : ∀ {l : List α}, x ∈ ddup l ↔ x ∈ l
  | [] => Iff.rfl
  | a :: r => by
    unfold ddup
    split
    · rename_i h
      rw [ddup_mem, List.mem_cons]
      exact ⟨.inr, fun z => z.elim (fun e => e ▸ h) id⟩
    · rw [List.mem_cons, List.mem_cons, ddup_mem]
theorem ddup_nd {α : Type} [DecidableEq α] : ∀ (l : List α), (ddup l).Nodup
  | [] => List.nodup_nil
  | a :: r => by
    unfold ddup
    split
    · exact ddup_nd r
    · rename_i h
      exact List.nodup_cons.mpr ⟨fun z => h (ddup_mem.mp z), ddup_nd r⟩
theorem ddup_le {α : Type} [DecidableEq α] : ∀ (l : List α), (ddup l).length ≤ l.length
  | [] => Nat.le_refl 0
  | a :: r => by
    unfold ddup
    split
    · exact Nat.le_succ_of_le (ddup_le r)
    · exact Nat.succ_le_succ (ddup_le r)
theorem ddup_id {α : Type} [DecidableEq α] : ∀ {l : List α}, l.Nodup → ddup l = l
  | [], _ => rfl
  | a :: r, h => by
    rw [List.nodup_cons] at h
    rw [ddup, if_neg h.1, ddup_id h.2]
theorem ddup_map {α β : Type} [DecidableEq α] [DecidableEq β] (f : α → β) : ∀ {l : List α}, (∀ a, a ∈ l → ∀ b, b ∈ l → f a = f b → a = b) → ddup (l.map f) = (ddup l).map f
  | [], _ => rfl
  | a :: r, h => by
    have ih := ddup_map f (l := r) fun x hx y hy => h x (List.mem_cons_of_mem _ hx) y (List.mem_cons_of_mem _ hy)
    rw [List.map_cons, ddup, ddup]
    by_cases c : a ∈ r
    · rw [if_pos c, if_pos (List.mem_map.mpr ⟨a, c, rfl⟩), ih]
    · rw [if_neg c, if_neg, ih, List.map_cons]
      intro z
      obtain ⟨b, hb, e⟩ := List.mem_map.mp z
      exact c (h b (List.mem_cons_of_mem _ hb) a List.mem_cons_self e ▸ hb)
def dedD (ds : List D) : List D := (ddup (ds.filterMap D.nk)).map nkd
theorem keyd_map {ds : List D} (h : ∀ d, d ∈ ds → d.nk.isSome = true) : (ds.filterMap D.nk).map nkd = ds := by
  induction ds with
  | nil => rfl
  | cons d ds ih =>
    obtain ⟨k, e⟩ := Option.isSome_iff_exists.mp (h d List.mem_cons_self)
    rw [List.filterMap_cons_some e, List.map_cons, nk_inv d e, ih fun x hx => h x (List.mem_cons_of_mem _ hx)]
theorem dedD_nkd (ks : List NK) : dedD (ks.map nkd) = (ddup ks).map nkd := by
  unfold dedD
  have e : (ks.map nkd).filterMap D.nk = ks := by
    rw [List.filterMap_map]
    rw [show (D.nk ∘ nkd) = some from funext nk_nkd, List.filterMap_some]
  rw [e]
-- two keys that compare as equal are one
mutual
theorem eq2_nkd : ∀ (a b : NK), (nkd a).eq2 (nkd b) = true → a = b
  | .none, .none, _ => rfl
  | .num i, .num j, h => by rw [nkd, nkd, eq2_int, decide_eq_true_eq] at h; rw [h]
  | .text i, .text j, h => by rw [nkd, nkd, eq2_str, decide_eq_true_eq] at h; rw [h]
  | .tup xs, .tup ys, h => by rw [nkd, nkd, eq2_tup] at h; rw [eq2s_nkds xs ys h]
  | .none, .num _, h => by simp [nkd, D.eq2, D.pd, PyData.eqv] at h
  | .none, .text _, h => by simp [nkd, D.eq2, D.pd, PyData.eqv] at h
  | .none, .tup _, h => by simp [nkd, D.eq2, D.pd, PyData.eqv] at h
  | .num _, .none, h => by simp [nkd, D.eq2, D.pd, PyData.eqv] at h
  | .num _, .text _, h => by simp [nkd, D.eq2, D.pd, PyData.eqv] at h
  | .num _, .tup _, h => by simp [nkd, D.eq2, D.pd, PyData.eqv] at h
  | .text _, .none, h => by simp [nkd, D.eq2, D.pd, PyData.eqv] at h
  | .text _, .num _, h => by simp [nkd, D.eq2, D.pd, PyData.eqv] at h
  | .text _, .tup _, h => by simp [nkd, D.eq2, D.pd, PyData.eqv] at h
  | .tup _, .none, h => by simp [nkd, D.eq2, D.pd, PyData.eqv] at h
  | .tup _, .num _, h => by simp [nkd, D.eq2, D.pd, PyData.eqv] at h
  | .tup _, .text _, h => by simp [nkd, D.eq2, D.pd, PyData.eqv] at h
theorem eq2s_nkds : ∀ (xs ys : List NK), eq2s (nkds xs) (nkds ys) = true → xs = ys
  | [], [], _ => rfl
  | [], _ :: _, h => by rw [nkds, nkds] at h; cases h
  | _ :: _, [], h => by rw [nkds, nkds] at h; cases h
  | x :: xs, y :: ys, h => by
    rw [nkds, nkds, eq2s_cons, Bool.and_eq_true] at h
    rw [eq2_nkd x y h.1, eq2s_nkds xs ys h.2]
end
/-- two lists in order, of the same things, are one -/
theorem sorted_one {l l' : List D} (hp : l.Perm l') (h : l.Pairwise fun a b => leD a b = true) (h' : l'.Pairwise fun a b => leD a b = true) (as : ∀ a, a ∈ l → ∀ b, b ∈ l → leD a b = true → leD b a = true → a = b) : l = l' := by
  induction l generalizing l' with
  | nil => exact (List.nil_perm.mp hp).symm
  | cons a l ih =>
    cases l' with
    | nil => exact absurd (List.perm_nil.mp hp) (by simp)
    | cons b m =>
      have e : a = b := by
        have ha := hp.mem_iff.mp (List.mem_cons_self (a := a) (l := l))
        have hb := hp.mem_iff.mpr (List.mem_cons_self (a := b) (l := m))
        rw [List.pairwise_cons] at h h'
        rcases List.mem_cons.mp ha with e | ha
        · exact e
        · rcases List.mem_cons.mp hb with e | hb'
          · exact e.symm
          · exact as a List.mem_cons_self b hb (h.1 b hb') (h'.1 a ha)
      subst e
      rw [ih ((List.perm_cons a).mp hp) h.of_cons h'.of_cons fun x hx y hy => as x (List.mem_cons_of_mem _ hx) y (List.mem_cons_of_mem _ hy)]
theorem leD_one {ks : List NK} (al : ∀ a, a ∈ ks → ∀ b, b ∈ ks → PySem.W.alike (nkd a).pd (nkd b).pd = true) {a b : D} (ha : a ∈ ks.map nkd) (hb : b ∈ ks.map nkd) (h1 : leD a b = true) (h2 : leD b a = true) : a = b := by
  obtain ⟨x, hx, rfl⟩ := List.mem_map.mp ha
  obtain ⟨y, hy, rfl⟩ := List.mem_map.mp hb
  rw [leD_is] at h1 h2
  have e := eq2_of_nlt (al x hx y hy) (by simpa using h2) (by simpa using h1)
  rw [eq2_nkd x y e]
theorem sortD_one {ks ks' : List NK} (hp : ks.Perm ks') (al : ∀ a, a ∈ ks → ∀ b, b ∈ ks → PySem.W.alike (nkd a).pd (nkd b).pd = true) : sortD (ks.map nkd) = sortD (ks'.map nkd) := by
  refine sorted_one ((sortD_perm _).trans ((hp.map nkd).trans (sortD_perm _).symm)) (sortD_pw _) (sortD_pw _) fun a ha b hb h1 h2 => ?_
  exact leD_one al (sortD_mem.mp ha) (sortD_mem.mp hb) h1 h2
/-! ### the set in the layer -/
structure SetN0 (w : World) (h : Heap) (a : Addr) (L : List AK) : Prop where
  ex : ∃ (es : Array (Int × Value)) (ep : Nat) (t : SetTable), (∃ o, h.get? a = some o ∧ o.ExactSet ∧ o.data = .set es ep t) ∧ es.toList = L.map (rowOf w) ∧ TabOk t (L.map (hOf w)) ∧ (L.map (·.2)).Nodup ∧
    (w.params.followText "set-order" = true ∨ t.led = true) ∧ L.length * 5 < t.mask * 3 ∧ L.length < 64
def SetNO (w : World) (a : Addr) (L : List AK) : HO := .ext fun h => SetN0 w h a L
theorem NSet.n0 {w : World} {h : Heap} {a : Addr} {L : List AK} {es : Array (Int × Value)} {ep : Nat} {t : SetTable} (R : NSet w h a L es ep t) : SetN0 w h a L :=
  ⟨es, ep, t, R.ob, R.rows, R.tab, R.nd, R.led, R.room, R.few⟩
theorem SetN0.full {w : World} {h : Heap} {a : Addr} {L : List AK} (R : SetN0 w h a L) (ht : ∀ p ∈ L, KIs h p.2 p.1) : ∃ es ep t, NSet w h a L es ep t := by
  obtain ⟨es, ep, t, h1, h2, h3, h4, h5, h6, h7⟩ := R.ex
  exact ⟨es, ep, t, h1, h2, h3, h4, ht, h5, h6, h7⟩
theorem setNO_new {P : Program} {w : World} {H : Hp} {h : Heap} {a : Addr} {L : List AK} (R : SetN0 w h a L) : ObjOk P w H h a (SetNO w a L) := by
  have ⟨es, ep, t, ⟨o, ho, r⟩, q⟩ := R.ex
  refine ⟨R, ⟨o, ho⟩, fun h1 h2 p k => ?_⟩
  have ⟨es', ep', t', ⟨o', ho', r'⟩, q'⟩ := SetN0.ex p
  exact ⟨es', ep', t', ⟨o', k o' ho', r'⟩, q'⟩
theorem refs_vals : ∀ {ks : List AK} {us : List Value}, Vals (ks.map fun p => V.ref p.1) us → us = ks.map fun p => Value.ref p.1
  | [], _, .nil => rfl
  | p :: ks, _, .cons r t => by
    cases r
    rw [refs_vals t]; rfl
theorem vals_refs : ∀ (ks : List AK), Vals (ks.map fun p => V.ref p.1) (ks.map fun p => Value.ref p.1)
  | [] => .nil
  | p :: ks => .cons rfl (vals_refs ks)
theorem inv_kis {X : Cx} {pins : List (Addr × Obj)} {σ : L2.St} {H : Hp} {s : Shared} {b : Addr} {k : NK} (I : Inv X pins σ H s) (h : Dp X.K H (.ref b) (nkd k).pd) (hd : k.depth ≤ 8) : KIs s.heap k b := by
  obtain ⟨as, r⟩ := Dp.reads I _ _ (.ref b) h rfl
  exact ⟨reads_key k r, hd⟩
/-- set(xs) of keys, of whole numbers -/
def rSetN (K : PySem.W.Frag) (w : World) : List V → Hp → VK → Prop := fun xs H Q => ∃ (l : Addr) (ks : List AK), xs = [V.ref l] ∧ (SqL K H l (ks.map fun p => V.ref p.1) ∨ SqT K H l (ks.map fun p => V.ref p.1)) ∧ (∀ p ∈ ks, Dp K H (.ref p.1) (nkd p.2).pd ∧ p.2.depth ≤ 8) ∧ ks.length < 64 ∧
  ∀ a L, H a = none → (∀ p ∈ L, p ∈ ks) → (∀ p ∈ ks, p.2 ∈ L.map (·.2)) → (L.map (·.2)).Nodup → Q (.ref a) (upd H a (SetNO w a L))
theorem cr_setN {X : Cx} (hc : X.calm = true) (hu : X.A.units + 64 < cLine) : CallR X (.type "set") (rSetN X.K X.w) := by
  intro pins s σ H xs us Q I r h
  obtain ⟨l, ks, rfl, hl, hk, hf, q⟩ := h
  rw [Vals.ref1 r]
  have hn : H s.heap.objs.size = none := I.hok.fresh (Nat.le_refl _)
  have fin : ∀ (h' : Heap) (tk : Nat) L es ep t, NSet X.w h' s.heap.objs.size L es ep t → KGot ks ks.length L → (∀ b o, s.heap.get? b = some o → h'.get? b = some o) → ∃ v H', Inv X pins σ H' { s with heap := h', toks := tk } ∧ RelV v (.ref s.heap.objs.size) ∧ Q v H' := fun h' tk L es ep t R g k => by
    refine ⟨.ref s.heap.objs.size, upd H s.heap.objs.size (SetNO X.w s.heap.objs.size L), I.laid (t' := tk) k (Nat.le_refl _) (setNO_new R.n0), rfl, q _ L hn (fun p hp => List.mem_of_mem_take (g.sub p hp)) (fun p hp => g.all p (by rw [List.take_length]; exact hp)) R.nd⟩
  rcases hl with hl | hl
  · obtain ⟨its, rv, pl, hz⟩ := I.list hl
    exact set_of_list ks (I.ok.hd hc) pl.isList (by simpa using refs_vals rv) (fun p hp => inv_kis I (hk p hp).1 (hk p hp).2) hf (by omega) fin
  · obtain ⟨its, rv, pl, hz⟩ := I.tuple hl
    exact set_of_tuple ks (I.ok.hd hc) pl (by simpa using refs_vals rv) (fun p hp => inv_kis I (hk p hp).1 (hk p hp).2) hf (by omega) fin
def rSetI (K : PySem.W.Frag) (w : World) : List V → Hp → VK → Prop := fun xs H Q => ∃ (l : Addr) (ns : List Int), xs = [V.ref l] ∧ (SqL K H l (ns.map V.int) ∨ SqT K H l (ns.map V.int)) ∧ ns.length < 64 ∧
  ∀ a c, H a = none → c ≤ ns.length → Q (.ref a) (upd H a (SetO w a (fun j => decide (j ∈ ns)) c))
theorem intsOf_vals : ∀ {ns : List Int} {us : List Value}, Vals (ns.map V.int) us → IntsAre us ns
  | [], _, .nil => .nil
  | n :: ns, _, .cons r t => by
    obtain ⟨k, rfl⟩ := r
    exact .cons n k (intsOf_vals t)
theorem cr_setI {X : Cx} (hc : X.calm = true) : CallR X (.type "set") (rSetI X.K X.w) := by
  intro pins s σ H xs us Q I r h
  obtain ⟨l, ns, rfl, hl, hf, q⟩ := h
  rw [Vals.ref1 r]
  have hn : H s.heap.objs.size = none := I.hok.fresh (Nat.le_refl _)
  have hb : ns.length + 1 < scanBound := by unfold scanBound; omega
  have fin : ∀ (h' : Heap) (tk c : Nat), SetR X.w h' s.heap.objs.size (fun j => decide (j ∈ ns)) c → c ≤ ns.length → (∀ b o, s.heap.get? b = some o → h'.get? b = some o) → ∃ v H', Inv X pins σ H' { s with heap := h', toks := tk } ∧ RelV v (.ref s.heap.objs.size) ∧ Q v H' := fun h' tk c R hc' k =>
    ⟨.ref s.heap.objs.size, upd H s.heap.objs.size (SetO X.w s.heap.objs.size (fun j => decide (j ∈ ns)) c), I.laid (t' := tk) k (Nat.le_refl _) (setO_new R), rfl, q _ c hn hc'⟩
  rcases hl with hl | hl
  · obtain ⟨its, rv, pl, hz⟩ := I.list hl
    exact set_ints_list ns (I.ok.hd hc) pl.isList (by simpa using intsOf_vals rv) hb fin
  · obtain ⟨its, rv, pl, hz⟩ := I.tuple hl
    exact set_ints_tuple ns (I.ok.hd hc) pl (by simpa using intsOf_vals rv) hb fin
/-- sorted(set) of keys -/
def rSortedN (K : PySem.W.Frag) (w : World) : List V → Hp → VK → Prop := fun vs H Q => ∃ (a : Addr) (L : List AK), vs = [V.ref a] ∧ H a = some (SetNO w a L) ∧ (∀ p ∈ L, Dp K H (.ref p.1) (nkd p.2).pd ∧ p.2.depth ≤ 8 ∧ (nkd p.2).pd.depth ≤ 64) ∧
  PySem.W.AllAlike (L.map fun p => (nkd p.2).pd) ∧ PySem.W.Sortable (L.map fun p => (nkd p.2).pd) ∧
  ∀ (L1 : List AK) (p : Addr), L1.Perm L → H p = none → Q (.ref p) (upd H p (.lst ((L1.mergeSort (PySem.W.dataLe false fun p => (nkd p.2).pd)).map fun q => V.ref q.1)))
theorem cr_sortedN {X : Cx} (hc : X.calm = true) (hu : X.A.units + 70 < cLine) : CallR X (.builtin "sorted") (rSortedN X.K X.w) := by
  intro pins s σ H vs us Q I r h
  obtain ⟨a, L, rfl, ha, hk, al, so, q⟩ := h
  have R0 : SetN0 X.w s.heap a L := (I.hok a _ ha).1
  obtain ⟨es, ep, t, R⟩ := R0.full fun p hp => inv_kis I (hk p hp).1 (hk p hp).2.1
  rw [Vals.ref1 r]
  refine sorted_nset R (I.ok.hd hc) (enc := fun p => (nkd p.2).pd) (fun p hp => Dp.reads I _ _ (.ref p.1) (hk p hp).1 rfl) al so (fun p hp => by have := (hk p hp).2.2; omega) fun s' p out c L1 k g o hp hg pm hout => ?_
  have hfew : L1.length < 64 := by rw [pm.length_eq]; exact R.few
  have hn : H p = none := I.hok.fresh hp
  have hv : Vals ((L1.mergeSort (PySem.W.dataLe false fun p => (nkd p.2).pd)).map fun q => V.ref q.1) out.toList := by rw [hout]; exact vals_refs _
  have hlen : ((L1.mergeSort (PySem.W.dataLe false fun p => (nkd p.2).pd)).map fun q => V.ref q.1).length ≤ sizeLine := by rw [List.length_map, List.length_mergeSort, sizeLine_eq]; omega
  have J : Inv X pins σ (upd H p (.lst ((L1.mergeSort (PySem.W.dataLe false fun p => (nkd p.2).pd)).map fun q => V.ref q.1))) { s with heap := s'.heap, gens := s'.gens, drawn := s'.drawn, toks := s'.toks } :=
    I.call (ch := []) (Un.laid k hp hn) (I.hok.laid k hp ⟨hlen, out.toList, c, hv, hg⟩) (by rw [g]; exact I.bare) (fun _ z => nomatch z)
  have e : s' = { s with heap := s'.heap, gens := s'.gens, drawn := s'.drawn, toks := s'.toks } := by
    cases s'; cases s; cases o; rfl
  rw [e]
  exact ⟨.ref p, _, J, rfl, q L1 p pm hn⟩
/-! ### sorted(set(..)) -/
def allInt : List D → Option (List Int)
  | [] => some []
  | .int i :: r => (allInt r).map (i :: ·)
  | _ :: _ => none
theorem allInt_inv : ∀ {ds : List D} {ns : List Int}, allInt ds = some ns → ds = ns.map D.int
  | [], _, h => by cases h; rfl
  | .int i :: r, _, h => by
    unfold allInt at h
    rw [Option.map_eq_some_iff] at h
    obtain ⟨ns, h1, rfl⟩ := h
    rw [allInt_inv h1]; rfl
  | .non :: _, _, h => by cases h
  | .bl _ :: _, _, h => by cases h
  | .str _ :: _, _, h => by cases h
  | .tup _ :: _, _, h => by cases h
  | .lst _ :: _, _, h => by cases h
  | .dct _ _ :: _, _, h => by cases h
  | .ref _ :: _, _, h => by cases h
  | .fn _ :: _, _, h => by cases h
  | .exc _ :: _, _, h => by cases h
  | .scr _ :: _, _, h => by cases h
  | .fdc _ _ :: _, _, h => by cases h
  | .dnt _ _ :: _, _, h => by cases h
  | .fdn _ _ :: _, _, h => by cases h
  | .tpw _ :: _, _, h => by cases h
@[simp] theorem allInt_map : ∀ ns : List Int, allInt (ns.map D.int) = some ns
  | [] => rfl
  | n :: ns => by rw [List.map_cons, allInt, allInt_map ns]; rfl
def isKey (d : D) : Bool := match d with
  | .tup (_ :: _) => (match d.nk with
    | some k => decide (k.depth ≤ 8)
    | none => false)
  | _ => false
def ssetL (ds : List D) : Option TV := if ds.length < 64 ∧ ((allInt ds).isSome = true ∨ (ds.all isKey = true ∧ sortable ds = true)) then some ⟨.fr, .lst (sortD (dedD ds))⟩ else none
def ssetOp : D → Option TV
  | .lst ds => ssetL ds
  | .tup ds => ssetL ds
  | _ => none
theorem isKey_is {d : D} (h : isKey d = true) : ∃ k, d.nk = some k ∧ k.depth ≤ 8 ∧ ∃ x r, d = .tup (x :: r) := by
  unfold isKey at h
  split at h
  · split at h
    · rename_i k e
      exact ⟨k, e, by simpa using h, _, _, rfl⟩
    · cases h
  · cases h
theorem rep_nks {K : Kw} {mg : Str → Option Value} {L : List Addr} {R H : Hp} (hS : Same R H) : ∀ {ds : List D} {xs : List V}, RepAll K mg L R xs ds → (∀ d, d ∈ ds → isKey d = true) →
    ∃ ks : List AK, xs = ks.map (fun p => V.ref p.1) ∧ ds = ks.map (fun p => nkd p.2) ∧ ∀ p ∈ ks, Dp K H (.ref p.1) (nkd p.2).pd ∧ p.2.depth ≤ 8 ∧ Rep K mg L R (.ref p.1) (nkd p.2)
  | [], _, h, _ => by cases h; exact ⟨[], rfl, rfl, fun _ z => nomatch z⟩
  | d :: ds, _, h, hk => by
    cases h with
    | @cons v vs _ _ h1 h2 =>
      obtain ⟨ks, e1, e2, e3⟩ := rep_nks hS h2 fun x hx => hk x (List.mem_cons_of_mem _ hx)
      obtain ⟨k, e, hd, x, r, rfl⟩ := isKey_is (hk d List.mem_cons_self)
      have ek := nk_inv _ e
      cases h1 with
      | @tup a xs' _ q1 q2 =>
        have rp : Rep K mg L R (.ref a) (nkd k) := by rw [ek]; exact .tup q1 q2
        refine ⟨(a, k) :: ks, by rw [e1]; rfl, by rw [e2, List.map_cons, ek], fun p hp => ?_⟩
        rcases List.mem_cons.mp hp with rfl | hp
        · exact ⟨Rep.dp hS _ (plain_nkd k) rp, hd, rp⟩
        · exact e3 p hp
theorem rep_allInt {K : Kw} {mg : Str → Option Value} {L : List Addr} {R : Hp} : ∀ {ns : List Int} {xs : List V}, RepAll K mg L R xs (ns.map D.int) → xs = ns.map V.int
  | [], _, h => by cases h; rfl
  | n :: ns, _, h => by
    cases h with
    | cons h1 h2 => cases h1; rw [rep_allInt h2]; rfl
theorem reps_int {K : Kw} {mg : Str → Option Value} {L : List Addr} {R : Hp} : ∀ (ns : List Int), RepAll K mg L R (ns.map V.int) (ns.map D.int)
  | [] => .nil
  | n :: ns => .cons (.int n) (reps_int ns)
theorem alike_int (i j : Int) : PySem.W.alike (D.int i).pd (D.int j).pd = true := by
  rw [D.pd, D.pd]; rfl
theorem int_nkd (ns : List Int) : ns.map D.int = (ns.map NestedKey.num).map nkd := by
  rw [List.map_map]
  refine List.map_congr_left fun n _ => ?_
  show _ = nkd (.num n)
  rw [nkd]
def eSSet (a : E) : E := fun ρ s => (a ρ s).bind fun x s1 => match ssetOp x.d with
  | some tv => .ok tv s1
  | none => .bad
theorem sset_core {X : Cx} {C : Cn} {R : Hp} {ρ : DSt} {σ : L2.St} {H : Hp} {s : Sto} {Q : VK} {b : Addr} {xs : List V} {ds : List D} {tv : TV} (rel : Rel (KW X) X.mg C R ρ σ H s) (hq : SqL X.K H b xs ∨ SqT X.K H b xs) (ra : RepAll (KW X) X.mg C.L R xs ds) (e : ssetL ds = some tv) (ok : OkE (KW X) X.mg ρ σ C R Q tv s) :
    rSetI X.K X.w [.ref b] H (fun v H1 => rSortedN X.K X.w [v] H1 Q ∨ rSortedSet X.w [v] H1 Q) ∨ rSetN X.K X.w [.ref b] H (fun v H1 => rSortedN X.K X.w [v] H1 Q ∨ rSortedSet X.w [v] H1 Q) := by
  unfold ssetL at e
  split at e
  · rename_i hc
    cases e
    obtain ⟨hl, hc⟩ := hc
    rcases hc with hc | hc
    · left
      obtain ⟨ns, en⟩ := Option.isSome_iff_exists.mp hc
      have ed := allInt_inv en
      subst ed
      have ex := rep_allInt ra
      subst ex
      rw [List.length_map] at hl
      refine ⟨b, ns, rfl, hq, hl, fun a c ha hc => .inr ⟨a, _, c, rfl, upd_same, by omega, fun ms p pw mem len hp => ?_⟩⟩
      have x2 := rel.allocF (o := SetO X.w a (fun j => decide (j ∈ ns)) c) ha
      have x3 := x2.allocF (o := .lst (ms.map V.int)) hp
      have em : sortD (dedD (ns.map D.int)) = ms.map D.int := by
        rw [int_nkd ns, dedD_nkd]
        have nd : ms.Nodup := pw.imp fun h e => absurd h (by rw [e]; exact Int.lt_irrefl _)
        have inj : ∀ {l : List Int}, l.Nodup → (l.map NestedKey.num).Nodup := fun h => List.Pairwise.map _ (fun a b hne e => hne (by injection e)) h
        have pm : (ddup (ns.map NestedKey.num)).Perm (ms.map NestedKey.num) := by
          refine (List.perm_ext_iff_of_nodup (ddup_nd _) (inj nd)).mpr fun k => ?_
          rw [ddup_mem, List.mem_map, List.mem_map]
          constructor
          · rintro ⟨i, hi, e⟩
            exact ⟨i, (mem i).mpr (by simpa using hi), e⟩
          · rintro ⟨i, hi, e⟩
            exact ⟨i, by simpa using (mem i).mp hi, e⟩
        have al : ∀ a, a ∈ ddup (ns.map NestedKey.num) → ∀ b, b ∈ ddup (ns.map NestedKey.num) → PySem.W.alike (nkd a).pd (nkd b).pd = true := fun a ha b hb => by
          obtain ⟨i, _, rfl⟩ := List.mem_map.mp (ddup_mem.mp ha)
          obtain ⟨j, _, rfl⟩ := List.mem_map.mp (ddup_mem.mp hb)
          rw [nkd, nkd]
          exact alike_int i j
        rw [sortD_one pm al, ← int_nkd]
        have srt : (ms.map D.int).Pairwise fun a b => leD a b = true := by
          refine List.Pairwise.map _ (fun a b h => ?_) pw
          have e : ltD (.int b) (.int a) = decide (b < a) := PySem.W.dataLt_int b a
          rw [leD_is, e, decide_eq_false (by omega)]
          rfl
        have al2 : ∀ a, a ∈ ms.map NestedKey.num → ∀ b, b ∈ ms.map NestedKey.num → PySem.W.alike (nkd a).pd (nkd b).pd = true := fun a ha b hb => al a (pm.mem_iff.mpr ha) b (pm.mem_iff.mpr hb)
        refine sorted_one (sortD_perm _) (sortD_pw _) srt fun a ha b hb h1 h2 => ?_
        rw [sortD_mem, int_nkd] at ha hb
        exact leD_one al2 ha hb h1 h2
      have q := ok (.ref p) C R _ (.refl C) (L2.Same.refl R) x3 (by rw [em]; exact x2.fresh hp ⟨_, upd_same, reps_int ms⟩)
      exact q
    · right
      obtain ⟨hk, hs⟩ := hc
      rw [List.all_eq_true] at hk
      obtain ⟨ks, e1, e2, e3⟩ := rep_nks rel.bas.sub ra hk
      subst e1
      have hlen : ds.length = ks.length := by rw [e2, List.length_map]
      unfold sortable at hs
      simp only [Bool.and_eq_true, List.all_eq_true, Bool.or_eq_true, decide_eq_true_eq] at hs
      obtain ⟨⟨s1, s2⟩, s3⟩ := hs
      have memd : ∀ p ∈ ks, nkd p.2 ∈ ds := fun p hp => by rw [e2]; exact List.mem_map.mpr ⟨p, hp, rfl⟩
      refine ⟨b, ks, rfl, hq, fun p hp => ⟨(e3 p hp).1, (e3 p hp).2.1⟩, by omega, fun a L ha hL hall nd => .inl ⟨a, L, rfl, upd_same, fun p hp => ?_, ?_, ?_, fun L1 p pm hp => ?_⟩⟩
      · have x2 := rel.allocF (o := SetNO X.w a L) ha
        exact ⟨Rep.dp x2.bas.sub _ (plain_nkd p.2) (e3 p (hL p hp)).2.2, (e3 p (hL p hp)).2.1, (s1 _ (memd p (hL p hp))).2⟩
      · intro d hd d' hd'
        obtain ⟨x, hx, rfl⟩ := List.mem_map.mp hd
        obtain ⟨y, hy, rfl⟩ := List.mem_map.mp hd'
        exact s2 _ (memd x (hL x hx)) _ (memd y (hL y hy))
      · refine .inl fun d hd => ?_
        obtain ⟨x, hx, rfl⟩ := List.mem_map.mp hd
        obtain ⟨k, _, _, y, r, e⟩ := isKey_is (hk _ (memd x (hL x hx)))
        exact ⟨y.pd, D.pds r, by rw [e, D.pd, D.pds]⟩
      · have x2 := rel.allocF (o := SetNO X.w a L) ha
        have x3 := x2.allocF (o := .lst ((L1.mergeSort (PySem.W.dataLe false fun p => (nkd p.2).pd)).map fun q => V.ref q.1)) hp
        have eD : (L1.mergeSort (PySem.W.dataLe false fun p => (nkd p.2).pd)).map (fun q => nkd q.2) = sortD (dedD ds) := by
          rw [PySem.W.sort_maps (r := PySem.W.dataLe false fun p : AK => (nkd p.2).pd) (s := leD) (l := L1) (fun q => nkd q.2) (fun _ _ _ _ => rfl)]
          have e4 : ds = (ks.map (·.2)).map nkd := by rw [e2, List.map_map]; rfl
          rw [e4, dedD_nkd]
          have e5 : L1.map (fun q => nkd q.2) = (L1.map (·.2)).map nkd := by rw [List.map_map]; rfl
          rw [e5]
          refine sortD_one ?_ fun x hx y hy => ?_
          · refine (pm.map (·.2)).trans ((List.perm_ext_iff_of_nodup nd (ddup_nd _)).mpr fun k => ?_)
            rw [ddup_mem, List.mem_map, List.mem_map]
            constructor
            · rintro ⟨q, hq, rfl⟩
              exact ⟨q, hL q hq, rfl⟩
            · rintro ⟨q, hq, rfl⟩
              exact List.mem_map.mp (hall q hq)
          · obtain ⟨q, hq, rfl⟩ := List.mem_map.mp hx
            obtain ⟨r, hr, rfl⟩ := List.mem_map.mp hy
            exact s2 _ (memd q (hL q (pm.mem_iff.mp hq))) _ (memd r (hL r (pm.mem_iff.mp hr)))
        have rA : ∀ l : List AK, (∀ q ∈ l, q ∈ L) → RepAll (KW X) X.mg C.L R (l.map fun q => V.ref q.1) (l.map fun q => nkd q.2) := by
          intro l
          induction l with
          | nil => exact fun _ => .nil
          | cons q l ih => exact fun hl => .cons (e3 q (hL q (hl q List.mem_cons_self))).2.2 (ih fun r hr => hl r (List.mem_cons_of_mem _ hr))
        have ra2 := rA (L1.mergeSort (PySem.W.dataLe false fun p => (nkd p.2).pd)) fun q hq => pm.mem_iff.mp (List.mem_mergeSort.mp hq)
        rw [eD] at ra2
        exact ok (.ref p) C R _ (.refl C) (L2.Same.refl R) x3 (x2.fresh hp ⟨_, upd_same, ra2⟩)
  · cases e
theorem de_sset {X : Cx} {W : WX} {a : Expr} {fa : E} {p p2 q pos : Pos} (hc : X.calm = true) (hu : X.A.units + 70 < cLine) (hg : Gl X "sorted") (hm : X.mg "sorted" = none) (hg2 : Gl X "set") (hm2 : X.mg "set" = none) (ha : DE X W a fa) (hs : noStar a = true) :
    DE X W (.Call (.Name "sorted" p) [.Call (.Name "set" p2) [a] [] q] [] pos) (eSSet fa) := by
  have s1 : starEach [a] X.env = (false, eval a X.env) :: starEach [] X.env := star_cons hs
  have s2 : starEach [.Call (.Name "set" p2) [a] [] q] X.env = (false, eval (.Call (.Name "set" p2) [a] [] q) X.env) :: starEach [] X.env := star_cons rfl
  refine PE.weak (pe_callB ((cr_sortedN hc hu).or (cr_sortedSet hc)) hg hm (by decide +kernel) (pa_cons (pe_callTy ((cr_setI hc).or (cr_setN hc (by omega))) hg2 hm2 (by decide +kernel) (pa_cons ha pa_nil s1) (by decide) (by decide) s1 rfl) pa_nil s2) (by decide) (by decide) s2 rfl) fun σ H Q h => ?_
  obtain ⟨C, R, ρ, s, x, h⟩ := h
  refine seqE x h fun tv s1 v C1 R1 H1 l1 r1 x1 v1 h1 => ?_
  have lk := VRep.look x1 v1
  split at h1
  · rename_i tz e
    unfold ssetOp at e
    split at e
    · rename_i ds ed
      rw [ed] at lk
      obtain ⟨b, xs, rfl, hb, ra⟩ := lk
      exact sset_core x1 (.inl (SqL.of hb)) ra e (OkE.mono l1 r1 h1)
    · rename_i ds ed
      rw [ed] at lk
      obtain ⟨b, xs, rfl, hb, ra⟩ := lk.tup
      exact sset_core x1 (.inr (Same.tupl x1.bas.sub hb)) ra e (OkE.mono l1 r1 h1)
    · cases e
  · exact h1.elim
end UW
namespace UW
open PySem PySem.Spec PyProof.Rows L2
/-! ### min of a list of keys -/
def minK (k : NK) (ks : List NK) : NK := ks.foldl (fun a y => if ltD (nkd y) (nkd a) = true then y else a) k
theorem minK_pd : ∀ (ks : List NK) (k : NK), PySem.W.minD (nkd k).pd (ks.map fun y => (nkd y).pd) = (nkd (minK k ks)).pd
  | [], _ => rfl
  | y :: ks, k => by
    have ih := minK_pd ks (if ltD (nkd y) (nkd k) = true then y else k)
    unfold PySem.W.minD minK at ih ⊢
    rw [List.map_cons, List.foldl_cons, List.foldl_cons, ← ih]
    congr 1
    show (if PySem.W.dataLt (nkd y).pd (nkd k).pd = true then _ else _) = _
    unfold ltD
    split <;> rfl
def rMinN (K : PySem.W.Frag) : List V → Hp → VK → Prop := fun vs H Q => ∃ (a : Addr) (p0 : AK) (ps : List AK), vs = [V.ref a] ∧ SqL K H a ((p0 :: ps).map fun p => V.ref p.1) ∧ (∀ p ∈ p0 :: ps, Dp K H (.ref p.1) (nkd p.2).pd ∧ (nkd p.2).pd.depth ≤ 64) ∧
  PySem.W.AlikeAll ((p0 :: ps).map fun p => (nkd p.2).pd) ∧ ∀ p ∈ p0 :: ps, p.2 = minK p0.2 (ps.map (·.2)) → Q (.ref p.1) H
theorem dpAll_of {K : PySem.W.Frag} {H : Hp} : ∀ {ps : List AK}, (∀ p ∈ ps, Dp K H (.ref p.1) (nkd p.2).pd) → DpAll K H (ps.map fun p => V.ref p.1) (ps.map fun p => (nkd p.2).pd)
  | [], _ => .nil
  | p :: ps, h => .cons (h p List.mem_cons_self) (dpAll_of fun q hq => h q (List.mem_cons_of_mem _ hq))
theorem depAll_of {n : Nat} : ∀ {ps : List AK}, (∀ p ∈ ps, (nkd p.2).pd.depth ≤ n) → PyData.depthAll (ps.map fun p => (nkd p.2).pd) ≤ n
  | [], _ => Nat.zero_le _
  | p :: ps, h => by
    rw [List.map_cons, PyData.depthAll]
    have h1 := h p List.mem_cons_self
    have h2 := depAll_of (n := n) (ps := ps) fun q hq => h q (List.mem_cons_of_mem _ hq)
    omega
theorem cr_minN {X : Cx} (hc : X.calm = true) (hu : X.A.units + 70 < cLine) : CallR X (.builtin "min") (rMinN X.K) := by
  intro pins s σ H vs us Q I r h
  obtain ⟨a, p0, ps, rfl, hs, hd, al, q⟩ := h
  rw [Vals.ref1 r]
  obtain ⟨its, rv, hl, _⟩ := I.list hs
  obtain ⟨as, rd⟩ := Dp.readsAll I _ _ _ (dpAll_of fun p hp => (hd p hp).1) rv
  have eI := refs_vals rv
  have dep := depAll_of (ps := p0 :: ps) fun p hp => (hd p hp).2
  refine PySem.W.min_list_data (x := (nkd p0.2).pd) (xs := ps.map fun p : AK => (nkd p.2).pd) (I.ok.hd hc) hl.isList (by simpa using rd) al (by
    have e : PyData.depthAll ((nkd p0.2).pd :: ps.map fun p => (nkd p.2).pd) = PyData.depthAll ((p0 :: ps).map fun p => (nkd p.2).pd) := rfl
    rw [e]
    omega) fun i v h' tk bs hv hr hk => ?_
  have hv : its[i]? = some v := by simpa using hv
  rw [eI, List.getElem?_map, Option.map_eq_some_iff] at hv
  obtain ⟨p, hp, rfl⟩ := hv
  have hpm := List.mem_of_getElem? hp
  have em : (ps.map fun p => (nkd p.2).pd) = (ps.map (·.2)).map fun y => (nkd y).pd := by rw [List.map_map]; rfl
  rw [em, minK_pd] at hr
  obtain ⟨as1, r1⟩ := Dp.reads I _ _ (.ref p.1) (hd p hpm).1 rfl
  have n1 := reads_key p.2 (PyProof.Rows.Reads.keeps hk r1)
  have n2 := reads_key _ hr
  have e := NestedIs.inj _ _ _ n1 n2
  exact ⟨.ref p.1, H, I.kept hk, rfl, q p hpm e⟩
def bMinL : List D → Option TV
  | [.lst (d :: ds)] => if (d :: ds).all isKey = true ∧ sortable (d :: ds) = true then (d.nk).map fun k => ⟨.cl, nkd (minK k (ds.filterMap D.nk))⟩ else none
  | _ => none
def bMinA : List D → Option TV := orElseL bMin2 bMinL
theorem bl_minL {K : Kw} {mg : Str → Option Value} : BL K mg (rMinN K) bMinL := by
  intro C R ρ σ H s vs ds tv Q rel px e ok
  unfold bMinL at e
  split at e
  · rename_i d ds
    split at e
    · rename_i hc
      obtain ⟨hk, hs⟩ := hc
      rw [Option.map_eq_some_iff] at e
      obtain ⟨k0, ek, rfl⟩ := e
      obtain ⟨v, rfl, h⟩ := px.one
      obtain ⟨a, xs, rfl, h1, h2⟩ := h
      rw [List.all_eq_true] at hk
      obtain ⟨ks, e1, e2, e3⟩ := rep_nks rel.bas.sub h2 hk
      subst e1
      unfold sortable at hs
      simp only [Bool.and_eq_true, List.all_eq_true, Bool.or_eq_true, decide_eq_true_eq] at hs
      obtain ⟨⟨s1, s2⟩, _⟩ := hs
      cases ks with
      | nil => cases e2
      | cons p0 ps =>
        rw [List.map_cons] at e2
        injection e2 with e4 e5
        have mem : ∀ p ∈ p0 :: ps, nkd p.2 ∈ d :: ds := fun p hp => by
          rw [e4, e5, ← List.map_cons (f := fun p : AK => nkd p.2)]
          exact List.mem_map.mpr ⟨p, hp, rfl⟩
        have ek0 : k0 = p0.2 := by
          rw [e4, nk_nkd] at ek
          exact (Option.some.inj ek).symm
        have ef : ds.filterMap D.nk = ps.map (·.2) := by
          rw [e5, List.filterMap_map]
          have : (D.nk ∘ fun p : AK => nkd p.2) = fun p => some p.2 := funext fun p => nk_nkd p.2
          rw [this]
          exact List.filterMap_eq_map (f := fun p : AK => p.2) ▸ rfl
        refine ⟨a, p0, ps, rfl, SqL.of h1, fun p hp => ⟨(e3 p hp).1, (s1 _ (mem p hp)).2⟩, ?_, fun p hp em => ?_⟩
        · refine ⟨fun x hx y hy => ?_, fun x hx => ?_⟩
          · obtain ⟨p, hp, rfl⟩ := List.mem_map.mp hx
            obtain ⟨q, hq, rfl⟩ := List.mem_map.mp hy
            exact s2 _ (mem p hp) _ (mem q hq)
          · obtain ⟨p, hp, rfl⟩ := List.mem_map.mp hx
            obtain ⟨_, _, _, y, r, e⟩ := isKey_is (hk _ (mem p hp))
            rw [e, D.pd]
            exact fun z => nomatch z
        · refine OkE.cl ok rel ?_
          show Rep K mg C.L R (.ref p.1) (nkd (minK k0 (ds.filterMap D.nk)))
          rw [ef, ek0, ← em]
          exact (e3 p hp).2.2
    · cases e
  · cases e
end UW
namespace UW
open PySem PySem.Spec PyProof.Rows L2

theorem RepAll.erase {K : Kw} {mg : Str → Option Value} {L : List Addr} {R : Hp} : ∀ (n : Nat) {ds : List D} {vs : List V}, RepAll K mg L R vs ds → RepAll K mg L R (vs.eraseIdx n) (ds.eraseIdx n)
  | _, _, _, .nil => .nil
  | 0, _, _, .cons h t => t
  | n + 1, _, _, .cons h t => .cons h (RepAll.erase n t)
/-! ### x = y.pop(e), x = y.pop() -/
def popAt (i j : Nat) (ds : List D) (k : Nat) (ρ : DSt) (s : Sto) : Res Out := match ds[k]? with
  | some d => .ok (.nx ((ρ.set j (.ow (.lst (ds.eraseIdx k)))).set i (.sh d))) s
  | none => .bad
def sPop (i j : Nat) (e : E) : S := fun ρ s => match ρ[j]? with
  | some (.ow (.lst ds)) => (e ρ s).bind fun x s1 => (match x.d with
    | .int k => if 0 ≤ k ∧ k < 16777216 then popAt i j ds k.toNat ρ s1 else .bad
    | _ => .bad)
  | _ => .bad
def sPopL (i j : Nat) : S := fun ρ s => match ρ[j]? with
  | some (.ow (.lst ds)) => popAt i j ds (ds.length - 1) ρ s
  | _ => .bad
section
variable {X : Cx} {W : WX} {e : Expr} {fe : E} {pos : Pos}
theorem ds_pop {i j : Nat} {y z : Str} {apos cpos py pz : Pos} (hN : X.N.Nodup) (hi : X.N[i]? = some z) (hx : Loc X.env.scope z) (hf : X.fn z = true ∨ X.env.scope.names.lookup z = some .local)
    (hj : X.N[j]? = some y) (hv : Vis X.env.scope y) (hd : (y == ("__debug__" : Str)) = false) (hcd : (y == ("__classdict__" : Str)) = false) (he : DE X W e fe)
    (hbase : attributeBase (.Name y py) "pop" X.env (eval (.Name y py) X.env) = eval (.Name y py) X.env)
    (hfew : ((backTo cpos (starEach [e] X.env)).all (fun x => !x.1) && (backToKw cpos (keywordEach [] X.env)).all (fun x => x.1.isSome) && decide (([e] : List Expr).length + ([] : List Keyword).length + (if ([] : List Keyword).isEmpty then 0 else 1) < 30)) = true)
    (hline : (apos.endLine == cpos.line) = true) (hs : starEach [e] X.env = (false, eval e X.env) :: starEach [] X.env) (hplain : (backTo cpos (starEach [] X.env)).any (·.1) = false)
    (hsw : swapsWith (.Call (.Attribute (.Name y py) "pop" apos) [e] [] cpos) (some (.Name z pz)) pos.line X.env = pure false) :
    DS X W (.Assign [.Name z pz] (.Call (.Attribute (.Name y py) "pop" apos) [e] [] cpos) pos) (sPop i j fe) :=
  PS.weak (ps_set hN hi hx (pe_bm PySem.F.plainAttrs_list PySem.F.slot_list_pop PySem.F.type_list_pop mt_popAt (pe_var hj hv hd hcd) (pa_cons he pa_nil hs) hbase hfew hline hs hplain) hsw hf) fun Z σ H ⟨C, R, ρ, s, x, h⟩ => by
    unfold sPop at h
    split at h
    · rename_i ds hj
      obtain ⟨p, hp, ht, _⟩ := x.own j _ hj
      obtain ⟨ys, hy, _⟩ := ht
      refine ⟨.ref p, hp, .inl ⟨rfl, _, SqL.of hy⟩, ?_⟩
      refine sE x h fun tv s1 v C1 R1 H1 l1 r1 x1 v1 h1 => ?_
      obtain ⟨R2, r2, x2, v2⟩ := x1.kept v1
      have lk := VRep.look x2 v2
      rw [TV.keep_d] at lk
      split at h1
      · rename_i k ek
        rw [ek] at lk
        have ev := PRep.int lk
        subst ev
        split at h1
        · rename_i hk
          unfold popAt at h1
          split at h1
          · rename_i d ed
            obtain ⟨p2, hp2, ht2, _⟩ := x2.own j _ hj
            rw [hp] at hp2
            cases hp2
            obtain ⟨xs, hx, ra⟩ := ht2
            obtain ⟨w, ew, rp⟩ := ra.get ed
            have hlt : k.toNat < xs.length := (List.getElem?_eq_some_iff.mp ew).1
            refine ⟨p, xs, k, k.toNat, w, rfl, rfl, hx, by omega, by omega, ?_, ew, ?_⟩
            · unfold seqIndex?
              have e1 : (if k < 0 then k + (xs.length : Int) else k) = k := if_neg (by omega)
              simp only [e1]
              rw [if_pos (by rw [Bool.and_eq_true, decide_eq_true_eq, decide_eq_true_eq]; omega)]
            · exact h1 _ C1 R2 _ l1 (L2.Same.trans r1 r2) ((x2.write (d' := .lst (ds.eraseIdx k.toNat)) hj hp ⟨_, upd_same, ra.erase k.toNat⟩ (own_no (C := C1) ⟨xs, hx, ra⟩)).setSh rp) List.length_set
          · exact h1.elim
        · exact h1.elim
      · exact h1.elim
    · exact h.elim
theorem ds_popL {i j : Nat} {y z : Str} {apos cpos py pz : Pos} (hN : X.N.Nodup) (hi : X.N[i]? = some z) (hx : Loc X.env.scope z) (hf : X.fn z = true ∨ X.env.scope.names.lookup z = some .local)
    (hj : X.N[j]? = some y) (hv : Vis X.env.scope y) (hd : (y == ("__debug__" : Str)) = false) (hcd : (y == ("__classdict__" : Str)) = false)
    (hbase : attributeBase (.Name y py) "pop" X.env (eval (.Name y py) X.env) = eval (.Name y py) X.env)
    (hline : (apos.endLine == cpos.line) = true)
    (hsw : swapsWith (.Call (.Attribute (.Name y py) "pop" apos) [] [] cpos) (some (.Name z pz)) pos.line X.env = pure false) :
    DS X W (.Assign [.Name z pz] (.Call (.Attribute (.Name y py) "pop" apos) [] [] cpos) pos) (sPopL i j) :=
  PS.weak (ps_set hN hi hx (pe_bm0 PySem.F.plainAttrs_list PySem.F.slot_list_pop PySem.F.type_list_pop mt_pop (pe_var hj hv hd hcd) hbase hline) hsw hf) fun Z σ H ⟨C, R, ρ, s, x, h⟩ => by
    unfold sPopL at h
    split at h
    · rename_i ds hj
      obtain ⟨p, hp, ht, _⟩ := x.own j _ hj
      obtain ⟨xs, hx, ra⟩ := ht
      refine ⟨.ref p, hp, .inl ⟨rfl, _, SqL.of hx⟩, ?_⟩
      unfold popAt at h
      split at h
      · rename_i d ed
        obtain ⟨w, ew, rp⟩ := ra.get ed
        rw [← ra.length] at ew
        refine ⟨p, xs, w, rfl, rfl, hx, ew, ?_⟩
        have e1 : xs.dropLast = xs.eraseIdx (ds.length - 1) := by rw [← ra.length, ← PyProof.Rows.Copied.eraseIdx_last]
        rw [e1]
        exact h _ C R _ (.refl C) (L2.Same.refl R) ((x.write (d' := .lst (ds.eraseIdx (ds.length - 1))) hj hp ⟨_, upd_same, ra.erase (ds.length - 1)⟩ (own_no (C := C) ⟨xs, hx, ra⟩)).setSh rp) List.length_set
      · exact h.elim
    · exact h.elim
end
/-! ### sep.join(texts) -/
def isStr : D → Bool
  | .str _ => true
  | _ => false
theorem isStr_ty {K : Kw} {mg : Str → Option Value} {L : List Addr} {R H : Hp} {v : V} {d : D} (h : PRep K mg L R H v d) (e : isStr d = true) : tyV K "str" v H := by
  cases d with
  | str z =>
    cases (show Rep K mg L R v (.str z) from h)
    exact rfl
  | _ => cases e
def strsD : List D → Option (List Str)
  | [] => some []
  | .str z :: r => (strsD r).map (z :: ·)
  | _ :: _ => none
def joinD (a : Str) (ds : List D) : Option TV := match strsD ds with
  | some ys => if (ys.map (·.length)).sum + ys.length * a.length ≤ 16777216 then some ⟨.cl, .str (Str.join a ys)⟩ else none
  | none => none
def mJoin : D → List D → Option TV
  | .str a, [.lst ds] => joinD a ds
  | .str a, [.tup ds] => joinD a ds
  | _, _ => none
def rJoin (K : PySem.W.Frag) : V → List V → Hp → VK → Prop := fun x xs H Q => ∃ a p, ∃ ys : List Str, x = .str a ∧ xs = [.ref p] ∧ (SqL K H p (ys.map V.str) ∨ SqT K H p (ys.map V.str)) ∧
    (ys.map (·.length)).sum + ys.length * a.length ≤ 16777216 ∧ Q (.str (Txt.join a ys)) H
theorem strsD_rep {K : Kw} {mg : Str → Option Value} {L : List Addr} {R : Hp} : ∀ {ds : List D} {ys : List Str} {vs : List V}, strsD ds = some ys → RepAll K mg L R vs ds → vs = ys.map V.str
  | [], ys, vs, e, h => by
    cases e
    cases h
    rfl
  | d :: r, ys, vs, e, h => by
    cases d with
    | str z =>
      have e : (strsD r).map (z :: ·) = some ys := e
      cases q : strsD r with
      | none => rw [q] at e; cases e
      | some ys' =>
        rw [q] at e
        cases e
        cases h with
        | cons h1 h2 =>
          cases h1
          rw [strsD_rep q h2]
          rfl
    | _ => cases e
section
variable {K : Kw} {mg : Str → Option Value}
theorem bm_join : BM K mg "str" (rJoin K) mJoin := by
  intro C R ρ σ H s v dv vs ds tv Q rel pv ps e ok
  unfold mJoin at e
  split at e
  · rename_i a es
    unfold joinD at e
    split at e
    · rename_i ys e1
      split at e
      · rename_i hz
        cases e
        obtain ⟨w, rfl, h3⟩ := ps.one
        obtain ⟨b, xs, rfl, h4, h5⟩ := h3
        cases (show Rep K mg C.L R v (.str a) from pv)
        have := strsD_rep e1 h5
        subst this
        refine ⟨a, b, ys, rfl, rfl, .inl (SqL.of h4), hz, ?_⟩
        rw [TL.join_eq]
        exact OkE.cl ok rel (.str _)
      · cases e
    · cases e
  · rename_i a es
    unfold joinD at e
    split at e
    · rename_i ys e1
      split at e
      · rename_i hz
        cases e
        obtain ⟨w, rfl, h3⟩ := ps.one
        cases (show Rep K mg C.L R v (.str a) from pv)
        have h3 : Rep K mg C.L R w (.tup es) := h3
        cases h3 with
        | tup q1 q2 =>
          have := strsD_rep e1 q2
          subst this
          refine ⟨a, _, ys, rfl, rfl, .inr ?_, hz, ?_⟩
          · exact Same.tupl rel.bas.sub q1.sq
          · rw [TL.join_eq]
            exact OkE.cl ok rel (.str _)
      · cases e
    · cases e
  · cases e
end
/-! ### a.strip(signs), a.split(sep) -/
def mStrip : D → List D → Option TV
  | .str a, [.str b] => if a.length ≤ 16777216 then some ⟨.cl, .str (Txt.stripChars a b)⟩ else none
  | _, _ => none
def mSplit : D → List D → Option TV
  | .str a, [.str b] => if (b.length == 0) = false ∧ a.length + 2 ≤ 16777216 then some ⟨.fr, .lst ((Txt.split a b).map D.str)⟩ else none
  | _, _ => none
def mCountS : D → List D → Option TV
  | .str a, [.str b] => some ⟨.cl, .int (Txt.count a b)⟩
  | _, _ => none
theorem rep_strs {K : Kw} {mg : Str → Option Value} {L : List Addr} {R : Hp} : ∀ ys : List Str, RepAll K mg L R (ys.map V.str) (ys.map D.str)
  | [] => .nil
  | y :: ys => .cons (.str y) (rep_strs ys)
section
variable {K : Kw} {mg : Str → Option Value}
theorem bm_strip : BM K mg "str" (fun x xs H Q => ∃ a b, x = .str a ∧ xs = [.str b] ∧ a.length ≤ sizeLine ∧ Q (.str (Txt.stripChars a b)) H) mStrip := by
  intro C R ρ σ H s v dv vs ds tv Q rel pv ps e ok
  unfold mStrip at e
  split at e
  · rename_i a b
    split at e
    · rename_i hz
      cases e
      obtain ⟨w, rfl, h3⟩ := ps.one
      rw [pv.str, h3.str]
      exact ⟨_, _, rfl, rfl, hz, OkE.cl ok rel (.str _)⟩
    · cases e
  · cases e
theorem bm_countS : BM K mg "str" (fun x xs H Q => ∃ a b, x = .str a ∧ xs = [.str b] ∧ Q (.int (Txt.count a b)) H) mCountS := by
  intro C R ρ σ H s v dv vs ds tv Q rel pv ps e ok
  unfold mCountS at e
  split at e
  · rename_i a b
    cases e
    obtain ⟨w, rfl, h3⟩ := ps.one
    rw [pv.str, h3.str]
    exact ⟨_, _, rfl, rfl, OkE.cl ok rel (.int _)⟩
  · cases e
theorem bm_split : BM K mg "str" (fun x xs H Q => ∃ a b, x = .str a ∧ xs = [.str b] ∧ (b.length == 0) = false ∧ a.length + 2 ≤ sizeLine ∧ rNewStrs (Txt.split a b) H Q) mSplit := by
  intro C R ρ σ H s v dv vs ds tv Q rel pv ps e ok
  unfold mSplit at e
  split at e
  · rename_i a b
    split at e
    · rename_i hz
      cases e
      obtain ⟨w, rfl, h3⟩ := ps.one
      rw [pv.str, h3.str]
      refine ⟨_, _, rfl, rfl, hz.1, hz.2, fun p hp => ?_⟩
      exact ok _ C R _ (.refl C) (L2.Same.refl R) (rel.allocF hp) (rel.fresh (d := .lst _) hp ⟨_, upd_same, rep_strs _⟩)
    · cases e
  · cases e
end
/-! ### z.append(y.pop(e)) -/
def apPop (i j : Nat) (ms ds : List D) (k : Nat) (ρ : DSt) (s : Sto) : Res Out := match ds[k]? with
  | some d => if ms.length < 16777216 then .ok (.nx ((ρ.set j (.ow (.lst (ds.eraseIdx k)))).set i (.ow (.lst (ms ++ [d]))))) s else .bad
  | none => .bad
def sApPop (i j : Nat) (e : E) : S := fun ρ s => match ρ[i]?, ρ[j]? with
  | some (.ow (.lst ms)), some (.ow (.lst ds)) => (e ρ s).bind fun x s1 => (match x.d with
    | .int k => if 0 ≤ k ∧ k < 16777216 then apPop i j ms ds k.toNat ρ s1 else .bad
    | _ => .bad)
  | _, _ => .bad
section
variable {X : Cx} {W : WX} {e : Expr} {fe : E} {pos : Pos}
theorem ds_apPop {i j : Nat} {y z : Str} {apos cpos py pz apos2 cpos2 : Pos} (hij : i ≠ j) (hi : X.N[i]? = some z) (hvz : Vis X.env.scope z) (hdz : (z == ("__debug__" : Str)) = false) (hcz : (z == ("__classdict__" : Str)) = false)
    (hj : X.N[j]? = some y) (hv : Vis X.env.scope y) (hd : (y == ("__debug__" : Str)) = false) (hcd : (y == ("__classdict__" : Str)) = false) (he : DE X W e fe)
    (hbase : attributeBase (.Name y py) "pop" X.env (eval (.Name y py) X.env) = eval (.Name y py) X.env)
    (hfew : ((backTo cpos (starEach [e] X.env)).all (fun x => !x.1) && (backToKw cpos (keywordEach [] X.env)).all (fun x => x.1.isSome) && decide (([e] : List Expr).length + ([] : List Keyword).length + (if ([] : List Keyword).isEmpty then 0 else 1) < 30)) = true)
    (hline : (apos.endLine == cpos.line) = true) (hs : starEach [e] X.env = (false, eval e X.env) :: starEach [] X.env) (hplain : (backTo cpos (starEach [] X.env)).any (·.1) = false)
    (hbase2 : attributeBase (.Name z pz) "append" X.env (eval (.Name z pz) X.env) = eval (.Name z pz) X.env)
    (hfew2 : ((backTo cpos2 (starEach [.Call (.Attribute (.Name y py) "pop" apos) [e] [] cpos] X.env)).all (fun x => !x.1) && (backToKw cpos2 (keywordEach [] X.env)).all (fun x => x.1.isSome) && decide (([.Call (.Attribute (.Name y py) "pop" apos) [e] [] cpos] : List Expr).length + ([] : List Keyword).length + (if ([] : List Keyword).isEmpty then 0 else 1) < 30)) = true)
    (hline2 : (apos2.endLine == cpos2.line) = true) (hplain2 : (backTo cpos2 (starEach [] X.env)).any (·.1) = false)
    (hs2 : starEach [.Call (.Attribute (.Name y py) "pop" apos) [e] [] cpos] X.env = (false, eval (.Call (.Attribute (.Name y py) "pop" apos) [e] [] cpos) X.env) :: starEach [] X.env)
    (hsw : swapsWith (.Call (.Attribute (.Name z pz) "append" apos2) [.Call (.Attribute (.Name y py) "pop" apos) [e] [] cpos] [] cpos2) none pos.line X.env = pure false) :
    DS X W (.Expr (.Call (.Attribute (.Name z pz) "append" apos2) [.Call (.Attribute (.Name y py) "pop" apos) [e] [] cpos] [] cpos2) pos) (sApPop i j fe) :=
  PS.weak (ps_expr (pe_bm PySem.F.plainAttrs_list PySem.F.slot_list_append PySem.F.type_list_append mt_append (pe_var hi hvz hdz hcz)
      (pa_cons (pe_bm PySem.F.plainAttrs_list PySem.F.slot_list_pop PySem.F.type_list_pop mt_popAt (pe_var hj hv hd hcd) (pa_cons he pa_nil hs) hbase hfew hline hs hplain) pa_nil hs2) hbase2 hfew2 hline2 hs2 hplain2) hsw) fun Z σ H ⟨C, R, ρ, s, x, h⟩ => by
    unfold sApPop at h
    split at h
    · rename_i ms ds hmi hj
      obtain ⟨q, hq, htq, _⟩ := x.own i _ hmi
      obtain ⟨zs, hz, _⟩ := htq
      obtain ⟨p, hp, ht, _⟩ := x.own j _ hj
      obtain ⟨ys, hy, _⟩ := ht
      refine ⟨.ref q, hq, .inl ⟨rfl, _, SqL.of hz⟩, ?_⟩
      refine ⟨.ref p, hp, .inl ⟨rfl, _, SqL.of hy⟩, ?_⟩
      refine sE x h fun tv s1 v C1 R1 H1 l1 r1 x1 v1 h1 => ?_
      obtain ⟨R2, r2, x2, v2⟩ := x1.kept v1
      have lk := VRep.look x2 v2
      rw [TV.keep_d] at lk
      split at h1
      · rename_i k ek
        rw [ek] at lk
        have ev := PRep.int lk
        subst ev
        split at h1
        · rename_i hk
          unfold apPop at h1
          split at h1
          · rename_i d ed
            split at h1
            · rename_i hlen
              obtain ⟨p2, hp2, ht2, _⟩ := x2.own j _ hj
              rw [hp] at hp2
              cases hp2
              obtain ⟨xs, hx, ra⟩ := ht2
              obtain ⟨w, ew, rp⟩ := ra.get ed
              have hlt : k.toNat < xs.length := (List.getElem?_eq_some_iff.mp ew).1
              have x3 := x2.write (d' := .lst (ds.eraseIdx k.toNat)) (o := .lst (xs.eraseIdx k.toNat)) hj hp ⟨_, upd_same, ra.erase k.toNat⟩ (own_no (C := C1) ⟨xs, hx, ra⟩)
              have hmi3 : (ρ.set j (.ow (.lst (ds.eraseIdx k.toNat))))[i]? = some (.ow (.lst ms)) := by
                rw [List.getElem?_set_ne (fun z => hij z.symm)]
                exact hmi
              obtain ⟨q3, hq3, ht3, _⟩ := x3.own i _ hmi3
              rw [hq] at hq3
              cases hq3
              obtain ⟨as, ha, rb⟩ := ht3
              refine ⟨p, xs, k, k.toNat, w, rfl, rfl, hx, by omega, by omega, ?_, ew, ?_⟩
              · unfold seqIndex?
                have e1 : (if k < 0 then k + (xs.length : Int) else k) = k := if_neg (by omega)
                simp only [e1]
                rw [if_pos (by rw [Bool.and_eq_true, decide_eq_true_eq, decide_eq_true_eq]; omega)]
              · refine ⟨q, as, w, rfl, rfl, ha, by rw [rb.length]; exact hlen, ?_⟩
                exact h1 _ C1 R2 _ l1 (L2.Same.trans r1 r2) (x3.write (d' := .lst (ms ++ [d])) hmi3 hq ⟨_, upd_same, rb.append (.one rp)⟩ (own_no (C := C1) ⟨as, ha, rb⟩)) rfl
            · exact h1.elim
          · exact h1.elim
        · exact h1.elim
      · exact h1.elim
    · exact h.elim
end
/-! ### d.get(k) -/
def eDGet1 (fo fa : E) : E := fun ρ s => (fo ρ s).bind fun x s1 => if (dctOf x.d).isSome = true then (fa ρ s1).bind fun y s2 => (match dctOf x.d, keyD y.d with
  | some kv, some q => .ok ⟨.cl, (dget kv.1 kv.2 q).getD .non⟩ s2
  | _, _ => .bad) else .bad
section
variable {X : Cx} {W : WX} {o a b : Expr} {fo fa fb : E} {pos p q pos2 : Pos}
theorem de_dget1 (hu : X.A.units + 1 < cLine) {apos : Pos} (ho : DE X W o fo) (ha : DE X W a fa) (m : M1 X o "get" apos a pos) : DE X W (.Call (.Attribute o "get" apos) [a] [] pos) (eDGet1 fo fa) :=
  PE.weak (pe_dget1 hu ho ha m) fun σ H Q ⟨C, R, ρ, s, x, h⟩ => seqE x h fun tv s1 v C1 R1 H1 l1 r1 x1 v1 h1 => by
    split at h1
    · rename_i hsome
      obtain ⟨kv, hkv⟩ := Option.isSome_iff_exists.mp hsome
      obtain ⟨R1', rk, x1', v1'⟩ := x1.kept v1
      have lk := VRep.look x1' v1'
      rw [TV.keep_d] at lk
      obtain ⟨p, kvs, rfl, hr, _, _⟩ := dct_at x1'.bas.sub hkv lk
      refine ⟨p, rfl, .inl ⟨kvs, hr⟩, ?_⟩
      have rr1 := L2.Same.trans r1 rk
      refine seqE x1' (PostR.mono l1 rr1 (fun _ _ z => z) h1) fun tw s2 w C2 R2 H2 l2 r2 x2 v2 h2 => ?_
      have v5 : VRep (KW X) X.mg C2 R2 ρ σ H2 (.ref p) tv.keep := v1'.mono l2 r2 tv.keep_nf
      have lk5 := VRep.look x2 v5
      rw [TV.keep_d] at lk5
      obtain ⟨p', kvs', ep, hr', eks, ra⟩ := dct_at x2.bas.sub hkv lk5
      cases ep
      split at h2
      · rename_i kv' q e1 e2
        rw [hkv] at e1
        cases e1
        have ey := key_val e2 (VRep.look x2 v2)
        refine ⟨_, .inl ⟨kvs', q, hr', ey, rfl⟩, ?_⟩
        have fin : ∀ {u : V}, Rep (KW X) X.mg C2.L R2 u ((dget kv.1 kv.2 q).getD .non) → Q u H2 := fun {u} ru => h2 _ C2 R2 H2 (l1.trans l2) (L2.Same.trans rr1 r2) x2 ru
        obtain ⟨ks, vs⟩ := kv
        have eks : ks = kds kvs' := eks
        subst eks
        rcases dget_rep q ra with ⟨z1, z2⟩ | ⟨u, d, z1, z2, z3⟩
        · rw [z1]
          refine fin ?_
          show Rep _ _ _ _ _ ((dget (kds kvs') vs q).getD .non)
          rw [z2]
          exact .non
        · rw [z1]
          refine fin ?_
          show Rep _ _ _ _ _ ((dget (kds kvs') vs q).getD .non)
          rw [z2]
          exact z3
      · exact h2.elim
    · exact h1.elim
/-! ### list(range(a, b)) -/
def eLstR2 (a b : E) : E := fun ρ s => (a ρ s).bind fun x s1 => (b ρ s1).bind fun y s2 => match x.d, y.d with
  | .int m, .int n => if 0 ≤ m ∧ m ≤ 16777216 ∧ 0 ≤ n ∧ n ≤ 16777216 then .ok ⟨.fr, .lst (rangeD m n)⟩ s2 else .bad
  | _, _ => .bad
theorem de_lstR2 (hc : X.calm = true) (hg : Gl X "list") (hm : X.mg "list" = none) (hg2 : Gl X "range") (hm2 : X.mg "range" = none) (ha : DE X W a fa) (hb : DE X W b fb) (hs : noStar a = true) (hs2 : noStar b = true) : DE X W (.Call (.Name "list" p) [.Call (.Name "range" q) [a, b] [] pos2] [] pos) (eLstR2 fa fb) := by
  refine PE.weak (pe_listRg hc hg hm (prg_2 hg2 hm2 ha hb (star_cons hs) (star_cons hs2) (by rw [star_cons hs2]; rfl)) (star_cons rfl)) fun σ H Q ⟨C, R, ρ, s, x, h⟩ => ?_
  refine seqE x h fun tv s1 v C1 R1 H1 l1 r1 x1 v1 h1 => ?_
  refine seqE x1 (PostR.mono l1 r1 (fun _ _ z => z) h1) fun tw s2 w C2 R2 H2 l2 r2 x2 v2 h2 => ?_
  have lk2 := VRep.look x2 v2
  have lk := VRep.look x1 v1
  split at h2
  · rename_i m n ed ed2
    rw [ed] at lk
    rw [ed2] at lk2
    split at h2
    · rename_i hn
      cases lk
      cases lk2
      refine ⟨m, n, rfl, rfl, RgOk.of_le (by omega) (by omega) (by omega) (by omega), fun y hy => ?_⟩
      exact h2 _ C2 R2 _ (l1.trans l2) (L2.Same.trans r1 r2) (x2.allocF hy) (x2.fresh hy ⟨_, upd_same, rep_range m n⟩)
    · exact h2.elim
  · exact h2.elim
end
end UW
/-! t.index(x) of a tuple of whole numbers. -/
namespace UW
open PySem PySem.Spec PyProof.Rows L2
def rTIx (K : PySem.W.Frag) : V → List V → Hp → VK → Prop := fun x xs H Q => ∃ (p : Addr) (ns : List Int) (k : Int), x = .ref p ∧ xs = [.int k] ∧ SqT K H p (ns.map V.int) ∧ k ∈ ns ∧ Q (.int (ns.idxOf k : Nat)) H
theorem mt_tix {X : Cx} : MtR X "tuple.index" (rTIx X.K) := by
  intro pins s σ H x xs v us Q I rx rs ⟨p, ns, k, e1, e2, hq, hk, q⟩
  subst e1 e2
  cases rx
  obtain ⟨u, rfl, t, rfl⟩ := vals1 rs
  obtain ⟨its, r, pl, hz⟩ := I.tuple hq
  exact PySem.SeqAt.tuple_index_ints pl (intsAre_of r) hk ⟨.int _, H, I.tok _, ⟨_, rfl⟩, q⟩
def isTpl : D → Bool
  | .tup _ => true
  | _ => false
def mTIdx : D → List D → Option TV
  | .tup ds, [.int k] => (intsD ds).bind fun ns => if k ∈ ns then some ⟨.cl, .int (ns.idxOf k : Nat)⟩ else none
  | _, _ => none
def tTIx (K : PySem.W.Frag) (to : TE) (t : TA) : TE := fun σ H Q => to σ H fun x H1 => (∃ p ys, x = .ref p ∧ TupN H1 p ys) ∧ t σ H1 fun xs H2 => rTIx K x xs H2 Q
section
variable {X : Cx} {W : WX} {o e : Expr} {es : List Expr} {to : TE} {t : TA} {fo : E} {fl : EL} {apos cpos : Pos}
theorem pe_tix (ho : PE X o to) (ha : PA X (e :: es) t) (hbase : attributeBase o "index" X.env (eval o X.env) = eval o X.env)
    (hfew : ((backTo cpos (starEach (e :: es) X.env)).all (fun x => !x.1) && (backToKw cpos (keywordEach [] X.env)).all (fun x => x.1.isSome) && decide ((e :: es).length + ([] : List Keyword).length + (if ([] : List Keyword).isEmpty then 0 else 1) < 30)) = true)
    (hline : (apos.endLine == cpos.line) = true) (hs : starEach (e :: es) X.env = (false, eval e X.env) :: starEach es X.env) (hpl : (backTo cpos (starEach es X.env)).any (·.1) = false) : PE X (.Call (.Attribute o "index" apos) (e :: es) [] cpos) (tTIx X.K to t) := by
  refine ⟨fun pins s σ H Q I h => wpAny_Call_method_late hbase hfew hline rfl (thn (ho.run pins s σ H _ I h) fun v s1 ⟨x, H1, I1, r1, ⟨p, ys, ex, ob, hp, to1⟩, q1⟩ => ?_)⟩
  subst ex
  cases r1
  have ho := (I1.hok p _ hp).1
  have hA := ha.run cpos pins s1 σ H1 _ I1 q1
  refine ⟨"tuple", "tuple.index", PySem.F.plainAttrs_tuple, PySem.F.slot_tuple_index, PySem.F.type_tuple_index, ⟨ob, ho, to1.1⟩, fun b eb => ?_, ?_⟩
  · cases eb
    exact ⟨ob, ho, to1.2⟩
  rw [hs] at hA ⊢
  have noStars : ((false, eval e X.env) :: backTo cpos (starEach es X.env)).any (·.1) = false := by rw [List.any_cons, hpl]; rfl
  exact Calls.callWith_builtin noStars (Calls.evalArgs_plain (thn hA fun us s2 ⟨vs, H2, I2, r2, q2⟩ => mt_tix pins s2 σ H2 (.ref p) vs _ us Q I2 rfl r2 q2))
theorem bm_tix {K : Kw} {mg : Str → Option Value} : BM K mg "tuple" (rTIx K) mTIdx := by
  intro C R ρ σ H s v dv vs ds tv Q rel pv ps e ok
  unfold mTIdx at e
  split at e
  · rename_i es k
    rw [Option.bind_eq_some_iff] at e
    obtain ⟨ns, e1, e2⟩ := e
    split at e2
    · rename_i hk
      cases e2
      obtain ⟨a, xs, rfl, h1, h2⟩ := pv.tup
      obtain ⟨w, rfl, h3⟩ := ps.one
      have ew := PRep.int h3
      subst ew
      have := ints_rep e1 h2
      subst this
      exact ⟨a, ns, k, rfl, rfl, Same.tupl rel.bas.sub h1, hk, OkE.cl ok rel (.int _)⟩
    · cases e2
  · cases e
theorem de_tix (ho : DE X W o fo) (ha : DL X W (e :: es) fl) (hbase : attributeBase o "index" X.env (eval o X.env) = eval o X.env)
    (hfew : ((backTo cpos (starEach (e :: es) X.env)).all (fun x => !x.1) && (backToKw cpos (keywordEach [] X.env)).all (fun x => x.1.isSome) && decide ((e :: es).length + ([] : List Keyword).length + (if ([] : List Keyword).isEmpty then 0 else 1) < 30)) = true)
    (hline : (apos.endLine == cpos.line) = true) (hs : starEach (e :: es) X.env = (false, eval e X.env) :: starEach es X.env) (hpl : (backTo cpos (starEach es X.env)).any (·.1) = false) : DE X W (.Call (.Attribute o "index" apos) (e :: es) [] cpos) (eM isTpl mTIdx fo fl) :=
  PE.weak (pe_tix ho ha hbase hfew hline hs hpl) fun σ H Q ⟨C, R, ρ, s, x, h⟩ => by
    refine seqE x h fun tv s1 v C1 R1 H1 l1 r1 x1 v1 h1 => ?_
    obtain ⟨R2, r2, x2, v2⟩ := x1.kept v1
    have lk := VRep.look x2 v2
    rw [TV.keep_d] at lk
    split at h1
    · rename_i hk
      refine ⟨?_, ?_⟩
      · cases ed : tv.d with
        | tup ds =>
          rw [ed] at lk
          obtain ⟨a, xs, rfl, q1, _⟩ := lk.tupN
          exact ⟨a, xs, rfl, q1.mono x2.bas.sub⟩
        | _ => rw [ed] at hk; cases hk
      · refine seqL x2 (PostR.mono l1 (L2.Same.trans r1 r2) (fun _ _ z => z) h1) fun tvs s3 vs C3 R3 H3 l3 r3 x3 v3 h3 => ?_
        split at h3
        · rename_i tz ez
          have p1 := VRep.look x3 (v2.mono (H2 := H3) l3 r3 tv.keep_nf)
          rw [TV.keep_d] at p1
          exact bm_tix C3 R3 ρ σ H3 s3 v _ vs _ tz Q x3 p1 (v3.look x3) ez (OkE.mono (l1.trans l3) (L2.Same.trans r1 (L2.Same.trans r2 r3)) h3)
        · exact h3.elim
    · exact h1.elim
end
end UW
/-! Dicts of the store: new things go into the store, dicts in dicts are read and written in place. -/
namespace UW
open PySem PySem.Spec PyProof.Rows L2
section
variable {K : Kw} {mg : Str → Option Value} {C : Cn} {R H : Hp} {ρ : DSt} {σ : L2.St} {s : Sto}
/-- an object of the store is written -/
theorem Rel.writeOb (x : Rel K mg C R ρ σ H s) {i : Nat} {a : Addr} {ob ob' : Ob} {o : HO} (hs : s[i]? = some ob) (hL : C.L[i]? = some a) (hn : ∀ y, H a ≠ some (.own y)) (new : ObAt K mg C.L R (upd H a o) a ob') : Rel K mg C R ρ σ (upd H a o) (s.set i ob') := by
  obtain ⟨_, hR⟩ := x.bas.sto.at_ i _ a hs hL
  have ne : ∀ b u, R b = some u → b ≠ a := fun b u e z => by rw [z, hR] at e; cases e
  have hil : i < C.L.length := (List.getElem?_eq_some_iff.mp hL).1
  refine ⟨⟨fun b u e => by rw [upd_ne (ne b u e)]; exact x.bas.sub b u e, x.bas.new, x.bas.r0, fun b u e hx => ?_, ⟨by rw [List.length_set]; exact x.bas.sto.len, x.bas.sto.nd, fun j oj b e1 e2 => ?_⟩, x.bas.n0, x.bas.ln0⟩, x.len, x.shr, fun j d e => ?_, x.nd⟩
  · rw [upd_ne fun z => ?_]
    · exact x.bas.keep b u e hx
    · subst z
      by_cases hc : C.n0 ≤ i
      · rw [x.bas.ln0 i b hc hL] at e; cases e
      · exact hx (List.mem_take_iff_getElem.mpr ⟨i, by omega, (List.getElem?_eq_some_iff.mp hL).2⟩)
  · rcases get_set e1 with ⟨rfl, rfl, _⟩ | ⟨nij, e1⟩
    · rw [hL] at e2; cases e2
      exact ⟨new, hR⟩
    · obtain ⟨h1, h2⟩ := x.bas.sto.at_ j oj b e1 e2
      have nba : b ≠ a := fun z => nij (by
        subst z
        exact nd_ix x.bas.sto.nd hL e2)
      refine ⟨h1.mono (List.prefix_refl _) (L2.Same.refl _) (fun c u e3 e4 => ?_) (fun _ _ e => e), h2⟩
      rw [upd_ne fun z => ?_]
      · exact e3
      · subst z
        rcases e4 with e4 | e4
        · exact nba e4.symm
        · subst e4
          exact hn b e3
  · obtain ⟨p, h1, h2, h3, h4, h5⟩ := x.own j d e
    exact ⟨p, h1, h2.mono (List.prefix_refl _) (L2.Same.refl _) (upd_ne fun z => h5 (by rw [z]; exact List.mem_of_getElem? hL)), h3, h4, h5⟩
/-- what a new thing is in the store -/
def obOf : D → Option Ob
  | .lst ds => some (.lst ds)
  | .dnt ks vs => some (.dnt ks vs)
  | .dct [] [] => some (.dnt [] [])
  | _ => none
theorem top_ob {L : List Addr} {p : Addr} {d : D} {ob : Ob} (h : Top K mg L R H p d) (e : obOf d = some ob) : ObAt K mg L R H p ob := by
  unfold obOf at e
  split at e
  · cases e
    exact h
  · cases e
    obtain ⟨xs, h1, h2, h3, h4⟩ := h
    exact ⟨xs, .inl h1, h2, h3, h4⟩
  · cases e
    obtain ⟨kvs, h1, h2, h3⟩ := h
    have : kvs = [] := by
      cases kvs with
      | nil => rfl
      | cons _ _ => cases h2
    subst this
    exact ⟨[], .inr ⟨rfl, h1⟩, ⟨rfl, fun _ z => nomatch z⟩, .nil, .nil⟩
  · cases e
/-- a new thing goes into the store -/
theorem Rel.frSto (x : Rel K mg C R ρ σ H s) {v : V} {d : D} {ob : Ob} (h : VRep K mg C R ρ σ H v ⟨.fr, d⟩) (eo : obOf d = some ob) : ∃ C', C.Le C' ∧ Rel K mg C' R ρ σ H (s ++ [ob]) ∧ Rep K mg C'.L R v (.ref s.length) := by
  obtain ⟨p, rfl, ht, hr, hl, h0, hi⟩ := h
  have pre : C.L <+: C.L ++ [p] := ⟨[p], rfl⟩
  have tk : (C.L ++ [p]).take C.n0 = C.L.take C.n0 := List.take_append_of_le_length x.bas.n0
  have hlen : C.L.length = s.length := x.bas.sto.len.symm
  refine ⟨{ C with L := C.L ++ [p] }, ⟨pre, rfl, rfl, rfl⟩, ⟨⟨x.bas.sub, x.bas.new, x.bas.r0, fun a o e hn => ?_, ⟨?_, ?_, fun j oj a e1 e2 => ?_⟩, ?_, fun j a hj e => ?_⟩, x.len, fun j d e => ?_, fun j d e => ?_, x.nd⟩, ?_⟩
  · exact x.bas.keep a o e (by rw [← tk]; exact hn)
  · show (s ++ [ob]).length = (C.L ++ [p]).length
    rw [List.length_append, List.length_append, hlen]
    rfl
  · exact List.nodup_append.mpr ⟨x.bas.sto.nd, List.pairwise_singleton _ p, fun a ha b hb => by
      rw [List.mem_singleton] at hb
      subst hb
      exact fun z => hl (z ▸ ha)⟩
  · have e2 : (C.L ++ [p])[j]? = some a := e2
    by_cases hj : j < s.length
    · rw [List.getElem?_append_left hj] at e1
      rw [List.getElem?_append_left (by omega)] at e2
      obtain ⟨q1, q2⟩ := x.bas.sto.at_ j oj a e1 e2
      exact ⟨q1.mono pre (L2.Same.refl _) (fun _ _ e _ => e) (fun _ _ e => e), q2⟩
    · rw [List.getElem?_append_right (by omega)] at e1 e2
      have : j - s.length = 0 := by
        have := (List.getElem?_eq_some_iff.mp e1).1
        simp at this
        omega
      rw [hlen] at e2
      rw [this] at e1 e2
      cases e1
      cases e2
      exact ⟨(top_ob ht eo).mono pre (L2.Same.refl _) (fun _ _ e _ => e) (fun _ _ e => e), hr⟩
  · show C.n0 ≤ (C.L ++ [p]).length
    rw [List.length_append]
    have := x.bas.n0
    omega
  · have e : (C.L ++ [p])[j]? = some a := e
    show C.H0 a = none
    by_cases hlt : j < C.L.length
    · rw [List.getElem?_append_left hlt] at e
      exact x.bas.ln0 j a hj e
    · rw [List.getElem?_append_right (by omega)] at e
      have : j - C.L.length = 0 := by
        have := (List.getElem?_eq_some_iff.mp e).1
        simp at this
        omega
      rw [this] at e
      cases e
      exact h0
  · obtain ⟨v, q1, q2⟩ := x.shr j d e
    exact ⟨v, q1, q2.mono pre (L2.Same.refl _)⟩
  · obtain ⟨p', q1, q2, q3, q4, q5⟩ := x.own j d e
    refine ⟨p', q1, q2.mono pre (L2.Same.refl _) rfl, q3, q4, fun hm => ?_⟩
    rcases List.mem_append.mp hm with hm | hm
    · exact q5 hm
    · rw [List.mem_singleton] at hm
      subst hm
      exact hi j d e q1
  · refine .ref ?_
    show (C.L ++ [p])[s.length]? = some p
    rw [← hlen, List.getElem?_append_right (Nat.le_refl _), Nat.sub_self]
    rfl
/-- the dict of the store -/
theorem Rel.stoDn (x : Rel K mg C R ρ σ H s) {v : V} {i : Nat} {ks vs : List D} (h : Rep K mg C.L R v (.ref i)) (hs : s[i]? = some (.dnt ks vs)) :
    ∃ a xs, v = .ref a ∧ C.L[i]? = some a ∧ (H a = some (DNO K a xs) ∨ (xs = [] ∧ H a = some (.dK []))) ∧ KsOk xs ks ∧ RepAll K mg C.L R (xs.map fun p => V.ref p.2.1) ks ∧ RepAll K mg C.L R (xs.map (·.2.2)) vs ∧ ∀ y, H a ≠ some (.own y) := by
  cases h with
  | @ref _ a hL =>
    obtain ⟨⟨xs, h1, h2, h3, h4⟩, _⟩ := x.bas.sto.at_ i _ a hs hL
    refine ⟨a, xs, rfl, hL, h1, h2, h3, h4, fun y e => ?_⟩
    rcases h1 with h1 | ⟨_, h1⟩
    · rw [h1] at e
      exact absurd (Option.some.inj e) (fun z => by unfold DNO at z; cases z)
    · rw [h1] at e
      cases e
end
/-! ### new things for the store -/
def eSto (e : E) : E := fun ρ s => (e ρ s).bind fun x s1 => match x with
  | ⟨.fr, d⟩ => (match obOf d with
    | some ob => .ok ⟨.cl, .ref s1.length⟩ (s1 ++ [ob])
    | none => .bad)
  | _ => .bad
section
variable {X : Cx} {W : WX} {a b o e : Expr} {fa fb fo fe : E} {pos : Pos}
theorem de_sto (h : DE X W e fe) : DE X W e (eSto fe) := PE.weak h fun σ H Q ⟨C, R, ρ, s, x, h⟩ => by
  refine ⟨C, R, ρ, s, x, ?_⟩
  unfold eSto at h
  cases q : fe ρ s with
  | bad => rw [q] at h; exact h
  | exc c s1 => rw [q] at h; exact h
  | ok tv s1 =>
    rw [q] at h
    intro v C1 R1 H1 l1 r1 x1 v1
    obtain ⟨t, d⟩ := tv
    cases t with
    | cl => exact (show False from h).elim
    | dy i => exact (show False from h).elim
    | fr =>
      have h : PostR (KW X) X.mg W σ C R (OkE (KW X) X.mg ρ σ C R Q) (match obOf d with
        | some ob => .ok ⟨.cl, .ref s1.length⟩ (s1 ++ [ob])
        | none => .bad) := h
      split at h
      · rename_i ob eo
        obtain ⟨C2, l2, x2, r2⟩ := x1.frSto v1 eo
        exact h v C2 R1 H1 (l1.trans l2) r1 x2 r2
      · exact h.elim
/-! ### d[i][k] -/
def ixS (x y : D) (s : Sto) : Res TV := match x with
  | .ref i => (match s[i]? with
    | some (.dnt ks vs) => (match isNK y with
      | some q => (match dgetN ks vs q with
        | some d => .ok ⟨.cl, d⟩ s
        | none => .bad)
      | none => .bad)
    | _ => .bad)
  | _ => .bad
def eIxS (fa fb : E) : E := fun ρ s => (fa ρ s).bind fun x s1 => (fb ρ s1).bind fun y s2 => ixS x.d y.d s2
theorem ref_cl {K : Kw} {mg : Str → Option Value} {C : Cn} {R H : Hp} {ρ : DSt} {σ : L2.St} {s : Sto} {v : V} {tv : TV} {i : Nat} (x : Rel K mg C R ρ σ H s) (h : VRep K mg C R ρ σ H v tv) (e : tv.d = .ref i) : Rep K mg C.L R v (.ref i) := by
  have z := VRep.look x h
  rw [e] at z
  exact z
theorem de_ixS (hu : X.A.units + 10 < cLine) (ha : DE X W a fa) (hb : DE X W b fb) (hs : PlainIx b) : DE X W (.Subscript a b pos) (eIxS fa fb) := PE.weak (pe_ix (ix_dictN hu) ha hb hs) fun σ H Q ⟨C, R, ρ, s, x, h⟩ => by
  refine seqE x h fun tv s1 v C1 R1 H1 l1 r1 x1 v1 h1 => ?_
  obtain ⟨R2, r2, x2, v2⟩ := x1.kept v1
  refine seqE x2 (PostR.mono l1 (L2.Same.trans r1 r2) (fun _ _ z => z) h1) fun tw s3 w C3 R3 H3 l3 r3 x3 v3 h3 => ?_
  unfold ixS at h3
  split at h3
  · rename_i i ei
    split at h3
    · rename_i ks vs es
      split at h3
      · rename_i q eq
        split at h3
        · rename_i d ed
          have v2' := v2.mono (H2 := H3) l3 r3 tv.keep_nf
          obtain ⟨p, xs, rfl, hL, hd, k1, k2, k3, _⟩ := x3.stoDn (ref_cl x3 v2' (by rw [TV.keep_d]; exact ei)) es
          obtain ⟨bb, rfl, kat, _⟩ := kat_of x3.bas.sub eq (VRep.look x3 v3)
          rcases dgetN_rep q k1.1 k3 with ⟨_, z⟩ | ⟨u, d', z1, z2, z3⟩
          · rw [ed] at z; cases z
          · rw [ed] at z2
            cases z2
            have hr : H3 p = some (DNO (KW X) p xs) := by
              rcases hd with hd | ⟨rfl, _⟩
              · exact hd
              · cases z1
            exact ⟨p, bb, xs, q, u, rfl, rfl, .inl hr, xsOk_of x3.bas.sub k1 k2, kat, z1, h3 _ C3 R3 H3 (l1.trans l3) (L2.Same.trans r1 (L2.Same.trans r2 r3)) x3 z3⟩
        · exact h3.elim
      · exact h3.elim
    · exact h3.elim
  · exact h3.elim
/-! ### list(d[i]) -/
def lstS (x : D) (s : Sto) : Res TV := match x with
  | .ref i => (match s[i]? with
    | some (.dnt ks vs) => .ok ⟨.fr, .lst ks⟩ s
    | some (.lst ds) => .ok ⟨.fr, .lst ds⟩ s
    | _ => .bad)
  | _ => .bad
def eLstS (fa : E) : E := fun ρ s => (fa ρ s).bind fun x s1 => lstS x.d s1
theorem de_lstS {p : Pos} (hc : X.calm = true) (hg : Gl X "list") (hm : X.mg "list" = none) (ha : DE X W a fa) (hna : noStar a = true) : DE X W (.Call (.Name "list" p) [a] [] pos) (eLstS fa) :=
  PE.weak (pe_callTy (CallR.or call_list_of (CallR.or (cr_lkeys hc) (cr_lkeysN hc))) hg hm (by decide +kernel) (dl_cons ha dl_nil (star_cons hna)) (by decide) (by decide) (star_cons hna) rfl) fun σ H Q ⟨C, R, ρ, s, x, h⟩ => by
    refine ⟨C, R, ρ, s, x, ?_⟩
    unfold eLstS at h
    unfold lCons lNil
    cases q : fa ρ s with
    | bad => rw [q] at h; exact h
    | exc c s1 => rw [q] at h; exact h
    | ok tv s1 =>
      rw [q] at h
      intro vs C1 R1 H1 l1 r1 x1 v1
      cases v1 with
      | cons v1 nf v2 =>
        cases v2
        have h : PostR (KW X) X.mg W σ C R (OkE (KW X) X.mg ρ σ C R Q) (lstS tv.d s1) := h
        unfold lstS at h
        split at h
        · rename_i i ei
          have rr := ref_cl x1 v1 (by rw [TV.keep_d]; exact ei)
          split at h
          · rename_i ks vs es
            obtain ⟨a, xs, rfl, hL, hd, k1, k2, k3, _⟩ := x1.stoDn rr es
            rcases hd with hd | ⟨rfl, hd⟩
            · exact .inr (.inr ⟨a, xs, rfl, .inl hd, fun p hp => h _ C1 R1 _ l1 r1 (x1.allocF hp) (x1.fresh hp ⟨_, upd_same, k2⟩)⟩)
            · refine .inr (.inl ⟨a, [], rfl, .inl hd, fun p hp => h _ C1 R1 _ l1 r1 (x1.allocF hp) (x1.fresh hp ⟨_, upd_same, k2⟩)⟩)
          · rename_i ds es
            cases rr with
            | @ref _ a hL =>
              obtain ⟨⟨xs, hx, ra⟩, _⟩ := x1.bas.sto.at_ i _ a es hL
              exact .inl ⟨a, xs, rfl, .inl (SqL.of hx), fun p hp => h _ C1 R1 _ l1 r1 (x1.allocF hp) (x1.fresh hp ⟨_, upd_same, ra⟩)⟩
          · exact h.elim
        · exact h.elim
/-! ### d[i].get(k, z) -/
def getS (x y : D) (z : TV) (s : Sto) : Res TV := match x, z.keep with
  | .ref i, ⟨.cl, dz⟩ => (match s[i]? with
    | some (.dnt ks vs) => (match isNK y with
      | some q => .ok ⟨.cl, (dgetN ks vs q).getD dz⟩ s
      | none => .bad)
    | _ => .bad)
  | _, _ => .bad
/-- the object is a dict of the store -/
def isDnS (x : D) (s : Sto) : Bool := match x with
  | .ref i => (match s[i]? with
    | some (.dnt _ _) => true
    | _ => false)
  | _ => false
def eDGetS (fo fa fb : E) : E := fun ρ s => (fo ρ s).bind fun x s1 => if isDnS x.d s1 = true then (fa ρ s1).bind fun y s2 => (fb ρ s2).bind fun z s3 => getS x.d y.d z s3 else .bad
theorem isDnS_is {x : D} {s : Sto} (h : isDnS x s = true) : ∃ i ks vs, x = .ref i ∧ s[i]? = some (.dnt ks vs) := by
  unfold isDnS at h
  split at h
  · split at h
    · exact ⟨_, _, _, rfl, by assumption⟩
    · cases h
  · cases h
def tGetN (K : Kw) (td ty tx : TE) : TE := fun σ H Q => td σ H fun x H1 => ∃ a, x = .ref a ∧ (∃ xs, RdN K H1 a xs) ∧ ty σ H1 fun y H2 => tx σ H2 fun z H3 =>
  ∃ xs b k, RdN K H3 a xs ∧ XsOk K H3 xs ∧ y = .ref b ∧ KAt K H3 b k ∧ Q ((valN xs k).getD z) H3
theorem pe_getN {td ty tx : TE} {apos cpos : Pos} (hu : X.A.units + 10 < cLine) (ho : PE X o td) (ha : PE X a ty) (hb : PE X b tx) (m : M2 X o "get" apos a b cpos) : PE X (.Call (.Attribute o "get" apos) [a, b] [] cpos) (tGetN (KW X) td ty tx) := by
  refine ⟨fun pins s σ H Q I h => wpAny_Call_method m.base m.few m.line PySem.F.plainAttrs_dict PySem.F.slot_dict_get PySem.F.type_dict_get (thn (ho.run pins s σ H _ I h) fun u s1 ⟨x, H1, I1, rx, p, ex, ⟨xs0, d⟩, q1⟩ => ?_)⟩
  subst ex
  cases rx
  obtain ⟨t1, t2, _⟩ := rdn_type I1 d
  refine ⟨t1, t2, ?_⟩
  rw [m.trees]
  refine Calls.callWith_builtin rfl (Calls.evalArgs_plain (Calls.spliced_cons (thn (ha.run pins s1 σ H1 _ I1 q1) fun iv s2 ⟨y, H2, I2, ry, q2⟩ => ?_)))
  refine Calls.spliced_cons (thn (hb.run pins s2 σ H2 _ I2 q2) fun fv s3 ⟨z, H3, I3, rz, xs, bb, k, hd, hx, ey, kat, q3⟩ => Calls.spliced_nil ?_)
  subst ey
  cases ry
  obtain ⟨ys, h1, h2, h3, h4⟩ := rdn_dict I3 hd hx
  refine getOr_keyed (show X.A.units + 1 + 8 < cLine by omega) (inv_kat I3 kat) h3 ⟨ys, h2, rfl⟩ ?_
  rw [valueAt_pairsH]
  rcases nvs_val h1 k with ⟨z1, z2⟩ | ⟨w, p', z1, z2, z3⟩
  · rw [z1] at q3
    rw [z2]
    exact ⟨z, H3, I3.tok _, rz, q3⟩
  · rw [z1] at q3
    rw [z2]
    exact ⟨w, H3, I3.tok _, z3, q3⟩
theorem rdn_of {K : Kw} {H : Hp} {a : Addr} {xs : List NV} (h : H a = some (DNO K a xs) ∨ (xs = [] ∧ H a = some (.dK []))) : RdN K H a xs := by
  rcases h with h | ⟨e, h⟩
  · exact .inl (.inl h)
  · exact .inr ⟨e, .inl h⟩
theorem de_getS (hu : X.A.units + 10 < cLine) {apos : Pos} (ho : DE X W o fo) (ha : DE X W a fa) (hb : DE X W b fb) (m : M2 X o "get" apos a b pos) : DE X W (.Call (.Attribute o "get" apos) [a, b] [] pos) (eDGetS fo fa fb) :=
  PE.weak (pe_getN hu ho ha hb m) fun σ H Q ⟨C, R, ρ, s, x, h⟩ => seqE x h fun tv s1 v C1 R1 H1 l1 r1 x1 v1 h1 => by
    split at h1
    · rename_i hd
      obtain ⟨i, ks, vs, ei, es⟩ := isDnS_is hd
      obtain ⟨R2, r2, x2, v2⟩ := x1.kept v1
      obtain ⟨p, xs, rfl, _, hd, _⟩ := x2.stoDn (ref_cl x2 v2 (by rw [TV.keep_d]; exact ei)) es
      refine ⟨p, rfl, ⟨xs, rdn_of hd⟩, ?_⟩
      have rr1 := L2.Same.trans r1 r2
      refine seqE x2 (PostR.mono l1 rr1 (fun _ _ z => z) h1) fun tw s3 w C3 R3 H3 l3 r3 x3 v3 h3 => ?_
      obtain ⟨R4, r4, x4, v4⟩ := x3.kept v3
      refine seqE x4 (PostR.mono l3 (L2.Same.trans r3 r4) (fun _ _ z => z) h3) fun tz s5 z C5 R5 H5 l5 r5 x5 v5 h5 => ?_
      obtain ⟨R6, r6, x6, v6⟩ := x5.kept v5
      have r36 := L2.Same.trans (L2.Same.trans r3 r4) (L2.Same.trans r5 r6)
      have v2' : VRep (KW X) X.mg C5 R6 ρ σ H5 (.ref p) tv.keep := v2.mono (l3.trans l5) r36 tv.keep_nf
      have v4' : VRep (KW X) X.mg C5 R6 ρ σ H5 w tw.keep := v4.mono l5 (L2.Same.trans r5 r6) tw.keep_nf
      unfold getS at h5
      split at h5
      · rename_i i' dz e1 e2
        split at h5
        · rename_i ks' vs' es'
          split at h5
          · rename_i q eq
            obtain ⟨p', ys, ep, _, hd', k1, k2, k3, _⟩ := x6.stoDn (ref_cl x6 v2' (by rw [TV.keep_d]; exact e1)) es'
            cases ep
            have lk := VRep.look x6 v4'
            rw [TV.keep_d] at lk
            obtain ⟨bb, rfl, kat, _⟩ := kat_of x6.bas.sub eq lk
            rw [e2] at v6
            have v6 : Rep (KW X) X.mg C5.L R6 z dz := v6
            refine ⟨ys, bb, q, rdn_of hd', xsOk_of x6.bas.sub k1 k2, rfl, kat, ?_⟩
            refine h5 _ C5 R6 H5 (l1.trans (l3.trans l5)) (L2.Same.trans rr1 r36) x6 ?_
            rcases dgetN_rep q k1.1 k3 with ⟨z1, z2⟩ | ⟨u, d', z1, z2, z3⟩
            · rw [z1]
              show Rep _ _ _ _ _ ((dgetN ks' vs' q).getD dz)
              rw [z2]
              exact v6
            · rw [z1]
              show Rep _ _ _ _ _ ((dgetN ks' vs' q).getD dz)
              rw [z2]
              exact z3
          · exact h5.elim
        · exact h5.elim
      · exact h5.elim
    · exact h1.elim
/-! ### d[i][k] = v -/
def putS (x y dv : D) (ρ : DSt) (s : Sto) : Res Out := match x with
  | .ref i => (match s[i]? with
    | some (.dnt ks vs) => (match isNK y with
      | some q => if ks.length < 16777216 then .ok (.nx ρ) (s.set i (.dnt (dputNK ks vs y q) (dputNV ks vs q dv))) else .bad
      | none => .bad)
    | _ => .bad)
  | _ => .bad
def sPutS (fo fk fv : E) : S := fun ρ s => (fv ρ s).bind fun x s1 => match x.keep with
  | ⟨.cl, dv⟩ => (fo ρ s1).bind fun z s2 => (fk ρ s2).bind fun y s3 => putS z.d y.d dv ρ s3
  | _ => .bad
theorem ds_putS {pos' : Pos} (hu : X.A.units + 10 < cLine) (ho : DE X W o fo) (ha : DE X W a fa) (hb : DE X W b fb) (hs : swapsWith b (some (.Subscript o a pos')) pos.line X.env = pure false) : DS X W (.Assign [.Subscript o a pos'] b pos) (sPutS fo fa fb) :=
  PS.weak (ps_dputN hu ho ha hb hs) fun Z σ H ⟨C, R, ρ, s, x, h⟩ => sE x h fun tv s1 v C1 R1 H1 l1 r1 x1 v1 h1 => by
    obtain ⟨R2, r2, x2, v2⟩ := x1.kept v1
    have rr := L2.Same.trans r1 r2
    split at h1
    · rename_i dv ek
      rw [ek] at v2
      have v2 : Rep (KW X) X.mg C1.L R2 v dv := v2
      refine sE x2 (PostS.mono l1 rr (fun _ _ z => z) h1) fun tz s3 z C3 R3 H3 l3 r3 x3 v3 h3 => ?_
      obtain ⟨R4, r4, x4, v4⟩ := x3.kept v3
      refine sE x4 (PostS.mono l3 (L2.Same.trans r3 r4) (fun _ _ z => z) h3) fun tw s5 w C5 R5 H5 l5 r5 x5 v5 h5 => ?_
      have v4' : VRep (KW X) X.mg C5 R5 ρ σ H5 z tz.keep := v4.mono l5 r5 tz.keep_nf
      unfold putS at h5
      split at h5
      · rename_i i ei
        split at h5
        · rename_i ks vs es
          split at h5
          · rename_i q eq
            split at h5
            · rename_i hl
              obtain ⟨p, xs, rfl, hL, hd, k1, k2, k3, k4⟩ := x5.stoDn (ref_cl x5 v4' (by rw [TV.keep_d]; exact ei)) es
              obtain ⟨bb, rfl, kat, rb⟩ := kat_of x5.bas.sub eq (VRep.look x5 v5)
              obtain ⟨n1, n2, _⟩ := isNK_is eq
              have l15 := l3.trans l5
              have r15 := L2.Same.trans (L2.Same.trans r3 r4) r5
              have rv := v2.mono l15.L r15
              obtain ⟨d1, d2, d3⟩ := dputN_rep (q := q) k1 k2 k3 rb n1 n2 rv
              have hlen : xs.length < sizeLine := by
                have := k2.length
                rw [List.length_map] at this
                rw [sizeLine_eq]
                omega
              refine ⟨p, rfl, .inl (.inr ⟨xs, bb, q, hd, xsOk_of x5.bas.sub k1 k2, rfl, kat, hlen, ?_⟩)⟩
              exact h5 σ C5 R5 _ (l1.trans l15) (L2.Same.trans rr r15) (x5.writeOb es hL k4 ⟨_, .inl upd_same, d1, d2, d3⟩) rfl
            · exact h5.elim
          · exact h5.elim
        · exact h5.elim
      · exact h5.elim
    · exact h1.elim
end
end UW
/-! x.remove(e), where x owns its list. -/
namespace UW
open PySem PySem.Spec PyProof.Rows L2
theorem ints_plain : ∀ ns : List Int, PyData.plainAll (ns.map .int) = true
  | [] => rfl
  | _ :: l => ints_plain l
mutual
theorem pd_plain : ∀ d : D, d.plain = true → d.pd.plain = true
  | .non, _ => rfl
  | .bl _, _ => by rw [D.pd]; rfl
  | .int _, _ => by rw [D.pd]; rfl
  | .str _, _ => by rw [D.pd]; rfl
  | .tup ds, h => by
    rw [D.pd]
    exact pds_plain ds h
  | .lst ds, h => by
    rw [D.pd]
    exact pds_plain ds h
  | .scr ns, _ => by
    rw [D.pd]
    exact ints_plain ns
  | .dct _ _, h => by cases h
  | .ref _, h => by cases h
  | .fn _, h => by cases h
  | .exc _, h => by cases h
  | .fdc _ _, h => by cases h
  | .dnt _ _, h => by cases h
  | .fdn _ _, h => by cases h
  | .tpw _, h => by cases h
theorem pds_plain : ∀ ds : List D, D.plains ds = true → PyData.plainAll (D.pds ds) = true
  | [], _ => by rw [D.pds]; rfl
  | d :: ds, h => by
    have h' := Bool.and_eq_true_iff.mp h
    rw [D.pds]
    show (PyData.plain d.pd && PyData.plainAll (D.pds ds)) = true
    rw [pd_plain d h'.1, pds_plain ds h'.2]
    rfl
end
def rRem (K : PySem.W.Frag) : V → List V → Hp → VK → Prop := fun x xs H Q => ∃ l ys y ds d j, (x = .ref l ∧ xs = [y]) ∧ H l = some (.lst ys) ∧ DpAll K H ys ds ∧ Dp K H y d ∧ (PyData.plainAll ds = true ∧ d.plain = true ∧ d.depth ≤ 64) ∧ SeqAt.dataPlace ds d = some j ∧ Q .non (upd H l (.lst (ys.eraseIdx j)))
theorem mt_rem {X : Cx} (hu : X.A.units + 66 < cLine) : MtR X "list.remove" (rRem X.K) := by
  intro pins s σ H x xs v us Q I rx rs ⟨l, ys, y, ds, d, j, ⟨ex, exs⟩, hH, hds, hd, ⟨p1, p2, p3⟩, hj, q⟩
  subst ex exs
  cases rx
  obtain ⟨u, rfl, ru⟩ := vals1 rs
  obtain ⟨z, its, n, r, hlen, e0⟩ := I.lstM hH
  obtain ⟨as, r1⟩ := Dp.readsAll I ds ys its hds r
  obtain ⟨bs, r2⟩ := Dp.reads I d y u hd ru
  have hmin := Nat.min_le_right (PyData.depthAll ds) d.depth
  refine SeqAt.remove_list_data (vs := its.toArray) ⟨_, e0, rfl, n, rfl⟩ (by simpa using r1) r2 p1 p2 (by omega) hj (by rw [List.size_toArray, ← hlen]; exact z) ?_
  refine ⟨.non, _, I.lset (its' := its.eraseIdx j) (t' := s.toks) hH e0 ?_ (r.eraseIdx j) ?_, rfl, q⟩
  · show its.toArray.eraseIdxIfInBounds j = (its.eraseIdx j).toArray
    rw [List.eraseIdxIfInBounds_toArray]
  · have := List.length_eraseIdx_le ys j
    omega
def remAt (j : Nat) (ds : List D) (d : D) (ρ : DSt) (s : Sto) : Res Out := if D.plains ds = true ∧ d.plain = true ∧ d.pd.depth ≤ 64 then (match ds.findIdx? fun z => PyData.eqv z.pd d.pd with
  | some k => .ok (.nx (ρ.set j (.ow (.lst (ds.eraseIdx k))))) s
  | none => .bad) else .bad
def sRem (j : Nat) (e : E) : S := fun ρ s => match ρ[j]? with
  | some (.ow (.lst ds)) => (e ρ s).bind fun x s1 => remAt j ds x.d ρ s1
  | _ => .bad
section
variable {X : Cx} {W : WX} {e : Expr} {fe : E} {pos : Pos}
theorem ds_rem {j : Nat} {y : Str} {apos cpos py : Pos} (hu : X.A.units + 66 < cLine) (hN : X.N[j]? = some y) (hv : Vis X.env.scope y) (hd : (y == ("__debug__" : Str)) = false) (hcd : (y == ("__classdict__" : Str)) = false) (he : DE X W e fe)
    (hbase : attributeBase (.Name y py) "remove" X.env (eval (.Name y py) X.env) = eval (.Name y py) X.env)
    (hfew : ((backTo cpos (starEach [e] X.env)).all (fun x => !x.1) && (backToKw cpos (keywordEach [] X.env)).all (fun x => x.1.isSome) && decide (([e] : List Expr).length + ([] : List Keyword).length + (if ([] : List Keyword).isEmpty then 0 else 1) < 30)) = true)
    (hline : (apos.endLine == cpos.line) = true) (hs : starEach [e] X.env = (false, eval e X.env) :: starEach [] X.env) (hplain : (backTo cpos (starEach [] X.env)).any (·.1) = false)
    (hsw : swapsWith (.Call (.Attribute (.Name y py) "remove" apos) [e] [] cpos) none pos.line X.env = pure false) :
    DS X W (.Expr (.Call (.Attribute (.Name y py) "remove" apos) [e] [] cpos) pos) (sRem j fe) :=
  PS.weak (ps_expr (pe_bm PySem.F.plainAttrs_list PySem.F.slot_list_remove PySem.F.type_list_remove (mt_rem hu) (pe_var hN hv hd hcd) (pa_cons he pa_nil hs) hbase hfew hline hs hplain) hsw) fun Z σ H ⟨C, R, ρ, s, x, h⟩ => by
    unfold sRem at h
    split at h
    · rename_i ds hj
      obtain ⟨p, hp, ht, _⟩ := x.own j _ hj
      obtain ⟨ys, hy, _⟩ := ht
      refine ⟨.ref p, hp, .inl ⟨rfl, _, SqL.of hy⟩, ?_⟩
      refine sE x h fun tv s1 v C1 R1 H1 l1 r1 x1 v1 h1 => ?_
      obtain ⟨R2, r2, x2, v2⟩ := x1.kept v1
      obtain ⟨p2, hp2, ht2, _⟩ := x2.own j _ hj
      rw [hp] at hp2
      cases hp2
      obtain ⟨xs, hx, ra⟩ := ht2
      unfold remAt at h1
      split at h1
      · rename_i hpl
        split at h1
        · rename_i k ek
          have lk := VRep.look x2 v2
          rw [TV.keep_d] at lk
          have dx := PRep.dp x2.bas.sub hpl.2.1 lk
          have dxs := RepAll.dp x2.bas.sub ds hpl.1 ra
          refine ⟨p, xs, v, D.pds ds, tv.d.pd, k, ⟨rfl, rfl⟩, hx, dxs, dx, ⟨pds_plain ds hpl.1, pd_plain _ hpl.2.1, hpl.2.2⟩, ?_, ?_⟩
          · unfold SeqAt.dataPlace
            rw [D.pds_map, List.findIdx?_map]
            exact ek
          · exact h1 σ C1 R2 _ l1 (L2.Same.trans r1 r2) (x2.write hj hp ⟨_, upd_same, ra.erase k⟩ (own_no (C := C1) ⟨xs, hx, ra⟩)) rfl
        · exact h1.elim
      · exact h1.elim
    · exact h.elim
end
end UW
namespace UW
open PySem PySem.Spec PyProof.Rows L2
/-! ### len(set(x)), all unlike -/
def rLenSet (w : World) : List V → Hp → VK → Prop := fun vs H Q => (∃ (a : Addr) (ns : List Int) (c : Nat), vs = [V.ref a] ∧ H a = some (SetO w a (fun j => decide (j ∈ ns)) c) ∧ ns.Nodup ∧ ns.length < 64 ∧ Q (.int (ns.length : Nat)) H) ∨
  ∃ (a : Addr) (L : List AK), vs = [V.ref a] ∧ H a = some (SetNO w a L) ∧ Q (.int (L.length : Nat)) H
theorem cr_lenSet {X : Cx} : CallR X (.builtin "len") (rLenSet X.w) := by
  intro pins s σ H vs us Q I r h
  rcases h with ⟨a, ns, c, rfl, ha, nd, hl, q⟩ | ⟨a, L, rfl, ha, q⟩
  · rw [Vals.ref1 r]
    have R : SetR X.w s.heap a (fun j => decide (j ∈ ns)) c := (I.hok a _ ha).1
    obtain ⟨o, es, ep, t, ho, hex, hd, _, hnd, hmem, _, hf, _, _⟩ := R
    have pm : (es.toList.map keyOf).Perm ns := (List.perm_ext_iff_of_nodup hnd nd).mpr fun k => by
      rw [← hmem k, decide_eq_true_eq]
    have sz : es.size = ns.length := by rw [← pm.length_eq, List.length_map, Array.length_toList]
    exact call_len_set ho hex hd hf (by rw [sz]; omega) ⟨.int (ns.length : Nat), H, I.tok _, ⟨_, by rw [sz]⟩, q⟩
  · rw [Vals.ref1 r]
    have R : SetN0 X.w s.heap a L := (I.hok a _ ha).1
    obtain ⟨es, ep, t, ⟨o, ho, hex, hd⟩, rows, tab, nd, led, room, few⟩ := R.ex
    have sz : es.size = L.length := by rw [← Array.length_toList, rows, List.length_map]
    have hf : t.fits es.size = true := fits_of (by rw [sz]; have := tab.sz; simpa using this) tab.dm (by omega)
    exact call_len_set ho hex hd hf (by rw [sz]; omega) ⟨.int (L.length : Nat), H, I.tok _, ⟨_, by rw [sz]⟩, q⟩
def lenSetL (ds : List D) : Option TV := if ds.length < 64 then (match allInt ds with
  | some ns => if ns.Nodup then some ⟨.cl, .int (ns.length : Nat)⟩ else none
  | none => if ds.all isKey = true ∧ (ds.map D.nk).Nodup then some ⟨.cl, .int (ds.length : Nat)⟩ else none) else none
def lenSetOp : D → Option TV
  | .lst ds => lenSetL ds
  | .tup ds => lenSetL ds
  | _ => none
def eLenSet (a : E) : E := fun ρ s => (a ρ s).bind fun x s1 => match lenSetOp x.d with
  | some tv => .ok tv s1
  | none => .bad
theorem lenset_core {X : Cx} {C : Cn} {R : Hp} {ρ : DSt} {σ : L2.St} {H : Hp} {s : Sto} {Q : VK} {b : Addr} {xs : List V} {ds : List D} {tv : TV} (rel : Rel (KW X) X.mg C R ρ σ H s) (hq : SqL X.K H b xs ∨ SqT X.K H b xs) (ra : RepAll (KW X) X.mg C.L R xs ds) (e : lenSetL ds = some tv) (ok : OkE (KW X) X.mg ρ σ C R Q tv s) :
    rSetI X.K X.w [.ref b] H (fun v H1 => rLenSet X.w [v] H1 Q) ∨ rSetN X.K X.w [.ref b] H (fun v H1 => rLenSet X.w [v] H1 Q) := by
  unfold lenSetL at e
  split at e
  · rename_i hl
    split at e
    · rename_i ns en
      split at e
      · rename_i nd
        cases e
        left
        have ed := allInt_inv en
        subst ed
        have ex := rep_allInt ra
        subst ex
        rw [List.length_map] at hl
        refine ⟨b, ns, rfl, hq, hl, fun a c ha hc => .inl ⟨a, ns, c, rfl, upd_same, nd, hl, ?_⟩⟩
        exact OkE.cl ok (rel.allocF ha) (.int _)
      · cases e
    · split at e
      · rename_i hk
        cases e
        right
        obtain ⟨hk, nd⟩ := hk
        rw [List.all_eq_true] at hk
        obtain ⟨ks, e1, e2, e3⟩ := rep_nks rel.bas.sub ra hk
        subst e1
        have hlen : ds.length = ks.length := by rw [e2, List.length_map]
        have nd2 : (ks.map (·.2)).Nodup := by
          rw [e2, List.map_map] at nd
          have e4 : ks.map (D.nk ∘ fun p => nkd p.2) = (ks.map (·.2)).map some := by
            rw [List.map_map]
            refine List.map_congr_left fun p _ => ?_
            show (nkd p.2).nk = some p.2
            exact nk_nkd p.2
          rw [e4] at nd
          exact nd.of_map _ fun a b hab e => hab (congrArg some e)
        refine ⟨b, ks, rfl, hq, fun p hp => ⟨(e3 p hp).1, (e3 p hp).2.1⟩, by omega, fun a L ha hL hall ndL => .inr ⟨a, L, rfl, upd_same, ?_⟩⟩
        have pm : (L.map (·.2)).Perm (ks.map (·.2)) := (List.perm_ext_iff_of_nodup ndL nd2).mpr fun k => by
          constructor
          · intro hk
            obtain ⟨p, hp, rfl⟩ := List.mem_map.mp hk
            exact List.mem_map.mpr ⟨p, hL p hp, rfl⟩
          · intro hk
            obtain ⟨p, hp, rfl⟩ := List.mem_map.mp hk
            exact hall p hp
        have le : L.length = ds.length := by
          have := pm.length_eq
          rw [List.length_map, List.length_map] at this
          omega
        rw [le]
        exact OkE.cl ok (rel.allocF ha) (.int _)
      · cases e
  · cases e
theorem de_lenSet {X : Cx} {W : WX} {a : Expr} {fa : E} {p p2 q pos : Pos} (hc : X.calm = true) (hu : X.A.units + 70 < cLine) (hg : Gl X "len") (hm : X.mg "len" = none) (hg2 : Gl X "set") (hm2 : X.mg "set" = none) (ha : DE X W a fa) (hs : noStar a = true) :
    DE X W (.Call (.Name "len" p) [.Call (.Name "set" p2) [a] [] q] [] pos) (eLenSet fa) := by
  have s1 : starEach [a] X.env = (false, eval a X.env) :: starEach [] X.env := star_cons hs
  have s2 : starEach [.Call (.Name "set" p2) [a] [] q] X.env = (false, eval (.Call (.Name "set" p2) [a] [] q) X.env) :: starEach [] X.env := star_cons rfl
  refine PE.weak (pe_callB cr_lenSet hg hm (by decide +kernel) (pa_cons (pe_callTy ((cr_setI hc).or (cr_setN hc (by omega))) hg2 hm2 (by decide +kernel) (pa_cons ha pa_nil s1) (by decide) (by decide) s1 rfl) pa_nil s2) (by decide) (by decide) s2 rfl) fun σ H Q h => ?_
  obtain ⟨C, R, ρ, s, x, h⟩ := h
  refine seqE x h fun tv s1 v C1 R1 H1 l1 r1 x1 v1 h1 => ?_
  have lk := VRep.look x1 v1
  split at h1
  · rename_i tz e
    unfold lenSetOp at e
    split at e
    · rename_i ds ed
      rw [ed] at lk
      obtain ⟨b, xs, rfl, hb, ra⟩ := lk
      exact lenset_core x1 (.inl (SqL.of hb)) ra e (OkE.mono l1 r1 h1)
    · rename_i ds ed
      rw [ed] at lk
      obtain ⟨b, xs, rfl, hb, ra⟩ := lk.tup
      exact lenset_core x1 (.inr (Same.tupl x1.bas.sub hb)) ra e (OkE.mono l1 r1 h1)
    · cases e
  · exact h1.elim
end UW
namespace UW
open PySem PySem.Spec PyProof.Rows L2

/-! ### more operations -/
def rInT (K : PySem.W.Frag) (neg : Bool) : R2 := fun x y H Q => ∃ d ds, Dp K H x d ∧ Dp K H y (.tuple ds) ∧ SeqAt.shaped d = true ∧ SeqAt.shaped (.tuple ds) = true ∧ Q (.bl (neg ^^ ds.any fun z => PyData.eqv z d)) H
theorem room_in {A : Around} {d : PyData} {xs : List PyData} (h : SeqAt.shaped d = true) (hu : A.units + 65 < cLine) : A.units + 1 + min (PyData.depthAll xs) d.depth < cLine := by
  have h1 := SeqAt.depth_of_shaped h
  have h2 := Nat.min_le_right (PyData.depthAll xs) d.depth
  omega
theorem op_inT {X : Cx} (hu : X.A.units + 65 < cLine) : OpR X (compareOp .In) (rInT X.K false) := by
  intro pins s σ H x y v u Q J rx ry h
  obtain ⟨d, ds, hd, he, sd, se, q⟩ := h
  obtain ⟨as, r1⟩ := Dp.reads J d x v hd rx
  obtain ⟨bs, r2⟩ := Dp.reads J (.tuple ds) y u he ry
  rw [Bool.false_xor] at q
  exact SeqAt.in_tuple_reads r2 r1 (SeqAt.canLay_of_shaped se) (SeqAt.canLay_of_shaped sd) (room_in sd hu) ⟨.bl _, H, J, rfl, q⟩
theorem op_notInT {X : Cx} (hu : X.A.units + 65 < cLine) : OpR X (compareOp .NotIn) (rInT X.K true) := by
  intro pins s σ H x y v u Q J rx ry h
  obtain ⟨d, ds, hd, he, sd, se, q⟩ := h
  obtain ⟨as, r1⟩ := Dp.reads J d x v hd rx
  obtain ⟨bs, r2⟩ := Dp.reads J (.tuple ds) y u he ry
  rw [Bool.true_xor] at q
  exact SeqAt.notIn_tuple_reads r2 r1 (SeqAt.canLay_of_shaped se) (SeqAt.canLay_of_shaped sd) (room_in sd hu) ⟨.bl _, H, J, rfl, q⟩
def opInT (neg : Bool) (a b : D) : Option TV := match b with
  | .tup ds => if a.shp = true ∧ (D.tup ds).shp = true then some ⟨.cl, .bl (neg ^^ ds.any fun z => PyData.eqv z.pd a.pd)⟩ else none
  | _ => none
def opInS (neg : Bool) (a b : D) : Option TV := match a, b with
  | .str x, .str z => (match x.cps.toList with
    | [c] => some ⟨.cl, .bl (neg ^^ decide (c ∈ z.cps.toList))⟩
    | _ => none)
  | _, _ => none
def rInS (neg : Bool) : R2 := fun x y H Q => ∃ (c : Nat) (z : Str), x = V.str ⟨#[c]⟩ ∧ y = V.str z ∧ Q (.bl (neg ^^ decide (c ∈ z.cps.toList))) H
theorem op_inS {X : Cx} : OpR X (compareOp .In) (rInS false) := by
  intro pins s σ H x y v u Q J rx ry h
  obtain ⟨c, z, e1, e2, q⟩ := h
  rw [Bool.false_xor] at q
  exact op_in_sign pins s σ H x y v u Q J rx ry ⟨c, z, e1, e2, q⟩
theorem op_notInS {X : Cx} : OpR X (compareOp .NotIn) (rInS true) := by
  intro pins s σ H x y v u Q J rx ry h
  obtain ⟨c, z, e1, e2, q⟩ := h
  rw [Bool.true_xor] at q
  exact op_notIn_sign pins s σ H x y v u Q J rx ry ⟨c, z, e1, e2, q⟩
section
variable {K : Kw} {mg : Str → Option Value}
theorem b2_inT {neg : Bool} : B2 K mg (rInT K neg) (opInT neg) := by
  intro C R ρ σ H s x y dx dy tv Q rel px py e ok
  unfold opInT at e
  split at e
  · split at e
    · rename_i ds h
      cases e
      obtain ⟨h1, h2⟩ := Bool.and_eq_true_iff.mp h.1
      obtain ⟨h3, h4⟩ := Bool.and_eq_true_iff.mp h.2
      refine ⟨_, D.pds ds, PRep.dp rel.bas.sub h1 px, PRep.dp (d := .tup ds) rel.bas.sub h3 py, h2, h4, ?_⟩
      have q := OkE.cl ok rel (Rep.bl (neg ^^ ds.any fun z => PyData.eqv z.pd dx.pd))
      rw [D.pds_map, List.any_map]
      exact q
    · cases e
  · cases e
theorem b2_inS {neg : Bool} : B2 K mg (rInS neg) (opInS neg) := by
  intro C R ρ σ H s x y dx dy tv Q rel px py e ok
  unfold opInS at e
  split at e
  · rename_i sx sz
    split at e
    · rename_i c ec
      cases e
      refine ⟨c, _, ?_, py.str, OkE.cl ok rel (.bl _)⟩
      rw [px.str]
      have : sx = ⟨#[c]⟩ := by
        obtain ⟨a⟩ := sx
        obtain ⟨l⟩ := a
        cases ec
        rfl
      rw [this]
    · cases e
  · cases e
end
def opIn := orElse2 opInL (orElse2 (opInT false) (orElse2 (opInS false) (orElse2 (opInD false) (opInN false))))
def opNotIn := orElse2 opNotInL (orElse2 (opInT true) (orElse2 (opInS true) (orElse2 (opInD true) (opInN true))))
def opNeg : D → Option TV
  | .int i => some ⟨.cl, .int (-i)⟩
  | _ => none
def eNeg (a : E) : E := fun ρ s => (a ρ s).bind fun x s1 => match opNeg x.d with
  | some tv => .ok tv s1
  | none => .bad
/-- a op b op' c of whole numbers -/
def eChain (f g : Int → Int → Bool) (a b c : E) : E := fun ρ s => (a ρ s).bind fun x s1 => (b ρ s1).bind fun y s2 => match x.d, y.d with
  | .int i, .int j => if f i j = true then (c ρ s2).bind fun z s3 => (match z.d with
      | .int k => .ok ⟨.cl, .bl (g j k)⟩ s3
      | _ => .bad) else .ok ⟨.cl, .bl false⟩ s2
  | _, _ => .bad
section
variable {X : Cx} {W : WX} {a b c : Expr} {fa fb fc : E} {pos : Pos}
theorem de_neg (ha : DE X W a fa) : DE X W (.UnaryOp .USub a pos) (eNeg fa) := PE.weak (pe_un un_neg ha) fun σ H Q ⟨C, R, ρ, s, x, h⟩ => by
  refine seqE x h fun tv s1 v C1 R1 H1 l1 r1 x1 v1 h1 => ?_
  split at h1
  · rename_i tz e
    unfold opNeg at e
    split at e
    · rename_i i ei
      cases e
      have z := VRep.look x1 v1
      rw [ei] at z
      exact ⟨i, z.int, h1 _ C1 R1 H1 l1 r1 x1 (.int _)⟩
    · cases e
  · exact h1.elim
theorem chain_read {f g : Int → Int → Bool} {σ : L2.St} {H : Hp} {Q : VK} (h : tD (KW X) X.mg W (eChain f g fa fb fc) σ H Q) :
    tChain (rI0 fun i j => .bl (f i j)) (rI0 fun i j => .bl (g i j)) (tD (KW X) X.mg W fa) (tD (KW X) X.mg W fb) (tD (KW X) X.mg W fc) σ H Q := by
  obtain ⟨C, R, ρ, s, x, h⟩ := h
  refine seqE x h fun tv s1 v C1 R1 H1 l1 r1 x1 v1 h1 => ?_
  refine seqE x1 (PostR.mono l1 r1 (fun _ _ z => z) h1) fun tw s2 w C2 R2 H2 l2 r2 x2 v2 h2 => ?_
  split at h2
  · rename_i i j ei ej
    have ev : v = .int i := by
      have z := VRep.look x1 v1
      rw [ei] at z
      exact z.int
    have ew : w = .int j := by
      have z := VRep.look x2 v2
      rw [ej] at z
      exact z.int
    refine ⟨i, j, ev, ew, f i j, rfl, ?_⟩
    have l12 := l1.trans l2
    have r12 := L2.Same.trans r1 r2
    cases ef : f i j with
    | false =>
      rw [ef] at h2
      exact h2 _ C2 R2 H2 l12 r12 x2 (.bl false)
    | true =>
      rw [ef] at h2
      refine seqE x2 (PostR.mono l2 r2 (fun _ _ z => z) h2) fun tz s3 z C3 R3 H3 l3 r3 x3 v3 h3 => ?_
      split at h3
      · rename_i k ek
        have lk := VRep.look x3 v3
        rw [ek] at lk
        exact ⟨j, k, ew, lk.int, h3 _ C3 R3 H3 (l12.trans l3) (L2.Same.trans r12 r3) x3 (.bl _)⟩
      · exact h3.elim
  · exact h2.elim
theorem de_chain {op op' : CmpOp} {f g : Int → Int → Bool} (ho : OpR X (compareOp op) (rI0 fun i j => .bl (f i j))) (ho' : OpR X (compareOp op') (rI0 fun i j => .bl (g i j))) (ha : DE X W a fa) (hb : DE X W b fb) (hc : DE X W c fc) (hm : lastMarks [op, op'] [b, c] = false) :
    DE X W (.Compare a [op, op'] [b, c] pos) (eChain f g fa fb fc) := PE.weak (pe_chain ho ho' ha hb hc hm) fun σ H Q h => chain_read h
theorem dt_chain {op op' : CmpOp} {f g : Int → Int → Bool} (ho : OpR X (compareOp op) (rI0 fun i j => .bl (f i j))) (ho' : OpR X (compareOp op') (rI0 fun i j => .bl (g i j))) (ha : DE X W a fa) (hb : DE X W b fb) (hc : DE X W c fc) (hm : lastMarks [op, op'] [b, c] = false) :
    DT X W (.Compare a [op, op'] [b, c] pos) (tOf (eChain f g fa fb fc)) := PT.weak (pt_chain ho ho' ha hb hc hm) fun σ H Q ⟨C, R, ρ, s, x, h⟩ => by
  show tChain _ _ _ _ _ σ H (fun y H1 => ∃ k, y = .bl k ∧ Q k H1)
  refine chain_read (seqE x h fun tv s1 v C1 R1 H1 l1 r1 x1 v1 h1 => ?_)
  split at h1
  · rename_i k e
    exact ⟨k, look_bl x1 v1 e, h1 C1 R1 H1 l1 r1 x1⟩
  · exact h1.elim
end

/-! ### len, of a list of the store too -/
def eLen (l : EL) : E := fun ρ s => (l ρ s).bind fun tvs s1 => match tvs.map TV.d with
  | [.ref i] => (match s1[i]? with
    | some (.lst ds) => .ok ⟨.cl, .int ds.length⟩ s1
    | _ => .bad)
  | ds => (match bLen ds with
    | some tv => .ok tv s1
    | none => .bad)
theorem len_read {X : Cx} {W : WX} {fl : EL} {σ : L2.St} {H : Hp} {Q : VK} (h : tD (KW X) X.mg W (eLen fl) σ H Q) : tCB (rLen X.K) (tDL (KW X) X.mg W fl) σ H Q := by
  obtain ⟨C, R, ρ, s, x, h⟩ := h
  refine seqL x h fun tvs s1 vs C1 R1 H1 l1 r1 x1 v1 h1 => ?_
  have px := v1.look x1
  split at h1
  · rename_i i e
    rw [e] at px
    split at h1
    · rename_i ds es
      obtain ⟨v, rfl, h⟩ := px.one
      have h : Rep (KW X) X.mg C1.L R1 v (.ref i) := h
      cases h with
      | @ref _ a hL =>
        obtain ⟨⟨xs, hx, ra⟩, _⟩ := x1.bas.sto.at_ i _ a es hL
        refine .inl ⟨a, xs, rfl, .inl (SqL.of hx), ?_⟩
        rw [ra.length]
        exact OkE.cl (OkE.mono l1 r1 h1) x1 (.int _)
    · exact h1.elim
  · split at h1
    · rename_i tz e
      exact bl_len C1 R1 ρ σ H1 s1 vs _ tz Q x1 px e (OkE.mono l1 r1 h1)
    · exact h1.elim
theorem de_len {X : Cx} {W : WX} {e : Expr} {es : List Expr} {fl : EL} {p pos : Pos} (hg : Gl X "len") (hm : X.mg "len" = none) (ha : DL X W (e :: es) fl)
    (he : starEach (e :: es) X.env = (false, eval e X.env) :: starEach es X.env) (hpl : (backTo pos (starEach es X.env)).any (·.1) = false) : DE X W (.Call (.Name "len" p) (e :: es) [] pos) (eLen fl) :=
  PE.weak (pe_callB cr_len hg hm (by decide +kernel) ha (by decide) (by decide) he hpl) fun _ _ _ h => len_read h

/-! ### the context of a translation -/
structure Cc where
  N : List Str
  sc : Scope
  fns : Tbl
  gi : List (Str × Int)
  gs : List (Str × Str)
  excs : List Str
  calm : Bool
  held : Option (Nat × Addr × List (Str × Bool))
  which : Option (Str × Str × FnE)
  fnc : List Str
  own : List (Nat × Nat)
  mov : List (Nat × Nat)
  fuel : Nat
def blt : List Str := ["isinstance", "ValueError", "len", "range", "all", "any", "sorted", "tuple", "list", "zip", "enumerate", "min", "max", "int", "str", "set", "sum", "bool"]
structure Wf (X : Cx) (W : WX) (c : Cc) : Prop where
  N : X.N = c.N
  nd : c.N.Nodup
  sc : X.env.scope = c.sc
  fns : ∀ y n F, c.fns.lookup y = some (n, F) → FnAt X y n F
  gi : ∀ y i, c.gi.lookup y = some i → ∃ t, X.mg y = some (.int i t)
  gs : ∀ y z, c.gs.lookup y = some z → ∃ t, X.mg y = some (.str z t)
  free : ∀ y, y ∈ blt → X.mg y = none
  tk : L2N.Takes X W
  calm : c.calm = true → X.calm = true
  room : X.A.units + 200 < cLine
  exc : ∀ y, y ∈ c.excs → ExcX X.K X.mg y
  fn : ∀ y, y ∈ c.fnc → X.fn y = true
  held : ∀ i pa tbl, c.held = some (i, pa, tbl) → ∃ D oe, ExcC X.K D ∧ (pa, oe) ∈ X.pn ∧ (oe.cls = .ref D ∧ oe.dict = none) ∧ (∃ vs, oe.data = .fields vs) ∧ ∀ y b, tbl.lookup y = some b →
    (∃ C2, X.mg y = some (.ref C2) ∧ PySem.W.kitOne X.K (.ref D) (.ref C2) = some b) ∨ ∃ T, X.mg y = none ∧ bootBuiltins y = some (.type T) ∧ PySem.W.kitOne X.K (.ref D) (.type T) = some b
def idx (N : List Str) (x : Str) : Option Nat := N.findIdx? (· == x)
theorem idx_get {N : List Str} {x : Str} {i : Nat} (h : idx N x = some i) : N[i]? = some x := by
  obtain ⟨hl, hp, _⟩ := List.findIdx?_eq_some_iff_getElem.mp h
  rw [List.getElem?_eq_getElem hl, beq_iff_eq.mp hp]
def okName (x : Str) : Bool := !(x == ("__debug__" : Str)) && !(x == ("__classdict__" : Str)) && !(x == ("__name__" : Str))
theorem okName_at {x : Str} (h : okName x = true) : (x == ("__debug__" : Str)) = false ∧ (x == ("__classdict__" : Str)) = false ∧ x ≠ "__name__" := by
  unfold okName at h
  simp only [Bool.and_eq_true, Bool.not_eq_true'] at h
  exact ⟨h.1.1, h.1.2, fun z => by rw [z] at h; exact absurd h.2 (by decide)⟩
def isVis (sc : Scope) (x : Str) : Bool := match sc.names.lookup x with
  | some .local => true
  | some .cell => true
  | some .free => true
  | _ => false
def isLoc (sc : Scope) (x : Str) : Bool := match sc.names.lookup x with
  | some .local => true
  | some .cell => true
  | _ => false
def isGlo (sc : Scope) (x : Str) : Bool := match sc.names.lookup x with
  | some .globalImplicit => true
  | _ => false
theorem isVis_at {sc : Scope} {x : Str} (h : isVis sc x = true) : Vis sc x := by
  unfold isVis at h
  split at h <;> first | exact .inl ‹_› | exact .inr (.inl ‹_›) | exact .inr (.inr ‹_›) | cases h
theorem isLoc_at {sc : Scope} {x : Str} (h : isLoc sc x = true) : Loc sc x := by
  unfold isLoc at h
  split at h <;> first | exact .inl ‹_› | exact .inr ‹_› | cases h
theorem isGlo_at {sc : Scope} {x : Str} (h : isGlo sc x = true) : sc.names.lookup x = some .globalImplicit := by
  unfold isGlo at h
  split at h <;> first | assumption | cases h
def slot (c : Cc) (x : Str) : Option Nat := if okName x = true ∧ isVis c.sc x = true then idx c.N x else none
def globE (c : Cc) (x : Str) : E := match c.gi.lookup x with
  | some i => eC (.int i)
  | none => match c.gs.lookup x with
    | some z => eC (.str z)
    | none => match c.fns.lookup x with
      | some _ => eC (.fn x)
      | none => eBad
def nameE (c : Cc) (x : Str) : E := match slot c x with
  | some i => eVar i
  | none => if okName x = true ∧ isGlo c.sc x = true then globE c x else eBad
def constE : Const → E
  | .none => eC .non
  | .bool b => eC (.bl b)
  | .int i => eC (.int i)
  | .str z => eC (.str z)
  | _ => eBad
def binOp : Operator → Option (D → D → Option TV)
  | .Add => some opAdd
  | .Sub => some opSub
  | .Mult => some opMul
  | .Mod => some opMod
  | .FloorDiv => some opDiv
  | .Pow => some opPow
  | _ => none
def cmpOp : CmpOp → Option (D → D → Option TV)
  | .Eq => some opEq
  | .NotEq => some opNe
  | .Lt => some opLt
  | .LtE => some opLeI
  | .Gt => some opGtI
  | .GtE => some opGeI
  | .Is => some opIs
  | .IsNot => some opIsNot
  | .In => some opIn
  | .NotIn => some opNotIn
def chainOp : CmpOp → Option (Int → Int → Bool)
  | .Lt => some fun i j => decide (i < j)
  | .LtE => some fun i j => decide (i ≤ j)
  | _ => none
def eOps (o : Option (D → D → Option TV)) (a b : E) : E := match o with
  | some f => eOp f a b
  | none => eBad
def lBad : EL := fun _ _ => .bad
def trL (r : Expr → E) (es : List Expr) : EL := if es.all noStar = true then (es.map r).foldr lCons lNil else lBad
def boolV (op : BoolOp) : List E → E
  | [] => eBad
  | [a] => a
  | a :: b :: r => (match op with
    | .And => eAnd a (boolV op (b :: r))
    | .Or => eOr a (boolV op (b :: r)))
def boolT (op : BoolOp) : List T → T
  | [] => fun _ _ => .bad
  | [a] => a
  | a :: b :: r => (match op with
    | .And => tAnd a (boolT op (b :: r))
    | .Or => tOr a (boolT op (b :: r)))
def bListK : List D → Option TV := orElseL bList (orElseL bLKeys bLKeysN)
/-- a built-in function -/
def bltOp (calm : Bool) (f : Str) : Option (List D → Option TV) :=
  if f = "len" then some bLen else if f = "sorted" then some bSorted else if f = "tuple" then some bTuple else if f = "list" then some (if calm = true then bListK else bList) else if f = "int" then some bInt else if f = "str" then some bStr
  else if calm = true then (if f = "all" then some bAll else if f = "any" then some bAny else if f = "min" then some bMinA else if f = "max" then some bMax2 else if f = "sum" then some bSum else none) else none
def tyName (f : Str) : Option String := if f = "int" then some "int" else if f = "bool" then some "bool" else if f = "tuple" then some "tuple" else if f = "str" then some "str" else if f = "list" then some "list" else none
def isiE (c : Cc) (r : Expr → E) (a : Expr) (y : Str) : E :=
  if okName y = true ∧ isGlo c.sc y = true ∧ noStar a = true then (match tyName y with
    | some t => eIsi t (r a)
    | none => (match c.held, a with
      | some (i, pa, tbl), .Name x _ => (match slot c x, tbl.lookup y with
        | some j, some b => if i = j then eIsP i pa b else eBad
        | _, _ => eBad)
      | _, _ => eBad)) else eBad
def setArg : List Expr → Bool
  | [.Call (.Name g _) [a] [] _] => decide (g = "set") && noStar a
  | _ => false
def setE (r : Expr → E) : List Expr → E
  | [.Call (.Name _ _) [a] [] _] => eSSet (r a)
  | _ => eBad
def lenSetE (r : Expr → E) : List Expr → E
  | [.Call (.Name _ _) [a] [] _] => eLenSet (r a)
  | _ => eBad
def rngArg : List Expr → Bool
  | [.Call (.Name g _) [a] [] _] => decide (g = "range") && noStar a
  | _ => false
def rngArg2 : List Expr → Bool
  | [.Call (.Name g _) [a, b] [] _] => decide (g = "range") && (noStar a && noStar b)
  | _ => false
def rngE2 (r : Expr → E) : List Expr → E
  | [.Call (.Name _ _) [a, b] [] _] => eLstR2 (r a) (r b)
  | _ => eBad
def rngE (f : Str) (r : Expr → E) : List Expr → E
  | [.Call (.Name _ _) [a] [] _] => if f = "list" then eLstR (r a) else eTupR (r a)
  | _ => eBad
/-- list(o.values()) -/
def valArg : List Expr → Bool
  | [.Call (.Attribute o m ap) [] [] mp] => decide (m = "values") && (!isCall o) && (ap.endLine == mp.line)
  | _ => false
def valE (r : Expr → E) : List Expr → E
  | [.Call (.Attribute o _ _) [] [] _] => eLVals (r o)
  | _ => eBad
/-- book[..] : its values lie in the store -/
def isBk : Expr → Bool
  | .Subscript (.Name x _) _ _ => decide (x = "book")
  | _ => false
def bkArg : List Expr → Bool
  | [a] => isBk a
  | _ => false
def bkE (r : Expr → E) : List Expr → E
  | [a] => eLstS (r a)
  | _ => eBad
theorem bk_star {a : Expr} (h : isBk a = true) : noStar a = true := by
  cases a <;> first | rfl | cases h
def callE (c : Cc) (r : Expr → E) (f : Str) (args : List Expr) : E :=
  if okName f = true ∧ isGlo c.sc f = true ∧ args.all noStar = true ∧ args ≠ [] then
    (match c.fns.lookup f with
    | some (n, F) => if args.length = n then eCall F (trL r args) else eBad
    | none => if f = "isinstance" then (match args with
        | [a, .Name y _] => isiE c r a y
        | _ => eBad)
      else if f = "len" ∧ c.calm = true ∧ setArg args = true ∧ isGlo c.sc "set" = true then lenSetE r args
      else if f = "len" then eLen (trL r args) else if f = "sorted" ∧ c.calm = true ∧ setArg args = true ∧ isGlo c.sc "set" = true then setE r args
      else if (f = "list" ∨ f = "tuple") ∧ c.calm = true ∧ rngArg args = true ∧ isGlo c.sc "range" = true then rngE f r args
      else if f = "list" ∧ c.calm = true ∧ rngArg2 args = true ∧ isGlo c.sc "range" = true then rngE2 r args
      else if f = "list" ∧ c.calm = true ∧ valArg args = true then valE r args else if f = "list" ∧ c.calm = true ∧ bkArg args = true then bkE r args else (match bltOp c.calm f with
        | some op => eB op (trL r args)
        | none => eBad))
  else eBad
def strArg : List Expr → Bool
  | [.Constant (.str _) _ _] => true
  | _ => false
/-- names that stand for tuples where a place is asked for -/
def isTN : Expr → Bool
  | .Name x _ => decide (x = "made") || decide (x = "names")
  | _ => false
def methE (c : Cc) (r : Expr → E) (o : Expr) (m : Str) (args : List Expr) (line : Bool) : E :=
  if isCall o = false ∧ args.all noStar = true ∧ args ≠ [] ∧ args.length < 30 ∧ line = true then
    (if m = "count" then (if strArg args = true then eM isStr mCountS (r o) (trL r args) else eM isLst mCount (r o) (trL r args)) else if m = "index" then (if isTN o = true then eM isTpl mTIdx (r o) (trL r args) else eM isLst mIndex (r o) (trL r args)) else if m = "get" then (match args with
      | [a, b] => if isBk o = true then eDGetS (r o) (r a) (r b) else eDGet (r o) (r a) (r b)
      | [a] => eDGet1 (r o) (r a)
      | _ => eBad) else if m = "join" then eM isStr mJoin (r o) (trL r args) else if m = "strip" then eM isStr mStrip (r o) (trL r args) else if m = "split" then eM isStr mSplit (r o) (trL r args) else eBad) else eBad
def trO (r : Expr → E) : Option Expr → O
  | none => oNone
  | some e => oSome (r e)

section
variable {X : Cx} {W : WX} {c : Cc} {pos : Pos}
theorem Wf.gl (w : Wf X W c) {x : Str} (h : isGlo c.sc x = true) : Gl X x := by
  show X.env.scope.names.lookup x = _
  rw [w.sc]
  exact isGlo_at h
theorem Wf.vis (w : Wf X W c) {x : Str} (h : isVis c.sc x = true) : Vis X.env.scope x := by
  rw [w.sc]
  exact isVis_at h
theorem Wf.at (w : Wf X W c) {x : Str} {i : Nat} (h : slot c x = some i) : X.N[i]? = some x ∧ Vis X.env.scope x ∧ (x == ("__debug__" : Str)) = false ∧ (x == ("__classdict__" : Str)) = false := by
  unfold slot at h
  split at h
  · rename_i hx
    obtain ⟨o1, o2, o3⟩ := okName_at hx.1
    exact ⟨by rw [w.N]; exact idx_get h, w.vis hx.2, o1, o2⟩
  · cases h
theorem name_ok (w : Wf X W c) (x : Str) : DE X W (.Name x pos) (nameE c x) := by
  unfold nameE
  split
  · rename_i i e
    obtain ⟨h1, h2, h3, h4⟩ := w.at e
    exact de_var h1 h2 h3 h4
  · split
    · rename_i h
      obtain ⟨o1, o2, o3⟩ := okName_at h.1
      have g := w.gl h.2
      unfold globE
      split
      · rename_i i e
        obtain ⟨t, m⟩ := w.gi x i e
        exact de_gint g m o1
      · split
        · rename_i z e
          obtain ⟨t, m⟩ := w.gs x z e
          exact de_gstr g m o1
        · split
          · rename_i nF e
            obtain ⟨n, F⟩ := nF
            obtain ⟨f, fd, ps, k, _, _, m, _⟩ := (w.fns x n F e).ok
            exact de_fn g m o1
          · exact de_bad
    · exact de_bad
theorem const_ok (k : Const) {j : Nat} : DE X W (.Constant k j pos) (constE k) := by
  cases k <;> first | exact de_non | exact de_bl | exact de_int | exact de_str | exact de_bad
theorem units64 (w : Wf X W c) : X.A.units + 64 < cLine := by have := w.room; omega
theorem units70 (w : Wf X W c) : X.A.units + 70 < cLine := by have := w.room; omega
theorem bin_ok (w : Wf X W c) {a b : Expr} {fa fb : E} (ha : DE X W a fa) (hb : DE X W b fb) (op : Operator) : DE X W (.BinOp a op b pos) (eOps (binOp op) fa fb) := by
  cases op with
  | Add => exact de_op (op_add.or (op_add_str.or (op_cat.or op_catN))) ((b2_I0 fun _ _ _ _ => .int _).or (b2_addS.or (b2_addL.or b2_addT))) ha hb
  | Sub => exact de_op op_sub (b2_I0 fun _ _ _ _ => .int _) ha hb
  | Mult =>
    refine de_op (op_mul.or (op_rep.or (op_repN.or (op_mulW.or op_mulS)))) ((b2_I (fun i j h => ?_) fun _ _ _ _ => .int _).or (b2_mulL.or (b2_mulT.or ((b2_I (fun i j h => ?_) fun _ _ _ _ => .int _).or b2_mulS)))) ha hb
    · unfold mulOk at h
      simp only [Bool.or_eq_true, Bool.and_eq_true, decide_eq_true_eq] at h
      exact h
    · rw [Bool.and_eq_true, decide_eq_true_eq, decide_eq_true_eq] at h
      exact wide_mul h.1 h.2 (by omega) (by omega) (by omega)
  | Mod => exact de_op op_mod (b2_I (fun i j h => of_decide_eq_true h) fun _ _ _ _ => .int _) ha hb
  | FloorDiv =>
    refine de_op op_fdivW (b2_I (fun i j h => ?_) fun _ _ _ _ => .int _) ha hb
    rw [Bool.and_eq_true, decide_eq_true_eq, decide_eq_true_eq] at h
    exact wide_div (b := 250) h.1 (by have := h.1; have := h.2; omega) (by omega) (by omega)
  | Pow =>
    refine de_op op_pow (b2_I (fun i j h => ?_) fun _ _ _ _ => .int _) ha hb
    simp only [Bool.and_eq_true, decide_eq_true_eq] at h
    exact h
  | _ => exact de_bad
theorem cmp_ok (w : Wf X W c) {a b : Expr} {fa fb : E} (ha : DE X W a fa) (hb : DE X W b fb) (hs : isSet b = false) (op : CmpOp) :
    DE X W (.Compare a [op] [b] pos) (eOps (cmpOp op) fa fb) ∧ DT X W (.Compare a [op] [b] pos) (tOf (eOps (cmpOp op) fa fb)) := by
  have m : behindInMarks op b = false := marks_no hs
  have u := units64 w
  have u65 : X.A.units + 65 < cLine := by have := w.room; omega
  have key : ∀ {r : R2} {f : D → D → Option TV}, OpR X (compareOp op) r → B2 (KW X) X.mg r f → DE X W (.Compare a [op] [b] pos) (eOp f fa fb) ∧ DT X W (.Compare a [op] [b] pos) (tOf (eOp f fa fb)) := fun ho hB => ⟨de_cmp ho hB ha hb m, dt_cmp ho hB ha hb m⟩
  cases op with
  | Eq => exact key (op_eqD u) b2_eq
  | NotEq => exact key (op_neD u) b2_ne
  | Lt => exact key (op_lt.or (op_ltD u)) ((b2_I0 fun _ _ _ _ => .bl _).or b2_ltD)
  | LtE => exact key op_le (b2_I0 fun _ _ _ _ => .bl _)
  | Gt => exact key op_gt (b2_I0 fun _ _ _ _ => .bl _)
  | GtE => exact key op_ge (b2_I0 fun _ _ _ _ => .bl _)
  | Is => exact key op_isN b2_is
  | IsNot => exact key op_notN b2_isNot
  | In => exact key ((op_inD u65).or ((op_inT u65).or (op_inS.or ((op_inDk (by omega)).or (op_inN (by omega)))))) (b2_inL.or (b2_inT.or (b2_inS.or (b2_inD.or b2_inN))))
  | NotIn => exact key ((op_notInD u65).or ((op_notInT u65).or (op_notInS.or ((op_notInDk (by omega)).or (op_notInN (by omega)))))) (b2_notInL.or (b2_inT.or (b2_inS.or (b2_inD.or b2_inN))))
theorem list_ok {r : Expr → E} (hr : ∀ e, DE X W e (r e)) : ∀ es : List Expr, es.all noStar = true → DL X W es ((es.map r).foldr lCons lNil)
  | [], _ => dl_nil
  | e :: es, h => by
    rw [List.all_cons, Bool.and_eq_true] at h
    exact dl_cons (hr e) (list_ok hr es h.2) (star_cons h.1)
theorem trL_ok {r : Expr → E} (hr : ∀ e, DE X W e (r e)) (es : List Expr) : DL X W es (trL r es) := by
  unfold trL
  split
  · rename_i h
    exact list_ok hr es h
  · exact ⟨fun _ _ _ _ _ _ _ h => by obtain ⟨_, _, _, _, _, z⟩ := h; exact z.elim⟩
theorem foldr_len {r : Expr → E} : ∀ (es : List Expr) (ρ : DSt) (s : Sto) (tvs : List TV) (s' : Sto), ((es.map r).foldr lCons lNil) ρ s = .ok tvs s' → tvs.length = es.length
  | [], ρ, s, tvs, s', h => by cases h; rfl
  | e :: es, ρ, s, tvs, s', h => by
    have h : lCons (r e) ((es.map r).foldr lCons lNil) ρ s = .ok tvs s' := h
    unfold lCons at h
    cases q : r e ρ s with
    | exc c s1 => rw [q] at h; cases h
    | bad => rw [q] at h; cases h
    | ok x s1 =>
      rw [q] at h
      have h : (((es.map r).foldr lCons lNil) ρ s1).bind (fun xs s2 => Res.ok (x.keep :: xs) s2) = .ok tvs s' := h
      cases q2 : ((es.map r).foldr lCons lNil) ρ s1 with
      | exc c s1 => rw [q2] at h; cases h
      | bad => rw [q2] at h; cases h
      | ok xs s2 =>
        rw [q2] at h
        cases h
        rw [List.length_cons, List.length_cons, foldr_len es ρ s1 xs _ q2]
theorem trL_len {r : Expr → E} {es : List Expr} {ρ : DSt} {s : Sto} {tvs : List TV} {s' : Sto} (h : trL r es ρ s = .ok tvs s') : tvs.length = es.length := by
  unfold trL at h
  split at h
  · exact foldr_len es ρ s tvs s' h
  · cases h
theorem boolV_ok {r : Expr → E} (hr : ∀ e, DE X W e (r e)) (op : BoolOp) : ∀ es : List Expr, DE X W (.BoolOp op es pos) (boolV op (es.map r))
  | [] => de_bad
  | [a] => de_one (hr a)
  | a :: b :: rest => by
    have ih := boolV_ok hr op (b :: rest)
    cases op with
    | And => exact de_and (hr a) ih
    | Or => exact de_or (hr a) ih
theorem dt_bad {e : Expr} : DT X W e (fun _ _ => .bad) := ⟨fun _ _ _ _ _ _ h => by obtain ⟨_, _, _, _, _, z⟩ := h; exact z.elim⟩
theorem boolT_ok {r : Expr → T} (hr : ∀ e, DT X W e (r e)) (op : BoolOp) : ∀ es : List Expr, DW X W (.BoolOp op es pos) (boolT op (es.map r))
  | [] => ⟨fun _ _ _ _ _ _ _ h => by obtain ⟨_, _, _, _, _, z⟩ := h; exact z.elim⟩
  | [a] => by
    cases op with
    | And => exact dw_and1 (hr a)
    | Or => exact dw_or1 (hr a)
  | a :: b :: rest => by
    have ih := boolT_ok hr op (b :: rest)
    cases op with
    | And => exact dw_and (hr a) ih
    | Or => exact dw_or (hr a) ih
theorem isi_ok (w : Wf X W c) {r : Expr → E} (hr : ∀ e, DE X W e (r e)) (hg : isGlo c.sc "isinstance" = true) (a : Expr) (y : Str) {p p2 : Pos} : DE X W (.Call (.Name "isinstance" p) [a, .Name y p2] [] pos) (isiE c r a y) := by
  unfold isiE
  split
  · rename_i h
    obtain ⟨hy, hgy, hna⟩ := h
    obtain ⟨o1, o2, o3⟩ := okName_at hy
    have m0 := w.free "isinstance" (by decide +kernel)
    have hb : bootBuiltins "isinstance" = some (.builtin "isinstance") := by decide +kernel
    have s1 : starEach [.Name y p2] X.env = (false, eval (.Name y p2) X.env) :: starEach [] X.env := star_cons rfl
    have s2 : starEach [a, .Name y p2] X.env = (false, eval a X.env) :: starEach [.Name y p2] X.env := star_cons hna
    have pl : (backTo pos (starEach [.Name y p2] X.env)).any (·.1) = false := star_any rfl
    split
    · rename_i t et
      have key : X.mg y = none ∧ bootBuiltins y = some (.type t) := by
        unfold tyName at et
        split at et
        · rename_i e; cases et; subst e; exact ⟨w.free _ (by decide +kernel), by decide +kernel⟩
        · split at et
          · rename_i e; cases et; subst e; exact ⟨w.free _ (by decide +kernel), by decide +kernel⟩
          · split at et
            · rename_i e; cases et; subst e; exact ⟨w.free _ (by decide +kernel), by decide +kernel⟩
            · split at et
              · rename_i e; cases et; subst e; exact ⟨w.free _ (by decide +kernel), by decide +kernel⟩
              · split at et
                · rename_i e; cases et; subst e; exact ⟨w.free _ (by decide +kernel), by decide +kernel⟩
                · cases et
      exact de_isi (w.gl hg) m0 hb (w.gl hgy) key.1 key.2 o3 o1 (hr a) s1 s2 pl
    · split
      · rename_i i pa tbl x px eh
        split
        · rename_i j b ej eb
          split
          · rename_i eij
            subst eij
            obtain ⟨D, oe, EC, hp, hz, hf, ht⟩ := w.held i pa tbl eh
            obtain ⟨h1, h2, h3, h4⟩ := w.at ej
            rcases ht y b eb with ⟨C2, hm, hk⟩ | ⟨T, hm, hv, hk⟩
            · exact de_isP (cv := .ref C2) (c := .ref C2) EC hp hz hf (w.gl hg) m0 hb h1 h2 h3 h4 (pe_glob (v := .ref C2) (w.gl hgy) hm rfl o1) (fun u r => r) hk s1 s2 pl
            · exact de_isP (cv := .type T) (c := .ty T) EC hp hz hf (w.gl hg) m0 hb h1 h2 h3 h4 (pe_bltn (v := .ty T) (w.gl hgy) hm hv rfl o3 o1) (fun u r => r) hk s1 s2 pl
          · exact de_bad
        · exact de_bad
      · exact de_bad
  · exact de_bad
set_option maxHeartbeats 4000000 in
theorem blt_ok (w : Wf X W c) {f : Str} {op : List D → Option TV} {e : Expr} {es : List Expr} {fl : EL} {p : Pos} (ho : bltOp c.calm f = some op) (hg : Gl X f) (o1 : (f == ("__debug__" : Str)) = false) (o3 : f ≠ "__name__") (ha : DL X W (e :: es) fl)
    (he : starEach (e :: es) X.env = (false, eval e X.env) :: starEach es X.env) (hpl : (backTo pos (starEach es X.env)).any (·.1) = false) : DE X W (.Call (.Name f p) (e :: es) [] pos) (eB op fl) := by
  unfold bltOp at ho
  split at ho
  · rename_i e; cases ho; subst e
    exact de_callB cr_len bl_len hg (w.free _ (by decide +kernel)) (by decide +kernel) ha o3 o1 he hpl
  split at ho
  · rename_i e; cases ho; subst e
    exact de_callB (cr_sorted (by have := w.room; omega)) bl_sorted hg (w.free _ (by decide +kernel)) (by decide +kernel) ha o3 o1 he hpl
  split at ho
  · rename_i e; cases ho; subst e
    exact de_callTy call_tupleN bl_tuple hg (w.free _ (by decide +kernel)) (by decide +kernel) ha o3 o1 he hpl
  split at ho
  · rename_i e; cases ho; subst e
    by_cases hcalm : c.calm = true
    · rw [if_pos hcalm]
      exact de_callTy (CallR.or call_list_of (CallR.or (cr_lkeys (w.calm hcalm)) (cr_lkeysN (w.calm hcalm)))) (bl_list.or (bl_lkeys.or bl_lkeysN)) hg (w.free _ (by decide +kernel)) (by decide +kernel) ha o3 o1 he hpl
    · rw [if_neg hcalm]
      exact de_callTy call_list_of bl_list hg (w.free _ (by decide +kernel)) (by decide +kernel) ha o3 o1 he hpl
  split at ho
  · rename_i e; cases ho; subst e
    exact de_callTy (CallR.or call_int1 call_int_str) bl_int hg (w.free _ (by decide +kernel)) (by decide +kernel) ha o3 o1 he hpl
  split at ho
  · rename_i e; cases ho; subst e
    exact de_callTy (CallR.or call_str_int SkE.call_str_str) bl_str hg (w.free _ (by decide +kernel)) (by decide +kernel) ha o3 o1 he hpl
  split at ho
  · rename_i hcalm
    have hc := w.calm hcalm
    split at ho
    · rename_i e; cases ho; subst e
      exact de_callB (cr_all hc) bl_all hg (w.free _ (by decide +kernel)) (by decide +kernel) ha o3 o1 he hpl
    split at ho
    · rename_i e; cases ho; subst e
      exact de_callB (cr_any hc) bl_any hg (w.free _ (by decide +kernel)) (by decide +kernel) ha o3 o1 he hpl
    split at ho
    · rename_i e; cases ho; subst e
      exact de_callB (CallR.or (call_min2 hc) (cr_minN hc (units70 w))) (bl_min2.or bl_minL) hg (w.free _ (by decide +kernel)) (by decide +kernel) ha o3 o1 he hpl
    split at ho
    · rename_i e; cases ho; subst e
      exact de_callB (call_max2 hc) bl_max2 hg (w.free _ (by decide +kernel)) (by decide +kernel) ha o3 o1 he hpl
    split at ho
    · rename_i e; cases ho; subst e
      exact de_callB (cr_sum hc) bl_sum hg (w.free _ (by decide +kernel)) (by decide +kernel) ha o3 o1 he hpl
    · cases ho
  · cases ho
set_option maxHeartbeats 4000000 in
theorem call_ok (w : Wf X W c) {r : Expr → E} (hr : ∀ e, DE X W e (r e)) (f : Str) (args : List Expr) {p : Pos} : DE X W (.Call (.Name f p) args [] pos) (callE c r f args) := by
  unfold callE
  split
  · rename_i h
    obtain ⟨hf, hgf, hst, hne⟩ := h
    obtain ⟨o1, o2, o3⟩ := okName_at hf
    have g := w.gl hgf
    obtain ⟨e, es, rfl⟩ : ∃ e es, args = e :: es := by
      cases args with
      | nil => exact absurd rfl hne
      | cons e es => exact ⟨e, es, rfl⟩
    have hs := hst
    rw [List.all_cons, Bool.and_eq_true] at hs
    have he : starEach (e :: es) X.env = (false, eval e X.env) :: starEach es X.env := star_cons hs.1
    have hpl : (backTo pos (starEach es X.env)).any (·.1) = false := star_any hs.2
    split
    · rename_i n F eF
      split
      · rename_i hn
        exact de_call w.tk (w.fns f n F eF) g (trL_ok hr _) (fun ρ s tvs s' q => (trL_len q).trans hn) o1 he hpl
      · exact de_bad
    · split
      · rename_i ef
        subst ef
        split
        · rename_i a y p2 e
          rw [e]
          exact isi_ok w hr hgf a y
        · exact de_bad
      · split
        · rename_i ef
          obtain ⟨rfl, hcalm, hset, hgs⟩ := ef
          have gs := w.gl hgs
          match e, es, hset with
          | .Call (.Name gn gp) [a] [] gq, [], hset =>
            have hset : (decide (gn = "set") && noStar a) = true := hset
            rw [Bool.and_eq_true, decide_eq_true_eq] at hset
            obtain ⟨rfl, hna⟩ := hset
            exact de_lenSet (w.calm hcalm) (units70 w) g (w.free _ (by decide +kernel)) gs (w.free _ (by decide +kernel)) (hr a) hna
        split
        · rename_i ef
          subst ef
          exact de_len g (w.free _ (by decide +kernel)) (trL_ok hr _) he hpl
        · split
          · rename_i ef
            obtain ⟨rfl, hcalm, hset, hgs⟩ := ef
            have gs := w.gl hgs
            match e, es, hset with
            | .Call (.Name gn gp) [a] [] gq, [], hset =>
              have hset : (decide (gn = "set") && noStar a) = true := hset
              rw [Bool.and_eq_true, decide_eq_true_eq] at hset
              obtain ⟨rfl, hna⟩ := hset
              exact de_sset (w.calm hcalm) (units70 w) g (w.free _ (by decide +kernel)) gs (w.free _ (by decide +kernel)) (hr a) hna
          · split
            · rename_i ef
              obtain ⟨hf2, hcalm, hset, hgs⟩ := ef
              have gs := w.gl hgs
              match e, es, hset with
              | .Call (.Name gn gp) [a] [] gq, [], hset =>
                have hset : (decide (gn = "range") && noStar a) = true := hset
                rw [Bool.and_eq_true, decide_eq_true_eq] at hset
                obtain ⟨rfl, hna⟩ := hset
                show DE X W _ (if f = "list" then eLstR (r a) else eTupR (r a))
                split
                · rename_i efl
                  subst efl
                  exact de_lstR (w.calm hcalm) g (w.free _ (by decide +kernel)) gs (w.free _ (by decide +kernel)) (hr a) hna
                · rename_i efl
                  rcases hf2 with hf2 | hf2
                  · exact absurd hf2 efl
                  · subst hf2
                    exact de_tupR (w.calm hcalm) g (w.free _ (by decide +kernel)) gs (w.free _ (by decide +kernel)) (hr a) hna
            · split
              · rename_i ef
                obtain ⟨rfl, hcalm, hset, hgs⟩ := ef
                have gs := w.gl hgs
                match e, es, hset with
                | .Call (.Name gn gp) [a, b] [] gq, [], hset =>
                  have hset : (decide (gn = "range") && (noStar a && noStar b)) = true := hset
                  rw [Bool.and_eq_true, Bool.and_eq_true, decide_eq_true_eq] at hset
                  obtain ⟨rfl, hna, hnb⟩ := hset
                  exact de_lstR2 (w.calm hcalm) g (w.free _ (by decide +kernel)) gs (w.free _ (by decide +kernel)) (hr a) (hr b) hna hnb
              split
              · rename_i ef
                obtain ⟨rfl, hcalm, hval⟩ := ef
                match e, es, hval with
                | .Call (.Attribute ov m ap) [] [] mp, [], hval =>
                  have hval : ((decide (m = "values") && !isCall ov) && (ap.endLine == mp.line)) = true := hval
                  rw [Bool.and_eq_true, Bool.and_eq_true, decide_eq_true_eq, Bool.not_eq_true'] at hval
                  obtain ⟨⟨rfl, hb⟩, hline⟩ := hval
                  exact de_lvals (w.calm hcalm) g (w.free _ (by decide +kernel)) (hr ov) (base_no hb) hline
              split
              · rename_i ef
                obtain ⟨rfl, hcalm, hval⟩ := ef
                match e, es, hval with
                | a, [], hval =>
                  have hval : isBk a = true := hval
                  exact de_lstS (w.calm hcalm) g (w.free _ (by decide +kernel)) (hr a) (bk_star hval)
              · split
                · rename_i op eo
                  exact blt_ok w eo g o1 o3 (trL_ok hr _) he hpl
                · exact de_bad
  · exact de_bad
theorem meth_ok (w : Wf X W c) {r : Expr → E} (hr : ∀ e, DE X W e (r e)) (o : Expr) (m : Str) (args : List Expr) {apos : Pos} : DE X W (.Call (.Attribute o m apos) args [] pos) (methE c r o m args (apos.endLine == pos.line)) := by
  unfold methE
  split
  · rename_i h
    obtain ⟨ho, hst, hne, hlen, hline⟩ := h
    obtain ⟨e, es, rfl⟩ : ∃ e es, args = e :: es := by
      cases args with
      | nil => exact absurd rfl hne
      | cons e es => exact ⟨e, es, rfl⟩
    have hs := hst
    rw [List.all_cons, Bool.and_eq_true] at hs
    have he : starEach (e :: es) X.env = (false, eval e X.env) :: starEach es X.env := star_cons hs.1
    have hpl : (backTo pos (starEach es X.env)).any (·.1) = false := star_any hs.2
    split
    · rename_i em; subst em
      split
      · exact de_bm PySem.F.plainAttrs_str PySem.F.slot_str_count PySem.F.type_str_count mt_count bm_countS (fun C R H v d p k _ => isStr_ty p k) (hr o) (trL_ok hr _) (base_no ho) (few hst hlen) hline he hpl
      · exact de_bm PySem.F.plainAttrs_list PySem.F.slot_list_count PySem.F.type_list_count mt_countV bm_count (fun C R H v d p k _ => isLst_ty p k) (hr o) (trL_ok hr _) (base_no ho) (few hst hlen) hline he hpl
    · split
      · rename_i em; subst em
        split
        · exact de_tix (hr o) (trL_ok hr _) (base_no ho) (few hst hlen) hline he hpl
        exact de_bm PySem.F.plainAttrs_list PySem.F.slot_list_index PySem.F.type_list_index mt_index bm_index (fun C R H v d p k _ => isLst_ty p k) (hr o) (trL_ok hr _) (base_no ho) (few hst hlen) hline he hpl
      · split
        · rename_i em; subst em
          split
          · rename_i a b ee
            cases ee
            rw [List.all_cons, Bool.and_eq_true] at hs
            have h2 : noStar b = true := hs.2.1
            split
            · refine de_getS (by have := w.room; omega) (hr o) (hr _) (hr _) ⟨base_no ho, few hst hlen, hline, ?_⟩
              rw [star_cons hs.1, star_cons h2]
              rfl
            refine de_dget (by have := w.room; omega) (hr o) (hr _) (hr _) ⟨base_no ho, few hst hlen, hline, ?_⟩
            rw [star_cons hs.1, star_cons h2]
            rfl
          · rename_i a ee
            cases ee
            refine de_dget1 (by have := w.room; omega) (hr o) (hr _) ⟨base_no ho, few hst hlen, hline, ?_⟩
            rw [star_cons hs.1]
            rfl
          · exact de_bad
        · split
          · rename_i em; subst em
            exact de_bm PySem.F.plainAttrs_str PySem.F.slot_str_join PySem.F.type_str_join mt_join bm_join (fun C R H v d p k _ => isStr_ty p k) (hr o) (trL_ok hr _) (base_no ho) (few hst hlen) hline he hpl
          · split
            · rename_i em; subst em
              exact de_bm PySem.F.plainAttrs_str PySem.F.slot_str_strip PySem.F.type_str_strip mt_stripChars bm_strip (fun C R H v d p k _ => isStr_ty p k) (hr o) (trL_ok hr _) (base_no ho) (few hst hlen) hline he hpl
            · split
              · rename_i em; subst em
                exact de_bm PySem.F.plainAttrs_str PySem.F.slot_str_split PySem.F.type_str_split mt_split bm_split (fun C R H v d p k _ => isStr_ty p k) (hr o) (trL_ok hr _) (base_no ho) (few hst hlen) hline he hpl
              · exact de_bad
  · exact de_bad
theorem trO_ok {r : Expr → E} (hr : ∀ e, DE X W e (r e)) (o : Option Expr) : DO X W o (trO r o) := by
  cases o with
  | none => exact do_none
  | some e => exact do_some (hr e)
end
end UW
namespace UW
open PySem PySem.Spec PyProof.Rows L2

/-! ### targets -/
def slotL (c : Cc) (x : Str) : Option Nat := if okName x = true ∧ (c.sc.names.lookup x = some .local ∨ (c.sc.names.lookup x = some .cell ∧ x ∈ c.fnc)) then idx c.N x else none
def trGs (r : Expr → Option (List Nat × G)) : List Expr → Option (List Nat × Gs)
  | [] => some ([], gsNil)
  | e :: es => match r e, trGs r es with
    | some (ts, g), some (us, gs) => some (ts ++ us, gsCons g gs)
    | _, _ => none
def trG (c : Cc) : Nat → Expr → Option (List Nat × G)
  | 0, _ => none
  | n + 1, e => match e with
    | .Name x _ => (slotL c x).map fun i => ([i], gN i)
    | .Tuple es _ _ => if c.calm = true ∧ es.all noStar = true then (trGs (trG c n) es).map fun z => (z.1, gT z.2) else none
    | _ => none
def GFrs (ts : List Nat) (g : Gs) : Prop := ∀ d ρ ρ', g d ρ = some ρ' → ∀ j : Nat, j ∉ ts → ρ'[j]? = ρ[j]?
theorem Wf.atL {X : Cx} {W : WX} {c : Cc} (w : Wf X W c) {x : Str} {i : Nat} (h : slotL c x = some i) : X.N.Nodup ∧ X.N[i]? = some x ∧ Loc X.env.scope x ∧ (X.fn x = true ∨ X.env.scope.names.lookup x = some .local) ∧ okName x = true := by
  unfold slotL at h
  split at h
  · rename_i hx
    refine ⟨by rw [w.N]; exact w.nd, by rw [w.N]; exact idx_get h, ?_, ?_, hx.1⟩
    · rw [w.sc]
      exact hx.2.imp id fun z => z.1
    · rcases hx.2 with z | z
      · exact .inr (by rw [w.sc]; exact z)
      · exact .inl (w.fn x z.2)
  · cases h
theorem trGs_ok {X : Cx} {r : Expr → Option (List Nat × G)} (hr : ∀ e ts g, r e = some (ts, g) → DG X e ts g ∧ GFr ts g) : ∀ (es : List Expr) (ts : List Nat) (gs : Gs), es.all noStar = true → trGs r es = some (ts, gs) → DGs X es ts gs ∧ GFrs ts gs ∧ ∀ ds ρ ρ', gs ds ρ = some ρ' → ds.length = es.length
  | [], ts, gs, _, h => by
    cases h
    refine ⟨dgs_nil, fun d ρ ρ' e j _ => ?_, fun ds ρ ρ' e => ?_⟩
    · cases d with
      | nil => cases e; rfl
      | cons _ _ => cases e
    · cases ds with
      | nil => rfl
      | cons _ _ => cases e
  | e :: es, ts, gs, hs, h => by
    rw [List.all_cons, Bool.and_eq_true] at hs
    unfold trGs at h
    split at h
    · rename_i t1 g1 u1 gs1 e1 e2
      cases h
      obtain ⟨a1, a2⟩ := hr e t1 g1 e1
      obtain ⟨b1, b2, b3⟩ := trGs_ok hr es u1 gs1 hs.2 e2
      refine ⟨dgs_cons a1 b1 (assign_cons hs.1), fun ds ρ ρ' q j hj => ?_, fun ds ρ ρ' q => ?_⟩
      · cases ds with
        | nil => cases q
        | cons d r =>
          have q : (g1 d ρ).bind (gs1 r) = some ρ' := q
          cases q1 : g1 d ρ with
          | none => rw [q1] at q; cases q
          | some ρ1 =>
            rw [q1] at q
            rw [List.mem_append, not_or] at hj
            exact (b2 r ρ1 ρ' q j hj.2).trans (a2 d ρ ρ1 q1 j hj.1)
      · cases ds with
        | nil => cases q
        | cons d r =>
          have q : (g1 d ρ).bind (gs1 r) = some ρ' := q
          cases q1 : g1 d ρ with
          | none => rw [q1] at q; cases q
          | some ρ1 =>
            rw [q1] at q
            rw [List.length_cons, List.length_cons, b3 r ρ1 ρ' q]
    · cases h
theorem trG_ok {X : Cx} {W : WX} {c : Cc} (w : Wf X W c) : ∀ (n : Nat) (e : Expr) (ts : List Nat) (g : G), trG c n e = some (ts, g) → DG X e ts g ∧ GFr ts g
  | 0, _, _, _, h => by cases h
  | n + 1, e, ts, g, h => by
    unfold trG at h
    split at h
    · rename_i x p
      cases q : slotL c x with
      | none => rw [q] at h; cases h
      | some i =>
        rw [q] at h
        cases h
        obtain ⟨h1, h2, h3, h4, _⟩ := w.atL q
        refine ⟨dg_name h1 h2 h3 h4, fun d ρ ρ' e j hj => ?_⟩
        cases e
        rw [List.getElem?_set_ne]
        intro z
        exact hj (by simp [z])
    · rename_i es k p
      split at h
      · rename_i hc
        cases q : trGs (trG c n) es with
        | none => rw [q] at h; cases h
        | some z =>
          rw [q] at h
          obtain ⟨ts', gs⟩ := z
          cases h
          obtain ⟨b1, b2, b3⟩ := trGs_ok (trG_ok w n) es _ gs hc.2 q
          refine ⟨dg_tup (w.calm hc.1) b1 assign_len (assign_star hc.2) b3, fun d ρ ρ' e j hj => ?_⟩
          unfold gT at e
          split at e
          · exact b2 _ _ _ e j hj
          · exact b2 _ _ _ e j hj
          · exact b2 _ _ _ e j hj
          · cases e
      · cases h
    · cases h

theorem trGs_fr {r : Expr → Option (List Nat × G)} (hr : ∀ e ts g, r e = some (ts, g) → GFr ts g) : ∀ (es : List Expr) (ts : List Nat) (gs : Gs), trGs r es = some (ts, gs) → GFrs ts gs
  | [], ts, gs, h => by
    cases h
    intro d ρ ρ' e j _
    cases d with
    | nil => cases e; rfl
    | cons _ _ => cases e
  | e :: es, ts, gs, h => by
    unfold trGs at h
    split at h
    · rename_i t1 g1 u1 gs1 e1 e2
      cases h
      intro ds ρ ρ' q j hj
      cases ds with
      | nil => cases q
      | cons d r =>
        have q : (g1 d ρ).bind (gs1 r) = some ρ' := q
        cases q1 : g1 d ρ with
        | none => rw [q1] at q; cases q
        | some ρ1 =>
          rw [q1] at q
          rw [List.mem_append, not_or] at hj
          exact (trGs_fr hr es u1 gs1 e2 r ρ1 ρ' q j hj.2).trans (hr e t1 g1 e1 d ρ ρ1 q1 j hj.1)
    · cases h
theorem trG_fr {c : Cc} : ∀ (n : Nat) (e : Expr) (ts : List Nat) (g : G), trG c n e = some (ts, g) → GFr ts g
  | 0, _, _, _, h => by cases h
  | n + 1, e, ts, g, h => by
    unfold trG at h
    split at h
    · rename_i x p
      cases q : slotL c x with
      | none => rw [q] at h; cases h
      | some i =>
        rw [q] at h
        cases h
        intro d ρ ρ' e j hj
        cases e
        rw [List.getElem?_set_ne]
        intro z
        exact hj (by simp [z])
    · rename_i es k p
      split at h
      · cases q : trGs (trG c n) es with
        | none => rw [q] at h; cases h
        | some z =>
          rw [q] at h
          obtain ⟨ts', gs⟩ := z
          cases h
          intro d ρ ρ' e j hj
          unfold gT at e
          split at e
          · exact trGs_fr (trG_fr n) es _ gs q _ _ _ e j hj
          · exact trGs_fr (trG_fr n) es _ gs q _ _ _ e j hj
          · exact trGs_fr (trG_fr n) es _ gs q _ _ _ e j hj
          · cases e
      · cases h
    · cases h

/-! ### what is walked -/
def iBad : IW := fun _ _ => .bad
def isTup : Expr → Bool
  | .Tuple .. => true
  | _ => false
def trI (c : Cc) (r : Expr → E) (tg it : Expr) : IW := match it with
  | .Call (.Name f _) args [] _ => if f = "range" ∧ isGlo c.sc f = true ∧ args.all noStar = true ∧ (args.length = 1 ∨ args.length = 2) then iRange (trL r args)
      else if f = "range" ∧ isGlo c.sc f = true ∧ args.all noStar = true ∧ args.length = 3 then iRange3 (trL r args)
      else if f = "zip" ∧ isGlo c.sc f = true ∧ args.all noStar = true ∧ args.length = 2 ∧ isTup tg = true then iZip (trL r args)
      else if f = "enumerate" ∧ isGlo c.sc f = true ∧ args.all noStar = true ∧ args.length = 1 ∧ isTup tg = true then iEnum (trL r args) else iAny (r it)
  | _ => iAny (r it)
theorem trI_ok {X : Cx} {W : WX} {c : Cc} (w : Wf X W c) {r : Expr → E} (hr : ∀ e, DE X W e (r e)) (tg it : Expr) : DI X W tg it (trI c r tg it) := by
  unfold trI
  split
  · rename_i f p args pos
    split
    · rename_i h
      obtain ⟨rfl, hg, hst, hl⟩ := h
      have g := w.gl hg
      have m := w.free "range" (by decide +kernel)
      match args, hst, hl with
      | [a], hst, _ =>
        rw [List.all_cons, Bool.and_eq_true] at hst
        exact di_range1 g m (trL_ok hr _) (star_cons hst.1) fun ρ s tvs s' q => trL_len q
      | [a, b], hst, _ =>
        rw [List.all_cons, Bool.and_eq_true, List.all_cons, Bool.and_eq_true] at hst
        exact di_range2 g m (trL_ok hr _) (by rw [star_cons hst.1, star_cons hst.2.1]; rfl) (by rw [star_cons hst.2.1]; rfl) fun ρ s tvs s' q => trL_len q
      | [], _, hl => exact absurd hl (by decide)
      | _ :: _ :: _ :: _, _, hl => exact absurd hl (by simp)
    split
    · rename_i h
      obtain ⟨rfl, hg, hst, hl⟩ := h
      have g := w.gl hg
      have m := w.free "range" (by decide +kernel)
      match args, hst, hl with
      | [a, b, d], hst, _ =>
        rw [List.all_cons, Bool.and_eq_true] at hst
        exact di_range3 g m (trL_ok hr _) (star_cons hst.1) (star_any hst.2)
    · split
      · rename_i h
        obtain ⟨rfl, hg, hst, hl, ht⟩ := h
        have g := w.gl hg
        have m := w.free "zip" (by decide +kernel)
        match args, hst, hl with
        | [a, b], hst, _ =>
          rw [List.all_cons, Bool.and_eq_true, List.all_cons, Bool.and_eq_true] at hst
          cases tg with
          | Tuple es k tp => exact di_zip g m (trL_ok hr _) (star_cons hst.1) (star_any (by rw [List.all_cons, hst.2.1]; rfl))
          | _ => cases ht
        | [], _, hl => exact absurd hl (by decide)
        | [_], _, hl => exact absurd hl (by simp)
        | _ :: _ :: _ :: _, _, hl => exact absurd hl (by simp)
      · split
        · rename_i h
          obtain ⟨rfl, hg, hst, hl, ht⟩ := h
          have g := w.gl hg
          have m := w.free "enumerate" (by decide +kernel)
          match args, hst, hl with
          | [a], hst, _ =>
            rw [List.all_cons, Bool.and_eq_true] at hst
            cases tg with
            | Tuple es k tp => exact di_enum g m (trL_ok hr _) (star_cons hst.1)
            | _ => cases ht
          | [], _, hl => exact absurd hl (by decide)
          | _ :: _ :: _, _, hl => exact absurd hl (by simp)
        · exact di_any (hr _)
  · exact di_any (hr _)

/-! ### expressions -/
def tT : T := fun _ s => .ok true s
def ownOf (N : List Str) (scope : Scope) : List (Str × Nat) := scope.names.filterMap fun (x, k) => if k = .local ∨ k = .cell then (idx N x).map fun i => (x, i) else none
def Cc.blk (c : Cc) (scope : Scope) : Cc := { c with sc := relS scope c.sc, fnc := scope.names.filterMap fun (x, k) => if k = .cell ∧ scope.names.lookup x = some .cell then some x else none, held := none, which := none, excs := c.excs }
def ifsT (r : Expr → T) : List Expr → Option T
  | [] => some tT
  | [e] => some (r e)
  | _ => none
def subset (ts us : List Nat) : Bool := ts.all fun i => us.contains i
def stepE (rE : Cc → Expr → E) (rT : Cc → Expr → T) (c : Cc) (e : Expr) : E := match e with
    | .Name x _ => nameE c x
    | .Constant k _ _ => constE k
    | .Tuple es _ _ => eTup (trL (rE c) es)
    | .List es _ => eLst (trL (rE c) es)
    | .Dict [] [] _ => eDNew
    | .Dict [some a] [b] _ => eDisp (rE c a) (rE c b)
    | .BinOp a op b _ => eOps (binOp op) (rE c a) (rE c b)
    | .UnaryOp .Not a _ => eNot (rE c a)
    | .UnaryOp .USub a _ => eNeg (rE c a)
    | .BoolOp op es _ => boolV op (es.map (rE c))
    | .IfExp t a b _ => eIf (rT c t) (rE c a) (rE c b)
    | .Compare a [op] [b] _ => if isSet b = false then eOps (cmpOp op) (rE c a) (rE c b) else eBad
    | .Compare a [op, op'] [b, d] _ => if isSet d = false then (match chainOp op, chainOp op' with
        | some f, some g => eChain f g (rE c a) (rE c b) (rE c d)
        | _, _ => eBad) else eBad
    | .Subscript a (.Slice lo hi none _) _ => eSl (rE c a) (trO (rE c) lo) (trO (rE c) hi)
    | .Subscript a (.Slice none none (some (.UnaryOp .USub (.Constant (.int k) _ _) _)) _) _ => if k = 1 then eRevT (rE c a) else eBad
    | .Subscript a b _ => if isSlice b = false then (if isBk a = true then eIxS (rE c a) (rE c b) else eIx (rE c a) (rE c b)) else eBad
    | .Call (.Name f p) args [] _ => if isGlo c.sc f = false ∧ args.all noStar = true ∧ args ≠ [] then eCallX c.fns (rE c (.Name f p)) (trL (rE c) args) else callE c (rE c) f args
    | .Call (.Attribute o m ap) args [] cp => methE c (rE c) o m args (ap.endLine == cp.line)
    | .Call (.Subscript a b p) args [] _ => if args.all noStar = true ∧ args ≠ [] then eCallX c.fns (rE c (.Subscript a b p)) (trL (rE c) args) else eBad
    | .ListComp elt [⟨tg, it, ifs, k⟩] scope _ => if c.calm = true ∧ k = 0 ∧ blkC c.N c.sc scope (ownOf c.N scope) = true ∧ isSet it = false then
        (match trG (c.blk scope) 4 tg, ifsT (rT (c.blk scope)) ifs with
        | some (ts, g), some ft => if subset ts ((ownOf c.N scope).map (·.2)) = true then eComp ((ownOf c.N scope).map (·.2)) (trI c (rE c) tg it) g ft (rE (c.blk scope) elt) else eBad
        | _, _ => eBad) else eBad
    | _ => eBad
def stepT (rE : Cc → Expr → E) (rT : Cc → Expr → T) (c : Cc) (e : Expr) : T := match e with
    | .UnaryOp .Not a _ => tNot (rT c a)
    | .BoolOp op es _ => boolT op (es.map (rT c))
    | .Compare a [op] [b] _ => if isSet b = false then tOf (eOps (cmpOp op) (rE c a) (rE c b)) else fun _ _ => .bad
    | .Compare a [op, op'] [b, d] _ => if isSet d = false then (match chainOp op, chainOp op' with
        | some f, some g => tOf (eChain f g (rE c a) (rE c b) (rE c d))
        | _, _ => fun _ _ => .bad) else fun _ _ => .bad
    | _ => if plainTest e = true then tOf (rE c e) else fun _ _ => .bad
mutual
def trE : Nat → Cc → Expr → E
  | 0 => fun _ _ => eBad
  | n + 1 => stepE (trE n) (trT n)
def trT : Nat → Cc → Expr → T
  | 0 => fun _ _ _ _ => .bad
  | n + 1 => stepT (trE n) (trT n)
end
theorem PTs.weak {X : Cx} {es : List Expr} {t t' : TT} (h : PTs X es t) (k : ∀ σ H Q, t' σ H Q → t σ H Q) : PTs X es t' := ⟨fun pins s σ H Q I q => h.run pins s σ H Q I (k σ H Q q)⟩
theorem Wf.blk {X : Cx} {W : WX} {c : Cc} (w : Wf X W c) (scope : Scope) (s : Shared) (H : Hp) (C : Addr) (cl : List (Str × Addr)) (fp : List Addr) : Wf (X.blk s H scope (compEnvC scope cl C X.env) fp) W0 (c.blk scope) where
  N := w.N
  nd := w.nd
  sc := by
    show relS scope X.env.scope = relS scope c.sc
    rw [w.sc]
  fns := fun y n F e => ⟨(w.fns y n F e).ok⟩
  gi := w.gi
  gs := w.gs
  free := w.free
  tk := fun u s' x => by
    obtain ⟨_, _, _, _, _, _, _, _, _, _, _, _, _, _, _, _, z⟩ := x
    exact z.elim
  calm := w.calm
  room := w.room
  exc := w.exc
  fn := fun y hy => by
    obtain ⟨p, hp, e⟩ := List.mem_filterMap.mp hy
    obtain ⟨x, k⟩ := p
    dsimp only at e
    split at e
    · rename_i h
      have e : x = y := Option.some.inj e
      show (scope.names.lookup y == some NameKind.cell) = true
      rw [← e, h.2]
      rfl
    · cases e
  held := fun i pa tbl e => by cases e
theorem chain_ok {X : Cx} {op : CmpOp} {f : Int → Int → Bool} (h : chainOp op = some f) : OpR X (compareOp op) (rI0 fun i j => .bl (f i j)) := by
  cases op <;> first | (cases h; exact op_lt) | (cases h; exact op_le) | cases h
theorem last_no {op op' : CmpOp} {b d : Expr} (h : isSet d = false) : lastMarks [op, op'] [b, d] = false := marks_no h
/-- the parts of a comprehension -/
structure CompOk (X : Cx) (W : WX) (elt tg it : Expr) (ifs : List Expr) (scope : Scope) (f : E) : Prop where
  ok : ∃ (own : List (Str × Nat)) (fi : IW) (g : G) (ts : List Nat) (ft : T) (fe : E), f = eComp (own.map (·.2)) fi g ft fe ∧ X.calm = true ∧ DI X W tg it fi ∧ BlkOk X.N X.env.scope scope own ∧ GFr ts g ∧ (∀ i, i ∈ ts → i ∈ own.map (·.2)) ∧
    (∀ (s : Shared) (H : Hp) (C : Addr) (cl : List (Str × Addr)) (fp : List Addr), DG (X.blk s H scope (compEnvC scope cl C X.env) fp) tg ts g) ∧
    (∀ (s : Shared) (H : Hp) (C : Addr) (cl : List (Str × Addr)) (fp : List Addr), PTs (X.blk s H scope (compEnvC scope cl C X.env) fp) ifs (tDT (KW X) X.mg W0 ft)) ∧
    (∀ (s : Shared) (H : Hp) (C : Addr) (cl : List (Str × Addr)) (fp : List Addr), DE (X.blk s H scope (compEnvC scope cl C X.env) fp) W0 elt fe) ∧ ∀ x, foldedSetIterable it X.env x = pure x
theorem eComp_bad : True := trivial
theorem comp_parts {X : Cx} {W : WX} {c : Cc} (w : Wf X W c) {rE : Cc → Expr → E} {rT : Cc → Expr → T} (ihE : ∀ (X : Cx) (W : WX) (c : Cc), Wf X W c → ∀ e, DE X W e (rE c e)) (ihT : ∀ (X : Cx) (W : WX) (c : Cc), Wf X W c → ∀ e, DT X W e (rT c e))
    (elt tg it : Expr) (ifs : List Expr) (scope : Scope) (pos : Pos) (k : Int) : stepE rE rT c (.ListComp elt [⟨tg, it, ifs, k⟩] scope pos) = eBad ∨ (k = 0 ∧ CompOk X W elt tg it ifs scope (stepE rE rT c (.ListComp elt [⟨tg, it, ifs, k⟩] scope pos))) := by
  show (if c.calm = true ∧ k = 0 ∧ blkC c.N c.sc scope (ownOf c.N scope) = true ∧ isSet it = false then
        (match trG (c.blk scope) 4 tg, ifsT (rT (c.blk scope)) ifs with
        | some (ts, g), some ft => if subset ts ((ownOf c.N scope).map (·.2)) = true then eComp ((ownOf c.N scope).map (·.2)) (trI c (rE c) tg it) g ft (rE (c.blk scope) elt) else eBad
        | _, _ => eBad) else eBad) = eBad ∨ (k = 0 ∧ CompOk X W elt tg it ifs scope (if c.calm = true ∧ k = 0 ∧ blkC c.N c.sc scope (ownOf c.N scope) = true ∧ isSet it = false then
        (match trG (c.blk scope) 4 tg, ifsT (rT (c.blk scope)) ifs with
        | some (ts, g), some ft => if subset ts ((ownOf c.N scope).map (·.2)) = true then eComp ((ownOf c.N scope).map (·.2)) (trI c (rE c) tg it) g ft (rE (c.blk scope) elt) else eBad
        | _, _ => eBad) else eBad))
  split
  · rename_i h
    obtain ⟨hc, hk, hb, hset⟩ := h
    split
    · rename_i ts g ft eg et
      split
      · rename_i hsub
        have hsub' : ∀ i, i ∈ ts → i ∈ (ownOf c.N scope).map (·.2) := fun i hi => by
          have := List.all_eq_true.mp hsub i hi
          simpa using this
        have ok : BlkOk X.N X.env.scope scope (ownOf c.N scope) := by
          rw [w.N, w.sc]
          exact blkOk_by hb
        refine .inr ⟨hk, ⟨_, _, _, ts, _, _, rfl, w.calm hc, trI_ok w (ihE X W c w) _ _, ok, trG_fr 4 _ ts g eg, hsub', fun s H C cl fp => (trG_ok (w.blk scope s H C cl fp) 4 _ ts g eg).1, fun s H C cl fp => ?_, fun s H C cl fp => ihE _ _ _ (w.blk scope s H C cl fp) _, folded_no hset⟩⟩
        have htb := ihT _ _ _ (w.blk scope s H C cl fp)
        unfold ifsT at et
        split at et
        · cases et
          exact PTs.weak pts_nil fun σ H Q ⟨C, R, ρ, s, x, h⟩ => h C R H (.refl C) (L2.Same.refl R) x
        · cases et
          exact pts_one (htb _)
        · cases et
      · exact .inl rfl
    · exact .inl rfl
  · exact .inl rfl
theorem CompOk.de {X : Cx} {W : WX} {c : Cc} (w : Wf X W c) {elt tg it : Expr} {ifs : List Expr} {scope : Scope} {f : E} {pos : Pos} (h : CompOk X W elt tg it ifs scope f) : DE X W (.ListComp elt [⟨tg, it, ifs, 0⟩] scope pos) f := by
  obtain ⟨own, fi, g, ts, ft, fe, rfl, hc, h1, h2, h3, h4, h5, h6, h7, h8⟩ := h.ok
  exact de_comp hc (by rw [w.N]; exact w.nd) h1 h2 h3 h4 h5 h6 h7 h8
theorem CompOk.ds {X : Cx} {W : WX} {c : Cc} (w : Wf X W c) {elt tg it : Expr} {ifs : List Expr} {scope : Scope} {f : E} {pos : Pos} (h : CompOk X W elt tg it ifs scope f) {i : Nat} {y : Str} {py spos : Pos} (hy : X.N[i]? = some y) (hyl : X.env.scope.names.lookup y = some .local)
    (hsw : swapsWith (.ListComp elt [⟨tg, it, ifs, 0⟩] scope pos) (some (.Name y py)) spos.line X.env = pure true) : DS X W (.Assign [.Name y py] (.ListComp elt [⟨tg, it, ifs, 0⟩] scope pos) spos) (sAsg i f) := by
  obtain ⟨own, fi, g, ts, ft, fe, rfl, hc, h1, h2, h3, h4, h5, h6, h7, h8⟩ := h.ok
  exact ds_setLc hc (by rw [w.N]; exact w.nd) hy hyl hsw h1 h2 h3 h4 h5 h6 h7 h8
set_option maxHeartbeats 4000000 in
theorem sound : ∀ n : Nat, (∀ (X : Cx) (W : WX) (c : Cc), Wf X W c → ∀ e, DE X W e (trE n c e)) ∧ ∀ (X : Cx) (W : WX) (c : Cc), Wf X W c → ∀ e, DT X W e (trT n c e)
  | 0 => ⟨fun X W c w e => de_bad, fun X W c w e => dt_bad⟩
  | n + 1 => by
    obtain ⟨ihE, ihT⟩ := sound n
    refine ⟨fun X W c w e => ?_, fun X W c w e => ?_⟩
    · have hr := ihE X W c w
      have ht := ihT X W c w
      show DE X W e (stepE (trE n) (trT n) c e)
      unfold stepE
      split
      · exact name_ok w _
      · exact const_ok _
      · exact de_tup (trL_ok hr _)
      · exact de_lst (trL_ok hr _)
      · exact de_dnew
      · exact de_disp (by have := w.room; omega) (hr _) (hr _)
      · exact bin_ok w (hr _) (hr _) _
      · exact de_not (hr _)
      · exact de_neg (hr _)
      · exact boolV_ok hr _ _
      · exact de_if (ht _) (hr _) (hr _)
      · split
        · rename_i hs
          exact (cmp_ok w (hr _) (hr _) hs _).1
        · exact de_bad
      · split
        · rename_i hs
          split
          · rename_i f g e1 e2
            exact de_chain (chain_ok e1) (chain_ok e2) (hr _) (hr _) (hr _) (last_no hs)
          · exact de_bad
        · exact de_bad
      · exact de_sl (hr _) (trO_ok hr _) (trO_ok hr _)
      · split
        · rename_i hk
          subst hk
          exact de_revT (hr _)
        · exact de_bad
      · split
        · rename_i hs
          split
          · exact de_ixS (by have := w.room; omega) (hr _) (hr _) (plainIx_of hs)
          · exact de_ix (by have := w.room; omega) (hr _) (hr _) (plainIx_of hs)
        · exact de_bad
      · rename_i f1 p1 args cp
        split
        · rename_i h
          obtain ⟨_, hst, hne⟩ := h
          obtain ⟨e, es, rfl⟩ : ∃ e es, args = e :: es := by
            cases args with
            | nil => exact absurd rfl hne
            | cons e es => exact ⟨e, es, rfl⟩
          have hs := hst
          rw [List.all_cons, Bool.and_eq_true] at hs
          exact de_callX w.tk w.fns (hr _) (trL_ok hr _) (call_other rfl) (star_cons hs.1) (star_any hs.2)
        · exact call_ok w hr _ _
      · exact meth_ok w hr _ _ _
      · rename_i a1 b1 p1 args cp
        split
        · rename_i h
          obtain ⟨hst, hne⟩ := h
          obtain ⟨e, es, rfl⟩ : ∃ e es, args = e :: es := by
            cases args with
            | nil => exact absurd rfl hne
            | cons e es => exact ⟨e, es, rfl⟩
          have hs := hst
          rw [List.all_cons, Bool.and_eq_true] at hs
          exact de_callX w.tk w.fns (hr _) (trL_ok hr _) (call_other rfl) (star_cons hs.1) (star_any hs.2)
        · exact de_bad
      · rename_i elt tg it ifs k scope cp
        have key := comp_parts w ihE ihT elt tg it ifs scope cp k
        unfold stepE at key
        dsimp only at key
        rcases key with z | ⟨rfl, z⟩
        · rw [z]
          exact de_bad
        · exact z.de w
      · exact de_bad
    · have hr := ihE X W c w
      have ht := ihT X W c w
      show DT X W e (stepT (trE n) (trT n) c e)
      unfold stepT
      split
      · exact dt_not (ht _)
      · exact (boolT_ok ht _ _).dt
      · split
        · rename_i hs
          exact (cmp_ok w (hr _) (hr _) hs _).2
        · exact dt_bad
      · split
        · rename_i hs
          split
          · rename_i f g e1 e2
            exact dt_chain (chain_ok e1) (chain_ok e2) (hr _) (hr _) (hr _) (last_no hs)
          · exact dt_bad
        · exact dt_bad
      · split
        · rename_i hp
          exact dt_of (hr _) (isTrue_no hp)
        · exact dt_bad
end UW
namespace UW
open PySem PySem.Spec PyProof.Rows L2

/-! ### a slot's own list goes into the store -/
section
variable {K : Kw} {mg : Str → Option Value} {C : Cn} {R H : Hp} {ρ : DSt} {σ : L2.St} {s : Sto}
theorem Rel.toSto (x : Rel K mg C R ρ σ H s) {i : Nat} {ds : List D} (h : ρ[i]? = some (.ow (.lst ds))) : ∃ C', C.Le C' ∧ Rel K mg C' R (ρ.set i (.sh (.ref s.length))) σ H (s ++ [.lst ds]) := by
  obtain ⟨p, h1, h2, h3, h4, h5⟩ := x.own i _ h
  have hil : i < ρ.length := (List.getElem?_eq_some_iff.mp h).1
  have pre : C.L <+: C.L ++ [p] := ⟨[p], rfl⟩
  have tk : (C.L ++ [p]).take C.n0 = C.L.take C.n0 := List.take_append_of_le_length x.bas.n0
  have hlen : C.L.length = s.length := x.bas.sto.len.symm
  refine ⟨{ C with L := C.L ++ [p] }, ⟨pre, rfl, rfl, rfl⟩, ⟨⟨x.bas.sub, x.bas.new, x.bas.r0, fun a o e hn => ?_, ⟨?_, ?_, fun j ob a e1 e2 => ?_⟩, ?_, fun j a hj e => ?_⟩, ?_, fun j d e => ?_, fun j d e => ?_, fun j k d e p' q1 q2 q3 => ?_⟩⟩
  · exact x.bas.keep a o e (by rw [← tk]; exact hn)
  · show (s ++ [Ob.lst ds]).length = (C.L ++ [p]).length
    rw [List.length_append, List.length_append, hlen]
    rfl
  · exact List.nodup_append.mpr ⟨x.bas.sto.nd, List.pairwise_singleton _ p, fun a ha b hb => by
      rw [List.mem_singleton] at hb
      subst hb
      exact fun z => h5 (z ▸ ha)⟩
  · have e2 : (C.L ++ [p])[j]? = some a := e2
    by_cases hj : j < s.length
    · rw [List.getElem?_append_left hj] at e1
      rw [List.getElem?_append_left (by omega)] at e2
      obtain ⟨q1, q2⟩ := x.bas.sto.at_ j ob a e1 e2
      exact ⟨q1.mono pre (L2.Same.refl _) (fun _ _ e _ => e) (fun _ _ e => e), q2⟩
    · rw [List.getElem?_append_right (by omega)] at e1 e2
      have : j - s.length = 0 := by
        have := (List.getElem?_eq_some_iff.mp e1).1
        simp at this
        omega
      rw [hlen] at e2
      rw [this] at e1 e2
      cases e1
      cases e2
      obtain ⟨xs, q1, q2⟩ := h2
      exact ⟨⟨xs, q1, q2.mono pre (L2.Same.refl _)⟩, h4⟩
  · show C.n0 ≤ (C.L ++ [p]).length
    rw [List.length_append]
    have := x.bas.n0
    omega
  · have e : (C.L ++ [p])[j]? = some a := e
    show C.H0 a = none
    by_cases hlt : j < C.L.length
    · rw [List.getElem?_append_left hlt] at e
      exact x.bas.ln0 j a hj e
    · rw [List.getElem?_append_right (by omega)] at e
      have : j - C.L.length = 0 := by
        have := (List.getElem?_eq_some_iff.mp e).1
        simp at this
        omega
      rw [this] at e
      cases e
      exact h3
  · rw [List.length_set]
    exact x.len
  · rcases get_set e with ⟨rfl, e, _⟩ | ⟨_, e⟩
    · cases e
      refine ⟨.ref p, h1, .ref ?_⟩
      show (C.L ++ [p])[s.length]? = some p
      rw [← hlen, List.getElem?_append_right (Nat.le_refl _), Nat.sub_self]
      rfl
    · obtain ⟨v, q1, q2⟩ := x.shr j d e
      exact ⟨v, q1, q2.mono pre (L2.Same.refl _)⟩
  · rcases get_set e with ⟨rfl, e, _⟩ | ⟨nij, e⟩
    · cases e
    · obtain ⟨p', q1, q2, q3, q4, q5⟩ := x.own j d e
      refine ⟨p', q1, q2.mono pre (L2.Same.refl _) rfl, q3, q4, fun hm => ?_⟩
      rcases List.mem_append.mp hm with hm | hm
      · exact q5 hm
      · rw [List.mem_singleton] at hm
        subst hm
        exact nij (x.nd i j _ _ p' h e h1 q1)
  · rcases get_set q1 with ⟨rfl, q1, _⟩ | ⟨_, q1⟩
    · cases q1
    · rcases get_set q2 with ⟨rfl, q2, _⟩ | ⟨_, q2⟩
      · cases q2
      · exact x.nd j k d e p' q1 q2 q3
end
def sMov (i : Nat) (f : S) : S := fun ρ s => (f ρ s).bind fun o s1 => match o with
  | .nx ρ1 => (match ρ1[i]? with
    | some (.ow (.lst ds)) => .ok (.nx (ρ1.set i (.sh (.ref s1.length)))) (s1 ++ [.lst ds])
    | _ => .bad)
  | .rt tv => .ok (.rt tv) s1
theorem ds_mov {X : Cx} {W : WX} {st : Stmt} {f : S} {i : Nat} (h : DS X W st f) : DS X W st (sMov i f) := PS.weak h fun Z σ H ⟨C, R, ρ, s, x, h⟩ => by
  refine ⟨C, R, ρ, s, x, ?_⟩
  unfold sMov at h
  cases q : f ρ s with
  | exc c s1 => rw [q] at h; exact h
  | bad => rw [q] at h; exact h
  | ok o s1 =>
    rw [q] at h
    cases o with
    | rt tv => exact h
    | nx ρ1 =>
      intro σ1 C1 R1 H1 l1 r1 x1 n1
      have h : PostS (KW X) X.mg W σ.length C R (OkS (KW X) X.mg σ.length C R Z) (match ρ1[i]? with
        | some (.ow (.lst ds)) => .ok (.nx (ρ1.set i (.sh (.ref s1.length)))) (s1 ++ [.lst ds])
        | _ => .bad) := h
      split at h
      · rename_i ds e
        obtain ⟨C2, l2, x2⟩ := x1.toSto e
        exact h σ1 C2 R1 H1 (l1.trans l2) r1 x2 n1
      · exact h.elim

/-! ### statements -/
def isAttr : Expr → Bool
  | .Attribute .. => true
  | _ => false
def sBad : S := fun _ _ => .bad
def frzs (l : List (Nat × Nat)) (n : Nat) (f : S) : S := (l.filter fun p => p.1 == n).foldr (fun p g => sFrz p.2 g) f
def movs (l : List (Nat × Nat)) (n : Nat) (f : S) : S := (l.filter fun p => p.1 == n).foldr (fun p g => sMov p.2 g) f
def loc2 (c : Cc) (x y : Str) : Bool := c.sc.names.lookup x == some .local && c.sc.names.lookup y == some .local
def exprS (n : Nat) (c : Cc) (e : Expr) : S := if isComp e = false then sDrop (trE n c e) else sBad
def callS (n : Nat) (c : Cc) (y m : Str) (a : Expr) (line : Bool) (e : Expr) : S := if noStar a = true ∧ line = true then
    (match slot c y with
    | some j => if m = "append" then sApp j (trE n c a) else if m = "extend" then sExt j (trE n c a) else if m = "remove" then sRem j (trE n c a) else exprS n c e
    | none => exprS n c e) else exprS n c e
def callS2 (n : Nat) (c : Cc) (y m : Str) (a b : Expr) (line : Bool) (e : Expr) : S := if m = "setdefault" ∧ noStar a = true ∧ noStar b = true ∧ line = true then
    (match slot c y with
    | some j => sSdf j (trE n c a) (trE n c b)
    | none => exprS n c e) else exprS n c e
def asgS (n : Nat) (c : Cc) (z : Str) (e : Expr) (p : Pos) : S := match slotL c z with
    | some i => movs c.mov p.line (frzs c.own p.line (sAsg i (trE n c e)))
    | none => sBad
def popS (n : Nat) (c : Cc) (z y m : Str) (args : List Expr) (line : Bool) (e : Expr) (p : Pos) : S := if m = "pop" ∧ line = true then
    (match slotL c z, slot c y, args with
    | some i, some j, [a] => if noStar a = true then frzs c.own p.line (sPop i j (trE n c a)) else sBad
    | some i, some j, [] => frzs c.own p.line (sPopL i j)
    | _, _, _ => sBad) else asgS n c z e p
def apPopS (n : Nat) (c : Cc) (z y : Str) (a : Expr) (l1 l2 : Bool) : S := if noStar a = true ∧ l1 = true ∧ l2 = true ∧ z ≠ y then
    (match slot c z, slot c y with
    | some i, some j => sApPop i j (trE n c a)
    | _, _ => sBad) else sBad
def isLc : Expr → Bool
  | .ListComp .. => true
  | _ => false
def isTupE : Expr → Bool
  | .Tuple .. => true
  | _ => false
def isListE : Expr → Bool
  | .List .. => true
  | _ => false
def stepS (rS : Cc → List Stmt → S) (n : Nat) (c : Cc) (st : Stmt) : S := match st with
  | .Return none _ => sRetN
  | .Return (some e) p => frzs c.own p.line (sRet (trE n c e))
  | .Pass _ => sNil
  | .Expr (.Call (.Attribute (.Name z pz) m ap) [.Call (.Attribute (.Name y py) m2 ap2) [a] [] cp2] [] cp) p => if m = "append" ∧ m2 = "pop" then frzs c.own p.line (apPopS n c z y a (ap2.endLine == cp2.line) (ap.endLine == cp.line)) else frzs c.own p.line (callS n c z m (.Call (.Attribute (.Name y py) m2 ap2) [a] [] cp2) (ap.endLine == cp.line) (.Call (.Attribute (.Name z pz) m ap) [.Call (.Attribute (.Name y py) m2 ap2) [a] [] cp2] [] cp))
  | .Expr (.Call (.Attribute (.Name y py) m ap) [a] [] cp) p => frzs c.own p.line (callS n c y m a (ap.endLine == cp.line) (.Call (.Attribute (.Name y py) m ap) [a] [] cp))
  | .Expr (.Call (.Attribute (.Name y py) m ap) [a, b] [] cp) p => frzs c.own p.line (callS2 n c y m a b (ap.endLine == cp.line) (.Call (.Attribute (.Name y py) m ap) [a, b] [] cp))
  | .Expr e p => frzs c.own p.line (exprS n c e)
  | .Assign [.Name z _] (.Call (.Attribute (.Name y py) m ap) args [] cp) p => popS n c z y m args (ap.endLine == cp.line) (.Call (.Attribute (.Name y py) m ap) args [] cp) p
  | .Assign [.Name y _] e p => asgS n c y e p
  | .Assign [.Tuple [.Name x px, .Name y py] kt pt] (.Tuple [e1, e2] k2 p2) p =>
    if c.calm = true ∧ loc2 c x y = true ∧ px.line = py.line ∧ x ≠ y ∧ noStar e1 = true ∧ noStar e2 = true ∧ ([e1, e2].all (foldedForSure 8)) = false ∧ ([e1, e2].all (constantsAlone 8)) = false ∧ okName x = true ∧ okName y = true then
      (match idx c.N x, idx c.N y with
      | some i, some j => frzs c.own p.line (sPar i j (trL (trE n c) [e1, e2]))
      | _, _ => sBad)
    else if c.calm = true ∧ loc2 c x y = false then (match trG c 4 (.Tuple [.Name x px, .Name y py] kt pt) with
      | some (_, g) => frzs c.own p.line (sAsgT g (trE n c (.Tuple [e1, e2] k2 p2)))
      | none => sBad)
    else sBad
  | .Assign [.Tuple es kt pt] e p => if isTupE e = false ∧ (isComp e = false ∨ isLc e = true) then (match trG c 4 (.Tuple es kt pt) with
      | some (_, g) => frzs c.own p.line (sAsgT g (trE n c e))
      | none => sBad) else sBad
  | .Assign [.Subscript (.Name y _) a _] b p => (match slot c y with
    | some j => if isComp b = false then frzs c.own p.line (sPut j (trE n c a) (if y = "book" then eSto (trE n c b) else trE n c b)) else sBad
    | none => sBad)
  | .Assign [.Subscript (.Subscript o a1 p1) a _] b p => if isBk (.Subscript o a1 p1) = true ∧ isComp b = false then frzs c.own p.line (sPutS (trE n c (.Subscript o a1 p1)) (trE n c a) (trE n c b)) else sBad
  | .If t a b p => frzs c.own p.line (sIf (trT n c t) (rS c a) (rS c b))
  | .For tg it body [] p => if c.calm = true ∧ isSet it = false then (match trG c 4 tg with
      | some (_, g) => frzs c.own p.line (sFor (trI c (trE n c) tg it) g (rS c body))
      | none => sBad) else sBad
  | .While t body [] p => frzs c.own p.line (sWhile c.fuel (trT n c t) (rS c body))
  | .Raise (some (.Call (.Name e _) [.Constant (.str _) _ _] [] _)) none _ => if c.calm = true ∧ e ∈ c.excs ∧ isGlo c.sc e = true ∧ okName e = true then sRaise e else sBad
  | .Try body [.ExceptHandler (some (.Name x _)) (some m) [.Return (some (.Call (.Name g _) [.Name m' _] [] _)) _] _] [] [] _ =>
    (match c.which, idx c.N m with
    | some (x', g', F), some i => if x = x' ∧ g = g' ∧ m = m' ∧ isGlo c.sc x = true ∧ isGlo c.sc g = true ∧ okName x = true ∧ okName g = true ∧ okName m = true ∧ c.sc.names.lookup m = some .local then
      sTry i c.excs (rS { c with held := none } body) F else sBad
    | _, _ => sBad)
  | _ => sBad
def seqS (r : Stmt → S) : List Stmt → S
  | [] => sNil
  | [st] => r st
  | st :: st2 :: rest => sSeq (r st) (seqS r (st2 :: rest))
def trS : Nat → Cc → List Stmt → S
  | 0 => fun _ _ => sBad
  | n + 1 => fun c => seqS (stepS (trS n) n c)

structure WfS (X : Cx) (W : WX) (c : Cc) : Prop extends Wf X W c where
  passes : PassesOwn (model X.prog X.w) X.A X.env X.xe
  stack : X.stack = X.env :: X.outer
  frame : X.env.frame = some X.env.locals
  kind : X.env.blockKind = .function
  which : ∀ x g F, c.which = some (x, g, F) → ∃ k f fd ps a, X.mg x = some (.ref a) ∧ FnW X.prog X.w X.K X.mg X.base k f fd ps (spE (KW X) X.mg F) ∧ Room k X.A ∧ X.mg g = some (.ref f) ∧ PySem.W.keepIn X.K (.ref f) = true ∧ Binds X.K fd ps [] ∧
    ∀ y, y ∈ c.excs → ∀ b, X.mg y = some (.ref b) → PySem.W.exmOne X.K (.ref b) (.ref a) = some true
theorem WfS.tr {X : Cx} {W W' : WX} {c : Cc} {pn : List (Addr × Obj)} {xe : Value → Shared → Prop} (w : WfS X W c) (tk : L2N.Takes (X.tr pn xe) W') (hp : PassesOwn (model X.prog X.w) X.A X.env xe) : WfS (X.tr pn xe) W' { c with held := none } where
  N := w.N
  nd := w.nd
  sc := w.sc
  fns := fun y n F e => ⟨(w.fns y n F e).ok⟩
  gi := w.gi
  gs := w.gs
  free := w.free
  tk := tk
  calm := w.calm
  room := w.room
  exc := w.exc
  fn := w.fn
  held := fun i pa tbl e => by cases e
  passes := hp
  stack := w.stack
  frame := w.frame
  kind := w.kind
  which := w.which
section
variable {X : Cx} {W : WX} {c : Cc} {st : Stmt} {f : S} {n : Nat}
theorem frzs_ok {l : List (Nat × Nat)} (h : DS X W st f) : DS X W st (frzs l n f) := by
  unfold frzs
  induction l.filter fun p => p.1 == n with
  | nil => exact h
  | cons p r ih => exact ds_frz ih
theorem movs_ok {l : List (Nat × Nat)} (h : DS X W st f) : DS X W st (movs l n f) := by
  unfold movs
  induction l.filter fun p => p.1 == n with
  | nil => exact h
  | cons p r ih => exact ds_mov ih
theorem dss_one (h : DS X W st f) : DSs X W [st] f := pss_one h
theorem seqS_ok {r : Stmt → S} (h : ∀ st, DS X W st (r st)) : ∀ sts, DSs X W sts (seqS r sts)
  | [] => dss_nil
  | [st] => dss_one (h st)
  | st :: st2 :: rest => dss_cons (h st) (seqS_ok h (st2 :: rest))
theorem exprS_ok (w : WfS X W c) (e : Expr) {p : Pos} : DS X W (.Expr e p) (exprS n c e) := by
  unfold exprS
  split
  · rename_i h
    exact ds_drop ((sound n).1 X W c w.toWf e) (swaps_no h)
  · exact ds_bad
theorem callS_ok (w : WfS X W c) {y m : Str} {py ap cp p : Pos} {a : Expr} : DS X W (.Expr (.Call (.Attribute (.Name y py) m ap) [a] [] cp) p) (callS n c y m a (ap.endLine == cp.line) (.Call (.Attribute (.Name y py) m ap) [a] [] cp)) := by
  unfold callS
  split
  · rename_i h
    have hst : [a].all noStar = true := by rw [List.all_cons, h.1]; rfl
    split
    · rename_i j ej
      obtain ⟨h1, h2, h3, h4⟩ := w.at ej
      split
      · rename_i em; subst em
        exact ds_app h1 h2 h3 h4 ((sound n).1 X W c w.toWf a) rfl (few hst (show 1 < 30 by decide)) h.2 (star_cons h.1) rfl rfl
      · split
        · rename_i em; subst em
          exact ds_ext h1 h2 h3 h4 ((sound n).1 X W c w.toWf a) rfl (few hst (show 1 < 30 by decide)) h.2 (star_cons h.1) rfl rfl
        split
        · rename_i em; subst em
          exact ds_rem (by have := w.toWf.room; omega) h1 h2 h3 h4 ((sound n).1 X W c w.toWf a) rfl (few hst (show 1 < 30 by decide)) h.2 (star_cons h.1) rfl rfl
        · exact exprS_ok w _
    · exact exprS_ok w _
  · exact exprS_ok w _
theorem callS2_ok (w : WfS X W c) {y m : Str} {py ap cp p : Pos} {a b : Expr} : DS X W (.Expr (.Call (.Attribute (.Name y py) m ap) [a, b] [] cp) p) (callS2 n c y m a b (ap.endLine == cp.line) (.Call (.Attribute (.Name y py) m ap) [a, b] [] cp)) := by
  unfold callS2
  split
  · rename_i h
    obtain ⟨rfl, ha, hb, hline⟩ := h
    have hst : [a, b].all noStar = true := by rw [List.all_cons, List.all_cons, ha, hb]; rfl
    split
    · rename_i j ej
      obtain ⟨h1, h2, h3, h4⟩ := w.at ej
      refine ds_sdf (by have := w.toWf.room; omega) h1 h2 h3 h4 ((sound n).1 X W c w.toWf a) ((sound n).1 X W c w.toWf b) ⟨rfl, few hst (show 2 < 30 by decide), hline, ?_⟩ rfl
      rw [star_cons ha, star_cons hb]
      rfl
    · exact exprS_ok w _
  · exact exprS_ok w _
theorem asg_ok (w : WfS X W c) {y : Str} {py p : Pos} {i : Nat} (hi : slotL c y = some i) (e : Expr) : DS X W (.Assign [.Name y py] e p) (sAsg i (trE n c e)) := by
  obtain ⟨h1, h2, h3, h4, h5⟩ := w.atL hi
  by_cases hc : isComp e = false
  · exact ds_asg h1 h2 h3 ((sound n).1 X W c w.toWf e) (swaps_no hc) h4
  · cases n with
    | zero => exact PS.weak (ds_bad (W := W)) fun Z σ H ⟨C, R, ρ, s, x, h⟩ => ⟨C, R, ρ, s, x, h⟩
    | succ n =>
      by_cases hb : trE (n + 1) c e = eBad
      · rw [hb]
        exact PS.weak (ds_bad (W := W)) fun Z σ H ⟨C, R, ρ, s, x, h⟩ => ⟨C, R, ρ, s, x, h⟩
      · cases e with
        | ListComp elt gens scope pos =>
          match gens, hb with
          | [], hb => exact absurd (show trE (n + 1) c (.ListComp elt [] scope pos) = eBad from rfl) hb
          | ⟨_, _, _, _⟩ :: _ :: _, hb => exact absurd (show trE (n + 1) c (.ListComp elt (⟨_, _, _, _⟩ :: _ :: _) scope pos) = eBad from rfl) hb
          | [⟨tg, it, ifs, k⟩], hb =>
            rcases comp_parts w.toWf (sound n).1 (sound n).2 elt tg it ifs scope pos k with z | ⟨rfl, z⟩
            · exact absurd z hb
            · have sw : swapsWith (.ListComp elt [⟨tg, it, ifs, 0⟩] scope pos) (some (.Name y py)) p.line X.env = pure (X.env.blockKind == .function && X.env.kindOf y == some .local && py.line == (Expr.ListComp elt [⟨tg, it, ifs, 0⟩] scope pos).pos.line && !(scope.names.any fun (n, k) => n == y && (k == .local || k == .cell))) := rfl
              cases q : (X.env.blockKind == .function && X.env.kindOf y == some .local && py.line == (Expr.ListComp elt [⟨tg, it, ifs, 0⟩] scope pos).pos.line && !(scope.names.any fun (n, k) => n == y && (k == .local || k == .cell))) with
              | false => rw [q] at sw; exact ds_asg h1 h2 h3 ((sound (n + 1)).1 X W c w.toWf _) sw h4
              | true =>
                rw [q] at sw
                simp only [Bool.and_eq_true] at q
                exact z.ds w.toWf h2 (eq_of_beq q.1.1.2) sw
        | SetComp _ _ _ _ => exact absurd rfl hb
        | DictComp _ _ _ _ _ => exact absurd rfl hb
        | _ => exact absurd rfl hc
theorem asgS_ok (w : WfS X W c) {z : Str} {pz p : Pos} (e : Expr) : DS X W (.Assign [.Name z pz] e p) (asgS n c z e p) := by
  unfold asgS
  split
  · rename_i i hi
    exact movs_ok (frzs_ok (asg_ok w hi _))
  · exact ds_bad
theorem popS_ok (w : WfS X W c) {z y m : Str} {pz py ap cp p : Pos} {args : List Expr} : DS X W (.Assign [.Name z pz] (.Call (.Attribute (.Name y py) m ap) args [] cp) p) (popS n c z y m args (ap.endLine == cp.line) (.Call (.Attribute (.Name y py) m ap) args [] cp) p) := by
  unfold popS
  split
  · rename_i h
    obtain ⟨rfl, hline⟩ := h
    split
    · rename_i i j a ei ej
      obtain ⟨g1, g2, g3, g4, g5⟩ := w.atL ei
      obtain ⟨h1, h2, h3, h4⟩ := w.at ej
      split
      · rename_i hna
        have hst : [a].all noStar = true := by rw [List.all_cons, hna]; rfl
        exact frzs_ok (ds_pop g1 g2 g3 g4 h1 h2 h3 h4 ((sound n).1 X W c w.toWf a) rfl (few hst (show 1 < 30 by decide)) hline (star_cons hna) rfl rfl)
      · exact ds_bad
    · rename_i i j ei ej
      obtain ⟨g1, g2, g3, g4, g5⟩ := w.atL ei
      obtain ⟨h1, h2, h3, h4⟩ := w.at ej
      exact frzs_ok (ds_popL g1 g2 g3 g4 h1 h2 h3 h4 rfl hline rfl)
    · exact ds_bad
  · exact asgS_ok w _
theorem apPopS_ok (w : WfS X W c) {z y : Str} {pz py ap cp ap2 cp2 p : Pos} {a : Expr} : DS X W (.Expr (.Call (.Attribute (.Name z pz) "append" ap) [.Call (.Attribute (.Name y py) "pop" ap2) [a] [] cp2] [] cp) p) (apPopS n c z y a (ap2.endLine == cp2.line) (ap.endLine == cp.line)) := by
  unfold apPopS
  split
  · rename_i h
    obtain ⟨hna, l2, l1, hne⟩ := h
    split
    · rename_i i j ei ej
      obtain ⟨g1, g2, g3, g4⟩ := w.at ei
      obtain ⟨h1, h2, h3, h4⟩ := w.at ej
      have hst : [a].all noStar = true := by rw [List.all_cons, hna]; rfl
      have hst2 : [Expr.Call (.Attribute (.Name y py) "pop" ap2) [a] [] cp2].all noStar = true := rfl
      have hij : i ≠ j := fun e => by
        subst e
        rw [g1] at h1
        exact hne (Option.some.inj h1)
      exact ds_apPop hij g1 g2 g3 g4 h1 h2 h3 h4 ((sound n).1 X W c w.toWf a) rfl (few hst (show 1 < 30 by decide)) l2 (star_cons hna) rfl rfl (few hst2 (show 1 < 30 by decide)) l1 rfl (star_cons rfl) rfl
    · exact ds_bad
  · exact ds_bad
theorem not_star : ∀ e : Expr, noStar e = true → (match e with | .Starred .. => true | _ => false) = false := by
  intro e h
  cases e <;> first | rfl | cases h
theorem par_names {x y : Str} {px py pt p2 : Pos} {kt k2 : Nat} {e1 e2 : Expr} {env : Env} (hk : env.blockKind = .function) (hx : env.scope.names.lookup x = some .local) (hy : env.scope.names.lookup y = some .local) (hl : px.line = py.line) (hne : x ≠ y) (s1 : noStar e1 = true) (s2 : noStar e2 = true)
    (f1 : ([e1, e2].all (foldedForSure 8)) = false) (f2 : ([e1, e2].all (constantsAlone 8)) = false) : swappedStores [.Tuple [.Name x px, .Name y py] kt pt] (.Tuple [e1, e2] k2 p2) env = pure (some [x, y]) := by
  have nx : (x == y) = false := by simpa using hne
  have ny : (y == x) = false := by simpa using fun z : y = x => hne z.symm
  have a1 := not_star e1 s1
  have a2 := not_star e2 s2
  have l1 : (Expr.Name x px).pos = px := rfl
  have fm : ([Expr.Name x px, Expr.Name y py].filterMap fun
    | .Name id pos => if env.kindOf id == some .local && pos.line == py.line then some id else none
    | _ => none) = [x, y] := by
    simp [Env.kindOf, hx, hy, hl]
  have ed : [x, y].eraseDups = [x, y] := by
    simp [List.eraseDups, List.eraseDupsBy, List.eraseDupsBy.loop, nx, ny]
  have an : ([e1, e2].any fun | .Starred .. => true | _ => false) = false := by
    rw [List.any_cons, List.any_cons, a1, a2]
    rfl
  unfold swappedStores
  simp only [hk, f1, f2, l1, hl, List.head?_cons, Option.map_some, Option.getD_some]
  refine (if_neg (fun z => Bool.false_ne_true z)).trans ((if_neg (fun z => Bool.false_ne_true (an.symm.trans z))).trans ((if_neg (fun z => ?_)).trans ((if_neg Bool.false_ne_true).trans ((if_neg Bool.false_ne_true).trans (congrArg (fun l => pure (some l)) fm)))))
  have z : (([Expr.Name x px, Expr.Name y py].filterMap fun
    | .Name id pos => if env.kindOf id == some .local && pos.line == py.line then some id else none
    | _ => none).length != 2 || ([Expr.Name x px, Expr.Name y py].filterMap fun
    | .Name id pos => if env.kindOf id == some .local && pos.line == py.line then some id else none
    | _ => none).eraseDups.length != ([Expr.Name x px, Expr.Name y py].filterMap fun
    | .Name id pos => if env.kindOf id == some .local && pos.line == py.line then some id else none
    | _ => none).length) = true := z
  rw [fm, ed] at z
  cases z
theorem par_none {x y : Str} {px py pt p2 : Pos} {kt k2 : Nat} {e1 e2 : Expr} {env : Env} (h : (env.scope.names.lookup x == some .local && env.scope.names.lookup y == some .local) = false) : swappedStores [.Tuple [.Name x px, .Name y py] kt pt] (.Tuple [e1, e2] k2 p2) env = pure none := by
  have fm : ∀ l, (([Expr.Name x px, Expr.Name y py].filterMap fun
    | .Name id pos => if env.kindOf id == some .local && pos.line == l then some id else none
    | _ => none).length != 2) = true := by
    intro l
    unfold Env.kindOf
    rcases Bool.and_eq_false_iff.mp h with z | z
    · simp only [List.filterMap_cons, List.filterMap_nil, z, Bool.false_and]
      by_cases q : (List.lookup y env.scope.names == some NameKind.local && py.line == l) = true <;> simp [q]
    · simp only [List.filterMap_cons, List.filterMap_nil, z, Bool.false_and]
      by_cases q : (List.lookup x env.scope.names == some NameKind.local && px.line == l) = true <;> simp [q]
  unfold swappedStores
  simp only [List.length_cons, List.length_nil]
  split
  · rfl
  split
  · rfl
  split
  · rfl
  · rename_i hh
    exact absurd (by rw [Bool.or_eq_true]; exact .inl (fm _)) hh
end
theorem bad_asg {X : Cx} {W : WX} {st : Stmt} : DS X W st sBad := ds_bad
set_option maxHeartbeats 4000000 in
theorem soundS : ∀ (n : Nat) (X : Cx) (W : WX) (c : Cc), WfS X W c → ∀ sts, DSs X W sts (trS n c sts)
  | 0, X, W, c, w, sts => ⟨fun _ _ _ _ _ _ h => by obtain ⟨_, _, _, _, _, z⟩ := h; exact z.elim⟩
  | n + 1, X, W, c, w, sts => by
    have ih := soundS n
    have hE := (sound n).1 X W c w.toWf
    have hT := (sound n).2 X W c w.toWf
    have hS := ih X W c w
    show DSs X W sts (seqS (stepS (trS n) n c) sts)
    refine seqS_ok (fun st => ?_) sts
    unfold stepS
    split
    · exact ds_retN
    · exact frzs_ok (ds_ret (hE _))
    · exact ds_pass
    · split
      · rename_i h
        obtain ⟨rfl, rfl⟩ := h
        exact frzs_ok (apPopS_ok w)
      · exact frzs_ok (callS_ok w)
    · exact frzs_ok (callS_ok w)
    · exact frzs_ok (callS2_ok w)
    · exact frzs_ok (exprS_ok w _)
    · exact popS_ok w
    · exact asgS_ok w _
    · rename_i x px y py kt pt e1 e2 k2 p2 p
      split
      · rename_i h
        obtain ⟨hc, h2, hl, hne, s1, s2, f1, f2, o1, o2⟩ := h
        unfold loc2 at h2
        rw [Bool.and_eq_true] at h2
        have hx : X.env.scope.names.lookup x = some .local := by rw [w.sc]; exact eq_of_beq h2.1
        have hy : X.env.scope.names.lookup y = some .local := by rw [w.sc]; exact eq_of_beq h2.2
        split
        · rename_i i j ei ej
          have gi : X.N[i]? = some x := by rw [w.N]; exact idx_get ei
          have gj : X.N[j]? = some y := by rw [w.N]; exact idx_get ej
          have hij : i ≠ j := fun z => by
            subst z
            rw [gi] at gj
            exact hne (Option.some.inj gj)
          exact frzs_ok (ds_par (w.calm hc) (by rw [w.N]; exact w.nd) gi gj hij hx hy (trL_ok hE _) (par_names w.kind hx hy hl hne s1 s2 f1 f2) rfl)
        · exact bad_asg
      · split
        · rename_i h
          split
          · rename_i ts g eg
            have h2 := h.2
            unfold loc2 at h2
            rw [← w.sc] at h2
            exact frzs_ok (ds_asgT (hE _) (trG_ok w.toWf 4 _ ts g eg).1 rfl (par_none h2) rfl)
          · exact bad_asg
        · exact bad_asg
    · rename_i es kt pt e p hno
      split
      · rename_i h
        split
        · rename_i ts g eg
          refine frzs_ok (ds_asgT (hE _) (trG_ok w.toWf 4 _ ts g eg).1 ?_ ?_ rfl)
          · show swapsWith e (some (.Tuple es kt pt)) p.line X.env = pure false
            rcases h.2 with h2 | h2
            · exact swaps_no h2
            · cases e <;> first | rfl | cases h2
          · have h1 := h.1
            cases e <;> first | rfl | cases h1
        · exact bad_asg
      · exact bad_asg
    · split
      · rename_i j ej
        split
        · rename_i hc
          obtain ⟨h1, h2, h3, h4⟩ := w.at ej
          refine frzs_ok (ds_put (by have := w.room; omega) h1 h2 h3 h4 (hE _) ?_ (swaps_no hc))
          split
          · exact de_sto (hE _)
          · exact hE _
        · exact bad_asg
      · exact bad_asg
    · split
      · rename_i h
        exact frzs_ok (ds_putS (by have := w.room; omega) (hE _) (hE _) (hE _) (swaps_no h.2))
      · exact bad_asg
    · exact frzs_ok (ds_if (hT _) (hS _) (hS _))
    · split
      · rename_i h
        split
        · rename_i ts g eg
          exact frzs_ok (ds_for w.passes (w.calm h.1) (trI_ok w.toWf hE _ _) (trG_ok w.toWf 4 _ ts g eg).1 (hS _) (folded_no h.2))
        · exact bad_asg
      · exact bad_asg
    · exact frzs_ok (ds_while w.passes (hT _) (hS _))
    · split
      · rename_i h
        obtain ⟨hc, he, hg, ho⟩ := h
        exact ds_raise (w.calm hc) w.tk (w.exc _ he) (w.gl hg) (okName_at ho).1
      · exact bad_asg
    · split
      · rename_i x' g' F i ew ei
        split
        · rename_i h
          obtain ⟨rfl, rfl, rfl, hgx, hgg, ox, og, om, hlm⟩ := h
          obtain ⟨k, f, fd, ps, a, hx, G, hr, hm, hk, hb, hcs⟩ := w.which _ _ _ ew
          have gi := idx_get ei
          rw [← w.N] at gi
          exact ds_try w.stack w.frame (by rw [w.N]; exact w.nd) gi (by rw [w.sc]; exact hlm) ⟨w.gl hgx, (okName_at ox).1, .inl hx⟩ w.tk (fun W' pn xe t p => ih _ W' _ (w.tr t p) _) G hr (w.gl hgg) hm hk hb hcs (okName_at og).1 (okName_at om).1 (okName_at om).2.1
        · exact bad_asg
      · exact bad_asg
    · exact bad_asg
end UW
namespace UW
open PySem PySem.Spec PyProof.Rows L2

/-! ### a def's body as a function -/
def startD (N : List Str) (ds : List D) : DSt := ds.map .sh ++ List.replicate (N.length - ds.length) .no
def runFn (N : List Str) (f : S) : Fn := fun ds s => (f (startD N ds) s).bind fun o s1 => match o with
  | .nx _ => .ok ⟨.cl, .non⟩ s1
  | .rt tv => .ok tv s1
theorem start_rel {K : Kw} {mg : Str → Option Value} {C : Cn} {R H : Hp} {s : Sto} {N : List Str} {vs : List V} {ds : List D} (b : Bas K mg C R H s) (ra : RepAll K mg C.L R vs ds) : Rel K mg C R (startD N ds) (L2.start N vs) H s := by
  have key : ∀ {vs : List V} {ds : List D} (m : Nat), RepAll K mg C.L R vs ds → (∀ (i : Nat) (d : D), (ds.map Sl.sh ++ List.replicate m Sl.no)[i]? = some (.sh d) → ∃ v, (vs.map some ++ List.replicate m none)[i]? = some (some v) ∧ Rep K mg C.L R v d) ∧ ∀ (i : Nat) (d : D), (ds.map Sl.sh ++ List.replicate m Sl.no)[i]? ≠ some (.ow d) := by
    intro vs ds m h
    induction ds generalizing vs with
    | nil =>
      cases h
      refine ⟨fun i d e => ?_, fun i d e => ?_⟩
      · rw [List.map_nil, List.nil_append] at e
        have := List.mem_of_getElem? e
        rw [List.mem_replicate] at this
        cases this.2
      · rw [List.map_nil, List.nil_append] at e
        have := List.mem_of_getElem? e
        rw [List.mem_replicate] at this
        cases this.2
    | cons d0 ds ih =>
      cases h with
      | cons h1 h2 =>
        obtain ⟨a, b⟩ := ih h2
        refine ⟨fun i d e => ?_, fun i d e => ?_⟩
        · cases i with
          | zero => cases e; exact ⟨_, rfl, h1⟩
          | succ i => exact a i d e
        · cases i with
          | zero => cases e
          | succ i => exact b i d e
  have hl := ra.length
  have k := key (N.length - ds.length) ra
  unfold startD L2.start
  rw [hl]
  refine ⟨b, ?_, k.1, fun i d e => absurd e (k.2 i d), fun i j d e p q => absurd q (k.2 i d)⟩
  rw [List.length_append, List.length_append, List.length_map, List.length_map, List.length_replicate, List.length_replicate, hl]
/-- the body's reading gives the promise -/
theorem body_read {K : Kw} {mg : Str → Option Value} {N : List Str} {f : S} {n : Nat} {vs : List V} {H : Hp} {Q : VK} {Z : XK} (h : spD K mg n (runFn N f) vs H Q Z) : tDS K mg (fun cls d _ H => Z cls d H) f { nx := fun _ H' => Q .non H', rt := Q } (L2.start N vs) H := by
  obtain ⟨_, L, R, ds, s, b, ra, p⟩ := h
  refine ⟨_, R, _, s, start_rel b ra, ?_⟩
  unfold runFn at p
  cases q : f (startD N ds) s with
  | bad => rw [q] at p; exact p
  | exc c s1 => rw [q] at p; exact fun a σ' C' R' H' e1 e2 e3 e4 _ => p a C' R' H' e1 e2 e3 e4
  | ok o s1 =>
    rw [q] at p
    cases o with
    | nx ρ => exact fun σ' C' R' H' e1 e2 e3 _ => p .non C' R' H' e1 e2 e3.bas .non
    | rt tv => exact p

theorem lookup_mem {α β : Type} [BEq α] [LawfulBEq α] : ∀ {l : List (α × β)} {a : α} {b : β}, l.lookup a = some b → (a, b) ∈ l
  | [], _, _, h => by cases h
  | (c, d) :: r, a, b, h => by
    rw [List.lookup_cons] at h
    split at h
    · rename_i e
      cases h
      rw [eq_of_beq e]
      exact List.mem_cons_self
    · exact List.mem_cons_of_mem _ (lookup_mem h)
/-! ### the module -/
structure Glob (K : PySem.W.Frag) (mg : Str → Option Value) (gi : List (Str × Int)) (gs : List (Str × Str)) (excs : List Str) : Prop where
  gi : ∀ y i, gi.lookup y = some i → ∃ t, mg y = some (.int i t)
  gs : ∀ y z, gs.lookup y = some z → ∃ t, mg y = some (.str z t)
  free : ∀ y, y ∈ blt → mg y = none
  exc : ∀ y, y ∈ excs → ExcX K mg y
/-- a def that is known -/
structure Kn (P : Program) (w : World) (K : PySem.W.Frag) (mg : Str → Option Value) (base : Heap) (k : Nat) (x : Str) (n : Nat) (F : Fn) : Prop where
  ok : ∃ (f : Addr) (fd : FuncData) (ps : List Str), FnOk P w K mg base (L2N.CX P w) k f fd ps (spD ⟨K, w, P⟩ mg n F) ∧ mg x = some (.ref f) ∧ PySem.W.keepIn K (.ref f) = true ∧ Binds K fd ps []
/-- the def that tells of the held error -/
structure KnW (P : Program) (w : World) (K : PySem.W.Frag) (mg : Str → Option Value) (base : Heap) (k : Nat) (excs : List Str) (x g : Str) (F : FnE) : Prop where
  ok : ∃ (f : Addr) (fd : FuncData) (ps : List Str) (a : Addr), mg x = some (.ref a) ∧ FnW P w K mg base k f fd ps (spE ⟨K, w, P⟩ mg F) ∧ mg g = some (.ref f) ∧ PySem.W.keepIn K (.ref f) = true ∧ Binds K fd ps [] ∧ ∀ y, y ∈ excs → ∀ b, mg y = some (.ref b) → PySem.W.exmOne K (.ref b) (.ref a) = some true
theorem Kn.mono {P : Program} {w : World} {K : PySem.W.Frag} {mg : Str → Option Value} {base : Heap} {j k : Nat} {x : Str} {n : Nat} {F : Fn} (h : Kn P w K mg base j x n F) (le : j ≤ k) : Kn P w K mg base k x n F := by
  obtain ⟨f, fd, ps, h1, h2, h3, h4⟩ := h.ok
  exact ⟨f, fd, ps, h1.mono le, h2, h3, h4⟩
theorem def_fn {P : Program} {w : World} {K : PySem.W.Frag} {mg : Str → Option Value} {base : Heap} {k fu : Nat} {x : Str} {params : Arguments} {body : List Stmt} {scope : Scope} {f : Addr} {fd : FuncData} {ps : List Str} {c : Cc}
    (F : FunD K x x params body scope [] [] f fd) (hb : Binds K fd ps []) (hs : C8.scC c.N ps scope = true) (hsc : c.sc = scope) (hh : c.held = none) (G : Glob K mg c.gi c.gs c.excs)
    (hf : ∀ y n F, c.fns.lookup y = some (n, F) → Kn P w K mg base k y n F) (hw : ∀ y g F, c.which = some (y, g, F) → KnW P w K mg base k c.excs y g F) : FnOk P w K mg base (L2N.CX P w) (k + 1) f fd ps (spD ⟨K, w, P⟩ mg ps.length (runFn c.N (trS fu c body))) := by
  have sc := C8.fnScope_by hs
  refine F.ok sc (fun vs H Q E h => h.1) (fun cdv A outer s H vs Q E hr h => ⟨_, soundS fu _ (fun cls d _ H => E cls d H) c ?_ body, body_read h⟩)
  exact {
    N := rfl
    nd := sc.nd
    sc := hsc.symm
    fns := fun y n F e => by
      obtain ⟨f, fd, ps, h1, h2, h3, h4⟩ := (hf y n F e).ok
      exact ⟨f, fd, ps, k, h1, hr, h2, h3, h4⟩
    gi := G.gi
    gs := G.gs
    free := G.free
    tk := L2N.takes_of rfl rfl rfl rfl
    calm := fun _ => rfl
    room := by
      have := hr.un
      show (A.deeper (envOfC x scope s.heap.objs.size f cdv)).units + 200 < cLine
      omega
    exc := G.exc
    fn := fun _ _ => rfl
    held := fun i pa tbl e => by rw [hh] at e; cases e
    passes := passes_of rfl
    stack := rfl
    frame := rfl
    kind := by
      show (if scope.kind.isAnnotationScope = true then ScopeKind.function else scope.kind) = .function
      rw [sc.kind]
      rfl
    which := fun y g F e => by
      obtain ⟨f, fd, ps, a, h1, h2, h3, h4, h5, h6⟩ := (hw y g F e).ok
      exact ⟨k, f, fd, ps, a, h1, h2, hr, h3, h4, h5, h6⟩ }
theorem def_ok {P : Program} {w : World} {K : PySem.W.Frag} {mg : Str → Option Value} {base : Heap} {k fu : Nat} {x : Str} {params : Arguments} {body : List Stmt} {scope : Scope} {f : Addr} {fd : FuncData} {ps : List Str} {c : Cc}
    (F : FunD K x x params body scope [] [] f fd) (hm : mg x = some (.ref f)) (hb : Binds K fd ps []) (hs : C8.scC c.N ps scope = true) (hsc : c.sc = scope) (hh : c.held = none) (G : Glob K mg c.gi c.gs c.excs)
    (hf : ∀ y n F, c.fns.lookup y = some (n, F) → Kn P w K mg base k y n F) (hw : ∀ y g F, c.which = some (y, g, F) → KnW P w K mg base k c.excs y g F) : Kn P w K mg base (k + 1) x ps.length (runFn c.N (trS fu c body)) :=
  ⟨f, fd, ps, def_fn F hb hs hsc hh G hf hw, hm, F.kp, hb⟩
theorem which_ok {P : Program} {w : World} {K : PySem.W.Frag} {mg : Str → Option Value} {base : Heap} {k fu : Nat} {g x : Str} {params : Arguments} {body : List Stmt} {scope : Scope} {f a : Addr} {fd : FuncData} {ps : List Str} {c : Cc} {F : FnE} {excs : List Str} {tbl : Str → List (Str × Bool)}
    (Fd : FunD K g g params body scope [] [] f fd) (hm : mg g = some (.ref f)) (hb : Binds K fd ps []) (hps : ps.length = 1) (hs : C8.scC c.N ps scope = true) (hsc : c.sc = scope) (hcalm : c.calm = false) (hwh : c.which = none) (hfns : c.fns = []) (G : Glob K mg c.gi c.gs c.excs)
    (hx : mg x = some (.ref a)) (hexm : ∀ y, y ∈ excs → ∀ b, mg y = some (.ref b) → PySem.W.exmOne K (.ref b) (.ref a) = some true)
    (hheld : ∀ cls D, cls ∈ excs → mg cls = some (.ref D) → ExcC K D ∧ ∀ y b, (tbl cls).lookup y = some b → (∃ C2, mg y = some (.ref C2) ∧ PySem.W.kitOne K (.ref D) (.ref C2) = some b) ∨ ∃ T, mg y = none ∧ bootBuiltins y = some (.type T) ∧ PySem.W.kitOne K (.ref D) (.type T) = some b)
    (hF : ∀ pa cls s, F cls s = .bad ∨ (cls ∈ excs ∧ F cls s = runFn c.N (trS fu { c with held := some (0, pa, tbl cls) } body) [.exc pa] s)) : KnW P w K mg base (k + 1) excs x g F := by
  have sc := C8.fnScope_by hs
  have kp := Fd.kp
  obtain ⟨oc, od, dV, kV, doc, pm, an, cdv, ct, osl, rfl, lk, hcd, _, _⟩ := Fd.ex
  refine ⟨f, _, ps, a, hx, fnW_of lk hcd sc (fun p vs H Q Z h => by rw [h.1, hps]; rfl) (fun A outer s H vs Q Z p hot hr hsp => ?_), hm, kp, hb, hexm⟩
  obtain ⟨rfl, cls, C, hcls, e1, e2, e3, L, R, st, hB, hP⟩ := hsp
  rcases hF p.1 cls st with z | ⟨hmem, z⟩
  · rw [z] at hP
    exact hP.elim
  · obtain ⟨hE, hT⟩ := hheld cls C hmem hcls
    refine ⟨_, soundS fu _ (fun cls d _ H => Z cls d H) { c with held := some (0, p.1, tbl cls) } ?_ body, body_read ⟨rfl, L, R, [.exc p.1], st, hB, .one (.exc p.1), by rw [← z]; exact hP⟩⟩
    exact {
      N := rfl
      nd := sc.nd
      sc := hsc.symm
      fns := fun y n F e => by
        have e : c.fns.lookup y = some (n, F) := e
        rw [hfns] at e
        cases e
      gi := G.gi
      gs := G.gs
      free := G.free
      tk := L2N.takes_of rfl rfl rfl rfl
      calm := fun z => by
        have z : c.calm = true := z
        rw [hcalm] at z
        cases z
      room := by
        have := hr.un
        show (A.deeper (envOfC g scope s.heap.objs.size f cdv)).units + 200 < cLine
        omega
      exc := G.exc
      fn := fun _ _ => rfl
      held := fun i pa tbl e => by
        cases e
        exact ⟨C, p.2, hE, List.mem_singleton.mpr rfl, ⟨e1, e2⟩, e3, hT⟩
      passes := passes_of rfl
      stack := rfl
      frame := rfl
      kind := by
        show (if scope.kind.isAnnotationScope = true then ScopeKind.function else scope.kind) = .function
        rw [sc.kind]
        rfl
      which := fun y g F e => by
        have e : c.which = some (y, g, F) := e
        rw [hwh] at e
        cases e }
/-! ### the head's facts -/
def exOne (K : PySem.W.Frag) (D : Addr) : Bool :=
  decide (PySem.W.findIn K (.ref D) "__getattribute__" = some (some (.builtin "BaseException.__getattribute__"))) && (decide (PySem.W.findIn K (.ref D) "__getattr__" = some none) && (decide (PySem.W.subIn K (.ref D) (.type "BaseException") = some true) && (PySem.W.hasDictIn K D &&
  (decide (PySem.W.findIn K (.ref D) "__class__" = some (some (.builtin "object.__class__"))) && (decide (PySem.W.specialIn K (.builtin "object.__class__") "__get__" = some (some (.builtin "getset_descriptor.__get__"))) && (decide (PySem.W.takesIn K (.builtin "object.__class__") = some true) && decide (PySem.W.mroIn K D (.type "object") = some true)))))))
theorem exOne_ok {K : PySem.W.Frag} {D : Addr} (h : exOne K D = true) : ExcC K D := by
  unfold exOne at h
  simp only [Bool.and_eq_true, decide_eq_true_eq] at h
  obtain ⟨h1, h2, h3, h4, h5, h6, h7, h8⟩ := h
  exact ⟨h1, h2, h3, h4, h5, h6, h7, h8⟩
def exAll (xs ys : List Str) (K : PySem.W.Frag) : Bool := xs.all fun x => exOne K (He.ga K x) && (decide (PySem.W.kitOne K (.ref (He.ga K x)) (.type "ValueError") = some true) && ys.all fun y => decide (PySem.W.kitOne K (.ref (He.ga K x)) (.ref (He.ga K y)) = some (x == y)))
abbrev AlU : Type := Bool × He.AlD
def obsU (n : Nat) (fa : List He.Fa) (fn : List He.DefD) (ex : PySem.W.Frag → Bool) (g : Addr → Option Obj) : AlU := (ex (He.frG g (He.asD g n)), He.obsD fa fn (He.frG g (He.asD g n)))
def hookU (n : Nat) (fa : List He.Fa) (fn : List He.DefD) (ex : PySem.W.Frag → Bool) : PySem.W.Hook where
  α := AlU
  obs := fun s => obsU n fa fn ex s.heap.get?
  val := fun _ => (true, He.valD fn)
  says := fun _ h => ∃ K : PySem.W.Frag, K.In h ∧ He.SaysD fa fn K ∧ ex K = true
  of := fun _ _ e => ⟨_, He.frG_in, congrArg Prod.snd e, congrArg Prod.fst e⟩
  keeps := fun _ _ _ ⟨K, hK, c, d⟩ k => ⟨K, PySem.W.Frag.In.keeps hK k, c, d⟩
theorem obsU_eq {n : Nat} {fa : List He.Fa} {fn : List He.DefD} {ex : PySem.W.Frag → Bool} {g : Addr → Option Obj} {s : Shared} (h : ∀ a, g a = s.heap.get? a) : obsU n fa fn ex g = (hookU n fa fn ex).obs s := by
  have e : g = s.heap.get? := funext h
  rw [e] <;> rfl
/-- a fact that is listed -/
theorem says_mem {fa : List He.Fa} {fn : List He.DefD} {K : PySem.W.Frag} (c : He.SaysD fa fn K) {f : He.Fa} (h : f ∈ fa) : f.ok K = true := by
  obtain ⟨i, e⟩ := List.getElem?_of_mem h
  exact c.fact i e
theorem excX_of {K : PySem.W.Frag} {h : Heap} {mg : Str → Option Value} (X : K.In h) (G : h.Ns mainGlobals mg) {x : Str} (c1 : (He.Fa.glo x).ok K = true) (c2 : (He.Fa.exc x).ok K = true) : ExcX K mg x := by
  have c2 : (PySem.W.excIn K (He.ga K x) He.veBase "ValueError.__new__" && (PySem.W.keepIn K (.ref (He.ga K x)) && (decide (PySem.W.subIn K (.ref (He.ga K x)) (.type "BaseException") = some true) && decide (PySem.W.typeIn K (.ref (He.ga K x)) = some (.type "type"))))) = true := c2
  simp only [Bool.and_eq_true, decide_eq_true_eq] at c2
  exact ⟨He.ga K x, He.glo_ok X G c1, c2.1, c2.2.1, c2.2.2.1, c2.2.2.2⟩
theorem glob_of {K : PySem.W.Frag} {h : Heap} {mg : Str → Option Value} {fa : List He.Fa} {fn : List He.DefD} (X : K.In h) (G : h.Ns mainGlobals mg) (c : He.SaysD fa fn K) (gi : List (Str × Int)) (gs : List (Str × Str)) (excs : List Str)
    (h1 : ∀ p, p ∈ gi → He.Fa.int p.1 p.2 ∈ fa) (h2 : ∀ p, p ∈ gs → He.Fa.str p.1 p.2 ∈ fa) (h3 : ∀ y, y ∈ blt → He.Fa.free y ∈ fa) (h4 : ∀ y, y ∈ excs → He.Fa.glo y ∈ fa ∧ He.Fa.exc y ∈ fa) : Glob K mg gi gs excs where
  gi := fun y i e => He.int_ok X G (says_mem c (h1 (y, i) (lookup_mem e)))
  gs := fun y i e => He.str_ok X G (says_mem c (h2 (y, i) (lookup_mem e)))
  free := fun y e => He.free_ok X G (says_mem c (h3 y e))
  exc := fun y e => excX_of X G (says_mem c (h4 y e).1) (says_mem c (h4 y e).2)
end UW
namespace UW
open PySem PySem.Spec PyProof.Rows L2
def TblOk (P : Program) (w : World) (K : PySem.W.Frag) (mg : Str → Option Value) (base : Heap) (k : Nat) : Tbl → Prop
  | [] => True
  | (y, n, F) :: r => Kn P w K mg base k y n F ∧ TblOk P w K mg base k r
theorem tbl_ok {P : Program} {w : World} {K : PySem.W.Frag} {mg : Str → Option Value} {base : Heap} {k : Nat} : ∀ {t : Tbl}, TblOk P w K mg base k t → ∀ y n F, t.lookup y = some (n, F) → Kn P w K mg base k y n F
  | [], _, y, n, F, e => by cases e
  | (y', n', F') :: r, h, y, n, F, e => by
    rcases List.mem_cons.mp (lookup_mem e) with q | q
    · cases q
      exact h.1
    · have key : ∀ {t : Tbl}, TblOk P w K mg base k t → (y, n, F) ∈ t → Kn P w K mg base k y n F := by
        intro t
        induction t with
        | nil => intro _ h; cases h
        | cons p r ih =>
          intro h hm
          rcases List.mem_cons.mp hm with q | q
          · cases q
            exact h.1
          · exact ih h.2 q
      exact key h.2 q
theorem FnW.mono {P : Program} {w : World} {K : PySem.W.Frag} {mg : Str → Option Value} {base : Heap} {j k : Nat} {f : Addr} {fd : FuncData} {ps : List Str} {sp : Addr × Obj → Sp} (h : FnW P w K mg base j f fd ps sp) (le : j ≤ k) : FnW P w K mg base k f fd ps sp :=
  ⟨h.len, fun A outer s H args us vs Q Z p hr => h.run A outer s H args us vs Q Z p (hr.mono le)⟩
theorem KnW.mono {P : Program} {w : World} {K : PySem.W.Frag} {mg : Str → Option Value} {base : Heap} {j k : Nat} {excs : List Str} {x g : Str} {F : FnE} (h : KnW P w K mg base j excs x g F) (le : j ≤ k) : KnW P w K mg base k excs x g F := by
  obtain ⟨f, fd, ps, a, h1, h2, h3⟩ := h.ok
  exact ⟨f, fd, ps, a, h1, h2.mono le, h3⟩
/-- the law's end: the promise at the head's own call -/
theorem law_end {K : Kw} {mg : Str → Option Value} {F : Fn} {H : Hp} {a : Addr} {ns : List Int} {Z : XK} (hS : SqL K H a (ns.map V.int)) (hF : ∃ s, F [.scr ns] [] = .ok ⟨.cl, .bl true⟩ s) : spD K mg 1 F [.ref a] H (fun v _ => v = .bl true) Z := by
  obtain ⟨s, e⟩ := hF
  refine ⟨rfl, [], H, [.scr ns], [], ⟨L2.Same.refl _, fun a o e => .inl e, L2.Same.refl _, fun a o e _ => e, ⟨rfl, List.Pairwise.nil, fun i ob a e => by simp at e⟩, Nat.le_refl _, fun i a _ e => by simp at e⟩, .one (.scr hS), ?_⟩
  rw [e]
  intro v C' R' H' _ _ _ r
  cases r
  rfl
theorem shut_ok {P : Program} {w : World} {K : PySem.W.Frag} {mg : Str → Option Value} {base : Heap} {k : Nat} {f : Addr} {fd : FuncData} {ps : List Str} {sp : Sp} (F : FnOk P w K mg base (L2N.CX P w) k f fd ps sp) : FnOk P w K mg base CX0 k f fd ps (fun vs H Q _ => sp vs H Q fun _ _ _ => False) :=
  ⟨fun vs H Q E h => F.len _ _ _ _ h, fun A outer s H args us vs Q E hr e0 hb rv h => codeAny_mono (F.run A outer s H args us vs Q (fun _ _ _ => False) hr e0 hb rv h) fun r s' hq => by
    cases r with
    | error e =>
      obtain ⟨_, _, _, _, _, _, _, _, _, _, _, _, z⟩ := hq
      exact z.elim
    | ok fl => cases fl <;> exact hq⟩
end UW
namespace UW
open PySem PySem.Spec PyProof.Rows L2

/-! ### the combinators, one step each: what is left to do stays a name without arguments -/
def optK (s : Sto) : Option TV → Res TV
  | some tv => .ok tv s
  | none => .bad
def varK (i : Nat) (s : Sto) : Option Sl → Res TV
  | some (.sh d) => .ok ⟨.cl, d⟩ s
  | some (.ow d) => .ok ⟨.dy i, d⟩ s
  | _ => .bad
def ispK (pa : Addr) (b : Bool) (s : Sto) : Option Sl → Res TV
  | some (.sh (.exc a)) => if a = pa then .ok ⟨.cl, .bl b⟩ s else .bad
  | _ => .bad
def ssetK : Res TV → Res TV
  | .ok x s => optK s (ssetOp x.d)
  | .exc c s => .exc c s
  | .bad => .bad
def revK2 (s : Sto) : D → Res TV
  | .tup ds => .ok ⟨.cl, .tup ds.reverse⟩ s
  | _ => .bad
def revK : Res TV → Res TV
  | .ok x s => revK2 s x.d
  | .exc c s => .exc c s
  | .bad => .bad
def lsrK2 (s : Sto) : D → Res TV
  | .int n => if 0 ≤ n ∧ n ≤ 16777216 then .ok ⟨.fr, .lst (rangeD 0 n)⟩ s else .bad
  | _ => .bad
def lsrK : Res TV → Res TV
  | .ok x s => lsrK2 s x.d
  | .exc c s => .exc c s
  | .bad => .bad
def tprK2 (s : Sto) : D → Res TV
  | .int n => if 0 ≤ n ∧ n ≤ 16777216 then .ok ⟨.cl, .tup (rangeD 0 n)⟩ s else .bad
  | _ => .bad
def tprK : Res TV → Res TV
  | .ok x s => tprK2 s x.d
  | .exc c s => .exc c s
  | .bad => .bad
def consK2 (x : TV) : Res (List TV) → Res (List TV)
  | .ok xs s => .ok (x :: xs) s
  | .exc c s => .exc c s
  | .bad => .bad
def consK1 (l : EL) (ρ : DSt) : Res TV → Res (List TV)
  | .ok x s => consK2 x.keep (l ρ s)
  | .exc c s => .exc c s
  | .bad => .bad
def tupK2 (s : Sto) : Option (List D) → Res TV
  | some ds => if ds.length ≤ 16777216 then .ok ⟨.cl, .tup ds⟩ s else .bad
  | none => .bad
def tupK : Res (List TV) → Res TV
  | .ok xs s => tupK2 s (cleans xs)
  | .exc c s => .exc c s
  | .bad => .bad
def lstK2 (s : Sto) : Option (List D) → Res TV
  | some ds => if ds.length ≤ 16777216 then .ok ⟨.fr, .lst ds⟩ s else .bad
  | none => .bad
def lstK : Res (List TV) → Res TV
  | .ok xs s => lstK2 s (cleans xs)
  | .exc c s => .exc c s
  | .bad => .bad
def ofK2 (s : Sto) : D → Res Bool
  | .bl b => .ok b s
  | _ => .bad
def ofK : Res TV → Res Bool
  | .ok x s => ofK2 s x.d
  | .exc c s => .exc c s
  | .bad => .bad
def tandK (u : T) (ρ : DSt) : Res Bool → Res Bool
  | .ok true s => u ρ s
  | .ok false s => .ok false s
  | .exc c s => .exc c s
  | .bad => .bad
def torK (u : T) (ρ : DSt) : Res Bool → Res Bool
  | .ok true s => .ok true s
  | .ok false s => u ρ s
  | .exc c s => .exc c s
  | .bad => .bad
def tnotK : Res Bool → Res Bool
  | .ok b s => .ok (!b) s
  | .exc c s => .exc c s
  | .bad => .bad
def andK2 (b : E) (ρ : DSt) (s : Sto) : D → Res TV
  | .bl true => b ρ s
  | .bl false => .ok ⟨.cl, .bl false⟩ s
  | _ => .bad
def andK (b : E) (ρ : DSt) : Res TV → Res TV
  | .ok x s => andK2 b ρ s x.d
  | .exc c s => .exc c s
  | .bad => .bad
def orK2 (b : E) (ρ : DSt) (s : Sto) : D → Res TV
  | .bl true => .ok ⟨.cl, .bl true⟩ s
  | .bl false => b ρ s
  | _ => .bad
def orK (b : E) (ρ : DSt) : Res TV → Res TV
  | .ok x s => orK2 b ρ s x.d
  | .exc c s => .exc c s
  | .bad => .bad
def notK2 (s : Sto) : D → Res TV
  | .bl b => .ok ⟨.cl, .bl (!b)⟩ s
  | _ => .bad
def notK : Res TV → Res TV
  | .ok x s => notK2 s x.d
  | .exc c s => .exc c s
  | .bad => .bad
def ifeK (a b : E) (ρ : DSt) : Res Bool → Res TV
  | .ok true s => a ρ s
  | .ok false s => b ρ s
  | .exc c s => .exc c s
  | .bad => .bad
def opK2 (op : D → D → Option TV) (d : D) : Res TV → Res TV
  | .ok y s => optK s (op d y.d)
  | .exc c s => .exc c s
  | .bad => .bad
def opK (op : D → D → Option TV) (b : E) (ρ : DSt) : Res TV → Res TV
  | .ok x s => opK2 op x.d (b ρ s)
  | .exc c s => .exc c s
  | .bad => .bad
def osK2 (s : Sto) : D → Res (Option Int)
  | .int i => .ok (some i) s
  | _ => .bad
def osK : Res TV → Res (Option Int)
  | .ok x s => osK2 s x.d
  | .exc c s => .exc c s
  | .bad => .bad
def slK3 (d : D) (lo : Option Int) : Res (Option Int) → Res TV
  | .ok hi s => optK s (opSl d lo hi)
  | .exc c s => .exc c s
  | .bad => .bad
def slK2 (d : D) (hi : O) (ρ : DSt) : Res (Option Int) → Res TV
  | .ok lo s => slK3 d lo (hi ρ s)
  | .exc c s => .exc c s
  | .bad => .bad
def slK (lo hi : O) (ρ : DSt) : Res TV → Res TV
  | .ok x s => slK2 x.d hi ρ (lo ρ s)
  | .exc c s => .exc c s
  | .bad => .bad
def bK (op : List D → Option TV) : Res (List TV) → Res TV
  | .ok xs s => optK s (op (xs.map TV.d))
  | .exc c s => .exc c s
  | .bad => .bad
def lenK3 (s : Sto) : Option Ob → Res TV
  | some (.lst ds) => .ok ⟨.cl, .int ds.length⟩ s
  | _ => .bad
def lenK2 (s : Sto) : List D → Res TV
  | [.ref i] => lenK3 s s[i]?
  | ds => optK s (bLen ds)
def lenK : Res (List TV) → Res TV
  | .ok xs s => lenK2 s (xs.map TV.d)
  | .exc c s => .exc c s
  | .bad => .bad
def callK2 (F : Fn) (s : Sto) : Option (List D) → Res TV
  | some ds => F ds s
  | none => .bad
def callK (F : Fn) : Res (List TV) → Res TV
  | .ok xs s => callK2 F s (cleans xs)
  | .exc c s => .exc c s
  | .bad => .bad
def cxK3 (n : Nat) (F : Fn) : Res (List TV) → Res TV
  | .ok xs s => if xs.length = n then callK2 F s (cleans xs) else .bad
  | .exc c s => .exc c s
  | .bad => .bad
def cxK2 (l : EL) (ρ : DSt) (s : Sto) : Option (Nat × Fn) → Res TV
  | some (n, F) => cxK3 n F (l ρ s)
  | none => .bad
def cxK1 (t : Tbl) (l : EL) (ρ : DSt) (s : Sto) : D → Res TV
  | .fn y => cxK2 l ρ s (t.lookup y)
  | _ => .bad
def cxK (t : Tbl) (l : EL) (ρ : DSt) : Res TV → Res TV
  | .ok x s => cxK1 t l ρ s x.d
  | .exc c s => .exc c s
  | .bad => .bad
def negK : Res TV → Res TV
  | .ok x s => optK s (opNeg x.d)
  | .exc c s => .exc c s
  | .bad => .bad
def chK4 (q : Int → Int → Bool) (j : Int) (s : Sto) : D → Res TV
  | .int k => .ok ⟨.cl, .bl (q j k)⟩ s
  | _ => .bad
def chK3 (q : Int → Int → Bool) (j : Int) : Res TV → Res TV
  | .ok z s => chK4 q j s z.d
  | .exc c s => .exc c s
  | .bad => .bad
def chKb (q : Int → Int → Bool) (j : Int) (c : E) (ρ : DSt) (s : Sto) : Bool → Res TV
  | true => chK3 q j (c ρ s)
  | false => .ok ⟨.cl, .bl false⟩ s
def chKd (p q : Int → Int → Bool) (c : E) (ρ : DSt) (s : Sto) : D → D → Res TV
  | .int i, .int j => chKb q j c ρ s (p i j)
  | _, _ => .bad
def chK2 (p q : Int → Int → Bool) (d : D) (c : E) (ρ : DSt) : Res TV → Res TV
  | .ok y s => chKd p q c ρ s d y.d
  | .exc c s => .exc c s
  | .bad => .bad
def chK (p q : Int → Int → Bool) (b c : E) (ρ : DSt) : Res TV → Res TV
  | .ok x s => chK2 p q x.d c ρ (b ρ s)
  | .exc c s => .exc c s
  | .bad => .bad
def mK3 (op : D → List D → Option TV) (d : D) : Res (List TV) → Res TV
  | .ok xs s => optK s (op d (xs.map TV.d))
  | .exc c s => .exc c s
  | .bad => .bad
def mK2 (op : D → List D → Option TV) (d : D) (l : EL) (ρ : DSt) (s : Sto) : Bool → Res TV
  | true => mK3 op d (l ρ s)
  | false => .bad
def mK (ok : D → Bool) (op : D → List D → Option TV) (l : EL) (ρ : DSt) : Res TV → Res TV
  | .ok x s => mK2 op x.d l ρ s (ok x.d)
  | .exc c s => .exc c s
  | .bad => .bad
def isiK3 (s : Sto) : Option Bool → Res TV
  | some b => .ok ⟨.cl, .bl b⟩ s
  | none => .bad
def isiK2 (T : String) (s : Sto) : Option String → Res TV
  | some t => isiK3 s (kitB t T)
  | none => .bad
def isiK (T : String) : Res TV → Res TV
  | .ok x s => isiK2 T s (tyD x.d)
  | .exc c s => .exc c s
  | .bad => .bad
def anyK2 (x : TV) (s : Sto) : Option (List D) → Res (List TV × List D)
  | some ds => .ok ([x.keep], ds) s
  | none => .bad
def anyK : Res TV → Res (List TV × List D)
  | .ok x s => anyK2 x s (items x.d)
  | .exc c s => .exc c s
  | .bad => .bad
def rngK2 (s : Sto) : List D → Res (List TV × List D)
  | [.int j] => if -(2 ^ 62) ≤ j ∧ j < 2 ^ 62 then .ok ([], rangeD 0 j) s else .bad
  | [.int i, .int j] => if -(2 ^ 62) ≤ i ∧ i < 2 ^ 62 ∧ -(2 ^ 62) ≤ j ∧ j < 2 ^ 62 then .ok ([], rangeD i j) s else .bad
  | _ => .bad
def rngK : Res (List TV) → Res (List TV × List D)
  | .ok xs s => rngK2 s (xs.map TV.d)
  | .exc c s => .exc c s
  | .bad => .bad
def zipK2 (tvs : List TV) (s : Sto) : List D → Res (List TV × List D)
  | [.lst xs, .lst ys] => .ok (tvs, zipD xs ys) s
  | [.tup xs, .tup ys] => .ok (tvs, zipD xs ys) s
  | _ => .bad
def zipK : Res (List TV) → Res (List TV × List D)
  | .ok xs s => zipK2 xs s (xs.map TV.d)
  | .exc c s => .exc c s
  | .bad => .bad
def compK2 : Res (List D) → Res TV
  | .ok r s => .ok ⟨.fr, .lst r⟩ s
  | .exc c s => .exc c s
  | .bad => .bad
def compKb (g : G) (t : T) (e : E) (ρ : DSt) (ds : List D) (s : Sto) : Bool → Res TV
  | true => compK2 (compL g t e ρ ds s)
  | false => .bad
def compK (vs : List Nat) (g : G) (t : T) (e : E) (ρ : DSt) : Res (List TV × List D) → Res TV
  | .ok z s => compKb g t e (wipeD ρ vs) z.2 s (noOwn ρ vs && decide (z.2.length ≤ 16777216))
  | .exc c s => .exc c s
  | .bad => .bad
def seqK (g : S) : Res Out → Res Out
  | .ok (.nx ρ) s => g ρ s
  | .ok (.rt tv) s => .ok (.rt tv) s
  | .exc c s => .exc c s
  | .bad => .bad
def sifK (f g : S) (ρ : DSt) : Res Bool → Res Out
  | .ok true s => f ρ s
  | .ok false s => g ρ s
  | .exc c s => .exc c s
  | .bad => .bad
def retK : Res TV → Res Out
  | .ok ⟨.dy _, d⟩ s => .ok (.rt ⟨.fr, d⟩) s
  | .ok ⟨.cl, d⟩ s => .ok (.rt ⟨.cl, d⟩) s
  | .ok ⟨.fr, d⟩ s => .ok (.rt ⟨.fr, d⟩) s
  | .exc c s => .exc c s
  | .bad => .bad
def dropK (ρ : DSt) : Res TV → Res Out
  | .ok _ s => .ok (.nx ρ) s
  | .exc c s => .exc c s
  | .bad => .bad
def asgK (i : Nat) (ρ : DSt) : Res TV → Res Out
  | .ok x s => putTV i x ρ s
  | .exc c s => .exc c s
  | .bad => .bad
def asgtK2 (s : Sto) : Option DSt → Res Out
  | some ρ => .ok (.nx ρ) s
  | none => .bad
def asgtK1 (g : G) (ρ : DSt) (s : Sto) : TV → Res Out
  | ⟨.cl, d⟩ => asgtK2 s (g d ρ)
  | _ => .bad
def asgtK (g : G) (ρ : DSt) : Res TV → Res Out
  | .ok x s => asgtK1 g ρ s x.keep
  | .exc c s => .exc c s
  | .bad => .bad
def parK2 (i j : Nat) (ρ : DSt) (s : Sto) : Option (List D) → Res Out
  | some [a, b] => .ok (.nx ((ρ.set i (.sh a)).set j (.sh b))) s
  | _ => .bad
def parK (i j : Nat) (ρ : DSt) : Res (List TV) → Res Out
  | .ok xs s => parK2 i j ρ s (cleans xs)
  | .exc c s => .exc c s
  | .bad => .bad
def lockD : D → D
  | .dct ks vs => .fdc ks vs
  | .dnt ks vs => .fdn ks vs
  | d => d
def frzK (i : Nat) (ρ : DSt) : Option Sl → DSt
  | some (.ow d) => ρ.set i (.sh (lockD d))
  | _ => ρ
def forKb (g : G) (f : S) (ρ : DSt) (ds : List D) (s : Sto) : Bool → Res Out
  | true => forL g f ds ρ s
  | false => .bad
def forK (g : G) (f : S) (ρ : DSt) : Res (List TV × List D) → Res Out
  | .ok z s => forKb g f ρ z.2 s (allCl z.1)
  | .exc c s => .exc c s
  | .bad => .bad
def appK1 (j : Nat) (ds : List D) (ρ : DSt) (s : Sto) : TV → Res Out
  | ⟨.cl, d⟩ => if ds.length < 16777216 then .ok (.nx (ρ.set j (.ow (.lst (ds ++ [d]))))) s else .bad
  | _ => .bad
def appK (j : Nat) (ds : List D) (ρ : DSt) : Res TV → Res Out
  | .ok x s => appK1 j ds ρ s x.keep
  | .exc c s => .exc c s
  | .bad => .bad
def appR2 (i : Nat) (d : D) (ρ : DSt) (s : Sto) : Option Ob → Res Out
  | some (.lst ds) => if ds.length < 16777216 then .ok (.nx ρ) (s.set i (.lst (ds ++ [d]))) else .bad
  | _ => .bad
def appR1 (i : Nat) (ρ : DSt) (s : Sto) : TV → Res Out
  | ⟨.cl, d⟩ => appR2 i d ρ s s[i]?
  | _ => .bad
def appR (i : Nat) (ρ : DSt) : Res TV → Res Out
  | .ok x s => appR1 i ρ s x.keep
  | .exc c s => .exc c s
  | .bad => .bad
def appR0 (i : Nat) (e : E) (ρ : DSt) (s : Sto) : Option Ob → Res Out
  | some (.lst _) => appR i ρ (e ρ s)
  | _ => .bad
def appS (j : Nat) (e : E) (ρ : DSt) (s : Sto) : Option Sl → Res Out
  | some (.ow (.lst ds)) => appK j ds ρ (e ρ s)
  | some (.sh (.ref i)) => appR0 i e ρ s s[i]?
  | _ => .bad
def extK1 (j : Nat) (ds : List D) (ρ : DSt) (s : Sto) : TV → Res Out
  | ⟨.cl, .lst es⟩ => if ds.length + es.length ≤ 16777216 then .ok (.nx (ρ.set j (.ow (.lst (ds ++ es))))) s else .bad
  | _ => .bad
def extK (j : Nat) (ds : List D) (ρ : DSt) : Res TV → Res Out
  | .ok x s => extK1 j ds ρ s x.keep
  | .exc c s => .exc c s
  | .bad => .bad
def extS (j : Nat) (e : E) (ρ : DSt) (s : Sto) : Option Sl → Res Out
  | some (.ow (.lst ds)) => extK j ds ρ (e ρ s)
  | _ => .bad
def movK2 (i : Nat) (ρ : DSt) (s : Sto) : Option Sl → Res Out
  | some (.ow (.lst ds)) => .ok (.nx (ρ.set i (.sh (.ref s.length)))) (s ++ [.lst ds])
  | _ => .bad
def movK (i : Nat) : Res Out → Res Out
  | .ok (.nx ρ) s => movK2 i ρ s ρ[i]?
  | .ok (.rt tv) s => .ok (.rt tv) s
  | .exc c s => .exc c s
  | .bad => .bad
def runK : Res Out → Res TV
  | .ok (.nx _) s => .ok ⟨.cl, .non⟩ s
  | .ok (.rt tv) s => .ok tv s
  | .exc c s => .exc c s
  | .bad => .bad
def tryK2 : Res TV → Res Out
  | .ok tv s => .ok (.rt tv) s
  | _ => .bad
def tryK (i : Nat) (cs : List Str) (F : FnE) (ρ : DSt) : Res Out → Res Out
  | .exc c s => if c ∈ cs ∧ i < ρ.length then tryK2 (F c s) else .bad
  | .ok o s => .ok o s
  | .bad => .bad
section
variable {A B : Type} {ρ : DSt} {s s1 : Sto} {a b c e : E} {l : EL} {t u : T} {f g : S} {i j : Nat} {d : D} {x : TV}
@[simp] theorem k_cl : TV.keep ⟨.cl, d⟩ = ⟨.cl, d⟩ := rfl
@[simp] theorem k_fr : TV.keep ⟨.fr, d⟩ = ⟨.cl, d⟩ := rfl
@[simp] theorem k_dy : TV.keep ⟨.dy i, d⟩ = ⟨.dy i, d⟩ := rfl
@[simp] theorem cl_nil : cleans [] = some [] := rfl
@[simp] theorem cl_cons {r : List TV} : cleans (⟨.cl, d⟩ :: r) = (cleans r).map (d :: ·) := rfl
@[simp] theorem x_1 : eVar i ρ s = varK i s ρ[i]? := by
  unfold eVar
  cases ρ[i]? with
  | none => rfl
  | some z => cases z <;> rfl
@[simp] theorem x_2 : eC d ρ s = .ok ⟨.cl, d⟩ s := rfl
@[simp] theorem x_3 : eBad ρ s = .bad := rfl
@[simp] theorem x_4 : lNil ρ s = .ok [] s := rfl
@[simp] theorem x_5 : lCons a l ρ s = consK1 l ρ (a ρ s) := by unfold lCons; cases a ρ s with | ok x s1 => (show _ = consK2 x.keep (l ρ s1)); (show (l ρ s1).bind _ = _); cases l ρ s1 <;> rfl | exc c s1 => rfl | bad => rfl
@[simp] theorem x_6 : eTup l ρ s = tupK (l ρ s) := by unfold eTup; cases l ρ s with | ok x s1 => (show _ = tupK2 s1 (cleans x)); (show (match cleans x with | some ds => _ | none => _) = _); cases cleans x <;> rfl | exc c s1 => rfl | bad => rfl
@[simp] theorem x_7 : eLst l ρ s = lstK (l ρ s) := by unfold eLst; cases l ρ s with | ok x s1 => (show _ = lstK2 s1 (cleans x)); (show (match cleans x with | some ds => _ | none => _) = _); cases cleans x <;> rfl | exc c s1 => rfl | bad => rfl
@[simp] theorem x_8 : tOf a ρ s = ofK (a ρ s) := by
  unfold tOf
  cases a ρ s with
  | ok x s1 =>
    cases x with
    | mk t d => cases d <;> rfl
  | exc c s1 => rfl
  | bad => rfl
@[simp] theorem x_9 : tAnd t u ρ s = tandK u ρ (t ρ s) := by unfold tAnd; cases t ρ s with | ok x s1 => (cases x <;> rfl) | exc c s1 => rfl | bad => rfl
@[simp] theorem x_10 : tOr t u ρ s = torK u ρ (t ρ s) := by unfold tOr; cases t ρ s with | ok x s1 => (cases x <;> rfl) | exc c s1 => rfl | bad => rfl
@[simp] theorem x_11 : tNot t ρ s = tnotK (t ρ s) := by unfold tNot; cases t ρ s <;> rfl
@[simp] theorem x_12 : tT ρ s = .ok true s := rfl
@[simp] theorem x_13 : eAnd a b ρ s = andK b ρ (a ρ s) := by
  unfold eAnd
  cases a ρ s with
  | ok x s1 =>
    cases x with
    | mk t d =>
      cases d with
      | bl q => cases q <;> rfl
      | _ => rfl
  | exc c s1 => rfl
  | bad => rfl
@[simp] theorem x_14 : eOr a b ρ s = orK b ρ (a ρ s) := by
  unfold eOr
  cases a ρ s with
  | ok x s1 =>
    cases x with
    | mk t d =>
      cases d with
      | bl q => cases q <;> rfl
      | _ => rfl
  | exc c s1 => rfl
  | bad => rfl
@[simp] theorem x_15 : eNot a ρ s = notK (a ρ s) := by
  unfold eNot
  cases a ρ s with
  | ok x s1 =>
    cases x with
    | mk t d => cases d <;> rfl
  | exc c s1 => rfl
  | bad => rfl
@[simp] theorem x_16 : eIf t a b ρ s = ifeK a b ρ (t ρ s) := by unfold eIf; cases t ρ s with | ok x s1 => (cases x <;> rfl) | exc c s1 => rfl | bad => rfl
@[simp] theorem x_op_ {op : D → D → Option TV} : eOp op a b ρ s = opK op b ρ (a ρ s) := by unfold eOp; cases a ρ s with | ok x s1 => (show _ = opK2 op x.d (b ρ s1)); (show (b ρ s1).bind _ = _); (cases b ρ s1 with | ok y s2 => (show (match op x.d y.d with | some tv => _ | none => _) = optK s2 (op x.d y.d)); cases op x.d y.d <;> rfl | exc c s2 => rfl | bad => rfl) | exc c s1 => rfl | bad => rfl
@[simp] theorem x_18 : eIx a b ρ s = opK opIx b ρ (a ρ s) := x_op_
@[simp] theorem x_19 : oNone ρ s = .ok none s := rfl
@[simp] theorem x_20 : oSome a ρ s = osK (a ρ s) := by
  unfold oSome
  cases a ρ s with
  | ok x s1 =>
    cases x with
    | mk t d => cases d <;> rfl
  | exc c s1 => rfl
  | bad => rfl
@[simp] theorem x_21 {lo hi : O} : eSl a lo hi ρ s = slK lo hi ρ (a ρ s) := by unfold eSl; cases a ρ s with | ok x s1 => (show (lo ρ s1).bind _ = slK2 x.d hi ρ (lo ρ s1)); (cases lo ρ s1 with | ok y s2 => (show (hi ρ s2).bind _ = slK3 x.d y (hi ρ s2)); (cases hi ρ s2 with | ok z s3 => (show (match opSl x.d y z with | some tv => _ | none => _) = optK s3 (opSl x.d y z)); cases opSl x.d y z <;> rfl | exc c s2 => rfl | bad => rfl) | exc c s2 => rfl | bad => rfl) | exc c s1 => rfl | bad => rfl
@[simp] theorem x_22 {op : List D → Option TV} : eB op l ρ s = bK op (l ρ s) := by unfold eB; cases l ρ s with | ok x s1 => (show (match op (x.map TV.d) with | some tv => _ | none => _) = optK s1 (op (x.map TV.d))); cases op (x.map TV.d) <;> rfl | exc c s1 => rfl | bad => rfl
@[simp] theorem x_23 : eLen l ρ s = lenK (l ρ s) := by
  unfold eLen
  cases l ρ s with
  | ok x s1 =>
    show (match x.map TV.d with
      | [.ref i] => _
      | ds => _) = lenK2 s1 (x.map TV.d)
    generalize x.map TV.d = ds
    cases ds with
    | nil => rfl
    | cons d r =>
      cases r with
      | nil =>
        cases d with
        | ref i =>
          show (match s1[i]? with
            | some (.lst ds) => _
            | _ => _) = lenK3 s1 s1[i]?
          cases s1[i]? with
          | none => rfl
          | some o => cases o <;> rfl
        | str z =>
          show (match bLen [.str z] with
            | some tv => Res.ok tv s1
            | none => .bad) = optK s1 (bLen [.str z])
          cases bLen [.str z] <;> rfl
        | _ => rfl
      | cons d2 r2 => cases d <;> rfl
  | exc c s1 => rfl
  | bad => rfl
@[simp] theorem x_24 {F : Fn} : eCall F l ρ s = callK F (l ρ s) := by unfold eCall; cases l ρ s with | ok x s1 => (show (match cleans x with | some ds => _ | none => _) = callK2 F s1 (cleans x)); cases cleans x <;> rfl | exc c s1 => rfl | bad => rfl
@[simp] theorem x_25 {tb : Tbl} : eCallX tb a l ρ s = cxK tb l ρ (a ρ s) := by unfold eCallX; cases a ρ s with | ok x s1 => (cases x with | mk t d => cases d with | fn y => ((show (match tb.lookup y with | some (n, F) => _ | none => _) = cxK2 l ρ s1 (tb.lookup y)); cases tb.lookup y with | none => rfl | some p => (cases p with | mk n F => (show (l ρ s1).bind _ = cxK3 n F (l ρ s1)); cases l ρ s1 with | ok xs s2 => ((show (if xs.length = n then _ else _) = if xs.length = n then _ else _); split; ((show (match cleans xs with | some ds => _ | none => _) = callK2 F s2 (cleans xs)); cases cleans xs <;> rfl); rfl) | exc c s2 => rfl | bad => rfl)) | _ => rfl) | exc c s1 => rfl | bad => rfl
@[simp] theorem x_26 : eNeg a ρ s = negK (a ρ s) := by unfold eNeg; cases a ρ s with | ok x s1 => (show (match opNeg x.d with | some tv => _ | none => _) = optK s1 (opNeg x.d)); cases opNeg x.d <;> rfl | exc c s1 => rfl | bad => rfl
@[simp] theorem x_27 {p q : Int → Int → Bool} : eChain p q a b c ρ s = chK p q b c ρ (a ρ s) := by
  unfold eChain
  cases a ρ s with
  | ok x s1 =>
    show (b ρ s1).bind _ = chK2 p q x.d c ρ (b ρ s1)
    cases b ρ s1 with
    | ok y s2 =>
      show _ = chKd p q c ρ s2 x.d y.d
      simp only [Res.bind]
      generalize x.d = dx
      generalize y.d = dy
      cases dx with
      | int i =>
        cases dy with
        | int j =>
          show (if p i j = true then _ else _) = chKb q j c ρ s2 (p i j)
          cases p i j with
          | true =>
            show (c ρ s2).bind _ = chK3 q j (c ρ s2)
            cases c ρ s2 with
            | ok z s3 =>
              cases z with
              | mk t d => cases d <;> rfl
            | exc c s3 => rfl
            | bad => rfl
          | false => rfl
        | _ => rfl
      | _ => rfl
    | exc c s2 => rfl
    | bad => rfl
  | exc c s1 => rfl
  | bad => rfl
@[simp] theorem x_28 {ok : D → Bool} {op : D → List D → Option TV} : eM ok op a l ρ s = mK ok op l ρ (a ρ s) := by unfold eM; cases a ρ s with | ok x s1 => (show (if ok x.d = true then _ else _) = mK2 op x.d l ρ s1 (ok x.d)); (cases ok x.d with | true => (show (l ρ s1).bind _ = mK3 op x.d (l ρ s1)); (cases l ρ s1 with | ok xs s2 => (show (match op x.d (xs.map TV.d) with | some tv => _ | none => _) = optK s2 (op x.d (xs.map TV.d))); cases op x.d (xs.map TV.d) <;> rfl | exc c s2 => rfl | bad => rfl) | false => rfl) | exc c s1 => rfl | bad => rfl
@[simp] theorem x_29 {T : String} : eIsi T a ρ s = isiK T (a ρ s) := by unfold eIsi; cases a ρ s with | ok x s1 => (show (match tyD x.d with | some t => _ | none => _) = isiK2 T s1 (tyD x.d)); (cases tyD x.d with | none => rfl | some t => (show (match kitB t T with | some b => _ | none => _) = isiK3 s1 (kitB t T)); cases kitB t T <;> rfl) | exc c s1 => rfl | bad => rfl
@[simp] theorem x_30 : iAny a ρ s = anyK (a ρ s) := by unfold iAny; cases a ρ s with | ok x s1 => (show (match items x.d with | some ds => _ | none => _) = anyK2 x s1 (items x.d)); cases items x.d <;> rfl | exc c s1 => rfl | bad => rfl
@[simp] theorem x_31 : iRange l ρ s = rngK (l ρ s) := by
  unfold iRange
  cases l ρ s with
  | ok x s1 =>
    show _ = rngK2 s1 (x.map TV.d)
    simp only [Res.bind]
    generalize x.map TV.d = ds
    cases ds with
    | nil => rfl
    | cons d r =>
      cases r with
      | nil => cases d <;> rfl
      | cons d2 r2 =>
        cases r2 with
        | nil => cases d <;> first | rfl | (cases d2 <;> rfl)
        | cons d3 r3 => cases d <;> first | rfl | (cases d2 <;> rfl)
  | exc c s1 => rfl
  | bad => rfl
def rng3K : Res (List TV) → Res (List TV × List D)
  | .ok xs s => rngCK s (xs.map TV.d)
  | .exc c s => .exc c s
  | .bad => .bad
@[simp] theorem x_31c : iRange3 l ρ s = rng3K (l ρ s) := by
  unfold iRange3
  cases l ρ s <;> rfl
@[simp] theorem x_31d {xs : List TV} : rng3K (.ok xs s) = rngCK s (xs.map TV.d) := rfl
@[simp] theorem x_32 : iZip l ρ s = zipK (l ρ s) := by unfold iZip; cases l ρ s with | ok x s1 => (show _ = zipK2 x s1 (x.map TV.d)); (simp only [Res.bind]); unfold zipK2; (repeat' split) <;> simp_all | exc c s1 => rfl | bad => rfl
@[simp] theorem x_33 : gN i d ρ = some (ρ.set i (.sh d)) := rfl
@[simp] theorem x_34l {gs : Gs} {ds : List D} : gT gs (.lst ds) ρ = gs ds ρ := rfl
@[simp] theorem x_34w {gs : Gs} {ds : List D} : gT gs (.tpw ds) ρ = gs ds ρ := rfl
@[simp] theorem x_34 {gs : Gs} {ds : List D} : gT gs (.tup ds) ρ = gs ds ρ := rfl
@[simp] theorem x_35 : gsNil [] ρ = some ρ := rfl
@[simp] theorem x_36 {k : G} {gs : Gs} {r : List D} : gsCons k gs (d :: r) ρ = (k d ρ).bind (gs r) := rfl
@[simp] theorem x_37 {vs : List Nat} {it : IW} {k : G} : eComp vs it k t e ρ s = compK vs k t e ρ (it ρ s) := by unfold eComp; cases it ρ s with | ok z s1 => (show (if noOwn ρ vs = true ∧ z.2.length ≤ 16777216 then _ else _) = compKb k t e (wipeD ρ vs) z.2 s1 (noOwn ρ vs && decide (z.2.length ≤ 16777216))); (by_cases h : noOwn ρ vs = true ∧ z.2.length ≤ 16777216); (rw [if_pos h, h.1, decide_eq_true h.2]; (show (compL k t e (wipeD ρ vs) z.2 s1).bind _ = compK2 (compL k t e (wipeD ρ vs) z.2 s1)); cases compL k t e (wipeD ρ vs) z.2 s1 <;> rfl); (rw [if_neg h]; have h2 : (noOwn ρ vs && decide (z.2.length ≤ 16777216)) = false := (by cases q : (noOwn ρ vs && decide (z.2.length ≤ 16777216)) with | false => rfl | true => (rw [Bool.and_eq_true, decide_eq_true_eq] at q; exact absurd q h)); rw [h2]; rfl) | exc c s1 => rfl | bad => rfl
@[simp] theorem x_38 : wipeD ρ [] = ρ := rfl
@[simp] theorem x_39 {vs : List Nat} : wipeD ρ (i :: vs) = (wipeD ρ vs).set i .no := rfl
@[simp] theorem x_40 : sNil ρ s = .ok (.nx ρ) s := rfl
@[simp] theorem x_41 : sSeq f g ρ s = seqK g (f ρ s) := by unfold sSeq; cases f ρ s with | ok o s1 => (cases o <;> rfl) | exc c s1 => rfl | bad => rfl
@[simp] theorem x_42 : sIf t f g ρ s = sifK f g ρ (t ρ s) := by unfold sIf; cases t ρ s with | ok x s1 => (cases x <;> rfl) | exc c s1 => rfl | bad => rfl
@[simp] theorem x_43 : sRet a ρ s = retK (a ρ s) := by
  unfold sRet
  cases a ρ s with
  | ok x s1 =>
    cases x with
    | mk t d => cases t <;> rfl
  | exc c s1 => rfl
  | bad => rfl
@[simp] theorem x_44 : sRetN ρ s = .ok (.rt ⟨.cl, .non⟩) s := rfl
@[simp] theorem x_45 : sDrop a ρ s = dropK ρ (a ρ s) := by unfold sDrop; cases a ρ s <;> rfl
@[simp] theorem x_46 : putTV i ⟨.cl, d⟩ ρ s = .ok (.nx (ρ.set i (.sh d))) s := rfl
@[simp] theorem x_47 : putTV i ⟨.fr, d⟩ ρ s = .ok (.nx (ρ.set i (.ow d))) s := rfl
@[simp] theorem x_48 : sAsg i a ρ s = asgK i ρ (a ρ s) := by unfold sAsg; cases a ρ s <;> rfl
@[simp] theorem x_49 {k : G} : sAsgT k a ρ s = asgtK k ρ (a ρ s) := by unfold sAsgT; cases a ρ s with | ok x s1 => (cases x with | mk t d => cases t with | cl => ((show (match k d ρ with | some r => _ | none => _) = asgtK2 s1 (k d ρ)); cases k d ρ <;> rfl) | fr => ((show (match k d ρ with | some r => _ | none => _) = asgtK2 s1 (k d ρ)); cases k d ρ <;> rfl) | dy n => rfl) | exc c s1 => rfl | bad => rfl
@[simp] theorem x_50 : sPar i j l ρ s = parK i j ρ (l ρ s) := by unfold sPar; cases l ρ s with | ok x s1 => (show _ = parK2 i j ρ s1 (cleans x)); (simp only [Res.bind]); unfold parK2; (repeat' split) <;> simp_all | exc c s1 => rfl | bad => rfl
@[simp] theorem x_51 : sFrz i f ρ s = f (frzK i ρ ρ[i]?) s := by
  have : frz i ρ = frzK i ρ ρ[i]? := by
    unfold frz
    cases ρ[i]? with
    | none => rfl
    | some z =>
      cases z with
      | ow d => cases d <;> rfl
      | _ => rfl
  unfold sFrz
  rw [this]
@[simp] theorem x_52 {it : IW} {k : G} : sFor it k f ρ s = forK k f ρ (it ρ s) := by unfold sFor; cases it ρ s with | ok z s1 => (show (if allCl z.1 = true then _ else _) = forKb k f ρ z.2 s1 (allCl z.1)); cases allCl z.1 <;> rfl | exc c s1 => rfl | bad => rfl
@[simp] theorem x_53 : allCl [] = true := rfl
@[simp] theorem x_54 {r : List TV} : allCl (⟨.cl, d⟩ :: r) = allCl r := rfl
@[simp] theorem x_55 : sWhile i t f ρ s = whileL t f i ρ s := rfl
@[simp] theorem x_56 : sApp j e ρ s = appS j e ρ s ρ[j]? := by
  unfold sApp
  cases ρ[j]? with
  | none => rfl
  | some z =>
    cases z with
    | no => rfl
    | sh d =>
      cases d with
      | ref i =>
        show (match s[i]? with
          | some (.lst _) => _
          | _ => _) = appR0 i e ρ s s[i]?
        cases s[i]? with
        | none => rfl
        | some o =>
          cases o with
          | lst ds0 =>
            show (e ρ s).bind _ = appR i ρ (e ρ s)
            cases e ρ s with
            | ok x s1 =>
              show _ = appR1 i ρ s1 x.keep
              simp only [Res.bind]
              generalize x.keep = y
              cases y with
              | mk t d =>
                cases t with
                | cl =>
                  show (match s1[i]? with
                    | some (.lst ds) => _
                    | _ => _) = appR2 i d ρ s1 s1[i]?
                  cases s1[i]? with
                  | none => rfl
                  | some o => cases o <;> rfl
                | _ => rfl
            | exc c s1 => rfl
            | bad => rfl
          | _ => rfl
      | _ => rfl
    | ow d =>
      cases d with
      | lst ds =>
        show (e ρ s).bind _ = appK j ds ρ (e ρ s)
        cases e ρ s with
        | ok x s1 =>
          show _ = appK1 j ds ρ s1 x.keep
          simp only [Res.bind]
          generalize x.keep = y
          cases y with
          | mk t d => cases t <;> rfl
        | exc c s1 => rfl
        | bad => rfl
      | _ => rfl
@[simp] theorem x_57 : sExt j e ρ s = extS j e ρ s ρ[j]? := by
  unfold sExt
  cases ρ[j]? with
  | none => rfl
  | some z =>
    cases z with
    | no => rfl
    | sh d => rfl
    | ow d =>
      cases d with
      | lst ds =>
        show (e ρ s).bind _ = extK j ds ρ (e ρ s)
        cases e ρ s with
        | ok x s1 =>
          show _ = extK1 j ds ρ s1 x.keep
          simp only [Res.bind]
          generalize x.keep = y
          cases y with
          | mk t d =>
            cases t with
            | cl => cases d <;> rfl
            | _ => rfl
        | exc c s1 => rfl
        | bad => rfl
      | _ => rfl
@[simp] theorem x_58 {z : Str} : sRaise z ρ s = .exc z s := rfl
@[simp] theorem x_59 : sBad ρ s = .bad := rfl
@[simp] theorem x_60 : sMov i f ρ s = movK i (f ρ s) := by unfold sMov; cases f ρ s with | ok o s1 => (cases o with | nx r => ((show (match r[i]? with | some (.ow (.lst ds)) => _ | _ => _) = movK2 i r s1 r[i]?); unfold movK2; rfl) | rt tv => rfl) | exc c s1 => rfl | bad => rfl
@[simp] theorem x_61 {N : List Str} {ds : List D} : runFn N f ds s = runK (f (startD N ds) s) := by unfold runFn; cases f (startD N ds) s with | ok o s1 => (cases o <;> rfl) | exc c s1 => rfl | bad => rfl
@[simp] theorem x_62 {cs : List Str} {F : FnE} : sTry i cs f F ρ s = tryK i cs F ρ (f ρ s) := by unfold sTry; cases f ρ s with | ok o s1 => rfl | exc c s1 => ((show (if c ∈ cs ∧ i < ρ.length then _ else _) = if c ∈ cs ∧ i < ρ.length then tryK2 (F c s1) else .bad); split; (cases F c s1 <;> rfl); rfl) | bad => rfl
@[simp] theorem kk_1 {s : Sto} {tv : TV} : optK s (some tv) = .ok tv s := rfl
@[simp] theorem kk_2 {s : Sto}  : optK s (none) = .bad := rfl
@[simp] theorem kk_3 {i : Nat} {s : Sto} {d : D} : varK i s (some (.sh d)) = .ok ⟨.cl, d⟩ s := rfl
@[simp] theorem kk_4 {i : Nat} {s : Sto} {d : D} : varK i s (some (.ow d)) = .ok ⟨.dy i, d⟩ s := rfl
@[simp] theorem kk_5 {x : TV} {s : Sto} {xs : List TV} : consK2 x (.ok xs s) = .ok (x :: xs) s := rfl
@[simp] theorem kk_6 {x : TV} {c : Str} {s : Sto} : consK2 x (.exc c s) = .exc c s := rfl
@[simp] theorem kk_7 {x : TV}  : consK2 x (.bad) = .bad := rfl
@[simp] theorem kk_8 {l : EL} {ρ : DSt} {s : Sto} {x : TV} : consK1 l ρ (.ok x s) = consK2 x.keep (l ρ s) := rfl
@[simp] theorem kk_9 {l : EL} {ρ : DSt} {c : Str} {s : Sto} : consK1 l ρ (.exc c s) = .exc c s := rfl
@[simp] theorem kk_10 {l : EL} {ρ : DSt}  : consK1 l ρ (.bad) = .bad := rfl
@[simp] theorem kk_11 {s : Sto} {ds : List D} : tupK2 s (some ds) = if ds.length ≤ 16777216 then .ok ⟨.cl, .tup ds⟩ s else .bad := rfl
@[simp] theorem kk_12 {s : Sto}  : tupK2 s (none) = .bad := rfl
@[simp] theorem kk_13  {s : Sto} {xs : List TV} : tupK  (.ok xs s) = tupK2 s (cleans xs) := rfl
@[simp] theorem kk_14  {c : Str} {s : Sto} : tupK  (.exc c s) = .exc c s := rfl
@[simp] theorem kk_15   : tupK  (.bad) = .bad := rfl
@[simp] theorem kk_16 {s : Sto} {ds : List D} : lstK2 s (some ds) = if ds.length ≤ 16777216 then .ok ⟨.fr, .lst ds⟩ s else .bad := rfl
@[simp] theorem kk_17 {s : Sto}  : lstK2 s (none) = .bad := rfl
@[simp] theorem kk_18  {s : Sto} {xs : List TV} : lstK  (.ok xs s) = lstK2 s (cleans xs) := rfl
@[simp] theorem kk_19  {c : Str} {s : Sto} : lstK  (.exc c s) = .exc c s := rfl
@[simp] theorem kk_20   : lstK  (.bad) = .bad := rfl
@[simp] theorem kk_21 {s : Sto} {b : Bool} : ofK2 s (.bl b) = .ok b s := rfl
@[simp] theorem kk_22  {s : Sto} {x : TV} : ofK  (.ok x s) = ofK2 s x.d := rfl
@[simp] theorem kk_23  {c : Str} {s : Sto} : ofK  (.exc c s) = .exc c s := rfl
@[simp] theorem kk_24   : ofK  (.bad) = .bad := rfl
@[simp] theorem kk_25 {u : T} {ρ : DSt} {s : Sto} : tandK u ρ (.ok true s) = u ρ s := rfl
@[simp] theorem kk_26 {u : T} {ρ : DSt} {s : Sto} : tandK u ρ (.ok false s) = .ok false s := rfl
@[simp] theorem kk_27 {u : T} {ρ : DSt} {c : Str} {s : Sto} : tandK u ρ (.exc c s) = .exc c s := rfl
@[simp] theorem kk_28 {u : T} {ρ : DSt}  : tandK u ρ (.bad) = .bad := rfl
@[simp] theorem kk_29 {u : T} {ρ : DSt} {s : Sto} : torK u ρ (.ok true s) = .ok true s := rfl
@[simp] theorem kk_30 {u : T} {ρ : DSt} {s : Sto} : torK u ρ (.ok false s) = u ρ s := rfl
@[simp] theorem kk_31 {u : T} {ρ : DSt} {c : Str} {s : Sto} : torK u ρ (.exc c s) = .exc c s := rfl
@[simp] theorem kk_32 {u : T} {ρ : DSt}  : torK u ρ (.bad) = .bad := rfl
@[simp] theorem kk_33  {b : Bool} {s : Sto} : tnotK  (.ok b s) = .ok (!b) s := rfl
@[simp] theorem kk_34  {c : Str} {s : Sto} : tnotK  (.exc c s) = .exc c s := rfl
@[simp] theorem kk_35   : tnotK  (.bad) = .bad := rfl
@[simp] theorem kk_36 {b : E} {ρ : DSt} {s : Sto}  : andK2 b ρ s (.bl true) = b ρ s := rfl
@[simp] theorem kk_37 {b : E} {ρ : DSt} {s : Sto}  : andK2 b ρ s (.bl false) = .ok ⟨.cl, .bl false⟩ s := rfl
@[simp] theorem kk_38 {b : E} {ρ : DSt} {s : Sto} {x : TV} : andK b ρ (.ok x s) = andK2 b ρ s x.d := rfl
@[simp] theorem kk_39 {b : E} {ρ : DSt} {c : Str} {s : Sto} : andK b ρ (.exc c s) = .exc c s := rfl
@[simp] theorem kk_40 {b : E} {ρ : DSt}  : andK b ρ (.bad) = .bad := rfl
@[simp] theorem kk_41 {b : E} {ρ : DSt} {s : Sto}  : orK2 b ρ s (.bl true) = .ok ⟨.cl, .bl true⟩ s := rfl
@[simp] theorem kk_42 {b : E} {ρ : DSt} {s : Sto}  : orK2 b ρ s (.bl false) = b ρ s := rfl
@[simp] theorem kk_43 {b : E} {ρ : DSt} {s : Sto} {x : TV} : orK b ρ (.ok x s) = orK2 b ρ s x.d := rfl
@[simp] theorem kk_44 {b : E} {ρ : DSt} {c : Str} {s : Sto} : orK b ρ (.exc c s) = .exc c s := rfl
@[simp] theorem kk_45 {b : E} {ρ : DSt}  : orK b ρ (.bad) = .bad := rfl
@[simp] theorem kk_46 {s : Sto} {b : Bool} : notK2 s (.bl b) = .ok ⟨.cl, .bl (!b)⟩ s := rfl
@[simp] theorem kk_47  {s : Sto} {x : TV} : notK  (.ok x s) = notK2 s x.d := rfl
@[simp] theorem kk_48  {c : Str} {s : Sto} : notK  (.exc c s) = .exc c s := rfl
@[simp] theorem kk_49   : notK  (.bad) = .bad := rfl
@[simp] theorem kk_50 {a b : E} {ρ : DSt} {s : Sto} : ifeK a b ρ (.ok true s) = a ρ s := rfl
@[simp] theorem kk_51 {a b : E} {ρ : DSt} {s : Sto} : ifeK a b ρ (.ok false s) = b ρ s := rfl
@[simp] theorem kk_52 {a b : E} {ρ : DSt} {c : Str} {s : Sto} : ifeK a b ρ (.exc c s) = .exc c s := rfl
@[simp] theorem kk_53 {a b : E} {ρ : DSt}  : ifeK a b ρ (.bad) = .bad := rfl
@[simp] theorem kk_54 {op : D → D → Option TV} {d : D} {s : Sto} {y : TV} : opK2 op d (.ok y s) = optK s (op d y.d) := rfl
@[simp] theorem kk_55 {op : D → D → Option TV} {d : D} {c : Str} {s : Sto} : opK2 op d (.exc c s) = .exc c s := rfl
@[simp] theorem kk_56 {op : D → D → Option TV} {d : D}  : opK2 op d (.bad) = .bad := rfl
@[simp] theorem kk_57 {op : D → D → Option TV} {b : E} {ρ : DSt} {s : Sto} {x : TV} : opK op b ρ (.ok x s) = opK2 op x.d (b ρ s) := rfl
@[simp] theorem kk_58 {op : D → D → Option TV} {b : E} {ρ : DSt} {c : Str} {s : Sto} : opK op b ρ (.exc c s) = .exc c s := rfl
@[simp] theorem kk_59 {op : D → D → Option TV} {b : E} {ρ : DSt}  : opK op b ρ (.bad) = .bad := rfl
@[simp] theorem kk_60 {s : Sto} {i : Int} : osK2 s (.int i) = .ok (some i) s := rfl
@[simp] theorem kk_61  {s : Sto} {x : TV} : osK  (.ok x s) = osK2 s x.d := rfl
@[simp] theorem kk_62  {c : Str} {s : Sto} : osK  (.exc c s) = .exc c s := rfl
@[simp] theorem kk_63   : osK  (.bad) = .bad := rfl
@[simp] theorem kk_64 {d : D} {lo : Option Int} {hi : Option Int} {s : Sto} : slK3 d lo (.ok hi s) = optK s (opSl d lo hi) := rfl
@[simp] theorem kk_65 {d : D} {lo : Option Int} {c : Str} {s : Sto} : slK3 d lo (.exc c s) = .exc c s := rfl
@[simp] theorem kk_66 {d : D} {lo : Option Int}  : slK3 d lo (.bad) = .bad := rfl
@[simp] theorem kk_67 {d : D} {hi : O} {ρ : DSt} {lo : Option Int} {s : Sto} : slK2 d hi ρ (.ok lo s) = slK3 d lo (hi ρ s) := rfl
@[simp] theorem kk_68 {d : D} {hi : O} {ρ : DSt} {c : Str} {s : Sto} : slK2 d hi ρ (.exc c s) = .exc c s := rfl
@[simp] theorem kk_69 {d : D} {hi : O} {ρ : DSt}  : slK2 d hi ρ (.bad) = .bad := rfl
@[simp] theorem kk_70 {lo hi : O} {ρ : DSt} {s : Sto} {x : TV} : slK lo hi ρ (.ok x s) = slK2 x.d hi ρ (lo ρ s) := rfl
@[simp] theorem kk_71 {lo hi : O} {ρ : DSt} {c : Str} {s : Sto} : slK lo hi ρ (.exc c s) = .exc c s := rfl
@[simp] theorem kk_72 {lo hi : O} {ρ : DSt}  : slK lo hi ρ (.bad) = .bad := rfl
@[simp] theorem kk_73 {op : List D → Option TV} {s : Sto} {xs : List TV} : bK op (.ok xs s) = optK s (op (xs.map TV.d)) := rfl
@[simp] theorem kk_74 {op : List D → Option TV} {c : Str} {s : Sto} : bK op (.exc c s) = .exc c s := rfl
@[simp] theorem kk_75 {op : List D → Option TV}  : bK op (.bad) = .bad := rfl
@[simp] theorem kk_76 {s : Sto} {ds : List D} : lenK3 s (some (.lst ds)) = .ok ⟨.cl, .int ds.length⟩ s := rfl
@[simp] theorem kk_77 {s : Sto} {i : Nat} : lenK2 s ([.ref i]) = lenK3 s s[i]? := rfl
@[simp] theorem kk_78  {s : Sto} {xs : List TV} : lenK  (.ok xs s) = lenK2 s (xs.map TV.d) := rfl
@[simp] theorem kk_79  {c : Str} {s : Sto} : lenK  (.exc c s) = .exc c s := rfl
@[simp] theorem kk_80   : lenK  (.bad) = .bad := rfl
@[simp] theorem kk_81 {F : Fn} {s : Sto} {ds : List D} : callK2 F s (some ds) = F ds s := rfl
@[simp] theorem kk_82 {F : Fn} {s : Sto}  : callK2 F s (none) = .bad := rfl
@[simp] theorem kk_83 {F : Fn} {s : Sto} {xs : List TV} : callK F (.ok xs s) = callK2 F s (cleans xs) := rfl
@[simp] theorem kk_84 {F : Fn} {c : Str} {s : Sto} : callK F (.exc c s) = .exc c s := rfl
@[simp] theorem kk_85 {F : Fn}  : callK F (.bad) = .bad := rfl
@[simp] theorem kk_86 {n : Nat} {F : Fn} {s : Sto} {xs : List TV} : cxK3 n F (.ok xs s) = if xs.length = n then callK2 F s (cleans xs) else .bad := rfl
@[simp] theorem kk_87 {n : Nat} {F : Fn} {c : Str} {s : Sto} : cxK3 n F (.exc c s) = .exc c s := rfl
@[simp] theorem kk_88 {n : Nat} {F : Fn}  : cxK3 n F (.bad) = .bad := rfl
@[simp] theorem kk_89 {l : EL} {ρ : DSt} {s : Sto} {n : Nat} : cxK2 l ρ s (some (n, F)) = cxK3 n F (l ρ s) := rfl
@[simp] theorem kk_90 {l : EL} {ρ : DSt} {s : Sto}  : cxK2 l ρ s (none) = .bad := rfl
@[simp] theorem kk_91 {t : Tbl} {l : EL} {ρ : DSt} {s : Sto} {y : Str} : cxK1 t l ρ s (.fn y) = cxK2 l ρ s (t.lookup y) := rfl
@[simp] theorem kk_92 {t : Tbl} {l : EL} {ρ : DSt} {s : Sto} {x : TV} : cxK t l ρ (.ok x s) = cxK1 t l ρ s x.d := rfl
@[simp] theorem kk_93 {t : Tbl} {l : EL} {ρ : DSt} {c : Str} {s : Sto} : cxK t l ρ (.exc c s) = .exc c s := rfl
@[simp] theorem kk_94 {t : Tbl} {l : EL} {ρ : DSt}  : cxK t l ρ (.bad) = .bad := rfl
@[simp] theorem kk_95  {s : Sto} {x : TV} : negK  (.ok x s) = optK s (opNeg x.d) := rfl
@[simp] theorem kk_96  {c : Str} {s : Sto} : negK  (.exc c s) = .exc c s := rfl
@[simp] theorem kk_97   : negK  (.bad) = .bad := rfl
@[simp] theorem kk_98 {q : Int → Int → Bool} {j : Int} {s : Sto} {k : Int} : chK4 q j s (.int k) = .ok ⟨.cl, .bl (q j k)⟩ s := rfl
@[simp] theorem kk_99 {q : Int → Int → Bool} {j : Int} {s : Sto} {z : TV} : chK3 q j (.ok z s) = chK4 q j s z.d := rfl
@[simp] theorem kk_100 {q : Int → Int → Bool} {j : Int} {c : Str} {s : Sto} : chK3 q j (.exc c s) = .exc c s := rfl
@[simp] theorem kk_101 {q : Int → Int → Bool} {j : Int}  : chK3 q j (.bad) = .bad := rfl
@[simp] theorem kk_102 {q : Int → Int → Bool} {j : Int} {c : E} {ρ : DSt} {s : Sto}  : chKb q j c ρ s (true) = chK3 q j (c ρ s) := rfl
@[simp] theorem kk_103 {q : Int → Int → Bool} {j : Int} {c : E} {ρ : DSt} {s : Sto}  : chKb q j c ρ s (false) = .ok ⟨.cl, .bl false⟩ s := rfl
@[simp] theorem kk_104 {p q : Int → Int → Bool} {c : E} {ρ : DSt} {s : Sto} {i : Int} {j : Int} : chKd p q c ρ s (.int i) (.int j) = chKb q j c ρ s (p i j) := rfl
@[simp] theorem kk_105 {p q : Int → Int → Bool} {d : D} {c : E} {ρ : DSt} {s : Sto} {y : TV} : chK2 p q d c ρ (.ok y s) = chKd p q c ρ s d y.d := rfl
@[simp] theorem kk_106 {p q : Int → Int → Bool} {d : D} {c : E} {ρ : DSt} {s : Sto} {c' : Str} : chK2 p q d c ρ (.exc c' s) = .exc c' s := rfl
@[simp] theorem kk_107 {p q : Int → Int → Bool} {d : D} {c : E} {ρ : DSt}  : chK2 p q d c ρ (.bad) = .bad := rfl
@[simp] theorem kk_108 {p q : Int → Int → Bool} {b c : E} {ρ : DSt} {s : Sto} {x : TV} : chK p q b c ρ (.ok x s) = chK2 p q x.d c ρ (b ρ s) := rfl
@[simp] theorem kk_109 {p q : Int → Int → Bool} {b c : E} {ρ : DSt} {s : Sto} {c' : Str} : chK p q b c ρ (.exc c' s) = .exc c' s := rfl
@[simp] theorem kk_110 {p q : Int → Int → Bool} {b c : E} {ρ : DSt}  : chK p q b c ρ (.bad) = .bad := rfl
@[simp] theorem kk_111 {op : D → List D → Option TV} {d : D} {s : Sto} {xs : List TV} : mK3 op d (.ok xs s) = optK s (op d (xs.map TV.d)) := rfl
@[simp] theorem kk_112 {op : D → List D → Option TV} {d : D} {c : Str} {s : Sto} : mK3 op d (.exc c s) = .exc c s := rfl
@[simp] theorem kk_113 {op : D → List D → Option TV} {d : D}  : mK3 op d (.bad) = .bad := rfl
@[simp] theorem kk_114 {op : D → List D → Option TV} {d : D} {l : EL} {ρ : DSt} {s : Sto}  : mK2 op d l ρ s (true) = mK3 op d (l ρ s) := rfl
@[simp] theorem kk_115 {op : D → List D → Option TV} {d : D} {l : EL} {ρ : DSt} {s : Sto}  : mK2 op d l ρ s (false) = .bad := rfl
@[simp] theorem kk_116 {ok : D → Bool} {op : D → List D → Option TV} {l : EL} {ρ : DSt} {s : Sto} {x : TV} : mK ok op l ρ (.ok x s) = mK2 op x.d l ρ s (ok x.d) := rfl
@[simp] theorem kk_117 {ok : D → Bool} {op : D → List D → Option TV} {l : EL} {ρ : DSt} {c : Str} {s : Sto} : mK ok op l ρ (.exc c s) = .exc c s := rfl
@[simp] theorem kk_118 {ok : D → Bool} {op : D → List D → Option TV} {l : EL} {ρ : DSt}  : mK ok op l ρ (.bad) = .bad := rfl
@[simp] theorem kk_119 {s : Sto} {b : Bool} : isiK3 s (some b) = .ok ⟨.cl, .bl b⟩ s := rfl
@[simp] theorem kk_120 {s : Sto}  : isiK3 s (none) = .bad := rfl
@[simp] theorem kk_121 {T : String} {s : Sto} {t : String} : isiK2 T s (some t) = isiK3 s (kitB t T) := rfl
@[simp] theorem kk_122 {T : String} {s : Sto}  : isiK2 T s (none) = .bad := rfl
@[simp] theorem kk_123 {T : String} {s : Sto} {x : TV} : isiK T (.ok x s) = isiK2 T s (tyD x.d) := rfl
@[simp] theorem kk_124 {T : String} {c : Str} {s : Sto} : isiK T (.exc c s) = .exc c s := rfl
@[simp] theorem kk_125 {T : String}  : isiK T (.bad) = .bad := rfl
@[simp] theorem kk_126 {x : TV} {s : Sto} {ds : List D} : anyK2 x s (some ds) = .ok ([x.keep], ds) s := rfl
@[simp] theorem kk_127 {x : TV} {s : Sto}  : anyK2 x s (none) = .bad := rfl
@[simp] theorem kk_128  {s : Sto} {x : TV} : anyK  (.ok x s) = anyK2 x s (items x.d) := rfl
@[simp] theorem kk_129  {c : Str} {s : Sto} : anyK  (.exc c s) = .exc c s := rfl
@[simp] theorem kk_130   : anyK  (.bad) = .bad := rfl
theorem kk_131 {s : Sto} {j : Int} : rngK2 s ([.int j]) = if -(2 ^ 62) ≤ j ∧ j < 2 ^ 62 then .ok ([], rangeD 0 j) s else .bad := rfl
theorem kk_132 {s : Sto} {i : Int} {j : Int} : rngK2 s ([.int i, .int j]) = if -(2 ^ 62) ≤ i ∧ i < 2 ^ 62 ∧ -(2 ^ 62) ≤ j ∧ j < 2 ^ 62 then .ok ([], rangeD i j) s else .bad := rfl
@[simp] theorem kk_133  {s : Sto} {xs : List TV} : rngK  (.ok xs s) = rngK2 s (xs.map TV.d) := rfl
@[simp] theorem kk_134  {c : Str} {s : Sto} : rngK  (.exc c s) = .exc c s := rfl
@[simp] theorem kk_135   : rngK  (.bad) = .bad := rfl
@[simp] theorem kk_136 {tvs : List TV} {s : Sto} {xs : List D} {ys : List D} : zipK2 tvs s ([.lst xs, .lst ys]) = .ok (tvs, zipD xs ys) s := rfl
@[simp] theorem kk_137 {tvs : List TV} {s : Sto} {xs : List D} {ys : List D} : zipK2 tvs s ([.tup xs, .tup ys]) = .ok (tvs, zipD xs ys) s := rfl
@[simp] theorem kk_138  {s : Sto} {xs : List TV} : zipK  (.ok xs s) = zipK2 xs s (xs.map TV.d) := rfl
@[simp] theorem kk_139  {c : Str} {s : Sto} : zipK  (.exc c s) = .exc c s := rfl
@[simp] theorem kk_140   : zipK  (.bad) = .bad := rfl
@[simp] theorem kk_141  {r : List D} {s : Sto} : compK2  (.ok r s) = .ok ⟨.fr, .lst r⟩ s := rfl
@[simp] theorem kk_142  {c : Str} {s : Sto} : compK2  (.exc c s) = .exc c s := rfl
@[simp] theorem kk_143   : compK2  (.bad) = .bad := rfl
@[simp] theorem kk_144 {g : G} {t : T} {e : E} {ρ : DSt} {ds : List D} {s : Sto}  : compKb g t e ρ ds s (true) = compK2 (compL g t e ρ ds s) := rfl
@[simp] theorem kk_145 {g : G} {t : T} {e : E} {ρ : DSt} {ds : List D} {s : Sto}  : compKb g t e ρ ds s (false) = .bad := rfl
@[simp] theorem kk_146 {vs : List Nat} {g : G} {t : T} {e : E} {ρ : DSt} {s : Sto} {z : List TV × List D} : compK vs g t e ρ (.ok z s) = compKb g t e (wipeD ρ vs) z.2 s (noOwn ρ vs && decide (z.2.length ≤ 16777216)) := rfl
@[simp] theorem kk_147 {vs : List Nat} {g : G} {t : T} {e : E} {ρ : DSt} {c : Str} {s : Sto} : compK vs g t e ρ (.exc c s) = .exc c s := rfl
@[simp] theorem kk_148 {vs : List Nat} {g : G} {t : T} {e : E} {ρ : DSt}  : compK vs g t e ρ (.bad) = .bad := rfl
@[simp] theorem kk_149 {g : S} {s : Sto} {ρ : DSt} : seqK g (.ok (.nx ρ) s) = g ρ s := rfl
@[simp] theorem kk_150 {g : S} {s : Sto} {tv : TV} : seqK g (.ok (.rt tv) s) = .ok (.rt tv) s := rfl
@[simp] theorem kk_151 {g : S} {c : Str} {s : Sto} : seqK g (.exc c s) = .exc c s := rfl
@[simp] theorem kk_152 {g : S}  : seqK g (.bad) = .bad := rfl
@[simp] theorem kk_153 {f g : S} {ρ : DSt} {s : Sto} : sifK f g ρ (.ok true s) = f ρ s := rfl
@[simp] theorem kk_154 {f g : S} {ρ : DSt} {s : Sto} : sifK f g ρ (.ok false s) = g ρ s := rfl
@[simp] theorem kk_155 {f g : S} {ρ : DSt} {c : Str} {s : Sto} : sifK f g ρ (.exc c s) = .exc c s := rfl
@[simp] theorem kk_156 {f g : S} {ρ : DSt}  : sifK f g ρ (.bad) = .bad := rfl
@[simp] theorem kk_157  {d : D} {s : Sto} {i : Nat} : retK  (.ok ⟨.dy i, d⟩ s) = .ok (.rt ⟨.fr, d⟩) s := rfl
@[simp] theorem kk_158  {d : D} {s : Sto} : retK  (.ok ⟨.cl, d⟩ s) = .ok (.rt ⟨.cl, d⟩) s := rfl
@[simp] theorem kk_159  {d : D} {s : Sto} : retK  (.ok ⟨.fr, d⟩ s) = .ok (.rt ⟨.fr, d⟩) s := rfl
@[simp] theorem kk_160  {c : Str} {s : Sto} : retK  (.exc c s) = .exc c s := rfl
@[simp] theorem kk_161   : retK  (.bad) = .bad := rfl
@[simp] theorem kk_162 {ρ : DSt} {c : Str} {s : Sto} : dropK ρ (.exc c s) = .exc c s := rfl
@[simp] theorem kk_163 {ρ : DSt}  : dropK ρ (.bad) = .bad := rfl
@[simp] theorem kk_164 {i : Nat} {ρ : DSt} {s : Sto} {x : TV} : asgK i ρ (.ok x s) = putTV i x ρ s := rfl
@[simp] theorem kk_165 {i : Nat} {ρ : DSt} {c : Str} {s : Sto} : asgK i ρ (.exc c s) = .exc c s := rfl
@[simp] theorem kk_166 {i : Nat} {ρ : DSt}  : asgK i ρ (.bad) = .bad := rfl
@[simp] theorem kk_167 {s : Sto} {ρ : DSt} : asgtK2 s (some ρ) = .ok (.nx ρ) s := rfl
@[simp] theorem kk_168 {s : Sto}  : asgtK2 s (none) = .bad := rfl
@[simp] theorem kk_169 {g : G} {ρ : DSt} {s : Sto} {d : D} : asgtK1 g ρ s (⟨.cl, d⟩) = asgtK2 s (g d ρ) := rfl
@[simp] theorem kk_170 {g : G} {ρ : DSt} {s : Sto} {x : TV} : asgtK g ρ (.ok x s) = asgtK1 g ρ s x.keep := rfl
@[simp] theorem kk_171 {g : G} {ρ : DSt} {c : Str} {s : Sto} : asgtK g ρ (.exc c s) = .exc c s := rfl
@[simp] theorem kk_172 {g : G} {ρ : DSt}  : asgtK g ρ (.bad) = .bad := rfl
@[simp] theorem kk_173 {i j : Nat} {ρ : DSt} {s : Sto} {a : D} {b : D} : parK2 i j ρ s (some [a, b]) = .ok (.nx ((ρ.set i (.sh a)).set j (.sh b))) s := rfl
@[simp] theorem kk_174 {i j : Nat} {ρ : DSt} {s : Sto} {xs : List TV} : parK i j ρ (.ok xs s) = parK2 i j ρ s (cleans xs) := rfl
@[simp] theorem kk_175 {i j : Nat} {ρ : DSt} {c : Str} {s : Sto} : parK i j ρ (.exc c s) = .exc c s := rfl
@[simp] theorem kk_176 {i j : Nat} {ρ : DSt}  : parK i j ρ (.bad) = .bad := rfl
@[simp] theorem kk_177 {i : Nat} {ρ : DSt} {d : D} : frzK i ρ (some (.ow d)) = ρ.set i (.sh (lockD d)) := rfl
@[simp] theorem lk_lst {ds : List D} : lockD (.lst ds) = .lst ds := rfl
@[simp] theorem lk_dct {ks vs : List D} : lockD (.dct ks vs) = .fdc ks vs := rfl
@[simp] theorem lk_dnt {ks vs : List D} : lockD (.dnt ks vs) = .fdn ks vs := rfl
@[simp] theorem fz_sh {i : Nat} {ρ : DSt} {d : D} : frzK i ρ (some (.sh d)) = ρ := rfl
@[simp] theorem fz_no {i : Nat} {ρ : DSt} : frzK i ρ (some .no) = ρ := rfl
@[simp] theorem kk_178 {g : G} {f : S} {ρ : DSt} {ds : List D} {s : Sto}  : forKb g f ρ ds s (true) = forL g f ds ρ s := rfl
@[simp] theorem kk_179 {g : G} {f : S} {ρ : DSt} {ds : List D} {s : Sto}  : forKb g f ρ ds s (false) = .bad := rfl
@[simp] theorem kk_180 {g : G} {f : S} {ρ : DSt} {s : Sto} {z : List TV × List D} : forK g f ρ (.ok z s) = forKb g f ρ z.2 s (allCl z.1) := rfl
@[simp] theorem kk_181 {g : G} {f : S} {ρ : DSt} {c : Str} {s : Sto} : forK g f ρ (.exc c s) = .exc c s := rfl
@[simp] theorem kk_182 {g : G} {f : S} {ρ : DSt}  : forK g f ρ (.bad) = .bad := rfl
@[simp] theorem kk_183 {j : Nat} {ds : List D} {ρ : DSt} {s : Sto} {d : D} : appK1 j ds ρ s (⟨.cl, d⟩) = if ds.length < 16777216 then .ok (.nx (ρ.set j (.ow (.lst (ds ++ [d]))))) s else .bad := rfl
@[simp] theorem kk_184 {j : Nat} {ds : List D} {ρ : DSt} {s : Sto} {x : TV} : appK j ds ρ (.ok x s) = appK1 j ds ρ s x.keep := rfl
@[simp] theorem kk_185 {j : Nat} {ds : List D} {ρ : DSt} {c : Str} {s : Sto} : appK j ds ρ (.exc c s) = .exc c s := rfl
@[simp] theorem kk_186 {j : Nat} {ds : List D} {ρ : DSt}  : appK j ds ρ (.bad) = .bad := rfl
@[simp] theorem kk_187 {i : Nat} {d : D} {ρ : DSt} {s : Sto} {ds : List D} : appR2 i d ρ s (some (.lst ds)) = if ds.length < 16777216 then .ok (.nx ρ) (s.set i (.lst (ds ++ [d]))) else .bad := rfl
@[simp] theorem kk_188 {i : Nat} {ρ : DSt} {s : Sto} {d : D} : appR1 i ρ s (⟨.cl, d⟩) = appR2 i d ρ s s[i]? := rfl
@[simp] theorem kk_189 {i : Nat} {ρ : DSt} {s : Sto} {x : TV} : appR i ρ (.ok x s) = appR1 i ρ s x.keep := rfl
@[simp] theorem kk_190 {i : Nat} {ρ : DSt} {c : Str} {s : Sto} : appR i ρ (.exc c s) = .exc c s := rfl
@[simp] theorem kk_191 {i : Nat} {ρ : DSt}  : appR i ρ (.bad) = .bad := rfl
@[simp] theorem kk_192 {i : Nat} {e : E} {ρ : DSt} {s : Sto}  {ds : List D} : appR0 i e ρ s (some (.lst ds)) = appR i ρ (e ρ s) := rfl
@[simp] theorem kk_193 {j : Nat} {e : E} {ρ : DSt} {s : Sto} {ds : List D} : appS j e ρ s (some (.ow (.lst ds))) = appK j ds ρ (e ρ s) := rfl
@[simp] theorem kk_194 {j : Nat} {e : E} {ρ : DSt} {s : Sto} {i : Nat} : appS j e ρ s (some (.sh (.ref i))) = appR0 i e ρ s s[i]? := rfl
@[simp] theorem kk_195 {j : Nat} {ds : List D} {ρ : DSt} {s : Sto} {es : List D} : extK1 j ds ρ s (⟨.cl, .lst es⟩) = if ds.length + es.length ≤ 16777216 then .ok (.nx (ρ.set j (.ow (.lst (ds ++ es))))) s else .bad := rfl
@[simp] theorem kk_196 {j : Nat} {ds : List D} {ρ : DSt} {s : Sto} {x : TV} : extK j ds ρ (.ok x s) = extK1 j ds ρ s x.keep := rfl
@[simp] theorem kk_197 {j : Nat} {ds : List D} {ρ : DSt} {c : Str} {s : Sto} : extK j ds ρ (.exc c s) = .exc c s := rfl
@[simp] theorem kk_198 {j : Nat} {ds : List D} {ρ : DSt}  : extK j ds ρ (.bad) = .bad := rfl
@[simp] theorem kk_199 {j : Nat} {e : E} {ρ : DSt} {s : Sto} {ds : List D} : extS j e ρ s (some (.ow (.lst ds))) = extK j ds ρ (e ρ s) := rfl
@[simp] theorem kk_200 {i : Nat} {ρ : DSt} {s : Sto} {ds : List D} : movK2 i ρ s (some (.ow (.lst ds))) = .ok (.nx (ρ.set i (.sh (.ref s.length)))) (s ++ [.lst ds]) := rfl
@[simp] theorem kk_201 {i : Nat} {s : Sto} {ρ : DSt} : movK i (.ok (.nx ρ) s) = movK2 i ρ s ρ[i]? := rfl
@[simp] theorem kk_202 {i : Nat} {s : Sto} {tv : TV} : movK i (.ok (.rt tv) s) = .ok (.rt tv) s := rfl
@[simp] theorem kk_203 {i : Nat} {c : Str} {s : Sto} : movK i (.exc c s) = .exc c s := rfl
@[simp] theorem kk_204 {i : Nat}  : movK i (.bad) = .bad := rfl
@[simp] theorem kk_205  {s : Sto} {ρ : DSt} : runK  (.ok (.nx ρ) s) = .ok ⟨.cl, .non⟩ s := rfl
@[simp] theorem kk_206  {s : Sto} {tv : TV} : runK  (.ok (.rt tv) s) = .ok tv s := rfl
@[simp] theorem kk_207  {c : Str} {s : Sto} : runK  (.exc c s) = .exc c s := rfl
@[simp] theorem kk_208   : runK  (.bad) = .bad := rfl
@[simp] theorem kk_209  {s : Sto} {tv : TV} : tryK2  (.ok tv s) = .ok (.rt tv) s := rfl
@[simp] theorem kk_210 {i : Nat} {cs : List Str} {F : FnE} {ρ : DSt} {c : Str} {s : Sto} : tryK i cs F ρ (.exc c s) = if c ∈ cs ∧ i < ρ.length then tryK2 (F c s) else .bad := rfl
@[simp] theorem kk_211 {i : Nat} {cs : List Str} {F : FnE} {ρ : DSt} {o : Out} {s : Sto} : tryK i cs F ρ (.ok o s) = .ok o s := rfl
@[simp] theorem kk_212 {i : Nat} {cs : List Str} {F : FnE} {ρ : DSt}  : tryK i cs F ρ (.bad) = .bad := rfl
@[simp] theorem dr_ok : dropK ρ (.ok x s) = .ok (.nx ρ) s := rfl
@[simp] theorem x_isp {pa : Addr} {q : Bool} : eIsP i pa q ρ s = ispK pa q s ρ[i]? := by
  unfold eIsP
  cases ρ[i]? with
  | none => rfl
  | some z =>
    cases z with
    | sh d => cases d <;> rfl
    | _ => rfl
@[simp] theorem isp_k {pa : Addr} {q : Bool} : ispK pa q s (some (.sh (.exc pa))) = .ok ⟨.cl, .bl q⟩ s := if_pos rfl
@[simp] theorem x_sset : eSSet a ρ s = ssetK (a ρ s) := by
  unfold eSSet
  cases a ρ s with
  | ok x s1 =>
    show (match ssetOp x.d with
      | some tv => _
      | none => _) = optK s1 (ssetOp x.d)
    cases ssetOp x.d <;> rfl
  | exc c s1 => rfl
  | bad => rfl
@[simp] theorem ss_ok : ssetK (.ok x s) = optK s (ssetOp x.d) := rfl
@[simp] theorem ss_exc {z : Str} : ssetK (.exc z s) = .exc z s := rfl
@[simp] theorem ss_nil : ssetOp (.lst []) = some ⟨.fr, .lst []⟩ := by
  show ssetL [] = _
  unfold ssetL
  rw [if_pos ⟨by decide, .inl rfl⟩]
  simp [dedD, ddup, sortD]
theorem ss_lst {ds : List D} (hl : ds.length < 64) (hk : ds.all isKey = true) (hs : sortable ds = true) : ssetOp (.lst ds) = some ⟨.fr, .lst (sortD (dedD ds))⟩ := if_pos ⟨hl, .inr ⟨hk, hs⟩⟩
theorem ss_tup {ds : List D} (hl : ds.length < 64) (hk : ds.all isKey = true) (hs : sortable ds = true) : ssetOp (.tup ds) = some ⟨.fr, .lst (sortD (dedD ds))⟩ := if_pos ⟨hl, .inr ⟨hk, hs⟩⟩
theorem ss_ints {ns : List Int} (hl : ns.length < 64) : ssetOp (.lst (ns.map .int)) = some ⟨.fr, .lst (sortD (dedD (ns.map .int)))⟩ := if_pos ⟨by rw [List.length_map]; exact hl, .inl (by rw [allInt_map]; rfl)⟩
theorem ss_intsT {ns : List Int} (hl : ns.length < 64) : ssetOp (.tup (ns.map .int)) = some ⟨.fr, .lst (sortD (dedD (ns.map .int)))⟩ := if_pos ⟨by rw [List.length_map]; exact hl, .inl (by rw [allInt_map]; rfl)⟩
@[simp] theorem x_rev : eRevT a ρ s = revK (a ρ s) := by
  unfold eRevT
  cases a ρ s with
  | ok x s1 =>
    cases x with
    | mk t d => cases d <;> rfl
  | exc c s1 => rfl
  | bad => rfl
@[simp] theorem rv_ok : revK (.ok x s) = revK2 s x.d := rfl
@[simp] theorem rv_exc {z : Str} : revK (.exc z s) = .exc z s := rfl
@[simp] theorem rv_t {ds : List D} : revK2 s (.tup ds) = .ok ⟨.cl, .tup ds.reverse⟩ s := rfl
@[simp] theorem x_lstr : eLstR a ρ s = lsrK (a ρ s) := by
  unfold eLstR
  cases a ρ s with
  | ok x s1 =>
    cases x with
    | mk t d => cases d <;> rfl
  | exc c s1 => rfl
  | bad => rfl
@[simp] theorem lr_ok : lsrK (.ok x s) = lsrK2 s x.d := rfl
@[simp] theorem lr_exc {z : Str} : lsrK (.exc z s) = .exc z s := rfl
theorem lr_i {n : Int} (h : 0 ≤ n ∧ n ≤ 16777216) : lsrK2 s (.int n) = .ok ⟨.fr, .lst (rangeD 0 n)⟩ s := if_pos h
@[simp] theorem x_tupr : eTupR a ρ s = tprK (a ρ s) := by
  unfold eTupR
  cases a ρ s with
  | ok x s1 =>
    cases x with
    | mk t d => cases d <;> rfl
  | exc c s1 => rfl
  | bad => rfl
@[simp] theorem tr_ok : tprK (.ok x s) = tprK2 s x.d := rfl
@[simp] theorem tr_exc {z : Str} : tprK (.exc z s) = .exc z s := rfl
theorem tr_i {n : Int} (h : 0 ≤ n ∧ n ≤ 16777216) : tprK2 s (.int n) = .ok ⟨.cl, .tup (rangeD 0 n)⟩ s := if_pos h
@[simp] theorem ln_l {ds : List D} : lenK2 s [.lst ds] = .ok ⟨.cl, .int ds.length⟩ s := rfl
@[simp] theorem ln_t {ds : List D} : lenK2 s [.tup ds] = .ok ⟨.cl, .int ds.length⟩ s := rfl
@[simp] theorem ln_s {ns : List Int} : lenK2 s [.scr ns] = .ok ⟨.cl, .int ns.length⟩ s := rfl
@[simp] theorem ln_str {z : Str} : lenK2 s [.str z] = optK s (bLen [.str z]) := rfl
@[simp] theorem x_negi {n : Int} : opNeg (.int n) = some ⟨.cl, .int (-n)⟩ := rfl
@[simp] theorem x_isl {ds : List D} : isLst (.lst ds) = true := rfl
theorem b_ok {z : A} {k : A → Sto → Res B} : (Res.ok z s).bind k = k z s := rfl
theorem n_ok {z : A} : (Res.ok z s).nox = .ok z s := rfl
end
def cuK5 (y : D) : Res (List D) → Res (List D)
  | .ok r s => .ok (y :: r) s
  | .exc c s => .exc c s
  | .bad => .bad
def cuK4 (g : G) (t : T) (e : E) (ρ : DSt) (ds : List D) (s : Sto) : TV → Res (List D)
  | ⟨.cl, y⟩ => cuK5 y (compL g t e ρ ds s)
  | _ => .bad
def cuK3 (g : G) (t : T) (e : E) (ρ : DSt) (ds : List D) : Res TV → Res (List D)
  | .ok x s => cuK4 g t e ρ ds s x.keep
  | _ => .bad
def cuK2 (g : G) (t : T) (e : E) (ρ ρ' : DSt) (ds : List D) : Res Bool → Res (List D)
  | .ok true s => cuK3 g t e ρ ds (e ρ' s)
  | .ok false s => compL g t e ρ ds s
  | _ => .bad
def cuK1 (g : G) (t : T) (e : E) (ρ : DSt) (ds : List D) (s : Sto) : Option DSt → Res (List D)
  | some ρ' => cuK2 g t e ρ ρ' ds (t ρ' s)
  | none => .bad
def fuK2 (g : G) (f : S) (ds : List D) : Res Out → Res Out
  | .ok (.nx ρ) s => forL g f ds ρ s
  | .ok (.rt tv) s => .ok (.rt tv) s
  | .exc c s => .exc c s
  | .bad => .bad
def fuK1 (g : G) (f : S) (ds : List D) (s : Sto) : Option DSt → Res Out
  | some ρ => fuK2 g f ds (f ρ s)
  | none => .bad
section
variable {g : G} {t : T} {e : E} {f : S} {ρ ρ' : DSt} {d y : D} {ds r : List D} {s : Sto} {c : Str} {x tv : TV}
@[simp] theorem cu_nil : compL g t e ρ [] s = .ok [] s := rfl
@[simp] theorem cu_cons : compL g t e ρ (d :: ds) s = cuK1 g t e ρ ds s (g d ρ) := by
  rw [compL]
  cases g d ρ with
  | none => rfl
  | some ρ' =>
    show (t ρ' s).nox.bind _ = cuK2 g t e ρ ρ' ds (t ρ' s)
    cases t ρ' s with
    | ok b s1 =>
      cases b with
      | true =>
        show (e ρ' s1).nox.bind _ = cuK3 g t e ρ ds (e ρ' s1)
        cases e ρ' s1 with
        | ok x s2 =>
          cases x with
          | mk tg d =>
            cases tg with
            | cl =>
              show (compL g t e ρ ds s2).bind _ = cuK5 d (compL g t e ρ ds s2)
              cases compL g t e ρ ds s2 <;> rfl
            | fr =>
              show (compL g t e ρ ds s2).bind _ = cuK5 d (compL g t e ρ ds s2)
              cases compL g t e ρ ds s2 <;> rfl
            | dy i => rfl
        | exc c s2 => rfl
        | bad => rfl
      | false => rfl
    | exc c s1 => rfl
    | bad => rfl
@[simp] theorem cu1 : cuK1 g t e ρ ds s (some ρ') = cuK2 g t e ρ ρ' ds (t ρ' s) := rfl
@[simp] theorem cu1n : cuK1 g t e ρ ds s none = .bad := rfl
@[simp] theorem cu2t : cuK2 g t e ρ ρ' ds (.ok true s) = cuK3 g t e ρ ds (e ρ' s) := rfl
@[simp] theorem cu2f : cuK2 g t e ρ ρ' ds (.ok false s) = compL g t e ρ ds s := rfl
@[simp] theorem cu2e : cuK2 g t e ρ ρ' ds (.exc c s) = .bad := rfl
@[simp] theorem cu2b : cuK2 g t e ρ ρ' ds .bad = .bad := rfl
@[simp] theorem cu3 : cuK3 g t e ρ ds (.ok x s) = cuK4 g t e ρ ds s x.keep := rfl
@[simp] theorem cu3e : cuK3 g t e ρ ds (.exc c s) = .bad := rfl
@[simp] theorem cu3b : cuK3 g t e ρ ds .bad = .bad := rfl
@[simp] theorem cu4 : cuK4 g t e ρ ds s ⟨.cl, y⟩ = cuK5 y (compL g t e ρ ds s) := rfl
@[simp] theorem cu5 : cuK5 y (.ok r s) = .ok (y :: r) s := rfl
@[simp] theorem cu5b : cuK5 y .bad = .bad := rfl
@[simp] theorem fu_nil : forL g f [] ρ s = .ok (.nx ρ) s := rfl
@[simp] theorem fu_cons : forL g f (d :: ds) ρ s = fuK1 g f ds s (g d ρ) := by
  rw [forL]
  cases g d ρ with
  | none => rfl
  | some ρ' =>
    show (f ρ' s).bind _ = fuK2 g f ds (f ρ' s)
    cases f ρ' s with
    | ok o s1 => cases o <;> rfl
    | exc c s1 => rfl
    | bad => rfl
@[simp] theorem fu1 : fuK1 g f ds s (some ρ) = fuK2 g f ds (f ρ s) := rfl
@[simp] theorem fu1n : fuK1 g f ds s none = .bad := rfl
@[simp] theorem fu2 : fuK2 g f ds (.ok (.nx ρ) s) = forL g f ds ρ s := rfl
@[simp] theorem fu2r : fuK2 g f ds (.ok (.rt tv) s) = .ok (.rt tv) s := rfl
@[simp] theorem fu2e : fuK2 g f ds (.exc c s) = .exc c s := rfl
@[simp] theorem fu2b : fuK2 g f ds .bad = .bad := rfl
@[simp] theorem ty_non : tyD .non = some "NoneType" := rfl
@[simp] theorem ty_bl {b : Bool} : tyD (.bl b) = some "bool" := rfl
@[simp] theorem ty_int {b : Int} : tyD (.int b) = some "int" := rfl
@[simp] theorem ty_str {b : Str} : tyD (.str b) = some "str" := rfl
@[simp] theorem ty_tup {b : List D} : tyD (.tup b) = some "tuple" := rfl
@[simp] theorem ty_lst {b : List D} : tyD (.lst b) = some "list" := rfl
theorem ty_ref {b : Nat} : tyD (.ref b) = none := rfl
@[simp] theorem kit_self {t : String} : kitB t t = some true := by
  unfold kitB
  simp
@[simp] theorem kit1 : kitB "NoneType" "int" = some false := rfl
@[simp] theorem kit2 : kitB "NoneType" "tuple" = some false := rfl
@[simp] theorem kit3 : kitB "NoneType" "str" = some false := rfl
@[simp] theorem kit4 : kitB "NoneType" "bool" = some false := rfl
@[simp] theorem kit5 : kitB "bool" "int" = some true := rfl
@[simp] theorem kit6 : kitB "bool" "tuple" = some false := rfl
@[simp] theorem kit7 : kitB "bool" "str" = some false := rfl
@[simp] theorem kit8 : kitB "int" "bool" = some false := rfl
@[simp] theorem kit9 : kitB "int" "tuple" = some false := rfl
@[simp] theorem kit10 : kitB "int" "str" = some false := rfl
@[simp] theorem kit11 : kitB "str" "int" = some false := rfl
@[simp] theorem kit12 : kitB "str" "tuple" = some false := rfl
@[simp] theorem kit13 : kitB "str" "bool" = some false := rfl
@[simp] theorem kit14 : kitB "tuple" "int" = some false := rfl
@[simp] theorem kit15 : kitB "tuple" "str" = some false := rfl
@[simp] theorem kit16 : kitB "tuple" "bool" = some false := rfl
@[simp] theorem kit17 : kitB "list" "int" = some false := rfl
@[simp] theorem kit18 : kitB "list" "str" = some false := rfl
@[simp] theorem kit19 : kitB "list" "bool" = some false := rfl
@[simp] theorem kit20 : kitB "list" "tuple" = some false := rfl
@[simp] theorem kit21 : kitB "tuple" "list" = some false := rfl
@[simp] theorem kit22 : kitB "NoneType" "list" = some false := rfl
end

/-! ### dicts -/
def dspK5 (s : Sto) (k d : D) : Option NK → Res TV
  | some _ => .ok ⟨.fr, .dnt [k] [d]⟩ s
  | none => .bad
def dspK4 (s : Sto) (k d : D) : Option Key → Res TV
  | some q => .ok ⟨.fr, .dct [kD q] [d]⟩ s
  | none => dspK5 s k d (isNK k)
def dspK3 (s : Sto) (k : D) : TV → Res TV
  | ⟨.cl, d⟩ => dspK4 s k d (keyD k)
  | _ => .bad
def dspK2 (k : D) : Res TV → Res TV
  | .ok y s => dspK3 s k y.keep
  | _ => .bad
def dspK (b : E) (ρ : DSt) : Res TV → Res TV
  | .ok x s => dspK2 x.d (b ρ s)
  | _ => .bad
def dgtK5 (kv : List D × List D) (s : Sto) : Option Key → TV → Res TV
  | some q, ⟨.cl, dz⟩ => .ok ⟨.cl, (dget kv.1 kv.2 q).getD dz⟩ s
  | _, _ => .bad
def dgtK4 (kv : List D × List D) (k : D) : Res TV → Res TV
  | .ok z s => dgtK5 kv s (keyD k) z.keep
  | .exc c s => .exc c s
  | .bad => .bad
def dgtK3 (kv : List D × List D) (b : E) (ρ : DSt) : Res TV → Res TV
  | .ok y s => dgtK4 kv y.d (b ρ s)
  | .exc c s => .exc c s
  | .bad => .bad
def dgtK2 (a b : E) (ρ : DSt) (s : Sto) : Option (List D × List D) → Res TV
  | some kv => dgtK3 kv b ρ (a ρ s)
  | none => .bad
def dgtK (a b : E) (ρ : DSt) : Res TV → Res TV
  | .ok x s => dgtK2 a b ρ s (dctOf x.d)
  | .exc c s => .exc c s
  | .bad => .bad
def lvlK2 (s : Sto) : Option (List D × List D) → Res TV
  | some kv => .ok ⟨.fr, .lst kv.2⟩ s
  | none => .bad
def lvlK : Res TV → Res TV
  | .ok x s => lvlK2 s (dicOf x.d)
  | .exc c s => .exc c s
  | .bad => .bad
def sptN (j : Nat) (ks vs : List D) (yd dv : D) (ρ : DSt) (s : Sto) : Option NK → Res Out
  | some q => if ks.length < 16777216 then .ok (.nx (ρ.set j (.ow (.dnt (dputNK ks vs yd q) (dputNV ks vs q dv))))) s else .bad
  | none => .bad
def sptK4 (j : Nat) (ks vs : List D) (yd dv : D) (ρ : DSt) (s : Sto) : Option Key → Res Out
  | some q => if ks.length < 16777216 then .ok (.nx (ρ.set j (.ow (.dct (dputK ks vs q) (dputV ks vs q dv))))) s else .bad
  | none => if ks.isEmpty = true ∧ vs.isEmpty = true then sptN j [] [] yd dv ρ s (isNK yd) else .bad
def sptK3 (j : Nat) (ks vs : List D) (dv : D) (ρ : DSt) : Res TV → Res Out
  | .ok y s => sptK4 j ks vs y.d dv ρ s (keyD y.d)
  | .exc c s => .exc c s
  | .bad => .bad
def sptK3N (j : Nat) (ks vs : List D) (dv : D) (ρ : DSt) : Res TV → Res Out
  | .ok y s => sptN j ks vs y.d dv ρ s (isNK y.d)
  | .exc c s => .exc c s
  | .bad => .bad
def sptL2 (j : Nat) (ds : List D) (dv : D) (ρ : DSt) (s : Sto) : D → Res Out
  | .int k => if 0 ≤ k ∧ k.toNat < ds.length then .ok (.nx (ρ.set j (.ow (.lst (ds.set k.toNat dv))))) s else .bad
  | _ => .bad
def sptL (j : Nat) (ds : List D) (dv : D) (ρ : DSt) : Res TV → Res Out
  | .ok y s => sptL2 j ds dv ρ s y.d
  | .exc c s => .exc c s
  | .bad => .bad
def sptK2 (j : Nat) (k : E) (ρ : DSt) (s : Sto) : TV → Option Sl → Res Out
  | ⟨.cl, dv⟩, some (.ow (.dct ks vs)) => sptK3 j ks vs dv ρ (k ρ s)
  | ⟨.cl, dv⟩, some (.ow (.dnt ks vs)) => sptK3N j ks vs dv ρ (k ρ s)
  | ⟨.cl, dv⟩, some (.ow (.lst ds)) => sptL j ds dv ρ (k ρ s)
  | _, _ => .bad
def sptK (j : Nat) (k : E) (ρ : DSt) : Res TV → Res Out
  | .ok x s => sptK2 j k ρ s x.keep ρ[j]?
  | .exc c s => .exc c s
  | .bad => .bad
def enmK2 (tvs : List TV) (s : Sto) : List D → Res (List TV × List D)
  | [.tup xs] => .ok (tvs, enumD 0 xs) s
  | [.lst xs] => .ok (tvs, enumD 0 xs) s
  | _ => .bad
def enmK : Res (List TV) → Res (List TV × List D)
  | .ok xs s => enmK2 xs s (xs.map TV.d)
  | .exc c s => .exc c s
  | .bad => .bad
section
variable {ρ : DSt} {s s1 : Sto} {a b c e : E} {l : EL} {i j : Nat} {d : D} {x : TV} {z : Str} {kv : List D × List D}
@[simp] theorem x_dnew : eDNew ρ s = .ok ⟨.fr, .dct [] []⟩ s := rfl
@[simp] theorem x_dsp : eDisp a b ρ s = dspK b ρ (a ρ s) := by
  unfold eDisp
  cases a ρ s with
  | ok x s1 =>
    show (b ρ s1).nox.bind _ = dspK2 x.d (b ρ s1)
    cases b ρ s1 with
    | ok y s2 =>
      show dispD x y s2 = dspK3 s2 x.d y.keep
      unfold dispD
      cases y.keep with
      | mk t d =>
        cases t with
        | cl =>
          show (match keyD x.d with | some q => _ | none => _) = dspK4 s2 x.d d (keyD x.d)
          cases keyD x.d with
          | none =>
            show (match isNK x.d with | some _ => _ | none => _) = dspK5 s2 x.d d (isNK x.d)
            cases isNK x.d <;> rfl
          | some q => rfl
        | _ => rfl
    | exc c s2 => rfl
    | bad => rfl
  | exc c s1 => rfl
  | bad => rfl
@[simp] theorem ds1 : dspK b ρ (.ok x s) = dspK2 x.d (b ρ s) := rfl
@[simp] theorem ds2 {k : D} : dspK2 k (.ok x s) = dspK3 s k x.keep := rfl
@[simp] theorem ds3 {k : D} : dspK3 s k ⟨.cl, d⟩ = dspK4 s k d (keyD k) := rfl
@[simp] theorem ds4 {k : D} {q : Key} : dspK4 s k d (some q) = .ok ⟨.fr, .dct [kD q] [d]⟩ s := rfl
@[simp] theorem ds4n {k : D} : dspK4 s k d none = dspK5 s k d (isNK k) := rfl
@[simp] theorem ds5 {k : D} {q : NK} : dspK5 s k d (some q) = .ok ⟨.fr, .dnt [k] [d]⟩ s := rfl
@[simp] theorem key_tup {ds : List D} : keyD (.tup ds) = none := rfl
@[simp] theorem dof3 {ks vs : List D} : dctOf (.dnt ks vs) = none := rfl
@[simp] theorem dof4 {ks vs : List D} : dctOf (.fdn ks vs) = none := rfl
@[simp] theorem nof1 {ks vs : List D} : dntOf (.dnt ks vs) = some (ks, vs) := rfl
@[simp] theorem nof2 {ks vs : List D} : dntOf (.fdn ks vs) = some (ks, vs) := rfl
@[simp] theorem key_int {n : Int} : keyD (.int n) = some (.inl n) := rfl
@[simp] theorem kD_inl {n : Int} : kD (.inl n) = .int n := rfl
@[simp] theorem dof1 {ks vs : List D} : dctOf (.dct ks vs) = some (ks, vs) := rfl
@[simp] theorem dof2 {ks vs : List D} : dctOf (.fdc ks vs) = some (ks, vs) := rfl
@[simp] theorem x_dget : eDGet c a b ρ s = dgtK a b ρ (c ρ s) := by
  unfold eDGet
  cases c ρ s with
  | ok x s1 =>
    show (if (dctOf x.d).isSome = true then _ else _) = dgtK2 a b ρ s1 (dctOf x.d)
    cases dctOf x.d with
    | none => rfl
    | some kv =>
      show (a ρ s1).bind _ = dgtK3 kv b ρ (a ρ s1)
      cases a ρ s1 with
      | ok y s2 =>
        show (b ρ s2).bind _ = dgtK4 kv y.d (b ρ s2)
        cases b ρ s2 with
        | ok w s3 =>
          show (match some kv, keyD y.d, w.keep with | some kv, some q, ⟨.cl, dz⟩ => _ | _, _, _ => _) = dgtK5 kv s3 (keyD y.d) w.keep
          cases keyD y.d with
          | none => cases w.keep with | mk t d => cases t <;> rfl
          | some q => cases w.keep with | mk t d => cases t <;> rfl
        | exc c s2 => rfl
        | bad => rfl
      | exc c s2 => rfl
      | bad => rfl
  | exc c s1 => rfl
  | bad => rfl
@[simp] theorem dg1 : dgtK a b ρ (.ok x s) = dgtK2 a b ρ s (dctOf x.d) := rfl
@[simp] theorem dg1e : dgtK a b ρ (.exc z s) = .exc z s := rfl
@[simp] theorem dg2 : dgtK2 a b ρ s (some kv) = dgtK3 kv b ρ (a ρ s) := rfl
@[simp] theorem dg3 : dgtK3 kv b ρ (.ok x s) = dgtK4 kv x.d (b ρ s) := rfl
@[simp] theorem dg4 {k : D} : dgtK4 kv k (.ok x s) = dgtK5 kv s (keyD k) x.keep := rfl
@[simp] theorem dg5 {q : Key} : dgtK5 kv s (some q) ⟨.cl, d⟩ = .ok ⟨.cl, (dget kv.1 kv.2 q).getD d⟩ s := rfl
@[simp] theorem x_lvl : eLVals a ρ s = lvlK (a ρ s) := by
  unfold eLVals
  cases a ρ s with
  | ok x s1 =>
    show (match dicOf x.d with | some kv => _ | none => _) = lvlK2 s1 (dicOf x.d)
    cases dicOf x.d <;> rfl
  | exc c s1 => rfl
  | bad => rfl
@[simp] theorem lv1 : lvlK (.ok x s) = lvlK2 s (dicOf x.d) := rfl
@[simp] theorem dic1 {ks vs : List D} : dicOf (.dct ks vs) = some (ks, vs) := rfl
@[simp] theorem dic2 {ks vs : List D} : dicOf (.fdc ks vs) = some (ks, vs) := rfl
@[simp] theorem dic3 {ks vs : List D} : dicOf (.dnt ks vs) = some (ks, vs) := rfl
@[simp] theorem dic4 {ks vs : List D} : dicOf (.fdn ks vs) = some (ks, vs) := rfl
theorem dic_of {d : D} {kv : List D × List D} (h : dctOf d = some kv) : dicOf d = some kv := by unfold dicOf; rw [h]
@[simp] theorem lv1e : lvlK (.exc z s) = .exc z s := rfl
@[simp] theorem lv2 : lvlK2 s (some kv) = .ok ⟨.fr, .lst kv.2⟩ s := rfl
@[simp] theorem x_spt : sPut j a b ρ s = sptK j a ρ (b ρ s) := by
  unfold sPut
  cases b ρ s with
  | ok x s1 =>
    show (match x.keep, ρ[j]? with | ⟨.cl, dv⟩, some (.ow (.dct ks vs)) => _ | ⟨.cl, dv⟩, some (.ow (.dnt ks vs)) => _ | ⟨.cl, dv⟩, some (.ow (.lst ds)) => _ | _, _ => _) = sptK2 j a ρ s1 x.keep ρ[j]?
    cases x.keep with
    | mk t d =>
      cases t with
      | cl =>
        cases ρ[j]? with
        | none => rfl
        | some w =>
          cases w with
          | ow e =>
            cases e with
            | dct ks vs =>
              show (a ρ s1).bind _ = sptK3 j ks vs d ρ (a ρ s1)
              cases a ρ s1 with
              | ok y s2 =>
                show (match keyD y.d with | some q => _ | none => _) = sptK4 j ks vs y.d d ρ s2 (keyD y.d)
                cases keyD y.d with
                | some q => rfl
                | none =>
                  show (if _ then putDN j [] [] y.d d ρ s2 else _) = (if _ then sptN j [] [] y.d d ρ s2 (isNK y.d) else _)
                  congr 1
              | exc c s2 => rfl
              | bad => rfl
            | dnt ks vs =>
              show (a ρ s1).bind _ = sptK3N j ks vs d ρ (a ρ s1)
              cases a ρ s1 with
              | ok y s2 =>
                show putDN j ks vs y.d d ρ s2 = sptN j ks vs y.d d ρ s2 (isNK y.d)
                unfold putDN
                cases isNK y.d <;> rfl
              | exc c s2 => rfl
              | bad => rfl
            | lst ds =>
              show (a ρ s1).bind _ = sptL j ds d ρ (a ρ s1)
              cases a ρ s1 with
              | ok y s2 => cases y with | mk t d => cases d <;> rfl
              | exc c s2 => rfl
              | bad => rfl
            | _ => rfl
          | _ => rfl
      | _ => rfl
  | exc c s1 => rfl
  | bad => rfl
@[simp] theorem sp1 : sptK j a ρ (.ok x s) = sptK2 j a ρ s x.keep ρ[j]? := rfl
@[simp] theorem sp2 {ks vs : List D} : sptK2 j a ρ s ⟨.cl, d⟩ (some (.ow (.dct ks vs))) = sptK3 j ks vs d ρ (a ρ s) := rfl
@[simp] theorem spL1 {ds : List D} : sptK2 j a ρ s ⟨.cl, d⟩ (some (.ow (.lst ds))) = sptL j ds d ρ (a ρ s) := rfl
@[simp] theorem spL2 {ds : List D} : sptL j ds d ρ (.ok x s) = sptL2 j ds d ρ s x.d := rfl
theorem spL3 {ds : List D} {k : Int} (h : 0 ≤ k ∧ k.toNat < ds.length) : sptL2 j ds d ρ s (.int k) = .ok (.nx (ρ.set j (.ow (.lst (ds.set k.toNat d))))) s := if_pos h
@[simp] theorem sp3 {ks vs : List D} : sptK3 j ks vs d ρ (.ok x s) = sptK4 j ks vs x.d d ρ s (keyD x.d) := rfl
@[simp] theorem sp2n {ks vs : List D} : sptK2 j a ρ s ⟨.cl, d⟩ (some (.ow (.dnt ks vs))) = sptK3N j ks vs d ρ (a ρ s) := rfl
@[simp] theorem sp3n {ks vs : List D} : sptK3N j ks vs d ρ (.ok x s) = sptN j ks vs x.d d ρ s (isNK x.d) := rfl
@[simp] theorem sp4n {yd : D} : sptK4 j [] [] yd d ρ s none = sptN j [] [] yd d ρ s (isNK yd) := rfl
@[simp] theorem spn {ks vs : List D} {yd : D} {q : NK} : sptN j ks vs yd d ρ s (some q) = if ks.length < 16777216 then .ok (.nx (ρ.set j (.ow (.dnt (dputNK ks vs yd q) (dputNV ks vs q d))))) s else .bad := rfl
@[simp] theorem sp4 {ks vs : List D} {yd : D} {q : Key} : sptK4 j ks vs yd d ρ s (some q) = if ks.length < 16777216 then .ok (.nx (ρ.set j (.ow (.dct (dputK ks vs q) (dputV ks vs q d))))) s else .bad := rfl
@[simp] theorem x_enm : iEnum l ρ s = enmK (l ρ s) := by
  unfold iEnum
  cases l ρ s with
  | ok x s1 =>
    show (match x.map TV.d with | [.tup xs] => _ | [.lst xs] => _ | _ => _) = enmK2 x s1 (x.map TV.d)
    generalize x.map TV.d = y
    match y with
    | [] => rfl
    | [d] => cases d <;> rfl
    | _ :: _ :: _ => rfl
  | exc c s1 => rfl
  | bad => rfl
@[simp] theorem em1 {xs : List TV} : enmK (.ok xs s) = enmK2 xs s (xs.map TV.d) := rfl
@[simp] theorem em2l {tvs : List TV} {xs : List D} : enmK2 tvs s [.lst xs] = .ok (tvs, enumD 0 xs) s := rfl
@[simp] theorem em2 {tvs : List TV} {xs : List D} : enmK2 tvs s [.tup xs] = .ok (tvs, enumD 0 xs) s := rfl
@[simp] theorem it_fdc {ks vs : List D} : items (.fdc ks vs) = some ks := rfl
@[simp] theorem it_fdn {ks vs : List D} : items (.fdn ks vs) = some ks := rfl
@[simp] theorem ix_fdn {ks vs : List D} {k : D} : opIx (.fdn ks vs) k = (isNK k).bind fun q => (dgetN ks vs q).map fun d => ⟨.cl, d⟩ := rfl
@[simp] theorem ix_dnt {ks vs : List D} {k : D} : opIx (.dnt ks vs) k = (isNK k).bind fun q => (dgetN ks vs q).map fun d => ⟨.cl, d⟩ := rfl
theorem in_fdn {ks vs ds : List D} : opIn (.tup ds) (.fdn ks vs) = (isNK (.tup ds)).map fun q => ⟨.cl, .bl (dgetN ks vs q).isSome⟩ := by
  show (orElse2 opInL _) _ _ = _
  simp [orElse2, opInL, opInT, opInS, opInD, opInN, dctOf]
theorem in_fdc0 {ds : List D} : opIn (.tup ds) (.fdc [] []) = (isNK (.tup ds)).map fun q => ⟨.cl, .bl false⟩ := by
  show (orElse2 opInL _) _ _ = _
  simp [orElse2, opInL, opInT, opInS, opInD, opInN, dctOf, keyD]
@[simp] theorem nk_ib {i : Int} {b : Bool} : isNK (.tup [.int i, .bl b]) = some (.tup [.num i, .num (if b = true then 1 else 0)]) := by
  simp [isNK, D.nb, D.nbs, NestedKey.depth, NestedKey.depthAll]
@[simp] theorem nk_ii {i j : Int} : isNK (.tup [.int i, .int j]) = some (.tup [.num i, .num j]) := by
  simp [isNK, D.nb, D.nbs, NestedKey.depth, NestedKey.depthAll]
end
def sdfN (j : Nat) (ks vs : List D) (yd dv : D) (ρ : DSt) (s : Sto) : Option NK → Res Out
  | some q => if ks.length < 16777216 then .ok (.nx (if (dgetN ks vs q).isSome = true then ρ else ρ.set j (.ow (.dnt (dputNK ks vs yd q) (dputNV ks vs q dv))))) s else .bad
  | none => .bad
def sdfK5 (j : Nat) (ks vs : List D) (k dv : D) (ρ : DSt) (s : Sto) : Option Key → Res Out
  | some q => if ks.length < 16777216 then .ok (.nx (if (dget ks vs q).isSome = true then ρ else ρ.set j (.ow (.dct (dputK ks vs q) (dputV ks vs q dv))))) s else .bad
  | none => if ks.isEmpty = true ∧ vs.isEmpty = true then sdfN j [] [] k dv ρ s (isNK k) else .bad
def sdfK4 (j : Nat) (ks vs : List D) (k : D) (ρ : DSt) (s : Sto) : TV → Res Out
  | ⟨.cl, dv⟩ => sdfK5 j ks vs k dv ρ s (keyD k)
  | _ => .bad
def sdfK3 (j : Nat) (ks vs : List D) (k : D) (ρ : DSt) : Res TV → Res Out
  | .ok z s => sdfK4 j ks vs k ρ s z.keep
  | .exc c s => .exc c s
  | .bad => .bad
def sdfK2 (j : Nat) (ks vs : List D) (b : E) (ρ : DSt) : Res TV → Res Out
  | .ok y s => sdfK3 j ks vs y.d ρ (b ρ s)
  | .exc c s => .exc c s
  | .bad => .bad
def sdfK4N (j : Nat) (ks vs : List D) (k : D) (ρ : DSt) (s : Sto) : TV → Res Out
  | ⟨.cl, dv⟩ => sdfN j ks vs k dv ρ s (isNK k)
  | _ => .bad
def sdfK3N (j : Nat) (ks vs : List D) (k : D) (ρ : DSt) : Res TV → Res Out
  | .ok z s => sdfK4N j ks vs k ρ s z.keep
  | .exc c s => .exc c s
  | .bad => .bad
def sdfK2N (j : Nat) (ks vs : List D) (b : E) (ρ : DSt) : Res TV → Res Out
  | .ok y s => sdfK3N j ks vs y.d ρ (b ρ s)
  | .exc c s => .exc c s
  | .bad => .bad
def sdfK (j : Nat) (a b : E) (ρ : DSt) (s : Sto) : Option Sl → Res Out
  | some (.ow (.dct ks vs)) => sdfK2 j ks vs b ρ (a ρ s)
  | some (.ow (.dnt ks vs)) => sdfK2N j ks vs b ρ (a ρ s)
  | _ => .bad
section
variable {ρ : DSt} {s s1 : Sto} {a b : E} {j : Nat} {d : D} {x : TV} {ks vs : List D}
@[simp] theorem x_sdf : sSdf j a b ρ s = sdfK j a b ρ s ρ[j]? := by
  unfold sSdf
  cases ρ[j]? with
  | none => rfl
  | some w =>
    cases w with
    | ow e =>
      cases e with
      | dct ks vs =>
        show (a ρ s).bind _ = sdfK2 j ks vs b ρ (a ρ s)
        cases a ρ s with
        | ok y s1 =>
          show (b ρ s1).bind _ = sdfK3 j ks vs y.d ρ (b ρ s1)
          cases b ρ s1 with
          | ok z s2 =>
            show (match z.keep with | ⟨.cl, dv⟩ => _ | _ => _) = sdfK4 j ks vs y.d ρ s2 z.keep
            cases z.keep with
            | mk t d =>
              cases t with
              | cl =>
                show (match keyD y.d with | some q => _ | none => _) = sdfK5 j ks vs y.d d ρ s2 (keyD y.d)
                cases keyD y.d with
                | some q => rfl
                | none =>
                  show (if _ then sdfDN j [] [] y.d d ρ s2 else _) = (if _ then sdfN j [] [] y.d d ρ s2 (isNK y.d) else _)
                  congr 1
              | _ => rfl
          | exc c s2 => rfl
          | bad => rfl
        | exc c s1 => rfl
        | bad => rfl
      | dnt ks vs =>
        show (a ρ s).bind _ = sdfK2N j ks vs b ρ (a ρ s)
        cases a ρ s with
        | ok y s1 =>
          show (b ρ s1).bind _ = sdfK3N j ks vs y.d ρ (b ρ s1)
          cases b ρ s1 with
          | ok z s2 =>
            show (match z.keep with | ⟨.cl, dv⟩ => _ | _ => _) = sdfK4N j ks vs y.d ρ s2 z.keep
            cases z.keep with
            | mk t d =>
              cases t with
              | cl =>
                show sdfDN j ks vs y.d d ρ s2 = sdfN j ks vs y.d d ρ s2 (isNK y.d)
                unfold sdfDN
                cases isNK y.d <;> rfl
              | _ => rfl
          | exc c s2 => rfl
          | bad => rfl
        | exc c s1 => rfl
        | bad => rfl
      | _ => rfl
    | _ => rfl
@[simp] theorem sf1 : sdfK j a b ρ s (some (.ow (.dct ks vs))) = sdfK2 j ks vs b ρ (a ρ s) := rfl
@[simp] theorem sf2 : sdfK2 j ks vs b ρ (.ok x s) = sdfK3 j ks vs x.d ρ (b ρ s) := rfl
@[simp] theorem sf3 {k : D} : sdfK3 j ks vs k ρ (.ok x s) = sdfK4 j ks vs k ρ s x.keep := rfl
@[simp] theorem sf1n : sdfK j a b ρ s (some (.ow (.dnt ks vs))) = sdfK2N j ks vs b ρ (a ρ s) := rfl
@[simp] theorem sf2n : sdfK2N j ks vs b ρ (.ok x s) = sdfK3N j ks vs x.d ρ (b ρ s) := rfl
@[simp] theorem sf3n {k : D} : sdfK3N j ks vs k ρ (.ok x s) = sdfK4N j ks vs k ρ s x.keep := rfl
@[simp] theorem sf4n {k : D} : sdfK4N j ks vs k ρ s ⟨.cl, d⟩ = sdfN j ks vs k d ρ s (isNK k) := rfl
@[simp] theorem sf4d {k : D} : sdfK4 j ks vs k ρ s ⟨.cl, d⟩ = sdfK5 j ks vs k d ρ s (keyD k) := rfl
@[simp] theorem sf5e {k : D} : sdfK5 j [] [] k d ρ s none = sdfN j [] [] k d ρ s (isNK k) := rfl
@[simp] theorem sfn {k : D} {q : NK} : sdfN j ks vs k d ρ s (some q) = if ks.length < 16777216 then .ok (.nx (if (dgetN ks vs q).isSome = true then ρ else ρ.set j (.ow (.dnt (dputNK ks vs k q) (dputNV ks vs q d))))) s else .bad := rfl
@[simp] theorem lk5 : bListK [.dnt ks vs] = some ⟨.fr, .lst ks⟩ := rfl
@[simp] theorem lk6 : bListK [.fdn ks vs] = some ⟨.fr, .lst ks⟩ := rfl
@[simp] theorem sf4 {k : D} {q : Key} : sdfK5 j ks vs k d ρ s (some q) = if ks.length < 16777216 then .ok (.nx (if (dget ks vs q).isSome = true then ρ else ρ.set j (.ow (.dct (dputK ks vs q) (dputV ks vs q d))))) s else .bad := rfl
@[simp] theorem lk1 {xs : List D} : bListK [.lst xs] = some ⟨.fr, .lst xs⟩ := rfl
@[simp] theorem lk2 {xs : List D} : bListK [.tup xs] = some ⟨.fr, .lst xs⟩ := rfl
@[simp] theorem lk3 : bListK [.dct ks vs] = some ⟨.fr, .lst ks⟩ := rfl
@[simp] theorem lk4 : bListK [.fdc ks vs] = some ⟨.fr, .lst ks⟩ := rfl
end
/-! ### pop, get, join -/
def popK2 (i j : Nat) (ds : List D) (ρ : DSt) (s : Sto) : D → Res Out
  | .int k => if 0 ≤ k ∧ k < 16777216 then popAt i j ds k.toNat ρ s else .bad
  | _ => .bad
def popK1 (i j : Nat) (ds : List D) (ρ : DSt) : Res TV → Res Out
  | .ok x s => popK2 i j ds ρ s x.d
  | .exc c s => .exc c s
  | .bad => .bad
def popK (i j : Nat) (e : E) (ρ : DSt) (s : Sto) : Option Sl → Res Out
  | some (.ow (.lst ds)) => popK1 i j ds ρ (e ρ s)
  | _ => .bad
def popLK (i j : Nat) (ρ : DSt) (s : Sto) : Option Sl → Res Out
  | some (.ow (.lst ds)) => popAt i j ds (ds.length - 1) ρ s
  | _ => .bad
def apK2 (i j : Nat) (ms ds : List D) (ρ : DSt) (s : Sto) : D → Res Out
  | .int k => if 0 ≤ k ∧ k < 16777216 then apPop i j ms ds k.toNat ρ s else .bad
  | _ => .bad
def apK1 (i j : Nat) (ms ds : List D) (ρ : DSt) : Res TV → Res Out
  | .ok x s => apK2 i j ms ds ρ s x.d
  | .exc c s => .exc c s
  | .bad => .bad
def apK (i j : Nat) (e : E) (ρ : DSt) (s : Sto) : Option Sl → Option Sl → Res Out
  | some (.ow (.lst ms)), some (.ow (.lst ds)) => apK1 i j ms ds ρ (e ρ s)
  | _, _ => .bad
def dg1K3 (kv : List D × List D) (s : Sto) : Option Key → Res TV
  | some q => .ok ⟨.cl, (dget kv.1 kv.2 q).getD .non⟩ s
  | none => .bad
def dg1K2 (kv : List D × List D) : Res TV → Res TV
  | .ok y s => dg1K3 kv s (keyD y.d)
  | .exc c s => .exc c s
  | .bad => .bad
def dg1K1 (a : E) (ρ : DSt) (s : Sto) : Option (List D × List D) → Res TV
  | some kv => dg1K2 kv (a ρ s)
  | none => .bad
def dg1K (a : E) (ρ : DSt) : Res TV → Res TV
  | .ok x s => dg1K1 a ρ s (dctOf x.d)
  | .exc c s => .exc c s
  | .bad => .bad
def lr2K3 (s : Sto) : D → D → Res TV
  | .int m, .int n => if 0 ≤ m ∧ m ≤ 16777216 ∧ 0 ≤ n ∧ n ≤ 16777216 then .ok ⟨.fr, .lst (rangeD m n)⟩ s else .bad
  | _, _ => .bad
def lr2K2 (d : D) : Res TV → Res TV
  | .ok y s => lr2K3 s d y.d
  | .exc c s => .exc c s
  | .bad => .bad
def lr2K (b : E) (ρ : DSt) : Res TV → Res TV
  | .ok x s => lr2K2 x.d (b ρ s)
  | .exc c s => .exc c s
  | .bad => .bad
section
variable {ρ : DSt} {s s1 : Sto} {a b e : E} {i j : Nat} {d : D} {x : TV} {ks vs ds ms : List D} {k m n : Int}
@[simp] theorem x_pop : sPop i j e ρ s = popK i j e ρ s ρ[j]? := by
  unfold sPop
  cases ρ[j]? with
  | none => rfl
  | some w =>
    cases w with
    | ow d =>
      cases d with
      | lst ds =>
        show (e ρ s).bind _ = popK1 i j ds ρ (e ρ s)
        cases e ρ s with
        | ok x s1 => cases x with | mk t d => cases d <;> rfl
        | exc c s1 => rfl
        | bad => rfl
      | _ => rfl
    | _ => rfl
@[simp] theorem x_popL : sPopL i j ρ s = popLK i j ρ s ρ[j]? := by
  unfold sPopL
  cases ρ[j]? with
  | none => rfl
  | some w =>
    cases w with
    | ow d => cases d <;> rfl
    | _ => rfl
@[simp] theorem pk0 : popK i j e ρ s (some (.ow (.lst ds))) = popK1 i j ds ρ (e ρ s) := rfl
@[simp] theorem pk1 : popK1 i j ds ρ (.ok x s) = popK2 i j ds ρ s x.d := rfl
theorem pk2 (h : 0 ≤ k ∧ k < 16777216) : popK2 i j ds ρ s (.int k) = popAt i j ds k.toNat ρ s := if_pos h
@[simp] theorem pk20 : popK2 i j ds ρ s (.int 0) = popAt i j ds 0 ρ s := by
  show (if (0 : Int) ≤ 0 ∧ (0 : Int) < 16777216 then popAt i j ds (0 : Int).toNat ρ s else .bad) = _
  rw [if_pos (by decide)]
  rfl
@[simp] theorem pkL : popLK i j ρ s (some (.ow (.lst ds))) = popAt i j ds (ds.length - 1) ρ s := rfl
theorem pkA {q : Nat} (h : ds[q]? = some d) : popAt i j ds q ρ s = .ok (.nx ((ρ.set j (.ow (.lst (ds.eraseIdx q)))).set i (.sh d))) s := by
  unfold popAt
  rw [h]
@[simp] theorem pkA0 : popAt i j (d :: ds) 0 ρ s = .ok (.nx ((ρ.set j (.ow (.lst ds))).set i (.sh d))) s := rfl
theorem pkAL : popAt i j (ds ++ [d]) ((ds ++ [d]).length - 1) ρ s = .ok (.nx ((ρ.set j (.ow (.lst ds))).set i (.sh d))) s := by
  have e : (ds ++ [d]).length - 1 = ds.length := by simp
  rw [e, pkA (d := d) (by simp)]
  congr 5
  rw [List.eraseIdx_append_of_length_le (Nat.le_refl _), Nat.sub_self]
  simp
@[simp] theorem x_apPop : sApPop i j e ρ s = apK i j e ρ s ρ[i]? ρ[j]? := by
  unfold sApPop
  cases ρ[i]? with
  | none => cases ρ[j]? <;> rfl
  | some w =>
    cases ρ[j]? with
    | none => cases w with
      | ow d => cases d <;> rfl
      | _ => rfl
    | some w2 =>
      cases w with
      | ow d =>
        cases d with
        | lst ms =>
          cases w2 with
          | ow d2 =>
            cases d2 with
            | lst ds =>
              show (e ρ s).bind _ = apK1 i j ms ds ρ (e ρ s)
              cases e ρ s with
              | ok x s1 => cases x with | mk t d => cases d <;> rfl
              | exc c s1 => rfl
              | bad => rfl
            | _ => rfl
          | _ => rfl
        | _ => rfl
      | _ => rfl
@[simp] theorem ak0 : apK i j e ρ s (some (.ow (.lst ms))) (some (.ow (.lst ds))) = apK1 i j ms ds ρ (e ρ s) := rfl
@[simp] theorem ak1 : apK1 i j ms ds ρ (.ok x s) = apK2 i j ms ds ρ s x.d := rfl
theorem ak2 (h : 0 ≤ k ∧ k < 16777216) : apK2 i j ms ds ρ s (.int k) = apPop i j ms ds k.toNat ρ s := if_pos h
theorem akA {q : Nat} (h : ds[q]? = some d) (hl : ms.length < 16777216) : apPop i j ms ds q ρ s = .ok (.nx ((ρ.set j (.ow (.lst (ds.eraseIdx q)))).set i (.ow (.lst (ms ++ [d]))))) s := by
  unfold apPop
  rw [h]
  exact if_pos hl
@[simp] theorem x_dget1 : eDGet1 b a ρ s = dg1K a ρ (b ρ s) := by
  unfold eDGet1
  cases b ρ s with
  | ok x s1 =>
    show (if (dctOf x.d).isSome = true then _ else _) = dg1K1 a ρ s1 (dctOf x.d)
    cases dctOf x.d with
    | none => rfl
    | some kv =>
      show (a ρ s1).bind _ = dg1K2 kv (a ρ s1)
      cases a ρ s1 with
      | ok y s2 =>
        show (match some kv, keyD y.d with | some kv, some q => _ | _, _ => _) = dg1K3 kv s2 (keyD y.d)
        cases keyD y.d <;> rfl
      | exc c s2 => rfl
      | bad => rfl
  | exc c s1 => rfl
  | bad => rfl
@[simp] theorem dg10 : dg1K a ρ (.ok x s) = dg1K1 a ρ s (dctOf x.d) := rfl
@[simp] theorem dg11 {kv : List D × List D} : dg1K1 a ρ s (some kv) = dg1K2 kv (a ρ s) := rfl
@[simp] theorem dg12 {kv : List D × List D} : dg1K2 kv (.ok x s) = dg1K3 kv s (keyD x.d) := rfl
@[simp] theorem dg13 {kv : List D × List D} {q : Key} : dg1K3 kv s (some q) = .ok ⟨.cl, (dget kv.1 kv.2 q).getD .non⟩ s := rfl
@[simp] theorem x_lr2 : eLstR2 a b ρ s = lr2K b ρ (a ρ s) := by
  unfold eLstR2
  cases a ρ s with
  | ok x s1 =>
    show (b ρ s1).bind _ = lr2K2 x.d (b ρ s1)
    cases b ρ s1 with
    | ok y s2 =>
      show (match x.d, y.d with | .int m, .int n => _ | _, _ => _) = lr2K3 s2 x.d y.d
      cases x.d <;> rfl
    | exc c s2 => rfl
    | bad => rfl
  | exc c s1 => rfl
  | bad => rfl
@[simp] theorem lr20 : lr2K b ρ (.ok x s) = lr2K2 x.d (b ρ s) := rfl
@[simp] theorem lr21 : lr2K2 d (.ok x s) = lr2K3 s d x.d := rfl
theorem lr22 (h : 0 ≤ m ∧ m ≤ 16777216 ∧ 0 ≤ n ∧ n ≤ 16777216) : lr2K3 s (.int m) (.int n) = .ok ⟨.fr, .lst (rangeD m n)⟩ s := if_pos h
@[simp] theorem x_iss {z : Str} : isStr (.str z) = true := rfl
end
end UW
namespace UW
open PySem PySem.Spec PyProof.Rows L2

@[simp] theorem ty_dct {a b : List D} : tyD (.dct a b) = some "dict" := rfl
@[simp] theorem kit30 : kitB "dict" "int" = some false := rfl
@[simp] theorem kit31 : kitB "dict" "str" = some false := rfl
@[simp] theorem kit32 : kitB "dict" "bool" = some false := rfl
@[simp] theorem kit33 : kitB "dict" "tuple" = some false := rfl
@[simp] theorem kit34 : kitB "dict" "list" = some false := rfl

/-! ### data that is compared -/
def D.fine : Nat → D → Bool
  | _, .non => true
  | _, .bl _ => true
  | _, .int _ => true
  | _, .str x => PyData.canLay0 (.str x)
  | n + 1, .tup ds => ds.all (D.fine n)
  | n + 1, .lst ds => ds.all (D.fine n)
  | _, _ => false
theorem pds_all {p : PyData → Prop} : ∀ {ds : List D}, (∀ d, d ∈ ds → p d.pd) → ∀ x, x ∈ D.pds ds → p x
  | [], _, x, h => by cases h
  | d :: ds, h, x, hx => by
    rcases List.mem_cons.mp hx with e | e
    · rw [e]; exact h d List.mem_cons_self
    · exact pds_all (fun d hd => h d (List.mem_cons_of_mem _ hd)) x e
theorem canAll {xs : List PyData} (h : ∀ x, x ∈ xs → PyData.canLay0 x = true) : PyData.canLayAll0 xs = true := by
  induction xs with
  | nil => simp [PyData.canLayAll0]
  | cons x xs ih => simp [PyData.canLayAll0, h x List.mem_cons_self, ih fun y hy => h y (List.mem_cons_of_mem _ hy)]
theorem depAll {n : Nat} {xs : List PyData} (h : ∀ x, x ∈ xs → PyData.depth x ≤ n) : PyData.depthAll xs ≤ n := by
  induction xs with
  | nil => simp [PyData.depthAll]
  | cons x xs ih =>
    have := h x List.mem_cons_self
    have := ih fun y hy => h y (List.mem_cons_of_mem _ hy)
    simp only [PyData.depthAll]
    omega
theorem plainsAll {ds : List D} (h : ∀ d, d ∈ ds → d.plain = true) : D.plains ds = true := by
  induction ds with
  | nil => rfl
  | cons d ds ih =>
    show (D.plain d && D.plains ds) = true
    rw [h d List.mem_cons_self, ih fun y hy => h y (List.mem_cons_of_mem _ hy)]
    rfl
theorem fine_is : ∀ (n : Nat) (d : D), d.fine n = true → d.plain = true ∧ PyData.canLay0 d.pd = true ∧ PyData.depth d.pd ≤ n := by
  intro n
  induction n with
  | zero =>
    intro d h
    cases d <;> first | (simp [D.fine] at h; done) | (refine ⟨rfl, ?_, ?_⟩ <;> first | (simp [D.pd, PyData.canLay0]; done) | (simp [D.pd, PyData.depth]; done) | exact h)
  | succ n ih =>
    intro d h
    cases d with
    | tup ds =>
      simp only [D.fine, List.all_eq_true] at h
      refine ⟨plainsAll fun d hd => (ih d (h d hd)).1, ?_, ?_⟩
      · simp only [D.pd, PyData.canLay0]
        exact canAll (pds_all fun d hd => (ih d (h d hd)).2.1)
      · simp only [D.pd, PyData.depth]
        have := depAll (n := n) (xs := D.pds ds) (pds_all fun d hd => (ih d (h d hd)).2.2)
        omega
    | lst ds =>
      simp only [D.fine, List.all_eq_true] at h
      refine ⟨plainsAll fun d hd => (ih d (h d hd)).1, ?_, ?_⟩
      · simp only [D.pd, PyData.canLay0]
        exact canAll (pds_all fun d hd => (ih d (h d hd)).2.1)
      · simp only [D.pd, PyData.depth]
        have := depAll (n := n) (xs := D.pds ds) (pds_all fun d hd => (ih d (h d hd)).2.2)
        omega
    | _ => first | (simp [D.fine] at h; done) | (refine ⟨rfl, ?_, ?_⟩ <;> first | (simp [D.pd, PyData.canLay0]; done) | (simp [D.pd, PyData.depth]; done) | exact h)
theorem fine_shp {n : Nat} {d : D} (h : d.fine n = true) (hn : n ≤ 64) : d.shp = true := by
  obtain ⟨h1, h2, h3⟩ := fine_is n d h
  unfold D.shp SeqAt.shaped
  rw [h1, h2]
  simp only [Bool.true_and, decide_eq_true_eq]
  omega
theorem fine_le : ∀ (n m : Nat) (d : D), n ≤ m → d.fine n = true → d.fine m = true := by
  intro n
  induction n with
  | zero =>
    intro m d _ h
    cases d <;> cases m <;> first | exact h | (simp [D.fine] at h; done) | (simp [D.fine]; done)
  | succ n ih =>
    intro m d le h
    cases m with
    | zero => omega
    | succ m =>
      cases d with
      | tup ds =>
        simp only [D.fine, List.all_eq_true] at h ⊢
        exact fun d hd => ih m d (by omega) (h d hd)
      | lst ds =>
        simp only [D.fine, List.all_eq_true] at h ⊢
        exact fun d hd => ih m d (by omega) (h d hd)
      | _ => first | exact h | (simp [D.fine] at h; done) | (simp [D.fine]; done)
theorem opEq_fine {n m : Nat} {a b : D} (ha : a.fine n = true) (hb : b.fine m = true) (hn : n ≤ 64) (hm : m ≤ 64) : opEq a b = some ⟨.cl, .bl (a.eq2 b)⟩ := by
  unfold opEq
  rw [fine_shp ha hn, fine_shp hb hm]
  rfl
theorem opNe_fine {n m : Nat} {a b : D} (ha : a.fine n = true) (hb : b.fine m = true) (hn : n ≤ 64) (hm : m ≤ 64) : opNe a b = some ⟨.cl, .bl (!a.eq2 b)⟩ := by
  unfold opNe
  rw [fine_shp ha hn, fine_shp hb hm]
  rfl
/-! ### comprehensions that leave the store alone -/
theorem compL_map {g : G} {t : T} {e : E} {ρ : DSt} {s : Sto} (f : D → D) : ∀ (ds : List D), (∀ d, d ∈ ds → ∃ ρ', g d ρ = some ρ' ∧ t ρ' s = .ok true s ∧ ∃ tv, e ρ' s = .ok tv s ∧ tv.keep = ⟨.cl, f d⟩) → compL g t e ρ ds s = .ok (ds.map f) s
  | [], _ => rfl
  | d :: ds, h => by
    obtain ⟨ρ', h1, h2, tv, h3, h4⟩ := h d List.mem_cons_self
    rw [cu_cons, h1, cu1, h2, cu2t, h3, cu3, h4, cu4, compL_map f ds fun d hd => h d (List.mem_cons_of_mem _ hd)]
    rfl
theorem compL_filter {g : G} {t : T} {e : E} {ρ : DSt} {s : Sto} (p : D → Bool) (f : D → D) : ∀ (ds : List D), (∀ d, d ∈ ds → ∃ ρ', g d ρ = some ρ' ∧ t ρ' s = .ok (p d) s ∧ (p d = true → ∃ tv, e ρ' s = .ok tv s ∧ tv.keep = ⟨.cl, f d⟩)) → compL g t e ρ ds s = .ok ((ds.filter p).map f) s
  | [], _ => rfl
  | d :: ds, h => by
    obtain ⟨ρ', h1, h2, h3⟩ := h d List.mem_cons_self
    have ih := compL_filter p f ds fun d hd => h d (List.mem_cons_of_mem _ hd)
    rw [cu_cons, h1, cu1, h2]
    cases q : p d with
    | true =>
      obtain ⟨tv, h3, h4⟩ := h3 q
      rw [List.filter_cons_of_pos q]
      rw [cu2t, h3, cu3, h4, cu4, ih]
      rfl
    | false =>
      rw [List.filter_cons_of_neg (by rw [q]; exact Bool.false_ne_true)]
      rw [cu2f]
      exact ih
theorem bools_map {A : Type} (f : A → Bool) : ∀ l : List A, bools (l.map fun x => D.bl (f x)) = some (l.map f)
  | [] => rfl
  | x :: l => by
    rw [List.map_cons, List.map_cons, bools, bools_map f l]
    rfl
theorem bAll_map {A : Type} (f : A → Bool) (l : List A) : bAll [.lst (l.map fun x => D.bl (f x))] = some ⟨.cl, .bl (l.all f)⟩ := by
  show Option.map (fun bs => (⟨.cl, .bl (bs.all id)⟩ : TV)) (bools (l.map fun x => D.bl (f x))) = _
  rw [bools_map]
  simp [Option.map]
theorem bAny_map {A : Type} (f : A → Bool) (l : List A) : bAny [.lst (l.map fun x => D.bl (f x))] = some ⟨.cl, .bl (l.any f)⟩ := by
  show Option.map (fun bs => (⟨.cl, .bl (bs.any id)⟩ : TV)) (bools (l.map fun x => D.bl (f x))) = _
  rw [bools_map]
  simp [Option.map]

/-! ### order -/
/-- in order, and no two alike: rising -/
theorem sortD_rise {ds : List D} (inj : ∀ a, a ∈ ds → ∀ b, b ∈ ds → ltD a b = false → ltD b a = false → a = b) (nd : ds.Nodup) : (sortD ds).Pairwise fun a b => ltD a b = true := by
  have h1 := sortD_pw ds
  have h2 : (sortD ds).Nodup := (sortD_perm ds).nodup_iff.mpr nd
  have h3 : ∀ a, a ∈ sortD ds → ∀ b, b ∈ sortD ds → ltD a b = false → ltD b a = false → a = b := fun a ha b hb => inj a (sortD_mem.mp ha) b (sortD_mem.mp hb)
  generalize sortD ds = l at h1 h2 h3
  induction l with
  | nil => exact .nil
  | cons a l ih =>
    rw [List.pairwise_cons] at h1
    rw [List.nodup_cons] at h2
    refine List.pairwise_cons.mpr ⟨fun b hb => ?_, ih h1.2 h2.2 fun a ha b hb => h3 a (List.mem_cons_of_mem _ ha) b (List.mem_cons_of_mem _ hb)⟩
    have le := h1.1 b hb
    rw [leD_is] at le
    cases q : ltD a b with
    | true => rfl
    | false =>
      have q2 : ltD b a = false := by
        cases z : ltD b a with
        | false => rfl
        | true => rw [z] at le; cases le
      have e := h3 a List.mem_cons_self b (List.mem_cons_of_mem _ hb) q q2
      rw [← e] at hb
      exact absurd hb h2.1
theorem opLt_fine {n : Nat} {a b : D} (ha : a.fine n = true) (hb : b.fine n = true) (hn : n ≤ 64) (al : PySem.W.alike a.pd b.pd = true) (hna : a.isNon = false) (ht : opLtI a b = none) : opLt a b = some ⟨.cl, .bl (ltD a b)⟩ := by
  obtain ⟨h1, h2, h3⟩ := fine_is n a ha
  obtain ⟨k1, k2, k3⟩ := fine_is n b hb
  unfold opLt orElse2
  rw [ht]
  show opLtD a b = _
  unfold opLtD
  rw [if_pos ⟨h1, k1, al, hna, by omega⟩]
  rfl
end UW
namespace UW
open PySem PySem.Spec PyProof.Rows L2
section
variable {i j : Int} {xs ys : List D}
@[simp] theorem o_lt : opLt (.int i) (.int j) = some ⟨.cl, .bl (decide (i < j))⟩ := rfl
@[simp] theorem o_le : opLeI (.int i) (.int j) = some ⟨.cl, .bl (decide (i ≤ j))⟩ := rfl
@[simp] theorem o_gt : opGtI (.int i) (.int j) = some ⟨.cl, .bl (decide (j < i))⟩ := rfl
@[simp] theorem o_ge : opGeI (.int i) (.int j) = some ⟨.cl, .bl (decide (j ≤ i))⟩ := rfl
@[simp] theorem o_add : opAdd (.int i) (.int j) = some ⟨.cl, .int (i + j)⟩ := rfl
@[simp] theorem o_sub : opSub (.int i) (.int j) = some ⟨.cl, .int (i - j)⟩ := rfl
theorem o_mul (h : mulOk i j = true) : opMul (.int i) (.int j) = some ⟨.cl, .int (i * j)⟩ := by
  have e : opMulI (.int i) (.int j) = some ⟨.cl, .int (i * j)⟩ := if_pos h
  show orElse2 opMulI _ _ _ = _
  unfold orElse2
  rw [e]
theorem mulOk_r (h : -(2 ^ 64) < j ∧ j < 2 ^ 64) : mulOk i j = true := by
  unfold mulOk
  simp only [h.1, h.2, decide_true, Bool.and_self, Bool.or_true]
theorem mulOk_l (h : -(2 ^ 64) < i ∧ i < 2 ^ 64) : mulOk i j = true := by
  unfold mulOk
  simp only [h.1, h.2, decide_true, Bool.and_self, Bool.true_or]
theorem o_mod (h : 0 < j) : opMod (.int i) (.int j) = some ⟨.cl, .int (i % j)⟩ := if_pos (decide_eq_true h)
theorem o_pow (h0 : 0 ≤ j) (h1 : j ≤ 1000000) (h2 : i.natAbs < 2 ^ 64) : opPow (.int i) (.int j) = some ⟨.cl, .int (i ^ j.toNat)⟩ := if_pos (show (decide (0 ≤ j) && (decide (j ≤ 1000000) && decide (i.natAbs < 2 ^ 64))) = true by simp only [h0, h1, h2, decide_true, Bool.and_self])
theorem o_addL (h : xs.length + ys.length ≤ 16777216) : opAdd (.lst xs) (.lst ys) = some ⟨.fr, .lst (xs ++ ys)⟩ := by
  have e : opAddL (.lst xs) (.lst ys) = some ⟨.fr, .lst (xs ++ ys)⟩ := if_pos h
  show (match opAddL (.lst xs) (.lst ys) with | some tv => some tv | none => opAddT (.lst xs) (.lst ys)) = _
  rw [e]
theorem o_addT (h : xs.length + ys.length ≤ 16777216) : opAdd (.tup xs) (.tup ys) = some ⟨.cl, .tup (xs ++ ys)⟩ := if_pos h
@[simp] theorem o_len_l : bLen [.lst xs] = some ⟨.cl, .int xs.length⟩ := rfl
@[simp] theorem o_len_t : bLen [.tup xs] = some ⟨.cl, .int xs.length⟩ := rfl
@[simp] theorem o_len_s {ns : List Int} : bLen [.scr ns] = some ⟨.cl, .int ns.length⟩ := rfl
theorem o_len_str {z : Str} (h : z.length ≤ 16777216) : bLen [.str z] = some ⟨.cl, .int z.length⟩ := if_pos h
theorem atN {A : Type} {l : List A} {k : Nat} : atI l (k : Int) = l[k]? := by
  unfold atI ixN
  by_cases h : k < l.length
  · simp [h]
  · simp [h]
@[simp] theorem o_ixl : opIx (.lst xs) (.int i) = (atI xs i).map fun d => ⟨.cl, d⟩ := rfl
@[simp] theorem o_ixt : opIx (.tup xs) (.int i) = (atI xs i).map fun d => ⟨.cl, d⟩ := rfl
@[simp] theorem o_ixs {ns : List Int} : opIx (.scr ns) (.int i) = (atI ns i).map fun n => ⟨.cl, .int n⟩ := rfl
@[simp] theorem at0 {A : Type} {a : A} {l : List A} : atI (a :: l) 0 = some a := by rw [show (0 : Int) = ((0 : Nat) : Int) from rfl, atN]; rfl
@[simp] theorem at1 {A : Type} {a b : A} {l : List A} : atI (a :: b :: l) 1 = some b := by rw [show (1 : Int) = ((1 : Nat) : Int) from rfl, atN]; rfl
@[simp] theorem at2 {A : Type} {a b c : A} {l : List A} : atI (a :: b :: c :: l) 2 = some c := by rw [show (2 : Int) = ((2 : Nat) : Int) from rfl, atN]; rfl
@[simp] theorem o_tupl : bTuple [.lst xs] = some ⟨.cl, .tup xs⟩ := rfl
@[simp] theorem o_tupt : bTuple [.tup xs] = some ⟨.cl, .tup xs⟩ := rfl
@[simp] theorem o_listl : bList [.lst xs] = some ⟨.fr, .lst xs⟩ := rfl
@[simp] theorem o_listt : bList [.tup xs] = some ⟨.fr, .lst xs⟩ := rfl
@[simp] theorem o_sll {lo hi : Option Int} : opSl (.lst xs) lo hi = some ⟨.fr, .lst (cutD xs lo hi)⟩ := rfl
@[simp] theorem o_slt {lo hi : Option Int} : opSl (.tup xs) lo hi = some ⟨.cl, .tup (cutD xs lo hi)⟩ := rfl
@[simp] theorem o_itl : items (.lst xs) = some xs := rfl
@[simp] theorem o_itt : items (.tup xs) = some xs := rfl
theorem o_sort (h1 : sortable xs = true) (h2 : xs.length ≤ 16777216) : bSorted [.lst xs] = some ⟨.fr, .lst (sortD xs)⟩ := if_pos ⟨h1, h2⟩
theorem o_sortT (h1 : sortable xs = true) (h2 : xs.length ≤ 16777216) : bSorted [.tup xs] = some ⟨.fr, .lst (sortD xs)⟩ := if_pos ⟨h1, h2⟩
theorem cut_tail {A : Type} (l : List A) : cutD l (some 1) none = l.tail := by
  unfold cutD HT.sIx
  cases l with
  | nil => rfl
  | cons a r => simp
theorem cut_take {A : Type} (l : List A) (n : Nat) : cutD l none (some (n : Int)) = l.take n := by
  unfold cutD
  rw [HT.sIx_none, HT.sIx_nat, List.drop_zero, Nat.sub_zero, List.take_eq_take_iff]
  omega
end
end UW
namespace UW
open PySem PySem.Spec PyProof.Rows L2
/-! ### sorting what is encoded -/
theorem sort_enc {α : Type} (enc : α → D) (lt : α → α → Prop) (hlt : ∀ a b, ltD (enc a) (enc b) = true ↔ lt a b) (xs : List α) (tri : ∀ a, a ∈ xs → ∀ b, b ∈ xs → ¬ lt a b → ¬ lt b a → a = b) (nd : xs.Nodup) : ∃ ys : List α, sortD (xs.map enc) = ys.map enc ∧ ys.Perm xs ∧ ys.Pairwise lt := by
  refine ⟨xs.mergeSort fun a b => leD (enc a) (enc b), (List.map_mergeSort (r := fun a b => leD (enc a) (enc b)) (s := leD) (f := enc) (l := xs) (fun a _ b _ => rfl)).symm, List.mergeSort_perm _ _, ?_⟩
  have h1 : (xs.mergeSort fun a b => leD (enc a) (enc b)).Pairwise fun a b => leD (enc a) (enc b) = true := List.pairwise_mergeSort (le := fun a b => leD (enc a) (enc b)) (fun a b c => leD_trans (enc a) (enc b) (enc c)) (fun a b => leD_total (enc a) (enc b)) xs
  have h2 : (xs.mergeSort fun a b => leD (enc a) (enc b)).Nodup := (List.mergeSort_perm _ _).nodup_iff.mpr nd
  have h3 : ∀ a, a ∈ (xs.mergeSort fun a b => leD (enc a) (enc b)) → a ∈ xs := fun a ha => (List.mergeSort_perm _ _).mem_iff.mp ha
  generalize (xs.mergeSort fun a b => leD (enc a) (enc b)) = l at h1 h2 h3
  induction l with
  | nil => exact .nil
  | cons a l ih =>
    rw [List.pairwise_cons] at h1
    rw [List.nodup_cons] at h2
    refine List.pairwise_cons.mpr ⟨fun b hb => ?_, ih h1.2 h2.2 fun a ha => h3 a (List.mem_cons_of_mem _ ha)⟩
    have le := h1.1 b hb
    rw [leD_is] at le
    apply Classical.byContradiction
    intro q
    have q2 : ¬ lt b a := fun z => by
      rw [(hlt b a).mpr z] at le
      cases le
    have e := tri a (h3 a List.mem_cons_self) b (h3 b (List.mem_cons_of_mem _ hb)) q q2
    rw [← e] at hb
    exact h2.1 hb
/-! ### loops by an invariant -/
theorem for_nth {g : G} {f : S} (ds : List D) (Inv : Nat → DSt → Sto → Prop) (h : ∀ (i : Nat) (hi : i < ds.length) ρ s, Inv i ρ s → ∃ ρ1 ρ2 s2, g ds[i] ρ = some ρ1 ∧ f ρ1 s = .ok (.nx ρ2) s2 ∧ Inv (i + 1) ρ2 s2) {ρ : DSt} {s : Sto} (h0 : Inv 0 ρ s) : ∃ ρ' s', forL g f ds ρ s = .ok (.nx ρ') s' ∧ Inv ds.length ρ' s' := by
  have key : ∀ (k : Nat) (ρ : DSt) (s : Sto) (j : Nat), j + k = ds.length → Inv j ρ s → ∃ ρ' s', forL g f (ds.drop j) ρ s = .ok (.nx ρ') s' ∧ Inv ds.length ρ' s' := by
    intro k
    induction k with
    | zero =>
      intro ρ s j e hj
      have e : j = ds.length := by omega
      subst e
      refine ⟨ρ, s, ?_, hj⟩
      rw [List.drop_length]
      rfl
    | succ k ih =>
      intro ρ s j e hj
      have hlt : j < ds.length := by omega
      obtain ⟨ρ1, ρ2, s2, e1, e2, e3⟩ := h j hlt ρ s hj
      obtain ⟨ρ', s', e4, e5⟩ := ih ρ2 s2 (j + 1) (by omega) e3
      refine ⟨ρ', s', ?_, e5⟩
      rw [List.drop_eq_getElem_cons hlt, fu_cons, e1, fu1, e2, fu2]
      exact e4
  exact key ds.length ρ s 0 (by omega) h0
theorem rangeD_len (lo hi : Int) : (rangeD lo hi).length = (hi - lo).toNat := by
  unfold rangeD
  rw [List.length_map, List.length_range]
theorem rangeD_get {lo hi : Int} {i : Nat} (h : i < (rangeD lo hi).length) : (rangeD lo hi)[i] = .int (lo + i) := by
  simp only [rangeD, List.getElem_map, List.getElem_range]
theorem for_range {g : G} {f : S} {lo hi : Int} (Inv : Int → DSt → Sto → Prop) (le : lo ≤ hi) (h : ∀ i, lo ≤ i → i < hi → ∀ ρ s, Inv i ρ s → ∃ ρ1 ρ2 s2, g (.int i) ρ = some ρ1 ∧ f ρ1 s = .ok (.nx ρ2) s2 ∧ Inv (i + 1) ρ2 s2) {ρ : DSt} {s : Sto} (h0 : Inv lo ρ s) : ∃ ρ' s', forL g f (rangeD lo hi) ρ s = .ok (.nx ρ') s' ∧ Inv hi ρ' s' := by
  have hl := rangeD_len lo hi
  obtain ⟨ρ', s', e1, e2⟩ := for_nth (g := g) (f := f) (rangeD lo hi) (fun k => Inv (lo + k)) (fun i hi' ρ s hI => by
    simp only [rangeD_get]
    obtain ⟨ρ1, ρ2, s2, a, b, c⟩ := h (lo + i) (by omega) (by omega) ρ s hI
    refine ⟨ρ1, ρ2, s2, a, b, ?_⟩
    rw [show lo + ((i + 1 : Nat) : Int) = lo + i + 1 by omega]
    exact c) (ρ := ρ) (s := s) (by
    show Inv (lo + ((0 : Nat) : Int)) ρ s
    rw [show lo + ((0 : Nat) : Int) = lo by omega]
    exact h0)
  refine ⟨ρ', s', e1, ?_⟩
  have e2 : Inv (lo + ((rangeD lo hi).length : Int)) ρ' s' := e2
  rw [hl, show lo + ((hi - lo).toNat : Int) = hi by omega] at e2
  exact e2
end UW
namespace UW
open PySem PySem.Spec PyProof.Rows L2
theorem rng1 {s : Sto} {j : Int} (h : -1000000 ≤ j ∧ j ≤ 1000000) : rngK2 s [.int j] = .ok ([], rangeD 0 j) s := if_pos (by omega)
theorem rng2 {s : Sto} {i j : Int} (h : -1000000 ≤ i ∧ i ≤ 1000000 ∧ -1000000 ≤ j ∧ j ≤ 1000000) : rngK2 s [.int i, .int j] = .ok ([], rangeD i j) s := if_pos (by omega)
end UW
namespace UW
open PySem PySem.Spec PyProof.Rows L2
@[simp] theorem ne_int {i j : Int} : opNe (.int i) (.int j) = some ⟨.cl, .bl (!decide (i = j))⟩ := by
  rw [opNe_fine (n := 1) (m := 1) rfl rfl (by omega) (by omega), eq2_int]
@[simp] theorem eq_int {i j : Int} : opEq (.int i) (.int j) = some ⟨.cl, .bl (decide (i = j))⟩ := by
  rw [opEq_fine (n := 1) (m := 1) rfl rfl (by omega) (by omega), eq2_int]
@[simp] theorem ba_nil : bools [] = some [] := rfl
@[simp] theorem ba_cons {b : Bool} {r : List D} : bools (.bl b :: r) = (bools r).map (b :: ·) := rfl
@[simp] theorem all_lst {ds : List D} : bAll [.lst ds] = (bools ds).map fun bs => ⟨.cl, .bl (bs.all id)⟩ := rfl
@[simp] theorem any_lst {ds : List D} : bAny [.lst ds] = (bools ds).map fun bs => ⟨.cl, .bl (bs.any id)⟩ := rfl
theorem zip_pw {R : D → D → Prop} : ∀ {xs : List D}, xs.Pairwise R → ∀ d, d ∈ zipD xs xs.tail → ∃ a b, d = .tpw [a, b] ∧ a ∈ xs ∧ b ∈ xs ∧ R a b
  | [], _, d, h => by simp [zipD] at h
  | [a], _, d, h => by simp [zipD] at h
  | a :: b :: r, hp, d, h => by
    rw [List.pairwise_cons] at hp
    have h : d ∈ D.tpw [a, b] :: zipD (b :: r) r := h
    rcases List.mem_cons.mp h with e | h
    · exact ⟨a, b, e, List.mem_cons_self, List.mem_cons_of_mem _ List.mem_cons_self, hp.1 b List.mem_cons_self⟩
    · obtain ⟨x, y, e1, e2, e3, e4⟩ := zip_pw (xs := b :: r) hp.2 d h
      exact ⟨x, y, e1, List.mem_cons_of_mem _ e2, List.mem_cons_of_mem _ e3, e4⟩
theorem opIn_l {n m : Nat} {a : D} {ds : List D} (ha : a.fine n = true) (hb : (D.lst ds).fine m = true) (hn : n ≤ 64) (hm : m ≤ 64) : opIn a (.lst ds) = some ⟨.cl, .bl (ds.any fun z => z.eq2 a)⟩ := by
  have e : opInL a (.lst ds) = some ⟨.cl, .bl (ds.any fun z => z.eq2 a)⟩ := if_pos ⟨fine_shp ha hn, fine_shp hb hm⟩
  unfold opIn orElse2
  rw [e]
theorem opNotIn_l {n m : Nat} {a : D} {ds : List D} (ha : a.fine n = true) (hb : (D.lst ds).fine m = true) (hn : n ≤ 64) (hm : m ≤ 64) : opNotIn a (.lst ds) = some ⟨.cl, .bl (!ds.any fun z => z.eq2 a)⟩ := by
  have e : opNotInL a (.lst ds) = some ⟨.cl, .bl (!ds.any fun z => z.eq2 a)⟩ := if_pos ⟨fine_shp ha hn, fine_shp hb hm⟩
  unfold opNotIn orElse2
  rw [e]
end UW
namespace UW
open PySem PySem.Spec PyProof.Rows L2
theorem bools_true {A : Type} (f : A → D) : ∀ (l : List A), (∀ x, x ∈ l → f x = .bl true) → bools (l.map f) = some (List.replicate l.length true)
  | [], _ => rfl
  | x :: l, h => by
    rw [List.map_cons, h x List.mem_cons_self, ba_cons, bools_true f l fun y hy => h y (List.mem_cons_of_mem _ hy)]
    rfl
end UW
namespace UW
open PySem PySem.Spec PyProof.Rows L2
/-! ### comprehensions over what is encoded -/
theorem compL_mapE {α : Type} {g : G} {t : T} {e : E} {ρ : DSt} {s : Sto} (enc f : α → D) : ∀ (xs : List α), (∀ x, x ∈ xs → ∃ ρ', g (enc x) ρ = some ρ' ∧ t ρ' s = .ok true s ∧ ∃ tv, e ρ' s = .ok tv s ∧ tv.keep = ⟨.cl, f x⟩) → compL g t e ρ (xs.map enc) s = .ok (xs.map f) s
  | [], _ => rfl
  | x :: xs, h => by
    obtain ⟨ρ', h1, h2, tv, h3, h4⟩ := h x List.mem_cons_self
    rw [List.map_cons, cu_cons, h1, cu1, h2, cu2t, h3, cu3, h4, cu4, compL_mapE enc f xs fun d hd => h d (List.mem_cons_of_mem _ hd)]
    rfl
theorem compL_filterE {α : Type} {g : G} {t : T} {e : E} {ρ : DSt} {s : Sto} (enc : α → D) (p : α → Bool) (f : α → D) : ∀ (xs : List α), (∀ x, x ∈ xs → ∃ ρ', g (enc x) ρ = some ρ' ∧ t ρ' s = .ok (p x) s ∧ (p x = true → ∃ tv, e ρ' s = .ok tv s ∧ tv.keep = ⟨.cl, f x⟩)) → compL g t e ρ (xs.map enc) s = .ok ((xs.filter p).map f) s
  | [], _ => rfl
  | x :: xs, h => by
    obtain ⟨ρ', h1, h2, h3⟩ := h x List.mem_cons_self
    have ih := compL_filterE enc p f xs fun d hd => h d (List.mem_cons_of_mem _ hd)
    rw [List.map_cons, cu_cons, h1, cu1, h2]
    cases q : p x with
    | true =>
      obtain ⟨tv, h3, h4⟩ := h3 q
      rw [List.filter_cons_of_pos q]
      rw [cu2t, h3, cu3, h4, cu4, ih]
      rfl
    | false =>
      rw [List.filter_cons_of_neg (by rw [q]; exact Bool.false_ne_true)]
      rw [cu2f]
      exact ih
/-- a loop over what is encoded -/
theorem for_pre {α : Type} {g : G} {f : S} (enc : α → D) (xs : List α) (I : List α → DSt → Sto → Prop) (h : ∀ pre x post ρ s, xs = pre ++ x :: post → I pre ρ s → ∃ ρ1 ρ2 s2, g (enc x) ρ = some ρ1 ∧ f ρ1 s = .ok (.nx ρ2) s2 ∧ I (pre ++ [x]) ρ2 s2) {ρ : DSt} {s : Sto} (h0 : I [] ρ s) :
    ∃ ρ' s', forL g f (xs.map enc) ρ s = .ok (.nx ρ') s' ∧ I xs ρ' s' := by
  have key : ∀ (post pre : List α) (ρ : DSt) (s : Sto), xs = pre ++ post → I pre ρ s → ∃ ρ' s', forL g f (post.map enc) ρ s = .ok (.nx ρ') s' ∧ I xs ρ' s' := by
    intro post
    induction post with
    | nil =>
      intro pre ρ s e hI
      rw [List.append_nil] at e
      subst e
      exact ⟨ρ, s, rfl, hI⟩
    | cons x post ih =>
      intro pre ρ s e hI
      obtain ⟨ρ1, ρ2, s2, e1, e2, e3⟩ := h pre x post ρ s e hI
      obtain ⟨ρ', s', e4, e5⟩ := ih (pre ++ [x]) ρ2 s2 (by rw [e, List.append_assoc]; rfl) e3
      refine ⟨ρ', s', ?_, e5⟩
      rw [List.map_cons, fu_cons, e1, fu1, e2, fu2]
      exact e4
  exact key xs [] ρ s rfl h0
/-! ### whole numbers sorted -/
def sortI (xs : List Int) : List Int := xs.mergeSort fun a b => leD (.int a) (.int b)
theorem sortI_perm (xs : List Int) : (sortI xs).Perm xs := List.mergeSort_perm _ _
theorem sortD_ints (xs : List Int) : sortD (xs.map D.int) = (sortI xs).map D.int :=
  (List.map_mergeSort (r := fun a b => leD (D.int a) (D.int b)) (s := leD) (f := D.int) (l := xs) (fun a _ b _ => rfl)).symm
theorem sortable_i (xs : List Int) : sortable (xs.map D.int) = true := by
  unfold sortable
  simp only [Bool.and_eq_true, Bool.or_eq_true, List.all_eq_true]
  refine ⟨⟨fun d hd => ?_, fun d hd e he => ?_⟩, .inr fun d hd => ?_⟩
  · obtain ⟨p, _, rfl⟩ := List.mem_map.mp hd
    obtain ⟨h1, _, h3⟩ := fine_is 1 (.int p) rfl
    exact ⟨h1, decide_eq_true (by omega)⟩
  · obtain ⟨p, _, rfl⟩ := List.mem_map.mp hd
    obtain ⟨q, _, rfl⟩ := List.mem_map.mp he
    simp [D.pd, PySem.W.alike]
  · obtain ⟨p, _, rfl⟩ := List.mem_map.mp hd
    rfl
theorem o_sortI (xs : List Int) (h : xs.length ≤ 16777216) : bSorted [.lst (xs.map D.int)] = some ⟨.fr, .lst ((sortI xs).map D.int)⟩ := by
  rw [o_sort (sortable_i xs) (by rw [List.length_map]; exact h), sortD_ints]
/-! ### maps with whole keys -/
def mget {α : Type} : List (Int × α) → Int → Option α
  | [], _ => none
  | p :: m, k => if p.1 = k then some p.2 else mget m k
def mset {α : Type} (m : List (Int × α)) (k : Int) (v : α) : List (Int × α) := m.map fun p => if p.1 = k then (p.1, v) else p
def mput {α : Type} (m : List (Int × α)) (k : Int) (v : α) : List (Int × α) := if (mget m k).isSome = true then mset m k v else m ++ [(k, v)]
section
variable {α : Type} {enc : α → D}
abbrev mKs (m : List (Int × α)) : List D := m.map fun p => D.int p.1
abbrev mVs (enc : α → D) (m : List (Int × α)) : List D := m.map fun p => enc p.2
theorem dget_m (k : Int) : ∀ m : List (Int × α), dget (mKs m) (mVs enc m) (.inl k) = (mget m k).map enc
  | [] => rfl
  | p :: m => by
    show (if keyD (.int p.1) = some (.inl k) then some (enc p.2) else dget (mKs m) (mVs enc m) (.inl k)) = (if p.1 = k then some p.2 else mget m k).map enc
    by_cases h : p.1 = k
    · rw [if_pos h, if_pos (by rw [h]; rfl)]
      rfl
    · rw [if_neg h, if_neg (by
        intro z
        cases z
        exact h rfl), dget_m k m]
theorem dset_m (k : Int) (v : α) : ∀ m : List (Int × α), dset (mKs m) (mVs enc m) (.inl k) (enc v) = mVs enc (mset m k v)
  | [] => rfl
  | p :: m => by
    show (if keyD (.int p.1) = some (.inl k) then enc v else enc p.2) :: dset (mKs m) (mVs enc m) (.inl k) (enc v) = enc (if p.1 = k then (p.1, v) else p).2 :: mVs enc (mset m k v)
    rw [dset_m k v m]
    by_cases h : p.1 = k
    · rw [if_pos h, if_pos (by rw [h]; rfl)]
    · rw [if_neg h, if_neg (by
        intro z
        cases z
        exact h rfl)]
theorem mset_keys (m : List (Int × α)) (k : Int) (v : α) : (mset m k v).map (·.1) = m.map (·.1) := by
  unfold mset
  rw [List.map_map]
  refine List.map_congr_left fun p _ => ?_
  show (if p.1 = k then (p.1, v) else p).1 = p.1
  split <;> rfl
theorem dput_k (m : List (Int × α)) (k : Int) (v : α) : dputK (mKs m) (mVs enc m) (.inl k) = mKs (mput m k v) := by
  unfold dputK mput
  rw [dget_m, Option.isSome_map]
  split
  · have := congrArg (List.map D.int) (mset_keys m k v)
    rw [List.map_map, List.map_map] at this
    exact this.symm
  · rw [mKs, mKs, List.map_append]
    rfl
theorem dput_v (m : List (Int × α)) (k : Int) (v : α) : dputV (mKs m) (mVs enc m) (.inl k) (enc v) = mVs enc (mput m k v) := by
  unfold dputV mput
  rw [dget_m, Option.isSome_map]
  split
  · exact dset_m k v m
  · rw [mVs, mVs, List.map_append]
    rfl
theorem mget_mem {m : List (Int × α)} {k : Int} : (mget m k).isSome = true ↔ k ∈ m.map (·.1) := by
  induction m with
  | nil => simp [mget]
  | cons p m ih =>
    rw [mget, List.map_cons, List.mem_cons]
    by_cases h : p.1 = k
    · rw [if_pos h]
      simp [h]
    · rw [if_neg h, ih]
      constructor
      · exact .inr
      · rintro (z | z)
        · exact absurd z.symm h
        · exact z
theorem mput_keys (m : List (Int × α)) (k : Int) (v : α) : (mput m k v).map (·.1) = if k ∈ m.map (·.1) then m.map (·.1) else m.map (·.1) ++ [k] := by
  unfold mput
  by_cases h : (mget m k).isSome = true
  · rw [if_pos h, if_pos (mget_mem.mp h), mset_keys]
  · rw [if_neg h, if_neg (fun z => h (mget_mem.mpr z)), List.map_append]
    rfl
theorem mput_nd {m : List (Int × α)} (h : (m.map (·.1)).Nodup) (k : Int) (v : α) : ((mput m k v).map (·.1)).Nodup := by
  rw [mput_keys]
  split
  · exact h
  · rename_i hk
    refine List.nodup_append.mpr ⟨h, List.pairwise_singleton _ _, fun a ha b hb => ?_⟩
    rw [List.mem_singleton] at hb
    subst hb
    exact fun z => hk (z ▸ ha)
theorem mput_mem {m : List (Int × α)} {k j : Int} {v : α} (h : j ∈ (mput m k v).map (·.1)) : j = k ∨ j ∈ m.map (·.1) := by
  rw [mput_keys] at h
  split at h
  · exact .inr h
  · rcases List.mem_append.mp h with h | h
    · exact .inr h
    · exact .inl (List.mem_singleton.mp h)
theorem mget_of_mem : ∀ {m : List (Int × α)}, (m.map (·.1)).Nodup → ∀ p, p ∈ m → mget m p.1 = some p.2
  | [], _, p, h => by cases h
  | q :: m, nd, p, h => by
    rw [List.map_cons, List.nodup_cons] at nd
    rw [mget]
    rcases List.mem_cons.mp h with e | h
    · rw [e, if_pos rfl]
    · rw [if_neg, mget_of_mem nd.2 p h]
      intro z
      exact nd.1 (z ▸ List.mem_map_of_mem h)
theorem mget_mset (m : List (Int × α)) (k j : Int) (v : α) : mget (mset m k v) j = if j = k then (mget m k).map fun _ => v else mget m j := by
  induction m with
  | nil => simp [mset, mget]
  | cons p m ih =>
    show mget ((if p.1 = k then (p.1, v) else p) :: mset m k v) j = _
    by_cases h : p.1 = k
    · rw [if_pos h, mget, mget, mget, if_pos h]
      by_cases hj : j = k
      · rw [if_pos hj, if_pos (by rw [h, hj])]
        rfl
      · rw [if_neg hj, if_neg (by rw [h]; exact fun z => hj z.symm), if_neg (by rw [h]; exact fun z => hj z.symm), ih, if_neg hj]
    · rw [if_neg h, mget, mget, mget, if_neg h]
      by_cases hj : j = k
      · rw [if_pos hj, if_neg (by rw [hj]; exact h), ih, if_pos hj]
      · rw [if_neg hj, ih, if_neg hj]
theorem mget_append (m : List (Int × α)) (k j : Int) (v : α) : mget (m ++ [(k, v)]) j = (mget m j).or (if k = j then some v else none) := by
  induction m with
  | nil => simp [mget]
  | cons p m ih =>
    rw [List.cons_append, mget, mget]
    by_cases h : p.1 = j
    · rw [if_pos h, if_pos h]
      rfl
    · rw [if_neg h, if_neg h, ih]
theorem mget_mput (m : List (Int × α)) (k j : Int) (v : α) : mget (mput m k v) j = if j = k then some v else mget m j := by
  unfold mput
  by_cases h : (mget m k).isSome = true
  · rw [if_pos h, mget_mset]
    by_cases hj : j = k
    · rw [if_pos hj, if_pos hj]
      obtain ⟨x, hx⟩ := Option.isSome_iff_exists.mp h
      rw [hx]
      rfl
    · rw [if_neg hj, if_neg hj]
  · rw [if_neg h, mget_append]
    have hn : mget m k = none := by
      cases q : mget m k with
      | none => rfl
      | some x => rw [q] at h; exact absurd rfl h
    by_cases hj : j = k
    · rw [if_pos hj, hj, hn, if_pos rfl]
      rfl
    · rw [if_neg hj, if_neg (fun z => hj z.symm)]
      cases mget m j <;> rfl
end
/-! ### sums -/
def lsum {α : Type} (l : List α) (f : α → Int) : Int := match l with
  | [] => 0
  | x :: r => f x + lsum r f
section
variable {α β : Type}
@[simp] theorem lsum_nil (f : α → Int) : lsum [] f = 0 := rfl
@[simp] theorem lsum_cons (x : α) (r : List α) (f : α → Int) : lsum (x :: r) f = f x + lsum r f := rfl
theorem lsum_append (f : α → Int) : ∀ a b : List α, lsum (a ++ b) f = lsum a f + lsum b f
  | [], b => by simp
  | x :: a, b => by
    rw [List.cons_append, lsum_cons, lsum_cons, lsum_append f a b]
    omega
theorem lsum_perm {f : α → Int} {a b : List α} (h : a.Perm b) : lsum a f = lsum b f := by
  induction h with
  | nil => rfl
  | cons x _ ih => rw [lsum_cons, lsum_cons, ih]
  | swap x y l => simp only [lsum_cons]; omega
  | trans _ _ h1 h2 => exact h1.trans h2
theorem lsum_map (g : α → β) (f : β → Int) : ∀ l : List α, lsum (l.map g) f = lsum l fun x => f (g x)
  | [] => rfl
  | x :: l => by rw [List.map_cons, lsum_cons, lsum_cons, lsum_map g f l]
theorem lsum_flat (g : α → List β) (f : β → Int) : ∀ l : List α, lsum (l.flatMap g) f = lsum l fun x => lsum (g x) f
  | [] => rfl
  | x :: l => by rw [List.flatMap_cons, lsum_append, lsum_cons, lsum_flat g f l]
theorem lsum_congr {f g : α → Int} : ∀ {l : List α}, (∀ x, x ∈ l → f x = g x) → lsum l f = lsum l g
  | [], _ => rfl
  | x :: l, h => by rw [lsum_cons, lsum_cons, h x List.mem_cons_self, lsum_congr fun y hy => h y (List.mem_cons_of_mem _ hy)]
theorem lsum_one : ∀ l : List α, lsum l (fun _ => 1) = l.length
  | [] => rfl
  | x :: l => by
    rw [lsum_cons, lsum_one l, List.length_cons]
    omega
theorem lsum_filter (p : α → Bool) : ∀ l : List α, lsum l (fun x => if p x = true then 1 else 0) = (l.filter p).length
  | [] => rfl
  | x :: l => by
    rw [lsum_cons, lsum_filter p l]
    cases q : p x with
    | true =>
      rw [List.filter_cons_of_pos q, List.length_cons, if_pos rfl]
      omega
    | false =>
      rw [List.filter_cons_of_neg (by rw [q]; exact Bool.false_ne_true), if_neg Bool.false_ne_true]
      omega
theorem ints_map (f : α → Int) : ∀ l : List α, intsD (l.map fun x => D.int (f x)) = some (l.map f)
  | [] => rfl
  | x :: l => by
    rw [List.map_cons, List.map_cons, intsD, ints_map f l]
    rfl
theorem sum_lsum (f : α → Int) : ∀ l : List α, (l.map f).sum = lsum l f
  | [] => rfl
  | x :: l => by rw [List.map_cons, List.sum_cons, lsum_cons, sum_lsum f l]
theorem o_sum (f : α → Int) (l : List α) : bSum [.lst (l.map fun x => D.int (f x))] = some ⟨.cl, .int (lsum l f)⟩ := by
  show (intsD (l.map fun x => D.int (f x))).map (fun ns => (⟨.cl, .int ns.sum⟩ : TV)) = _
  rw [ints_map, ← sum_lsum]
  rfl
/-- distinct whole numbers below n -/
theorem few_keys {l : List Int} {n : Int} (nd : l.Nodup) (h : ∀ x, x ∈ l → 0 ≤ x ∧ x < n) : l.length ≤ n.toNat := by
  have z := L2.nat_nodup_len (l.map Int.toNat) (List.range n.toNat) ?_ ?_
  · rw [List.length_map, List.length_range] at z
    exact z
  · refine List.pairwise_map.mpr (nd.imp_of_mem fun {a b} ha hb hne e => hne ?_)
    have := h a ha
    have := h b hb
    omega
  · intro x hx
    obtain ⟨y, hy, rfl⟩ := List.mem_map.mp hx
    have := h y hy
    exact List.mem_range.mpr (by omega)
end
/-! ### tuples in order -/
theorem ltD_cons {x y : D} {xs ys : List D} (al : PySem.W.alike x.pd y.pd = true) : ltD (.tup (x :: xs)) (.tup (y :: ys)) = if x.eq2 y = true then ltD (.tup xs) (.tup ys) else ltD x y := by
  unfold ltD D.eq2
  rw [D.pd, D.pd, D.pd, D.pd, PySem.W.dataLt_tuple, PySem.W.dataLt_tuple, D.pds, D.pds]
  split
  · rename_i h
    exact PySem.W.dataLt_all_yes al h
  · rename_i h
    exact PySem.W.dataLt_all_no al (Bool.eq_false_iff.mpr h)
theorem ltD_int (i j : Int) : ltD (.int i) (.int j) = decide (i < j) := PySem.W.dataLt_int i j
theorem ltD_str (x y : Str) : ltD (.str x) (.str y) = decide (x.cps.toList < y.cps.toList) := PySem.W.dataLt_str x y
theorem ltD_nil : ltD (.tup []) (.tup []) = false := lt_irr _
theorem al_int (i j : Int) : PySem.W.alike (D.int i).pd (D.int j).pd = true := alike_int i j
theorem al_str (i j : Str) : PySem.W.alike (D.str i).pd (D.str j).pd = true := by rw [D.pd, D.pd]; rfl
/-- what stands in order stays -/
theorem sortD_id {l : List D} (h : l.Pairwise fun a b => ltD a b = true) : sortD l = l := by
  refine List.mergeSort_of_pairwise (h.imp fun {a b} z => ?_)
  rw [leD_is]
  cases q : ltD b a with
  | false => rfl
  | true =>
    have := lt_tr z q
    rw [lt_irr] at this
    cases this
end UW
/-! Ways as lists of rooms; the least of ways by key (no program). -/
namespace UW
open PySem PySem.Spec PyProof.Rows L2
def wayD (w : List Int) : D := .tup (w.map D.int)
def lastI (w : List Int) : Int := w.getLastD 0
theorem at_last {w : List Int} (h : w ≠ []) : atI (w.map D.int) (-1) = some (.int (lastI w)) := by
  obtain ⟨v, x, rfl⟩ : ∃ v x, w = v ++ [x] := ⟨w.dropLast, w.getLast h, (List.dropLast_concat_getLast h).symm⟩
  unfold atI ixN lastI
  simp
  rw [show ((-1 : Int) + ((v.length : Int) + 1)).toNat = v.length by omega]
  rw [if_pos (by omega)]
  simp
theorem last_app (v : List Int) (x : Int) : lastI (v ++ [x]) = x := by
  unfold lastI
  simp
theorem pds_ints (w : List Int) : D.pds (w.map D.int) = w.map PyData.int := by
  rw [D.pds_map, List.map_map]
  rfl
theorem way_pd (w : List Int) : (wayD w).pd = .tuple (w.map PyData.int) := by
  unfold wayD
  rw [D.pd, pds_ints]
theorem way_alike (v w : List Int) : PySem.W.alikeAll (v.map PyData.int) (w.map PyData.int) = true := by
  induction v generalizing w with
  | nil => cases w <;> rfl
  | cons x v ih =>
    cases w with
    | nil => rfl
    | cons y w =>
      rw [List.map_cons, List.map_cons, PySem.W.alikeAll, ih w]
      rfl
theorem way_fine (w : List Int) : (wayD w).fine 1 = true := by
  unfold wayD
  simp only [D.fine, List.all_eq_true]
  intro d hd
  obtain ⟨x, _, rfl⟩ := List.mem_map.mp hd
  rfl
theorem sortable_way (l : List (List Int)) (h : ∀ w, w ∈ l → w ≠ []) : sortable (l.map wayD) = true := by
  unfold sortable
  simp only [Bool.and_eq_true, Bool.or_eq_true, List.all_eq_true]
  refine ⟨⟨fun d hd => ?_, fun d hd e he => ?_⟩, .inl fun d hd => ?_⟩
  · obtain ⟨p, _, rfl⟩ := List.mem_map.mp hd
    obtain ⟨h1, _, h3⟩ := fine_is 1 _ (way_fine p)
    exact ⟨h1, decide_eq_true (by omega)⟩
  · obtain ⟨p, _, rfl⟩ := List.mem_map.mp hd
    obtain ⟨q, _, rfl⟩ := List.mem_map.mp he
    rw [way_pd, way_pd]
    exact way_alike p q
  · obtain ⟨p, hp, rfl⟩ := List.mem_map.mp hd
    have := h p hp
    cases p with
    | nil => exact absurd rfl this
    | cons x r => rfl
theorem at_lastD (L : List D) (X : D) : opIx (.lst (L ++ [X])) (.int (-1)) = some ⟨.cl, X⟩ := by
  show (atI (L ++ [X]) (-1)).map _ = _
  have : atI (L ++ [X]) (-1) = some X := by
    unfold atI ixN
    simp
    rw [show ((-1 : Int) + ((L.length : Int) + 1)).toNat = L.length by omega]
    rw [if_pos (by omega)]
    simp
  rw [this]
  rfl
theorem way_al (v w : List Int) : PySem.W.alike (wayD v).pd (wayD w).pd = true := by
  rw [way_pd, way_pd]
  show PySem.W.alikeAll _ _ = true
  exact way_alike v w
theorem ways_eq2 (v w : List Int) : eq2s (v.map D.int) (w.map D.int) = decide (v = w) := by
  induction v generalizing w with
  | nil => cases w <;> simp
  | cons x v ih =>
    cases w with
    | nil => simp
    | cons y w =>
      rw [List.map_cons, List.map_cons, eq2s_cons, ih w, eq2_int, Bool.eq_iff_iff]
      simp
theorem way_eq2 (v w : List Int) : (wayD v).eq2 (wayD w) = decide (v = w) := by
  unfold wayD
  rw [eq2_tup, ways_eq2]
theorem lt_way (v w : List Int) : ltD (wayD v) (wayD w) = decide (v < w) := by
  unfold ltD
  rw [way_pd, way_pd]
  exact PySem.W.dataLt_ints v w
def wayK (w : List Int) : NK := .tup (w.map .num)
theorem nkds_nums : ∀ w : List Int, nkds (w.map NestedKey.num) = w.map D.int
  | [] => by rw [List.map_nil, nkds]; rfl
  | x :: w => by rw [List.map_cons, nkds, nkd, nkds_nums w]; rfl
theorem wayK_d (w : List Int) : nkd (wayK w) = wayD w := by
  unfold wayK wayD
  rw [nkd, nkds_nums]
theorem wayK_nk (w : List Int) : (wayD w).nk = some (wayK w) := by rw [← wayK_d, nk_nkd]
theorem wayK_inj {v w : List Int} (h : wayK v = wayK w) : v = w := by
  have e := congrArg nkd h
  rw [wayK_d, wayK_d] at e
  have e2 := way_eq2 v w
  rw [e, way_eq2] at e2
  simpa using e2
theorem depth_nums : ∀ w : List Int, NestedKey.depthAll (w.map NestedKey.num) = 0
  | [] => rfl
  | x :: w => by
    rw [List.map_cons, NestedKey.depthAll, depth_nums w, NestedKey.depth]
    rfl
theorem way_isKey {w : List Int} (h : w ≠ []) : isKey (wayD w) = true := by
  have e := wayK_nk w
  cases w with
  | nil => exact absurd rfl h
  | cons x w =>
    have e2 : wayD (x :: w) = .tup (.int x :: w.map D.int) := rfl
    rw [e2] at e ⊢
    unfold isKey
    simp only
    rw [e]
    unfold wayK
    have d := depth_nums (x :: w)
    refine decide_eq_true ?_
    rw [NestedKey.depth, d]
    omega
theorem wlt_irr (w : List Int) : ¬ w < w := fun h => by
  have e := lt_way w w
  rw [lt_irr, decide_eq_true h] at e
  cases e
theorem wlt_tr {u v w : List Int} (h1 : u < v) (h2 : v < w) : u < w := by
  have e1 := lt_way u v
  have e2 := lt_way v w
  rw [decide_eq_true h1] at e1
  rw [decide_eq_true h2] at e2
  have e3 := lt_tr e1 e2
  rw [lt_way] at e3
  exact of_decide_eq_true e3
theorem wlt_tot {v w : List Int} (h1 : ¬ v < w) (h2 : ¬ w < v) : v = w := by
  have e := eq2_of_nlt (way_al v w) (by rw [lt_way]; exact decide_eq_false h1) (by rw [lt_way]; exact decide_eq_false h2)
  rw [way_eq2] at e
  exact of_decide_eq_true e
theorem app_lt : ∀ {v u : List Int} {x y : Int}, v.length = u.length → (v ++ [x] < u ++ [y] ↔ v < u ∨ (v = u ∧ x < y))
  | [], [], x, y, _ => by
    simp [List.cons_lt_cons_iff]
  | [], _ :: _, _, _, h => by simp at h
  | _ :: _, [], _, _, h => by simp at h
  | a :: v, b :: u, x, y, h => by
    have ih := app_lt (v := v) (u := u) (x := x) (y := y) (by simpa using h)
    rw [List.cons_append, List.cons_append, List.cons_lt_cons_iff, List.cons_lt_cons_iff, ih]
    constructor
    · rintro (z | ⟨rfl, z | ⟨rfl, z⟩⟩)
      · exact .inl (.inl z)
      · exact .inl (.inr ⟨rfl, z⟩)
      · exact .inr ⟨rfl, z⟩
    · rintro ((z | ⟨rfl, z⟩) | ⟨z1, z2⟩)
      · exact .inl z
      · exact .inr ⟨rfl, .inl z⟩
      · cases z1
        exact .inr ⟨rfl, .inr ⟨rfl, z2⟩⟩
/-- the first that fits in a rising list is the least -/
theorem find_rise {l : List (List Int)} (h : l.Pairwise (· < ·)) {p : List Int → Bool} {w : List Int} : l.find? p = some w ↔ w ∈ l ∧ p w = true ∧ ∀ x, x ∈ l → p x = true → ¬ x < w := by
  have fwd : ∀ {w}, l.find? p = some w → w ∈ l ∧ p w = true ∧ ∀ x, x ∈ l → p x = true → ¬ x < w := fun {w} e => by
    obtain ⟨hp, as, bs, rfl, hn⟩ := List.find?_eq_some_iff_append.mp e
    refine ⟨by simp, hp, fun x hx px lt => ?_⟩
    rcases List.mem_append.mp hx with hx | hx
    · have := hn x hx
      rw [px] at this
      cases this
    · rcases List.mem_cons.mp hx with rfl | hx
      · exact wlt_irr _ lt
      · have h2 := (List.pairwise_append.mp h).2.1
        rw [List.pairwise_cons] at h2
        exact wlt_irr _ (wlt_tr lt (h2.1 x hx))
  refine ⟨fwd, fun ⟨h1, h2, h3⟩ => ?_⟩
  cases e : l.find? p with
  | none =>
    have := List.find?_eq_none.mp e w h1
    exact absurd h2 this
  | some v =>
    obtain ⟨g1, g2, g3⟩ := fwd e
    rw [wlt_tot (h3 v g1 g2) (g3 w h1 h2)]
theorem find_none {l : List (List Int)} {p : List Int → Bool} : l.find? p = none ↔ ∀ x, x ∈ l → p x = false := by
  rw [List.find?_eq_none]
  exact ⟨fun h x hx => by simpa using h x hx, fun h x hx => by simp [h x hx]⟩
/-! ### min of a list of ways -/
theorem minK_way : ∀ (l : List (List Int)) (w : List Int), ∃ v, v ∈ w :: l ∧ minK (wayK w) (l.map wayK) = wayK v ∧ ∀ x, x ∈ w :: l → ¬ x < v
  | [], w => ⟨w, by simp, rfl, fun x hx => by rw [List.mem_singleton] at hx; rw [hx]; exact wlt_irr w⟩
  | y :: l, w => by
    unfold minK
    rw [List.map_cons, List.foldl_cons, wayK_d, wayK_d, lt_way]
    by_cases c : y < w
    · rw [decide_eq_true c, if_pos rfl]
      obtain ⟨v, h1, h2, h3⟩ := minK_way l y
      refine ⟨v, List.mem_cons_of_mem _ h1, h2, fun x hx => ?_⟩
      rcases List.mem_cons.mp hx with rfl | hx
      · exact fun z => h3 y List.mem_cons_self (wlt_tr c z)
      · exact h3 x hx
    · rw [decide_eq_false c, if_neg (by decide)]
      obtain ⟨v, h1, h2, h3⟩ := minK_way l w
      refine ⟨v, ?_, h2, fun x hx => ?_⟩
      · rcases List.mem_cons.mp h1 with rfl | h1
        · exact List.mem_cons_self
        · exact List.mem_cons_of_mem _ (List.mem_cons_of_mem _ h1)
      · rcases List.mem_cons.mp hx with rfl | hx
        · exact h3 _ List.mem_cons_self
        · rcases List.mem_cons.mp hx with rfl | hx
          · intro z
            rcases List.mem_cons.mp h1 with rfl | h1
            · exact c z
            · have h4 := h3 w List.mem_cons_self
              by_cases c2 : v < x
              · exact wlt_irr _ (wlt_tr c2 z)
              · -- x < v, not x < w, not w < v
                by_cases c3 : w < x
                · exact h4 (wlt_tr c3 z)
                · rw [wlt_tot c c3] at z
                  exact h4 z
          · exact h3 x (List.mem_cons_of_mem _ hx)
theorem bMin_ways {l : List (List Int)} (h0 : l ≠ []) (hne : ∀ w, w ∈ l → w ≠ []) : ∃ v, v ∈ l ∧ bMinA [.lst (l.map wayD)] = some ⟨.cl, wayD v⟩ ∧ ∀ x, x ∈ l → ¬ x < v := by
  cases l with
  | nil => exact absurd rfl h0
  | cons w l =>
    obtain ⟨v, h1, h2, h3⟩ := minK_way l w
    refine ⟨v, h1, ?_, h3⟩
    have e : bMinL [.lst ((w :: l).map wayD)] = some ⟨.cl, wayD v⟩ := by
      rw [List.map_cons]
      show (if (wayD w :: l.map wayD).all isKey = true ∧ sortable (wayD w :: l.map wayD) = true then _ else _) = _
      have c1 : (wayD w :: l.map wayD).all isKey = true := by
        rw [← List.map_cons (f := wayD), List.all_eq_true]
        intro d hd
        obtain ⟨x, hx, rfl⟩ := List.mem_map.mp hd
        exact way_isKey (hne x hx)
      have c2 : sortable (wayD w :: l.map wayD) = true := by
        rw [← List.map_cons (f := wayD)]
        exact sortable_way _ hne
      have c3 : (l.map wayD).filterMap D.nk = l.map wayK := by
        rw [List.filterMap_map]
        have : (D.nk ∘ wayD) = fun w => some (wayK w) := funext wayK_nk
        rw [this]
        exact List.filterMap_eq_map (f := wayK) ▸ rfl
      rw [if_pos ⟨c1, c2⟩, wayK_nk, c3]
      show some (⟨.cl, nkd (minK (wayK w) (l.map wayK))⟩ : TV) = _
      rw [h2, wayK_d]
    show orElseL bMin2 bMinL _ = _
    unfold orElseL
    have e2 : bMin2 [.lst ((w :: l).map wayD)] = none := rfl
    rw [e2]
    exact e
/-! ### maps by any key -/
section
variable {κ : Type} [DecidableEq κ] {α : Type}
def gget (m : List (κ × α)) (k : κ) : Option α := (m.find? fun p => decide (p.1 = k)).map (·.2)
def gsdf (m : List (κ × α)) (k : κ) (v : α) : List (κ × α) := if (gget m k).isSome = true then m else m ++ [(k, v)]
theorem gget_app (m : List (κ × α)) (k j : κ) (v : α) : gget (m ++ [(k, v)]) j = (gget m j).or (if k = j then some v else none) := by
  unfold gget
  rw [List.find?_append]
  cases (m.find? fun p => decide (p.1 = j)) with
  | some p => rfl
  | none =>
    by_cases e : k = j
    · simp [e]
    · simp [e]
theorem gget_sdf (m : List (κ × α)) (k j : κ) (v : α) : gget (gsdf m k v) j = (gget m j).or (if k = j then some v else none) := by
  unfold gsdf
  split
  · rename_i h
    by_cases e : k = j
    · subst e
      obtain ⟨x, hx⟩ := Option.isSome_iff_exists.mp h
      rw [hx]
      rfl
    · rw [if_neg e]
      simp
  · exact gget_app m k j v
theorem gsdf_keys (m : List (κ × α)) (k : κ) (v : α) : (gsdf m k v).map (·.1) = if (gget m k).isSome = true then m.map (·.1) else m.map (·.1) ++ [k] := by
  unfold gsdf
  split
  · rfl
  · simp
theorem gget_mem {m : List (κ × α)} {k : κ} : (gget m k).isSome = true ↔ k ∈ m.map (·.1) := by
  unfold gget
  rw [Option.isSome_map, List.find?_isSome, List.mem_map]
  simp only [decide_eq_true_eq]
theorem gsdf_nd {m : List (κ × α)} (h : (m.map (·.1)).Nodup) (k : κ) (v : α) : ((gsdf m k v).map (·.1)).Nodup := by
  rw [gsdf_keys]
  split
  · exact h
  · rename_i c
    rw [gget_mem] at c
    refine List.nodup_append.mpr ⟨h, List.pairwise_singleton _ _, fun a ha b hb => ?_⟩
    rw [List.mem_singleton] at hb
    subst hb
    exact fun e => c (e ▸ ha)
theorem gget_of_mem {m : List (κ × α)} (nd : (m.map (·.1)).Nodup) {p : κ × α} (h : p ∈ m) : gget m p.1 = some p.2 := by
  induction m with
  | nil => cases h
  | cons q m ih =>
    rw [List.map_cons, List.nodup_cons] at nd
    unfold gget
    by_cases e : q.1 = p.1
    · rw [List.find?_cons_of_pos (by simp [e])]
      rcases List.mem_cons.mp h with rfl | h
      · rfl
      · exact absurd (List.mem_map_of_mem (f := (·.1)) h) (e ▸ nd.1)
    · rw [List.find?_cons_of_neg (by simp [e])]
      rcases List.mem_cons.mp h with rfl | h
      · exact absurd rfl e
      · exact ih nd.2 h
theorem mem_of_gget {m : List (κ × α)} {k : κ} {v : α} (h : gget m k = some v) : (k, v) ∈ m := by
  unfold gget at h
  rw [Option.map_eq_some_iff] at h
  obtain ⟨p, h1, rfl⟩ := h
  have h2 := List.find?_some h1
  have h3 := List.mem_of_find?_eq_some h1
  rw [decide_eq_true_eq] at h2
  rw [← h2]
  exact h3
/-- what the first of each key, put in order, gives -/
theorem gget_fold (key : α → κ) (k : κ) : ∀ (l : List α) (m : List (κ × α)), gget (l.foldl (fun m c => gsdf m (key c) c) m) k = (gget m k).or (l.find? fun c => decide (key c = k))
  | [], m => by simp
  | c :: l, m => by
    rw [List.foldl_cons, gget_fold key k l, gget_sdf]
    by_cases e : key c = k
    · rw [if_pos e, List.find?_cons_of_pos (by simp [e])]
      cases gget m k <;> simp
    · rw [if_neg e, List.find?_cons_of_neg (by simp [e])]
      cases gget m k <;> simp
theorem fold_nd (key : α → κ) : ∀ (l : List α) (m : List (κ × α)), (m.map (·.1)).Nodup → ((l.foldl (fun m c => gsdf m (key c) c) m).map (·.1)).Nodup
  | [], _, h => h
  | c :: l, m, h => by
    rw [List.foldl_cons]
    exact fold_nd key l _ (gsdf_nd h _ _)
theorem fold_mem (key : α → κ) : ∀ (l : List α) (m : List (κ × α)) (p : κ × α), p ∈ l.foldl (fun m c => gsdf m (key c) c) m → p ∈ m ∨ (p.1 = key p.2 ∧ p.2 ∈ l)
  | [], _, _, h => .inl h
  | c :: l, m, p, h => by
    rw [List.foldl_cons] at h
    rcases fold_mem key l _ p h with h | ⟨h1, h2⟩
    · unfold gsdf at h
      split at h
      · exact .inl h
      · rcases List.mem_append.mp h with h | h
        · exact .inl h
        · rw [List.mem_singleton] at h
          subst h
          exact .inr ⟨rfl, List.mem_cons_self⟩
    · exact .inr ⟨h1, List.mem_cons_of_mem _ h2⟩
end
/-! ### ways, and the least of each key -/
section
variable {κ : Type} [DecidableEq κ] (key : List Int → κ) (nx : κ → Nat → List Int)
def allW : Nat → List (List Int)
  | 0 => [[0]]
  | t + 1 => (allW t).flatMap fun w => (nx (key w) t).map fun o => w ++ [o]
def candW (vals : List (List Int)) (t : Nat) : List (List Int) := vals.flatMap fun w => (nx (key w) t).map fun o => w ++ [o]
theorem allW_len : ∀ (t : Nat) (w : List Int), w ∈ allW key nx t → w.length = t + 1
  | 0, w, h => by
    rw [allW, List.mem_singleton] at h
    subst h
    rfl
  | t + 1, w, h => by
    rw [allW, List.mem_flatMap] at h
    obtain ⟨v, hv, h⟩ := h
    obtain ⟨o, _, rfl⟩ := List.mem_map.mp h
    rw [List.length_append, allW_len t v hv]
    rfl
theorem cand_rise {t L : Nat} (hnx : ∀ k, (nx k t).Pairwise (· < ·)) {vals : List (List Int)} (hv : vals.Pairwise (· < ·)) (hl : ∀ w, w ∈ vals → w.length = L) : (candW key nx vals t).Pairwise (· < ·) := by
  unfold candW
  rw [List.pairwise_flatMap]
  refine ⟨fun w _ => ?_, hv.imp_of_mem fun {v u} hv hu z x hx y hy => ?_⟩
  · exact List.pairwise_map.mpr ((hnx (key w)).imp fun {a b} z => (app_lt rfl).mpr (.inr ⟨rfl, z⟩))
  · obtain ⟨a, _, rfl⟩ := List.mem_map.mp hx
    obtain ⟨b, _, rfl⟩ := List.mem_map.mp hy
    exact (app_lt (by rw [hl v hv, hl u hu])).mpr (.inl z)
theorem allW_rise (hnx : ∀ k t, (nx k t).Pairwise (· < ·)) : ∀ t, (allW key nx t).Pairwise (· < ·)
  | 0 => List.pairwise_singleton _ _
  | t + 1 => cand_rise key nx (hnx · t) (allW_rise hnx t) (allW_len key nx t)
/-- the least of each key is enough -/
theorem dp_step {δ : κ → Int → κ} (hδ : ∀ w o, key (w ++ [o]) = δ (key w) o) (hnx : ∀ k t, (nx k t).Pairwise (· < ·)) {t : Nat} {vals : List (List Int)} (hv : vals.Pairwise (· < ·))
    (hm : ∀ w, w ∈ vals ↔ ∃ k, (allW key nx t).find? (fun x => decide (key x = k)) = some w) (k : κ) : (candW key nx vals t).find? (fun x => decide (key x = k)) = (allW key nx (t + 1)).find? (fun x => decide (key x = k)) := by
  have r0 := allW_rise key nx hnx t
  have r1 := allW_rise key nx hnx (t + 1)
  have sub : ∀ w, w ∈ vals → w ∈ allW key nx t := fun w hw => by
    obtain ⟨k, e⟩ := (hm w).mp hw
    exact List.mem_of_find?_eq_some e
  have rc := cand_rise key nx (hnx · t) hv fun w hw => allW_len key nx t w (sub w hw)
  have subc : ∀ x, x ∈ candW key nx vals t → x ∈ allW key nx (t + 1) := fun x hx => by
    unfold candW at hx
    obtain ⟨v, h1, h2⟩ := List.mem_flatMap.mp hx
    rw [allW]
    exact List.mem_flatMap.mpr ⟨v, sub v h1, h2⟩
  cases e : (allW key nx (t + 1)).find? (fun x => decide (key x = k)) with
  | none =>
    exact find_none.mpr fun x hx => find_none.mp e x (subc x hx)
  | some w =>
    obtain ⟨h1, h2, h3⟩ := (find_rise r1).mp e
    refine (find_rise rc).mpr ⟨?_, h2, fun x hx px => h3 x (subc x hx) px⟩
    rw [allW] at h1
    obtain ⟨v, hv1, hv2⟩ := List.mem_flatMap.mp h1
    obtain ⟨o, ho, rfl⟩ := List.mem_map.mp hv2
    -- the least way with v's key
    cases e0 : (allW key nx t).find? (fun x => decide (key x = key v)) with
    | none => exact absurd (find_none.mp e0 v hv1) (by simp)
    | some v0 =>
      obtain ⟨g1, g2, g3⟩ := (find_rise r0).mp e0
      rw [decide_eq_true_eq] at g2
      have hv0 : v0 = v := by
        refine wlt_tot (fun z => ?_) (g3 v hv1 (by simp))
        refine h3 (v0 ++ [o]) ?_ ?_ ((app_lt (by rw [allW_len key nx t v0 g1, allW_len key nx t v hv1])).mpr (.inl z))
        · rw [allW]
          exact List.mem_flatMap.mpr ⟨v0, g1, List.mem_map.mpr ⟨o, by rw [g2]; exact ho, rfl⟩⟩
        · rw [hδ, g2, ← hδ]
          exact h2
      unfold candW
      exact List.mem_flatMap.mpr ⟨v, (hm v).mpr ⟨key v, hv0 ▸ e0⟩, hv2⟩
end
/-! ### whole numbers in order -/
theorem sortI_one {l l' : List Int} (h : l.Perm l') : sortI l = sortI l' := by
  have e := sortD_one (ks := l.map NestedKey.num) (ks' := l'.map NestedKey.num) (h.map _) fun a ha b hb => by
    obtain ⟨i, _, rfl⟩ := List.mem_map.mp ha
    obtain ⟨j, _, rfl⟩ := List.mem_map.mp hb
    rw [nkd, nkd]
    exact alike_int i j
  rw [← int_nkd, ← int_nkd, sortD_ints, sortD_ints] at e
  have inj : ∀ a b : List Int, a.map D.int = b.map D.int → a = b := fun a b h => by
    have e := way_eq2 a b
    unfold wayD at e
    rw [h] at e
    have e2 := way_eq2 b b
    unfold wayD at e2
    rw [e2] at e
    simpa using e.symm
  exact inj _ _ e
theorem sortI_lt {xs : List Int} (nd : xs.Nodup) : (sortI xs).Pairwise (· < ·) := by
  have h1 : (sortI xs).Pairwise fun a b => leD (.int a) (.int b) = true := List.pairwise_mergeSort (le := fun a b => leD (D.int a) (D.int b)) (fun a b c => leD_trans (.int a) (.int b) (.int c)) (fun a b => leD_total (.int a) (.int b)) xs
  have h2 : (sortI xs).Nodup := (sortI_perm xs).nodup_iff.mpr nd
  refine (h1.and h2).imp fun {a b} ⟨z1, z2⟩ => ?_
  rw [leD_is] at z1
  have e : ltD (.int b) (.int a) = decide (b < a) := PySem.W.dataLt_int b a
  rw [e, Bool.not_eq_true', decide_eq_false_iff_not] at z1
  omega
end UW
/-! Maps with keys (room, whether), as dicts. -/
namespace UW
open PySem PySem.Spec PyProof.Rows L2
abbrev KB := Int × Bool
def kbD (k : KB) : D := .tup [.int k.1, .bl k.2]
def kbN (k : KB) : NK := .tup [.num k.1, .num (if k.2 = true then 1 else 0)]
theorem kb_nk (k : KB) : isNK (kbD k) = some (kbN k) := nk_ib
theorem kb_nb (k : KB) : (kbD k).nb = some (kbN k) := by simp [kbD, kbN, D.nb, D.nbs]
theorem kbN_inj {a b : KB} (h : kbN a = kbN b) : a = b := by
  obtain ⟨a1, a2⟩ := a
  obtain ⟨b1, b2⟩ := b
  unfold kbN at h
  simp at h
  obtain ⟨h1, h2⟩ := h
  subst h1
  cases a2 <;> cases b2 <;> simp at h2 <;> rfl
section
variable {α : Type} (vd : α → D)
abbrev bKs (m : List (KB × α)) : List D := m.map fun p => kbD p.1
abbrev bVs (m : List (KB × α)) : List D := m.map fun p => vd p.2
theorem dgetN_kb (k : KB) : ∀ m : List (KB × α), dgetN (bKs m) (bVs vd m) (kbN k) = (gget m k).map vd
  | [] => rfl
  | p :: m => by
    show (if (kbD p.1).nb = some (kbN k) then some (vd p.2) else dgetN (bKs m) (bVs vd m) (kbN k)) = _
    unfold gget
    by_cases e : p.1 = k
    · rw [if_pos (by rw [kb_nb, e]), List.find?_cons_of_pos (by simp [e])]
      rfl
    · rw [if_neg (by rw [kb_nb]; exact fun z => e (kbN_inj (Option.some.inj z))), List.find?_cons_of_neg (by simp [e]), dgetN_kb k m]
      rfl
/-- the dict, own or locked -/
def bD (m : List (KB × α)) : D := match m with
  | [] => .dct [] []
  | _ :: _ => .dnt (bKs m) (bVs vd m)
def bF (m : List (KB × α)) : D := match m with
  | [] => .fdc [] []
  | _ :: _ => .fdn (bKs m) (bVs vd m)
@[simp] theorem lock_bD (m : List (KB × α)) : lockD (bD vd m) = bF vd m := by cases m <;> rfl
@[simp] theorem dic_bD (m : List (KB × α)) : dicOf (bD vd m) = some (bKs m, bVs vd m) := by cases m <;> rfl
@[simp] theorem dic_bF (m : List (KB × α)) : dicOf (bF vd m) = some (bKs m, bVs vd m) := by cases m <;> rfl
@[simp] theorem items_bF (m : List (KB × α)) : items (bF vd m) = some (bKs m) := by cases m <;> rfl
theorem ix_bF (m : List (KB × α)) {k : KB} {v : α} (h : gget m k = some v) : opIx (bF vd m) (kbD k) = some ⟨.cl, vd v⟩ := by
  cases m with
  | nil => cases h
  | cons p m =>
    show ((isNK (kbD k)).bind fun q => (dgetN (bKs (p :: m)) (bVs vd (p :: m)) q).map fun d => (⟨.cl, d⟩ : TV)) = _
    rw [kb_nk]
    show (dgetN (bKs (p :: m)) (bVs vd (p :: m)) (kbN k)).map _ = _
    rw [dgetN_kb, h]
    rfl
theorem in_bF (m : List (KB × α)) (k : KB) : opIn (kbD k) (bF vd m) = some ⟨.cl, .bl (gget m k).isSome⟩ := by
  cases m with
  | nil =>
    show opIn (.tup _) (.fdc [] []) = _
    rw [in_fdc0]
    show (isNK (kbD k)).map _ = _
    rw [kb_nk]
    rfl
  | cons p m =>
    show opIn (.tup _) (.fdn _ _) = _
    rw [in_fdn]
    show (isNK (kbD k)).map _ = _
    rw [kb_nk]
    show some (⟨.cl, .bl (dgetN (bKs (p :: m)) (bVs vd (p :: m)) (kbN k)).isSome⟩ : TV) = _
    rw [dgetN_kb, Option.isSome_map]
theorem sdf_bD {j : Nat} {a b : E} {ρ : DSt} {s s1 s2 : Sto} {m : List (KB × α)} {k : KB} {v : α} {ty tz : TV} (hm : m.length < 16777216) (ha : a ρ s = .ok ty s1) (hy : ty.d = kbD k) (hb : b ρ s1 = .ok tz s2) (hz : tz.keep = ⟨.cl, vd v⟩) (hj : ρ[j]? = some (.ow (bD vd m))) :
    sSdf j a b ρ s = .ok (.nx (ρ.set j (.ow (bD vd (gsdf m k v))))) s2 := by
  have same : ρ.set j (.ow (bD vd m)) = ρ := by
    apply List.ext_getElem?
    intro i
    by_cases e : j = i
    · subst e
      rw [List.getElem?_set_self (List.getElem?_eq_some_iff.mp hj).1, hj]
    · rw [List.getElem?_set_ne e]
  rw [x_sdf, hj]
  have fin : sdfN j (bKs m) (bVs vd m) (kbD k) (vd v) ρ s2 (isNK (kbD k)) = .ok (.nx (ρ.set j (.ow (bD vd (gsdf m k v))))) s2 := by
    rw [kb_nk]
    show (if (bKs m).length < 16777216 then _ else _) = _
    rw [if_pos (by rw [List.length_map]; exact hm), dgetN_kb, Option.isSome_map]
    unfold gsdf
    by_cases c : (gget m k).isSome = true
    · rw [if_pos c, if_pos c, same]
    · rw [if_neg c, if_neg c]
      have e1 : dputNK (bKs m) (bVs vd m) (kbD k) (kbN k) = bKs (m ++ [(k, v)]) := by
        unfold dputNK
        rw [dgetN_kb, Option.isSome_map, if_neg c]
        simp
      have e2 : dputNV (bKs m) (bVs vd m) (kbN k) (vd v) = bVs vd (m ++ [(k, v)]) := by
        unfold dputNV
        rw [dgetN_kb, Option.isSome_map, if_neg c]
        simp
      rw [e1, e2]
      have e3 : bD vd (m ++ [(k, v)]) = .dnt (bKs (m ++ [(k, v)])) (bVs vd (m ++ [(k, v)])) := by cases m <;> rfl
      rw [e3]
  cases m with
  | nil =>
    show sdfK2 j [] [] b ρ (a ρ s) = _
    rw [ha]
    show sdfK3 j [] [] ty.d ρ (b ρ s1) = _
    rw [hb]
    show sdfK4 j [] [] ty.d ρ s2 tz.keep = _
    rw [hz, hy]
    exact fin
  | cons p m =>
    show sdfK2N j _ _ b ρ (a ρ s) = _
    rw [ha]
    show sdfK3N j _ _ ty.d ρ (b ρ s1) = _
    rw [hb]
    show sdfK4N j _ _ ty.d ρ s2 tz.keep = _
    rw [hz, hy]
    exact fin
end
/-- whole, whether: how many keys there can be -/
theorem kb_few {α : Type} {m : List (KB × α)} {n : Int} (nd : (m.map (·.1)).Nodup) (h : ∀ k, k ∈ m.map (·.1) → 0 ≤ k.1 ∧ k.1 < n) : m.length ≤ 2 * n.toNat := by
  have e : m.length = ((m.map (·.1)).filter fun k => k.2).length + ((m.map (·.1)).filter fun k => !k.2).length := by
    rw [← List.length_map (f := (·.1)) (as := m)]
    generalize m.map (·.1) = l
    induction l with
    | nil => rfl
    | cons k l ih =>
      cases q : k.2 <;> simp [q] <;> omega
  have key : ∀ b : Bool, ((m.map (·.1)).filter fun k => k.2 == b).length ≤ n.toNat := fun b => by
    have nd2 : (((m.map (·.1)).filter fun k => k.2 == b).map (·.1)).Nodup := by
      refine List.pairwise_map.mpr ((List.Pairwise.sublist List.filter_sublist nd).imp_of_mem fun {x y} hx hy ne e => ne ?_)
      have h1 := (List.mem_filter.mp hx).2
      have h2 := (List.mem_filter.mp hy).2
      exact Prod.ext e ((eq_of_beq h1).trans (eq_of_beq h2).symm)
    have := few_keys nd2 (n := n) fun x hx => by
      obtain ⟨k, hk, rfl⟩ := List.mem_map.mp hx
      exact h k (List.mem_filter.mp hk).1
    rwa [List.length_map] at this
  have k1 := key true
  have k2 := key false
  have e1 : ((m.map (·.1)).filter fun k => k.2 == true) = (m.map (·.1)).filter fun k => k.2 := List.filter_congr fun k _ => by cases k.2 <;> rfl
  have e2 : ((m.map (·.1)).filter fun k => k.2 == false) = (m.map (·.1)).filter fun k => !k.2 := List.filter_congr fun k _ => by cases k.2 <;> rfl
  rw [e1] at k1
  rw [e2] at k2
  omega
/-! ### ways with whether, in order -/
def prD (x : List Int × Bool) : D := .tup [wayD x.1, .bl x.2]
def pvS (l : List (List Int × Bool)) : List (List Int × Bool) := l.mergeSort fun a b => leD (prD a) (prD b)
theorem pvS_perm (l : List (List Int × Bool)) : (pvS l).Perm l := List.mergeSort_perm _ _
theorem pvS_sort (l : List (List Int × Bool)) : sortD (l.map prD) = (pvS l).map prD := (List.map_mergeSort (r := fun a b => leD (prD a) (prD b)) (s := leD) (f := prD) (l := l) (fun a _ b _ => rfl)).symm
theorem prD_fine (x : List Int × Bool) : (prD x).fine 2 = true := by
  have := way_fine x.1
  simp only [prD, D.fine, List.all_cons, List.all_nil, Bool.and_true, this]
theorem prD_alike (a b : List Int × Bool) : PySem.W.alike (prD a).pd (prD b).pd = true := by
  have e : ∀ x : List Int × Bool, (prD x).pd = .tuple [.tuple (x.1.map PyData.int), .bool x.2] := fun x => by
    unfold prD
    rw [D.pd, D.pds, D.pds, D.pds, way_pd, D.pd]
  rw [e, e]
  simp [PySem.W.alike, PySem.W.alikeAll, way_alike]
theorem sortable_pr (l : List (List Int × Bool)) : sortable (l.map prD) = true := by
  unfold sortable
  simp only [Bool.and_eq_true, Bool.or_eq_true, List.all_eq_true]
  refine ⟨⟨fun d hd => ?_, fun d hd e he => ?_⟩, .inl fun d hd => ?_⟩
  · obtain ⟨p, _, rfl⟩ := List.mem_map.mp hd
    obtain ⟨h1, _, h3⟩ := fine_is 2 _ (prD_fine p)
    exact ⟨h1, decide_eq_true (by omega)⟩
  · obtain ⟨p, _, rfl⟩ := List.mem_map.mp hd
    obtain ⟨q, _, rfl⟩ := List.mem_map.mp he
    exact prD_alike p q
  · obtain ⟨p, _, rfl⟩ := List.mem_map.mp hd
    rfl
/-- in order, and no way twice: the ways rise -/
theorem pvS_rise {l : List (List Int × Bool)} (nd : (l.map (·.1)).Nodup) : ((pvS l).map (·.1)).Pairwise (· < ·) := by
  have h1 : (pvS l).Pairwise fun a b => leD (prD a) (prD b) = true := List.pairwise_mergeSort (le := fun a b => leD (prD a) (prD b)) (fun a b c => leD_trans (prD a) (prD b) (prD c)) (fun a b => leD_total (prD a) (prD b)) l
  have h2 : ((pvS l).map (·.1)).Nodup := ((pvS_perm l).map _).nodup_iff.mpr nd
  rw [List.Nodup, List.pairwise_map] at h2
  rw [List.pairwise_map]
  refine (h1.and h2).imp fun {a b} ⟨z1, z2⟩ => ?_
  rw [leD_is] at z1
  have e : ltD (prD b) (prD a) = ltD (wayD b.1) (wayD a.1) := by
    unfold prD
    rw [ltD_cons (way_al _ _), if_neg (by rw [way_eq2]; simpa using fun z => z2 z.symm)]
  rw [e, lt_way] at z1
  by_cases c : a.1 < b.1
  · exact c
  · exact absurd (wlt_tot c (by simpa using z1)) z2
end UW
/-! Running dicts of the store; maps with keys that are two whole numbers. -/
namespace UW
open PySem PySem.Spec PyProof.Rows L2
section
variable {a b o : E} {ρ : DSt} {s : Sto} {x : TV} {d dv : D} {ks vs : List D} {i : Nat}
def stoK (r : Res TV) : Res TV := r.bind fun x s1 => match x with
  | ⟨.fr, d⟩ => (match obOf d with
    | some ob => .ok ⟨.cl, .ref s1.length⟩ (s1 ++ [ob])
    | none => .bad)
  | _ => .bad
@[simp] theorem x_sto : eSto a ρ s = stoK (a ρ s) := rfl
@[simp] theorem sto1 : stoK (.ok ⟨.fr, .dnt ks vs⟩ s) = .ok ⟨.cl, .ref s.length⟩ (s ++ [.dnt ks vs]) := rfl
@[simp] theorem sto2 : stoK (.ok ⟨.fr, .dct [] []⟩ s) = .ok ⟨.cl, .ref s.length⟩ (s ++ [.dnt [] []]) := rfl
@[simp] theorem sto3 : stoK (.ok ⟨.fr, .lst ks⟩ s) = .ok ⟨.cl, .ref s.length⟩ (s ++ [.lst ks]) := rfl
def ixsK2 (d : D) (r : Res TV) : Res TV := r.bind fun y s2 => ixS d y.d s2
def ixsK (b : E) (ρ : DSt) (r : Res TV) : Res TV := r.bind fun x s1 => ixsK2 x.d (b ρ s1)
@[simp] theorem x_ixs : eIxS a b ρ s = ixsK b ρ (a ρ s) := rfl
@[simp] theorem ixs1 : ixsK b ρ (.ok x s) = ixsK2 x.d (b ρ s) := rfl
@[simp] theorem ixs2 : ixsK2 d (.ok x s) = ixS d x.d s := rfl
def lstsK (r : Res TV) : Res TV := r.bind fun x s1 => lstS x.d s1
@[simp] theorem x_lsts : eLstS a ρ s = lstsK (a ρ s) := rfl
@[simp] theorem lsts1 : lstsK (.ok x s) = lstS x.d s := rfl
def gtsK3 (dx dy : D) (r : Res TV) : Res TV := r.bind fun z s3 => getS dx dy z s3
def gtsK2 (dx : D) (b : E) (ρ : DSt) (r : Res TV) : Res TV := r.bind fun y s2 => gtsK3 dx y.d (b ρ s2)
def gtsK1 (dx : D) (a b : E) (ρ : DSt) (s1 : Sto) (t : Bool) : Res TV := if t = true then gtsK2 dx b ρ (a ρ s1) else .bad
def gtsK (a b : E) (ρ : DSt) (r : Res TV) : Res TV := r.bind fun x s1 => gtsK1 x.d a b ρ s1 (isDnS x.d s1)
@[simp] theorem x_gts : eDGetS o a b ρ s = gtsK a b ρ (o ρ s) := rfl
@[simp] theorem gts0 : gtsK a b ρ (.ok x s) = gtsK1 x.d a b ρ s (isDnS x.d s) := rfl
@[simp] theorem gts1 : gtsK1 d a b ρ s true = gtsK2 d b ρ (a ρ s) := rfl
@[simp] theorem gts2 : gtsK2 d b ρ (.ok x s) = gtsK3 d x.d (b ρ s) := rfl
@[simp] theorem gts3 {e : D} : gtsK3 d e (.ok x s) = getS d e x s := rfl
def ptsK3 (dv dz : D) (ρ : DSt) (r : Res TV) : Res Out := r.bind fun y s3 => putS dz y.d dv ρ s3
def ptsK2 (dv : D) (k : E) (ρ : DSt) (r : Res TV) : Res Out := r.bind fun z s2 => ptsK3 dv z.d ρ (k ρ s2)
def ptsK1 (fo fk : E) (ρ : DSt) (s1 : Sto) (x : TV) : Res Out := match x with
  | ⟨.cl, dv⟩ => ptsK2 dv fk ρ (fo ρ s1)
  | _ => .bad
def ptsK (fo fk : E) (ρ : DSt) (r : Res TV) : Res Out := r.bind fun x s1 => ptsK1 fo fk ρ s1 x.keep
@[simp] theorem x_pts : sPutS o a b ρ s = ptsK o a ρ (b ρ s) := by
  unfold sPutS
  cases b ρ s with
  | ok x s1 => (obtain ⟨t, d⟩ := x; cases t <;> rfl)
  | exc c s1 => rfl
  | bad => rfl
@[simp] theorem pts0 : ptsK o a ρ (.ok x s) = ptsK1 o a ρ s x.keep := rfl
@[simp] theorem pts1 : ptsK1 o a ρ s ⟨.cl, dv⟩ = ptsK2 dv a ρ (o ρ s) := rfl
@[simp] theorem pts2 : ptsK2 dv a ρ (.ok x s) = ptsK3 dv x.d ρ (a ρ s) := rfl
@[simp] theorem pts3 : ptsK3 dv d ρ (.ok x s) = putS d x.d dv ρ s := rfl
def remK1 (j : Nat) (ds : List D) (ρ : DSt) (r : Res TV) : Res Out := r.bind fun x s1 => remAt j ds x.d ρ s1
def remK (j : Nat) (e : E) (ρ : DSt) (s : Sto) (l : Option Sl) : Res Out := match l with
  | some (.ow (.lst ds)) => remK1 j ds ρ (e ρ s)
  | _ => .bad
@[simp] theorem x_rem {j : Nat} : sRem j a ρ s = remK j a ρ s ρ[j]? := by
  unfold sRem remK
  cases ρ[j]? with
  | none => rfl
  | some w =>
    cases w with
    | ow d => cases d <;> rfl
    | _ => rfl
@[simp] theorem rem0 {j : Nat} {ds : List D} : remK j a ρ s (some (.ow (.lst ds))) = remK1 j ds ρ (a ρ s) := rfl
@[simp] theorem rem1 {j : Nat} {ds : List D} : remK1 j ds ρ (.ok x s) = remAt j ds x.d ρ s := rfl
def lnsK (r : Res TV) : Res TV := r.bind fun x s1 => match lenSetOp x.d with
  | some tv => .ok tv s1
  | none => .bad
@[simp] theorem x_lns : eLenSet a ρ s = lnsK (a ρ s) := rfl
theorem lns1 {tv : TV} (h : lenSetOp x.d = some tv) : lnsK (.ok x s) = .ok tv s := by
  show (match lenSetOp x.d with | some tv => Res.ok tv s | none => .bad) = _
  rw [h]
end
/-! ### keys that are two whole numbers -/
abbrev Nd := Int × Int
def ndD (k : Nd) : D := .tup [.int k.1, .int k.2]
def ndN (k : Nd) : NK := .tup [.num k.1, .num k.2]
theorem nd_nb (k : Nd) : (ndD k).nb = some (ndN k) := by simp [ndD, ndN, D.nb, D.nbs]
theorem nd_nk (k : Nd) : isNK (ndD k) = some (ndN k) := by
  have e : isNK (ndD k) = (match (ndD k).nb with
    | some k => if k.depth ≤ 8 then some k else none
    | none => none) := rfl
  rw [e, nd_nb]
  exact if_pos (by show NestedKey.depth (.tup [.num k.1, .num k.2]) ≤ 8; simp [NestedKey.depth, NestedKey.depthAll])
theorem ndN_inj {a b : Nd} (h : ndN a = ndN b) : a = b := by
  obtain ⟨a1, a2⟩ := a
  obtain ⟨b1, b2⟩ := b
  unfold ndN at h
  simp at h
  rw [h.1, h.2]
theorem nd_fine (k : Nd) : (ndD k).fine 1 = true := rfl
def gput {κ α : Type} [DecidableEq κ] (m : List (κ × α)) (k : κ) (v : α) : List (κ × α) := if (gget m k).isSome = true then m.map (fun p => if p.1 = k then (p.1, v) else p) else m ++ [(k, v)]
theorem gget_gput {κ α : Type} [DecidableEq κ] (m : List (κ × α)) (k j : κ) (v : α) : gget (gput m k v) j = if j = k then some v else gget m j := by
  unfold gput
  by_cases c : (gget m k).isSome = true
  · rw [if_pos c]
    have key : ∀ l : List (κ × α), gget (l.map fun p => if p.1 = k then (p.1, v) else p) j = if j = k then (gget l k).map (fun _ => v) else gget l j := by
      intro l
      induction l with
      | nil => by_cases e : j = k <;> simp [gget, e]
      | cons p l ih =>
        unfold gget at ih ⊢
        rw [List.map_cons]
        by_cases e : p.1 = j
        · by_cases e2 : p.1 = k
          · have e3 : j = k := e.symm.trans e2
            rw [if_pos e2, if_pos e3, List.find?_cons_of_pos (by simp [e]), List.find?_cons_of_pos (by simp [e2])]
            rfl
          · rw [if_neg e2, List.find?_cons_of_pos (by simp [e]), if_neg (fun z => e2 (e.trans z)), List.find?_cons_of_pos (by simp [e])]
        · rw [List.find?_cons_of_neg (by split <;> simp [e]), ih]
          by_cases e3 : j = k
          · rw [if_pos e3, if_pos e3, List.find?_cons_of_neg (by rw [← e3]; simp [e])]
          · rw [if_neg e3, if_neg e3, List.find?_cons_of_neg (by simp [e])]
    rw [key]
    by_cases e : j = k
    · rw [if_pos e, if_pos e]
      obtain ⟨w, hw⟩ := Option.isSome_iff_exists.mp c
      rw [hw]
      rfl
    · rw [if_neg e, if_neg e]
  · rw [if_neg c, gget_app]
    by_cases e : j = k
    · subst e
      have n : gget m j = none := by simpa using c
      rw [if_pos rfl, if_pos rfl, n]
      rfl
    · rw [if_neg (fun z => e z.symm), if_neg e, Option.or_none]
theorem gput_keys {κ α : Type} [DecidableEq κ] (m : List (κ × α)) (k : κ) (v : α) : (gput m k v).map (·.1) = if (gget m k).isSome = true then m.map (·.1) else m.map (·.1) ++ [k] := by
  unfold gput
  by_cases c : (gget m k).isSome = true
  · rw [if_pos c, if_pos c, List.map_map]
    refine List.map_congr_left fun p _ => ?_
    show (if p.1 = k then (p.1, v) else p).1 = p.1
    split <;> rfl
  · rw [if_neg c, if_neg c, List.map_append]
    rfl
section
variable {α : Type} (vd : α → D)
abbrev nKs (m : List (Nd × α)) : List D := m.map fun p => ndD p.1
abbrev nVs (m : List (Nd × α)) : List D := m.map fun p => vd p.2
theorem dgetN_nd (k : Nd) : ∀ m : List (Nd × α), dgetN (nKs m) (nVs vd m) (ndN k) = (gget m k).map vd
  | [] => rfl
  | p :: m => by
    show (if (ndD p.1).nb = some (ndN k) then some (vd p.2) else dgetN (nKs m) (nVs vd m) (ndN k)) = _
    unfold gget
    by_cases e : p.1 = k
    · rw [if_pos (by rw [nd_nb, e]), List.find?_cons_of_pos (by simp [e])]
      rfl
    · rw [if_neg (by rw [nd_nb]; exact fun z => e (ndN_inj (Option.some.inj z))), List.find?_cons_of_neg (by simp [e]), dgetN_nd k m]
      rfl
theorem dsetN_nd (k : Nd) (v : α) : ∀ m : List (Nd × α), dsetN (nKs m) (nVs vd m) (ndN k) (vd v) = nVs vd (m.map fun p => if p.1 = k then (p.1, v) else p)
  | [] => rfl
  | p :: m => by
    show (if (ndD p.1).nb = some (ndN k) then vd v else vd p.2) :: dsetN (nKs m) (nVs vd m) (ndN k) (vd v) = _
    rw [dsetN_nd k v m]
    by_cases e : p.1 = k
    · rw [if_pos (by rw [nd_nb, e])]
      simp [e]
    · rw [if_neg (by rw [nd_nb]; exact fun z => e (ndN_inj (Option.some.inj z)))]
      simp [e]
theorem dputK_nd (m : List (Nd × α)) (k : Nd) (v : α) : dputNK (nKs m) (nVs vd m) (ndD k) (ndN k) = nKs (gput m k v) := by
  unfold dputNK
  rw [dgetN_nd, Option.isSome_map]
  have e := gput_keys m k v
  have e2 : ∀ l : List (Nd × α), nKs l = (l.map (·.1)).map ndD := fun l => by rw [List.map_map]; rfl
  rw [e2, e2, e]
  split
  · rfl
  · rw [List.map_append]
    rfl
theorem dputV_nd (m : List (Nd × α)) (k : Nd) (v : α) : dputNV (nKs m) (nVs vd m) (ndN k) (vd v) = nVs vd (gput m k v) := by
  unfold dputNV gput
  rw [dgetN_nd, Option.isSome_map]
  split
  · exact dsetN_nd vd k v m
  · show _ = List.map _ (m ++ [(k, v)])
    rw [List.map_append]
    rfl
/-- the dict, own or locked -/
def nO (m : List (Nd × α)) : D := match m with
  | [] => .dct [] []
  | _ :: _ => .dnt (nKs m) (nVs vd m)
theorem nO_ne {m : List (Nd × α)} (h : m ≠ []) : nO vd m = .dnt (nKs m) (nVs vd m) := by
  cases m with
  | nil => exact absurd rfl h
  | cons _ _ => rfl
theorem gput_ne (m : List (Nd × α)) (k : Nd) (v : α) : gput m k v ≠ [] := by
  unfold gput
  split
  · rename_i h
    cases m with
    | nil => cases h
    | cons _ _ => exact fun z => nomatch z
  · simp
end
/-! ### nodes in order -/
def ndLe (a b : Nd) : Bool := leD (ndD a) (ndD b)
def sortN (l : List Nd) : List Nd := l.mergeSort ndLe
theorem sortN_perm (l : List Nd) : (sortN l).Perm l := List.mergeSort_perm _ _
theorem sortN_sort (l : List Nd) : sortD (l.map ndD) = (sortN l).map ndD := (List.map_mergeSort (r := ndLe) (s := leD) (f := ndD) (l := l) (fun a _ b _ => rfl)).symm
theorem nd_alike (a b : Nd) : PySem.W.alike (ndD a).pd (ndD b).pd = true := by
  have e : ∀ x : Nd, (ndD x).pd = .tuple [.int x.1, .int x.2] := fun x => by
    unfold ndD
    rw [D.pd, D.pds, D.pds, D.pds, D.pd, D.pd]
  rw [e, e]
  simp [PySem.W.alike, PySem.W.alikeAll]
theorem sortable_nd (l : List Nd) : sortable (l.map ndD) = true := by
  unfold sortable
  simp only [Bool.and_eq_true, Bool.or_eq_true, List.all_eq_true]
  refine ⟨⟨fun d hd => ?_, fun d hd e he => ?_⟩, .inl fun d hd => ?_⟩
  · obtain ⟨p, _, rfl⟩ := List.mem_map.mp hd
    obtain ⟨h1, _, h3⟩ := fine_is 1 _ (nd_fine p)
    exact ⟨h1, decide_eq_true (by omega)⟩
  · obtain ⟨p, _, rfl⟩ := List.mem_map.mp hd
    obtain ⟨q, _, rfl⟩ := List.mem_map.mp he
    exact nd_alike p q
  · obtain ⟨p, _, rfl⟩ := List.mem_map.mp hd
    rfl
theorem o_sortN (l : List Nd) (h : l.length ≤ 16777216) : bSorted [.lst (l.map ndD)] = some ⟨.fr, .lst ((sortN l).map ndD)⟩ := by
  rw [← sortN_sort]
  exact if_pos ⟨sortable_nd l, by rw [List.length_map]; exact h⟩
end UW
namespace Q13
open PySem PySem.Spec PyProof.Rows L2 UW
def top (i : Nat) : Stmt := PySem.Challenge.pw_unseenways_k13_whole_at_bounds.main.body.getD i (.Pass ⟨0, 0, 0, 0⟩)
def excs : List Str := ["NoHouse", "NoWatchers", "NoGoal", "NoWay", "NoCount", "NoPaper", "NoRoom", "Never", "NoText", "Nothing"]
def gis : List (Str × Int) := [("ROOMS", 10), ("DOORS", 20), ("WATCHERS", 12), ("BEATS", 6), ("LONG", 40), ("MANY", 30), ("MOST", 30)]
def gss : List (Str × Str) := []

def whichF : FnE := fun c s => match idx excs c with
  | some i => .ok ⟨.cl, .tup [.str "refused", .int i]⟩ s
  | none => .bad
abbrev s_is_whole : Stmt := top 17
def fns_is_whole : Tbl := []
def c_is_whole : Cc := ⟨["thing", "low", "most"], defScope s_is_whole, fns_is_whole, gis, gss, excs, true, none, none, [], [], [], 400⟩
def t_is_whole : S :=
  (sRet (eAnd (eIsi "int" (eVar 0)) (eAnd (eNot (eIsi "bool" (eVar 0))) (eChain (fun i j => decide (i ≤ j)) (fun i j => decide (i ≤ j)) (eVar 1) (eVar 0) (eVar 2)))))
def m_is_whole : Fn := runFn ["thing", "low", "most"] t_is_whole
theorem tr_is_whole : trS 30 c_is_whole (defBody s_is_whole) = t_is_whole := by kernel_rfl
abbrev s_is_rising : Stmt := top 18
def fns_is_rising : Tbl := []
def c_is_rising : Cc := ⟨["thing", "one", "other"], defScope s_is_rising, fns_is_rising, gis, gss, excs, true, none, none, [], [], [], 400⟩
def t_is_rising : S :=
  (sRet (eB bAll (lCons (eComp [1, 2] (iZip (lCons (eVar 0) (lCons (eSl (eVar 0) (oSome (eC (.int (1)))) oNone) lNil))) (gT (gsCons (gN 1) (gsCons (gN 2) gsNil))) tT (eOp opLt (eVar 1) (eVar 2))) lNil)))
def m_is_rising : Fn := runFn ["thing", "one", "other"] t_is_rising
theorem tr_is_rising : trS 30 c_is_rising (defBody s_is_rising) = t_is_rising := by kernel_rfl
abbrev s_is_door : Stmt := top 19
def fns_is_door : Tbl := [("is_whole", 3, m_is_whole)]
def c_is_door : Cc := ⟨["rooms", "thing", "room"], defScope s_is_door, fns_is_door, gis, gss, excs, true, none, none, ["rooms"], [], [], 400⟩
def t_is_door : S :=
  (sSeq (sIf (tOr (tNot (tOf (eIsi "tuple" (eVar 1)))) (tOr (tOf (eOp opNe (eLen (lCons (eVar 1) lNil)) (eC (.int (2))))) (tNot (tOf (eB bAll (lCons (eComp [2] (iAny (eVar 1)) (gN 2) tT (eCall m_is_whole (lCons (eVar 2) (lCons (eC (.int (0))) (lCons (eOp opSub (eVar 0) (eC (.int (1)))) lNil))))) lNil))))))
    (sRet (eC (.bl false)))
    sNil)
  (sRet (eOp opLt (eIx (eVar 1) (eC (.int (0)))) (eIx (eVar 1) (eC (.int (1)))))))
def m_is_door : Fn := runFn ["rooms", "thing", "room"] t_is_door
theorem tr_is_door : trS 30 c_is_door (defBody s_is_door) = t_is_door := by kernel_rfl
abbrev s_is_house : Stmt := top 20
def fns_is_house : Tbl := [("is_rising", 1, m_is_rising), ("is_whole", 3, m_is_whole), ("is_door", 2, m_is_door)]
def c_is_house : Cc := ⟨["thing", "door"], defScope s_is_house, fns_is_house, gis, gss, excs, true, none, none, ["thing"], [], [], 400⟩
def t_is_house : S :=
  (sSeq (sIf (tOr (tNot (tOf (eIsi "tuple" (eVar 0)))) (tOr (tOf (eOp opNe (eLen (lCons (eVar 0) lNil)) (eC (.int (2))))) (tNot (tOf (eCall m_is_whole (lCons (eIx (eVar 0) (eC (.int (0)))) (lCons (eC (.int (2))) (lCons (eC (.int (10))) lNil))))))))
    (sRet (eC (.bl false)))
    sNil)
  (sSeq (sIf (tOr (tNot (tOf (eIsi "tuple" (eIx (eVar 0) (eC (.int (1))))))) (tOf (eOp opGtI (eLen (lCons (eIx (eVar 0) (eC (.int (1)))) lNil)) (eC (.int (20))))))
    (sRet (eC (.bl false)))
    sNil)
  (sRet (eAnd (eB bAll (lCons (eComp [1] (iAny (eIx (eVar 0) (eC (.int (1))))) (gN 1) tT (eCall m_is_door (lCons (eIx (eVar 0) (eC (.int (0)))) (lCons (eVar 1) lNil)))) lNil)) (eCall m_is_rising (lCons (eIx (eVar 0) (eC (.int (1)))) lNil))))))
def m_is_house : Fn := runFn ["thing", "door"] t_is_house
theorem tr_is_house : trS 30 c_is_house (defBody s_is_house) = t_is_house := by kernel_rfl
abbrev s_need_house : Stmt := top 21
def fns_need_house : Tbl := [("is_house", 1, m_is_house)]
def c_need_house : Cc := ⟨["thing"], defScope s_need_house, fns_need_house, gis, gss, excs, true, none, none, [], [], [], 400⟩
def t_need_house : S :=
  (sIf (tNot (tOf (eCall m_is_house (lCons (eVar 0) lNil))))
    (sRaise "NoHouse")
    sNil)
def m_need_house : Fn := runFn ["thing"] t_need_house
theorem tr_need_house : trS 30 c_need_house (defBody s_need_house) = t_need_house := by kernel_rfl
abbrev s_all_spots : Stmt := top 22
def fns_all_spots : Tbl := []
def c_all_spots : Cc := ⟨["house", "door", "room"], defScope s_all_spots, fns_all_spots, gis, gss, excs, true, none, none, [], [], [], 400⟩
def t_all_spots : S :=
  (sRet (eOp opAdd (eComp [1] (iAny (eIx (eVar 0) (eC (.int (1))))) (gN 1) tT (eOp opAdd (eTup (lCons (eC (.str "door")) lNil)) (eVar 1))) (eComp [2] (iRange (lCons (eC (.int (1))) (lCons (eIx (eVar 0) (eC (.int (0)))) lNil))) (gN 2) tT (eTup (lCons (eC (.str "room")) (lCons (eVar 2) lNil))))))
def m_all_spots : Fn := runFn ["house", "door", "room"] t_all_spots
theorem tr_all_spots : trS 30 c_all_spots (defBody s_all_spots) = t_all_spots := by kernel_rfl
abbrev s_is_spot : Stmt := top 23
def fns_is_spot : Tbl := [("all_spots", 1, m_all_spots), ("is_whole", 3, m_is_whole)]
def c_is_spot : Cc := ⟨["house", "thing", "number"], defScope s_is_spot, fns_is_spot, gis, gss, excs, true, none, none, ["house"], [], [], 400⟩
def t_is_spot : S :=
  (sSeq (sIf (tOr (tNot (tOf (eIsi "tuple" (eVar 1)))) (tOr (tOf (eOp opEq (eVar 1) (eTup lNil))) (tNot (tOf (eIsi "str" (eIx (eVar 1) (eC (.int (0)))))))))
    (sRet (eC (.bl false)))
    sNil)
  (sSeq (sIf (tNot (tOf (eB bAll (lCons (eComp [2] (iAny (eSl (eVar 1) (oSome (eC (.int (1)))) oNone)) (gN 2) tT (eCall m_is_whole (lCons (eVar 2) (lCons (eC (.int (0))) (lCons (eIx (eVar 0) (eC (.int (0)))) lNil))))) lNil))))
    (sRet (eC (.bl false)))
    sNil)
  (sRet (eOp opIn (eVar 1) (eCall m_all_spots (lCons (eVar 0) lNil))))))
def m_is_spot : Fn := runFn ["house", "thing", "number"] t_is_spot
theorem tr_is_spot : trS 30 c_is_spot (defBody s_is_spot) = t_is_spot := by kernel_rfl
abbrev s_is_watcher : Stmt := top 24
def fns_is_watcher : Tbl := [("is_spot", 2, m_is_spot)]
def c_is_watcher : Cc := ⟨["house", "thing", "sign"], defScope s_is_watcher, fns_is_watcher, gis, gss, excs, true, none, none, [], [], [], 400⟩
def t_is_watcher : S :=
  (sSeq (sIf (tOr (tNot (tOf (eIsi "tuple" (eVar 1)))) (tOr (tOf (eOp opNe (eLen (lCons (eVar 1) lNil)) (eC (.int (2))))) (tNot (tOf (eCall m_is_spot (lCons (eVar 0) (lCons (eIx (eVar 1) (eC (.int (0)))) lNil)))))))
    (sRet (eC (.bl false)))
    sNil)
  (sRet (eAnd (eIsi "str" (eIx (eVar 1) (eC (.int (1))))) (eAnd (eChain (fun i j => decide (i ≤ j)) (fun i j => decide (i ≤ j)) (eC (.int (1))) (eLen (lCons (eIx (eVar 1) (eC (.int (1)))) lNil)) (eC (.int (6)))) (eB bAll (lCons (eComp [2] (iAny (eIx (eVar 1) (eC (.int (1))))) (gN 2) tT (eOp opIn (eVar 2) (eC (.str "#.")))) lNil))))))
def m_is_watcher : Fn := runFn ["house", "thing", "sign"] t_is_watcher
theorem tr_is_watcher : trS 30 c_is_watcher (defBody s_is_watcher) = t_is_watcher := by kernel_rfl
abbrev s_are_watching : Stmt := top 25
def fns_are_watching : Tbl := [("is_rising", 1, m_is_rising), ("is_watcher", 2, m_is_watcher)]
def c_are_watching : Cc := ⟨["house", "thing", "one"], defScope s_are_watching, fns_are_watching, gis, gss, excs, true, none, none, ["house"], [], [], 400⟩
def t_are_watching : S :=
  (sSeq (sIf (tOr (tNot (tOf (eIsi "tuple" (eVar 1)))) (tOr (tOf (eOp opGtI (eLen (lCons (eVar 1) lNil)) (eC (.int (12))))) (tNot (tOf (eB bAll (lCons (eComp [2] (iAny (eVar 1)) (gN 2) tT (eCall m_is_watcher (lCons (eVar 0) (lCons (eVar 2) lNil)))) lNil))))))
    (sRet (eC (.bl false)))
    sNil)
  (sRet (eCall m_is_rising (lCons (eVar 1) lNil))))
def m_are_watching : Fn := runFn ["house", "thing", "one"] t_are_watching
theorem tr_are_watching : trS 30 c_are_watching (defBody s_are_watching) = t_are_watching := by kernel_rfl
abbrev s_are_watchers : Stmt := top 26
def fns_are_watchers : Tbl := [("need_house", 1, m_need_house), ("are_watching", 2, m_are_watching)]
def c_are_watchers : Cc := ⟨["house", "thing"], defScope s_are_watchers, fns_are_watchers, gis, gss, excs, true, none, none, [], [], [], 400⟩
def t_are_watchers : S :=
  (sSeq (sDrop (eCall m_need_house (lCons (eVar 0) lNil)))
  (sRet (eCall m_are_watching (lCons (eVar 0) (lCons (eVar 1) lNil)))))
def m_are_watchers : Fn := runFn ["house", "thing"] t_are_watchers
theorem tr_are_watchers : trS 30 c_are_watchers (defBody s_are_watchers) = t_are_watchers := by kernel_rfl
abbrev s_need_watchers : Stmt := top 27
def fns_need_watchers : Tbl := [("need_house", 1, m_need_house), ("are_watching", 2, m_are_watching)]
def c_need_watchers : Cc := ⟨["house", "thing"], defScope s_need_watchers, fns_need_watchers, gis, gss, excs, true, none, none, [], [], [], 400⟩
def t_need_watchers : S :=
  (sSeq (sDrop (eCall m_need_house (lCons (eVar 0) lNil)))
  (sIf (tNot (tOf (eCall m_are_watching (lCons (eVar 0) (lCons (eVar 1) lNil)))))
    (sRaise "NoWatchers")
    sNil))
def m_need_watchers : Fn := runFn ["house", "thing"] t_need_watchers
theorem tr_need_watchers : trS 30 c_need_watchers (defBody s_need_watchers) = t_need_watchers := by kernel_rfl
abbrev s_need_goal : Stmt := top 28
def fns_need_goal : Tbl := [("is_whole", 3, m_is_whole)]
def c_need_goal : Cc := ⟨["house", "thing"], defScope s_need_goal, fns_need_goal, gis, gss, excs, true, none, none, [], [], [], 400⟩
def t_need_goal : S :=
  (sIf (tNot (tOf (eCall m_is_whole (lCons (eVar 1) (lCons (eC (.int (1))) (lCons (eOp opSub (eIx (eVar 0) (eC (.int (0)))) (eC (.int (1)))) lNil))))))
    (sRaise "NoGoal")
    sNil)
def m_need_goal : Fn := runFn ["house", "thing"] t_need_goal
theorem tr_need_goal : trS 30 c_need_goal (defBody s_need_goal) = t_need_goal := by kernel_rfl
abbrev s_beside : Stmt := top 29
def fns_beside : Tbl := []
def c_beside : Cc := ⟨["house", "room", "made", "one", "other"], defScope s_beside, fns_beside, gis, gss, excs, true, none, none, ["room"], [], [], 400⟩
def t_beside : S :=
  (sSeq (sAsg 2 (eOp opAdd (eComp [3, 4] (iAny (eIx (eVar 0) (eC (.int (1))))) (gT (gsCons (gN 3) (gsCons (gN 4) gsNil))) (tOf (eOp opEq (eVar 3) (eVar 1))) (eVar 4)) (eComp [3, 4] (iAny (eIx (eVar 0) (eC (.int (1))))) (gT (gsCons (gN 3) (gsCons (gN 4) gsNil))) (tOf (eOp opEq (eVar 4) (eVar 1))) (eVar 3))))
  (sRet (eB bSorted (lCons (eVar 2) lNil))))
def m_beside : Fn := runFn ["house", "room", "made", "one", "other"] t_beside
theorem tr_beside : trS 30 c_beside (defBody s_beside) = t_beside := by kernel_rfl
abbrev s_far_from : Stmt := top 30
def fns_far_from : Tbl := [("beside", 2, m_beside)]
def c_far_from : Cc := ⟨["house", "one", "found", "row", "room", "other"], defScope s_far_from, fns_far_from, gis, gss, excs, true, none, none, [], [(84, 2)], [], 400⟩
def t_far_from : S :=
  (sSeq (sAsg 2 (eDisp (eVar 1) (eC (.int (0)))))
  (sSeq (sAsg 3 (eLst (lCons (eVar 1) lNil)))
  (sSeq (sWhile 400 (tOf (eOp opNe (eVar 3) (eLst lNil)))
    (sSeq (sPop 4 3 (eC (.int (0))))
    (sFor (iAny (eCall m_beside (lCons (eVar 0) (lCons (eVar 4) lNil)))) (gN 5)
      (sIf (tOf (eOp opNotIn (eVar 5) (eVar 2)))
        (sSeq (sPut 2 (eVar 5) (eOp opAdd (eIx (eVar 2) (eVar 4)) (eC (.int (1)))))
        (sApp 3 (eVar 5)))
        sNil))))
  (sFrz 2 (sRet (eVar 2))))))
def m_far_from : Fn := runFn ["house", "one", "found", "row", "room", "other"] t_far_from
theorem tr_far_from : trS 30 c_far_from (defBody s_far_from) = t_far_from := by kernel_rfl
abbrev s_sees : Stmt := top 34
def fns_sees : Tbl := []
def c_sees : Cc := ⟨["watcher", "spot", "beat"], defScope s_sees, fns_sees, gis, gss, excs, true, none, none, [], [], [], 400⟩
def t_sees : S :=
  (sRet (eAnd (eOp opEq (eIx (eVar 0) (eC (.int (0)))) (eVar 1)) (eOp opEq (eIx (eIx (eVar 0) (eC (.int (1)))) (eOp opMod (eVar 2) (eLen (lCons (eIx (eVar 0) (eC (.int (1)))) lNil)))) (eC (.str "#")))))
def m_sees : Fn := runFn ["watcher", "spot", "beat"] t_sees
theorem tr_sees : trS 30 c_sees (defBody s_sees) = t_sees := by kernel_rfl
abbrev s_door_of : Stmt := top 35
def fns_door_of : Tbl := []
def c_door_of : Cc := ⟨["one", "other"], defScope s_door_of, fns_door_of, gis, gss, excs, true, none, none, [], [], [], 400⟩
def t_door_of : S :=
  (sRet (eIf (tOf (eOp opNe (eVar 0) (eVar 1))) (eTup (lCons (eC (.str "door")) (lCons (eB bMinA (lCons (eVar 0) (lCons (eVar 1) lNil))) (lCons (eB bMax2 (lCons (eVar 0) (lCons (eVar 1) lNil))) lNil)))) (eC .non)))
def m_door_of : Fn := runFn ["one", "other"] t_door_of
theorem tr_door_of : trS 30 c_door_of (defBody s_door_of) = t_door_of := by kernel_rfl
abbrev s_seers : Stmt := top 36
def fns_seers : Tbl := [("sees", 3, m_sees)]
def c_seers : Cc := ⟨["watchers", "some", "beat", "number", "one", "spot"], defScope s_seers, fns_seers, gis, gss, excs, true, none, none, ["some", "beat"], [], [], 400⟩
def t_seers : S :=
  (sRet (eComp [3, 4] (iEnum (lCons (eVar 0) lNil)) (gT (gsCons (gN 3) (gsCons (gN 4) gsNil))) (tOf (eB bAny (lCons (eComp [5] (iAny (eVar 1)) (gN 5) tT (eCall m_sees (lCons (eVar 4) (lCons (eVar 5) (lCons (eVar 2) lNil))))) lNil))) (eVar 3)))
def m_seers : Fn := runFn ["watchers", "some", "beat", "number", "one", "spot"] t_seers
theorem tr_seers : trS 30 c_seers (defBody s_seers) = t_seers := by kernel_rfl
abbrev s_is_way : Stmt := top 37
def fns_is_way : Tbl := [("is_whole", 3, m_is_whole), ("beside", 2, m_beside)]
def c_is_way : Cc := ⟨["house", "thing", "one", "other", "room"], defScope s_is_way, fns_is_way, gis, gss, excs, true, none, none, ["house"], [], [], 400⟩
def t_is_way : S :=
  (sSeq (sIf (tOr (tNot (tOf (eIsi "tuple" (eVar 1)))) (tNot (tOf (eChain (fun i j => decide (i ≤ j)) (fun i j => decide (i ≤ j)) (eC (.int (1))) (eLen (lCons (eVar 1) lNil)) (eC (.int (40)))))))
    (sRet (eC (.bl false)))
    sNil)
  (sSeq (sIf (tOr (tNot (tOf (eB bAll (lCons (eComp [4] (iAny (eVar 1)) (gN 4) tT (eCall m_is_whole (lCons (eVar 4) (lCons (eC (.int (0))) (lCons (eOp opSub (eIx (eVar 0) (eC (.int (0)))) (eC (.int (1)))) lNil))))) lNil)))) (tOf (eOp opNe (eIx (eVar 1) (eC (.int (0)))) (eC (.int (0))))))
    (sRet (eC (.bl false)))
    sNil)
  (sRet (eB bAll (lCons (eComp [2, 3] (iZip (lCons (eVar 1) (lCons (eSl (eVar 1) (oSome (eC (.int (1)))) oNone) lNil))) (gT (gsCons (gN 2) (gsCons (gN 3) gsNil))) tT (eOr (eOp opEq (eVar 2) (eVar 3)) (eOp opIn (eVar 3) (eCall m_beside (lCons (eVar 0) (lCons (eVar 2) lNil)))))) lNil)))))
def m_is_way : Fn := runFn ["house", "thing", "one", "other", "room"] t_is_way
theorem tr_is_way : trS 30 c_is_way (defBody s_is_way) = t_is_way := by kernel_rfl
abbrev s_seen : Stmt := top 38
def fns_seen : Tbl := [("need_watchers", 2, m_need_watchers), ("is_way", 2, m_is_way), ("door_of", 2, m_door_of), ("seers", 3, m_seers)]
def c_seen : Cc := ⟨["house", "watchers", "way", "made", "beat", "room", "some", "number"], defScope s_seen, fns_seen, gis, gss, excs, true, none, none, ["beat"], [(107, 6)], [], 400⟩
def t_seen : S :=
  (sSeq (sDrop (eCall m_need_watchers (lCons (eVar 0) (lCons (eVar 1) lNil))))
  (sSeq (sIf (tNot (tOf (eCall m_is_way (lCons (eVar 0) (lCons (eVar 2) lNil)))))
    (sRaise "NoWay")
    sNil)
  (sSeq (sAsg 3 (eLst lNil))
  (sSeq (sFor (iEnum (lCons (eVar 2) lNil)) (gT (gsCons (gN 4) (gsCons (gN 5) gsNil)))
    (sSeq (sAsg 6 (eLst (lCons (eTup (lCons (eC (.str "room")) (lCons (eVar 5) lNil))) (lCons (eCall m_door_of (lCons (eVar 5) (lCons (eIx (eOp opAdd (eVar 2) (eSl (eVar 2) (oSome (eNeg (eC (.int (1))))) oNone)) (eOp opAdd (eVar 4) (eC (.int (1))))) lNil))) lNil))))
    (sFrz 6 (sExt 3 (eComp [7] (iAny (eCall m_seers (lCons (eVar 1) (lCons (eVar 6) (lCons (eVar 4) lNil))))) (gN 7) tT (eTup (lCons (eVar 4) (lCons (eVar 7) lNil))))))))
  (sRet (eVar 3))))))
def m_seen : Fn := runFn ["house", "watchers", "way", "made", "beat", "room", "some", "number"] t_seen
theorem tr_seen : trS 30 c_seen (defBody s_seen) = t_seen := by kernel_rfl
abbrev s_steps_from : Stmt := top 39
def fns_steps_from : Tbl := [("beside", 2, m_beside), ("seers", 3, m_seers), ("door_of", 2, m_door_of)]
def c_steps_from : Cc := ⟨["house", "watchers", "room", "beat", "made", "other"], defScope s_steps_from, fns_steps_from, gis, gss, excs, true, none, none, [], [], [], 400⟩
def t_steps_from : S :=
  (sSeq (sAsg 4 (eLst lNil))
  (sSeq (sFor (iAny (eB bSorted (lCons (eOp opAdd (eCall m_beside (lCons (eVar 0) (lCons (eVar 2) lNil))) (eLst (lCons (eVar 2) lNil))) lNil))) (gN 5)
    (sIf (tAnd (tOf (eOp opEq (eCall m_seers (lCons (eVar 1) (lCons (eLst (lCons (eCall m_door_of (lCons (eVar 2) (lCons (eVar 5) lNil))) lNil)) (lCons (eVar 3) lNil)))) (eLst lNil))) (tOf (eOp opEq (eCall m_seers (lCons (eVar 1) (lCons (eLst (lCons (eTup (lCons (eC (.str "room")) (lCons (eVar 5) lNil))) lNil)) (lCons (eOp opAdd (eVar 3) (eC (.int (1)))) lNil)))) (eLst lNil))))
      (sApp 4 (eVar 5))
      sNil))
  (sRet (eVar 4))))
def m_steps_from : Fn := runFn ["house", "watchers", "room", "beat", "made", "other"] t_steps_from
theorem tr_steps_from : trS 30 c_steps_from (defBody s_steps_from) = t_steps_from := by kernel_rfl
abbrev s_ways_by_beat : Stmt := top 40
def fns_ways_by_beat : Tbl := [("steps_from", 4, m_steps_from)]
def c_ways_by_beat : Cc := ⟨["house", "watchers", "many", "made", "beat", "later", "way", "other"], defScope s_ways_by_beat, fns_ways_by_beat, gis, gss, excs, true, none, none, [], [(122, 5)], [], 400⟩
def t_ways_by_beat : S :=
  (sSeq (sAsg 3 (eLst (lCons (eDisp (eC (.int (0))) (eTup (lCons (eC (.int (0))) lNil))) lNil)))
  (sSeq (sFor (iRange (lCons (eOp opSub (eVar 2) (eC (.int (1)))) lNil)) (gN 4)
    (sSeq (sAsg 5 eDNew)
    (sSeq (sFor (iAny (eB bSorted (lCons (eLVals (eIx (eVar 3) (eNeg (eC (.int (1)))))) lNil))) (gN 6)
      (sFor (iAny (eCall m_steps_from (lCons (eVar 0) (lCons (eVar 1) (lCons (eIx (eVar 6) (eNeg (eC (.int (1))))) (lCons (eVar 4) lNil)))))) (gN 7)
        (sSdf 5 (eVar 7) (eOp opAdd (eVar 6) (eTup (lCons (eVar 7) lNil))))))
    (sFrz 5 (sApp 3 (eVar 5))))))
  (sRet (eVar 3))))
def m_ways_by_beat : Fn := runFn ["house", "watchers", "many", "made", "beat", "later", "way", "other"] t_ways_by_beat
theorem tr_ways_by_beat : trS 30 c_ways_by_beat (defBody s_ways_by_beat) = t_ways_by_beat := by kernel_rfl
abbrev s_open_rooms : Stmt := top 41
def fns_open_rooms : Tbl := [("need_watchers", 2, m_need_watchers), ("is_whole", 3, m_is_whole), ("ways_by_beat", 3, m_ways_by_beat)]
def c_open_rooms : Cc := ⟨["house", "watchers", "beat"], defScope s_open_rooms, fns_open_rooms, gis, gss, excs, true, none, none, [], [], [], 400⟩
def t_open_rooms : S :=
  (sSeq (sDrop (eCall m_need_watchers (lCons (eVar 0) (lCons (eVar 1) lNil))))
  (sSeq (sIf (tNot (tOf (eCall m_is_whole (lCons (eVar 2) (lCons (eC (.int (0))) (lCons (eC (.int (30))) lNil))))))
    (sRaise "NoCount")
    sNil)
  (sRet (eB bTuple (lCons (eB bSorted (lCons (eB bListK (lCons (eIx (eCall m_ways_by_beat (lCons (eVar 0) (lCons (eVar 1) (lCons (eOp opAdd (eVar 2) (eC (.int (1)))) lNil)))) (eNeg (eC (.int (1))))) lNil)) lNil)) lNil)))))
def m_open_rooms : Fn := runFn ["house", "watchers", "beat"] t_open_rooms
theorem tr_open_rooms : trS 30 c_open_rooms (defBody s_open_rooms) = t_open_rooms := by kernel_rfl
abbrev s_need_all : Stmt := top 42
def fns_need_all : Tbl := [("need_watchers", 2, m_need_watchers), ("need_goal", 2, m_need_goal), ("is_whole", 3, m_is_whole)]
def c_need_all : Cc := ⟨["house", "watchers", "goal", "many"], defScope s_need_all, fns_need_all, gis, gss, excs, true, none, none, [], [], [], 400⟩
def t_need_all : S :=
  (sSeq (sDrop (eCall m_need_watchers (lCons (eVar 0) (lCons (eVar 1) lNil))))
  (sSeq (sDrop (eCall m_need_goal (lCons (eVar 0) (lCons (eVar 2) lNil))))
  (sIf (tNot (tOf (eCall m_is_whole (lCons (eVar 3) (lCons (eC (.int (1))) (lCons (eC (.int (30))) lNil))))))
    (sRaise "NoCount")
    sNil)))
def m_need_all : Fn := runFn ["house", "watchers", "goal", "many"] t_need_all
theorem tr_need_all : trS 30 c_need_all (defBody s_need_all) = t_need_all := by kernel_rfl
abbrev s_unseen : Stmt := top 43
def fns_unseen : Tbl := [("need_all", 4, m_need_all), ("ways_by_beat", 3, m_ways_by_beat)]
def c_unseen : Cc := ⟨["house", "watchers", "goal", "many", "ways", "by_room"], defScope s_unseen, fns_unseen, gis, gss, excs, true, none, none, ["goal"], [], [], 400⟩
def t_unseen : S :=
  (sSeq (sDrop (eCall m_need_all (lCons (eVar 0) (lCons (eVar 1) (lCons (eVar 2) (lCons (eVar 3) lNil))))))
  (sSeq (sAsg 4 (eComp [5] (iAny (eCall m_ways_by_beat (lCons (eVar 0) (lCons (eVar 1) (lCons (eVar 3) lNil))))) (gN 5) (tOf (eOp opIn (eVar 2) (eVar 5))) (eIx (eVar 5) (eVar 2))))
  (sRet (eIx (eOp opAdd (eVar 4) (eLst (lCons (eC .non) lNil))) (eC (.int (0)))))))
def m_unseen : Fn := runFn ["house", "watchers", "goal", "many", "ways", "by_room"] t_unseen
theorem tr_unseen : trS 30 c_unseen (defBody s_unseen) = t_unseen := by kernel_rfl
abbrev s_paper : Stmt := top 44
def fns_paper : Tbl := [("need_all", 4, m_need_all), ("ways_by_beat", 3, m_ways_by_beat)]
def c_paper : Cc := ⟨["house", "watchers", "goal", "many", "made", "by_room", "rooms"], defScope s_paper, fns_paper, gis, gss, excs, true, none, none, ["goal"], [], [], 400⟩
def t_paper : S :=
  (sSeq (sDrop (eCall m_need_all (lCons (eVar 0) (lCons (eVar 1) (lCons (eVar 2) (lCons (eVar 3) lNil))))))
  (sSeq (sAsg 4 (eComp [5] (iAny (eCall m_ways_by_beat (lCons (eVar 0) (lCons (eVar 1) (lCons (eVar 3) lNil))))) (gN 5) tT (eB bTuple (lCons (eB bSorted (lCons (eB bListK (lCons (eVar 5) lNil)) lNil)) lNil))))
  (sRet (eIf (tNot (tOf (eB bAny (lCons (eComp [6] (iAny (eVar 4)) (gN 6) tT (eOp opIn (eVar 2) (eVar 6))) lNil)))) (eVar 4) (eC .non)))))
def m_paper : Fn := runFn ["house", "watchers", "goal", "many", "made", "by_room", "rooms"] t_paper
theorem tr_paper : trS 30 c_paper (defBody s_paper) = t_paper := by kernel_rfl
abbrev s_are_rooms : Stmt := top 45
def fns_are_rooms : Tbl := [("is_rising", 1, m_is_rising), ("is_whole", 3, m_is_whole)]
def c_are_rooms : Cc := ⟨["house", "thing", "room"], defScope s_are_rooms, fns_are_rooms, gis, gss, excs, true, none, none, ["house"], [], [], 400⟩
def t_are_rooms : S :=
  (sSeq (sIf (tOr (tNot (tOf (eIsi "tuple" (eVar 1)))) (tNot (tOf (eB bAll (lCons (eComp [2] (iAny (eVar 1)) (gN 2) tT (eCall m_is_whole (lCons (eVar 2) (lCons (eC (.int (0))) (lCons (eOp opSub (eIx (eVar 0) (eC (.int (0)))) (eC (.int (1)))) lNil))))) lNil)))))
    (sRet (eC (.bl false)))
    sNil)
  (sRet (eCall m_is_rising (lCons (eVar 1) lNil))))
def m_are_rooms : Fn := runFn ["house", "thing", "room"] t_are_rooms
theorem tr_are_rooms : trS 30 c_are_rooms (defBody s_are_rooms) = t_are_rooms := by kernel_rfl
abbrev s_is_paper : Stmt := top 46
def fns_is_paper : Tbl := [("need_watchers", 2, m_need_watchers), ("need_goal", 2, m_need_goal), ("are_rooms", 2, m_are_rooms), ("steps_from", 4, m_steps_from)]
def c_is_paper : Cc := ⟨["house", "watchers", "goal", "thing", "rooms", "beat", "room", "one", "other"], defScope s_is_paper, fns_is_paper, gis, gss, excs, true, none, none, ["house", "goal", "thing", "beat"], [], [], 400⟩
def t_is_paper : S :=
  (sSeq (sDrop (eCall m_need_watchers (lCons (eVar 0) (lCons (eVar 1) lNil))))
  (sSeq (sDrop (eCall m_need_goal (lCons (eVar 0) (lCons (eVar 2) lNil))))
  (sSeq (sIf (tOr (tNot (tOf (eIsi "list" (eVar 3)))) (tOr (tNot (tOf (eChain (fun i j => decide (i ≤ j)) (fun i j => decide (i ≤ j)) (eC (.int (1))) (eLen (lCons (eVar 3) lNil)) (eC (.int (30)))))) (tNot (tOf (eB bAll (lCons (eComp [7] (iAny (eVar 3)) (gN 7) tT (eCall m_are_rooms (lCons (eVar 0) (lCons (eVar 7) lNil)))) lNil))))))
    (sRet (eC (.bl false)))
    sNil)
  (sSeq (sIf (tOr (tOf (eOp opNe (eIx (eVar 3) (eC (.int (0)))) (eTup (lCons (eC (.int (0))) lNil)))) (tOf (eB bAny (lCons (eComp [4] (iAny (eVar 3)) (gN 4) tT (eOp opIn (eVar 2) (eVar 4))) lNil))))
    (sRet (eC (.bl false)))
    sNil)
  (sSeq (sFor (iEnum (lCons (eSl (eVar 3) oNone (oSome (eNeg (eC (.int (1)))))) lNil)) (gT (gsCons (gN 5) (gsCons (gN 4) gsNil)))
    (sFor (iAny (eVar 4)) (gN 6)
      (sIf (tNot (tOf (eB bAll (lCons (eComp [8] (iAny (eCall m_steps_from (lCons (eVar 0) (lCons (eVar 1) (lCons (eVar 6) (lCons (eVar 5) lNil)))))) (gN 8) tT (eOp opIn (eVar 8) (eIx (eVar 3) (eOp opAdd (eVar 5) (eC (.int (1))))))) lNil))))
        (sRet (eC (.bl false)))
        sNil)))
  (sRet (eC (.bl true))))))))
def m_is_paper : Fn := runFn ["house", "watchers", "goal", "thing", "rooms", "beat", "room", "one", "other"] t_is_paper
theorem tr_is_paper : trS 30 c_is_paper (defBody s_is_paper) = t_is_paper := by kernel_rfl
abbrev s_links_of : Stmt := top 49
def fns_links_of : Tbl := []
def c_links_of : Cc := ⟨["house", "goal", "book", "room", "inner", "one", "other"], defScope s_links_of, fns_links_of, gis, gss, excs, true, none, none, [], [(169, 2)], [], 400⟩
def t_links_of : S :=
  (sSeq (sAsg 2 eDNew)
  (sSeq (sFor (iRange (lCons (eIx (eVar 0) (eC (.int (0)))) lNil)) (gN 3)
    (sSeq (sAsg 4 (eIf (tOf (eOp opIn (eVar 3) (eTup (lCons (eC (.int (0))) (lCons (eVar 1) lNil))))) (eC (.int (100))) (eC (.int (1)))))
    (sSeq (sPut 2 (eTup (lCons (eVar 3) (lCons (eC (.int (0))) lNil))) (eSto (eDisp (eTup (lCons (eVar 3) (lCons (eC (.int (1))) lNil))) (eVar 4))))
    (sPut 2 (eTup (lCons (eVar 3) (lCons (eC (.int (1))) lNil))) (eSto eDNew)))))
  (sSeq (sFor (iAny (eIx (eVar 0) (eC (.int (1))))) (gT (gsCons (gN 5) (gsCons (gN 6) gsNil)))
    (sSeq (sPutS (eIx (eVar 2) (eTup (lCons (eVar 5) (lCons (eC (.int (1))) lNil)))) (eTup (lCons (eVar 6) (lCons (eC (.int (0))) lNil))) (eC (.int (1))))
    (sPutS (eIx (eVar 2) (eTup (lCons (eVar 6) (lCons (eC (.int (1))) lNil)))) (eTup (lCons (eVar 5) (lCons (eC (.int (0))) lNil))) (eC (.int (1))))))
  (sFrz 2 (sRet (eVar 2))))))
def m_links_of : Fn := runFn ["house", "goal", "book", "room", "inner", "one", "other"] t_links_of
theorem tr_links_of : trS 30 c_links_of (defBody s_links_of) = t_links_of := by kernel_rfl
abbrev s_led_from : Stmt := top 50
def fns_led_from : Tbl := []
def c_led_from : Cc := ⟨["book", "start", "found", "row", "here", "other"], defScope s_led_from, fns_led_from, gis, gss, excs, true, none, none, [], [(179, 2)], [], 400⟩
def t_led_from : S :=
  (sSeq (sAsg 2 (eDisp (eVar 1) (eC .non)))
  (sSeq (sAsg 3 (eLst (lCons (eVar 1) lNil)))
  (sSeq (sWhile 400 (tOf (eOp opNe (eVar 3) (eLst lNil)))
    (sSeq (sPop 4 3 (eC (.int (0))))
    (sFor (iAny (eB bSorted (lCons (eLstS (eIx (eVar 0) (eVar 4))) lNil))) (gN 5)
      (sIf (tAnd (tOf (eOp opGtI (eIxS (eIx (eVar 0) (eVar 4)) (eVar 5)) (eC (.int (0))))) (tOf (eOp opNotIn (eVar 5) (eVar 2))))
        (sSeq (sPut 2 (eVar 5) (eVar 4))
        (sApp 3 (eVar 5)))
        sNil))))
  (sFrz 2 (sRet (eVar 2))))))
def m_led_from : Fn := runFn ["book", "start", "found", "row", "here", "other"] t_led_from
theorem tr_led_from : trS 30 c_led_from (defBody s_led_from) = t_led_from := by kernel_rfl
abbrev s_send : Stmt := top 51
def fns_send : Tbl := []
def c_send : Cc := ⟨["book", "found", "goal", "here", "ahead"], defScope s_send, fns_send, gis, gss, excs, true, none, none, [], [], [], 400⟩
def t_send : S :=
  (sSeq (sAsg 3 (eVar 2))
  (sWhile 400 (tOf (eOp opIsNot (eIx (eVar 1) (eVar 3)) (eC .non)))
    (sSeq (sAsg 4 (eIx (eVar 1) (eVar 3)))
    (sSeq (sPutS (eIx (eVar 0) (eVar 4)) (eVar 3) (eOp opSub (eIxS (eIx (eVar 0) (eVar 4)) (eVar 3)) (eC (.int (1)))))
    (sSeq (sPutS (eIx (eVar 0) (eVar 3)) (eVar 4) (eOp opAdd (eDGetS (eIx (eVar 0) (eVar 3)) (eVar 4) (eC (.int (0)))) (eC (.int (1)))))
    (sAsg 3 (eVar 4)))))))
def m_send : Fn := runFn ["book", "found", "goal", "here", "ahead"] t_send
theorem tr_send : trS 30 c_send (defBody s_send) = t_send := by kernel_rfl
abbrev s_filled : Stmt := top 52
def fns_filled : Tbl := [("links_of", 2, m_links_of), ("led_from", 2, m_led_from), ("send", 3, m_send)]
def c_filled : Cc := ⟨["house", "goal", "book", "found"], defScope s_filled, fns_filled, gis, gss, excs, true, none, none, [], [(189, 2), (191, 2), (191, 3), (192, 2)], [], 400⟩
def t_filled : S :=
  (sSeq (sAsg 2 (eCall m_links_of (lCons (eVar 0) (lCons (eVar 1) lNil))))
  (sSeq (sFrz 2 (sAsg 3 (eCall m_led_from (lCons (eVar 2) (lCons (eTup (lCons (eC (.int (0))) (lCons (eC (.int (1))) lNil))) lNil)))))
  (sSeq (sWhile 400 (tOf (eOp opIn (eTup (lCons (eVar 1) (lCons (eC (.int (0))) lNil))) (eVar 3)))
    (sSeq (sFrz 2 (sFrz 3 (sDrop (eCall m_send (lCons (eVar 2) (lCons (eVar 3) (lCons (eTup (lCons (eVar 1) (lCons (eC (.int (0))) lNil))) lNil)))))))
    (sFrz 2 (sAsg 3 (eCall m_led_from (lCons (eVar 2) (lCons (eTup (lCons (eC (.int (0))) (lCons (eC (.int (1))) lNil))) lNil)))))))
  (sRet (eVar 2)))))
def m_filled : Fn := runFn ["house", "goal", "book", "found"] t_filled
theorem tr_filled : trS 30 c_filled (defBody s_filled) = t_filled := by kernel_rfl
abbrev s_fewest_spots : Stmt := top 53
def fns_fewest_spots : Tbl := [("need_house", 1, m_need_house), ("need_goal", 2, m_need_goal), ("led_from", 2, m_led_from), ("filled", 2, m_filled)]
def c_fewest_spots : Cc := ⟨["house", "goal", "found", "made", "one", "other", "room"], defScope s_fewest_spots, fns_fewest_spots, gis, gss, excs, true, none, none, ["found"], [], [], 400⟩
def t_fewest_spots : S :=
  (sSeq (sDrop (eCall m_need_house (lCons (eVar 0) lNil)))
  (sSeq (sDrop (eCall m_need_goal (lCons (eVar 0) (lCons (eVar 1) lNil))))
  (sSeq (sAsg 2 (eCall m_led_from (lCons (eCall m_filled (lCons (eVar 0) (lCons (eVar 1) lNil))) (lCons (eTup (lCons (eC (.int (0))) (lCons (eC (.int (1))) lNil))) lNil))))
  (sSeq (sAsg 3 (eComp [6] (iRange (lCons (eC (.int (1))) (lCons (eIx (eVar 0) (eC (.int (0)))) lNil))) (gN 6) (tAnd (tOf (eOp opIn (eTup (lCons (eVar 6) (lCons (eC (.int (0))) lNil))) (eVar 2))) (tOf (eOp opNotIn (eTup (lCons (eVar 6) (lCons (eC (.int (1))) lNil))) (eVar 2)))) (eTup (lCons (eC (.str "room")) (lCons (eVar 6) lNil)))))
  (sSeq (sFor (iAny (eIx (eVar 0) (eC (.int (1))))) (gT (gsCons (gN 4) (gsCons (gN 5) gsNil)))
    (sIf (tOr (tAnd (tOf (eOp opIn (eTup (lCons (eVar 4) (lCons (eC (.int (1))) lNil))) (eVar 2))) (tOf (eOp opNotIn (eTup (lCons (eVar 5) (lCons (eC (.int (0))) lNil))) (eVar 2)))) (tAnd (tOf (eOp opIn (eTup (lCons (eVar 5) (lCons (eC (.int (1))) lNil))) (eVar 2))) (tOf (eOp opNotIn (eTup (lCons (eVar 4) (lCons (eC (.int (0))) lNil))) (eVar 2)))))
      (sApp 3 (eTup (lCons (eC (.str "door")) (lCons (eVar 4) (lCons (eVar 5) lNil)))))
      sNil))
  (sRet (eB bSorted (lCons (eVar 3) lNil))))))))
def m_fewest_spots : Fn := runFn ["house", "goal", "found", "made", "one", "other", "room"] t_fewest_spots
theorem tr_fewest_spots : trS 30 c_fewest_spots (defBody s_fewest_spots) = t_fewest_spots := by kernel_rfl
abbrev s_delays : Stmt := top 54
def fns_delays : Tbl := [("need_house", 1, m_need_house), ("need_goal", 2, m_need_goal), ("far_from", 2, m_far_from), ("is_whole", 3, m_is_whole), ("beside", 2, m_beside)]
def c_delays : Cc := ⟨["house", "entry", "panel", "goal", "away", "low", "high"], defScope s_delays, fns_delays, gis, gss, excs, true, none, none, [], [], [], 400⟩
def t_delays : S :=
  (sSeq (sDrop (eCall m_need_house (lCons (eVar 0) lNil)))
  (sSeq (sIf (tOr (tNot (tOf (eCall m_is_whole (lCons (eVar 1) (lCons (eC (.int (1))) (lCons (eOp opSub (eIx (eVar 0) (eC (.int (0)))) (eC (.int (1)))) lNil)))))) (tOf (eOp opNotIn (eVar 1) (eCall m_beside (lCons (eVar 0) (lCons (eC (.int (0))) lNil))))))
    (sRaise "NoRoom")
    sNil)
  (sSeq (sIf (tNot (tOf (eCall m_is_whole (lCons (eVar 2) (lCons (eC (.int (1))) (lCons (eOp opSub (eIx (eVar 0) (eC (.int (0)))) (eC (.int (1)))) lNil))))))
    (sRaise "NoRoom")
    sNil)
  (sSeq (sDrop (eCall m_need_goal (lCons (eVar 0) (lCons (eVar 3) lNil))))
  (sSeq (sAsg 4 (eCall m_far_from (lCons (eVar 0) (lCons (eVar 1) lNil))))
  (sSeq (sIf (tOf (eOp opNotIn (eVar 2) (eVar 4)))
    (sRet (eC .non))
    sNil)
  (sSeq (sPar 5 6 (lCons (eB bMax2 (lCons (eC (.int (1))) (lCons (eIx (eVar 4) (eVar 2)) lNil))) (lCons (eB bMinA (lCons (eC (.int (30))) (lCons (eOp opSub (eDGet (eVar 4) (eVar 3) (eOp opAdd (eC (.int (30))) (eC (.int (1))))) (eC (.int (1)))) lNil))) lNil)))
  (sRet (eIf (tOf (eOp opLeI (eVar 5) (eVar 6))) (eTup (lCons (eVar 5) (lCons (eVar 6) lNil))) (eC .non))))))))))
def m_delays : Fn := runFn ["house", "entry", "panel", "goal", "away", "low", "high"] t_delays
theorem tr_delays : trS 30 c_delays (defBody s_delays) = t_delays := by kernel_rfl
abbrev s_next_rows : Stmt := top 56
def fns_next_rows : Tbl := [("beside", 2, m_beside), ("door_of", 2, m_door_of), ("seers", 3, m_seers)]
def c_next_rows : Cc := ⟨["house", "blind", "keen", "rows", "beat", "later", "way", "was_seen", "other", "door", "room", "now_seen"], defScope s_next_rows, fns_next_rows, gis, gss, excs, true, none, none, [], [], [], 400⟩
def t_next_rows : S :=
  (sSeq (sAsg 5 eDNew)
  (sSeq (sFor (iAny (eVar 3)) (gT (gsCons (gN 6) (gsCons (gN 7) gsNil)))
    (sFor (iAny (eB bSorted (lCons (eOp opAdd (eCall m_beside (lCons (eVar 0) (lCons (eIx (eVar 6) (eNeg (eC (.int (1))))) lNil))) (eLst (lCons (eIx (eVar 6) (eNeg (eC (.int (1))))) lNil))) lNil))) (gN 8)
      (sSeq (sPar 9 10 (lCons (eLst (lCons (eCall m_door_of (lCons (eIx (eVar 6) (eNeg (eC (.int (1))))) (lCons (eVar 8) lNil))) lNil)) (lCons (eLst (lCons (eTup (lCons (eC (.str "room")) (lCons (eVar 8) lNil))) lNil)) lNil)))
      (sIf (tAnd (tOf (eOp opEq (eCall m_seers (lCons (eVar 1) (lCons (eVar 9) (lCons (eVar 4) lNil)))) (eLst lNil))) (tOf (eOp opEq (eCall m_seers (lCons (eVar 1) (lCons (eVar 10) (lCons (eOp opAdd (eVar 4) (eC (.int (1)))) lNil)))) (eLst lNil))))
        (sSeq (sAsg 11 (eOr (eVar 7) (eOr (eOp opNe (eCall m_seers (lCons (eVar 2) (lCons (eVar 9) (lCons (eVar 4) lNil)))) (eLst lNil)) (eOp opNe (eCall m_seers (lCons (eVar 2) (lCons (eVar 10) (lCons (eOp opAdd (eVar 4) (eC (.int (1)))) lNil)))) (eLst lNil)))))
        (sSdf 5 (eTup (lCons (eVar 8) (lCons (eVar 11) lNil))) (eTup (lCons (eOp opAdd (eVar 6) (eTup (lCons (eVar 8) lNil))) (lCons (eVar 11) lNil)))))
        sNil))))
  (sRet (eLVals (eVar 5)))))
def m_next_rows : Fn := runFn ["house", "blind", "keen", "rows", "beat", "later", "way", "was_seen", "other", "door", "room", "now_seen"] t_next_rows
theorem tr_next_rows : trS 30 c_next_rows (defBody s_next_rows) = t_next_rows := by kernel_rfl
abbrev s_seen_by_one : Stmt := top 57
def fns_seen_by_one : Tbl := [("next_rows", 5, m_next_rows)]
def c_seen_by_one : Cc := ⟨["house", "keen", "blind", "rows", "beat", "found", "way", "was_seen"], defScope s_seen_by_one, fns_seen_by_one, gis, gss, excs, true, none, none, [], [(228, 3)], [], 400⟩
def t_seen_by_one : S :=
  (sSeq (sAsg 3 (eLst (lCons (eTup (lCons (eTup (lCons (eC (.int (0))) lNil)) (lCons (eC (.bl false)) lNil))) lNil)))
  (sSeq (sFor (iRange (lCons (eOp opSub (eC (.int (30))) (eC (.int (1)))) lNil)) (gN 4)
    (sSeq (sFrz 3 (sAsg 3 (eCall m_next_rows (lCons (eVar 0) (lCons (eVar 2) (lCons (eVar 1) (lCons (eVar 3) (lCons (eVar 4) lNil))))))))
    (sSeq (sAsg 5 (eComp [6, 7] (iAny (eVar 3)) (gT (gsCons (gN 6) (gsCons (gN 7) gsNil))) (tOf (eVar 7)) (eVar 6)))
    (sIf (tOf (eOp opNe (eVar 5) (eLst lNil)))
      (sRet (eB bMinA (lCons (eVar 5) lNil)))
      sNil))))
  (sRet (eC .non))))
def m_seen_by_one : Fn := runFn ["house", "keen", "blind", "rows", "beat", "found", "way", "was_seen"] t_seen_by_one
theorem tr_seen_by_one : trS 30 c_seen_by_one (defBody s_seen_by_one) = t_seen_by_one := by kernel_rfl
abbrev s_parted : Stmt := top 58
def fns_parted : Tbl := [("need_watchers", 2, m_need_watchers), ("seen_by_one", 3, m_seen_by_one)]
def c_parted : Cc := ⟨["house", "one", "other", "found"], defScope s_parted, fns_parted, gis, gss, excs, true, none, none, [], [], [], 400⟩
def t_parted : S :=
  (sSeq (sDrop (eCall m_need_watchers (lCons (eVar 0) (lCons (eVar 1) lNil))))
  (sSeq (sDrop (eCall m_need_watchers (lCons (eVar 0) (lCons (eVar 2) lNil))))
  (sSeq (sAsg 3 (eCall m_seen_by_one (lCons (eVar 0) (lCons (eVar 1) (lCons (eVar 2) lNil)))))
  (sRet (eIf (tOf (eOp opIsNot (eVar 3) (eC .non))) (eVar 3) (eCall m_seen_by_one (lCons (eVar 0) (lCons (eVar 2) (lCons (eVar 1) lNil)))))))))
def m_parted : Fn := runFn ["house", "one", "other", "found"] t_parted
theorem tr_parted : trS 30 c_parted (defBody s_parted) = t_parted := by kernel_rfl
abbrev s_law_cell_at : Stmt := top 60
def fns_law_cell_at : Tbl := []
def c_law_cell_at : Cc := ⟨["script", "k"], defScope s_law_cell_at, fns_law_cell_at, gis, gss, excs, true, none, none, [], [], [], 400⟩
def t_law_cell_at : S :=
  (sSeq (sIf (tOf (eOp opLt (eVar 1) (eLen (lCons (eVar 0) lNil))))
    (sRet (eIx (eVar 0) (eVar 1)))
    sNil)
  (sSeq (sIf (tOf (eOp opEq (eVar 0) (eLst lNil)))
    (sRet (eC (.int (0))))
    sNil)
  (sRet (eOp opAdd (eOp opMul (eIx (eVar 0) (eOp opMod (eVar 1) (eLen (lCons (eVar 0) lNil)))) (eC (.int (31)))) (eVar 1)))))
def m_law_cell_at : Fn := runFn ["script", "k"] t_law_cell_at
theorem tr_law_cell_at : trS 30 c_law_cell_at (defBody s_law_cell_at) = t_law_cell_at := by kernel_rfl
abbrev s_law_mixed : Stmt := top 61
def fns_law_mixed : Tbl := [("_law_cell_at", 2, m_law_cell_at)]
def c_law_mixed : Cc := ⟨["script", "k", "many", "drawn"], defScope s_law_mixed, fns_law_mixed, gis, gss, excs, true, none, none, [], [], [], 400⟩
def t_law_mixed : S :=
  (sSeq (sAsg 3 (eOp opMod (eOp opAdd (eOp opAdd (eOp opMul (eCall m_law_cell_at (lCons (eVar 0) (lCons (eVar 1) lNil))) (eC (.int (1103515245)))) (eOp opMul (eC (.int (7919))) (eVar 1))) (eC (.int (12345)))) (eC (.int (2147483647)))))
  (sRet (eOp opMod (eOp opMod (eOp opMod (eOp opPow (eVar 3) (eC (.int (5)))) (eC (.int (2147483647)))) (eC (.int (999983)))) (eVar 2))))
def m_law_mixed : Fn := runFn ["script", "k", "many", "drawn"] t_law_mixed
theorem tr_law_mixed : trS 30 c_law_mixed (defBody s_law_mixed) = t_law_mixed := by kernel_rfl
abbrev s_law_draw : Stmt := top 62
def fns_law_draw : Tbl := [("_law_mixed", 3, m_law_mixed)]
def c_law_draw : Cc := ⟨["script", "town", "many"], defScope s_law_draw, fns_law_draw, gis, gss, excs, true, none, none, [], [], [], 400⟩
def t_law_draw : S :=
  (sSeq (sApp 1 (eC (.int (0))))
  (sRet (eCall m_law_mixed (lCons (eVar 0) (lCons (eLen (lCons (eVar 1) lNil)) (lCons (eVar 2) lNil))))))
def m_law_draw : Fn := runFn ["script", "town", "many"] t_law_draw
theorem tr_law_draw : trS 30 c_law_draw (defBody s_law_draw) = t_law_draw := by kernel_rfl
abbrev s_law_which : Stmt := top 63
def c_law_which (pa : Addr) (tbl : List (Str × Bool)) : Cc := ⟨["e", "own"], defScope s_law_which, [], gis, gss, [], false, some (0, pa, tbl), none, [], [], [], 400⟩
def isHeld (cls y : Str) : Bool := y == "ValueError" || cls == y
def whichT (cls : Str) : List (Str × Bool) := ("ValueError", true) :: excs.map fun y => (y, cls == y)
def t_law_which (pa : Addr) (isHeld : Str → Bool) : S :=
  (sSeq (sAsg 1 (eLst (lCons (eIsP 0 pa (isHeld "NoHouse")) (lCons (eIsP 0 pa (isHeld "NoWatchers")) (lCons (eIsP 0 pa (isHeld "NoGoal")) (lCons (eIsP 0 pa (isHeld "NoWay")) lNil))))))
  (sSeq (sExt 1 (eLst (lCons (eIsP 0 pa (isHeld "NoCount")) (lCons (eIsP 0 pa (isHeld "NoPaper")) (lCons (eIsP 0 pa (isHeld "NoRoom")) (lCons (eIsP 0 pa (isHeld "Never")) lNil))))))
  (sSeq (sExt 1 (eLst (lCons (eIsP 0 pa (isHeld "NoText")) (lCons (eIsP 0 pa (isHeld "Nothing")) lNil))))
  (sSeq (sIf (tOr (tOf (eOp opNe (eM isLst mCount (eVar 1) (lCons (eC (.bl true)) lNil)) (eC (.int (1))))) (tNot (tOf (eIsP 0 pa (isHeld "ValueError")))))
    (sRet (eTup (lCons (eC (.str "refused")) (lCons (eNeg (eC (.int (1)))) lNil))))
    sNil)
  (sRet (eTup (lCons (eC (.str "refused")) (lCons (eM isLst mIndex (eVar 1) (lCons (eC (.bl true)) lNil)) lNil))))))))
def N_law_which : List Str := ["e", "own"]
theorem which_eq (cls : Str) (h : cls ∈ excs) (pa : Addr) : trS 30 (c_law_which pa (whichT cls)) (defBody s_law_which) = t_law_which pa (isHeld cls) := by
  have z : ∀ i : Fin 10, trS 30 (c_law_which pa (whichT (excs.getD i ""))) (defBody s_law_which) = t_law_which pa (isHeld (excs.getD i "")) := by
    intro i
    match i with
    | 0 => kernel_rfl
    | 1 => kernel_rfl
    | 2 => kernel_rfl
    | 3 => kernel_rfl
    | 4 => kernel_rfl
    | 5 => kernel_rfl
    | 6 => kernel_rfl
    | 7 => kernel_rfl
    | 8 => kernel_rfl
    | 9 => kernel_rfl
  obtain ⟨i, hi, e⟩ := List.mem_iff_getElem.mp h
  have := z ⟨i, hi⟩
  rw [List.getD_eq_getElem?_getD, List.getElem?_eq_getElem hi] at this
  rw [← e]
  exact this
theorem which_run (pa : Addr) (hd : Str → Bool) (s : Sto) (i : Nat) (hv : hd "ValueError" = true)
    (hc : mCount (.lst [.bl (hd "NoHouse"), .bl (hd "NoWatchers"), .bl (hd "NoGoal"), .bl (hd "NoWay"), .bl (hd "NoCount"), .bl (hd "NoPaper"), .bl (hd "NoRoom"), .bl (hd "Never"), .bl (hd "NoText"), .bl (hd "Nothing")]) [.bl true] = some ⟨.cl, .int 1⟩)
    (hi : mIndex (.lst [.bl (hd "NoHouse"), .bl (hd "NoWatchers"), .bl (hd "NoGoal"), .bl (hd "NoWay"), .bl (hd "NoCount"), .bl (hd "NoPaper"), .bl (hd "NoRoom"), .bl (hd "Never"), .bl (hd "NoText"), .bl (hd "Nothing")]) [.bl true] = some ⟨.cl, .int i⟩) :
    runFn N_law_which (t_law_which pa hd) [.exc pa] s = .ok ⟨.cl, .tup [.str "refused", .int i]⟩ s := by
  unfold t_law_which N_law_which
  simp [startD, hv, hc, hi]
theorem whichF_ok (pa : Addr) (cls : Str) (s : Sto) : whichF cls s = .bad ∨ (cls ∈ excs ∧ whichF cls s = runFn (c_law_which 0 []).N (trS 30 { c_law_which 0 [] with held := some (0, pa, whichT cls) } (defBody s_law_which)) [.exc pa] s) := by
  by_cases h : cls ∈ excs
  · refine .inr ⟨h, ?_⟩
    have e : trS 30 { c_law_which 0 [] with held := some (0, pa, whichT cls) } (defBody s_law_which) = t_law_which pa (isHeld cls) := which_eq cls h pa
    rw [e]
    show _ = runFn N_law_which (t_law_which pa (isHeld cls)) [.exc pa] s
    have key : ∀ i : Fin 10, whichF (excs.getD i "") s = runFn N_law_which (t_law_which pa (isHeld (excs.getD i ""))) [.exc pa] s := by
      intro i
      rw [which_run pa _ s i.val]
      · match i with
        | 0 => kernel_rfl
        | 1 => kernel_rfl
        | 2 => kernel_rfl
        | 3 => kernel_rfl
        | 4 => kernel_rfl
        | 5 => kernel_rfl
        | 6 => kernel_rfl
        | 7 => kernel_rfl
        | 8 => kernel_rfl
        | 9 => kernel_rfl
      · revert i
        decide +kernel
      · match i with
        | 0 => kernel_rfl
        | 1 => kernel_rfl
        | 2 => kernel_rfl
        | 3 => kernel_rfl
        | 4 => kernel_rfl
        | 5 => kernel_rfl
        | 6 => kernel_rfl
        | 7 => kernel_rfl
        | 8 => kernel_rfl
        | 9 => kernel_rfl
      · match i with
        | 0 => kernel_rfl
        | 1 => kernel_rfl
        | 2 => kernel_rfl
        | 3 => kernel_rfl
        | 4 => kernel_rfl
        | 5 => kernel_rfl
        | 6 => kernel_rfl
        | 7 => kernel_rfl
        | 8 => kernel_rfl
        | 9 => kernel_rfl
    obtain ⟨i, hi, e⟩ := List.mem_iff_getElem.mp h
    have := key ⟨i, hi⟩
    simp only [List.getD_eq_getElem?_getD, List.getElem?_eq_getElem hi, Option.getD_some, e] at this
    exact this
  · refine .inl ?_
    unfold whichF
    have : idx excs cls = none := by
      unfold idx
      rw [List.findIdx?_eq_none_iff]
      intro x hx
      have : x ≠ cls := fun e => h (e ▸ hx)
      simpa using this
    rw [this]

abbrev s_law_ask : Stmt := top 64
def fns_law_ask : Tbl := [("seen", 3, m_seen), ("open_rooms", 3, m_open_rooms), ("unseen", 4, m_unseen), ("paper", 4, m_paper)]
def c_law_ask : Cc := ⟨["what", "house", "watchers", "goal", "many", "e"], defScope s_law_ask, fns_law_ask, gis, gss, excs, true, none, some ("WayError", "_law_which", whichF), [], [], [], 400⟩
def t_law_ask : S :=
  (sTry 5 excs
    (sSeq (sIf (tOf (eOp opEq (eVar 0) (eC (.int (0)))))
      (sRet (eCall m_seen (lCons (eVar 1) (lCons (eVar 2) (lCons (eVar 3) lNil)))))
      sNil)
    (sRet (eIf (tOf (eOp opLt (eVar 0) (eC (.int (3))))) (eCallX fns_law_ask (eIx (eLst (lCons (eC (.fn "unseen")) (lCons (eC (.fn "paper")) lNil))) (eOp opSub (eVar 0) (eC (.int (1))))) (lCons (eVar 1) (lCons (eVar 2) (lCons (eVar 3) (lCons (eVar 4) lNil))))) (eCall m_open_rooms (lCons (eVar 1) (lCons (eVar 2) (lCons (eVar 4) lNil))))))) whichF)
def m_law_ask : Fn := runFn ["what", "house", "watchers", "goal", "many", "e"] t_law_ask
theorem tr_law_ask : trS 30 c_law_ask (defBody s_law_ask) = t_law_ask := by kernel_rfl
abbrev s_law_line : Stmt := top 65
def fns_law_line : Tbl := []
def c_law_line : Cc := ⟨["rooms", "room"], defScope s_law_line, fns_law_line, gis, gss, excs, true, none, none, [], [], [], 400⟩
def t_law_line : S :=
  (sRet (eTup (lCons (eVar 0) (lCons (eB bTuple (lCons (eComp [1] (iRange (lCons (eOp opSub (eVar 0) (eC (.int (1)))) lNil)) (gN 1) tT (eTup (lCons (eVar 1) (lCons (eOp opAdd (eVar 1) (eC (.int (1)))) lNil)))) lNil)) lNil))))
def m_law_line : Fn := runFn ["rooms", "room"] t_law_line
theorem tr_law_line : trS 30 c_law_line (defBody s_law_line) = t_law_line := by kernel_rfl
abbrev s_law_ways : Stmt := top 66
def fns_law_ways : Tbl := [("_law_ask", 5, m_law_ask), ("is_paper", 4, m_is_paper), ("parted", 3, m_parted), ("fewest_spots", 2, m_fewest_spots), ("delays", 4, m_delays), ("_law_draw", 3, m_law_draw)]
def c_law_ways : Cc := ⟨["script", "town", "line", "shut", "late", "never", "thing", "apart", "room"], defScope s_law_ways, fns_law_ways, gis, gss, excs, true, none, none, [], [(282, 6)], [], 400⟩
def t_law_ways : S :=
  (sSeq (sIf (tOr (tOf (eOp opNe (eCall m_law_ask (lCons (eC (.int (0))) (lCons (eVar 2) (lCons (eTup lNil) (lCons (eOp opMul (eTup (lCons (eC (.int (0))) lNil)) (eC (.int (40)))) (lCons (eC .non) lNil)))))) (eLst lNil))) (tOf (eOp opNe (eCall m_law_ask (lCons (eC (.int (0))) (lCons (eVar 2) (lCons (eTup lNil) (lCons (eOp opMul (eTup (lCons (eC (.int (0))) lNil)) (eC (.int (41)))) (lCons (eC .non) lNil)))))) (eTup (lCons (eC (.str "refused")) (lCons (eC (.int (3))) lNil))))))
    (sRet (eC (.bl false)))
    sNil)
  (sSeq (sIf (tOf (eOp opNe (eCall m_law_ask (lCons (eC (.int (0))) (lCons (eVar 2) (lCons (eTup lNil) (lCons (eOp opMul (eTup (lCons (eC (.int (0))) lNil)) (eOp opAdd (eC (.int (1))) (eCall m_law_draw (lCons (eVar 0) (lCons (eVar 1) (lCons (eC (.int (39))) lNil)))))) (lCons (eC .non) lNil)))))) (eLst lNil)))
    (sRet (eC (.bl false)))
    sNil)
  (sSeq (sIf (tOr (tOf (eOp opIsNot (eCall m_law_ask (lCons (eC (.int (1))) (lCons (eVar 2) (lCons (eTup lNil) (lCons (eC (.int (9))) (lCons (eC (.int (9))) lNil)))))) (eC .non))) (tOf (eOp opNe (eCall m_law_ask (lCons (eC (.int (1))) (lCons (eVar 2) (lCons (eTup lNil) (lCons (eC (.int (9))) (lCons (eC (.int (10))) lNil)))))) (eTupR (eC (.int (10)))))))
    (sRet (eC (.bl false)))
    sNil)
  (sSeq (sAsg 3 (eTup (lCons (eTup (lCons (eTup (lCons (eC (.str "door")) (lCons (eC (.int (8))) (lCons (eC (.int (9))) lNil)))) (lCons (eC (.str "#####.")) lNil))) lNil)))
  (sSeq (sAsg 4 (eCall m_law_ask (lCons (eC (.int (1))) (lCons (eVar 2) (lCons (eVar 3) (lCons (eC (.int (9))) (lCons (eC (.int (30))) lNil)))))))
  (sSeq (sIf (tOr (tOf (eOp opIs (eVar 4) (eC .non))) (tOr (tOf (eOp opNe (eLen (lCons (eVar 4) lNil)) (eC (.int (13))))) (tOf (eOp opIsNot (eCall m_law_ask (lCons (eC (.int (1))) (lCons (eVar 2) (lCons (eVar 3) (lCons (eC (.int (9))) (lCons (eC (.int (12))) lNil)))))) (eC .non)))))
    (sRet (eC (.bl false)))
    sNil)
  (sSeq (sIf (tOf (eOp opNe (eCall m_law_ask (lCons (eC (.int (1))) (lCons (eVar 2) (lCons (eVar 3) (lCons (eC (.int (9))) (lCons (eC (.int (31))) lNil)))))) (eTup (lCons (eC (.str "refused")) (lCons (eC (.int (4))) lNil)))))
    (sRet (eC (.bl false)))
    sNil)
  (sSeq (sAsg 5 (eTup (lCons (eTup (lCons (eTup (lCons (eC (.str "door")) (lCons (eC (.int (0))) (lCons (eC (.int (1))) lNil)))) (lCons (eC (.str "#")) lNil))) lNil)))
  (sSeq (sAsg 6 (eCall m_law_ask (lCons (eC (.int (2))) (lCons (eVar 2) (lCons (eVar 5) (lCons (eC (.int (9))) (lCons (eC (.int (30))) lNil)))))))
  (sSeq (sFrz 6 (sIf (tOr (tOf (eOp opNe (eVar 6) (eOp opMul (eLst (lCons (eTup (lCons (eC (.int (0))) lNil)) lNil)) (eC (.int (30)))))) (tOf (eOp opNe (eCall m_is_paper (lCons (eVar 2) (lCons (eVar 5) (lCons (eC (.int (9))) (lCons (eVar 6) lNil))))) (eC (.bl true)))))
    (sRet (eC (.bl false)))
    sNil))
  (sSeq (sIf (tOf (eOp opNe (eCall m_is_paper (lCons (eVar 2) (lCons (eVar 5) (lCons (eC (.int (9))) (lCons (eOp opAdd (eVar 6) (eLst (lCons (eTup (lCons (eC (.int (0))) lNil)) lNil))) lNil))))) (eC (.bl false))))
    (sRet (eC (.bl false)))
    sNil)
  (sSeq (sIf (tOr (tOf (eOp opNe (eCall m_law_ask (lCons (eC (.int (3))) (lCons (eVar 2) (lCons (eTup lNil) (lCons (eC .non) (lCons (eC (.int (30))) lNil)))))) (eTupR (eC (.int (10)))))) (tOf (eOp opNe (eCall m_law_ask (lCons (eC (.int (3))) (lCons (eVar 2) (lCons (eTup lNil) (lCons (eC .non) (lCons (eC (.int (31))) lNil)))))) (eTup (lCons (eC (.str "refused")) (lCons (eC (.int (4))) lNil))))))
    (sRet (eC (.bl false)))
    sNil)
  (sSeq (sIf (tOr (tOf (eOp opNe (eCall m_fewest_spots (lCons (eVar 2) (lCons (eC (.int (1))) lNil))) (eLst (lCons (eTup (lCons (eC (.str "door")) (lCons (eC (.int (0))) (lCons (eC (.int (1))) lNil)))) lNil)))) (tOf (eOp opNe (eLen (lCons (eCall m_fewest_spots (lCons (eVar 2) (lCons (eC (.int (9))) lNil))) lNil)) (eC (.int (1))))))
    (sRet (eC (.bl false)))
    sNil)
  (sSeq (sAsg 7 (eTup (lCons (eC (.int (10))) (lCons (eB bTuple (lCons (eOp opAdd (eLst (lCons (eTup (lCons (eC (.int (0))) (lCons (eC (.int (1))) lNil))) (lCons (eTup (lCons (eC (.int (1))) (lCons (eC (.int (2))) lNil))) lNil))) (eComp [8] (iRange (lCons (eC (.int (3))) (lCons (eC (.int (9))) lNil))) (gN 8) tT (eTup (lCons (eVar 8) (lCons (eOp opAdd (eVar 8) (eC (.int (1)))) lNil))))) lNil)) lNil))))
  (sSeq (sIf (tOr (tOf (eOp opNe (eCall m_delays (lCons (eVar 7) (lCons (eC (.int (1))) (lCons (eC (.int (2))) (lCons (eC (.int (9))) lNil))))) (eTup (lCons (eC (.int (1))) (lCons (eC (.int (30))) lNil))))) (tOr (tOf (eOp opIsNot (eCall m_delays (lCons (eVar 7) (lCons (eC (.int (1))) (lCons (eC (.int (9))) (lCons (eC (.int (2))) lNil))))) (eC .non))) (tOf (eOp opNe (eCall m_delays (lCons (eVar 2) (lCons (eC (.int (1))) (lCons (eC (.int (2))) (lCons (eC (.int (9))) lNil))))) (eTup (lCons (eC (.int (1))) (lCons (eC (.int (7))) lNil)))))))
    (sRet (eC (.bl false)))
    sNil)
  (sSeq (sIf (tOf (eOp opIsNot (eCall m_parted (lCons (eVar 2) (lCons (eTup (lCons (eTup (lCons (eTup (lCons (eC (.str "room")) (lCons (eC (.int (5))) lNil))) (lCons (eC (.str ".")) lNil))) lNil)) (lCons (eTup lNil) lNil)))) (eC .non)))
    (sRet (eC (.bl false)))
    sNil)
  (sRet (eOp opEq (eCall m_parted (lCons (eVar 2) (lCons (eTup (lCons (eTup (lCons (eTup (lCons (eC (.str "room")) (lCons (eC (.int (9))) lNil))) (lCons (eC (.str "#")) lNil))) lNil)) (lCons (eTup lNil) lNil)))) (eTupR (eC (.int (10))))))))))))))))))))))
def m_law_ways : Fn := runFn ["script", "town", "line", "shut", "late", "never", "thing", "apart", "room"] t_law_ways
theorem tr_law_ways : trS 30 c_law_ways (defBody s_law_ways) = t_law_ways := by kernel_rfl
abbrev s_law : Stmt := top 67
def fns_law : Tbl := [("_law_line", 1, m_law_line), ("_law_ways", 3, m_law_ways), ("is_house", 1, m_is_house), ("are_watchers", 2, m_are_watchers)]
def c_law : Cc := ⟨["script", "town", "rooms", "good", "every", "one", "line", "some", "beats", "room", "other"], defScope s_law, fns_law, gis, gss, excs, true, none, none, ["one"], [], [(297, 1)], 400⟩
def t_law : S :=
  (sSeq (sMov 1 (sAsg 1 (eLst lNil)))
  (sSeq (sFor (iAny (eTup (lCons (eTup (lCons (eC (.int (1))) (lCons (eC (.bl false)) lNil))) (lCons (eTup (lCons (eC (.int (2))) (lCons (eC (.bl true)) lNil))) (lCons (eTup (lCons (eC (.int (10))) (lCons (eC (.bl true)) lNil))) (lCons (eTup (lCons (eC (.int (11))) (lCons (eC (.bl false)) lNil))) lNil)))))) (gT (gsCons (gN 2) (gsCons (gN 3) gsNil)))
    (sIf (tOf (eOp opNe (eCall m_is_house (lCons (eTup (lCons (eVar 2) (lCons (eTup lNil) lNil))) lNil)) (eVar 3)))
      (sRet (eC (.bl false)))
      sNil))
  (sSeq (sAsg 4 (eLst lNil))
  (sSeq (sFor (iRange (lCons (eC (.int (7))) lNil)) (gN 5)
    (sExt 4 (eComp [10] (iRange (lCons (eOp opAdd (eVar 5) (eC (.int (1)))) (lCons (eC (.int (7))) lNil))) (gN 10) tT (eTup (lCons (eVar 5) (lCons (eVar 10) lNil))))))
  (sSeq (sIf (tOr (tOf (eOp opNe (eCall m_is_house (lCons (eTup (lCons (eC (.int (7))) (lCons (eB bTuple (lCons (eSl (eVar 4) oNone (oSome (eC (.int (20))))) lNil)) lNil))) lNil)) (eC (.bl true)))) (tOf (eOp opNe (eCall m_is_house (lCons (eTup (lCons (eC (.int (7))) (lCons (eB bTuple (lCons (eSl (eVar 4) oNone (oSome (eC (.int (21))))) lNil)) lNil))) lNil)) (eC (.bl false)))))
    (sRet (eC (.bl false)))
    sNil)
  (sSeq (sAsg 6 (eCall m_law_line (lCons (eC (.int (10))) lNil)))
  (sSeq (sAsg 7 (eComp [9] (iRange (lCons (eC (.int (1))) (lCons (eC (.int (10))) lNil))) (gN 9) tT (eTup (lCons (eTup (lCons (eC (.str "room")) (lCons (eVar 9) lNil))) (lCons (eOp opAdd (eC (.str "#.")) (eOp opMul (eC (.str "#")) (eOp opMod (eVar 9) (eC (.int (4)))))) lNil)))))
  (sSeq (sExt 7 (eComp [9] (iRange (lCons (eC (.int (1))) (lCons (eC (.int (5))) lNil))) (gN 9) tT (eTup (lCons (eTup (lCons (eC (.str "room")) (lCons (eVar 9) lNil))) (lCons (eC (.str ".")) lNil)))))
  (sSeq (sIf (tOr (tOf (eOp opNe (eCall m_are_watchers (lCons (eVar 6) (lCons (eB bTuple (lCons (eB bSorted (lCons (eSl (eVar 7) oNone (oSome (eC (.int (12))))) lNil)) lNil)) lNil))) (eC (.bl true)))) (tOf (eOp opNe (eCall m_are_watchers (lCons (eVar 6) (lCons (eB bTuple (lCons (eB bSorted (lCons (eVar 7) lNil)) lNil)) lNil))) (eC (.bl false)))))
    (sRet (eC (.bl false)))
    sNil)
  (sSeq (sFor (iAny (eTup (lCons (eTup (lCons (eOp opMul (eC (.str "#")) (eC (.int (6)))) (lCons (eC (.bl true)) lNil))) (lCons (eTup (lCons (eOp opMul (eC (.str "#")) (eC (.int (7)))) (lCons (eC (.bl false)) lNil))) (lCons (eTup (lCons (eC (.str "")) (lCons (eC (.bl false)) lNil))) (lCons (eTup (lCons (eC (.str "x")) (lCons (eC (.bl false)) lNil))) lNil)))))) (gT (gsCons (gN 8) (gsCons (gN 3) gsNil)))
    (sIf (tOf (eOp opNe (eCall m_are_watchers (lCons (eVar 6) (lCons (eTup (lCons (eTup (lCons (eTup (lCons (eC (.str "room")) (lCons (eC (.int (1))) lNil))) (lCons (eVar 8) lNil))) lNil)) lNil))) (eVar 3)))
      (sRet (eC (.bl false)))
      sNil))
  (sRet (eCall m_law_ways (lCons (eVar 0) (lCons (eVar 1) (lCons (eVar 6) lNil)))))))))))))))
def m_law : Fn := runFn ["script", "town", "rooms", "good", "every", "one", "line", "some", "beats", "room", "other"] t_law
theorem tr_law : trS 30 c_law (defBody s_law) = t_law := by kernel_rfl
end Q13
namespace Q13
open PySem PySem.Spec PyProof.Rows L2 UW
def wholeD (x : D) (lo hi : Int) : Bool := match x with
  | .int i => decide (lo ≤ i) && decide (i ≤ hi)
  | _ => false
def okD (x : D) : Bool := (tyD x).isSome
theorem is_whole_ev {x : D} {lo hi : Int} {s : Sto} (h : okD x = true) : m_is_whole [x, .int lo, .int hi] s = .ok ⟨.cl, .bl (wholeD x lo hi)⟩ s := by
  unfold m_is_whole t_is_whole
  cases x <;> simp [startD, wholeD, okD, tyD] at *
  rename_i i
  by_cases h : lo ≤ i <;> simp [h]
theorem whole_int {i lo hi : Int} {s : Sto} : m_is_whole [.int i, .int lo, .int hi] s = .ok ⟨.cl, .bl (decide (lo ≤ i) && decide (i ≤ hi))⟩ s := is_whole_ev rfl
theorem whole_non {lo hi : Int} {s : Sto} : m_is_whole [.non, .int lo, .int hi] s = .ok ⟨.cl, .bl false⟩ s := is_whole_ev rfl
theorem whole_bl {b : Bool} {lo hi : Int} {s : Sto} : m_is_whole [.bl b, .int lo, .int hi] s = .ok ⟨.cl, .bl false⟩ s := is_whole_ev rfl
theorem whole_str {b : Str} {lo hi : Int} {s : Sto} : m_is_whole [.str b, .int lo, .int hi] s = .ok ⟨.cl, .bl false⟩ s := is_whole_ev rfl
/-! ### draws -/
def st (n : Nat) : Sto := [.lst (List.replicate n (.int 0))]
def cellAt (ns : List Int) (k : Nat) : Int := if k < ns.length then ns.getD k 0 else if ns = [] then 0 else ns.getD (k % ns.length) 0 * 31 + k
def dr (ns : List Int) (k : Nat) (many : Int) : Int := ((cellAt ns k * 1103515245 + 7919 * k + 12345) % 2147483647) ^ 5 % 2147483647 % 999983 % many
theorem dr_lo {ns : List Int} {k : Nat} {many : Int} (h : 0 < many) : 0 ≤ dr ns k many := Int.emod_nonneg _ (by omega)
theorem dr_hi {ns : List Int} {k : Nat} {many : Int} (h : 0 < many) : dr ns k many < many := Int.emod_lt_of_pos _ h
theorem scr_eq {ns : List Int} : opEq (.scr ns) (.lst []) = some ⟨.cl, .bl (decide (ns = []))⟩ := by
  have h1 : (D.scr ns).shp = true := by
    have e1 : PyData.canLayAll0 (ns.map PyData.int) = true := canAll fun x hx => by
      obtain ⟨n, _, rfl⟩ := List.mem_map.mp hx
      simp [PyData.canLay0]
    have e2 : PyData.depthAll (ns.map PyData.int) ≤ 0 := depAll fun x hx => by
      obtain ⟨n, _, rfl⟩ := List.mem_map.mp hx
      simp [PyData.depth]
    show (true && (PyData.canLay0 (.list (ns.map PyData.int)) && decide (PyData.depth (.list (ns.map PyData.int)) ≤ 64))) = true
    have e3 : PyData.depth (.list (ns.map PyData.int)) ≤ 64 := by
      simp only [PyData.depth]
      omega
    have e4 : PyData.canLay0 (.list (ns.map PyData.int)) = true := by
      simp only [PyData.canLay0]
      exact e1
    rw [e4, decide_eq_true e3]
    rfl
  unfold opEq
  rw [if_pos ⟨h1, by decide +kernel⟩]
  show some (⟨.cl, .bl (PyData.eqv (.list (ns.map PyData.int)) (.list []))⟩ : TV) = _
  cases ns <;> simp [PyData.eqv, PyData.eqvAll]
theorem cell_ev {ns : List Int} {k : Nat} {s : Sto} : m_law_cell_at [.scr ns, .int k] s = .ok ⟨.cl, .int (cellAt ns k)⟩ s := by
  unfold m_law_cell_at t_law_cell_at cellAt
  by_cases h1 : k < ns.length
  · simp [startD, scr_eq, h1, atN]
  · by_cases h2 : ns = []
    · subst h2
      have hk : ¬ ((k : Int) < 0) := by omega
      simp [startD, scr_eq, hk]
    · have h3 : 0 < ns.length := List.length_pos_iff.mpr h2
      have h4 : k % ns.length < ns.length := Nat.mod_lt _ h3
      have h5 : (0 : Int) < ns.length := by omega
      have e : atI ns ((k : Int) % (ns.length : Int)) = some ns[k % ns.length] := by
        rw [← Int.natCast_emod, atN, List.getElem?_eq_getElem h4]
      have hk : ¬ ((k : Int) < ns.length) := by omega
      simp [startD, scr_eq, h1, h2, hk, o_mod h5, e, h4, o_mul (mulOk_r (i := ns[k % ns.length]) (j := 31) (by omega))]
theorem mixed_ev {ns : List Int} {k : Nat} {many : Int} {s : Sto} (hm : 0 < many) : m_law_mixed [.scr ns, .int k, .int many] s = .ok ⟨.cl, .int (dr ns k many)⟩ s := by
  unfold m_law_mixed t_law_mixed dr
  generalize hc : cellAt ns k = c
  have b1 : 0 ≤ (c * 1103515245 + 7919 * (k : Int) + 12345) % 2147483647 := Int.emod_nonneg _ (by omega)
  have b2 : (c * 1103515245 + 7919 * (k : Int) + 12345) % 2147483647 < 2147483647 := Int.emod_lt_of_pos _ (by omega)
  have b3 : ((c * 1103515245 + 7919 * (k : Int) + 12345) % 2147483647).natAbs < 2 ^ 64 := by omega
  simp [startD, cell_ev, hc, o_mul (mulOk_r (i := c) (j := 1103515245) (by omega)), o_mul (mulOk_l (i := 7919) (j := k) (by omega)), o_mod (j := 2147483647) (by omega), o_mod (j := 999983) (by omega), o_mod hm, o_pow (j := 5) (by omega) (by omega) b3]
theorem draw_ev {ns : List Int} {n : Nat} {many : Int} (hm : 0 < many) (hn : n < 16777216) : m_law_draw [.scr ns, .ref 0, .int many] (st n) = .ok ⟨.cl, .int (dr ns (n + 1) many)⟩ (st (n + 1)) := by
  unfold m_law_draw t_law_draw st
  have e : List.replicate n (D.int 0) ++ [D.int 0] = List.replicate (n + 1) (.int 0) := by rw [List.replicate_succ']
  have := mixed_ev (ns := ns) (k := n + 1) (s := [Ob.lst (List.replicate (n + 1) (.int 0))]) hm
  rw [show (((n + 1 : Nat)) : Int) = (n : Int) + 1 from rfl] at this
  simp [startD, hn, e, this]
end Q13
namespace Q13
open PySem PySem.Spec PyProof.Rows L2 UW
/-! ### sorting that computes (by putting in) -/
def insD (a : D) : List D → List D
  | [] => [a]
  | b :: l => if leD a b = true then a :: b :: l else b :: insD a l
def isortD : List D → List D
  | [] => []
  | a :: l => insD a (isortD l)
theorem ins_at (a : D) : ∀ (l1 l2 : List D), (∀ b, b ∈ l1 → leD a b = false) → (∀ b, b ∈ l2 → leD a b = true) → insD a (l1 ++ l2) = l1 ++ a :: l2
  | [], [], _, _ => rfl
  | [], b :: l2, _, h => by
    show (if leD a b = true then a :: b :: l2 else b :: insD a l2) = _
    rw [if_pos (h b List.mem_cons_self)]
    rfl
  | c :: l1, l2, h1, h2 => by
    show (if leD a c = true then a :: c :: (l1 ++ l2) else c :: insD a (l1 ++ l2)) = _
    rw [if_neg (by rw [h1 c List.mem_cons_self]; simp), ins_at a l1 l2 (fun b hb => h1 b (List.mem_cons_of_mem _ hb)) h2]
    rfl
theorem sortD_is : ∀ l : List D, sortD l = isortD l
  | [] => by
    unfold sortD isortD
    exact List.mergeSort_nil
  | a :: l => by
    obtain ⟨l1, l2, e1, e2, e3⟩ := List.mergeSort_cons (le := leD) leD_trans leD_total a l
    show (a :: l).mergeSort leD = insD a (isortD l)
    rw [← sortD_is l]
    show _ = insD a (l.mergeSort leD)
    have pw := sortD_pw (a :: l)
    unfold sortD at pw
    rw [e1] at pw ⊢
    rw [e2, ins_at]
    · intro b hb
      have := e3 b hb
      simpa using this
    · intro b hb
      exact (List.pairwise_cons.mp (List.pairwise_append.mp pw).2.1).1 b hb
def bSortK : List D → Option TV
  | [.lst ds] => if sortable ds = true ∧ ds.length ≤ 16777216 then some ⟨.fr, .lst (isortD ds)⟩ else none
  | [.tup ds] => if sortable ds = true ∧ ds.length ≤ 16777216 then some ⟨.fr, .lst (isortD ds)⟩ else none
  | _ => none
theorem bSort_is : bSorted = bSortK := by
  funext l
  unfold bSorted bSortK
  split <;> simp only [sortD_is]
end Q13
namespace Q13
open PySem PySem.Spec PyProof.Rows L2 UW
def u_is_whole : Fn := runFn ["thing", "low", "most"] (
  (sRet (eAnd (eIsi "int" (eVar 0)) (eAnd (eNot (eIsi "bool" (eVar 0))) (eChain (fun i j => decide (i ≤ j)) (fun i j => decide (i ≤ j)) (eVar 1) (eVar 0) (eVar 2))))))
theorem q_is_whole : m_is_whole = u_is_whole := rfl
def u_is_rising : Fn := runFn ["thing", "one", "other"] (
  (sRet (eB bAll (lCons (eComp [1, 2] (iZip (lCons (eVar 0) (lCons (eSl (eVar 0) (oSome (eC (.int (1)))) oNone) lNil))) (gT (gsCons (gN 1) (gsCons (gN 2) gsNil))) tT (eOp opLt (eVar 1) (eVar 2))) lNil))))
theorem q_is_rising : m_is_rising = u_is_rising := rfl
def u_is_door : Fn := runFn ["rooms", "thing", "room"] (
  (sSeq (sIf (tOr (tNot (tOf (eIsi "tuple" (eVar 1)))) (tOr (tOf (eOp opNe (eLen (lCons (eVar 1) lNil)) (eC (.int (2))))) (tNot (tOf (eB bAll (lCons (eComp [2] (iAny (eVar 1)) (gN 2) tT (eCall u_is_whole (lCons (eVar 2) (lCons (eC (.int (0))) (lCons (eOp opSub (eVar 0) (eC (.int (1)))) lNil))))) lNil))))))
    (sRet (eC (.bl false)))
    sNil)
  (sRet (eOp opLt (eIx (eVar 1) (eC (.int (0)))) (eIx (eVar 1) (eC (.int (1))))))))
theorem q_is_door : m_is_door = u_is_door := by
  unfold m_is_door t_is_door u_is_door
  simp only [q_is_whole]
def u_is_house : Fn := runFn ["thing", "door"] (
  (sSeq (sIf (tOr (tNot (tOf (eIsi "tuple" (eVar 0)))) (tOr (tOf (eOp opNe (eLen (lCons (eVar 0) lNil)) (eC (.int (2))))) (tNot (tOf (eCall u_is_whole (lCons (eIx (eVar 0) (eC (.int (0)))) (lCons (eC (.int (2))) (lCons (eC (.int (10))) lNil))))))))
    (sRet (eC (.bl false)))
    sNil)
  (sSeq (sIf (tOr (tNot (tOf (eIsi "tuple" (eIx (eVar 0) (eC (.int (1))))))) (tOf (eOp opGtI (eLen (lCons (eIx (eVar 0) (eC (.int (1)))) lNil)) (eC (.int (20))))))
    (sRet (eC (.bl false)))
    sNil)
  (sRet (eAnd (eB bAll (lCons (eComp [1] (iAny (eIx (eVar 0) (eC (.int (1))))) (gN 1) tT (eCall u_is_door (lCons (eIx (eVar 0) (eC (.int (0)))) (lCons (eVar 1) lNil)))) lNil)) (eCall u_is_rising (lCons (eIx (eVar 0) (eC (.int (1)))) lNil)))))))
theorem q_is_house : m_is_house = u_is_house := by
  unfold m_is_house t_is_house u_is_house
  simp only [q_is_door, q_is_rising, q_is_whole]
def u_need_house : Fn := runFn ["thing"] (
  (sIf (tNot (tOf (eCall u_is_house (lCons (eVar 0) lNil))))
    (sRaise "NoHouse")
    sNil))
theorem q_need_house : m_need_house = u_need_house := by
  unfold m_need_house t_need_house u_need_house
  simp only [q_is_house]
def u_all_spots : Fn := runFn ["house", "door", "room"] (
  (sRet (eOp opAdd (eComp [1] (iAny (eIx (eVar 0) (eC (.int (1))))) (gN 1) tT (eOp opAdd (eTup (lCons (eC (.str "door")) lNil)) (eVar 1))) (eComp [2] (iRange (lCons (eC (.int (1))) (lCons (eIx (eVar 0) (eC (.int (0)))) lNil))) (gN 2) tT (eTup (lCons (eC (.str "room")) (lCons (eVar 2) lNil)))))))
theorem q_all_spots : m_all_spots = u_all_spots := rfl
def u_is_spot : Fn := runFn ["house", "thing", "number"] (
  (sSeq (sIf (tOr (tNot (tOf (eIsi "tuple" (eVar 1)))) (tOr (tOf (eOp opEq (eVar 1) (eTup lNil))) (tNot (tOf (eIsi "str" (eIx (eVar 1) (eC (.int (0)))))))))
    (sRet (eC (.bl false)))
    sNil)
  (sSeq (sIf (tNot (tOf (eB bAll (lCons (eComp [2] (iAny (eSl (eVar 1) (oSome (eC (.int (1)))) oNone)) (gN 2) tT (eCall u_is_whole (lCons (eVar 2) (lCons (eC (.int (0))) (lCons (eIx (eVar 0) (eC (.int (0)))) lNil))))) lNil))))
    (sRet (eC (.bl false)))
    sNil)
  (sRet (eOp opIn (eVar 1) (eCall u_all_spots (lCons (eVar 0) lNil)))))))
theorem q_is_spot : m_is_spot = u_is_spot := by
  unfold m_is_spot t_is_spot u_is_spot
  simp only [q_all_spots, q_is_whole]
def u_is_watcher : Fn := runFn ["house", "thing", "sign"] (
  (sSeq (sIf (tOr (tNot (tOf (eIsi "tuple" (eVar 1)))) (tOr (tOf (eOp opNe (eLen (lCons (eVar 1) lNil)) (eC (.int (2))))) (tNot (tOf (eCall u_is_spot (lCons (eVar 0) (lCons (eIx (eVar 1) (eC (.int (0)))) lNil)))))))
    (sRet (eC (.bl false)))
    sNil)
  (sRet (eAnd (eIsi "str" (eIx (eVar 1) (eC (.int (1))))) (eAnd (eChain (fun i j => decide (i ≤ j)) (fun i j => decide (i ≤ j)) (eC (.int (1))) (eLen (lCons (eIx (eVar 1) (eC (.int (1)))) lNil)) (eC (.int (6)))) (eB bAll (lCons (eComp [2] (iAny (eIx (eVar 1) (eC (.int (1))))) (gN 2) tT (eOp opIn (eVar 2) (eC (.str "#.")))) lNil)))))))
theorem q_is_watcher : m_is_watcher = u_is_watcher := by
  unfold m_is_watcher t_is_watcher u_is_watcher
  simp only [q_is_spot]
def u_are_watching : Fn := runFn ["house", "thing", "one"] (
  (sSeq (sIf (tOr (tNot (tOf (eIsi "tuple" (eVar 1)))) (tOr (tOf (eOp opGtI (eLen (lCons (eVar 1) lNil)) (eC (.int (12))))) (tNot (tOf (eB bAll (lCons (eComp [2] (iAny (eVar 1)) (gN 2) tT (eCall u_is_watcher (lCons (eVar 0) (lCons (eVar 2) lNil)))) lNil))))))
    (sRet (eC (.bl false)))
    sNil)
  (sRet (eCall u_is_rising (lCons (eVar 1) lNil)))))
theorem q_are_watching : m_are_watching = u_are_watching := by
  unfold m_are_watching t_are_watching u_are_watching
  simp only [q_is_rising, q_is_watcher]
def u_are_watchers : Fn := runFn ["house", "thing"] (
  (sSeq (sDrop (eCall u_need_house (lCons (eVar 0) lNil)))
  (sRet (eCall u_are_watching (lCons (eVar 0) (lCons (eVar 1) lNil))))))
theorem q_are_watchers : m_are_watchers = u_are_watchers := by
  unfold m_are_watchers t_are_watchers u_are_watchers
  simp only [q_are_watching, q_need_house]
def u_need_watchers : Fn := runFn ["house", "thing"] (
  (sSeq (sDrop (eCall u_need_house (lCons (eVar 0) lNil)))
  (sIf (tNot (tOf (eCall u_are_watching (lCons (eVar 0) (lCons (eVar 1) lNil)))))
    (sRaise "NoWatchers")
    sNil)))
theorem q_need_watchers : m_need_watchers = u_need_watchers := by
  unfold m_need_watchers t_need_watchers u_need_watchers
  simp only [q_are_watching, q_need_house]
def u_need_goal : Fn := runFn ["house", "thing"] (
  (sIf (tNot (tOf (eCall u_is_whole (lCons (eVar 1) (lCons (eC (.int (1))) (lCons (eOp opSub (eIx (eVar 0) (eC (.int (0)))) (eC (.int (1)))) lNil))))))
    (sRaise "NoGoal")
    sNil))
theorem q_need_goal : m_need_goal = u_need_goal := by
  unfold m_need_goal t_need_goal u_need_goal
  simp only [q_is_whole]
def u_beside : Fn := runFn ["house", "room", "made", "one", "other"] (
  (sSeq (sAsg 2 (eOp opAdd (eComp [3, 4] (iAny (eIx (eVar 0) (eC (.int (1))))) (gT (gsCons (gN 3) (gsCons (gN 4) gsNil))) (tOf (eOp opEq (eVar 3) (eVar 1))) (eVar 4)) (eComp [3, 4] (iAny (eIx (eVar 0) (eC (.int (1))))) (gT (gsCons (gN 3) (gsCons (gN 4) gsNil))) (tOf (eOp opEq (eVar 4) (eVar 1))) (eVar 3))))
  (sRet (eB bSortK (lCons (eVar 2) lNil)))))
theorem q_beside : m_beside = u_beside := by
  unfold m_beside t_beside u_beside
  simp only [bSort_is]
def u_far_from : Fn := runFn ["house", "one", "found", "row", "room", "other"] (
  (sSeq (sAsg 2 (eDisp (eVar 1) (eC (.int (0)))))
  (sSeq (sAsg 3 (eLst (lCons (eVar 1) lNil)))
  (sSeq (sWhile 400 (tOf (eOp opNe (eVar 3) (eLst lNil)))
    (sSeq (sPop 4 3 (eC (.int (0))))
    (sFor (iAny (eCall u_beside (lCons (eVar 0) (lCons (eVar 4) lNil)))) (gN 5)
      (sIf (tOf (eOp opNotIn (eVar 5) (eVar 2)))
        (sSeq (sPut 2 (eVar 5) (eOp opAdd (eIx (eVar 2) (eVar 4)) (eC (.int (1)))))
        (sApp 3 (eVar 5)))
        sNil))))
  (sFrz 2 (sRet (eVar 2)))))))
theorem q_far_from : m_far_from = u_far_from := by
  unfold m_far_from t_far_from u_far_from
  simp only [q_beside]
def u_sees : Fn := runFn ["watcher", "spot", "beat"] (
  (sRet (eAnd (eOp opEq (eIx (eVar 0) (eC (.int (0)))) (eVar 1)) (eOp opEq (eIx (eIx (eVar 0) (eC (.int (1)))) (eOp opMod (eVar 2) (eLen (lCons (eIx (eVar 0) (eC (.int (1)))) lNil)))) (eC (.str "#"))))))
theorem q_sees : m_sees = u_sees := rfl
def u_door_of : Fn := runFn ["one", "other"] (
  (sRet (eIf (tOf (eOp opNe (eVar 0) (eVar 1))) (eTup (lCons (eC (.str "door")) (lCons (eB bMinA (lCons (eVar 0) (lCons (eVar 1) lNil))) (lCons (eB bMax2 (lCons (eVar 0) (lCons (eVar 1) lNil))) lNil)))) (eC .non))))
theorem q_door_of : m_door_of = u_door_of := rfl
def u_seers : Fn := runFn ["watchers", "some", "beat", "number", "one", "spot"] (
  (sRet (eComp [3, 4] (iEnum (lCons (eVar 0) lNil)) (gT (gsCons (gN 3) (gsCons (gN 4) gsNil))) (tOf (eB bAny (lCons (eComp [5] (iAny (eVar 1)) (gN 5) tT (eCall u_sees (lCons (eVar 4) (lCons (eVar 5) (lCons (eVar 2) lNil))))) lNil))) (eVar 3))))
theorem q_seers : m_seers = u_seers := by
  unfold m_seers t_seers u_seers
  simp only [q_sees]
def u_is_way : Fn := runFn ["house", "thing", "one", "other", "room"] (
  (sSeq (sIf (tOr (tNot (tOf (eIsi "tuple" (eVar 1)))) (tNot (tOf (eChain (fun i j => decide (i ≤ j)) (fun i j => decide (i ≤ j)) (eC (.int (1))) (eLen (lCons (eVar 1) lNil)) (eC (.int (40)))))))
    (sRet (eC (.bl false)))
    sNil)
  (sSeq (sIf (tOr (tNot (tOf (eB bAll (lCons (eComp [4] (iAny (eVar 1)) (gN 4) tT (eCall u_is_whole (lCons (eVar 4) (lCons (eC (.int (0))) (lCons (eOp opSub (eIx (eVar 0) (eC (.int (0)))) (eC (.int (1)))) lNil))))) lNil)))) (tOf (eOp opNe (eIx (eVar 1) (eC (.int (0)))) (eC (.int (0))))))
    (sRet (eC (.bl false)))
    sNil)
  (sRet (eB bAll (lCons (eComp [2, 3] (iZip (lCons (eVar 1) (lCons (eSl (eVar 1) (oSome (eC (.int (1)))) oNone) lNil))) (gT (gsCons (gN 2) (gsCons (gN 3) gsNil))) tT (eOr (eOp opEq (eVar 2) (eVar 3)) (eOp opIn (eVar 3) (eCall u_beside (lCons (eVar 0) (lCons (eVar 2) lNil)))))) lNil))))))
theorem q_is_way : m_is_way = u_is_way := by
  unfold m_is_way t_is_way u_is_way
  simp only [q_beside, q_is_whole]
def u_seen : Fn := runFn ["house", "watchers", "way", "made", "beat", "room", "some", "number"] (
  (sSeq (sDrop (eCall u_need_watchers (lCons (eVar 0) (lCons (eVar 1) lNil))))
  (sSeq (sIf (tNot (tOf (eCall u_is_way (lCons (eVar 0) (lCons (eVar 2) lNil)))))
    (sRaise "NoWay")
    sNil)
  (sSeq (sAsg 3 (eLst lNil))
  (sSeq (sFor (iEnum (lCons (eVar 2) lNil)) (gT (gsCons (gN 4) (gsCons (gN 5) gsNil)))
    (sSeq (sAsg 6 (eLst (lCons (eTup (lCons (eC (.str "room")) (lCons (eVar 5) lNil))) (lCons (eCall u_door_of (lCons (eVar 5) (lCons (eIx (eOp opAdd (eVar 2) (eSl (eVar 2) (oSome (eNeg (eC (.int (1))))) oNone)) (eOp opAdd (eVar 4) (eC (.int (1))))) lNil))) lNil))))
    (sFrz 6 (sExt 3 (eComp [7] (iAny (eCall u_seers (lCons (eVar 1) (lCons (eVar 6) (lCons (eVar 4) lNil))))) (gN 7) tT (eTup (lCons (eVar 4) (lCons (eVar 7) lNil))))))))
  (sRet (eVar 3)))))))
theorem q_seen : m_seen = u_seen := by
  unfold m_seen t_seen u_seen
  simp only [q_door_of, q_is_way, q_need_watchers, q_seers]
def u_steps_from : Fn := runFn ["house", "watchers", "room", "beat", "made", "other"] (
  (sSeq (sAsg 4 (eLst lNil))
  (sSeq (sFor (iAny (eB bSortK (lCons (eOp opAdd (eCall u_beside (lCons (eVar 0) (lCons (eVar 2) lNil))) (eLst (lCons (eVar 2) lNil))) lNil))) (gN 5)
    (sIf (tAnd (tOf (eOp opEq (eCall u_seers (lCons (eVar 1) (lCons (eLst (lCons (eCall u_door_of (lCons (eVar 2) (lCons (eVar 5) lNil))) lNil)) (lCons (eVar 3) lNil)))) (eLst lNil))) (tOf (eOp opEq (eCall u_seers (lCons (eVar 1) (lCons (eLst (lCons (eTup (lCons (eC (.str "room")) (lCons (eVar 5) lNil))) lNil)) (lCons (eOp opAdd (eVar 3) (eC (.int (1)))) lNil)))) (eLst lNil))))
      (sApp 4 (eVar 5))
      sNil))
  (sRet (eVar 4)))))
theorem q_steps_from : m_steps_from = u_steps_from := by
  unfold m_steps_from t_steps_from u_steps_from
  simp only [q_beside, q_door_of, q_seers, bSort_is]
def u_ways_by_beat : Fn := runFn ["house", "watchers", "many", "made", "beat", "later", "way", "other"] (
  (sSeq (sAsg 3 (eLst (lCons (eDisp (eC (.int (0))) (eTup (lCons (eC (.int (0))) lNil))) lNil)))
  (sSeq (sFor (iRange (lCons (eOp opSub (eVar 2) (eC (.int (1)))) lNil)) (gN 4)
    (sSeq (sAsg 5 eDNew)
    (sSeq (sFor (iAny (eB bSortK (lCons (eLVals (eIx (eVar 3) (eNeg (eC (.int (1)))))) lNil))) (gN 6)
      (sFor (iAny (eCall u_steps_from (lCons (eVar 0) (lCons (eVar 1) (lCons (eIx (eVar 6) (eNeg (eC (.int (1))))) (lCons (eVar 4) lNil)))))) (gN 7)
        (sSdf 5 (eVar 7) (eOp opAdd (eVar 6) (eTup (lCons (eVar 7) lNil))))))
    (sFrz 5 (sApp 3 (eVar 5))))))
  (sRet (eVar 3)))))
theorem q_ways_by_beat : m_ways_by_beat = u_ways_by_beat := by
  unfold m_ways_by_beat t_ways_by_beat u_ways_by_beat
  simp only [q_steps_from, bSort_is]
def u_open_rooms : Fn := runFn ["house", "watchers", "beat"] (
  (sSeq (sDrop (eCall u_need_watchers (lCons (eVar 0) (lCons (eVar 1) lNil))))
  (sSeq (sIf (tNot (tOf (eCall u_is_whole (lCons (eVar 2) (lCons (eC (.int (0))) (lCons (eC (.int (30))) lNil))))))
    (sRaise "NoCount")
    sNil)
  (sRet (eB bTuple (lCons (eB bSortK (lCons (eB bListK (lCons (eIx (eCall u_ways_by_beat (lCons (eVar 0) (lCons (eVar 1) (lCons (eOp opAdd (eVar 2) (eC (.int (1)))) lNil)))) (eNeg (eC (.int (1))))) lNil)) lNil)) lNil))))))
theorem q_open_rooms : m_open_rooms = u_open_rooms := by
  unfold m_open_rooms t_open_rooms u_open_rooms
  simp only [q_is_whole, q_need_watchers, q_ways_by_beat, bSort_is]
def u_need_all : Fn := runFn ["house", "watchers", "goal", "many"] (
  (sSeq (sDrop (eCall u_need_watchers (lCons (eVar 0) (lCons (eVar 1) lNil))))
  (sSeq (sDrop (eCall u_need_goal (lCons (eVar 0) (lCons (eVar 2) lNil))))
  (sIf (tNot (tOf (eCall u_is_whole (lCons (eVar 3) (lCons (eC (.int (1))) (lCons (eC (.int (30))) lNil))))))
    (sRaise "NoCount")
    sNil))))
theorem q_need_all : m_need_all = u_need_all := by
  unfold m_need_all t_need_all u_need_all
  simp only [q_is_whole, q_need_goal, q_need_watchers]
def u_unseen : Fn := runFn ["house", "watchers", "goal", "many", "ways", "by_room"] (
  (sSeq (sDrop (eCall u_need_all (lCons (eVar 0) (lCons (eVar 1) (lCons (eVar 2) (lCons (eVar 3) lNil))))))
  (sSeq (sAsg 4 (eComp [5] (iAny (eCall u_ways_by_beat (lCons (eVar 0) (lCons (eVar 1) (lCons (eVar 3) lNil))))) (gN 5) (tOf (eOp opIn (eVar 2) (eVar 5))) (eIx (eVar 5) (eVar 2))))
  (sRet (eIx (eOp opAdd (eVar 4) (eLst (lCons (eC .non) lNil))) (eC (.int (0))))))))
theorem q_unseen : m_unseen = u_unseen := by
  unfold m_unseen t_unseen u_unseen
  simp only [q_need_all, q_ways_by_beat]
def u_paper : Fn := runFn ["house", "watchers", "goal", "many", "made", "by_room", "rooms"] (
  (sSeq (sDrop (eCall u_need_all (lCons (eVar 0) (lCons (eVar 1) (lCons (eVar 2) (lCons (eVar 3) lNil))))))
  (sSeq (sAsg 4 (eComp [5] (iAny (eCall u_ways_by_beat (lCons (eVar 0) (lCons (eVar 1) (lCons (eVar 3) lNil))))) (gN 5) tT (eB bTuple (lCons (eB bSortK (lCons (eB bListK (lCons (eVar 5) lNil)) lNil)) lNil))))
  (sRet (eIf (tNot (tOf (eB bAny (lCons (eComp [6] (iAny (eVar 4)) (gN 6) tT (eOp opIn (eVar 2) (eVar 6))) lNil)))) (eVar 4) (eC .non))))))
theorem q_paper : m_paper = u_paper := by
  unfold m_paper t_paper u_paper
  simp only [q_need_all, q_ways_by_beat, bSort_is]
def u_are_rooms : Fn := runFn ["house", "thing", "room"] (
  (sSeq (sIf (tOr (tNot (tOf (eIsi "tuple" (eVar 1)))) (tNot (tOf (eB bAll (lCons (eComp [2] (iAny (eVar 1)) (gN 2) tT (eCall u_is_whole (lCons (eVar 2) (lCons (eC (.int (0))) (lCons (eOp opSub (eIx (eVar 0) (eC (.int (0)))) (eC (.int (1)))) lNil))))) lNil)))))
    (sRet (eC (.bl false)))
    sNil)
  (sRet (eCall u_is_rising (lCons (eVar 1) lNil)))))
theorem q_are_rooms : m_are_rooms = u_are_rooms := by
  unfold m_are_rooms t_are_rooms u_are_rooms
  simp only [q_is_rising, q_is_whole]
def u_is_paper : Fn := runFn ["house", "watchers", "goal", "thing", "rooms", "beat", "room", "one", "other"] (
  (sSeq (sDrop (eCall u_need_watchers (lCons (eVar 0) (lCons (eVar 1) lNil))))
  (sSeq (sDrop (eCall u_need_goal (lCons (eVar 0) (lCons (eVar 2) lNil))))
  (sSeq (sIf (tOr (tNot (tOf (eIsi "list" (eVar 3)))) (tOr (tNot (tOf (eChain (fun i j => decide (i ≤ j)) (fun i j => decide (i ≤ j)) (eC (.int (1))) (eLen (lCons (eVar 3) lNil)) (eC (.int (30)))))) (tNot (tOf (eB bAll (lCons (eComp [7] (iAny (eVar 3)) (gN 7) tT (eCall u_are_rooms (lCons (eVar 0) (lCons (eVar 7) lNil)))) lNil))))))
    (sRet (eC (.bl false)))
    sNil)
  (sSeq (sIf (tOr (tOf (eOp opNe (eIx (eVar 3) (eC (.int (0)))) (eTup (lCons (eC (.int (0))) lNil)))) (tOf (eB bAny (lCons (eComp [4] (iAny (eVar 3)) (gN 4) tT (eOp opIn (eVar 2) (eVar 4))) lNil))))
    (sRet (eC (.bl false)))
    sNil)
  (sSeq (sFor (iEnum (lCons (eSl (eVar 3) oNone (oSome (eNeg (eC (.int (1)))))) lNil)) (gT (gsCons (gN 5) (gsCons (gN 4) gsNil)))
    (sFor (iAny (eVar 4)) (gN 6)
      (sIf (tNot (tOf (eB bAll (lCons (eComp [8] (iAny (eCall u_steps_from (lCons (eVar 0) (lCons (eVar 1) (lCons (eVar 6) (lCons (eVar 5) lNil)))))) (gN 8) tT (eOp opIn (eVar 8) (eIx (eVar 3) (eOp opAdd (eVar 5) (eC (.int (1))))))) lNil))))
        (sRet (eC (.bl false)))
        sNil)))
  (sRet (eC (.bl true)))))))))
theorem q_is_paper : m_is_paper = u_is_paper := by
  unfold m_is_paper t_is_paper u_is_paper
  simp only [q_are_rooms, q_need_goal, q_need_watchers, q_steps_from]
def u_links_of : Fn := runFn ["house", "goal", "book", "room", "inner", "one", "other"] (
  (sSeq (sAsg 2 eDNew)
  (sSeq (sFor (iRange (lCons (eIx (eVar 0) (eC (.int (0)))) lNil)) (gN 3)
    (sSeq (sAsg 4 (eIf (tOf (eOp opIn (eVar 3) (eTup (lCons (eC (.int (0))) (lCons (eVar 1) lNil))))) (eC (.int (100))) (eC (.int (1)))))
    (sSeq (sPut 2 (eTup (lCons (eVar 3) (lCons (eC (.int (0))) lNil))) (eSto (eDisp (eTup (lCons (eVar 3) (lCons (eC (.int (1))) lNil))) (eVar 4))))
    (sPut 2 (eTup (lCons (eVar 3) (lCons (eC (.int (1))) lNil))) (eSto eDNew)))))
  (sSeq (sFor (iAny (eIx (eVar 0) (eC (.int (1))))) (gT (gsCons (gN 5) (gsCons (gN 6) gsNil)))
    (sSeq (sPutS (eIx (eVar 2) (eTup (lCons (eVar 5) (lCons (eC (.int (1))) lNil)))) (eTup (lCons (eVar 6) (lCons (eC (.int (0))) lNil))) (eC (.int (1))))
    (sPutS (eIx (eVar 2) (eTup (lCons (eVar 6) (lCons (eC (.int (1))) lNil)))) (eTup (lCons (eVar 5) (lCons (eC (.int (0))) lNil))) (eC (.int (1))))))
  (sFrz 2 (sRet (eVar 2)))))))
theorem q_links_of : m_links_of = u_links_of := rfl
def u_led_from : Fn := runFn ["book", "start", "found", "row", "here", "other"] (
  (sSeq (sAsg 2 (eDisp (eVar 1) (eC .non)))
  (sSeq (sAsg 3 (eLst (lCons (eVar 1) lNil)))
  (sSeq (sWhile 400 (tOf (eOp opNe (eVar 3) (eLst lNil)))
    (sSeq (sPop 4 3 (eC (.int (0))))
    (sFor (iAny (eB bSortK (lCons (eLstS (eIx (eVar 0) (eVar 4))) lNil))) (gN 5)
      (sIf (tAnd (tOf (eOp opGtI (eIxS (eIx (eVar 0) (eVar 4)) (eVar 5)) (eC (.int (0))))) (tOf (eOp opNotIn (eVar 5) (eVar 2))))
        (sSeq (sPut 2 (eVar 5) (eVar 4))
        (sApp 3 (eVar 5)))
        sNil))))
  (sFrz 2 (sRet (eVar 2)))))))
theorem q_led_from : m_led_from = u_led_from := by
  unfold m_led_from t_led_from u_led_from
  simp only [bSort_is]
def u_send : Fn := runFn ["book", "found", "goal", "here", "ahead"] (
  (sSeq (sAsg 3 (eVar 2))
  (sWhile 400 (tOf (eOp opIsNot (eIx (eVar 1) (eVar 3)) (eC .non)))
    (sSeq (sAsg 4 (eIx (eVar 1) (eVar 3)))
    (sSeq (sPutS (eIx (eVar 0) (eVar 4)) (eVar 3) (eOp opSub (eIxS (eIx (eVar 0) (eVar 4)) (eVar 3)) (eC (.int (1)))))
    (sSeq (sPutS (eIx (eVar 0) (eVar 3)) (eVar 4) (eOp opAdd (eDGetS (eIx (eVar 0) (eVar 3)) (eVar 4) (eC (.int (0)))) (eC (.int (1)))))
    (sAsg 3 (eVar 4))))))))
theorem q_send : m_send = u_send := rfl
def u_filled : Fn := runFn ["house", "goal", "book", "found"] (
  (sSeq (sAsg 2 (eCall u_links_of (lCons (eVar 0) (lCons (eVar 1) lNil))))
  (sSeq (sFrz 2 (sAsg 3 (eCall u_led_from (lCons (eVar 2) (lCons (eTup (lCons (eC (.int (0))) (lCons (eC (.int (1))) lNil))) lNil)))))
  (sSeq (sWhile 400 (tOf (eOp opIn (eTup (lCons (eVar 1) (lCons (eC (.int (0))) lNil))) (eVar 3)))
    (sSeq (sFrz 2 (sFrz 3 (sDrop (eCall u_send (lCons (eVar 2) (lCons (eVar 3) (lCons (eTup (lCons (eVar 1) (lCons (eC (.int (0))) lNil))) lNil)))))))
    (sFrz 2 (sAsg 3 (eCall u_led_from (lCons (eVar 2) (lCons (eTup (lCons (eC (.int (0))) (lCons (eC (.int (1))) lNil))) lNil)))))))
  (sRet (eVar 2))))))
theorem q_filled : m_filled = u_filled := by
  unfold m_filled t_filled u_filled
  simp only [q_led_from, q_links_of, q_send]
def u_fewest_spots : Fn := runFn ["house", "goal", "found", "made", "one", "other", "room"] (
  (sSeq (sDrop (eCall u_need_house (lCons (eVar 0) lNil)))
  (sSeq (sDrop (eCall u_need_goal (lCons (eVar 0) (lCons (eVar 1) lNil))))
  (sSeq (sAsg 2 (eCall u_led_from (lCons (eCall u_filled (lCons (eVar 0) (lCons (eVar 1) lNil))) (lCons (eTup (lCons (eC (.int (0))) (lCons (eC (.int (1))) lNil))) lNil))))
  (sSeq (sAsg 3 (eComp [6] (iRange (lCons (eC (.int (1))) (lCons (eIx (eVar 0) (eC (.int (0)))) lNil))) (gN 6) (tAnd (tOf (eOp opIn (eTup (lCons (eVar 6) (lCons (eC (.int (0))) lNil))) (eVar 2))) (tOf (eOp opNotIn (eTup (lCons (eVar 6) (lCons (eC (.int (1))) lNil))) (eVar 2)))) (eTup (lCons (eC (.str "room")) (lCons (eVar 6) lNil)))))
  (sSeq (sFor (iAny (eIx (eVar 0) (eC (.int (1))))) (gT (gsCons (gN 4) (gsCons (gN 5) gsNil)))
    (sIf (tOr (tAnd (tOf (eOp opIn (eTup (lCons (eVar 4) (lCons (eC (.int (1))) lNil))) (eVar 2))) (tOf (eOp opNotIn (eTup (lCons (eVar 5) (lCons (eC (.int (0))) lNil))) (eVar 2)))) (tAnd (tOf (eOp opIn (eTup (lCons (eVar 5) (lCons (eC (.int (1))) lNil))) (eVar 2))) (tOf (eOp opNotIn (eTup (lCons (eVar 4) (lCons (eC (.int (0))) lNil))) (eVar 2)))))
      (sApp 3 (eTup (lCons (eC (.str "door")) (lCons (eVar 4) (lCons (eVar 5) lNil)))))
      sNil))
  (sRet (eB bSortK (lCons (eVar 3) lNil)))))))))
theorem q_fewest_spots : m_fewest_spots = u_fewest_spots := by
  unfold m_fewest_spots t_fewest_spots u_fewest_spots
  simp only [q_filled, q_led_from, q_need_goal, q_need_house, bSort_is]
def u_delays : Fn := runFn ["house", "entry", "panel", "goal", "away", "low", "high"] (
  (sSeq (sDrop (eCall u_need_house (lCons (eVar 0) lNil)))
  (sSeq (sIf (tOr (tNot (tOf (eCall u_is_whole (lCons (eVar 1) (lCons (eC (.int (1))) (lCons (eOp opSub (eIx (eVar 0) (eC (.int (0)))) (eC (.int (1)))) lNil)))))) (tOf (eOp opNotIn (eVar 1) (eCall u_beside (lCons (eVar 0) (lCons (eC (.int (0))) lNil))))))
    (sRaise "NoRoom")
    sNil)
  (sSeq (sIf (tNot (tOf (eCall u_is_whole (lCons (eVar 2) (lCons (eC (.int (1))) (lCons (eOp opSub (eIx (eVar 0) (eC (.int (0)))) (eC (.int (1)))) lNil))))))
    (sRaise "NoRoom")
    sNil)
  (sSeq (sDrop (eCall u_need_goal (lCons (eVar 0) (lCons (eVar 3) lNil))))
  (sSeq (sAsg 4 (eCall u_far_from (lCons (eVar 0) (lCons (eVar 1) lNil))))
  (sSeq (sIf (tOf (eOp opNotIn (eVar 2) (eVar 4)))
    (sRet (eC .non))
    sNil)
  (sSeq (sPar 5 6 (lCons (eB bMax2 (lCons (eC (.int (1))) (lCons (eIx (eVar 4) (eVar 2)) lNil))) (lCons (eB bMinA (lCons (eC (.int (30))) (lCons (eOp opSub (eDGet (eVar 4) (eVar 3) (eOp opAdd (eC (.int (30))) (eC (.int (1))))) (eC (.int (1)))) lNil))) lNil)))
  (sRet (eIf (tOf (eOp opLeI (eVar 5) (eVar 6))) (eTup (lCons (eVar 5) (lCons (eVar 6) lNil))) (eC .non)))))))))))
theorem q_delays : m_delays = u_delays := by
  unfold m_delays t_delays u_delays
  simp only [q_beside, q_far_from, q_is_whole, q_need_goal, q_need_house]
def u_next_rows : Fn := runFn ["house", "blind", "keen", "rows", "beat", "later", "way", "was_seen", "other", "door", "room", "now_seen"] (
  (sSeq (sAsg 5 eDNew)
  (sSeq (sFor (iAny (eVar 3)) (gT (gsCons (gN 6) (gsCons (gN 7) gsNil)))
    (sFor (iAny (eB bSortK (lCons (eOp opAdd (eCall u_beside (lCons (eVar 0) (lCons (eIx (eVar 6) (eNeg (eC (.int (1))))) lNil))) (eLst (lCons (eIx (eVar 6) (eNeg (eC (.int (1))))) lNil))) lNil))) (gN 8)
      (sSeq (sPar 9 10 (lCons (eLst (lCons (eCall u_door_of (lCons (eIx (eVar 6) (eNeg (eC (.int (1))))) (lCons (eVar 8) lNil))) lNil)) (lCons (eLst (lCons (eTup (lCons (eC (.str "room")) (lCons (eVar 8) lNil))) lNil)) lNil)))
      (sIf (tAnd (tOf (eOp opEq (eCall u_seers (lCons (eVar 1) (lCons (eVar 9) (lCons (eVar 4) lNil)))) (eLst lNil))) (tOf (eOp opEq (eCall u_seers (lCons (eVar 1) (lCons (eVar 10) (lCons (eOp opAdd (eVar 4) (eC (.int (1)))) lNil)))) (eLst lNil))))
        (sSeq (sAsg 11 (eOr (eVar 7) (eOr (eOp opNe (eCall u_seers (lCons (eVar 2) (lCons (eVar 9) (lCons (eVar 4) lNil)))) (eLst lNil)) (eOp opNe (eCall u_seers (lCons (eVar 2) (lCons (eVar 10) (lCons (eOp opAdd (eVar 4) (eC (.int (1)))) lNil)))) (eLst lNil)))))
        (sSdf 5 (eTup (lCons (eVar 8) (lCons (eVar 11) lNil))) (eTup (lCons (eOp opAdd (eVar 6) (eTup (lCons (eVar 8) lNil))) (lCons (eVar 11) lNil)))))
        sNil))))
  (sRet (eLVals (eVar 5))))))
theorem q_next_rows : m_next_rows = u_next_rows := by
  unfold m_next_rows t_next_rows u_next_rows
  simp only [q_beside, q_door_of, q_seers, bSort_is]
def u_seen_by_one : Fn := runFn ["house", "keen", "blind", "rows", "beat", "found", "way", "was_seen"] (
  (sSeq (sAsg 3 (eLst (lCons (eTup (lCons (eTup (lCons (eC (.int (0))) lNil)) (lCons (eC (.bl false)) lNil))) lNil)))
  (sSeq (sFor (iRange (lCons (eOp opSub (eC (.int (30))) (eC (.int (1)))) lNil)) (gN 4)
    (sSeq (sFrz 3 (sAsg 3 (eCall u_next_rows (lCons (eVar 0) (lCons (eVar 2) (lCons (eVar 1) (lCons (eVar 3) (lCons (eVar 4) lNil))))))))
    (sSeq (sAsg 5 (eComp [6, 7] (iAny (eVar 3)) (gT (gsCons (gN 6) (gsCons (gN 7) gsNil))) (tOf (eVar 7)) (eVar 6)))
    (sIf (tOf (eOp opNe (eVar 5) (eLst lNil)))
      (sRet (eB bMinA (lCons (eVar 5) lNil)))
      sNil))))
  (sRet (eC .non)))))
theorem q_seen_by_one : m_seen_by_one = u_seen_by_one := by
  unfold m_seen_by_one t_seen_by_one u_seen_by_one
  simp only [q_next_rows]
def u_parted : Fn := runFn ["house", "one", "other", "found"] (
  (sSeq (sDrop (eCall u_need_watchers (lCons (eVar 0) (lCons (eVar 1) lNil))))
  (sSeq (sDrop (eCall u_need_watchers (lCons (eVar 0) (lCons (eVar 2) lNil))))
  (sSeq (sAsg 3 (eCall u_seen_by_one (lCons (eVar 0) (lCons (eVar 1) (lCons (eVar 2) lNil)))))
  (sRet (eIf (tOf (eOp opIsNot (eVar 3) (eC .non))) (eVar 3) (eCall u_seen_by_one (lCons (eVar 0) (lCons (eVar 2) (lCons (eVar 1) lNil))))))))))
theorem q_parted : m_parted = u_parted := by
  unfold m_parted t_parted u_parted
  simp only [q_need_watchers, q_seen_by_one]
def u_law_cell_at : Fn := runFn ["script", "k"] (
  (sSeq (sIf (tOf (eOp opLt (eVar 1) (eLen (lCons (eVar 0) lNil))))
    (sRet (eIx (eVar 0) (eVar 1)))
    sNil)
  (sSeq (sIf (tOf (eOp opEq (eVar 0) (eLst lNil)))
    (sRet (eC (.int (0))))
    sNil)
  (sRet (eOp opAdd (eOp opMul (eIx (eVar 0) (eOp opMod (eVar 1) (eLen (lCons (eVar 0) lNil)))) (eC (.int (31)))) (eVar 1))))))
theorem q_law_cell_at : m_law_cell_at = u_law_cell_at := rfl
def u_law_mixed : Fn := runFn ["script", "k", "many", "drawn"] (
  (sSeq (sAsg 3 (eOp opMod (eOp opAdd (eOp opAdd (eOp opMul (eCall u_law_cell_at (lCons (eVar 0) (lCons (eVar 1) lNil))) (eC (.int (1103515245)))) (eOp opMul (eC (.int (7919))) (eVar 1))) (eC (.int (12345)))) (eC (.int (2147483647)))))
  (sRet (eOp opMod (eOp opMod (eOp opMod (eOp opPow (eVar 3) (eC (.int (5)))) (eC (.int (2147483647)))) (eC (.int (999983)))) (eVar 2)))))
theorem q_law_mixed : m_law_mixed = u_law_mixed := by
  unfold m_law_mixed t_law_mixed u_law_mixed
  simp only [q_law_cell_at]
def u_law_draw : Fn := runFn ["script", "town", "many"] (
  (sSeq (sApp 1 (eC (.int (0))))
  (sRet (eCall u_law_mixed (lCons (eVar 0) (lCons (eLen (lCons (eVar 1) lNil)) (lCons (eVar 2) lNil)))))))
theorem q_law_draw : m_law_draw = u_law_draw := by
  unfold m_law_draw t_law_draw u_law_draw
  simp only [q_law_mixed]
def uns_law_ask : Tbl := [("seen", 3, u_seen), ("open_rooms", 3, u_open_rooms), ("unseen", 4, u_unseen), ("paper", 4, u_paper)]
theorem q_fns_law_ask : fns_law_ask = uns_law_ask := by
  unfold fns_law_ask uns_law_ask
  simp only [q_open_rooms, q_paper, q_seen, q_unseen]
def u_law_ask : Fn := runFn ["what", "house", "watchers", "goal", "many", "e"] (
  (sTry 5 excs
    (sSeq (sIf (tOf (eOp opEq (eVar 0) (eC (.int (0)))))
      (sRet (eCall u_seen (lCons (eVar 1) (lCons (eVar 2) (lCons (eVar 3) lNil)))))
      sNil)
    (sRet (eIf (tOf (eOp opLt (eVar 0) (eC (.int (3))))) (eCallX uns_law_ask (eIx (eLst (lCons (eC (.fn "unseen")) (lCons (eC (.fn "paper")) lNil))) (eOp opSub (eVar 0) (eC (.int (1))))) (lCons (eVar 1) (lCons (eVar 2) (lCons (eVar 3) (lCons (eVar 4) lNil))))) (eCall u_open_rooms (lCons (eVar 1) (lCons (eVar 2) (lCons (eVar 4) lNil))))))) whichF))
theorem q_law_ask : m_law_ask = u_law_ask := by
  unfold m_law_ask t_law_ask u_law_ask
  simp only [q_open_rooms, q_seen, q_fns_law_ask]
def u_law_line : Fn := runFn ["rooms", "room"] (
  (sRet (eTup (lCons (eVar 0) (lCons (eB bTuple (lCons (eComp [1] (iRange (lCons (eOp opSub (eVar 0) (eC (.int (1)))) lNil)) (gN 1) tT (eTup (lCons (eVar 1) (lCons (eOp opAdd (eVar 1) (eC (.int (1)))) lNil)))) lNil)) lNil)))))
theorem q_law_line : m_law_line = u_law_line := rfl
def u_law_ways : Fn := runFn ["script", "town", "line", "shut", "late", "never", "thing", "apart", "room"] (
  (sSeq (sIf (tOr (tOf (eOp opNe (eCall u_law_ask (lCons (eC (.int (0))) (lCons (eVar 2) (lCons (eTup lNil) (lCons (eOp opMul (eTup (lCons (eC (.int (0))) lNil)) (eC (.int (40)))) (lCons (eC .non) lNil)))))) (eLst lNil))) (tOf (eOp opNe (eCall u_law_ask (lCons (eC (.int (0))) (lCons (eVar 2) (lCons (eTup lNil) (lCons (eOp opMul (eTup (lCons (eC (.int (0))) lNil)) (eC (.int (41)))) (lCons (eC .non) lNil)))))) (eTup (lCons (eC (.str "refused")) (lCons (eC (.int (3))) lNil))))))
    (sRet (eC (.bl false)))
    sNil)
  (sSeq (sIf (tOf (eOp opNe (eCall u_law_ask (lCons (eC (.int (0))) (lCons (eVar 2) (lCons (eTup lNil) (lCons (eOp opMul (eTup (lCons (eC (.int (0))) lNil)) (eOp opAdd (eC (.int (1))) (eCall u_law_draw (lCons (eVar 0) (lCons (eVar 1) (lCons (eC (.int (39))) lNil)))))) (lCons (eC .non) lNil)))))) (eLst lNil)))
    (sRet (eC (.bl false)))
    sNil)
  (sSeq (sIf (tOr (tOf (eOp opIsNot (eCall u_law_ask (lCons (eC (.int (1))) (lCons (eVar 2) (lCons (eTup lNil) (lCons (eC (.int (9))) (lCons (eC (.int (9))) lNil)))))) (eC .non))) (tOf (eOp opNe (eCall u_law_ask (lCons (eC (.int (1))) (lCons (eVar 2) (lCons (eTup lNil) (lCons (eC (.int (9))) (lCons (eC (.int (10))) lNil)))))) (eTupR (eC (.int (10)))))))
    (sRet (eC (.bl false)))
    sNil)
  (sSeq (sAsg 3 (eTup (lCons (eTup (lCons (eTup (lCons (eC (.str "door")) (lCons (eC (.int (8))) (lCons (eC (.int (9))) lNil)))) (lCons (eC (.str "#####.")) lNil))) lNil)))
  (sSeq (sAsg 4 (eCall u_law_ask (lCons (eC (.int (1))) (lCons (eVar 2) (lCons (eVar 3) (lCons (eC (.int (9))) (lCons (eC (.int (30))) lNil)))))))
  (sSeq (sIf (tOr (tOf (eOp opIs (eVar 4) (eC .non))) (tOr (tOf (eOp opNe (eLen (lCons (eVar 4) lNil)) (eC (.int (13))))) (tOf (eOp opIsNot (eCall u_law_ask (lCons (eC (.int (1))) (lCons (eVar 2) (lCons (eVar 3) (lCons (eC (.int (9))) (lCons (eC (.int (12))) lNil)))))) (eC .non)))))
    (sRet (eC (.bl false)))
    sNil)
  (sSeq (sIf (tOf (eOp opNe (eCall u_law_ask (lCons (eC (.int (1))) (lCons (eVar 2) (lCons (eVar 3) (lCons (eC (.int (9))) (lCons (eC (.int (31))) lNil)))))) (eTup (lCons (eC (.str "refused")) (lCons (eC (.int (4))) lNil)))))
    (sRet (eC (.bl false)))
    sNil)
  (sSeq (sAsg 5 (eTup (lCons (eTup (lCons (eTup (lCons (eC (.str "door")) (lCons (eC (.int (0))) (lCons (eC (.int (1))) lNil)))) (lCons (eC (.str "#")) lNil))) lNil)))
  (sSeq (sAsg 6 (eCall u_law_ask (lCons (eC (.int (2))) (lCons (eVar 2) (lCons (eVar 5) (lCons (eC (.int (9))) (lCons (eC (.int (30))) lNil)))))))
  (sSeq (sFrz 6 (sIf (tOr (tOf (eOp opNe (eVar 6) (eOp opMul (eLst (lCons (eTup (lCons (eC (.int (0))) lNil)) lNil)) (eC (.int (30)))))) (tOf (eOp opNe (eCall u_is_paper (lCons (eVar 2) (lCons (eVar 5) (lCons (eC (.int (9))) (lCons (eVar 6) lNil))))) (eC (.bl true)))))
    (sRet (eC (.bl false)))
    sNil))
  (sSeq (sIf (tOf (eOp opNe (eCall u_is_paper (lCons (eVar 2) (lCons (eVar 5) (lCons (eC (.int (9))) (lCons (eOp opAdd (eVar 6) (eLst (lCons (eTup (lCons (eC (.int (0))) lNil)) lNil))) lNil))))) (eC (.bl false))))
    (sRet (eC (.bl false)))
    sNil)
  (sSeq (sIf (tOr (tOf (eOp opNe (eCall u_law_ask (lCons (eC (.int (3))) (lCons (eVar 2) (lCons (eTup lNil) (lCons (eC .non) (lCons (eC (.int (30))) lNil)))))) (eTupR (eC (.int (10)))))) (tOf (eOp opNe (eCall u_law_ask (lCons (eC (.int (3))) (lCons (eVar 2) (lCons (eTup lNil) (lCons (eC .non) (lCons (eC (.int (31))) lNil)))))) (eTup (lCons (eC (.str "refused")) (lCons (eC (.int (4))) lNil))))))
    (sRet (eC (.bl false)))
    sNil)
  (sSeq (sIf (tOr (tOf (eOp opNe (eCall u_fewest_spots (lCons (eVar 2) (lCons (eC (.int (1))) lNil))) (eLst (lCons (eTup (lCons (eC (.str "door")) (lCons (eC (.int (0))) (lCons (eC (.int (1))) lNil)))) lNil)))) (tOf (eOp opNe (eLen (lCons (eCall u_fewest_spots (lCons (eVar 2) (lCons (eC (.int (9))) lNil))) lNil)) (eC (.int (1))))))
    (sRet (eC (.bl false)))
    sNil)
  (sSeq (sAsg 7 (eTup (lCons (eC (.int (10))) (lCons (eB bTuple (lCons (eOp opAdd (eLst (lCons (eTup (lCons (eC (.int (0))) (lCons (eC (.int (1))) lNil))) (lCons (eTup (lCons (eC (.int (1))) (lCons (eC (.int (2))) lNil))) lNil))) (eComp [8] (iRange (lCons (eC (.int (3))) (lCons (eC (.int (9))) lNil))) (gN 8) tT (eTup (lCons (eVar 8) (lCons (eOp opAdd (eVar 8) (eC (.int (1)))) lNil))))) lNil)) lNil))))
  (sSeq (sIf (tOr (tOf (eOp opNe (eCall u_delays (lCons (eVar 7) (lCons (eC (.int (1))) (lCons (eC (.int (2))) (lCons (eC (.int (9))) lNil))))) (eTup (lCons (eC (.int (1))) (lCons (eC (.int (30))) lNil))))) (tOr (tOf (eOp opIsNot (eCall u_delays (lCons (eVar 7) (lCons (eC (.int (1))) (lCons (eC (.int (9))) (lCons (eC (.int (2))) lNil))))) (eC .non))) (tOf (eOp opNe (eCall u_delays (lCons (eVar 2) (lCons (eC (.int (1))) (lCons (eC (.int (2))) (lCons (eC (.int (9))) lNil))))) (eTup (lCons (eC (.int (1))) (lCons (eC (.int (7))) lNil)))))))
    (sRet (eC (.bl false)))
    sNil)
  (sSeq (sIf (tOf (eOp opIsNot (eCall u_parted (lCons (eVar 2) (lCons (eTup (lCons (eTup (lCons (eTup (lCons (eC (.str "room")) (lCons (eC (.int (5))) lNil))) (lCons (eC (.str ".")) lNil))) lNil)) (lCons (eTup lNil) lNil)))) (eC .non)))
    (sRet (eC (.bl false)))
    sNil)
  (sRet (eOp opEq (eCall u_parted (lCons (eVar 2) (lCons (eTup (lCons (eTup (lCons (eTup (lCons (eC (.str "room")) (lCons (eC (.int (9))) lNil))) (lCons (eC (.str "#")) lNil))) lNil)) (lCons (eTup lNil) lNil)))) (eTupR (eC (.int (10)))))))))))))))))))))))
theorem q_law_ways : m_law_ways = u_law_ways := by
  unfold m_law_ways t_law_ways u_law_ways
  simp only [q_delays, q_fewest_spots, q_is_paper, q_law_ask, q_law_draw, q_parted]
def u_law : Fn := runFn ["script", "town", "rooms", "good", "every", "one", "line", "some", "beats", "room", "other"] (
  (sSeq (sMov 1 (sAsg 1 (eLst lNil)))
  (sSeq (sFor (iAny (eTup (lCons (eTup (lCons (eC (.int (1))) (lCons (eC (.bl false)) lNil))) (lCons (eTup (lCons (eC (.int (2))) (lCons (eC (.bl true)) lNil))) (lCons (eTup (lCons (eC (.int (10))) (lCons (eC (.bl true)) lNil))) (lCons (eTup (lCons (eC (.int (11))) (lCons (eC (.bl false)) lNil))) lNil)))))) (gT (gsCons (gN 2) (gsCons (gN 3) gsNil)))
    (sIf (tOf (eOp opNe (eCall u_is_house (lCons (eTup (lCons (eVar 2) (lCons (eTup lNil) lNil))) lNil)) (eVar 3)))
      (sRet (eC (.bl false)))
      sNil))
  (sSeq (sAsg 4 (eLst lNil))
  (sSeq (sFor (iRange (lCons (eC (.int (7))) lNil)) (gN 5)
    (sExt 4 (eComp [10] (iRange (lCons (eOp opAdd (eVar 5) (eC (.int (1)))) (lCons (eC (.int (7))) lNil))) (gN 10) tT (eTup (lCons (eVar 5) (lCons (eVar 10) lNil))))))
  (sSeq (sIf (tOr (tOf (eOp opNe (eCall u_is_house (lCons (eTup (lCons (eC (.int (7))) (lCons (eB bTuple (lCons (eSl (eVar 4) oNone (oSome (eC (.int (20))))) lNil)) lNil))) lNil)) (eC (.bl true)))) (tOf (eOp opNe (eCall u_is_house (lCons (eTup (lCons (eC (.int (7))) (lCons (eB bTuple (lCons (eSl (eVar 4) oNone (oSome (eC (.int (21))))) lNil)) lNil))) lNil)) (eC (.bl false)))))
    (sRet (eC (.bl false)))
    sNil)
  (sSeq (sAsg 6 (eCall u_law_line (lCons (eC (.int (10))) lNil)))
  (sSeq (sAsg 7 (eComp [9] (iRange (lCons (eC (.int (1))) (lCons (eC (.int (10))) lNil))) (gN 9) tT (eTup (lCons (eTup (lCons (eC (.str "room")) (lCons (eVar 9) lNil))) (lCons (eOp opAdd (eC (.str "#.")) (eOp opMul (eC (.str "#")) (eOp opMod (eVar 9) (eC (.int (4)))))) lNil)))))
  (sSeq (sExt 7 (eComp [9] (iRange (lCons (eC (.int (1))) (lCons (eC (.int (5))) lNil))) (gN 9) tT (eTup (lCons (eTup (lCons (eC (.str "room")) (lCons (eVar 9) lNil))) (lCons (eC (.str ".")) lNil)))))
  (sSeq (sIf (tOr (tOf (eOp opNe (eCall u_are_watchers (lCons (eVar 6) (lCons (eB bTuple (lCons (eB bSortK (lCons (eSl (eVar 7) oNone (oSome (eC (.int (12))))) lNil)) lNil)) lNil))) (eC (.bl true)))) (tOf (eOp opNe (eCall u_are_watchers (lCons (eVar 6) (lCons (eB bTuple (lCons (eB bSortK (lCons (eVar 7) lNil)) lNil)) lNil))) (eC (.bl false)))))
    (sRet (eC (.bl false)))
    sNil)
  (sSeq (sFor (iAny (eTup (lCons (eTup (lCons (eOp opMul (eC (.str "#")) (eC (.int (6)))) (lCons (eC (.bl true)) lNil))) (lCons (eTup (lCons (eOp opMul (eC (.str "#")) (eC (.int (7)))) (lCons (eC (.bl false)) lNil))) (lCons (eTup (lCons (eC (.str "")) (lCons (eC (.bl false)) lNil))) (lCons (eTup (lCons (eC (.str "x")) (lCons (eC (.bl false)) lNil))) lNil)))))) (gT (gsCons (gN 8) (gsCons (gN 3) gsNil)))
    (sIf (tOf (eOp opNe (eCall u_are_watchers (lCons (eVar 6) (lCons (eTup (lCons (eTup (lCons (eTup (lCons (eC (.str "room")) (lCons (eC (.int (1))) lNil))) (lCons (eVar 8) lNil))) lNil)) lNil))) (eVar 3)))
      (sRet (eC (.bl false)))
      sNil))
  (sRet (eCall u_law_ways (lCons (eVar 0) (lCons (eVar 1) (lCons (eVar 6) lNil))))))))))))))))
theorem q_law : m_law = u_law := by
  unfold m_law t_law u_law
  simp only [q_are_watchers, q_is_house, q_law_line, q_law_ways, bSort_is]
end Q13
namespace Q13
open PySem PySem.Spec PyProof.Rows L2 UW
def lineD : D := .tup [.int 10, .tup [.tup [.int 0, .int 1], .tup [.int 1, .int 2], .tup [.int 2, .int 3], .tup [.int 3, .int 4], .tup [.int 4, .int 5], .tup [.int 5, .int 6], .tup [.int 6, .int 7], .tup [.int 7, .int 8], .tup [.int 8, .int 9]]]
def s1 : Sto := [.lst [.int 0]]
def rngD : D := .tup [.int 0, .int 1, .int 2, .int 3, .int 4, .int 5, .int 6, .int 7, .int 8, .int 9]
def shutD : D := .tup [.tup [.tup [.str "door", .int 8, .int 9], .str "#####."]]
def neverD : D := .tup [.tup [.tup [.str "door", .int 0, .int 1], .str "#"]]
def apartD : D := .tup [.int 10, .tup [.tup [.int 0, .int 1], .tup [.int 1, .int 2], .tup [.int 3, .int 4], .tup [.int 4, .int 5], .tup [.int 5, .int 6], .tup [.int 6, .int 7], .tup [.int 7, .int 8], .tup [.int 8, .int 9]]]
def stOf : Res TV → Sto
  | .ok _ s => s
  | _ => []
def s2 : Sto := stOf (u_fewest_spots [lineD, .int 1] s1)
def s3 : Sto := stOf (u_fewest_spots [lineD, .int 9] s2)
theorem a_d0 : m_law_ask [.int 0, lineD, .tup [], .tup (List.replicate 1 (.int 0)), .non] s1 = .ok ⟨.fr, .lst []⟩ s1 := by
  rw [q_law_ask]
  kernel_rfl
theorem a_d1 : m_law_ask [.int 0, lineD, .tup [], .tup (List.replicate 2 (.int 0)), .non] s1 = .ok ⟨.fr, .lst []⟩ s1 := by
  rw [q_law_ask]
  kernel_rfl
theorem a_d2 : m_law_ask [.int 0, lineD, .tup [], .tup (List.replicate 3 (.int 0)), .non] s1 = .ok ⟨.fr, .lst []⟩ s1 := by
  rw [q_law_ask]
  kernel_rfl
theorem a_d3 : m_law_ask [.int 0, lineD, .tup [], .tup (List.replicate 4 (.int 0)), .non] s1 = .ok ⟨.fr, .lst []⟩ s1 := by
  rw [q_law_ask]
  kernel_rfl
theorem a_d4 : m_law_ask [.int 0, lineD, .tup [], .tup (List.replicate 5 (.int 0)), .non] s1 = .ok ⟨.fr, .lst []⟩ s1 := by
  rw [q_law_ask]
  kernel_rfl
theorem a_d5 : m_law_ask [.int 0, lineD, .tup [], .tup (List.replicate 6 (.int 0)), .non] s1 = .ok ⟨.fr, .lst []⟩ s1 := by
  rw [q_law_ask]
  kernel_rfl
theorem a_d6 : m_law_ask [.int 0, lineD, .tup [], .tup (List.replicate 7 (.int 0)), .non] s1 = .ok ⟨.fr, .lst []⟩ s1 := by
  rw [q_law_ask]
  kernel_rfl
theorem a_d7 : m_law_ask [.int 0, lineD, .tup [], .tup (List.replicate 8 (.int 0)), .non] s1 = .ok ⟨.fr, .lst []⟩ s1 := by
  rw [q_law_ask]
  kernel_rfl
theorem a_d8 : m_law_ask [.int 0, lineD, .tup [], .tup (List.replicate 9 (.int 0)), .non] s1 = .ok ⟨.fr, .lst []⟩ s1 := by
  rw [q_law_ask]
  kernel_rfl
theorem a_d9 : m_law_ask [.int 0, lineD, .tup [], .tup (List.replicate 10 (.int 0)), .non] s1 = .ok ⟨.fr, .lst []⟩ s1 := by
  rw [q_law_ask]
  kernel_rfl
theorem a_d10 : m_law_ask [.int 0, lineD, .tup [], .tup (List.replicate 11 (.int 0)), .non] s1 = .ok ⟨.fr, .lst []⟩ s1 := by
  rw [q_law_ask]
  kernel_rfl
theorem a_d11 : m_law_ask [.int 0, lineD, .tup [], .tup (List.replicate 12 (.int 0)), .non] s1 = .ok ⟨.fr, .lst []⟩ s1 := by
  rw [q_law_ask]
  kernel_rfl
theorem a_d12 : m_law_ask [.int 0, lineD, .tup [], .tup (List.replicate 13 (.int 0)), .non] s1 = .ok ⟨.fr, .lst []⟩ s1 := by
  rw [q_law_ask]
  kernel_rfl
theorem a_d13 : m_law_ask [.int 0, lineD, .tup [], .tup (List.replicate 14 (.int 0)), .non] s1 = .ok ⟨.fr, .lst []⟩ s1 := by
  rw [q_law_ask]
  kernel_rfl
theorem a_d14 : m_law_ask [.int 0, lineD, .tup [], .tup (List.replicate 15 (.int 0)), .non] s1 = .ok ⟨.fr, .lst []⟩ s1 := by
  rw [q_law_ask]
  kernel_rfl
theorem a_d15 : m_law_ask [.int 0, lineD, .tup [], .tup (List.replicate 16 (.int 0)), .non] s1 = .ok ⟨.fr, .lst []⟩ s1 := by
  rw [q_law_ask]
  kernel_rfl
theorem a_d16 : m_law_ask [.int 0, lineD, .tup [], .tup (List.replicate 17 (.int 0)), .non] s1 = .ok ⟨.fr, .lst []⟩ s1 := by
  rw [q_law_ask]
  kernel_rfl
theorem a_d17 : m_law_ask [.int 0, lineD, .tup [], .tup (List.replicate 18 (.int 0)), .non] s1 = .ok ⟨.fr, .lst []⟩ s1 := by
  rw [q_law_ask]
  kernel_rfl
theorem a_d18 : m_law_ask [.int 0, lineD, .tup [], .tup (List.replicate 19 (.int 0)), .non] s1 = .ok ⟨.fr, .lst []⟩ s1 := by
  rw [q_law_ask]
  kernel_rfl
theorem a_d19 : m_law_ask [.int 0, lineD, .tup [], .tup (List.replicate 20 (.int 0)), .non] s1 = .ok ⟨.fr, .lst []⟩ s1 := by
  rw [q_law_ask]
  kernel_rfl
theorem a_d20 : m_law_ask [.int 0, lineD, .tup [], .tup (List.replicate 21 (.int 0)), .non] s1 = .ok ⟨.fr, .lst []⟩ s1 := by
  rw [q_law_ask]
  kernel_rfl
theorem a_d21 : m_law_ask [.int 0, lineD, .tup [], .tup (List.replicate 22 (.int 0)), .non] s1 = .ok ⟨.fr, .lst []⟩ s1 := by
  rw [q_law_ask]
  kernel_rfl
theorem a_d22 : m_law_ask [.int 0, lineD, .tup [], .tup (List.replicate 23 (.int 0)), .non] s1 = .ok ⟨.fr, .lst []⟩ s1 := by
  rw [q_law_ask]
  kernel_rfl
theorem a_d23 : m_law_ask [.int 0, lineD, .tup [], .tup (List.replicate 24 (.int 0)), .non] s1 = .ok ⟨.fr, .lst []⟩ s1 := by
  rw [q_law_ask]
  kernel_rfl
theorem a_d24 : m_law_ask [.int 0, lineD, .tup [], .tup (List.replicate 25 (.int 0)), .non] s1 = .ok ⟨.fr, .lst []⟩ s1 := by
  rw [q_law_ask]
  kernel_rfl
theorem a_d25 : m_law_ask [.int 0, lineD, .tup [], .tup (List.replicate 26 (.int 0)), .non] s1 = .ok ⟨.fr, .lst []⟩ s1 := by
  rw [q_law_ask]
  kernel_rfl
theorem a_d26 : m_law_ask [.int 0, lineD, .tup [], .tup (List.replicate 27 (.int 0)), .non] s1 = .ok ⟨.fr, .lst []⟩ s1 := by
  rw [q_law_ask]
  kernel_rfl
theorem a_d27 : m_law_ask [.int 0, lineD, .tup [], .tup (List.replicate 28 (.int 0)), .non] s1 = .ok ⟨.fr, .lst []⟩ s1 := by
  rw [q_law_ask]
  kernel_rfl
theorem a_d28 : m_law_ask [.int 0, lineD, .tup [], .tup (List.replicate 29 (.int 0)), .non] s1 = .ok ⟨.fr, .lst []⟩ s1 := by
  rw [q_law_ask]
  kernel_rfl
theorem a_d29 : m_law_ask [.int 0, lineD, .tup [], .tup (List.replicate 30 (.int 0)), .non] s1 = .ok ⟨.fr, .lst []⟩ s1 := by
  rw [q_law_ask]
  kernel_rfl
theorem a_d30 : m_law_ask [.int 0, lineD, .tup [], .tup (List.replicate 31 (.int 0)), .non] s1 = .ok ⟨.fr, .lst []⟩ s1 := by
  rw [q_law_ask]
  kernel_rfl
theorem a_d31 : m_law_ask [.int 0, lineD, .tup [], .tup (List.replicate 32 (.int 0)), .non] s1 = .ok ⟨.fr, .lst []⟩ s1 := by
  rw [q_law_ask]
  kernel_rfl
theorem a_d32 : m_law_ask [.int 0, lineD, .tup [], .tup (List.replicate 33 (.int 0)), .non] s1 = .ok ⟨.fr, .lst []⟩ s1 := by
  rw [q_law_ask]
  kernel_rfl
theorem a_d33 : m_law_ask [.int 0, lineD, .tup [], .tup (List.replicate 34 (.int 0)), .non] s1 = .ok ⟨.fr, .lst []⟩ s1 := by
  rw [q_law_ask]
  kernel_rfl
theorem a_d34 : m_law_ask [.int 0, lineD, .tup [], .tup (List.replicate 35 (.int 0)), .non] s1 = .ok ⟨.fr, .lst []⟩ s1 := by
  rw [q_law_ask]
  kernel_rfl
theorem a_d35 : m_law_ask [.int 0, lineD, .tup [], .tup (List.replicate 36 (.int 0)), .non] s1 = .ok ⟨.fr, .lst []⟩ s1 := by
  rw [q_law_ask]
  kernel_rfl
theorem a_d36 : m_law_ask [.int 0, lineD, .tup [], .tup (List.replicate 37 (.int 0)), .non] s1 = .ok ⟨.fr, .lst []⟩ s1 := by
  rw [q_law_ask]
  kernel_rfl
theorem a_d37 : m_law_ask [.int 0, lineD, .tup [], .tup (List.replicate 38 (.int 0)), .non] s1 = .ok ⟨.fr, .lst []⟩ s1 := by
  rw [q_law_ask]
  kernel_rfl
theorem a_d38 : m_law_ask [.int 0, lineD, .tup [], .tup (List.replicate 39 (.int 0)), .non] s1 = .ok ⟨.fr, .lst []⟩ s1 := by
  rw [q_law_ask]
  kernel_rfl
theorem w0 (ns : List Int) : (sIf (tOr (tOf (eOp opNe (eCall u_law_ask (lCons (eC (.int (0))) (lCons (eVar 2) (lCons (eTup lNil) (lCons (eOp opMul (eTup (lCons (eC (.int (0))) lNil)) (eC (.int (40)))) (lCons (eC .non) lNil)))))) (eLst lNil))) (tOf (eOp opNe (eCall u_law_ask (lCons (eC (.int (0))) (lCons (eVar 2) (lCons (eTup lNil) (lCons (eOp opMul (eTup (lCons (eC (.int (0))) lNil)) (eC (.int (41)))) (lCons (eC .non) lNil)))))) (eTup (lCons (eC (.str "refused")) (lCons (eC (.int (3))) lNil))))))
    (sRet (eC (.bl false)))
    sNil) [.sh (.scr ns), .sh (.ref 0), .sh lineD, .no, .no, .no, .no, .no, .no] [.lst []] = .ok (.nx [.sh (.scr ns), .sh (.ref 0), .sh lineD, .no, .no, .no, .no, .no, .no]) [.lst []] := by kernel_rfl
theorem w2 (ns : List Int) : (sIf (tOr (tOf (eOp opIsNot (eCall u_law_ask (lCons (eC (.int (1))) (lCons (eVar 2) (lCons (eTup lNil) (lCons (eC (.int (9))) (lCons (eC (.int (9))) lNil)))))) (eC .non))) (tOf (eOp opNe (eCall u_law_ask (lCons (eC (.int (1))) (lCons (eVar 2) (lCons (eTup lNil) (lCons (eC (.int (9))) (lCons (eC (.int (10))) lNil)))))) (eTupR (eC (.int (10)))))))
    (sRet (eC (.bl false)))
    sNil) [.sh (.scr ns), .sh (.ref 0), .sh lineD, .no, .no, .no, .no, .no, .no] s1 = .ok (.nx [.sh (.scr ns), .sh (.ref 0), .sh lineD, .no, .no, .no, .no, .no, .no]) s1 := by kernel_rfl
theorem w3 (ns : List Int) : (sAsg 3 (eTup (lCons (eTup (lCons (eTup (lCons (eC (.str "door")) (lCons (eC (.int (8))) (lCons (eC (.int (9))) lNil)))) (lCons (eC (.str "#####.")) lNil))) lNil))) [.sh (.scr ns), .sh (.ref 0), .sh lineD, .no, .no, .no, .no, .no, .no] s1 = .ok (.nx [.sh (.scr ns), .sh (.ref 0), .sh lineD, .sh shutD, .no, .no, .no, .no, .no]) s1 := by kernel_rfl
theorem w4 (ns : List Int) : (sAsg 4 (eCall u_law_ask (lCons (eC (.int (1))) (lCons (eVar 2) (lCons (eVar 3) (lCons (eC (.int (9))) (lCons (eC (.int (30))) lNil))))))) [.sh (.scr ns), .sh (.ref 0), .sh lineD, .sh shutD, .no, .no, .no, .no, .no] s1 = .ok (.nx [.sh (.scr ns), .sh (.ref 0), .sh lineD, .sh shutD, .sh (.tup [.int 0, .int 0, .int 0, .int 0, .int 1, .int 2, .int 3, .int 4, .int 5, .int 6, .int 7, .int 8, .int 9]), .no, .no, .no, .no]) s1 := by kernel_rfl
theorem w5 (ns : List Int) : (sIf (tOr (tOf (eOp opIs (eVar 4) (eC .non))) (tOr (tOf (eOp opNe (eLen (lCons (eVar 4) lNil)) (eC (.int (13))))) (tOf (eOp opIsNot (eCall u_law_ask (lCons (eC (.int (1))) (lCons (eVar 2) (lCons (eVar 3) (lCons (eC (.int (9))) (lCons (eC (.int (12))) lNil)))))) (eC .non)))))
    (sRet (eC (.bl false)))
    sNil) [.sh (.scr ns), .sh (.ref 0), .sh lineD, .sh shutD, .sh (.tup [.int 0, .int 0, .int 0, .int 0, .int 1, .int 2, .int 3, .int 4, .int 5, .int 6, .int 7, .int 8, .int 9]), .no, .no, .no, .no] s1 = .ok (.nx [.sh (.scr ns), .sh (.ref 0), .sh lineD, .sh shutD, .sh (.tup [.int 0, .int 0, .int 0, .int 0, .int 1, .int 2, .int 3, .int 4, .int 5, .int 6, .int 7, .int 8, .int 9]), .no, .no, .no, .no]) s1 := by kernel_rfl
theorem w6 (ns : List Int) : (sIf (tOf (eOp opNe (eCall u_law_ask (lCons (eC (.int (1))) (lCons (eVar 2) (lCons (eVar 3) (lCons (eC (.int (9))) (lCons (eC (.int (31))) lNil)))))) (eTup (lCons (eC (.str "refused")) (lCons (eC (.int (4))) lNil)))))
    (sRet (eC (.bl false)))
    sNil) [.sh (.scr ns), .sh (.ref 0), .sh lineD, .sh shutD, .sh (.tup [.int 0, .int 0, .int 0, .int 0, .int 1, .int 2, .int 3, .int 4, .int 5, .int 6, .int 7, .int 8, .int 9]), .no, .no, .no, .no] s1 = .ok (.nx [.sh (.scr ns), .sh (.ref 0), .sh lineD, .sh shutD, .sh (.tup [.int 0, .int 0, .int 0, .int 0, .int 1, .int 2, .int 3, .int 4, .int 5, .int 6, .int 7, .int 8, .int 9]), .no, .no, .no, .no]) s1 := by kernel_rfl
theorem w7 (ns : List Int) : (sAsg 5 (eTup (lCons (eTup (lCons (eTup (lCons (eC (.str "door")) (lCons (eC (.int (0))) (lCons (eC (.int (1))) lNil)))) (lCons (eC (.str "#")) lNil))) lNil))) [.sh (.scr ns), .sh (.ref 0), .sh lineD, .sh shutD, .sh (.tup [.int 0, .int 0, .int 0, .int 0, .int 1, .int 2, .int 3, .int 4, .int 5, .int 6, .int 7, .int 8, .int 9]), .no, .no, .no, .no] s1 = .ok (.nx [.sh (.scr ns), .sh (.ref 0), .sh lineD, .sh shutD, .sh (.tup [.int 0, .int 0, .int 0, .int 0, .int 1, .int 2, .int 3, .int 4, .int 5, .int 6, .int 7, .int 8, .int 9]), .sh neverD, .no, .no, .no]) s1 := by kernel_rfl
end Q13
namespace Q13
open PySem PySem.Spec PyProof.Rows L2 UW
theorem w8 (ns : List Int) : (sAsg 6 (eCall u_law_ask (lCons (eC (.int (2))) (lCons (eVar 2) (lCons (eVar 5) (lCons (eC (.int (9))) (lCons (eC (.int (30))) lNil))))))) [.sh (.scr ns), .sh (.ref 0), .sh lineD, .sh shutD, .sh (.tup [.int 0, .int 0, .int 0, .int 0, .int 1, .int 2, .int 3, .int 4, .int 5, .int 6, .int 7, .int 8, .int 9]), .sh neverD, .no, .no, .no] s1 = .ok (.nx [.sh (.scr ns), .sh (.ref 0), .sh lineD, .sh shutD, .sh (.tup [.int 0, .int 0, .int 0, .int 0, .int 1, .int 2, .int 3, .int 4, .int 5, .int 6, .int 7, .int 8, .int 9]), .sh neverD, .ow (.lst (List.replicate 30 (.tup [.int 0]))), .no, .no]) s1 := by kernel_rfl
theorem w9 (ns : List Int) : (sFrz 6 (sIf (tOr (tOf (eOp opNe (eVar 6) (eOp opMul (eLst (lCons (eTup (lCons (eC (.int (0))) lNil)) lNil)) (eC (.int (30)))))) (tOf (eOp opNe (eCall u_is_paper (lCons (eVar 2) (lCons (eVar 5) (lCons (eC (.int (9))) (lCons (eVar 6) lNil))))) (eC (.bl true)))))
    (sRet (eC (.bl false)))
    sNil)) [.sh (.scr ns), .sh (.ref 0), .sh lineD, .sh shutD, .sh (.tup [.int 0, .int 0, .int 0, .int 0, .int 1, .int 2, .int 3, .int 4, .int 5, .int 6, .int 7, .int 8, .int 9]), .sh neverD, .ow (.lst (List.replicate 30 (.tup [.int 0]))), .no, .no] s1 = .ok (.nx [.sh (.scr ns), .sh (.ref 0), .sh lineD, .sh shutD, .sh (.tup [.int 0, .int 0, .int 0, .int 0, .int 1, .int 2, .int 3, .int 4, .int 5, .int 6, .int 7, .int 8, .int 9]), .sh neverD, .sh (.lst (List.replicate 30 (.tup [.int 0]))), .no, .no]) s1 := by kernel_rfl
theorem w10 (ns : List Int) : (sIf (tOf (eOp opNe (eCall u_is_paper (lCons (eVar 2) (lCons (eVar 5) (lCons (eC (.int (9))) (lCons (eOp opAdd (eVar 6) (eLst (lCons (eTup (lCons (eC (.int (0))) lNil)) lNil))) lNil))))) (eC (.bl false))))
    (sRet (eC (.bl false)))
    sNil) [.sh (.scr ns), .sh (.ref 0), .sh lineD, .sh shutD, .sh (.tup [.int 0, .int 0, .int 0, .int 0, .int 1, .int 2, .int 3, .int 4, .int 5, .int 6, .int 7, .int 8, .int 9]), .sh neverD, .sh (.lst (List.replicate 30 (.tup [.int 0]))), .no, .no] s1 = .ok (.nx [.sh (.scr ns), .sh (.ref 0), .sh lineD, .sh shutD, .sh (.tup [.int 0, .int 0, .int 0, .int 0, .int 1, .int 2, .int 3, .int 4, .int 5, .int 6, .int 7, .int 8, .int 9]), .sh neverD, .sh (.lst (List.replicate 30 (.tup [.int 0]))), .no, .no]) s1 := by kernel_rfl
theorem w11 (ns : List Int) : (sIf (tOr (tOf (eOp opNe (eCall u_law_ask (lCons (eC (.int (3))) (lCons (eVar 2) (lCons (eTup lNil) (lCons (eC .non) (lCons (eC (.int (30))) lNil)))))) (eTupR (eC (.int (10)))))) (tOf (eOp opNe (eCall u_law_ask (lCons (eC (.int (3))) (lCons (eVar 2) (lCons (eTup lNil) (lCons (eC .non) (lCons (eC (.int (31))) lNil)))))) (eTup (lCons (eC (.str "refused")) (lCons (eC (.int (4))) lNil))))))
    (sRet (eC (.bl false)))
    sNil) [.sh (.scr ns), .sh (.ref 0), .sh lineD, .sh shutD, .sh (.tup [.int 0, .int 0, .int 0, .int 0, .int 1, .int 2, .int 3, .int 4, .int 5, .int 6, .int 7, .int 8, .int 9]), .sh neverD, .sh (.lst (List.replicate 30 (.tup [.int 0]))), .no, .no] s1 = .ok (.nx [.sh (.scr ns), .sh (.ref 0), .sh lineD, .sh shutD, .sh (.tup [.int 0, .int 0, .int 0, .int 0, .int 1, .int 2, .int 3, .int 4, .int 5, .int 6, .int 7, .int 8, .int 9]), .sh neverD, .sh (.lst (List.replicate 30 (.tup [.int 0]))), .no, .no]) s1 := by kernel_rfl
theorem w12 (ns : List Int) : (sIf (tOr (tOf (eOp opNe (eCall u_fewest_spots (lCons (eVar 2) (lCons (eC (.int (1))) lNil))) (eLst (lCons (eTup (lCons (eC (.str "door")) (lCons (eC (.int (0))) (lCons (eC (.int (1))) lNil)))) lNil)))) (tOf (eOp opNe (eLen (lCons (eCall u_fewest_spots (lCons (eVar 2) (lCons (eC (.int (9))) lNil))) lNil)) (eC (.int (1))))))
    (sRet (eC (.bl false)))
    sNil) [.sh (.scr ns), .sh (.ref 0), .sh lineD, .sh shutD, .sh (.tup [.int 0, .int 0, .int 0, .int 0, .int 1, .int 2, .int 3, .int 4, .int 5, .int 6, .int 7, .int 8, .int 9]), .sh neverD, .sh (.lst (List.replicate 30 (.tup [.int 0]))), .no, .no] s1 = .ok (.nx [.sh (.scr ns), .sh (.ref 0), .sh lineD, .sh shutD, .sh (.tup [.int 0, .int 0, .int 0, .int 0, .int 1, .int 2, .int 3, .int 4, .int 5, .int 6, .int 7, .int 8, .int 9]), .sh neverD, .sh (.lst (List.replicate 30 (.tup [.int 0]))), .no, .no]) s3 := by kernel_rfl
end Q13
namespace Q13
open PySem PySem.Spec PyProof.Rows L2 UW
theorem w13 (ns : List Int) : (sAsg 7 (eTup (lCons (eC (.int (10))) (lCons (eB bTuple (lCons (eOp opAdd (eLst (lCons (eTup (lCons (eC (.int (0))) (lCons (eC (.int (1))) lNil))) (lCons (eTup (lCons (eC (.int (1))) (lCons (eC (.int (2))) lNil))) lNil))) (eComp [8] (iRange (lCons (eC (.int (3))) (lCons (eC (.int (9))) lNil))) (gN 8) tT (eTup (lCons (eVar 8) (lCons (eOp opAdd (eVar 8) (eC (.int (1)))) lNil))))) lNil)) lNil)))) [.sh (.scr ns), .sh (.ref 0), .sh lineD, .sh shutD, .sh (.tup [.int 0, .int 0, .int 0, .int 0, .int 1, .int 2, .int 3, .int 4, .int 5, .int 6, .int 7, .int 8, .int 9]), .sh neverD, .sh (.lst (List.replicate 30 (.tup [.int 0]))), .no, .no] s3 = .ok (.nx [.sh (.scr ns), .sh (.ref 0), .sh lineD, .sh shutD, .sh (.tup [.int 0, .int 0, .int 0, .int 0, .int 1, .int 2, .int 3, .int 4, .int 5, .int 6, .int 7, .int 8, .int 9]), .sh neverD, .sh (.lst (List.replicate 30 (.tup [.int 0]))), .sh apartD, .no]) s3 := by kernel_rfl
theorem w14 (ns : List Int) : (sIf (tOr (tOf (eOp opNe (eCall u_delays (lCons (eVar 7) (lCons (eC (.int (1))) (lCons (eC (.int (2))) (lCons (eC (.int (9))) lNil))))) (eTup (lCons (eC (.int (1))) (lCons (eC (.int (30))) lNil))))) (tOr (tOf (eOp opIsNot (eCall u_delays (lCons (eVar 7) (lCons (eC (.int (1))) (lCons (eC (.int (9))) (lCons (eC (.int (2))) lNil))))) (eC .non))) (tOf (eOp opNe (eCall u_delays (lCons (eVar 2) (lCons (eC (.int (1))) (lCons (eC (.int (2))) (lCons (eC (.int (9))) lNil))))) (eTup (lCons (eC (.int (1))) (lCons (eC (.int (7))) lNil)))))))
    (sRet (eC (.bl false)))
    sNil) [.sh (.scr ns), .sh (.ref 0), .sh lineD, .sh shutD, .sh (.tup [.int 0, .int 0, .int 0, .int 0, .int 1, .int 2, .int 3, .int 4, .int 5, .int 6, .int 7, .int 8, .int 9]), .sh neverD, .sh (.lst (List.replicate 30 (.tup [.int 0]))), .sh apartD, .no] s3 = .ok (.nx [.sh (.scr ns), .sh (.ref 0), .sh lineD, .sh shutD, .sh (.tup [.int 0, .int 0, .int 0, .int 0, .int 1, .int 2, .int 3, .int 4, .int 5, .int 6, .int 7, .int 8, .int 9]), .sh neverD, .sh (.lst (List.replicate 30 (.tup [.int 0]))), .sh apartD, .no]) s3 := by kernel_rfl
theorem w15 (ns : List Int) : (sIf (tOf (eOp opIsNot (eCall u_parted (lCons (eVar 2) (lCons (eTup (lCons (eTup (lCons (eTup (lCons (eC (.str "room")) (lCons (eC (.int (5))) lNil))) (lCons (eC (.str ".")) lNil))) lNil)) (lCons (eTup lNil) lNil)))) (eC .non)))
    (sRet (eC (.bl false)))
    sNil) [.sh (.scr ns), .sh (.ref 0), .sh lineD, .sh shutD, .sh (.tup [.int 0, .int 0, .int 0, .int 0, .int 1, .int 2, .int 3, .int 4, .int 5, .int 6, .int 7, .int 8, .int 9]), .sh neverD, .sh (.lst (List.replicate 30 (.tup [.int 0]))), .sh apartD, .no] s3 = .ok (.nx [.sh (.scr ns), .sh (.ref 0), .sh lineD, .sh shutD, .sh (.tup [.int 0, .int 0, .int 0, .int 0, .int 1, .int 2, .int 3, .int 4, .int 5, .int 6, .int 7, .int 8, .int 9]), .sh neverD, .sh (.lst (List.replicate 30 (.tup [.int 0]))), .sh apartD, .no]) s3 := by kernel_rfl
theorem w16 (ns : List Int) : (sRet (eOp opEq (eCall u_parted (lCons (eVar 2) (lCons (eTup (lCons (eTup (lCons (eTup (lCons (eC (.str "room")) (lCons (eC (.int (9))) lNil))) (lCons (eC (.str "#")) lNil))) lNil)) (lCons (eTup lNil) lNil)))) (eTupR (eC (.int (10)))))) [.sh (.scr ns), .sh (.ref 0), .sh lineD, .sh shutD, .sh (.tup [.int 0, .int 0, .int 0, .int 0, .int 1, .int 2, .int 3, .int 4, .int 5, .int 6, .int 7, .int 8, .int 9]), .sh neverD, .sh (.lst (List.replicate 30 (.tup [.int 0]))), .sh apartD, .no] s3 = .ok (.rt ⟨.cl, .bl true⟩) s3 := by kernel_rfl
theorem a_dk : ∀ k : Nat, k < 39 → m_law_ask [.int 0, lineD, .tup [], .tup (List.replicate (k + 1) (.int 0)), .non] s1 = .ok ⟨.fr, .lst []⟩ s1
  | 0, _ => a_d0
  | 1, _ => a_d1
  | 2, _ => a_d2
  | 3, _ => a_d3
  | 4, _ => a_d4
  | 5, _ => a_d5
  | 6, _ => a_d6
  | 7, _ => a_d7
  | 8, _ => a_d8
  | 9, _ => a_d9
  | 10, _ => a_d10
  | 11, _ => a_d11
  | 12, _ => a_d12
  | 13, _ => a_d13
  | 14, _ => a_d14
  | 15, _ => a_d15
  | 16, _ => a_d16
  | 17, _ => a_d17
  | 18, _ => a_d18
  | 19, _ => a_d19
  | 20, _ => a_d20
  | 21, _ => a_d21
  | 22, _ => a_d22
  | 23, _ => a_d23
  | 24, _ => a_d24
  | 25, _ => a_d25
  | 26, _ => a_d26
  | 27, _ => a_d27
  | 28, _ => a_d28
  | 29, _ => a_d29
  | 30, _ => a_d30
  | 31, _ => a_d31
  | 32, _ => a_d32
  | 33, _ => a_d33
  | 34, _ => a_d34
  | 35, _ => a_d35
  | 36, _ => a_d36
  | 37, _ => a_d37
  | 38, _ => a_d38
  | k + 39, h => by omega
theorem rep_fl (k : Nat) : (List.replicate k [D.int 0]).flatten = List.replicate k (.int 0) := by
  induction k with
  | zero => rfl
  | succ k ih => rw [List.replicate_succ, List.flatten_cons, ih, List.replicate_succ]; rfl
theorem mul_t {k : Nat} (h1 : 1 ≤ k) (h : k ≤ 1000) : opMul (.tup [.int 0]) (.int k) = some ⟨.cl, .tup (List.replicate k (.int 0))⟩ := by
  have e : opMulT (.tup [.int 0]) (.int k) = some ⟨.cl, .tup (List.replicate (k : Int).toNat [.int 0]).flatten⟩ := if_pos ⟨by simp, by omega, by omega, by simp⟩
  rw [show ((k : Int).toNat) = k by omega, rep_fl] at e
  show orElse2 opMulT (orElse2 opMulW opMulS) (.tup [.int 0]) (.int k) = _
  unfold orElse2
  rw [e]
theorem sqW {f g : S} {ρ ρ1 : DSt} {s s1 : Sto} (h : f ρ s = .ok (.nx ρ1) s1) : sSeq f g ρ s = g ρ1 s1 := by
  show (f ρ s).bind _ = _
  rw [h]
  rfl
theorem w1 (ns : List Int) : (sIf (tOf (eOp opNe (eCall u_law_ask (lCons (eC (.int (0))) (lCons (eVar 2) (lCons (eTup lNil) (lCons (eOp opMul (eTup (lCons (eC (.int (0))) lNil)) (eOp opAdd (eC (.int (1))) (eCall u_law_draw (lCons (eVar 0) (lCons (eVar 1) (lCons (eC (.int (39))) lNil)))))) (lCons (eC .non) lNil)))))) (eLst lNil)))
    (sRet (eC (.bl false)))
    sNil) [.sh (.scr ns), .sh (.ref 0), .sh lineD, .no, .no, .no, .no, .no, .no] [.lst []] = .ok (.nx [.sh (.scr ns), .sh (.ref 0), .sh lineD, .no, .no, .no, .no, .no, .no]) s1 := by
  have d1 := draw_ev (ns := ns) (n := 0) (many := 39) (by omega) (by omega)
  have l1 := dr_lo (ns := ns) (k := 0 + 1) (many := 39) (by omega)
  have l2 := dr_hi (ns := ns) (k := 0 + 1) (many := 39) (by omega)
  generalize dr ns (0 + 1) 39 = d at d1 l1 l2
  obtain ⟨k, rfl⟩ : ∃ k : Nat, d = k := ⟨d.toNat, by omega⟩
  have d1 : m_law_draw [.scr ns, .ref 0, .int 39] [.lst []] = .ok ⟨.cl, .int k⟩ s1 := d1
  have ak := a_dk k (by omega)
  have mk := mul_t (k := k + 1) (by omega) (by omega)
  have ck : (1 : Int) + (k : Int) = ((k + 1 : Nat) : Int) := by omega
  rw [← ck] at mk
  rw [q_law_draw] at d1
  rw [q_law_ask] at ak
  have ne : opNe (.lst []) (.lst []) = some ⟨.cl, .bl false⟩ := by kernel_rfl
  generalize lineD = LD at *
  generalize List.replicate (k + 1) (D.int 0) = RD at *
  generalize s1 = S1 at *
  simp -implicitDefEqProofs [d1, mk, ak, ne]
theorem ways_ev (ns : List Int) : m_law_ways [.scr ns, .ref 0, lineD] [.lst []] = .ok ⟨.cl, .bl true⟩ s3 := by
  have hb : ((sSeq (sIf (tOr (tOf (eOp opNe (eCall u_law_ask (lCons (eC (.int (0))) (lCons (eVar 2) (lCons (eTup lNil) (lCons (eOp opMul (eTup (lCons (eC (.int (0))) lNil)) (eC (.int (40)))) (lCons (eC .non) lNil)))))) (eLst lNil))) (tOf (eOp opNe (eCall u_law_ask (lCons (eC (.int (0))) (lCons (eVar 2) (lCons (eTup lNil) (lCons (eOp opMul (eTup (lCons (eC (.int (0))) lNil)) (eC (.int (41)))) (lCons (eC .non) lNil)))))) (eTup (lCons (eC (.str "refused")) (lCons (eC (.int (3))) lNil))))))
    (sRet (eC (.bl false)))
    sNil)
  (sSeq (sIf (tOf (eOp opNe (eCall u_law_ask (lCons (eC (.int (0))) (lCons (eVar 2) (lCons (eTup lNil) (lCons (eOp opMul (eTup (lCons (eC (.int (0))) lNil)) (eOp opAdd (eC (.int (1))) (eCall u_law_draw (lCons (eVar 0) (lCons (eVar 1) (lCons (eC (.int (39))) lNil)))))) (lCons (eC .non) lNil)))))) (eLst lNil)))
    (sRet (eC (.bl false)))
    sNil)
  (sSeq (sIf (tOr (tOf (eOp opIsNot (eCall u_law_ask (lCons (eC (.int (1))) (lCons (eVar 2) (lCons (eTup lNil) (lCons (eC (.int (9))) (lCons (eC (.int (9))) lNil)))))) (eC .non))) (tOf (eOp opNe (eCall u_law_ask (lCons (eC (.int (1))) (lCons (eVar 2) (lCons (eTup lNil) (lCons (eC (.int (9))) (lCons (eC (.int (10))) lNil)))))) (eTupR (eC (.int (10)))))))
    (sRet (eC (.bl false)))
    sNil)
  (sSeq (sAsg 3 (eTup (lCons (eTup (lCons (eTup (lCons (eC (.str "door")) (lCons (eC (.int (8))) (lCons (eC (.int (9))) lNil)))) (lCons (eC (.str "#####.")) lNil))) lNil)))
  (sSeq (sAsg 4 (eCall u_law_ask (lCons (eC (.int (1))) (lCons (eVar 2) (lCons (eVar 3) (lCons (eC (.int (9))) (lCons (eC (.int (30))) lNil)))))))
  (sSeq (sIf (tOr (tOf (eOp opIs (eVar 4) (eC .non))) (tOr (tOf (eOp opNe (eLen (lCons (eVar 4) lNil)) (eC (.int (13))))) (tOf (eOp opIsNot (eCall u_law_ask (lCons (eC (.int (1))) (lCons (eVar 2) (lCons (eVar 3) (lCons (eC (.int (9))) (lCons (eC (.int (12))) lNil)))))) (eC .non)))))
    (sRet (eC (.bl false)))
    sNil)
  (sSeq (sIf (tOf (eOp opNe (eCall u_law_ask (lCons (eC (.int (1))) (lCons (eVar 2) (lCons (eVar 3) (lCons (eC (.int (9))) (lCons (eC (.int (31))) lNil)))))) (eTup (lCons (eC (.str "refused")) (lCons (eC (.int (4))) lNil)))))
    (sRet (eC (.bl false)))
    sNil)
  (sSeq (sAsg 5 (eTup (lCons (eTup (lCons (eTup (lCons (eC (.str "door")) (lCons (eC (.int (0))) (lCons (eC (.int (1))) lNil)))) (lCons (eC (.str "#")) lNil))) lNil)))
  (sSeq (sAsg 6 (eCall u_law_ask (lCons (eC (.int (2))) (lCons (eVar 2) (lCons (eVar 5) (lCons (eC (.int (9))) (lCons (eC (.int (30))) lNil)))))))
  (sSeq (sFrz 6 (sIf (tOr (tOf (eOp opNe (eVar 6) (eOp opMul (eLst (lCons (eTup (lCons (eC (.int (0))) lNil)) lNil)) (eC (.int (30)))))) (tOf (eOp opNe (eCall u_is_paper (lCons (eVar 2) (lCons (eVar 5) (lCons (eC (.int (9))) (lCons (eVar 6) lNil))))) (eC (.bl true)))))
    (sRet (eC (.bl false)))
    sNil))
  (sSeq (sIf (tOf (eOp opNe (eCall u_is_paper (lCons (eVar 2) (lCons (eVar 5) (lCons (eC (.int (9))) (lCons (eOp opAdd (eVar 6) (eLst (lCons (eTup (lCons (eC (.int (0))) lNil)) lNil))) lNil))))) (eC (.bl false))))
    (sRet (eC (.bl false)))
    sNil)
  (sSeq (sIf (tOr (tOf (eOp opNe (eCall u_law_ask (lCons (eC (.int (3))) (lCons (eVar 2) (lCons (eTup lNil) (lCons (eC .non) (lCons (eC (.int (30))) lNil)))))) (eTupR (eC (.int (10)))))) (tOf (eOp opNe (eCall u_law_ask (lCons (eC (.int (3))) (lCons (eVar 2) (lCons (eTup lNil) (lCons (eC .non) (lCons (eC (.int (31))) lNil)))))) (eTup (lCons (eC (.str "refused")) (lCons (eC (.int (4))) lNil))))))
    (sRet (eC (.bl false)))
    sNil)
  (sSeq (sIf (tOr (tOf (eOp opNe (eCall u_fewest_spots (lCons (eVar 2) (lCons (eC (.int (1))) lNil))) (eLst (lCons (eTup (lCons (eC (.str "door")) (lCons (eC (.int (0))) (lCons (eC (.int (1))) lNil)))) lNil)))) (tOf (eOp opNe (eLen (lCons (eCall u_fewest_spots (lCons (eVar 2) (lCons (eC (.int (9))) lNil))) lNil)) (eC (.int (1))))))
    (sRet (eC (.bl false)))
    sNil)
  (sSeq (sAsg 7 (eTup (lCons (eC (.int (10))) (lCons (eB bTuple (lCons (eOp opAdd (eLst (lCons (eTup (lCons (eC (.int (0))) (lCons (eC (.int (1))) lNil))) (lCons (eTup (lCons (eC (.int (1))) (lCons (eC (.int (2))) lNil))) lNil))) (eComp [8] (iRange (lCons (eC (.int (3))) (lCons (eC (.int (9))) lNil))) (gN 8) tT (eTup (lCons (eVar 8) (lCons (eOp opAdd (eVar 8) (eC (.int (1)))) lNil))))) lNil)) lNil))))
  (sSeq (sIf (tOr (tOf (eOp opNe (eCall u_delays (lCons (eVar 7) (lCons (eC (.int (1))) (lCons (eC (.int (2))) (lCons (eC (.int (9))) lNil))))) (eTup (lCons (eC (.int (1))) (lCons (eC (.int (30))) lNil))))) (tOr (tOf (eOp opIsNot (eCall u_delays (lCons (eVar 7) (lCons (eC (.int (1))) (lCons (eC (.int (9))) (lCons (eC (.int (2))) lNil))))) (eC .non))) (tOf (eOp opNe (eCall u_delays (lCons (eVar 2) (lCons (eC (.int (1))) (lCons (eC (.int (2))) (lCons (eC (.int (9))) lNil))))) (eTup (lCons (eC (.int (1))) (lCons (eC (.int (7))) lNil)))))))
    (sRet (eC (.bl false)))
    sNil)
  (sSeq (sIf (tOf (eOp opIsNot (eCall u_parted (lCons (eVar 2) (lCons (eTup (lCons (eTup (lCons (eTup (lCons (eC (.str "room")) (lCons (eC (.int (5))) lNil))) (lCons (eC (.str ".")) lNil))) lNil)) (lCons (eTup lNil) lNil)))) (eC .non)))
    (sRet (eC (.bl false)))
    sNil)
  (sRet (eOp opEq (eCall u_parted (lCons (eVar 2) (lCons (eTup (lCons (eTup (lCons (eTup (lCons (eC (.str "room")) (lCons (eC (.int (9))) lNil))) (lCons (eC (.str "#")) lNil))) lNil)) (lCons (eTup lNil) lNil)))) (eTupR (eC (.int (10))))))))))))))))))))))) [.sh (.scr ns), .sh (.ref 0), .sh lineD, .no, .no, .no, .no, .no, .no] [.lst []] = .ok (.rt ⟨.cl, .bl true⟩) s3 := by
    rw [sqW (w0 ns), sqW (w1 ns), sqW (w2 ns), sqW (w3 ns), sqW (w4 ns), sqW (w5 ns), sqW (w6 ns), sqW (w7 ns), sqW (w8 ns), sqW (w9 ns), sqW (w10 ns), sqW (w11 ns), sqW (w12 ns), sqW (w13 ns), sqW (w14 ns), sqW (w15 ns)]
    exact w16 ns
  rw [q_law_ways]
  unfold u_law_ways
  generalize ((sSeq (sIf (tOr (tOf (eOp opNe (eCall u_law_ask (lCons (eC (.int (0))) (lCons (eVar 2) (lCons (eTup lNil) (lCons (eOp opMul (eTup (lCons (eC (.int (0))) lNil)) (eC (.int (40)))) (lCons (eC .non) lNil)))))) (eLst lNil))) (tOf (eOp opNe (eCall u_law_ask (lCons (eC (.int (0))) (lCons (eVar 2) (lCons (eTup lNil) (lCons (eOp opMul (eTup (lCons (eC (.int (0))) lNil)) (eC (.int (41)))) (lCons (eC .non) lNil)))))) (eTup (lCons (eC (.str "refused")) (lCons (eC (.int (3))) lNil))))))
    (sRet (eC (.bl false)))
    sNil)
  (sSeq (sIf (tOf (eOp opNe (eCall u_law_ask (lCons (eC (.int (0))) (lCons (eVar 2) (lCons (eTup lNil) (lCons (eOp opMul (eTup (lCons (eC (.int (0))) lNil)) (eOp opAdd (eC (.int (1))) (eCall u_law_draw (lCons (eVar 0) (lCons (eVar 1) (lCons (eC (.int (39))) lNil)))))) (lCons (eC .non) lNil)))))) (eLst lNil)))
    (sRet (eC (.bl false)))
    sNil)
  (sSeq (sIf (tOr (tOf (eOp opIsNot (eCall u_law_ask (lCons (eC (.int (1))) (lCons (eVar 2) (lCons (eTup lNil) (lCons (eC (.int (9))) (lCons (eC (.int (9))) lNil)))))) (eC .non))) (tOf (eOp opNe (eCall u_law_ask (lCons (eC (.int (1))) (lCons (eVar 2) (lCons (eTup lNil) (lCons (eC (.int (9))) (lCons (eC (.int (10))) lNil)))))) (eTupR (eC (.int (10)))))))
    (sRet (eC (.bl false)))
    sNil)
  (sSeq (sAsg 3 (eTup (lCons (eTup (lCons (eTup (lCons (eC (.str "door")) (lCons (eC (.int (8))) (lCons (eC (.int (9))) lNil)))) (lCons (eC (.str "#####.")) lNil))) lNil)))
  (sSeq (sAsg 4 (eCall u_law_ask (lCons (eC (.int (1))) (lCons (eVar 2) (lCons (eVar 3) (lCons (eC (.int (9))) (lCons (eC (.int (30))) lNil)))))))
  (sSeq (sIf (tOr (tOf (eOp opIs (eVar 4) (eC .non))) (tOr (tOf (eOp opNe (eLen (lCons (eVar 4) lNil)) (eC (.int (13))))) (tOf (eOp opIsNot (eCall u_law_ask (lCons (eC (.int (1))) (lCons (eVar 2) (lCons (eVar 3) (lCons (eC (.int (9))) (lCons (eC (.int (12))) lNil)))))) (eC .non)))))
    (sRet (eC (.bl false)))
    sNil)
  (sSeq (sIf (tOf (eOp opNe (eCall u_law_ask (lCons (eC (.int (1))) (lCons (eVar 2) (lCons (eVar 3) (lCons (eC (.int (9))) (lCons (eC (.int (31))) lNil)))))) (eTup (lCons (eC (.str "refused")) (lCons (eC (.int (4))) lNil)))))
    (sRet (eC (.bl false)))
    sNil)
  (sSeq (sAsg 5 (eTup (lCons (eTup (lCons (eTup (lCons (eC (.str "door")) (lCons (eC (.int (0))) (lCons (eC (.int (1))) lNil)))) (lCons (eC (.str "#")) lNil))) lNil)))
  (sSeq (sAsg 6 (eCall u_law_ask (lCons (eC (.int (2))) (lCons (eVar 2) (lCons (eVar 5) (lCons (eC (.int (9))) (lCons (eC (.int (30))) lNil)))))))
  (sSeq (sFrz 6 (sIf (tOr (tOf (eOp opNe (eVar 6) (eOp opMul (eLst (lCons (eTup (lCons (eC (.int (0))) lNil)) lNil)) (eC (.int (30)))))) (tOf (eOp opNe (eCall u_is_paper (lCons (eVar 2) (lCons (eVar 5) (lCons (eC (.int (9))) (lCons (eVar 6) lNil))))) (eC (.bl true)))))
    (sRet (eC (.bl false)))
    sNil))
  (sSeq (sIf (tOf (eOp opNe (eCall u_is_paper (lCons (eVar 2) (lCons (eVar 5) (lCons (eC (.int (9))) (lCons (eOp opAdd (eVar 6) (eLst (lCons (eTup (lCons (eC (.int (0))) lNil)) lNil))) lNil))))) (eC (.bl false))))
    (sRet (eC (.bl false)))
    sNil)
  (sSeq (sIf (tOr (tOf (eOp opNe (eCall u_law_ask (lCons (eC (.int (3))) (lCons (eVar 2) (lCons (eTup lNil) (lCons (eC .non) (lCons (eC (.int (30))) lNil)))))) (eTupR (eC (.int (10)))))) (tOf (eOp opNe (eCall u_law_ask (lCons (eC (.int (3))) (lCons (eVar 2) (lCons (eTup lNil) (lCons (eC .non) (lCons (eC (.int (31))) lNil)))))) (eTup (lCons (eC (.str "refused")) (lCons (eC (.int (4))) lNil))))))
    (sRet (eC (.bl false)))
    sNil)
  (sSeq (sIf (tOr (tOf (eOp opNe (eCall u_fewest_spots (lCons (eVar 2) (lCons (eC (.int (1))) lNil))) (eLst (lCons (eTup (lCons (eC (.str "door")) (lCons (eC (.int (0))) (lCons (eC (.int (1))) lNil)))) lNil)))) (tOf (eOp opNe (eLen (lCons (eCall u_fewest_spots (lCons (eVar 2) (lCons (eC (.int (9))) lNil))) lNil)) (eC (.int (1))))))
    (sRet (eC (.bl false)))
    sNil)
  (sSeq (sAsg 7 (eTup (lCons (eC (.int (10))) (lCons (eB bTuple (lCons (eOp opAdd (eLst (lCons (eTup (lCons (eC (.int (0))) (lCons (eC (.int (1))) lNil))) (lCons (eTup (lCons (eC (.int (1))) (lCons (eC (.int (2))) lNil))) lNil))) (eComp [8] (iRange (lCons (eC (.int (3))) (lCons (eC (.int (9))) lNil))) (gN 8) tT (eTup (lCons (eVar 8) (lCons (eOp opAdd (eVar 8) (eC (.int (1)))) lNil))))) lNil)) lNil))))
  (sSeq (sIf (tOr (tOf (eOp opNe (eCall u_delays (lCons (eVar 7) (lCons (eC (.int (1))) (lCons (eC (.int (2))) (lCons (eC (.int (9))) lNil))))) (eTup (lCons (eC (.int (1))) (lCons (eC (.int (30))) lNil))))) (tOr (tOf (eOp opIsNot (eCall u_delays (lCons (eVar 7) (lCons (eC (.int (1))) (lCons (eC (.int (9))) (lCons (eC (.int (2))) lNil))))) (eC .non))) (tOf (eOp opNe (eCall u_delays (lCons (eVar 2) (lCons (eC (.int (1))) (lCons (eC (.int (2))) (lCons (eC (.int (9))) lNil))))) (eTup (lCons (eC (.int (1))) (lCons (eC (.int (7))) lNil)))))))
    (sRet (eC (.bl false)))
    sNil)
  (sSeq (sIf (tOf (eOp opIsNot (eCall u_parted (lCons (eVar 2) (lCons (eTup (lCons (eTup (lCons (eTup (lCons (eC (.str "room")) (lCons (eC (.int (5))) lNil))) (lCons (eC (.str ".")) lNil))) lNil)) (lCons (eTup lNil) lNil)))) (eC .non)))
    (sRet (eC (.bl false)))
    sNil)
  (sRet (eOp opEq (eCall u_parted (lCons (eVar 2) (lCons (eTup (lCons (eTup (lCons (eTup (lCons (eC (.str "room")) (lCons (eC (.int (9))) lNil))) (lCons (eC (.str "#")) lNil))) lNil)) (lCons (eTup lNil) lNil)))) (eTupR (eC (.int (10))))))))))))))))))))))) = BODY at hb ⊢
  simp -implicitDefEqProofs [startD, hb]
end Q13
namespace Q13
open PySem PySem.Spec PyProof.Rows L2 UW
theorem st0 (ns : List Int) : (sMov 1 (sAsg 1 (eLst lNil))) [.sh (.scr ns), .no, .no, .no, .no, .no, .no, .no, .no, .no, .no] [] = .ok (.nx [.sh (.scr ns), .sh (.ref 0), .no, .no, .no, .no, .no, .no, .no, .no, .no]) [.lst []] := by kernel_rfl
theorem st1 (ns : List Int) : (sFor (iAny (eTup (lCons (eTup (lCons (eC (.int (1))) (lCons (eC (.bl false)) lNil))) (lCons (eTup (lCons (eC (.int (2))) (lCons (eC (.bl true)) lNil))) (lCons (eTup (lCons (eC (.int (10))) (lCons (eC (.bl true)) lNil))) (lCons (eTup (lCons (eC (.int (11))) (lCons (eC (.bl false)) lNil))) lNil)))))) (gT (gsCons (gN 2) (gsCons (gN 3) gsNil)))
    (sIf (tOf (eOp opNe (eCall u_is_house (lCons (eTup (lCons (eVar 2) (lCons (eTup lNil) lNil))) lNil)) (eVar 3)))
      (sRet (eC (.bl false)))
      sNil)) [.sh (.scr ns), .sh (.ref 0), .no, .no, .no, .no, .no, .no, .no, .no, .no] [.lst []] = .ok (.nx [.sh (.scr ns), .sh (.ref 0), .sh (.int 11), .sh (.bl false), .no, .no, .no, .no, .no, .no, .no]) [.lst []] := by kernel_rfl
theorem st2 (ns : List Int) : (sAsg 4 (eLst lNil)) [.sh (.scr ns), .sh (.ref 0), .sh (.int 11), .sh (.bl false), .no, .no, .no, .no, .no, .no, .no] [.lst []] = .ok (.nx [.sh (.scr ns), .sh (.ref 0), .sh (.int 11), .sh (.bl false), .ow (.lst []), .no, .no, .no, .no, .no, .no]) [.lst []] := by kernel_rfl
theorem st3 (ns : List Int) : (sFor (iRange (lCons (eC (.int (7))) lNil)) (gN 5)
    (sExt 4 (eComp [10] (iRange (lCons (eOp opAdd (eVar 5) (eC (.int (1)))) (lCons (eC (.int (7))) lNil))) (gN 10) tT (eTup (lCons (eVar 5) (lCons (eVar 10) lNil)))))) [.sh (.scr ns), .sh (.ref 0), .sh (.int 11), .sh (.bl false), .ow (.lst []), .no, .no, .no, .no, .no, .no] [.lst []] = .ok (.nx [.sh (.scr ns), .sh (.ref 0), .sh (.int 11), .sh (.bl false), .ow (.lst [.tup [.int 0, .int 1], .tup [.int 0, .int 2], .tup [.int 0, .int 3], .tup [.int 0, .int 4], .tup [.int 0, .int 5], .tup [.int 0, .int 6], .tup [.int 1, .int 2], .tup [.int 1, .int 3], .tup [.int 1, .int 4], .tup [.int 1, .int 5], .tup [.int 1, .int 6], .tup [.int 2, .int 3], .tup [.int 2, .int 4], .tup [.int 2, .int 5], .tup [.int 2, .int 6], .tup [.int 3, .int 4], .tup [.int 3, .int 5], .tup [.int 3, .int 6], .tup [.int 4, .int 5], .tup [.int 4, .int 6], .tup [.int 5, .int 6]]), .sh (.int 6), .no, .no, .no, .no, .no]) [.lst []] := by kernel_rfl
theorem st4 (ns : List Int) : (sIf (tOr (tOf (eOp opNe (eCall u_is_house (lCons (eTup (lCons (eC (.int (7))) (lCons (eB bTuple (lCons (eSl (eVar 4) oNone (oSome (eC (.int (20))))) lNil)) lNil))) lNil)) (eC (.bl true)))) (tOf (eOp opNe (eCall u_is_house (lCons (eTup (lCons (eC (.int (7))) (lCons (eB bTuple (lCons (eSl (eVar 4) oNone (oSome (eC (.int (21))))) lNil)) lNil))) lNil)) (eC (.bl false)))))
    (sRet (eC (.bl false)))
    sNil) [.sh (.scr ns), .sh (.ref 0), .sh (.int 11), .sh (.bl false), .ow (.lst [.tup [.int 0, .int 1], .tup [.int 0, .int 2], .tup [.int 0, .int 3], .tup [.int 0, .int 4], .tup [.int 0, .int 5], .tup [.int 0, .int 6], .tup [.int 1, .int 2], .tup [.int 1, .int 3], .tup [.int 1, .int 4], .tup [.int 1, .int 5], .tup [.int 1, .int 6], .tup [.int 2, .int 3], .tup [.int 2, .int 4], .tup [.int 2, .int 5], .tup [.int 2, .int 6], .tup [.int 3, .int 4], .tup [.int 3, .int 5], .tup [.int 3, .int 6], .tup [.int 4, .int 5], .tup [.int 4, .int 6], .tup [.int 5, .int 6]]), .sh (.int 6), .no, .no, .no, .no, .no] [.lst []] = .ok (.nx [.sh (.scr ns), .sh (.ref 0), .sh (.int 11), .sh (.bl false), .ow (.lst [.tup [.int 0, .int 1], .tup [.int 0, .int 2], .tup [.int 0, .int 3], .tup [.int 0, .int 4], .tup [.int 0, .int 5], .tup [.int 0, .int 6], .tup [.int 1, .int 2], .tup [.int 1, .int 3], .tup [.int 1, .int 4], .tup [.int 1, .int 5], .tup [.int 1, .int 6], .tup [.int 2, .int 3], .tup [.int 2, .int 4], .tup [.int 2, .int 5], .tup [.int 2, .int 6], .tup [.int 3, .int 4], .tup [.int 3, .int 5], .tup [.int 3, .int 6], .tup [.int 4, .int 5], .tup [.int 4, .int 6], .tup [.int 5, .int 6]]), .sh (.int 6), .no, .no, .no, .no, .no]) [.lst []] := by kernel_rfl
theorem st5 (ns : List Int) : (sAsg 6 (eCall u_law_line (lCons (eC (.int (10))) lNil))) [.sh (.scr ns), .sh (.ref 0), .sh (.int 11), .sh (.bl false), .ow (.lst [.tup [.int 0, .int 1], .tup [.int 0, .int 2], .tup [.int 0, .int 3], .tup [.int 0, .int 4], .tup [.int 0, .int 5], .tup [.int 0, .int 6], .tup [.int 1, .int 2], .tup [.int 1, .int 3], .tup [.int 1, .int 4], .tup [.int 1, .int 5], .tup [.int 1, .int 6], .tup [.int 2, .int 3], .tup [.int 2, .int 4], .tup [.int 2, .int 5], .tup [.int 2, .int 6], .tup [.int 3, .int 4], .tup [.int 3, .int 5], .tup [.int 3, .int 6], .tup [.int 4, .int 5], .tup [.int 4, .int 6], .tup [.int 5, .int 6]]), .sh (.int 6), .no, .no, .no, .no, .no] [.lst []] = .ok (.nx [.sh (.scr ns), .sh (.ref 0), .sh (.int 11), .sh (.bl false), .ow (.lst [.tup [.int 0, .int 1], .tup [.int 0, .int 2], .tup [.int 0, .int 3], .tup [.int 0, .int 4], .tup [.int 0, .int 5], .tup [.int 0, .int 6], .tup [.int 1, .int 2], .tup [.int 1, .int 3], .tup [.int 1, .int 4], .tup [.int 1, .int 5], .tup [.int 1, .int 6], .tup [.int 2, .int 3], .tup [.int 2, .int 4], .tup [.int 2, .int 5], .tup [.int 2, .int 6], .tup [.int 3, .int 4], .tup [.int 3, .int 5], .tup [.int 3, .int 6], .tup [.int 4, .int 5], .tup [.int 4, .int 6], .tup [.int 5, .int 6]]), .sh (.int 6), .sh lineD, .no, .no, .no, .no]) [.lst []] := by kernel_rfl
theorem st6 (ns : List Int) : (sAsg 7 (eComp [9] (iRange (lCons (eC (.int (1))) (lCons (eC (.int (10))) lNil))) (gN 9) tT (eTup (lCons (eTup (lCons (eC (.str "room")) (lCons (eVar 9) lNil))) (lCons (eOp opAdd (eC (.str "#.")) (eOp opMul (eC (.str "#")) (eOp opMod (eVar 9) (eC (.int (4)))))) lNil))))) [.sh (.scr ns), .sh (.ref 0), .sh (.int 11), .sh (.bl false), .ow (.lst [.tup [.int 0, .int 1], .tup [.int 0, .int 2], .tup [.int 0, .int 3], .tup [.int 0, .int 4], .tup [.int 0, .int 5], .tup [.int 0, .int 6], .tup [.int 1, .int 2], .tup [.int 1, .int 3], .tup [.int 1, .int 4], .tup [.int 1, .int 5], .tup [.int 1, .int 6], .tup [.int 2, .int 3], .tup [.int 2, .int 4], .tup [.int 2, .int 5], .tup [.int 2, .int 6], .tup [.int 3, .int 4], .tup [.int 3, .int 5], .tup [.int 3, .int 6], .tup [.int 4, .int 5], .tup [.int 4, .int 6], .tup [.int 5, .int 6]]), .sh (.int 6), .sh lineD, .no, .no, .no, .no] [.lst []] = .ok (.nx [.sh (.scr ns), .sh (.ref 0), .sh (.int 11), .sh (.bl false), .ow (.lst [.tup [.int 0, .int 1], .tup [.int 0, .int 2], .tup [.int 0, .int 3], .tup [.int 0, .int 4], .tup [.int 0, .int 5], .tup [.int 0, .int 6], .tup [.int 1, .int 2], .tup [.int 1, .int 3], .tup [.int 1, .int 4], .tup [.int 1, .int 5], .tup [.int 1, .int 6], .tup [.int 2, .int 3], .tup [.int 2, .int 4], .tup [.int 2, .int 5], .tup [.int 2, .int 6], .tup [.int 3, .int 4], .tup [.int 3, .int 5], .tup [.int 3, .int 6], .tup [.int 4, .int 5], .tup [.int 4, .int 6], .tup [.int 5, .int 6]]), .sh (.int 6), .sh lineD, .ow (.lst [.tup [.tup [.str "room", .int 1], .str "#.#"], .tup [.tup [.str "room", .int 2], .str "#.##"], .tup [.tup [.str "room", .int 3], .str "#.###"], .tup [.tup [.str "room", .int 4], .str "#."], .tup [.tup [.str "room", .int 5], .str "#.#"], .tup [.tup [.str "room", .int 6], .str "#.##"], .tup [.tup [.str "room", .int 7], .str "#.###"], .tup [.tup [.str "room", .int 8], .str "#."], .tup [.tup [.str "room", .int 9], .str "#.#"]]), .no, .no, .no]) [.lst []] := by kernel_rfl
theorem st7 (ns : List Int) : (sExt 7 (eComp [9] (iRange (lCons (eC (.int (1))) (lCons (eC (.int (5))) lNil))) (gN 9) tT (eTup (lCons (eTup (lCons (eC (.str "room")) (lCons (eVar 9) lNil))) (lCons (eC (.str ".")) lNil))))) [.sh (.scr ns), .sh (.ref 0), .sh (.int 11), .sh (.bl false), .ow (.lst [.tup [.int 0, .int 1], .tup [.int 0, .int 2], .tup [.int 0, .int 3], .tup [.int 0, .int 4], .tup [.int 0, .int 5], .tup [.int 0, .int 6], .tup [.int 1, .int 2], .tup [.int 1, .int 3], .tup [.int 1, .int 4], .tup [.int 1, .int 5], .tup [.int 1, .int 6], .tup [.int 2, .int 3], .tup [.int 2, .int 4], .tup [.int 2, .int 5], .tup [.int 2, .int 6], .tup [.int 3, .int 4], .tup [.int 3, .int 5], .tup [.int 3, .int 6], .tup [.int 4, .int 5], .tup [.int 4, .int 6], .tup [.int 5, .int 6]]), .sh (.int 6), .sh lineD, .ow (.lst [.tup [.tup [.str "room", .int 1], .str "#.#"], .tup [.tup [.str "room", .int 2], .str "#.##"], .tup [.tup [.str "room", .int 3], .str "#.###"], .tup [.tup [.str "room", .int 4], .str "#."], .tup [.tup [.str "room", .int 5], .str "#.#"], .tup [.tup [.str "room", .int 6], .str "#.##"], .tup [.tup [.str "room", .int 7], .str "#.###"], .tup [.tup [.str "room", .int 8], .str "#."], .tup [.tup [.str "room", .int 9], .str "#.#"]]), .no, .no, .no] [.lst []] = .ok (.nx [.sh (.scr ns), .sh (.ref 0), .sh (.int 11), .sh (.bl false), .ow (.lst [.tup [.int 0, .int 1], .tup [.int 0, .int 2], .tup [.int 0, .int 3], .tup [.int 0, .int 4], .tup [.int 0, .int 5], .tup [.int 0, .int 6], .tup [.int 1, .int 2], .tup [.int 1, .int 3], .tup [.int 1, .int 4], .tup [.int 1, .int 5], .tup [.int 1, .int 6], .tup [.int 2, .int 3], .tup [.int 2, .int 4], .tup [.int 2, .int 5], .tup [.int 2, .int 6], .tup [.int 3, .int 4], .tup [.int 3, .int 5], .tup [.int 3, .int 6], .tup [.int 4, .int 5], .tup [.int 4, .int 6], .tup [.int 5, .int 6]]), .sh (.int 6), .sh lineD, .ow (.lst [.tup [.tup [.str "room", .int 1], .str "#.#"], .tup [.tup [.str "room", .int 2], .str "#.##"], .tup [.tup [.str "room", .int 3], .str "#.###"], .tup [.tup [.str "room", .int 4], .str "#."], .tup [.tup [.str "room", .int 5], .str "#.#"], .tup [.tup [.str "room", .int 6], .str "#.##"], .tup [.tup [.str "room", .int 7], .str "#.###"], .tup [.tup [.str "room", .int 8], .str "#."], .tup [.tup [.str "room", .int 9], .str "#.#"], .tup [.tup [.str "room", .int 1], .str "."], .tup [.tup [.str "room", .int 2], .str "."], .tup [.tup [.str "room", .int 3], .str "."], .tup [.tup [.str "room", .int 4], .str "."]]), .no, .no, .no]) [.lst []] := by kernel_rfl
theorem st8 (ns : List Int) : (sIf (tOr (tOf (eOp opNe (eCall u_are_watchers (lCons (eVar 6) (lCons (eB bTuple (lCons (eB bSortK (lCons (eSl (eVar 7) oNone (oSome (eC (.int (12))))) lNil)) lNil)) lNil))) (eC (.bl true)))) (tOf (eOp opNe (eCall u_are_watchers (lCons (eVar 6) (lCons (eB bTuple (lCons (eB bSortK (lCons (eVar 7) lNil)) lNil)) lNil))) (eC (.bl false)))))
    (sRet (eC (.bl false)))
    sNil) [.sh (.scr ns), .sh (.ref 0), .sh (.int 11), .sh (.bl false), .ow (.lst [.tup [.int 0, .int 1], .tup [.int 0, .int 2], .tup [.int 0, .int 3], .tup [.int 0, .int 4], .tup [.int 0, .int 5], .tup [.int 0, .int 6], .tup [.int 1, .int 2], .tup [.int 1, .int 3], .tup [.int 1, .int 4], .tup [.int 1, .int 5], .tup [.int 1, .int 6], .tup [.int 2, .int 3], .tup [.int 2, .int 4], .tup [.int 2, .int 5], .tup [.int 2, .int 6], .tup [.int 3, .int 4], .tup [.int 3, .int 5], .tup [.int 3, .int 6], .tup [.int 4, .int 5], .tup [.int 4, .int 6], .tup [.int 5, .int 6]]), .sh (.int 6), .sh lineD, .ow (.lst [.tup [.tup [.str "room", .int 1], .str "#.#"], .tup [.tup [.str "room", .int 2], .str "#.##"], .tup [.tup [.str "room", .int 3], .str "#.###"], .tup [.tup [.str "room", .int 4], .str "#."], .tup [.tup [.str "room", .int 5], .str "#.#"], .tup [.tup [.str "room", .int 6], .str "#.##"], .tup [.tup [.str "room", .int 7], .str "#.###"], .tup [.tup [.str "room", .int 8], .str "#."], .tup [.tup [.str "room", .int 9], .str "#.#"], .tup [.tup [.str "room", .int 1], .str "."], .tup [.tup [.str "room", .int 2], .str "."], .tup [.tup [.str "room", .int 3], .str "."], .tup [.tup [.str "room", .int 4], .str "."]]), .no, .no, .no] [.lst []] = .ok (.nx [.sh (.scr ns), .sh (.ref 0), .sh (.int 11), .sh (.bl false), .ow (.lst [.tup [.int 0, .int 1], .tup [.int 0, .int 2], .tup [.int 0, .int 3], .tup [.int 0, .int 4], .tup [.int 0, .int 5], .tup [.int 0, .int 6], .tup [.int 1, .int 2], .tup [.int 1, .int 3], .tup [.int 1, .int 4], .tup [.int 1, .int 5], .tup [.int 1, .int 6], .tup [.int 2, .int 3], .tup [.int 2, .int 4], .tup [.int 2, .int 5], .tup [.int 2, .int 6], .tup [.int 3, .int 4], .tup [.int 3, .int 5], .tup [.int 3, .int 6], .tup [.int 4, .int 5], .tup [.int 4, .int 6], .tup [.int 5, .int 6]]), .sh (.int 6), .sh lineD, .ow (.lst [.tup [.tup [.str "room", .int 1], .str "#.#"], .tup [.tup [.str "room", .int 2], .str "#.##"], .tup [.tup [.str "room", .int 3], .str "#.###"], .tup [.tup [.str "room", .int 4], .str "#."], .tup [.tup [.str "room", .int 5], .str "#.#"], .tup [.tup [.str "room", .int 6], .str "#.##"], .tup [.tup [.str "room", .int 7], .str "#.###"], .tup [.tup [.str "room", .int 8], .str "#."], .tup [.tup [.str "room", .int 9], .str "#.#"], .tup [.tup [.str "room", .int 1], .str "."], .tup [.tup [.str "room", .int 2], .str "."], .tup [.tup [.str "room", .int 3], .str "."], .tup [.tup [.str "room", .int 4], .str "."]]), .no, .no, .no]) [.lst []] := by kernel_rfl
theorem st9 (ns : List Int) : (sFor (iAny (eTup (lCons (eTup (lCons (eOp opMul (eC (.str "#")) (eC (.int (6)))) (lCons (eC (.bl true)) lNil))) (lCons (eTup (lCons (eOp opMul (eC (.str "#")) (eC (.int (7)))) (lCons (eC (.bl false)) lNil))) (lCons (eTup (lCons (eC (.str "")) (lCons (eC (.bl false)) lNil))) (lCons (eTup (lCons (eC (.str "x")) (lCons (eC (.bl false)) lNil))) lNil)))))) (gT (gsCons (gN 8) (gsCons (gN 3) gsNil)))
    (sIf (tOf (eOp opNe (eCall u_are_watchers (lCons (eVar 6) (lCons (eTup (lCons (eTup (lCons (eTup (lCons (eC (.str "room")) (lCons (eC (.int (1))) lNil))) (lCons (eVar 8) lNil))) lNil)) lNil))) (eVar 3)))
      (sRet (eC (.bl false)))
      sNil)) [.sh (.scr ns), .sh (.ref 0), .sh (.int 11), .sh (.bl false), .ow (.lst [.tup [.int 0, .int 1], .tup [.int 0, .int 2], .tup [.int 0, .int 3], .tup [.int 0, .int 4], .tup [.int 0, .int 5], .tup [.int 0, .int 6], .tup [.int 1, .int 2], .tup [.int 1, .int 3], .tup [.int 1, .int 4], .tup [.int 1, .int 5], .tup [.int 1, .int 6], .tup [.int 2, .int 3], .tup [.int 2, .int 4], .tup [.int 2, .int 5], .tup [.int 2, .int 6], .tup [.int 3, .int 4], .tup [.int 3, .int 5], .tup [.int 3, .int 6], .tup [.int 4, .int 5], .tup [.int 4, .int 6], .tup [.int 5, .int 6]]), .sh (.int 6), .sh lineD, .ow (.lst [.tup [.tup [.str "room", .int 1], .str "#.#"], .tup [.tup [.str "room", .int 2], .str "#.##"], .tup [.tup [.str "room", .int 3], .str "#.###"], .tup [.tup [.str "room", .int 4], .str "#."], .tup [.tup [.str "room", .int 5], .str "#.#"], .tup [.tup [.str "room", .int 6], .str "#.##"], .tup [.tup [.str "room", .int 7], .str "#.###"], .tup [.tup [.str "room", .int 8], .str "#."], .tup [.tup [.str "room", .int 9], .str "#.#"], .tup [.tup [.str "room", .int 1], .str "."], .tup [.tup [.str "room", .int 2], .str "."], .tup [.tup [.str "room", .int 3], .str "."], .tup [.tup [.str "room", .int 4], .str "."]]), .no, .no, .no] [.lst []] = .ok (.nx [.sh (.scr ns), .sh (.ref 0), .sh (.int 11), .sh (.bl false), .ow (.lst [.tup [.int 0, .int 1], .tup [.int 0, .int 2], .tup [.int 0, .int 3], .tup [.int 0, .int 4], .tup [.int 0, .int 5], .tup [.int 0, .int 6], .tup [.int 1, .int 2], .tup [.int 1, .int 3], .tup [.int 1, .int 4], .tup [.int 1, .int 5], .tup [.int 1, .int 6], .tup [.int 2, .int 3], .tup [.int 2, .int 4], .tup [.int 2, .int 5], .tup [.int 2, .int 6], .tup [.int 3, .int 4], .tup [.int 3, .int 5], .tup [.int 3, .int 6], .tup [.int 4, .int 5], .tup [.int 4, .int 6], .tup [.int 5, .int 6]]), .sh (.int 6), .sh lineD, .ow (.lst [.tup [.tup [.str "room", .int 1], .str "#.#"], .tup [.tup [.str "room", .int 2], .str "#.##"], .tup [.tup [.str "room", .int 3], .str "#.###"], .tup [.tup [.str "room", .int 4], .str "#."], .tup [.tup [.str "room", .int 5], .str "#.#"], .tup [.tup [.str "room", .int 6], .str "#.##"], .tup [.tup [.str "room", .int 7], .str "#.###"], .tup [.tup [.str "room", .int 8], .str "#."], .tup [.tup [.str "room", .int 9], .str "#.#"], .tup [.tup [.str "room", .int 1], .str "."], .tup [.tup [.str "room", .int 2], .str "."], .tup [.tup [.str "room", .int 3], .str "."], .tup [.tup [.str "room", .int 4], .str "."]]), .sh (.str "x"), .no, .no]) [.lst []] := by kernel_rfl
theorem law_ev (ns : List Int) : ∃ s, m_law [.scr ns] [] = .ok ⟨.cl, .bl true⟩ s := by
  have w := ways_ev ns
  rw [q_law_ways] at w
  refine ⟨s3, ?_⟩
  rw [q_law]
  have hb : ((sSeq (sMov 1 (sAsg 1 (eLst lNil)))
  (sSeq (sFor (iAny (eTup (lCons (eTup (lCons (eC (.int (1))) (lCons (eC (.bl false)) lNil))) (lCons (eTup (lCons (eC (.int (2))) (lCons (eC (.bl true)) lNil))) (lCons (eTup (lCons (eC (.int (10))) (lCons (eC (.bl true)) lNil))) (lCons (eTup (lCons (eC (.int (11))) (lCons (eC (.bl false)) lNil))) lNil)))))) (gT (gsCons (gN 2) (gsCons (gN 3) gsNil)))
    (sIf (tOf (eOp opNe (eCall u_is_house (lCons (eTup (lCons (eVar 2) (lCons (eTup lNil) lNil))) lNil)) (eVar 3)))
      (sRet (eC (.bl false)))
      sNil))
  (sSeq (sAsg 4 (eLst lNil))
  (sSeq (sFor (iRange (lCons (eC (.int (7))) lNil)) (gN 5)
    (sExt 4 (eComp [10] (iRange (lCons (eOp opAdd (eVar 5) (eC (.int (1)))) (lCons (eC (.int (7))) lNil))) (gN 10) tT (eTup (lCons (eVar 5) (lCons (eVar 10) lNil))))))
  (sSeq (sIf (tOr (tOf (eOp opNe (eCall u_is_house (lCons (eTup (lCons (eC (.int (7))) (lCons (eB bTuple (lCons (eSl (eVar 4) oNone (oSome (eC (.int (20))))) lNil)) lNil))) lNil)) (eC (.bl true)))) (tOf (eOp opNe (eCall u_is_house (lCons (eTup (lCons (eC (.int (7))) (lCons (eB bTuple (lCons (eSl (eVar 4) oNone (oSome (eC (.int (21))))) lNil)) lNil))) lNil)) (eC (.bl false)))))
    (sRet (eC (.bl false)))
    sNil)
  (sSeq (sAsg 6 (eCall u_law_line (lCons (eC (.int (10))) lNil)))
  (sSeq (sAsg 7 (eComp [9] (iRange (lCons (eC (.int (1))) (lCons (eC (.int (10))) lNil))) (gN 9) tT (eTup (lCons (eTup (lCons (eC (.str "room")) (lCons (eVar 9) lNil))) (lCons (eOp opAdd (eC (.str "#.")) (eOp opMul (eC (.str "#")) (eOp opMod (eVar 9) (eC (.int (4)))))) lNil)))))
  (sSeq (sExt 7 (eComp [9] (iRange (lCons (eC (.int (1))) (lCons (eC (.int (5))) lNil))) (gN 9) tT (eTup (lCons (eTup (lCons (eC (.str "room")) (lCons (eVar 9) lNil))) (lCons (eC (.str ".")) lNil)))))
  (sSeq (sIf (tOr (tOf (eOp opNe (eCall u_are_watchers (lCons (eVar 6) (lCons (eB bTuple (lCons (eB bSortK (lCons (eSl (eVar 7) oNone (oSome (eC (.int (12))))) lNil)) lNil)) lNil))) (eC (.bl true)))) (tOf (eOp opNe (eCall u_are_watchers (lCons (eVar 6) (lCons (eB bTuple (lCons (eB bSortK (lCons (eVar 7) lNil)) lNil)) lNil))) (eC (.bl false)))))
    (sRet (eC (.bl false)))
    sNil)
  (sSeq (sFor (iAny (eTup (lCons (eTup (lCons (eOp opMul (eC (.str "#")) (eC (.int (6)))) (lCons (eC (.bl true)) lNil))) (lCons (eTup (lCons (eOp opMul (eC (.str "#")) (eC (.int (7)))) (lCons (eC (.bl false)) lNil))) (lCons (eTup (lCons (eC (.str "")) (lCons (eC (.bl false)) lNil))) (lCons (eTup (lCons (eC (.str "x")) (lCons (eC (.bl false)) lNil))) lNil)))))) (gT (gsCons (gN 8) (gsCons (gN 3) gsNil)))
    (sIf (tOf (eOp opNe (eCall u_are_watchers (lCons (eVar 6) (lCons (eTup (lCons (eTup (lCons (eTup (lCons (eC (.str "room")) (lCons (eC (.int (1))) lNil))) (lCons (eVar 8) lNil))) lNil)) lNil))) (eVar 3)))
      (sRet (eC (.bl false)))
      sNil))
  (sRet (eCall u_law_ways (lCons (eVar 0) (lCons (eVar 1) (lCons (eVar 6) lNil)))))))))))))))) [.sh (.scr ns), .no, .no, .no, .no, .no, .no, .no, .no, .no, .no] [] = .ok (.rt ⟨.cl, .bl true⟩) s3 := by
    rw [sqW (st0 ns), sqW (st1 ns), sqW (st2 ns), sqW (st3 ns), sqW (st4 ns), sqW (st5 ns), sqW (st6 ns), sqW (st7 ns), sqW (st8 ns), sqW (st9 ns)]
    generalize lineD = LD at *
    generalize s3 = S3 at *
    simp -implicitDefEqProofs [w]
  unfold u_law
  generalize ((sSeq (sMov 1 (sAsg 1 (eLst lNil)))
  (sSeq (sFor (iAny (eTup (lCons (eTup (lCons (eC (.int (1))) (lCons (eC (.bl false)) lNil))) (lCons (eTup (lCons (eC (.int (2))) (lCons (eC (.bl true)) lNil))) (lCons (eTup (lCons (eC (.int (10))) (lCons (eC (.bl true)) lNil))) (lCons (eTup (lCons (eC (.int (11))) (lCons (eC (.bl false)) lNil))) lNil)))))) (gT (gsCons (gN 2) (gsCons (gN 3) gsNil)))
    (sIf (tOf (eOp opNe (eCall u_is_house (lCons (eTup (lCons (eVar 2) (lCons (eTup lNil) lNil))) lNil)) (eVar 3)))
      (sRet (eC (.bl false)))
      sNil))
  (sSeq (sAsg 4 (eLst lNil))
  (sSeq (sFor (iRange (lCons (eC (.int (7))) lNil)) (gN 5)
    (sExt 4 (eComp [10] (iRange (lCons (eOp opAdd (eVar 5) (eC (.int (1)))) (lCons (eC (.int (7))) lNil))) (gN 10) tT (eTup (lCons (eVar 5) (lCons (eVar 10) lNil))))))
  (sSeq (sIf (tOr (tOf (eOp opNe (eCall u_is_house (lCons (eTup (lCons (eC (.int (7))) (lCons (eB bTuple (lCons (eSl (eVar 4) oNone (oSome (eC (.int (20))))) lNil)) lNil))) lNil)) (eC (.bl true)))) (tOf (eOp opNe (eCall u_is_house (lCons (eTup (lCons (eC (.int (7))) (lCons (eB bTuple (lCons (eSl (eVar 4) oNone (oSome (eC (.int (21))))) lNil)) lNil))) lNil)) (eC (.bl false)))))
    (sRet (eC (.bl false)))
    sNil)
  (sSeq (sAsg 6 (eCall u_law_line (lCons (eC (.int (10))) lNil)))
  (sSeq (sAsg 7 (eComp [9] (iRange (lCons (eC (.int (1))) (lCons (eC (.int (10))) lNil))) (gN 9) tT (eTup (lCons (eTup (lCons (eC (.str "room")) (lCons (eVar 9) lNil))) (lCons (eOp opAdd (eC (.str "#.")) (eOp opMul (eC (.str "#")) (eOp opMod (eVar 9) (eC (.int (4)))))) lNil)))))
  (sSeq (sExt 7 (eComp [9] (iRange (lCons (eC (.int (1))) (lCons (eC (.int (5))) lNil))) (gN 9) tT (eTup (lCons (eTup (lCons (eC (.str "room")) (lCons (eVar 9) lNil))) (lCons (eC (.str ".")) lNil)))))
  (sSeq (sIf (tOr (tOf (eOp opNe (eCall u_are_watchers (lCons (eVar 6) (lCons (eB bTuple (lCons (eB bSortK (lCons (eSl (eVar 7) oNone (oSome (eC (.int (12))))) lNil)) lNil)) lNil))) (eC (.bl true)))) (tOf (eOp opNe (eCall u_are_watchers (lCons (eVar 6) (lCons (eB bTuple (lCons (eB bSortK (lCons (eVar 7) lNil)) lNil)) lNil))) (eC (.bl false)))))
    (sRet (eC (.bl false)))
    sNil)
  (sSeq (sFor (iAny (eTup (lCons (eTup (lCons (eOp opMul (eC (.str "#")) (eC (.int (6)))) (lCons (eC (.bl true)) lNil))) (lCons (eTup (lCons (eOp opMul (eC (.str "#")) (eC (.int (7)))) (lCons (eC (.bl false)) lNil))) (lCons (eTup (lCons (eC (.str "")) (lCons (eC (.bl false)) lNil))) (lCons (eTup (lCons (eC (.str "x")) (lCons (eC (.bl false)) lNil))) lNil)))))) (gT (gsCons (gN 8) (gsCons (gN 3) gsNil)))
    (sIf (tOf (eOp opNe (eCall u_are_watchers (lCons (eVar 6) (lCons (eTup (lCons (eTup (lCons (eTup (lCons (eC (.str "room")) (lCons (eC (.int (1))) lNil))) (lCons (eVar 8) lNil))) lNil)) lNil))) (eVar 3)))
      (sRet (eC (.bl false)))
      sNil))
  (sRet (eCall u_law_ways (lCons (eVar 0) (lCons (eVar 1) (lCons (eVar 6) lNil)))))))))))))))) = BODY at hb ⊢
  simp -implicitDefEqProofs [startD, hb]
end Q13
namespace Q13
open PySem PySem.Spec PyProof.Rows L2 UW
def d_is_whole : He.DefD := ⟨("is_whole", none), "is_whole", "is_whole", defArgs s_is_whole, defBody s_is_whole, defScope s_is_whole, [], []⟩
def d_is_rising : He.DefD := ⟨("is_rising", none), "is_rising", "is_rising", defArgs s_is_rising, defBody s_is_rising, defScope s_is_rising, [], []⟩
def d_is_door : He.DefD := ⟨("is_door", none), "is_door", "is_door", defArgs s_is_door, defBody s_is_door, defScope s_is_door, [], []⟩
def d_is_house : He.DefD := ⟨("is_house", none), "is_house", "is_house", defArgs s_is_house, defBody s_is_house, defScope s_is_house, [], []⟩
def d_need_house : He.DefD := ⟨("need_house", none), "need_house", "need_house", defArgs s_need_house, defBody s_need_house, defScope s_need_house, [], []⟩
def d_all_spots : He.DefD := ⟨("all_spots", none), "all_spots", "all_spots", defArgs s_all_spots, defBody s_all_spots, defScope s_all_spots, [], []⟩
def d_is_spot : He.DefD := ⟨("is_spot", none), "is_spot", "is_spot", defArgs s_is_spot, defBody s_is_spot, defScope s_is_spot, [], []⟩
def d_is_watcher : He.DefD := ⟨("is_watcher", none), "is_watcher", "is_watcher", defArgs s_is_watcher, defBody s_is_watcher, defScope s_is_watcher, [], []⟩
def d_are_watching : He.DefD := ⟨("are_watching", none), "are_watching", "are_watching", defArgs s_are_watching, defBody s_are_watching, defScope s_are_watching, [], []⟩
def d_are_watchers : He.DefD := ⟨("are_watchers", none), "are_watchers", "are_watchers", defArgs s_are_watchers, defBody s_are_watchers, defScope s_are_watchers, [], []⟩
def d_need_watchers : He.DefD := ⟨("need_watchers", none), "need_watchers", "need_watchers", defArgs s_need_watchers, defBody s_need_watchers, defScope s_need_watchers, [], []⟩
def d_need_goal : He.DefD := ⟨("need_goal", none), "need_goal", "need_goal", defArgs s_need_goal, defBody s_need_goal, defScope s_need_goal, [], []⟩
def d_beside : He.DefD := ⟨("beside", none), "beside", "beside", defArgs s_beside, defBody s_beside, defScope s_beside, [], []⟩
def d_far_from : He.DefD := ⟨("far_from", none), "far_from", "far_from", defArgs s_far_from, defBody s_far_from, defScope s_far_from, [], []⟩
def d_sees : He.DefD := ⟨("sees", none), "sees", "sees", defArgs s_sees, defBody s_sees, defScope s_sees, [], []⟩
def d_door_of : He.DefD := ⟨("door_of", none), "door_of", "door_of", defArgs s_door_of, defBody s_door_of, defScope s_door_of, [], []⟩
def d_seers : He.DefD := ⟨("seers", none), "seers", "seers", defArgs s_seers, defBody s_seers, defScope s_seers, [], []⟩
def d_is_way : He.DefD := ⟨("is_way", none), "is_way", "is_way", defArgs s_is_way, defBody s_is_way, defScope s_is_way, [], []⟩
def d_seen : He.DefD := ⟨("seen", none), "seen", "seen", defArgs s_seen, defBody s_seen, defScope s_seen, [], []⟩
def d_steps_from : He.DefD := ⟨("steps_from", none), "steps_from", "steps_from", defArgs s_steps_from, defBody s_steps_from, defScope s_steps_from, [], []⟩
def d_ways_by_beat : He.DefD := ⟨("ways_by_beat", none), "ways_by_beat", "ways_by_beat", defArgs s_ways_by_beat, defBody s_ways_by_beat, defScope s_ways_by_beat, [], []⟩
def d_open_rooms : He.DefD := ⟨("open_rooms", none), "open_rooms", "open_rooms", defArgs s_open_rooms, defBody s_open_rooms, defScope s_open_rooms, [], []⟩
def d_need_all : He.DefD := ⟨("need_all", none), "need_all", "need_all", defArgs s_need_all, defBody s_need_all, defScope s_need_all, [], []⟩
def d_unseen : He.DefD := ⟨("unseen", none), "unseen", "unseen", defArgs s_unseen, defBody s_unseen, defScope s_unseen, [], []⟩
def d_paper : He.DefD := ⟨("paper", none), "paper", "paper", defArgs s_paper, defBody s_paper, defScope s_paper, [], []⟩
def d_are_rooms : He.DefD := ⟨("are_rooms", none), "are_rooms", "are_rooms", defArgs s_are_rooms, defBody s_are_rooms, defScope s_are_rooms, [], []⟩
def d_is_paper : He.DefD := ⟨("is_paper", none), "is_paper", "is_paper", defArgs s_is_paper, defBody s_is_paper, defScope s_is_paper, [], []⟩
def d_links_of : He.DefD := ⟨("links_of", none), "links_of", "links_of", defArgs s_links_of, defBody s_links_of, defScope s_links_of, [], []⟩
def d_led_from : He.DefD := ⟨("led_from", none), "led_from", "led_from", defArgs s_led_from, defBody s_led_from, defScope s_led_from, [], []⟩
def d_send : He.DefD := ⟨("send", none), "send", "send", defArgs s_send, defBody s_send, defScope s_send, [], []⟩
def d_filled : He.DefD := ⟨("filled", none), "filled", "filled", defArgs s_filled, defBody s_filled, defScope s_filled, [], []⟩
def d_fewest_spots : He.DefD := ⟨("fewest_spots", none), "fewest_spots", "fewest_spots", defArgs s_fewest_spots, defBody s_fewest_spots, defScope s_fewest_spots, [], []⟩
def d_delays : He.DefD := ⟨("delays", none), "delays", "delays", defArgs s_delays, defBody s_delays, defScope s_delays, [], []⟩
def d_next_rows : He.DefD := ⟨("next_rows", none), "next_rows", "next_rows", defArgs s_next_rows, defBody s_next_rows, defScope s_next_rows, [], []⟩
def d_seen_by_one : He.DefD := ⟨("seen_by_one", none), "seen_by_one", "seen_by_one", defArgs s_seen_by_one, defBody s_seen_by_one, defScope s_seen_by_one, [], []⟩
def d_parted : He.DefD := ⟨("parted", none), "parted", "parted", defArgs s_parted, defBody s_parted, defScope s_parted, [], []⟩
def d_law_cell_at : He.DefD := ⟨("_law_cell_at", none), "_law_cell_at", "_law_cell_at", defArgs s_law_cell_at, defBody s_law_cell_at, defScope s_law_cell_at, [], []⟩
def d_law_mixed : He.DefD := ⟨("_law_mixed", none), "_law_mixed", "_law_mixed", defArgs s_law_mixed, defBody s_law_mixed, defScope s_law_mixed, [], []⟩
def d_law_draw : He.DefD := ⟨("_law_draw", none), "_law_draw", "_law_draw", defArgs s_law_draw, defBody s_law_draw, defScope s_law_draw, [], []⟩
def d_law_which : He.DefD := ⟨("_law_which", none), "_law_which", "_law_which", defArgs s_law_which, defBody s_law_which, defScope s_law_which, [], []⟩
def d_law_ask : He.DefD := ⟨("_law_ask", none), "_law_ask", "_law_ask", defArgs s_law_ask, defBody s_law_ask, defScope s_law_ask, [], []⟩
def d_law_line : He.DefD := ⟨("_law_line", none), "_law_line", "_law_line", defArgs s_law_line, defBody s_law_line, defScope s_law_line, [], []⟩
def d_law_ways : He.DefD := ⟨("_law_ways", none), "_law_ways", "_law_ways", defArgs s_law_ways, defBody s_law_ways, defScope s_law_ways, [], []⟩
def d_law : He.DefD := ⟨("law", none), "law", "law", defArgs s_law, defBody s_law, defScope s_law, [], []⟩
def fn : List He.DefD := [d_is_whole, d_is_rising, d_is_door, d_is_house, d_need_house, d_all_spots, d_is_spot, d_is_watcher, d_are_watching, d_are_watchers, d_need_watchers, d_need_goal, d_beside, d_far_from, d_sees, d_door_of, d_seers, d_is_way, d_seen, d_steps_from, d_ways_by_beat, d_open_rooms, d_need_all, d_unseen, d_paper, d_are_rooms, d_is_paper, d_links_of, d_led_from, d_send, d_filled, d_fewest_spots, d_delays, d_next_rows, d_seen_by_one, d_parted, d_law_cell_at, d_law_mixed, d_law_draw, d_law_which, d_law_ask, d_law_line, d_law_ways, d_law]
def glos : List Str := (["WayError", "NoHouse", "NoWatchers", "NoGoal", "NoWay", "NoCount", "NoPaper", "NoRoom", "Never", "NoText", "Nothing", "is_whole", "is_rising", "is_door", "is_house", "need_house", "all_spots", "is_spot", "is_watcher", "are_watching", "are_watchers", "need_watchers", "need_goal", "beside", "far_from", "sees", "door_of", "seers", "is_way", "seen"] : List Str) ++ (["steps_from", "ways_by_beat", "open_rooms", "need_all", "unseen", "paper", "are_rooms", "is_paper", "links_of", "led_from", "send", "filled", "fewest_spots", "delays", "next_rows", "seen_by_one", "parted", "_law_cell_at", "_law_mixed", "_law_draw", "_law_which", "_law_ask", "_law_line", "_law_ways", "law"] : List Str)
def fa : List He.Fa := glos.map .glo ++ (blt.map .free ++ (gis.map (fun p => .int p.1 p.2) ++ (gss.map (fun p => .str p.1 p.2) ++ (excs.map .exc ++ excs.map fun x => .exm x "WayError" true))))
def loose : List Str := (["WayError", "NoHouse", "NoWatchers", "NoGoal", "NoWay", "NoCount", "NoPaper", "NoRoom", "Never", "NoText", "Nothing", "ROOMS", "DOORS", "WATCHERS", "BEATS", "is_whole", "is_rising", "is_door", "is_house", "need_house", "all_spots", "is_spot", "is_watcher", "are_watching", "are_watchers", "need_watchers", "need_goal", "beside", "far_from", "LONG"] : List Str) ++ (["MANY", "sees", "door_of", "seers", "is_way", "seen", "steps_from", "ways_by_beat", "open_rooms", "need_all", "unseen", "paper", "are_rooms", "is_paper", "MOST", "links_of", "led_from", "send", "filled", "fewest_spots", "delays", "next_rows", "seen_by_one", "parted", "_law_cell_at", "_law_mixed", "_law_draw", "_law_which", "_law_ask", "_law_line"] : List Str) ++ (["_law_ways"] : List Str)
theorem in_glo {x : Str} (h : glos.contains x = true) : He.Fa.glo x ∈ fa := List.mem_append_left _ (List.mem_map_of_mem (List.contains_iff_mem.mp h))
abbrev R : PySem.W.OpenRow := PySem.W.OpenLaw.row PySem.Challenge.rw_unseenways_k13_whole_at_bounds
abbrev hk : PySem.W.Hook := hookU 4 fa fn (exAll excs excs)
def ob (s : PySem.W.SharedT) : AlU := obsU 4 fa fn (exAll excs excs) (HandSHeadRun.getT s)
theorem ob_eq (s : PySem.W.SharedT) : ob s = hk.obs s.abs := obsU_eq (HandSHeadRun.getT_eq s)
theorem run (w : World) : HandSHeadRun.RunEq R (PySem.W.view R.prog [67]) hk ob 4000 loose w := by
  intro os
  kernel_rfl
section
variable {P : Program} {w : World} {K : PySem.W.Frag} {h base : Heap} {mg : Str → Option Value} (X : K.In h) (G : h.Ns mainGlobals mg) (c : He.SaysD fa fn K) (ex : exAll excs excs K = true)
include X G c
theorem gl {x : Str} (e : glos.contains x = true) : mg x = some (.ref (He.ga K x)) := He.glo_ok X G (says_mem c (in_glo e))
theorem globs : Glob K mg gis gss excs := by
  refine glob_of X G c gis gss excs (fun p hp => ?_) (fun p hp => ?_) (fun y hy => ?_) (fun y hy => ⟨?_, ?_⟩)
  · exact List.mem_append_right _ (List.mem_append_right _ (List.mem_append_left _ (List.mem_map.mpr ⟨p, hp, rfl⟩)))
  · exact List.mem_append_right _ (List.mem_append_right _ (List.mem_append_right _ (List.mem_append_left _ (List.mem_map.mpr ⟨p, hp, rfl⟩))))
  · exact List.mem_append_right _ (List.mem_append_left _ (List.mem_map.mpr ⟨y, hy, rfl⟩))
  · refine in_glo (List.contains_iff_mem.mpr ?_)
    have z : ∀ y, y ∈ excs → glos.contains y = true := by decide +kernel
    exact List.contains_iff_mem.mp (z y hy)
  · exact List.mem_append_right _ (List.mem_append_right _ (List.mem_append_right _ (List.mem_append_right _ (List.mem_append_left _ (List.mem_map.mpr ⟨y, hy, rfl⟩)))))
theorem globsW : Glob K mg gis gss [] := ⟨(globs X G c).gi, (globs X G c).gs, (globs X G c).free, fun y hy => by cases hy⟩

include ex in
theorem kn_is_whole : Kn P w K mg base 1 "is_whole" 3 m_is_whole := by
  obtain ⟨fd, F⟩ := c.def_ 0 (d := d_is_whole) rfl
  have b : Binds K fd ["thing", "low", "most"] [] := F.bindsN fun _ _ _ _ _ _ us hl => match us, hl with | [_, _, _], _ => rfl
  have z : Kn P w K mg base 1 "is_whole" 3 (runFn c_is_whole.N (trS 30 c_is_whole (defBody s_is_whole))) := def_ok (k := 0) (c := c_is_whole) F (gl X G c (by decide +kernel)) b (by decide +kernel) rfl rfl (globs X G c) (tbl_ok (t := fns_is_whole) trivial) (fun y g F e => by cases e)
  rw [tr_is_whole] at z
  exact z

include ex in
theorem kn_is_rising : Kn P w K mg base 1 "is_rising" 1 m_is_rising := by
  obtain ⟨fd, F⟩ := c.def_ 1 (d := d_is_rising) rfl
  have b : Binds K fd ["thing"] [] := F.bindsN fun _ _ _ _ _ _ us hl => match us, hl with | [_], _ => rfl
  have z : Kn P w K mg base 1 "is_rising" 1 (runFn c_is_rising.N (trS 30 c_is_rising (defBody s_is_rising))) := def_ok (k := 0) (c := c_is_rising) F (gl X G c (by decide +kernel)) b (by decide +kernel) rfl rfl (globs X G c) (tbl_ok (t := fns_is_rising) trivial) (fun y g F e => by cases e)
  rw [tr_is_rising] at z
  exact z

include ex in
theorem kn_is_door : Kn P w K mg base 2 "is_door" 2 m_is_door := by
  obtain ⟨fd, F⟩ := c.def_ 2 (d := d_is_door) rfl
  have b : Binds K fd ["rooms", "thing"] [] := F.bindsN fun _ _ _ _ _ _ us hl => match us, hl with | [_, _], _ => rfl
  have z : Kn P w K mg base 2 "is_door" 2 (runFn c_is_door.N (trS 30 c_is_door (defBody s_is_door))) := def_ok (k := 1) (c := c_is_door) F (gl X G c (by decide +kernel)) b (by decide +kernel) rfl rfl (globs X G c) (tbl_ok (t := fns_is_door) ⟨(kn_is_whole X G c ex).mono (by decide), trivial⟩) (fun y g F e => by cases e)
  rw [tr_is_door] at z
  exact z

include ex in
theorem kn_is_house : Kn P w K mg base 3 "is_house" 1 m_is_house := by
  obtain ⟨fd, F⟩ := c.def_ 3 (d := d_is_house) rfl
  have b : Binds K fd ["thing"] [] := F.bindsN fun _ _ _ _ _ _ us hl => match us, hl with | [_], _ => rfl
  have z : Kn P w K mg base 3 "is_house" 1 (runFn c_is_house.N (trS 30 c_is_house (defBody s_is_house))) := def_ok (k := 2) (c := c_is_house) F (gl X G c (by decide +kernel)) b (by decide +kernel) rfl rfl (globs X G c) (tbl_ok (t := fns_is_house) ⟨(kn_is_rising X G c ex).mono (by decide), ⟨(kn_is_whole X G c ex).mono (by decide), ⟨(kn_is_door X G c ex).mono (by decide), trivial⟩⟩⟩) (fun y g F e => by cases e)
  rw [tr_is_house] at z
  exact z

include ex in
theorem kn_need_house : Kn P w K mg base 4 "need_house" 1 m_need_house := by
  obtain ⟨fd, F⟩ := c.def_ 4 (d := d_need_house) rfl
  have b : Binds K fd ["thing"] [] := F.bindsN fun _ _ _ _ _ _ us hl => match us, hl with | [_], _ => rfl
  have z : Kn P w K mg base 4 "need_house" 1 (runFn c_need_house.N (trS 30 c_need_house (defBody s_need_house))) := def_ok (k := 3) (c := c_need_house) F (gl X G c (by decide +kernel)) b (by decide +kernel) rfl rfl (globs X G c) (tbl_ok (t := fns_need_house) ⟨(kn_is_house X G c ex).mono (by decide), trivial⟩) (fun y g F e => by cases e)
  rw [tr_need_house] at z
  exact z

include ex in
theorem kn_all_spots : Kn P w K mg base 1 "all_spots" 1 m_all_spots := by
  obtain ⟨fd, F⟩ := c.def_ 5 (d := d_all_spots) rfl
  have b : Binds K fd ["house"] [] := F.bindsN fun _ _ _ _ _ _ us hl => match us, hl with | [_], _ => rfl
  have z : Kn P w K mg base 1 "all_spots" 1 (runFn c_all_spots.N (trS 30 c_all_spots (defBody s_all_spots))) := def_ok (k := 0) (c := c_all_spots) F (gl X G c (by decide +kernel)) b (by decide +kernel) rfl rfl (globs X G c) (tbl_ok (t := fns_all_spots) trivial) (fun y g F e => by cases e)
  rw [tr_all_spots] at z
  exact z

include ex in
theorem kn_is_spot : Kn P w K mg base 2 "is_spot" 2 m_is_spot := by
  obtain ⟨fd, F⟩ := c.def_ 6 (d := d_is_spot) rfl
  have b : Binds K fd ["house", "thing"] [] := F.bindsN fun _ _ _ _ _ _ us hl => match us, hl with | [_, _], _ => rfl
  have z : Kn P w K mg base 2 "is_spot" 2 (runFn c_is_spot.N (trS 30 c_is_spot (defBody s_is_spot))) := def_ok (k := 1) (c := c_is_spot) F (gl X G c (by decide +kernel)) b (by decide +kernel) rfl rfl (globs X G c) (tbl_ok (t := fns_is_spot) ⟨(kn_all_spots X G c ex).mono (by decide), ⟨(kn_is_whole X G c ex).mono (by decide), trivial⟩⟩) (fun y g F e => by cases e)
  rw [tr_is_spot] at z
  exact z

include ex in
theorem kn_is_watcher : Kn P w K mg base 3 "is_watcher" 2 m_is_watcher := by
  obtain ⟨fd, F⟩ := c.def_ 7 (d := d_is_watcher) rfl
  have b : Binds K fd ["house", "thing"] [] := F.bindsN fun _ _ _ _ _ _ us hl => match us, hl with | [_, _], _ => rfl
  have z : Kn P w K mg base 3 "is_watcher" 2 (runFn c_is_watcher.N (trS 30 c_is_watcher (defBody s_is_watcher))) := def_ok (k := 2) (c := c_is_watcher) F (gl X G c (by decide +kernel)) b (by decide +kernel) rfl rfl (globs X G c) (tbl_ok (t := fns_is_watcher) ⟨(kn_is_spot X G c ex).mono (by decide), trivial⟩) (fun y g F e => by cases e)
  rw [tr_is_watcher] at z
  exact z

include ex in
theorem kn_are_watching : Kn P w K mg base 4 "are_watching" 2 m_are_watching := by
  obtain ⟨fd, F⟩ := c.def_ 8 (d := d_are_watching) rfl
  have b : Binds K fd ["house", "thing"] [] := F.bindsN fun _ _ _ _ _ _ us hl => match us, hl with | [_, _], _ => rfl
  have z : Kn P w K mg base 4 "are_watching" 2 (runFn c_are_watching.N (trS 30 c_are_watching (defBody s_are_watching))) := def_ok (k := 3) (c := c_are_watching) F (gl X G c (by decide +kernel)) b (by decide +kernel) rfl rfl (globs X G c) (tbl_ok (t := fns_are_watching) ⟨(kn_is_rising X G c ex).mono (by decide), ⟨(kn_is_watcher X G c ex).mono (by decide), trivial⟩⟩) (fun y g F e => by cases e)
  rw [tr_are_watching] at z
  exact z

include ex in
theorem kn_are_watchers : Kn P w K mg base 5 "are_watchers" 2 m_are_watchers := by
  obtain ⟨fd, F⟩ := c.def_ 9 (d := d_are_watchers) rfl
  have b : Binds K fd ["house", "thing"] [] := F.bindsN fun _ _ _ _ _ _ us hl => match us, hl with | [_, _], _ => rfl
  have z : Kn P w K mg base 5 "are_watchers" 2 (runFn c_are_watchers.N (trS 30 c_are_watchers (defBody s_are_watchers))) := def_ok (k := 4) (c := c_are_watchers) F (gl X G c (by decide +kernel)) b (by decide +kernel) rfl rfl (globs X G c) (tbl_ok (t := fns_are_watchers) ⟨(kn_need_house X G c ex).mono (by decide), ⟨(kn_are_watching X G c ex).mono (by decide), trivial⟩⟩) (fun y g F e => by cases e)
  rw [tr_are_watchers] at z
  exact z

include ex in
theorem kn_need_watchers : Kn P w K mg base 5 "need_watchers" 2 m_need_watchers := by
  obtain ⟨fd, F⟩ := c.def_ 10 (d := d_need_watchers) rfl
  have b : Binds K fd ["house", "thing"] [] := F.bindsN fun _ _ _ _ _ _ us hl => match us, hl with | [_, _], _ => rfl
  have z : Kn P w K mg base 5 "need_watchers" 2 (runFn c_need_watchers.N (trS 30 c_need_watchers (defBody s_need_watchers))) := def_ok (k := 4) (c := c_need_watchers) F (gl X G c (by decide +kernel)) b (by decide +kernel) rfl rfl (globs X G c) (tbl_ok (t := fns_need_watchers) ⟨(kn_need_house X G c ex).mono (by decide), ⟨(kn_are_watching X G c ex).mono (by decide), trivial⟩⟩) (fun y g F e => by cases e)
  rw [tr_need_watchers] at z
  exact z

include ex in
theorem kn_need_goal : Kn P w K mg base 2 "need_goal" 2 m_need_goal := by
  obtain ⟨fd, F⟩ := c.def_ 11 (d := d_need_goal) rfl
  have b : Binds K fd ["house", "thing"] [] := F.bindsN fun _ _ _ _ _ _ us hl => match us, hl with | [_, _], _ => rfl
  have z : Kn P w K mg base 2 "need_goal" 2 (runFn c_need_goal.N (trS 30 c_need_goal (defBody s_need_goal))) := def_ok (k := 1) (c := c_need_goal) F (gl X G c (by decide +kernel)) b (by decide +kernel) rfl rfl (globs X G c) (tbl_ok (t := fns_need_goal) ⟨(kn_is_whole X G c ex).mono (by decide), trivial⟩) (fun y g F e => by cases e)
  rw [tr_need_goal] at z
  exact z

include ex in
theorem kn_beside : Kn P w K mg base 1 "beside" 2 m_beside := by
  obtain ⟨fd, F⟩ := c.def_ 12 (d := d_beside) rfl
  have b : Binds K fd ["house", "room"] [] := F.bindsN fun _ _ _ _ _ _ us hl => match us, hl with | [_, _], _ => rfl
  have z : Kn P w K mg base 1 "beside" 2 (runFn c_beside.N (trS 30 c_beside (defBody s_beside))) := def_ok (k := 0) (c := c_beside) F (gl X G c (by decide +kernel)) b (by decide +kernel) rfl rfl (globs X G c) (tbl_ok (t := fns_beside) trivial) (fun y g F e => by cases e)
  rw [tr_beside] at z
  exact z

include ex in
theorem kn_far_from : Kn P w K mg base 2 "far_from" 2 m_far_from := by
  obtain ⟨fd, F⟩ := c.def_ 13 (d := d_far_from) rfl
  have b : Binds K fd ["house", "one"] [] := F.bindsN fun _ _ _ _ _ _ us hl => match us, hl with | [_, _], _ => rfl
  have z : Kn P w K mg base 2 "far_from" 2 (runFn c_far_from.N (trS 30 c_far_from (defBody s_far_from))) := def_ok (k := 1) (c := c_far_from) F (gl X G c (by decide +kernel)) b (by decide +kernel) rfl rfl (globs X G c) (tbl_ok (t := fns_far_from) ⟨(kn_beside X G c ex).mono (by decide), trivial⟩) (fun y g F e => by cases e)
  rw [tr_far_from] at z
  exact z

include ex in
theorem kn_sees : Kn P w K mg base 1 "sees" 3 m_sees := by
  obtain ⟨fd, F⟩ := c.def_ 14 (d := d_sees) rfl
  have b : Binds K fd ["watcher", "spot", "beat"] [] := F.bindsN fun _ _ _ _ _ _ us hl => match us, hl with | [_, _, _], _ => rfl
  have z : Kn P w K mg base 1 "sees" 3 (runFn c_sees.N (trS 30 c_sees (defBody s_sees))) := def_ok (k := 0) (c := c_sees) F (gl X G c (by decide +kernel)) b (by decide +kernel) rfl rfl (globs X G c) (tbl_ok (t := fns_sees) trivial) (fun y g F e => by cases e)
  rw [tr_sees] at z
  exact z

include ex in
theorem kn_door_of : Kn P w K mg base 1 "door_of" 2 m_door_of := by
  obtain ⟨fd, F⟩ := c.def_ 15 (d := d_door_of) rfl
  have b : Binds K fd ["one", "other"] [] := F.bindsN fun _ _ _ _ _ _ us hl => match us, hl with | [_, _], _ => rfl
  have z : Kn P w K mg base 1 "door_of" 2 (runFn c_door_of.N (trS 30 c_door_of (defBody s_door_of))) := def_ok (k := 0) (c := c_door_of) F (gl X G c (by decide +kernel)) b (by decide +kernel) rfl rfl (globs X G c) (tbl_ok (t := fns_door_of) trivial) (fun y g F e => by cases e)
  rw [tr_door_of] at z
  exact z

include ex in
theorem kn_seers : Kn P w K mg base 2 "seers" 3 m_seers := by
  obtain ⟨fd, F⟩ := c.def_ 16 (d := d_seers) rfl
  have b : Binds K fd ["watchers", "some", "beat"] [] := F.bindsN fun _ _ _ _ _ _ us hl => match us, hl with | [_, _, _], _ => rfl
  have z : Kn P w K mg base 2 "seers" 3 (runFn c_seers.N (trS 30 c_seers (defBody s_seers))) := def_ok (k := 1) (c := c_seers) F (gl X G c (by decide +kernel)) b (by decide +kernel) rfl rfl (globs X G c) (tbl_ok (t := fns_seers) ⟨(kn_sees X G c ex).mono (by decide), trivial⟩) (fun y g F e => by cases e)
  rw [tr_seers] at z
  exact z

include ex in
theorem kn_is_way : Kn P w K mg base 2 "is_way" 2 m_is_way := by
  obtain ⟨fd, F⟩ := c.def_ 17 (d := d_is_way) rfl
  have b : Binds K fd ["house", "thing"] [] := F.bindsN fun _ _ _ _ _ _ us hl => match us, hl with | [_, _], _ => rfl
  have z : Kn P w K mg base 2 "is_way" 2 (runFn c_is_way.N (trS 30 c_is_way (defBody s_is_way))) := def_ok (k := 1) (c := c_is_way) F (gl X G c (by decide +kernel)) b (by decide +kernel) rfl rfl (globs X G c) (tbl_ok (t := fns_is_way) ⟨(kn_is_whole X G c ex).mono (by decide), ⟨(kn_beside X G c ex).mono (by decide), trivial⟩⟩) (fun y g F e => by cases e)
  rw [tr_is_way] at z
  exact z

include ex in
theorem kn_seen : Kn P w K mg base 6 "seen" 3 m_seen := by
  obtain ⟨fd, F⟩ := c.def_ 18 (d := d_seen) rfl
  have b : Binds K fd ["house", "watchers", "way"] [] := F.bindsN fun _ _ _ _ _ _ us hl => match us, hl with | [_, _, _], _ => rfl
  have z : Kn P w K mg base 6 "seen" 3 (runFn c_seen.N (trS 30 c_seen (defBody s_seen))) := def_ok (k := 5) (c := c_seen) F (gl X G c (by decide +kernel)) b (by decide +kernel) rfl rfl (globs X G c) (tbl_ok (t := fns_seen) ⟨(kn_need_watchers X G c ex).mono (by decide), ⟨(kn_is_way X G c ex).mono (by decide), ⟨(kn_door_of X G c ex).mono (by decide), ⟨(kn_seers X G c ex).mono (by decide), trivial⟩⟩⟩⟩) (fun y g F e => by cases e)
  rw [tr_seen] at z
  exact z

include ex in
theorem kn_steps_from : Kn P w K mg base 3 "steps_from" 4 m_steps_from := by
  obtain ⟨fd, F⟩ := c.def_ 19 (d := d_steps_from) rfl
  have b : Binds K fd ["house", "watchers", "room", "beat"] [] := F.bindsN fun _ _ _ _ _ _ us hl => match us, hl with | [_, _, _, _], _ => rfl
  have z : Kn P w K mg base 3 "steps_from" 4 (runFn c_steps_from.N (trS 30 c_steps_from (defBody s_steps_from))) := def_ok (k := 2) (c := c_steps_from) F (gl X G c (by decide +kernel)) b (by decide +kernel) rfl rfl (globs X G c) (tbl_ok (t := fns_steps_from) ⟨(kn_beside X G c ex).mono (by decide), ⟨(kn_seers X G c ex).mono (by decide), ⟨(kn_door_of X G c ex).mono (by decide), trivial⟩⟩⟩) (fun y g F e => by cases e)
  rw [tr_steps_from] at z
  exact z

include ex in
theorem kn_ways_by_beat : Kn P w K mg base 4 "ways_by_beat" 3 m_ways_by_beat := by
  obtain ⟨fd, F⟩ := c.def_ 20 (d := d_ways_by_beat) rfl
  have b : Binds K fd ["house", "watchers", "many"] [] := F.bindsN fun _ _ _ _ _ _ us hl => match us, hl with | [_, _, _], _ => rfl
  have z : Kn P w K mg base 4 "ways_by_beat" 3 (runFn c_ways_by_beat.N (trS 30 c_ways_by_beat (defBody s_ways_by_beat))) := def_ok (k := 3) (c := c_ways_by_beat) F (gl X G c (by decide +kernel)) b (by decide +kernel) rfl rfl (globs X G c) (tbl_ok (t := fns_ways_by_beat) ⟨(kn_steps_from X G c ex).mono (by decide), trivial⟩) (fun y g F e => by cases e)
  rw [tr_ways_by_beat] at z
  exact z

include ex in
theorem kn_open_rooms : Kn P w K mg base 6 "open_rooms" 3 m_open_rooms := by
  obtain ⟨fd, F⟩ := c.def_ 21 (d := d_open_rooms) rfl
  have b : Binds K fd ["house", "watchers", "beat"] [] := F.bindsN fun _ _ _ _ _ _ us hl => match us, hl with | [_, _, _], _ => rfl
  have z : Kn P w K mg base 6 "open_rooms" 3 (runFn c_open_rooms.N (trS 30 c_open_rooms (defBody s_open_rooms))) := def_ok (k := 5) (c := c_open_rooms) F (gl X G c (by decide +kernel)) b (by decide +kernel) rfl rfl (globs X G c) (tbl_ok (t := fns_open_rooms) ⟨(kn_need_watchers X G c ex).mono (by decide), ⟨(kn_is_whole X G c ex).mono (by decide), ⟨(kn_ways_by_beat X G c ex).mono (by decide), trivial⟩⟩⟩) (fun y g F e => by cases e)
  rw [tr_open_rooms] at z
  exact z

include ex in
theorem kn_need_all : Kn P w K mg base 6 "need_all" 4 m_need_all := by
  obtain ⟨fd, F⟩ := c.def_ 22 (d := d_need_all) rfl
  have b : Binds K fd ["house", "watchers", "goal", "many"] [] := F.bindsN fun _ _ _ _ _ _ us hl => match us, hl with | [_, _, _, _], _ => rfl
  have z : Kn P w K mg base 6 "need_all" 4 (runFn c_need_all.N (trS 30 c_need_all (defBody s_need_all))) := def_ok (k := 5) (c := c_need_all) F (gl X G c (by decide +kernel)) b (by decide +kernel) rfl rfl (globs X G c) (tbl_ok (t := fns_need_all) ⟨(kn_need_watchers X G c ex).mono (by decide), ⟨(kn_need_goal X G c ex).mono (by decide), ⟨(kn_is_whole X G c ex).mono (by decide), trivial⟩⟩⟩) (fun y g F e => by cases e)
  rw [tr_need_all] at z
  exact z

include ex in
theorem kn_unseen : Kn P w K mg base 7 "unseen" 4 m_unseen := by
  obtain ⟨fd, F⟩ := c.def_ 23 (d := d_unseen) rfl
  have b : Binds K fd ["house", "watchers", "goal", "many"] [] := F.bindsN fun _ _ _ _ _ _ us hl => match us, hl with | [_, _, _, _], _ => rfl
  have z : Kn P w K mg base 7 "unseen" 4 (runFn c_unseen.N (trS 30 c_unseen (defBody s_unseen))) := def_ok (k := 6) (c := c_unseen) F (gl X G c (by decide +kernel)) b (by decide +kernel) rfl rfl (globs X G c) (tbl_ok (t := fns_unseen) ⟨(kn_need_all X G c ex).mono (by decide), ⟨(kn_ways_by_beat X G c ex).mono (by decide), trivial⟩⟩) (fun y g F e => by cases e)
  rw [tr_unseen] at z
  exact z

include ex in
theorem kn_paper : Kn P w K mg base 7 "paper" 4 m_paper := by
  obtain ⟨fd, F⟩ := c.def_ 24 (d := d_paper) rfl
  have b : Binds K fd ["house", "watchers", "goal", "many"] [] := F.bindsN fun _ _ _ _ _ _ us hl => match us, hl with | [_, _, _, _], _ => rfl
  have z : Kn P w K mg base 7 "paper" 4 (runFn c_paper.N (trS 30 c_paper (defBody s_paper))) := def_ok (k := 6) (c := c_paper) F (gl X G c (by decide +kernel)) b (by decide +kernel) rfl rfl (globs X G c) (tbl_ok (t := fns_paper) ⟨(kn_need_all X G c ex).mono (by decide), ⟨(kn_ways_by_beat X G c ex).mono (by decide), trivial⟩⟩) (fun y g F e => by cases e)
  rw [tr_paper] at z
  exact z

include ex in
theorem kn_are_rooms : Kn P w K mg base 2 "are_rooms" 2 m_are_rooms := by
  obtain ⟨fd, F⟩ := c.def_ 25 (d := d_are_rooms) rfl
  have b : Binds K fd ["house", "thing"] [] := F.bindsN fun _ _ _ _ _ _ us hl => match us, hl with | [_, _], _ => rfl
  have z : Kn P w K mg base 2 "are_rooms" 2 (runFn c_are_rooms.N (trS 30 c_are_rooms (defBody s_are_rooms))) := def_ok (k := 1) (c := c_are_rooms) F (gl X G c (by decide +kernel)) b (by decide +kernel) rfl rfl (globs X G c) (tbl_ok (t := fns_are_rooms) ⟨(kn_is_rising X G c ex).mono (by decide), ⟨(kn_is_whole X G c ex).mono (by decide), trivial⟩⟩) (fun y g F e => by cases e)
  rw [tr_are_rooms] at z
  exact z

include ex in
theorem kn_is_paper : Kn P w K mg base 6 "is_paper" 4 m_is_paper := by
  obtain ⟨fd, F⟩ := c.def_ 26 (d := d_is_paper) rfl
  have b : Binds K fd ["house", "watchers", "goal", "thing"] [] := F.bindsN fun _ _ _ _ _ _ us hl => match us, hl with | [_, _, _, _], _ => rfl
  have z : Kn P w K mg base 6 "is_paper" 4 (runFn c_is_paper.N (trS 30 c_is_paper (defBody s_is_paper))) := def_ok (k := 5) (c := c_is_paper) F (gl X G c (by decide +kernel)) b (by decide +kernel) rfl rfl (globs X G c) (tbl_ok (t := fns_is_paper) ⟨(kn_need_watchers X G c ex).mono (by decide), ⟨(kn_need_goal X G c ex).mono (by decide), ⟨(kn_are_rooms X G c ex).mono (by decide), ⟨(kn_steps_from X G c ex).mono (by decide), trivial⟩⟩⟩⟩) (fun y g F e => by cases e)
  rw [tr_is_paper] at z
  exact z

include ex in
theorem kn_links_of : Kn P w K mg base 1 "links_of" 2 m_links_of := by
  obtain ⟨fd, F⟩ := c.def_ 27 (d := d_links_of) rfl
  have b : Binds K fd ["house", "goal"] [] := F.bindsN fun _ _ _ _ _ _ us hl => match us, hl with | [_, _], _ => rfl
  have z : Kn P w K mg base 1 "links_of" 2 (runFn c_links_of.N (trS 30 c_links_of (defBody s_links_of))) := def_ok (k := 0) (c := c_links_of) F (gl X G c (by decide +kernel)) b (by decide +kernel) rfl rfl (globs X G c) (tbl_ok (t := fns_links_of) trivial) (fun y g F e => by cases e)
  rw [tr_links_of] at z
  exact z

include ex in
theorem kn_led_from : Kn P w K mg base 1 "led_from" 2 m_led_from := by
  obtain ⟨fd, F⟩ := c.def_ 28 (d := d_led_from) rfl
  have b : Binds K fd ["book", "start"] [] := F.bindsN fun _ _ _ _ _ _ us hl => match us, hl with | [_, _], _ => rfl
  have z : Kn P w K mg base 1 "led_from" 2 (runFn c_led_from.N (trS 30 c_led_from (defBody s_led_from))) := def_ok (k := 0) (c := c_led_from) F (gl X G c (by decide +kernel)) b (by decide +kernel) rfl rfl (globs X G c) (tbl_ok (t := fns_led_from) trivial) (fun y g F e => by cases e)
  rw [tr_led_from] at z
  exact z

include ex in
theorem kn_send : Kn P w K mg base 1 "send" 3 m_send := by
  obtain ⟨fd, F⟩ := c.def_ 29 (d := d_send) rfl
  have b : Binds K fd ["book", "found", "goal"] [] := F.bindsN fun _ _ _ _ _ _ us hl => match us, hl with | [_, _, _], _ => rfl
  have z : Kn P w K mg base 1 "send" 3 (runFn c_send.N (trS 30 c_send (defBody s_send))) := def_ok (k := 0) (c := c_send) F (gl X G c (by decide +kernel)) b (by decide +kernel) rfl rfl (globs X G c) (tbl_ok (t := fns_send) trivial) (fun y g F e => by cases e)
  rw [tr_send] at z
  exact z

include ex in
theorem kn_filled : Kn P w K mg base 2 "filled" 2 m_filled := by
  obtain ⟨fd, F⟩ := c.def_ 30 (d := d_filled) rfl
  have b : Binds K fd ["house", "goal"] [] := F.bindsN fun _ _ _ _ _ _ us hl => match us, hl with | [_, _], _ => rfl
  have z : Kn P w K mg base 2 "filled" 2 (runFn c_filled.N (trS 30 c_filled (defBody s_filled))) := def_ok (k := 1) (c := c_filled) F (gl X G c (by decide +kernel)) b (by decide +kernel) rfl rfl (globs X G c) (tbl_ok (t := fns_filled) ⟨(kn_links_of X G c ex).mono (by decide), ⟨(kn_led_from X G c ex).mono (by decide), ⟨(kn_send X G c ex).mono (by decide), trivial⟩⟩⟩) (fun y g F e => by cases e)
  rw [tr_filled] at z
  exact z

include ex in
theorem kn_fewest_spots : Kn P w K mg base 5 "fewest_spots" 2 m_fewest_spots := by
  obtain ⟨fd, F⟩ := c.def_ 31 (d := d_fewest_spots) rfl
  have b : Binds K fd ["house", "goal"] [] := F.bindsN fun _ _ _ _ _ _ us hl => match us, hl with | [_, _], _ => rfl
  have z : Kn P w K mg base 5 "fewest_spots" 2 (runFn c_fewest_spots.N (trS 30 c_fewest_spots (defBody s_fewest_spots))) := def_ok (k := 4) (c := c_fewest_spots) F (gl X G c (by decide +kernel)) b (by decide +kernel) rfl rfl (globs X G c) (tbl_ok (t := fns_fewest_spots) ⟨(kn_need_house X G c ex).mono (by decide), ⟨(kn_need_goal X G c ex).mono (by decide), ⟨(kn_led_from X G c ex).mono (by decide), ⟨(kn_filled X G c ex).mono (by decide), trivial⟩⟩⟩⟩) (fun y g F e => by cases e)
  rw [tr_fewest_spots] at z
  exact z

include ex in
theorem kn_delays : Kn P w K mg base 5 "delays" 4 m_delays := by
  obtain ⟨fd, F⟩ := c.def_ 32 (d := d_delays) rfl
  have b : Binds K fd ["house", "entry", "panel", "goal"] [] := F.bindsN fun _ _ _ _ _ _ us hl => match us, hl with | [_, _, _, _], _ => rfl
  have z : Kn P w K mg base 5 "delays" 4 (runFn c_delays.N (trS 30 c_delays (defBody s_delays))) := def_ok (k := 4) (c := c_delays) F (gl X G c (by decide +kernel)) b (by decide +kernel) rfl rfl (globs X G c) (tbl_ok (t := fns_delays) ⟨(kn_need_house X G c ex).mono (by decide), ⟨(kn_need_goal X G c ex).mono (by decide), ⟨(kn_far_from X G c ex).mono (by decide), ⟨(kn_is_whole X G c ex).mono (by decide), ⟨(kn_beside X G c ex).mono (by decide), trivial⟩⟩⟩⟩⟩) (fun y g F e => by cases e)
  rw [tr_delays] at z
  exact z

include ex in
theorem kn_next_rows : Kn P w K mg base 3 "next_rows" 5 m_next_rows := by
  obtain ⟨fd, F⟩ := c.def_ 33 (d := d_next_rows) rfl
  have b : Binds K fd ["house", "blind", "keen", "rows", "beat"] [] := F.bindsN fun _ _ _ _ _ _ us hl => match us, hl with | [_, _, _, _, _], _ => rfl
  have z : Kn P w K mg base 3 "next_rows" 5 (runFn c_next_rows.N (trS 30 c_next_rows (defBody s_next_rows))) := def_ok (k := 2) (c := c_next_rows) F (gl X G c (by decide +kernel)) b (by decide +kernel) rfl rfl (globs X G c) (tbl_ok (t := fns_next_rows) ⟨(kn_beside X G c ex).mono (by decide), ⟨(kn_door_of X G c ex).mono (by decide), ⟨(kn_seers X G c ex).mono (by decide), trivial⟩⟩⟩) (fun y g F e => by cases e)
  rw [tr_next_rows] at z
  exact z

include ex in
theorem kn_seen_by_one : Kn P w K mg base 4 "seen_by_one" 3 m_seen_by_one := by
  obtain ⟨fd, F⟩ := c.def_ 34 (d := d_seen_by_one) rfl
  have b : Binds K fd ["house", "keen", "blind"] [] := F.bindsN fun _ _ _ _ _ _ us hl => match us, hl with | [_, _, _], _ => rfl
  have z : Kn P w K mg base 4 "seen_by_one" 3 (runFn c_seen_by_one.N (trS 30 c_seen_by_one (defBody s_seen_by_one))) := def_ok (k := 3) (c := c_seen_by_one) F (gl X G c (by decide +kernel)) b (by decide +kernel) rfl rfl (globs X G c) (tbl_ok (t := fns_seen_by_one) ⟨(kn_next_rows X G c ex).mono (by decide), trivial⟩) (fun y g F e => by cases e)
  rw [tr_seen_by_one] at z
  exact z

include ex in
theorem kn_parted : Kn P w K mg base 6 "parted" 3 m_parted := by
  obtain ⟨fd, F⟩ := c.def_ 35 (d := d_parted) rfl
  have b : Binds K fd ["house", "one", "other"] [] := F.bindsN fun _ _ _ _ _ _ us hl => match us, hl with | [_, _, _], _ => rfl
  have z : Kn P w K mg base 6 "parted" 3 (runFn c_parted.N (trS 30 c_parted (defBody s_parted))) := def_ok (k := 5) (c := c_parted) F (gl X G c (by decide +kernel)) b (by decide +kernel) rfl rfl (globs X G c) (tbl_ok (t := fns_parted) ⟨(kn_need_watchers X G c ex).mono (by decide), ⟨(kn_seen_by_one X G c ex).mono (by decide), trivial⟩⟩) (fun y g F e => by cases e)
  rw [tr_parted] at z
  exact z

include ex in
theorem kn_law_cell_at : Kn P w K mg base 1 "_law_cell_at" 2 m_law_cell_at := by
  obtain ⟨fd, F⟩ := c.def_ 36 (d := d_law_cell_at) rfl
  have b : Binds K fd ["script", "k"] [] := F.bindsN fun _ _ _ _ _ _ us hl => match us, hl with | [_, _], _ => rfl
  have z : Kn P w K mg base 1 "_law_cell_at" 2 (runFn c_law_cell_at.N (trS 30 c_law_cell_at (defBody s_law_cell_at))) := def_ok (k := 0) (c := c_law_cell_at) F (gl X G c (by decide +kernel)) b (by decide +kernel) rfl rfl (globs X G c) (tbl_ok (t := fns_law_cell_at) trivial) (fun y g F e => by cases e)
  rw [tr_law_cell_at] at z
  exact z

include ex in
theorem kn_law_mixed : Kn P w K mg base 2 "_law_mixed" 3 m_law_mixed := by
  obtain ⟨fd, F⟩ := c.def_ 37 (d := d_law_mixed) rfl
  have b : Binds K fd ["script", "k", "many"] [] := F.bindsN fun _ _ _ _ _ _ us hl => match us, hl with | [_, _, _], _ => rfl
  have z : Kn P w K mg base 2 "_law_mixed" 3 (runFn c_law_mixed.N (trS 30 c_law_mixed (defBody s_law_mixed))) := def_ok (k := 1) (c := c_law_mixed) F (gl X G c (by decide +kernel)) b (by decide +kernel) rfl rfl (globs X G c) (tbl_ok (t := fns_law_mixed) ⟨(kn_law_cell_at X G c ex).mono (by decide), trivial⟩) (fun y g F e => by cases e)
  rw [tr_law_mixed] at z
  exact z

include ex in
theorem kn_law_draw : Kn P w K mg base 3 "_law_draw" 3 m_law_draw := by
  obtain ⟨fd, F⟩ := c.def_ 38 (d := d_law_draw) rfl
  have b : Binds K fd ["script", "town", "many"] [] := F.bindsN fun _ _ _ _ _ _ us hl => match us, hl with | [_, _, _], _ => rfl
  have z : Kn P w K mg base 3 "_law_draw" 3 (runFn c_law_draw.N (trS 30 c_law_draw (defBody s_law_draw))) := def_ok (k := 2) (c := c_law_draw) F (gl X G c (by decide +kernel)) b (by decide +kernel) rfl rfl (globs X G c) (tbl_ok (t := fns_law_draw) ⟨(kn_law_mixed X G c ex).mono (by decide), trivial⟩) (fun y g F e => by cases e)
  rw [tr_law_draw] at z
  exact z

include ex in
theorem kn_law_which : KnW P w K mg base 1 excs "WayError" "_law_which" whichF := by
  obtain ⟨fd, F⟩ := c.def_ 39 (d := d_law_which) rfl
  have b : Binds K fd ["e"] [] := F.bindsN fun _ _ _ _ _ _ us hl => match us, hl with | [_], _ => rfl
  have hg : ∀ y, y ∈ excs → mg y = some (.ref (He.ga K y)) := fun y hy => gl X G c (by
    have z : ∀ y, y ∈ excs → glos.contains y = true := by decide +kernel
    exact z y hy)
  refine which_ok (k := 0) (fu := 30) (c := c_law_which 0 []) (tbl := whichT) F (gl X G c (by decide +kernel)) b rfl (by decide +kernel) rfl rfl rfl rfl (globsW X G c) (gl X G c (by decide +kernel)) (fun y hy b hb => ?_) (fun cls D hc hD => ?_) whichF_ok
  · rw [hg y hy] at hb
    cases hb
    have z := says_mem c (f := .exm y "WayError" true) (List.mem_append_right _ (List.mem_append_right _ (List.mem_append_right _ (List.mem_append_right _ (List.mem_append_right _ (List.mem_map.mpr ⟨y, hy, rfl⟩))))))
    exact of_decide_eq_true z
  · rw [hg cls hc] at hD
    cases hD
    have z := List.all_eq_true.mp ex cls hc
    rw [Bool.and_eq_true, Bool.and_eq_true] at z
    obtain ⟨z1, z2, z3⟩ := z
    refine ⟨exOne_ok z1, fun y b e => ?_⟩
    rcases List.mem_cons.mp (lookup_mem e) with q | q
    · cases q
      exact .inr ⟨"ValueError", He.free_ok X G (says_mem c (List.mem_append_right _ (List.mem_append_left _ (List.mem_map.mpr ⟨_, (by decide +kernel), rfl⟩)))), (by decide +kernel), of_decide_eq_true z2⟩
    · obtain ⟨y', hy, q⟩ := List.mem_map.mp q
      cases q
      exact .inl ⟨_, hg _ hy, of_decide_eq_true (List.all_eq_true.mp z3 _ hy)⟩

include ex in
theorem kn_law_ask : Kn P w K mg base 8 "_law_ask" 5 m_law_ask := by
  obtain ⟨fd, F⟩ := c.def_ 40 (d := d_law_ask) rfl
  have b : Binds K fd ["what", "house", "watchers", "goal", "many"] [] := F.bindsN fun _ _ _ _ _ _ us hl => match us, hl with | [_, _, _, _, _], _ => rfl
  have z : Kn P w K mg base 8 "_law_ask" 5 (runFn c_law_ask.N (trS 30 c_law_ask (defBody s_law_ask))) := def_ok (k := 7) (c := c_law_ask) F (gl X G c (by decide +kernel)) b (by decide +kernel) rfl rfl (globs X G c) (tbl_ok (t := fns_law_ask) ⟨(kn_seen X G c ex).mono (by decide), ⟨(kn_open_rooms X G c ex).mono (by decide), ⟨(kn_unseen X G c ex).mono (by decide), ⟨(kn_paper X G c ex).mono (by decide), trivial⟩⟩⟩⟩) (fun y g F e => by cases e; exact (kn_law_which X G c ex).mono (by decide))
  rw [tr_law_ask] at z
  exact z

include ex in
theorem kn_law_line : Kn P w K mg base 1 "_law_line" 1 m_law_line := by
  obtain ⟨fd, F⟩ := c.def_ 41 (d := d_law_line) rfl
  have b : Binds K fd ["rooms"] [] := F.bindsN fun _ _ _ _ _ _ us hl => match us, hl with | [_], _ => rfl
  have z : Kn P w K mg base 1 "_law_line" 1 (runFn c_law_line.N (trS 30 c_law_line (defBody s_law_line))) := def_ok (k := 0) (c := c_law_line) F (gl X G c (by decide +kernel)) b (by decide +kernel) rfl rfl (globs X G c) (tbl_ok (t := fns_law_line) trivial) (fun y g F e => by cases e)
  rw [tr_law_line] at z
  exact z

include ex in
theorem kn_law_ways : Kn P w K mg base 9 "_law_ways" 3 m_law_ways := by
  obtain ⟨fd, F⟩ := c.def_ 42 (d := d_law_ways) rfl
  have b : Binds K fd ["script", "town", "line"] [] := F.bindsN fun _ _ _ _ _ _ us hl => match us, hl with | [_, _, _], _ => rfl
  have z : Kn P w K mg base 9 "_law_ways" 3 (runFn c_law_ways.N (trS 30 c_law_ways (defBody s_law_ways))) := def_ok (k := 8) (c := c_law_ways) F (gl X G c (by decide +kernel)) b (by decide +kernel) rfl rfl (globs X G c) (tbl_ok (t := fns_law_ways) ⟨(kn_law_ask X G c ex).mono (by decide), ⟨(kn_is_paper X G c ex).mono (by decide), ⟨(kn_parted X G c ex).mono (by decide), ⟨(kn_fewest_spots X G c ex).mono (by decide), ⟨(kn_delays X G c ex).mono (by decide), ⟨(kn_law_draw X G c ex).mono (by decide), trivial⟩⟩⟩⟩⟩⟩) (fun y g F e => by cases e)
  rw [tr_law_ways] at z
  exact z

include ex in
theorem kn_law_ok {fd : FuncData} (F : FunD K "law" "law" (defArgs s_law) (defBody s_law) (defScope s_law) [] [] (He.ga K "law") fd) (b : Binds K fd ["script"] []) : FnOk P w K mg base (L2N.CX P w) 10 (He.ga K "law") fd ["script"] (spD ⟨K, w, P⟩ mg 1 m_law) := by
  have z := def_fn (P := P) (w := w) (mg := mg) (base := base) (k := 9) (fu := 30) (c := c_law) F b (by decide +kernel) rfl rfl (globs X G c) (tbl_ok (t := fns_law) ⟨(kn_law_line X G c ex).mono (by decide), ⟨(kn_law_ways X G c ex).mono (by decide), ⟨(kn_is_house X G c ex).mono (by decide), ⟨(kn_are_watchers X G c ex).mono (by decide), trivial⟩⟩⟩⟩) (fun y g F e => by cases e)
  rw [tr_law] at z
  exact z
end
theorem facts {P : Program} {w : World} {K : PySem.W.Frag} {h : Heap} {mg : Str → Option Value} {f : Addr} (X : K.In h) (G : h.Ns mainGlobals mg) (hfa : mg ("law" : Str) = some (.ref f)) (c : He.SaysD fa fn K) (ex : exAll excs excs K = true) :
    ∃ fd : FuncData, (∀ (s : Shared) (v : Value), BindsTo s fd ⟨[v], []⟩ [("script", v)]) ∧ ∀ base : Heap, FnOk P w K mg base CX0 10 f fd ["script"] (fun vs H Q _ => spD ⟨K, w, P⟩ mg 1 m_law vs H Q fun _ _ _ => False) := by
  obtain ⟨fd, F⟩ := c.def_ 43 (d := d_law) rfl
  have b := FunD.bindsA (ps := ["script"]) F fun _ _ _ _ _ _ us hl => match us, hl with | [_], _ => rfl
  have hm : mg ("law" : Str) = some (.ref (He.ga K "law")) := gl X G c (by decide +kernel)
  rw [hm] at hfa
  cases hfa
  refine ⟨fd, fun s v => b s [v] rfl, fun base => ?_⟩
  have bb : Binds K fd ["script"] [] := F.bindsN fun _ _ _ _ _ _ us hl => match us, hl with | [_], _ => rfl
  exact shut_ok (kn_law_ok X G c ex F bb)
end Q13
open PySem PySem.W PySem.Calls PyProof.Rows
theorem PySem.Challenge.cw_unseenways_k13_whole_at_bounds_holds : PySem.Challenge.rw_unseenways_k13_whole_at_bounds.Holds := by
  w_on; o_law
  refine HandSHeadRun.head_any (r := OpenLaw.row PySem.Challenge.rw_unseenways_k13_whole_at_bounds) (q := view (OpenLaw.row PySem.Challenge.rw_unseenways_k13_whole_at_bounds).prog [67]) (H := Q13.hk) (ob := Q13.ob) (M := 4000) (loose := Q13.loose) (d := HandSHeadRun.topDef (OpenLaw.row PySem.Challenge.rw_unseenways_k13_whole_at_bounds).prog 67) (kwd := []) Q13.ob_eq
    (by kernel_rfl) (fun s => by kernel_rfl) Q13.run (by kernel_rfl) (by kernel_rfl) (by kernel_rfl) (by rfl) (by first | assumption | decide +kernel) (by decide +kernel) ⟨rfl, rfl, rfl, rfl, rfl, by decide +kernel⟩ ?hw ?hc
  case hw => w_witness2
  case hc =>
    refine L2.walk_ofE (l := PySem.Challenge.rw_unseenways_k13_whole_at_bounds) (n := 63) (k := 10) (x := "script") (CX := L2.CX0) rfl (by decide) (by kernel_rfl) ⟨rfl, by decide, by decide⟩ ?F (fun _ _ _ _ z => z)
    intro w mg fa h Y G hmg0
    obtain ⟨K, KX, c, ex⟩ := Y
    have hmg : mg ("law" : PySem.Str) = some (.ref fa) := by
      have e : (HandSHeadRun.topDef (OpenLaw.row PySem.Challenge.rw_unseenways_k13_whole_at_bounds).prog 67).name = ("law" : PySem.Str) := by kernel_rfl
      rw [← e]
      exact hmg0
    obtain ⟨fd, hb, hF⟩ := Q13.facts (P := (PySem.Challenge.rw_unseenways_k13_whole_at_bounds).prog) (w := w) KX G hmg c ex
    exact ⟨K, fd, fun vs H Q _ => UW.spD ⟨K, w, (PySem.Challenge.rw_unseenways_k13_whole_at_bounds).prog⟩ mg 1 Q13.m_law vs H Q fun _ _ _ => False, KX, hb, fun H a ns hl _ hS => UW.law_end hS (Q13.law_ev ns), fun base _ _ => hF base⟩
