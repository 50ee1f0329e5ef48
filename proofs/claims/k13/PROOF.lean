import PyProof.Rows.All
import HandS.TupSets
import KE.KeyNested
import KE.SortData
import KE.KSortTup
import Wide.All
import OpenK.AllK
import Wide.FinOn
import HandS.ForMost
import HandS.ForExc
import HandS.TryMany
import HandS.CallSlots
import HandS.Flow
import HandS.Wide
import HandS.TupAny
import HandS.TupMul
import HandS.IsInst
import HandS.ExcField
import HandS.ExcIs
import HandS.Deep
import HandS.Conv
import KE.LtData
import KE.DataCmp
import HandS.Rev
import HandS.RaiseMore
import KE.IntTextLaws
import HandS.ClsMeth
import KE.KExcIs
import KE.KExcSuper
import KE.KExcLine
import HandS.ExcInit
import HandS.Defaults
import HandS.Words
import HandS.Head0
import HandS.Head1
import HandS.Head2
import HandS.HeadEnd
import HandS.HeadHook1
import HandS.HeadHook2
import HandS.Codes
import HandS.Ends
import PySem.Challenge.RW_papersorliars_k13_line_trees_judged
set_option Elab.async false
set_option linter.all false
set_option autoImplicit false
set_option maxRecDepth 100000
set_option maxHeartbeats 4000000
/-! FyA: sets of nested tuples of whole numbers, over the library: set(list), sorted(set). -/
namespace Fx
open PySem PySem.Spec PyProof.Rows L2 SeqAt

mutual
/-- no text in it -/
def bare : NestedKey → Bool
  | .none => true
  | .num _ => true
  | .text _ => false
  | .tup ks => bares ks
def bares : List NestedKey → Bool
  | [] => true
  | k :: ks => bare k && bares ks
end
/-- the tuple at b is the key k -/
structure NK (h : Heap) (k : NestedKey) (b : Addr) : Prop where
  is : NestedIs h k (.ref b)
  dep : k.depth ≤ 8
  ba : bare k = true
theorem NK.move {h h' : Heap} {k : NestedKey} {b : Addr} (x : NK h k b) (m : ∀ a o vs n, h.get? a = some o → o.data = .seq vs n → h'.get? a = some o) : NK h' k b := ⟨NestedIs.at m k _ x.is, x.dep, x.ba⟩
theorem NK.later {h h' : Heap} {k : NestedKey} {b : Addr} (x : NK h k b) (m : ∀ a o, h.get? a = some o → h'.get? a = some o) : NK h' k b := x.move fun a o _ _ e _ => m a o e
theorem NK.beside {h h' : Heap} {k : NestedKey} {a b : Addr} {o : Obj} {es : Array (Int × Value)} {ep : Nat} {t : SetTable} (x : NK h k b) (ho : h.get? a = some o) (hd : o.data = .set es ep t) (hs : Heap.SameBut a h h') : NK h' k b :=
  x.move fun c oc vs n e ed => (hs.2 c (by
    intro z
    rw [z, ho] at e
    rw [← Option.some.inj e, hd] at ed
    cases ed)).trans e
theorem NK.one {h : Heap} {k j : NestedKey} {b : Addr} (x : NK h k b) (y : NK h j b) : k = j := NestedIs.inj _ _ _ x.is y.is

section
variable {P : Program} {w : World}
abbrev kh (w : World) (k : NestedKey) : Int := k.hash w

/-! ### small questions -/
mutual
theorem noClass : ∀ (k : NestedKey) (v : Value) (n : Nat) (s : Shared) (A : Around) (E : Value → Shared → Prop) (Q : Bool → Shared → Prop), NestedIs s.heap k v → k.depth ≤ n → Q false s → wpAny (model P w) A (ofAClassStatement n v) Q E s
  | .none, _, n, s, A, E, Q, x, _, q => by
    cases x
    have e : ofAClassStatement n Value.none = pure false := by cases n <;> rfl
    rw [e]
    exact wpAny_pure q
  | .num i, v, n, s, A, E, Q, x, _, q => by
    have e : ofAClassStatement n v = pure false := by cases x <;> cases n <;> rfl
    rw [e]
    exact wpAny_pure q
  | .text y, v, n, s, A, E, Q, x, _, q => by
    have e : ofAClassStatement n v = pure false := by cases x <;> cases n <;> rfl
    rw [e]
    exact wpAny_pure q
  | .tup ks, _, n, s, A, E, Q, x, hn, q => by
    cases x with
    | @tup a o vs m _ hg hc hd hk =>
      simp only [NestedKey.depth] at hn
      cases n with
      | zero => omega
      | succ n =>
        unfold ofAClassStatement
        refine wpAny_bind (wpAny_typeOf (T := "tuple") ⟨o, hg, hc⟩ ?_)
        dsimp only
        rw [if_pos (by decide : (("tuple" : String) == "tuple") = true)]
        refine wpAny_bind (wpAny_pure ?_)
        rw [if_neg (by decide)]
        try refine wpAny_bind (wpAny_pure ?_)
        show wpAny _ _ (seqItems? (.ref a) >>= _) _ _ s
        refine wpAny_bind (wpAny_seqItems hg hd ?_)
        dsimp only
        refine wpAny_bind ?_
        show wpAny _ _ (forIn vs _ _) _ _ s
        rw [← Array.forIn_toList]
        refine wpAny_forIn_list _ (fun rest r s' => (r.1 = none ∧ s' = s) ∧ ∃ js, NestedAll s.heap js rest ∧ NestedKey.depthAll js ≤ n ∧ ∃ pre, ks = pre ++ js) _ ?_ ?_ _ _ ⟨⟨rfl, rfl⟩, ks, hk, by omega, [], rfl⟩
        · rintro v rest r s' ⟨⟨hr, rfl⟩, js, hj, hdj, pre, hpre⟩
          cases hj with
          | @cons j _ js' _ h1 h2 =>
            simp only [NestedKey.depthAll] at hdj
            refine wpAny_bind (noClasses ks pre j js' hpre v n s' A E _ h1 (by omega) ?_)
            rw [if_neg (by decide)]
            exact wpAny_pure ⟨⟨rfl, rfl⟩, js', h2, by omega, pre ++ [j], by rw [hpre]; simp⟩
        · rintro ⟨r1, r2⟩ s' ⟨⟨hr, rfl⟩, _⟩
          have hr : r1 = none := hr
          subst hr
          exact wpAny_pure q
theorem noClasses : ∀ (ks pre : List NestedKey) (j : NestedKey) (post : List NestedKey), ks = pre ++ j :: post → ∀ (v : Value) (n : Nat) (s : Shared) (A : Around) (E : Value → Shared → Prop) (Q : Bool → Shared → Prop), NestedIs s.heap j v → j.depth ≤ n → Q false s → wpAny (model P w) A (ofAClassStatement n v) Q E s
  | [], pre, j, post, e, v, n, s, A, E, Q, x, hn, q => by simp at e
  | k :: ks, [], j, post, e, v, n, s, A, E, Q, x, hn, q => by
    have e1 : k = j := (List.cons.inj e).1
    exact noClass k v n s A E Q (e1 ▸ x) (e1 ▸ hn) q
  | k :: ks, p :: pre, j, post, e, v, n, s, A, E, Q, x, hn, q => noClasses ks pre j post (List.cons.inj e).2 v n s A E Q x hn q
end
mutual
theorem byVal : ∀ (k : NestedKey) (v : Value) (n : Nat) (s : Shared) (A : Around) (E : Value → Shared → Prop) (Q : Bool → Shared → Prop), NestedIs s.heap k v → k.depth ≤ n → bare k = true → Q true s → wpAny (model P w) A (hashByValue n v) Q E s
  | .none, _, n, s, A, E, Q, x, _, _, q => by
    cases x
    have e : hashByValue n Value.none = pure true := by cases n <;> rfl
    rw [e]
    exact wpAny_pure q
  | .num i, v, n, s, A, E, Q, x, _, _, q => by
    have e : hashByValue n v = pure true := by cases x <;> cases n <;> rfl
    rw [e]
    exact wpAny_pure q
  | .text y, v, n, s, A, E, Q, x, _, hb, q => by cases hb
  | .tup ks, _, n, s, A, E, Q, x, hn, hb, q => by
    cases x with
    | @tup a o vs m _ hg hc hd hk =>
      simp only [NestedKey.depth] at hn
      cases n with
      | zero => omega
      | succ n =>
        unfold hashByValue
        refine wpAny_bind (wpAny_specialOf (T := "tuple") ⟨o, hg, hc⟩ F.slot_tuple_hash.lookup ?_)
        show wpAny _ _ (seqItems? (.ref a) >>= _) _ _ s
        refine wpAny_bind (wpAny_seqItems hg hd ?_)
        refine wpAny_bind ?_
        show wpAny _ _ (forIn vs _ _) _ _ s
        rw [← Array.forIn_toList]
        refine wpAny_forIn_list _ (fun rest r s' => (r.1 = none ∧ s' = s) ∧ ∃ js, NestedAll s.heap js rest ∧ NestedKey.depthAll js ≤ n ∧ ∃ pre, ks = pre ++ js) _ ?_ ?_ _ _ ⟨⟨rfl, rfl⟩, ks, hk, by omega, [], rfl⟩
        · rintro v rest r s' ⟨⟨hr, rfl⟩, js, hj, hdj, pre, hpre⟩
          cases hj with
          | @cons j _ js' _ h1 h2 =>
            simp only [NestedKey.depthAll] at hdj
            refine wpAny_bind (byVals ks pre j js' hpre v n s' A E _ h1 (by omega) hb ?_)
            rw [if_neg (by decide)]
            exact wpAny_pure ⟨⟨rfl, rfl⟩, js', h2, by omega, pre ++ [j], by rw [hpre]; simp⟩
        · rintro ⟨r1, r2⟩ s' ⟨⟨hr, rfl⟩, _⟩
          have hr : r1 = none := hr
          subst hr
          exact wpAny_pure q
theorem byVals : ∀ (ks pre : List NestedKey) (j : NestedKey) (post : List NestedKey), ks = pre ++ j :: post → ∀ (v : Value) (n : Nat) (s : Shared) (A : Around) (E : Value → Shared → Prop) (Q : Bool → Shared → Prop), NestedIs s.heap j v → j.depth ≤ n → bares ks = true → Q true s → wpAny (model P w) A (hashByValue n v) Q E s
  | [], pre, j, post, e, v, n, s, A, E, Q, x, hn, hb, q => by simp at e
  | k :: ks, [], j, post, e, v, n, s, A, E, Q, x, hn, hb, q => by
    have e1 : k = j := (List.cons.inj e).1
    simp only [bares, Bool.and_eq_true] at hb
    exact byVal k v n s A E Q (e1 ▸ x) (e1 ▸ hn) hb.1 q
  | k :: ks, p :: pre, j, post, e, v, n, s, A, E, Q, x, hn, hb, q => by
    simp only [bares, Bool.and_eq_true] at hb
    exact byVals ks pre j post (List.cons.inj e).2 v n s A E Q x hn hb.2 q
end

/-! ### a search shows nothing -/
theorem seenN {s : Shared} {A : Around} {E : Value → Shared → Prop} {k : NestedKey} {b : Addr} {Q : Bool → Shared → Prop} (hk : NK s.heap k b) {ys : List Value} (hy : ∀ y ∈ ys, ∃ j c, y = Value.ref c ∧ NK s.heap j c) (q : Q false s) :
    wpAny (model P w) A (searchCouldBeSeen (.ref b) ys) Q E s := by
  unfold searchCouldBeSeen
  refine wpAny_bind (wpAny_forIn_list _ (fun left r s1 => (r.1 = none ∧ s1 = s) ∧ ∀ y ∈ left, ∃ j c, y = Value.ref c ∧ NK s.heap j c) _ ?_ ?_ _ _ ⟨⟨rfl, rfl⟩, hy⟩)
  · rintro y left r s1 ⟨⟨hr, rfl⟩, all⟩
    obtain ⟨j, c, rfl, hc⟩ := all y List.mem_cons_self
    have all' : ∀ y ∈ left, ∃ j c, y = Value.ref c ∧ NK s1.heap j c := fun u hu => all u (List.mem_cons_of_mem _ hu)
    dsimp only
    by_cases very : (b == c || (carriedByValue (.ref b) && carriedByValue (.ref c))) = true
    · exact wp_if_pos very (wpAny_pure ⟨⟨rfl, rfl⟩, all'⟩)
    · refine wp_if_neg very ?_
      refine wpAny_bind (quiet_key (prog := P) (w := w) k _ 8 s1 hk.is hk.dep A E _ ?_)
      rw [if_neg (by decide)]
      try refine wpAny_bind (wpAny_pure ?_)
      refine wpAny_bind (quiet_key (prog := P) (w := w) j _ 8 s1 hc.is hc.dep A E _ ?_)
      rw [if_neg (by decide)]
      try refine wpAny_bind (wpAny_pure ?_)
      refine wpAny_bind (noClass k _ 8 s1 A E _ hk.is hk.dep ?_)
      rw [if_neg (by decide)]
      try refine wpAny_bind (wpAny_pure ?_)
      refine wpAny_bind (noClass j _ 8 s1 A E _ hc.is hc.dep ?_)
      rw [if_neg (by decide)]
      exact wpAny_pure ⟨⟨rfl, rfl⟩, all'⟩
  · rintro ⟨r1, r2⟩ s1 ⟨⟨hr, rfl⟩, _⟩
    have hr : r1 = none := hr
    subst hr
    exact wpAny_pure q

/-! ### the set -/
abbrev KL := List (Addr × NestedKey)
def kRow (w : World) (p : Addr × NestedKey) : Int × Value := (kh w p.2, Value.ref p.1)
def kHs (w : World) (L : KL) : List Int := L.map fun p => kh w p.2
structure SetN (P : Program) (w : World) (h : Heap) (a : Addr) (L : KL) (es : Array (Int × Value)) (ep : Nat) (t : SetTable) : Prop where
  ob : ∃ o, h.get? a = some o ∧ o.ExactSet ∧ o.data = .set es ep t
  rows : es.toList = L.map (kRow w)
  tab : TabOk t (kHs w L)
  nd : (L.map (·.2)).Nodup
  key : ∀ p ∈ L, NK h p.2 p.1
  pl : t.plain = true
  led : w.params.followText "set-order" = true ∨ t.led = true
  roomy : L.length * 5 < t.mask * 3
abbrev prb (m : Nat) (h : Int) (c : Nat) : SetTable.Probe := nth m (runAt m (SetTable.bits h % (m + 1)) (SetTable.bits h)) c
theorem prb_add (m : Nat) (h : Int) (c q : Nat) : nth m (prb m h c) q = prb m h (c + q) := (nth_add m c _ q).symm
theorem nth_dummy (m : Nat) : ∀ (n : Nat) (p : SetTable.Probe), p.dummy = none → (nth m p n).dummy = none
  | 0, _, h => h
  | n + 1, p, h => nth_dummy m n (adv m p) (by unfold adv; split <;> exact h)
variable {s : Shared} {A : Around} {E : Value → Shared → Prop} {a : Addr} {L : KL} {es : Array (Int × Value)} {ep : Nat} {t : SetTable}
theorem rows_len (h : es.toList = L.map (kRow w)) : es.size = L.length := by
  rw [← Array.length_toList, h, List.length_map]
theorem SetN.len (R : SetN P w s.heap a L es ep t) : es.size = L.length := rows_len R.rows
theorem SetN.fit (R : SetN P w s.heap a L es ep t) : t.fits es.size = true := by
  have z := R.tab.sz
  have z2 := R.len
  have z3 := R.roomy
  unfold kHs at z
  rw [List.length_map] at z
  unfold SetTable.fits SetTable.fill
  rw [R.tab.dm, Bool.and_eq_true, beq_iff_eq, decide_eq_true_eq]
  refine ⟨z.trans z2.symm, ?_⟩
  show t.place.size + 0 ≤ t.mask
  omega
theorem SetN.at (R : SetN P w s.heap a L es ep t) {i : Nat} {p : Addr × NestedKey} (h : L[i]? = some p) : es[i]? = some (kh w p.2, Value.ref p.1) := by
  rw [← Array.getElem?_toList, R.rows, List.getElem?_map, h]
  rfl
theorem SetN.stays (R : SetN P w s.heap a L es ep t) : ¬ t.gaveWay = true := by
  unfold SetTable.gaveWay
  rw [mask_odd R.tab.mok]
  decide
theorem SetN.hashAt (R : SetN P w s.heap a L es ep t) {i : Nat} {p : Addr × NestedKey} (h : L[i]? = some p) : (es[i]?.map (·.1)).getD 0 = kh w p.2 := by
  rw [R.at h]
  rfl
theorem SetN.ixLt (R : SetN P w s.heap a L es ep t) {i j : Nat} (h : t.place.toList[i]? = some j) : i < L.length := by
  have z := (List.getElem?_eq_some_iff.mp h).1
  have z2 := R.tab.sz
  unfold kHs at z2
  rw [List.length_map] at z2
  rwa [Array.length_toList, z2] at z
/-- the search from the c-th step of the way on; K: the first empty slot on it -/
theorem seekN (R : SetN P w s.heap a L es ep t) {x : Addr} {k : NestedKey} (hx : NK s.heap k x) (hu : A.units + 8 < cLine) {K : Nat} (hf : K < 10 * SetTable.turns t.mask)
    (hK : way t.mask (kh w k) K ∉ t.place.toList) (hb : ∀ c, c < K → way t.mask (kh w k) c ∈ t.place.toList) {Q : SetFound → Shared → Prop}
    (yes : k ∈ L.map (·.2) → Q (.there none) s) (no : k ∉ L.map (·.2) → Q (.free (way t.mask (kh w k) K) false) s) :
    ∀ (f c : Nat) (stand : Option SetTable.Probe), stand.getD (t.probeStart (kh w k)) = prb t.mask (kh w k) c → c ≤ K → K - c < f →
      (∀ (i : Nat) (p : Addr × NestedKey), L[i]? = some p → p.2 = k → ∃ d, c ≤ d ∧ d < K ∧ t.place.toList[i]? = some (way t.mask (kh w k) d)) →
      wpAny (model P w) A (setSearchFrom a (.ref x) (kh w k) true f stand) Q E s := by
  intro f
  induction f with
  | zero => intro c stand _ _ z _; omega
  | succ f ih =>
    intro c stand hst hc hcf ahead
    obtain ⟨o, ho, hex, hd⟩ := R.ob
    rw [setSearchFrom_succ]
    refine wpAny_bind (wpAny_setState_of ho hd R.fit (wp_if_neg R.stays ?_))
    have dum : (prb t.mask (kh w k) c).dummy = none := nth_dummy t.mask c _ rfl
    have jat : ∀ q, (nth t.mask (prb t.mask (kh w k) c) q).j = way t.mask (kh w k) (c + q) := fun q => congrArg SetTable.Probe.j (prb_add t.mask (kh w k) c q)
    have toK : c + (K - c) = K := by omega
    rcases go_spec t R.tab.ris R.tab.dm (fun i => (es[i]?.map (·.1)).getD 0) (kh w k) (10 * SetTable.turns t.mask) (K - c) _ dum (by omega) (fun q hq => by rw [jat]; exact hb _ (by omega)) (by rw [jat, toK]; exact hK) with ⟨q, i, hq, hi, hh, before, met⟩ | ⟨before, met⟩
    · rw [jat] at hi met
      rw [prb_add] at met
      rw [hst, show t.probe (fun i => (es[i]?.map (·.1)).getD 0) (kh w k) (prb t.mask (kh w k) c) = some (.candidate (way t.mask (kh w k) (c + q)) i (prb t.mask (kh w k) (c + (q + 1)))) from met]
      dsimp only
      obtain ⟨p, hp⟩ : ∃ p, L[i]? = some p := ⟨_, List.getElem?_eq_getElem (R.ixLt hi)⟩
      have pin : p ∈ L := List.mem_of_getElem? hp
      have live : t.slot (way t.mask (kh w k) (c + q)) = .live i := slot_live R.tab.ris hi
      have go : wpAny (model P w) A (searchRest a (.ref x) (kh w k) true f es t (way t.mask (kh w k) (c + q)) i (prb t.mask (kh w k) (c + (q + 1)))) Q E s := by
        unfold searchRest
        rw [R.at hp]
        dsimp only
        refine wpAny_bind (wpAny_holding ((nestedKind P w).eqBool (show A.units + 8 < cLine from hu) ⟨(R.key p pin).is, (R.key p pin).dep⟩ ⟨hx.is, hx.dep⟩ (wpAny_bind (wpAny_setState_of ho hd R.fit ?_))))
        dsimp only
        by_cases same : p.2 = k
        · exact wp_if_pos (by simp [same]) (wpAny_pure (yes (List.mem_map.mpr ⟨p, pin, same⟩)))
        · refine wp_if_neg (by simp [same]) ?_
          try refine wpAny_bind (wpAny_pure ?_)
          rw [sameMem t]
          dsimp only
          rw [if_pos rfl, live]
          dsimp only
          rw [R.at hp]
          dsimp only
          refine wpAny_bind (wpAny_isSame_ref_self (wpAny_bind (wpAny_pure ?_)))
          rw [if_pos rfl]
          dsimp only
          refine wp_if_neg (by simp [same]) ?_
          refine ih (c + (q + 1)) _ rfl (by omega) (by omega) fun i0 p0 h0 e0 => ?_
          obtain ⟨d, d1, d2, d3⟩ := ahead i0 p0 h0 e0
          refine ⟨d, ?_, d2, d3⟩
          rcases Nat.lt_trichotomy d (c + q) with z | z | z
          · refine absurd ((R.hashAt h0).trans (by rw [e0])) (before (d - c) i0 (by omega) ?_)
            rw [jat, show c + (d - c) = d by omega]
            exact d3
          · rw [z] at d3
            have l2 := slot_live R.tab.ris d3
            rw [live] at l2
            injection l2 with l2
            rw [← l2, hp] at h0
            exact absurd ((congrArg Prod.snd (Option.some.inj h0)).trans e0) same
          · omega
      by_cases hl : t.led = true
      · refine wp_if_neg (by simp [hl]) ?_
        try refine wpAny_bind (wpAny_pure ?_)
        exact go
      · refine wp_if_pos (by simp [hl]) (wpAny_bind (seenN hx (fun y hy => ?_) (wp_if_neg (by decide) ?_)))
        · obtain ⟨e, he, ee⟩ := List.mem_map.mp hy
          have he : e ∈ es.toList := by
            have := he
            simp only [Array.toList_filter, List.mem_filter] at this
            exact this.1
          rw [R.rows] at he
          obtain ⟨p2, m2, e2⟩ := List.mem_map.mp he
          exact ⟨p2.2, p2.1, by rw [← ee, ← e2]; rfl, R.key p2 m2⟩
        · try refine wpAny_bind (wpAny_pure ?_)
          exact go
    · rw [jat, toK] at met
      rw [hst, show t.probe (fun i => (es[i]?.map (·.1)).getD 0) (kh w k) (prb t.mask (kh w k) c) = some (.empty (way t.mask (kh w k) K) none) from met]
      dsimp only
      refine wpAny_pure (no fun hm => ?_)
      obtain ⟨p0, m0, e0⟩ := List.mem_map.mp hm
      obtain ⟨i0, l0, g0⟩ := List.getElem_of_mem m0
      have h0 : L[i0]? = some p0 := by rw [List.getElem?_eq_getElem l0, g0]
      obtain ⟨d, d1, d2, d3⟩ := ahead i0 p0 h0 e0
      refine before (d - c) i0 (by omega) ?_ ((R.hashAt h0).trans (by rw [e0]))
      rw [jat, show c + (d - c) = d by omega]
      exact d3
theorem turns_few {m : Nat} (h : MaskOk m) : 10 * SetTable.turns m ≤ 2000 := by
  unfold SetTable.turns
  rcases h with e | e | e <;> omega
theorem lookN (R : SetN P w s.heap a L es ep t) {x : Addr} {k : NestedKey} (hx : NK s.heap k x) (hu : A.units + 8 < cLine) {Q : SetFound → Shared → Prop} (yes : k ∈ L.map (·.2) → Q (.there none) s)
    (no : ∀ K, k ∉ L.map (·.2) → way t.mask (kh w k) K ∉ t.place.toList → (∀ c, c < K → way t.mask (kh w k) c ∈ t.place.toList) → Q (.free (way t.mask (kh w k) K) false) s) :
    wpAny (model P w) A (setSearch a (.ref x) (kh w k) true) Q E s := by
  have room := R.roomy
  have lh : (kHs w L).length = L.length := by unfold kHs; rw [List.length_map]
  obtain ⟨K, f1, f2, f3⟩ := R.tab.first (by rw [lh]; omega) (kh w k)
  have few := turns_few R.tab.mok
  unfold setSearch
  refine seekN R hx hu f1 f2 f3 yes (fun n => no K n f2 f3) 100000 0 none rfl (Nat.zero_le _) (by omega) fun i p hp e => ?_
  have hi : (kHs w L)[i]? = some (kh w k) := by unfold kHs; rw [List.getElem?_map, hp, ← e]; rfl
  have il : i < t.place.toList.length := by
    rw [Array.length_toList, R.tab.sz, lh]
    exact (List.getElem?_eq_some_iff.mp hp).1
  obtain ⟨d, d1, d2⟩ := R.tab.before f2 hi (List.getElem?_eq_getElem il)
  exact ⟨d, Nat.zero_le _, d1, by rw [List.getElem?_eq_getElem il, d2]⟩
end
end Fx
set_option Elab.async false
set_option linter.all false
set_option autoImplicit false
set_option maxRecDepth 100000
set_option maxHeartbeats 4000000
/-! FyB: adding to a set of nested tuples; set(list). -/
namespace Fx
open PySem PySem.Spec PyProof.Rows L2 SeqAt

section
variable {P : Program} {w : World} {s : Shared} {A : Around} {E : Value → Shared → Prop} {a : Addr} {L : KL} {es : Array (Int × Value)} {ep : Nat} {t : SetTable}
theorem at_put {α : Type} (L : List α) (p : Nat) (x : α) : (L.take p ++ x :: L.drop p).Perm (x :: L) := by
  have z : (L.take p ++ x :: L.drop p).Perm (x :: (L.take p ++ L.drop p)) := List.perm_middle
  rwa [List.take_append_drop] at z
theorem range_pick {α : Type} (L : List α) : ∀ n, n ≤ L.length → (List.range n).filterMap (fun i => L[i]?) = L.take n
  | 0, _ => rfl
  | n + 1, h => by
    rw [List.range_succ, List.filterMap_append, range_pick L n (by omega), List.take_succ, List.filterMap_cons_some (List.getElem?_eq_getElem h), List.getElem?_eq_getElem h]
    rfl
/-- the entries in another order -/
theorem reorder {α β : Type} (f : α → β) {L : List α} {es : Array β} {order : Array Nat} (hr : es.toList = L.map f) (hp : order.toList.Perm (List.range L.length)) :
    ∃ L2 : List α, (order.filterMap (es[·]?)).toList = L2.map f ∧ L2.Perm L ∧ ∀ (g : β → Int), (L2.map fun x => g (f x)) = order.toList.map fun i => (es.map g).getD i 0 := by
  have one : ∀ i, i < L.length → ∃ x, L[i]? = some x ∧ es[i]? = some (f x) := fun i hi => ⟨L[i], List.getElem?_eq_getElem hi, by rw [← Array.getElem?_toList, hr, List.getElem?_map, List.getElem?_eq_getElem hi]; rfl⟩
  have all : ∀ l : List Nat, (∀ i ∈ l, i < L.length) → l.filterMap (fun i => es[i]?) = (l.filterMap fun i => L[i]?).map f ∧ ∀ (g : β → Int), ((l.filterMap fun i => L[i]?).map fun x => g (f x)) = l.map fun i => (es.map g).getD i 0 := by
    intro l
    induction l with
    | nil => exact fun _ => ⟨rfl, fun _ => rfl⟩
    | cons i l ih =>
      intro hl
      obtain ⟨x, e1, e2⟩ := one i (hl i List.mem_cons_self)
      obtain ⟨h1, h2⟩ := ih fun j hj => hl j (List.mem_cons_of_mem _ hj)
      refine ⟨by rw [List.filterMap_cons_some e2, List.filterMap_cons_some e1, h1]; rfl, fun g => ?_⟩
      rw [List.filterMap_cons_some e1, List.map_cons, List.map_cons, h2 g]
      have e3 : (es.map g)[i]? = some (g (f x)) := by rw [Array.getElem?_map, e2]; rfl
      have e4 : (es.map g).getD i 0 = g (f x) := by simp [Array.getD_eq_getD_getElem?, e3]
      rw [e4]
  obtain ⟨h1, h2⟩ := all order.toList fun i hi => List.mem_range.mp (hp.mem_iff.mp hi)
  refine ⟨order.toList.filterMap fun i => L[i]?, ?_, ?_, h2⟩
  · first
      | (rw [Array.toList_filterMap]; exact h1)
      | simpa using h1
  · have z := hp.filterMap (fun i => L[i]?)
    rwa [range_pick L _ (Nat.le_refl _), List.take_length] at z

/-- laid anew in a larger table -/
theorem relayN {o : Obj} (ho : s.heap.get? a = some o) (hx : o.ExactSet) (hd : o.data = .set es ep t) (hr : es.toList = L.map (kRow w)) (hz : t.place.size = es.size) (hm : t.dummies = #[]) (hl : es.size ≤ t.mask) (nd : (L.map (·.2)).Nodup)
    (key : ∀ p ∈ L, NK s.heap p.2 p.1) (pl : t.plain = true) (ld : w.params.followText "set-order" = true ∨ t.led = true) {wanted M : Nat} (hw : SetTable.sizeAbove wanted - 1 = M) (hM : MaskOk M) (hb : SetTable.sizeAbove wanted ≤ 128) (hn : L.length * 5 < M * 3)
    {Q : Unit → Shared → Prop} (fin : ∀ h2 L2 es2 ep2 t2, Heap.SameBut a s.heap h2 → SetN P w h2 a L2 es2 ep2 t2 → L2.Perm L → Q () { s with heap := h2 }) : wpAny (model P w) A (setRelay a wanted) Q E s := by
  have sz := rows_len hr
  have fit : t.fits es.size = true := by
    unfold SetTable.fits SetTable.fill
    rw [hm, Bool.and_eq_true, beq_iff_eq, decide_eq_true_eq]
    refine ⟨hz, ?_⟩
    show t.place.size + 0 ≤ t.mask
    omega
  obtain ⟨t2, order, e, pm, T, m1, m2, m3, m4⟩ := relaid_ok t (hs := es.map (·.1)) hw hM (by rw [Array.size_map, sz]; omega)
  rw [Array.size_map, sz] at pm
  obtain ⟨L2, r1, r2, r3⟩ := reorder (kRow w) hr pm
  have hs2 := rows_len r1
  rw [setRelay_eq]
  refine wpAny_bind (wpAny_setState_of ho hd fit ?_)
  dsimp only
  refine wp_if_neg (by rw [sizeLine_eq]; omega) ?_
  try refine wpAny_bind (wpAny_pure ?_)
  rw [e]
  dsimp only
  refine wpAny_bind (wp_if_neg (by rw [hs2, r2.length_eq, sz]; simp) ?_)
  try refine wpAny_bind (wpAny_pure ?_)
  refine wpAny_pure ?_
  dsimp only
  refine wpAny_storeSet_of ho hd ?_ (by rw [hs2, r2.length_eq, sizeLine_eq]; omega)
  have sb := Heap.SameBut.update s.heap a (Obj.putSet (order.filterMap (es[·]?)) t2)
  refine fin _ L2 _ (ep + 1) t2 sb ⟨⟨_, store_at ho hd, ⟨hx.1, hx.2.1, hx.2.2⟩, rfl⟩, r1, ?_, (r2.map (·.2)).nodup_iff.mpr nd, fun p hp => (key p (r2.mem_iff.mp hp)).beside ho hd sb, m3.trans pl, ?_, ?_⟩ r2
  · have z := r3 (·.1)
    unfold kHs
    rw [show (L2.map fun p => kh w p.2) = order.toList.map fun i => (es.map (·.1)).getD i 0 from z]
    exact T
  · rw [m2]; exact ld
  · rw [r2.length_eq, m1]; exact hn
theorem grow77 : SetTable.sizeAbove (SetTable.grown 77) - 1 = 511 := by decide +kernel
/-- one more -/
theorem addN (R : SetN P w s.heap a L es ep t) {x : Addr} {k : NestedKey} (hx : NK s.heap k x) (hu : A.units + 8 < cLine) (few : L.length + 1 < 77) {Q : Bool → Shared → Prop}
    (fin : ∀ b h2 L2 es2 ep2 t2, Heap.SameBut a s.heap h2 → SetN P w h2 a L2 es2 ep2 t2 → (k ∈ L.map (·.2) → L2 = L) → (k ∉ L.map (·.2) → L2.Perm ((x, k) :: L)) → Q b { s with heap := h2 }) :
    wpAny (model P w) A (setAddHashed a (.ref x) (kh w k)) Q E s := by
  obtain ⟨o, ho, hex, hd⟩ := R.ob
  have len := R.len
  have roomy := R.roomy
  unfold setAddHashed
  refine wpAny_holding ?_
  rw [show (100000 : Nat) = 99999 + 1 from rfl, setAddHashedIn_succ]
  refine wpAny_bind (wpAny_setState_of ho hd R.fit ?_)
  dsimp only
  refine wp_if_neg (by simp [byScan, Value.scannable]) ?_
  try refine wpAny_bind (wpAny_pure ?_)
  refine wpAny_bind (lookN R hx hu (fun m => ?_) fun K m f2 f3 => ?_)
  · exact wpAny_pure (fin false s.heap L es ep t (Heap.SameBut.refl a s.heap) R (fun _ => rfl) fun z => absurd m z)
  dsimp only
  refine wpAny_bind (wpAny_setState_of ho hd R.fit ?_)
  dsimp only
  obtain ⟨q1, q2, q3, q4, q5, q6, q7, q8, q9⟩ := R.tab.put f2 f3
  generalize t.put (way t.mask (kh w k) K) = pt at q1 q3 q4 q5 q6 q7 q8 q9 ⊢
  obtain ⟨t1, p⟩ := pt
  dsimp only at q1 q3 q4 q5 q6 q7 q8 q9 ⊢
  subst q1
  have pl1 : t1.plain = true := q6.trans R.pl
  refine wp_if_pos pl1 (wpAny_bind (byVal (P := P) (w := w) k _ 8 s A E _ hx.is hx.dep hx.ba ?_))
  simp only [if_true]
  have lh : (kHs w L).length = L.length := by unfold kHs; rw [List.length_map]
  have ins : (SetTable.insertAt es (SetTable.below t.place (way t.mask (kh w k) K)) (kh w k, Value.ref x)).toList = (L.take (SetTable.below t.place (way t.mask (kh w k) K)) ++ (x, k) :: L.drop (SetTable.below t.place (way t.mask (kh w k) K))).map (kRow w) := by
    rw [SetTable.toList_insertAt, R.rows, List.map_append, List.map_cons, List.map_take, List.map_drop]
    rfl
  have hsq : kHs w (L.take (SetTable.below t.place (way t.mask (kh w k) K)) ++ (x, k) :: L.drop (SetTable.below t.place (way t.mask (kh w k) K))) = (kHs w L).take (SetTable.below t.place (way t.mask (kh w k) K)) ++ kh w k :: (kHs w L).drop (SetTable.below t.place (way t.mask (kh w k) K)) := by
    unfold kHs
    rw [List.map_append, List.map_cons, List.map_take, List.map_drop]
  rw [← hsq] at q3
  have pm := at_put L (SetTable.below t.place (way t.mask (kh w k) K)) (x, k)
  generalize SetTable.insertAt es (SetTable.below t.place (way t.mask (kh w k) K)) (kh w k, Value.ref x) = es1 at ins ⊢
  generalize L.take (SetTable.below t.place (way t.mask (kh w k) K)) ++ (x, k) :: L.drop (SetTable.below t.place (way t.mask (kh w k) K)) = L1 at pm q3 ins
  have len1 : L1.length = L.length + 1 := pm.length_eq
  have sz1 : es1.size = L.length + 1 := (rows_len ins).trans len1
  have nd1 : (L1.map (·.2)).Nodup := (pm.map (·.2)).nodup_iff.mpr (List.nodup_cons.mpr ⟨m, R.nd⟩)
  refine wpAny_bind (wpAny_storeSet_of ho hd ?_ (by rw [sz1, sizeLine_eq]; omega))
  have sb := Heap.SameBut.update s.heap a (Obj.putSet es1 t1)
  have ho1 := store_at (es' := es1) (t' := t1) ho hd
  generalize s.heap.update a (Obj.putSet es1 t1) = h1 at sb ho1 ⊢
  have key1 : ∀ p ∈ L1, NK h1 p.2 p.1 := fun p hp => by
    rcases List.mem_cons.mp (pm.mem_iff.mp hp) with e | hp
    · rw [e]; exact hx.beside ho hd sb
    · exact (R.key p hp).beside ho hd sb
  have ld1 : w.params.followText "set-order" = true ∨ t1.led = true := by rw [q5]; exact R.led
  have fillIs : t1.tooFull = decide ((L.length + 1) * 5 ≥ t1.mask * 3) := by
    unfold SetTable.tooFull
    rw [q9, lh]
  by_cases full : (L.length + 1) * 5 ≥ t1.mask * 3
  · have tf : t1.tooFull = true := fillIs.trans (decide_eq_true full)
    refine wp_if_pos (by rw [tf]; rfl) (wpAny_bind ?_)
    rw [len]
    have z1 : t1.place.size = es1.size := by
      have z := q3.sz
      unfold kHs at z
      rw [List.length_map] at z
      exact z.trans (rows_len ins).symm
    have two : (t.mask = 7 ∧ L.length = 4) ∨ (t.mask = 31 ∧ L.length = 18) := by
      rcases R.tab.mok with e | e | e <;> rw [q4, e] at full <;> rw [e] at roomy
      · exact .inl ⟨e, by omega⟩
      · exact .inr ⟨e, by omega⟩
      · omega
    have larger : ∀ M, SetTable.sizeAbove (SetTable.grown (L.length + 1)) - 1 = M → MaskOk M → SetTable.sizeAbove (SetTable.grown (L.length + 1)) ≤ 128 → (L.length + 1) * 5 < M * 3 →
        wpAny (model P w) A (setRelay a (SetTable.grown (L.length + 1))) (fun _ s1 => wpAny (model P w) A (pure true) Q E s1) E { s with heap := h1 } := fun M g1 g2 g3 g4 =>
      relayN (s := { s with heap := h1 }) ho1 ⟨hex.1, hex.2.1, hex.2.2⟩ rfl ins z1 q3.dm (by rw [sz1, q4]; rcases two with ⟨e, e2⟩ | ⟨e, e2⟩ <;> omega) nd1 key1 pl1 ld1 g1 g2 g3 (by rw [len1]; exact g4)
        fun h2 L2 es2 ep2 t2 sb2 R2 pm2 => wpAny_pure (fin true h2 L2 es2 ep2 t2 (sb.trans sb2) R2 (fun z => absurd z m) fun _ => pm2.trans pm)
    rcases two with ⟨_, e2⟩ | ⟨_, e2⟩
    · exact larger 31 (by rw [e2, size_20]) (.inr (.inl rfl)) (by rw [e2, size_20]; decide) (by omega)
    · exact larger 127 (by rw [e2, size_76]) (.inr (.inr rfl)) (by rw [e2, size_76]; decide) (by omega)
  · have tf : t1.tooFull = false := fillIs.trans (decide_eq_false full)
    have last : wpAny (model P w) A (pure true) Q E { s with heap := h1 } :=
      wpAny_pure (fin true h1 L1 es1 (ep + 1) t1 sb ⟨⟨_, ho1, ⟨hex.1, hex.2.1, hex.2.2⟩, rfl⟩, ins, q3, nd1, key1, pl1, ld1, by rw [len1]; omega⟩ (fun z => absurd z m) fun _ => pm)
    first
      | exact wp_if_neg (by rw [tf]; decide) last
      | exact wpAny_bind (wp_if_neg (by rw [tf]; decide) (wpAny_pure last))
end
end Fx
set_option Elab.async false
set_option linter.all false
set_option autoImplicit false
set_option maxRecDepth 100000
set_option maxHeartbeats 4000000
/-! FyC: set(list of nested tuples). -/
namespace Fx
open PySem PySem.Spec PyProof.Rows L2 SeqAt

/-- what the set has of the first i items -/
structure GotN (ks : KL) (i : Nat) (L : KL) : Prop where
  sub : ∀ p ∈ L, p ∈ ks.take i
  all : ∀ p ∈ ks.take i, p.2 ∈ L.map (·.2)
  len : L.length ≤ i
theorem GotN.start (ks : KL) : GotN ks 0 [] where
  sub := fun p h => (by cases h)
  all := fun p h => (by rw [List.take_zero] at h; cases h)
  len := Nat.le_refl _
theorem take_at {α : Type} {l : List α} {i : Nat} {x : α} (h : l[i]? = some x) : l.take (i + 1) = l.take i ++ [x] := by
  rw [List.take_succ, h]
  rfl
theorem GotN.old {ks L : KL} {i : Nat} {x : Addr × NestedKey} (g : GotN ks i L) (h : ks[i]? = some x) (m : x.2 ∈ L.map (·.2)) : GotN ks (i + 1) L where
  sub := fun p hp => by rw [take_at h]; exact List.mem_append_left _ (g.sub p hp)
  all := fun p hp => by
    rw [take_at h] at hp
    rcases List.mem_append.mp hp with z | z
    · exact g.all p z
    · rw [List.mem_singleton.mp z]; exact m
  len := Nat.le_succ_of_le g.len
theorem GotN.new {ks L L2 : KL} {i : Nat} {x : Addr × NestedKey} (g : GotN ks i L) (h : ks[i]? = some x) (pm : L2.Perm (x :: L)) : GotN ks (i + 1) L2 where
  sub := fun p hp => by
    rw [take_at h]
    rcases List.mem_cons.mp (pm.mem_iff.mp hp) with e | z
    · rw [e]; exact List.mem_append_right _ (List.mem_singleton.mpr rfl)
    · exact List.mem_append_left _ (g.sub p z)
  all := fun p hp => by
    rw [(pm.map (·.2)).mem_iff]
    rw [take_at h] at hp
    rcases List.mem_append.mp hp with z | z
    · exact List.mem_cons_of_mem _ (g.all p z)
    · rw [List.mem_singleton.mp z]; exact List.mem_cons_self
  len := by
    rw [pm.length_eq]
    exact Nat.succ_le_succ g.len
section
variable {P : Program} {w : World} {A : Around} {E : Value → Shared → Prop} {s : Shared}
theorem SetN.later {h h2 : Heap} {a : Addr} {L : KL} {es : Array (Int × Value)} {ep : Nat} {t : SetTable} (R : SetN P w h a L es ep t) (ha : ∀ o, h.get? a = some o → h2.get? a = some o) (hk : ∀ p ∈ L, NK h2 p.2 p.1) : SetN P w h2 a L es ep t := by
  obtain ⟨o, ho, r⟩ := R.ob
  exact ⟨⟨o, ha o ho, r⟩, R.rows, R.tab, R.nd, hk, R.pl, R.led, R.roomy⟩
abbrev freshSet (w : World) : Obj := { cls := .type "set", dict := none, data := .set #[] 0 (.fresh 0 0 (!w.params.followText "set-order")) }
theorem setN_fresh {h : Heap} {a : Addr} (ho : h.get? a = some (freshSet w)) : SetN P w h a [] #[] 0 (.fresh 0 0 (!w.params.followText "set-order")) := by
  have T : TabOk (.fresh 0 0 (!w.params.followText "set-order")) (kHs w []) := ⟨List.Pairwise.nil, rfl, rfl, .inl rfl, fun x hx => (by cases hx), fun i h j hi => (by simp [kHs] at hi)⟩
  refine ⟨⟨_, ho, ⟨rfl, rfl, rfl⟩, rfl⟩, rfl, T, List.nodup_nil, fun p hp => (by cases hp), rfl, ?_, ?_⟩
  · show _ ∨ (!w.params.followText "set-order") = true
    cases w.params.followText "set-order"
    · exact .inr rfl
    · exact .inl rfl
  · show 0 * 5 < 7 * 3
    decide
/-- the loop of set.update -/
theorem updateN {I : Addr} {fp wr : List Addr} {G : Array GenState → Array GenState → Prop} {n : Nat} {Pv : Nat → Value → Prop} {St : Nat → Shared → Prop} {R : Result → Shared → Prop} (W : WalksS P w A.in1 I fp wr G n Pv St) (S : Addr) (off : S ∉ fp) (ks : KL)
    (hn : n = ks.length) (few : ks.length < 77) (items : ∀ i v, Pv i v → ∃ p, ks[i]? = some p ∧ v = .ref p.1) (h0 : Heap) (hk : ∀ p ∈ ks, NK h0 p.2 p.1) (hS : h0.get? S = none) (hw : ∀ b ∈ wr, h0.get? b = none) (hu : A.in1.units + 8 < cLine)
    (fin : ∀ s0 s2 L es ep t, Moved (S :: wr) G s0 s2 → SetN P w s2.heap S L es ep t → GotN ks n L → (∀ b o, h0.get? b = some o → s2.heap.get? b = some o) → True) :
    ∀ (m i : Nat) (s : Shared), n - i = m → i ≤ n → St i s → (∀ b o, h0.get? b = some o → s.heap.get? b = some o) → (∃ L es ep t, SetN P w s.heap S L es ep t ∧ GotN ks i L) →
      (∀ s2 L es ep t, Moved (S :: wr) G s s2 → SetN P w s2.heap S L es ep t → GotN ks n L → (∀ b o, h0.get? b = some o → s2.heap.get? b = some o) → R (.ok (.ret .none)) s2) → codeAny (model P w) A (.builtin "set.update.loop" ⟨[.ref S, .ref I], []⟩) R s := by
  have offw : S ∉ wr := fun z => off (W.sub _ z)
  have wider : ∀ b ∈ wr, b ∈ S :: wr := fun b hb => List.mem_cons_of_mem _ hb
  have kept : ∀ {s s2 : Shared}, Moved wr G s s2 → (∀ b o, h0.get? b = some o → s.heap.get? b = some o) → ∀ b o, h0.get? b = some o → s2.heap.get? b = some o := fun mv k b o e => mv.heap b o (fun hb => by rw [hw b hb] at e; cases e) (k b o e)
  intro m
  induction m with
  | zero =>
    intro i s hm hi hst k ⟨L, es, ep, t, hN, g⟩ out
    have e : i = n := by omega
    rw [e] at hst g
    refine codeAny_builtin F.entry_set_update_loop ?_
    rw [Around.under_plainId F.plain_set_update_loop _]
    show wpAny _ A.in1 (pyNext (.ref I) >>= _) _ _ s
    refine wpAny_bind (W.done s _ _ hst fun s2 mv => ?_)
    have k2 := kept mv k
    refine wpAny_pure (out s2 L es ep t (mv.mono wider) (hN.later (fun o z => mv.heap S o offw z) fun p hp => (hk p (List.mem_of_mem_take (g.sub p hp))).later k2) g k2)
  | succ m ih =>
    intro i s hm hi hst k ⟨L, es, ep, t, hN, g⟩ out
    have lt : i < n := by omega
    refine codeAny_builtin F.entry_set_update_loop ?_
    rw [Around.under_plainId F.plain_set_update_loop _]
    show wpAny _ A.in1 (pyNext (.ref I) >>= _) _ _ s
    refine wpAny_bind (W.item i s _ _ lt hst fun v s2 hv hst2 mv => ?_)
    obtain ⟨p, hp, rfl⟩ := items i v hv
    have k2 := kept mv k
    have hN2 : SetN P w s2.heap S L es ep t := hN.later (fun o z => mv.heap S o offw z) fun q hq => (hk q (List.mem_of_mem_take (g.sub q hq))).later k2
    have hx : NK s2.heap p.2 p.1 := (hk p (List.mem_of_getElem? hp)).later k2
    show wpAny _ A.in1 (holding [Value.ref p.1] (setAdd S (.ref p.1)) >>= _) _ _ s2
    refine wpAny_bind (wpAny_holding ?_)
    unfold setAdd
    have hd := hx.dep
    refine wpAny_holding (wpAny_bind (pyHash_key p.2 _ A.in1 s2 _ hx.is (by omega) ?_))
    refine addN (s := { s2 with toks := s2.toks + p.2.draws }) hN2 hx hu (by have := g.len; omega) fun b h3 L3 es3 ep3 t3 sb hN3 c1 c2 => ?_
    have g3 : GotN ks (i + 1) L3 := by
      by_cases c : p.2 ∈ L.map (·.2)
      · rw [c1 c]; exact g.old hp c
      · exact g.new hp (c2 c)
    have k3 : ∀ b o, h0.get? b = some o → h3.get? b = some o := fun b o e => (sb.2 b (fun z => by rw [z, hS] at e; cases e)).trans (k2 b o e)
    refine wpAny_pure ⟨plainId_quiet F.plain_set_update_loop _, ih (i + 1) _ (by omega) lt (W.frame _ s2 _ _ hst2 (Nat.le_add_right _ _) fun b hb o e => ?_) k3 ⟨L3, es3, ep3, t3, hN3, g3⟩ fun s4 L4 es4 ep4 t4 mv4 hN4 g4 k4 => ?_⟩
    · exact (sb.2 b (fun z : b = S => off (by rw [← z]; exact hb))).trans e
    · refine out s4 L4 es4 ep4 t4 (Moved.trans W.gtrans ((mv.mono wider).then_heap (Nat.le_add_right _ _) fun b o hb e => ?_) mv4) hN4 g4 k4
      exact (sb.2 b (fun z : b = S => hb (by rw [z]; exact List.mem_cons_self))).trans e

set_option maxHeartbeats 8000000 in
/-- set(xs) -/
theorem call_setN {l : Addr} {items : Array Value} (ks : KL) {Q : Value → Shared → Prop} (hh : A.handled = none) (hl : s.heap.IsList l items) (hit : items.toList = ks.map fun p => Value.ref p.1) (hk : ∀ p ∈ ks, NK s.heap p.2 p.1) (few : ks.length < 77) (hu : A.units + 11 < cLine)
    (fin : ∀ (h2 : Heap) (tk : Nat) L es ep t, SetN P w h2 s.heap.objs.size L es ep t → GotN ks ks.length L → (∀ b o, s.heap.get? b = some o → h2.get? b = some o) → Q (.ref s.heap.objs.size) { s with heap := h2, toks := tk }) :
    wpAny (model P w) A (call (.type "set") [.ref l]) Q E s := by
  have iz : items.size = ks.length := by rw [← Array.length_toList, hit, List.length_map]
  obtain ⟨c, tl, hmro⟩ := F.called_set.mro
  have hmade := F.called_set.made
  have hsub := F.called_set.sub
  refine wpAny_call (codeAny_of_tree ?_)
  show wpAny _ _ (callAny (.type "set") _) _ _ _
  refine wpAny_pure ⟨Code.quiet_builtin _ (by decide +kernel), codeAny_builtin F.entry_type_call ?_⟩
  rw [Around.under_plain (weight_type_call_type "set" [.ref l] []) rfl]
  have y1 := F.called_set.notType
  have y2 := F.called_set.canCreate
  have y3 := F.typeCall_set_1 (.ref l)
  repeat (any_goals (first | assumption | wp_step))
  refine codeAny_mono (code_set_led1 (.ref l) (E := E) (Q₁ := fun ob s1 => ob = .ref s.heap.objs.size ∧ s1 = { s with heap := s.heap.push (freshSet w) }) ⟨rfl, rfl⟩) fun r s1 hr => ?_
  cases r with
  | error e => exact hr
  | ok fl =>
    cases fl with
    | ret ob =>
      obtain ⟨rfl, rfl⟩ := hr
      have gS : (s.heap.push (freshSet w)).get? s.heap.objs.size = some (freshSet w) := Heap.get?_push_size _ rfl
      have tS : Shared.TypeIs { s with heap := s.heap.push (freshSet w) } (.ref s.heap.objs.size) "set" := ⟨_, gS, rfl⟩
      have y4 := F.called_set.init.lookup
      have y5 := F.called_set.init.bind (.ref s.heap.objs.size)
      repeat (any_goals (first | assumption | wp_step))
      refine codeAny_mono (codeAny_call_builtin (R := wants (fun r s2 => r = .none ∧ ∃ h2 tk L es ep t, s2 = { s with heap := h2, toks := tk } ∧ SetN P w h2 s.heap.objs.size L es ep t ∧ GotN ks ks.length L ∧ (∀ b o, s.heap.get? b = some o → h2.get? b = some o)) E) F.called_set.init.plain F.entry_set_init (check_set_init_1 tS ?_)) fun r2 s2 hr2 => ?_
      · obtain ⟨⟨ocls, odict, odata, oslots⟩, hol, hcl, nl, hdl⟩ := hl
        dsimp only at hcl hdl
        subst hcl hdl
        have hol2 : (s.heap.push (freshSet w)).get? l = some { cls := .type "list", dict := odict, data := .seq items nl, slots := oslots } := Heap.get?_push_of_some _ hol
        have z1 := F.sub_list_set
        have z2 := F.sub_list_frozenset
        have z3 : (Value.type "list" == Value.type "dict") = false := by decide
        have hl2 : (s.heap.push (freshSet w)).IsList l items := ⟨_, hol2, rfl, nl, rfl⟩
        unfold Builtin.«set.__init__» noKeywords Builtin.Frozenset.updateFrom
        generalize hPI : pyIter = PI
        wp_walk
        subst hPI
        refine wpAny_pyIter_list hl2 (wpAny_bind (wpAny_runValue ?_))
        have lS : l < s.heap.objs.size := Heap.lt_size hol
        have szS : (s.heap.push (freshSet w)).objs.size = s.heap.objs.size + 1 := Heap.size_push ..
        have hh3 : A.in1.in1.in1.handled = none := by simp [hh]
        have apart : l ≠ (s.heap.push (freshSet w)).objs.size := by rw [szS]; exact Nat.ne_of_lt (Nat.lt_succ_of_lt lS)
        have offS : s.heap.objs.size ∉ [(s.heap.push (freshSet w)).objs.size, l] := by
          rw [szS]
          simp only [List.mem_cons, List.not_mem_nil, or_false, not_or]
          exact ⟨Nat.ne_of_lt (Nat.lt_succ_self _), fun e => absurd lS (by rw [← e]; exact Nat.lt_irrefl _)⟩
        have none_at : ∀ b, s.heap.objs.size ≤ b → s.heap.get? b = none := fun b hb => by
          cases q : s.heap.get? b with
          | none => rfl
          | some o => exact absurd (Nat.lt_of_lt_of_le (Heap.lt_size q) hb) (Nat.lt_irrefl _)
        refine updateN ((Walks.list hh3 _ l apart items).toS) s.heap.objs.size offS ks iz few (fun i v hv => ?_) s.heap hk (none_at _ (Nat.le_refl _)) (fun b hb => none_at b (by rw [List.mem_singleton.mp hb, szS]; exact Nat.le_succ _))
          (show A.units + 3 + 8 < cLine from hu) (fun _ _ _ _ _ _ _ _ _ _ => trivial) (items.size - 0) 0 _ rfl (Nat.zero_le _) ⟨⟨_, Heap.get?_push_size _ rfl, rfl, rfl⟩, hl2.push _⟩ (fun b o e => Heap.get?_push_of_some _ (Heap.get?_push_of_some _ e)) ?_ ?_
        · have q : items.toList[i]? = some v := by rw [Array.getElem?_toList]; exact hv
          rw [hit, List.getElem?_map] at q
          obtain ⟨p, hp, e⟩ := Option.map_eq_some_iff.mp q
          exact ⟨p, hp, e.symm⟩
        · exact ⟨[], #[], 0, _, setN_fresh (Heap.get?_push_of_some _ gS), GotN.start ks⟩
        · intro s3 L es ep t mv hN g k
          obtain ⟨h3, g3, d3, tk3, os3⟩ := s3
          have e1 : g3 = s.gens := mv.gens
          have e2 : d3 = s.drawn := mv.drawn
          have e3 : os3 = s.os := mv.os
          subst e1 e2 e3
          rw [iz] at g
          exact wpAny_pure (wpAny_pure ⟨rfl, h3, tk3, L, es, ep, t, rfl, hN, g, k⟩)
      · cases r2 with
        | error e => exact hr2
        | ok fl2 =>
          cases fl2 with
          | ret r =>
            obtain ⟨rfl, h2, tk, L, es, ep, t, rfl, hN, g, k⟩ := hr2
            repeat (any_goals (first | assumption | wp_step))
            exact fin _ _ _ _ _ _ hN g k
          | _ => exact hr2.elim
    | _ => exact hr.elim
end
end Fx
set_option Elab.async false
set_option linter.all false
set_option autoImplicit false
set_option maxRecDepth 100000
set_option maxHeartbeats 4000000
/-! FyD: lists of tuples of which some are empty, sorted. -/
namespace Fx
open PySem PySem.Spec PyProof.Rows PySem.W PySem.SeqAt PySem.Calls

def emptyT : PyData → Bool
  | .tuple [] => true
  | _ => false
section
variable {A : Around} {s : Shared} {prog : Program} {w : World} {E : Value → Shared → Prop}
/-- tuple's own __lt__, called -/
theorem tup_lt_call {Q : Value → Shared → Prop} {l b : Addr} {xs ys : Array Value} {e r : Nat → Bool} (hl : s.heap.IsTuple l xs) (hb : s.heap.IsTuple b ys)
    (he : ∀ j (h1 : j < xs.size) (h2 : j < ys.size), EqAt A.in1 s xs[j] ys[j] (e j)) (hr : ∀ j (h1 : j < xs.size) (h2 : j < ys.size), e j = false → RcLt A.in1 s xs[j] ys[j] (r j))
    (q : Q (.bool (firstLt e r (decide (xs.size < ys.size)) (List.range (min xs.size ys.size)))) s) : wpAny (model prog w) A (call (.builtin "tuple.__lt__") [.ref l, .ref b]) Q E s := by
  obtain ⟨⟨c1, d1, t1, s1⟩, h1, h2, n1, h3⟩ := hl
  obtain ⟨⟨c2, d2, t2, s2⟩, k1, k2, n2, k3⟩ := hb
  dsimp only at h2 h3 k2 k3
  subst h2 h3 k2 k3
  exact call_meets F.slot_tuple_lt ⟨_, h1, rfl⟩ F.entry_tuple_lt (F.args_tuple_lt_2 _ _) (tuple_ltAt l b xs ys n1 n2 d1 d2 s1 s2 e r) ⟨h1, k1, he, hr, q⟩
/-- two tuples, as sorting compares keys of one type -/
theorem one_tup {xs ys : List PyData} {a b : Value} {as bs : List Addr} {Q : Bool → Shared → Prop} (ra : Reads s.heap a (.tuple xs) as) (rb : Reads s.heap b (.tuple ys) bs) (h : alikeAll xs ys = true)
    (hu : A.units + min (PyData.tuple xs).depth (PyData.tuple ys).depth < cLine) (q : Q (dataLt (.tuple xs) (.tuple ys)) s) : wpAny (model prog w) A (oneLt' true a b) Q E s := by
  cases ra with
  | @tuple l o vs n _ as' h1 h2 h3 h4 =>
    cases rb with
    | @tuple l' o' vs' n' _ bs' k1 k2 k3 k4 =>
      have n1 : vs.size = xs.length := by simpa using SeqAt.ReadsAll.length _ _ _ h4
      have n2 : vs'.size = ys.length := by simpa using SeqAt.ReadsAll.length _ _ _ k4
      rw [dataLt_tuple, ← firstLt_toks xs ys h, ← n1, ← n2] at q
      rw [oneLt'_eq]
      simp only [if_true]
      refine wpAny_bind (wpAny_cRoomFor (room_here hu) ?_)
      refine wpAny_bind (wpAny_callSpecialIfBound?_slot (T := "tuple") ⟨_, h1, h2⟩ F.slot_tuple_lt (tup_lt_call (e := pairEq xs ys) (r := fun j => dataLt (xs.getD j .none) (ys.getD j .none)) ⟨_, h1, h2, _, h3⟩ ⟨_, k1, k2, _, k3⟩ (fun j j1 j2 => ?_) (fun j j1 j2 hj => ?_) ?_))
      · have z := eqAt_alikeAll xs ys A.in1 s vs.toList vs'.toList _ _ h4 k4 h (room_in hu) j (by simpa using j1) (by simpa using j2)
        simpa using z
      · have z := rcLt_alikeAll xs ys A.in1 s vs.toList vs'.toList _ _ h4 k4 h (room_in hu) j (by simpa using j1) (by simpa using j2) hj
        simpa using z
      · exact wpAny_truthy_bool q
/-- the first items of the keys: none of an empty tuple -/
theorem firsts_some : ∀ {vs : List Value} {ds : List PyData}, EachIs (fun v d => ∃ as, Reads s.heap v d as) vs ds → (∀ d, d ∈ ds → ∃ xs, d = .tuple xs) →
    ∃ fs : List (Option Value), (∀ {M : Model} {Q : List (Option Value) → Shared → Prop}, Q fs s → wpAny M A (vs.mapM firstOfTuple') Q E s) ∧ fs.map Option.isSome = ds.map fun d => !emptyT d
  | _, _, .nil, _ => ⟨[], fun q => by rw [List.mapM_nil]; exact wpAny_pure q, rfl⟩
  | _, _, .cons (a := v) (b := d) ⟨as, r⟩ t, ht => by
    obtain ⟨fs, h1, h2⟩ := firsts_some t fun d hd => ht d (List.mem_cons_of_mem _ hd)
    obtain ⟨xs, rfl⟩ := ht d List.mem_cons_self
    cases r with
    | @tuple a o ws n _ _ ho hc hd hr =>
      refine ⟨ws[0]? :: fs, fun {M Q} q => ?_, ?_⟩
      · rw [List.mapM_cons]
        refine wpAny_bind ?_
        rw [kas_first_eq]
        refine wpAny_bind (Looks.here (show Looks M s.heap (typeOf (.ref a)) o.cls from (Looks.ld ho).andThen .now) ?_)
        rw [hc, if_neg (by first | decide | simp)]
        exact wpAny_bind (listItems_at ho hd (wpAny_pure (wpAny_bind (h1 (Q := fun bs s2 => wpAny M A (pure (ws[0]? :: bs)) Q E s2) (wpAny_pure q)))))
      · rw [List.map_cons, List.map_cons, h2]
        congr 1
        have hl := SeqAt.ReadsAll.length _ _ _ hr
        cases xs with
        | nil =>
          have z : ws.size = 0 := by simpa using hl
          rw [Array.getElem?_eq_none (by omega)]
          rfl
        | cons x xs =>
          have z : 0 < ws.size := by
            have : ws.size = xs.length + 1 := by simpa using hl
            omega
          rw [Array.getElem?_eq_getElem z]
          rfl
/-- tuples, some of them empty, can be sorted -/
theorem sortsTups {vs : List Value} {ds : List PyData} (e : EachIs (fun v d => ∃ as, Reads s.heap v d as) vs ds) (hal : AllAlike ds) (ht : ∀ d, d ∈ ds → ∃ xs, d = .tuple xs) (hu : ∀ d, d ∈ ds → A.units + d.depth < cLine) : SortsAt prog w A s (dataKind s.heap ds) vs := by
  by_cases all : ∀ d, d ∈ ds → ∃ x r, d = .tuple (x :: r)
  · exact SortsAt.data e hal (.inl all) hu
  have some_empty : (ds.map fun d => !emptyT d).all id = false := by
    rw [Bool.eq_false_iff]
    intro z
    refine all fun d hd => ?_
    obtain ⟨xs, rfl⟩ := ht d hd
    have z2 := List.all_eq_true.mp z _ (List.mem_map.mpr ⟨_, hd, rfl⟩)
    cases xs with
    | nil => cases z2
    | cons x r => exact ⟨x, r, rfl⟩
  have room : ∀ {d d' : PyData}, d ∈ ds → A.units + min d.depth d'.depth < cLine := fun {d d'} hd => Nat.lt_of_le_of_lt (Nat.add_le_add_left (Nat.min_le_left _ _) _) (hu d hd)
  refine ⟨fun v hv => ?_, ?_⟩
  · obtain ⟨d, hd, as, r⟩ := e.left v hv
    exact ⟨_, dataKind_some hal hd r⟩
  · have run : ∀ (E : Value → Shared → Prop) {Q : SortKind → Shared → Prop}, 2 ≤ vs.length → Q (if (ds.head?.map fun d => emptyT d) = some false then general' else oneType') s → wpAny (model prog w) A (keyKind' vs.toArray) Q E s := fun E {Q} h2 q => by
      obtain ⟨fs, h1, hf⟩ := firsts_some (A := A) (E := E) e ht
      have hall : ¬ (fs.toArray.all fun x => x.isSome) = true := by
        intro z
        have z2 : (fs.map Option.isSome).all id = true := by
          rw [List.all_map]
          simpa using z
        rw [hf, some_empty] at z2
        cases z2
      rw [kat_kind_eq, List.mapM_toArray, map_eq_pure_bind]
      refine wpAny_bind (wpAny_bind (h1 (wpAny_pure ?_)))
      rw [if_neg hall]
      have hd0 : (fs.toArray[0]?.bind id).isSome = ((ds.map fun d => !emptyT d).head?.getD false) := by
        rw [← hf]
        cases fs with
        | nil => rfl
        | cons f fr => cases f <;> rfl
      cases ds with
      | nil =>
        cases e
        simp at h2
      | cons d0 dr =>
        by_cases hz : emptyT d0 = true
        · rw [if_neg (by rw [hd0]; simp [hz])]
          have q' : Q oneType' s := by simpa [hz] using q
          rw [oneTypeOnly'_eq, List.mapM_toArray, map_eq_pure_bind]
          refine wpAny_bind (wpAny_bind (wpAny_bind (kas_mapM (r := Value.type "tuple") vs (fun v hv Q' hq => ?_) (wpAny_pure ?_))))
          · obtain ⟨d, hd, as, r⟩ := e.left v hv
            obtain ⟨xs, rfl⟩ := ht d hd
            exact (looks_reads r).here hq
          · have h3 : (List.map (fun _ => Value.type "tuple") vs).toArray[0]? = some (Value.type "tuple") := by
              cases vs with
              | nil => simp at h2
              | cons v vr => simp
            have h4 : ((List.map (fun _ => Value.type "tuple") vs).toArray.all fun x => x == Value.type "tuple") = true := by
              simp only [List.all_toArray, List.all_map, List.all_eq_true]
              intro _ _
              rfl
            rw [h3]
            simp only [h4, if_true]
            exact wpAny_pure (wpAny_pure q')
        · rw [if_pos (by rw [hd0]; simp [hz])]
          have q' : Q general' s := by simpa [hz] using q
          exact wpAny_pure q'
    refine ⟨if (ds.head?.map fun d => emptyT d) = some false then general' else oneType', fun E x y a b Q ha hb hq => ?_, fun h2 E Q hq => run E h2 hq⟩
    obtain ⟨d, as, hd, ra, rfl⟩ := dataKind_inv ha
    obtain ⟨d', as', hd', rb, rfl⟩ := dataKind_inv hb
    have hdd := hal d hd d' hd'
    have hroom := room (d' := d') hd
    have hq : Q (dataLt d d') s := hq
    obtain ⟨xs, rfl⟩ := ht d hd
    obtain ⟨ys, rfl⟩ := ht d' hd'
    split
    · show wpAny (model prog w) A (oneLt' false x y) Q E s
      exact oneLt_alike (fun z => by cases z) ra rb hdd (fun z => by cases z) hroom hq
    · show wpAny (model prog w) A (oneLt' true x y) Q E s
      exact one_tup ra rb (by simpa [alike] using hdd) hroom hq
end
end Fx
set_option Elab.async false
set_option linter.all false
set_option autoImplicit false
set_option maxRecDepth 100000
set_option maxHeartbeats 4000000
/-! FyE: sorted of a list, of a set. -/
namespace Fx
open PySem PySem.Spec PyProof.Rows PySem.W PySem.SeqAt PySem.Calls L2

section
variable {A : Around} {s : Shared} {P : Program} {w : World} {E : Value → Shared → Prop} {β : Type} {vs : List Value} {bs : List β} {enc : β → PyData} {R : Value → β → Prop}
/-- what can be sorted -/
def CanSort (ds : List PyData) : Prop := Sortable ds ∨ ∀ d, d ∈ ds → ∃ xs, d = .tuple xs
theorem canSort {ds : List PyData} (e : EachIs (fun v d => ∃ as, Reads s.heap v d as) vs ds) (hal : AllAlike ds) (h : CanSort ds) (hu : ∀ d, d ∈ ds → A.units + d.depth < cLine) : SortsAt P w A s (dataKind s.heap ds) vs := by
  rcases h with h | h
  · exact SortsAt.data e hal h hu
  · exact sortsTups e hal h hu
theorem sorted_lst {l : Addr} {Q : Value → Shared → Prop} (hl : s.heap.IsList l vs.toArray) (e : EachIs R vs bs) (er : EachIs (fun v b => ∃ as, Reads s.heap v (enc b) as) vs bs) (hal : AllAlike (bs.map enc)) (hk : CanSort (bs.map enc)) (hL : bs.length ≤ sizeLine)
    (hu : ∀ b, b ∈ bs → A.units + 2 + (enc b).depth < cLine) (q : ∀ out, EachIs R out (bs.mergeSort (dataLe false enc)) → Q (.ref (s.heap.objs.size + 1)) { s with heap := sortedAll s.heap vs (List.toArray out) }) : wpAny (model P w) A (call (.builtin "sorted") [.ref l]) Q E s := by
  have er2 : EachIs (fun v b => ∃ as, Reads (sortingHeap (copyHeap s.heap vs) (s.heap.objs.size + 1) vs) v (enc b) as) vs bs := er.mono fun _ _ ⟨as, r⟩ => ⟨as, PyProof.Rows.Reads.keeps (fun _ _ z => sorting_copy_old z) r⟩
  refine sorted_vals hl (canSort (s := { s with heap := sortingHeap (copyHeap s.heap vs) (s.heap.objs.size + 1) vs }) (each_map (R := fun v d => ∃ as, Reads (sortingHeap (copyHeap s.heap vs) (s.heap.objs.size + 1) vs) v d as) enc er2) hal hk (bound_map hu)) (by rw [e.length]; exact hL) (q _ (sortVals_data false e er2 hal))

/-! ### a set -/
theorem refs_list : ∀ {L : KL} {vs : List Value}, (∀ v ∈ vs, ∃ p ∈ L, v = Value.ref p.1) → ∃ L1 : KL, vs = L1.map (fun p => Value.ref p.1) ∧ ∀ p ∈ L1, p ∈ L
  | _, [], _ => ⟨[], rfl, fun _ h => nomatch h⟩
  | L, v :: vs, h => by
    obtain ⟨p, hp, e⟩ := h v List.mem_cons_self
    obtain ⟨L1, e1, h1⟩ := refs_list fun u hu => h u (List.mem_cons_of_mem _ hu)
    refine ⟨p :: L1, by rw [List.map_cons, ← e, ← e1], fun r hr => ?_⟩
    rcases List.mem_cons.mp hr with z | z
    · rw [z]; exact hp
    · exact h1 r z
theorem refs_perm {L L1 : KL} (inj : ∀ p ∈ L, ∀ r ∈ L, p.1 = r.1 → p = r) (nd : L.Nodup) (sub : ∀ p ∈ L1, p ∈ L) (pm : (L1.map fun p => Value.ref p.1).Perm (L.map fun p => Value.ref p.1)) : L1.Perm L := by
  have n0 : (L.map fun p => Value.ref p.1).Nodup := List.pairwise_map.mpr (List.Pairwise.imp_of_mem (fun {p r} hp hr hne e => hne (inj p hp r hr (Value.ref.inj e))) nd)
  have n1 : L1.Nodup := nodup_of_map (pm.nodup_iff.mpr n0)
  refine (List.perm_ext_iff_of_nodup n1 nd).mpr fun p => ⟨sub p, fun hp => ?_⟩
  obtain ⟨r, hr, e⟩ := List.mem_map.mp (pm.mem_iff.mpr (List.mem_map.mpr ⟨p, hp, rfl⟩))
  rw [← inj r (sub r hr) p hp (Value.ref.inj e)]
  exact hr
variable {a : Addr} {L : KL} {es : Array (Int × Value)} {ep : Nat} {t : SetTable}
theorem sorted_setN {Q : Value → Shared → Prop} (N : SetN P w s.heap a L es ep t) (hh : A.handled = none) (few : L.length < 4000) {enc : Addr × NestedKey → PyData} (er : ∀ p ∈ L, ∃ as, Reads s.heap (.ref p.1) (enc p) as) (hal : AllAlike (L.map enc)) (hk : CanSort (L.map enc))
    (hu : ∀ p ∈ L, A.units + 2 + (enc p).depth < cLine)
    (q : ∀ s2 p (out : Array Value) (c : Nat) (L2 : KL), (∀ b o, s.heap.get? b = some o → s2.heap.get? b = some o) → s2.gens = s.gens → s2.os = s.os → s.heap.objs.size ≤ p → s2.heap.get? p = some (seqObj "list" out c) → out.toList = L2.map (fun r => Value.ref r.1) → L2.Perm L →
      L2.Pairwise (fun r r' => dataLe false enc r r' = true) → Q (.ref p) s2) : wpAny (model P w) A (call (.builtin "sorted") [.ref a]) Q E s := by
  obtain ⟨o, ho, hex, hd⟩ := N.ob
  have len := N.len
  refine Calls.call_function_entry kind_sorted plain_sorted entry_sorted (args_sorted1 _) ?_
  unfold Builtin.«sorted»
  refine wpAny_bind (m := checkCount "sorted" 1 1 _) (wpAny_pure ?_)
  refine wpAny_bind (collect_set (A := A.in1) hh ⟨o, ho, hex.1, hd⟩ N.fit (by unfold scanBound; omega) N.tab.ris N.led fun s1 vs k1 z1 g1 o1 pm => ?_)
  rw [N.rows, List.map_map] at pm
  have pm : vs.Perm (L.map fun p => Value.ref p.1) := pm
  obtain ⟨L1, rfl, sub⟩ := refs_list (L := L) (vs := vs) fun v hv => by
    obtain ⟨p, hp, e⟩ := List.mem_map.mp (pm.mem_iff.mp hv)
    exact ⟨p, hp, e.symm⟩
  have pL := refs_perm (fun p hp r hr e => Prod.ext e ((N.key p hp).one (by rw [e]; exact N.key r hr))) (nodup_of_map N.nd) sub pm
  have l1 : L1.length = L.length := pL.length_eq
  refine wpAny_bind (wpAny_newList ?_ (by rw [List.length_map, sizeLine_eq]; omega))
  generalize hvs : (L1.map fun p => Value.ref p.1) = vs at pm ⊢
  have hoL : (s1.heap.push (seqObj "list" vs.toArray 0)).get? s1.heap.objs.size = some (seqObj "list" vs.toArray 0) := Heap.get?_push_size _ rfl
  have each : EachIs (fun v p => v = Value.ref p.1) vs L1 := by
    rw [← hvs]
    have all : ∀ M : KL, EachIs (fun v p => v = Value.ref p.1) (M.map fun p => Value.ref p.1) M := fun M => by
      induction M with
      | nil => exact .nil
      | cons p r ih => exact .cons rfl ih
    exact all L1
  have keep : ∀ b u, s.heap.get? b = some u → (sortingHeap (s1.heap.push (seqObj "list" vs.toArray 0)) s1.heap.objs.size vs).get? b = some u := fun b u e =>
    sortingHeap_old (Nat.ne_of_lt (Heap.lt_size (k1 b u e))) (Heap.get?_push_of_some _ (k1 b u e))
  have reads : EachIs (fun v p => ∃ as, Reads (sortingHeap (s1.heap.push (seqObj "list" vs.toArray 0)) s1.heap.objs.size vs) v (enc p) as) vs L1 := by
    refine (each_mem each).mono fun v p ⟨e, hp⟩ => ?_
    obtain ⟨as, r⟩ := er p (sub p hp)
    exact ⟨as, by rw [e]; exact PyProof.Rows.Reads.keeps keep r⟩
  have hal1 : AllAlike (L1.map enc) := fun d hd d' hd' => hal d ((pL.map enc).mem_iff.mp hd) d' ((pL.map enc).mem_iff.mp hd')
  have hk1 : CanSort (L1.map enc) := by
    rcases hk with (h | h) | h
    · exact .inl (.inl fun d hd => h d ((pL.map enc).mem_iff.mp hd))
    · exact .inl (.inr fun d hd => h d ((pL.map enc).mem_iff.mp hd))
    · exact .inr fun d hd => h d ((pL.map enc).mem_iff.mp hd)
  have hu1 : ∀ d, d ∈ L1.map enc → A.in1.in1.units + d.depth < cLine := fun d hd => by
    obtain ⟨p, hp, rfl⟩ := List.mem_map.mp hd
    exact hu p (sub p hp)
  have S := canSort (P := P) (w := w) (A := A.in1.in1) (s := { s1 with heap := sortingHeap (s1.heap.push (seqObj "list" vs.toArray 0)) s1.heap.objs.size vs }) (each_map (R := fun v d => ∃ as, Reads (sortingHeap (s1.heap.push (seqObj "list" vs.toArray 0)) s1.heap.objs.size vs) v d as) enc reads) hal1 hk1 hu1
  have out := sortVals_data (h' := sortingHeap (s1.heap.push (seqObj "list" vs.toArray 0)) s1.heap.objs.size vs) false each reads hal1
  have lv : vs.length ≤ sizeLine := by rw [each.length, l1, sizeLine_eq]; omega
  refine wpAny_bind (wpAny_holding (wpAny_call_entry slot_list_sort ⟨_, hoL, rfl⟩ entry_list_sort (list_sort_vals (s := { s1 with heap := s1.heap.push (seqObj "list" vs.toArray 0) }) hoL S lv ⟨_, rfl, ?_⟩) (args_list_sort _)))
  obtain ⟨c, hc⟩ := sortedHeap_at (vs := vs) (out := (sortVals (dataKind (sortingHeap (s1.heap.push (seqObj "list" vs.toArray 0)) s1.heap.objs.size vs) (L1.map enc)) false vs vs).toArray) hoL
  refine wpAny_pure ⟨_, rfl, q _ s1.heap.objs.size _ c (L1.mergeSort (dataLe false enc)) (fun b u e => ?_) g1 o1 z1 hc ?_ ((List.mergeSort_perm _ _).trans pL) (sort_pairwise (sortLe_total _ _ _) L1)⟩
  · have z := k1 b u e
    have lt := Heap.lt_size z
    show (sortedHeap (s1.heap.push (seqObj "list" vs.toArray 0)) s1.heap.objs.size vs _).get? b = some u
    rw [sortedHeap_old (Nat.ne_of_lt lt) (by rw [size_push']; exact Nat.lt_succ_of_lt lt)]
    exact Heap.get?_push_of_some _ z
  · generalize sortVals (dataKind (sortingHeap (s1.heap.push (seqObj "list" vs.toArray 0)) s1.heap.objs.size vs) (L1.map enc)) false vs vs = o2 at out
    generalize L1.mergeSort (dataLe false enc) = m2 at out
    clear hc S
    show o2 = _
    induction out with
    | nil => rfl
    | cons h t ih => rw [List.map_cons, h, ih]
end
end Fx
set_option Elab.async false
set_option linter.all false
set_option autoImplicit false
/-! FxA: data, store, a small abstract syntax for a part of Python, and its evaluator (plain Lean). -/
namespace Fx
open PySem (Operator CmpOp)

/-! ### data: what is never changed is a value; what may change stands in the store -/
inductive D where
  | non | bl (b : Bool) | int (i : Int) | str (s : List Nat) | tup (xs : List D) | ref (n : Nat)
  deriving Inhabited

mutual
def D.beq : D → D → Bool
  | .non, .non => true
  | .bl a, .bl b => a == b
  | .int a, .int b => a == b
  | .str a, .str b => a == b
  | .tup a, .tup b => D.beqs a b
  | .ref a, .ref b => a == b
  | _, _ => false
def D.beqs : List D → List D → Bool
  | [], [] => true
  | a :: as, b :: bs => D.beq a b && D.beqs as bs
  | _, _ => false
end
mutual
theorem D.beq_eq : ∀ {a b : D}, D.beq a b = true → a = b
  | .non, b, h => by cases b <;> first | rfl | (simp [D.beq] at h)
  | .bl x, b, h => by cases b <;> first | (simp [D.beq] at h; rw [h]) | (simp [D.beq] at h)
  | .int x, b, h => by cases b <;> first | (simp [D.beq] at h; rw [h]) | (simp [D.beq] at h)
  | .str x, b, h => by cases b <;> first | (simp [D.beq] at h; rw [h]) | (simp [D.beq] at h)
  | .ref x, b, h => by cases b <;> first | (simp [D.beq] at h; rw [h]) | (simp [D.beq] at h)
  | .tup x, b, h => by
    cases b with
    | tup y => rw [D.beqs_eq (a := x) (b := y) (by simpa [D.beq] using h)]
    | _ => simp [D.beq] at h
theorem D.beqs_eq : ∀ {a b : List D}, D.beqs a b = true → a = b
  | [], [], _ => rfl
  | [], _ :: _, h => by simp [D.beqs] at h
  | _ :: _, [], h => by simp [D.beqs] at h
  | x :: xs, y :: ys, h => by
    have q : D.beq x y = true ∧ D.beqs xs ys = true := by simpa [D.beqs] using h
    rw [D.beq_eq q.1, D.beqs_eq q.2]
end
mutual
theorem D.beq_refl : ∀ a : D, D.beq a a = true
  | .non => rfl
  | .bl x => by simp [D.beq]
  | .int x => by simp [D.beq]
  | .str x => by simp [D.beq]
  | .ref x => by simp [D.beq]
  | .tup x => by simpa [D.beq] using D.beqs_refl x
theorem D.beqs_refl : ∀ a : List D, D.beqs a a = true
  | [] => rfl
  | x :: xs => by simp [D.beqs, D.beq_refl x, D.beqs_refl xs]
end
instance : DecidableEq D := fun a b =>
  if h : D.beq a b = true then isTrue (D.beq_eq h) else isFalse fun e => h (e ▸ D.beq_refl a)

mutual
/-- no truth value and nothing of the store in it -/
def D.nb : D → Bool
  | .non => true
  | .bl _ => false
  | .int _ => true
  | .str s => s.all fun c => decide (c < 1114112)
  | .tup xs => D.nbs xs
  | .ref _ => false
def D.nbs : List D → Bool
  | [] => true
  | x :: xs => D.nb x && D.nbs xs
end
mutual
/-- it names only the first n places of the store -/
def D.wf (n : Nat) : D → Bool
  | .tup xs => D.wfs n xs
  | .ref k => decide (k < n)
  | .non => true
  | .bl _ => true
  | .int _ => true
  | .str _ => true
def D.wfs (n : Nat) : List D → Bool
  | [] => true
  | x :: xs => D.wf n x && D.wfs n xs
end
mutual
/-- how deep tuples are nested -/
def D.dep : D → Nat
  | .tup xs => D.deps xs + 1
  | .non => 0
  | .bl _ => 0
  | .int _ => 0
  | .str _ => 0
  | .ref _ => 0
def D.deps : List D → Nat
  | [] => 0
  | x :: xs => max (D.dep x) (D.deps xs)
end
mutual
/-- the two can be compared by < -/
def D.alike : D → D → Bool
  | .non, .non => true
  | .int _, .int _ => true
  | .str _, .str _ => true
  | .tup xs, .tup ys => D.alikes xs ys
  | _, _ => false
def D.alikes : List D → List D → Bool
  | x :: xs, y :: ys => D.alike x y && D.alikes xs ys
  | [], _ => true
  | _ :: _, [] => true
end
/-- < of texts: by signs -/
def ltS : List Nat → List Nat → Bool
  | [], [] => false
  | [], _ :: _ => true
  | _ :: _, [] => false
  | x :: xs, y :: ys => if x = y then ltS xs ys else decide (x < y)
mutual
/-- a < b, for what is alike -/
def D.lt : D → D → Bool
  | .int i, .int j => decide (i < j)
  | .str x, .str y => ltS x y
  | .tup xs, .tup ys => D.lts xs ys
  | _, _ => false
def D.lts : List D → List D → Bool
  | [], [] => false
  | [], _ :: _ => true
  | _ :: _, [] => false
  | x :: xs, y :: ys => if x = y then D.lts xs ys else D.lt x y
end

/-! ### order -/
def D.put (x : D) : List D → List D
  | [] => [x]
  | y :: r => if D.lt x y then x :: y :: r else y :: D.put x r
/-- in ascending order -/
def sortD : List D → List D
  | [] => []
  | x :: r => D.put x (sortD r)
/-- each once -/
def onceD : List D → List D
  | [] => []
  | x :: r => match onceD r with
    | [] => [x]
    | y :: q => if x = y then y :: q else x :: y :: q
def isTup : D → Bool
  | .tup _ => true
  | _ => false
/-- they can be sorted -/
def canSortB (xs : List D) : Bool := D.nbs xs && (xs.all fun a => xs.all fun b => D.alike a b) && decide (D.deps xs ≤ 60) && (xs.all isTup || xs.all fun d => !isTup d && !decide (d = .non))
mutual
/-- numbers and tuples alone -/
def D.kb : D → Bool
  | .int _ => true
  | .tup xs => D.kbs xs
  | .non => false
  | .bl _ => false
  | .str _ => false
  | .ref _ => false
def D.kbs : List D → Bool
  | [] => true
  | x :: xs => D.kb x && D.kbs xs
end

/-! ### the store -/
inductive O where
  | lst (xs : List D)
  | frz (xs : List D)
  | ins (C : Nat) (fs : List (Nat × D))
  deriving DecidableEq, Inhabited
abbrev Store := List O
abbrev Env := List (Option D)
def O.wf (n : Nat) : O → Bool
  | .lst xs => D.wfs n xs
  | .frz xs => D.wfs n xs
  | .ins _ fs => D.wfs n (fs.map (·.2))

inductive R (α : Type) where
  | ok (a : α) (S : Store)
  | exn (C : Nat) (fs : List (Nat × D)) (S : Store)
  | stuck
def R.bind {α β : Type} (r : R α) (f : α → Store → R β) : R β := match r with
  | .ok a S => f a S
  | .exn C fs S => .exn C fs S
  | .stuck => .stuck
@[simp] theorem R.bind_ok {α β : Type} (a : α) (S : Store) (f : α → Store → R β) : (R.ok a S).bind f = f a S := rfl
@[simp] theorem R.bind_exn {α β : Type} (C : Nat) (fs : List (Nat × D)) (S : Store) (f : α → Store → R β) : (R.exn C fs S : R α).bind f = .exn C fs S := rfl
@[simp] theorem R.bind_stuck {α β : Type} (f : α → Store → R β) : (R.stuck : R α).bind f = .stuck := rfl
/-- no exception is let out -/
def R.noex {α : Type} (r : R α) : R α := match r with
  | .ok a S => .ok a S
  | _ => .stuck
@[simp] theorem R.noex_ok {α : Type} (a : α) (S : Store) : (R.ok a S).noex = .ok a S := rfl

/-- what is not needed any more is left out of the store -/
def tidy (S : Store) (r : R D) : R D := match r with
  | .ok d S' =>
    if S'.length = S.length then .ok d S'
    else if S'.take S.length = S then
      (if d.wf S.length then .ok d S
      else match d with
        | .ref k => (match S'[k]? with
          | some o => if o.wf S.length && decide (S.length ≤ k) then .ok (.ref S.length) (S ++ [o]) else .ok d S'
          | none => .ok d S')
        | _ => .ok d S')
    else .ok d S'
  | .exn C fs S' =>
    if S'.length = S.length then .exn C fs S'
    else if S'.take S.length = S then
      (if D.wfs S.length (fs.map (·.2)) then .exn C fs S else .exn C fs S')
    else .exn C fs S'
  | .stuck => .stuck
def tidyB (S : Store) (r : R Bool) : R Bool := match r with
  | .ok d S' => if S'.length = S.length then .ok d S' else if S'.take S.length = S then .ok d S else .ok d S'
  | .exn C fs S' => .exn C fs S'
  | .stuck => .stuck

/-! ### the largest row -/
def line : Nat := 16777216

/-! ### built-in kinds -/
inductive Ty where
  | tInt | tBool | tStr | tTuple | tList
  deriving DecidableEq, Inhabited
inductive Blt where
  | len | abs | min | max | sum | sorted | tuple | list | int | str | all | any
  deriving DecidableEq, Inhabited
inductive Mth where
  | append | pop | join | index
  deriving DecidableEq, Inhabited

/-! ### syntax -/
inductive FT where
  | nm (i : Nat)
  | tp (is : List Nat)
  deriving Inhabited, DecidableEq
mutual
inductive FE where
  | loc (i : Nat)
  | con (c : D)
  | glo (k : Nat)
  | bin (op : Operator) (a b : FE)
  | neg (a : FE)
  | not (a : FE)
  | and (es : FEs)
  | or (es : FEs)
  | cmp (op : CmpOp) (a b : FE)
  | chain (op op' : CmpOp) (a b c : FE)
  | ite (c a b : FE)
  | tup (es : FEs)
  | lst (es : FEs)
  | blt (b : Blt) (es : FEs)
  | mth (m : Mth) (o : FE) (es : FEs)
  | call (f : Nat) (es : FEs)
  | fld (o : FE) (f : Nat)
  | srtSet (e : FE)
  | mk (C f : Nat) (es : FEs)
  | ccon (k : Nat)
  | xfld (i f : Nat)
  | idx (o i : FE)
  | cut (o lo hi : FE)
  | cutL (o lo : FE)
  | cutH (o hi : FE)
  | isi (o : FE) (c : Ty)
  | xisi (i : Nat) (cs : List Nat)
  | lc (own : List Nat) (tg : FT) (src : FI) (cs : FEs) (elt : FE)
inductive FEs where
  | nil
  | cons (e : FE) (es : FEs)
inductive FI where
  | seq (e : FE)
  | range1 (a : FE)
  | range2 (a b : FE)
  | enum (e : FE)
  | rev (e : FE)
end
mutual
inductive FS where
  | asg (i : Nat) (e : FE)
  | asgT (is : List Nat) (e : FE)
  | aug (i : Nat) (op : Operator) (e : FE)
  | expr (e : FE)
  | ret (e : FE)
  | retN
  | ifs (c : FE) (t e : FSs)
  | whl (c : FE) (b : FSs) (e : FSs)
  | fr (tg : FT) (src : FI) (b : FSs)
  | brk
  | cnt
  | pass
  | rais (C : Nat) (es : FEs)
  | tr (b : FSs) (hs : FHs)
  | par (i j : Nat) (a b : FE)
  | setf (o : FE) (f : Nat) (e : FE)
inductive FSs where
  | nil
  | cons (s : FS) (ss : FSs)
inductive FHs where
  | nil
  | cons (C : Nat) (nm : Option Nat) (b : FSs) (hs : FHs)
end
instance : Inhabited FE := ⟨.con .non⟩
instance : Inhabited FS := ⟨.pass⟩
instance : Inhabited FSs := ⟨.nil⟩

structure FnD where
  np : Nat
  ns : Nat
  body : FSs
  deriving Inhabited
/-- a program: functions, constants of the module, exceptions' fields, which class is under which -/
structure Glob where
  fns : List FnD
  consts : List D
  exc : List (List Nat)
  sub : List (List Nat)
  cfl : List (List Nat)
  ccons : List D
  deriving Inhabited
abbrev Orac := Nat → List D → Store → R D
/-- the exception that is handled -/
abbrev Xc := Option (Nat × List (Nat × D))

/-! ### operators -/
def lstOf (S : Store) (n : Nat) : Option (List D) := match S[n]? with
  | some (.lst xs) => some xs
  | some (.frz xs) => some xs
  | _ => none
/-- a list or tuple read -/
def seqOf (S : Store) : D → Option (List D)
  | .tup xs => some xs
  | .ref n => lstOf S n
  | _ => none
def bits (i : Int) : Nat := i.natAbs.log2
def binop (op : Operator) (a b : D) (S : Store) : R D := match op, a, b with
  | .Add, .int i, .int j => .ok (.int (i + j)) S
  | .Sub, .int i, .int j => .ok (.int (i - j)) S
  | .Mult, .int i, .int j => if bits i + bits j < 1000000 then .ok (.int (i * j)) S else .stuck
  | .FloorDiv, .int i, .int j => if j ≠ 0 ∧ j.natAbs < 1073741824 then .ok (.int (i.fdiv j)) S else .stuck
  | .Mod, .int i, .int j => if j ≠ 0 then .ok (.int (i.fmod j)) S else .stuck
  | .Pow, .int i, .int j => if 0 ≤ j ∧ j ≤ 1000000 ∧ i.natAbs < 2 ^ 64 then .ok (.int (i ^ j.toNat)) S else .stuck
  | .Add, .str x, .str y => if x.length + y.length ≤ line then .ok (.str (x ++ y)) S else .stuck
  | .Add, .tup x, .tup y => if x.length + y.length ≤ line then .ok (.tup (x ++ y)) S else .stuck
  | .Add, .ref n, .ref m => (match S[n]?, S[m]? with
    | some (.lst x), some (.lst y) => if x.length + y.length ≤ line then .ok (.ref S.length) (S ++ [.lst (x ++ y)]) else .stuck
    | _, _ => .stuck)
  | .Mult, .str x, .int j => if x.length * j.toNat ≤ line ∧ -(2 ^ 63) ≤ j ∧ j < 2 ^ 63 then .ok (.str (List.replicate j.toNat x).flatten) S else .stuck
  | _, _, _ => .stuck
/-- a op= b -/
def augop (op : Operator) (a b : D) (S : Store) : R D := match op, a, b with
  | .Add, .int i, .int j => .ok (.int (i + j)) S
  | .Sub, .int i, .int j => .ok (.int (i - j)) S
  | _, _, _ => .stuck
/-- a == b -/
def eqD (S : Store) (a b : D) : Option Bool := match a, b with
  | .bl x, .bl y => some (x == y)
  | .str x, .str y => some (decide (x = y))
  | .ref n, .ref m => (match lstOf S n, lstOf S m with
    | some xs, some ys => if D.nbs xs && D.nbs ys && decide (D.deps xs < 60) && decide (D.deps ys < 60) then some (decide (xs = ys)) else none
    | _, _ => none)
  | a, b => if a.nb && b.nb && decide (a.dep ≤ 60) && decide (b.dep ≤ 60) then some (decide (a = b)) else none
def ltD (a b : D) : Option Bool := if a.nb && b.nb && D.alike a b && !decide (a = .non) && decide (a.dep ≤ 60) && decide (b.dep ≤ 60) then some (D.lt a b) else none
def inD (S : Store) (a b : D) : Option Bool := match a, b with
  | .str x, .str y => (match x with
    | [c] => some (decide (c ∈ y))
    | _ => none)
  | a, b => (match seqOf S b with
    | some ys => if a.nb && D.nbs ys && decide (a.dep ≤ 60) && decide (D.deps ys ≤ 60) then some (decide (a ∈ ys)) else none
    | none => none)
def isD (a b : D) : Option Bool := match b with
  | .non => some (decide (a = .non))
  | _ => none
def cmpop (op : CmpOp) (a b : D) (S : Store) : Option Bool := match op with
  | .Eq => eqD S a b
  | .NotEq => (eqD S a b).map (!·)
  | .Lt => ltD a b
  | .Gt => ltD b a
  | .LtE => (ltD b a).map (!·)
  | .GtE => (ltD a b).map (!·)
  | .In => inD S a b
  | .NotIn => (inD S a b).map (!·)
  | .Is => isD a b
  | .IsNot => (isD a b).map (!·)
def truth (S : Store) : D → Option Bool
  | .non => some false
  | .bl b => some b
  | .int i => some (i != 0)
  | .str s => if s.length ≤ line then some (!s.isEmpty) else none
  | .tup xs => some (!xs.isEmpty)
  | .ref n => (match lstOf S n with
    | some xs => some (!xs.isEmpty)
    | none => none)
def ixN (n : Nat) (i : Int) : Option Nat := if 0 ≤ i then (if i < n then some i.toNat else none) else if -(n : Int) ≤ i then some (i + n).toNat else none
def atI {α : Type} (xs : List α) (i : Int) : Option α := (ixN xs.length i).bind fun j => xs[j]?
def idxD (S : Store) (o i : D) : Option D := match i with
  | .int k => (match o with
    | .str s => if s.length ≤ line then (atI s k).map fun c => .str [c] else none
    | o => (seqOf S o).bind fun xs => atI xs k)
  | _ => none
def sIx (n d : Nat) : Option Int → Nat
  | none => d
  | some v => if v < 0 then (v + n).toNat else min v.toNat n
def cutX {α : Type} (xs : List α) (lo hi : Option Int) : List α := (xs.drop (sIx xs.length 0 lo)).take (sIx xs.length xs.length hi - sIx xs.length 0 lo)
def cutD (S : Store) (o : D) (lo hi : Option Int) : R D := match o with
  | .str s => if s.length ≤ line then .ok (.str (cutX s lo hi)) S else .stuck
  | .tup xs => .ok (.tup (cutX xs lo hi)) S
  | .ref n => (match lstOf S n with
    | some xs => .ok (.ref S.length) (S ++ [.lst (cutX xs lo hi)])
    | none => .stuck)
  | _ => .stuck
def intOf : D → Option Int
  | .int i => some i
  | _ => none
/-- the built-in kind of a datum: 0 None, 1 bool, 2 int, 3 str, 4 tuple, 5 list -/
def kindD (S : Store) : D → Option Nat
  | .non => some 0
  | .bl _ => some 1
  | .int _ => some 2
  | .str _ => some 3
  | .tup _ => some 4
  | .ref n => (match lstOf S n with
    | some _ => some 5
    | none => none)
def isTy (k : Nat) : Ty → Bool
  | .tInt => k == 1 || k == 2
  | .tBool => k == 1
  | .tStr => k == 3
  | .tTuple => k == 4
  | .tList => k == 5

/-! ### built-in functions, methods -/
def digits (n : Nat) : List Nat := (Nat.toDigits 10 n).map Char.toNat
def strInt (i : Int) : List Nat := match i with
  | .ofNat n => digits n
  | .negSucc n => 45 :: digits (n + 1)
def isDig (c : Nat) : Bool := decide (48 ≤ c) && decide (c ≤ 57)
def readNat (s : List Nat) : Nat := s.foldl (fun a c => 10 * a + (c - 48)) 0
/-- int(s): a sign or none, then digits -/
def readInt (s : List Nat) : Option Int := match s with
  | [] => none
  | c :: r => if c = 45 then (if r ≠ [] ∧ r.all isDig then some (-(readNat r : Int)) else none)
    else if (c :: r).all isDig then some (readNat (c :: r) : Int) else none
def intsOf : List D → Option (List Int)
  | [] => some []
  | .int i :: r => (intsOf r).map (i :: ·)
  | _ :: _ => none
def strsOf : List D → Option (List (List Nat))
  | [] => some []
  | .str i :: r => (strsOf r).map (i :: ·)
  | _ :: _ => none
def joinS (sep : List Nat) : List (List Nat) → List Nat
  | [] => []
  | [x] => x
  | x :: y :: r => x ++ sep ++ joinS sep (y :: r)
def fLen (ds : List D) (S : Store) : R D := match ds with
  | [.str s] => if s.length ≤ line then .ok (.int s.length) S else .stuck
  | [d] => (match seqOf S d with
    | some xs => .ok (.int xs.length) S
    | none => .stuck)
  | _ => .stuck
def fAbs (ds : List D) (S : Store) : R D := match ds with
  | [.int i] => .ok (.int (if i < 0 then -i else i)) S
  | _ => .stuck
def fMin (ds : List D) (S : Store) : R D := match ds with
  | [.int i, .int j] => .ok (.int (if j < i then j else i)) S
  | _ => .stuck
def fMax (ds : List D) (S : Store) : R D := match ds with
  | [.int i, .int j] => .ok (.int (if j > i then j else i)) S
  | _ => .stuck
def fTuple (ds : List D) (S : Store) : R D := match ds with
  | [.tup xs] => .ok (.tup xs) S
  | [.ref n] => (match lstOf S n with
    | some xs => .ok (.tup xs) S
    | none => .stuck)
  | _ => .stuck
def fList (ds : List D) (S : Store) : R D := match ds with
  | [d] => (match seqOf S d with
    | some xs => .ok (.ref S.length) (S ++ [.lst xs])
    | none => .stuck)
  | _ => .stuck
def fInt (ds : List D) (S : Store) : R D := match ds with
  | [.int i] => .ok (.int i) S
  | [.bl k] => .ok (.int (if k then 1 else 0)) S
  | [.str s] => if s.length ≤ 640 then (match readInt s with
    | some i => .ok (.int i) S
    | none => .stuck) else .stuck
  | _ => .stuck
def fStr (ds : List D) (S : Store) : R D := match ds with
  | [.int i] => if i.natAbs.log2 < 1920 then .ok (.str (strInt i)) S else .stuck
  | [.str s] => .ok (.str s) S
  | _ => .stuck
def fSum (ds : List D) (S : Store) : R D := match ds with
  | [.ref n] => (match lstOf S n with
    | some xs => (match intsOf xs with
      | some is => .ok (.int is.sum) S
      | none => .stuck)
    | none => .stuck)
  | _ => .stuck
def blsOf : List D → Option (List Bool)
  | [] => some []
  | .bl i :: r => (blsOf r).map (i :: ·)
  | _ :: _ => none
def fAll (ds : List D) (S : Store) : R D := match ds with
  | [.ref n] => (match lstOf S n with
    | some xs => (match blsOf xs with
      | some is => .ok (.bl (is.all id)) S
      | none => .stuck)
    | none => .stuck)
  | _ => .stuck
def fAny (ds : List D) (S : Store) : R D := match ds with
  | [.ref n] => (match lstOf S n with
    | some xs => (match blsOf xs with
      | some is => .ok (.bl (is.any id)) S
      | none => .stuck)
    | none => .stuck)
  | _ => .stuck
def fSorted (ds : List D) (S : Store) : R D := match ds with
  | [.ref n] => (match lstOf S n with
    | some xs => if canSortB xs && decide (xs.length ≤ line) then .ok (.ref S.length) (S ++ [.lst (sortD xs)]) else .stuck
    | none => .stuck)
  | _ => .stuck
/-- sorted(set(xs)) -/
def fSortSet (x : D) (S : Store) : R D := match x with
  | .ref n => (match lstOf S n with
    | some xs => if canSortB xs && xs.all isTup && D.kbs xs && decide (D.deps xs ≤ 8) && decide (xs.length < 77) then .ok (.ref S.length) (S ++ [.lst (onceD (sortD xs))]) else .stuck
    | none => .stuck)
  | _ => .stuck
def bltF (b : Blt) (ds : List D) (S : Store) : R D := match b with
  | .len => fLen ds S
  | .abs => fAbs ds S
  | .min => fMin ds S
  | .max => fMax ds S
  | .tuple => fTuple ds S
  | .list => fList ds S
  | .int => fInt ds S
  | .str => fStr ds S
  | .sum => fSum ds S
  | .sorted => fSorted ds S
  | .all => fAll ds S
  | .any => fAny ds S
def mAppend (o : D) (ds : List D) (S : Store) : R D := match o, ds with
  | .ref n, [d] => (match S[n]? with
    | some (.lst xs) => if xs.length < line then .ok .non (S.set n (.lst (xs ++ [d]))) else .stuck
    | _ => .stuck)
  | _, _ => .stuck
def mPop (o : D) (ds : List D) (S : Store) : R D := match o, ds with
  | .ref n, [] => (match S[n]? with
    | some (.lst xs) => (match xs.getLast? with
      | some y => .ok y (S.set n (.lst xs.dropLast))
      | none => .stuck)
    | _ => .stuck)
  | _, _ => .stuck
def mJoin (o : D) (ds : List D) (S : Store) : R D := match o, ds with
  | .str s, [d] => (match seqOf S d with
    | some xs => (match strsOf xs with
      | some ys => if (ys.map List.length).sum + s.length * ys.length ≤ line then .ok (.str (joinS s ys)) S else .stuck
      | none => .stuck)
    | none => .stuck)
  | _, _ => .stuck
def mIndex (o : D) (ds : List D) (S : Store) : R D := match o, ds with
  | .ref n, [d] => (match lstOf S n with
    | some xs => if D.nbs xs && d.nb && decide (D.deps xs < 60) && decide (d.dep ≤ 60) then (match xs.findIdx? fun x => decide (x = d) with
      | some j => .ok (.int j) S
      | none => .stuck) else .stuck
    | none => .stuck)
  | _, _ => .stuck
def mthF (m : Mth) (o : D) (ds : List D) (S : Store) : R D := match m with
  | .append => mAppend o ds S
  | .pop => mPop o ds S
  | .join => mJoin o ds S
  | .index => mIndex o ds S

/-- the receiver is of the method's type -/
def mOk (m : Mth) (S : Store) (x : D) : Bool := match m with
  | .append => (match x with | .ref n => (lstOf S n).isSome | _ => false)
  | .pop => (match x with | .ref n => (lstOf S n).isSome | _ => false)
  | .join => (match x with | .str _ => true | _ => false)
  | .index => (match x with | .ref n => (lstOf S n).isSome | _ => false)

/-! ### names -/
def asgN (ρ : Env) (i : Nat) (d : D) : Option Env := if i < ρ.length then some (ρ.set i (some d)) else none
def asgNs : Env → List Nat → List D → Option Env
  | ρ, [], [] => some ρ
  | ρ, i :: is, d :: ds => (asgN ρ i d).bind fun ρ' => asgNs ρ' is ds
  | _, _, _ => none
/-- only tuples are taken apart -/
def asgT (ρ : Env) (t : FT) (d : D) : Option Env := match t with
  | .nm i => asgN ρ i d
  | .tp is => (match d with
    | .tup xs => asgNs ρ is xs
    | _ => none)
def wipe : Env → List Nat → Env
  | ρ, [] => ρ
  | ρ, i :: is => (wipe ρ is).set i none

/-! ### loops -/
def lcLoop (f : D → Store → R (Option D)) (chk : Store → Bool) : List D → List D → Store → R (List D)
  | [], acc, S => .ok acc S
  | d :: ds, acc, S => (f d S).bind fun o S1 => if chk S1 && decide (acc.length < line) then (match o with
    | some y => lcLoop f chk ds (acc ++ [y]) S1
    | none => lcLoop f chk ds acc S1) else .stuck
inductive SR where
  | nx (ρ : Env) (S : Store)
  | ret (d : D) (S : Store)
  | brk (ρ : Env) (S : Store)
  | cnt (ρ : Env) (S : Store)
  | exn (C : Nat) (fs : List (Nat × D)) (ρ : Env) (S : Store)
  | stuck
def forL (f : D → Env → Store → SR) (chk : Store → Bool) : List D → Env → Store → SR
  | [], ρ, S => .nx ρ S
  | d :: ds, ρ, S => match f d ρ S with
    | .nx ρ' S' => if chk S' then forL f chk ds ρ' S' else .stuck
    | .cnt ρ' S' => if chk S' then forL f chk ds ρ' S' else .stuck
    | .brk ρ' S' => .nx ρ' S'
    | r => r
def whlL (c : Env → Store → R Bool) (b e : Env → Store → SR) : Nat → Env → Store → SR
  | 0, _, _ => .stuck
  | n + 1, ρ, S => match c ρ S with
    | .ok true S1 => (match b ρ S1 with
      | .nx ρ' S' => whlL c b e n ρ' S'
      | .cnt ρ' S' => whlL c b e n ρ' S'
      | .brk ρ' S' => .nx ρ' S'
      | r => r)
    | .ok false S1 => e ρ S1
    | .exn C fs S1 => .exn C fs ρ S1
    | .stuck => .stuck
def SR.bind (r : SR) (f : Env → Store → SR) : SR := match r with
  | .nx ρ S => f ρ S
  | r => r
@[simp] theorem SR.bind_nx (ρ : Env) (S : Store) (f : Env → Store → SR) : (SR.nx ρ S).bind f = f ρ S := rfl
@[simp] theorem SR.bind_ret (d : D) (S : Store) (f : Env → Store → SR) : (SR.ret d S).bind f = .ret d S := rfl
@[simp] theorem SR.bind_brk (ρ : Env) (S : Store) (f : Env → Store → SR) : (SR.brk ρ S).bind f = .brk ρ S := rfl
@[simp] theorem SR.bind_cnt (ρ : Env) (S : Store) (f : Env → Store → SR) : (SR.cnt ρ S).bind f = .cnt ρ S := rfl
@[simp] theorem SR.bind_exn (C : Nat) (fs : List (Nat × D)) (ρ : Env) (S : Store) (f : Env → Store → SR) : (SR.exn C fs ρ S).bind f = .exn C fs ρ S := rfl
@[simp] theorem SR.bind_stuck (f : Env → Store → SR) : SR.stuck.bind f = .stuck := rfl
/-- no exception is let out of an except suite -/
def SR.calm (r : SR) : SR := match r with
  | .exn _ _ _ _ => .stuck
  | r => r
/-- the name of an except clause goes -/
def SR.gone (r : SR) (i : Nat) : SR := match r with
  | .nx ρ S => .nx (ρ.set i none) S
  | .brk ρ S => .brk (ρ.set i none) S
  | .cnt ρ S => .cnt (ρ.set i none) S
  | r => r
def R.toS {α : Type} (r : R α) (ρ : Env) (f : α → Store → SR) : SR := match r with
  | .ok a S => f a S
  | .exn C fs S => .exn C fs ρ S
  | .stuck => .stuck
@[simp] theorem R.toS_ok {α : Type} (a : α) (S : Store) (ρ : Env) (f : α → Store → SR) : (R.ok a S).toS ρ f = f a S := rfl
@[simp] theorem R.toS_exn {α : Type} (C : Nat) (fs : List (Nat × D)) (S : Store) (ρ : Env) (f : α → Store → SR) : (R.exn C fs S : R α).toS ρ f = .exn C fs ρ S := rfl
@[simp] theorem R.toS_stuck {α : Type} (ρ : Env) (f : α → Store → SR) : (R.stuck : R α).toS ρ f = .stuck := rfl
def optR {α : Type} (o : Option α) (S : Store) : R α := match o with
  | some a => .ok a S
  | none => .stuck
@[simp] theorem optR_some {α : Type} (a : α) (S : Store) : optR (some a) S = .ok a S := rfl
@[simp] theorem optR_none {α : Type} (S : Store) : optR (none : Option α) S = .stuck := rfl
/-- at most so many turns of a while -/
def turns : Nat := 1000000000000

/-- the list that is walked stands as it was -/
def same (g : Option Nat) (S : Store) (S' : Store) : Bool := match g with
  | none => true
  | some n => decide (S'[n]? = S[n]?)
def rangeD (i j : Int) : List D := (List.range (j - i).toNat).map fun (k : Nat) => D.int (i + (k : Int))
def small (i : Int) : Bool := decide (-(2 ^ 62) ≤ i) && decide (i < 2 ^ 62)

def enumD : Nat → List D → List D
  | _, [] => []
  | i, x :: r => .tup [.int i, x] :: enumD (i + 1) r
def putN (f : Nat) (d : D) : List (Nat × D) → List (Nat × D)
  | [] => [(f, d)]
  | (g, x) :: r => if g = f then (g, d) :: r else (g, x) :: putN f d r

/-! ### expressions: as a value, as a test -/
structure PV where
  v : Env → Store → R D
  t : Env → Store → R Bool
def tstOf (v : Env → Store → R D) (ρ : Env) (S : Store) : R Bool := (v ρ S).bind fun x S1 => optR (truth S1 x) S1
def plainV (v : Env → Store → R D) : PV := ⟨v, tstOf v⟩
def partV (v : Env → Store → R D) (ρ : Env) (S : Store) : R (Option Int) := (v ρ S).bind fun y S2 => (optR (intOf y) S2).bind fun i S3 => .ok (some i) S3
structure PVs where
  vs : Env → Store → R (List D)
  andV : Env → Store → R D
  orV : Env → Store → R D
  andT : Env → Store → R Bool
  orT : Env → Store → R Bool
  ts : Env → Store → R Bool
abbrev PIt := Env → Store → R (List D × Option Nat)
def lcTurn (own : List Nat) (tg : FT) (ρ : Env) (ts : Env → Store → R Bool) (v : Env → Store → R D) (d : D) (S2 : Store) : R (Option D) :=
  match asgT (wipe ρ own) tg d with
  | some ρ' => (tidyB S2 (ts ρ' S2)).bind fun k S3 => if k then (tidy S3 (v ρ' S3)).bind fun y S4 => .ok (some y) S4 else .ok none S3
  | none => .stuck
section
variable (G : Glob) (cl : Orac) (xc : Xc)
mutual
def ev : FE → PV
  | .loc i => plainV fun ρ S => (match ρ[i]? with
    | some (some d) => .ok d S
    | _ => .stuck)
  | .con c => plainV fun _ S => .ok c S
  | .glo k => plainV fun _ S => optR G.consts[k]? S
  | .bin op a b => plainV fun ρ S => ((ev a).v ρ S).bind fun x S1 => ((ev b).v ρ S1).bind fun y S2 => binop op x y S2
  | .neg a => plainV fun ρ S => ((ev a).v ρ S).bind fun x S1 => (match x with
    | .int i => .ok (.int (-i)) S1
    | _ => .stuck)
  | .not a => ⟨fun ρ S => ((ev a).v ρ S).bind fun x S1 => optR ((truth S1 x).map fun b => .bl (!b)) S1, fun ρ S => ((ev a).t ρ S).bind fun k S1 => .ok (!k) S1⟩
  | .and es => ⟨(evs es).andV, (evs es).andT⟩
  | .or es => ⟨(evs es).orV, (evs es).orT⟩
  | .cmp op a b => plainV fun ρ S => ((ev a).v ρ S).bind fun x S1 => ((ev b).v ρ S1).bind fun y S2 => optR ((cmpop op x y S2).map .bl) S2
  | .chain op op' a b c => plainV fun ρ S => ((ev a).v ρ S).bind fun x S1 => ((ev b).v ρ S1).bind fun y S2 => (optR (cmpop op x y S2) S2).bind fun k S3 =>
      if k then ((ev c).v ρ S3).bind fun z S4 => optR ((cmpop op' y z S4).map .bl) S4 else .ok (.bl false) S3
  | .ite c a b => ⟨fun ρ S => ((ev c).t ρ S).bind fun k S1 => if k then (ev a).v ρ S1 else (ev b).v ρ S1, fun ρ S => ((ev c).t ρ S).bind fun k S1 => if k then (ev a).t ρ S1 else (ev b).t ρ S1⟩
  | .tup es => plainV fun ρ S => ((evs es).vs ρ S).bind fun ds S1 => if ds.length ≤ line then .ok (.tup ds) S1 else .stuck
  | .lst es => plainV fun ρ S => ((evs es).vs ρ S).bind fun ds S1 => if ds.length ≤ line then .ok (.ref S1.length) (S1 ++ [.lst ds]) else .stuck
  | .blt b es => plainV fun ρ S => ((evs es).vs ρ S).bind fun ds S1 => bltF b ds S1
  | .mth m o es => plainV fun ρ S => ((ev o).v ρ S).bind fun x S1 => if mOk m S1 x then ((evs es).vs ρ S1).bind fun ds S2 => mthF m x ds S2 else .stuck
  | .call f es => plainV fun ρ S => ((evs es).vs ρ S).bind fun ds S1 => cl f ds S1
  | .fld o f => plainV fun ρ S => ((ev o).v ρ S).bind fun x S1 => (match x with
    | .ref n => (match S1[n]? with
      | some (.ins C fs) => (match G.cfl[C]? with
        | some l => if l.contains f then optR (fs.lookup f) S1 else .stuck
        | none => .stuck)
      | _ => .stuck)
    | _ => .stuck)
  | .srtSet e => plainV fun ρ S => ((ev e).v ρ S).bind fun x S1 => fSortSet x S1
  | .mk C f es => plainV fun ρ S => ((evs es).vs ρ S).bind fun ds S1 => if C < G.cfl.length then tidy S1 ((cl f (.ref S1.length :: ds) (S1 ++ [.ins C []])).bind fun r S2 => (match r with
    | .non => .ok (.ref S1.length) S2
    | _ => .stuck)) else .stuck
  | .ccon k => plainV fun _ S => optR G.ccons[k]? S
  | .xfld i f => plainV fun ρ S => (match xc, ρ[i]? with
    | some (_, fs), some none => optR (fs.lookup f) S
    | _, _ => .stuck)
  | .idx o i => plainV fun ρ S => ((ev o).v ρ S).bind fun x S1 => ((ev i).v ρ S1).bind fun y S2 => optR (idxD S2 x y) S2
  | .cut o lo hi => plainV fun ρ S => ((ev o).v ρ S).bind fun x S1 => (partV (ev lo).v ρ S1).bind fun i S2 => (partV (ev hi).v ρ S2).bind fun j S3 => cutD S3 x i j
  | .cutL o lo => plainV fun ρ S => ((ev o).v ρ S).bind fun x S1 => (partV (ev lo).v ρ S1).bind fun i S2 => cutD S2 x i none
  | .cutH o hi => plainV fun ρ S => ((ev o).v ρ S).bind fun x S1 => (partV (ev hi).v ρ S1).bind fun j S2 => cutD S2 x none j
  | .isi o c => plainV fun ρ S => ((ev o).v ρ S).bind fun x S1 => optR ((kindD S1 x).map fun k => .bl (isTy k c)) S1
  | .xisi i cs => plainV fun ρ S => (match xc, ρ[i]? with
    | some (C, _), some none => .ok (.bl (cs.any fun c => (G.sub.getD C []).contains c)) S
    | _, _ => .stuck)
  | .lc own tg src cs elt => plainV fun ρ S => ((evi src ρ S).bind fun p S1 =>
      (lcLoop (lcTurn own tg ρ (evs cs).ts (ev elt).v) (same p.2 S1) p.1 [] S1).noex.bind fun ys S2 => .ok (.ref S2.length) (S2 ++ [.lst ys]))
def evs : FEs → PVs
  | .nil => ⟨fun _ S => .ok [] S, fun _ _ => .stuck, fun _ _ => .stuck, fun _ _ => .stuck, fun _ _ => .stuck, fun _ S => .ok true S⟩
  | .cons e es => ⟨fun ρ S => ((ev e).v ρ S).bind fun x S1 => ((evs es).vs ρ S1).bind fun xs S2 => .ok (x :: xs) S2,
      fun ρ S => (match es with
        | .nil => (ev e).v ρ S
        | .cons _ _ => ((ev e).v ρ S).bind fun x S1 => (match x with
          | .bl true => (evs es).andV ρ S1
          | .bl false => .ok (.bl false) S1
          | _ => .stuck)),
      fun ρ S => (match es with
        | .nil => (ev e).v ρ S
        | .cons _ _ => ((ev e).v ρ S).bind fun x S1 => (match x with
          | .bl false => (evs es).orV ρ S1
          | .bl true => .ok (.bl true) S1
          | _ => .stuck)),
      fun ρ S => (match es with
        | .nil => (ev e).t ρ S
        | .cons _ _ => ((ev e).t ρ S).bind fun k S1 => if k then (evs es).andT ρ S1 else .ok false S1),
      fun ρ S => (match es with
        | .nil => (ev e).t ρ S
        | .cons _ _ => ((ev e).t ρ S).bind fun k S1 => if k then .ok true S1 else (evs es).orT ρ S1),
      fun ρ S => (match es with
        | .nil => (ev e).t ρ S
        | .cons _ _ => .stuck)⟩
/-- what is walked, and which list of the store must stand -/
def evi : FI → PIt
  | .seq e => fun ρ S => ((ev e).v ρ S).bind fun x S1 => (match x with
    | .tup xs => .ok (xs, none) S1
    | .ref n => (match lstOf S1 n with
      | some xs => .ok (xs, some n) S1
      | none => .stuck)
    | _ => .stuck)
  | .range1 a => fun ρ S => ((ev a).v ρ S).bind fun x S1 => (match x with
    | .int j => if small j then .ok (rangeD 0 j, none) S1 else .stuck
    | _ => .stuck)
  | .range2 a b => fun ρ S => ((ev a).v ρ S).bind fun x S1 => ((ev b).v ρ S1).bind fun y S2 => (match x, y with
    | .int i, .int j => if small i && small j then .ok (rangeD i j, none) S2 else .stuck
    | _, _ => .stuck)
  | .enum e => fun ρ S => ((ev e).v ρ S).bind fun x S1 => (match x with
    | .ref n => (match lstOf S1 n with
      | some xs => .ok (enumD 0 xs, some n) S1
      | none => .stuck)
    | _ => .stuck)
  | .rev e => fun ρ S => ((ev e).v ρ S).bind fun x S1 => (match x with
    | .ref n => (match lstOf S1 n with
      | some xs => .ok (xs.reverse, some n) S1
      | none => .stuck)
    | _ => .stuck)
end
end

/-! ### statements -/
/-- a class, its fields, the env and store at the raise -/
abbrev PX := Xc → Env → Store → SR
section
variable (G : Glob) (cl : Orac)
mutual
def ex : FS → PX
  | .asg i e => fun xc ρ S => (tidy S ((ev G cl xc e).v ρ S)).toS ρ fun d S1 => (match asgN ρ i d with
    | some ρ' => .nx ρ' S1
    | none => .stuck)
  | .asgT is e => fun xc ρ S => (tidy S ((ev G cl xc e).v ρ S)).toS ρ fun d S1 => (match asgT ρ (.tp is) d with
    | some ρ' => .nx ρ' S1
    | none => .stuck)
  | .aug i op e => fun xc ρ S => (match ρ[i]? with
    | some (some x) => (tidy S ((ev G cl xc e).v ρ S)).toS ρ fun y S1 => (augop op x y S1).toS ρ fun z S2 => (match asgN ρ i z with
      | some ρ' => .nx ρ' S2
      | none => .stuck)
    | _ => .stuck)
  | .expr e => fun xc ρ S => (tidy S ((ev G cl xc e).v ρ S)).toS ρ fun _ S1 => .nx ρ S1
  | .ret e => fun xc ρ S => (tidy S ((ev G cl xc e).v ρ S)).toS ρ fun d S1 => .ret d S1
  | .retN => fun _ _ S => .ret .non S
  | .ifs c t e => fun xc ρ S => (tidyB S ((ev G cl xc c).t ρ S)).toS ρ fun k S1 => if k then exs t xc ρ S1 else exs e xc ρ S1
  | .whl c b e => fun xc ρ S => whlL (fun ρ S => tidyB S ((ev G cl xc c).t ρ S)) (exs b xc) (exs e xc) turns ρ S
  | .fr tg src b => fun xc ρ S => (evi G cl xc src ρ S).toS ρ fun p S1 => forL (fun d ρ S => (match asgT ρ tg d with
    | some ρ' => exs b xc ρ' S
    | none => .stuck)) (same p.2 S1) p.1 ρ S1
  | .brk => fun _ ρ S => .brk ρ S
  | .cnt => fun _ ρ S => .cnt ρ S
  | .pass => fun _ ρ S => .nx ρ S
  | .rais C es => fun xc ρ S => ((evs G cl xc es).vs ρ S).toS ρ fun ds S1 => (match G.exc[C]? with
    | some fs => if ds.length = fs.length then .exn C (fs.zip ds).reverse ρ S1 else .stuck
    | none => .stuck)
  | .tr b hs => fun xc ρ S => (match xc with
    | none => (match exs b none ρ S with
      | .exn C fs ρ' S' => if C < G.exc.length then exh hs C fs ρ' S' else .stuck
      | r => r)
    | some _ => .stuck)
  | .par i j a b => fun xc ρ S => ((ev G cl xc a).v ρ S).toS ρ fun x S1 => ((ev G cl xc b).v ρ S1).toS ρ fun y S2 => (match (asgN ρ i x).bind fun ρ' => asgN ρ' j y with
    | some ρ' => .nx ρ' S2
    | none => .stuck)
  | .setf o f e => fun xc ρ S => (tidy S ((ev G cl xc e).v ρ S)).toS ρ fun d S1 => ((ev G cl xc o).v ρ S1).toS ρ fun x S2 => (match x with
    | .ref n => (match S2[n]? with
      | some (.ins C fs) => (match G.cfl[C]? with
        | some l => if l.contains f && decide (fs.length < 900) then .nx ρ (S2.set n (.ins C (putN f d fs))) else .stuck
        | none => .stuck)
      | _ => .stuck)
    | _ => .stuck)
def exs : FSs → PX
  | .nil => fun _ ρ S => .nx ρ S
  | .cons s ss => fun xc ρ S => (ex s xc ρ S).bind fun ρ' S' => exs ss xc ρ' S'
def exh : FHs → Nat → List (Nat × D) → Env → Store → SR
  | .nil => fun C fs ρ S => .exn C fs ρ S
  | .cons c nm b hs => fun C fs ρ S => if (G.sub.getD C []).contains c then (match nm with
      | none => (exs b (some (C, fs)) ρ S).calm
      | some i => ((exs b (some (C, fs)) (ρ.set i none) S).calm).gone i) else exh hs C fs ρ S
end
end
/-- what a def's body comes to -/
def SR.done (r : SR) : R D := match r with
  | .nx _ S => .ok .non S
  | .ret d S => .ok d S
  | .exn C fs _ S => .exn C fs S
  | _ => .stuck
def env0 (fd : FnD) (ds : List D) : Env := ds.map some ++ List.replicate (fd.ns - fd.np) none
def runFn (G : Glob) (cl : Orac) (fd : FnD) (ds : List D) (S : Store) : R D :=
  if ds.length = fd.np then tidy S (exs G cl fd.body none (env0 fd ds) S).done else .stuck
/-- calls, by the depth that is let -/
def callN (G : Glob) : Nat → Orac
  | 0 => fun _ _ _ => .stuck
  | n + 1 => fun f ds S => match G.fns[f]? with
    | some fd => runFn G (callN G n) fd ds S
    | none => .stuck
end Fx
set_option Elab.async false
set_option linter.all false
set_option autoImplicit false
set_option maxRecDepth 100000
set_option maxHeartbeats 4000000
/-! FxB: how the evaluator's data stand in the heap. -/
namespace Fx
open PySem PySem.Spec PyProof.Rows L2

abbrev strOf (s : List Nat) : Str := ⟨s.toArray⟩
/-- an exception that is handled: its dict, its fields, its class, its address -/
structure HX where
  dd : Addr
  gs : List (Str × V)
  fs : List (Nat × D)
  C : Nat
  a : Addr
  i : Option Nat
/-- names by number: classes' addresses, attributes' names -/
structure Nm where
  cad : Nat → Addr
  iad : Nat → Addr
  fld : List Str
  nd : fld.Nodup
  hx : Option HX

mutual
/-- the value v stands for the datum -/
def RV (K : PySem.W.Frag) (H : Hp) (mu : Nat → Addr) : D → V → Prop
  | .non, v => v = .non
  | .bl b, v => v = .bl b
  | .int i, v => v = .int i
  | .str s, v => v = .str (strOf s)
  | .tup xs, v => ∃ a vs, v = .ref a ∧ SqT K H a vs ∧ RVs K H mu xs vs
  | .ref n, v => v = .ref (mu n)
def RVs (K : PySem.W.Frag) (H : Hp) (mu : Nat → Addr) : List D → List V → Prop
  | [], vs => vs = []
  | x :: xs, vs => ∃ v r, vs = v :: r ∧ RV K H mu x v ∧ RVs K H mu xs r
end
section
variable {K : PySem.W.Frag} {H H' : Hp} {mu mu' : Nat → Addr} {k : Nat}
mutual
theorem RV.mono (ht : ∀ a vs, SqT K H a vs → SqT K H' a vs) (hm : ∀ n, n < k → mu' n = mu n) : ∀ (d : D) (v : V), D.wf k d = true → RV K H mu d v → RV K H' mu' d v
  | .non, _, _, h => h
  | .bl _, _, _, h => h
  | .int _, _, _, h => h
  | .str _, _, _, h => h
  | .ref n, v, w, h => by
    have w' : n < k := by simpa [D.wf] using w
    show v = .ref (mu' n)
    rw [hm n w']
    exact h
  | .tup xs, v, w, h => by
    obtain ⟨a, vs, e, q, r⟩ := h
    exact ⟨a, vs, e, ht _ _ q, RVs.mono ht hm xs vs (by simpa [D.wf] using w) r⟩
theorem RVs.mono (ht : ∀ a vs, SqT K H a vs → SqT K H' a vs) (hm : ∀ n, n < k → mu' n = mu n) : ∀ (ds : List D) (vs : List V), D.wfs k ds = true → RVs K H mu ds vs → RVs K H' mu' ds vs
  | [], _, _, h => h
  | x :: xs, vs, w, h => by
    obtain ⟨v, r, e, h1, h2⟩ := h
    have w' : D.wf k x = true ∧ D.wfs k xs = true := by simpa [D.wfs] using w
    exact ⟨v, r, e, RV.mono ht hm x v w'.1 h1, RVs.mono ht hm xs r w'.2 h2⟩
end
mutual
theorem D.wf_le {j k : Nat} (h : j ≤ k) : ∀ d : D, D.wf j d = true → D.wf k d = true
  | .non, _ => rfl
  | .bl _, _ => rfl
  | .int _, _ => rfl
  | .str _, _ => rfl
  | .ref n, w => by
    have w' : n < j := by simpa [D.wf] using w
    simp [D.wf]; omega
  | .tup xs, w => by
    have w' : D.wfs j xs = true := by simpa [D.wf] using w
    simpa [D.wf] using D.wfs_le h xs w'
theorem D.wfs_le {j k : Nat} (h : j ≤ k) : ∀ ds : List D, D.wfs j ds = true → D.wfs k ds = true
  | [], _ => rfl
  | x :: xs, w => by
    have w' : D.wf j x = true ∧ D.wfs j xs = true := by simpa [D.wfs] using w
    simp [D.wfs, D.wf_le h x w'.1, D.wfs_le h xs w'.2]
end
theorem wfs_append {k : Nat} : ∀ {xs ys : List D}, D.wfs k (xs ++ ys) = (D.wfs k xs && D.wfs k ys)
  | [], ys => by simp [D.wfs]
  | x :: xs, ys => by simp [D.wfs, wfs_append (xs := xs) (ys := ys), Bool.and_assoc]
theorem wfs_all {k : Nat} : ∀ {xs : List D}, D.wfs k xs = true ↔ ∀ x ∈ xs, D.wf k x = true
  | [] => by simp [D.wfs]
  | x :: xs => by simp [D.wfs, wfs_all (xs := xs)]
theorem RVs.length : ∀ {ds : List D} {vs : List V}, RVs K H mu ds vs → vs.length = ds.length
  | [], _, h => by have h : _ = [] := h; rw [h]; rfl
  | x :: xs, vs, h => by
    obtain ⟨v, r, e, _, h2⟩ := h
    rw [e, List.length_cons, List.length_cons, RVs.length h2]
theorem RVs.append : ∀ {ds es : List D} {vs us : List V}, RVs K H mu ds vs → RVs K H mu es us → RVs K H mu (ds ++ es) (vs ++ us)
  | [], es, vs, us, h, h' => by have h : _ = [] := h; rw [h]; exact h'
  | x :: xs, es, vs, us, h, h' => by
    obtain ⟨v, r, e, h1, h2⟩ := h
    exact ⟨v, r ++ us, by rw [e]; rfl, h1, RVs.append h2 h'⟩
theorem RVs.get : ∀ {ds : List D} {vs : List V} {i : Nat} {d : D}, RVs K H mu ds vs → ds[i]? = some d → ∃ v, vs[i]? = some v ∧ RV K H mu d v
  | [], _, i, d, _, e => by simp at e
  | x :: xs, vs, 0, d, h, e => by
    obtain ⟨v, r, e1, h1, h2⟩ := h
    have e : x = d := by simpa using e
    exact ⟨v, by rw [e1]; rfl, e ▸ h1⟩
  | x :: xs, vs, i + 1, d, h, e => by
    obtain ⟨v, r, e1, h1, h2⟩ := h
    obtain ⟨u, g1, g2⟩ := RVs.get (i := i) h2 (by simpa using e)
    exact ⟨u, by rw [e1]; simpa using g1, g2⟩
theorem RVs.take : ∀ {ds : List D} {vs : List V} (n : Nat), RVs K H mu ds vs → RVs K H mu (ds.take n) (vs.take n)
  | _, _, 0, _ => by simp [RVs]
  | [], vs, n + 1, h => by have h : vs = [] := h; rw [h]; simp [RVs]
  | x :: xs, vs, n + 1, h => by
    obtain ⟨v, r, e1, h1, h2⟩ := h
    rw [e1]
    exact ⟨v, r.take n, rfl, h1, RVs.take n h2⟩
theorem RVs.drop : ∀ {ds : List D} {vs : List V} (n : Nat), RVs K H mu ds vs → RVs K H mu (ds.drop n) (vs.drop n)
  | _, _, 0, h => h
  | [], vs, n + 1, h => by have h : vs = [] := h; rw [h]; simp [RVs]
  | x :: xs, vs, n + 1, h => by
    obtain ⟨v, r, e1, h1, h2⟩ := h
    rw [e1]
    exact RVs.drop n h2
theorem RVs.single {d : D} {v : V} (h : RV K H mu d v) : RVs K H mu [d] [v] := ⟨v, [], rfl, h, rfl⟩
end

/-! ### the store -/
def Mt (S : Store) (n : Nat) : Prop := match S[n]? with
  | some (.lst _) => True
  | some (.ins _ _) => True
  | _ => False
/-- named data -/
def RF (N : Nm) (K : PySem.W.Frag) (H : Hp) (mu : Nat → Addr) : List (Nat × D) → List (Str × V) → Prop
  | [], gs => gs = []
  | (f, d) :: fs, gs => ∃ x v r, gs = (x, v) :: r ∧ N.fld[f]? = some x ∧ RV K H mu d v ∧ RF N K H mu fs r
def RO (N : Nm) (K : PySem.W.Frag) (H : Hp) (mu : Nat → Addr) (o : O) (a : Addr) : Prop := match o with
  | .lst xs => ∃ vs, H a = some (.lst vs) ∧ RVs K H mu xs vs
  | .frz xs => ∃ vs, ((∃ ob, H a = some (.frz ob (.lst vs))) ∨ ∀ H', SqL K H' a vs) ∧ RVs K H mu xs vs
  | .ins C fs => ∃ dx gs, H a = some (.ins (N.iad C) dx gs) ∧ RF N K H mu fs gs
structure RS (N : Nm) (K : PySem.W.Frag) (H : Hp) (mu : Nat → Addr) (S : Store) : Prop where
  ob : ∀ (n : Nat) (o : O), S[n]? = some o → RO N K H mu o (mu n)
  wf : ∀ (n : Nat) (o : O), S[n]? = some o → o.wf S.length = true
  inj : ∀ n m, Mt S n → Mt S m → mu n = mu m → n = m
section
variable {N : Nm} {K : PySem.W.Frag} {H H' : Hp} {mu mu' : Nat → Addr} {k : Nat} {S S' : Store}
theorem RF.mono (ht : ∀ a vs, SqT K H a vs → SqT K H' a vs) (hm : ∀ n, n < k → mu' n = mu n) : ∀ (fs : List (Nat × D)) (gs : List (Str × V)), D.wfs k (fs.map (·.2)) = true → RF N K H mu fs gs → RF N K H' mu' fs gs
  | [], _, _, h => h
  | (f, d) :: fs, gs, w, h => by
    obtain ⟨x, v, r, e, h1, h2, h3⟩ := h
    have w' : D.wf k d = true ∧ D.wfs k (fs.map (·.2)) = true := by simpa [D.wfs] using w
    exact ⟨x, v, r, e, h1, RV.mono ht hm d v w'.1 h2, RF.mono ht hm fs r w'.2 h3⟩
/-- an attribute is found by its number as by its name -/
theorem RF.look {g : Nat} {y : Str} {d : D} (hy : N.fld[g]? = some y) : ∀ {fs : List (Nat × D)} {gs : List (Str × V)}, RF N K H mu fs gs → fs.lookup g = some d → ∃ v, gs.lookup y = some v ∧ RV K H mu d v
  | [], _, _, e => by simp at e
  | (f, c) :: fs, gs, h, e => by
    obtain ⟨x, v, r, e1, h1, h2, h3⟩ := h
    rw [List.lookup_cons] at e
    by_cases q : g = f
    · subst q
      have e' : c = d := by simpa using e
      rw [hy] at h1
      have exy : y = x := Option.some.inj h1
      subst exy
      exact ⟨v, by rw [e1]; simp, e' ▸ h2⟩
    · have hne : (g == f) = false := by simpa using q
      rw [hne] at e
      obtain ⟨u, g1, g2⟩ := RF.look hy h3 (by simpa using e)
      have nxy : (y == x) = false := by
        rw [beq_eq_false_iff_ne]
        intro exy
        subst exy
        exact q (nodup_ix N.nd hy h1)
      exact ⟨u, by rw [e1, List.lookup_cons, nxy]; exact g1, g2⟩
theorem RO.mono (ht : ∀ a vs, SqT K H a vs → SqT K H' a vs) (hm : ∀ n, n < k → mu' n = mu n) {o : O} {a : Addr} (w : o.wf k = true) (hk : ∀ u, H a = some u → H' a = some u) (h : RO N K H mu o a) : RO N K H' mu' o a := by
  cases o with
  | lst xs =>
    obtain ⟨vs, e, r⟩ := h
    exact ⟨vs, hk _ e, RVs.mono ht hm xs vs (by simpa [O.wf] using w) r⟩
  | frz xs =>
    obtain ⟨vs, e, r⟩ := h
    refine ⟨vs, ?_, RVs.mono ht hm xs vs (by simpa [O.wf] using w) r⟩
    rcases e with ⟨ob, e⟩ | e
    · exact .inl ⟨ob, hk _ e⟩
    · exact .inr e
  | ins C fs =>
    obtain ⟨dx, gs, e, r⟩ := h
    exact ⟨dx, gs, hk _ e, RF.mono ht hm fs gs (by simpa [O.wf] using w) r⟩
theorem O.wf_le {j k : Nat} (h : j ≤ k) {o : O} (w : o.wf j = true) : o.wf k = true := by
  cases o with
  | lst xs => exact D.wfs_le h xs w
  | frz xs => exact D.wfs_le h xs w
  | ins C fs => exact D.wfs_le h _ w
theorem Mt.lt {n : Nat} (h : Mt S n) : n < S.length := by
  unfold Mt at h
  cases e : S[n]? with
  | none => rw [e] at h; exact h.elim
  | some o => exact (List.getElem?_eq_some_iff.mp e).1
/-- what is changed is tracked -/
theorem RS.mt (r : RS N K H mu S) {n : Nat} (h : Mt S n) : (∃ vs, H (mu n) = some (.lst vs)) ∨ ∃ C dx gs, H (mu n) = some (.ins C dx gs) := by
  unfold Mt at h
  cases e : S[n]? with
  | none => rw [e] at h; exact h.elim
  | some o =>
    have q := r.ob n o e
    rw [e] at h
    cases o with
    | lst xs => obtain ⟨vs, g, _⟩ := q; exact .inl ⟨vs, g⟩
    | frz xs => exact h.elim
    | ins C fs => obtain ⟨dx, gs, g, _⟩ := q; exact .inr ⟨_, dx, gs, g⟩
theorem RS.mt_ne (r : RS N K H mu S) {n : Nat} (h : Mt S n) {p : Addr} (hp : H p = none) : mu n ≠ p := by
  rintro rfl
  rcases r.mt h with ⟨_, e⟩ | ⟨_, _, _, e⟩ <;> rw [hp] at e <;> cases e

/-- from one state to a later one -/
structure Gw (N : Nm) (K : PySem.W.Frag) (H : Hp) (mu : Nat → Addr) (S : Store) (H' : Hp) (mu' : Nat → Addr) (S' : Store) : Prop where
  rs : RS N K H' mu' S'
  le : S.length ≤ S'.length
  mus : ∀ n, n < S.length → mu' n = mu n
  fr : ∀ b o, H b = some o → (∀ n, Mt S n → mu n ≠ b) → H' b = some o
  new : ∀ n, S.length ≤ n → n < S'.length → H (mu' n) = none
  som : ∀ b, H b ≠ none → H' b ≠ none
  mt : ∀ n, n < S.length → Mt S' n → Mt S n
theorem Gw.refl (r : RS N K H mu S) : Gw N K H mu S H mu S := ⟨r, Nat.le_refl _, fun _ _ => rfl, fun _ _ h _ => h, fun n h1 h2 => absurd h1 (by omega), fun _ h => h, fun _ _ h => h⟩
theorem Gw.trans {H1 H2 : Hp} {mu1 mu2 : Nat → Addr} {S1 S2 : Store} (a : Gw N K H mu S H1 mu1 S1) (b : Gw N K H1 mu1 S1 H2 mu2 S2) : Gw N K H mu S H2 mu2 S2 where
  rs := b.rs
  le := Nat.le_trans a.le b.le
  mus := fun n h => (b.mus n (Nat.lt_of_lt_of_le h a.le)).trans (a.mus n h)
  fr := fun c o h hc => b.fr c o (a.fr c o h hc) fun n hn => by
    by_cases q : n < S.length
    · rw [a.mus n q]
      exact hc n (a.mt n q hn)
    · intro e
      have z := a.new n (Nat.le_of_not_lt q) hn.lt
      rw [e, h] at z
      cases z
  new := fun n h1 h2 => by
    by_cases q : n < S1.length
    · rw [b.mus n q]
      exact a.new n h1 q
    · have z := b.new n (Nat.le_of_not_lt q) h2
      cases e : H (mu2 n) with
      | none => rfl
      | some o => exact absurd z (a.som _ (by rw [e]; simp))
  som := fun c h => b.som c (a.som c h)
  mt := fun n h hn => a.mt n h (b.mt n (Nat.lt_of_lt_of_le h a.le) hn)
theorem Gw.tup (g : Gw N K H mu S H' mu' S') (r : RS N K H mu S) {a : Addr} {vs : List V} (h : SqT K H a vs) : SqT K H' a vs := by
  have hf : ∀ u, H a = some u → (∀ ws, u ≠ .lst ws) → (∀ C dx gs, u ≠ .ins C dx gs) → H' a = some u := fun u e h1 h2 => g.fr a u e fun n hn q => by
    rcases r.mt hn with ⟨ws, z⟩ | ⟨C, dx, gs, z⟩
    · rw [q, e] at z; exact h1 ws (Option.some.inj z)
    · rw [q, e] at z; exact h2 C dx gs (Option.some.inj z)
  rcases h with (h | ⟨ob, h⟩) | h
  · exact .inl (.inl (hf _ h (fun _ z => by cases z) fun _ _ _ z => by cases z))
  · exact .inl (.inr ⟨ob, hf _ h (fun _ z => by cases z) fun _ _ _ z => by cases z⟩)
  · exact .inr h
theorem Gw.rv (g : Gw N K H mu S H' mu' S') (r : RS N K H mu S) {d : D} {v : V} (w : d.wf S.length = true) (h : RV K H mu d v) : RV K H' mu' d v := RV.mono (fun _ _ => g.tup r) g.mus d v w h
theorem Gw.rvs (g : Gw N K H mu S H' mu' S') (r : RS N K H mu S) {d : List D} {v : List V} (w : D.wfs S.length d = true) (h : RVs K H mu d v) : RVs K H' mu' d v := RVs.mono (fun _ _ => g.tup r) g.mus d v w h
/-- a new tuple (or another thing that the store does not name) -/
theorem Gw.laid (r : RS N K H mu S) {p : Addr} {o : HO} (hp : H p = none) : Gw N K H mu S (upd H p o) mu S := by
  have keep : ∀ b u, H b = some u → upd H p o b = some u := fun b u e => by rw [upd_ne (ne_of_none e hp)]; exact e
  have kt : ∀ a vs, SqT K H a vs → SqT K (upd H p o) a vs := fun a vs h => by
    rcases h with (h | ⟨ob, h⟩) | h
    · exact .inl (.inl (keep _ _ h))
    · exact .inl (.inr ⟨ob, keep _ _ h⟩)
    · exact .inr h
  refine ⟨⟨fun n ob e => (r.ob n ob e).mono kt (fun _ _ => rfl) (r.wf n ob e) fun u z => keep _ u z, r.wf, r.inj⟩, Nat.le_refl _, fun _ _ => rfl, fun b u e _ => keep b u e, fun n h1 h2 => absurd h1 (by omega), fun b h => ?_, fun _ _ h => h⟩
  cases e : H b with
  | none => exact absurd e h
  | some u => rw [keep b u e]; simp
/-- one more place of the store -/
def muN (mu : Nat → Addr) (k : Nat) (p : Addr) (n : Nat) : Addr := if n = k then p else mu n
theorem muN_eq (mu : Nat → Addr) (k : Nat) (p : Addr) : muN mu k p k = p := if_pos rfl
theorem muN_ne {mu : Nat → Addr} {k : Nat} {p : Addr} {n : Nat} (h : n ≠ k) : muN mu k p n = mu n := if_neg h
/-- a new object of the store -/
theorem Gw.alloc (r : RS N K H mu S) {p : Addr} {ho : HO} {o : O} (hp : H p = none) (w : o.wf S.length = true) (ok : ∀ H' mu', (∀ a vs, SqT K H a vs → SqT K H' a vs) → (∀ n, n < S.length → mu' n = mu n) → H' p = some ho → RO N K H' mu' o p) :
    Gw N K H mu S (upd H p ho) (muN mu S.length p) (S ++ [o]) := by
  have g := Gw.laid r (o := ho) hp
  have hm : ∀ n, n < S.length → muN mu S.length p n = mu n := fun n h => muN_ne (Nat.ne_of_lt h)
  have le : S.length ≤ (S ++ [o]).length := by simp
  have at_ : ∀ n u, (S ++ [o])[n]? = some u → (n < S.length ∧ S[n]? = some u) ∨ (n = S.length ∧ u = o) := fun n u e => by
    by_cases q : n < S.length
    · rw [List.getElem?_append_left q] at e
      exact .inl ⟨q, e⟩
    · rw [List.getElem?_append_right (Nat.le_of_not_lt q)] at e
      obtain ⟨l, e2⟩ := List.getElem?_eq_some_iff.mp e
      have l' : n - S.length < 1 := by simpa using l
      have n0 : n = S.length := by omega
      subst n0
      exact .inr ⟨rfl, by simpa using e2.symm⟩
  have mt_ : ∀ n, n < S.length → Mt (S ++ [o]) n → Mt S n := fun n h hn => by
    unfold Mt at hn ⊢
    rw [List.getElem?_append_left h] at hn
    exact hn
  refine ⟨⟨fun n u e => ?_, fun n u e => ?_, fun n m hn hm' e => ?_⟩, le, hm, g.fr, fun n h1 h2 => ?_, g.som, mt_⟩
  · rcases at_ n u e with ⟨q, e⟩ | ⟨rfl, rfl⟩
    · rw [hm n q]
      exact (g.rs.ob n u e).mono (fun _ _ h => h) hm (r.wf n u e) fun _ z => z
    · rw [muN_eq]
      exact ok _ _ (fun _ _ h => g.tup r h) hm upd_same
  · rcases at_ n u e with ⟨q, e⟩ | ⟨rfl, rfl⟩
    · exact O.wf_le le (r.wf n u e)
    · exact O.wf_le le w
  · have ln := hn.lt
    have lm := hm'.lt
    rw [List.length_append, List.length_singleton] at ln lm
    by_cases q : n < S.length
    · have en := hm n q
      by_cases q' : m < S.length
      · have em := hm m q'
        rw [en, em] at e
        exact r.inj n m (mt_ n q hn) (mt_ m q' hm') e
      · have m0 : m = S.length := by omega
        subst m0
        rw [en, muN_eq] at e
        exact absurd e (r.mt_ne (mt_ n q hn) hp)
    · have n0 : n = S.length := by omega
      subst n0
      by_cases q' : m < S.length
      · have em := hm m q'
        rw [em, muN_eq] at e
        exact absurd e.symm (r.mt_ne (mt_ m q' hm') hp)
      · omega
  · rw [List.length_append, List.length_singleton] at h2
    have n0 : n = S.length := by omega
    subst n0
    rw [muN_eq]
    exact hp
end
end Fx
set_option Elab.async false
set_option linter.all false
set_option autoImplicit false
set_option maxRecDepth 100000
set_option maxHeartbeats 4000000
/-! FxC: readings by the evaluator; expressions of plain data. -/
namespace Fx
open PySem PySem.Spec PyProof.Rows L2

section
variable {N : Nm} {K : PySem.W.Frag} {H H' H1 : Hp} {mu mu' mu1 : Nat → Addr} {k : Nat} {S S' S1 : Store}
/-- the names of a frame -/
structure RE (N : Nm) (K : PySem.W.Frag) (H : Hp) (mu : Nat → Addr) (S : Store) (ρ : Env) (σ : L2.St) : Prop where
  len : ρ.length = σ.length
  get : ∀ (i : Nat) (d : D), ρ[i]? = some (some d) → d.wf S.length = true ∧ ∃ v, σ[i]? = some (some v) ∧ RV K H mu d v
  hx : ∀ x, N.hx = some x → H x.dd = some (.xd x.gs) ∧ RF N K H mu x.fs x.gs ∧ D.wfs S.length (x.fs.map (·.2)) = true ∧ ∀ i, x.i = some i → ρ[i]? = some none → σ[i]? = some (some (.ref x.a))
theorem RS.noXd (r : RS N K H mu S) {dd : Addr} {gs : List (Str × V)} (h : H dd = some (.xd gs)) : ∀ n, Mt S n → mu n ≠ dd := fun n hn e => by
  unfold Mt at hn
  split at hn
  · rename_i q
    obtain ⟨vs, q2, _⟩ := r.ob n _ q
    rw [e, h] at q2
    cases q2
  · rename_i q
    obtain ⟨dx, gs2, q2, _⟩ := r.ob n _ q
    rw [e, h] at q2
    cases q2
  · exact hn
theorem RE.gw {ρ : Env} {σ : L2.St} (e : RE N K H mu S ρ σ) (r : RS N K H mu S) (g : Gw N K H mu S H' mu' S') : RE N K H' mu' S' ρ σ :=
  ⟨e.len, fun i d h => let ⟨w, v, h1, h2⟩ := e.get i d h; ⟨D.wf_le g.le d w, v, h1, g.rv r w h2⟩, fun x hx => let ⟨h1, h2, h3, h4⟩ := e.hx x hx;
    ⟨g.fr _ _ h1 (r.noXd h1), RF.mono (fun a vs z => g.tup r z) g.mus _ _ h3 h2, D.wfs_le g.le _ h3, h4⟩⟩
def relD (K : PySem.W.Frag) (H : Hp) (mu : Nat → Addr) (S : Store) (d : D) (v : V) : Prop := RV K H mu d v ∧ d.wf S.length = true
def relDs (K : PySem.W.Frag) (H : Hp) (mu : Nat → Addr) (S : Store) (d : List D) (v : List V) : Prop := RVs K H mu d v ∧ D.wfs S.length d = true
def relB (K : PySem.W.Frag) (H : Hp) (mu : Nat → Addr) (S : Store) (a b : Bool) : Prop := a = b
theorem relD.gw {d : D} {v : V} (h : relD K H mu S d v) (r : RS N K H mu S) (g : Gw N K H mu S H' mu' S') : relD K H' mu' S' d v := ⟨g.rv r h.2 h.1, D.wf_le g.le d h.2⟩
theorem relDs.gw {d : List D} {v : List V} (h : relDs K H mu S d v) (r : RS N K H mu S) (g : Gw N K H mu S H' mu' S') : relDs K H' mu' S' d v := ⟨g.rvs r h.2 h.1, D.wfs_le g.le d h.2⟩
variable {α β γ δ : Type} {rel : Hp → (Nat → Addr) → Store → α → β → Prop} {rel' : Hp → (Nat → Addr) → Store → γ → δ → Prop}
/-- what is wanted behind a result -/
def Post (N : Nm) (K : PySem.W.Frag) (H : Hp) (mu : Nat → Addr) (S : Store) (rel : Hp → (Nat → Addr) → Store → α → β → Prop) (r : R α) (Q : β → Hp → Prop) (E : XK) : Prop := match r with
  | .ok a S' => ∀ (b : β) (H' : Hp) (mu' : Nat → Addr), Gw N K H mu S H' mu' S' → rel H' mu' S' a b → Q b H'
  | .exn C fs S' => ∀ (dd : Addr) (gs : List (Str × V)) (H' : Hp) (mu' : Nat → Addr), Gw N K H mu S H' mu' S' → H' dd = some (.xd gs) → RF N K H' mu' fs gs → D.wfs S'.length (fs.map (·.2)) = true → E (.ref (N.cad C)) (some dd) H'
  | .stuck => False
theorem Post.imp {r : R α} {Q Q' : β → Hp → Prop} {E : XK} (p : Post N K H mu S rel r Q E) (h : ∀ b H', Q b H' → Q' b H') : Post N K H mu S rel r Q' E := by
  cases r with
  | ok a S' => exact fun b H' mu' g q => h b H' (p b H' mu' g q)
  | exn C fs S' => exact p
  | stuck => exact p
theorem Post.after {r : R α} {Q : β → Hp → Prop} {E : XK} (p : Post N K H mu S rel r Q E) (g : Gw N K H mu S H1 mu1 S1) : Post N K H1 mu1 S1 rel r Q E := by
  cases r with
  | ok a S' => exact fun b H' mu' g' q => p b H' mu' (g.trans g') q
  | exn C fs S' => exact fun dd gs H' mu' g' q1 q2 q3 => p dd gs H' mu' (g.trans g') q1 q2 q3
  | stuck => exact p
theorem Post.bind {r : R γ} {f : γ → Store → R α} {Q : β → Hp → Prop} {E : XK} (p : Post N K H mu S rel (r.bind f) Q E) :
    Post N K H mu S rel' r (fun b H1 => ∃ mu1 S1 a, rel' H1 mu1 S1 a b ∧ Gw N K H mu S H1 mu1 S1 ∧ Post N K H1 mu1 S1 rel (f a S1) Q E) E := by
  cases r with
  | ok a S1 => exact fun b H1 mu1 g q => ⟨mu1, S1, a, q, g, Post.after p g⟩
  | exn C fs S1 => exact p
  | stuck => exact p
theorem Post.now {a : α} {b : β} {Q : β → Hp → Prop} {E : XK} (r : RS N K H mu S) (p : Post N K H mu S rel (.ok a S) Q E) (h : rel H mu S a b) : Q b H := p b H mu (Gw.refl r) h

/-! ### a store put in order -/
theorem take_get {n : Nat} (e : S'.take S.length = S) (h : n < S.length) : S'[n]? = S[n]? := by
  have q : (S'.take S.length)[n]? = S[n]? := by rw [e]
  rwa [List.getElem?_take_of_lt h] at q
theorem Gw.cut (r : RS N K H mu S) (g : Gw N K H mu S H' mu' S') (e : S'.take S.length = S) : Gw N K H mu S H' mu' S where
  rs := ⟨fun n o h => g.rs.ob n o (by rw [take_get e (List.getElem?_eq_some_iff.mp h).1]; exact h), r.wf, fun n m hn hm q => by
    refine g.rs.inj n m ?_ ?_ q
    · unfold Mt; rw [take_get e hn.lt]; exact hn
    · unfold Mt; rw [take_get e hm.lt]; exact hm⟩
  le := Nat.le_refl _
  mus := g.mus
  fr := g.fr
  new := fun n h1 h2 => absurd h1 (by omega)
  som := g.som
  mt := fun _ _ h => h
/-- one new place alone is kept -/
theorem Gw.keep1 (r : RS N K H mu S) (g : Gw N K H mu S H' mu' S') (e : S'.take S.length = S) {j : Nat} {o : O} (hj : S.length ≤ j) (ho : S'[j]? = some o) (w : o.wf S.length = true) : Gw N K H mu S H' (muN mu' S.length (mu' j)) (S ++ [o]) := by
  have g0 := g.cut r e
  have hjl := (List.getElem?_eq_some_iff.mp ho).1
  have hm : ∀ n, n < S.length → muN mu' S.length (mu' j) n = mu' n := fun n h => muN_ne (Nat.ne_of_lt h)
  have at_ : ∀ n u, (S ++ [o])[n]? = some u → (n < S.length ∧ S[n]? = some u) ∨ (n = S.length ∧ u = o) := fun n u q => by
    by_cases z : n < S.length
    · rw [List.getElem?_append_left z] at q
      exact .inl ⟨z, q⟩
    · rw [List.getElem?_append_right (Nat.le_of_not_lt z)] at q
      obtain ⟨l, q2⟩ := List.getElem?_eq_some_iff.mp q
      have l' : n - S.length < 1 := by simpa using l
      have n0 : n = S.length := by omega
      subst n0
      exact .inr ⟨rfl, by simpa using q2.symm⟩
  have mo : Mt (S ++ [o]) S.length → Mt S' j := fun h => by
    unfold Mt at h ⊢
    rw [List.getElem?_append_right (Nat.le_refl _)] at h
    rw [ho]
    simpa using h
  have mt_ : ∀ n, n < S.length → Mt (S ++ [o]) n → Mt S n := fun n h hn => by
    unfold Mt at hn ⊢
    rw [List.getElem?_append_left h] at hn
    exact hn
  have mt2 : ∀ n, Mt S n → Mt S' n := fun n hn => by unfold Mt; rw [take_get e hn.lt]; exact hn
  refine ⟨⟨fun n u q => ?_, fun n u q => ?_, fun n m hn hm' q => ?_⟩, by simp, fun n h => (hm n h).trans (g.mus n h), g.fr, fun n h1 h2 => ?_, g.som, mt_⟩
  · rcases at_ n u q with ⟨z, q⟩ | ⟨rfl, rfl⟩
    · rw [hm n z]
      exact (g0.rs.ob n u q).mono (fun _ _ h => h) hm (r.wf n u q) fun _ z => z
    · rw [muN_eq]
      exact (g.rs.ob j u ho).mono (fun _ _ h => h) hm w fun _ z => z
  · rcases at_ n u q with ⟨z, q⟩ | ⟨rfl, rfl⟩
    · exact O.wf_le (by simp) (r.wf n u q)
    · exact O.wf_le (by simp) w
  · have ln := hn.lt
    have lm := hm'.lt
    rw [List.length_append, List.length_singleton] at ln lm
    by_cases z : n < S.length
    · rw [hm n z] at q
      by_cases z' : m < S.length
      · rw [hm m z'] at q
        exact g.rs.inj n m (mt2 n (mt_ n z hn)) (mt2 m (mt_ m z' hm')) q
      · have m0 : m = S.length := by omega
        subst m0
        rw [muN_eq] at q
        have := g.rs.inj n j (mt2 n (mt_ n z hn)) (mo hm') q
        omega
    · have n0 : n = S.length := by omega
      subst n0
      by_cases z' : m < S.length
      · rw [hm m z', muN_eq] at q
        have := g.rs.inj j m (mo hn) (mt2 m (mt_ m z' hm')) q
        omega
      · omega
  · rw [List.length_append, List.length_singleton] at h2
    have n0 : n = S.length := by omega
    subst n0
    rw [muN_eq]
    exact g.new j hj hjl
theorem Post.tidy {r : R D} {Q : V → Hp → Prop} {E : XK} (rs : RS N K H mu S) (p : Post N K H mu S (relD K) (tidy S r) Q E) : Post N K H mu S (relD K) r Q E := by
  cases r with
  | ok d S' =>
    intro v H' mu' g q
    unfold Fx.tidy at p
    dsimp only at p
    split at p
    · exact p v H' mu' g q
    · split at p
      · rename_i e
        split at p
        · rename_i w
          exact p v H' mu' (g.cut rs e) ⟨q.1, w⟩
        · split at p
          · rename_i j _
            split at p
            · rename_i o ho
              split at p
              · rename_i c
                obtain ⟨c1, c2⟩ := Bool.and_eq_true_iff.mp c
                refine p v H' (muN mu' S.length (mu' j)) (g.keep1 rs e (of_decide_eq_true c2) ho c1) ⟨?_, by simp [D.wf]⟩
                have q1 : v = .ref (mu' j) := q.1
                show v = .ref (muN mu' S.length (mu' j) S.length)
                rw [muN_eq, q1]
              · exact p v H' mu' g q
            · exact p v H' mu' g q
          · exact p v H' mu' g q
      · exact p v H' mu' g q
  | exn C fs S' =>
    intro dd gs H' mu' g q1 q2 q3
    unfold Fx.tidy at p
    dsimp only at p
    split at p
    · exact p dd gs H' mu' g q1 q2 q3
    · split at p
      · rename_i e
        split at p
        · rename_i w
          exact p dd gs H' mu' (g.cut rs e) q1 q2 w
        · exact p dd gs H' mu' g q1 q2 q3
      · exact p dd gs H' mu' g q1 q2 q3
  | stuck => exact p
theorem Post.tidyB {r : R Bool} {Q : Bool → Hp → Prop} {E : XK} (rs : RS N K H mu S) (p : Post N K H mu S (relB K) (tidyB S r) Q E) : Post N K H mu S (relB K) r Q E := by
  cases r with
  | ok d S' =>
    intro v H' mu' g q
    unfold Fx.tidyB at p
    dsimp only at p
    split at p
    · exact p v H' mu' g q
    · split at p
      · rename_i e
        exact p v H' mu' (g.cut rs e) q
      · exact p v H' mu' g q
  | exn C fs S' => exact p
  | stuck => exact p
end

/-! ### readings -/
abbrev XW (W : WX) (σ : L2.St) : XK := fun c d H => W c d σ H
def tE (N : Nm) (K : PySem.W.Frag) (W : WX) (f : Env → Store → R D) : TE := fun σ H Q => ∃ mu ρ S, RE N K H mu S ρ σ ∧ RS N K H mu S ∧ Post N K H mu S (relD K) (f ρ S) Q (XW W σ)
def tT (N : Nm) (K : PySem.W.Frag) (W : WX) (f : Env → Store → R Bool) : TT := fun σ H Q => ∃ mu ρ S, RE N K H mu S ρ σ ∧ RS N K H mu S ∧ Post N K H mu S (relB K) (f ρ S) Q (XW W σ)
def tA (N : Nm) (K : PySem.W.Frag) (W : WX) (f : Env → Store → R (List D)) : TA := fun σ H Q => ∃ mu ρ S, RE N K H mu S ρ σ ∧ RS N K H mu S ∧ Post N K H mu S (relDs K) (f ρ S) Q (XW W σ)
section
variable {X : Cx}
theorem peI {e : Expr} {t t' : TE} (h : PE X e t) (hi : ∀ σ H Q, t' σ H Q → t σ H Q) : PE X e t' := .mk fun pn s σ H Q I q => h.run pn s σ H Q I (hi _ _ _ q)
theorem ptI {e : Expr} {t t' : TT} (h : PT X e t) (hi : ∀ σ H Q, t' σ H Q → t σ H Q) : PT X e t' := .mk fun pn s σ H Q I q => h.run pn s σ H Q I (hi _ _ _ q)
theorem pwI {e : Expr} {t t' : TT} (h : PW X e t) (hi : ∀ σ H Q, t' σ H Q → t σ H Q) : PW X e t' := .mk fun wh pn s σ H Q I q => h.run wh pn s σ H Q I (hi _ _ _ q)
theorem paI {e : List Expr} {t t' : TA} (h : PA X e t) (hi : ∀ σ H Q, t' σ H Q → t σ H Q) : PA X e t' := .mk fun po pn s σ H Q I q => h.run po pn s σ H Q I (hi _ _ _ q)
theorem psI {e : Stmt} {t t' : TS} (h : PS X e t) (hi : ∀ D σ H, t' D σ H → t D σ H) : PS X e t' := .mk fun pn s σ H D I q => h.run pn s σ H D I (hi _ _ _ q)
theorem pssI {e : List Stmt} {t t' : TS} (h : PSs X e t) (hi : ∀ D σ H, t' D σ H → t D σ H) : PSs X e t' := .mk fun pn s σ H D I q => h.run pn s σ H D I (hi _ _ _ q)
end

/-! ### steps by values -/
section
variable {X : Cx} {N : Nm} {W : WX} {a b e : Expr} {fa fb : Env → Store → R D} {pos : Pos}
/-- an operation on two data -/
def r2F (N : Nm) (K : PySem.W.Frag) (g : D → D → Store → R D) : R2 := fun x y H Q => ∃ mu S a b E, relD K H mu S a x ∧ relD K H mu S b y ∧ RS N K H mu S ∧ Post N K H mu S (relD K) (g a b S) Q E
def r1F (N : Nm) (K : PySem.W.Frag) (g : D → Store → R D) : V → Hp → VK → Prop := fun x H Q => ∃ mu S a E, relD K H mu S a x ∧ RS N K H mu S ∧ Post N K H mu S (relD K) (g a S) Q E
def rnF (N : Nm) (K : PySem.W.Frag) (g : List D → Store → R D) : List V → Hp → VK → Prop := fun xs H Q => ∃ mu S ds E, relDs K H mu S ds xs ∧ RS N K H mu S ∧ Post N K H mu S (relD K) (g ds S) Q E
def rmF (N : Nm) (K : PySem.W.Frag) (g : D → List D → Store → R D) : V → List V → Hp → VK → Prop := fun x xs H Q => ∃ mu S d ds E, relD K H mu S d x ∧ relDs K H mu S ds xs ∧ RS N K H mu S ∧ Post N K H mu S (relD K) (g d ds S) Q E
theorem two_of {g : D → D → Store → R D} {σ : L2.St} {H : Hp} {Q : VK} (h : tE N X.K W (fun ρ S => (fa ρ S).bind fun x S1 => (fb ρ S1).bind fun y S2 => g x y S2) σ H Q) : tOp (r2F N X.K g) (tE N X.K W fa) (tE N X.K W fb) σ H Q := by
  obtain ⟨mu, ρ, S, re, rs, p⟩ := h
  refine ⟨mu, ρ, S, re, rs, (Post.bind (rel' := relD X.K) p).imp ?_⟩
  rintro x H1 ⟨mu1, S1, d1, r1, g1, p1⟩
  refine ⟨mu1, ρ, S1, re.gw rs g1, g1.rs, (Post.bind (rel' := relD X.K) p1).imp ?_⟩
  rintro y H2 ⟨mu2, S2, d2, r2, g2, p2⟩
  exact ⟨mu2, S2, d1, d2, _, r1.gw g1.rs g2, r2, g2.rs, p2⟩
theorem one_of {g : D → Store → R D} {σ : L2.St} {H : Hp} {Q : VK} (h : tE N X.K W (fun ρ S => (fa ρ S).bind fun x S1 => g x S1) σ H Q) : tUn (r1F N X.K g) (tE N X.K W fa) σ H Q := by
  obtain ⟨mu, ρ, S, re, rs, p⟩ := h
  refine ⟨mu, ρ, S, re, rs, (Post.bind (rel' := relD X.K) p).imp ?_⟩
  rintro x H1 ⟨mu1, S1, d1, r1, g1, p1⟩
  exact ⟨mu1, S1, d1, _, r1, g1.rs, p1⟩
theorem s_bin {op : Operator} {g : D → D → Store → R D} (ho : OpR X (binaryOp op) (r2F N X.K g)) (ha : PE X a (tE N X.K W fa)) (hb : PE X b (tE N X.K W fb)) :
    PE X (.BinOp a op b pos) (tE N X.K W fun ρ S => (fa ρ S).bind fun x S1 => (fb ρ S1).bind fun y S2 => g x y S2) := peI (pe_op ho ha hb) fun _ _ _ h => two_of h
theorem s_cmp {op : CmpOp} {g : D → D → Store → R D} (ho : OpR X (compareOp op) (r2F N X.K g)) (ha : PE X a (tE N X.K W fa)) (hb : PE X b (tE N X.K W fb)) (hm : behindInMarks op b = false) :
    PE X (.Compare a [op] [b] pos) (tE N X.K W fun ρ S => (fa ρ S).bind fun x S1 => (fb ρ S1).bind fun y S2 => g x y S2) := peI (pe_cmpR ho ha hb hm) fun _ _ _ h => two_of h
theorem s_ix {g : D → D → Store → R D} (ho : IxR X (r2F N X.K g)) (ha : PE X a (tE N X.K W fa)) (hb : PE X b (tE N X.K W fb)) (hs : PlainIx b) :
    PE X (.Subscript a b pos) (tE N X.K W fun ρ S => (fa ρ S).bind fun x S1 => (fb ρ S1).bind fun y S2 => g x y S2) := peI (pe_ix ho ha hb hs) fun _ _ _ h => two_of h
theorem s_un {op : UnaryOp} {g : D → Store → R D} (ho : UnR X (unaryOp op) (r1F N X.K g)) (ha : PE X a (tE N X.K W fa)) :
    PE X (.UnaryOp op a pos) (tE N X.K W fun ρ S => (fa ρ S).bind fun x S1 => g x S1) := peI (pe_un ho ha) fun _ _ _ h => one_of h
theorem s_loc {i : Nat} {x : Str} (hN : X.N[i]? = some x) (hv : Vis X.env.scope x) (hd : (x == ("__debug__" : Str)) = false) (hcd : (x == ("__classdict__" : Str)) = false) : PE X (.Name x pos) (tE N X.K W fun ρ S => (match ρ[i]? with
    | some (some d) => .ok d S
    | _ => .stuck)) := by
  refine peI (pe_var hN hv hd hcd) fun σ H Q h => ?_
  obtain ⟨mu, ρ, S, re, rs, p⟩ := h
  dsimp only at p
  split at p
  · rename_i d hq
    obtain ⟨w, v, h1, h2⟩ := re.get i d hq
    exact ⟨v, h1, p.now rs ⟨h2, w⟩⟩
  · exact p.elim
/-- a constant -/
theorem s_con {c : D} {v : V} (h : PE X e (tC v)) (hr : ∀ H mu, RV X.K H mu c v) (hw : ∀ n, c.wf n = true) : PE X e (tE N X.K W fun _ S => .ok c S) :=
  peI h fun σ H Q ⟨mu, ρ, S, re, rs, p⟩ => p.now rs ⟨hr H mu, hw _⟩
theorem s_cons {es : List Expr} {fe : Env → Store → R D} {fs : Env → Store → R (List D)} (he : PE X e (tE N X.K W fe)) (hr : PA X es (tA N X.K W fs)) (hs : starEach (e :: es) X.env = (false, eval e X.env) :: starEach es X.env) :
    PA X (e :: es) (tA N X.K W fun ρ S => (fe ρ S).bind fun x S1 => (fs ρ S1).bind fun xs S2 => .ok (x :: xs) S2) := by
  refine paI (pa_cons he hr hs) fun σ H Q h => ?_
  obtain ⟨mu, ρ, S, re, rs, p⟩ := h
  refine ⟨mu, ρ, S, re, rs, (Post.bind (rel' := relD X.K) p).imp ?_⟩
  rintro x H1 ⟨mu1, S1, d1, r1, g1, p1⟩
  refine ⟨mu1, ρ, S1, re.gw rs g1, g1.rs, (Post.bind (rel' := relDs X.K) p1).imp ?_⟩
  rintro xs H2 ⟨mu2, S2, d2, r2, g2, p2⟩
  have r1' := r1.gw g1.rs g2
  exact p2.now g2.rs ⟨⟨_, _, rfl, r1'.1, r2.1⟩, by simp [D.wfs, r1'.2, r2.2]⟩
theorem s_nil : PA X [] (tA N X.K W fun _ S => .ok [] S) := paI pa_nil fun σ H Q ⟨mu, ρ, S, re, rs, p⟩ => p.now rs ⟨rfl, rfl⟩
theorem s_tup {es : List Expr} {x1 : Nat} {fs : Env → Store → R (List D)} (h : PA X es (tA N X.K W fs)) : PE X (.Tuple es x1 pos) (tE N X.K W fun ρ S => (fs ρ S).bind fun ds S1 => if ds.length ≤ line then .ok (.tup ds) S1 else .stuck) := by
  refine peI (pe_tup h) fun σ H Q h => ?_
  obtain ⟨mu, ρ, S, re, rs, p⟩ := h
  refine ⟨mu, ρ, S, re, rs, (Post.bind (rel' := relDs X.K) p).imp ?_⟩
  rintro xs H1 ⟨mu1, S1, ds, r1, g1, p1⟩
  split at p1
  · rename_i hl
    refine ⟨by rw [r1.1.length]; exact hl, fun q hq => ?_⟩
    have g := Gw.laid g1.rs (o := HO.tup xs) hq
    have r2 := r1.gw g1.rs g
    exact (p1.after g).now g.rs ⟨⟨q, xs, rfl, SqT.of upd_same, r2.1⟩, r2.2⟩
  · exact p1.elim
theorem s_lst {es : List Expr} {fs : Env → Store → R (List D)} (h : PA X es (tA N X.K W fs)) : PE X (.List es pos) (tE N X.K W fun ρ S => (fs ρ S).bind fun ds S1 => if ds.length ≤ line then .ok (.ref S1.length) (S1 ++ [.lst ds]) else .stuck) := by
  refine peI (pe_lst h) fun σ H Q h => ?_
  obtain ⟨mu, ρ, S, re, rs, p⟩ := h
  refine ⟨mu, ρ, S, re, rs, (Post.bind (rel' := relDs X.K) p).imp ?_⟩
  rintro xs H1 ⟨mu1, S1, ds, r1, g1, p1⟩
  split at p1
  · rename_i hl
    refine ⟨by rw [r1.1.length]; exact hl, fun q hq => ?_⟩
    have g := Gw.alloc g1.rs (p := q) (ho := .lst xs) (o := .lst ds) hq r1.2 fun H' mu' ht hm hp => ⟨xs, hp, RVs.mono ht hm ds xs r1.2 r1.1⟩
    refine p1 _ _ _ g ⟨?_, by simp [D.wf]⟩
    show V.ref q = .ref (muN mu1 S1.length q S1.length)
    rw [muN_eq]
  · exact p1.elim
/-- a call of a built-in by its values -/
theorem s_call {es : List Expr} {fs : Env → Store → R (List D)} {g : List D → Store → R D} {f : Expr} {t : TA → TE} (ht : ∀ u, PA X es u → PE X e (tCB (rnF N X.K g) u)) (h : PA X es (tA N X.K W fs)) :
    PE X e (tE N X.K W fun ρ S => (fs ρ S).bind fun ds S1 => g ds S1) := by
  refine peI (ht _ h) fun σ H Q h => ?_
  obtain ⟨mu, ρ, S, re, rs, p⟩ := h
  refine ⟨mu, ρ, S, re, rs, (Post.bind (rel' := relDs X.K) p).imp ?_⟩
  rintro xs H1 ⟨mu1, S1, ds, r1, g1, p1⟩
  exact ⟨mu1, S1, ds, _, r1, g1.rs, p1⟩
end
end Fx
set_option Elab.async false
set_option linter.all false
set_option autoImplicit false
set_option maxRecDepth 100000
set_option maxHeartbeats 4000000
/-! FxD: operators, comparisons, subscripts, built-ins by values. -/
namespace Fx
open PySem PySem.Spec PyProof.Rows L2

theorem line_eq : line = sizeLine := by rw [sizeLine_eq]; rfl
theorem str_len (s : List Nat) : (strOf s).length = s.length := by
  show (s.toArray).size = s.length
  simp
theorem str_cat (a b : List Nat) : strOf a ++ strOf b = strOf (a ++ b) := by
  show Str.append (strOf a) (strOf b) = strOf (a ++ b)
  unfold Str.append strOf
  simp
theorem str_inj {a b : List Nat} (h : strOf a = strOf b) : a = b := by
  unfold strOf at h
  simpa using h

/-! ### data that are read as the library reads them -/
mutual
def D.py : D → PyData
  | .non => .none
  | .bl b => .bool b
  | .int i => .int i
  | .str s => .str (strOf s)
  | .tup xs => .tuple (D.pys xs)
  | .ref _ => .none
def D.pys : List D → List PyData
  | [] => []
  | x :: xs => D.py x :: D.pys xs
end
section
variable {K : PySem.W.Frag} {H : Hp} {mu : Nat → Addr}
mutual
theorem RV.dp : ∀ (d : D) (v : V), d.nb = true → RV K H mu d v → Dp K H v d.py
  | .non, v, _, h => by have h : v = .non := h; subst h; exact .non
  | .bl b, v, n, h => by simp [D.nb] at n
  | .int i, v, _, h => by have h : v = .int i := h; subst h; exact .int i
  | .str s, v, _, h => by have h : v = .str (strOf s) := h; subst h; exact .str _
  | .ref n, v, w, h => by simp [D.nb] at w
  | .tup xs, v, w, h => by
    obtain ⟨a, vs, e, q, r⟩ := h
    subst e
    exact .tup q (RVs.dp xs vs (by simpa [D.nb] using w) r)
theorem RVs.dp : ∀ (ds : List D) (vs : List V), D.nbs ds = true → RVs K H mu ds vs → DpAll K H vs (D.pys ds)
  | [], vs, _, h => by have h : vs = [] := h; subst h; exact .nil
  | x :: xs, vs, w, h => by
    obtain ⟨v, r, e, h1, h2⟩ := h
    have w' : D.nb x = true ∧ D.nbs xs = true := by simpa [D.nbs] using w
    subst e
    exact .cons (RV.dp x v w'.1 h1) (RVs.dp xs r w'.2 h2)
end
end
mutual
theorem D.lay : ∀ d : D, d.nb = true → (D.py d).canLay0 = true
  | .non, _ => rfl
  | .bl _, _ => rfl
  | .int _, _ => rfl
  | .str s, h => by
    have h' : (s.all fun c => decide (c < 1114112)) = true := h
    show ((strOf s).cps.all fun c => decide (c < 0x110000)) = true
    simpa [strOf] using h'
  | .ref _, _ => rfl
  | .tup xs, h => by simpa [D.py, PyData.canLay0] using D.lays xs (by simpa [D.nb] using h)
theorem D.lays : ∀ ds : List D, D.nbs ds = true → PyData.canLayAll0 (D.pys ds) = true
  | [], _ => rfl
  | x :: xs, h => by
    have h' : D.nb x = true ∧ D.nbs xs = true := by simpa [D.nbs] using h
    simp [D.pys, PyData.canLayAll0, D.lay x h'.1, D.lays xs h'.2]
end
mutual
theorem D.py_dep : ∀ d : D, (D.py d).depth = d.dep
  | .non => rfl
  | .bl _ => rfl
  | .int _ => rfl
  | .str _ => rfl
  | .ref _ => rfl
  | .tup xs => by simp [D.py, PyData.depth, D.dep, D.pys_dep xs]
theorem D.pys_dep : ∀ ds : List D, PyData.depthAll (D.pys ds) = D.deps ds
  | [] => rfl
  | x :: xs => by simp [D.pys, PyData.depthAll, D.deps, D.py_dep x, D.pys_dep xs]
end
theorem D.shaped {d : D} (n : d.nb = true) (h : d.dep ≤ 60) : SeqAt.shaped d.py = true := by
  unfold SeqAt.shaped
  rw [D.lay d n, D.py_dep]
  simp; omega
mutual
theorem D.eqv : ∀ a b : D, a.nb = true → b.nb = true → PyData.eqv a.py b.py = D.beq a b
  | .non, b, ha, hb => by cases b <;> first | rfl | (simp [D.nb] at hb) | simp [D.py, PyData.eqv, D.beq]
  | .bl x, b, ha, hb => by simp [D.nb] at ha
  | .ref x, b, ha, hb => by simp [D.nb] at ha
  | .int i, b, ha, hb => by cases b <;> first | (simp [D.nb] at hb; done) | simp [D.py, PyData.eqv, D.beq]
  | .str s, b, ha, hb => by
    cases b with
    | str t =>
      simp only [D.py, PyData.eqv, D.beq]
      rw [Bool.eq_iff_iff, beq_iff_eq, beq_iff_eq]
      exact ⟨fun h => str_inj h, fun h => by rw [h]⟩
    | _ => first | (simp [D.nb] at hb; done) | simp [D.py, PyData.eqv, D.beq]
  | .tup xs, b, ha, hb => by
    cases b with
    | tup ys => simp only [D.py, PyData.eqv, D.beq]; exact D.eqvs xs ys (by simpa [D.nb] using ha) (by simpa [D.nb] using hb)
    | _ => first | (simp [D.nb] at hb; done) | simp [D.py, PyData.eqv, D.beq]
theorem D.eqvs : ∀ a b : List D, D.nbs a = true → D.nbs b = true → PyData.eqvAll (D.pys a) (D.pys b) = D.beqs a b
  | [], [], _, _ => by simp [D.pys, PyData.eqvAll, D.beqs]
  | [], _ :: _, _, _ => by simp [D.pys, PyData.eqvAll, D.beqs]
  | _ :: _, [], _, _ => by simp [D.pys, PyData.eqvAll, D.beqs]
  | x :: xs, y :: ys, ha, hb => by
    have a' : D.nb x = true ∧ D.nbs xs = true := by simpa [D.nbs] using ha
    have b' : D.nb y = true ∧ D.nbs ys = true := by simpa [D.nbs] using hb
    simp only [D.pys, PyData.eqvAll, D.beqs]
    rw [D.eqv x y a'.1 b'.1, D.eqvs xs ys a'.2 b'.2]
end
theorem beq_dec (a b : D) : D.beq a b = decide (a = b) := by
  by_cases h : a = b
  · rw [decide_eq_true h, h]; exact D.beq_refl b
  · rw [decide_eq_false h]
    cases q : D.beq a b with
    | true => exact absurd (D.beq_eq q) h
    | false => rfl
theorem beqs_dec (a b : List D) : D.beqs a b = decide (a = b) := by
  by_cases h : a = b
  · rw [decide_eq_true h, h]; exact D.beqs_refl b
  · rw [decide_eq_false h]
    cases q : D.beqs a b with
    | true => exact absurd (D.beqs_eq q) h
    | false => rfl

/-! ### what stands in the store is read -/
section
variable {N : Nm} {K : PySem.W.Frag} {H : Hp} {mu : Nat → Addr} {S : Store}
theorem RS.lst (r : RS N K H mu S) {n : Nat} {xs : List D} (h : lstOf S n = some xs) : ∃ vs, SqL K H (mu n) vs ∧ RVs K H mu xs vs ∧ D.wfs S.length xs = true := by
  unfold lstOf at h
  cases e : S[n]? with
  | none => rw [e] at h; cases h
  | some o =>
    have q := r.ob n o e
    have w := r.wf n o e
    rw [e] at h
    cases o with
    | lst ys =>
      obtain rfl : ys = xs := Option.some.inj h
      obtain ⟨vs, g, q⟩ := q
      exact ⟨vs, SqL.of g, q, w⟩
    | frz ys =>
      obtain rfl : ys = xs := Option.some.inj h
      obtain ⟨vs, g, q⟩ := q
      refine ⟨vs, ?_, q, w⟩
      rcases g with ⟨ob, g⟩ | g
      · exact .inl (.inr ⟨ob, g⟩)
      · exact g H
    | ins C fs => cases h
theorem RS.lstM (r : RS N K H mu S) {n : Nat} {xs : List D} (h : S[n]? = some (.lst xs)) : ∃ vs, H (mu n) = some (.lst vs) ∧ RVs K H mu xs vs ∧ D.wfs S.length xs = true := by
  obtain ⟨vs, g, q⟩ := r.ob n _ h
  exact ⟨vs, g, q, r.wf n _ h⟩
/-- a list of the store is changed -/
theorem Gw.set (r : RS N K H mu S) {n : Nat} {xs ys : List D} {vs : List V} (h : S[n]? = some (.lst xs)) (q : RVs K H mu ys vs) (w : D.wfs S.length ys = true) : Gw N K H mu S (upd H (mu n) (.lst vs)) mu (S.set n (.lst ys)) := by
  obtain ⟨ws, hw, _⟩ := r.lstM h
  have hn : n < S.length := (List.getElem?_eq_some_iff.mp h).1
  have mn : Mt S n := by unfold Mt; rw [h]; trivial
  have keep : ∀ b u, b ≠ mu n → H b = some u → upd H (mu n) (.lst vs) b = some u := fun b u hb e => by rw [upd_ne hb]; exact e
  have kt : ∀ a us, SqT K H a us → SqT K (upd H (mu n) (.lst vs)) a us := fun a us z => by
    rcases z with (z | ⟨ob, z⟩) | z
    · exact .inl (.inl (keep _ _ (fun e => by rw [e, hw] at z; cases z) z))
    · exact .inl (.inr ⟨ob, keep _ _ (fun e => by rw [e, hw] at z; cases z) z⟩)
    · exact .inr z
  have mt_ : ∀ m, Mt (S.set n (.lst ys)) m ↔ Mt S m := fun m => by
    unfold Mt
    by_cases e : m = n
    · subst e
      rw [List.getElem?_set_self hn, h]
    · rw [List.getElem?_set_ne (Ne.symm e)]
  have le : (S.set n (.lst ys)).length = S.length := List.length_set
  refine ⟨⟨fun m o e => ?_, fun m o e => ?_, fun m k h1 h2 e => r.inj m k ((mt_ m).mp h1) ((mt_ k).mp h2) e⟩, by rw [le]; exact Nat.le_refl _, fun _ _ => rfl, fun b u e hb => keep b u (fun z => hb n mn z.symm) e, fun m h1 h2 => absurd h1 (by rw [le] at h2; omega), fun b hb => ?_, fun m _ hm => (mt_ m).mp hm⟩
  · by_cases z : m = n
    · subst z
      rw [List.getElem?_set_self hn] at e
      obtain rfl := Option.some.inj e
      exact ⟨vs, upd_same, RVs.mono kt (fun _ _ => rfl) ys vs w q⟩
    · rw [List.getElem?_set_ne (Ne.symm z)] at e
      have q' := r.ob m o e
      have w' := r.wf m o e
      cases o with
      | frz us =>
        obtain ⟨vs2, g, q2⟩ := q'
        refine ⟨vs2, ?_, RVs.mono kt (fun _ _ => rfl) us vs2 w' q2⟩
        rcases g with ⟨ob, g⟩ | g
        · exact .inl ⟨ob, keep _ _ (fun z2 => by rw [z2, hw] at g; cases g) g⟩
        · exact .inr g
      | lst us => exact q'.mono kt (fun _ _ => rfl) w' fun u z' => keep _ u (fun z2 => z (r.inj m n (by unfold Mt; rw [e]; trivial) mn z2)) z'
      | ins C fs => exact q'.mono kt (fun _ _ => rfl) w' fun u z' => keep _ u (fun z2 => z (r.inj m n (by unfold Mt; rw [e]; trivial) mn z2)) z'
  · rw [le]
    by_cases z : m = n
    · subst z
      rw [List.getElem?_set_self hn] at e
      obtain rfl := Option.some.inj e
      exact w
    · rw [List.getElem?_set_ne (Ne.symm z)] at e
      exact r.wf m o e
  · by_cases z : b = mu n
    · rw [z, upd_same]; simp
    · rw [upd_ne z]; exact hb
end
end Fx
set_option Elab.async false
set_option linter.all false
set_option autoImplicit false
set_option maxRecDepth 100000
set_option maxHeartbeats 4000000
/-! FxE: the operators' rules. -/
namespace Fx
open PySem PySem.Spec PyProof.Rows L2

section
variable {X : Cx} {N : Nm}
theorem cut_eq (n d : Nat) (o : Option Int) : HT.sIx n d o = sIx n d o := by
  cases o with
  | none => rfl
  | some v => rfl
theorem ixN_eq (n : Nat) (i : Int) : L2.ixN n i = Fx.ixN n i := rfl
theorem atI_eq {α : Type} (xs : List α) (i : Int) : L2.atI xs i = Fx.atI xs i := rfl

/-! ### + - * // % ** -/
theorem opF_add : OpR X (binaryOp .Add) (r2F N X.K (binop .Add)) := by
  intro pn s σ H x y v u Q I rx ry h
  obtain ⟨mu, S, a, b, E, ⟨ra, wa⟩, ⟨rb, wb⟩, rs, p⟩ := h
  cases a with
  | int i =>
    cases b with
    | int j =>
      obtain rfl : x = .int i := ra
      obtain rfl : y = .int j := rb
      exact op_add pn s σ H _ _ v u Q I rx ry ⟨i, j, rfl, rfl, Post.now rs p ⟨rfl, rfl⟩⟩
    | _ => exact (show False from p).elim
  | str i =>
    cases b with
    | str j =>
      obtain rfl : x = .str (strOf i) := ra
      obtain rfl : y = .str (strOf j) := rb
      have p' : Post N X.K H mu S (relD X.K) (if i.length + j.length ≤ line then .ok (.str (i ++ j)) S else .stuck) Q E := p
      by_cases hl : i.length + j.length ≤ line
      · rw [if_pos hl] at p'
        refine op_add_str pn s σ H _ _ v u Q I rx ry ⟨_, _, rfl, rfl, by rw [str_len, str_len, ← line_eq]; exact hl, ?_⟩
        rw [str_cat]
        exact p'.now rs ⟨rfl, rfl⟩
      · rw [if_neg hl] at p'
        exact p'.elim
    | _ => exact (show False from p).elim
  | tup i =>
    cases b with
    | tup j =>
      obtain ⟨l, vs, rfl, ql, rl⟩ := ra
      obtain ⟨m, us, rfl, qm, rm⟩ := rb
      have wi : D.wfs S.length i = true := wa
      have wj : D.wfs S.length j = true := wb
      have wij : D.wf S.length (.tup (i ++ j)) = true := by
        show D.wfs S.length (i ++ j) = true
        rw [wfs_append, wi, wj]; rfl
      have p' : Post N X.K H mu S (relD X.K) (if i.length + j.length ≤ line then .ok (.tup (i ++ j)) S else .stuck) Q E := p
      by_cases hl : i.length + j.length ≤ line
      · rw [if_pos hl] at p'
        refine op_catA pn s σ H _ _ v u Q I rx ry ⟨l, m, vs, us, rfl, rfl, ql, qm, by rw [rl.length, rm.length, ← line_eq]; exact hl, fun e => ?_, fun _ e => ?_, fun _ _ q hq => ?_⟩
        · have e2 : i = [] := by have := rl.length; rw [e] at this; exact List.length_eq_zero_iff.mp this.symm
          subst e2
          exact p'.now rs ⟨⟨m, us, rfl, qm, rm⟩, wij⟩
        · have e2 : j = [] := by have := rm.length; rw [e] at this; exact List.length_eq_zero_iff.mp this.symm
          subst e2
          refine p'.now rs ⟨⟨l, vs, rfl, ql, by rw [List.append_nil]; exact rl⟩, wij⟩
        · have g := Gw.laid rs (o := HO.tup (vs ++ us)) hq
          exact (p'.after g).now g.rs ⟨⟨q, vs ++ us, rfl, SqT.of upd_same, g.rvs rs (by rw [wfs_append, wi, wj]; rfl) (rl.append rm)⟩, wij⟩
      · rw [if_neg hl] at p'
        exact p'.elim
    | _ => exact (show False from p).elim
  | ref i =>
    cases b with
    | ref j =>
      obtain rfl : x = .ref (mu i) := ra
      obtain rfl : y = .ref (mu j) := rb
      unfold binop at p
      dsimp only at p
      split at p
      · rename_i xs ys h1 h2
        split at p
        · rename_i hl
          obtain ⟨vs, g1, q1, w1⟩ := rs.lstM h1
          obtain ⟨us, g2, q2, w2⟩ := rs.lstM h2
          refine op_cat pn s σ H _ _ v u Q I rx ry ⟨mu i, mu j, vs, us, rfl, rfl, g1, g2, by rw [q1.length, q2.length, ← line_eq]; exact hl, fun q hq => ?_⟩
          have w : D.wfs S.length (xs ++ ys) = true := by rw [wfs_append, w1, w2]; rfl
          have g := Gw.alloc rs (p := q) (ho := .lst (vs ++ us)) (o := .lst (xs ++ ys)) hq w fun H' mu' ht hm hp => ⟨_, hp, RVs.mono ht hm _ _ w (q1.append q2)⟩
          refine p _ _ _ g ⟨?_, by simp [D.wf]⟩
          show V.ref q = .ref (muN mu S.length q S.length)
          rw [muN_eq]
        · exact p.elim
      · exact p.elim
    | _ => exact (show False from p).elim
  | _ => cases b <;> exact (show False from p).elim
theorem opF_sub : OpR X (binaryOp .Sub) (r2F N X.K (binop .Sub)) := by
  intro pn s σ H x y v u Q I rx ry h
  obtain ⟨mu, S, a, b, E, ⟨ra, wa⟩, ⟨rb, wb⟩, rs, p⟩ := h
  cases a with
  | int i =>
    cases b with
    | int j =>
      obtain rfl : x = .int i := ra
      obtain rfl : y = .int j := rb
      exact op_sub pn s σ H _ _ v u Q I rx ry ⟨i, j, rfl, rfl, Post.now rs p ⟨rfl, rfl⟩⟩
    | _ => exact (show False from p).elim
  | _ => cases b <;> exact (show False from p).elim
theorem str_mul (i : List Nat) (j : Int) : Txt.mul (strOf i) j = strOf (List.replicate j.toNat i).flatten := by
  unfold Txt.mul
  have rep : ∀ (k : Nat) (acc : List Nat), (List.replicate k i.toArray).foldl (· ++ ·) acc.toArray = (acc ++ (List.replicate k i).flatten).toArray := by
    intro k
    induction k with
    | zero => intro acc; simp
    | succ k ih =>
      intro acc
      rw [List.replicate_succ, List.foldl_cons, List.replicate_succ, List.flatten_cons]
      have e : acc.toArray ++ i.toArray = (acc ++ i).toArray := by simp
      rw [e, ih, List.append_assoc]
  by_cases h1 : j < 1
  · rw [if_pos h1]
    have : j.toNat = 0 := by omega
    rw [this]; rfl
  · rw [if_neg h1]
    split
    · rename_i c
      rw [Bool.or_eq_true, beq_iff_eq, beq_iff_eq, str_len] at c
      rcases c with c | c
      · subst c; simp
      · have : i = [] := List.length_eq_zero_iff.mp c
        subst this; simp
    · have := rep j.toNat []
      simp only [List.nil_append] at this
      show (⟨(List.replicate j.toNat i.toArray).foldl (· ++ ·) #[]⟩ : Str) = _
      have e : (#[] : Array Nat) = ([] : List Nat).toArray := rfl
      rw [e, this]
theorem opF_mult : OpR X (binaryOp .Mult) (r2F N X.K (binop .Mult)) := by
  intro pn s σ H x y v u Q I rx ry h
  obtain ⟨mu, S, a, b, E, ⟨ra, wa⟩, ⟨rb, wb⟩, rs, p⟩ := h
  cases a with
  | int i =>
    cases b with
    | int j =>
      obtain rfl : x = .int i := ra
      obtain rfl : y = .int j := rb
      have p' : Post N X.K H mu S (relD X.K) (if bits i + bits j < 1000000 then .ok (.int (i * j)) S else .stuck) Q E := p
      by_cases hl : bits i + bits j < 1000000
      · rw [if_pos hl] at p'
        exact op_mulW pn s σ H _ _ v u Q I rx ry ⟨i, j, rfl, rfl, hl, p'.now rs ⟨rfl, rfl⟩⟩
      · rw [if_neg hl] at p'
        exact p'.elim
    | _ => exact (show False from p).elim
  | str i =>
    cases b with
    | int j =>
      obtain rfl : x = .str (strOf i) := ra
      obtain rfl : y = .int j := rb
      have p' : Post N X.K H mu S (relD X.K) (if i.length * j.toNat ≤ line ∧ -(2 ^ 63) ≤ j ∧ j < 2 ^ 63 then .ok (.str (List.replicate j.toNat i).flatten) S else .stuck) Q E := p
      by_cases hl : i.length * j.toNat ≤ line ∧ -(2 ^ 63) ≤ j ∧ j < 2 ^ 63
      · rw [if_pos hl] at p'
        obtain ⟨t, rfl⟩ := rx
        obtain ⟨t', rfl⟩ := ry
        have e0 : line = 16777216 := rfl
        refine PySem.SB.mul ⟨?_, fun h1 _ => ?_, fun h1 _ => ?_⟩ fun tk k => ⟨.str _, H, I.tok _, ⟨tk, rfl⟩, ?_⟩
        · rw [Bool.or_eq_false_iff, decide_eq_false_iff_not, decide_eq_false_iff_not]; omega
        · rw [str_len]
          intro q
          have j0 : 0 < j := by omega
          have q2 := Int.mul_lt_mul_of_pos_right q j0
          have e1 : ((i.length * j.toNat : Nat) : Int) = (i.length : Int) * j := by
            rw [Int.natCast_mul, Int.toNat_of_nonneg (by omega)]
          have q3 : (i.length : Int) * j ≤ 16777216 := by rw [← e1]; omega
          have q4 : (i.length : Int) + 1 ≥ 1 := by omega
          have h5 : (2 ^ 63 - 1 : Int) < (((2 ^ 63 - 1) / j) + 1) * j := by
            have := Int.lt_ediv_add_one_mul_self (2 ^ 63 - 1) j0
            simpa using this
          have h6 : ((2 ^ 63 - 1) / j + 1) * j ≤ (i.length : Int) * j := Int.mul_le_mul_of_nonneg_right (by omega) (by omega)
          omega
        · rw [str_len]
          show Builtin.Str.tooLong (i.length * j.toNat) = false
          unfold Builtin.Str.tooLong
          rw [← line_eq]
          simp; omega
        · rw [str_mul]
          exact p'.now rs ⟨rfl, rfl⟩
      · rw [if_neg hl] at p'
        exact p'.elim
    | _ => exact (show False from p).elim
  | _ => cases b <;> exact (show False from p).elim
theorem opF_fdiv : OpR X (binaryOp .FloorDiv) (r2F N X.K (binop .FloorDiv)) := by
  intro pn s σ H x y v u Q I rx ry h
  obtain ⟨mu, S, a, b, E, ⟨ra, wa⟩, ⟨rb, wb⟩, rs, p⟩ := h
  cases a with
  | int i =>
    cases b with
    | int j =>
      obtain rfl : x = .int i := ra
      obtain rfl : y = .int j := rb
      have p' : Post N X.K H mu S (relD X.K) (if j ≠ 0 ∧ j.natAbs < 1073741824 then .ok (.int (i.fdiv j)) S else .stuck) Q E := p
      by_cases hl : j ≠ 0 ∧ j.natAbs < 1073741824
      · rw [if_pos hl] at p'
        exact op_fdivN pn s σ H _ _ v u Q I rx ry ⟨i, j, rfl, rfl, hl, p'.now rs ⟨rfl, rfl⟩⟩
      · rw [if_neg hl] at p'
        exact p'.elim
    | _ => exact (show False from p).elim
  | _ => cases b <;> exact (show False from p).elim
theorem opF_mod : OpR X (binaryOp .Mod) (r2F N X.K (binop .Mod)) := by
  intro pn s σ H x y v u Q I rx ry h
  obtain ⟨mu, S, a, b, E, ⟨ra, wa⟩, ⟨rb, wb⟩, rs, p⟩ := h
  cases a with
  | int i =>
    cases b with
    | int j =>
      obtain rfl : x = .int i := ra
      obtain rfl : y = .int j := rb
      have p' : Post N X.K H mu S (relD X.K) (if j ≠ 0 then .ok (.int (i.fmod j)) S else .stuck) Q E := p
      by_cases hl : j ≠ 0
      · rw [if_pos hl] at p'
        exact op_modN pn s σ H _ _ v u Q I rx ry ⟨i, j, rfl, rfl, hl, p'.now rs ⟨rfl, rfl⟩⟩
      · rw [if_neg hl] at p'
        exact p'.elim
    | _ => exact (show False from p).elim
  | _ => cases b <;> exact (show False from p).elim
theorem opF_pow : OpR X (binaryOp .Pow) (r2F N X.K (binop .Pow)) := by
  intro pn s σ H x y v u Q I rx ry h
  obtain ⟨mu, S, a, b, E, ⟨ra, wa⟩, ⟨rb, wb⟩, rs, p⟩ := h
  cases a with
  | int i =>
    cases b with
    | int j =>
      obtain rfl : x = .int i := ra
      obtain rfl : y = .int j := rb
      have p' : Post N X.K H mu S (relD X.K) (if 0 ≤ j ∧ j ≤ 1000000 ∧ i.natAbs < 2 ^ 64 then .ok (.int (i ^ j.toNat)) S else .stuck) Q E := p
      by_cases hl : 0 ≤ j ∧ j ≤ 1000000 ∧ i.natAbs < 2 ^ 64
      · rw [if_pos hl] at p'
        exact op_pow pn s σ H _ _ v u Q I rx ry ⟨i, j, rfl, rfl, hl, p'.now rs ⟨rfl, rfl⟩⟩
      · rw [if_neg hl] at p'
        exact p'.elim
    | _ => exact (show False from p).elim
  | _ => cases b <;> exact (show False from p).elim
theorem opF_no {op : Operator} (h : ∀ a b S, binop op a b S = .stuck) : OpR X (binaryOp op) (r2F N X.K (binop op)) := by
  intro pn s σ H x y v u Q I rx ry q
  obtain ⟨mu, S, a, b, E, _, _, rs, p⟩ := q
  rw [h] at p
  exact p.elim
theorem opF (op : Operator) : OpR X (binaryOp op) (r2F N X.K (binop op)) := by
  cases op with
  | Add => exact opF_add
  | Sub => exact opF_sub
  | Mult => exact opF_mult
  | FloorDiv => exact opF_fdiv
  | Mod => exact opF_mod
  | Pow => exact opF_pow
  | _ => exact opF_no fun a b S => by cases a <;> cases b <;> rfl
/-- in place: of what is never changed -/
theorem ipF_add (h : ∀ a b : D, True) : True := trivial

/-! ### the result of a comparison -/
def r2B (N : Nm) (K : PySem.W.Frag) (g : D → D → Store → Option Bool) : R2 := fun x y H Q => ∃ mu S a b k, relD K H mu S a x ∧ relD K H mu S b y ∧ RS N K H mu S ∧ g a b S = some k ∧ Q (.bl k) H
theorem r2B_of {f : Value → Value → Sem Value} {g : D → D → Store → Option Bool} (h : OpR X f (r2B N X.K g)) : OpR X f (r2F N X.K fun a b S => optR ((g a b S).map .bl) S) := by
  intro pn s σ H x y v u Q I rx ry q
  obtain ⟨mu, S, a, b, E, ra, rb, rs, p⟩ := q
  refine h pn s σ H x y v u Q I rx ry ?_
  have p : Post N X.K H mu S (relD X.K) (optR ((g a b S).map .bl) S) Q E := p
  cases e : g a b S with
  | none => rw [e] at p; exact (show False from p).elim
  | some k =>
    rw [e] at p
    exact ⟨mu, S, a, b, k, ra, rb, rs, e, Post.now rs p ⟨rfl, rfl⟩⟩
theorem dp_of {H : Hp} {mu : Nat → Addr} {S : Store} {a : D} {x : V} (n : a.nb = true) (r : relD X.K H mu S a x) : Dp X.K H x a.py := r.1.dp a x n
theorem eqD_other {S : Store} {a b : D} {k : Bool} (h : eqD S a b = some k) : (∃ x y, a = .bl x ∧ b = .bl y ∧ k = (x == y)) ∨ (∃ x y, a = .str x ∧ b = .str y ∧ k = decide (x = y)) ∨
    (∃ n m xs ys, a = .ref n ∧ b = .ref m ∧ lstOf S n = some xs ∧ lstOf S m = some ys ∧ D.nbs xs = true ∧ D.nbs ys = true ∧ D.deps xs < 60 ∧ D.deps ys < 60 ∧ k = decide (xs = ys)) ∨
    (a.nb = true ∧ b.nb = true ∧ a.dep ≤ 60 ∧ b.dep ≤ 60 ∧ k = decide (a = b)) := by
  unfold eqD at h
  split at h
  · exact .inl ⟨_, _, rfl, rfl, (Option.some.inj h).symm⟩
  · exact .inr (.inl ⟨_, _, rfl, rfl, (Option.some.inj h).symm⟩)
  · split at h
    · rename_i n m xs ys h1 h2
      split at h
      · rename_i c
        rw [Bool.and_eq_true, Bool.and_eq_true, Bool.and_eq_true, decide_eq_true_eq, decide_eq_true_eq] at c
        obtain ⟨⟨⟨c1, c2⟩, c3⟩, c4⟩ := c
        exact .inr (.inr (.inl ⟨_, _, xs, ys, rfl, rfl, h1, h2, c1, c2, c3, c4, (Option.some.inj h).symm⟩))
      · cases h
    · cases h
  · split at h
    · rename_i c
      rw [Bool.and_eq_true, Bool.and_eq_true, Bool.and_eq_true, decide_eq_true_eq, decide_eq_true_eq] at c
      obtain ⟨⟨⟨c1, c2⟩, c3⟩, c4⟩ := c
      exact .inr (.inr (.inr ⟨c1, c2, c3, c4, (Option.some.inj h).symm⟩))
    · cases h
theorem lst_shaped {xs : List D} (n : D.nbs xs = true) (h : D.deps xs < 60) : SeqAt.shaped (.list (D.pys xs)) = true := by
  unfold SeqAt.shaped
  simp only [PyData.canLay0, PyData.depth, D.lays xs n, D.pys_dep]
  simp; omega
theorem dp_lst {H : Hp} {mu : Nat → Addr} {S : Store} {n : Nat} {xs : List D} (rs : RS N X.K H mu S) (h : lstOf S n = some xs) (hn : D.nbs xs = true) : Dp X.K H (.ref (mu n)) (.list (D.pys xs)) := by
  obtain ⟨vs, q, r, _⟩ := rs.lst h
  exact .lst q (RVs.dp xs vs hn r)
theorem opB_eq (hu : X.A.units + 64 < cLine) : OpR X (compareOp .Eq) (r2B N X.K fun a b S => eqD S a b) := by
  intro pn s σ H x y v u Q I rx ry h
  obtain ⟨mu, S, a, b, k, ra, rb, rs, e, q⟩ := h
  rcases eqD_other e with ⟨c, d, rfl, rfl, rfl⟩ | ⟨c, d, rfl, rfl, rfl⟩ | ⟨n, m, xs, ys, rfl, rfl, h1, h2, n1, n2, d1, d2, rfl⟩ | ⟨n1, n2, d1, d2, rfl⟩
  · obtain rfl : x = .bl c := ra.1
    obtain rfl : y = .bl d := rb.1
    refine op_eq pn s σ H _ _ v u Q I rx ry ⟨rfl, ?_⟩
    rw [dec_bl]; exact q
  · obtain rfl : x = .str (strOf c) := ra.1
    obtain rfl : y = .str (strOf d) := rb.1
    refine op_eq pn s σ H _ _ v u Q I rx ry ⟨rfl, ?_⟩
    have e2 : decide (V.str (strOf c) = V.str (strOf d)) = decide (c = d) := decide_eq_decide.mpr ⟨fun z => str_inj (V.str.inj z), fun z => by rw [z]⟩
    rw [e2]; exact q
  · obtain rfl : x = .ref (mu n) := ra.1
    obtain rfl : y = .ref (mu m) := rb.1
    refine op_eqD hu pn s σ H _ _ v u Q I rx ry ⟨_, _, dp_lst rs h1 n1, dp_lst rs h2 n2, lst_shaped n1 d1, lst_shaped n2 d2, ?_⟩
    have e2 : PyData.eqv (.list (D.pys xs)) (.list (D.pys ys)) = decide (xs = ys) := by
      rw [← beqs_dec, ← D.eqvs xs ys n1 n2]
      simp only [PyData.eqv]
    rw [e2]; exact q
  · refine op_eqD hu pn s σ H _ _ v u Q I rx ry ⟨_, _, dp_of n1 ra, dp_of n2 rb, D.shaped n1 d1, D.shaped n2 d2, ?_⟩
    rw [D.eqv a b n1 n2, beq_dec]; exact q
theorem opB_ne (hu : X.A.units + 64 < cLine) : OpR X (compareOp .NotEq) (r2B N X.K fun a b S => (eqD S a b).map (!·)) := by
  intro pn s σ H x y v u Q I rx ry h
  obtain ⟨mu, S, a, b, k', ra, rb, rs, e', q⟩ := h
  obtain ⟨k, e, rfl⟩ := Option.map_eq_some_iff.mp e'
  rcases eqD_other e with ⟨c, d, rfl, rfl, rfl⟩ | ⟨c, d, rfl, rfl, rfl⟩ | ⟨n, m, xs, ys, rfl, rfl, h1, h2, n1, n2, d1, d2, rfl⟩ | ⟨n1, n2, d1, d2, rfl⟩
  · obtain rfl : x = .bl c := ra.1
    obtain rfl : y = .bl d := rb.1
    refine op_ne pn s σ H _ _ v u Q I rx ry ⟨rfl, ?_⟩
    rw [dec_bl]; exact q
  · obtain rfl : x = .str (strOf c) := ra.1
    obtain rfl : y = .str (strOf d) := rb.1
    refine op_ne pn s σ H _ _ v u Q I rx ry ⟨rfl, ?_⟩
    have e2 : decide (V.str (strOf c) = V.str (strOf d)) = decide (c = d) := decide_eq_decide.mpr ⟨fun z => str_inj (V.str.inj z), fun z => by rw [z]⟩
    rw [e2]; exact q
  · obtain rfl : x = .ref (mu n) := ra.1
    obtain rfl : y = .ref (mu m) := rb.1
    refine op_neD hu pn s σ H _ _ v u Q I rx ry ⟨_, _, dp_lst rs h1 n1, dp_lst rs h2 n2, lst_shaped n1 d1, lst_shaped n2 d2, ?_⟩
    have e2 : PyData.eqv (.list (D.pys xs)) (.list (D.pys ys)) = decide (xs = ys) := by
      rw [← beqs_dec, ← D.eqvs xs ys n1 n2]
      simp only [PyData.eqv]
    rw [e2]; exact q
  · refine op_neD hu pn s σ H _ _ v u Q I rx ry ⟨_, _, dp_of n1 ra, dp_of n2 rb, D.shaped n1 d1, D.shaped n2 d2, ?_⟩
    rw [D.eqv a b n1 n2, beq_dec]; exact q
end
end Fx
set_option Elab.async false
set_option linter.all false
set_option autoImplicit false
set_option maxRecDepth 100000
set_option maxHeartbeats 4000000
/-! FxF: order, membership, identity, truth, subscripts, slices. -/
namespace Fx
open PySem PySem.Spec PyProof.Rows L2

theorem alike_pair {a b : D} (h : D.alike a b = true) : (a = .non ∧ b = .non) ∨ (∃ i j, a = .int i ∧ b = .int j) ∨ (∃ i j, a = .str i ∧ b = .str j) ∨ ∃ i j, a = .tup i ∧ b = .tup j ∧ D.alikes i j = true := by
  cases a <;> cases b <;> first | (simp [D.alike] at h; done) | exact .inl ⟨rfl, rfl⟩ | exact .inr (.inl ⟨_, _, rfl, rfl⟩) | exact .inr (.inr (.inl ⟨_, _, rfl, rfl⟩)) | exact .inr (.inr (.inr ⟨_, _, rfl, rfl, by simpa [D.alike] using h⟩))
mutual
theorem D.alike_py : ∀ a b : D, D.alike a b = true → PySem.W.alike a.py b.py = true
  | .non, b, h => by cases b <;> first | (simp [D.alike] at h; done) | simp [D.py, PySem.W.alike]
  | .bl x, b, h => by cases b <;> simp [D.alike] at h
  | .ref x, b, h => by cases b <;> simp [D.alike] at h
  | .int i, b, h => by cases b <;> first | (simp [D.alike] at h; done) | simp [D.py, PySem.W.alike]
  | .str i, b, h => by cases b <;> first | (simp [D.alike] at h; done) | simp [D.py, PySem.W.alike]
  | .tup xs, b, h => by
    cases b with
    | tup ys => simpa [D.py, PySem.W.alike] using D.alikes_py xs ys (by simpa [D.alike] using h)
    | _ => simp [D.alike] at h
theorem D.alikes_py : ∀ a b : List D, D.alikes a b = true → PySem.W.alikeAll (D.pys a) (D.pys b) = true
  | [], _, _ => by simp [D.pys, PySem.W.alikeAll]
  | _ :: _, [], _ => by simp [D.pys, PySem.W.alikeAll]
  | x :: xs, y :: ys, h => by
    have h' : D.alike x y = true ∧ D.alikes xs ys = true := by simpa [D.alikes] using h
    simp [D.pys, PySem.W.alikeAll, D.alike_py x y h'.1, D.alikes_py xs ys h'.2]
end
/-- == of what is alike is the data's own equality -/
theorem D.eqv_alike : ∀ a b : D, D.alike a b = true → PyData.eqv a.py b.py = D.beq a b := by
  have str : ∀ i j : List Nat, PyData.eqv (D.py (.str i)) (D.py (.str j)) = D.beq (.str i) (.str j) := fun i j => by
    simp only [D.py, PyData.eqv, D.beq]
    rw [Bool.eq_iff_iff, beq_iff_eq, beq_iff_eq]
    exact ⟨fun h => str_inj h, fun h => by rw [h]⟩
  have all : ∀ n : Nat, (∀ a b : D, sizeOf a < n → D.alike a b = true → PyData.eqv a.py b.py = D.beq a b) ∧ (∀ a b : List D, sizeOf a < n → D.alikes a b = true → PyData.eqvAll (D.pys a) (D.pys b) = D.beqs a b) := by
    intro n
    induction n with
    | zero => exact ⟨fun a _ h => absurd h (Nat.not_lt_zero _), fun a _ h => absurd h (Nat.not_lt_zero _)⟩
    | succ n ih =>
      refine ⟨fun a b hn h => ?_, fun a b hn h => ?_⟩
      · rcases alike_pair h with ⟨rfl, rfl⟩ | ⟨i, j, rfl, rfl⟩ | ⟨i, j, rfl, rfl⟩ | ⟨i, j, rfl, rfl, h'⟩
        · simp [D.py, PyData.eqv, D.beq]
        · simp [D.py, PyData.eqv, D.beq]
        · exact str i j
        · have e := ih.2 i j (by simp at hn; omega) h'
          simpa [D.py, PyData.eqv, D.beq] using e
      · cases a with
        | nil => cases b <;> simp [D.pys, PyData.eqvAll, D.beqs]
        | cons x xs =>
          cases b with
          | nil => simp [D.pys, PyData.eqvAll, D.beqs]
          | cons y ys =>
            have h' : D.alike x y = true ∧ D.alikes xs ys = true := by simpa [D.alikes] using h
            simp only [D.pys, PyData.eqvAll, D.beqs]
            simp at hn
            rw [ih.1 x y (by omega) h'.1, ih.2 xs ys (by omega) h'.2]
  exact fun a b h => (all (sizeOf a + 1)).1 a b (Nat.lt_succ_self _) h
theorem ltS_eq : ∀ x y : List Nat, ltS x y = decide (x < y)
  | [], [] => rfl
  | [], _ :: _ => by simp [ltS]
  | _ :: _, [] => by simp [ltS]
  | a :: x, b :: y => by
    unfold ltS
    by_cases h : a = b
    · subst h
      rw [if_pos rfl, ltS_eq x y]
      exact decide_eq_decide.mpr ⟨fun q => List.cons_lt_cons_iff.mpr (.inr ⟨rfl, q⟩), fun q => (List.cons_lt_cons_iff.mp q).elim (fun z => absurd z (Nat.lt_irrefl _)) fun z => z.2⟩
    · rw [if_neg h]
      exact decide_eq_decide.mpr ⟨fun q => List.cons_lt_cons_iff.mpr (.inl q), fun q => (List.cons_lt_cons_iff.mp q).elim (fun z => z) fun z => absurd z.1 h⟩
mutual
theorem D.lt_py : ∀ a b : D, D.alike a b = true → PySem.W.dataLt a.py b.py = D.lt a b
  | .non, b, h => by
    cases b with
    | non => exact PyProof.Rows.lex_irrefl _
    | _ => simp [D.alike] at h
  | .bl x, b, h => by cases b <;> simp [D.alike] at h
  | .ref x, b, h => by cases b <;> simp [D.alike] at h
  | .int i, b, h => by
    cases b with
    | int j => exact PySem.W.dataLt_int i j
    | _ => simp [D.alike] at h
  | .str i, b, h => by
    cases b with
    | str j =>
      have e := PySem.W.dataLt_str (strOf i) (strOf j)
      have e2 : D.lt (.str i) (.str j) = ltS i j := by simp [D.lt]
      rw [e2, ltS_eq]
      simpa [D.py, strOf] using e
    | _ => simp [D.alike] at h
  | .tup xs, b, h => by
    cases b with
    | tup ys =>
      have e : D.lt (.tup xs) (.tup ys) = D.lts xs ys := by simp [D.lt]
      rw [e, ← D.lts_py xs ys (by simpa [D.alike] using h)]
      exact PySem.W.dataLt_tuple _ _
    | _ => simp [D.alike] at h
theorem D.lts_py : ∀ a b : List D, D.alikes a b = true → PyProof.Rows.lexLt PyProof.Rows.itemOrd (PySem.W.keyToksAll (D.pys a)) (PySem.W.keyToksAll (D.pys b)) = D.lts a b
  | [], [], _ => by simpa [D.lts] using PyProof.Rows.lex_irrefl _
  | [], y :: ys, _ => by
    simp only [D.pys, PySem.W.keyToksAll, D.lts]
    rw [PyProof.Rows.lex_diff (O := PyProof.Rows.itemOrd) (by simp)]
    simp [PyProof.Rows.itemLt]
  | x :: xs, [], _ => by
    simp only [D.pys, PySem.W.keyToksAll, D.lts]
    rw [PyProof.Rows.lex_diff (O := PyProof.Rows.itemOrd) (by simp)]
    simp [PyProof.Rows.itemLt]
  | x :: xs, y :: ys, h => by
    have h' : D.alike x y = true ∧ D.alikes xs ys = true := by simpa [D.alikes] using h
    simp only [D.pys]
    rw [PySem.W.dataLt_cons (D.alike_py x y h'.1), D.eqv_alike x y h'.1, D.lt_py x y h'.1, D.lts_py xs ys h'.2]
    have u : D.lts (x :: xs) (y :: ys) = if x = y then D.lts xs ys else D.lt x y := by rw [D.lts]
    rw [u]
    by_cases e : x = y
    · rw [if_pos e, if_pos (by rw [e]; exact D.beq_refl y)]
    · rw [if_neg e, if_neg fun q => e (D.beq_eq q)]
end
theorem alike_sym : ∀ a b : D, D.alike a b = true → PySem.W.alike b.py a.py = true := fun a b h => by rw [PySem.W.alike_comm]; exact D.alike_py a b h

section
variable {X : Cx} {N : Nm}
theorem ltD_is {a b : D} {k : Bool} (h : ltD a b = some k) : a.nb = true ∧ b.nb = true ∧ D.alike a b = true ∧ a ≠ .non ∧ a.dep ≤ 60 ∧ b.dep ≤ 60 ∧ k = D.lt a b := by
  unfold ltD at h
  split at h
  · rename_i c
    simp only [Bool.and_eq_true, decide_eq_true_eq, Bool.not_eq_true', decide_eq_false_iff_not] at c
    exact ⟨c.1.1.1.1.1, c.1.1.1.1.2, c.1.1.1.2, c.1.1.2, c.1.2, c.2, (Option.some.inj h).symm⟩
  · cases h
theorem py_none {a : D} (n : a.nb = true) (h : a ≠ .non) : a.py ≠ .none := by
  cases a with
  | non => exact absurd rfl h
  | ref k => simp [D.nb] at n
  | _ => simp [D.py]
theorem room60 {a b : D} {A : Around} (hu : A.units + 64 < cLine) (h : a.dep ≤ 60) : A.units + min a.py.depth b.py.depth < cLine := by
  rw [D.py_dep, D.py_dep]; omega
theorem opB_lt (hu : X.A.units + 64 < cLine) : OpR X (compareOp .Lt) (r2B N X.K fun a b S => ltD a b) := by
  intro pn s σ H x y v u Q I rx ry h
  obtain ⟨mu, S, a, b, k, ra, rb, rs, e, q⟩ := h
  obtain ⟨n1, n2, al, nn, d1, d2, rfl⟩ := ltD_is e
  obtain ⟨as, r1⟩ := Dp.reads I _ x v (dp_of n1 ra) rx
  obtain ⟨bs, r2⟩ := Dp.reads I _ y u (dp_of n2 rb) ry
  refine PySem.W.lt_data r1 r2 (D.alike_py a b al) (py_none n1 nn) (room60 hu d1) ⟨.bl _, H, I, rfl, ?_⟩
  rw [D.lt_py a b al]; exact q
theorem opB_gt (hu : X.A.units + 64 < cLine) : OpR X (compareOp .Gt) (r2B N X.K fun a b S => ltD b a) := by
  intro pn s σ H x y v u Q I rx ry h
  obtain ⟨mu, S, a, b, k, ra, rb, rs, e, q⟩ := h
  obtain ⟨n2, n1, al, nn, d2, d1, rfl⟩ := ltD_is e
  obtain ⟨as, r1⟩ := Dp.reads I _ x v (dp_of n1 ra) rx
  obtain ⟨bs, r2⟩ := Dp.reads I _ y u (dp_of n2 rb) ry
  refine PySem.W.gt_data r1 r2 (alike_sym b a al) (PySem.W.ne_none_both (D.alike_py b a al) (py_none n2 nn)) (room60 hu d1) ⟨.bl _, H, I, rfl, ?_⟩
  rw [D.lt_py b a al]; exact q
theorem opB_le (hu : X.A.units + 64 < cLine) : OpR X (compareOp .LtE) (r2B N X.K fun a b S => (ltD b a).map (!·)) := by
  intro pn s σ H x y v u Q I rx ry h
  obtain ⟨mu, S, a, b, k', ra, rb, rs, e', q⟩ := h
  obtain ⟨k, e, rfl⟩ := Option.map_eq_some_iff.mp e'
  obtain ⟨n2, n1, al, nn, d2, d1, rfl⟩ := ltD_is e
  obtain ⟨as, r1⟩ := Dp.reads I _ x v (dp_of n1 ra) rx
  obtain ⟨bs, r2⟩ := Dp.reads I _ y u (dp_of n2 rb) ry
  refine PySem.W.le_data r1 r2 (alike_sym b a al) (PySem.W.ne_none_both (D.alike_py b a al) (py_none n2 nn)) (room60 hu d1) ⟨.bl _, H, I, rfl, ?_⟩
  rw [D.lt_py b a al]; exact q
theorem opB_ge (hu : X.A.units + 64 < cLine) : OpR X (compareOp .GtE) (r2B N X.K fun a b S => (ltD a b).map (!·)) := by
  intro pn s σ H x y v u Q I rx ry h
  obtain ⟨mu, S, a, b, k', ra, rb, rs, e', q⟩ := h
  obtain ⟨k, e, rfl⟩ := Option.map_eq_some_iff.mp e'
  obtain ⟨n1, n2, al, nn, d1, d2, rfl⟩ := ltD_is e
  obtain ⟨as, r1⟩ := Dp.reads I _ x v (dp_of n1 ra) rx
  obtain ⟨bs, r2⟩ := Dp.reads I _ y u (dp_of n2 rb) ry
  refine PySem.W.ge_data r1 r2 (D.alike_py a b al) (py_none n1 nn) (room60 hu d1) ⟨.bl _, H, I, rfl, ?_⟩
  rw [D.lt_py a b al]; exact q

/-! ### in -/
theorem pys_any {a : D} (n : a.nb = true) : ∀ {xs : List D}, D.nbs xs = true → (D.pys xs).any (fun z => PyData.eqv z a.py) = decide (a ∈ xs)
  | [], _ => by simp [D.pys]
  | x :: xs, h => by
    have h' : D.nb x = true ∧ D.nbs xs = true := by simpa [D.nbs] using h
    rw [D.pys, List.any_cons, D.eqv x a h'.1 n, pys_any n h'.2, beq_dec]
    by_cases e : x = a
    · subst e; simp
    · have e' : ¬ a = x := fun q => e q.symm
      simp [e, e']
theorem inD_is {S : Store} {a b : D} {k : Bool} (h : inD S a b = some k) : (∃ c y, a = .str [c] ∧ b = .str y ∧ k = decide (c ∈ y)) ∨ (∃ ys, seqOf S b = some ys ∧ a.nb = true ∧ D.nbs ys = true ∧ a.dep ≤ 60 ∧ D.deps ys ≤ 60 ∧ k = decide (a ∈ ys)) := by
  have two : ∀ {b' : D}, (match seqOf S b' with
    | some ys => if a.nb && D.nbs ys && decide (a.dep ≤ 60) && decide (D.deps ys ≤ 60) then some (decide (a ∈ ys)) else none
    | none => none) = some k → ∃ ys, seqOf S b' = some ys ∧ a.nb = true ∧ D.nbs ys = true ∧ a.dep ≤ 60 ∧ D.deps ys ≤ 60 ∧ k = decide (a ∈ ys) := fun {b'} h => by
    split at h
    · rename_i ys e
      split at h
      · rename_i c
        simp only [Bool.and_eq_true, decide_eq_true_eq] at c
        exact ⟨ys, e, c.1.1.1, c.1.1.2, c.1.2, c.2, (Option.some.inj h).symm⟩
      · cases h
    · cases h
  unfold inD at h
  split at h
  · split at h
    · exact .inl ⟨_, _, rfl, rfl, (Option.some.inj h).symm⟩
    · cases h
  · exact .inr (two h)
theorem seqOf_is {H : Hp} {mu : Nat → Addr} {S : Store} {b : D} {y : V} {ys : List D} (rs : RS N X.K H mu S) (rb : relD X.K H mu S b y) (h : seqOf S b = some ys) :
    ∃ p vs, y = .ref p ∧ (SqL X.K H p vs ∨ SqT X.K H p vs) ∧ RVs X.K H mu ys vs ∧ D.wfs S.length ys = true := by
  unfold seqOf at h
  split at h
  · obtain rfl := Option.some.inj h
    obtain ⟨a, vs, e, q, r⟩ := rb.1
    exact ⟨a, vs, e, .inr q, r, rb.2⟩
  · obtain ⟨vs, q, r, w⟩ := rs.lst h
    exact ⟨_, vs, rb.1, .inl q, r, w⟩
  · cases h
theorem opB_in (hu : X.A.units + 128 < cLine) : OpR X (compareOp .In) (r2B N X.K fun a b S => inD S a b) := by
  intro pn s σ H x y v u Q I rx ry h
  obtain ⟨mu, S, a, b, k, ra, rb, rs, e, q⟩ := h
  rcases inD_is e with ⟨c, z, rfl, rfl, rfl⟩ | ⟨ys, e2, n1, n2, d1, d2, rfl⟩
  · obtain rfl : x = .str (strOf [c]) := ra.1
    obtain rfl : y = .str (strOf z) := rb.1
    exact op_in_sign pn s σ H _ _ v u Q I rx ry ⟨c, strOf z, rfl, rfl, by simpa [strOf] using q⟩
  · obtain ⟨p, vs, rfl, hs, r, w⟩ := seqOf_is rs rb e2
    obtain ⟨as, r1⟩ := Dp.reads I _ x v (dp_of n1 ra) rx
    have hu2 : X.A.units + 1 + min (PyData.depthAll (D.pys ys)) a.py.depth < cLine := by
      rw [D.pys_dep, D.py_dep]; omega
    rcases hs with hs | hs
    · obtain ⟨bs, r2⟩ := Dp.reads I _ _ u (.lst hs (RVs.dp ys vs n2 r)) ry
      exact SeqAt.in_list_reads r2 r1 (D.lays ys n2) (D.lay a n1) hu2 ⟨.bl _, H, I, rfl, by rw [pys_any n1 n2]; exact q⟩
    · obtain ⟨bs, r2⟩ := Dp.reads I _ _ u (.tup hs (RVs.dp ys vs n2 r)) ry
      exact SeqAt.in_tuple_reads r2 r1 (D.lays ys n2) (D.lay a n1) hu2 ⟨.bl _, H, I, rfl, by rw [pys_any n1 n2]; exact q⟩
theorem opB_notIn (hu : X.A.units + 128 < cLine) : OpR X (compareOp .NotIn) (r2B N X.K fun a b S => (inD S a b).map (!·)) := by
  intro pn s σ H x y v u Q I rx ry h
  obtain ⟨mu, S, a, b, k', ra, rb, rs, e', q⟩ := h
  obtain ⟨k, e, rfl⟩ := Option.map_eq_some_iff.mp e'
  rcases inD_is e with ⟨c, z, rfl, rfl, rfl⟩ | ⟨ys, e2, n1, n2, d1, d2, rfl⟩
  · obtain rfl : x = .str (strOf [c]) := ra.1
    obtain rfl : y = .str (strOf z) := rb.1
    exact op_notIn_sign pn s σ H _ _ v u Q I rx ry ⟨c, strOf z, rfl, rfl, by simpa [strOf] using q⟩
  · obtain ⟨p, vs, rfl, hs, r, w⟩ := seqOf_is rs rb e2
    obtain ⟨as, r1⟩ := Dp.reads I _ x v (dp_of n1 ra) rx
    have hu2 : X.A.units + 1 + min (PyData.depthAll (D.pys ys)) a.py.depth < cLine := by
      rw [D.pys_dep, D.py_dep]; omega
    rcases hs with hs | hs
    · obtain ⟨bs, r2⟩ := Dp.reads I _ _ u (.lst hs (RVs.dp ys vs n2 r)) ry
      exact SeqAt.notIn_list_reads r2 r1 (D.lays ys n2) (D.lay a n1) hu2 ⟨.bl _, H, I, rfl, by rw [pys_any n1 n2]; exact q⟩
    · obtain ⟨bs, r2⟩ := Dp.reads I _ _ u (.tup hs (RVs.dp ys vs n2 r)) ry
      exact SeqAt.notIn_tuple_reads r2 r1 (D.lays ys n2) (D.lay a n1) hu2 ⟨.bl _, H, I, rfl, by rw [pys_any n1 n2]; exact q⟩
theorem isD_rel {H : Hp} {mu : Nat → Addr} {S : Store} {a : D} {x : V} (ra : relD X.K H mu S a x) : decide (x = .non) = decide (a = .non) := by
  have h := ra.1
  refine decide_eq_decide.mpr ⟨fun e => ?_, fun e => ?_⟩
  · subst e
    cases a with
    | non => rfl
    | tup xs => obtain ⟨_, _, e, _⟩ := h; cases e
    | bl b => have h : V.non = .bl b := h; cases h
    | int b => have h : V.non = .int b := h; cases h
    | str b => have h : V.non = .str (strOf b) := h; cases h
    | ref b => have h : V.non = .ref (mu b) := h; cases h
  · subst e; exact h
theorem opB_is : OpR X (compareOp .Is) (r2B N X.K fun a b S => isD a b) := by
  intro pn s σ H x y v u Q I rx ry h
  obtain ⟨mu, S, a, b, k, ra, rb, rs, e, q⟩ := h
  have e : isD a b = some k := e
  unfold isD at e
  split at e
  · obtain rfl := Option.some.inj e
    have h2 : y = .non := rb.1
    exact op_isN pn s σ H x y v u Q I rx ry ⟨h2, by rw [isD_rel ra]; exact q⟩
  · cases e
theorem opB_isnot : OpR X (compareOp .IsNot) (r2B N X.K fun a b S => (isD a b).map (!·)) := by
  intro pn s σ H x y v u Q I rx ry h
  obtain ⟨mu, S, a, b, k', ra, rb, rs, e', q⟩ := h
  obtain ⟨k, e, rfl⟩ := Option.map_eq_some_iff.mp e'
  have e : isD a b = some k := e
  unfold isD at e
  split at e
  · obtain rfl := Option.some.inj e
    have h2 : y = .non := rb.1
    exact op_notN pn s σ H x y v u Q I rx ry ⟨h2, by rw [isD_rel ra]; exact q⟩
  · cases e
theorem opB (hu : X.A.units + 128 < cLine) (op : CmpOp) : OpR X (compareOp op) (r2B N X.K (cmpop op)) := by
  cases op with
  | Eq => exact opB_eq (by omega)
  | NotEq => exact opB_ne (by omega)
  | Lt => exact opB_lt (by omega)
  | LtE => exact opB_le (by omega)
  | Gt => exact opB_gt (by omega)
  | GtE => exact opB_ge (by omega)
  | Is => exact opB_is
  | IsNot => exact opB_isnot
  | In => exact opB_in hu
  | NotIn => exact opB_notIn hu

/-! ### truth -/
theorem truth_is {H : Hp} {mu : Nat → Addr} {S : Store} {a : D} {x : V} {k : Bool} (rs : RS N X.K H mu S) (ra : relD X.K H mu S a x) (h : truth S a = some k) : TruV X.K x H k := by
  have r := ra.1
  cases a with
  | non => obtain rfl : x = .non := r; exact (Option.some.inj h).symm
  | bl b => obtain rfl : x = .bl b := r; exact (Option.some.inj h).symm
  | int i => obtain rfl : x = .int i := r; exact (Option.some.inj h).symm
  | str s =>
    obtain rfl : x = .str (strOf s) := r
    have h' : (if s.length ≤ line then some (!s.isEmpty) else none) = some k := h
    split at h'
    · rename_i hl
      refine ⟨by rw [str_len, ← line_eq]; exact hl, ?_⟩
      rw [str_len, ← Option.some.inj h']
      cases s <;> simp
      omega
    · cases h'
  | tup xs =>
    obtain ⟨p, vs, rfl, q, r⟩ := r
    have h' : some (!xs.isEmpty) = some k := h
    refine .inr (.inl ⟨vs, q, ?_⟩)
    rw [← Option.some.inj h']
    have := r.length
    cases xs <;> cases vs <;> simp_all
  | ref n =>
    obtain rfl : x = .ref (mu n) := r
    have h' : (match lstOf S n with
      | some xs => some (!xs.isEmpty)
      | none => none) = some k := h
    split at h'
    · rename_i xs e
      obtain ⟨vs, q, r, _⟩ := rs.lst e
      refine .inl ⟨vs, q, ?_⟩
      rw [← Option.some.inj h']
      have := r.length
      cases xs <;> cases vs <;> simp_all
    · cases h'

/-! ### subscripts -/
theorem atI_len {α β : Type} {xs : List α} {ys : List β} (h : ys.length = xs.length) {i : Int} {x : α} (e : Fx.atI xs i = some x) : ∃ j, xs[j]? = some x ∧ L2.ixN ys.length i = some j := by
  unfold Fx.atI at e
  obtain ⟨j, h1, h2⟩ := Option.bind_eq_some_iff.mp e
  exact ⟨j, h2, by rw [h]; exact h1⟩
theorem wfs_get {k : Nat} {xs : List D} {j : Nat} {x : D} (w : D.wfs k xs = true) (h : xs[j]? = some x) : x.wf k = true := wfs_all.mp w x (List.mem_of_getElem? h)
theorem ixF : IxR X (r2F N X.K fun x y S => optR (idxD S x y) S) := by
  intro va sl pn s σ H x y v u Q I rx ry h hs0
  obtain ⟨mu, S, a, b, E, ra, rb, rs, p⟩ := h
  replace p : Post N X.K H mu S (relD X.K) (optR (idxD S a b) S) Q E := p
  cases e : idxD S a b with
  | none => rw [e] at p; exact (show False from p).elim
  | some d =>
    rw [e] at p
    replace p : Post N X.K H mu S (relD X.K) (.ok d S) Q E := p
    unfold idxD at e
    split at e
    · rename_i k
      have hy : y = .int k := rb.1
      split at e
      · rename_i z
        obtain rfl : x = .str (strOf z) := ra.1
        split at e
        · rename_i hl
          obtain ⟨c, h1, rfl⟩ := Option.map_eq_some_iff.mp e
          exact ix_str va sl pn s σ H _ y v u Q I rx ry ⟨strOf z, k, c, rfl, hy, by rw [str_len, ← line_eq]; exact hl, (by have h2 : L2.atI z k = some c := h1; simpa [strOf] using h2), Post.now (rel := relD X.K) rs p ⟨rfl, rfl⟩⟩ hs0
        · cases e
      · obtain ⟨xs, h1, h2⟩ := Option.bind_eq_some_iff.mp e
        obtain ⟨q, vs, rfl, hs, r, w⟩ := seqOf_is rs ra h1
        obtain ⟨j, h3, h4⟩ := atI_len r.length h2
        obtain ⟨z, h5, h6⟩ := r.get h3
        have h7 : L2.atI vs k = some z := by unfold L2.atI; rw [h4]; exact h5
        have q1 := Post.now rs p ⟨h6, wfs_get w h3⟩
        rcases hs with hs | hs
        · exact ix_list va sl pn s σ H _ y v u Q I rx ry ⟨q, vs, k, z, rfl, hy, hs, h7, q1⟩ hs0
        · exact ix_tup va sl pn s σ H _ y v u Q I rx ry ⟨q, vs, k, z, rfl, hy, hs, h7, q1⟩ hs0
    · cases e

/-! ### slices -/
def r3F (N : Nm) (K : PySem.W.Frag) : V → Option Int → Option Int → Hp → VK → Prop := fun x lo hi H Q => ∃ mu S a E, relD K H mu S a x ∧ RS N K H mu S ∧ Post N K H mu S (relD K) (cutD S a lo hi) Q E
theorem cutX_wfs {k : Nat} {xs : List D} (w : D.wfs k xs = true) (lo hi : Option Int) : D.wfs k (cutX xs lo hi) = true := wfs_all.mpr fun x hx => wfs_all.mp w x (List.mem_of_mem_drop (List.mem_of_mem_take hx))
theorem cutX_rvs {K : PySem.W.Frag} {H : Hp} {mu : Nat → Addr} {xs : List D} {vs : List V} (r : RVs K H mu xs vs) (lo hi : Option Int) : RVs K H mu (cutX xs lo hi) (cutV vs lo hi) := by
  unfold cutX cutV
  rw [r.length, cut_eq, cut_eq]
  exact (r.drop _).take _
theorem cutF : SlR X (r3F N X.K) := by
  intro pn s σ H x v vl vu lo hi sl Q I rx hs pl pu h
  obtain ⟨mu, S, a, E, ra, rs, p⟩ := h
  cases a with
  | str z =>
    obtain rfl : x = .str (strOf z) := ra.1
    have p : Post N X.K H mu S (relD X.K) (if z.length ≤ line then .ok (.str (cutX z lo hi)) S else .stuck) Q E := p
    by_cases hl : z.length ≤ line
    · rw [if_pos hl] at p
      refine sl_str pn s σ H _ v vl vu lo hi sl Q I rx hs pl pu ⟨strOf z, rfl, by rw [str_len, ← line_eq]; exact hl, ?_⟩
      have e : cutS (strOf z) lo hi = strOf (cutX z lo hi) := by
        unfold cutS cutX
        rw [str_len, cut_eq, cut_eq]
      rw [e]
      exact p.now rs ⟨rfl, rfl⟩
    · rw [if_neg hl] at p; exact p.elim
  | tup xs =>
    obtain ⟨q, vs, rfl, hq, r⟩ := ra.1
    have w : D.wfs S.length xs = true := ra.2
    have p : Post N X.K H mu S (relD X.K) (.ok (.tup (cutX xs lo hi)) S) Q E := p
    refine sl_tupA pn s σ H _ v vl vu lo hi sl Q I rx hs pl pu ⟨q, vs, rfl, hq, fun c => ?_, fun _ l hl => ?_⟩
    · have e : cutX xs lo hi = xs := by
        unfold cutX
        rw [r.length, cut_eq, cut_eq] at c
        rw [c.1, c.2]; simp
      rw [e] at p
      exact p.now rs ⟨⟨q, vs, rfl, hq, r⟩, w⟩
    · have g := Gw.laid rs (o := HO.tup (cutV vs lo hi)) hl
      exact (p.after g).now g.rs ⟨⟨l, _, rfl, SqT.of upd_same, g.rvs rs (cutX_wfs w lo hi) (cutX_rvs r lo hi)⟩, cutX_wfs w lo hi⟩
  | ref n =>
    obtain rfl : x = .ref (mu n) := ra.1
    have p : Post N X.K H mu S (relD X.K) (match lstOf S n with
      | some xs => .ok (.ref S.length) (S ++ [.lst (cutX xs lo hi)])
      | none => .stuck) Q E := p
    split at p
    · rename_i xs e
      obtain ⟨vs, hq, r, w⟩ := rs.lst e
      refine sl_list pn s σ H _ v vl vu lo hi sl Q I rx hs pl pu ⟨mu n, vs, rfl, hq, fun l hl => ?_⟩
      have w' := cutX_wfs w lo hi
      have g := Gw.alloc rs (p := l) (ho := .lst (cutV vs lo hi)) (o := .lst (cutX xs lo hi)) hl w' fun H' mu' ht hm hp => ⟨_, hp, RVs.mono ht hm _ _ w' (cutX_rvs r lo hi)⟩
      refine p _ _ _ g ⟨?_, by simp [D.wf]⟩
      show V.ref l = .ref (muN mu S.length l S.length)
      rw [muN_eq]
    · exact p.elim
  | _ => exact (show False from p).elim
end
end Fx
set_option Elab.async false
set_option linter.all false
set_option autoImplicit false
set_option maxRecDepth 100000
set_option maxHeartbeats 4000000
/-! FyF: sorted, sorted(set(..)), all, any, sum, index by the evaluator's data. -/
namespace Fx
open PySem PySem.Spec PyProof.Rows L2

/-! ### the order -/
theorem ltS_tri : ∀ x y : List Nat, ltS x y = false → ltS y x = false → x = y
  | [], [], _, _ => rfl
  | [], _ :: _, h, _ => by simp [ltS] at h
  | _ :: _, [], _, h => by simp [ltS] at h
  | x :: xs, y :: ys, h, g => by
    unfold ltS at h g
    by_cases e : x = y
    · subst e
      rw [if_pos rfl] at h g
      rw [ltS_tri xs ys h g]
    · rw [if_neg e] at h
      rw [if_neg (Ne.symm e)] at g
      have h := of_decide_eq_false h
      have g := of_decide_eq_false g
      omega
mutual
theorem D.tri : ∀ a b : D, D.alike a b = true → D.lt a b = false → D.lt b a = false → a = b
  | .non, b, h, _, _ => by cases b <;> first | rfl | (simp [D.alike] at h)
  | .bl _, b, h, _, _ => by cases b <;> simp [D.alike] at h
  | .ref _, b, h, _, _ => by cases b <;> simp [D.alike] at h
  | .int i, b, h, l, g => by
    cases b with
    | int j =>
      simp only [D.lt, decide_eq_false_iff_not] at l g
      rw [show i = j by omega]
    | _ => simp [D.alike] at h
  | .str x, b, h, l, g => by
    cases b with
    | str y =>
      simp only [D.lt] at l g
      rw [ltS_tri x y l g]
    | _ => simp [D.alike] at h
  | .tup xs, b, h, l, g => by
    cases b with
    | tup ys =>
      simp only [D.lt] at l g
      rw [D.tris xs ys (by simpa [D.alike] using h) l g]
    | _ => simp [D.alike] at h
theorem D.tris : ∀ a b : List D, D.alikes a b = true → D.lts a b = false → D.lts b a = false → a = b
  | [], [], _, _, _ => rfl
  | [], _ :: _, _, l, _ => by simp [D.lts] at l
  | _ :: _, [], _, _, g => by simp [D.lts] at g
  | x :: xs, y :: ys, h, l, g => by
    have h' : D.alike x y = true ∧ D.alikes xs ys = true := by simpa [D.alikes] using h
    rw [D.lts] at l g
    by_cases e : x = y
    · rw [if_pos e] at l
      rw [if_pos e.symm] at g
      rw [e, D.tris xs ys h'.2 l g]
    · rw [if_neg e] at l
      rw [if_neg (Ne.symm e)] at g
      exact absurd (D.tri x y h'.1 l g) e
end
/-- alike, two by two -/
def Al (xs : List D) : Prop := ∀ a ∈ xs, ∀ b ∈ xs, D.alike a b = true
abbrev leD : D → D → Bool := PySem.W.dataLe false D.py
theorem leD_tot : PySem.W.TotalLe leD := PySem.W.sortLe_total _ _ _
theorem leD_is {a b : D} (h : D.alike b a = true) : leD a b = !D.lt b a := by
  show (!PySem.W.dataLt b.py a.py) = _
  rw [D.lt_py b a h]
theorem leD_anti {a b : D} (h : D.alike a b = true) (h2 : D.alike b a = true) (l : leD a b = true) (g : leD b a = true) : a = b := by
  rw [leD_is h2] at l
  rw [leD_is h] at g
  exact D.tri a b h (by simpa using g) (by simpa using l)
theorem put_perm (x : D) : ∀ l : List D, (D.put x l).Perm (x :: l)
  | [] => List.Perm.refl _
  | y :: r => by
    unfold D.put
    split
    · exact List.Perm.refl _
    · exact ((put_perm x r).cons y).trans (List.Perm.swap x y r)
theorem sortD_perm : ∀ l : List D, (sortD l).Perm l
  | [] => List.Perm.refl _
  | x :: r => (put_perm x (sortD r)).trans ((sortD_perm r).cons x)
theorem put_sorted {x : D} : ∀ {l : List D}, Al (x :: l) → l.Pairwise (fun a b => leD a b = true) → (D.put x l).Pairwise fun a b => leD a b = true
  | [], _, _ => List.pairwise_singleton _ _
  | y :: r, al, p => by
    have axy := al x List.mem_cons_self y (List.mem_cons_of_mem _ List.mem_cons_self)
    have ayx := al y (List.mem_cons_of_mem _ List.mem_cons_self) x List.mem_cons_self
    obtain ⟨p1, p2⟩ := List.pairwise_cons.mp p
    unfold D.put
    split
    · rename_i c
      have lxy : leD x y = true := by
        rcases leD_tot.total x y with z | z
        · exact z
        · rw [leD_is axy, c] at z
          cases z
      refine List.pairwise_cons.mpr ⟨fun z hz => ?_, p⟩
      rcases List.mem_cons.mp hz with e | hz
      · rw [e]; exact lxy
      · exact leD_tot.trans _ _ _ lxy (p1 z hz)
    · rename_i c
      have lyx : leD y x = true := by
        rw [leD_is axy]
        simpa using c
      refine List.pairwise_cons.mpr ⟨fun z hz => ?_, put_sorted (fun a ha b hb => al a ?_ b ?_) p2⟩
      · rcases List.mem_cons.mp ((put_perm x r).mem_iff.mp hz) with e | hz
        · rw [e]; exact lyx
        · exact p1 z hz
      · rcases List.mem_cons.mp ha with e | ha
        · rw [e]; exact List.mem_cons_self
        · exact List.mem_cons_of_mem _ (List.mem_cons_of_mem _ ha)
      · rcases List.mem_cons.mp hb with e | hb
        · rw [e]; exact List.mem_cons_self
        · exact List.mem_cons_of_mem _ (List.mem_cons_of_mem _ hb)
theorem sortD_sorted : ∀ {l : List D}, Al l → (sortD l).Pairwise fun a b => leD a b = true
  | [], _ => List.Pairwise.nil
  | x :: r, al => put_sorted (fun a ha b hb => al a (((sortD_perm r).cons x).mem_iff.mp ha) b (((sortD_perm r).cons x).mem_iff.mp hb)) (sortD_sorted fun a ha b hb => al a (List.mem_cons_of_mem _ ha) b (List.mem_cons_of_mem _ hb))
/-- one ascending list of the same items -/
theorem asc_one {m n : List D} (al : Al m) (pm : m.Perm n) (hm : m.Pairwise fun a b => leD a b = true) (hn : n.Pairwise fun a b => leD a b = true) : m = n := by
  refine PySem.W.sort_one leD_tot m n hm hn fun c => ?_
  by_cases h : ∃ a ∈ m, PySem.W.sameRank leD c a = true
  · obtain ⟨a, ha, hc⟩ := h
    have same : ∀ x ∈ m, PySem.W.sameRank leD c x = decide (x = a) := fun x hx => by
      by_cases e : x = a
      · rw [e, hc, decide_eq_true rfl]
      · rw [decide_eq_false e, Bool.eq_false_iff]
        intro z
        unfold PySem.W.sameRank at z hc
        rw [Bool.and_eq_true] at z hc
        exact e (leD_anti (al x hx a ha) (al a ha x hx) (leD_tot.trans _ _ _ z.2 hc.1) (leD_tot.trans _ _ _ hc.2 z.1))
    have f1 : m.filter (PySem.W.sameRank leD c) = m.filter fun x => decide (x = a) := List.filter_congr same
    have f2 : n.filter (PySem.W.sameRank leD c) = n.filter fun x => decide (x = a) := List.filter_congr fun x hx => same x (pm.mem_iff.mpr hx)
    have e1 : ∀ l : List D, l.filter (fun x => decide (x = a)) = List.replicate (l.count a) a := fun l => by
      induction l with
      | nil => rfl
      | cons x r ih =>
        by_cases e : x = a
        · subst e
          rw [List.filter_cons_of_pos (by simp), ih, List.count_cons_self, List.replicate_succ]
        · rw [List.filter_cons_of_neg (by simpa using e), ih, List.count_cons_of_ne e]
    rw [f1, f2, e1, e1, pm.count_eq]
  · have z1 : m.filter (PySem.W.sameRank leD c) = [] := List.filter_eq_nil_iff.mpr fun x hx z => h ⟨x, hx, z⟩
    have z2 : n.filter (PySem.W.sameRank leD c) = [] := List.filter_eq_nil_iff.mpr fun x hx z => h ⟨x, pm.mem_iff.mpr hx, z⟩
    rw [z1, z2]
theorem sortD_is {l : List D} (al : Al l) : l.mergeSort leD = sortD l :=
  asc_one (fun a ha b hb => al a ((List.mergeSort_perm _ _).mem_iff.mp ha) b ((List.mergeSort_perm _ _).mem_iff.mp hb)) ((List.mergeSort_perm _ _).trans (sortD_perm l).symm) (PySem.W.sort_pairwise leD_tot l) (sortD_sorted al)
theorem onceD_mem {x : D} : ∀ {l : List D}, x ∈ onceD l ↔ x ∈ l
  | [] => Iff.rfl
  | y :: r => by
    have ih := onceD_mem (x := x) (l := r)
    unfold onceD
    split
    · rename_i e
      rw [e] at ih
      rw [show x ∈ y :: r ↔ x = y ∨ x ∈ r from List.mem_cons, ← ih, List.mem_cons]
    · rename_i z q e
      rw [e] at ih
      split
      · rename_i c
        rw [show x ∈ y :: r ↔ x = y ∨ x ∈ r from List.mem_cons, ← ih, c]
        constructor
        · exact fun h => .inr h
        · rintro (h | h)
          · rw [h]; exact List.mem_cons_self
          · exact h
      · rw [show x ∈ y :: r ↔ x = y ∨ x ∈ r from List.mem_cons, ← ih, List.mem_cons]
theorem onceD_strict : ∀ {l : List D}, Al l → l.Pairwise (fun a b => leD a b = true) → (onceD l).Pairwise fun a b => leD a b = true ∧ a ≠ b
  | [], _, _ => List.Pairwise.nil
  | y :: r, al, p => by
    obtain ⟨p1, p2⟩ := List.pairwise_cons.mp p
    have ih := onceD_strict (l := r) (fun a ha b hb => al a (List.mem_cons_of_mem _ ha) b (List.mem_cons_of_mem _ hb)) p2
    have mem := @onceD_mem
    unfold onceD
    split
    · exact List.pairwise_singleton _ _
    · rename_i z q e
      rw [e] at ih
      split
      · exact ih
      · rename_i c
        have inr : ∀ u ∈ z :: q, u ∈ r := fun u hu => by rw [← e] at hu; exact onceD_mem.mp hu
        refine List.pairwise_cons.mpr ⟨fun u hu => ⟨p1 u (inr u hu), fun eu => ?_⟩, ih⟩
        rcases List.mem_cons.mp hu with e2 | hu
        · exact c (eu.trans e2)
        · have lz := ((List.pairwise_cons.mp ih).1 u hu).1
          have hz := p1 z (inr z List.mem_cons_self)
          rw [← eu] at lz
          exact c (leD_anti (al y List.mem_cons_self z (List.mem_cons_of_mem _ (inr z List.mem_cons_self))) (al z (List.mem_cons_of_mem _ (inr z List.mem_cons_self)) y List.mem_cons_self) hz lz)
theorem once_is {l m : List D} (al : Al l) (nd : m.Nodup) (hm : m.Pairwise fun a b => leD a b = true) (mem : ∀ x, x ∈ m ↔ x ∈ l) : m = onceD (sortD l) := by
  have al2 : Al (sortD l) := fun a ha b hb => al a ((sortD_perm l).mem_iff.mp ha) b ((sortD_perm l).mem_iff.mp hb)
  have st := onceD_strict al2 (sortD_sorted al)
  have nd2 : (onceD (sortD l)).Nodup := st.imp fun h => h.2
  refine asc_one (fun a ha b hb => al a ((mem a).mp ha) b ((mem b).mp hb)) ((List.perm_ext_iff_of_nodup nd nd2).mpr fun x => ?_) hm (st.imp fun h => h.1)
  rw [mem, onceD_mem, (sortD_perm l).mem_iff]

/-! ### keys -/
mutual
def D.key : D → NestedKey
  | .int i => .num i
  | .tup xs => .tup (D.keys xs)
  | .str s => .text (strOf s)
  | .non => .none
  | .bl _ => .none
  | .ref _ => .none
def D.keys : List D → List NestedKey
  | [] => []
  | x :: xs => D.key x :: D.keys xs
end
mutual
def unkey : NestedKey → D
  | .num i => .int i
  | .tup ks => .tup (unkeys ks)
  | .none => .non
  | .text _ => .non
def unkeys : List NestedKey → List D
  | [] => []
  | k :: ks => unkey k :: unkeys ks
end
mutual
theorem unkey_key : ∀ d : D, d.kb = true → unkey d.key = d
  | .int i, _ => rfl
  | .tup xs, h => by
    simp only [D.key, unkey]
    rw [unkeys_keys xs (by simpa [D.kb] using h)]
  | .non, h => by cases h
  | .bl _, h => by cases h
  | .str _, h => by cases h
  | .ref _, h => by cases h
theorem unkeys_keys : ∀ ds : List D, D.kbs ds = true → unkeys (D.keys ds) = ds
  | [], _ => rfl
  | x :: xs, h => by
    have h' : D.kb x = true ∧ D.kbs xs = true := by simpa [D.kbs] using h
    simp only [D.keys, unkeys]
    rw [unkey_key x h'.1, unkeys_keys xs h'.2]
end
mutual
theorem key_data : ∀ d : D, d.kb = true → d.key.data = d.py
  | .int i, _ => rfl
  | .tup xs, h => by
    simp only [D.key, NestedKey.data, D.py]
    rw [keys_data xs (by simpa [D.kb] using h)]
  | .non, h => by cases h
  | .bl _, h => by cases h
  | .str _, h => by cases h
  | .ref _, h => by cases h
theorem keys_data : ∀ ds : List D, D.kbs ds = true → NestedKey.datas (D.keys ds) = D.pys ds
  | [], _ => rfl
  | x :: xs, h => by
    have h' : D.kb x = true ∧ D.kbs xs = true := by simpa [D.kbs] using h
    simp only [D.keys, NestedKey.datas, D.pys]
    rw [key_data x h'.1, keys_data xs h'.2]
end
mutual
theorem key_bare : ∀ d : D, d.kb = true → bare d.key = true
  | .int i, _ => rfl
  | .tup xs, h => by
    simp only [D.key, bare]
    exact keys_bare xs (by simpa [D.kb] using h)
  | .non, h => by cases h
  | .bl _, h => by cases h
  | .str _, h => by cases h
  | .ref _, h => by cases h
theorem keys_bare : ∀ ds : List D, D.kbs ds = true → bares (D.keys ds) = true
  | [], _ => rfl
  | x :: xs, h => by
    have h' : D.kb x = true ∧ D.kbs xs = true := by simpa [D.kbs] using h
    simp only [D.keys, bares, key_bare x h'.1, keys_bare xs h'.2]
    rfl
end
mutual
theorem key_depth : ∀ d : D, d.key.depth = d.dep
  | .int i => rfl
  | .tup xs => by
    simp only [D.key, NestedKey.depth, D.dep]
    rw [keys_depth xs]
  | .non => rfl
  | .bl _ => rfl
  | .str _ => rfl
  | .ref _ => rfl
theorem keys_depth : ∀ ds : List D, NestedKey.depthAll (D.keys ds) = D.deps ds
  | [] => rfl
  | x :: xs => by
    simp only [D.keys, NestedKey.depthAll, D.deps]
    rw [key_depth x, keys_depth xs]
end
theorem kbs_all : ∀ {xs : List D}, D.kbs xs = true → ∀ x ∈ xs, x.kb = true
  | y :: ys, h, x, hx => by
    have h' : D.kb y = true ∧ D.kbs ys = true := by simpa [D.kbs] using h
    rcases List.mem_cons.mp hx with e | hx
    · rw [e]; exact h'.1
    · exact kbs_all h'.2 x hx
theorem nbs_all : ∀ {xs : List D}, D.nbs xs = true → ∀ x ∈ xs, x.nb = true
  | y :: ys, h, x, hx => by
    have h' : D.nb y = true ∧ D.nbs ys = true := by simpa [D.nbs] using h
    rcases List.mem_cons.mp hx with e | hx
    · rw [e]; exact h'.1
    · exact nbs_all h'.2 x hx
theorem deps_all : ∀ {xs : List D} {n : Nat}, D.deps xs ≤ n → ∀ x ∈ xs, x.dep ≤ n
  | y :: ys, n, h, x, hx => by
    have h' : max (D.dep y) (D.deps ys) ≤ n := by simpa [D.deps] using h
    rcases List.mem_cons.mp hx with e | hx
    · rw [e]; omega
    · exact deps_all (xs := ys) (by omega) x hx
structure CanS (xs : List D) : Prop where
  nb : ∀ x ∈ xs, x.nb = true
  al : Al xs
  dp : ∀ x ∈ xs, x.dep ≤ 60
  ty : (∀ x ∈ xs, isTup x = true) ∨ ∀ x ∈ xs, isTup x = false ∧ x ≠ .non
theorem canS_is {xs : List D} (h : canSortB xs = true) : CanS xs := by
  unfold canSortB at h
  simp only [Bool.and_eq_true, Bool.or_eq_true, List.all_eq_true, decide_eq_true_eq, Bool.not_eq_true', decide_eq_false_iff_not] at h
  obtain ⟨⟨⟨h1, h2⟩, h3⟩, h4⟩ := h
  exact ⟨nbs_all h1, h2, deps_all h3, h4⟩
theorem CanS.alike {xs : List D} (h : CanS xs) : PySem.W.AllAlike (xs.map D.py) := by
  intro d hd d' hd'
  obtain ⟨a, ha, rfl⟩ := List.mem_map.mp hd
  obtain ⟨b, hb, rfl⟩ := List.mem_map.mp hd'
  exact D.alike_py a b (h.al a ha b hb)
theorem CanS.can {xs : List D} (h : CanS xs) : CanSort (xs.map D.py) := by
  rcases h.ty with t | t
  · refine .inr fun d hd => ?_
    obtain ⟨a, ha, rfl⟩ := List.mem_map.mp hd
    have z := t a ha
    cases a with
    | tup ys => exact ⟨_, rfl⟩
    | _ => cases z
  · refine .inl (.inr fun d hd => ?_)
    obtain ⟨a, ha, rfl⟩ := List.mem_map.mp hd
    have z := t a ha
    have n := h.nb a ha
    cases a with
    | tup ys => exact absurd z.1 (by simp [isTup])
    | non => exact absurd rfl z.2
    | ref k => simp [D.nb] at n
    | _ => exact ⟨fun e => by simp [D.py] at e, fun xs e => by simp [D.py] at e⟩

/-! ### values, item by item -/
section
variable {K : PySem.W.Frag} {H : Hp} {mu : Nat → Addr}
def RVl (K : PySem.W.Frag) (H : Hp) (mu : Nat → Addr) (u : Value) (d : D) : Prop := ∃ v, RelV v u ∧ RV K H mu d v
theorem each_of : ∀ {ds : List D} {vs : List V} {us : List Value}, Vals vs us → RVs K H mu ds vs → PySem.W.EachIs (RVl K H mu) us ds
  | [], vs, us, hv, r => by
    have r : vs = [] := r
    subst r
    cases hv
    exact .nil
  | d :: ds, vs, us, hv, r => by
    obtain ⟨v, w, rfl, r1, r2⟩ := r
    cases hv with
    | cons h t => exact .cons ⟨v, h, r1⟩ (each_of t r2)
theorem of_each : ∀ {ds : List D} {us : List Value}, PySem.W.EachIs (RVl K H mu) us ds → ∃ vs, Vals vs us ∧ RVs K H mu ds vs
  | _, _, .nil => ⟨[], .nil, rfl⟩
  | _, _, .cons ⟨v, h1, h2⟩ t => by
    obtain ⟨vs, g1, g2⟩ := of_each t
    exact ⟨v :: vs, .cons h1 g1, v, vs, rfl, h2, g2⟩
end
section
variable {X : Cx} {N : Nm} {W : WX}
theorem each_reads {pins : List (Addr × Obj)} {σ : L2.St} {H : Hp} {mu : Nat → Addr} {s : Shared} (I : Inv X pins σ H s) {us : List Value} {ds : List D} (nb : ∀ x ∈ ds, x.nb = true) (e : PySem.W.EachIs (RVl X.K H mu) us ds) : PySem.W.EachIs (fun u d => ∃ as, PySem.Reads s.heap u d.py as) us ds :=
  (PySem.W.each_mem e).mono fun u d ⟨⟨v, h1, h2⟩, hd⟩ => Dp.reads I _ v u (h2.dp d v (nb d hd)) h1
mutual
theorem RV.nest {pins : List (Addr × Obj)} {σ : L2.St} {H : Hp} {mu : Nat → Addr} {s : Shared} (I : Inv X pins σ H s) : ∀ (d : D) (v : V) (u : Value), d.kb = true → RV X.K H mu d v → RelV v u → NestedIs s.heap d.key u
  | .int i, v, u, _, r, q => by
    have r : v = .int i := r
    subst r
    obtain ⟨t, rfl⟩ := q
    exact .int i t
  | .tup xs, v, u, h, r, q => by
    obtain ⟨a, vs, rfl, hq, rs⟩ := r
    obtain rfl : u = Value.ref a := q
    obtain ⟨its, rv, ⟨o, ho, hc, n, hd⟩, _⟩ := I.tuple hq
    exact .tup ho hc hd (RVs.nest I xs vs its (by simpa [D.kb] using h) rs rv)
  | .non, _, _, h, _, _ => by cases h
  | .bl _, _, _, h, _, _ => by cases h
  | .str _, _, _, h, _, _ => by cases h
  | .ref _, _, _, h, _, _ => by cases h
theorem RVs.nest {pins : List (Addr × Obj)} {σ : L2.St} {H : Hp} {mu : Nat → Addr} {s : Shared} (I : Inv X pins σ H s) : ∀ (ds : List D) (vs : List V) (us : List Value), D.kbs ds = true → RVs X.K H mu ds vs → Vals vs us → NestedAll s.heap (D.keys ds) us
  | [], vs, us, _, r, q => by
    have r : vs = [] := r
    subst r
    cases q
    exact .nil
  | x :: xs, vs, us, h, r, q => by
    have h' : D.kb x = true ∧ D.kbs xs = true := by simpa [D.kbs] using h
    obtain ⟨v, w, rfl, r1, r2⟩ := r
    cases q with
    | cons q1 q2 => exact .cons (RV.nest I x v _ h'.1 r1 q1) (RVs.nest I xs w _ h'.2 r2 q2)
end
end
end Fx
set_option Elab.async false
set_option linter.all false
set_option autoImplicit false
set_option maxRecDepth 100000
set_option maxHeartbeats 4000000
/-! FxG: built-in functions and methods by values. -/
namespace Fx
open PySem PySem.Spec PyProof.Rows L2

theorem readNat_eq (s : List Nat) : readNat s = NumText.digitsVal s := by
  unfold readNat NumText.digitsVal
  congr 1
  funext a c
  rw [Nat.mul_comm]
theorem allDig {s : List Nat} (h : s.all isDig = true) : NumText.AllDigits s := fun c hc => by
  have := List.all_eq_true.mp h c hc
  unfold isDig at this
  simpa using this
theorem readInt_is {s : List Nat} {i : Int} (h : readInt s = some i) (hl : s.length ≤ 640) : PySem.intText? (strOf s) = some i := by
  unfold readInt at h
  split at h
  · cases h
  · rename_i c r
    have hl2 : (strOf (c :: r)).length ≤ 4300 := by rw [str_len]; omega
    split at h
    · rename_i e
      subst e
      split at h
      · rename_i q
        rw [← Option.some.inj h, readNat_eq]
        exact PySem.intText_neg (x := strOf (45 :: r)) (cs := r) (by simp [strOf]) (allDig q.2) q.1 hl2
      · cases h
    · split at h
      · rename_i q
        rw [← Option.some.inj h, readNat_eq]
        have := PySem.intText_digits (x := strOf (c :: r)) (by simpa [strOf] using allDig q) (by simp [strOf]) hl2
        simpa [strOf] using this
      · cases h
theorem strInt_eq (i : Int) : (Str.ofString (toString i) : Str) = strOf (strInt i) := by
  rw [Str.ofString_eq_toList]
  have e : (toString i).toList.map Char.toNat = strInt i := by
    cases i with
    | ofNat n =>
      show ((Nat.repr n).toList).map Char.toNat = _
      unfold Nat.repr strInt digits
      simp
    | negSucc n =>
      show (("-" ++ Nat.repr (n + 1)).toList).map Char.toNat = _
      unfold Nat.repr strInt digits
      simp
  rw [e]
theorem joinS_cons (s x : List Nat) : ∀ r : List (List Nat), joinS s (x :: r) = x ++ r.flatMap fun p => s ++ p
  | [] => by simp [joinS]
  | y :: r => by
    rw [joinS, joinS_cons s y r, List.flatMap_cons]
    simp
theorem glued_eq (s : List Nat) (ys : List (List Nat)) : Builtin.Str.glued (strOf s) (ys.map strOf) = strOf (joinS s ys) := by
  have go : ∀ (r : List (List Nat)) (a : List Nat), (r.map strOf).foldl (fun acc p => acc ++ (strOf s).cps ++ p.cps) a.toArray = (a ++ r.flatMap fun p => s ++ p).toArray := by
    intro r
    induction r with
    | nil => intro a; simp
    | cons y r ih =>
      intro a
      rw [List.map_cons, List.foldl_cons]
      have e : a.toArray ++ (strOf s).cps ++ (strOf y).cps = (a ++ s ++ y).toArray := by simp [strOf]
      rw [e, ih, List.flatMap_cons]
      simp
  cases ys with
  | nil => rfl
  | cons x r =>
    unfold Builtin.Str.glued
    rw [joinS_cons]
    show (⟨((r.map strOf)).foldl (fun acc p => acc ++ (strOf s).cps ++ p.cps) x.toArray⟩ : Str) = _
    rw [go]
section
variable {X : Cx} {N : Nm}
theorem strs_is {K : PySem.W.Frag} {H : Hp} {mu : Nat → Addr} : ∀ {ds : List D} {vs : List V} {ys : List (List Nat)}, RVs K H mu ds vs → strsOf ds = some ys → vs = (ys.map strOf).map V.str
  | [], vs, ys, h, e => by
    have h : vs = [] := h
    obtain rfl : [] = ys := Option.some.inj e
    rw [h]; rfl
  | d :: ds, vs, ys, h, e => by
    obtain ⟨v, r, e1, h1, h2⟩ := h
    cases d with
    | str s =>
      have e' : (strsOf ds).map (s :: ·) = some ys := e
      obtain ⟨zs, e2, rfl⟩ := Option.map_eq_some_iff.mp e'
      have h1 : v = .str (strOf s) := h1
      rw [e1, h1, strs_is h2 e2]; rfl
    | _ => cases e
def bltV : Blt → Value
  | .len => .builtin "len"
  | .abs => .builtin "abs"
  | .min => .builtin "min"
  | .max => .builtin "max"
  | .sum => .builtin "sum"
  | .sorted => .builtin "sorted"
  | .tuple => .type "tuple"
  | .list => .type "list"
  | .int => .type "int"
  | .str => .type "str"
  | .all => .builtin "all"
  | .any => .builtin "any"
/-- one argument, two -/
theorem rvs1 {K : PySem.W.Frag} {H : Hp} {mu : Nat → Addr} {S : Store} {d : D} {xs : List V} (h : relDs K H mu S [d] xs) : ∃ v, xs = [v] ∧ relD K H mu S d v := by
  obtain ⟨⟨v, r, e, h1, h2⟩, w⟩ := h
  have h2 : r = [] := h2
  exact ⟨v, by rw [e, h2], h1, by simpa [D.wfs] using w⟩
theorem rvs2 {K : PySem.W.Frag} {H : Hp} {mu : Nat → Addr} {S : Store} {d e : D} {xs : List V} (h : relDs K H mu S [d, e] xs) : ∃ v u, xs = [v, u] ∧ relD K H mu S d v ∧ relD K H mu S e u := by
  obtain ⟨⟨v, r, q, h1, ⟨u, r2, q2, h2, h3⟩⟩, w⟩ := h
  have h3 : r2 = [] := h3
  have w' : D.wf S.length d = true ∧ D.wf S.length e = true := by simpa [D.wfs] using w
  exact ⟨v, u, by rw [q, q2, h3], ⟨h1, w'.1⟩, h2, w'.2⟩
theorem cb_len : CallR X (.builtin "len") (rnF N X.K (bltF .len)) := by
  intro pn s σ H xs us Q I r h
  obtain ⟨mu, S, ds, E, rd, rs, p⟩ := h
  replace p : Post N X.K H mu S (relD X.K) (fLen ds S) Q E := p
  unfold fLen at p
  split at p
  all_goals first | exact p.elim | skip
  · obtain ⟨v, rfl, r1⟩ := rvs1 rd
    rename_i z
    obtain rfl : v = .str (strOf z) := r1.1
    split at p
    · rename_i hl
      exact call_len_str pn s σ H _ us Q I r ⟨strOf z, rfl, by rw [str_len, ← line_eq]; exact hl, by rw [str_len]; exact p.now rs ⟨rfl, rfl⟩⟩
    · exact p.elim
  · obtain ⟨v, rfl, r1⟩ := rvs1 rd
    split at p
    · rename_i ys e
      obtain ⟨q, vs, rfl, hs, r2, w⟩ := seqOf_is rs r1 e
      exact call_len_seq pn s σ H _ us Q I r ⟨q, vs, rfl, hs, by rw [r2.length]; exact p.now rs ⟨rfl, rfl⟩⟩
    · exact p.elim
theorem cb_abs : CallR X (.builtin "abs") (rnF N X.K (bltF .abs)) := by
  intro pn s σ H xs us Q I r h
  obtain ⟨mu, S, ds, E, rd, rs, p⟩ := h
  replace p : Post N X.K H mu S (relD X.K) (fAbs ds S) Q E := p
  unfold fAbs at p
  split at p
  all_goals first | exact p.elim | skip
  obtain ⟨v, rfl, r1⟩ := rvs1 rd
  rename_i i
  obtain rfl : v = .int i := r1.1
  exact call_abs pn s σ H _ us Q I r ⟨i, rfl, p.now rs ⟨rfl, rfl⟩⟩
theorem cb_min (hc : X.calm = true) : CallR X (.builtin "min") (rnF N X.K (bltF .min)) := by
  intro pn s σ H xs us Q I r h
  obtain ⟨mu, S, ds, E, rd, rs, p⟩ := h
  replace p : Post N X.K H mu S (relD X.K) (fMin ds S) Q E := p
  unfold fMin at p
  split at p
  all_goals first | exact p.elim | skip
  obtain ⟨v, u, rfl, r1, r2⟩ := rvs2 rd
  rename_i i j
  obtain rfl : v = .int i := r1.1
  obtain rfl : u = .int j := r2.1
  exact call_min2 hc pn s σ H _ us Q I r ⟨i, j, rfl, p.now rs ⟨rfl, rfl⟩⟩
theorem cb_max (hc : X.calm = true) : CallR X (.builtin "max") (rnF N X.K (bltF .max)) := by
  intro pn s σ H xs us Q I r h
  obtain ⟨mu, S, ds, E, rd, rs, p⟩ := h
  replace p : Post N X.K H mu S (relD X.K) (fMax ds S) Q E := p
  unfold fMax at p
  split at p
  all_goals first | exact p.elim | skip
  obtain ⟨v, u, rfl, r1, r2⟩ := rvs2 rd
  rename_i i j
  obtain rfl : v = .int i := r1.1
  obtain rfl : u = .int j := r2.1
  exact call_max2 hc pn s σ H _ us Q I r ⟨i, j, rfl, p.now rs ⟨rfl, rfl⟩⟩
theorem cb_tuple : CallR X (.type "tuple") (rnF N X.K (bltF .tuple)) := by
  intro pn s σ H xs us Q I r h
  obtain ⟨mu, S, ds, E, rd, rs, p⟩ := h
  replace p : Post N X.K H mu S (relD X.K) (fTuple ds S) Q E := p
  unfold fTuple at p
  split at p
  all_goals first | exact p.elim | skip
  · obtain ⟨v, rfl, r1⟩ := rvs1 rd
    rename_i ys
    obtain ⟨q, vs, rfl, hq, r2⟩ := r1.1
    exact call_tuple_of pn s σ H _ us Q I r ⟨q, vs, rfl, .inr ⟨hq, p.now rs ⟨⟨q, vs, rfl, hq, r2⟩, r1.2⟩⟩⟩
  · obtain ⟨v, rfl, r1⟩ := rvs1 rd
    rename_i n
    obtain rfl : v = .ref (mu n) := r1.1
    split at p
    · rename_i ys e
      obtain ⟨vs, hq, r2, w⟩ := rs.lst e
      refine call_tuple_of pn s σ H _ us Q I r ⟨_, vs, rfl, .inl ⟨hq, fun l hl => ?_⟩⟩
      have g := Gw.laid rs (o := HO.tup vs) hl
      exact (p.after g).now g.rs ⟨⟨l, vs, rfl, SqT.of upd_same, g.rvs rs w r2⟩, w⟩
    · exact p.elim
theorem cb_list : CallR X (.type "list") (rnF N X.K (bltF .list)) := by
  intro pn s σ H xs us Q I r h
  obtain ⟨mu, S, ds, E, rd, rs, p⟩ := h
  replace p : Post N X.K H mu S (relD X.K) (fList ds S) Q E := p
  unfold fList at p
  split at p
  all_goals first | exact p.elim | skip
  obtain ⟨v, rfl, r1⟩ := rvs1 rd
  split at p
  · rename_i ys e
    obtain ⟨q, vs, rfl, hs, r2, w⟩ := seqOf_is rs r1 e
    refine call_list_of pn s σ H _ us Q I r ⟨q, vs, rfl, hs, fun l hl => ?_⟩
    have g := Gw.alloc rs (p := l) (ho := .lst vs) (o := .lst ys) hl w fun H' mu' ht hm hp => ⟨_, hp, RVs.mono ht hm _ _ w r2⟩
    refine p _ _ _ g ⟨?_, by simp [D.wf]⟩
    show V.ref l = .ref (muN mu S.length l S.length)
    rw [muN_eq]
  · exact p.elim
theorem cb_int : CallR X (.type "int") (rnF N X.K (bltF .int)) := by
  intro pn s σ H xs us Q I r h
  obtain ⟨mu, S, ds, E, rd, rs, p⟩ := h
  replace p : Post N X.K H mu S (relD X.K) (fInt ds S) Q E := p
  unfold fInt at p
  split at p
  all_goals first | exact p.elim | skip
  · obtain ⟨v, rfl, r1⟩ := rvs1 rd
    rename_i i
    obtain rfl : v = .int i := r1.1
    exact call_int1 pn s σ H _ us Q I r (.inl ⟨i, rfl, p.now rs ⟨rfl, rfl⟩⟩)
  · obtain ⟨v, rfl, r1⟩ := rvs1 rd
    rename_i k
    obtain rfl : v = .bl k := r1.1
    exact call_int1 pn s σ H _ us Q I r (.inr ⟨k, rfl, p.now rs ⟨rfl, rfl⟩⟩)
  · obtain ⟨v, rfl, r1⟩ := rvs1 rd
    rename_i z
    obtain rfl : v = .str (strOf z) := r1.1
    split at p
    · rename_i hl
      split at p
      · rename_i i e
        exact call_int_str pn s σ H _ us Q I r ⟨strOf z, i, rfl, readInt_is e hl, by rw [str_len]; exact hl, p.now rs ⟨rfl, rfl⟩⟩
      · exact p.elim
    · exact p.elim
theorem cb_str : CallR X (.type "str") (rnF N X.K (bltF .str)) := by
  intro pn s σ H xs us Q I r h
  obtain ⟨mu, S, ds, E, rd, rs, p⟩ := h
  replace p : Post N X.K H mu S (relD X.K) (fStr ds S) Q E := p
  unfold fStr at p
  split at p
  all_goals first | exact p.elim | skip
  · obtain ⟨v, rfl, r1⟩ := rvs1 rd
    rename_i i
    obtain rfl : v = .int i := r1.1
    split at p
    · rename_i hl
      refine call_str_int pn s σ H _ us Q I r ⟨i, rfl, hl, ?_⟩
      have e := strInt_eq i
      rw [e]
      exact p.now rs ⟨rfl, rfl⟩
    · exact p.elim
  · obtain ⟨v, rfl, r1⟩ := rvs1 rd
    rename_i z
    obtain rfl : v = .str (strOf z) := r1.1
    exact SkE.call_str_str pn s σ H _ us Q I r ⟨strOf z, rfl, p.now rs ⟨rfl, rfl⟩⟩
/-! ### methods -/
def mthT : Mth → String
  | .append => "list"
  | .pop => "list"
  | .join => "str"
  | .index => "list"
def mthN : Mth → Str
  | .append => "append"
  | .pop => "pop"
  | .join => "join"
  | .index => "index"
def mthI : Mth → String
  | .append => "list.append"
  | .pop => "list.pop"
  | .join => "str.join"
  | .index => "list.index"
theorem mb_append : MtR X "list.append" (rmF N X.K (mthF .append)) := by
  intro pn s σ H x xs v us Q I rx r h
  obtain ⟨mu, S, d, ds, E, ra, rd, rs, p⟩ := h
  replace p : Post N X.K H mu S (relD X.K) (mAppend d ds S) Q E := p
  unfold mAppend at p
  split at p
  all_goals first | exact p.elim | skip
  obtain ⟨u, rfl, r1⟩ := rvs1 rd
  rename_i n y
  obtain rfl : x = .ref (mu n) := ra.1
  split at p
  · rename_i zs e
    obtain ⟨vs, hq, r2, w⟩ := rs.lstM e
    split at p
    · rename_i hl
      refine mt_append pn s σ H _ _ v us Q I rx r ⟨mu n, vs, u, rfl, rfl, hq, by rw [r2.length, ← line_eq]; exact hl, ?_⟩
      have w' : D.wfs S.length (zs ++ [y]) = true := by rw [wfs_append, w]; simp [D.wfs, r1.2]
      exact p _ _ _ (Gw.set rs e (r2.append (RVs.single r1.1)) w') ⟨rfl, rfl⟩
    · exact p.elim
  · exact p.elim
theorem mb_pop : MtR X "list.pop" (rmF N X.K (mthF .pop)) := by
  intro pn s σ H x xs v us Q I rx r h
  obtain ⟨mu, S, d, ds, E, ra, rd, rs, p⟩ := h
  replace p : Post N X.K H mu S (relD X.K) (mPop d ds S) Q E := p
  unfold mPop at p
  split at p
  all_goals first | exact p.elim | skip
  have rd1 : xs = [] := rd.1
  subst rd1
  rename_i n
  obtain rfl : x = .ref (mu n) := ra.1
  split at p
  · rename_i zs e
    obtain ⟨vs, hq, r2, w⟩ := rs.lstM e
    split at p
    · rename_i y hy
      have hy2 : zs[zs.length - 1]? = some y := by rw [← List.getLast?_eq_getElem?]; exact hy
      obtain ⟨u, h1, h2⟩ := r2.get hy2
      have e2 : vs.dropLast = vs.take (zs.length - 1) := by rw [List.dropLast_eq_take, r2.length]
      refine mt_pop pn s σ H _ _ v us Q I rx r ⟨mu n, vs, u, rfl, rfl, hq, by rw [r2.length]; exact h1, ?_⟩
      have w' : D.wfs S.length zs.dropLast = true := wfs_all.mpr fun z hz => wfs_all.mp w z (List.dropLast_subset _ hz)
      have r3 : RVs X.K H mu zs.dropLast vs.dropLast := by rw [e2, List.dropLast_eq_take]; exact r2.take _
      have g := Gw.set rs e r3 w'
      have wy := wfs_get w hy2
      exact p _ _ _ g ⟨g.rv rs wy h2, D.wf_le g.le y wy⟩
    · exact p.elim
  · exact p.elim
theorem mb_join : MtR X "str.join" (rmF N X.K (mthF .join)) := by
  intro pn s σ H x xs v us Q I rx r h
  obtain ⟨mu, S, d, ds, E, ra, rd, rs, p⟩ := h
  replace p : Post N X.K H mu S (relD X.K) (mJoin d ds S) Q E := p
  unfold mJoin at p
  split at p
  all_goals first | exact p.elim | skip
  obtain ⟨u, rfl, r1⟩ := rvs1 rd
  rename_i z y
  obtain rfl : x = .str (strOf z) := ra.1
  split at p
  · rename_i zs e
    obtain ⟨q, vs, rfl, hs, r2, w⟩ := seqOf_is rs r1 e
    split at p
    · rename_i ys e2
      have ev := strs_is r2 e2
      split at p
      · rename_i hl
        refine mt_join pn s σ H _ _ v us Q I rx r ⟨strOf z, q, ys.map strOf, rfl, rfl, by rw [← ev]; exact hs, ?_, ?_⟩
        · have e3 : ((ys.map strOf).map (·.length)) = ys.map List.length := by
            rw [List.map_map]
            exact List.map_congr_left fun a _ => str_len a
          rw [e3, str_len, List.length_map, Nat.mul_comm]
          exact hl
        · have e4 : Txt.join (strOf z) (ys.map strOf) = strOf (joinS z ys) := glued_eq z ys
          rw [e4]
          exact p.now rs ⟨rfl, rfl⟩
      · exact p.elim
    · exact p.elim
  · exact p.elim
theorem pys_get : ∀ {xs : List D} {j : Nat} {d : D}, xs[j]? = some d → (D.pys xs)[j]? = some d.py
  | [], j, d, h => by cases j <;> cases h
  | x :: xs, 0, d, h => by
    obtain rfl : x = d := Option.some.inj h
    rfl
  | x :: xs, j + 1, d, h => pys_get (xs := xs) (j := j) h
theorem pys_back : ∀ {xs : List D} {j : Nat} {z : PyData}, (D.pys xs)[j]? = some z → ∃ d, xs[j]? = some d ∧ z = d.py
  | [], j, z, h => by cases j <;> cases h
  | x :: xs, 0, z, h => ⟨x, rfl, (Option.some.inj h).symm⟩
  | x :: xs, j + 1, z, h => pys_back (xs := xs) (j := j) h
theorem nbs_get : ∀ {xs : List D} {j : Nat} {d : D}, D.nbs xs = true → xs[j]? = some d → d.nb = true
  | [], j, d, _, h => by cases j <;> cases h
  | x :: xs, 0, d, w, h => by
    have w' : D.nb x = true ∧ D.nbs xs = true := by simpa [D.nbs] using w
    obtain rfl : x = d := Option.some.inj h
    exact w'.1
  | x :: xs, j + 1, d, w, h => by
    have w' : D.nb x = true ∧ D.nbs xs = true := by simpa [D.nbs] using w
    exact nbs_get (xs := xs) (j := j) w'.2 h
theorem mb_index (hu : X.A.units + 128 < cLine) : MtR X "list.index" (rmF N X.K (mthF .index)) := by
  intro pn s σ H x xs v us Q I rx r h
  obtain ⟨mu, S, d, ds, E, ra, rd, rs, p⟩ := h
  replace p : Post N X.K H mu S (relD X.K) (mIndex d ds S) Q E := p
  unfold mIndex at p
  split at p
  all_goals first | exact p.elim | skip
  obtain ⟨u, rfl, r1⟩ := rvs1 rd
  rename_i n y
  obtain rfl : x = .ref (mu n) := ra.1
  split at p
  · rename_i zs e
    split at p
    · rename_i c
      simp only [Bool.and_eq_true, decide_eq_true_eq] at c
      obtain ⟨⟨⟨c1, c2⟩, c3⟩, c4⟩ := c
      split at p
      · rename_i j hj
        obtain ⟨hj1, hj2, hj3⟩ := List.findIdx?_eq_some_iff_getElem.mp hj
        have gj : zs[j]? = some y := by rw [List.getElem?_eq_getElem hj1, of_decide_eq_true hj2]
        refine mt_indexD (by omega) pn s σ H _ _ v us Q I rx r ⟨mu n, u, y.py, D.pys zs, j, y.py, rfl, rfl, dp_lst rs e c1, dp_of c2 r1, lst_shaped c1 c3, D.shaped c2 c4, pys_get gj, ?_, fun m z' hm hz => ?_, Post.now (rel := relD X.K) rs p ⟨rfl, rfl⟩⟩
        · rw [D.eqv y y c2 c2]; exact D.beq_refl y
        · obtain ⟨d', e', rfl⟩ := pys_back hz
          have nd := nbs_get c1 e'
          rw [D.eqv d' y nd c2, beq_dec, decide_eq_false]
          intro q
          have z := hj3 m hm
          obtain ⟨l, g⟩ := List.getElem?_eq_some_iff.mp e'
          rw [g, q] at z
          simp at z
      · exact p.elim
    · exact p.elim
  · exact p.elim
theorem mbF (hu : X.A.units + 128 < cLine) (m : Mth) : MtR X (mthI m) (rmF N X.K (mthF m)) := by
  cases m with
  | append => exact mb_append
  | pop => exact mb_pop
  | join => exact mb_join
  | index => exact mb_index hu
end
end Fx
set_option Elab.async false
set_option linter.all false
set_option autoImplicit false
set_option maxRecDepth 100000
set_option maxHeartbeats 4000000
/-! FyG: the calls of sorted, sum, all, any; sorted(set(..)). -/
namespace Fx
open PySem PySem.Spec PyProof.Rows L2

section
variable {X : Cx} {N : Nm} {W : WX}
theorem ints_back {K : PySem.W.Frag} {H : Hp} {mu : Nat → Addr} : ∀ {xs : List D} {is : List Int} {vs : List V}, intsOf xs = some is → RVs K H mu xs vs → vs = is.map V.int
  | [], is, vs, h, r => by
    cases h
    exact r
  | x :: xs, is, vs, h, r => by
    obtain ⟨v, w, rfl, r1, r2⟩ := r
    cases x with
    | int i =>
      have h : (intsOf xs).map (i :: ·) = some is := h
      obtain ⟨js, e, rfl⟩ := Option.map_eq_some_iff.mp h
      have r1 : v = .int i := r1
      rw [ints_back e r2, r1]
      rfl
    | _ => cases h
theorem bls_back {K : PySem.W.Frag} {H : Hp} {mu : Nat → Addr} : ∀ {xs : List D} {is : List Bool} {vs : List V}, blsOf xs = some is → RVs K H mu xs vs → vs = is.map V.bl
  | [], is, vs, h, r => by
    cases h
    exact r
  | x :: xs, is, vs, h, r => by
    obtain ⟨v, w, rfl, r1, r2⟩ := r
    cases x with
    | bl i =>
      have h : (blsOf xs).map (i :: ·) = some is := h
      obtain ⟨js, e, rfl⟩ := Option.map_eq_some_iff.mp h
      have r1 : v = .bl i := r1
      rw [bls_back e r2, r1]
      rfl
    | _ => cases h
theorem cb_sum (hc : X.calm = true) : CallR X (.builtin "sum") (rnF N X.K (bltF .sum)) := by
  intro pn s σ H xs us Q I r h
  obtain ⟨mu, S, ds, E, rd, rs, p⟩ := h
  replace p : Post N X.K H mu S (relD X.K) (fSum ds S) Q E := p
  unfold fSum at p
  split at p
  all_goals first | exact p.elim | skip
  obtain ⟨v, rfl, r1⟩ := rvs1 rd
  rename_i n
  obtain rfl : v = .ref (mu n) := r1.1
  split at p
  · rename_i ys e
    obtain ⟨vs, hq, r2, w⟩ := rs.lst e
    split at p
    · rename_i is ei
      exact cr_sum hc pn s σ H _ us Q I r ⟨mu n, is, rfl, by rw [← ints_back ei r2]; exact hq, p.now rs ⟨rfl, rfl⟩⟩
    · exact p.elim
  · exact p.elim
theorem cb_all (hc : X.calm = true) : CallR X (.builtin "all") (rnF N X.K (bltF .all)) := by
  intro pn s σ H xs us Q I r h
  obtain ⟨mu, S, ds, E, rd, rs, p⟩ := h
  replace p : Post N X.K H mu S (relD X.K) (fAll ds S) Q E := p
  unfold fAll at p
  split at p
  all_goals first | exact p.elim | skip
  obtain ⟨v, rfl, r1⟩ := rvs1 rd
  rename_i n
  obtain rfl : v = .ref (mu n) := r1.1
  split at p
  · rename_i ys e
    obtain ⟨vs, hq, r2, w⟩ := rs.lst e
    split at p
    · rename_i is ei
      exact cr_all hc pn s σ H _ us Q I r ⟨mu n, is, rfl, by rw [← bls_back ei r2]; exact hq, p.now rs ⟨rfl, rfl⟩⟩
    · exact p.elim
  · exact p.elim
theorem cb_any (hc : X.calm = true) : CallR X (.builtin "any") (rnF N X.K (bltF .any)) := by
  intro pn s σ H xs us Q I r h
  obtain ⟨mu, S, ds, E, rd, rs, p⟩ := h
  replace p : Post N X.K H mu S (relD X.K) (fAny ds S) Q E := p
  unfold fAny at p
  split at p
  all_goals first | exact p.elim | skip
  obtain ⟨v, rfl, r1⟩ := rvs1 rd
  rename_i n
  obtain rfl : v = .ref (mu n) := r1.1
  split at p
  · rename_i ys e
    obtain ⟨vs, hq, r2, w⟩ := rs.lst e
    split at p
    · rename_i is ei
      exact cr_any hc pn s σ H _ us Q I r ⟨mu n, is, rfl, by rw [← bls_back ei r2]; exact hq, p.now rs ⟨rfl, rfl⟩⟩
    · exact p.elim
  · exact p.elim
/-- a new list of the store as the result -/
theorem post_lst {H : Hp} {mu : Nat → Addr} {S : Store} {ys : List D} {vs : List V} {l : Addr} {Q : V → Hp → Prop} {E : XK} (rs : RS N X.K H mu S) (p : Post N X.K H mu S (relD X.K) (.ok (.ref S.length) (S ++ [.lst ys])) Q E) (hl : H l = none) (r : RVs X.K H mu ys vs) (w : D.wfs S.length ys = true) :
    Q (.ref l) (upd H l (.lst vs)) := by
  have g := Gw.alloc rs (p := l) (ho := .lst vs) (o := .lst ys) hl w fun H' mu' ht hm hp => ⟨_, hp, RVs.mono ht hm _ _ w r⟩
  refine p _ _ _ g ⟨?_, by simp [D.wf]⟩
  show V.ref l = .ref (muN mu S.length l S.length)
  rw [muN_eq]
theorem cb_sorted (hu : X.A.units + 128 < cLine) : CallR X (.builtin "sorted") (rnF N X.K (bltF .sorted)) := by
  intro pn s σ H xs us Q I r h
  obtain ⟨mu, S, ds, E, rd, rs, p⟩ := h
  replace p : Post N X.K H mu S (relD X.K) (fSorted ds S) Q E := p
  unfold fSorted at p
  split at p
  all_goals first | exact p.elim | skip
  obtain ⟨v, rfl, r1⟩ := rvs1 rd
  rename_i n
  obtain rfl : v = .ref (mu n) := r1.1
  split at p
  · rename_i ys e
    obtain ⟨vs, hq, r2, w⟩ := rs.lst e
    split at p
    · rename_i c
      obtain ⟨c1, c2⟩ := Bool.and_eq_true_iff.mp c
      have cs := canS_is c1
      obtain ⟨its, rv, hl, hz⟩ := I.list hq
      obtain ⟨u, rfl, ru⟩ := vals1 r
      obtain rfl : u = Value.ref (mu n) := ru
      have each := each_of rv r2
      refine sorted_lst (P := X.prog) (w := X.w) (R := RVl X.K H mu) hl.isList each (each_reads I cs.nb each) cs.alike cs.can (by rw [← line_eq]; exact of_decide_eq_true c2) (fun b hb => by have := cs.dp b hb; rw [D.py_dep]; omega) fun out eo => ?_
      have eo : PySem.W.EachIs (RVl X.K H mu) out (sortD ys) := by rw [← sortD_is cs.al]; exact eo
      obtain ⟨ws, rw1, rw2⟩ := of_each eo
      obtain ⟨c, hc⟩ := sortedAll_at s.heap its out.toArray
      have fr : H (s.heap.objs.size + 1) = none := I.hok.fresh (Nat.le_succ _)
      refine ⟨.ref (s.heap.objs.size + 1), upd H (s.heap.objs.size + 1) (.lst ws), I.laid (t' := s.toks) (fun _ _ z => sortedAll_old z) (Nat.le_succ _) ⟨?_, out, c, rw1, hc⟩, rfl, ?_⟩
      · rw [rw2.length, (sortD_perm ys).length_eq, ← line_eq]
        exact of_decide_eq_true c2
      · exact post_lst rs p fr rw2 (wfs_all.mpr fun x hx => wfs_all.mp w x ((sortD_perm ys).mem_iff.mp hx))
    · exact p.elim
  · exact p.elim

/-! ### sorted(set(..)) -/
structure SetN0 (P : Program) (w : World) (h : Heap) (a : Addr) (L : KL) : Prop where
  ex : ∃ (es : Array (Int × Value)) (ep : Nat) (t : SetTable), (∃ o, h.get? a = some o ∧ o.ExactSet ∧ o.data = .set es ep t) ∧ es.toList = L.map (kRow w) ∧ TabOk t (kHs w L) ∧ (L.map (·.2)).Nodup ∧ t.plain = true ∧ (w.params.followText "set-order" = true ∨ t.led = true) ∧ L.length * 5 < t.mask * 3
def SetNO (P : Program) (w : World) (a : Addr) (L : KL) : HO := .ext fun h => SetN0 P w h a L
theorem SetN.bone {P : Program} {w : World} {h : Heap} {a : Addr} {L : KL} {es : Array (Int × Value)} {ep : Nat} {t : SetTable} (R : SetN P w h a L es ep t) : SetN0 P w h a L := ⟨es, ep, t, R.ob, R.rows, R.tab, R.nd, R.pl, R.led, R.roomy⟩
theorem SetN0.flesh {P : Program} {w : World} {h : Heap} {a : Addr} {L : KL} (R : SetN0 P w h a L) (key : ∀ p ∈ L, NK h p.2 p.1) : ∃ es ep t, SetN P w h a L es ep t := by
  obtain ⟨es, ep, t, h1, h2, h3, h4, h5, h6, h7⟩ := R.ex
  exact ⟨es, ep, t, h1, h2, h3, h4, key, h5, h6, h7⟩
theorem setNO_ok {P : Program} {w : World} {H : Hp} {h : Heap} {a : Addr} {L : KL} (R : SetN0 P w h a L) : ObjOk P w H h a (SetNO P w a L) := by
  have ⟨es, ep, t, ⟨o, ho, r⟩, q⟩ := R.ex
  refine ⟨R, ⟨o, ho⟩, fun h1 h2 p k => ?_⟩
  have ⟨es', ep', t', ⟨o', ho', r'⟩, q'⟩ := SetN0.ex p
  exact ⟨es', ep', t', ⟨o', k o' ho', r'⟩, q'⟩
/-- what is asked of the items -/
structure CanK (xs : List D) : Prop where
  s : CanS xs
  tp : ∀ x ∈ xs, isTup x = true
  kb : ∀ x ∈ xs, x.kb = true
  dp : ∀ x ∈ xs, x.dep ≤ 8
  few : xs.length < 77
/-- the rows of a set, of the items -/
structure RowsOf (K : PySem.W.Frag) (H : Hp) (mu : Nat → Addr) (ds : List D) (L : KL) : Prop where
  sub : ∀ p ∈ L, ∃ d ∈ ds, p.2 = d.key ∧ RV K H mu d (.ref p.1)
  all : ∀ d ∈ ds, d.key ∈ L.map (·.2)
  few : L.length < 77
theorem kl_of {K : PySem.W.Frag} {H : Hp} {mu : Nat → Addr} : ∀ {ds : List D} {vs : List V}, (∀ x ∈ ds, isTup x = true) → RVs K H mu ds vs → ∃ ks : KL, vs = ks.map (fun p => V.ref p.1) ∧ ks.map (·.2) = ds.map D.key ∧ ∀ p ∈ ks, ∃ d ∈ ds, p.2 = d.key ∧ RV K H mu d (.ref p.1)
  | [], vs, _, r => ⟨[], r, rfl, fun p h => nomatch h⟩
  | d :: ds, vs, t, r => by
    obtain ⟨v, w, rfl, r1, r2⟩ := r
    obtain ⟨ks, e1, e2, e3⟩ := kl_of (fun x hx => t x (List.mem_cons_of_mem _ hx)) r2
    have td := t d List.mem_cons_self
    cases d with
    | tup xs =>
      obtain ⟨a, ws, ev, hq, rr⟩ := r1
      refine ⟨(a, D.key (.tup xs)) :: ks, by rw [ev, e1]; rfl, by rw [List.map_cons, e2]; rfl, fun p hp => ?_⟩
      rcases List.mem_cons.mp hp with e | hp
      · rw [e]; exact ⟨_, List.mem_cons_self, rfl, a, ws, rfl, hq, rr⟩
      · obtain ⟨d, hd, z⟩ := e3 p hp
        exact ⟨d, List.mem_cons_of_mem _ hd, z⟩
    | _ => cases td
theorem key_inv {pins : List (Addr × Obj)} {σ : L2.St} {H : Hp} {mu : Nat → Addr} {s : Shared} (I : Inv X pins σ H s) {ds : List D} (c : CanK ds) {a : Addr} {k : NestedKey} (h : ∃ d ∈ ds, k = d.key ∧ RV X.K H mu d (.ref a)) : NK s.heap k a := by
  obtain ⟨d, hd, rfl, r⟩ := h
  exact ⟨RV.nest I d _ _ (c.kb d hd) r rfl, by rw [key_depth]; exact c.dp d hd, key_bare d (c.kb d hd)⟩
theorem refs_vals : ∀ {ks : KL} {us : List Value}, Vals (ks.map fun p => V.ref p.1) us → us = ks.map fun p => Value.ref p.1
  | [], _, .nil => rfl
  | p :: ks, _, .cons r t => by
    cases r
    rw [refs_vals t]
    rfl
theorem vals_refs : ∀ ks : KL, Vals (ks.map fun p => V.ref p.1) (ks.map fun p => Value.ref p.1)
  | [] => .nil
  | p :: ks => .cons rfl (vals_refs ks)
def rSetD (N : Nm) (K : PySem.W.Frag) (P : Program) (w : World) : List V → Hp → VK → Prop := fun xs H Q => ∃ mu S n ds, xs = [.ref (mu n)] ∧ RS N K H mu S ∧ lstOf S n = some ds ∧ CanK ds ∧ ∀ a L, H a = none → RowsOf K H mu ds L → Q (.ref a) (upd H a (SetNO P w a L))
theorem cr_setD (hc : X.calm = true) (hu : X.A.units + 128 < cLine) : CallR X (.type "set") (rSetD N X.K X.prog X.w) := by
  intro pins s σ H xs us Q I r h
  obtain ⟨mu, S, n, ds, rfl, rs, e, c, q⟩ := h
  obtain ⟨vs, hq, r2, w⟩ := rs.lst e
  rw [Vals.ref1 r]
  obtain ⟨ks, rfl, e2, e3⟩ := kl_of c.tp r2
  obtain ⟨its, rv, pl, hz⟩ := I.list hq
  have hn : H s.heap.objs.size = none := I.hok.fresh (Nat.le_refl _)
  have lk : ks.length = ds.length := by rw [← List.length_map (f := (·.2)) (as := ks), e2, List.length_map]
  refine call_setN (P := X.prog) (w := X.w) ks (I.ok.hd hc) pl.isList (by simpa using refs_vals rv) (fun p hp => key_inv I c (e3 p hp)) (by rw [lk]; exact c.few) (by omega) fun h2 tk L es ep t R g k => ?_
  refine ⟨.ref s.heap.objs.size, upd H s.heap.objs.size (SetNO X.prog X.w s.heap.objs.size L), I.laid (t' := tk) k (Nat.le_refl _) (setNO_ok R.bone), rfl, q _ L hn ⟨fun p hp => e3 p (List.mem_of_mem_take (g.sub p hp)), fun d hd => ?_, ?_⟩⟩
  · have z : d.key ∈ ks.map (·.2) := by rw [e2]; exact List.mem_map.mpr ⟨d, hd, rfl⟩
    obtain ⟨p, hp, ez⟩ := List.mem_map.mp z
    rw [← ez]
    exact g.all p (by rw [List.take_length]; exact hp)
  · have := g.len
    have := c.few
    omega
def rSortK (N : Nm) (K : PySem.W.Frag) (P : Program) (w : World) : List V → Hp → VK → Prop := fun xs H Q => ∃ mu a ds L, xs = [.ref a] ∧ H a = some (SetNO P w a L) ∧ CanK ds ∧ RowsOf K H mu ds L ∧ ∀ p vs, H p = none → RVs K H mu (onceD (sortD ds)) vs → Q (.ref p) (upd H p (.lst vs))
theorem cr_sortK (hc : X.calm = true) (hu : X.A.units + 128 < cLine) : CallR X (.builtin "sorted") (rSortK N X.K X.prog X.w) := by
  intro pins s σ H xs us Q I r h
  obtain ⟨mu, a, ds, L, rfl, ha, c, R, q⟩ := h
  have R0 : SetN0 X.prog X.w s.heap a L := (I.hok a _ ha).1
  obtain ⟨es, ep, t, RN⟩ := R0.flesh fun p hp => key_inv I c (R.sub p hp)
  rw [Vals.ref1 r]
  have un : ∀ p ∈ L, ∃ d ∈ ds, unkey p.2 = d ∧ p.2 = d.key ∧ RV X.K H mu d (.ref p.1) := fun p hp => by
    obtain ⟨d, hd, e, rr⟩ := R.sub p hp
    exact ⟨d, hd, by rw [e, unkey_key d (c.kb d hd)], e, rr⟩
  have enc : ∀ p ∈ L, p.2.data = (unkey p.2).py := fun p hp => by
    obtain ⟨d, hd, e, e2, rr⟩ := un p hp
    rw [e, e2, key_data d (c.kb d hd)]
  have mem : ∀ p ∈ L, unkey p.2 ∈ ds := fun p hp => by
    obtain ⟨d, hd, e, _⟩ := un p hp
    rw [e]; exact hd
  have few := R.few
  refine sorted_setN RN (I.ok.hd hc) (by omega) (enc := fun p => (unkey p.2).py) (fun p hp => ?_) ?_ ?_ (fun p hp => ?_) fun s2 p out cc L2 k g o hp hg hout pm pw => ?_
  · obtain ⟨d, hd, e, e2, rr⟩ := un p hp
    rw [e]
    exact Dp.reads I _ _ _ (rr.dp d _ (c.s.nb d hd)) rfl
  · intro x hx y hy
    obtain ⟨p, hp, rfl⟩ := List.mem_map.mp hx
    obtain ⟨p', hp', rfl⟩ := List.mem_map.mp hy
    exact D.alike_py _ _ (c.s.al _ (mem p hp) _ (mem p' hp'))
  · refine .inr fun x hx => ?_
    obtain ⟨p, hp, rfl⟩ := List.mem_map.mp hx
    have z := c.tp _ (mem p hp)
    cases e : unkey p.2 with
    | tup ys => exact ⟨D.pys ys, rfl⟩
    | _ => rw [e] at z; cases z
  · have z := c.dp _ (mem p hp)
    show X.A.units + 2 + (unkey p.2).py.depth < cLine
    rw [D.py_dep]
    omega
  · have mem2 : ∀ p ∈ L2, p ∈ L := fun p hp => pm.mem_iff.mp hp
    have nk : (L2.map (·.2)).Nodup := (pm.map (·.2)).nodup_iff.mpr RN.nd
    have same : L2.map (fun p => unkey p.2) = onceD (sortD ds) := by
      refine once_is c.s.al ?_ ?_ fun x => ?_
      · have e5 : L2.map (fun p => unkey p.2) = (L2.map (·.2)).map unkey := by rw [List.map_map]; rfl
        rw [e5]
        refine List.pairwise_map.mpr (List.Pairwise.imp_of_mem (fun {k j} hk hj hne e => hne ?_) nk)
        obtain ⟨p, hp, rfl⟩ := List.mem_map.mp hk
        obtain ⟨p', hp', rfl⟩ := List.mem_map.mp hj
        obtain ⟨d, hd, e1, e2, _⟩ := un p (mem2 p hp)
        obtain ⟨d', hd', e1', e2', _⟩ := un p' (mem2 p' hp')
        rw [e2, e2', ← e1, ← e1', e]
      · exact List.pairwise_map.mpr pw
      · constructor
        · intro hx
          obtain ⟨p, hp, rfl⟩ := List.mem_map.mp hx
          exact mem p (mem2 p hp)
        · intro hx
          obtain ⟨p, hp, e⟩ := List.mem_map.mp (R.all x hx)
          refine List.mem_map.mpr ⟨p, pm.mem_iff.mpr hp, ?_⟩
          show unkey p.2 = x
          rw [show p.2 = x.key from e, unkey_key x (c.kb x hx)]
    have rvs : RVs X.K H mu (onceD (sortD ds)) (L2.map fun p => V.ref p.1) := by
      rw [← same]
      clear same nk hout pw pm
      induction L2 with
      | nil => exact rfl
      | cons p q ih =>
        obtain ⟨d, hd, e, e2, rr⟩ := un p (mem2 p List.mem_cons_self)
        exact ⟨.ref p.1, q.map fun p => V.ref p.1, rfl, (by show RV X.K H mu (unkey p.2) _; rw [e]; exact rr), ih fun p hp => mem2 p (List.mem_cons_of_mem _ hp)⟩
    have hn : H p = none := I.hok.fresh hp
    have hv : Vals (L2.map fun q => V.ref q.1) out.toList := by rw [hout]; exact vals_refs L2
    have len : (L2.map fun q => V.ref q.1).length ≤ sizeLine := by rw [List.length_map, pm.length_eq, sizeLine_eq]; omega
    have J : Inv X pins σ (upd H p (.lst (L2.map fun q => V.ref q.1))) { s with heap := s2.heap, gens := s2.gens, drawn := s2.drawn, toks := s2.toks } :=
      I.call (ch := []) (Un.laid k hp hn) (I.hok.laid k hp ⟨len, out.toList, cc, hv, hg⟩) (by rw [g]; exact I.bare) (fun _ z => nomatch z)
    have e : s2 = { s with heap := s2.heap, gens := s2.gens, drawn := s2.drawn, toks := s2.toks } := by
      cases s2
      cases s
      cases o
      rfl
    rw [e]
    exact ⟨.ref p, _, J, rfl, q p _ hn rvs⟩
end
end Fx
set_option Elab.async false
set_option linter.all false
set_option autoImplicit false
set_option maxRecDepth 100000
set_option maxHeartbeats 4000000
/-! FxH: tests, calls, comprehensions; what is walked. -/
namespace Fx
open PySem PySem.Spec PyProof.Rows L2

section
variable {X : Cx} {N : Nm} {W : WX} {a b c e : Expr} {fa fb fc : Env → Store → R D} {ga gb gc : Env → Store → R Bool} {pos : Pos}
theorem s_neg (ha : PE X a (tE N X.K W fa)) : PE X (.UnaryOp .USub a pos) (tE N X.K W fun ρ S => (fa ρ S).bind fun x S1 => (match x with
    | .int i => .ok (.int (-i)) S1
    | _ => .stuck)) := by
  refine s_un (g := fun x S1 => (match x with
    | .int i => .ok (.int (-i)) S1
    | _ => .stuck)) ?_ ha
  intro pn s σ H x v Q I rx h
  obtain ⟨mu, S, d, E, rd, rs, p⟩ := h
  cases d with
  | int i =>
    obtain rfl : x = .int i := rd.1
    exact un_neg pn s σ H _ v Q I rx ⟨i, rfl, Post.now (rel := relD X.K) rs p ⟨rfl, rfl⟩⟩
  | _ => exact (show False from p).elim
theorem s_not (ha : PE X a (tE N X.K W fa)) : PE X (.UnaryOp .Not a pos) (tE N X.K W fun ρ S => (fa ρ S).bind fun x S1 => optR ((truth S1 x).map fun b => .bl (!b)) S1) := by
  refine peI (pe_notT ha) fun σ H Q h => ?_
  obtain ⟨mu, ρ, S, re, rs, p⟩ := h
  refine ⟨mu, ρ, S, re, rs, (Post.bind (rel' := relD X.K) p).imp ?_⟩
  rintro x H1 ⟨mu1, S1, d1, r1, g1, p1⟩
  cases q : truth S1 d1 with
  | none => rw [q] at p1; exact (show False from p1).elim
  | some k =>
    rw [q] at p1
    exact ⟨k, truth_is g1.rs r1 q, Post.now (rel := relD X.K) g1.rs p1 ⟨rfl, rfl⟩⟩
/-- a test by its value -/
theorem s_tst (ha : PE X a (tE N X.K W fa)) (he : ∀ whole, isTrue a X.env whole = (do let v ← whole; standAt a.pos; holding [v] (truthy v))) : PT X a (tT N X.K W (tstOf fa)) := by
  refine ptI (pt_truth ha he) fun σ H Q h => ?_
  obtain ⟨mu, ρ, S, re, rs, p⟩ := h
  refine ⟨mu, ρ, S, re, rs, (Post.bind (rel' := relD X.K) p).imp ?_⟩
  rintro x H1 ⟨mu1, S1, d1, r1, g1, p1⟩
  cases q : truth S1 d1 with
  | none => rw [q] at p1; exact (show False from p1).elim
  | some k =>
    rw [q] at p1
    exact ⟨k, truth_is g1.rs r1 q, Post.now (rel := relB X.K) g1.rs p1 rfl⟩
/-- a comparison as a test: its result is a truth value -/
theorem bl_of {f : Env → Store → R D} {t : TE} (hb : ∀ ρ S, ∀ d S', f ρ S = .ok d S' → ∃ k, d = .bl k) (h : ∀ σ H Q, tE N X.K W f σ H Q → t σ H Q) : ∀ σ H Q, tT N X.K W (tstOf f) σ H Q → tTest t σ H Q := by
  intro σ H Q q
  obtain ⟨mu, ρ, S, re, rs, p⟩ := q
  refine h σ H _ ⟨mu, ρ, S, re, rs, ?_⟩
  unfold tstOf at p
  cases e : f ρ S with
  | ok d S' =>
    obtain ⟨k, rfl⟩ := hb ρ S d S' e
    rw [e] at p
    intro x H' mu' g r
    have r1 : x = .bl k := r.1
    exact ⟨k, r1, p k H' mu' g rfl⟩
  | exn C fs S' => rw [e] at p; exact p
  | stuck => rw [e] at p; exact p
theorem s_cmpT {op : CmpOp} {g : D → D → Store → Option Bool} (ho : OpR X (compareOp op) (r2F N X.K fun x y S2 => optR ((g x y S2).map .bl) S2)) (ha : PE X a (tE N X.K W fa)) (hb : PE X b (tE N X.K W fb)) (hm : behindInMarks op b = false) :
    PT X (.Compare a [op] [b] pos) (tT N X.K W (tstOf fun ρ S => (fa ρ S).bind fun x S1 => (fb ρ S1).bind fun y S2 => optR ((g x y S2).map .bl) S2)) := by
  refine ptI (pt_cmpR ho ha hb hm) (bl_of (fun ρ S d S' q => ?_) fun _ _ _ h => two_of h)
  cases e1 : fa ρ S with
  | ok x S1 =>
    rw [e1] at q
    cases e2 : fb ρ S1 with
    | ok y S2 =>
      simp only [R.bind_ok, e2] at q
      cases e3 : g x y S2 with
      | none => rw [e3] at q; cases q
      | some k => rw [e3] at q; cases q; exact ⟨k, rfl⟩
    | exn C fs S2 => simp only [R.bind_ok, e2] at q; cases q
    | stuck => simp only [R.bind_ok, e2] at q; cases q
  | exn C fs S1 => rw [e1] at q; cases q
  | stuck => rw [e1] at q; cases q
theorem chain_rd {op op' : CmpOp} {g g' : D → D → Store → Option Bool} {σ : L2.St} {H : Hp} {Q : VK}
    (h : tE N X.K W (fun ρ S => (fa ρ S).bind fun x S1 => (fb ρ S1).bind fun y S2 => (optR (g x y S2) S2).bind fun k S3 => if k then (fc ρ S3).bind fun z S4 => optR ((g' y z S4).map .bl) S4 else .ok (.bl false) S3) σ H Q) :
    tChain (r2B N X.K g) (r2B N X.K g') (tE N X.K W fa) (tE N X.K W fb) (tE N X.K W fc) σ H Q := by
  obtain ⟨mu, ρ, S, re, rs, p⟩ := h
  refine ⟨mu, ρ, S, re, rs, (Post.bind (rel' := relD X.K) p).imp ?_⟩
  rintro x H1 ⟨mu1, S1, d1, r1, g1, p1⟩
  have re1 := re.gw rs g1
  refine ⟨mu1, ρ, S1, re1, g1.rs, (Post.bind (rel' := relD X.K) p1).imp ?_⟩
  rintro y H2 ⟨mu2, S2, d2, r2, g2, p2⟩
  have re2 := re1.gw g1.rs g2
  cases e : g d1 d2 S2 with
  | none => rw [e] at p2; exact (show False from p2).elim
  | some k =>
    rw [e] at p2
    refine ⟨mu2, S2, d1, d2, k, r1.gw g1.rs g2, r2, g2.rs, e, k, rfl, ?_⟩
    cases k with
    | false => exact iteF (Post.now (rel := relD X.K) g2.rs p2 ⟨rfl, rfl⟩)
    | true =>
      refine iteT ⟨mu2, ρ, S2, re2, g2.rs, (Post.bind (rel := relD X.K) (rel' := relD X.K) (show Post N X.K H2 mu2 S2 (relD X.K) ((fc ρ S2).bind fun z S4 => optR ((g' d2 z S4).map .bl) S4) Q (XW W σ) from p2)).imp ?_⟩
      rintro z H3 ⟨mu3, S3, d3, r3, g3, p3⟩
      cases e3 : g' d2 d3 S3 with
      | none => rw [e3] at p3; exact (show False from p3).elim
      | some k3 =>
        rw [e3] at p3
        exact ⟨mu3, S3, d2, d3, k3, r2.gw g2.rs g3, r3, g3.rs, e3, Post.now (rel := relD X.K) g3.rs p3 ⟨rfl, rfl⟩⟩
theorem s_chain {op op' : CmpOp} {g g' : D → D → Store → Option Bool} (ho : OpR X (compareOp op) (r2B N X.K g)) (ho' : OpR X (compareOp op') (r2B N X.K g')) (ha : PE X a (tE N X.K W fa)) (hb : PE X b (tE N X.K W fb)) (hc : PE X c (tE N X.K W fc))
    (hm : lastMarks [op, op'] [b, c] = false) : PE X (.Compare a [op, op'] [b, c] pos) (tE N X.K W fun ρ S => (fa ρ S).bind fun x S1 => (fb ρ S1).bind fun y S2 => (optR (g x y S2) S2).bind fun k S3 => if k then (fc ρ S3).bind fun z S4 => optR ((g' y z S4).map .bl) S4 else .ok (.bl false) S3) :=
  peI (pe_chain ho ho' ha hb hc hm) fun _ _ _ h => chain_rd (op := op) (op' := op') h
theorem s_chainT {op op' : CmpOp} {g g' : D → D → Store → Option Bool} (ho : OpR X (compareOp op) (r2B N X.K g)) (ho' : OpR X (compareOp op') (r2B N X.K g')) (ha : PE X a (tE N X.K W fa)) (hb : PE X b (tE N X.K W fb)) (hc : PE X c (tE N X.K W fc))
    (hm : lastMarks [op, op'] [b, c] = false) : PT X (.Compare a [op, op'] [b, c] pos) (tT N X.K W (tstOf fun ρ S => (fa ρ S).bind fun x S1 => (fb ρ S1).bind fun y S2 => (optR (g x y S2) S2).bind fun k S3 => if k then (fc ρ S3).bind fun z S4 => optR ((g' y z S4).map .bl) S4 else .ok (.bl false) S3)) := by
  refine ptI (pt_chain ho ho' ha hb hc hm) (bl_of (fun ρ S d S' q => ?_) fun _ _ _ h => chain_rd (op := op) (op' := op') h)
  cases e1 : fa ρ S with
  | ok x S1 =>
    rw [e1] at q
    cases e2 : fb ρ S1 with
    | ok y S2 =>
      simp only [R.bind_ok, e2] at q
      cases e3 : g x y S2 with
      | none => rw [e3] at q; cases q
      | some k =>
        rw [e3] at q
        cases k with
        | false => cases q; exact ⟨_, rfl⟩
        | true =>
          have q : ((fc ρ S2).bind fun z S4 => optR ((g' y z S4).map D.bl) S4) = .ok d S' := q
          cases e4 : fc ρ S2 with
          | ok z S4 =>
            rw [e4] at q
            have q : optR ((g' y z S4).map D.bl) S4 = .ok d S' := q
            cases e5 : g' y z S4 with
            | none => rw [e5] at q; cases q
            | some k5 => rw [e5] at q; cases q; exact ⟨_, rfl⟩
          | exn C fs S4 => rw [e4] at q; cases q
          | stuck => rw [e4] at q; cases q
    | exn C fs S2 => simp only [R.bind_ok, e2] at q; cases q
    | stuck => simp only [R.bind_ok, e2] at q; cases q
  | exn C fs S1 => rw [e1] at q; cases q
  | stuck => rw [e1] at q; cases q

/-! ### a choice; and, or -/
theorem ite_rd {σ : L2.St} {H : Hp} {Q : VK} (h : tE N X.K W (fun ρ S => (gc ρ S).bind fun k S1 => if k then fa ρ S1 else fb ρ S1) σ H Q) : tIf (tT N X.K W gc) (tE N X.K W fa) (tE N X.K W fb) σ H Q := by
  obtain ⟨mu, ρ, S, re, rs, p⟩ := h
  refine ⟨mu, ρ, S, re, rs, (Post.bind (rel' := relB X.K) p).imp ?_⟩
  rintro k H1 ⟨mu1, S1, k', e, g1, p1⟩
  have e : k' = k := e
  subst e
  cases k' with
  | true => exact iteT ⟨mu1, ρ, S1, re.gw rs g1, g1.rs, p1⟩
  | false => exact iteF ⟨mu1, ρ, S1, re.gw rs g1, g1.rs, p1⟩
theorem s_ite (hc : PT X c (tT N X.K W gc)) (ha : PE X a (tE N X.K W fa)) (hb : PE X b (tE N X.K W fb)) : PE X (.IfExp c a b pos) (tE N X.K W fun ρ S => (gc ρ S).bind fun k S1 => if k then fa ρ S1 else fb ρ S1) :=
  peI (pe_ifExp hc ha hb) fun _ _ _ h => ite_rd h
theorem pt_ite {tc ta tb : TT} (hc : PT X c tc) (ha : PT X a ta) (hb : PT X b tb) : PT X (.IfExp c a b pos) (fun σ H Q => tc σ H fun k H1 => if k = true then ta σ H1 Q else tb σ H1 Q) := by
  refine .mk fun pn s σ H Q I h => PyProof.Rows.isTrue_IfExp (thn (hc.run pn s σ H _ I h) fun k s1 ⟨H1, I1, q1⟩ => ?_)
  cases k with
  | true => exact ha.run pn s1 σ H1 Q I1 q1
  | false => exact hb.run pn s1 σ H1 Q I1 q1
theorem s_iteT (hc : PT X c (tT N X.K W gc)) (ha : PT X a (tT N X.K W ga)) (hb : PT X b (tT N X.K W gb)) : PT X (.IfExp c a b pos) (tT N X.K W fun ρ S => (gc ρ S).bind fun k S1 => if k then ga ρ S1 else gb ρ S1) := by
  refine ptI (pt_ite hc ha hb) fun σ H Q h => ?_
  obtain ⟨mu, ρ, S, re, rs, p⟩ := h
  refine ⟨mu, ρ, S, re, rs, (Post.bind (rel' := relB X.K) p).imp ?_⟩
  rintro k H1 ⟨mu1, S1, k', e, g1, p1⟩
  have e : k' = k := e
  subst e
  cases k' with
  | true => exact iteT ⟨mu1, ρ, S1, re.gw rs g1, g1.rs, p1⟩
  | false => exact iteF ⟨mu1, ρ, S1, re.gw rs g1, g1.rs, p1⟩
theorem s_notT (ha : PT X a (tT N X.K W ga)) : PT X (.UnaryOp .Not a pos) (tT N X.K W fun ρ S => (ga ρ S).bind fun k S1 => .ok (!k) S1) := by
  refine ptI (pt_not ha) fun σ H Q h => ?_
  obtain ⟨mu, ρ, S, re, rs, p⟩ := h
  refine ⟨mu, ρ, S, re, rs, (Post.bind (rel' := relB X.K) p).imp ?_⟩
  rintro k H1 ⟨mu1, S1, k', e, g1, p1⟩
  have e : k' = k := e
  subst e
  exact Post.now (rel := relB X.K) g1.rs p1 rfl
variable {es : List Expr}
theorem s_andT (ha : PT X a (tT N X.K W ga)) (hb : PW X (.BoolOp .And (b :: es) pos) (tT N X.K W gb)) : PW X (.BoolOp .And (a :: b :: es) pos) (tT N X.K W fun ρ S => (ga ρ S).bind fun k S1 => if k then gb ρ S1 else .ok false S1) := by
  refine pwI (pw_and ha hb) fun σ H Q h => ?_
  obtain ⟨mu, ρ, S, re, rs, p⟩ := h
  refine ⟨mu, ρ, S, re, rs, (Post.bind (rel' := relB X.K) p).imp ?_⟩
  rintro k H1 ⟨mu1, S1, k', e, g1, p1⟩
  have e : k' = k := e
  subst e
  cases k' with
  | true => exact iteT ⟨mu1, ρ, S1, re.gw rs g1, g1.rs, p1⟩
  | false => exact iteF (Post.now (rel := relB X.K) g1.rs p1 rfl)
theorem s_orT (ha : PT X a (tT N X.K W ga)) (hb : PW X (.BoolOp .Or (b :: es) pos) (tT N X.K W gb)) : PW X (.BoolOp .Or (a :: b :: es) pos) (tT N X.K W fun ρ S => (ga ρ S).bind fun k S1 => if k then .ok true S1 else gb ρ S1) := by
  refine pwI (pw_or ha hb) fun σ H Q h => ?_
  obtain ⟨mu, ρ, S, re, rs, p⟩ := h
  refine ⟨mu, ρ, S, re, rs, (Post.bind (rel' := relB X.K) p).imp ?_⟩
  rintro k H1 ⟨mu1, S1, k', e, g1, p1⟩
  have e : k' = k := e
  subst e
  cases k' with
  | true => exact iteT (Post.now (rel := relB X.K) g1.rs p1 rfl)
  | false => exact iteF ⟨mu1, ρ, S1, re.gw rs g1, g1.rs, p1⟩
theorem s_andV (ha : PE X a (tE N X.K W fa)) (hb : PE X (.BoolOp .And (b :: es) pos) (tE N X.K W fb)) : PE X (.BoolOp .And (a :: b :: es) pos) (tE N X.K W fun ρ S => (fa ρ S).bind fun x S1 => (match x with
    | .bl true => fb ρ S1
    | .bl false => .ok (.bl false) S1
    | _ => .stuck)) := by
  refine peI (pe_and ha hb) fun σ H Q h => ?_
  obtain ⟨mu, ρ, S, re, rs, p⟩ := h
  refine ⟨mu, ρ, S, re, rs, (Post.bind (rel' := relD X.K) p).imp ?_⟩
  rintro x H1 ⟨mu1, S1, d1, r1, g1, p1⟩
  cases d1 with
  | bl k =>
    have r2 : x = .bl k := r1.1
    refine ⟨k, r2, ?_⟩
    cases k with
    | true => exact iteT ⟨mu1, ρ, S1, re.gw rs g1, g1.rs, p1⟩
    | false => exact iteF (Post.now (rel := relD X.K) g1.rs p1 ⟨rfl, rfl⟩)
  | _ => exact (show False from p1).elim
theorem s_orV (ha : PE X a (tE N X.K W fa)) (hb : PE X (.BoolOp .Or (b :: es) pos) (tE N X.K W fb)) : PE X (.BoolOp .Or (a :: b :: es) pos) (tE N X.K W fun ρ S => (fa ρ S).bind fun x S1 => (match x with
    | .bl false => fb ρ S1
    | .bl true => .ok (.bl true) S1
    | _ => .stuck)) := by
  refine peI (pe_or ha hb) fun σ H Q h => ?_
  obtain ⟨mu, ρ, S, re, rs, p⟩ := h
  refine ⟨mu, ρ, S, re, rs, (Post.bind (rel' := relD X.K) p).imp ?_⟩
  rintro x H1 ⟨mu1, S1, d1, r1, g1, p1⟩
  cases d1 with
  | bl k =>
    have r2 : x = .bl k := r1.1
    refine ⟨k, r2, ?_⟩
    cases k with
    | true => exact iteT (Post.now (rel := relD X.K) g1.rs p1 ⟨rfl, rfl⟩)
    | false => exact iteF ⟨mu1, ρ, S1, re.gw rs g1, g1.rs, p1⟩
  | _ => exact (show False from p1).elim

/-! ### slices -/
def tO (N : Nm) (K : PySem.W.Frag) (W : WX) (f : Env → Store → R (Option Int)) : TO := fun σ H Q => ∃ mu ρ S, RE N K H mu S ρ σ ∧ RS N K H mu S ∧ Post N K H mu S (fun _ _ _ a b => a = b) (f ρ S) Q (XW W σ)
theorem poI {e : Option Expr} {t t' : TO} (h : PO X e t) (hi : ∀ σ H Q, t' σ H Q → t σ H Q) : PO X e t' := .mk fun pn s σ H Q I q => h.run pn s σ H Q I (hi _ _ _ q)
theorem s_part (ha : PE X a (tE N X.K W fa)) : PO X (some a) (tO N X.K W (partV fa)) := by
  refine poI (po_some ha) fun σ H Q h => ?_
  obtain ⟨mu, ρ, S, re, rs, p⟩ := h
  refine ⟨mu, ρ, S, re, rs, (Post.bind (rel' := relD X.K) p).imp ?_⟩
  rintro x H1 ⟨mu1, S1, d1, r1, g1, p1⟩
  cases d1 with
  | int i =>
    have r2 : x = .int i := r1.1
    exact ⟨i, r2, Post.now (rel := fun _ _ _ a b => a = b) g1.rs p1 rfl⟩
  | _ => exact (show False from p1).elim
theorem s_noPart : PO X none (tO N X.K W fun _ S => .ok none S) := poI po_none fun σ H Q ⟨mu, ρ, S, re, rs, p⟩ => Post.now (rel := fun _ _ _ a b => a = b) rs p rfl
theorem s_slice {lo hi : Option Expr} {fl fh : Env → Store → R (Option Int)} {p2 : Pos} (ha : PE X a (tE N X.K W fa)) (hl : PO X lo (tO N X.K W fl)) (hh : PO X hi (tO N X.K W fh)) :
    PE X (.Subscript a (.Slice lo hi none p2) pos) (tE N X.K W fun ρ S => (fa ρ S).bind fun x S1 => (fl ρ S1).bind fun i S2 => (fh ρ S2).bind fun j S3 => cutD S3 x i j) := by
  refine peI (pe_slice (cutF (N := N)) ha hl hh) fun σ H Q h => ?_
  obtain ⟨mu, ρ, S, re, rs, p⟩ := h
  refine ⟨mu, ρ, S, re, rs, (Post.bind (rel' := relD X.K) p).imp ?_⟩
  rintro x H1 ⟨mu1, S1, d1, r1, g1, p1⟩
  have re1 := re.gw rs g1
  refine ⟨mu1, ρ, S1, re1, g1.rs, (Post.bind (rel' := fun _ _ _ a b => a = b) p1).imp ?_⟩
  rintro i H2 ⟨mu2, S2, i', e, g2, p2⟩
  subst e
  have re2 := re1.gw g1.rs g2
  refine ⟨mu2, ρ, S2, re2, g2.rs, (Post.bind (rel' := fun _ _ _ a b => a = b) p2).imp ?_⟩
  rintro j H3 ⟨mu3, S3, j', e, g3, p3⟩
  subst e
  exact ⟨mu3, S3, d1, _, (r1.gw g1.rs g2).gw g2.rs g3, g3.rs, p3⟩

/-! ### methods, own defs -/
theorem mOk_is {m : Mth} {H : Hp} {mu : Nat → Addr} {S : Store} {d : D} {x : V} (rs : RS N X.K H mu S) (r : relD X.K H mu S d x) (h : mOk m S d = true) : tyV X.K (mthT m) x H := by
  have lst : ∀ {n : Nat}, relD X.K H mu S (.ref n) x → (lstOf S n).isSome = true → tyV X.K "list" x H := fun {n} r q => by
    obtain ⟨xs, e⟩ := Option.isSome_iff_exists.mp q
    obtain ⟨vs, hq, _⟩ := rs.lst e
    have r1 : x = .ref (mu n) := r.1
    rw [r1]
    exact .inl ⟨rfl, vs, hq⟩
  cases m with
  | append => cases d <;> first | exact lst r h | (cases h)
  | pop => cases d <;> first | exact lst r h | (cases h)
  | index => cases d <;> first | exact lst r h | (cases h)
  | join =>
    cases d with
    | str s =>
      have r1 : x = .str (strOf s) := r.1
      rw [r1]
      exact rfl
    | _ => cases h
theorem mth_slot (m : Mth) : PlainAttrs (mthT m) ∧ Slot (mthT m) (mthN m) (mthI m) ∧ typeOf (.builtin (mthI m)) = pure (.type "method_descriptor") := by
  cases m with
  | append => exact ⟨PySem.F.plainAttrs_list, PySem.F.slot_list_append, PySem.F.type_list_append⟩
  | pop => exact ⟨PySem.F.plainAttrs_list, PySem.F.slot_list_pop, PySem.F.type_list_pop⟩
  | join => exact ⟨PySem.F.plainAttrs_str, PySem.F.slot_str_join, PySem.F.type_str_join⟩
  | index => exact ⟨PySem.F.plainAttrs_list, PySem.F.slot_list_index, PySem.F.type_list_index⟩
/-- no star among them -/
def noStar : List Expr → Bool
  | [] => true
  | .Starred _ _ :: _ => false
  | _ :: r => noStar r
theorem noStar_cons {e : Expr} {es : List Expr} (h : noStar (e :: es) = true) (env : PySem.Env) : starEach (e :: es) env = (false, eval e env) :: starEach es env ∧ noStar es = true := by
  cases e <;> first | (simp [noStar] at h; done) | exact ⟨rfl, h⟩
theorem noStar_any (pos : Pos) (env : PySem.Env) : ∀ {es : List Expr}, noStar es = true → (backTo pos (starEach es env)).any (·.1) = false ∧ (backTo pos (starEach es env)).all (fun x => !x.1) = true
  | [], _ => ⟨rfl, rfl⟩
  | e :: es, h => by
    obtain ⟨h1, h2⟩ := noStar_cons h env
    obtain ⟨g1, g2⟩ := noStar_any pos env h2
    rw [h1]
    unfold backTo at g1 g2 ⊢
    rw [List.map_cons, List.any_cons, List.all_cons, g1, g2]
    exact ⟨rfl, rfl⟩
theorem s_mth {m : Mth} {apos cpos : Pos} {fs : Env → Store → R (List D)} (hu : X.A.units + 128 < cLine) (ho : PE X a (tE N X.K W fa)) (ha : PA X (b :: es) (tA N X.K W fs)) (hbase : attributeBase a (mthN m) X.env (eval a X.env) = eval a X.env)
    (hst : noStar (b :: es) = true) (hl : (b :: es).length < 30) (hline : (apos.endLine == cpos.line) = true) :
    PE X (.Call (.Attribute a (mthN m) apos) (b :: es) [] cpos) (tE N X.K W fun ρ S => (fa ρ S).bind fun x S1 => if mOk m S1 x then (fs ρ S1).bind fun ds S2 => mthF m x ds S2 else .stuck) := by
  obtain ⟨h1, h2, h3⟩ := mth_slot m
  obtain ⟨h4, h5⟩ := noStar_cons hst X.env
  have hfew : ((backTo cpos (starEach (b :: es) X.env)).all (fun x => !x.1) && (backToKw cpos (keywordEach [] X.env)).all (fun x => x.1.isSome) && decide ((b :: es).length + ([] : List Keyword).length + (if ([] : List Keyword).isEmpty then 0 else 1) < 30)) = true := by
    rw [(noStar_any cpos X.env hst).2, Bool.true_and, Bool.and_eq_true]
    exact ⟨rfl, decide_eq_true (by simpa using hl)⟩
  refine peI (pe_bm h1 h2 h3 (mbF (N := N) hu m) ho ha hbase hfew hline h4 (noStar_any cpos X.env h5).1) fun σ H Q h => ?_
  obtain ⟨mu, ρ, S, re, rs, p⟩ := h
  refine ⟨mu, ρ, S, re, rs, (Post.bind (rel' := relD X.K) p).imp ?_⟩
  rintro x H1 ⟨mu1, S1, d1, r1, g1, p1⟩
  split at p1
  · rename_i ok
    refine ⟨mOk_is g1.rs r1 ok, mu1, ρ, S1, re.gw rs g1, g1.rs, (Post.bind (rel' := relDs X.K) p1).imp ?_⟩
    rintro xs H2 ⟨mu2, S2, ds, r2, g2, p2⟩
    exact ⟨mu2, S2, d1, ds, _, r1.gw g1.rs g2, r2, g2.rs, p2⟩
  · exact p1.elim
theorem s_mth0 {m : Mth} {apos cpos : Pos} (hu : X.A.units + 128 < cLine) (ho : PE X a (tE N X.K W fa)) (hbase : attributeBase a (mthN m) X.env (eval a X.env) = eval a X.env) (hline : (apos.endLine == cpos.line) = true) :
    PE X (.Call (.Attribute a (mthN m) apos) [] [] cpos) (tE N X.K W fun ρ S => (fa ρ S).bind fun x S1 => if mOk m S1 x then (R.ok [] S1).bind fun ds S2 => mthF m x ds S2 else .stuck) := by
  obtain ⟨h1, h2, h3⟩ := mth_slot m
  refine peI (pe_bm0 h1 h2 h3 (mbF (N := N) hu m) ho hbase hline) fun σ H Q h => ?_
  obtain ⟨mu, ρ, S, re, rs, p⟩ := h
  refine ⟨mu, ρ, S, re, rs, (Post.bind (rel' := relD X.K) p).imp ?_⟩
  rintro x H1 ⟨mu1, S1, d1, r1, g1, p1⟩
  split at p1
  · rename_i ok
    exact ⟨mOk_is g1.rs r1 ok, mu1, S1, d1, [], _, r1, ⟨rfl, rfl⟩, g1.rs, p1⟩
  · exact p1.elim
/-- the promise of an own def, by what the evaluator says of it -/
def spF (N : Nm) (K : PySem.W.Frag) (np : Nat) (g : List D → Store → R D) : Sp := fun vs H Q E => ∃ mu ds S, ds.length = np ∧ relDs K H mu S ds vs ∧ RS N K H mu S ∧ Post N K H mu S (relD K) (g ds S) Q E
structure OwnFn (N : Nm) (X : Cx) (x : Str) (g : List D → Store → R D) (fa : Addr) (fd : FuncData) (ps : List Str) (lvl : Nat) : Prop where
  mg : X.mg x = some (.ref fa)
  ok : FnOk X.prog X.w X.K X.mg X.base (L2.CX X.prog X.w) lvl fa fd ps (spF N X.K ps.length g)
  room : Room lvl X.A
  kp : PySem.W.keepIn X.K (.ref fa) = true
  bd : Binds X.K fd ps []
  st : ∀ (ds : List D) (S : Store), ds.length ≠ ps.length → g ds S = .stuck
theorem s_own {x : Str} {p cpos : Pos} {fs : Env → Store → R (List D)} {g : List D → Store → R D} {f : Addr} {fd : FuncData} {ps : List Str} {lvl : Nat} (F : OwnFn N X x g f fd ps lvl) (hg : Gl X x) (tk : Takes X W) (ha : PA X (b :: es) (tA N X.K W fs))
    (hst : noStar (b :: es) = true) (hdb : (x == ("__debug__" : Str)) = false) :
    PE X (.Call (.Name x p) (b :: es) [] cpos) (tE N X.K W fun ρ S => (fs ρ S).bind fun ds S1 => g ds S1) := by
  obtain ⟨h4, h5⟩ := noStar_cons hst X.env
  refine peI (pe_callSD (E := fun σ => WE W σ) F.ok F.room hg F.mg F.kp F.bd .nil (fun σ => passAt tk σ) ha hdb h4 (noStar_any cpos X.env h5).1) fun σ H Q h => ?_
  obtain ⟨mu, ρ, S, re, rs, p⟩ := h
  refine ⟨mu, ρ, S, re, rs, (Post.bind (rel' := relDs X.K) p).imp ?_⟩
  rintro xs H1 ⟨mu1, S1, ds, r1, g1, p1⟩
  by_cases hl : ds.length = ps.length
  · exact ⟨mu1, ds, S1, hl, by rw [List.append_nil]; exact r1, g1.rs, p1⟩
  · rw [F.st ds S1 hl] at p1
    exact p1.elim
end
end Fx
set_option Elab.async false
set_option linter.all false
set_option autoImplicit false
set_option maxRecDepth 100000
set_option maxHeartbeats 4000000
/-! FxI: what is walked; targets; comprehensions. -/
namespace Fx
open PySem PySem.Spec PyProof.Rows L2

section
variable {X : Cx} {N : Nm} {W : WX}
/-- the walked thing yields the items, as long as the list stands -/
def ItOk (N : Nm) (K : PySem.W.Frag) (H : Hp) (mu : Nat → Addr) (S : Store) (items : List D) (g : Option Nat) (J : It) : Prop :=
  ∀ (i : Nat) (H' : Hp) (mu' : Nat → Addr) (S' : Store), Gw N K H mu S H' mu' S' → same g S S' = true →
    (∀ d, items[i]? = some d → J.go i H' ∧ ∀ x H2, J.yld i H' x H2 → Gw N K H' mu' S' H2 mu' S' ∧ relD K H2 mu' S' d x) ∧ (items.length ≤ i → J.stop i H')
abbrev relI (N : Nm) (K : PySem.W.Frag) (H : Hp) (mu : Nat → Addr) (S : Store) (p : List D × Option Nat) (J : It) : Prop := ItOk N K H mu S p.1 p.2 J
def iF (N : Nm) (K : PySem.W.Frag) (W : WX) (f : PIt) : TI := fun σ H R => ∃ mu ρ S, RE N K H mu S ρ σ ∧ RS N K H mu S ∧ Post N K H mu S (relI N K) (f ρ S) R (XW W σ)
theorem piI {tg e : Expr} {t t' : TI} (h : PI X tg e t) (hi : ∀ σ H Q, t' σ H Q → t σ H Q) : PI X tg e t' := .mk fun pn s σ H Q I q => h.run pn s σ H Q I (hi _ _ _ q)
/-- a list or a tuple -/
theorem pi_any {tg l : Expr} {tl : TE} (hl : PE X l tl) : PI X tg l (fun σ H R => tl σ H fun x H1 => ∃ a, x = .ref a ∧ (((∃ xs, SqL X.K H1 a xs) ∧ R (Itl X.K a) H1) ∨ ((∃ xs, SqT X.K H1 a xs) ∧ R (Itt X.K a) H1))) := by
  refine .mk fun pn s σ H R I h => thn (hl.run pn s σ H _ I h) fun v s1 ⟨x, H1, I1, r1, a, e, q⟩ => ?_
  subst e
  cases r1
  have here : ∀ (b : Addr), b ∈ [s1.heap.objs.size] → FpOk X pn H1 b := fun b hb => by
    have e : b = s1.heap.objs.size := by simpa using hb
    rw [e]
    exact I1.fpOk (Nat.le_refl _) (I1.hok.fresh (Nat.le_refl _))
  rcases q with ⟨⟨xs, hq⟩, q⟩ | ⟨⟨xs, hq⟩, q⟩
  · obtain ⟨its, rv, p, hz⟩ := I1.list hq
    exact wpAny_pyIter_list p.isList ⟨s1.heap.objs.size, [s1.heap.objs.size], _, _, H1, rfl, I1.kept (t' := s1.toks) fun b o z => Heap.get?_push_of_some _ z, turn_list a _, ⟨_, Heap.get?_push_size _ rfl, rfl, rfl⟩, here, q⟩
  · obtain ⟨its, rv, p, hz⟩ := I1.tuple hq
    exact wpAny_pyIter_tuple (show s1.heap.IsTuple a its.toArray from p) ⟨s1.heap.objs.size, [s1.heap.objs.size], _, _, H1, rfl, I1.kept (t' := s1.toks) fun b o z => Heap.get?_push_of_some _ z, turn_tuple a _, ⟨_, Heap.get?_push_size _ rfl, rfl, rfl⟩, here, q⟩
theorem itOk_tup {K : PySem.W.Frag} {H : Hp} {mu : Nat → Addr} {S : Store} {xs : List D} {a : Addr} {vs : List V} (rs : RS N K H mu S) (q : SqT K H a vs) (r : RVs K H mu xs vs) (w : D.wfs S.length xs = true) : ItOk N K H mu S xs none (Itt K a) := by
  intro i H' mu' S' g _
  have q' := g.tup rs q
  have r' := g.rvs rs w r
  refine ⟨fun d hd => ?_, fun hi => ⟨vs, q', by rw [r.length]; exact hi⟩⟩
  obtain ⟨v, h1, h2⟩ := r'.get hd
  refine ⟨⟨vs, v, q', h1⟩, fun x H2 y => ?_⟩
  obtain ⟨e, y⟩ := y
  have e2 : v = x := Option.some.inj (h1.symm.trans (y vs q'))
  subst e
  exact ⟨Gw.refl g.rs, e2 ▸ h2, D.wf_le g.le d (wfs_get w hd)⟩
theorem itOk_lst {K : PySem.W.Frag} {H : Hp} {mu : Nat → Addr} {S : Store} {xs : List D} {n : Nat} (rs : RS N K H mu S) (h : lstOf S n = some xs) : ItOk N K H mu S xs (some n) (Itl K (mu n)) := by
  intro i H' mu' S' g hs
  have hs' : S'[n]? = S[n]? := by
    have z : decide (S'[n]? = S[n]?) = true := hs
    exact of_decide_eq_true z
  have h' : lstOf S' n = some xs := by unfold lstOf; rw [hs']; exact h
  have hn : n < S.length := by
    unfold lstOf at h
    cases e : S[n]? with
    | none => rw [e] at h; cases h
    | some o => exact (List.getElem?_eq_some_iff.mp e).1
  obtain ⟨vs, q', r', w'⟩ := g.rs.lst h'
  rw [g.mus n hn] at q'
  refine ⟨fun d hd => ?_, fun hi => ⟨vs, q', by rw [r'.length]; exact hi⟩⟩
  obtain ⟨v, h1, h2⟩ := r'.get hd
  refine ⟨⟨vs, v, q', h1⟩, fun x H2 y => ?_⟩
  obtain ⟨e, y⟩ := y
  have e2 : v = x := Option.some.inj (h1.symm.trans (y vs q'))
  subst e
  exact ⟨Gw.refl g.rs, e2 ▸ h2, wfs_get w' hd⟩
/-- a list of the store as it stood -/
theorem lst_then {K : PySem.W.Frag} {H H' : Hp} {mu mu' : Nat → Addr} {S S' : Store} {xs : List D} {n : Nat} (h : lstOf S n = some xs) (g : Gw N K H mu S H' mu' S') (hs : same (some n) S S' = true) : lstOf S' n = some xs ∧ mu' n = mu n := by
  have hs' : S'[n]? = S[n]? := of_decide_eq_true hs
  have hn : n < S.length := by
    unfold lstOf at h
    cases e : S[n]? with
    | none => rw [e] at h; cases h
    | some o => exact (List.getElem?_eq_some_iff.mp e).1
  exact ⟨by unfold lstOf; rw [hs']; exact h, g.mus n hn⟩
theorem itOk_rev {K : PySem.W.Frag} {H : Hp} {mu : Nat → Addr} {S : Store} {xs : List D} {n : Nat} (rs : RS N K H mu S) (h : lstOf S n = some xs) : ItOk N K H mu S xs.reverse (some n) (Itv K (mu n) xs.length) := by
  intro i H' mu' S' g hs
  obtain ⟨h', em⟩ := lst_then h g hs
  obtain ⟨vs, q', r', w'⟩ := g.rs.lst h'
  rw [em] at q'
  refine ⟨fun d hd => ?_, fun hi => by rw [List.length_reverse] at hi; exact hi⟩
  have li : i < xs.length := by
    have := (List.getElem?_eq_some_iff.mp hd).1
    rwa [List.length_reverse] at this
  rw [List.getElem?_reverse li] at hd
  obtain ⟨v, h1, h2⟩ := r'.get hd
  refine ⟨⟨li, vs, v, q', h1⟩, fun x H2 y => ?_⟩
  obtain ⟨e, y⟩ := y
  have e2 : v = x := Option.some.inj (h1.symm.trans (y vs q'))
  subst e
  exact ⟨Gw.refl g.rs, e2 ▸ h2, wfs_get w' hd⟩
theorem enumD_get : ∀ {xs : List D} {k i : Nat} {d : D}, (enumD k xs)[i]? = some d → ∃ x, xs[i]? = some x ∧ d = .tup [.int ((k + i : Nat) : Int), x]
  | [], k, i, d, h => by cases i <;> cases h
  | x :: xs, k, 0, d, h => ⟨x, rfl, (Option.some.inj h).symm⟩
  | x :: xs, k, i + 1, d, h => by
    obtain ⟨y, h1, h2⟩ := enumD_get (xs := xs) (k := k + 1) (i := i) h
    exact ⟨y, h1, by rw [h2]; congr 4; omega⟩
theorem enumD_length : ∀ (xs : List D) (k : Nat), (enumD k xs).length = xs.length
  | [], _ => rfl
  | x :: xs, k => by
    show (enumD (k + 1) xs).length + 1 = _
    rw [enumD_length xs (k + 1)]
    rfl
theorem itOk_enum {K : PySem.W.Frag} {H : Hp} {mu : Nat → Addr} {S : Store} {xs : List D} {n : Nat} (rs : RS N K H mu S) (h : lstOf S n = some xs) : ItOk N K H mu S (enumD 0 xs) (some n) (Ite K (mu n)) := by
  intro i H' mu' S' g hs
  obtain ⟨h', em⟩ := lst_then h g hs
  obtain ⟨vs, q', r', w'⟩ := g.rs.lst h'
  rw [em] at q'
  refine ⟨fun d hd => ?_, fun hi => ⟨vs, q', by rw [r'.length]; rw [enumD_length] at hi; exact hi⟩⟩
  obtain ⟨c, hc, rfl⟩ := enumD_get hd
  obtain ⟨v, h1, h2⟩ := r'.get hc
  refine ⟨⟨vs, v, q', h1⟩, fun x H2 y => ?_⟩
  obtain ⟨T, u, rfl, hT, rfl, y⟩ := y
  have e2 : v = u := Option.some.inj (h1.symm.trans (y vs q'))
  subst e2
  have gl := Gw.laid g.rs (o := HO.tup [.int (i : Nat), v]) hT
  have wc := wfs_get w' hc
  have rv := gl.rv g.rs wc h2
  refine ⟨gl, ⟨T, [.int (i : Nat), v], rfl, SqT.of upd_same, .int (i : Nat), [v], rfl, ?_, v, [], rfl, rv, rfl⟩, by simp [D.wf, D.wfs, wc]⟩
  show V.int (i : Nat) = V.int ((0 + i : Nat) : Int)
  rw [Nat.zero_add]
theorem rangeD_get {i j : Int} {k : Nat} {d : D} (h : (rangeD i j)[k]? = some d) : k < (j - i).toNat ∧ d = .int (i + (k : Int)) := by
  unfold rangeD at h
  rw [List.getElem?_map] at h
  obtain ⟨m, h1, rfl⟩ := Option.map_eq_some_iff.mp h
  obtain ⟨l, e⟩ := List.getElem?_eq_some_iff.mp h1
  rw [List.getElem_range] at e
  subst e
  exact ⟨by simpa using l, rfl⟩
theorem rangeD_length (i j : Int) : (rangeD i j).length = (j - i).toNat := by unfold rangeD; simp
theorem itOk_rng {K : PySem.W.Frag} {H : Hp} {mu : Nat → Addr} {S : Store} {i j : Int} : ItOk N K H mu S (rangeD i j) none (Itr i (j - i).toNat) := by
  intro k H' mu' S' g _
  refine ⟨fun d hd => ?_, fun hi => by rw [rangeD_length] at hi; exact hi⟩
  obtain ⟨h1, rfl⟩ := rangeD_get hd
  refine ⟨h1, fun x H2 y => ?_⟩
  obtain ⟨e, y⟩ := y
  subst e
  exact ⟨Gw.refl g.rs, y, rfl⟩
theorem s_seq {tg l : Expr} {f : Env → Store → R D} (hl : PE X l (tE N X.K W f)) : PI X tg l (iF N X.K W fun ρ S => (f ρ S).bind fun x S1 => (match x with
    | .tup xs => .ok (xs, none) S1
    | .ref n => (match lstOf S1 n with
      | some xs => .ok (xs, some n) S1
      | none => .stuck)
    | _ => .stuck)) := by
  refine piI (pi_any hl) fun σ H R h => ?_
  obtain ⟨mu, ρ, S, re, rs, p⟩ := h
  refine ⟨mu, ρ, S, re, rs, (Post.bind (rel' := relD X.K) p).imp ?_⟩
  rintro x H1 ⟨mu1, S1, d1, r1, g1, p1⟩
  cases d1 with
  | tup xs =>
    obtain ⟨a, vs, e, q, r⟩ := r1.1
    exact ⟨a, e, .inr ⟨⟨vs, q⟩, Post.now (rel := relI N X.K) g1.rs p1 (itOk_tup g1.rs q r r1.2)⟩⟩
  | ref n =>
    have e : x = .ref (mu1 n) := r1.1
    dsimp only at p1
    split at p1
    · rename_i xs h
      obtain ⟨vs, q, r, w⟩ := g1.rs.lst h
      exact ⟨mu1 n, e, .inl ⟨⟨vs, q⟩, Post.now (rel := relI N X.K) g1.rs p1 (itOk_lst g1.rs h)⟩⟩
    · exact p1.elim
  | _ => exact (show False from p1).elim
theorem small_is {i : Int} (h : small i = true) : -(2 ^ 62) ≤ i ∧ i < 2 ^ 62 := by
  unfold small at h
  rw [Bool.and_eq_true, decide_eq_true_eq, decide_eq_true_eq] at h
  exact h
theorem s_rng1 {tg a : Expr} {p pos : Pos} {f : Env → Store → R D} (hg : Gl X "range") (hm : X.mg "range" = none) (ha : PE X a (tE N X.K W f)) (hs : noStar [a] = true) : PI X tg (.Call (.Name "range" p) [a] [] pos) (iF N X.K W fun ρ S => (f ρ S).bind fun x S1 => (match x with
    | .int j => if small j then .ok (rangeD 0 j, none) S1 else .stuck
    | _ => .stuck)) := by
  have h1 := (noStar_cons hs X.env).1
  refine piI (pi_range1 hg hm (s_cons (N := N) (W := W) ha s_nil h1) h1) fun σ H Rk h => ?_
  obtain ⟨mu, ρ, S, re, rs, p⟩ := h
  refine ⟨mu, ρ, S, re, rs, ?_⟩
  cases e : f ρ S with
  | ok d S1 =>
    simp only [e, R.bind_ok] at p ⊢
    intro xs H1 mu1 g r
    obtain ⟨v, rfl, r1⟩ := rvs1 r
    cases d with
    | int j =>
      dsimp only at p
      split at p
      · rename_i c
        obtain ⟨c1, c2⟩ := small_is c
        have rv : v = .int j := r1.1
        refine ⟨j, by rw [rv], c1, c2, ?_⟩
        have q := p _ _ _ g (itOk_rng (i := 0) (j := j))
        simpa using q
      · exact p.elim
    | _ => exact (show False from p).elim
  | exn C fs S1 => simp only [e, R.bind_exn] at p ⊢; exact p
  | stuck => simp only [e, R.bind_stuck] at p ⊢; exact p
theorem s_rng2 {tg a b : Expr} {p pos : Pos} {f f' : Env → Store → R D} (hg : Gl X "range") (hm : X.mg "range" = none) (ha : PE X a (tE N X.K W f)) (hb : PE X b (tE N X.K W f')) (hs : noStar [a, b] = true) : PI X tg (.Call (.Name "range" p) [a, b] [] pos) (iF N X.K W fun ρ S => (f ρ S).bind fun x S1 => (f' ρ S1).bind fun y S2 => (match x, y with
    | .int i, .int j => if small i && small j then .ok (rangeD i j, none) S2 else .stuck
    | _, _ => .stuck)) := by
  obtain ⟨h1, h2⟩ := noStar_cons hs X.env
  have h3 := (noStar_cons h2 X.env).1
  refine piI (pi_range2 hg hm (s_cons (N := N) (W := W) ha (s_cons hb s_nil h3) h1) (by rw [h1, h3]; rfl) h3) fun σ H Rk h => ?_
  obtain ⟨mu, ρ, S, re, rs, p⟩ := h
  refine ⟨mu, ρ, S, re, rs, ?_⟩
  cases e : f ρ S with
  | ok d S1 =>
    cases e2 : f' ρ S1 with
    | ok d' S2 =>
      simp only [e, e2, R.bind_ok] at p ⊢
      intro xs H1 mu1 g r
      obtain ⟨v, u, rfl, r1, r2⟩ := rvs2 r
      cases d with
      | int i =>
        cases d' with
        | int j =>
          dsimp only at p
          split at p
          · rename_i c
            rw [Bool.and_eq_true] at c
            obtain ⟨c1, c2⟩ := small_is c.1
            obtain ⟨c3, c4⟩ := small_is c.2
            have rv : v = .int i := r1.1
            have ru : u = .int j := r2.1
            exact ⟨i, j, by rw [rv, ru], ⟨c1, c2, c3, c4⟩, p _ _ _ g itOk_rng⟩
          · exact p.elim
        | _ => exact (show False from p).elim
      | _ => exact (show False from p).elim
    | exn C fs S2 => simp only [e, e2, R.bind_ok, R.bind_exn] at p ⊢; exact p
    | stuck => simp only [e, e2, R.bind_ok, R.bind_stuck] at p ⊢; exact p
  | exn C fs S1 => simp only [e, R.bind_exn] at p ⊢; exact p
  | stuck => simp only [e, R.bind_stuck] at p ⊢; exact p

theorem s_enum {tpos p pos : Pos} {elts : List Expr} {kk : Nat} {a : Expr} {f : Env → Store → R D} (hg : Gl X "enumerate") (hm : X.mg "enumerate" = none) (ha : PE X a (tE N X.K W f)) (hs : noStar [a] = true) : PI X (.Tuple elts kk tpos) (.Call (.Name "enumerate" p) [a] [] pos) (iF N X.K W fun ρ S => (f ρ S).bind fun x S1 => (match x with
    | .ref n => (match lstOf S1 n with
      | some xs => .ok (enumD 0 xs, some n) S1
      | none => .stuck)
    | _ => .stuck)) := by
  have h1 := (noStar_cons hs X.env).1
  refine piI (pi_enum hg hm (s_cons (N := N) (W := W) ha s_nil h1) h1) fun σ H Rk h => ?_
  obtain ⟨mu, ρ, S, re, rs, p⟩ := h
  refine ⟨mu, ρ, S, re, rs, ?_⟩
  cases e : f ρ S with
  | ok d S1 =>
    simp only [e, R.bind_ok] at p ⊢
    intro xs H1 mu1 g r
    obtain ⟨v, rfl, r1⟩ := rvs1 r
    cases d with
    | ref n =>
      dsimp only at p
      split at p
      · rename_i ys hy
        obtain ⟨vs, q, r2, w⟩ := g.rs.lst hy
        exact ⟨mu1 n, vs, by rw [show v = V.ref (mu1 n) from r1.1], q, p _ _ _ g (itOk_enum g.rs hy)⟩
      · exact p.elim
    | _ => exact (show False from p).elim
  | exn C fs S1 => simp only [e, R.bind_exn] at p ⊢; exact p
  | stuck => simp only [e, R.bind_stuck] at p ⊢; exact p
theorem s_rev {tg : Expr} {p pos : Pos} {a : Expr} {f : Env → Store → R D} (hg : Gl X "reversed") (hm : X.mg "reversed" = none) (ha : PE X a (tE N X.K W f)) (hs : noStar [a] = true) : PI X tg (.Call (.Name "reversed" p) [a] [] pos) (iF N X.K W fun ρ S => (f ρ S).bind fun x S1 => (match x with
    | .ref n => (match lstOf S1 n with
      | some xs => .ok (xs.reverse, some n) S1
      | none => .stuck)
    | _ => .stuck)) := by
  have h1 := (noStar_cons hs X.env).1
  refine piI (pi_reversed hg hm (s_cons (N := N) (W := W) ha s_nil h1) h1) fun σ H Rk h => ?_
  obtain ⟨mu, ρ, S, re, rs, p⟩ := h
  refine ⟨mu, ρ, S, re, rs, ?_⟩
  cases e : f ρ S with
  | ok d S1 =>
    simp only [e, R.bind_ok] at p ⊢
    intro xs H1 mu1 g r
    obtain ⟨v, rfl, r1⟩ := rvs1 r
    cases d with
    | ref n =>
      dsimp only at p
      split at p
      · rename_i ys hy
        obtain ⟨vs, q, r2, w⟩ := g.rs.lst hy
        refine ⟨mu1 n, vs, by rw [show v = V.ref (mu1 n) from r1.1], q, p _ _ _ g ?_⟩
        rw [r2.length]
        exact itOk_rev g.rs hy
      · exact p.elim
    | _ => exact (show False from p).elim
  | exn C fs S1 => simp only [e, R.bind_exn] at p ⊢; exact p
  | stuck => simp only [e, R.bind_stuck] at p ⊢; exact p

/-! ### targets -/
def gNms : List Nat → TGs
  | [] => gNil
  | i :: is => gCons (gName i) (gNms is)
def gF (K : PySem.W.Frag) : FT → TG
  | .nm i => gName i
  | .tp is => gTup K is.length (gNms is)
def FT.slots : FT → List Nat
  | .nm i => [i]
  | .tp is => is
/-- the same but at these places -/
def But (is : List Nat) (σ σ' : L2.St) : Prop := σ'.length = σ.length ∧ ∀ i, i ∉ is → σ'[i]? = σ[i]?
theorem But.refl (is : List Nat) (σ : L2.St) : But is σ σ := ⟨rfl, fun _ _ => rfl⟩
theorem But.trans {is : List Nat} {a b c : L2.St} (h : But is a b) (g : But is b c) : But is a c := ⟨g.1.trans h.1, fun i hi => (g.2 i hi).trans (h.2 i hi)⟩
theorem But.set {is : List Nat} {σ : L2.St} {i : Nat} {v : V} (h : i ∈ is) : But is σ (σ.set i (some v)) := ⟨List.length_set, fun j hj => List.getElem?_set_ne (fun e : i = j => hj (by rw [← e]; exact h))⟩
variable {K : PySem.W.Frag} {H : Hp} {mu : Nat → Addr} {S : Store} {ρ ρ' : Env} {σ : L2.St} {d : D} {x : V}
theorem RE.asg {i : Nat} (re : RE N K H mu S ρ σ) (r : relD K H mu S d x) (h : asgN ρ i d = some ρ') : RE N K H mu S ρ' (σ.set i (some x)) := by
  unfold asgN at h
  split at h
  · rename_i hi
    obtain rfl := Option.some.inj h
    refine ⟨by rw [List.length_set, List.length_set]; exact re.len, fun j e hj => ?_, fun x hx => ?_⟩
    by_cases c : j = i
    · subst c
      rw [List.getElem?_set_self hi] at hj
      have ej : d = e := Option.some.inj (Option.some.inj hj)
      exact ⟨ej ▸ r.2, x, by rw [List.getElem?_set_self (by rw [← re.len]; exact hi)], ej ▸ r.1⟩
    · rw [List.getElem?_set_ne (Ne.symm c)] at hj
      obtain ⟨w, v, h1, h2⟩ := re.get j e hj
      exact ⟨w, v, by rw [List.getElem?_set_ne (Ne.symm c)]; exact h1, h2⟩
    · obtain ⟨h1, h2, h3, h4⟩ := re.hx x hx
      refine ⟨h1, h2, h3, fun j ej hj => ?_⟩
      by_cases c : i = j
      · subst c
        rw [List.getElem?_set_self hi] at hj
        cases Option.some.inj hj
      · rw [List.getElem?_set_ne c] at hj ⊢
        exact h4 j ej hj
  · cases h
theorem gNms_ok {Q : L2.St → Hp → Prop} : ∀ {is : List Nat} {ds : List D} {vs : List V} {ρ ρ' : Env} {σ : L2.St} {all : List Nat}, (∀ i ∈ is, i ∈ all) → RE N K H mu S ρ σ → RVs K H mu ds vs → D.wfs S.length ds = true → asgNs ρ is ds = some ρ' → (∀ σ', RE N K H mu S ρ' σ' → But all σ σ' → Q σ' H) → gNms is vs σ H Q
  | [], [], vs, ρ, ρ', σ, all, _, re, r, w, h, q => by
    have h : some ρ = some ρ' := h
    obtain rfl := Option.some.inj h
    exact ⟨r, q σ re (But.refl _ _)⟩
  | [], d :: ds, vs, ρ, ρ', σ, all, _, re, r, w, h, q => by cases h
  | i :: is, [], vs, ρ, ρ', σ, all, _, re, r, w, h, q => by cases h
  | i :: is, d :: ds, vs, ρ, ρ', σ, all, hs, re, r, w, h, q => by
    obtain ⟨v, vr, e, r1, r2⟩ := r
    have w' : D.wf S.length d = true ∧ D.wfs S.length ds = true := by simpa [D.wfs] using w
    have h : (asgN ρ i d).bind (fun ρ1 => asgNs ρ1 is ds) = some ρ' := h
    obtain ⟨ρ1, h1, h2⟩ := Option.bind_eq_some_iff.mp h
    exact ⟨v, vr, e, gNms_ok (fun j hj => hs j (List.mem_cons_of_mem _ hj)) (re.asg ⟨r1, w'.1⟩ h1) r2 w'.2 h2 fun σ' re' b => q σ' re' ((But.set (hs i List.mem_cons_self)).trans b)⟩
theorem asgNs_len : ∀ {is : List Nat} {ds : List D} {ρ ρ' : Env}, asgNs ρ is ds = some ρ' → ds.length = is.length
  | [], [], _, _, _ => rfl
  | [], _ :: _, _, _, h => by cases h
  | _ :: _, [], _, _, h => by cases h
  | i :: is, d :: ds, ρ, ρ', h => by
    have h : (asgN ρ i d).bind (fun ρ1 => asgNs ρ1 is ds) = some ρ' := h
    obtain ⟨ρ1, _, h2⟩ := Option.bind_eq_some_iff.mp h
    rw [List.length_cons, List.length_cons, asgNs_len h2]
theorem gF_ok {t : FT} {Q : L2.St → Hp → Prop} (re : RE N K H mu S ρ σ) (r : relD K H mu S d x) (h : asgT ρ t d = some ρ') (q : ∀ σ', RE N K H mu S ρ' σ' → But t.slots σ σ' → Q σ' H) : gF K t x σ H Q := by
  cases t with
  | nm i => exact q _ (re.asg r h) (But.set (List.mem_singleton.mpr rfl))
  | tp is =>
    cases d with
    | tup ds =>
      obtain ⟨a, vs, e, hq, r1⟩ := r.1
      have h : asgNs ρ is ds = some ρ' := h
      exact ⟨a, vs, e, hq, by rw [r1.length]; exact asgNs_len h, gNms_ok (fun _ z => z) re r1 r.2 h q⟩
    | _ => cases h
theorem wipe_at : ∀ (vs : List Nat) (σ : L2.St) (i : Nat), (L2.wipe σ vs)[i]? = if i ∈ vs ∧ i < σ.length then some none else σ[i]?
  | [], σ, i => by simp [L2.wipe]
  | v :: vs, σ, i => by
    unfold L2.wipe
    by_cases e : v = i
    · subst e
      by_cases h : v < σ.length
      · rw [List.getElem?_set_self (by rw [L2.wipe_length]; exact h), if_pos ⟨List.mem_cons_self, h⟩]
      · rw [if_neg fun z => h z.2, List.getElem?_eq_none (by rw [List.length_set, L2.wipe_length]; omega), List.getElem?_eq_none (by omega)]
    · rw [List.getElem?_set_ne e, wipe_at vs σ i]
      have c : (i ∈ v :: vs ∧ i < σ.length) ↔ (i ∈ vs ∧ i < σ.length) := by simp [Ne.symm e]
      by_cases h : i ∈ vs ∧ i < σ.length
      · rw [if_pos h, if_pos (c.mpr h)]
      · rw [if_neg h, if_neg fun z => h (c.mp z)]
theorem wipe_but {is vs : List Nat} {σ σ' : L2.St} (b : But is σ σ') (h : ∀ i ∈ is, i ∈ vs) : L2.wipe σ' vs = L2.wipe σ vs := by
  apply List.ext_getElem?
  intro i
  rw [wipe_at, wipe_at, b.1]
  by_cases c : i ∈ vs ∧ i < σ.length
  · rw [if_pos c, if_pos c]
  · rw [if_neg c, if_neg c]
    by_cases hi : i ∈ is
    · have : ¬ i < σ.length := fun z => c ⟨h i hi, z⟩
      rw [List.getElem?_eq_none (by rw [b.1]; omega), List.getElem?_eq_none (by omega)]
    · exact b.2 i hi
theorem wipe_wipe (σ : L2.St) (vs : List Nat) : L2.wipe (L2.wipe σ vs) vs = L2.wipe σ vs := by
  apply List.ext_getElem?
  intro i
  rw [wipe_at, wipe_at, L2.wipe_length]
  by_cases c : i ∈ vs ∧ i < σ.length
  · rw [if_pos c, if_pos c]
  · rw [if_neg c, if_neg c]
theorem wipeF_at : ∀ (vs : List Nat) (ρ : Env) (i : Nat), (Fx.wipe ρ vs)[i]? = if i ∈ vs ∧ i < ρ.length then some none else ρ[i]?
  | [], ρ, i => by simp [Fx.wipe]
  | v :: vs, ρ, i => by
    have len : ∀ vs : List Nat, (Fx.wipe ρ vs).length = ρ.length := fun vs => by
      induction vs with
      | nil => rfl
      | cons v vs ih => unfold Fx.wipe; rw [List.length_set, ih]
    unfold Fx.wipe
    by_cases e : v = i
    · subst e
      by_cases h : v < ρ.length
      · rw [List.getElem?_set_self (by rw [len]; exact h), if_pos ⟨List.mem_cons_self, h⟩]
      · rw [if_neg fun z => h z.2, List.getElem?_eq_none (by rw [List.length_set, len]; omega), List.getElem?_eq_none (by omega)]
    · rw [List.getElem?_set_ne e, wipeF_at vs ρ i]
      have c : (i ∈ v :: vs ∧ i < ρ.length) ↔ (i ∈ vs ∧ i < ρ.length) := by simp [Ne.symm e]
      by_cases h : i ∈ vs ∧ i < ρ.length
      · rw [if_pos h, if_pos (c.mpr h)]
      · rw [if_neg h, if_neg fun z => h (c.mp z)]
theorem wipeF_len (ρ : Env) (vs : List Nat) : (Fx.wipe ρ vs).length = ρ.length := by
  induction vs with
  | nil => rfl
  | cons v vs ih => unfold Fx.wipe; rw [List.length_set, ih]
theorem RE.wipe (hN : N.hx = none) (re : RE N K H mu S ρ σ) (vs : List Nat) : RE N K H mu S (Fx.wipe ρ vs) (L2.wipe σ vs) := by
  refine ⟨by rw [wipeF_len, L2.wipe_length]; exact re.len, fun i d h => ?_, fun x hx => by rw [hN] at hx; cases hx⟩
  rw [wipeF_at] at h
  split at h
  · cases Option.some.inj h
  · rename_i c
    obtain ⟨w, v, h1, h2⟩ := re.get i d h
    refine ⟨w, v, ?_, h2⟩
    rw [wipe_at, if_neg (by rw [← re.len]; exact c)]
    exact h1
end
end Fx
set_option Elab.async false
set_option linter.all false
set_option autoImplicit false
set_option maxRecDepth 100000
set_option maxHeartbeats 4000000
/-! FxJ: comprehensions. -/
namespace Fx
open PySem PySem.Spec PyProof.Rows L2

section
variable {N : Nm} {K : PySem.W.Frag} {H H' : Hp} {mu mu' : Nat → Addr} {S S' : Store}
/-- a list that the store does not name is rewritten -/
theorem RS.out (r : RS N K H mu S) {q : Addr} {vs ws : List V} (hq : H q = some (.lst vs)) (no : ∀ n, Mt S n → mu n ≠ q) : RS N K (upd H q (.lst ws)) mu S := by
  have keep : ∀ b u, b ≠ q → H b = some u → upd H q (.lst ws) b = some u := fun b u hb e => by rw [upd_ne hb]; exact e
  have kt : ∀ a us, SqT K H a us → SqT K (upd H q (.lst ws)) a us := fun a us z => by
    rcases z with (z | ⟨ob, z⟩) | z
    · exact .inl (.inl (keep _ _ (fun e => by rw [e, hq] at z; cases z) z))
    · exact .inl (.inr ⟨ob, keep _ _ (fun e => by rw [e, hq] at z; cases z) z⟩)
    · exact .inr z
  refine ⟨fun n o e => ?_, r.wf, r.inj⟩
  have q' := r.ob n o e
  have w' := r.wf n o e
  cases o with
  | frz us =>
    obtain ⟨vs2, g, q2⟩ := q'
    refine ⟨vs2, ?_, RVs.mono kt (fun _ _ => rfl) us vs2 w' q2⟩
    rcases g with ⟨ob, g⟩ | g
    · exact .inl ⟨ob, keep _ _ (fun z2 => by rw [z2, hq] at g; cases g) g⟩
    · exact .inr g
  | lst us => exact q'.mono kt (fun _ _ => rfl) w' fun u z' => keep _ u (no n (by unfold Mt; rw [e]; trivial)) z'
  | ins C fs => exact q'.mono kt (fun _ _ => rfl) w' fun u z' => keep _ u (no n (by unfold Mt; rw [e]; trivial)) z'
theorem Gw.out (g : Gw N K H mu S H' mu' S') {q : Addr} {vs ws : List V} (h0 : H q = none) (hq : H' q = some (.lst vs)) (no : ∀ n, Mt S' n → mu' n ≠ q) : Gw N K H mu S (upd H' q (.lst ws)) mu' S' where
  rs := g.rs.out hq no
  le := g.le
  mus := g.mus
  fr := fun b o e hb => by rw [upd_ne (ne_of_none e h0)]; exact g.fr b o e hb
  new := g.new
  som := fun b h => by
    by_cases z : b = q
    · rw [z, upd_same]; simp
    · rw [upd_ne z]; exact g.som b h
  mt := g.mt
/-- that list becomes a new place of the store -/
theorem Gw.adopt (g : Gw N K H mu S H' mu' S') {q : Addr} {vs : List V} {xs : List D} (h0 : H q = none) (hq : H' q = some (.lst vs)) (no : ∀ n, Mt S' n → mu' n ≠ q) (r : RVs K H' mu' xs vs) (w : D.wfs S'.length xs = true) :
    Gw N K H mu S H' (muN mu' S'.length q) (S' ++ [.lst xs]) := by
  have hm : ∀ n, n < S'.length → muN mu' S'.length q n = mu' n := fun n h => muN_ne (Nat.ne_of_lt h)
  have at_ : ∀ n u, (S' ++ [O.lst xs])[n]? = some u → (n < S'.length ∧ S'[n]? = some u) ∨ (n = S'.length ∧ u = .lst xs) := fun n u e => by
    by_cases z : n < S'.length
    · rw [List.getElem?_append_left z] at e
      exact .inl ⟨z, e⟩
    · rw [List.getElem?_append_right (Nat.le_of_not_lt z)] at e
      obtain ⟨l, e2⟩ := List.getElem?_eq_some_iff.mp e
      have l' : n - S'.length < 1 := by simpa using l
      have n0 : n = S'.length := by omega
      subst n0
      exact .inr ⟨rfl, by simpa using e2.symm⟩
  have mt_ : ∀ n, n < S'.length → Mt (S' ++ [O.lst xs]) n → Mt S' n := fun n h hn => by
    unfold Mt at hn ⊢
    rw [List.getElem?_append_left h] at hn
    exact hn
  refine ⟨⟨fun n u e => ?_, fun n u e => ?_, fun n m hn hm' e => ?_⟩, by simp; have := g.le; omega, fun n h => (hm n (Nat.lt_of_lt_of_le h g.le)).trans (g.mus n h), g.fr, fun n h1 h2 => ?_, g.som, fun n h hn => g.mt n h (mt_ n (Nat.lt_of_lt_of_le h g.le) hn)⟩
  · rcases at_ n u e with ⟨z, e⟩ | ⟨rfl, rfl⟩
    · rw [hm n z]
      exact (g.rs.ob n u e).mono (fun _ _ h => h) hm (g.rs.wf n u e) fun _ z => z
    · rw [muN_eq]
      exact ⟨vs, hq, RVs.mono (fun _ _ h => h) hm xs vs w r⟩
  · rcases at_ n u e with ⟨z, e⟩ | ⟨rfl, rfl⟩
    · exact O.wf_le (by simp) (g.rs.wf n u e)
    · exact D.wfs_le (by simp) xs w
  · have ln := hn.lt
    have lm := hm'.lt
    rw [List.length_append, List.length_singleton] at ln lm
    by_cases z : n < S'.length
    · rw [hm n z] at e
      by_cases z' : m < S'.length
      · rw [hm m z'] at e
        exact g.rs.inj n m (mt_ n z hn) (mt_ m z' hm') e
      · have m0 : m = S'.length := by omega
        subst m0
        rw [muN_eq] at e
        exact absurd e (no n (mt_ n z hn))
    · have n0 : n = S'.length := by omega
      subst n0
      by_cases z' : m < S'.length
      · rw [hm m z', muN_eq] at e
        exact absurd e.symm (no m (mt_ m z' hm'))
      · omega
  · rw [List.length_append, List.length_singleton] at h2
    by_cases z : n < S'.length
    · rw [hm n z]
      exact g.new n h1 z
    · have n0 : n = S'.length := by omega
      subst n0
      rw [muN_eq]
      exact h0
/-- a place that the store does not name is not named later -/
theorem Gw.noMt (g : Gw N K H mu S H' mu' S') {q : Addr} (hq : H q ≠ none) (no : ∀ n, Mt S n → mu n ≠ q) : ∀ n, Mt S' n → mu' n ≠ q := fun n hn e => by
  by_cases z : n < S.length
  · rw [g.mus n z] at e
    exact no n (g.mt n z hn) e
  · have := g.new n (Nat.le_of_not_lt z) hn.lt
    rw [e] at this
    exact hq this
end

section
variable {X : Cx} {N : Nm} {W : WX}
/-- no exception is wished for -/
abbrev W0 : WX := fun _ _ _ _ => False
/-- one turn of a comprehension by the evaluator, as a post -/
theorem lcTurn_ok {own : List Nat} {t : FT} {ρ : Env} {ts : Env → Store → R Bool} {fv : Env → Store → R D} {d : D} {S S' : Store} {o : Option D} (h : lcTurn own t ρ ts fv d S = .ok o S') :
    ∃ ρ' k S3, asgT (wipe ρ own) t d = some ρ' ∧ tidyB S (ts ρ' S) = .ok k S3 ∧ ((k = true ∧ ∃ y, o = some y ∧ tidy S3 (fv ρ' S3) = .ok y S') ∨ (k = false ∧ o = none ∧ S' = S3)) := by
  unfold lcTurn at h
  split at h
  · rename_i ρ' e
    cases e2 : tidyB S (ts ρ' S) with
    | ok k S3 =>
      rw [e2] at h
      simp only [R.bind_ok] at h
      refine ⟨ρ', k, S3, e, e2, ?_⟩
      cases k with
      | true =>
        simp only [if_true] at h
        cases e3 : tidy S3 (fv ρ' S3) with
        | ok y S4 => rw [e3] at h; simp only [R.bind_ok] at h; cases h; exact .inl ⟨rfl, y, rfl, rfl⟩
        | exn C fs S4 => rw [e3] at h; cases h
        | stuck => rw [e3] at h; cases h
      | false =>
        have h : R.ok none S3 = R.ok o S' := h
        cases h
        exact .inr ⟨rfl, rfl, rfl⟩
    | exn C fs S3 => rw [e2] at h; cases h
    | stuck => rw [e2] at h; cases h
  · cases h
theorem lcLoop_step {f : D → Store → R (Option D)} {chk : Store → Bool} {d : D} {ds acc ys : List D} {S S' : Store} (h : lcLoop f chk (d :: ds) acc S = .ok ys S') :
    ∃ o S1, f d S = .ok o S1 ∧ chk S1 = true ∧ acc.length < line ∧ ((∃ y, o = some y ∧ lcLoop f chk ds (acc ++ [y]) S1 = .ok ys S') ∨ (o = none ∧ lcLoop f chk ds acc S1 = .ok ys S')) := by
  rw [lcLoop] at h
  cases e : f d S with
  | ok o S1 =>
    rw [e] at h
    simp only [R.bind_ok] at h
    split at h
    · rename_i c
      rw [Bool.and_eq_true, decide_eq_true_eq] at c
      refine ⟨o, S1, rfl, c.1, c.2, ?_⟩
      cases o with
      | some y => exact .inl ⟨y, rfl, h⟩
      | none => exact .inr ⟨rfl, h⟩
    · cases h
  | exn C fs S1 => rw [e] at h; cases h
  | stuck => rw [e] at h; cases h
theorem lc_rd {own : List Nat} {t : FT} {fi : PIt} {ts : Env → Store → R Bool} {fv : Env → Store → R D} {σ : L2.St} {H : Hp} {Q : VK} (hN0 : N.hx = none) (hsl : ∀ i ∈ t.slots, i ∈ own)
    (h : tE N X.K W (fun ρ S => ((fi ρ S).bind fun p S1 => (lcLoop (lcTurn own t ρ ts fv) (same p.2 S1) p.1 [] S1).noex.bind fun ys S2 => .ok (.ref S2.length) (S2 ++ [.lst ys]))) σ H Q) :
    tLc (iF N X.K W fi) (gF X.K t) (tT N X.K W0 ts) (tE N X.K W0 fv) own σ H Q := by
  obtain ⟨mu, ρ, S, re, rs, p⟩ := h
  refine ⟨mu, ρ, S, re, rs, (Post.bind (rel' := relI N X.K) p).imp ?_⟩
  rintro J H1 ⟨mu1, S1, ⟨items, gd⟩, itok, g1, p1⟩
  intro q hq
  dsimp only at p1
  cases e : lcLoop (lcTurn own t ρ ts fv) (same gd S1) items [] S1 with
  | exn C fs S2 => rw [e] at p1; exact (show False from p1).elim
  | stuck => rw [e] at p1; exact (show False from p1).elim
  | ok ys S2 =>
  rw [e] at p1
  replace p1 : Post N X.K H1 mu1 S1 (relD X.K) (.ok (.ref S2.length) (S2 ++ [.lst ys])) Q (XW W σ) := p1
  have re1 := re.gw rs g1
  have some1 : ∀ {b : Addr} {o : HO}, (upd H1 q o) q ≠ none := fun {b o} => by rw [upd_same]; simp
  refine ⟨fun i m H' => m = items.length - i ∧ i ≤ items.length ∧ ∃ mu' S' acc vacc, Gw N X.K H1 mu1 S1 H' mu' S' ∧ same gd S1 S' = true ∧ H' q = some (.lst vacc) ∧ (∀ n, Mt S' n → mu' n ≠ q) ∧ RVs X.K H' mu' acc vacc ∧ D.wfs S'.length acc = true ∧
      lcLoop (lcTurn own t ρ ts fv) (same gd S1) (items.drop i) acc S' = .ok ys S2, ⟨items.length, by simp, Nat.zero_le _, mu1, S1, [], [], Gw.laid g1.rs hq, ?_, upd_same, fun n hn => g1.rs.mt_ne hn hq, rfl, rfl, by simpa using e⟩, ?_⟩
  · cases gd with
    | none => rfl
    | some n => exact decide_eq_true rfl
  rintro i m H' ⟨rfl, hi', mu', S', acc, vacc, g, hsm, hD, no, racc, wacc, hl⟩
  have now := itok i H' mu' S' g hsm
  by_cases hlt : i < items.length
  · have hd : items[i]? = some items[i] := by simp [hlt]
    obtain ⟨go, yl⟩ := now.1 _ hd
    refine .inr ⟨go, fun H'' => ∃ mu' S' acc vacc, Gw N X.K H1 mu1 S1 H'' mu' S' ∧ same gd S1 S' = true ∧ H'' q = some (.lst vacc) ∧ (∀ n, Mt S' n → mu' n ≠ q) ∧ RVs X.K H'' mu' acc vacc ∧ D.wfs S'.length acc = true ∧
      lcLoop (lcTurn own t ρ ts fv) (same gd S1) (items.drop (i + 1)) acc S' = .ok ys S2, fun H'' z => ⟨items.length - (i + 1), by omega, rfl, hlt, z⟩, fun x H2 y => ?_⟩
    obtain ⟨gy, rx⟩ := yl x H2 y
    have racc := gy.rvs g.rs wacc racc
    have hD := gy.fr q _ hD no
    have g := g.trans gy
    have dr : items.drop i = items[i] :: items.drop (i + 1) := (List.getElem_cons_drop (h := hlt)).symm
    rw [dr] at hl
    obtain ⟨o, S3, ef, ck, la, hl'⟩ := lcLoop_step hl
    obtain ⟨ρ', k, S4, ea, et, hk⟩ := lcTurn_ok ef
    have rew := (re1.gw g1.rs g).wipe hN0 own
    refine gF_ok rew rx ea fun σ2 re2 bt => ⟨(wipe_but bt hsl).trans (wipe_wipe σ _), ?_⟩
    refine ⟨mu', ρ', S', re2, g.rs, Post.tidyB g.rs ?_⟩
    rw [et]
    intro b H3 mu3 g3 eb
    have eb : k = b := eb
    subst eb
    have hD3 : H3 q = some (.lst vacc) := g3.fr q _ hD no
    have no3 := g3.noMt (by rw [hD]; simp) no
    have racc3 := g3.rvs g.rs wacc racc
    have wacc3 := D.wfs_le g3.le acc wacc
    rcases hk with ⟨rfl, y, rfl, ev⟩ | ⟨rfl, rfl, rfl⟩
    · refine iteT ⟨mu3, ρ', S4, re2.gw g.rs g3, g3.rs, Post.tidy g3.rs ?_⟩
      rw [ev]
      intro v H4 mu4 g4 rv
      have hD4 : H4 q = some (.lst vacc) := g4.fr q _ hD3 no3
      have no4 := g4.noMt (by rw [hD3]; simp) no3
      refine ⟨vacc, hD4, by rw [racc.length, ← line_eq]; exact la, ?_⟩
      rcases hl' with ⟨y', e5, hl'⟩ | ⟨e5, _⟩
      · obtain rfl := Option.some.inj e5
        have gg := (g.trans g3).trans g4
        have racc4 := g4.rvs g3.rs wacc3 racc3
        have wacc4 := D.wfs_le g4.le acc wacc3
        have kt : ∀ a us, SqT X.K H4 a us → SqT X.K (upd H4 q (.lst (vacc ++ [v]))) a us := fun a us z => by
          rcases z with (z | ⟨ob, z⟩) | z
          · exact .inl (.inl (by rw [upd_ne (fun e => by rw [e, hD4] at z; cases z)]; exact z))
          · exact .inl (.inr ⟨ob, by rw [upd_ne (fun e => by rw [e, hD4] at z; cases z)]; exact z⟩)
          · exact .inr z
        have wnew : D.wfs S3.length (acc ++ [y]) = true := by rw [wfs_append, wacc4]; simp [D.wfs, rv.2]
        exact ⟨mu4, S3, acc ++ [y], vacc ++ [v], gg.out hq hD4 no4, ck, upd_same, no4, RVs.mono kt (fun _ _ => rfl) _ _ wnew (racc4.append (RVs.single rv.1)), wnew, hl'⟩
      · cases e5
    · refine iteF ?_
      rcases hl' with ⟨y', e5, _⟩ | ⟨_, hl'⟩
      · cases e5
      · exact ⟨mu3, S3, acc, vacc, g.trans g3, ck, hD3, no3, racc3, wacc3, hl'⟩
  · have ei : i = items.length := by omega
    subst ei
    rw [List.drop_length] at hl
    have hl : R.ok acc S' = R.ok ys S2 := by rw [lcLoop] at hl; exact hl
    cases hl
    refine .inl ⟨now.2 (Nat.le_refl _), ?_⟩
    refine p1 _ H' _ (g.adopt hq hD no racc wacc) ⟨?_, by simp [D.wf]⟩
    show V.ref q = .ref (muN mu' S2.length q S2.length)
    rw [muN_eq]
theorem s_lc {own : List (Str × Nat)} {t : FT} {tg iter elt : Expr} {ifs : List Expr} {scope : Scope} {pos : Pos} {fi : PIt} {ts : Env → Store → R Bool} {fv : Env → Store → R D} (hN0 : N.hx = none) (hc : X.calm = true) (hN : X.N.Nodup) (hi : PI X tg iter (iF N X.K W fi)) (ok : BlkOk X.N X.env.scope scope own)
    (hsl : ∀ i ∈ t.slots, i ∈ own.map (·.2))
    (hg : ∀ (s : Shared) (H : Hp) (C : Addr) (cl : List (Str × Addr)) (fp : List Addr), PG (X.blk s H scope (compEnvC scope cl C X.env) fp) tg (gF X.K t))
    (ht : ∀ (s : Shared) (H : Hp) (C : Addr) (cl : List (Str × Addr)) (fp : List Addr), PTs (X.blk s H scope (compEnvC scope cl C X.env) fp) ifs (tT N X.K W0 ts))
    (he : ∀ (s : Shared) (H : Hp) (C : Addr) (cl : List (Str × Addr)) (fp : List Addr), PE (X.blk s H scope (compEnvC scope cl C X.env) fp) elt (tE N X.K W0 fv)) (hs : ∀ x, foldedSetIterable iter X.env x = pure x) :
    PE X (.ListComp elt [⟨tg, iter, ifs, 0⟩] scope pos) (tE N X.K W fun ρ S => ((fi ρ S).bind fun p S1 =>
      (lcLoop (lcTurn (own.map (·.2)) t ρ ts fv) (same p.2 S1) p.1 [] S1).noex.bind fun ys S2 => .ok (.ref S2.length) (S2 ++ [.lst ys]))) :=
  peI (pe_lc hc hN hi ok hg ht he hs) fun _ _ _ h => lc_rd hN0 hsl h
end
end Fx
set_option Elab.async false
set_option linter.all false
set_option autoImplicit false
set_option maxRecDepth 100000
set_option maxHeartbeats 4000000
/-! FyH: sorted(set(..)); instances: made, read, stored; constants of classes. -/
namespace Fx
open PySem PySem.Spec PyProof.Rows L2

section
variable {X : Cx} {N : Nm} {W : WX} {e o : Expr} {fe fo : Env → Store → R D} {p p2 pos pos2 : Pos}
theorem canK_is {xs : List D} (h : (canSortB xs && xs.all isTup && D.kbs xs && decide (D.deps xs ≤ 8) && decide (xs.length < 77)) = true) : CanK xs := by
  simp only [Bool.and_eq_true, decide_eq_true_eq, List.all_eq_true] at h
  obtain ⟨⟨⟨⟨h1, h2⟩, h3⟩, h4⟩, h5⟩ := h
  exact ⟨canS_is h1, h2, kbs_all h3, deps_all h4, h5⟩
theorem s_srtSet (hc : X.calm = true) (hu : X.A.units + 128 < cLine) (hg : Gl X "sorted") (hm : X.mg "sorted" = none) (hg2 : Gl X "set") (hm2 : X.mg "set" = none) (he : PE X e (tE N X.K W fe)) (hst : noStar [e] = true) :
    PE X (.Call (.Name "sorted" p) [.Call (.Name "set" p2) [e] [] pos2] [] pos) (tE N X.K W fun ρ S => (fe ρ S).bind fun x S1 => fSortSet x S1) := by
  have h1 := (noStar_cons hst X.env).1
  refine peI (pe_callB (cr_sortK (N := N) hc hu) hg hm (by decide +kernel) (pa_cons (pe_callTy (cr_setD (N := N) hc hu) hg2 hm2 (by decide +kernel) (pa_cons he pa_nil h1) (by decide) (by decide) h1 rfl) pa_nil rfl) (by decide) (by decide) rfl rfl) fun σ H Q h => ?_
  obtain ⟨mu, ρ, S, re, rs, p⟩ := h
  refine ⟨mu, ρ, S, re, rs, (Post.bind (rel' := relD X.K) p).imp ?_⟩
  rintro x H1 ⟨mu1, S1, d, r1, g1, p1⟩
  unfold fSortSet at p1
  split at p1
  · rename_i n
    have ex : x = .ref (mu1 n) := r1.1
    split at p1
    · rename_i xs hl
      split at p1
      · rename_i c
        have ck := canK_is c
        obtain ⟨vs, q, r2, w⟩ := g1.rs.lst hl
        refine ⟨mu1, S1, n, xs, by rw [ex], g1.rs, hl, ck, fun a L ha Rw => ?_⟩
        have g := Gw.laid g1.rs (o := SetNO X.prog X.w a L) ha
        refine ⟨mu1, a, xs, L, rfl, upd_same, ck, ⟨fun r hr => ?_, Rw.all, Rw.few⟩, fun l us hl2 ru => ?_⟩
        · obtain ⟨d, hd, e1, e2⟩ := Rw.sub r hr
          exact ⟨d, hd, e1, g.rv g1.rs (wfs_all.mp w d hd) e2⟩
        · exact post_lst g.rs (p1.after g) hl2 ru (wfs_all.mpr fun y hy => wfs_all.mp w y ((sortD_perm xs).mem_iff.mp (onceD_mem.mp hy)))
      · exact p1.elim
    · exact p1.elim
  · exact p1.elim
theorem lookW {k : Nat} {f : Nat} {d : D} : ∀ {fs : List (Nat × D)}, D.wfs k (fs.map (·.2)) = true → fs.lookup f = some d → d.wf k = true
  | [], _, q => by cases q
  | z :: r, h, q => by
    have h' : D.wf k z.2 = true ∧ D.wfs k (r.map (·.2)) = true := by simpa [D.wfs] using h
    rw [List.lookup_cons] at q
    split at q
    · cases q; exact h'.1
    · exact lookW h'.2 q
/-- e.f of an instance -/
theorem s_fld {G : Glob} {f : Nat} {nm : Str} (hf : N.fld[f]? = some nm) (hC : ∀ (C : Nat) (l : List Nat), G.cfl[C]? = some l → Cls X.K (N.iad C) ∧ (l.contains f = true → NoAttr X.K (N.iad C) nm)) (hb : attributeBase e nm X.env (eval e X.env) = eval e X.env) (he : PE X e (tE N X.K W fe)) :
    PE X (.Attribute e nm pos) (tE N X.K W fun ρ S => (fe ρ S).bind fun x S1 => (match x with
      | .ref n => (match S1[n]? with
        | some (.ins C fs) => (match G.cfl[C]? with
          | some l => if l.contains f then optR (fs.lookup f) S1 else .stuck
          | none => .stuck)
        | _ => .stuck)
      | _ => .stuck)) := by
  refine peI (pe_fld he hb) fun σ H Q h => ?_
  obtain ⟨mu, ρ, S, re, rs, p⟩ := h
  refine ⟨mu, ρ, S, re, rs, (Post.bind (rel' := relD X.K) p).imp ?_⟩
  rintro x H1 ⟨mu1, S1, d, r1, g1, p1⟩
  cases d with
  | ref n =>
    have ex : x = .ref (mu1 n) := r1.1
    dsimp only at p1
    split at p1
    · rename_i C fs hn
      split at p1
      · rename_i l hl
        split at p1
        · rename_i hc
          obtain ⟨c, na⟩ := hC C l hl
          obtain ⟨dx, gs, ha, rf⟩ := g1.rs.ob n _ hn
          have wf := g1.rs.wf n _ hn
          cases q : fs.lookup f with
          | none => rw [q] at p1; exact (show False from p1).elim
          | some v =>
            rw [q] at p1
            obtain ⟨u, h1, h2⟩ := RF.look hf rf q
            have wv : v.wf S1.length = true := by
              exact lookW wf q
            exact ⟨mu1 n, N.iad C, dx, gs, u, ex, ha, c, na hc, h1, Post.now (rel := relD X.K) g1.rs p1 ⟨h2, wv⟩⟩
        · exact p1.elim
      · exact p1.elim
    · exact p1.elim
  | _ => exact (show False from p1).elim
/-- a constant of a class -/
theorem s_ccon {x f : Str} {C : Addr} {mc : Value} {d : D} {v : V} {u : Value} (hg : Gl X x) (hm : X.mg x = some (.ref C)) (hs : (!(x == ("__debug__" : Str))) = true) (hr : ClX.CRead X.K C mc) (hv : ClX.CVal X.K C mc f v u) (rd : ∀ H mu, RV X.K H mu d v) (wd : ∀ n, d.wf n = true) :
    PE X (.Attribute (.Name x p) f pos) (tE N X.K W fun _ S => .ok d S) := by
  have hdb : (x == ("__debug__" : Str)) = false := by simpa using hs
  refine peI (ClX.pe_cval (pe_glob (v := .ref C) hg hm rfl hdb)) fun σ H Q h => ?_
  obtain ⟨mu, ρ, S, re, rs, p⟩ := h
  exact ⟨C, mc, v, u, rfl, hr, hv, Post.now (rel := relD X.K) rs p ⟨rd H mu, wd _⟩⟩

/-! ### C(e, ..) where what is raised is wished for at the caller's slots -/
def tMakeS (C : Addr) (sp : Sp) (E : L2.St → XK) (t : TA) : TE := fun σ H Q => t σ H fun vs H1 => ∀ x dx, H1 x = none → H1 dx = none → dx ≠ x → sp (.ref x :: vs) (upd (upd H1 dx (.own x)) x (.ins C dx [])) (fun v H2 => v = .non ∧ Q (.ref x) H2) (E σ)
theorem made_run {CX : CXT} {k : Nat} {C f : Addr} {fd : FuncData} {ps : List Str} {sp : Sp} {E : XK} {pins : List (Addr × Obj)} {σ : L2.St} {H : Hp} {s : Shared} {Q : VK} {us : List Value} {vs : List V} (M : Mk X.K C f) (F : FnOk X.prog X.w X.K X.mg X.base CX k f fd ps sp) (hr : Room (k + 1) X.A) (hb : Binds X.K fd ps [])
    (hx : PassesAt CX X σ E) (I : Inv X pins σ H s) (r : Vals vs us) (h : ∀ x dx, H x = none → H dx = none → dx ≠ x → sp (.ref x :: vs) (upd (upd H dx (.own x)) x (.ins C dx [])) (fun v H2 => v = .non ∧ Q (.ref x) H2) E) :
    wpAny (model X.prog X.w) X.A (call (.ref C) us) (EP X pins σ Q) X.xe s := by
  have q := h (s.heap.objs.size + 1) s.heap.objs.size (I.hok.fresh (Nat.le_succ _)) (I.hok.fresh (Nat.le_refl _)) (Nat.ne_of_lt (Nat.lt_succ_self _))
  have J := Inv.made (C := C) I
  have rr : Vals (V.ref (s.heap.objs.size + 1) :: vs) (Value.ref (s.heap.objs.size + 1) :: us) := .cons rfl r
  have len : (Value.ref (s.heap.objs.size + 1) :: us ++ []).length = ps.length := by
    rw [List.append_nil, ← rr.length]
    exact F.len _ _ _ _ q
  have bd := hb _ (Value.ref (s.heap.objs.size + 1) :: us) J.kIn len
  rw [List.append_nil] at bd
  refine wpAny_call (make_map (f := f) I.kIn M.makes M.init (beq_iff_eq.mp M.fn) (codeAny_mono (F.run _ X.stack _ _ ⟨Value.ref (s.heap.objs.size + 1) :: us, []⟩ (Value.ref (s.heap.objs.size + 1) :: us) _ _ E (hr.make C us []) (J.env0.make C us []) bd rr q) fun r s2 hq => ?_))
  cases r with
  | error e => exact hx pins _ _ e s2 J hq
  | ok fl =>
    cases fl with
    | ret u =>
      obtain ⟨v, H2, I2, rv, ev, q2⟩ := J.after hq
      subst ev
      exact ⟨rv, V.ref (s.heap.objs.size + 1), H2, I2, rfl, q2⟩
    | _ => exact False.elim hq
theorem pe_makeS {CX : CXT} {k : Nat} {C f : Addr} {fd : FuncData} {ps : List Str} {sp : Sp} {E : L2.St → XK} {x : Str} {es : List Expr} {t : TA} (M : Mk X.K C f) (F : FnOk X.prog X.w X.K X.mg X.base CX k f fd ps sp) (hr : Room (k + 1) X.A) (hg : Gl X x) (hm : X.mg x = some (.ref C)) (hb : Binds X.K fd ps [])
    (hx : ∀ σ, PassesAt CX X σ (E σ)) (ha : PA X (e :: es) t) (hdb : (x == ("__debug__" : Str)) = false) (he : starEach (e :: es) X.env = (false, eval e X.env) :: starEach es X.env) (hpl : (backTo pos (starEach es X.env)).any (·.1) = false) :
    PE X (.Call (.Name x p) (e :: es) [] pos) (tMakeS C sp E t) := by
  refine ⟨fun pins s σ H Q I h => ?_⟩
  refine wpAny_Call_Name_kw (ld_glob I hg hm ?_ hdb)
  exact PySem.W.callWith_K (h₀ := X.base) I.ok.mod.kin M.kp (thn (ha.run pos pins s σ H _ I h) fun us s1 ⟨vs, H1, I1, r, q⟩ => ⟨I1.kIn, made_run M F hr hb (hx σ) I1 r q⟩) he hpl
/-- a class's own __init__ -/
structure OwnMk (N : Nm) (X : Cx) (x : Str) (C : Nat) (g : List D → Store → R D) (fa : Addr) (fd : FuncData) (ps : List Str) (lvl : Nat) : Prop where
  mg : X.mg x = some (.ref (N.iad C))
  mkr : Mk X.K (N.iad C) fa
  ok : FnOk X.prog X.w X.K X.mg X.base (L2.CX X.prog X.w) lvl fa fd ps (spF N X.K ps.length g)
  room : Room (lvl + 1) X.A
  bd : Binds X.K fd ps []
  st : ∀ (ds : List D) (S : Store), ds.length ≠ ps.length → g ds S = .stuck
theorem s_mk {G : Glob} {x : Str} {C : Nat} {es : List Expr} {fs : Env → Store → R (List D)} {g : List D → Store → R D} {f : Addr} {fd : FuncData} {ps : List Str} {lvl : Nat} (F : OwnMk N X x C g f fd ps lvl) (hg : Gl X x) (tk : Takes X W) (ha : PA X (e :: es) (tA N X.K W fs))
    (hst : noStar (e :: es) = true) (hdb : (x == ("__debug__" : Str)) = false) :
    PE X (.Call (.Name x p) (e :: es) [] pos) (tE N X.K W fun ρ S => (fs ρ S).bind fun ds S1 => if C < G.cfl.length then tidy S1 ((g (.ref S1.length :: ds) (S1 ++ [.ins C []])).bind fun r S2 => (match r with
      | .non => .ok (.ref S1.length) S2
      | _ => .stuck)) else .stuck) := by
  obtain ⟨h4, h5⟩ := noStar_cons hst X.env
  refine peI (pe_makeS (E := fun σ => WE W σ) F.mkr F.ok F.room hg F.mg F.bd (fun σ => passAt tk σ) ha hdb h4 (noStar_any pos X.env h5).1) fun σ H Q h => ?_
  obtain ⟨mu, ρ, S, re, rs, p⟩ := h
  refine ⟨mu, ρ, S, re, rs, (Post.bind (rel' := relDs X.K) p).imp ?_⟩
  rintro vs H1 ⟨mu1, S1, ds, r1, g1, p1⟩
  split at p1
  · intro a dx hx hdx hne
    have p2 := Post.tidy g1.rs p1
    have ga := Gw.laid g1.rs (o := HO.own a) hdx
    have ha2 : upd H1 dx (.own a) a = none := by rw [upd_ne (Ne.symm hne)]; exact hx
    have gb := Gw.alloc ga.rs (p := a) (ho := .ins (N.iad C) dx []) (o := .ins C []) ha2 rfl fun H' mu' _ _ hp => ⟨dx, [], hp, rfl⟩
    have gg := ga.trans gb
    have p3 := Post.after p2 gg
    have rs2 := r1.gw g1.rs gg
    have rself : relD X.K (upd (upd H1 dx (.own a)) a (.ins (N.iad C) dx [])) (muN mu1 S1.length a) (S1 ++ [.ins C []]) (.ref S1.length) (.ref a) := ⟨by show V.ref a = .ref (muN mu1 S1.length a S1.length); rw [muN_eq], by simp [D.wf]⟩
    by_cases hl : (D.ref S1.length :: ds).length = ps.length
    · refine ⟨muN mu1 S1.length a, .ref S1.length :: ds, S1 ++ [.ins C []], hl, ⟨⟨.ref a, vs, rfl, rself.1, rs2.1⟩, ?_⟩, gb.rs, (Post.bind (rel' := relD X.K) p3).imp ?_⟩
      · show D.wfs (S1 ++ [O.ins C []]).length (.ref S1.length :: ds) = true
        rw [D.wfs, rself.2, rs2.2]
        rfl
      · rintro v H3 ⟨mu3, S3, d, r3, g3, p4⟩
        cases d with
        | non =>
          have rself3 := rself.gw gb.rs g3
          exact ⟨r3.1, Post.now (rel := relD X.K) g3.rs p4 rself3⟩
        | _ => exact (show False from p4).elim
    · rw [F.st _ _ hl] at p3
      exact (show False from p3).elim
  · exact p1.elim
end
end Fx
set_option Elab.async false
set_option linter.all false
set_option autoImplicit false
set_option maxRecDepth 100000
set_option maxHeartbeats 4000000
/-! FxK: a checker of expressions, and that it is right. -/
namespace Fx
open PySem PySem.Spec PyProof.Rows L2

/-! ### the checker -/
structure Tab where
  fnm : List Str
  cnm : List Str
  xnm : List Str
  fld : List Str
  nx : Nat
  cls : List (Str × Nat)
  ccn : List (Str × Str)
structure Sc where
  sc : Scope
  nm : List Str
  fn : Str → Bool
  hot : Bool
  hx : Option Nat
def visB (sc : Scope) (x : Str) : Bool := match sc.names.lookup x with
  | some .local => true
  | some .cell => true
  | some .free => true
  | _ => false
def glB (sc : Scope) (x : Str) : Bool := match sc.names.lookup x with
  | some .globalImplicit => true
  | _ => false
def locB (S : Sc) (x : Str) : Bool := match S.sc.names.lookup x with
  | some .local => true
  | some .cell => S.fn x
  | _ => false
def safeN (x : Str) : Bool := !(x == ("__debug__" : Str)) && !(x == ("__classdict__" : Str))
def conB : D → Const → Bool
  | .non, .none => true
  | .bl a, .bool b => a == b
  | .int a, .int b => decide (a = b)
  | .str s, .str x => decide (strOf s = x)
  | _, _ => false
def bltS : Blt → Str
  | .len => "len"
  | .abs => "abs"
  | .min => "min"
  | .max => "max"
  | .sum => "sum"
  | .sorted => "sorted"
  | .tuple => "tuple"
  | .list => "list"
  | .int => "int"
  | .str => "str"
  | .all => "all"
  | .any => "any"
def tyN : Ty → String
  | .tInt => "int"
  | .tBool => "bool"
  | .tStr => "str"
  | .tTuple => "tuple"
  | .tList => "list"
def tyS : Ty → Str
  | .tInt => "int"
  | .tBool => "bool"
  | .tStr => "str"
  | .tTuple => "tuple"
  | .tList => "list"
def coolB : Blt → Bool
  | .min => true
  | .max => true
  | .sum => true
  | .all => true
  | .any => true
  | _ => false
/-- class names by number -/
def ckX (T : Tab) (S : Sc) : List Nat → List Expr → Bool
  | [], [] => true
  | k :: ks, e :: es => (match e with
    | .Name c _ => decide (T.xnm[k]? = some c) && glB S.sc c
    | _ => false) && ckX T S ks es
  | _, _ => false
def notSlice : Expr → Bool
  | .Slice _ _ _ _ => false
  | _ => true
def notSet : Expr → Bool
  | .Set _ _ _ => false
  | _ => true
def notStar : Expr → Bool
  | .Starred _ _ => false
  | _ => true
def notCall : Expr → Bool
  | .Call _ _ _ _ => false
  | _ => true
def ownOf (N : List Str) (own : List Nat) : List (Str × Nat) := own.map fun i => ((N[i]?).getD "", i)
def inS (S : Sc) (scope : Scope) : Sc := ⟨relS scope S.sc, S.nm, fun x => scope.names.lookup x == some .cell, false, none⟩
def ckN (S : Sc) (i : Nat) : Expr → Bool
  | .Name x _ => decide (S.nm[i]? = some x) && locB S x
  | _ => false
def ckNs (S : Sc) : List Nat → List Expr → Bool
  | [], [] => true
  | i :: is, e :: es => ckN S i e && ckNs S is es
  | _, _ => false
def ckG (S : Sc) : FT → Expr → Bool
  | .nm i, e => ckN S i e
  | .tp is, .Tuple es _ _ => !S.hot && ckNs S is es
  | _, _ => false
mutual
def ckE (T : Tab) : Sc → FE → Expr → Bool
  | S, .loc i, e => (match e with
    | .Name x _ => decide (S.nm[i]? = some x) && visB S.sc x && safeN x
    | _ => false)
  | S, .con c, e => (match e with
    | .Constant k _ _ => conB c k
    | _ => false)
  | S, .glo k, e => (match e with
    | .Name x _ => decide (T.cnm[k]? = some x) && glB S.sc x && safeN x
    | _ => false)
  | S, .bin op a b, e => (match e with
    | .BinOp a' op' b' _ => decide (op = op') && ckE T S a a' && ckE T S b b'
    | _ => false)
  | S, .neg a, e => (match e with
    | .UnaryOp .USub a' _ => ckE T S a a'
    | _ => false)
  | S, .not a, e => (match e with
    | .UnaryOp .Not a' _ => ckE T S a a'
    | _ => false)
  | S, .and es, e => (match e with
    | .BoolOp .And l _ => ckEs T S es l && !l.isEmpty
    | _ => false)
  | S, .or es, e => (match e with
    | .BoolOp .Or l _ => ckEs T S es l && !l.isEmpty
    | _ => false)
  | S, .cmp op a b, e => (match e with
    | .Compare a' [op'] [b'] _ => decide (op = op') && ckE T S a a' && ckE T S b b' && !behindInMarks op b'
    | _ => false)
  | S, .chain op1 op2 a b c, e => (match e with
    | .Compare a' [op1', op2'] [b', c'] _ => decide (op1 = op1') && decide (op2 = op2') && ckE T S a a' && ckE T S b b' && ckE T S c c' && !lastMarks [op1, op2] [b', c']
    | _ => false)
  | S, .ite c a b, e => (match e with
    | .IfExp c' a' b' _ => ckE T S c c' && ckE T S a a' && ckE T S b b'
    | _ => false)
  | S, .tup es, e => (match e with
    | .Tuple l _ _ => ckEs T S es l
    | _ => false)
  | S, .lst es, e => (match e with
    | .List l _ => ckEs T S es l
    | _ => false)
  | S, .blt b es, e => (match e with
    | .Call (.Name x _) (a' :: l) [] _ => decide (x = bltS b) && glB S.sc x && ckEs T S es (a' :: l) && !(S.hot && coolB b)
    | _ => false)
  | S, .mth m o es, e => (match e with
    | .Call (.Attribute o' nm ap) l [] cp => decide (nm = mthN m) && notCall o' && ckE T S o o' && ckEs T S es l && decide (l.length < 30) && (ap.endLine == cp.line)
    | _ => false)
  | S, .call f es, e => (match e with
    | .Call (.Name x _) (a' :: l) [] _ => decide (T.fnm[f]? = some x) && glB S.sc x && safeN x && ckEs T S es (a' :: l) && !S.hot
    | _ => false)
  | S, .fld o f, e => (match e with
    | .Attribute o' nm _ => ckE T S o o' && decide (T.fld[f]? = some nm) && notCall o'
    | _ => false)
  | S, .srtSet a, e => (match e with
    | .Call (.Name x _) [.Call (.Name y _) [a'] [] _] [] _ => decide (x = ("sorted" : Str)) && glB S.sc x && decide (y = ("set" : Str)) && glB S.sc y && ckE T S a a' && notStar a' && !S.hot
    | _ => false)
  | S, .mk C f es, e => (match e with
    | .Call (.Name x _) (a' :: l) [] _ => decide (T.cls[C]? = some (x, f)) && glB S.sc x && safeN x && ckEs T S es (a' :: l) && !S.hot
    | _ => false)
  | S, .ccon k, e => (match e with
    | .Attribute (.Name x _) nm _ => decide (T.ccn[k]? = some (x, nm)) && glB S.sc x && safeN x
    | _ => false)
  | S, .xfld i f, e => (match e with
    | .Attribute (.Name x _) nm _ => decide (S.hx = some i) && decide (S.nm[i]? = some x) && visB S.sc x && safeN x && decide (T.fld[f]? = some nm)
    | _ => false)
  | S, .idx o i, e => (match e with
    | .Subscript o' i' _ => ckE T S o o' && ckE T S i i' && notSlice i'
    | _ => false)
  | S, .cut o lo hi, e => (match e with
    | .Subscript o' (.Slice (some lo') (some hi') none _) _ => ckE T S o o' && ckE T S lo lo' && ckE T S hi hi'
    | _ => false)
  | S, .cutL o lo, e => (match e with
    | .Subscript o' (.Slice (some lo') none none _) _ => ckE T S o o' && ckE T S lo lo'
    | _ => false)
  | S, .cutH o hi, e => (match e with
    | .Subscript o' (.Slice none (some hi') none _) _ => ckE T S o o' && ckE T S hi hi'
    | _ => false)
  | S, .isi o c, e => (match e with
    | .Call (.Name x _) [o', .Name t _] [] _ => decide (x = ("isinstance" : Str)) && glB S.sc x && decide (t = tyS c) && glB S.sc t && ckE T S o o' && notStar o'
    | _ => false)
  | S, .xisi i cs, e => (match e with
    | .Call (.Name x _) [.Name y _, .Name c _] [] _ => decide (x = ("isinstance" : Str)) && glB S.sc x && (decide (S.hx = some i) && decide (S.nm[i]? = some y) && visB S.sc y && safeN y) && glB S.sc c && (match cs with
      | [k] => decide (T.xnm[k]? = some c)
      | _ => false)
    | .Call (.Name x _) [.Name y _, .Tuple l _ _] [] _ => decide (x = ("isinstance" : Str)) && glB S.sc x && (decide (S.hx = some i) && decide (S.nm[i]? = some y) && visB S.sc y && safeN y) && ckX T S cs l && decide (cs.length < 30)
    | _ => false)
  | S, .lc own tg src cs elt, e => (match e with
    | .ListComp elt' [⟨tg', iter, ifs, k⟩] scope _ => !S.hot && decide (k = 0) && blkC S.nm S.sc scope (ownOf S.nm own) && (tg.slots.all fun i => decide (i ∈ own)) && ckG (inS S scope) tg tg' && ckI T S src iter tg' && notSet iter &&
        ckEs T (inS S scope) cs ifs && decide (ifs.length ≤ 1) && ckE T (inS S scope) elt elt'
    | _ => false)
def ckEs (T : Tab) : Sc → FEs → List Expr → Bool
  | _, .nil, l => (match l with
    | [] => true
    | _ => false)
  | S, .cons f fs, l => (match l with
    | e :: es => notStar e && ckE T S f e && ckEs T S fs es
    | _ => false)
def ckI (T : Tab) : Sc → FI → Expr → Expr → Bool
  | S, .seq f, e, _ => ckE T S f e
  | S, .range1 a, e, _ => (match e with
    | .Call (.Name x _) [a'] [] _ => decide (x = ("range" : Str)) && glB S.sc x && ckE T S a a' && notStar a'
    | _ => false)
  | S, .range2 a b, e, _ => (match e with
    | .Call (.Name x _) [a', b'] [] _ => decide (x = ("range" : Str)) && glB S.sc x && ckE T S a a' && ckE T S b b' && notStar a' && notStar b'
    | _ => false)
  | S, .enum a, e, tg => (match e, tg with
    | .Call (.Name x _) [a'] [] _, .Tuple _ _ _ => decide (x = ("enumerate" : Str)) && glB S.sc x && ckE T S a a' && notStar a'
    | _, _ => false)
  | S, .rev a, e, _ => (match e with
    | .Call (.Name x _) [a'] [] _ => decide (x = ("reversed" : Str)) && glB S.sc x && ckE T S a a' && notStar a'
    | _ => false)
end

/-! ### the context -/
structure Kx (X : Cx) (N : Nm) (T : Tab) (G : Glob) (cl : Orac) (W : WX) (S : Sc) (xc : Xc) : Prop where
  sc : X.env.scope = S.sc
  fn : X.fn = S.fn
  nm : X.N = S.nm
  nd : S.nm.Nodup
  calm : S.hot = false → X.calm = true
  hu : X.A.units + 128 < cLine
  tk : S.hot = false → Takes X W
  own : S.hot = false → ∀ (f : Nat) (x : Str), T.fnm[f]? = some x → ∃ fa fd ps lvl, OwnFn N X x (cl f) fa fd ps lvl
  con : ∀ (k : Nat) (x : Str), T.cnm[k]? = some x → ∃ d v u, G.consts[k]? = some d ∧ X.mg x = some u ∧ RelV v u ∧ (∀ H mu, RV X.K H mu d v) ∧ ∀ n, d.wf n = true
  blt : ∀ x ∈ (["len", "abs", "min", "max", "sum", "sorted", "tuple", "list", "int", "str", "bool", "isinstance", "range", "all", "any", "set", "enumerate", "reversed"] : List Str), X.mg x = none
  nox : S.hot = false → N.hx = none ∧ S.hx = none
  xf : ∀ (i : Nat) (x : Str) (f : Nat) (nm : Str) (p p2 : Pos), S.hx = some i → S.nm[i]? = some x → visB S.sc x = true → safeN x = true → T.fld[f]? = some nm → PE X (.Attribute (.Name x p) nm p2) (tE N X.K W (ev G cl xc (.xfld i f)).v)
  xi : ∀ (i : Nat) (x : Str) (k : Nat) (c : Str) (p p2 p3 p4 : Pos), S.hx = some i → S.nm[i]? = some x → visB S.sc x = true → safeN x = true → T.xnm[k]? = some c → glB S.sc c = true → Gl X "isinstance" →
    PE X (.Call (.Name "isinstance" p) [.Name x p2, .Name c p3] [] p4) (tE N X.K W (ev G cl xc (.xisi i [k])).v)
  xt : ∀ (i : Nat) (x : Str) (ks : List Nat) (l : List Expr) (j : Nat) (p p2 p3 p4 : Pos), S.hx = some i → S.nm[i]? = some x → visB S.sc x = true → safeN x = true → ckX T S ks l = true → ks.length < 30 → Gl X "isinstance" →
    PE X (.Call (.Name "isinstance" p) [.Name x p2, .Tuple l j p3] [] p4) (tE N X.K W (ev G cl xc (.xisi i ks)).v)
  cls : ∀ (C : Nat) (l : List Nat) (f : Nat) (nm : Str), G.cfl[C]? = some l → T.fld[f]? = some nm → Cls X.K (N.iad C) ∧ (l.contains f = true → NoAttr X.K (N.iad C) nm)
  tf : T.fld = N.fld
  mko : S.hot = false → ∀ (C : Nat) (x : Str) (f : Nat), T.cls[C]? = some (x, f) → ∃ fa fd ps lvl, OwnMk N X x C (cl f) fa fd ps lvl
  ccn : ∀ (k : Nat) (x nm : Str), T.ccn[k]? = some (x, nm) → ∃ C mc d v u, G.ccons[k]? = some d ∧ X.mg x = some (.ref C) ∧ ClX.CRead X.K C mc ∧ ClX.CVal X.K C mc nm v u ∧ (∀ H mu, RV X.K H mu d v) ∧ ∀ n, d.wf n = true
theorem OwnMk.blk {N : Nm} {X : Cx} {x : Str} {C : Nat} {g : List D → Store → R D} {fa : Addr} {fd : FuncData} {ps : List Str} {lvl : Nat} (F : OwnMk N X x C g fa fd ps lvl) (s : Shared) (H : Hp) (scope : Scope) (ce : PySem.Env) (fp : List Addr) :
    OwnMk N (X.blk s H scope ce fp) x C g fa fd ps lvl := ⟨F.mg, F.mkr, F.ok, F.room, F.bd, F.st⟩
theorem OwnFn.blk {N : Nm} {X : Cx} {x : Str} {g : List D → Store → R D} {fa : Addr} {fd : FuncData} {ps : List Str} {lvl : Nat} (F : OwnFn N X x g fa fd ps lvl) (s : Shared) (H : Hp) (scope : Scope) (ce : PySem.Env) (fp : List Addr) :
    OwnFn N (X.blk s H scope ce fp) x g fa fd ps lvl := ⟨F.mg, F.ok, F.room, F.kp, F.bd, F.st⟩
theorem takes0 {X : Cx} : Takes X W0 := fun u s' ⟨a, B, sI, pins, σ, H, cls, d, e, I, nb, up, sky, na, os, ag, w⟩ => w.elim
section
variable {X : Cx} {N : Nm} {T : Tab} {G : Glob} {cl : Orac} {W : WX} {S : Sc} {xc : Xc}
theorem Kx.blk (k : Kx X N T G cl W S xc) (hh : S.hot = false) (s : Shared) (H : Hp) (scope : Scope) (C : Addr) (cells : List (Str × Addr)) (fp : List Addr) :
    Kx (X.blk s H scope (compEnvC scope cells C X.env) fp) N T G cl W0 (inS S scope) xc where
  sc := by
    show relS scope X.env.scope = relS scope S.sc
    rw [k.sc]
  fn := rfl
  nm := k.nm
  nd := k.nd
  calm := fun _ => k.calm hh
  hu := k.hu
  tk := fun _ => takes0
  own := fun _ f x e => let ⟨fa, fd, ps, lvl, F⟩ := k.own hh f x e; ⟨fa, fd, ps, lvl, F.blk s H scope _ fp⟩
  con := k.con
  blt := k.blt
  nox := fun _ => ⟨(k.nox hh).1, rfl⟩
  xf := fun i x f nm p p2 e => by cases e
  xi := fun i x f nm p p2 p3 p4 e => by cases e
  xt := fun i x ks l j p p2 p3 p4 e => by cases e
  cls := k.cls
  tf := k.tf
  mko := fun _ C x f e => let ⟨fa, fd, ps, lvl, F⟩ := k.mko hh C x f e; ⟨fa, fd, ps, lvl, F.blk s H scope _ fp⟩
  ccn := k.ccn
theorem vis_is (k : Kx X N T G cl W S xc) {x : Str} (h : visB S.sc x = true) : Vis X.env.scope x := by
  unfold visB at h
  unfold Vis
  rw [k.sc]
  split at h
  · rename_i e; exact .inl e
  · rename_i e; exact .inr (.inl e)
  · rename_i e; exact .inr (.inr e)
  · cases h
theorem gl_is (k : Kx X N T G cl W S xc) {x : Str} (h : glB S.sc x = true) : Gl X x := by
  unfold glB at h
  show X.env.scope.names.lookup x = _
  rw [k.sc]
  split at h
  · rename_i e; exact e
  · cases h
theorem loc_is (k : Kx X N T G cl W S xc) {x : Str} (h : locB S x = true) : L2.Loc X.env.scope x ∧ (X.fn x = true ∨ X.env.scope.names.lookup x = some .local) := by
  unfold locB at h
  unfold L2.Loc
  rw [k.sc, k.fn]
  split at h
  · rename_i e; exact ⟨.inl e, .inr e⟩
  · rename_i e; exact ⟨.inr e, .inl h⟩
  · cases h
theorem safe_is {x : Str} (h : safeN x = true) : (x == ("__debug__" : Str)) = false ∧ (x == ("__classdict__" : Str)) = false := by
  unfold safeN at h
  simpa using h
theorem pg_n (k : Kx X N T G cl W S xc) {i : Nat} {e : Expr} (h : ckN S i e = true) : PG X e (gName i) ∧ ∀ es env, assignEach (e :: es) env = (false, assign e env) :: assignEach es env := by
  cases e with
  | Name x p =>
    have h : (decide (S.nm[i]? = some x) && locB S x) = true := h
    rw [Bool.and_eq_true, decide_eq_true_eq] at h
    obtain ⟨h1, h2⟩ := loc_is k h.2
    exact ⟨pg_name (by rw [k.nm]; exact k.nd) (by rw [k.nm]; exact h.1) h1 h2, fun es env => rfl⟩
  | _ => cases h
theorem pgs_n (k : Kx X N T G cl W S xc) : ∀ {is : List Nat} {es : List Expr}, ckNs S is es = true → PGs X es (gNms is) ∧ (assignEach es X.env).length = is.length ∧ (assignEach es X.env).findIdx? (·.1) = none
  | [], [], _ => ⟨pgs_nil, rfl, rfl⟩
  | [], _ :: _, h => by cases h
  | _ :: _, [], h => by cases h
  | i :: is, e :: es, h => by
    have h : (ckN S i e && ckNs S is es) = true := h
    rw [Bool.and_eq_true] at h
    obtain ⟨h1, h2⟩ := pg_n k h.1
    obtain ⟨g1, g2, g3⟩ := pgs_n k h.2
    have e1 := h2 es X.env
    refine ⟨pgs_cons h1 g1 (by rw [e1]; rfl), by rw [e1, List.length_cons, List.length_cons, g2], ?_⟩
    rw [e1, List.findIdx?_cons]
    simp [g3]
theorem pg_is (k : Kx X N T G cl W S xc) {t : FT} {e : Expr} (h : ckG S t e = true) : PG X e (gF X.K t) := by
  cases t with
  | nm i => exact (pg_n k (i := i) h).1
  | tp is =>
    cases e with
    | Tuple es j p =>
      have h : (!S.hot && ckNs S is es) = true := h
      rw [Bool.and_eq_true, Bool.not_eq_true'] at h
      obtain ⟨g1, g2, g3⟩ := pgs_n k h.2
      exact pg_tup (k.calm h.1) g1 g2 g3
    | _ => cases h
theorem con_is {c : D} {q : Const} {j : Nat} {p : Pos} (h : conB c q = true) : PE X (.Constant q j p) (tE N X.K W fun _ S => .ok c S) := by
  cases c with
  | non => cases q <;> first | exact s_con pe_non (fun _ _ => rfl) (fun _ => rfl) | (cases h)
  | bl b =>
    cases q with
    | bool b' =>
      have e : b = b' := by simpa [conB] using h
      subst e
      exact s_con pe_bl (fun _ _ => rfl) (fun _ => rfl)
    | _ => cases h
  | int i =>
    cases q with
    | int i' =>
      have e : i = i' := by simpa [conB] using h
      subst e
      exact s_con pe_int (fun _ _ => rfl) (fun _ => rfl)
    | _ => cases h
  | str s =>
    cases q with
    | str x =>
      have e : strOf s = x := by simpa [conB] using h
      subst e
      exact s_con pe_str (fun _ _ => rfl) (fun _ => rfl)
    | _ => cases h
  | _ => cases h
theorem cbF2 (b : Blt) (hu : X.A.units + 128 < cLine) (hc : coolB b = true → X.calm = true) : CallR X (bltV b) (rnF N X.K (bltF b)) := by
  cases b with
  | len => exact cb_len
  | abs => exact cb_abs
  | min => exact cb_min (hc rfl)
  | max => exact cb_max (hc rfl)
  | tuple => exact cb_tuple
  | list => exact cb_list
  | int => exact cb_int
  | str => exact cb_str
  | sum => exact cb_sum (hc rfl)
  | sorted => exact cb_sorted hu
  | all => exact cb_all (hc rfl)
  | any => exact cb_any (hc rfl)
theorem s_blt {b : Blt} {a : Expr} {l : List Expr} {p pos : Pos} {fs : Env → Store → R (List D)} (hu : X.A.units + 128 < cLine) (hm : X.mg (bltS b) = none) (hg : Gl X (bltS b)) (hc : coolB b = true → X.calm = true) (ha : PA X (a :: l) (tA N X.K W fs)) (hs : noStar (a :: l) = true) :
    PE X (.Call (.Name (bltS b) p) (a :: l) [] pos) (tE N X.K W fun ρ S => (fs ρ S).bind fun ds S1 => bltF b ds S1) := by
  obtain ⟨h4, h5⟩ := noStar_cons hs X.env
  have h6 := (noStar_any pos X.env h5).1
  cases b with
  | len => exact s_call (f := a) (t := fun _ => tC .non) (fun u hu' => pe_callB (cbF2 (N := N) .len hu hc) hg hm (by decide +kernel) hu' (by decide) (by decide) h4 h6) ha
  | abs => exact s_call (f := a) (t := fun _ => tC .non) (fun u hu' => pe_callB (cbF2 (N := N) .abs hu hc) hg hm (by decide +kernel) hu' (by decide) (by decide) h4 h6) ha
  | min => exact s_call (f := a) (t := fun _ => tC .non) (fun u hu' => pe_callB (cbF2 (N := N) .min hu hc) hg hm (by decide +kernel) hu' (by decide) (by decide) h4 h6) ha
  | max => exact s_call (f := a) (t := fun _ => tC .non) (fun u hu' => pe_callB (cbF2 (N := N) .max hu hc) hg hm (by decide +kernel) hu' (by decide) (by decide) h4 h6) ha
  | sum => exact s_call (f := a) (t := fun _ => tC .non) (fun u hu' => pe_callB (cbF2 (N := N) .sum hu hc) hg hm (by decide +kernel) hu' (by decide) (by decide) h4 h6) ha
  | sorted => exact s_call (f := a) (t := fun _ => tC .non) (fun u hu' => pe_callB (cbF2 (N := N) .sorted hu hc) hg hm (by decide +kernel) hu' (by decide) (by decide) h4 h6) ha
  | all => exact s_call (f := a) (t := fun _ => tC .non) (fun u hu' => pe_callB (cbF2 (N := N) .all hu hc) hg hm (by decide +kernel) hu' (by decide) (by decide) h4 h6) ha
  | any => exact s_call (f := a) (t := fun _ => tC .non) (fun u hu' => pe_callB (cbF2 (N := N) .any hu hc) hg hm (by decide +kernel) hu' (by decide) (by decide) h4 h6) ha
  | tuple => exact s_call (f := a) (t := fun _ => tC .non) (fun u hu' => pe_callTy (cbF2 (N := N) .tuple hu hc) hg hm (by decide +kernel) hu' (by decide) (by decide) h4 h6) ha
  | list => exact s_call (f := a) (t := fun _ => tC .non) (fun u hu' => pe_callTy (cbF2 (N := N) .list hu hc) hg hm (by decide +kernel) hu' (by decide) (by decide) h4 h6) ha
  | int => exact s_call (f := a) (t := fun _ => tC .non) (fun u hu' => pe_callTy (cbF2 (N := N) .int hu hc) hg hm (by decide +kernel) hu' (by decide) (by decide) h4 h6) ha
  | str => exact s_call (f := a) (t := fun _ => tC .non) (fun u hu' => pe_callTy (cbF2 (N := N) .str hu hc) hg hm (by decide +kernel) hu' (by decide) (by decide) h4 h6) ha
end
end Fx
set_option Elab.async false
set_option linter.all false
set_option autoImplicit false
set_option maxRecDepth 100000
set_option maxHeartbeats 4000000
/-! FxL: what the checker lets through is read by the evaluator. -/
namespace Fx
open PySem PySem.Spec PyProof.Rows L2

/-! ### isinstance with one built-in type -/
def kindN : Nat → String
  | 0 => "NoneType"
  | 1 => "bool"
  | 2 => "int"
  | 3 => "str"
  | 4 => "tuple"
  | _ => "list"
theorem kit_kind : ∀ k, k < 6 → ∀ c : Ty, kitB (kindN k) (tyN c) = some (isTy k c) := by
  intro k hk c
  have h : k = 0 ∨ k = 1 ∨ k = 2 ∨ k = 3 ∨ k = 4 ∨ k = 5 := by omega
  rcases h with rfl | rfl | rfl | rfl | rfl | rfl <;> cases c <;> decide +kernel
section
variable {X : Cx} {N : Nm} {T : Tab} {G : Glob} {cl : Orac} {W : WX} {S : Sc} {xc : Xc}
theorem kind_is {H : Hp} {mu : Nat → Addr} {S : Store} {d : D} {x : V} {k : Nat} (rs : RS N X.K H mu S) (r : relD X.K H mu S d x) (h : kindD S d = some k) : k < 6 ∧ TyX X.K H x (.type (kindN k)) := by
  cases d with
  | non => cases h; rw [show x = V.non from r.1]; exact ⟨by decide, .base .non⟩
  | bl b => cases h; rw [show x = V.bl b from r.1]; exact ⟨by decide, .base (.bl b)⟩
  | int b => cases h; rw [show x = V.int b from r.1]; exact ⟨by decide, .base (.int b)⟩
  | str b => cases h; rw [show x = V.str (strOf b) from r.1]; exact ⟨by decide, .base (.str _)⟩
  | tup xs =>
    cases h
    obtain ⟨a, vs, e, q, _⟩ := r.1
    subst e
    refine ⟨by decide, ?_⟩
    rcases q with (q | ⟨o, q⟩) | ⟨o, its, n, q1, q2, _⟩
    · exact .base (.tup q)
    · exact .fTuple q
    · exact .kTuple q1 q2
  | ref n =>
    have h : (match lstOf S n with
      | some _ => some 5
      | none => none) = some k := h
    cases e : lstOf S n with
    | none => rw [e] at h; cases h
    | some xs =>
      rw [e] at h
      cases h
      obtain ⟨vs, q, _⟩ := rs.lst e
      rw [show x = V.ref (mu n) from r.1]
      refine ⟨by decide, ?_⟩
      rcases q with (q | ⟨o, q⟩) | ⟨o, its, n, q1, q2, _⟩
      · exact .base (.lst q)
      · exact .base (.frz q)
      · exact .kList q1 q2
theorem boot_ty (c : Ty) : bootBuiltins (tyS c) = some (.type (tyN c)) := by cases c <;> decide +kernel
theorem tyS_ok (c : Ty) : tyS c ≠ "__name__" ∧ (tyS c == ("__debug__" : Str)) = false := by cases c <;> exact ⟨by decide, by decide⟩
theorem s_isi {o : Expr} {c : Ty} {p p2 pos : Pos} {fa : Env → Store → R D} (hm : X.mg "isinstance" = none) (hg : Gl X "isinstance") (hmt : X.mg (tyS c) = none) (hgt : Gl X (tyS c)) (ho : PE X o (tE N X.K W fa)) (hs : notStar o = true) :
    PE X (.Call (.Name "isinstance" p) [o, .Name (tyS c) p2] [] pos) (tE N X.K W fun ρ S => (fa ρ S).bind fun x S1 => optR ((kindD S1 x).map fun k => .bl (isTy k c)) S1) := by
  have hst : noStar [o, .Name (tyS c) p2] = true := by
    cases o <;> first | rfl | (cases hs)
  obtain ⟨h4, h5⟩ := noStar_cons hst X.env
  have hty : PE X (.Name (tyS c) p2) (tC (.ty (tyN c))) := pe_bltn hgt hmt (boot_ty c) rfl (tyS_ok c).1 (tyS_ok c).2
  refine peI (pe_callB call_isi hg hm (by decide +kernel) (pa_cons ho (pa_cons hty pa_nil rfl) h4) (by decide) (by decide) h4 (noStar_any pos X.env h5).1) fun σ H Q h => ?_
  obtain ⟨mu, ρ, S, re, rs, p⟩ := h
  refine ⟨mu, ρ, S, re, rs, (Post.bind (rel' := relD X.K) p).imp ?_⟩
  rintro x H1 ⟨mu1, S1, d1, r1, g1, p1⟩
  cases e : kindD S1 d1 with
  | none => rw [e] at p1; exact (show False from p1).elim
  | some k =>
    rw [e] at p1
    obtain ⟨hk, ty⟩ := kind_is g1.rs r1 e
    exact ⟨x, .ty (tyN c), _, _, _, rfl, .ty _, ty, kit_ty (kit_kind k hk c), Post.now (rel := relD X.K) g1.rs p1 ⟨rfl, rfl⟩⟩

/-! ### the theorem -/
theorem band {a b : Bool} (h : (a && b) = true) : a = true ∧ b = true := by rwa [Bool.and_eq_true] at h
theorem mixed {e : Expr} {f : PV} (hv : PE X e (tE N X.K W f.v)) (ht : f.t = tstOf f.v) (he : ∀ whole, isTrue e X.env whole = (do let v ← whole; standAt e.pos; holding [v] (truthy v))) : PE X e (tE N X.K W f.v) ∧ PT X e (tT N X.K W f.t) := by
  refine ⟨hv, ?_⟩
  rw [ht]
  exact s_tst hv he
theorem ownOf_snd (N : List Str) (own : List Nat) : (ownOf N own).map (·.2) = own := by
  unfold ownOf
  rw [List.map_map]
  exact List.map_id' own
theorem plainIx {e : Expr} (h : notSlice e = true) : PlainIx e := by
  intro o i
  cases e <;> first | rfl | (cases h)
theorem plainBase {o : Expr} {nm : Str} {env : PySem.Env} (h : notCall o = true) : attributeBase o nm env (eval o env) = eval o env := by
  cases o <;> first | rfl | (cases h)
theorem plainSet {e : Expr} {env : PySem.Env} (h : notSet e = true) : ∀ x, foldedSetIterable e env x = pure x := by
  intro x
  cases e <;> first | rfl | (cases h)
/-- what is said of a list of expressions -/
structure EsOk (X : Cx) (N : Nm) (W : WX) (f : PVs) (l : List Expr) : Prop where
  st : noStar l = true
  vs : PA X l (tA N X.K W f.vs)
  an : l ≠ [] → ∀ pos, PE X (.BoolOp .And l pos) (tE N X.K W f.andV) ∧ PW X (.BoolOp .And l pos) (tT N X.K W f.andT)
  or : l ≠ [] → ∀ pos, PE X (.BoolOp .Or l pos) (tE N X.K W f.orV) ∧ PW X (.BoolOp .Or l pos) (tT N X.K W f.orT)
  ts : l.length ≤ 1 → PTs X l (tT N X.K W f.ts)
theorem ptsI {e : List Expr} {t t' : TT} (h : PTs X e t) (hi : ∀ σ H Q, t' σ H Q → t σ H Q) : PTs X e t' := .mk fun pn s σ H Q I q => h.run pn s σ H Q I (hi _ _ _ q)
theorem noStar_mk {e : Expr} {es : List Expr} (h : notStar e = true) (h2 : noStar es = true) : noStar (e :: es) = true := by
  cases e <;> first | exact h2 | (cases h)
mutual
theorem ckE_ok : ∀ (f : FE) (S : Sc) (e : Expr) {X : Cx} {W : WX} {xc : Xc}, Kx X N T G cl W S xc → ckE T S f e = true → PE X e (tE N X.K W (ev G cl xc f).v) ∧ PT X e (tT N X.K W (ev G cl xc f).t)
  | .loc i, S, e, X, W, xc, k, h => by
    cases e with
    | Name x p =>
      obtain ⟨h, h3⟩ := band h
      obtain ⟨h1, h2⟩ := band h
      exact mixed (f := ev G cl xc (.loc i)) (s_loc (by rw [k.nm]; exact of_decide_eq_true h1) (vis_is k h2) (safe_is h3).1 (safe_is h3).2) rfl fun _ => rfl
    | _ => cases h
  | .con c, S, e, X, W, xc, k, h => by
    cases e with
    | Constant q j p => exact mixed (f := ev G cl xc (.con c)) (con_is h) rfl fun _ => rfl
    | _ => cases h
  | .glo n, S, e, X, W, xc, k, h => by
    cases e with
    | Name x p =>
      obtain ⟨h, h3⟩ := band h
      obtain ⟨h1, h2⟩ := band h
      obtain ⟨d, v, u, e1, e2, e3, e4, e5⟩ := k.con n x (of_decide_eq_true h1)
      refine mixed (f := ev G cl xc (.glo n)) ?_ rfl fun _ => rfl
      show PE X _ (tE N X.K W fun _ S => optR G.consts[n]? S)
      rw [e1]
      exact s_con (pe_glob (gl_is k h2) e2 e3 (safe_is h3).1) e4 e5
    | _ => cases h
  | .bin op a b, S, e, X, W, xc, k, h => by
    cases e with
    | BinOp a' op' b' p =>
      obtain ⟨h, h3⟩ := band h
      obtain ⟨h1, h2⟩ := band h
      obtain rfl : op = op' := of_decide_eq_true h1
      exact mixed (f := ev G cl xc (.bin op a b)) (s_bin (opF op) (ckE_ok a S a' k h2).1 (ckE_ok b S b' k h3).1) rfl fun _ => rfl
    | _ => cases h
  | .neg a, S, e, X, W, xc, k, h => by
    cases e with
    | UnaryOp op a' p =>
      cases op with
      | USub => exact mixed (f := ev G cl xc (.neg a)) (s_neg (ckE_ok a S a' k h).1) rfl fun _ => rfl
      | _ => cases h
    | _ => cases h
  | .not a, S, e, X, W, xc, k, h => by
    cases e with
    | UnaryOp op a' p =>
      cases op with
      | Not => exact ⟨s_not (ckE_ok a S a' k h).1, s_notT (ckE_ok a S a' k h).2⟩
      | _ => cases h
    | _ => cases h
  | .and es, S, e, X, W, xc, k, h => by
    cases e with
    | BoolOp op l p =>
      cases op with
      | And =>
        obtain ⟨h1, h2⟩ := band h
        have ne : l ≠ [] := by rintro rfl; cases h2
        obtain ⟨q1, q2⟩ := (ckEs_ok es S l k h1).an ne p
        exact ⟨q1, q2.pt⟩
      | _ => cases h
    | _ => cases h
  | .or es, S, e, X, W, xc, k, h => by
    cases e with
    | BoolOp op l p =>
      cases op with
      | Or =>
        obtain ⟨h1, h2⟩ := band h
        have ne : l ≠ [] := by rintro rfl; cases h2
        obtain ⟨q1, q2⟩ := (ckEs_ok es S l k h1).or ne p
        exact ⟨q1, q2.pt⟩
      | _ => cases h
    | _ => cases h
  | .cmp op a b, S, e, X, W, xc, k, h => by
    cases e with
    | Compare a' ops bs p =>
      rcases ops with _ | ⟨op', _ | ⟨_, _⟩⟩ <;> first | (cases h; done) | skip
      rcases bs with _ | ⟨b', _ | ⟨_, _⟩⟩ <;> first | (cases h; done) | skip
      obtain ⟨h, h4⟩ := band h
      obtain ⟨h, h3⟩ := band h
      obtain ⟨h1, h2⟩ := band h
      obtain rfl : op = op' := of_decide_eq_true h1
      have hm : behindInMarks op b' = false := by simpa using h4
      exact ⟨s_cmp (r2B_of (opB k.hu op)) (ckE_ok a S a' k h2).1 (ckE_ok b S b' k h3).1 hm, s_cmpT (r2B_of (opB k.hu op)) (ckE_ok a S a' k h2).1 (ckE_ok b S b' k h3).1 hm⟩
    | _ => cases h
  | .chain op1 op2 a b c, S, e, X, W, xc, k, h => by
    cases e with
    | Compare a' ops bs p =>
      rcases ops with _ | ⟨op1', _ | ⟨op2', _ | ⟨_, _⟩⟩⟩ <;> first | (cases h; done) | skip
      rcases bs with _ | ⟨b', _ | ⟨c', _ | ⟨_, _⟩⟩⟩ <;> first | (cases h; done) | skip
      obtain ⟨h, h6⟩ := band h
      obtain ⟨h, h5⟩ := band h
      obtain ⟨h, h4⟩ := band h
      obtain ⟨h, h3⟩ := band h
      obtain ⟨h1, h2⟩ := band h
      obtain rfl : op1 = op1' := of_decide_eq_true h1
      obtain rfl : op2 = op2' := of_decide_eq_true h2
      have hm : lastMarks [op1, op2] [b', c'] = false := by simpa using h6
      exact ⟨s_chain (opB k.hu op1) (opB k.hu op2) (ckE_ok a S a' k h3).1 (ckE_ok b S b' k h4).1 (ckE_ok c S c' k h5).1 hm, s_chainT (opB k.hu op1) (opB k.hu op2) (ckE_ok a S a' k h3).1 (ckE_ok b S b' k h4).1 (ckE_ok c S c' k h5).1 hm⟩
    | _ => cases h
  | .ite c a b, S, e, X, W, xc, k, h => by
    cases e with
    | IfExp c' a' b' p =>
      obtain ⟨h, h3⟩ := band h
      obtain ⟨h1, h2⟩ := band h
      have qc := ckE_ok c S c' k h1
      have qa := ckE_ok a S a' k h2
      have qb := ckE_ok b S b' k h3
      exact ⟨s_ite qc.2 qa.1 qb.1, s_iteT qc.2 qa.2 qb.2⟩
    | _ => cases h
  | .tup es, S, e, X, W, xc, k, h => by
    cases e with
    | Tuple l j p => exact mixed (f := ev G cl xc (.tup es)) (s_tup (ckEs_ok es S l k h).vs) rfl fun _ => rfl
    | _ => cases h
  | .lst es, S, e, X, W, xc, k, h => by
    cases e with
    | List l p => exact mixed (f := ev G cl xc (.lst es)) (s_lst (ckEs_ok es S l k h).vs) rfl fun _ => rfl
    | _ => cases h
  | .blt b es, S, e, X, W, xc, k, h => by
    cases e with
    | Call f l kw p =>
      cases f with
      | Name x p2 =>
        rcases l with _ | ⟨a', l⟩ <;> first | (cases h; done) | skip
        rcases kw with _ | ⟨_, _⟩ <;> first | (cases h; done) | skip
        obtain ⟨h, h4⟩ := band h
        obtain ⟨h, h3⟩ := band h
        obtain ⟨h1, h2⟩ := band h
        obtain rfl : x = bltS b := of_decide_eq_true h1
        have q := ckEs_ok es S (a' :: l) k h3
        exact mixed (f := ev G cl xc (.blt b es)) (s_blt k.hu (k.blt _ (by cases b <;> simp [bltS])) (gl_is k h2) (fun hc => k.calm (by rw [hc] at h4; simpa using h4)) q.vs q.st) rfl fun _ => rfl
      | _ => cases h
    | _ => cases h
  | .mth m o es, S, e, X, W, xc, k, h => by
    cases e with
    | Call f l kw p =>
      cases f with
      | Attribute o' nm ap =>
        rcases kw with _ | ⟨_, _⟩ <;> first | (cases h; done) | skip
        obtain ⟨h, h6⟩ := band h
        obtain ⟨h, h5⟩ := band h
        obtain ⟨h, h4⟩ := band h
        obtain ⟨h, h3⟩ := band h
        obtain ⟨h1, h2⟩ := band h
        obtain rfl : nm = mthN m := of_decide_eq_true h1
        have qo := (ckE_ok o S o' k h3).1
        have qe := ckEs_ok es S l k h4
        rcases l with _ | ⟨a', l⟩
        · cases es with
          | nil => exact mixed (f := ev G cl xc (.mth m o .nil)) (s_mth0 k.hu qo (plainBase h2) h6) rfl fun _ => rfl
          | cons _ _ => cases h4
        · exact mixed (f := ev G cl xc (.mth m o es)) (s_mth k.hu qo qe.vs (plainBase h2) qe.st (of_decide_eq_true h5) h6) rfl fun _ => rfl
      | _ => cases h
    | _ => cases h
  | .call f es, S, e, X, W, xc, k, h => by
    cases e with
    | Call f' l kw p =>
      cases f' with
      | Name x p2 =>
        rcases l with _ | ⟨a', l⟩ <;> first | (cases h; done) | skip
        rcases kw with _ | ⟨_, _⟩ <;> first | (cases h; done) | skip
        obtain ⟨h, h5⟩ := band h
        obtain ⟨h, h4⟩ := band h
        obtain ⟨h, h3⟩ := band h
        obtain ⟨h1, h2⟩ := band h
        have hh : S.hot = false := by simpa using h5
        obtain ⟨fa, fd, ps, lvl, F⟩ := k.own hh f x (of_decide_eq_true h1)
        have q := ckEs_ok es S (a' :: l) k h4
        exact mixed (f := ev G cl xc (.call f es)) (s_own F (gl_is k h2) (k.tk hh) q.vs q.st (safe_is h3).1) rfl fun _ => rfl
      | _ => cases h
    | _ => cases h
  | .fld o f, S, e, X, W, xc, k, h => by
    cases e with
    | Attribute o' nm p =>
      obtain ⟨h, h3⟩ := band h
      obtain ⟨h1, h2⟩ := band h
      have hf := of_decide_eq_true h2
      exact mixed (f := ev G cl xc (.fld o f)) (s_fld (G := G) (by rw [← k.tf]; exact hf) (fun C l hl => k.cls C l f nm hl hf) (plainBase h3) (ckE_ok o S o' k h1).1) rfl fun _ => rfl
    | _ => cases h
  | .srtSet a, S, e, X, W, xc, k, h => by
    cases e with
    | Call f l kw p =>
      cases f with
      | Name x p2 =>
        rcases l with _ | ⟨c, l⟩ <;> first | (cases h; done) | skip
        cases c with
        | Call f2 l2 kw2 p3 =>
          cases f2 with
          | Name y p4 =>
            rcases l with _ | ⟨_, _⟩ <;> first | (cases h; done) | (rcases l2 with _ | ⟨_, _ | ⟨_, _⟩⟩ <;> cases kw2 <;> cases kw <;> cases h; done) | skip
            rcases kw with _ | ⟨_, _⟩ <;> first | (cases h; done) | (rcases l2 with _ | ⟨_, _ | ⟨_, _⟩⟩ <;> cases kw2 <;> cases h; done) | skip
            rcases l2 with _ | ⟨a', _ | ⟨_, _⟩⟩ <;> first | (cases h; done) | skip
            rcases kw2 with _ | ⟨_, _⟩ <;> first | (cases h; done) | skip
            obtain ⟨h, h7⟩ := band h
            obtain ⟨h, h6⟩ := band h
            obtain ⟨h, h5⟩ := band h
            obtain ⟨h, h4⟩ := band h
            obtain ⟨h, h3⟩ := band h
            obtain ⟨h1, h2⟩ := band h
            obtain rfl : x = ("sorted" : Str) := of_decide_eq_true h1
            obtain rfl : y = ("set" : Str) := of_decide_eq_true h3
            exact mixed (f := ev G cl xc (.srtSet a)) (s_srtSet (k.calm (by simpa using h7)) k.hu (gl_is k h2) (k.blt _ (by simp)) (gl_is k h4) (k.blt _ (by simp)) (ckE_ok a S a' k h5).1 (noStar_mk h6 rfl)) rfl fun _ => rfl
          | _ => rcases l with _ | ⟨_, _⟩ <;> cases kw <;> cases h
        | _ => rcases l with _ | ⟨_, _⟩ <;> cases kw <;> cases h
      | _ => cases h
    | _ => cases h
  | .mk C f es, S, e, X, W, xc, k, h => by
    cases e with
    | Call f' l kw p =>
      cases f' with
      | Name x p2 =>
        rcases l with _ | ⟨a', l⟩ <;> first | (cases h; done) | skip
        rcases kw with _ | ⟨_, _⟩ <;> first | (cases h; done) | skip
        obtain ⟨h, h5⟩ := band h
        obtain ⟨h, h4⟩ := band h
        obtain ⟨h, h3⟩ := band h
        obtain ⟨h1, h2⟩ := band h
        have hh : S.hot = false := by simpa using h5
        obtain ⟨fa, fd, ps, lvl, F⟩ := k.mko hh C x f (of_decide_eq_true h1)
        have q := ckEs_ok es S (a' :: l) k h4
        exact mixed (f := ev G cl xc (.mk C f es)) (s_mk (G := G) F (gl_is k h2) (k.tk hh) q.vs q.st (safe_is h3).1) rfl fun _ => rfl
      | _ => cases h
    | _ => cases h
  | .ccon n, S, e, X, W, xc, k, h => by
    cases e with
    | Attribute o nm p =>
      cases o with
      | Name x p2 =>
        obtain ⟨h, h3⟩ := band h
        obtain ⟨h1, h2⟩ := band h
        obtain ⟨C, mc, d, v, u, e1, e2, e3, e4, e5, e6⟩ := k.ccn n x nm (of_decide_eq_true h1)
        refine mixed (f := ev G cl xc (.ccon n)) ?_ rfl fun _ => rfl
        show PE X _ (tE N X.K W fun _ S => optR G.ccons[n]? S)
        rw [e1]
        exact s_ccon (gl_is k h2) e2 (by rw [(safe_is h3).1]; rfl) e3 e4 e5 e6
      | _ => cases h
    | _ => cases h
  | .xfld i f, S, e, X, W, xc, k, h => by
    cases e with
    | Attribute o nm p =>
      cases o with
      | Name x p2 =>
        obtain ⟨h, h5⟩ := band h
        obtain ⟨h, h4⟩ := band h
        obtain ⟨h, h3⟩ := band h
        obtain ⟨h1, h2⟩ := band h
        exact mixed (f := ev G cl xc (.xfld i f)) (k.xf i x f nm p2 p (of_decide_eq_true h1) (of_decide_eq_true h2) h3 h4 (of_decide_eq_true h5)) rfl fun _ => rfl
      | _ => cases h
    | _ => cases h
  | .idx o i, S, e, X, W, xc, k, h => by
    cases e with
    | Subscript o' i' p =>
      obtain ⟨h, h3⟩ := band h
      obtain ⟨h1, h2⟩ := band h
      exact mixed (f := ev G cl xc (.idx o i)) (s_ix ixF (ckE_ok o S o' k h1).1 (ckE_ok i S i' k h2).1 (plainIx h3)) rfl fun _ => rfl
    | _ => cases h
  | .cut o lo hi, S, e, X, W, xc, k, h => by
    cases e with
    | Subscript o' i' p =>
      cases i' with
      | Slice lo' hi' st p2 =>
        rcases lo' with _ | lo' <;> first | (cases h; done) | skip
        rcases hi' with _ | hi' <;> first | (cases h; done) | skip
        rcases st with _ | st <;> first | (cases h; done) | skip
        obtain ⟨h, h3⟩ := band h
        obtain ⟨h1, h2⟩ := band h
        exact mixed (f := ev G cl xc (.cut o lo hi)) (s_slice (ckE_ok o S o' k h1).1 (s_part (ckE_ok lo S lo' k h2).1) (s_part (ckE_ok hi S hi' k h3).1)) rfl fun _ => rfl
      | _ => cases h
    | _ => cases h
  | .cutL o lo, S, e, X, W, xc, k, h => by
    cases e with
    | Subscript o' i' p =>
      cases i' with
      | Slice lo' hi' st p2 =>
        rcases lo' with _ | lo' <;> first | (cases h; done) | skip
        rcases hi' with _ | hi' <;> first | (cases h; done) | skip
        rcases st with _ | st <;> first | (cases h; done) | skip
        obtain ⟨h1, h2⟩ := band h
        exact mixed (f := ev G cl xc (.cutL o lo)) (s_slice (ckE_ok o S o' k h1).1 (s_part (ckE_ok lo S lo' k h2).1) s_noPart) rfl fun _ => rfl
      | _ => cases h
    | _ => cases h
  | .cutH o hi, S, e, X, W, xc, k, h => by
    cases e with
    | Subscript o' i' p =>
      cases i' with
      | Slice lo' hi' st p2 =>
        rcases lo' with _ | lo' <;> first | (cases h; done) | skip
        rcases hi' with _ | hi' <;> first | (cases h; done) | skip
        rcases st with _ | st <;> first | (cases h; done) | skip
        obtain ⟨h1, h2⟩ := band h
        exact mixed (f := ev G cl xc (.cutH o hi)) (s_slice (ckE_ok o S o' k h1).1 s_noPart (s_part (ckE_ok hi S hi' k h2).1)) rfl fun _ => rfl
      | _ => cases h
    | _ => cases h
  | .isi o c, S, e, X, W, xc, k, h => by
    cases e with
    | Call f l kw p =>
      cases f with
      | Name x p2 =>
        rcases l with _ | ⟨o', _ | ⟨t', _ | ⟨_, _⟩⟩⟩ <;> first | (cases h; done) | (cases t' <;> cases h; done) | skip
        cases t' with
        | Name t p3 =>
          rcases kw with _ | ⟨_, _⟩ <;> first | (cases h; done) | skip
          obtain ⟨h, h6⟩ := band h
          obtain ⟨h, h5⟩ := band h
          obtain ⟨h, h4⟩ := band h
          obtain ⟨h, h3⟩ := band h
          obtain ⟨h1, h2⟩ := band h
          obtain rfl : x = ("isinstance" : Str) := of_decide_eq_true h1
          obtain rfl : t = tyS c := of_decide_eq_true h3
          exact mixed (f := ev G cl xc (.isi o c)) (s_isi (k.blt _ (by simp)) (gl_is k h2) (k.blt _ (by cases c <;> simp [tyS])) (gl_is k h4) (ckE_ok o S o' k h5).1 h6) rfl fun _ => rfl
        | _ => cases h
      | _ => cases h
    | _ => cases h
  | .xisi i cs, S, e, X, W, xc, k, h => by
    cases e with
    | Call f l kw p =>
      cases f with
      | Name x p2 =>
        rcases l with _ | ⟨o', l⟩ <;> first | (cases h; done) | skip
        cases o' with
        | Name y p3 =>
          rcases l with _ | ⟨t', _ | ⟨_, _⟩⟩ <;> first | (cases h; done) | (cases t' <;> cases h; done) | skip
          cases t' with
          | Tuple tl tj p4 =>
            rcases kw with _ | ⟨_, _⟩ <;> first | (cases h; done) | skip
            obtain ⟨h, h6⟩ := band h
            obtain ⟨h, h5⟩ := band h
            obtain ⟨h, h3⟩ := band h
            obtain ⟨h1, h2⟩ := band h
            obtain rfl : x = ("isinstance" : Str) := of_decide_eq_true h1
            obtain ⟨h3, h33⟩ := band h3
            obtain ⟨h3, h32⟩ := band h3
            obtain ⟨h3, h31⟩ := band h3
            exact mixed (f := ev G cl xc (.xisi i cs)) (k.xt i y cs tl tj p2 p3 p4 p (of_decide_eq_true h3) (of_decide_eq_true h31) h32 h33 h5 (of_decide_eq_true h6) (gl_is k h2)) rfl fun _ => rfl
          | Name t p4 =>
            rcases kw with _ | ⟨_, _⟩ <;> first | (cases h; done) | skip
            obtain ⟨h, h5⟩ := band h
            obtain ⟨h, h4⟩ := band h
            obtain ⟨h, h3⟩ := band h
            obtain ⟨h1, h2⟩ := band h
            rcases cs with _ | ⟨c, _ | ⟨_, _⟩⟩ <;> first | (cases h5; done) | skip
            obtain rfl : x = ("isinstance" : Str) := of_decide_eq_true h1
            obtain ⟨h3, h33⟩ := band h3
            obtain ⟨h3, h32⟩ := band h3
            obtain ⟨h3, h31⟩ := band h3
            exact mixed (f := ev G cl xc (.xisi i [c])) (k.xi i y c t p2 p3 p4 p (of_decide_eq_true h3) (of_decide_eq_true h31) h32 h33 (of_decide_eq_true h5) h4 (gl_is k h2)) rfl fun _ => rfl
          | _ => cases h
        | _ => cases h
      | _ => cases h
    | _ => cases h
  | .lc own tg src cs elt, S, e, X, W, xc, k, h => by
    cases e with
    | ListComp elt' gs scope p =>
      rcases gs with _ | ⟨⟨tg', iter, ifs, j⟩, _ | ⟨_, _⟩⟩ <;> first | (cases h; done) | skip
      obtain ⟨h, ha⟩ := band h
      obtain ⟨h, h9⟩ := band h
      obtain ⟨h, h8⟩ := band h
      obtain ⟨h, h7⟩ := band h
      obtain ⟨h, h6⟩ := band h
      obtain ⟨h, h5⟩ := band h
      obtain ⟨h, h4⟩ := band h
      obtain ⟨h, h3⟩ := band h
      obtain ⟨h1, h2⟩ := band h
      have hh : S.hot = false := by simpa using h1
      obtain rfl : j = 0 := of_decide_eq_true h2
      have bk : BlkOk X.N X.env.scope scope (ownOf S.nm own) := by
        rw [k.nm, k.sc]
        exact blkOk_by h3
      have ho := ownOf_snd S.nm own
      refine mixed (f := ev G cl xc (.lc own tg src cs elt)) ?_ rfl fun _ => rfl
      have q := s_lc (pos := p) (W := W) (k.nox hh).1 (k.calm hh) (by rw [k.nm]; exact k.nd) (ckI_ok src S iter tg' k h6) bk (by rw [ho]; intro i hi; exact of_decide_eq_true (List.all_eq_true.mp h4 i hi))
        (fun s H C cl' fp => pg_is (k.blk hh s H scope C cl' fp) h5) (fun s H C cl' fp => (ckEs_ok cs (inS S scope) ifs (k.blk hh s H scope C cl' fp) h8).ts (of_decide_eq_true h9))
        (fun s H C cl' fp => (ckE_ok elt (inS S scope) elt' (k.blk hh s H scope C cl' fp) ha).1) (plainSet h7)
      rw [ho] at q
      exact q
    | _ => cases h
theorem ckEs_ok : ∀ (fs : FEs) (S : Sc) (l : List Expr) {X : Cx} {W : WX} {xc : Xc}, Kx X N T G cl W S xc → ckEs T S fs l = true → EsOk X N W (evs G cl xc fs) l
  | .nil, S, l, X, W, xc, k, h => by
    cases l with
    | nil => exact ⟨rfl, s_nil, fun z => absurd rfl z, fun z => absurd rfl z, fun _ => ptsI pts_nil fun σ H Q ⟨mu, ρ, S, re, rs, p⟩ => Post.now (rel := relB X.K) rs p rfl⟩
    | cons _ _ => cases h
  | .cons f fs, S, l, X, W, xc, k, h => by
    cases l with
    | nil => cases h
    | cons e es =>
      obtain ⟨h, h3⟩ := band h
      obtain ⟨h1, h2⟩ := band h
      have q1 := ckE_ok f S e k h2
      have q2 := ckEs_ok fs S es k h3
      have st := noStar_mk h1 q2.st
      refine ⟨st, s_cons q1.1 q2.vs (noStar_cons st X.env).1, fun _ pos => ?_, fun _ pos => ?_, fun hl => ?_⟩
      · cases es with
        | nil =>
          cases fs with
          | nil => exact ⟨pe_one q1.1, pw_and1 q1.2⟩
          | cons _ _ => cases h3
        | cons b r =>
          cases fs with
          | nil => cases h3
          | cons _ _ =>
            obtain ⟨g1, g2⟩ := q2.an (by simp) pos
            exact ⟨s_andV q1.1 g1, s_andT q1.2 g2⟩
      · cases es with
        | nil =>
          cases fs with
          | nil => exact ⟨pe_one q1.1, pw_or1 q1.2⟩
          | cons _ _ => cases h3
        | cons b r =>
          cases fs with
          | nil => cases h3
          | cons _ _ =>
            obtain ⟨g1, g2⟩ := q2.or (by simp) pos
            exact ⟨s_orV q1.1 g1, s_orT q1.2 g2⟩
      · cases es with
        | nil =>
          cases fs with
          | nil => exact pts_one q1.2
          | cons _ _ => cases h3
        | cons b r => simp at hl
theorem ckI_ok : ∀ (f : FI) (S : Sc) (e tg : Expr) {X : Cx} {W : WX} {xc : Xc}, Kx X N T G cl W S xc → ckI T S f e tg = true → PI X tg e (iF N X.K W (evi G cl xc f))
  | .seq f, S, e, tg, X, W, xc, k, h => s_seq (ckE_ok f S e k h).1
  | .range1 a, S, e, tg, X, W, xc, k, h => by
    cases e with
    | Call f l kw p =>
      cases f with
      | Name x p2 =>
        rcases l with _ | ⟨a', _ | ⟨_, _⟩⟩ <;> first | (cases h; done) | skip
        rcases kw with _ | ⟨_, _⟩ <;> first | (cases h; done) | skip
        obtain ⟨h, h4⟩ := band h
        obtain ⟨h, h3⟩ := band h
        obtain ⟨h1, h2⟩ := band h
        obtain rfl : x = ("range" : Str) := of_decide_eq_true h1
        exact s_rng1 (gl_is k h2) (k.blt _ (by simp)) (ckE_ok a S a' k h3).1 (noStar_mk h4 rfl)
      | _ => cases h
    | _ => cases h
  | .range2 a b, S, e, tg, X, W, xc, k, h => by
    cases e with
    | Call f l kw p =>
      cases f with
      | Name x p2 =>
        rcases l with _ | ⟨a', _ | ⟨b', _ | ⟨_, _⟩⟩⟩ <;> first | (cases h; done) | skip
        rcases kw with _ | ⟨_, _⟩ <;> first | (cases h; done) | skip
        obtain ⟨h, h6⟩ := band h
        obtain ⟨h, h5⟩ := band h
        obtain ⟨h, h4⟩ := band h
        obtain ⟨h, h3⟩ := band h
        obtain ⟨h1, h2⟩ := band h
        obtain rfl : x = ("range" : Str) := of_decide_eq_true h1
        exact s_rng2 (gl_is k h2) (k.blt _ (by simp)) (ckE_ok a S a' k h3).1 (ckE_ok b S b' k h4).1 (noStar_mk h5 (noStar_mk h6 rfl))
      | _ => cases h
    | _ => cases h
  | .enum a, S, e, tg, X, W, xc, k, h => by
    cases e with
    | Call f l kw p =>
      cases f with
      | Name x p2 =>
        rcases l with _ | ⟨a', _ | ⟨_, _⟩⟩ <;> first | (cases h; done) | skip
        rcases kw with _ | ⟨_, _⟩ <;> first | (cases h; done) | skip
        cases tg with
        | Tuple es j p3 =>
          obtain ⟨h, h4⟩ := band h
          obtain ⟨h, h3⟩ := band h
          obtain ⟨h1, h2⟩ := band h
          obtain rfl : x = ("enumerate" : Str) := of_decide_eq_true h1
          exact s_enum (gl_is k h2) (k.blt _ (by simp)) (ckE_ok a S a' k h3).1 (noStar_mk h4 rfl)
        | _ => cases h
      | _ => cases h
    | _ => cases h
  | .rev a, S, e, tg, X, W, xc, k, h => by
    cases e with
    | Call f l kw p =>
      cases f with
      | Name x p2 =>
        rcases l with _ | ⟨a', _ | ⟨_, _⟩⟩ <;> first | (cases h; done) | skip
        rcases kw with _ | ⟨_, _⟩ <;> first | (cases h; done) | skip
        obtain ⟨h, h4⟩ := band h
        obtain ⟨h, h3⟩ := band h
        obtain ⟨h1, h2⟩ := band h
        obtain rfl : x = ("reversed" : Str) := of_decide_eq_true h1
        exact s_rev (gl_is k h2) (k.blt _ (by simp)) (ckE_ok a S a' k h3).1 (noStar_mk h4 rfl)
      | _ => cases h
    | _ => cases h
end
end
end Fx
set_option Elab.async false
set_option linter.all false
set_option autoImplicit false
set_option maxRecDepth 100000
set_option maxHeartbeats 4000000
/-! FxM: statements. -/
namespace Fx
open PySem PySem.Spec PyProof.Rows L2

section
variable {N : Nm} {K : PySem.W.Frag} {W : WX} {H H1 : Hp} {mu mu1 : Nat → Addr} {S S1 : Store} {D D' : Ends}
/-- what is wanted behind a statement's result -/
def PostS (N : Nm) (K : PySem.W.Frag) (W : WX) (H : Hp) (mu : Nat → Addr) (S : Store) (r : SR) (D : Ends) : Prop := match r with
  | .nx ρ' S' => ∀ (σ' : L2.St) (H' : Hp) (mu' : Nat → Addr), Gw N K H mu S H' mu' S' → RE N K H' mu' S' ρ' σ' → D.nx σ' H'
  | .ret d S' => ∀ (v : V) (H' : Hp) (mu' : Nat → Addr), Gw N K H mu S H' mu' S' → relD K H' mu' S' d v → D.rt v H'
  | .brk ρ' S' => ∀ (σ' : L2.St) (H' : Hp) (mu' : Nat → Addr), Gw N K H mu S H' mu' S' → RE N K H' mu' S' ρ' σ' → D.bk σ' H'
  | .cnt ρ' S' => ∀ (σ' : L2.St) (H' : Hp) (mu' : Nat → Addr), Gw N K H mu S H' mu' S' → RE N K H' mu' S' ρ' σ' → D.ct σ' H'
  | .exn C fs ρ' S' => ∀ (dd : Addr) (gs : List (Str × V)) (σ' : L2.St) (H' : Hp) (mu' : Nat → Addr), Gw N K H mu S H' mu' S' → RE N K H' mu' S' ρ' σ' → H' dd = some (.xd gs) → RF N K H' mu' fs gs → Fx.D.wfs S'.length (fs.map (·.2)) = true → W (.ref (N.cad C)) (some dd) σ' H'
  | .stuck => False
theorem PostS.after {r : SR} (p : PostS N K W H mu S r D) (g : Gw N K H mu S H1 mu1 S1) : PostS N K W H1 mu1 S1 r D := by
  cases r with
  | nx ρ' S' => exact fun σ' H' mu' g' e => p σ' H' mu' (g.trans g') e
  | ret d S' => exact fun v H' mu' g' e => p v H' mu' (g.trans g') e
  | brk ρ' S' => exact fun σ' H' mu' g' e => p σ' H' mu' (g.trans g') e
  | cnt ρ' S' => exact fun σ' H' mu' g' e => p σ' H' mu' (g.trans g') e
  | exn C fs ρ' S' => exact fun dd gs σ' H' mu' g' e q1 q2 q3 => p dd gs σ' H' mu' (g.trans g') e q1 q2 q3
  | stuck => exact p
variable {α β : Type} {rel : Hp → (Nat → Addr) → Store → α → β → Prop} {ρ : Env} {σ : L2.St}
theorem toS_post {r : R α} {f : α → Store → SR} (re : RE N K H mu S ρ σ) (rs : RS N K H mu S) (p : PostS N K W H mu S (r.toS ρ f) D) :
    Post N K H mu S rel r (fun b H1 => ∃ mu1 S1 a, rel H1 mu1 S1 a b ∧ Gw N K H mu S H1 mu1 S1 ∧ PostS N K W H1 mu1 S1 (f a S1) D) (XW W σ) := by
  cases r with
  | ok a S1 => exact fun b H1 mu1 g q => ⟨mu1, S1, a, q, g, PostS.after p g⟩
  | exn C fs S1 => exact fun dd gs H' mu' g q1 q2 q3 => p dd gs σ H' mu' g (re.gw rs g) q1 q2 q3
  | stuck => exact p
/-- a statement's reading by the evaluator -/
def tS (N : Nm) (K : PySem.W.Frag) (W : WX) (f : Env → Store → SR) : TS := fun D σ H => ∃ mu ρ S, RE N K H mu S ρ σ ∧ RS N K H mu S ∧ PostS N K W H mu S (f ρ S) D
theorem PostS.seq {r : SR} {f : Env → Store → SR} (p : PostS N K W H mu S (r.bind f) D) : PostS N K W H mu S r { D with nx := tS N K W f D } := by
  cases r with
  | nx ρ' S' => exact fun σ' H' mu' g e => ⟨mu', ρ', S', e, g.rs, PostS.after (show PostS N K W H mu S (f ρ' S') D from p) g⟩
  | ret d S' => exact p
  | brk ρ' S' => exact p
  | cnt ρ' S' => exact p
  | exn C fs ρ' S' => exact p
  | stuck => exact p
end

section
variable {X : Cx} {N : Nm} {W : WX} {e : Expr} {f : Env → Store → R D} {pos : Pos}
theorem s_expr (he : PE X e (tE N X.K W f)) (hs : swapsWith e none pos.line X.env = pure false) : PS X (.Expr e pos) (tS N X.K W fun ρ S => (tidy S (f ρ S)).toS ρ fun _ S1 => .nx ρ S1) := by
  refine psI (ps_expr he hs) fun D σ H h => ?_
  obtain ⟨mu, ρ, S, re, rs, p⟩ := h
  refine ⟨mu, ρ, S, re, rs, Post.tidy rs ((toS_post (rel := relD X.K) re rs p).imp ?_)⟩
  rintro x H1 ⟨mu1, S1, d, r1, g, p1⟩
  exact p1 σ H1 mu1 (Gw.refl g.rs) (re.gw rs g)
theorem asg_rd {i : Nat} {D : Ends} {σ : L2.St} {H : Hp} (h : tS N X.K W (fun ρ S => (tidy S (f ρ S)).toS ρ fun d S1 => (match asgN ρ i d with
    | some ρ' => .nx ρ' S1
    | none => .stuck)) D σ H) : tAsg (tE N X.K W f) (gName i) D σ H := by
  obtain ⟨mu, ρ, S, re, rs, p⟩ := h
  refine ⟨mu, ρ, S, re, rs, Post.tidy rs ((toS_post (rel := relD X.K) re rs p).imp ?_)⟩
  rintro x H1 ⟨mu1, S1, d, r1, g, p1⟩
  split at p1
  · rename_i ρ' ea
    exact p1 _ H1 mu1 (Gw.refl g.rs) ((re.gw rs g).asg r1 ea)
  · exact p1.elim
theorem s_asg {i : Nat} {x : Str} {pos' : Pos} (hN : X.N.Nodup) (hi : X.N[i]? = some x) (hx : L2.Loc X.env.scope x) (hf : X.fn x = true ∨ X.env.scope.names.lookup x = some .local) (he : PE X e (tE N X.K W f)) (hs : swapsWith e (some (.Name x pos')) pos.line X.env = pure false) :
    PS X (.Assign [.Name x pos'] e pos) (tS N X.K W fun ρ S => (tidy S (f ρ S)).toS ρ fun d S1 => (match asgN ρ i d with
      | some ρ' => .nx ρ' S1
      | none => .stuck)) := psI (ps_set hN hi hx he hs hf) fun _ _ _ h => asg_rd h
theorem s_asgT {is : List Nat} {tg : Expr} (he : PE X e (tE N X.K W f)) (hg : PG X tg (gF X.K (.tp is))) (hs : swapsWithSole [tg] e pos.line X.env = pure false) (hw : swappedStores [tg] e X.env = pure none) (h1 : (assignEach [tg] X.env).map (·.2) = [assign tg X.env]) :
    PS X (.Assign [tg] e pos) (tS N X.K W fun ρ S => (tidy S (f ρ S)).toS ρ fun d S1 => (match asgT ρ (.tp is) d with
      | some ρ' => .nx ρ' S1
      | none => .stuck)) := by
  refine psI (ps_asg he hg hs hw h1) fun D σ H h => ?_
  obtain ⟨mu, ρ, S, re, rs, p⟩ := h
  refine ⟨mu, ρ, S, re, rs, Post.tidy rs ((toS_post (rel := relD X.K) re rs p).imp ?_)⟩
  rintro x H1 ⟨mu1, S1, d, r1, g, p1⟩
  split at p1
  · rename_i ρ' ea
    exact gF_ok (re.gw rs g) r1 ea fun σ' re' _ => p1 σ' H1 mu1 (Gw.refl g.rs) re'
  · exact p1.elim
/-- op= by values -/
def ipF (N : Nm) (K : PySem.W.Frag) (g : D → D → Store → R D) : TIp := fun x y H Q => ∃ mu S a b E, relD K H mu S a x ∧ relD K H mu S b y ∧ RS N K H mu S ∧ Post N K H mu S (relD K) (g a b S) Q E
theorem ipF_ok (op : Operator) : PIp X op (ipF N X.K (augop op)) := by
  intro pins s σ H x y v u Q I rx ry h
  obtain ⟨mu, S, a, b, E, ra, rb, rs, p⟩ := h
  have no : (∀ a b, augop op a b S = .stuck) → wpAny (model X.prog X.w) X.A (inplaceOp op v u) (EP X pins σ Q) X.xe s := fun z => by
    rw [z] at p
    exact p.elim
  cases op with
  | Add =>
    cases a with
    | int i =>
      cases b with
      | int j =>
        obtain rfl : x = .int i := ra.1
        obtain rfl : y = .int j := rb.1
        exact ip_add pins s σ H _ _ v u Q I rx ry ⟨i, j, rfl, rfl, Post.now (rel := relD X.K) rs p ⟨rfl, rfl⟩⟩
      | _ => exact (show False from p).elim
    | _ => exact (show False from p).elim
  | Sub =>
    cases a with
    | int i =>
      cases b with
      | int j =>
        obtain rfl : x = .int i := ra.1
        obtain rfl : y = .int j := rb.1
        exact ip_sub pins s σ H _ _ v u Q I rx ry ⟨i, j, rfl, rfl, Post.now (rel := relD X.K) rs p ⟨rfl, rfl⟩⟩
      | _ => exact (show False from p).elim
    | _ => exact (show False from p).elim
  | _ => exact no fun _ _ => rfl
theorem s_aug {op : Operator} {i : Nat} {x : Str} {pos' : Pos} (hN : X.N.Nodup) (hi : X.N[i]? = some x) (hx : L2.Loc X.env.scope x) (hf : X.fn x = true ∨ X.env.scope.names.lookup x = some .local) (he : PE X e (tE N X.K W f)) :
    PS X (.AugAssign (.Name x pos') op e pos) (tS N X.K W fun ρ S => (match ρ[i]? with
      | some (some x) => (tidy S (f ρ S)).toS ρ fun y S1 => (augop op x y S1).toS ρ fun z S2 => (match asgN ρ i z with
        | some ρ' => .nx ρ' S2
        | none => .stuck)
      | _ => .stuck)) := by
  refine psI (ps_aug hN hi hx he (ipF_ok (N := N) op) hf) fun D σ H h => ?_
  obtain ⟨mu, ρ, S, re, rs, p⟩ := h
  dsimp only at p
  split at p
  · rename_i a ha
    obtain ⟨wa, v, h1, h2⟩ := re.get i a ha
    refine ⟨v, h1, mu, ρ, S, re, rs, Post.tidy rs ((toS_post (rel := relD X.K) re rs p).imp ?_)⟩
    rintro y H1 ⟨mu1, S1, b, r1, g, p1⟩
    have re1 := re.gw rs g
    refine ⟨mu1, S1, a, b, XW W σ, relD.gw ⟨h2, wa⟩ rs g, r1, g.rs, (toS_post (rel := relD X.K) re1 g.rs p1).imp ?_⟩
    rintro z H2 ⟨mu2, S2, c, r2, g2, p2⟩
    split at p2
    · rename_i ρ' ea
      exact p2 _ H2 mu2 (Gw.refl g2.rs) ((re1.gw g.rs g2).asg r2 ea)
    · exact p2.elim
  · exact p.elim
theorem s_ret (he : PE X e (tE N X.K W f)) : PS X (.Return (some e) pos) (tS N X.K W fun ρ S => (tidy S (f ρ S)).toS ρ fun d S1 => .ret d S1) := by
  refine psI (ps_ret he) fun D σ H h => ?_
  obtain ⟨mu, ρ, S, re, rs, p⟩ := h
  refine ⟨mu, ρ, S, re, rs, Post.tidy rs ((toS_post (rel := relD X.K) re rs p).imp ?_)⟩
  rintro x H1 ⟨mu1, S1, d, r1, g, p1⟩
  exact p1 x H1 mu1 (Gw.refl g.rs) r1
theorem s_retN : PS X (.Return none pos) (tS N X.K W fun _ S => .ret .non S) :=
  psI ps_retN fun D σ H ⟨mu, ρ, S, re, rs, p⟩ => p .non H mu (Gw.refl rs) ⟨rfl, rfl⟩
theorem s_pass : PS X (.Pass pos) (tS N X.K W fun ρ S => .nx ρ S) := psI ps_pass fun D σ H ⟨mu, ρ, S, re, rs, p⟩ => p σ H mu (Gw.refl rs) re
theorem s_brk : PS X (.Break pos) (tS N X.K W fun ρ S => .brk ρ S) := psI ps_break fun D σ H ⟨mu, ρ, S, re, rs, p⟩ => p σ H mu (Gw.refl rs) re
theorem s_cnt : PS X (.Continue pos) (tS N X.K W fun ρ S => .cnt ρ S) := psI ps_continue fun D σ H ⟨mu, ρ, S, re, rs, p⟩ => p σ H mu (Gw.refl rs) re
variable {c : Expr} {fc : Env → Store → R Bool} {a b : List Stmt} {fa fb : Env → Store → SR}
theorem s_if (hc : PT X c (tT N X.K W fc)) (ha : PSs X a (tS N X.K W fa)) (hb : PSs X b (tS N X.K W fb)) : PS X (.If c a b pos) (tS N X.K W fun ρ S => (tidyB S (fc ρ S)).toS ρ fun k S1 => if k then fa ρ S1 else fb ρ S1) := by
  refine psI (ps_if hc ha hb) fun D σ H h => ?_
  obtain ⟨mu, ρ, S, re, rs, p⟩ := h
  refine ⟨mu, ρ, S, re, rs, Post.tidyB rs ((toS_post (rel := relB X.K) re rs p).imp ?_)⟩
  rintro k H1 ⟨mu1, S1, k', e, g, p1⟩
  have e : k' = k := e
  subst e
  cases k' with
  | true => exact iteT ⟨mu1, ρ, S1, re.gw rs g, g.rs, p1⟩
  | false => exact iteF ⟨mu1, ρ, S1, re.gw rs g, g.rs, p1⟩
theorem s_snil : PSs X [] (tS N X.K W fun ρ S => .nx ρ S) := pssI pss_nil fun D σ H ⟨mu, ρ, S, re, rs, p⟩ => p σ H mu (Gw.refl rs) re
theorem s_scons {st : Stmt} (ha : PS X st (tS N X.K W fa)) (hb : PSs X b (tS N X.K W fb)) : PSs X (st :: b) (tS N X.K W fun ρ S => (fa ρ S).bind fun ρ' S' => fb ρ' S') := by
  refine pssI (pss_cons ha hb) fun D σ H h => ?_
  obtain ⟨mu, ρ, S, re, rs, p⟩ := h
  exact ⟨mu, ρ, S, re, rs, PostS.seq p⟩

/-! ### two at once; a field -/
theorem s_par {i j : Nat} {x y : Str} {a b : Expr} {px py pt : Pos} {kt k2 : Nat} {pt2 : Pos} {fa fb : Env → Store → R D} (hc : X.calm = true) (hN : X.N.Nodup) (hi : X.N[i]? = some x) (hj : X.N[j]? = some y) (hij : i ≠ j) (hx : X.env.scope.names.lookup x = some .local) (hy : X.env.scope.names.lookup y = some .local)
    (ha : PE X a (tE N X.K W fa)) (hb : PE X b (tE N X.K W fb)) (hst : noStar [a, b] = true) (hw : swappedStores [.Tuple [.Name x px, .Name y py] kt pt] (.Tuple [a, b] k2 pt2) X.env = pure (some [x, y])) :
    PS X (.Assign [.Tuple [.Name x px, .Name y py] kt pt] (.Tuple [a, b] k2 pt2) pos) (tS N X.K W fun ρ S => (fa ρ S).toS ρ fun u S1 => (fb ρ S1).toS ρ fun v S2 => (match (asgN ρ i u).bind fun ρ' => asgN ρ' j v with
      | some ρ' => .nx ρ' S2
      | none => .stuck)) := by
  obtain ⟨h1, h2⟩ := noStar_cons hst X.env
  have h3 := (noStar_cons h2 X.env).1
  refine psI (ps_par hc hN hi hj hij hx hy (pa_cons ha (pa_cons hb pa_nil h3) h1) hw) fun D σ H h => ?_
  obtain ⟨mu, ρ, S, re, rs, p⟩ := h
  refine ⟨mu, ρ, S, re, rs, (toS_post (rel := relD X.K) re rs p).imp ?_⟩
  rintro u H1 ⟨mu1, S1, d1, r1, g1, p1⟩
  have re1 := re.gw rs g1
  refine ⟨mu1, ρ, S1, re1, g1.rs, (toS_post (rel := relD X.K) re1 g1.rs p1).imp ?_⟩
  rintro v H2 ⟨mu2, S2, d2, r2, g2, p2⟩
  have re2 := re1.gw g1.rs g2
  refine ⟨u, v, rfl, ?_⟩
  split at p2
  · rename_i ρ' ea
    obtain ⟨ρ1, e1, e2⟩ := Option.bind_eq_some_iff.mp ea
    exact p2 _ H2 mu2 (Gw.refl g2.rs) ((re2.asg (r1.gw g1.rs g2) e1).asg r2 e2)
  · exact p2.elim
theorem RF.put {K : PySem.W.Frag} {H : Hp} {mu : Nat → Addr} {f : Nat} {nm : Str} {d : D} {v : V} (hn : N.fld[f]? = some nm) (r : RV K H mu d v) : ∀ {fs : List (Nat × D)} {gs : List (Str × V)}, RF N K H mu fs gs → RF N K H mu (putN f d fs) (putF nm v gs)
  | [], gs, h => by
    have h : gs = [] := h
    subst h
    exact ⟨nm, v, [], rfl, hn, r, rfl⟩
  | (g, c) :: fs, gs, h => by
    obtain ⟨x, u, t, rfl, h1, h2, h3⟩ := h
    by_cases e : g = f
    · subst e
      rw [hn] at h1
      obtain rfl := Option.some.inj h1
      show RF N K H mu (if g = g then (g, d) :: fs else (g, c) :: putN g d fs) (if nm = nm then (nm, v) :: t else (nm, u) :: putF nm v t)
      rw [if_pos rfl, if_pos rfl]
      exact ⟨nm, v, t, rfl, hn, r, h3⟩
    · have ne : x ≠ nm := fun z => e (nodup_ix N.nd (by rw [← z]; exact h1) hn)
      show RF N K H mu (if g = f then (g, d) :: fs else (g, c) :: putN f d fs) (if x = nm then (x, v) :: t else (x, u) :: putF nm v t)
      rw [if_neg e, if_neg ne]
      exact ⟨x, u, putF nm v t, rfl, h1, h2, RF.put hn r h3⟩
theorem RF.len {K : PySem.W.Frag} {H : Hp} {mu : Nat → Addr} : ∀ {fs : List (Nat × D)} {gs : List (Str × V)}, RF N K H mu fs gs → gs.length = fs.length
  | [], gs, h => by
    have h : gs = [] := h
    subst h
    rfl
  | (g, c) :: fs, gs, h => by
    obtain ⟨x, u, t, rfl, h1, h2, h3⟩ := h
    rw [List.length_cons, List.length_cons, RF.len h3]
theorem putN_wfs {k f : Nat} {d : D} (hd : d.wf k = true) : ∀ {fs : List (Nat × D)}, D.wfs k (fs.map (·.2)) = true → D.wfs k ((putN f d fs).map (·.2)) = true
  | [], _ => by simp [putN, D.wfs, hd]
  | (g, c) :: fs, h => by
    have h' : D.wf k c = true ∧ D.wfs k (fs.map (·.2)) = true := by simpa [D.wfs] using h
    unfold putN
    split
    · simp [D.wfs, hd, h'.2]
    · simp [D.wfs, h'.1, putN_wfs hd h'.2]
/-- an instance of the store is changed -/
theorem Gw.put {K : PySem.W.Frag} {H : Hp} {mu : Nat → Addr} {S : Store} (r : RS N K H mu S) {n C f : Nat} {fs : List (Nat × D)} {dx : Addr} {gs : List (Str × V)} {nm : Str} {d : D} {v : V} (h : S[n]? = some (.ins C fs)) (ha : H (mu n) = some (.ins (N.iad C) dx gs)) (rf : RF N K H mu fs gs) (hn : N.fld[f]? = some nm) (rd : RV K H mu d v) (wd : d.wf S.length = true) :
    Gw N K H mu S (upd H (mu n) (.ins (N.iad C) dx (putF nm v gs))) mu (S.set n (.ins C (putN f d fs))) := by
  have hl : n < S.length := (List.getElem?_eq_some_iff.mp h).1
  have mn : Mt S n := by unfold Mt; rw [h]; trivial
  have keep : ∀ b u, b ≠ mu n → H b = some u → upd H (mu n) (.ins (N.iad C) dx (putF nm v gs)) b = some u := fun b u hb e => by rw [upd_ne hb]; exact e
  have kt : ∀ a us, SqT K H a us → SqT K (upd H (mu n) (.ins (N.iad C) dx (putF nm v gs))) a us := fun a us z => by
    rcases z with (z | ⟨ob, z⟩) | z
    · exact .inl (.inl (keep _ _ (fun e => by rw [e, ha] at z; cases z) z))
    · exact .inl (.inr ⟨ob, keep _ _ (fun e => by rw [e, ha] at z; cases z) z⟩)
    · exact .inr z
  have mt_ : ∀ m, Mt (S.set n (.ins C (putN f d fs))) m ↔ Mt S m := fun m => by
    unfold Mt
    by_cases e : m = n
    · subst e
      rw [List.getElem?_set_self hl, h]
    · rw [List.getElem?_set_ne (Ne.symm e)]
  have le : (S.set n (.ins C (putN f d fs))).length = S.length := List.length_set
  have wf0 : D.wfs S.length (fs.map (·.2)) = true := r.wf n _ h
  have wf1 := putN_wfs (f := f) wd wf0
  refine ⟨⟨fun m o e => ?_, fun m o e => ?_, fun m k h1 h2 e => r.inj m k ((mt_ m).mp h1) ((mt_ k).mp h2) e⟩, by rw [le]; exact Nat.le_refl _, fun _ _ => rfl, fun b u e hb => keep b u (fun z => hb n mn z.symm) e, fun m h1 h2 => absurd h1 (by rw [le] at h2; omega), fun b hb => ?_, fun m _ hm => (mt_ m).mp hm⟩
  · by_cases z : m = n
    · subst z
      rw [List.getElem?_set_self hl] at e
      obtain rfl := Option.some.inj e
      exact ⟨dx, putF nm v gs, upd_same, RF.mono kt (fun _ _ => rfl) _ _ wf1 (RF.put hn rd rf)⟩
    · rw [List.getElem?_set_ne (Ne.symm z)] at e
      have q' := r.ob m o e
      have w' := r.wf m o e
      cases o with
      | frz us =>
        obtain ⟨vs2, g, q2⟩ := q'
        refine ⟨vs2, ?_, RVs.mono kt (fun _ _ => rfl) us vs2 w' q2⟩
        rcases g with ⟨ob, g⟩ | g
        · exact .inl ⟨ob, keep _ _ (fun z2 => by rw [z2, ha] at g; cases g) g⟩
        · exact .inr g
      | lst us => exact q'.mono kt (fun _ _ => rfl) w' fun u z' => keep _ u (fun z2 => z (r.inj m n (by unfold Mt; rw [e]; trivial) mn z2)) z'
      | ins C2 fs2 => exact q'.mono kt (fun _ _ => rfl) w' fun u z' => keep _ u (fun z2 => z (r.inj m n (by unfold Mt; rw [e]; trivial) mn z2)) z'
  · rw [le]
    by_cases z : m = n
    · subst z
      rw [List.getElem?_set_self hl] at e
      obtain rfl := Option.some.inj e
      exact wf1
    · rw [List.getElem?_set_ne (Ne.symm z)] at e
      exact r.wf m o e
  · by_cases z : b = mu n
    · rw [z, upd_same]; simp
    · rw [upd_ne z]; exact hb
theorem s_setf {G : Glob} {f : Nat} {nm : Str} {o : Expr} {pos' : Pos} {fe fo : Env → Store → R D} (hf : N.fld[f]? = some nm) (hC : ∀ (C : Nat) (l : List Nat), G.cfl[C]? = some l → Cls X.K (N.iad C) ∧ (l.contains f = true → NoAttr X.K (N.iad C) nm)) (ho : PE X o (tE N X.K W fo)) (he : PE X e (tE N X.K W fe))
    (hs : swapsWith e (some (.Attribute o nm pos')) pos.line X.env = pure false) :
    PS X (.Assign [.Attribute o nm pos'] e pos) (tS N X.K W fun ρ S => (tidy S (fe ρ S)).toS ρ fun d S1 => (fo ρ S1).toS ρ fun x S2 => (match x with
      | .ref n => (match S2[n]? with
        | some (.ins C fs) => (match G.cfl[C]? with
          | some l => if l.contains f && decide (fs.length < 900) then .nx ρ (S2.set n (.ins C (putN f d fs))) else .stuck
          | none => .stuck)
        | _ => .stuck)
      | _ => .stuck)) := by
  refine psI (ps_fld ho he hs) fun D σ H h => ?_
  obtain ⟨mu, ρ, S, re, rs, p⟩ := h
  refine ⟨mu, ρ, S, re, rs, Post.tidy rs ((toS_post (rel := relD X.K) re rs p).imp ?_)⟩
  rintro v H1 ⟨mu1, S1, d, r1, g1, p1⟩
  have re1 := re.gw rs g1
  refine ⟨mu1, ρ, S1, re1, g1.rs, (toS_post (rel := relD X.K) re1 g1.rs p1).imp ?_⟩
  rintro x H2 ⟨mu2, S2, c, r2, g2, p2⟩
  have re2 := re1.gw g1.rs g2
  have rd := r1.gw g1.rs g2
  cases c with
  | ref n =>
    have ex : x = .ref (mu2 n) := r2.1
    dsimp only at p2
    split at p2
    · rename_i C fs hn
      split at p2
      · rename_i l hl
        split at p2
        · rename_i hc
          obtain ⟨hc1, hc2⟩ := Bool.and_eq_true_iff.mp hc
          obtain ⟨k1, k2⟩ := hC C l hl
          obtain ⟨dx, gs, ha, rf⟩ := g2.rs.ob n _ hn
          refine ⟨mu2 n, N.iad C, dx, gs, ex, ha, k1, k2 hc1, by rw [rf.len]; have := of_decide_eq_true hc2; omega, ?_⟩
          have g3 := Gw.put g2.rs hn ha rf hf rd.1 rd.2
          exact p2 σ _ mu2 g3 (re2.gw g2.rs g3)
        · exact p2.elim
      · exact p2.elim
    · exact p2.elim
  | _ => exact (show False from p2).elim

/-! ### while -/
theorem s_whl (hp : PassesOwn (model X.prog X.w) X.A X.env X.xe) (hc : PT X c (tT N X.K W fc)) (ha : PSs X a (tS N X.K W fa)) (hb : PSs X b (tS N X.K W fb)) (n : Nat) :
    PS X (.While c a b pos) (tS N X.K W fun ρ S => whlL (fun ρ S => tidyB S (fc ρ S)) fa fb n ρ S) := by
  refine psI (ps_whileE hp hc ha hb) fun D σ H h => ?_
  obtain ⟨mu, ρ, S, re, rs, p⟩ := h
  refine ⟨fun m σ' H' => ∃ mu' ρ' S', RE N X.K H' mu' S' ρ' σ' ∧ RS N X.K H' mu' S' ∧ PostS N X.K W H' mu' S' (whlL (fun ρ S => tidyB S (fc ρ S)) fa fb m ρ' S') D, ⟨n, mu, ρ, S, re, rs, p⟩, ?_⟩
  rintro m σ H ⟨mu, ρ, S, re, rs, p⟩
  cases m with
  | zero => exact (show False from p).elim
  | succ m =>
    unfold whlL at p
    refine ⟨mu, ρ, S, re, rs, Post.tidyB rs ?_⟩
    cases e : tidyB S (fc ρ S) with
    | ok k S1 =>
      rw [e] at p
      intro k' H1 mu1 g ek
      have ek : k = k' := ek
      subst ek
      have re1 := re.gw rs g
      cases k with
      | true =>
        dsimp only at p
        refine iteT ⟨fun σ' H' => ∃ mu' ρ' S', RE N X.K H' mu' S' ρ' σ' ∧ RS N X.K H' mu' S' ∧ PostS N X.K W H' mu' S' (whlL (fun ρ S => tidyB S (fc ρ S)) fa fb m ρ' S') D, fun σ' H' q => ⟨m, Nat.lt_succ_self _, q⟩, mu1, ρ, S1, re1, g.rs, ?_⟩
        cases e2 : fa ρ S1 with
        | nx ρ' S' => rw [e2] at p; exact fun σ' H' mu' g' re' => ⟨mu', ρ', S', re', g'.rs, (PostS.after p g).after g'⟩
        | cnt ρ' S' => rw [e2] at p; exact fun σ' H' mu' g' re' => ⟨mu', ρ', S', re', g'.rs, (PostS.after p g).after g'⟩
        | brk ρ' S' => rw [e2] at p; exact PostS.after (r := .nx ρ' S') p g
        | ret d S' => rw [e2] at p; exact PostS.after (r := .ret d S') p g
        | exn C fs ρ' S' => rw [e2] at p; exact PostS.after (r := .exn C fs ρ' S') p g
        | stuck => rw [e2] at p; exact (show False from p).elim
      | false =>
        dsimp only at p
        exact iteF ⟨mu1, ρ, S1, re1, g.rs, PostS.after p g⟩
    | exn C fs S1 =>
      rw [e] at p
      exact fun dd gs H' mu' g q1 q2 q3 => p dd gs σ H' mu' g (re.gw rs g) q1 q2 q3
    | stuck => rw [e] at p; exact (show False from p).elim

/-! ### for -/
theorem s_fr {tg iter : Expr} {t : FT} {fi : PIt} (hp : PassesOwn (model X.prog X.w) X.A X.env X.xe) (hc : X.calm = true) (hi : PI X tg iter (iF N X.K W fi)) (hg : PG X tg (gF X.K t)) (hb : PSs X a (tS N X.K W fa)) (hs : ∀ x, foldedSetIterable iter X.env x = pure x) :
    PS X (.For tg iter a [] pos) (tS N X.K W fun ρ S => (fi ρ S).toS ρ fun p S1 => forL (fun d ρ S => (match asgT ρ t d with
      | some ρ' => fa ρ' S
      | none => .stuck)) (same p.2 S1) p.1 ρ S1) := by
  refine psI (ps_for hp hc hi hg hb hs) fun D σ H h => ?_
  obtain ⟨mu, ρ, S, re, rs, p⟩ := h
  refine ⟨mu, ρ, S, re, rs, (toS_post (rel := relI N X.K) re rs p).imp ?_⟩
  rintro J H1 ⟨mu1, S1, ⟨items, gd⟩, itok, g1, p1⟩
  dsimp only at p1
  have itok : ItOk N X.K H1 mu1 S1 items gd J := itok
  generalize hf : (fun (d : Fx.D) (ρ : Env) (S : Store) => (match asgT ρ t d with
      | some ρ' => fa ρ' S
      | none => SR.stuck)) = f at p1
  have re1 := re.gw rs g1
  refine ⟨fun i m σ' H' => m = items.length - i ∧ i ≤ items.length ∧ ∃ mu' ρ' S', Gw N X.K H1 mu1 S1 H' mu' S' ∧ same gd S1 S' = true ∧ RE N X.K H' mu' S' ρ' σ' ∧ PostS N X.K W H' mu' S' (forL f (same gd S1) (items.drop i) ρ' S') D,
    ⟨items.length, by simp, Nat.zero_le _, mu1, ρ, S1, Gw.refl g1.rs, ?_, re1, by simpa using p1⟩, ?_⟩
  · cases gd with
    | none => rfl
    | some n => exact decide_eq_true rfl
  rintro i m σ' H' ⟨rfl, hi', mu', ρ', S', g, hsm, re', p'⟩
  have now := itok i H' mu' S' g hsm
  by_cases hlt : i < items.length
  · have hd : items[i]? = some items[i] := by simp [hlt]
    obtain ⟨go, yl⟩ := now.1 _ hd
    refine .inr ⟨go, fun σ' H' => ∃ mu' ρ' S', Gw N X.K H1 mu1 S1 H' mu' S' ∧ same gd S1 S' = true ∧ RE N X.K H' mu' S' ρ' σ' ∧ PostS N X.K W H' mu' S' (forL f (same gd S1) (items.drop (i + 1)) ρ' S') D,
      fun σ2 H2 z => ⟨items.length - (i + 1), by omega, rfl, hlt, z⟩, fun x H2 y => ?_⟩
    obtain ⟨gy, rx⟩ := yl x H2 y
    have re' := re'.gw g.rs gy
    have p' := PostS.after p' gy
    have g := g.trans gy
    have dr : items.drop i = items[i] :: items.drop (i + 1) := (List.getElem_cons_drop (h := hlt)).symm
    rw [dr] at p'
    unfold forL at p'
    cases ea : asgT ρ' t items[i] with
    | none =>
      have ef : f items[i] ρ' S' = .stuck := by rw [← hf]; dsimp only; rw [ea]
      rw [ef] at p'
      exact (show False from p').elim
    | some ρ2 =>
      have ef : f items[i] ρ' S' = fa ρ2 S' := by rw [← hf]; dsimp only; rw [ea]
      rw [ef] at p'
      refine gF_ok re' rx ea fun σ2 re2 _ => ⟨mu', ρ2, S', re2, g.rs, ?_⟩
      have step : ∀ ρ3 S3, PostS N X.K W H2 mu' S' (if same gd S1 S3 then forL f (same gd S1) (items.drop (i + 1)) ρ3 S3 else .stuck) D → ∀ (σ3 : L2.St) (H3 : Hp) (mu3 : Nat → Addr), Gw N X.K H2 mu' S' H3 mu3 S3 → RE N X.K H3 mu3 S3 ρ3 σ3 →
          ∃ mu' ρ' S', Gw N X.K H1 mu1 S1 H3 mu' S' ∧ same gd S1 S' = true ∧ RE N X.K H3 mu' S' ρ' σ3 ∧ PostS N X.K W H3 mu' S' (forL f (same gd S1) (items.drop (i + 1)) ρ' S') D := fun ρ3 S3 q σ3 H3 mu3 g3 re3 => by
        split at q
        · rename_i hk
          exact ⟨mu3, ρ3, S3, g.trans g3, hk, re3, PostS.after q g3⟩
        · exact q.elim
      cases e2 : fa ρ2 S' with
      | nx ρ3 S3 => rw [e2] at p'; exact step ρ3 S3 p'
      | cnt ρ3 S3 => rw [e2] at p'; exact step ρ3 S3 p'
      | brk ρ3 S3 => rw [e2] at p'; exact p'
      | ret d S3 => rw [e2] at p'; exact p'
      | exn C fs ρ3 S3 => rw [e2] at p'; exact p'
      | stuck => rw [e2] at p'; exact (show False from p').elim
  · have ei : i = items.length := by omega
    subst ei
    rw [List.drop_length] at p'
    unfold forL at p'
    exact .inl ⟨now.2 (Nat.le_refl _), p' σ' H' mu' (Gw.refl g.rs) re'⟩

/-! ### raise -/
/-- an exception made: its class, its fields by its __init__ -/
def tM (N : Nm) (K : PySem.W.Frag) (W : WX) (C : Nat) (flds : List Nat) (fs : Env → Store → R (List D)) : L2.St → Hp → XK → Prop := fun σ H Q => ∃ mu ρ S, RE N K H mu S ρ σ ∧ RS N K H mu S ∧
  Post N K H mu S (relDs K) (fs ρ S) (fun vs H1 => ∃ mu1 S1 ds, relDs K H1 mu1 S1 ds vs ∧ RS N K H1 mu1 S1 ∧ ds.length = flds.length ∧
    ∀ (dd : Addr) (gs : List (Str × V)) (H2 : Hp), Gw N K H1 mu1 S1 H2 mu1 S1 → H2 dd = some (.xd gs) → RF N K H2 mu1 (flds.zip ds).reverse gs → Q (.ref (N.cad C)) (some dd) H2) (XW W σ)
theorem zip_wfs {k : Nat} : ∀ {fl : List Nat} {ds : List D}, ds.length = fl.length → D.wfs k ds = true → D.wfs k ((fl.zip ds).map (·.2)) = true
  | [], [], _, h => rfl
  | [], _ :: _, e, _ => by cases e
  | _ :: _, [], e, _ => by cases e
  | a :: fl, d :: ds, e, h => by
    have h' : D.wf k d = true ∧ D.wfs k ds = true := by simpa [D.wfs] using h
    simp only [List.zip_cons_cons, List.map_cons, D.wfs, h'.1, Bool.true_and]
    exact zip_wfs (by simpa using e) h'.2
theorem rev_wfs {k : Nat} {ds : List D} (h : D.wfs k ds = true) : D.wfs k ds.reverse = true := wfs_all.mpr fun x hx => wfs_all.mp h x (List.mem_reverse.mp hx)
theorem s_rais {C : Nat} {flds : List Nat} {fs : Env → Store → R (List D)} (hc : X.calm = true) (tk : Takes X W) (he : PMk X e (tM N X.K W C flds fs)) : PS X (.Raise (some e) none pos) (tS N X.K W fun ρ S => (fs ρ S).toS ρ fun ds S1 => if ds.length = flds.length then .exn C (flds.zip ds).reverse ρ S1 else .stuck) := by
  refine psI (ps_raise hc tk he) fun D σ H h => ?_
  obtain ⟨mu, ρ, S, re, rs, p⟩ := h
  refine ⟨mu, ρ, S, re, rs, (toS_post (rel := relDs X.K) re rs p).imp ?_⟩
  rintro vs H1 ⟨mu1, S1, ds, r1, g, p1⟩
  split at p1
  · rename_i hl
    refine ⟨mu1, S1, ds, r1, g.rs, hl, fun dd gs H2 g2 q1 q2 => ?_⟩
    exact p1 dd gs σ H2 mu1 g2 ((re.gw rs g).gw g.rs g2) q1 q2 (by rw [List.map_reverse]; exact rev_wfs (zip_wfs hl r1.2))
  · exact p1.elim
end
end Fx
set_option Elab.async false
set_option linter.all false
set_option autoImplicit false
set_option maxRecDepth 100000
set_option maxHeartbeats 4000000
/-! FxN: try with clauses, each with a name or none. -/
namespace Fx
open PySem PySem.Spec PyProof.Rows L2

/-- the ends of a clause's suite: its name goes -/
def endsO : Option Nat → Ends → Ends
  | none, D => D
  | some i, D => { nx := fun σ' H' => D.nx (σ'.set i none) H', rt := D.rt, bk := fun σ' H' => D.bk (σ'.set i none) H', ct := fun σ' H' => D.ct (σ'.set i none) H' }
def startO : Option Nat → L2.St → Addr → L2.St
  | none, σ, _ => σ
  | some i, σ, a => σ.set i (some (.ref a))
structure HdE where
  c : Value
  i : Option Nat
  ts : Addr → Value → Option Addr → TS
/-- what the clauses wish of an exception -/
def wHds (K : PySem.W.Frag) (Wo : WX) (D : Ends) : List HdE → WX
  | [] => Wo
  | h :: r => fun cls d σ H => ∃ b, PySem.W.exmOne K cls h.c = some b ∧ (b = true → ∀ a, H a = none → h.ts a cls d (endsO h.i D) (startO h.i σ a) H) ∧ (b = false → wHds K Wo D r cls d σ H)
/-- the name of a clause, a local -/
def NmOk (X : Cx) : Option Str → Option Nat → Prop
  | none, none => True
  | some n, some i => X.N[i]? = some n ∧ X.env.kindOf n = some .local
  | _, _ => False
inductive HdsN (X : Cx) : List ExceptHandler → List HdE → Prop
  | nil : HdsN X [] []
  | cons {x : Str} {h : HdE} {n : Option Str} {b0 : Stmt} {su : List Stmt} {np p' : Pos} {hds : List ExceptHandler} {l : List HdE} (hc : Names X x h.c) (hn : NmOk X n h.i)
      (hsu : ∀ (a : Addr) (oe : Obj) (cls : Value) (d : Option Addr) (pn : List (Addr × Obj)), Zc cls d oe → (∃ vs, oe.data = .fields vs) → PSs (X.suite a ((a, oe) :: pn)) (b0 :: su) (h.ts a cls d)) (r : HdsN X hds l) :
      HdsN X (.ExceptHandler (some (.Name x np)) n (b0 :: su) p' :: hds) (h :: l)
section
variable {X : Cx} {body : List Stmt} {h0 : ExceptHandler} {hds : List ExceptHandler} {l : List HdE} {pos : Pos} {tb : WX → TS} {Wo : WX}
theorem s_catch (hs : X.stack = X.env :: X.outer) (hf : X.env.frame = some X.env.locals) (hN : X.N.Nodup) (tk : Takes X Wo)
    (hb : ∀ (W : WX) (pn : List (Addr × Obj)) (xe : Value → Shared → Prop), Takes (X.tr pn xe) W → PassesOwn (model X.prog X.w) X.A X.env xe → PSs (X.tr pn xe) body (tb W)) (hh : HdsN X (h0 :: hds) l) :
    PS X (.Try body (h0 :: hds) [] [] pos) (fun D σ H => tb (wHds X.K Wo D l) D σ H) := by
  refine .mk fun pins s σ H D I hyp => wpAny_Try_except ?_
  have ok := I.ok
  have frames : X.A.frames = some (X.env :: X.outer) := ok.frames.trans (congrArg some hs)
  refine wpAny_mono ((hb (wHds X.K Wo D l) (X.pn ++ pins) (fun er t1 => wpAny (model X.prog X.w) X.A (noteFrame er X.env) (fun _ t2 => wpAny (model X.prog X.w) X.A (setFlight er none) (fun _ t3 => wpAny (model X.prog X.w) X.A (handleBy er X.env (h0 :: hds)) (SP X pins D) X.xe t3) X.xe t2) X.xe t1)
    (fun u t xx => ?_) PassesOwn.looking).run [] s σ H D (I.toTry _) hyp) (fun fl t hsp => ?_) (fun _ _ q => q)
  case refine_2 =>
    cases fl with
    | ret u => exact let ⟨v, σ', H', J, r, q⟩ := hsp; ⟨v, σ', H', J.ofTry ok, r, q⟩
    | next => exact let ⟨σ', H', J, q⟩ := hsp; wpAny_execs_nil ⟨σ', H', J.ofTry ok, q⟩
    | brk => exact let ⟨σ', H', J, q⟩ := hsp; ⟨σ', H', J.ofTry ok, q⟩
    | cont => exact let ⟨σ', H', J, q⟩ := hsp; ⟨σ', H', J.ofTry ok, q⟩
  obtain ⟨a, B, sI, pins', σ1, H1, cls, d, rfl, J', nb, up, sky, na, os, ag, w⟩ := xx
  have J : Inv X pins σ1 H1 sI := J'.ofTry ok
  show wpAny (model X.prog X.w) X.A (noteFrame (.ref a) X.env) _ _ t
  refine Sky.land Zc.steady frames hf (hs ▸ sky) fun g3 fl3 up3 => ?_
  have J3 : Inv X pins σ1 H1 { t with heap := g3 } := J.landed nb fl3.1 (up.trans up3) os ag
  obtain ⟨oe3, vs3, he3, hz3, hd3⟩ := fl3.there
  have out : a ∉ frs (X.env :: X.outer) := fun hm => by
    obtain ⟨_, o', e', hnf⟩ := fl3.2.2.1.mem hm
    rw [he3] at e'
    cases e'
    exact hnf _ hd3
  have nL : a ≠ X.env.locals := fun z => out (List.mem_filterMap.mpr ⟨X.env, List.mem_cons_self, hf.trans (congrArg some z.symm)⟩)
  have nF : a ∉ X.fs := fun hm => let ⟨en, he, q⟩ := List.mem_filterMap.mp hm; out (List.mem_filterMap.mpr ⟨en, List.mem_cons_of_mem _ he, q⟩)
  have S3 := J3.suite he3 hd3 na nL nF
  have go : ∀ {hds' : List ExceptHandler} {l' : List HdE}, HdsN X hds' l' → wHds X.K Wo D l' cls d σ1 H1 → wpAny (model X.prog X.w) X.A (handleBy (.ref a) X.env hds') (SP X pins D) X.xe { t with heap := g3 } := by
    intro hds' l' hk
    induction hk with
    | nil =>
      intro w
      refine wpAny_handleBy_nil ?_
      obtain ⟨k1, k2, k3, oe, vs, T, oT, ts', he, hz, hd, h1, hr⟩ := id fl3
      unfold PySem.passOn
      refine wpAny_bind (wpAny_field he hd h1 ?_)
      rw [if_neg (show ¬ ((Value.ref T == Value.none) = true) by simp)]
      have fin : wpAny (model X.prog X.w) X.A (setFlight (.ref a) X.env.frame) (fun _ t4 => wpAny (model X.prog X.w) X.A (throw (.ref a) : Sem Flow) (SP X pins D) X.xe t4) X.xe { t with heap := g3 } := by
        rw [hf]
        exact HandSPX.setFlight_upZ fl3 fun g4 hh4 up4 => wpAny_throw (tk _ _ ⟨a, B, sI, pins, σ1, H1, cls, d, rfl, J, nb, (up.trans up3).trans up4, .inr (.inr (hs ▸ hh4)), na, os, ag, w⟩)
      first
        | exact wpAny_bind (wpAny_pure (wpAny_bind fin))
        | exact wpAny_bind fin
    | @cons x h n b0 su np p' hds2 l2 hc hn hsu r ih =>
      intro w
      obtain ⟨b, hb1, hyes, hno⟩ := w
      refine wpAny_handleBy_cons (codeAny_handlers_test ?_) (fun q => by cases q)
      have LM := PySem.W.exm_one (M := model X.prog X.w) J3.kIn (show PySem.W.Looks (model X.prog X.w) g3 (typeOf (.ref a)) cls from fun A Q E s k q => wpAny_typeOf_ref (k _ _ he3) (by rw [hz3.1]; exact q)) hb1
      have test : ∀ {Q : Value → Shared → Prop} {E : Value → Shared → Prop}, Q h.c { t with heap := g3 } → wpAny (model X.prog X.w) (X.A.mark (some (.ref a))) (eval (.Name x np) X.env) Q E { t with heap := g3 } := fun {Q E} q => by
        obtain ⟨hg, hdb, hm | ⟨hm, hv, hnn⟩⟩ := hc
        · exact ld_glob (X := X.suite a _) S3 hg hm q hdb
        · exact ld_blt (X := X.suite a _) S3 hg hm hv q hnn hdb
      refine test (LM.here ?_)
      cases b with
      | false => exact ih (hno rfl)
      | true =>
        have again : ∀ {Q : Shared → Prop} {E : Value → Shared → Prop}, (∀ (g4 : Heap) (oe4 : Obj), Zc cls d oe4 → (∃ vs, oe4.data = .fields vs) → Inv (X.suite a ((a, oe4) :: (X.pn ++ pins))) [] σ1 H1 { t with heap := g4 } → Q { t with heap := g4 }) →
            wpAny (model X.prog X.w) (X.A.mark (some (.ref a))) (setFlight (.ref a) none) (fun _ t4 => Q t4) E { t with heap := g3 } := fun {Q E} k => HandSPX.lands_againZ fl3 fun g4 fl4 up4 => by
          obtain ⟨oe4, vs4, he4, hz4, hd4⟩ := fl4.there
          have J4 : Inv X pins σ1 H1 { t with heap := g4 } := J.landed nb fl4.1 ((up.trans up3).trans up4) os ag
          exact k g4 oe4 hz4 ⟨_, hd4⟩ (J4.suite he4 hd4 na nL nF)
        have hyes := hyes rfl a na
        obtain ⟨c, i, ts⟩ := h
        cases n with
        | none =>
          cases i with
          | some i => exact hn.elim
          | none =>
            refine codeAny_handlers_suite (again fun g4 oe4 hz4 hd4 S4 => ?_)
            refine wpAny_mono ((hsu a oe4 cls d (X.pn ++ pins) hz4 hd4).run [] _ _ H1 _ S4 hyes) (fun fl t6 q => ?_) (fun _ _ z => False.elim z)
            cases fl with
            | ret u => exact let ⟨v, σ', H', K6, r, q⟩ := q; ⟨v, σ', H', K6.unsuite ok, r, q⟩
            | next => exact let ⟨σ', H', K6, q⟩ := q; ⟨σ', H', K6.unsuite ok, q⟩
            | brk => exact let ⟨σ', H', K6, q⟩ := q; ⟨σ', H', K6.unsuite ok, q⟩
            | cont => exact let ⟨σ', H', K6, q⟩ := q; ⟨σ', H', K6.unsuite ok, q⟩
        | some y =>
          cases i with
          | none => exact hn.elim
          | some i =>
            obtain ⟨hi, hl⟩ := hn
            refine codeAny_handlers_suite_as (again fun g4 oe4 hz4 hd4 S4 => ?_)
            refine store_ok (X := X.suite a ((a, oe4) :: (X.pn ++ pins))) (v := .ref a) S4 hN hi (.inl hl) rfl (fun t5 S5 => ?_) (.inr hl)
            refine wpAny_mono ((hsu a oe4 cls d (X.pn ++ pins) hz4 hd4).run [] t5 _ H1 _ S5 hyes) (fun fl t6 q => ?_) (fun _ _ z => False.elim z)
            have away : ∀ {σ6 : L2.St} {H6 : Hp} {Q : Shared → Prop}, Inv (X.suite a ((a, oe4) :: (X.pn ++ pins))) [] σ6 H6 t6 → (∀ t7, Inv X pins (σ6.set i none) H6 t7 → Q t7) →
                wpAny (model X.prog X.w) X.A (do bindName X.env y .none; unbindBehindTheSuite X.env y p') (fun _ t7 => Q t7) X.xe t6 := fun {σ6 H6 Q} S6 hq => gone_ok (S6.unsuite ok) hN hi hl hq
            cases fl with
            | ret u => exact let ⟨v, σ', H', K6, r, q⟩ := q; away K6 fun t7 J7 => ⟨v, _, H', J7, r, q⟩
            | next => exact let ⟨σ', H', K6, q⟩ := q; away K6 fun t7 J7 => ⟨_, H', J7, q⟩
            | brk => exact let ⟨σ', H', K6, q⟩ := q; away K6 fun t7 J7 => ⟨_, H', J7, q⟩
            | cont => exact let ⟨σ', H', K6, q⟩ := q; away K6 fun t7 J7 => ⟨_, H', J7, q⟩
  exact go hh w
end
end Fx
set_option Elab.async false
set_option linter.all false
set_option autoImplicit false
set_option maxRecDepth 100000
set_option maxHeartbeats 4000000
/-! FxO: the suites of clauses; a checker of statements, and that it is right. -/
namespace Fx
open PySem PySem.Spec PyProof.Rows L2

/-! ### the same names, another handled exception -/
abbrev Nm.on (N : Nm) (x : Option HX) : Nm := { N with hx := x }
section
variable {N : Nm} {K : PySem.W.Frag} {H H' : Hp} {mu mu' : Nat → Addr} {S S' : Store} {x : Option HX} {ρ : Env} {σ : L2.St}
theorem RF.on : ∀ {fs : List (Nat × D)} {gs : List (Str × V)}, RF N K H mu fs gs ↔ RF (N.on x) K H mu fs gs
  | [], gs => Iff.rfl
  | (f, d) :: fs, gs => by
    constructor
    · rintro ⟨y, v, r, e, h1, h2, h3⟩
      exact ⟨y, v, r, e, h1, h2, RF.on.mp h3⟩
    · rintro ⟨y, v, r, e, h1, h2, h3⟩
      exact ⟨y, v, r, e, h1, h2, RF.on.mpr h3⟩
theorem RO.on {o : O} {a : Addr} : RO N K H mu o a ↔ RO (N.on x) K H mu o a := by
  cases o with
  | lst xs => exact Iff.rfl
  | frz xs => exact Iff.rfl
  | ins C fs =>
    constructor
    · rintro ⟨dx, gs, h1, h2⟩
      exact ⟨dx, gs, h1, RF.on.mp h2⟩
    · rintro ⟨dx, gs, h1, h2⟩
      exact ⟨dx, gs, h1, RF.on.mpr h2⟩
theorem RS.on : RS N K H mu S ↔ RS (N.on x) K H mu S :=
  ⟨fun r => ⟨fun n o e => RO.on.mp (r.ob n o e), r.wf, r.inj⟩, fun r => ⟨fun n o e => RO.on.mpr (r.ob n o e), r.wf, r.inj⟩⟩
theorem Gw.on : Gw N K H mu S H' mu' S' ↔ Gw (N.on x) K H mu S H' mu' S' :=
  ⟨fun g => ⟨RS.on.mp g.rs, g.le, g.mus, g.fr, g.new, g.som, g.mt⟩, fun g => ⟨RS.on.mpr g.rs, g.le, g.mus, g.fr, g.new, g.som, g.mt⟩⟩
theorem RE.off (hN : N.hx = none) (e : RE (N.on x) K H mu S ρ σ) : RE N K H mu S ρ σ := ⟨e.len, e.get, fun y hy => by rw [hN] at hy; cases hy⟩
theorem RE.gone (hN : N.hx = none) (e : RE N K H mu S ρ σ) (i : Nat) : RE N K H mu S (ρ.set i none) (σ.set i none) := by
  refine ⟨by rw [List.length_set, List.length_set]; exact e.len, fun j d h => ?_, fun y hy => by rw [hN] at hy; cases hy⟩
  by_cases c : i = j
  · subst c
    by_cases hi : i < ρ.length
    · rw [List.getElem?_set_self hi] at h; cases Option.some.inj h
    · rw [List.getElem?_eq_none (by rw [List.length_set]; omega)] at h; cases h
  · rw [List.getElem?_set_ne c] at h ⊢
    exact e.get j d h
/-- what the suite's evaluator says, for the ends of the statement -/
theorem calm_on {W : WX} {r : SR} {D : Ends} (hN : N.hx = none) (p : PostS N K W H mu S r.calm D) : PostS (N.on x) K W0 H mu S r D := by
  cases r with
  | nx ρ' S' => exact fun σ' H' mu' g e => p σ' H' mu' (Gw.on.mpr g) (e.off hN)
  | ret d S' => exact fun v H' mu' g e => p v H' mu' (Gw.on.mpr g) e
  | brk ρ' S' => exact fun σ' H' mu' g e => p σ' H' mu' (Gw.on.mpr g) (e.off hN)
  | cnt ρ' S' => exact fun σ' H' mu' g e => p σ' H' mu' (Gw.on.mpr g) (e.off hN)
  | exn C fs ρ' S' => exact (show False from p).elim
  | stuck => exact p
theorem gone_on {W : WX} {r : SR} {D : Ends} {i : Nat} (hN : N.hx = none) (p : PostS N K W H mu S (r.calm.gone i) D) : PostS (N.on x) K W0 H mu S r (endsO (some i) D) := by
  cases r with
  | nx ρ' S' => exact fun σ' H' mu' g e => p _ H' mu' (Gw.on.mpr g) ((e.off hN).gone hN i)
  | ret d S' => exact fun v H' mu' g e => p v H' mu' (Gw.on.mpr g) e
  | brk ρ' S' => exact fun σ' H' mu' g e => p _ H' mu' (Gw.on.mpr g) ((e.off hN).gone hN i)
  | cnt ρ' S' => exact fun σ' H' mu' g e => p _ H' mu' (Gw.on.mpr g) ((e.off hN).gone hN i)
  | exn C fs ρ' S' => exact (show False from p).elim
  | stuck => exact p
end

/-! ### the classes of exceptions -/
/-- cv: the class by its number; the first ones have fields and are raised -/
structure ExF (K : PySem.W.Frag) (mg : Str → Option Value) (N : Nm) (T : Tab) (G : Glob) (cv : Nat → Value) : Prop where
  nm : ∀ (k : Nat) (x : Str), T.xnm[k]? = some x → (mg x = some (cv k) ∨ (mg x = none ∧ bootBuiltins x = some (cv k) ∧ x ≠ "__name__")) ∧ safeN x = true
  val : ∀ k, ∃ v : V, RelV v (cv k) ∧ ∀ u, RelV v u → u = cv k
  exm : ∀ (C k : Nat) (x : Str), C < G.exc.length → T.xnm[k]? = some x → PySem.W.exmOne K (.ref (N.cad C)) (cv k) = some ((G.sub.getD C []).contains k) ∧ PySem.W.kitOne K (.ref (N.cad C)) (cv k) = some ((G.sub.getD C []).contains k)
  cls : ∀ C, C < G.exc.length → ExcC K (N.cad C)
  fld : ∀ (C f : Nat) (x : Str), C < G.exc.length → T.fld[f]? = some x → PySem.W.findIn K (.ref (N.cad C)) x = some none
  tfl : T.fld = N.fld
  nx : T.nx ≤ G.exc.length
/-- isinstance(e, c), e the exception at a with the dict at dd -/
def rIsX (K : PySem.W.Frag) (D a dd : Addr) : List V → Hp → VK → Prop := fun xs H Q => ∃ (c : V) (cv : Value) (b : Bool) (gs : List (Str × V)), xs = [.ref a, c] ∧ (∀ u, RelV c u → u = cv) ∧ H dd = some (.xd gs) ∧ PySem.W.kitOne K (.ref D) cv = some b ∧ Q (.bl b) H
section
variable {X : Cx}
theorem call_isX {a D dd : Addr} {oe : Obj} {pn : List (Addr × Obj)} (C : ExcC X.K D) (hz : Zc (.ref D) (some dd) oe) (hf : ∃ vs, oe.data = .fields vs) : CallR (X.suite a ((a, oe) :: pn)) (.builtin "isinstance") (rIsX X.K D a dd) := by
  intro pins s σ H xs us Q I r h
  obtain ⟨c, cv, b, gs, rfl, hcv, hd, e, q⟩ := h
  obtain ⟨u1, u2, rfl, r1, r2⟩ := vals2 r
  obtain rfl : u1 = Value.ref a := r1
  obtain rfl := hcv _ r2
  obtain ⟨hget, _⟩ := I.pin (a, oe) (List.mem_append.mpr (.inl List.mem_cons_self))
  obtain ⟨vs, hv⟩ := hf
  have hx : ObjOk X.prog X.w H s.heap dd (.xd gs) := I.hok dd _ hd
  obtain ⟨mA, ⟨od, es, ep, ho, _⟩, _⟩ := hx
  have J : PySem.W.InstAt s.heap a oe D (some od) := by
    obtain ⟨oc, od', oda, osl⟩ := oe
    obtain ⟨h1, h2⟩ := hz
    dsimp only at h1 h2 hv
    subst h1 h2 hv
    exact ⟨hget, rfl, rfl, ho⟩
  have hcl : (PySem.W.clsIn X.K D).isSome = true := by
    have := C.hd
    unfold PySem.W.hasDictIn at this
    cases z : PySem.W.clsIn X.K D with
    | none => rw [z] at this; cases this
    | some cd => rfl
  exact PySem.W.kia_one (PySem.W.kitx_exc hcl C.hg C.hk C.hs C.ha C.hn C.ht C.hm) I.kIn J e (fun z => nomatch z) fun tk => ⟨.bl b, H, I.kept (t' := tk) fun _ _ z => z, rfl, q⟩
theorem look_wf {k : Nat} {f : Nat} {d : D} : ∀ {fs : List (Nat × D)}, D.wfs k (fs.map (·.2)) = true → fs.lookup f = some d → d.wf k = true
  | [], _, e => by cases e
  | (g, c) :: fs, h, e => by
    have h' : D.wf k c = true ∧ D.wfs k (fs.map (·.2)) = true := by simpa [D.wfs] using h
    rw [List.lookup_cons] at e
    split at e
    · cases e; exact h'.1
    · exact look_wf h'.2 e
variable {N : Nm} {T : Tab} {G : Glob} {cl : Orac} {W : WX} {S : Sc} {cv : Nat → Value}
/-- err.f in the suite -/
theorem s_xf {C : Nat} {fs : List (Nat × D)} {dd a : Addr} {gs : List (Str × V)} {i f : Nat} {oe : Obj} {pn : List (Addr × Obj)} {x nm : Str} {p p2 : Pos} (E : ExF X.K X.mg N T G cv) (hC : C < G.exc.length) (hz : Zc (.ref (N.cad C)) (some dd) oe) (hf : ∃ vs, oe.data = .fields vs)
    (hi : X.N[i]? = some x) (hv : Vis X.env.scope x) (hs : safeN x = true) (hn : T.fld[f]? = some nm) :
    PE (X.suite a ((a, oe) :: pn)) (.Attribute (.Name x p) nm p2) (tE (N.on (some ⟨dd, gs, fs, C, a, some i⟩)) X.K W0 (ev G cl (some (C, fs)) (.xfld i f)).v) := by
  have c := E.cls C hC
  refine peI (pe_xf (n := nm) ⟨c.hg, c.hk, c.hs, c.hd⟩ (E.fld C f nm hC hn) hz hf (pe_var (X := X.suite a ((a, oe) :: pn)) (i := i) hi hv (safe_is hs).1 (safe_is hs).2)) fun σ H Q h => ?_
  obtain ⟨mu, ρ, S, re, rs, q⟩ := h
  obtain ⟨h1, h2, h3, h4⟩ := re.hx _ rfl
  have q : Post (N.on (some ⟨dd, gs, fs, C, a, some i⟩)) X.K H mu S (relD X.K) (match (some (C, fs) : Xc), ρ[i]? with
    | some (_, fs), some none => optR (fs.lookup f) S
    | _, _ => .stuck) Q (XW W0 σ) := q
  cases e : ρ[i]? with
  | none => rw [e] at q; exact (show False from q).elim
  | some o =>
    cases o with
    | some d => rw [e] at q; exact (show False from q).elim
    | none =>
      rw [e] at q
      dsimp only at q
      cases e2 : fs.lookup f with
      | none => rw [e2] at q; exact (show False from q).elim
      | some d =>
        rw [e2] at q
        obtain ⟨v, g1, g2⟩ := RF.look (N := N.on (some ⟨dd, gs, fs, C, a, some i⟩)) (y := nm) (by show N.fld[f]? = some nm; rw [← E.tfl]; exact hn) h2 e2
        exact ⟨.ref a, h4 i rfl e, rfl, rfl, dd, gs, v, rfl, h1, g1, Post.now (rel := relD X.K) rs q ⟨g2, look_wf h3 e2⟩⟩
/-- isinstance(err, C) in the suite -/
theorem s_xi {C : Nat} {fs : List (Nat × D)} {dd a : Addr} {gs : List (Str × V)} {i k : Nat} {oe : Obj} {pn : List (Addr × Obj)} {x c : Str} {p p2 p3 p4 : Pos} (E : ExF X.K X.mg N T G cv) (hC : C < G.exc.length) (hz : Zc (.ref (N.cad C)) (some dd) oe) (hf : ∃ vs, oe.data = .fields vs)
    (hi : X.N[i]? = some x) (hv : Vis X.env.scope x) (hs : safeN x = true) (hk : T.xnm[k]? = some c) (hg : Gl X c) (hgi : Gl X "isinstance") (hmi : X.mg "isinstance" = none) :
    PE (X.suite a ((a, oe) :: pn)) (.Call (.Name "isinstance" p) [.Name x p2, .Name c p3] [] p4) (tE (N.on (some ⟨dd, gs, fs, C, a, some i⟩)) X.K W0 (ev G cl (some (C, fs)) (.xisi i [k])).v) := by
  obtain ⟨hm, hsc⟩ := E.nm k c hk
  obtain ⟨vv, rv, uv⟩ := E.val k
  have hcl : PE (X.suite a ((a, oe) :: pn)) (.Name c p3) (tC vv) := by
    rcases hm with hm | ⟨hm, hb, hne⟩
    · exact pe_glob (X := X.suite a ((a, oe) :: pn)) hg hm rv (safe_is hsc).1
    · exact pe_bltn (X := X.suite a ((a, oe) :: pn)) hg hm hb rv hne (safe_is hsc).1
  refine peI (pe_callB (call_isX (E.cls C hC) hz hf) hgi hmi (by decide +kernel) (pa_cons (pe_var (X := X.suite a ((a, oe) :: pn)) (i := i) hi hv (safe_is hs).1 (safe_is hs).2) (pa_cons hcl pa_nil rfl) rfl) (by decide) (by decide) rfl rfl) fun σ H Q h => ?_
  obtain ⟨mu, ρ, S, re, rs, q⟩ := h
  obtain ⟨h1, h2, h3, h4⟩ := re.hx _ rfl
  have q : Post (N.on (some ⟨dd, gs, fs, C, a, some i⟩)) X.K H mu S (relD X.K) (match (some (C, fs) : Xc), ρ[i]? with
    | some (C, _), some none => .ok (.bl ([k].any fun c => (G.sub.getD C []).contains c)) S
    | _, _ => .stuck) Q (XW W0 σ) := q
  cases e : ρ[i]? with
  | none => rw [e] at q; exact (show False from q).elim
  | some o =>
    cases o with
    | some d => rw [e] at q; exact (show False from q).elim
    | none =>
      rw [e] at q
      dsimp only at q
      rw [List.any_cons, List.any_nil, Bool.or_false] at q
      exact ⟨.ref a, h4 i rfl e, vv, cv k, _, gs, rfl, uv, h1, (E.exm C k c hC hk).2, Post.now (rel := relD X.K) rs q ⟨rfl, rfl⟩⟩
/-- isinstance(err, (C, ..)) in the suite -/
def rIsXT (K : PySem.W.Frag) (D a dd : Addr) : List V → Hp → VK → Prop := fun xs H Q => ∃ (tp : Addr) (cs : List V) (us : List Value) (b : Bool) (gs : List (Str × V)), xs = [.ref a, .ref tp] ∧ H tp = some (.tup cs) ∧ (∀ ws, Vals cs ws → ws = us) ∧ H dd = some (.xd gs) ∧ PySem.W.kitAny K (.ref D) us = some b ∧ Q (.bl b) H
theorem call_isXT {a D dd : Addr} {oe : Obj} {pn : List (Addr × Obj)} (C : ExcC X.K D) (hz : Zc (.ref D) (some dd) oe) (hf : ∃ vs, oe.data = .fields vs) : CallR (X.suite a ((a, oe) :: pn)) (.builtin "isinstance") (rIsXT X.K D a dd) := by
  intro pins s σ H xs us Q I r h
  obtain ⟨tp, cs, ws, b, gs, rfl, hT, hcs, hd, e, q⟩ := h
  obtain ⟨u1, u2, rfl, r1, r2⟩ := vals2 r
  obtain rfl : u1 = Value.ref a := r1
  obtain rfl : u2 = Value.ref tp := r2
  obtain ⟨hget, _⟩ := I.pin (a, oe) (List.mem_append.mpr (.inl List.mem_cons_self))
  obtain ⟨vs, hv⟩ := hf
  have hx : ObjOk X.prog X.w H s.heap dd (.xd gs) := I.hok dd _ hd
  obtain ⟨mA, ⟨od, es, ep, ho, _⟩, _⟩ := hx
  have J : PySem.W.InstAt s.heap a oe D (some od) := by
    obtain ⟨oc, od', oda, osl⟩ := oe
    obtain ⟨h1, h2⟩ := hz
    dsimp only at h1 h2 hv
    subst h1 h2 hv
    exact ⟨hget, rfl, rfl, ho⟩
  have hcl : (PySem.W.clsIn X.K D).isSome = true := by
    have := C.hd
    unfold PySem.W.hasDictIn at this
    cases z : PySem.W.clsIn X.K D with
    | none => rw [z] at this; cases this
    | some cd => rfl
  obtain ⟨_, its, rv, o, h1, h2, n, h3⟩ := (show ObjOk X.prog X.w H s.heap tp (.tup cs) from I.hok tp _ hT)
  obtain rfl := hcs _ rv
  obtain ⟨oc, od2, dt, sl⟩ := o
  dsimp only at h2 h3
  subst h2 h3
  exact PySem.W.kia_tup (PySem.W.kitx_exc hcl C.hg C.hk C.hs C.ha C.hn C.ht C.hm) I.kIn J h1 e (fun z => nomatch z) fun tk => ⟨.bl b, H, I.kept (t' := tk) fun _ _ z => z, rfl, q⟩
theorem kit_all {K : PySem.W.Frag} {D : Value} {g : Nat → Bool} : ∀ {ks : List Nat}, (∀ k ∈ ks, PySem.W.kitOne K D (cv k) = some (g k)) → PySem.W.kitAny K D (ks.map cv) = some (ks.any g)
  | [], _ => rfl
  | k :: ks, h => by
    have e := h k List.mem_cons_self
    rw [List.map_cons, PySem.W.kitAny, e, List.any_cons]
    cases q : g k with
    | true => rfl
    | false => exact kit_all fun j hj => h j (List.mem_cons_of_mem _ hj)
/-- a tuple of classes written out -/
theorem pa_cls {S : Sc} {a : Addr} {oe : Obj} {pn : List (Addr × Obj)} (E : ExF X.K X.mg N T G cv) (hgl : ∀ x, glB S.sc x = true → Gl X x) : ∀ {ks : List Nat} {l : List Expr}, ckX T S ks l = true → ∃ vs, PA (X.suite a ((a, oe) :: pn)) l (fun _ H Q => Q vs H) ∧ (∀ ws, Vals vs ws → ws = ks.map cv) ∧ vs.length = ks.length ∧ ∀ k ∈ ks, ∃ c, T.xnm[k]? = some c
  | [], [], _ => ⟨[], pa_nil, fun ws h => by cases h; rfl, rfl, fun k h => nomatch h⟩
  | [], _ :: _, h => by cases h
  | _ :: _, [], h => by cases h
  | k :: ks, e :: es, h => by
    obtain ⟨h1, h2⟩ := Bool.and_eq_true_iff.mp h
    obtain ⟨vs, q1, q2, q3, q4⟩ := pa_cls (a := a) (oe := oe) (pn := pn) E hgl h2
    cases e with
    | Name c p3 =>
      obtain ⟨h3, h4⟩ := Bool.and_eq_true_iff.mp h1
      have hk := of_decide_eq_true h3
      have hg := hgl c h4
      obtain ⟨hm, hsc⟩ := E.nm k c hk
      obtain ⟨vv, rv, uv⟩ := E.val k
      have hcl : PE (X.suite a ((a, oe) :: pn)) (.Name c p3) (tC vv) := by
        rcases hm with hm | ⟨hm, hb, hne⟩
        · exact pe_glob (X := X.suite a ((a, oe) :: pn)) hg hm rv (safe_is hsc).1
        · exact pe_bltn (X := X.suite a ((a, oe) :: pn)) hg hm hb rv hne (safe_is hsc).1
      refine ⟨vv :: vs, paI (pa_cons hcl q1 rfl) fun σ H Q h => h, fun ws hw => ?_, by rw [List.length_cons, List.length_cons, q3], fun j hj => ?_⟩
      · cases hw with
        | cons r1 r2 => rw [uv _ r1, q2 _ r2]; rfl
      · rcases List.mem_cons.mp hj with z | z
        · rw [z]; exact ⟨c, hk⟩
        · exact q4 j z
    | _ => cases h1
theorem s_xit {C : Nat} {fs : List (Nat × D)} {dd a : Addr} {gs : List (Str × V)} {i j : Nat} {oe : Obj} {pn : List (Addr × Obj)} {x : Str} {ks : List Nat} {l : List Expr} {p p2 p3 p4 : Pos} (E : ExF X.K X.mg N T G cv) (hC : C < G.exc.length) (hz : Zc (.ref (N.cad C)) (some dd) oe) (hf : ∃ vs, oe.data = .fields vs)
    (hi : X.N[i]? = some x) (hv : Vis X.env.scope x) (hs : safeN x = true) (hl : ckX T S ks l = true) (hfew : ks.length < 30) (hgl : ∀ x, glB S.sc x = true → Gl X x) (hgi : Gl X "isinstance") (hmi : X.mg "isinstance" = none) :
    PE (X.suite a ((a, oe) :: pn)) (.Call (.Name "isinstance" p) [.Name x p2, .Tuple l j p3] [] p4) (tE (N.on (some ⟨dd, gs, fs, C, a, some i⟩)) X.K W0 (ev G cl (some (C, fs)) (.xisi i ks)).v) := by
  obtain ⟨vs, q1, q2, q3, q4⟩ := pa_cls (a := a) (oe := oe) (pn := pn) E hgl hl
  refine peI (pe_callB (call_isXT (E.cls C hC) hz hf) hgi hmi (by decide +kernel) (pa_cons (pe_var (X := X.suite a ((a, oe) :: pn)) (i := i) hi hv (safe_is hs).1 (safe_is hs).2) (pa_cons (pe_tup q1) pa_nil rfl) rfl) (by decide) (by decide) rfl rfl) fun σ H Q h => ?_
  obtain ⟨mu, ρ, S, re, rs, q⟩ := h
  obtain ⟨h1, h2, h3, h4⟩ := re.hx _ rfl
  have q : Post (N.on (some ⟨dd, gs, fs, C, a, some i⟩)) X.K H mu S (relD X.K) (match (some (C, fs) : Xc), ρ[i]? with
    | some (C, _), some none => .ok (.bl (ks.any fun c => (G.sub.getD C []).contains c)) S
    | _, _ => .stuck) Q (XW W0 σ) := q
  cases e : ρ[i]? with
  | none => rw [e] at q; exact (show False from q).elim
  | some o =>
    cases o with
    | some d => rw [e] at q; exact (show False from q).elim
    | none =>
      rw [e] at q
      dsimp only at q
      refine ⟨.ref a, h4 i rfl e, ?_⟩
      have few : vs.length ≤ sizeLine := by
        rw [q3, sizeLine_eq]
        omega
      refine ⟨few, fun t ht => ?_⟩
      have g := Gw.laid rs (o := HO.tup vs) ht
      refine ⟨t, vs, ks.map cv, _, gs, rfl, upd_same, q2, ?_, kit_all (g := fun c => (G.sub.getD C []).contains c) fun k hk => ?_, Post.now (rel := relD X.K) g.rs (q.after g) ⟨rfl, rfl⟩⟩
      · rw [upd_ne (ne_of_none h1 ht)]; exact h1
      · obtain ⟨c, hc⟩ := q4 k hk
        exact (E.exm C k c hC hc).2
end
end Fx
set_option Elab.async false
set_option linter.all false
set_option autoImplicit false
set_option maxRecDepth 100000
set_option maxHeartbeats 400000
/-! FyI: a, b = x, y: the stores are exchanged on one line. -/
namespace Fx
open PySem PySem.Spec PyProof.Rows L2
def locL (sc : Scope) (x : Str) : Bool := match sc.names.lookup x with
  | some .local => true
  | _ => false
theorem locL_is {sc : Scope} {x : Str} (h : locL sc x = true) : sc.names.lookup x = some .local := by
  unfold locL at h
  split at h
  · assumption
  · cases h
theorem sw_par {env : PySem.Env} {x y : Str} {px py pt pt2 : Pos} {kt k2 : Nat} {a b : Expr} (hk : env.scope.kind = .function) (hx : env.scope.names.lookup x = some .local) (hy : env.scope.names.lookup y = some .local) (hl : (py.line == px.line) = true) (ne : x ≠ y) (s1 : notStar a = true) (s2 : notStar b = true)
    (f : (foldedForSure 8 a && foldedForSure 8 b) = false) (g : (constantsAlone 8 a && constantsAlone 8 b) = false) : swappedStores [.Tuple [.Name x px, .Name y py] kt pt] (.Tuple [a, b] k2 pt2) env = pure (some [x, y]) := by
  have kx : env.kindOf x = some .local := hx
  have ky : env.kindOf y = some .local := hy
  have hb : env.blockKind = .function := by unfold Env.blockKind; rw [hk]; rfl
  have z1 : ∀ {e : Expr}, notStar e = true → (match (generalizing := false) e with | .Starred .. => true | _ => false) = false := fun {e} h => by cases e <;> first | rfl | (cases h)
  have d : [x, y].eraseDups.length = 2 := by
    have e : (y == x) = false := by rw [beq_eq_false_iff_ne]; exact Ne.symm ne
    rw [List.eraseDups_cons]
    simp [e, List.eraseDups_cons]
  have all1 : [a, b].all (foldedForSure 8) = false := by simpa using f
  have all2 : [a, b].all (constantsAlone 8) = false := by simpa using g
  unfold swappedStores
  simp only [hb, List.filterMap_cons, List.filterMap_nil, List.head?_cons, Option.map_some, Option.getD_some, Expr.pos, kx, ky, hl, beq_self_eq_true, Bool.and_true, Bool.true_and, if_true, List.any_cons, List.any_nil, z1 s1, z1 s2, Bool.or_false, d, all1, all2]
  clear all1 all2 f g d z1 hx hy kx ky hb
  refine (if_neg (fun z => Bool.noConfusion (show false = true from z))).trans ((if_neg ?_).trans rfl)
  intro z
  rcases Bool.or_eq_true_iff.mp z with z | z
  · split at z
    · cases s1
    · cases z
  · split at z
    · cases s2
    · cases z
end Fx
set_option Elab.async false
set_option linter.all false
set_option autoImplicit false
set_option maxRecDepth 100000
set_option maxHeartbeats 4000000
/-! FxP: a checker of statements, and that it is right. -/
namespace Fx
open PySem PySem.Spec PyProof.Rows L2

/-! ### the checker -/
def notComp : Expr → Bool
  | .ListComp _ _ _ _ => false
  | .SetComp _ _ _ _ => false
  | .DictComp _ _ _ _ _ => false
  | _ => true
def notTup : Expr → Bool
  | .Tuple _ _ _ => false
  | e => notComp e
/-- name = [..] on one line: the list is stored ahead of the block's end -/
def swB (S : Sc) (x : Str) (p : Pos) (scope : Scope) (q : Pos) : Bool :=
  (match S.sc.names.lookup x with | some .local => true | _ => false) && (p.line == q.line) && !(scope.names.any fun (n, k) => n == x && (k == .local || k == .cell))
structure ParS where
  x : Str
  px : Pos
  y : Str
  py : Pos
  kt : Nat
  pt : Pos
  a : Expr
  b : Expr
  k2 : Nat
  pt2 : Pos
  pos : Pos
def parOf : Stmt → Option ParS
  | .Assign [.Tuple [.Name x px, .Name y py] kt pt] (.Tuple [a, b] k2 pt2) pos => some ⟨x, px, y, py, kt, pt, a, b, k2, pt2, pos⟩
  | _ => none
theorem parOf_is {s : Stmt} {q : ParS} (h : parOf s = some q) : s = .Assign [.Tuple [.Name q.x q.px, .Name q.y q.py] q.kt q.pt] (.Tuple [q.a, q.b] q.k2 q.pt2) q.pos := by
  unfold parOf at h
  split at h
  · cases h; rfl
  · cases h
structure SetS where
  o : Expr
  nm : Str
  pos' : Pos
  v : Expr
  pos : Pos
def setfOf : Stmt → Option SetS
  | .Assign [.Attribute o nm pos'] v pos => some ⟨o, nm, pos', v, pos⟩
  | _ => none
theorem setfOf_is {s : Stmt} {q : SetS} (h : setfOf s = some q) : s = .Assign [.Attribute q.o q.nm q.pos'] q.v q.pos := by
  unfold setfOf at h
  split at h
  · cases h; rfl
  · cases h
mutual
def ckS (T : Tab) : Sc → FS → Stmt → Bool
  | S, .asg i e, s => (match s with
    | .Assign [.Name x _] v _ => decide (S.nm[i]? = some x) && locB S x && ckE T S e v
    | _ => false)
  | S, .asgT is e, s => (match s with
    | .Assign [.Tuple es _ _] v _ => ckNs S is es && !S.hot && ckE T S e v && notTup v
    | _ => false)
  | S, .aug i op e, s => (match s with
    | .AugAssign (.Name x _) op' v _ => decide (S.nm[i]? = some x) && locB S x && decide (op = op') && ckE T S e v
    | _ => false)
  | S, .expr e, s => (match s with
    | .Expr v _ => ckE T S e v && notComp v
    | _ => false)
  | S, .ret e, s => (match s with
    | .Return (some v) _ => ckE T S e v
    | _ => false)
  | _, .retN, s => (match s with
    | .Return none _ => true
    | _ => false)
  | S, .ifs c t e, s => (match s with
    | .If c' t' e' _ => ckE T S c c' && ckSs T S t t' && ckSs T S e e'
    | _ => false)
  | S, .whl c b e, s => (match s with
    | .While c' b' e' _ => !S.hot && ckE T S c c' && ckSs T S b b' && ckSs T S e e'
    | _ => false)
  | S, .fr tg src b, s => (match s with
    | .For tg' it b' [] _ => !S.hot && ckG S tg tg' && ckI T S src it tg' && notSet it && ckSs T S b b'
    | _ => false)
  | _, .brk, s => (match s with
    | .Break _ => true
    | _ => false)
  | _, .cnt, s => (match s with
    | .Continue _ => true
    | _ => false)
  | _, .pass, s => (match s with
    | .Pass _ => true
    | _ => false)
  | S, .rais C es, s => (match s with
    | .Raise (some (.Call (.Name x _) (a :: l) [] _)) none _ => !S.hot && decide (T.xnm[C]? = some x) && glB S.sc x && ckEs T S es (a :: l) && decide (C < T.nx)
    | _ => false)
  | S, .tr b hs, s => (match s with
    | .Try b' (h' :: hs') [] [] _ => !S.hot && ckSs T S b b' && ckHs T S hs (h' :: hs')
    | _ => false)
  | S, .par i j a b, s => (match parOf s with
    | some q => decide (S.nm[i]? = some q.x) && decide (S.nm[j]? = some q.y) && decide (i ≠ j) && (locL S.sc q.x && locL S.sc q.y && (q.py.line == q.px.line) && decide (q.x ≠ q.y) && !(foldedForSure 8 q.a && foldedForSure 8 q.b) && !(constantsAlone 8 q.a && constantsAlone 8 q.b)) && ckE T S a q.a && ckE T S b q.b && notStar q.a && notStar q.b && !S.hot
    | none => false)
  | S, .setf o f e, s => (match setfOf s with
    | some q => ckE T S o q.o && decide (T.fld[f]? = some q.nm) && ckE T S e q.v && notComp q.v
    | none => false)
def ckSs (T : Tab) : Sc → FSs → List Stmt → Bool
  | _, .nil, l => (match l with
    | [] => true
    | _ => false)
  | S, .cons f fs, l => (match l with
    | s :: ss => ckS T S f s && ckSs T S fs ss
    | _ => false)
def ckHs (T : Tab) : Sc → FHs → List ExceptHandler → Bool
  | _, .nil, l => (match l with
    | [] => true
    | _ => false)
  | S, .cons C nm b hs, l => (match l with
    | .ExceptHandler (some (.Name x _)) n (s0 :: su) _ :: r => decide (T.xnm[C]? = some x) && glB S.sc x && (match nm, n with
        | none, none => true
        | some i, some y => decide (S.nm[i]? = some y) && (match S.sc.names.lookup y with | some .local => true | _ => false)
        | _, _ => false) && ckSs T { S with hot := true, hx := nm } b (s0 :: su) && ckHs T S hs r
    | _ => false)
end

/-! ### the context -/
structure Sx (X : Cx) (N : Nm) (T : Tab) (G : Glob) (S : Sc) (cv : Nat → Value) : Prop where
  kind : S.sc.kind = .function
  pass : S.hot = false → PassesOwn (model X.prog X.w) X.A X.env X.xe
  stk : S.hot = false → X.stack = X.env :: X.outer
  frm : S.hot = false → X.env.frame = some X.env.locals
  ex : ExF X.K X.mg N T G cv
  mke : S.hot = false → ∀ (pn : List (Addr × Obj)) (xe : Value → Shared → Prop) (W' : WX), Takes (X.tr pn xe) W' → ∀ (C : Nat) (x : Str) (flds : List Nat) (a : Expr) (l : List Expr) (fs : Env → Store → R (List D)) (p p2 : Pos), T.xnm[C]? = some x → G.exc[C]? = some flds → Gl X x →
    noStar (a :: l) = true → PA (X.tr pn xe) (a :: l) (tA N X.K W' fs) → PMk (X.tr pn xe) (.Call (.Name x p) (a :: l) [] p2) (tM N X.K W' C flds fs)
section
variable {X : Cx} {N : Nm} {T : Tab} {G : Glob} {cl : Orac} {W : WX} {S : Sc} {xc : Xc} {cv : Nat → Value}
theorem OwnFn.tr {x : Str} {g : List D → Store → R D} {fa : Addr} {fd : FuncData} {ps : List Str} {lvl : Nat} (F : OwnFn N X x g fa fd ps lvl) (pn : List (Addr × Obj)) (xe : Value → Shared → Prop) :
    OwnFn N (X.tr pn xe) x g fa fd ps lvl := ⟨F.mg, F.ok, F.room, F.kp, F.bd, F.st⟩
theorem OwnMk.tr {x : Str} {C : Nat} {g : List D → Store → R D} {fa : Addr} {fd : FuncData} {ps : List Str} {lvl : Nat} (F : OwnMk N X x C g fa fd ps lvl) (pn : List (Addr × Obj)) (xe : Value → Shared → Prop) :
    OwnMk N (X.tr pn xe) x C g fa fd ps lvl := ⟨F.mg, F.mkr, F.ok, F.room, F.bd, F.st⟩
/-- a try's body -/
theorem Kx.tr (k : Kx X N T G cl W S none) (hh : S.hot = false) (pn : List (Addr × Obj)) (xe : Value → Shared → Prop) (W' : WX) (tk : Takes (X.tr pn xe) W') : Kx (X.tr pn xe) N T G cl W' S none where
  sc := k.sc
  fn := k.fn
  nm := k.nm
  nd := k.nd
  calm := k.calm
  hu := k.hu
  tk := fun _ => tk
  own := fun _ f x e => let ⟨fa, fd, ps, lvl, F⟩ := k.own hh f x e; ⟨fa, fd, ps, lvl, F.tr pn xe⟩
  con := k.con
  blt := k.blt
  nox := k.nox
  xf := fun i x f nm p p2 e => by rw [(k.nox hh).2] at e; cases e
  xi := fun i x f nm p p2 p3 p4 e => by rw [(k.nox hh).2] at e; cases e
  xt := fun i x ks l j p p2 p3 p4 e => by rw [(k.nox hh).2] at e; cases e
  cls := k.cls
  tf := k.tf
  mko := fun _ C x f e => let ⟨fa, fd, ps, lvl, F⟩ := k.mko hh C x f e; ⟨fa, fd, ps, lvl, F.tr pn xe⟩
  ccn := k.ccn
theorem Sx.tr (s : Sx X N T G S cv) (hh : S.hot = false) (pn : List (Addr × Obj)) (xe : Value → Shared → Prop) (hp : PassesOwn (model X.prog X.w) X.A X.env xe) : Sx (X.tr pn xe) N T G S cv :=
  ⟨s.kind, fun _ => hp, fun _ => s.stk hh, fun _ => s.frm hh, s.ex, fun _ pn' xe' => s.mke hh pn' xe'⟩
theorem ckX_hot {S : Sc} {b : Bool} {h : Option Nat} : ∀ {ks : List Nat} {l : List Expr}, ckX T { S with hot := b, hx := h } ks l = true → ckX T S ks l = true
  | [], [], _ => rfl
  | [], _ :: _, z => by cases z
  | _ :: _, [], z => by cases z
  | k :: ks, e :: es, z => by
    obtain ⟨z1, z2⟩ := Bool.and_eq_true_iff.mp z
    exact Bool.and_eq_true_iff.mpr ⟨z1, ckX_hot z2⟩
/-- a clause's suite -/
theorem Kx.suite (k : Kx X N T G cl W S xc) (E : ExF X.K X.mg N T G cv) {C : Nat} {fs : List (Nat × D)} {dd a : Addr} {gs : List (Str × V)} {nm : Option Nat} {oe : Obj} {pn : List (Addr × Obj)} (hC : C < G.exc.length) (hz : Zc (.ref (N.cad C)) (some dd) oe) (hf : ∃ vs, oe.data = .fields vs) :
    Kx (X.suite a ((a, oe) :: pn)) (N.on (some ⟨dd, gs, fs, C, a, nm⟩)) T G cl W0 { S with hot := true, hx := nm } (some (C, fs)) where
  sc := k.sc
  fn := k.fn
  nm := k.nm
  nd := k.nd
  calm := fun h => by cases h
  hu := k.hu
  tk := fun h => by cases h
  own := fun h => by cases h
  con := k.con
  blt := k.blt
  nox := fun h => by cases h
  xf := fun i x f n p p2 e hi hv hs hn => by
    have e : nm = some i := e
    subst e
    exact s_xf E hC hz hf (by rw [k.nm]; exact hi) (vis_is k hv) hs hn
  xi := fun i x f c p p2 p3 p4 e hi hv hs hk hg hgi => by
    have e : nm = some i := e
    subst e
    exact s_xi E hC hz hf (by rw [k.nm]; exact hi) (vis_is k hv) hs hk (gl_is k hg) hgi (k.blt _ (by simp))
  xt := fun i x ks l j p p2 p3 p4 e hi hv hs hk hfew hgi => by
    have e : nm = some i := e
    subst e
    exact s_xit (S := S) E hC hz hf (by rw [k.nm]; exact hi) (vis_is k hv) hs (ckX_hot hk) hfew (fun x hx => gl_is k hx) hgi (k.blt _ (by simp))
  cls := k.cls
  tf := k.tf
  mko := fun h => by cases h
  ccn := k.ccn
theorem ExF.on (E : ExF X.K X.mg N T G cv) (x : Option HX) : ExF X.K X.mg (N.on x) T G cv := ⟨E.nm, E.val, E.exm, E.cls, E.fld, E.tfl, E.nx⟩
theorem Sx.suite (s : Sx X N T G S cv) (a : Addr) (pn : List (Addr × Obj)) (x : Option HX) (nm : Option Nat) : Sx (X.suite a pn) (N.on x) T G { S with hot := true, hx := nm } cv :=
  ⟨s.kind, fun h => Bool.noConfusion h, fun h => Bool.noConfusion h, fun h => Bool.noConfusion h, s.ex.on x, fun h => Bool.noConfusion h⟩

/-! ### clauses -/
def tH (N : Nm) (K : PySem.W.Frag) (G : Glob) (cl : Orac) (b : FSs) (i : Option Nat) : Addr → Value → Option Addr → TS := fun a cls d D σ H => ∃ (C : Nat) (fs : List (Nat × Fx.D)) (dd : Addr) (gs : List (Str × V)), cls = .ref (N.cad C) ∧ d = some dd ∧ C < G.exc.length ∧
  tS (N.on (some ⟨dd, gs, fs, C, a, i⟩)) K W0 (exs G cl b (some (C, fs))) D σ H
def hdEs (N : Nm) (K : PySem.W.Frag) (G : Glob) (cl : Orac) (cv : Nat → Value) : FHs → List HdE
  | .nil => []
  | .cons C nm b hs => ⟨cv C, nm, tH N K G cl b nm⟩ :: hdEs N K G cl cv hs
/-- every class that a clause names is known -/
def hsIn (T : Tab) : FHs → Bool
  | .nil => true
  | .cons C _ _ hs => (T.xnm[C]?).isSome && hsIn T hs
theorem exh_rd (hN : N.hx = none) (E : ExF X.K X.mg N T G cv) {C : Nat} {fs : List (Nat × Fx.D)} {ρ : Env} {σ : L2.St} {H : Hp} {mu : Nat → Addr} {St : Store} {dd : Addr} {gs : List (Str × V)} {D : Ends} (re : RE N X.K H mu St ρ σ) (rs : RS N X.K H mu St) (hd : H dd = some (.xd gs)) (rf : RF N X.K H mu fs gs)
    (wf : Fx.D.wfs St.length (fs.map (·.2)) = true) (hC : C < G.exc.length) : ∀ (hs : FHs), hsIn T hs = true → PostS N X.K W H mu St (exh G cl hs C fs ρ St) D → wHds X.K W D (hdEs N X.K G cl cv hs) (.ref (N.cad C)) (some dd) σ H
  | .nil, _, p => p dd gs σ H mu (Gw.refl rs) re hd rf wf
  | .cons c nm b hs, hi, p => by
    obtain ⟨h1, h2⟩ := band hi
    obtain ⟨x, hx⟩ := Option.isSome_iff_exists.mp h1
    refine ⟨_, (E.exm C c x hC hx).1, fun ht a na => ?_, fun hf => ?_⟩
    · have p : PostS N X.K W H mu St (if (G.sub.getD C []).contains c then (match (generalizing := false) nm with
        | none => (exs G cl b (some (C, fs)) ρ St).calm
        | some i => ((exs G cl b (some (C, fs)) (ρ.set i none) St).calm).gone i) else exh G cl hs C fs ρ St) D := p
      rw [if_pos ht] at p
      cases nm with
      | none =>
        exact ⟨C, fs, dd, gs, rfl, rfl, hC, mu, ρ, St, ⟨re.len, re.get, fun y hy => by cases hy; exact ⟨hd, RF.on.mp rf, wf, fun i e => by cases e⟩⟩, RS.on.mp rs, calm_on hN p⟩
      | some i =>
        refine ⟨C, fs, dd, gs, rfl, rfl, hC, mu, ρ.set i none, St, ⟨?_, fun j d h => ?_, fun y hy => ?_⟩, RS.on.mp rs, gone_on hN p⟩
        · show (ρ.set i none).length = (σ.set i (some (.ref a))).length
          rw [List.length_set, List.length_set]
          exact re.len
        · show d.wf St.length = true ∧ ∃ v, (σ.set i (some (.ref a)))[j]? = some (some v) ∧ _
          by_cases c : i = j
          · subst c
            by_cases hi : i < ρ.length
            · rw [List.getElem?_set_self hi] at h; cases Option.some.inj h
            · rw [List.getElem?_eq_none (by rw [List.length_set]; omega)] at h; cases h
          · rw [List.getElem?_set_ne c] at h
            rw [List.getElem?_set_ne c]
            exact re.get j d h
        · cases hy
          refine ⟨hd, RF.on.mp rf, wf, fun j e h => ?_⟩
          cases e
          show (σ.set i (some (.ref a)))[i]? = _
          have hi : i < ρ.length := by
            obtain ⟨l, _⟩ := List.getElem?_eq_some_iff.mp h
            rw [List.length_set] at l
            exact l
          rw [List.getElem?_set_self (by rw [← re.len]; exact hi)]
    · have p : PostS N X.K W H mu St (if (G.sub.getD C []).contains c then (match (generalizing := false) nm with
        | none => (exs G cl b (some (C, fs)) ρ St).calm
        | some i => ((exs G cl b (some (C, fs)) (ρ.set i none) St).calm).gone i) else exh G cl hs C fs ρ St) D := p
      rw [if_neg (by rw [hf]; exact Bool.false_ne_true)] at p
      exact exh_rd hN E re rs hd rf wf hC hs h2 p
theorem s_try {b : List Stmt} {h0 : ExceptHandler} {hds : List ExceptHandler} {pos : Pos} {fb : FSs} {fh : FHs} (k : Kx X N T G cl W S none) (s : Sx X N T G S cv) (hh : S.hot = false) (hi : hsIn T fh = true)
    (hb : ∀ (W' : WX) (pn : List (Addr × Obj)) (xe : Value → Shared → Prop), Takes (X.tr pn xe) W' → PassesOwn (model X.prog X.w) X.A X.env xe → PSs (X.tr pn xe) b (tS N X.K W' (exs G cl fb none))) (hd : HdsN X (h0 :: hds) (hdEs N X.K G cl cv fh)) :
    PS X (.Try b (h0 :: hds) [] [] pos) (tS N X.K W (ex G cl (.tr fb fh) none)) := by
  refine psI (s_catch (tb := fun W' => tS N X.K W' (exs G cl fb none)) (s.stk hh) (s.frm hh) (by rw [k.nm]; exact k.nd) (k.tk hh) hb hd) fun D σ H h => ?_
  obtain ⟨mu, ρ, St, re, rs, p⟩ := h
  refine ⟨mu, ρ, St, re, rs, ?_⟩
  have p : PostS N X.K W H mu St (match exs G cl fb none ρ St with
    | .exn C fs ρ' S' => if C < G.exc.length then exh G cl fh C fs ρ' S' else .stuck
    | r => r) D := p
  cases e : exs G cl fb none ρ St with
  | exn C fs ρ' S' =>
    rw [e] at p
    dsimp only at p
    split at p
    · rename_i hC
      exact fun dd gs σ' H' mu' g re' q1 q2 q3 => exh_rd (k.nox hh).1 s.ex re' g.rs q1 q2 q3 hC fh hi (PostS.after p g)
    · exact p.elim
  | nx ρ' S' => rw [e] at p; exact p
  | ret d S' => rw [e] at p; exact p
  | brk ρ' S' => rw [e] at p; exact p
  | cnt ρ' S' => rw [e] at p; exact p
  | stuck => rw [e] at p; exact p
end

/-! ### the theorem -/
section
variable {T : Tab} {G : Glob} {cl : Orac} {cv : Nat → Value}
theorem swFalse {e : Expr} {t : Option Expr} {l : Nat} {env : PySem.Env} (h : notComp e = true) : swapsWith e t l env = pure false := by
  cases e <;> first | rfl | (cases h)
theorem notTup_comp {e : Expr} (h : notTup e = true) : notComp e = true := by
  cases e <;> first | rfl | exact h | (cases h)
theorem swTup {es : List Expr} {j : Nat} {p : Pos} {e : Expr} {env : PySem.Env} (h : notTup e = true) : swappedStores [.Tuple es j p] e env = pure none := by
  cases e <;> first | rfl | (cases h)
theorem ckNs_all {S : Sc} : ∀ {is : List Nat} {es : List Expr}, ckNs S is es = true → ∀ env, (assignEach es env).map (·.2) = es.map fun e => assign e env := fun {is es} h env => by
  induction es generalizing is with
  | nil => rfl
  | cons e es ih =>
    cases is with
    | nil => cases h
    | cons i is =>
      obtain ⟨h1, h2⟩ := band h
      cases e with
      | Name x p =>
        show assign (.Name x p) env :: (assignEach es env).map (·.2) = _
        rw [ih h2]
        rfl
      | _ => cases h1
mutual
theorem ckS_ok : ∀ (f : FS) (S : Sc) (st : Stmt) {N : Nm} {X : Cx} {W : WX} {xc : Xc}, Kx X N T G cl W S xc → Sx X N T G S cv → (S.hot = false → xc = none) → ckS T S f st = true → PS X st (tS N X.K W (ex G cl f xc))
  | .asg i e, S, st, N, X, W, xc, k, s, hx, h => by
    cases st with
    | Assign ts v pos =>
      rcases ts with _ | ⟨t, _ | ⟨_, _⟩⟩ <;> first | (cases h; done) | (cases t <;> cases h; done) | skip
      cases t with
      | Name x p =>
        obtain ⟨h, h3⟩ := band h
        obtain ⟨h1, h2⟩ := band h
        have hi : X.N[i]? = some x := by rw [k.nm]; exact of_decide_eq_true h1
        have hN : X.N.Nodup := by rw [k.nm]; exact k.nd
        obtain ⟨hl, hf⟩ := loc_is k h2
        have he := (ckE_ok e S v k h3).1
        by_cases hc : notComp v = true
        · exact s_asg hN hi hl hf he (swFalse hc)
        · cases v with
          | ListComp elt gs scope lp =>
            by_cases hw : swB S x p scope lp = true
            · cases e with
              | lc own tg src cs elt' =>
                rcases gs with _ | ⟨⟨tg', iter, ifs, j⟩, _ | ⟨_, _⟩⟩ <;> first | (cases h3; done) | skip
                obtain ⟨h, ha⟩ := band h3
                obtain ⟨h, h9⟩ := band h
                obtain ⟨h, h8⟩ := band h
                obtain ⟨h, h7⟩ := band h
                obtain ⟨h, h6⟩ := band h
                obtain ⟨h, h5⟩ := band h
                obtain ⟨h, h4⟩ := band h
                obtain ⟨h, h33⟩ := band h
                obtain ⟨g1, g2⟩ := band h
                have hh : S.hot = false := by simpa using g1
                obtain rfl : j = 0 := of_decide_eq_true g2
                have bk : BlkOk X.N X.env.scope scope (ownOf S.nm own) := by
                  rw [k.nm, k.sc]
                  exact blkOk_by h33
                have ho := ownOf_snd S.nm own
                obtain ⟨w, w3⟩ := band hw
                obtain ⟨w1, w2⟩ := band w
                have hyl : X.env.scope.names.lookup x = some .local := by
                  rw [k.sc]
                  split at w1
                  · assumption
                  · cases w1
                have sw : swapsWith (.ListComp elt [⟨tg', iter, ifs, 0⟩] scope lp) (some (.Name x p)) pos.line X.env = pure true := sw_true (by rw [k.sc]; exact s.kind) hyl w2 (by simpa using w3)
                refine psI (ps_setLc (te := tE N X.K W0 (ev G cl xc elt').v) (tt := tT N X.K W0 (evs G cl xc cs).ts) (g := gF X.K tg) (py := p) (spos := pos) (k.calm hh) hN hi hyl sw (ckI_ok src S iter tg' k h6) bk (fun s H C cl' fp => pg_is (k.blk hh s H scope C cl' fp) h5) (fun s H C cl' fp => (ckEs_ok cs (inS S scope) ifs (k.blk hh s H scope C cl' fp) h8).ts (of_decide_eq_true h9))
                  (fun s H C cl' fp => (ckE_ok elt' (inS S scope) elt (k.blk hh s H scope C cl' fp) ha).1) (plainSet h7)) fun D σ H q => ?_
                rw [ho]
                exact lc_rd (k.nox hh).1 (fun i hi => of_decide_eq_true (List.all_eq_true.mp h4 i hi)) (asg_rd (f := (ev G cl xc (.lc own tg src cs elt')).v) q)
              | _ => cases h3
            · refine s_asg hN hi hl hf he ?_
              have hk : X.env.blockKind = .function := by unfold Env.blockKind; rw [k.sc, s.kind]; rfl
              have hkx : X.env.kindOf x = S.sc.names.lookup x := by show X.env.scope.names.lookup x = _; rw [k.sc]
              unfold swapsWith
              simp only [hk, hkx, Expr.pos]
              unfold swB at hw
              cases z : S.sc.names.lookup x with
              | none => rfl
              | some kd =>
                rw [z] at hw
                cases kd with
                | «local» =>
                  have hw' : (true && (p.line == lp.line) && !(scope.names.any fun (n, k) => n == x && (k == .local || k == .cell))) = false := Bool.eq_false_iff.mpr hw
                  rw [Bool.true_and] at hw'
                  show (pure ((p.line == lp.line) && !(scope.names.any fun (n, k) => n == x && (k == .local || k == .cell))) : Sem Bool) = pure false
                  rw [hw']
                | _ => rfl
          | SetComp _ _ _ _ => cases e <;> cases h3
          | DictComp _ _ _ _ _ => cases e <;> cases h3
          | _ => exact absurd rfl hc
      | _ => cases h
    | _ => cases h
  | .asgT is e, S, st, N, X, W, xc, k, s, hx, h => by
    cases st with
    | Assign ts v pos =>
      rcases ts with _ | ⟨t, _ | ⟨_, _⟩⟩ <;> first | (cases h; done) | (cases t <;> cases h; done) | skip
      cases t with
      | Tuple es j p =>
        obtain ⟨h, h4⟩ := band h
        obtain ⟨h, h3⟩ := band h
        obtain ⟨h1, h2⟩ := band h
        exact s_asgT (ckE_ok e S v k h3).1 (pg_is k (t := .tp is) (show (!S.hot && ckNs S is es) = true by rw [h2, h1]; rfl)) (by show swapsWith v (some (.Tuple es j p)) pos.line X.env = pure false; exact swFalse (notTup_comp h4)) (swTup h4) rfl
      | _ => cases h
    | _ => cases h
  | .aug i op e, S, st, N, X, W, xc, k, s, hx, h => by
    cases st with
    | AugAssign t op' v pos =>
      cases t with
      | Name x p =>
        obtain ⟨h, h4⟩ := band h
        obtain ⟨h, h3⟩ := band h
        obtain ⟨h1, h2⟩ := band h
        obtain rfl : op = op' := of_decide_eq_true h3
        obtain ⟨hl, hf⟩ := loc_is k h2
        exact s_aug (by rw [k.nm]; exact k.nd) (by rw [k.nm]; exact of_decide_eq_true h1) hl hf (ckE_ok e S v k h4).1
      | _ => cases h
    | _ => cases h
  | .expr e, S, st, N, X, W, xc, k, s, hx, h => by
    cases st with
    | Expr v pos =>
      obtain ⟨h1, h2⟩ := band h
      exact s_expr (ckE_ok e S v k h1).1 (swFalse h2)
    | _ => cases h
  | .ret e, S, st, N, X, W, xc, k, s, hx, h => by
    cases st with
    | Return v pos =>
      cases v with
      | none => cases h
      | some v => exact s_ret (ckE_ok e S v k h).1
    | _ => cases h
  | .retN, S, st, N, X, W, xc, k, s, hx, h => by
    cases st with
    | Return v pos =>
      cases v with
      | none => exact s_retN
      | some v => cases h
    | _ => cases h
  | .ifs c t e, S, st, N, X, W, xc, k, s, hx, h => by
    cases st with
    | If c' t' e' pos =>
      obtain ⟨h, h3⟩ := band h
      obtain ⟨h1, h2⟩ := band h
      exact s_if (ckE_ok c S c' k h1).2 (ckSs_ok t S t' k s hx h2) (ckSs_ok e S e' k s hx h3)
    | _ => cases h
  | .whl c b e, S, st, N, X, W, xc, k, s, hx, h => by
    cases st with
    | While c' b' e' pos =>
      obtain ⟨h, h4⟩ := band h
      obtain ⟨h, h3⟩ := band h
      obtain ⟨h1, h2⟩ := band h
      have hh : S.hot = false := by simpa using h1
      exact s_whl (s.pass hh) (ckE_ok c S c' k h2).2 (ckSs_ok b S b' k s hx h3) (ckSs_ok e S e' k s hx h4) turns
    | _ => cases h
  | .fr tg src b, S, st, N, X, W, xc, k, s, hx, h => by
    cases st with
    | For tg' it b' el pos =>
      cases el with
      | cons _ _ => cases h
      | nil =>
        obtain ⟨h, h5⟩ := band h
        obtain ⟨h, h4⟩ := band h
        obtain ⟨h, h3⟩ := band h
        obtain ⟨h1, h2⟩ := band h
        have hh : S.hot = false := by simpa using h1
        exact s_fr (s.pass hh) (k.calm hh) (ckI_ok src S it tg' k h3) (pg_is k h2) (ckSs_ok b S b' k s hx h5) (plainSet h4)
    | _ => cases h
  | .brk, S, st, N, X, W, xc, k, s, hx, h => by cases st <;> first | exact s_brk | (cases h)
  | .cnt, S, st, N, X, W, xc, k, s, hx, h => by cases st <;> first | exact s_cnt | (cases h)
  | .pass, S, st, N, X, W, xc, k, s, hx, h => by cases st <;> first | exact s_pass | (cases h)
  | .rais C es, S, st, N, X, W, xc, k, s, hx, h => by
    cases st with
    | Raise e c pos =>
      rcases e with _ | e <;> first | (cases h; done) | skip
      cases e with
      | Call f l kw p =>
        cases f with
        | Name x p2 =>
          rcases l with _ | ⟨a, l⟩ <;> first | (cases h; done) | skip
          rcases kw with _ | ⟨_, _⟩ <;> first | (cases h; done) | skip
          rcases c with _ | c <;> first | (cases h; done) | skip
          obtain ⟨h, h5⟩ := band h
          obtain ⟨h, h4⟩ := band h
          obtain ⟨h, h3⟩ := band h
          obtain ⟨h1, h2⟩ := band h
          have hh : S.hot = false := by simpa using h1
          have q := ckEs_ok es S (a :: l) k h4
          cases ee : G.exc[C]? with
          | none =>
            have l1 : C < T.nx := of_decide_eq_true h5
            have l2 := s.ex.nx
            rw [List.getElem?_eq_none_iff] at ee
            omega
          | some flds =>
            have he := s.mke hh X.pn X.xe W (k.tk hh) C x flds a l _ p2 p (of_decide_eq_true h2) ee (gl_is k h3) q.st q.vs
            have r := s_rais (pos := pos) (k.calm hh) (k.tk hh) he
            refine psI r fun D σ H r => ?_
            obtain ⟨mu, ρ, St, re, rs, pp⟩ := r
            refine ⟨mu, ρ, St, re, rs, ?_⟩
            have pp : PostS N X.K W H mu St (((evs G cl xc es).vs ρ St).toS ρ fun ds S1 => (match G.exc[C]? with
              | some fs => if ds.length = fs.length then .exn C (fs.zip ds).reverse ρ S1 else .stuck
              | none => .stuck)) D := pp
            rw [ee] at pp
            exact pp
        | _ => cases h
      | _ => cases h
    | _ => cases h
  | .par i j a b, S, st, N, X, W, xc, k, s, hx, h => by
    cases e : parOf st with
    | none =>
      have h : (match parOf st with
        | some q => _
        | none => false) = true := h
      rw [e] at h
      cases h
    | some q =>
      have h : (match parOf st with
        | some q => decide (S.nm[i]? = some q.x) && decide (S.nm[j]? = some q.y) && decide (i ≠ j) && (locL S.sc q.x && locL S.sc q.y && (q.py.line == q.px.line) && decide (q.x ≠ q.y) && !(foldedForSure 8 q.a && foldedForSure 8 q.b) && !(constantsAlone 8 q.a && constantsAlone 8 q.b)) && ckE T S a q.a && ckE T S b q.b && notStar q.a && notStar q.b && !S.hot
        | none => false) = true := h
      rw [e] at h
      obtain ⟨h, ha⟩ := band h
      obtain ⟨h, h9⟩ := band h
      obtain ⟨h, h8⟩ := band h
      obtain ⟨h, h7⟩ := band h
      obtain ⟨h, h6⟩ := band h
      obtain ⟨h, h5⟩ := band h
      obtain ⟨h, h3⟩ := band h
      obtain ⟨h1, h2⟩ := band h
      obtain ⟨h5, h56⟩ := band h5
      obtain ⟨h5, h55⟩ := band h5
      obtain ⟨h5, h54⟩ := band h5
      obtain ⟨h5, h53⟩ := band h5
      obtain ⟨h51, h52⟩ := band h5
      have l1 : X.env.scope.names.lookup q.x = some .local := by rw [k.sc]; exact locL_is h51
      have l2 : X.env.scope.names.lookup q.y = some .local := by rw [k.sc]; exact locL_is h52
      have hh : S.hot = false := by simpa using ha
      rw [parOf_is e]
      exact s_par (k.calm hh) (by rw [k.nm]; exact k.nd) (by rw [k.nm]; exact of_decide_eq_true h1) (by rw [k.nm]; exact of_decide_eq_true h2) (of_decide_eq_true h3) l1 l2 (ckE_ok a S q.a k h6).1 (ckE_ok b S q.b k h7).1 (noStar_mk h8 (noStar_mk h9 rfl))
        (sw_par (by rw [k.sc]; exact s.kind) l1 l2 h53 (of_decide_eq_true h54) h8 h9 (by rwa [Bool.not_eq_true'] at h55) (by rwa [Bool.not_eq_true'] at h56))
  | .setf o f e, S, st, N, X, W, xc, k, s, hx, h => by
    cases z : setfOf st with
    | none =>
      have h : (match setfOf st with
        | some q => _
        | none => false) = true := h
      rw [z] at h
      cases h
    | some q =>
      have h : (match setfOf st with
        | some q => ckE T S o q.o && decide (T.fld[f]? = some q.nm) && ckE T S e q.v && notComp q.v
        | none => false) = true := h
      rw [z] at h
      obtain ⟨h, h4⟩ := band h
      obtain ⟨h, h3⟩ := band h
      obtain ⟨h1, h2⟩ := band h
      have hf := of_decide_eq_true h2
      rw [setfOf_is z]
      exact s_setf (G := G) (by rw [← k.tf]; exact hf) (fun C l hl => k.cls C l f q.nm hl hf) (ckE_ok o S q.o k h1).1 (ckE_ok e S q.v k h3).1 (swFalse h4)
  | .tr b hs, S, st, N, X, W, xc, k, s, hx, h => by
    cases st with
    | Try b' hs' oe fin pos =>
      rcases hs' with _ | ⟨h0, hs'⟩ <;> first | (cases h; done) | skip
      rcases oe with _ | ⟨_, _⟩ <;> first | (cases h; done) | skip
      rcases fin with _ | ⟨_, _⟩ <;> first | (cases h; done) | skip
      obtain ⟨h, h3⟩ := band h
      obtain ⟨h1, h2⟩ := band h
      have hh : S.hot = false := by simpa using h1
      obtain rfl := hx hh
      obtain ⟨q1, q2⟩ := ckHs_ok hs S (h0 :: hs') k s h3
      exact s_try k s hh q2 (fun W' pn xe tk hp => ckSs_ok b S b' (k.tr hh pn xe W' tk) (s.tr hh pn xe hp) (fun _ => rfl) h2) q1
    | _ => cases h
theorem ckSs_ok : ∀ (f : FSs) (S : Sc) (st : List Stmt) {N : Nm} {X : Cx} {W : WX} {xc : Xc}, Kx X N T G cl W S xc → Sx X N T G S cv → (S.hot = false → xc = none) → ckSs T S f st = true → PSs X st (tS N X.K W (exs G cl f xc))
  | .nil, S, st, N, X, W, xc, k, s, hx, h => by
    cases st with
    | nil => exact s_snil
    | cons _ _ => cases h
  | .cons f fs, S, st, N, X, W, xc, k, s, hx, h => by
    cases st with
    | nil => cases h
    | cons a l =>
      obtain ⟨h1, h2⟩ := band h
      exact s_scons (ckS_ok f S a k s hx h1) (ckSs_ok fs S l k s hx h2)
theorem ckHs_ok : ∀ (f : FHs) (S : Sc) (l : List ExceptHandler) {N : Nm} {X : Cx} {W : WX} {xc : Xc}, Kx X N T G cl W S xc → Sx X N T G S cv → ckHs T S f l = true → HdsN X l (hdEs N X.K G cl cv f) ∧ hsIn T f = true
  | .nil, S, l, N, X, W, xc, k, s, h => by
    cases l with
    | nil => exact ⟨.nil, rfl⟩
    | cons _ _ => cases h
  | .cons C nm b hs, S, l, N, X, W, xc, k, s, h => by
    cases l with
    | nil => cases h
    | cons hd r =>
      obtain ⟨ty, n, bd, pos⟩ := hd
      rcases ty with _ | ty <;> first | (cases h; done) | skip
      cases ty with
      | Name x p =>
        rcases bd with _ | ⟨s0, su⟩ <;> first | (cases h; done) | skip
        obtain ⟨h, h5⟩ := band h
        obtain ⟨h, h4⟩ := band h
        obtain ⟨h, h3⟩ := band h
        obtain ⟨h1, h2⟩ := band h
        have hx := of_decide_eq_true h1
        obtain ⟨q1, q2⟩ := ckHs_ok hs S r k s h5
        obtain ⟨e1, e2⟩ := s.ex.nm C x hx
        refine ⟨.cons ⟨gl_is k h2, (safe_is e2).1, e1⟩ ?_ (fun a oe cls d pn hz hf => .mk fun pins sh σ H D I q => ?_) q1, ?_⟩
        · cases nm with
          | none =>
            cases n with
            | none => trivial
            | some _ => cases h3
          | some i =>
            cases n with
            | none => cases h3
            | some y =>
              obtain ⟨g1, g2⟩ := band h3
              refine ⟨by rw [k.nm]; exact of_decide_eq_true g1, ?_⟩
              show X.env.scope.names.lookup y = _
              rw [k.sc]
              split at g2
              · assumption
              · cases g2
        · obtain ⟨C', fs, dd, gs, rfl, rfl, hC, q⟩ := q
          exact (ckSs_ok b { S with hot := true, hx := nm } (s0 :: su) (k.suite s.ex (gs := gs) (fs := fs) (nm := nm) hC hz hf) (s.suite a ((a, oe) :: pn) _ nm) (fun z => by cases z) h4).run pins sh σ H D I q
        · show ((T.xnm[C]?).isSome && hsIn T hs) = true
          rw [hx, q2]
          rfl
      | _ => cases h
end
end
end Fx
set_option Elab.async false
set_option linter.all false
set_option autoImplicit false
set_option maxRecDepth 100000
set_option maxHeartbeats 4000000
/-! FxQ: super().__init__(text) in the __init__ of an own error under ValueError. -/
namespace Fx
open PySem PySem.Spec PyProof.Rows L2

/-- what the __init__ at f of the class at C asks of the written part: cc its cell, whose class is C -/
structure SupC (K : PySem.W.Frag) (prog : Program) (C f cc cda : Addr) (fd : FuncData) : Prop where
  fn : ∃ oc od osl, K.lookup f = some ⟨oc, od, .func fd, osl⟩
  cell : ∃ cl cld csl, K.lookup cc = some ⟨cl, cld, .cell (some (.ref C)), csl⟩
  code : ∃ ccl cdd vs ccs file tf, K.lookup cda = some ⟨ccl, cdd, .fields vs, ccs⟩ ∧ vs[2]? = some (.str file tf) ∧ ((prog.main.file : Str) == file) = true
  self : ∃ ar, (fd.params.posonlyargs ++ fd.params.args).head? = some ar ∧ ar.arg = "self"
  top : (prog.main.scope.names.lookup ("super" : Str)).isSome = false
  sup : PySem.W.ks_superIn K C C "__init__" = some (some (.builtin "ValueError.__init__"))
  subD : PySem.W.mroIn K C (.ref C) = some true
  subV : PySem.W.subIn K (.ref C) (.type "ValueError") = some true
  opq : PySem.W.nsIn K PySem.cStatics "thirdparty.any" = some none
section
variable {prog : Program} {w : World} {A : Around} {E : Value → Shared → Prop} {h : Heap} {g : Array GenState} {d : Drawn} {t : Nat} {os : OsState}
/-- ValueError.__init__ bound to the object at x, called -/
theorem call_mw {u x C : Addr} {rest : List Value} {t0 : Addr} {Q : Value → Shared → Prop} {K : PySem.W.Frag} (T : OexC K C) (X : K.In h) (hu : h.get? u = some (PySem.W.kxs_mw "ValueError.__init__" x)) (he : h.get? x = some (PySem.W.excObj C t0 none .none)) (hz : rest.length ≤ sizeLine)
    (k : ∀ h' t1, (∀ b o, b ≠ x → h.get? b = some o → h'.get? b = some o) → h'.get? x = some (PySem.W.excObj C t1 none .none) → Q .none ⟨h', g, d, t, os⟩) : wpAny (model prog w) A (call (.ref u) rest) Q E ⟨h, g, d, t, os⟩ := by
  obtain ⟨nm, q, N, bs, bm, sn, sub, ab, col, dd, k0, k1, k2, k3, k5, hC, hbm⟩ := T.cls
  have B := F.excBase_ValueError
  refine wpAny_call (codeAny_of_tree (show wpAny _ A.in1 (callAny (.ref u) ⟨rest, []⟩) _ _ _ from ?_))
  unfold callAny; refine wpAny_bind (wpAny_load hu ?_)
  simp only [PySem.W.kxs_mw, show (Value.type "method-wrapper" == Value.type "method" || Value.type "method-wrapper" == Value.type "builtin_function_or_method" || Value.type "method-wrapper" == Value.type "method-wrapper") = true from by decide, if_true]
  refine PySem.W.KFB.if_so (by decide) (wpAny_bind (PySem.W.check_bound_init B.toExcCallFacts (X _ _ hC) he rfl (wpAny_bind (wpAny_pure (wpAny_pure ⟨PySem.plainId_quiet B.init.plain _, codeAny_builtin B.initEntry ?_⟩)))))
  exact PySem.W.exc_init_tree (cls := .ref C) (t0 := t0) (dv := none) (c2 := .none) (c3 := .none) (b4 := .bool false) he hz fun h' a b c => k h' _ a b
end
theorem eval_sup {msg : Str} {j : Nat} {p0 p1 p2 p3 p4 : Pos} {env : PySem.Env} (hline : (p2.endLine == p4.line) = true) : eval (.Call (.Attribute (.Call (.Name "super" p0) [] [] p1) "__init__" p2) [.Constant (.str msg) j p3] [] p4) env = (do
      let ov ← attributeBase (.Call (.Name "super" p0) [] [] p1) "__init__" env (eval (.Call (.Name "super" p0) [] [] p1) env)
      standAt p2.atName
      let (f, first) ← holding [ov] (getMethod ov "__init__" (do return (← importBound (.Call (.Name "super" p0) [] [] p1) env).getD true))
      callWith p4 f first (backTo p4 (starEach [.Constant (.str msg) j p3] env)) []) := by
  have e : methodCallPos true (.Call (.Name "super" p0) [] [] p1) env p2 p4 = pure p4 := by unfold methodCallPos; rw [hline]; rfl
  show (do
    let ov ← attributeBase (.Call (.Name "super" p0) [] [] p1) "__init__" env (eval (.Call (.Name "super" p0) [] [] p1) env)
    standAt p2.atName
    methodCall (.Call (.Name "super" p0) [] [] p1) "__init__" p2 p4 env ov 1 (backTo p4 (starEach [.Constant (.str msg) j p3] env)) []) = _
  unfold methodCall
  rw [show methodCallForm 1 (backTo p4 (starEach [.Constant (.str msg) j p3] env)) [] = true from rfl, e]
  simp only [pure_bind]
  rfl
section
variable {X : Cx} {pins : List (Addr × Obj)} {σ : L2.St} {H : Hp} {s : Shared} {E : Value → Shared → Prop}
theorem s_super {C f cc cda a : Addr} {fd : FuncData} {body : List Stmt} {qual msg : Str} {scope : Scope} {L j : Nat} {p0 p1 p2 p3 p4 p5 : Pos} (hline : (p2.endLine == p4.line) = true) (P : SupC X.K X.prog C f cc cda fd) (T : OexC X.K C) (I : Inv X pins σ H s) (henv : X.env = PySem.W.ksEnv qual scope L f (.ref cda) cc) (hk : scope.kind = .function)
    (hks : scope.names.lookup ("super" : Str) = some .globalImplicit) (hkc : scope.names.lookup ("__class__" : Str) = some .free) (hka : scope.names.lookup ("self" : Str) = some .local) (hm : X.mg "super" = none) (h0 : X.N[0]? = some ("self" : Str)) (h1 : σ[0]? = some (some (.ref a))) (ea : H a = some (exo a C none)) :
    PySem.wpAt (model X.prog X.w) X.A (.func body X.env) (exec (.Expr (.Call (.Attribute (.Call (.Name "super" p0) [] [] p1) "__init__" p2) [.Constant (.str msg) j p3] [] p4) p5) X.env) (fun fl s' => fl = .next ∧ Inv X pins σ H s') E s := by
  obtain ⟨oc, od, osl, lf⟩ := P.fn
  obtain ⟨cl, cld, csl, lc⟩ := P.cell
  obtain ⟨ccl, cdd, vs, ccs, file, tf, lcd, lvs, lfile⟩ := P.code
  obtain ⟨ar, har, harg⟩ := P.self
  have KI := I.kIn
  obtain ⟨t1, ho⟩ := exo_at I.hok ea
  obtain ⟨m, hn, hl⟩ := id I.loc
  obtain ⟨nm, q, N, bs, bm, sn, sub, ab, col, dd, k0, k1, k2, k3, k5, hC, hbm⟩ := id T.cls
  obtain ⟨cd, hcl⟩ : ∃ cd, PySem.W.clsIn X.K C = some cd := ⟨_, by unfold PySem.W.clsIn; rw [hC] <;> rfl⟩
  have IA : PySem.W.InstAt s.heap a (PySem.W.excObj C t1 none .none) C none := ⟨ho, rfl, rfl, trivial⟩
  obtain ⟨u, ru, lu⟩ := hl 0 "self" (.ref a) h0 h1 (.inl (by rw [henv]; exact hka))
  obtain rfl : u = Value.ref a := ru
  have hm0 : m "self" = some (.ref a) := by
    rcases lu with ⟨_, e⟩ | ⟨z, _⟩
    · exact e
    · have z' : scope.names.lookup ("self" : Str) = some .cell ∨ scope.names.lookup ("self" : Str) = some .free := by rw [henv] at z; exact z
      rw [hka] at z'
      rcases z' with z' | z' <;> cases z'
  obtain ⟨oD, hD1, hD2⟩ : ∃ oD, s.heap.get? C = some oD ∧ oD.data = .cls cd := by
    unfold PySem.W.clsIn at hcl
    split at hcl
    · rename_i c d cd' sl e
      cases hcl
      exact ⟨_, KI _ _ e, rfl⟩
    · cases hcl
  have Jn : ∀ h' t' : _, (∀ b o, b ≠ a → s.heap.get? b = some o → h'.get? b = some o) → (∃ t2, h'.get? a = some (PySem.W.excObj C t2 none .none)) → Inv X pins σ H { s with heap := h', toks := t' } := fun h' t' k ⟨t2, hx⟩ => by
    have J := I.write (t' := t') (x := a) (e := a) (o := exo a C none) (by rw [ea]; exact True.intro) (.inl rfl) k ⟨_, hx⟩ (exo_ok hx)
    have eu : upd H a (exo a C none) = H := by
      funext b
      by_cases hb : b = a
      · rw [hb, upd_same, ea]
      · rw [upd_ne hb]
    rwa [eu] at J
  obtain ⟨mb, hb1, hb2⟩ := I.ok.mod.blt
  have hG := I.ok.mod.glob.keeps I.bk
  have hB := hb1.keeps I.bk
  clear hl
  generalize hX : X.env = env at *
  subst henv
  obtain ⟨hp, g, d, t, os⟩ := s
  refine PySem.ks_wpAt_Expr_any ?_ (by simp [interactive, hk]) rfl
  refine PySem.ks_wpAt_MethodCall ?_ (eval_sup hline)
  refine PySem.ks_wpAt_super_base (env := PySem.W.ksEnv qual scope L f (.ref cda) cc) hks hkc rfl rfl (KI _ _ lf) rfl har rfl (KI _ _ lcd) rfl lvs lfile P.top ?_
  refine PySem.W.ks_loadName_global hk hks (Calls.loadGlobal_builtin (env := PySem.W.ksEnv qual scope L f (.ref cda) cc) hG hm hB ((hb2 "super" (by decide)).trans (by decide +kernel)) ⟨rfl, ?_⟩)
  refine wpAny_loadName_free hk hkc rfl ⟨_, KI _ _ lc, rfl⟩ ?_
  refine wpAny_loadName_local hk (name := ar.arg) (by rw [harg]; exact hka) hn (by rw [harg]; exact hm0) ?_
  refine PySem.ks_wpAny_isType_cls hD1 hD2 ⟨rfl, ?_⟩
  refine PySem.ks_wpAny_call_super hD1 hD2 IA.at_ IA.cls (fun c e => by cases e) (PySem.W.looks_mroIn KI P.subD) fun h2 e2 kp2 => ?_
  have KI2 : X.K.In h2 := KI.keeps kp2
  have IA2 : PySem.W.InstAt h2 a (PySem.W.excObj C t1 none .none) C none := ⟨kp2 _ _ ho, rfl, rfl, trivial⟩
  have hsup := P.sup
  unfold PySem.W.ks_superIn at hsup
  rw [hcl] at hsup
  refine PySem.W.kxs_getMethod PySem.W.kxs_ValueError e2 (PySem.W.looks_opaque KI2 P.opq) (l₀ := cd.mro) (fun A Q E s k q => wpAny_bind ((PySem.W.looks_clsIn KI2 hcl) A _ E s k (wpAny_pure q))) rfl KI2 hsup (IA2.type.andThen (PySem.W.looks_subIn KI2 P.subV)) (PySem.W.ks_ne KI2 IA2 hcl) rfl ?_
  have kp3 : ∀ b o, hp.get? b = some o → (h2.push (PySem.W.kxs_mw "ValueError.__init__" a)).get? b = some o := fun b o e => Heap.get?_push_of_some _ (kp2 b o e)
  refine PySem.W.kxs_callWith (i := "ValueError.__init__") (x := a) rfl (Calls.evalArgs_plain (Calls.spliced_cons (Calls.Constant_str (k := j) (pos := p3) (Calls.spliced_nil ⟨Heap.get?_push_size _ rfl, ?_⟩))))
  refine call_mw T (KI.keeps kp3) (Heap.get?_push_size _ rfl) (kp3 _ _ ho) (by rw [sizeLine_eq]; exact (show 1 ≤ 16777216 from by decide)) fun h5 t5 k5 e5 => ?_
  exact ⟨rfl, Jn h5 _ (fun b o hb e => k5 b o hb (kp3 b o e)) ⟨t5, e5⟩⟩
end
end Fx
set_option Elab.async false
set_option linter.all false
set_option autoImplicit false
set_option maxRecDepth 100000
set_option maxHeartbeats 4000000
/-! FxR: the __init__ of an own error: super().__init__(text), then self.f = p, .. -/
namespace Fx
open PySem PySem.Spec PyProof.Rows L2

/-! ### the stores -/
def stB (N : List Str) (sc : Scope) : Nat → List Str → List Stmt → Bool
  | _, [], [] => true
  | i, f :: fs, .Assign [.Attribute (.Name o _) g _] (.Name x _) _ :: r => decide (o = "self") && decide (f = g) && decide (N[i]? = some x) && visB sc x && safeN x && stB N sc (i + 1) fs r
  | _, _, _ => false
def tSts (K : PySem.W.Frag) : Nat → List Str → TS
  | _, [] => tNext
  | i, f :: fs => tSeq (tOst K f (tVar 0) (tVar i)) (tSts K (i + 1) fs)
section
variable {X : Cx}
theorem visX {x : Str} (h : visB X.env.scope x = true) : Vis X.env.scope x := by
  unfold visB at h
  split at h
  · rename_i e; exact .inl e
  · rename_i e; exact .inr (.inl e)
  · rename_i e; exact .inr (.inr e)
  · cases h
theorem sts_ok (h0 : X.N[0]? = some ("self" : Str)) (hv : visB X.env.scope "self" = true) : ∀ {i : Nat} {fs : List Str} {l : List Stmt}, stB X.N X.env.scope i fs l = true → PSs X l (tSts X.K i fs)
  | _, [], [], _ => pss_nil
  | _, [], _ :: _, h => by cases h
  | _, _ :: _, [], h => by cases h
  | i, f :: fs, st :: r, h => by
    cases st with
    | Assign ts v pos =>
      rcases ts with _ | ⟨t, _ | ⟨_, _⟩⟩ <;> first | (cases h; done) | (cases t <;> cases h; done) | skip
      · cases t with
        | Attribute o g p =>
          cases o with
          | Name o p2 =>
            cases v with
            | Name x p3 =>
              obtain ⟨h, h6⟩ := band h
              obtain ⟨h, h5⟩ := band h
              obtain ⟨h, h4⟩ := band h
              obtain ⟨h, h3⟩ := band h
              obtain ⟨h1, h2⟩ := band h
              obtain rfl : o = ("self" : Str) := of_decide_eq_true h1
              obtain rfl : f = g := of_decide_eq_true h2
              exact pss_cons (ps_ost (pe_var h0 (visX hv) (by decide) (by decide)) (pe_var (of_decide_eq_true h3) (visX h4) (safe_is h5).1 (safe_is h5).2) rfl) (sts_ok h0 hv h6)
            | _ => cases h
          | _ => cases h
        | _ => cases h
      · cases t with
        | Attribute o g p => cases o <;> cases v <;> cases h
        | _ => cases h
    | _ => cases h
end
/-- .. where the dict stands -/
theorem sts_old {K : PySem.W.Frag} {C a d : Addr} (T : OexC K C) {σ : L2.St} {D : Ends} (h0 : σ[0]? = some (some (.ref a))) : ∀ {fs : List Str} {ys : List V} {i : Nat} {H : Hp} {gs : List (Str × V)}, (∀ f ∈ fs, PySem.W.findIn K (.ref C) f = some none) → ys.length = fs.length → (∀ k y, ys[k]? = some y → σ[i + k]? = some (some y)) →
    H a = some (exo a C (some d)) → H d = some (exd d gs) → gs.length + fs.length ≤ 900 → d ≠ a →
    (∀ H2, H2 a = some (exo a C (some d)) → H2 d = some (exd d ((fs.zip ys).reverse ++ gs)) → (∀ b, b ≠ a → b ≠ d → H2 b = H b) → D.nx σ H2) → tSts K i fs D σ H
  | [], [], i, H, gs, _, _, _, ea, ed, _, _, q => q H ea ed fun _ _ _ => rfl
  | [], _ :: _, _, _, _, _, e, _, _, _, _, _, _ => by cases e
  | _ :: _, [], _, _, _, _, e, _, _, _, _, _, _ => by cases e
  | f :: fs, y :: ys, i, H, gs, hf, e, hs, ea, ed, hl, hn, q => by
    rw [List.length_cons] at hl
    have hy : σ[i]? = some (some y) := hs 0 y rfl
    refine ⟨y, hy, .ref a, h0, a, C, rfl, T, hf f (List.mem_cons_self ..), .inr ⟨d, gs, ea, ed, by omega, ?_⟩⟩
    refine sts_old (i := i + 1) T h0 (fun g hg => hf g (List.mem_cons_of_mem _ hg)) (by simpa using e) (fun k z hz => ?_) (by rw [upd_ne (Ne.symm hn)]; exact ea) upd_same (by rw [List.length_cons]; omega) hn fun H2 a1 a2 a3 => q H2 a1 ?_ fun b hb hb2 => ?_
    · have := hs (k + 1) z (by simpa using hz)
      rwa [show i + (k + 1) = i + 1 + k by omega] at this
    · rw [a2, List.zip_cons_cons, List.reverse_cons, List.append_assoc]
      rfl
    · rw [a3 b hb hb2, upd_ne hb2]
theorem sts_new {K : PySem.W.Frag} {C a : Addr} (T : OexC K C) {σ : L2.St} {D : Ends} (h0 : σ[0]? = some (some (.ref a))) {fs : List Str} {ys : List V} {i : Nat} {H : Hp} (hf : ∀ f ∈ fs, PySem.W.findIn K (.ref C) f = some none) (hl : ys.length = fs.length) (hs : ∀ k y, ys[k]? = some y → σ[i + k]? = some (some y))
    (ea : H a = some (exo a C none)) (hz : fs.length ≤ 900) (h1 : fs ≠ []) (q : ∀ d H2, H d = none → d ≠ a → H2 a = some (exo a C (some d)) → H2 d = some (exd d (fs.zip ys).reverse) → (∀ b, b ≠ a → b ≠ d → H2 b = H b) → D.nx σ H2) : tSts K i fs D σ H := by
  cases fs with
  | nil => exact absurd rfl h1
  | cons f fs =>
    cases ys with
    | nil => cases hl
    | cons y ys =>
      have hy : σ[i]? = some (some y) := hs 0 y rfl
      refine ⟨y, hy, .ref a, h0, a, C, rfl, T, hf f (List.mem_cons_self ..), .inl ⟨ea, fun d hd hn => ?_⟩⟩
      rw [List.length_cons] at hz
      refine sts_old (i := i + 1) (d := d) (gs := [(f, y)]) T h0 (fun g hg => hf g (List.mem_cons_of_mem _ hg)) (by simpa using hl) (fun k z hz => ?_) upd_same (by rw [upd_ne hn, upd_same]) (by rw [List.length_singleton]; omega) hn fun H2 a1 a2 a3 => q d H2 hd hn a1 ?_ fun b hb hb2 => ?_
      · have := hs (k + 1) z (by simpa using hz)
        rwa [show i + (k + 1) = i + 1 + k by omega] at this
      · rw [a2, List.zip_cons_cons, List.reverse_cons]
      · rw [a3 b hb hb2, upd_ne hb, upd_ne hb2]

/-! ### the promise -/
/-- the __init__ of the class at C, its fields by the parameters behind self -/
def spI (C : Addr) (fs : List Str) : Sp := fun vs H Q _ => ∃ (a : Addr) (ys : List V), vs = .ref a :: ys ∧ ys.length = fs.length ∧ H a = some (exo a C none) ∧
  ∀ (d : Addr) (H2 : Hp), H d = none → d ≠ a → H2 a = some (exo a C (some d)) → H2 d = some (exd d (fs.zip ys).reverse) → (∀ b, b ≠ a → b ≠ d → H2 b = H b) → Q .non H2
/-- the text of the __init__ -/
def inB (N : List Str) (sc : Scope) (fs : List Str) : List Stmt → Bool
  | .Expr (.Call (.Attribute (.Call (.Name x _) [] [] _) m p2) [.Constant (.str _) _ _] [] p4) _ :: r => decide (x = "super") && decide (m = "__init__") && (p2.endLine == p4.line) && stB N sc 1 fs r
  | _ => false
theorem inB_is {N : List Str} {sc : Scope} {fs : List Str} {body : List Stmt} (h : inB N sc fs body = true) : ∃ (p0 p1 p2 p3 p4 p5 : Pos) (j : Nat) (msg : Str) (r : List Stmt),
    body = .Expr (.Call (.Attribute (.Call (.Name "super" p0) [] [] p1) "__init__" p2) [.Constant (.str msg) j p3] [] p4) p5 :: r ∧ (p2.endLine == p4.line) = true ∧ stB N sc 1 fs r = true := by
  unfold inB at h
  split at h
  · rename_i x p0 p1 m p2 msg j p3 p4 p5 r
    obtain ⟨h, g4⟩ := band h
    obtain ⟨h, g3⟩ := band h
    obtain ⟨g1, g2⟩ := band h
    obtain rfl : x = ("super" : Str) := of_decide_eq_true g1
    obtain rfl : m = ("__init__" : Str) := of_decide_eq_true g2
    exact ⟨p0, p1, p2, p3, p4, p5, j, msg, r, rfl, g3, g4⟩
  · cases h
/-- the names of the __init__ -/
structure InS (N : List Str) (sc : Scope) : Prop where
  kind : sc.kind = .function
  co : sc.isCoroutine = false
  gen : sc.isGenerator = false
  nd : N.Nodup
  loc : ∀ x ∈ N, sc.names.lookup x = some .local
  self : N[0]? = some ("self" : Str)
  sup : sc.names.lookup ("super" : Str) = some .globalImplicit
  cls : sc.names.lookup ("__class__" : Str) = some .free
  nocell : ∀ y ∈ sc.names, y.2 ≠ .cell
  free : ∀ y ∈ sc.names, y.2 = .free → y.1 = "__class__"
def insB (N : List Str) (sc : Scope) : Bool := (match sc.kind with | .function => true | _ => false) && !sc.isCoroutine && !sc.isGenerator && decide N.Nodup && (N.all fun x => decide (sc.names.lookup x = some .local)) && decide (N[0]? = some ("self" : Str)) &&
  decide (sc.names.lookup ("super" : Str) = some .globalImplicit) && decide (sc.names.lookup ("__class__" : Str) = some .free) && (sc.names.all fun y => decide (y.2 ≠ .cell)) && (sc.names.all fun y => decide (y.2 = .free → y.1 = "__class__"))
theorem insB_ok {N : List Str} {sc : Scope} (h : insB N sc = true) : InS N sc := by
  unfold insB at h
  simp only [Bool.and_eq_true, List.all_eq_true, decide_eq_true_eq, Bool.not_eq_true'] at h
  obtain ⟨⟨⟨⟨⟨⟨⟨⟨⟨h1, h2⟩, h3⟩, h4⟩, h5⟩, h6⟩, h7⟩, h8⟩, h9⟩, h10⟩ := h
  refine ⟨?_, h2, h3, h4, h5, h6, h7, h8, h9, h10⟩
  split at h1
  · assumption
  · cases h1
theorem lookup_of_mem {β : Type} : ∀ {l : List (Str × β)} {x : Str} {u : β}, (l.map (·.1)).Nodup → (x, u) ∈ l → l.lookup x = some u
  | [], _, _, _, h => by cases h
  | (k, v) :: r, x, u, nd, h => by
    have nd' : k ∉ r.map (·.1) ∧ (r.map (·.1)).Nodup := by simpa using nd
    rw [List.lookup_cons]
    rcases List.mem_cons.mp h with e | h'
    · cases e; simp
    · have ne : (x == k) = false := by
        rw [beq_eq_false_iff_ne]
        rintro rfl
        exact nd'.1 (List.mem_map.mpr ⟨(x, u), h', rfl⟩)
      rw [ne]
      exact lookup_of_mem nd'.2 h'
theorem zip_look {ps : List Str} {us : List Value} {i : Nat} {x : Str} {u : Value} (nd : ps.Nodup) (hl : us.length = ps.length) (h1 : ps[i]? = some x) (h2 : us[i]? = some u) : (ps.zip us).reverse.lookup x = some u := by
  refine lookup_of_mem ?_ ?_
  · rw [List.map_reverse, List.map_fst_zip (by omega)]
    exact (List.reverse_perm ps).nodup_iff.mpr nd
  · rw [List.mem_reverse]
    exact List.mem_of_getElem? (by rw [List.getElem?_zip_eq_some]; exact ⟨h1, h2⟩)
section
variable {P : Program} {w : World} {K : PySem.W.Frag} {mg : Str → Option Value} {base : Heap} {C f cc cda : Addr} {name qual : Str} {params : Arguments} {body : List Stmt} {scope : Scope} {dV kV doc pm ct : Value} {an : Option Addr} {N fs : List Str}
/-- the context of the __init__'s body -/
def cxI (P : Program) (w : World) (K : PySem.W.Frag) (mg : Str → Option Value) (base : Heap) (N : List Str) (qual : Str) (scope : Scope) (f cc cda : Addr) (A : Around) (outer : List PySem.Env) (s : Shared) (H : Hp) : Cx where
  prog := P
  w := w
  K := K
  mg := mg
  base := base
  A := A.deeper (PySem.W.ksEnv qual scope s.heap.objs.size f (.ref cda) cc)
  N := N
  s_0 := s
  H_0 := H
  env := PySem.W.ksEnv qual scope s.heap.objs.size f (.ref cda) cc
  outer := outer
  stack := PySem.W.ksEnv qual scope s.heap.objs.size f (.ref cda) cc :: outer
  ex := []
  calm := true
  fn := fun _ => false
  pn := []
  xe := fun _ _ => False
theorem ok_init {CX : CXT} (S : SupC K P C f cc cda (PySem.W.ksFn name qual params body scope dV kV doc pm an (.ref cda) ct cc)) (T : OexC K C) (hcd : PySem.W.codeIn K (.ref cda) qual = true) (I0 : InS N scope) (hb : inB N scope fs body = true) (hN : N.length = fs.length + 1)
    (hf : ∀ g ∈ fs, PySem.W.findIn K (.ref C) g = some none) (hz : fs.length ≤ 900) (h1 : fs ≠ []) (hm : mg "super" = none) : FnOk P w K mg base CX 1 f (PySem.W.ksFn name qual params body scope dV kV doc pm an (.ref cda) ct cc) N (spI C fs) := by
  have len : ∀ vs H Q E, spI C fs vs H Q E → vs.length = N.length := fun vs H Q E h => by
    obtain ⟨a, ys, rfl, e, _⟩ := h
    rw [List.length_cons, e, hN]
  refine ⟨len, fun A outer s H args us vs Q E hr e0 hbd r hsp => ?_⟩
  have hl := len _ _ _ _ hsp
  have hl2 : us.length = N.length := by rw [← r.length]; exact hl
  obtain ⟨oc, od, osl, lf⟩ := S.fn
  obtain ⟨cl, cld, csl, lc⟩ := S.cell
  have KX : K.In s.heap := e0.mod.kin.keeps fun b o e => (e0.bs b o e).1
  have lim : s.heap.NoLimit := e0.mod.nolimit.keeps fun b o e => (e0.bs b o e).1
  have hd : A.depth < recursionLimit := by have := hr.dp; omega
  refine ks_codeAny_call_defAt hd (KX _ _ lf) rfl lim (PySem.W.codeRec_of KX hcd) rfl hbd I0.nocell (fun x hx => I0.loc _ (List.of_mem_zip hx).1) (fun h0 hns kp => ?_) I0.co I0.gen I0.kind
  obtain ⟨a, ys, rfl, hy, ea, hQ⟩ := hsp
  have cne : ∀ {x : Str} {c : Addr}, ([("__class__", cc)] : List (Str × Addr)).lookup x = some c → x = "__class__" ∧ c = cc := fun {x c} e => by
    rw [List.lookup_cons] at e
    split at e
    · rename_i q
      cases e
      exact ⟨by simpa using q, rfl⟩
    · cases e
  have hcc : H cc = none := by
    have q := e0.mod.kin _ _ lc
    exact (e0.bs _ _ q).2
  have J : Inv (cxI P w K mg base N qual scope f cc cda A outer s H) [] (start N (.ref a :: ys)) H { s with heap := h0, toks := s.toks + (N.zip us).length } := by
    refine ⟨⟨e0.mod, I0.kind, rfl, rfl, Nat.le_refl _, fun y z c e1 e2 => ?_, fun y hy => ?_, fun y c z => (by cases z), fun _ => hr.hd, Around.frames_deeper e0.frames, .inr ⟨rfl, rfl⟩, fun b z => (by cases z), e0.bs, e0.bsz, fun b _ _ z => (by cases z), fun b z => (by cases z), e0.funs, e0.frf⟩,
      rfl, e0.bare, Un.kept kp, ⟨_, hns, fun i y v g1 g2 g3 => ?_⟩, fun y c e => ?_, e0.hok.fresh (Nat.le_refl _), fun y c e => ?_, fun p hp => (by cases hp), e0.hok.kept kp, ?_⟩
    · rw [(cne e1).1, (cne e2).1]
    · have hy : scope.names.lookup y = some .cell ∨ scope.names.lookup y = some .free := hy
      rcases hy with hy | hy
      · exact absurd rfl (I0.nocell _ (PySem.mem_of_lookup hy))
      · have e : y = "__class__" := I0.free _ (PySem.mem_of_lookup hy) rfl
        exact ⟨cc, by rw [e]; rfl⟩
    · have g1 : N[i]? = some y := g1
      have hi : i < (V.ref a :: ys).length := by
        rw [hl]
        exact (List.getElem?_eq_some_iff.mp g1).1
      have ha : (V.ref a :: ys)[i]? = some v := by
        unfold L2.start at g2
        rw [List.getElem?_append_left (by simpa using hi), List.getElem?_map] at g2
        cases e : (V.ref a :: ys)[i]? with
        | none => rw [e] at g2; cases g2
        | some b => rw [e] at g2; cases g2; rfl
      obtain ⟨u, hu, rv⟩ := r.get ha
      exact ⟨u, rv, .inl ⟨I0.loc _ (List.mem_of_getElem? g1), zip_look I0.nd hl2 g1 hu⟩⟩
    · obtain ⟨_, e⟩ := cne e
      exact ⟨_, by rw [e]; exact ⟨_, kp _ _ (KX _ _ lc), rfl⟩⟩
    · obtain ⟨_, e⟩ := cne e
      rw [e]
      exact hcc
    · show (L2.start N (.ref a :: ys)).length = N.length
      unfold L2.start
      rw [List.length_append, List.length_map, List.length_replicate]
      omega
  have st0 : (start N (.ref a :: ys))[0]? = some (some (.ref a)) := rfl
  have vself : visB scope "self" = true := by
    have e := I0.loc "self" (List.mem_of_getElem? I0.self)
    unfold visB
    rw [e]
  obtain ⟨p0, p1, p2, p3, p4, p5, j, msg, rest, rfl, g3, g4⟩ := inB_is hb
  refine ks_wpAt_execs_cons (ks_wpAt_mono (s_super (X := cxI P w K mg base N qual scope f cc cda A outer s H) (body := .Expr (.Call (.Attribute (.Call (.Name "super" p0) [] [] p1) "__init__" p2) [.Constant (.str msg) j p3] [] p4) p5 :: rest) g3 S T J rfl I0.kind I0.sup I0.cls (I0.loc "self" (List.mem_of_getElem? I0.self)) hm I0.self st0 ea) (fun fl s2 q => ?_) fun _ _ z => z)
  obtain ⟨rfl, J2⟩ := q
  refine wpAt_of_wpAny (wpAny_mono ((sts_ok (X := cxI P w K mg base N qual scope f cc cda A outer s H) I0.self vself g4).run [] s2 _ H { nx := fun _ H' => Q .non H', rt := Q } J2 (sts_new T st0 hf hy (fun k y hk => ?_) ea hz h1 fun d H2 q1 q2 q3 q4 q5 => hQ d H2 q1 q2 q3 q4 q5)) (fun fl s3 q => ?_) fun _ _ z => False.elim z)
  · show (L2.start N (.ref a :: ys))[1 + k]? = _
    unfold L2.start
    have hk2 := (List.getElem?_eq_some_iff.mp hk).1
    rw [List.getElem?_append_left (by simp; omega), List.getElem?_map, Nat.add_comm, List.getElem?_cons_succ, hk]
    rfl
  · cases fl with
    | next => exact let ⟨σ', H', J3, q⟩ := q; ⟨.non, H', J3.os, J3.bare, J3.base, J3.hok, rfl, q⟩
    | ret u => exact let ⟨v, σ', H', J3, rv, q⟩ := q; ⟨v, H', J3.os, J3.bare, J3.base, J3.hok, rv, q⟩
    | brk => exact let ⟨σ', H', J3, q⟩ := q; False.elim q
    | cont => exact let ⟨σ', H', J3, q⟩ := q; False.elim q
end
end Fx
set_option Elab.async false
set_option linter.all false
set_option autoImplicit false
set_option maxRecDepth 100000
set_option maxHeartbeats 4000000
/-! FxS: every def of a program keeps what the evaluator says of it. -/
namespace Fx
open PySem PySem.Spec PyProof.Rows L2

/-! ### an own error made -/
structure IniK (P : Program) (w : World) (K : PySem.W.Frag) (mg : Str → Option Value) (base : Heap) (N : Nm) (C : Nat) (x : Str) (flds : List Nat) (names : List Str) (fI : Addr) (fd : FuncData) (ps : List Str) : Prop where
  gm : mg x = some (.ref (N.cad C))
  T : OexC K (N.cad C)
  fi : PySem.W.findIn K (.ref (N.cad C)) "__init__" = some (some (.ref fI))
  ty : PySem.W.typeIn K (.ref fI) = some (.type "function")
  ok : FnOk P w K mg base (L2.CX P w) 1 fI fd ps (spI (N.cad C) names)
  bd : Binds K fd ps []
  len : names.length = flds.length
  few : names.length ≤ 900
  nm : ∀ (i f : Nat), flds[i]? = some f → N.fld[f]? = names[i]?
  db : (x == ("__debug__" : Str)) = false
section
variable {N : Nm} {K : PySem.W.Frag} {H : Hp} {mu : Nat → Addr}
theorem RF.append : ∀ {fs fs' : List (Nat × D)} {gs gs' : List (Str × V)}, RF N K H mu fs gs → RF N K H mu fs' gs' → RF N K H mu (fs ++ fs') (gs ++ gs')
  | [], fs', gs, gs', h, h' => by have h : gs = [] := h; rw [h]; exact h'
  | (f, d) :: fs, fs', gs, gs', h, h' => by
    obtain ⟨y, v, r, e, h1, h2, h3⟩ := h
    exact ⟨y, v, r ++ gs', by rw [e]; rfl, h1, h2, RF.append h3 h'⟩
theorem RF.rev : ∀ {fs : List (Nat × D)} {gs : List (Str × V)}, RF N K H mu fs gs → RF N K H mu fs.reverse gs.reverse
  | [], gs, h => by have h : gs = [] := h; rw [h]; exact rfl
  | (f, d) :: fs, gs, h => by
    obtain ⟨y, v, r, e, h1, h2, h3⟩ := h
    rw [e, List.reverse_cons, List.reverse_cons]
    exact RF.append (RF.rev h3) ⟨y, v, [], rfl, h1, h2, rfl⟩
theorem RF.zip : ∀ {flds : List Nat} {names : List Str} {ds : List D} {vs : List V}, (∀ (i f : Nat), flds[i]? = some f → N.fld[f]? = names[i]?) → names.length = flds.length → ds.length = flds.length → RVs K H mu ds vs → RF N K H mu (flds.zip ds) (names.zip vs)
  | [], [], ds, vs, _, _, e, _ => by
    cases ds with
    | nil => exact rfl
    | cons _ _ => cases e
  | [], _ :: _, _, _, _, e, _, _ => by cases e
  | _ :: _, [], _, _, _, e, _, _ => by cases e
  | f :: fl, n :: ns, ds, vs, h, e, e2, r => by
    cases ds with
    | nil => cases e2
    | cons d ds =>
      obtain ⟨v, vr, rfl, r1, r2⟩ := r
      exact ⟨n, v, ns.zip vr, rfl, h 0 f rfl, r1, RF.zip (fun i g hg => h (i + 1) g (by simpa using hg)) (by simpa using e) (by simpa using e2) r2⟩
end
section
variable {X : Cx} {N : Nm} {W : WX}
theorem pmkI {e : Expr} {t t' : L2.St → Hp → XK → Prop} (h : PMk X e t) (hi : ∀ σ H Q, t' σ H Q → t σ H Q) : PMk X e t' := fun pins s σ H Q I q => h pins s σ H Q I (hi _ _ _ q)
theorem mk_ok {C : Nat} {x : Str} {flds : List Nat} {names : List Str} {fI : Addr} {fd : FuncData} {ps : List Str} (Z : IniK X.prog X.w X.K X.mg X.base N C x flds names fI fd ps) (hr : Room 2 X.A) {a : Expr} {l : List Expr} {fs : Env → Store → R (List D)} {p p2 : Pos} (hg : Gl X x)
    (hst : noStar (a :: l) = true) (ha : PA X (a :: l) (tA N X.K W fs)) : PMk X (.Call (.Name x p) (a :: l) [] p2) (tM N X.K W C flds fs) := by
  obtain ⟨h4, h5⟩ := noStar_cons hst X.env
  refine pmkI (pmk_oex (CX := L2.CX X.prog X.w) Z.T Z.fi Z.ty Z.ok hr Z.bd .nil (fun pins σ H s e s' I c => ?_) hg Z.gm ha Z.db h4 (noStar_any p2 X.env h5).1) fun σ H Q h => ?_
  · obtain ⟨_, _, _, _, _, _, _, _, _, _, _, _, z⟩ := c
    exact z.elim
  · obtain ⟨mu, ρ, S, re, rs, q⟩ := h
    refine ⟨mu, ρ, S, re, rs, q.imp fun vs H1 q => ?_⟩
    obtain ⟨mu1, S1, ds, r, rs1, hl, q⟩ := q
    have hvl : vs.length = names.length := by rw [r.1.length, hl, Z.len]
    refine ⟨by have := Z.few; omega, fun e he => ⟨e, vs, by rw [List.append_nil], hvl, upd_same, fun d H2 hd hn h2a h2d h2o => ⟨rfl, d, _, h2a, h2d, ?_, ?_⟩⟩⟩
    · rwa [upd_ne hn] at hd
    · rw [upd_ne hn] at hd
      have e3 : upd (del H2 e) d (.xd (names.zip vs).reverse) = upd H1 d (.xd (names.zip vs).reverse) := by
        funext b
        by_cases hb : b = d
        · subst hb; rw [upd_same, upd_same]
        · rw [upd_ne hb, upd_ne hb]
          by_cases hb2 : b = e
          · subst hb2; rw [del_same, he]
          · rw [del_ne hb2, h2o b hb2 hb, upd_ne hb2]
      rw [e3]
      have g := Gw.laid rs1 (o := HO.xd (names.zip vs).reverse) hd
      exact q d _ _ g upd_same (RF.rev (RF.zip Z.nm Z.len hl (r.gw rs1 g).1))
end

/-! ### the defs -/
structure DefK (K : PySem.W.Frag) (T : Tab) (fd : FnD) (x q : Str) (st : Stmt) (nm ps : List Str) (fa : Addr) (fdt : FuncData) : Prop where
  F : FunD K x q (defArgs st) (defBody st) (defScope st) [] [] fa fdt
  S : FnScope nm ps (defScope st)
  np : ps.length = fd.np
  ns : nm.length = fd.ns
  ck : ckSs T ⟨defScope st, nm, fun _ => true, false, none⟩ fd.body (defBody st) = true
  bd : Binds K fdt ps []
structure ProgK (P : Program) (w : World) (K : PySem.W.Frag) (mg : Str → Option Value) (base : Heap) (N : Nm) (T : Tab) (G : Glob) (cv : Nat → Value) : Prop where
  defs : ∀ (f : Nat) (x : Str), T.fnm[f]? = some x → ∃ fd x' q st nm ps fa fdt, G.fns[f]? = some fd ∧ mg x = some (.ref fa) ∧ DefK K T fd x' q st nm ps fa fdt
  mks : ∀ (C : Nat) (x : Str) (f : Nat), T.cls[C]? = some (x, f) → ∃ fd x' q st nm ps fa fdt, G.fns[f]? = some fd ∧ mg x = some (.ref (N.iad C)) ∧ Mk K (N.iad C) fa ∧ DefK K T fd x' q st nm ps fa fdt
  con : ∀ (k : Nat) (x : Str), T.cnm[k]? = some x → ∃ d v u, G.consts[k]? = some d ∧ mg x = some u ∧ RelV v u ∧ (∀ H mu, RV K H mu d v) ∧ ∀ n, d.wf n = true
  blt : ∀ x ∈ (["len", "abs", "min", "max", "sum", "sorted", "tuple", "list", "int", "str", "bool", "isinstance", "range", "all", "any", "set", "enumerate", "reversed"] : List Str), mg x = none
  nox : N.hx = none
  ex : ExF K mg N T G cv
  ini : ∀ (C : Nat) (x : Str) (flds : List Nat), T.xnm[C]? = some x → G.exc[C]? = some flds → ∃ names fI fd ps, IniK P w K mg base N C x flds names fI fd ps
  cls : ∀ (C : Nat) (l : List Nat) (f : Nat) (nm : Str), G.cfl[C]? = some l → T.fld[f]? = some nm → Cls K (N.iad C) ∧ (l.contains f = true → NoAttr K (N.iad C) nm)
  ccn : ∀ (k : Nat) (x nm : Str), T.ccn[k]? = some (x, nm) → ∃ C mc d v u, G.ccons[k]? = some d ∧ mg x = some (.ref C) ∧ ClX.CRead K C mc ∧ ClX.CVal K C mc nm v u ∧ (∀ H mu, RV K H mu d v) ∧ ∀ n, d.wf n = true
section
variable {P : Program} {w : World} {K : PySem.W.Frag} {mg : Str → Option Value} {base : Heap} {N : Nm} {T : Tab} {G : Glob} {cv : Nat → Value}
theorem callN_len (Z : ProgK P w K mg base N T G cv) {n f : Nat} {fd : FnD} (e : G.fns[f]? = some fd) {ds : List D} {S : Store} (h : ds.length ≠ fd.np) : callN G n f ds S = .stuck := by
  cases n with
  | zero => rfl
  | succ n =>
    unfold callN
    rw [e]
    show runFn G (callN G n) fd ds S = .stuck
    unfold runFn
    rw [if_neg h]
theorem env0_re {H : Hp} {mu : Nat → Addr} {S : Store} {ds : List D} {vs : List V} {fd : FnD} {nm : List Str} (hN : N.hx = none) (r : relDs K H mu S ds vs) (hd : ds.length = fd.np) (hn : nm.length = fd.ns) : RE N K H mu S (env0 fd ds) (L2.start nm vs) := by
  have hl := r.1.length
  refine ⟨?_, fun i d h => ?_, fun x hx => by rw [hN] at hx; cases hx⟩
  · unfold env0 L2.start
    rw [List.length_append, List.length_append, List.length_map, List.length_map, List.length_replicate, List.length_replicate]
    omega
  · unfold env0 at h
    by_cases hi : i < ds.length
    · rw [List.getElem?_append_left (by simpa using hi), List.getElem?_map] at h
      obtain ⟨d', e1, e2⟩ := Option.map_eq_some_iff.mp h
      cases e2
      obtain ⟨v, g1, g2⟩ := r.1.get e1
      refine ⟨wfs_get r.2 e1, v, ?_, g2⟩
      unfold L2.start
      rw [List.getElem?_append_left (by simpa [hl] using hi), List.getElem?_map, g1]
      rfl
    · rw [List.getElem?_append_right (by simpa using hi), List.getElem?_replicate] at h
      split at h <;> cases h
/-- what a body's result comes to -/
theorem done_post {H : Hp} {mu : Nat → Addr} {S : Store} {r : SR} {Q : VK} {E : XK} (p : Post N K H mu S (relD K) r.done Q E) : PostS N K (fun cls d _ H => E cls d H) H mu S r { nx := fun _ H' => Q .non H', rt := Q } := by
  cases r with
  | nx ρ' S' => exact fun σ' H' mu' g e => p .non H' mu' g ⟨rfl, rfl⟩
  | ret d S' => exact p
  | brk ρ' S' => exact (show False from p).elim
  | cnt ρ' S' => exact (show False from p).elim
  | exn C fs ρ' S' => exact fun dd gs σ' H' mu' g e q1 q2 q3 => p dd gs H' mu' g q1 q2 q3
  | stuck => exact (show False from p).elim
theorem prog_ok (Z : ProgK P w K mg base N T G cv) : ∀ (n f : Nat) (fd : FnD) (x q : Str) (st : Stmt) (nm ps : List Str) (fa : Addr) (fdt : FuncData), G.fns[f]? = some fd → DefK K T fd x q st nm ps fa fdt →
    FnOk P w K mg base (L2.CX P w) (2 * n + 2) fa fdt ps (spF N K ps.length (callN G n f))
  | 0, f, fd, x, q, st, nm, ps, fa, fdt, hf, Y => by
    refine ⟨fun vs H Q E h => ?_, fun A outer s H args us vs Q E hr e0 hb r h => ?_⟩
    · obtain ⟨mu, ds, S, e, r, _⟩ := h
      rw [r.1.length, e]
    · obtain ⟨mu, ds, S, e, r, rs, p⟩ := h
      exact (show False from p).elim
  | n + 1, f, fd, x, q, st, nm, ps, fa, fdt, hf, Y => by
    refine Y.F.ok (k := 2 * n + 3) Y.S (fun vs H Q E h => ?_) fun cdv A outer s H vs Q E hr h => ?_
    · obtain ⟨mu, ds, S, e, r, _⟩ := h
      rw [r.1.length, e]
    · obtain ⟨mu, ds, S, e, r, rs, p⟩ := h
      have hr2 : Room 2 (cxOf (L2.CX P w) P w K mg base nm q (defScope st) fa cdv A outer s H E).A := hr.mono (by omega)
      have tk : Takes (cxOf (L2.CX P w) P w K mg base nm q (defScope st) fa cdv A outer s H E) (fun cls d _ H => E cls d H) := takes_of rfl rfl rfl rfl
      have k : Kx (cxOf (L2.CX P w) P w K mg base nm q (defScope st) fa cdv A outer s H E) N T G (callN G n) (fun cls d _ H => E cls d H) ⟨defScope st, nm, fun _ => true, false, none⟩ none := {
        sc := rfl
        fn := rfl
        nm := rfl
        nd := Y.S.nd
        calm := fun _ => rfl
        hu := by have := hr.un; show (A.deeper _).units + 128 < cLine; omega
        tk := fun _ => tk
        own := fun _ g y hy => by
          obtain ⟨fd', x', q', st', nm', ps', fa', fdt', e1, e2, Y'⟩ := Z.defs g y hy
          refine ⟨fa', fdt', ps', 2 * n + 2, ⟨e2, prog_ok Z n g fd' x' q' st' nm' ps' fa' fdt' e1 Y', hr.mono (by omega), Y'.F.kp, Y'.bd, fun ds S hl => callN_len Z e1 ?_⟩⟩
          rw [← Y'.np]
          exact hl
        con := Z.con
        blt := Z.blt
        nox := fun _ => ⟨Z.nox, rfl⟩
        xf := fun i x f nm p p2 e => by cases e
        xi := fun i x f nm p p2 p3 p4 e => by cases e
        xt := fun i x ks l j p p2 p3 p4 e => by cases e
        cls := Z.cls
        tf := Z.ex.tfl
        mko := fun _ C y g hy => by
          obtain ⟨fd', x', q', st', nm', ps', fa', fdt', e1, e2, e3, Y'⟩ := Z.mks C y g hy
          refine ⟨fa', fdt', ps', 2 * n + 2, ⟨e2, e3, prog_ok Z n g fd' x' q' st' nm' ps' fa' fdt' e1 Y', hr, Y'.bd, fun ds S hl => callN_len Z e1 ?_⟩⟩
          rw [← Y'.np]
          exact hl
        ccn := Z.ccn }
      have sx : Sx (cxOf (L2.CX P w) P w K mg base nm q (defScope st) fa cdv A outer s H E) N T G ⟨defScope st, nm, fun _ => true, false, none⟩ cv :=
        ⟨Y.S.kind, fun _ => passes_of rfl, fun _ => rfl, fun _ => rfl, Z.ex, fun _ pn xe W' tk' C y flds a l fs p p2 h1 h2 h3 h4 h5 => by
          obtain ⟨names, fI, fdI, psI, ZI⟩ := Z.ini C y flds h1 h2
          exact mk_ok (X := (cxOf (L2.CX P w) P w K mg base nm q (defScope st) fa cdv A outer s H E).tr pn xe) ZI hr2 h3 h4 h5⟩
      refine ⟨_, ckSs_ok (cl := callN G n) fd.body _ (defBody st) k sx (fun _ => rfl) Y.ck, mu, env0 fd ds, S, env0_re Z.nox r (e.trans Y.np) Y.ns, rs, done_post (Post.tidy rs ?_)⟩
      have p : Post N K H mu S (relD K) (callN G (n + 1) f ds S) Q E := p
      unfold callN at p
      rw [hf] at p
      have p : Post N K H mu S (relD K) (runFn G (callN G n) fd ds S) Q E := p
      unfold runFn at p
      rw [if_pos (e.trans Y.np)] at p
      exact p
end
end Fx
set_option Elab.async false
set_option linter.all false
set_option autoImplicit false
set_option maxRecDepth 100000
set_option maxHeartbeats 4000000
/-! FxT: a law's program as a datum; what the head must tell of it. -/
namespace Fx
open PySem PySem.Spec PyProof.Rows L2

/-! ### the datum -/
structure DfD where
  x : Str
  st : Stmt
  nm : List Str
  fd : FnD
structure ErrD where
  x : Str
  st : Stmt
  nm : List Str
  fs : List Str
  fl : List Nat
/-- a method: its class, its def -/
structure MthD where
  c : Str
  d : DfD
/-- a class: its __init__ among the functions, its fields, its constants -/
structure ClsD where
  x : Str
  init : Nat
  fl : List Nat
  con : List (Str × D)
structure LawD where
  file : Str
  defs : List DfD
  mths : List MthD
  clss : List ClsD
  errs : List ErrD
  more : List (Str × Option String)
  cons : List (Str × D)
  fld : List Str
  sub : List (List Nat)
def LawD.G (L : LawD) : Glob := ⟨L.defs.map (·.fd) ++ L.mths.map (·.d.fd), L.cons.map (·.2), L.errs.map (·.fl), L.sub, L.clss.map (·.fl), L.clss.flatMap fun c => c.con.map (·.2)⟩
def LawD.T (L : LawD) : Tab := ⟨L.defs.map (·.x), L.cons.map (·.1), L.errs.map (·.x) ++ L.more.map (·.1), L.fld, L.errs.length, L.clss.map fun c => (c.x, c.init), L.clss.flatMap fun c => c.con.map fun p => (c.x, p.1)⟩
def LawD.cv (L : LawD) (K : PySem.W.Frag) (k : Nat) : Value := match L.T.xnm[k]?, L.more[k - L.errs.length]? with
  | some x, some (_, some t) => if k < L.errs.length then .ref (He.ga K x) else .type t
  | some x, _ => .ref (He.ga K x)
  | none, _ => .none
def LawD.N (L : LawD) (nd : L.fld.Nodup) (K : PySem.W.Frag) : Nm := ⟨fun C => match L.errs[C]? with
  | some e => He.ga K e.x
  | none => 0, fun C => match L.clss[C]? with
  | some c => He.ga K c.x
  | none => 0, L.fld, nd, none⟩
def bltN : List Str := ["len", "abs", "min", "max", "sum", "sorted", "tuple", "list", "int", "str", "bool", "isinstance", "range", "all", "any", "set", "enumerate", "reversed"]
def conF : Str × D → List He.Fa
  | (x, .int i) => [.int x i]
  | (x, .str s) => [.str x (strOf s)]
  | _ => []
def LawD.fa0 (L : LawD) : List He.Fa := L.defs.map (fun d => .glo d.x) ++ L.errs.map (fun e => .glo e.x) ++ L.more.map (fun p => match p.2 with
  | none => .glo p.1
  | some _ => .free p.1) ++ L.cons.flatMap conF ++ (("super" : Str) :: bltN).map .free
def LawD.fa1 (L : LawD) : List He.Fa := L.clss.flatMap fun c => [.glo c.x, .cls c.x, .mkr c.x] ++ c.fl.filterMap fun f => (L.fld[f]?).map fun nm => .noat c.x nm
def LawD.fa (L : LawD) : List He.Fa := L.fa0 ++ L.fa1
def MthD.q (m : MthD) : Str := m.c ++ ("." ++ m.d.x)
def LawD.fn (L : LawD) : List He.DefD := (L.defs.map fun d => ⟨(d.x, none), d.x, d.x, defArgs d.st, defBody d.st, defScope d.st, [], []⟩) ++ L.mths.map fun m => ⟨(m.c, some m.d.x), m.d.x, m.q, defArgs m.d.st, defBody m.d.st, defScope m.d.st, [], []⟩

/-! ### own errors in the written part -/
def oexB (K : PySem.W.Frag) (C : Addr) : Bool := match K.lookup C with
  | some ⟨.type "type", _, .cls cd, sl⟩ => (match cd.mro, sl.toList with
    | .ref C' :: bm, [_, _, _, _, some (.builtin n), _] => decide (C' = C) && decide (n = "ValueError.__new__") && !cd.hasDel && PySem.HandSPX.refsVE bm && cd.hasDict
    | _, _ => false)
  | _ => false
theorem oexB_ok {K : PySem.W.Frag} {C : Addr} (h : oexB K C = true) : ∃ nm q N bs bm sn sub ab col dd k0 k1 k2 k3 k5, K.lookup C = some (excClassObj nm q C N bs bm true sn sub ab col dd k0 k1 k2 k3 k5 "ValueError.__new__") ∧ PySem.HandSPX.refsVE bm = true := by
  unfold oexB at h
  split at h
  · rename_i dd cd sl e
    split at h
    · rename_i C' bm a0 a1 a2 a3 n a5 e1 e2
      obtain ⟨h, h5⟩ := band h
      obtain ⟨h, h4⟩ := band h
      obtain ⟨h, h3⟩ := band h
      obtain ⟨h1, h2⟩ := band h
      obtain rfl : C' = C := of_decide_eq_true h1
      obtain rfl : n = "ValueError.__new__" := of_decide_eq_true h2
      obtain ⟨nm, bs, mro, ns, qn, hd, sn, sub, ab, col, del⟩ := cd
      dsimp only at e1 h3 h5
      have h3 : del = false := by simpa using h3
      subst e1 h3 h5
      obtain ⟨l⟩ := sl
      have e2 : l = [a0, a1, a2, a3, some (.builtin "ValueError.__new__"), a5] := e2
      subst e2
      exact ⟨nm, qn, ns, bs, bm, sn, sub, ab, col, dd, a0, a1, a2, a3, a5, e, h4⟩
    · cases h
  · cases h
def excB (K : PySem.W.Frag) (C : Addr) : Bool := decide (PySem.W.findIn K (.ref C) "__getattribute__" = some (some (.builtin "BaseException.__getattribute__"))) && decide (PySem.W.findIn K (.ref C) "__getattr__" = some none) && decide (PySem.W.subIn K (.ref C) (.type "BaseException") = some true) && PySem.W.hasDictIn K C &&
  decide (PySem.W.findIn K (.ref C) "__class__" = some (some (.builtin "object.__class__"))) && decide (PySem.W.specialIn K (.builtin "object.__class__") "__get__" = some (some (.builtin "getset_descriptor.__get__"))) && decide (PySem.W.takesIn K (.builtin "object.__class__") = some true) && decide (PySem.W.mroIn K C (.type "object") = some true)
theorem excB_ok {K : PySem.W.Frag} {C : Addr} (h : excB K C = true) : ExcC K C := by
  unfold excB at h
  simp only [Bool.and_eq_true, decide_eq_true_eq] at h
  obtain ⟨⟨⟨⟨⟨⟨⟨h1, h2⟩, h3⟩, h4⟩, h5⟩, h6⟩, h7⟩, h8⟩ := h
  exact ⟨h1, h2, h3, h4, h5, h6, h7, h8⟩
abbrev InA : Type := Option (Str × Str × Arguments × FuncBody × Scope × Addr × List Str × Addr)
def inA (K : PySem.W.Frag) (x : Str) : InA := match K.lookup (He.ma K (He.ga K x) "__init__") with
  | some ⟨_, _, .func fd, _⟩ => some (fd.name, fd.qualname, fd.params, fd.body, fd.scope, fd.globals, fd.closure.map (·.1), fd.builtins)
  | _ => none
def ErrD.val (e : ErrD) : InA := some ("__init__", e.x ++ ".__init__", defArgs e.st, .stmts (defBody e.st), defScope e.st, mainGlobals, [("__class__" : Str)], builtinsNs)
/-- the function behind an own error's __init__: its cell, its code -/
def fnB (K : PySem.W.Frag) (file : Str) (C f : Addr) : Bool := match K.lookup f with
  | some ⟨_, _, .func fd, _⟩ => (match fd.defaults, fd.closure, fd.code with
    | .none, [(_, cc)], .ref cda => (match K.lookup cc, K.lookup cda with
      | some ⟨_, _, .cell (some (.ref D)), _⟩, some ⟨_, _, .fields vs, _⟩ => decide (D = C) && PySem.W.codeIn K (.ref cda) fd.qualname && (match (vs[2]? : Option Value) with
        | some (Value.str g _) => file == g
        | _ => false)
      | _, _ => false)
    | _, _, _ => false)
  | _ => false
def supB (K : PySem.W.Frag) (C : Addr) : Bool := decide (PySem.W.ks_superIn K C C "__init__" = some (some (.builtin "ValueError.__init__"))) && decide (PySem.W.mroIn K C (.ref C) = some true) && decide (PySem.W.subIn K (.ref C) (.type "ValueError") = some true)
def errB (K : PySem.W.Frag) (file : Str) (C f : Addr) : Bool := oexB K C && excB K C && supB K C && fnB K file C f && decide (PySem.W.findIn K (.ref C) "__setattr__" = some (some (.builtin "object.__setattr__"))) && decide (PySem.W.typeIn K (.ref C) = some (.type "type")) && PySem.W.keepIn K (.ref C) &&
  decide (PySem.W.findIn K (.ref C) "__init__" = some (some (.ref f))) && decide (PySem.W.typeIn K (.ref f) = some (.type "function"))
def cconB (K : PySem.W.Frag) (C : Addr) (p : Str × D) : Bool := match PySem.W.findCls K (.ref C) (.type "type") p.1 with
  | some (.val (.int j _)) => decide (p.2 = .int j)
  | _ => false
def clsC (K : PySem.W.Frag) (c : ClsD) : Bool := PySem.W.readsIn K (He.ga K c.x) (.type "type") && decide (PySem.W.specialIn K (.ref (He.ga K c.x)) "__getattribute__" = some (some (.builtin "type.__getattribute__"))) && c.con.all (cconB K (He.ga K c.x))
def LawD.chk (L : LawD) (K : PySem.W.Frag) : Bool := (L.clss.all fun c => c.con.isEmpty || clsC K c) && decide (PySem.W.nsIn K PySem.cStatics "thirdparty.any" = some none) && (L.errs.all fun e => errB K L.file (He.ga K e.x) (He.ma K (He.ga K e.x) "__init__")) && (L.errs.all fun e => L.fld.all fun f => decide (PySem.W.findIn K (.ref (He.ga K e.x)) f = some none)) &&
  ((List.range L.errs.length).all fun C => (List.range L.T.xnm.length).all fun k => match L.errs[C]? with
    | some e => decide (PySem.W.exmOne K (.ref (He.ga K e.x)) (L.cv K k) = some ((L.sub.getD C []).contains k)) && decide (PySem.W.kitOne K (.ref (He.ga K e.x)) (L.cv K k) = some ((L.sub.getD C []).contains k))
    | none => false)
abbrev AlF : Type := Bool × He.AlD × List InA
def LawD.obs (L : LawD) (K : PySem.W.Frag) : AlF := (L.chk K, He.obsD L.fa L.fn K, L.errs.map fun e => inA K e.x)
def LawD.val (L : LawD) : AlF := (true, He.valD L.fn, L.errs.map ErrD.val)
def LawD.obsG (L : LawD) (n : Nat) (g : Addr → Option Obj) : AlF := L.obs (He.frG g (PySem.cStatics :: He.asD g n))
def LawD.hook (L : LawD) (n : Nat) : PySem.W.Hook where
  α := AlF
  obs := fun s => L.obsG n s.heap.get?
  val := fun _ => L.val
  says := fun _ h => ∃ K : PySem.W.Frag, K.In h ∧ L.obs K = L.val
  of := fun _ _ e => ⟨_, He.frG_in, e⟩
  keeps := fun _ _ _ ⟨K, hK, c⟩ k => ⟨K, PySem.W.Frag.In.keeps hK k, c⟩
theorem LawD.obs_eq (L : LawD) {n : Nat} {g : Addr → Option Obj} {s : Shared} (h : ∀ a, g a = s.heap.get? a) : L.obsG n g = (L.hook n).obs s := by
  have e : g = s.heap.get? := funext h
  rw [e] <;> rfl

/-! ### what is decided of the text alone -/
def fnScB (nm ps : List Str) (sc : Scope) : Bool := (match sc.kind with | .function => true | _ => false) && !sc.isCoroutine && !sc.isGenerator && decide nm.Nodup && decide (nm.take ps.length = ps) && (ps.all fun x => match sc.names.lookup x with
  | some .local => true
  | some .cell => true
  | _ => false) && (sc.names.all fun y => decide (y.2 ≠ .free))
theorem fnScB_ok {nm ps : List Str} {sc : Scope} (h : fnScB nm ps sc = true) : FnScope nm ps sc := by
  unfold fnScB at h
  simp only [Bool.and_eq_true, List.all_eq_true, decide_eq_true_eq, Bool.not_eq_true'] at h
  obtain ⟨⟨⟨⟨⟨⟨h1, h2⟩, h3⟩, h4⟩, h5⟩, h6⟩, h7⟩ := h
  refine ⟨?_, h2, h3, h4, h5, fun x hx => ?_, h7⟩
  · split at h1
    · assumption
    · cases h1
  · have q := h6 x hx
    split at q
    · rename_i e; exact .inl e
    · rename_i e; exact .inr e
    · cases q
def defB (T : Tab) (d : DfD) : Bool := fnScB d.nm (d.nm.take d.fd.np) (defScope d.st) && decide ((d.nm.take d.fd.np).length = d.fd.np) && decide (d.nm.length = d.fd.ns) && ckSs T ⟨defScope d.st, d.nm, fun _ => true, false, none⟩ d.fd.body (defBody d.st)
def errS (fld : List Str) (e : ErrD) : Bool := insB e.nm (defScope e.st) && inB e.nm (defScope e.st) e.fs (defBody e.st) && decide (e.nm.length = e.fs.length + 1) && decide (e.fs.length ≤ 900) && !e.fs.isEmpty && decide (e.fl.map (fun f => fld[f]?) = e.fs.map some) && safeN e.x && (e.fs.all fun f => decide (f ∈ fld)) && (match ((defArgs e.st).posonlyargs ++ (defArgs e.st).args).head? with
  | some ar => decide (ar.arg = "self")
  | none => false)
def conB2 : D → Bool
  | .int _ => true
  | .str _ => true
  | _ => false
def moreB (p : Str × Option String) : Bool := safeN p.1 && (match p.2 with
  | none => true
  | some t => decide (bootBuiltins p.1 = some (.type t)) && decide (p.1 ≠ "__name__"))
def clsB (L : LawD) (c : ClsD) : Bool := decide (L.defs.length ≤ c.init) && (match L.mths[c.init - L.defs.length]? with
  | some m => decide (m.c = c.x) && decide (m.d.x = "__init__")
  | none => false)
def LawD.stat (L : LawD) : Bool := (L.mths.all fun m => defB L.T m.d) && L.clss.all (clsB L) && decide L.fld.Nodup && L.defs.all (defB L.T) && L.errs.all (errS L.fld) && (L.cons.all fun p => conB2 p.2) && L.more.all moreB
/-- the parameters are bound in order -/
def BindN (d : DfD) : Prop := ∀ (kV doc pm : Value) (an : Option Addr) (cdv ct : Value) (us : List Value), us.length = (d.nm.take d.fd.np).length → bindArgs (PySem.W.fnOf d.x d.x (defArgs d.st) (defBody d.st) (defScope d.st) .none kV doc pm an cdv ct) ⟨us, []⟩ = pure ((d.nm.take d.fd.np).zip us)
def BindM (m : MthD) : Prop := ∀ (kV doc pm : Value) (an : Option Addr) (cdv ct : Value) (us : List Value), us.length = (m.d.nm.take m.d.fd.np).length → bindArgs (PySem.W.fnOf m.d.x m.q (defArgs m.d.st) (defBody m.d.st) (defScope m.d.st) .none kV doc pm an cdv ct) ⟨us, []⟩ = pure ((m.d.nm.take m.d.fd.np).zip us)
def BindI (e : ErrD) : Prop := ∀ (kV doc pm : Value) (an : Option Addr) (cdv ct : Value) (cc : Addr) (us : List Value), us.length = e.nm.length → bindArgs (PySem.W.ksFn "__init__" (e.x ++ ".__init__") (defArgs e.st) (defBody e.st) (defScope e.st) .none kV doc pm an cdv ct cc) ⟨us, []⟩ = pure (e.nm.zip us)
inductive All {α : Type} (p : α → Prop) : List α → Prop
  | nil : All p []
  | cons {a : α} {l : List α} (h : p a) (t : All p l) : All p (a :: l)
theorem All.get {α : Type} {p : α → Prop} {l : List α} (h : All p l) : ∀ {i : Nat} {a : α}, l[i]? = some a → p a := by
  induction h with
  | nil => intro i a e; cases e
  | cons h t ih =>
    intro i a e
    cases i with
    | zero => cases e; exact h
    | succ i => exact ih (by simpa using e)
theorem all_get {α : Type} {p : α → Bool} {l : List α} (h : l.all p = true) {i : Nat} {a : α} (e : l[i]? = some a) : p a = true := List.all_eq_true.mp h a (List.mem_of_getElem? e)
theorem ccn_get : ∀ {l : List ClsD} {k : Nat} {x nm : Str} {G : ClsD → List D}, (l.flatMap fun c => c.con.map fun p => (c.x, p.1))[k]? = some (x, nm) → (∀ c, G c = c.con.map (·.2)) → ∃ (cd : ClsD) (p : Str × D) (C : Nat), l[C]? = some cd ∧ p ∈ cd.con ∧ x = cd.x ∧ nm = p.1 ∧ (l.flatMap G)[k]? = some p.2
  | [], k, x, nm, G, h, _ => by cases k <;> cases h
  | c :: l, k, x, nm, G, h, hG => by
    rw [List.flatMap_cons] at h ⊢
    have len : (G c).length = (c.con.map fun p => (c.x, p.1)).length := by rw [hG, List.length_map, List.length_map]
    by_cases lt : k < (c.con.map fun p => (c.x, p.1)).length
    · rw [List.getElem?_append_left lt, List.getElem?_map] at h
      obtain ⟨p, hp, e⟩ := Option.map_eq_some_iff.mp h
      obtain ⟨rfl, rfl⟩ := Prod.mk.inj e
      exact ⟨c, p, 0, rfl, List.mem_of_getElem? hp, rfl, rfl, by rw [List.getElem?_append_left (by rw [len]; exact lt), hG, List.getElem?_map, hp]; rfl⟩
    · rw [List.getElem?_append_right (by omega)] at h
      obtain ⟨cd, p, C, h1, h2, h3, h4, h5⟩ := ccn_get h hG
      exact ⟨cd, p, C + 1, h1, h2, h3, h4, by rw [List.getElem?_append_right (by omega), len]; exact h5⟩
section
variable {P : Program} {w : World} {K : PySem.W.Frag} {h base : Heap} {mg : Str → Option Value}
theorem LawD.fact {L : LawD} (c : L.obs K = L.val) {f : He.Fa} (hf : f ∈ L.fa) : f.ok K = true := by
  have c2 : He.SaysD L.fa L.fn K := congrArg (fun z : AlF => z.2.1) c
  obtain ⟨i, hi, e⟩ := List.getElem_of_mem hf
  exact c2.fact i (by rw [List.getElem?_eq_getElem hi, e])
theorem LawD.fact0 {L : LawD} (c : L.obs K = L.val) {f : He.Fa} (hf : f ∈ L.fa0) : f.ok K = true := LawD.fact c (List.mem_append_left _ hf)
theorem LawD.fact1 {L : LawD} (c : L.obs K = L.val) {C : Nat} {d : ClsD} (hd : L.clss[C]? = some d) {f : He.Fa} (hf : f ∈ [.glo d.x, .cls d.x, .mkr d.x] ++ d.fl.filterMap fun f => (L.fld[f]?).map fun nm => He.Fa.noat d.x nm) : f.ok K = true :=
  LawD.fact c (List.mem_append_right _ (List.mem_flatMap.mpr ⟨d, List.mem_of_getElem? hd, hf⟩))
theorem LawD.prog {L : LawD} (hs : L.stat = true) (hb : All BindN L.defs) (hbm : All BindM L.mths) (hi : All BindI L.errs) (nd : L.fld.Nodup) (X : K.In h) (GN : h.Ns mainGlobals mg) (c : L.obs K = L.val) (hP : P.main.file = L.file) (ht : (P.main.scope.names.lookup ("super" : Str)).isSome = false) :
    ProgK P w K mg base (L.N nd K) L.T L.G (L.cv K) := by
  have c1 : L.chk K = true := congrArg (fun z : AlF => z.1) c
  have c2 : He.SaysD L.fa L.fn K := congrArg (fun z : AlF => z.2.1) c
  have c3 : L.errs.map (fun e => inA K e.x) = L.errs.map ErrD.val := congrArg (fun z : AlF => z.2.2) c
  obtain ⟨hs, hs5⟩ := band hs
  obtain ⟨hs, hs4⟩ := band hs
  obtain ⟨hs, hs3⟩ := band hs
  obtain ⟨hs1, hs2⟩ := band hs
  obtain ⟨hs1, _⟩ := band hs1
  obtain ⟨hs6, hs7⟩ := band hs1
  obtain ⟨c1, c14⟩ := band c1
  obtain ⟨c1, c13⟩ := band c1
  obtain ⟨c11, c12⟩ := band c1
  obtain ⟨c15, c11⟩ := band c11
  have fnsAt : ∀ {f : Nat} {d : DfD}, L.defs[f]? = some d → L.G.fns[f]? = some d.fd := fun {f d} hd => by
    show (L.defs.map (·.fd) ++ L.mths.map (·.d.fd))[f]? = _
    rw [List.getElem?_append_left (by rw [List.length_map]; exact (List.getElem?_eq_some_iff.mp hd).1), List.getElem?_map, hd]
    rfl
  have free : ∀ x ∈ (("super" : Str) :: bltN), mg x = none := fun x hx => He.free_ok X GN (LawD.fact0 c (by
    unfold LawD.fa0
    exact List.mem_append_right _ (List.mem_map.mpr ⟨x, hx, rfl⟩)))
  have glE : ∀ {i : Nat} {e : ErrD}, L.errs[i]? = some e → mg e.x = some (.ref (He.ga K e.x)) := fun {i e} h => He.glo_ok X GN (LawD.fact0 c (by
    unfold LawD.fa0
    exact List.mem_append_left _ (List.mem_append_left _ (List.mem_append_left _ (List.mem_append_right _ (List.mem_map.mpr ⟨e, List.mem_of_getElem? h, rfl⟩))))))
  have errOf : ∀ {C : Nat}, C < L.G.exc.length → ∃ e, L.errs[C]? = some e := fun {C} hC => by
    have hC : C < (L.errs.map (·.fl)).length := hC
    rw [List.length_map] at hC
    exact ⟨_, List.getElem?_eq_getElem hC⟩
  have cadE : ∀ {C : Nat} {e : ErrD}, L.errs[C]? = some e → (L.N nd K).cad C = He.ga K e.x := fun {C e} he => by
    show (match L.errs[C]? with
      | some e => He.ga K e.x
      | none => 0) = _
    rw [he]
  have ckE : ∀ {C : Nat} {e : ErrD}, L.errs[C]? = some e → errB K L.file (He.ga K e.x) (He.ma K (He.ga K e.x) "__init__") = true := fun he => all_get c12 he
  have tfld : ∀ {C : Nat} {e : ErrD} {f : Str}, L.errs[C]? = some e → f ∈ L.fld → PySem.W.findIn K (.ref (He.ga K e.x)) f = some none := fun he hf => of_decide_eq_true (List.all_eq_true.mp (all_get c13 he) _ hf)
  refine ⟨fun f x hf => ?_, fun C x f hC => ?_, fun k x hk => ?_, fun x hx => free x (List.mem_cons_of_mem _ hx), rfl, ⟨fun k x hk => ?_, fun k => ?_, fun C k x hC hk => ?_, fun C hC => ?_, fun C f x hC hf => ?_, rfl, ?_⟩, fun C x flds hx hf => ?_, fun C l f nm hl hf => ?_, fun k x nm hk => ?_⟩
  · -- defs
    have hf : (L.defs.map (·.x))[f]? = some x := hf
    rw [List.getElem?_map] at hf
    obtain ⟨d, hd, rfl⟩ := Option.map_eq_some_iff.mp hf
    have hdn : L.fn[f]? = some ⟨(d.x, none), d.x, d.x, defArgs d.st, defBody d.st, defScope d.st, [], []⟩ := by
      unfold LawD.fn
      rw [List.getElem?_append_left (by rw [List.length_map]; exact (List.getElem?_eq_some_iff.mp hd).1), List.getElem?_map, hd]
      rfl
    obtain ⟨fdt, F⟩ := c2.def_ f hdn
    obtain ⟨q, q4⟩ := band (all_get hs2 hd)
    obtain ⟨q, q3⟩ := band q
    obtain ⟨q1, q2⟩ := band q
    refine ⟨d.fd, d.x, d.x, d.st, d.nm, d.nm.take d.fd.np, _, fdt, fnsAt hd, ?_, F, fnScB_ok q1, of_decide_eq_true q2, of_decide_eq_true q3, q4, FunD.bindsN F (hb.get hd)⟩
    exact He.glo_ok X GN (LawD.fact0 c (by
        unfold LawD.fa0
        exact List.mem_append_left _ (List.mem_append_left _ (List.mem_append_left _ (List.mem_append_left _ (List.mem_map.mpr ⟨d, List.mem_of_getElem? hd, rfl⟩))))))
  · -- the classes' __init__s
    have hC : (L.clss.map fun c => (c.x, c.init))[C]? = some (x, f) := hC
    rw [List.getElem?_map] at hC
    obtain ⟨cd, hd, e⟩ := Option.map_eq_some_iff.mp hC
    obtain ⟨rfl, rfl⟩ := Prod.mk.inj e
    obtain ⟨z1, z2⟩ := band (all_get hs7 hd)
    have z1 := of_decide_eq_true z1
    cases hm : L.mths[cd.init - L.defs.length]? with
    | none => rw [hm] at z2; cases z2
    | some m =>
      rw [hm] at z2
      obtain ⟨z3, z4⟩ := band z2
      have z3 := of_decide_eq_true z3
      have z4 := of_decide_eq_true z4
      have hdn : L.fn[cd.init]? = some ⟨(m.c, some m.d.x), m.d.x, m.q, defArgs m.d.st, defBody m.d.st, defScope m.d.st, [], []⟩ := by
        unfold LawD.fn
        rw [List.getElem?_append_right (by rw [List.length_map]; exact z1), List.length_map, List.getElem?_map, hm]
        rfl
      obtain ⟨fdt, F⟩ := c2.def_ cd.init hdn
      obtain ⟨q, q4⟩ := band (all_get hs6 hm)
      obtain ⟨q, q3⟩ := band q
      obtain ⟨q1, q2⟩ := band q
      have iadE : (L.N nd K).iad C = He.ga K cd.x := by
        show (match L.clss[C]? with
          | some c => He.ga K c.x
          | none => 0) = _
        rw [hd]
      have gl := He.glo_ok X GN (LawD.fact1 c hd (List.mem_append_left _ List.mem_cons_self))
      have mk := He.mkr_ok (LawD.fact1 c hd (List.mem_append_left _ (List.mem_cons_of_mem _ (List.mem_cons_of_mem _ List.mem_cons_self))))
      refine ⟨m.d.fd, m.d.x, m.q, m.d.st, m.d.nm, m.d.nm.take m.d.fd.np, _, fdt, ?_, by rw [iadE]; exact gl, ?_, F, fnScB_ok q1, of_decide_eq_true q2, of_decide_eq_true q3, q4, FunD.bindsN F (hbm.get hm)⟩
      · show (L.defs.map (·.fd) ++ L.mths.map (·.d.fd))[cd.init]? = _
        rw [List.getElem?_append_right (by rw [List.length_map]; exact z1), List.length_map, List.getElem?_map, hm]
        rfl
      · rw [iadE]
        have e : He.fAd K (m.c, some m.d.x) = He.ma K (He.ga K cd.x) "__init__" := by
          show He.ma K (He.ga K m.c) m.d.x = _
          rw [z3, z4]
        rw [e]
        exact mk
  · -- constants
    have hk : (L.cons.map (·.1))[k]? = some x := hk
    rw [List.getElem?_map] at hk
    obtain ⟨⟨y, d⟩, hd, rfl⟩ := Option.map_eq_some_iff.mp hk
    have e1 : L.G.consts[k]? = some d := by
      show (L.cons.map (·.2))[k]? = _
      rw [List.getElem?_map, hd]
      rfl
    have q := all_get hs4 hd
    have mem : ∀ f, f ∈ conF (y, d) → f ∈ L.fa0 := fun f hf => by
      unfold LawD.fa0
      exact List.mem_append_left _ (List.mem_append_right _ (List.mem_flatMap.mpr ⟨(y, d), List.mem_of_getElem? hd, hf⟩))
    cases d with
    | int i =>
      obtain ⟨t, e⟩ := He.int_ok X GN (LawD.fact0 c (mem (.int y i) (List.mem_singleton.mpr rfl)))
      exact ⟨.int i, .int i, _, e1, e, ⟨t, rfl⟩, fun _ _ => rfl, fun _ => rfl⟩
    | str s =>
      obtain ⟨t, e⟩ := He.str_ok X GN (LawD.fact0 c (mem (.str y (strOf s)) (List.mem_singleton.mpr rfl)))
      exact ⟨.str s, .str (strOf s), _, e1, e, ⟨t, rfl⟩, fun _ _ => rfl, fun _ => rfl⟩
    | _ => cases q
  · -- the classes' names
    have hk0 := hk
    have hk : (L.errs.map (·.x) ++ L.more.map (·.1))[k]? = some x := hk
    by_cases hl : k < L.errs.length
    · rw [List.getElem?_append_left (by simpa using hl), List.getElem?_map] at hk
      obtain ⟨e, he, rfl⟩ := Option.map_eq_some_iff.mp hk
      have ev : L.cv K k = .ref (He.ga K e.x) := by
        unfold LawD.cv
        rw [hk0]
        split
        · rename_i z y t h1 h2
          cases h1
          rw [if_pos hl]
        · rename_i z h1 h2
          cases h1
          rfl
        · rename_i h1
          cases h1
      rw [ev]
      have q := all_get hs3 he
      obtain ⟨q, q9⟩ := band q
      obtain ⟨q, q8⟩ := band q
      obtain ⟨q, q7⟩ := band q
      exact ⟨.inl (glE he), q7⟩
    · rw [List.getElem?_append_right (by simpa using hl), List.getElem?_map, List.length_map] at hk
      obtain ⟨⟨y, o⟩, he, rfl⟩ := Option.map_eq_some_iff.mp hk
      obtain ⟨q1, q2⟩ := band (all_get hs5 he)
      cases o with
      | none =>
        have ev : L.cv K k = .ref (He.ga K y) := by
          unfold LawD.cv
          rw [hk0, he]
        rw [ev]
        exact ⟨.inl (He.glo_ok X GN (LawD.fact0 c (by
          unfold LawD.fa0
          exact List.mem_append_left _ (List.mem_append_left _ (List.mem_append_right _ (List.mem_map.mpr ⟨(y, none), List.mem_of_getElem? he, rfl⟩)))))), q1⟩
      | some t =>
        have ev : L.cv K k = .type t := by
          unfold LawD.cv
          rw [hk0, he]
          show (if k < L.errs.length then Value.ref (He.ga K y) else .type t) = _
          rw [if_neg hl]
        rw [ev]
        obtain ⟨q3, q4⟩ := band q2
        exact ⟨.inr ⟨He.free_ok X GN (LawD.fact0 c (by
          unfold LawD.fa0
          exact List.mem_append_left _ (List.mem_append_left _ (List.mem_append_right _ (List.mem_map.mpr ⟨(y, some t), List.mem_of_getElem? he, rfl⟩))))), of_decide_eq_true q3, of_decide_eq_true q4⟩, q1⟩
  · -- their values
    unfold LawD.cv
    split
    · split
      · exact ⟨.ref _, rfl, fun u e => e⟩
      · exact ⟨.ty _, rfl, fun u e => e⟩
    · exact ⟨.ref _, rfl, fun u e => e⟩
    · exact ⟨.non, rfl, fun u e => e⟩
  · -- which class is under which
    obtain ⟨e, he⟩ := errOf hC
    have hC' : C < L.errs.length := (List.getElem?_eq_some_iff.mp he).1
    have hk' : k < L.T.xnm.length := (List.getElem?_eq_some_iff.mp hk).1
    have q := List.all_eq_true.mp (List.all_eq_true.mp c14 C (List.mem_range.mpr hC')) k (List.mem_range.mpr hk')
    rw [he] at q
    obtain ⟨q1, q2⟩ := band q
    rw [cadE he]
    exact ⟨of_decide_eq_true q1, of_decide_eq_true q2⟩
  · obtain ⟨e, he⟩ := errOf hC
    rw [cadE he]
    have q := ckE he
    unfold errB at q
    simp only [Bool.and_eq_true] at q
    exact excB_ok q.1.1.1.1.1.1.1.2
  · obtain ⟨e, he⟩ := errOf hC
    rw [cadE he]
    exact tfld he (List.mem_of_getElem? hf)
  · show L.errs.length ≤ (L.errs.map (·.fl)).length
    rw [List.length_map]
    exact Nat.le_refl _
  · -- the __init__s
    have hf : (L.errs.map (·.fl))[C]? = some flds := hf
    rw [List.getElem?_map] at hf
    obtain ⟨e, he, rfl⟩ := Option.map_eq_some_iff.mp hf
    have hl : C < L.errs.length := (List.getElem?_eq_some_iff.mp he).1
    have hx : (L.errs.map (·.x) ++ L.more.map (·.1))[C]? = some x := hx
    rw [List.getElem?_append_left (by simpa using hl), List.getElem?_map, he] at hx
    obtain rfl : e.x = x := Option.some.inj hx
    have q := ckE he
    unfold errB at q
    obtain ⟨q, r9⟩ := band q
    obtain ⟨q, r8⟩ := band q
    obtain ⟨q, r7⟩ := band q
    obtain ⟨q, r6⟩ := band q
    obtain ⟨q, r5⟩ := band q
    obtain ⟨q, r4⟩ := band q
    obtain ⟨q, r3⟩ := band q
    obtain ⟨r1, r2⟩ := band q
    have z := all_get hs3 he
    unfold errS at z
    obtain ⟨z, z9⟩ := band z
    obtain ⟨z, z8⟩ := band z
    obtain ⟨z, z7⟩ := band z
    obtain ⟨z, z6⟩ := band z
    obtain ⟨z, z5⟩ := band z
    obtain ⟨z, z4⟩ := band z
    obtain ⟨z, z3⟩ := band z
    obtain ⟨z1, z2⟩ := band z
    have EC := excB_ok r2
    unfold supB at r3
    obtain ⟨r3, u3⟩ := band r3
    obtain ⟨u1, u2⟩ := band r3
    have T : OexC K (He.ga K e.x) := ⟨oexB_ok r1, of_decide_eq_true r5, EC.hs, of_decide_eq_true r6, r7⟩
    have iv : inA K e.x = e.val := by
      have e2 : (L.errs.map fun e => inA K e.x)[C]? = (L.errs.map ErrD.val)[C]? := by rw [c3]
      rw [List.getElem?_map, List.getElem?_map, he] at e2
      exact Option.some.inj e2
    unfold inA at iv
    unfold fnB at r4
    cases lf : K.lookup (He.ma K (He.ga K e.x) "__init__") with
    | none => rw [lf] at r4; cases r4
    | some o =>
      obtain ⟨oc, od, dt, osl⟩ := o
      rw [lf] at r4 iv
      cases dt with
      | func fd =>
        obtain ⟨n1, n2, n3, n4, n5, n6, n7, n8, n9, n10, n11, n12, n13, n14, n15⟩ := fd
        have e2 : (some (n1, n2, n3, n4, n5, n6, n7.map (·.1), n15) : InA) = some (("__init__" : Str), e.x ++ ".__init__", defArgs e.st, FuncBody.stmts (defBody e.st), defScope e.st, mainGlobals, [("__class__" : Str)], builtinsNs) := iv
        simp only [Option.some.injEq, Prod.mk.injEq] at e2
        obtain ⟨g1, g2, g3, g4, g5, g6, g7, g8⟩ := e2
        dsimp only at r4
        rcases n7 with _ | ⟨⟨cl, cc⟩, _ | ⟨_, _⟩⟩ <;> first | (cases n8 <;> cases r4; done) | skip
        cases n8 <;> first | (cases r4; done) | skip
        cases n13 <;> first | (cases r4; done) | skip
        rename_i cda
        dsimp only at r4
        split at r4
        · rename_i a1 b1 C2 c1' a2 b2 vs c2' lcc lcd
          obtain ⟨r4, r43⟩ := band r4
          obtain ⟨r41, r42⟩ := band r4
          have r41 := of_decide_eq_true r41
          subst g1 g2 g3 g4 g5 g6 g8 r41
          have g7 : cl = ("__class__" : Str) := by simpa using g7
          subst g7
          have hself : ∃ ar, ((defArgs e.st).posonlyargs ++ (defArgs e.st).args).head? = some ar ∧ ar.arg = "self" := by
            split at z9
            · rename_i ar e3
              exact ⟨ar, e3, of_decide_eq_true z9⟩
            · cases z9
          have hcode : ∃ file tf, vs[2]? = some (.str file tf) ∧ ((P.main.file : Str) == file) = true := by
            split at r43
            · rename_i g tf e3
              exact ⟨g, tf, e3, by rw [hP]; exact r43⟩
            · cases r43
          obtain ⟨file, tf, hv1, hv2⟩ := hcode
          have hne : e.fs ≠ [] := by
            intro e3
            rw [e3] at z5
            cases z5
          have S : SupC K P (He.ga K e.x) (He.ma K (He.ga K e.x) "__init__") cc cda (PySem.W.ksFn "__init__" (e.x ++ ".__init__") (defArgs e.st) (defBody e.st) (defScope e.st) .none n9 n10 n11 n12 (.ref cda) n14 cc) :=
            ⟨⟨_, _, _, lf⟩, ⟨_, _, _, lcc⟩, ⟨_, _, _, _, file, tf, lcd, hv1, hv2⟩, hself, ht, of_decide_eq_true u1, of_decide_eq_true u2, of_decide_eq_true u3, of_decide_eq_true c11⟩
          have ok := ok_init (P := P) (w := w) (mg := mg) (base := base) (CX := L2.CX P w) S T r42 (insB_ok z1) z2 (of_decide_eq_true z3) (fun g hg => tfld he (of_decide_eq_true (List.all_eq_true.mp z8 g hg))) (of_decide_eq_true z4) hne (free _ (List.mem_cons_self ..))
          have z6 := of_decide_eq_true z6
          refine ⟨e.fs, _, _, e.nm, ⟨by rw [cadE he]; exact glE he, by rw [cadE he]; exact T, by rw [cadE he]; exact of_decide_eq_true r8, of_decide_eq_true r9, by rw [cadE he]; exact ok, Binds.all fun us hl => (hi.get he) _ _ _ _ _ _ _ us hl, ?_, of_decide_eq_true z4, fun i f hf => ?_, (safe_is z7).1⟩⟩
          · have := congrArg List.length z6
            rw [List.length_map, List.length_map] at this
            exact this.symm
          · show L.fld[f]? = _
            have q := congrArg (fun l : List (Option Str) => l[i]?) z6
            rw [List.getElem?_map, List.getElem?_map, hf] at q
            cases e3 : e.fs[i]? with
            | none => rw [e3] at q; cases q
            | some g => rw [e3] at q; exact Option.some.inj q
        · cases r4
      | _ => cases r4
  · -- fields
    have hl : (L.clss.map (·.fl))[C]? = some l := hl
    rw [List.getElem?_map] at hl
    obtain ⟨cd, hd, rfl⟩ := Option.map_eq_some_iff.mp hl
    have iadE : (L.N nd K).iad C = He.ga K cd.x := by
      show (match L.clss[C]? with
        | some c => He.ga K c.x
        | none => 0) = _
      rw [hd]
    rw [iadE]
    refine ⟨He.cls_ok (LawD.fact1 c hd (List.mem_append_left _ (List.mem_cons_of_mem _ List.mem_cons_self))), fun hf2 => ?_⟩
    refine He.noat_ok (LawD.fact1 c hd (List.mem_append_right _ (List.mem_filterMap.mpr ⟨f, by simpa using hf2, ?_⟩)))
    have hf : L.fld[f]? = some nm := hf
    rw [hf]
    rfl
  · -- constants of classes
    have hk : (L.clss.flatMap fun c => c.con.map fun p => (c.x, p.1))[k]? = some (x, nm) := hk
    obtain ⟨cd, p, C, hd, hp, e1, e2, e3⟩ := ccn_get (G := fun c => c.con.map (·.2)) hk fun c => rfl
    have q := all_get c15 hd
    have ne : cd.con.isEmpty = false := by
      cases z : cd.con with
      | nil => rw [z] at hp; cases hp
      | cons _ _ => rfl
    rw [ne, Bool.false_or] at q
    unfold clsC at q
    obtain ⟨q, q3⟩ := band q
    obtain ⟨q1, q2⟩ := band q
    have q4 := List.all_eq_true.mp q3 p hp
    unfold cconB at q4
    have gl := He.glo_ok X GN (LawD.fact1 c hd (List.mem_append_left _ List.mem_cons_self))
    split at q4
    · rename_i j t ef
      have ep := of_decide_eq_true q4
      exact ⟨_, .type "type", .int j, .int j, .int j t, by rw [← ep]; exact e3, by rw [e1]; exact gl, ⟨q1, of_decide_eq_true q2⟩, ⟨by rw [e2]; exact ef, ⟨t, rfl⟩⟩, fun _ _ => rfl, fun _ => rfl⟩
    · cases q4
end
end Fx
set_option Elab.async false
set_option linter.all false
set_option autoImplicit false
set_option maxRecDepth 100000
set_option maxHeartbeats 4000000
/-! FxU: the law's end. -/
namespace Fx
open PySem PySem.Spec PyProof.Rows L2

/-- no exception is wished for: none is let out -/
theorem calm_fn {P : Program} {w : World} {K : PySem.W.Frag} {mg : Str → Option Value} {base : Heap} {k : Nat} {f : Addr} {fd : FuncData} {ps : List Str} {sp : Sp} (Z : FnOk P w K mg base (L2.CX P w) k f fd ps sp) :
    FnOk P w K mg base CX0 k f fd ps (fun vs H Q _ => sp vs H Q fun _ _ _ => False) := by
  refine ⟨fun vs H Q E h => Z.len vs H Q _ h, fun A outer s H args us vs Q E hr e0 hb r h => codeAny_mono (Z.run A outer s H args us vs Q _ hr e0 hb r h) fun r s' q => ?_⟩
  cases r with
  | error e =>
    obtain ⟨_, _, _, _, _, _, _, _, _, _, _, _, z⟩ := q
    exact z.elim
  | ok fl =>
    cases fl with
    | ret u => exact q
    | next => exact q
    | brk => exact q
    | cont => exact q
theorem rvs_ints {K : PySem.W.Frag} {H : Hp} {mu : Nat → Addr} : ∀ ns : List Int, RVs K H mu (ns.map D.int) (ns.map V.int)
  | [] => rfl
  | n :: ns => ⟨.int n, ns.map V.int, rfl, rfl, rvs_ints ns⟩
theorem wfs_ints {k : Nat} (ns : List Int) : D.wfs k (ns.map D.int) = true := wfs_all.mpr fun x hx => by
  obtain ⟨i, _, rfl⟩ := List.mem_map.mp hx
  rfl
/-- what the plain proof shows: the evaluator says True of every script -/
def Says (L : LawD) (n ix : Nat) : Prop := ∀ ns : List Int, ns.length ≤ 63 → ∃ S', callN L.G n ix [.ref 0] [.frz (ns.map D.int)] = .ok (.bl true) S'
theorem law_sp {N : Nm} {K : PySem.W.Frag} {L : LawD} {n ix : Nat} (hl : Says L n ix) {H : Hp} {a : Addr} {ns : List Int} (hn : ns.length ≤ 63) (ho : Only H) (hS : SqL K H a (ns.map V.int)) :
    spF N K 1 (callN L.G n ix) [.ref a] H (fun v _ => v = .bl true) fun _ _ _ => False := by
  obtain ⟨S', e⟩ := hl ns hn
  refine ⟨fun _ => a, [.ref 0], [.frz (ns.map D.int)], rfl, ⟨⟨.ref a, [], rfl, rfl, rfl⟩, by simp [D.wfs, D.wf]⟩, ⟨fun m o h => ?_, fun m o h => ?_, fun m k hm hk _ => ?_⟩, ?_⟩
  · cases m with
    | zero =>
      obtain rfl : O.frz (ns.map D.int) = o := Option.some.inj h
      refine ⟨ns.map V.int, ?_, rvs_ints ns⟩
      rcases hS with (q | ⟨ob, q⟩) | q
      · rcases ho a with z | ⟨o, xs, z⟩
        · rw [z] at q; cases q
        · rw [z] at q; cases q
      · exact .inl ⟨ob, q⟩
      · exact .inr fun H' => .inr q
    | succ m => cases h
  · cases m with
    | zero =>
      obtain rfl : O.frz (ns.map D.int) = o := Option.some.inj h
      exact wfs_ints ns
    | succ m => cases h
  · cases m with
    | zero => exact hm.elim
    | succ m => exact hm.elim
  · rw [e]
    intro v H' mu' g r
    exact r.1
theorem law_fin {P : Program} {w : World} {K : PySem.W.Frag} {h : Heap} {mg : Str → Option Value} {L : LawD} {n ix : Nat} {fa : Addr} {d : DfD} {x : Str} (hs : L.stat = true) (hb : All BindN L.defs) (hbm : All BindM L.mths) (hi : All BindI L.errs) (nd : L.fld.Nodup) (X : K.In h) (GN : h.Ns mainGlobals mg) (c : L.obs K = L.val) (hP : P.main.file = L.file)
    (ht : (P.main.scope.names.lookup ("super" : Str)).isSome = false) (hl : Says L n ix) (hd : L.defs[ix]? = some d) (hx : d.nm.take d.fd.np = [x]) (hfa : mg d.x = some (.ref fa)) :
    ∃ (fd : FuncData) (sp : Sp), (∀ (s : Shared) (u : Value), BindsTo s fd ⟨[u], []⟩ [(x, u)]) ∧ (∀ (H : Hp) (a : Addr) (ns : List Int), ns.length ≤ 63 → Only H → SqL K H a (ns.map V.int) → sp [.ref a] H (fun v _ => v = .bl true) fun _ _ _ => False) ∧
      ∀ base : Heap, K.In base → base.Ns mainGlobals mg → FnOk P w K mg base CX0 (2 * n + 2) fa fd [x] sp := by
  have c2 : He.SaysD L.fa L.fn K := congrArg (fun z : AlF => z.2.1) c
  have hdn : L.fn[ix]? = some ⟨(d.x, none), d.x, d.x, defArgs d.st, defBody d.st, defScope d.st, [], []⟩ := by
    unfold LawD.fn
    rw [List.getElem?_append_left (by rw [List.length_map]; exact (List.getElem?_eq_some_iff.mp hd).1), List.getElem?_map, hd]
    rfl
  obtain ⟨fdt, F⟩ := c2.def_ ix hdn
  have e : mg d.x = some (.ref (He.ga K d.x)) := He.glo_ok X GN (LawD.fact0 c (by
    unfold LawD.fa0
    exact List.mem_append_left _ (List.mem_append_left _ (List.mem_append_left _ (List.mem_append_left _ (List.mem_map.mpr ⟨d, List.mem_of_getElem? hd, rfl⟩))))))
  rw [hfa] at e
  cases e
  have hs2 : L.defs.all (defB L.T) = true := (band (band (band (band hs).1).1).1).2
  obtain ⟨q, q4⟩ := band (all_get hs2 hd)
  obtain ⟨q, q3⟩ := band q
  obtain ⟨q1, q2⟩ := band q
  have bd := hb.get hd
  unfold BindN at bd
  rw [hx] at bd q1 q2
  have q2 : [x].length = d.fd.np := of_decide_eq_true q2
  have BA := FunD.bindsA (ps := [x]) F bd
  refine ⟨fdt, fun vs H Q _ => spF (L.N nd K) K 1 (callN L.G n ix) vs H Q fun _ _ _ => False, fun s u => BA s [u] rfl, fun H a ns hn ho hS => law_sp hl hn ho hS, fun base KB GB => ?_⟩
  have Z : ProgK P w K mg base (L.N nd K) L.T L.G (L.cv K) := LawD.prog hs hb hbm hi nd X GN c hP ht
  refine calm_fn (prog_ok Z n ix d.fd d.x d.x d.st d.nm [x] _ fdt ?_ ⟨F, fnScB_ok q1, q2, of_decide_eq_true q3, q4, FunD.bindsN F bd⟩)
  show (L.defs.map (·.fd) ++ L.mths.map (·.d.fd))[ix]? = _
  rw [List.getElem?_append_left (by rw [List.length_map]; exact (List.getElem?_eq_some_iff.mp hd).1), List.getElem?_map, hd]
  rfl
end Fx
set_option Elab.async false
set_option linter.all false
set_option autoImplicit false
set_option maxRecDepth 100000
set_option maxHeartbeats 0
/-! K13: the program as a datum (printed by gen.py). -/
namespace K13
open PySem PySem.Spec PyProof.Rows L2 Fx
def top (i : Nat) : Stmt := PySem.Challenge.pw_papersorliars_k13_line_trees_judged.main.body.getD i (.Pass ⟨0, 0, 0, 0⟩)
def sub (s : Stmt) (j : Nat) : Stmt := match s with
  | .ClassDef _ _ _ b _ _ _ _ _ _ _ => b.getD j (.Pass ⟨0, 0, 0, 0⟩)
  | s => s
def b_row_is_right : FSs :=
    (.cons (.asg 2 (.con (.int 0)))
    (.cons (.fr (.tp [3, 4]) (.seq (.loc 1)) (.cons (.ifs (.or (.cons (.cmp .LtE (.loc 3) (.loc 2)) (.cons (.cmp .Gt (.loc 3) (.loc 0)) (.cons (.cmp .NotIn (.loc 4) (.tup (.cons (.con (.int 0)) (.cons (.con (.int 1)) .nil)))) .nil)))) (.cons (.ret (.con (.bl false)))
    .nil) .nil)
    (.cons (.asg 2 (.loc 3))
    .nil)))
    (.cons (.ret (.con (.bl true)))
    .nil)))
def d_row_is_right : DfD := ⟨"row_is_right", top 11, ["names", "row", "last", "name", "value"], ⟨2, 5, b_row_is_right⟩⟩
-- 0 names, 1 row, 2 last, 3 name, 4 value
def b_within : FSs :=
    (.cons (.ret (.blt .all (.cons (.lc [2] (.nm 2) (.seq (.loc 0)) .nil (.cmp .In (.loc 2) (.loc 1))) .nil)))
    .nil)
def d_within : DfD := ⟨"within", top 12, ["row", "other", "pair"], ⟨2, 3, b_within⟩⟩
-- 0 row, 1 other, 2 pair
def b_answer_in : FSs :=
    (.cons (.fr (.tp [2, 3]) (.seq (.loc 0)) (.cons (.ifs (.cmp .Eq (.loc 2) (.loc 1)) (.cons (.ret (.loc 3))
    .nil) .nil)
    .nil))
    (.cons (.ret (.con .non))
    .nil))
def d_answer_in : DfD := ⟨"answer_in", top 13, ["stand", "name", "key", "value"], ⟨2, 4, b_answer_in⟩⟩
-- 0 stand, 1 name, 2 key, 3 value
def b_with_answer : FSs :=
    (.cons (.asg 3 (.lc [4] (.nm 4) (.seq (.loc 0)) (.cons (.cmp .Lt (.idx (.loc 4) (.con (.int 0))) (.loc 1)) .nil) (.loc 4)))
    (.cons (.asg 5 (.lc [4] (.nm 4) (.seq (.loc 0)) (.cons (.cmp .Gt (.idx (.loc 4) (.con (.int 0))) (.loc 1)) .nil) (.loc 4)))
    (.cons (.ifs (.cmp .Lt (.bin .Add (.blt .len (.cons (.loc 3) .nil)) (.blt .len (.cons (.loc 5) .nil))) (.blt .len (.cons (.loc 0) .nil))) (.cons (.rais 3 (.cons (.loc 1) .nil))
    .nil) .nil)
    (.cons (.ret (.bin .Add (.bin .Add (.blt .tuple (.cons (.loc 3) .nil)) (.tup (.cons (.tup (.cons (.loc 1) (.cons (.loc 2) .nil))) .nil))) (.blt .tuple (.cons (.loc 5) .nil))))
    .nil))))
def d_with_answer : DfD := ⟨"with_answer", top 14, ["stand", "name", "answer", "before", "pair", "after"], ⟨3, 6, b_with_answer⟩⟩
-- 0 stand, 1 name, 2 answer, 3 before, 4 pair, 5 after
def b_plain_row : FSs :=
    (.cons (.ret (.blt .tuple (.cons (.blt .sorted (.cons (.lc [1, 2] (.tp [1, 2]) (.seq (.loc 0)) .nil (.tup (.cons (.loc 1) (.cons (.loc 2) .nil)))) .nil)) .nil)))
    .nil)
def d_plain_row : DfD := ⟨"plain_row", top 16, ["row", "name", "value"], ⟨1, 3, b_plain_row⟩⟩
-- 0 row, 1 name, 2 value
def b_line_of : FSs :=
    (.cons (.ret (.ite (.cmp .Eq (.idx (.loc 1) (.con (.int 0))) (.con (.str [119, 105, 115, 104]))) (.idx (.fld (.loc 0) 7) (.idx (.loc 1) (.con (.int 1)))) (.idx (.loc 1) (.con (.int 2)))))
    .nil)
def d_line_of : DfD := ⟨"line_of", top 23, ["book", "paper"], ⟨2, 2, b_line_of⟩⟩
-- 0 book, 1 paper
def b_node_fault : FSs :=
    (.cons (.ifs (.cmp .Eq (.idx (.loc 1) (.con (.int 0))) (.con (.str [119, 105, 115, 104]))) (.cons (.ret (.ite (.chain .LtE .Lt (.con (.int 0)) (.idx (.loc 1) (.con (.int 1))) (.blt .len (.cons (.fld (.loc 0) 7) .nil))) (.con .non) (.tup (.cons (.loc 2) (.cons (.con (.str [119, 105, 115, 104])) .nil)))))
    .nil) .nil)
    (.cons (.par 3 4 (.idx (.loc 1) (.con (.int 1))) (.idx (.loc 1) (.con (.int 2))))
    (.cons (.fr (.nm 5) (.seq (.tup (.cons (.con (.int 0)) (.cons (.con (.int 1)) .nil)))) (.cons (.asg 6 (.call 6 (.cons (.loc 0) (.cons (.idx (.loc 1) (.bin .Add (.con (.int 3)) (.loc 5))) (.cons (.bin .Add (.loc 2) (.tup (.cons (.loc 5) .nil))) .nil)))))
    (.cons (.ifs (.cmp .IsNot (.loc 6) (.con .non)) (.cons (.ret (.loc 6))
    .nil) .nil)
    .nil)))
    (.cons (.ifs (.not (.call 0 (.cons (.fld (.loc 0) 0) (.cons (.loc 4) .nil)))) (.cons (.ret (.tup (.cons (.loc 2) (.cons (.con (.str [108, 105, 110, 101])) .nil))))
    .nil) .nil)
    (.cons (.ifs (.not (.chain .LtE .LtE (.con (.int 1)) (.loc 3) (.fld (.loc 0) 0))) (.cons (.ret (.tup (.cons (.loc 2) (.cons (.con (.str [110, 97, 109, 101])) .nil))))
    .nil) .nil)
    (.cons (.ifs (.cmp .IsNot (.call 2 (.cons (.loc 4) (.cons (.loc 3) .nil))) (.con .non)) (.cons (.ret (.tup (.cons (.loc 2) (.cons (.con (.str [97, 115, 107, 101, 100])) .nil))))
    .nil) .nil)
    (.cons (.fr (.tp [5, 7]) (.seq (.tup (.cons (.tup (.cons (.con (.int 0)) (.cons (.con (.str [108, 101, 102, 116])) .nil))) (.cons (.tup (.cons (.con (.int 1)) (.cons (.con (.str [114, 105, 103, 104, 116])) .nil))) .nil)))) (.cons (.ifs (.not (.call 1 (.cons (.call 5 (.cons (.loc 0) (.cons (.idx (.loc 1) (.bin .Add (.con (.int 3)) (.loc 5))) .nil))) (.cons (.bin .Add (.loc 4) (.tup (.cons (.tup (.cons (.loc 3) (.cons (.bin .Sub (.con (.int 1)) (.loc 5)) .nil))) .nil))) .nil)))) (.cons (.ret (.tup (.cons (.loc 2) (.cons (.loc 7) .nil))))
    .nil) .nil)
    .nil))
    (.cons (.ret (.con .non))
    .nil))))))))
def d_node_fault : DfD := ⟨"node_fault", top 24, ["book", "paper", "place", "name", "line", "side", "fault", "kind"], ⟨3, 8, b_node_fault⟩⟩
-- 0 book, 1 paper, 2 place, 3 name, 4 line, 5 side, 6 fault, 7 kind
def b_line_tree_fault : FSs :=
    (.cons (.asg 2 (.call 6 (.cons (.loc 0) (.cons (.loc 1) (.cons (.tup .nil) .nil)))))
    (.cons (.ifs (.and (.cons (.cmp .Is (.loc 2) (.con .non)) (.cons (.cmp .NotEq (.call 5 (.cons (.loc 0) (.cons (.loc 1) .nil))) (.tup .nil)) .nil))) (.cons (.ret (.tup (.cons (.tup .nil) (.cons (.con (.str [101, 110, 100])) .nil))))
    .nil) .nil)
    (.cons (.ret (.loc 2))
    .nil)))
def d_line_tree_fault : DfD := ⟨"line_tree_fault", top 25, ["book", "paper", "fault"], ⟨2, 3, b_line_tree_fault⟩⟩
-- 0 book, 1 paper, 2 fault
def b_line_tree_leaves : FSs :=
    (.cons (.ifs (.cmp .Eq (.idx (.loc 0) (.con (.int 0))) (.con (.str [119, 105, 115, 104]))) (.cons (.ret (.con (.int 1)))
    .nil) .nil)
    (.cons (.ret (.bin .Add (.call 8 (.cons (.idx (.loc 0) (.con (.int 3))) .nil)) (.call 8 (.cons (.idx (.loc 0) (.con (.int 4))) .nil))))
    .nil))
def d_line_tree_leaves : DfD := ⟨"line_tree_leaves", top 26, ["paper"], ⟨1, 1, b_line_tree_leaves⟩⟩
-- 0 paper
def b_walked_tree : FSs :=
    (.cons (.ifs (.cmp .Eq (.idx (.loc 0) (.con (.int 0))) (.con (.str [119, 105, 115, 104]))) (.cons (.ret (.tup (.cons (.con (.str [108, 101, 97, 102])) (.cons (.idx (.loc 0) (.con (.int 1))) .nil))))
    .nil) .nil)
    (.cons (.asg 2 (.idx (.loc 0) (.con (.int 1))))
    (.cons (.asg 3 (.call 2 (.cons (.loc 1) (.cons (.loc 2) .nil))))
    (.cons (.ifs (.cmp .IsNot (.loc 3) (.con .non)) (.cons (.ret (.call 9 (.cons (.idx (.loc 0) (.bin .Add (.con (.int 3)) (.loc 3))) (.cons (.loc 1) .nil))))
    .nil) .nil)
    (.cons (.asg 4 (.lc [5] (.nm 5) (.seq (.tup (.cons (.con (.int 0)) (.cons (.con (.int 1)) .nil)))) .nil (.call 9 (.cons (.idx (.loc 0) (.bin .Add (.con (.int 3)) (.loc 5))) (.cons (.call 3 (.cons (.loc 1) (.cons (.loc 2) (.cons (.loc 5) .nil)))) .nil)))))
    (.cons (.ret (.tup (.cons (.con (.str [97, 115, 107])) (.cons (.loc 2) (.cons (.idx (.loc 4) (.con (.int 0))) (.cons (.idx (.loc 4) (.con (.int 1))) .nil))))))
    .nil))))))
def d_walked_tree : DfD := ⟨"walked_tree", top 27, ["paper", "stand", "name", "answer", "sides", "side"], ⟨2, 6, b_walked_tree⟩⟩
-- 0 paper, 1 stand, 2 name, 3 answer, 4 sides, 5 side
def b_lines_tree : FSs :=
    (.cons (.asg 2 (.call 7 (.cons (.loc 0) (.cons (.loc 1) .nil))))
    (.cons (.ifs (.cmp .IsNot (.loc 2) (.con .non)) (.cons (.rais 5 (.cons (.idx (.loc 2) (.con (.int 0))) (.cons (.idx (.loc 2) (.con (.int 1))) .nil)))
    .nil) .nil)
    (.cons (.ret (.call 9 (.cons (.loc 1) (.cons (.tup .nil) .nil))))
    .nil)))
def d_lines_tree : DfD := ⟨"lines_tree", top 28, ["book", "paper", "fault"], ⟨2, 3, b_lines_tree⟩⟩
-- 0 book, 1 paper, 2 fault
def b__law_cell : FSs :=
    (.cons (.ifs (.cmp .Lt (.loc 1) (.blt .len (.cons (.loc 0) .nil))) (.cons (.ret (.idx (.loc 0) (.loc 1)))
    .nil) .nil)
    (.cons (.ret (.con (.int 0)))
    .nil))
def d__law_cell : DfD := ⟨"_law_cell", top 30, ["_law_script", "_law_k"], ⟨2, 2, b__law_cell⟩⟩
-- 0 _law_script, 1 _law_k
def b__law_draws : FSs :=
    (.cons (.asg 2 (.lst .nil))
    (.cons (.asg 3 (.blt .abs (.cons (.loc 0) .nil)))
    (.cons (.ifs (.cmp .GtE (.loc 3) (.bin .Pow (.con (.int 10)) (.con (.int 18)))) (.cons (.fr (.nm 4) (.range1 (.loc 1)) (.cons (.expr (.mth .append (.loc 2) (.cons (.bin .Mod (.loc 3) (.con (.int 60))) .nil)))
    (.cons (.asg 3 (.bin .FloorDiv (.loc 3) (.con (.int 60))))
    .nil)))
    (.cons (.ret (.loc 2))
    .nil)) .nil)
    (.cons (.asg 5 (.bin .Add (.loc 3) (.con (.int 17))))
    (.cons (.fr (.nm 4) (.range1 (.loc 1)) (.cons (.asg 5 (.bin .Mod (.blt .int (.cons (.bin .Add (.bin .Add (.bin .Mult (.loc 5) (.con (.int 48271))) (.bin .Mult (.con (.int 12345)) (.loc 4))) (.con (.int 7))) .nil)) (.con (.int 2147483647))))
    (.cons (.asg 6 (.bin .Mod (.blt .int (.cons (.bin .Add (.bin .Mult (.loc 5) (.con (.int 69621))) (.loc 4)) .nil)) (.con (.int 1000003))))
    (.cons (.expr (.mth .append (.loc 2) (.cons (.bin .Mod (.bin .FloorDiv (.loc 6) (.con (.int 3))) (.con (.int 60))) .nil)))
    .nil))))
    (.cons (.ret (.loc 2))
    .nil))))))
def d__law_draws : DfD := ⟨"_law_draws", top 31, ["_law_cell_here", "_law_many", "_law_draws_here", "_law_rest", "_law_k", "_law_state", "_law_other"], ⟨2, 7, b__law_draws⟩⟩
-- 0 _law_cell_here, 1 _law_many, 2 _law_draws_here, 3 _law_rest, 4 _law_k, 5 _law_state, 6 _law_other
def b__law_seed : FSs :=
    (.cons (.asg 2 (.blt .abs (.cons (.call 11 (.cons (.loc 0) (.cons (.loc 1) .nil))) .nil)))
    (.cons (.ifs (.cmp .GtE (.loc 2) (.bin .Pow (.con (.int 10)) (.con (.int 18)))) (.cons (.ret (.loc 2))
    .nil) .nil)
    (.cons (.asg 3 (.bin .Add (.con (.int 5)) (.loc 1)))
    (.cons (.fr (.nm 4) (.seq (.loc 0)) (.cons (.asg 3 (.bin .Mod (.blt .int (.cons (.bin .Add (.bin .Mult (.loc 3) (.con (.int 31))) (.blt .abs (.cons (.loc 4) .nil))) .nil)) (.con (.int 999999999989))))
    .nil))
    (.cons (.ret (.loc 3))
    .nil)))))
def d__law_seed : DfD := ⟨"_law_seed", top 32, ["_law_script", "_law_k", "_law_first", "_law_seed_here", "_law_cell_here"], ⟨2, 5, b__law_seed⟩⟩
-- 0 _law_script, 1 _law_k, 2 _law_first, 3 _law_seed_here, 4 _law_cell_here
def b__law_wish : FSs :=
    (.cons (.asg 2 (.call 12 (.cons (.loc 0) (.cons (.loc 1) .nil))))
    (.cons (.ret (.blt .tuple (.cons (.lc [3] (.nm 3) (.range1 (.loc 1)) (.cons (.cmp .Gt (.bin .Mod (.idx (.loc 2) (.loc 3)) (.con (.int 3))) (.con (.int 0))) .nil) (.tup (.cons (.bin .Add (.loc 3) (.con (.int 1))) (.cons (.bin .Sub (.bin .Mod (.idx (.loc 2) (.loc 3)) (.con (.int 3))) (.con (.int 1))) .nil)))) .nil)))
    .nil))
def d__law_wish : DfD := ⟨"_law_wish", top 33, ["_law_cell_here", "_law_names", "_law_draws_here", "_law_k"], ⟨2, 4, b__law_wish⟩⟩
-- 0 _law_cell_here, 1 _law_names, 2 _law_draws_here, 3 _law_k
def b__law_part : FSs :=
    (.cons (.asg 2 (.lst .nil))
    (.cons (.asg 3 (.loc 0))
    (.cons (.fr (.nm 4) (.seq (.loc 1)) (.cons (.ifs (.cmp .Eq (.bin .Mod (.blt .int (.cons (.loc 3) .nil)) (.con (.int 2))) (.con (.int 0))) (.cons (.expr (.mth .append (.loc 2) (.cons (.loc 4) .nil)))
    .nil) .nil)
    (.cons (.asg 3 (.bin .FloorDiv (.loc 3) (.con (.int 2))))
    .nil)))
    (.cons (.ret (.blt .tuple (.cons (.loc 2) .nil)))
    .nil))))
def d__law_part : DfD := ⟨"_law_part", top 34, ["_law_draw", "_law_row", "_law_part_here", "_law_rest", "_law_word"], ⟨2, 5, b__law_part⟩⟩
-- 0 _law_draw, 1 _law_row, 2 _law_part_here, 3 _law_rest, 4 _law_word
def b__law_grow : FSs :=
    (.cons (.asg 6 (.idx (.loc 0) (.bin .Mod (.loc 5) (.blt .len (.cons (.loc 0) .nil)))))
    (.cons (.asg 7 (.idx (.loc 0) (.bin .Mod (.bin .Add (.bin .Mult (.loc 5) (.con (.int 7))) (.con (.int 3))) (.blt .len (.cons (.loc 0) .nil)))))
    (.cons (.asg 8 (.ite (.cmp .Gt (.bin .Mod (.loc 7) (.con (.int 3))) (.con (.int 0))) (.loc 2) (.call 15 (.cons (.loc 6) (.cons (.loc 2) .nil)))))
    (.cons (.asg 9 (.lc [10] (.nm 10) (.range2 (.con (.int 1)) (.bin .Add (.loc 1) (.con (.int 1)))) (.cons (.cmp .NotIn (.loc 10) (.lc [11] (.nm 11) (.seq (.loc 8)) .nil (.idx (.loc 11) (.con (.int 0))))) .nil) (.loc 10)))
    (.cons (.ifs (.or (.cons (.cmp .Lt (.loc 3) (.con (.int 1))) (.cons (.cmp .Eq (.blt .len (.cons (.loc 9) .nil)) (.con (.int 0))) (.cons (.and (.cons (.cmp .Gt (.blt .len (.cons (.loc 2) .nil)) (.con (.int 0))) (.cons (.cmp .Eq (.bin .Mod (.loc 6) (.con (.int 5))) (.con (.int 4))) .nil))) .nil)))) (.cons (.ret (.tup (.cons (.tup (.cons (.con (.str [119, 105, 115, 104])) (.cons (.ite (.cmp .Gt (.blt .len (.cons (.loc 8) .nil)) (.con (.int 0))) (.loc 8) (.loc 2)) .nil))) (.cons (.bin .Add (.loc 5) (.con (.int 1))) .nil))))
    .nil) .nil)
    (.cons (.asg 10 (.idx (.loc 9) (.bin .Mod (.bin .Add (.loc 6) (.loc 7)) (.blt .len (.cons (.loc 9) .nil)))))
    (.cons (.asg 12 (.blt .tuple (.cons (.blt .sorted (.cons (.bin .Add (.lc [11] (.nm 11) (.seq (.loc 8)) .nil (.loc 11)) (.lst (.cons (.tup (.cons (.loc 10) (.cons (.con (.int 1)) .nil))) .nil))) .nil)) .nil)))
    (.cons (.asg 13 (.blt .tuple (.cons (.blt .sorted (.cons (.bin .Add (.lc [11] (.nm 11) (.seq (.loc 8)) .nil (.loc 11)) (.lst (.cons (.tup (.cons (.loc 10) (.cons (.con (.int 0)) .nil))) .nil))) .nil)) .nil)))
    (.cons (.asg 14 (.call 16 (.cons (.loc 0) (.cons (.loc 1) (.cons (.loc 12) (.cons (.ite (.and (.cons (.loc 4) (.cons (.cmp .Eq (.bin .Mod (.loc 7) (.con (.int 2))) (.con (.int 1))) .nil))) (.con (.int 0)) (.bin .Sub (.loc 3) (.con (.int 1)))) (.cons (.loc 4) (.cons (.bin .Add (.loc 5) (.con (.int 1))) .nil))))))))
    (.cons (.asg 15 (.call 16 (.cons (.loc 0) (.cons (.loc 1) (.cons (.loc 13) (.cons (.ite (.and (.cons (.loc 4) (.cons (.cmp .Eq (.bin .Mod (.loc 7) (.con (.int 2))) (.con (.int 0))) .nil))) (.con (.int 0)) (.bin .Sub (.loc 3) (.con (.int 1)))) (.cons (.loc 4) (.cons (.idx (.loc 14) (.con (.int 1))) .nil))))))))
    (.cons (.ret (.tup (.cons (.tup (.cons (.con (.str [102, 114, 111, 109])) (.cons (.loc 10) (.cons (.loc 8) (.cons (.idx (.loc 14) (.con (.int 0))) (.cons (.idx (.loc 15) (.con (.int 0))) .nil)))))) (.cons (.idx (.loc 15) (.con (.int 1))) .nil))))
    .nil)))))))))))
def d__law_grow : DfD := ⟨"_law_grow", top 35, ["_law_draws_here", "_law_names", "_law_allowed", "_law_deep", "_law_narrow", "_law_at", "_law_draw", "_law_other", "_law_line_here", "_law_free", "_law_name", "_law_word", "_law_less", "_law_more", "_law_left", "_law_right"], ⟨6, 16, b__law_grow⟩⟩
-- 0 _law_draws_here, 1 _law_names, 2 _law_allowed, 3 _law_deep, 4 _law_narrow, 5 _law_at, 6 _law_draw, 7 _law_other, 8 _law_line_here, 9 _law_free, 10 _law_name, 11 _law_word, 12 _law_less, 13 _law_more, 14 _law_left, 15 _law_right
def b__law_leaf_rows : FSs :=
    (.cons (.ifs (.cmp .Eq (.idx (.loc 0) (.con (.int 0))) (.con (.str [119, 105, 115, 104]))) (.cons (.ret (.lst (.cons (.idx (.loc 0) (.con (.int 1))) .nil)))
    .nil) .nil)
    (.cons (.ret (.bin .Add (.call 17 (.cons (.idx (.loc 0) (.con (.int 3))) .nil)) (.call 17 (.cons (.idx (.loc 0) (.con (.int 4))) .nil))))
    .nil))
def d__law_leaf_rows : DfD := ⟨"_law_leaf_rows", top 36, ["_law_paper"], ⟨1, 1, b__law_leaf_rows⟩⟩
-- 0 _law_paper
def b__law_indexed : FSs :=
    (.cons (.ifs (.cmp .Eq (.idx (.loc 0) (.con (.int 0))) (.con (.str [119, 105, 115, 104]))) (.cons (.ret (.tup (.cons (.con (.str [119, 105, 115, 104])) (.cons (.mth .index (.loc 1) (.cons (.idx (.loc 0) (.con (.int 1))) .nil)) .nil))))
    .nil) .nil)
    (.cons (.ret (.tup (.cons (.con (.str [102, 114, 111, 109])) (.cons (.idx (.loc 0) (.con (.int 1))) (.cons (.idx (.loc 0) (.con (.int 2))) (.cons (.call 18 (.cons (.idx (.loc 0) (.con (.int 3))) (.cons (.loc 1) .nil))) (.cons (.call 18 (.cons (.idx (.loc 0) (.con (.int 4))) (.cons (.loc 1) .nil))) .nil)))))))
    .nil))
def d__law_indexed : DfD := ⟨"_law_indexed", top 37, ["_law_paper", "_law_wishes"], ⟨2, 2, b__law_indexed⟩⟩
-- 0 _law_paper, 1 _law_wishes
def b__law_places : FSs :=
    (.cons (.ifs (.cmp .Eq (.idx (.loc 0) (.con (.int 0))) (.con (.str [119, 105, 115, 104]))) (.cons (.ret (.lst (.cons (.loc 1) .nil)))
    .nil) .nil)
    (.cons (.ret (.bin .Add (.bin .Add (.call 19 (.cons (.idx (.loc 0) (.con (.int 3))) (.cons (.bin .Add (.loc 1) (.tup (.cons (.con (.int 0)) .nil))) .nil))) (.call 19 (.cons (.idx (.loc 0) (.con (.int 4))) (.cons (.bin .Add (.loc 1) (.tup (.cons (.con (.int 1)) .nil))) .nil)))) (.lst (.cons (.loc 1) .nil))))
    .nil))
def d__law_places : DfD := ⟨"_law_places", top 38, ["_law_paper", "_law_place"], ⟨2, 2, b__law_places⟩⟩
-- 0 _law_paper, 1 _law_place
def b__law_node : FSs :=
    (.cons (.asg 2 (.loc 0))
    (.cons (.fr (.nm 3) (.seq (.loc 1)) (.cons (.asg 2 (.idx (.loc 2) (.bin .Add (.con (.int 3)) (.loc 3))))
    .nil))
    (.cons (.ret (.loc 2))
    .nil)))
def d__law_node : DfD := ⟨"_law_node", top 39, ["_law_paper", "_law_place", "_law_node_here", "_law_side"], ⟨2, 4, b__law_node⟩⟩
-- 0 _law_paper, 1 _law_place, 2 _law_node_here, 3 _law_side
def b__law_put : FSs :=
    (.cons (.ifs (.cmp .Eq (.blt .len (.cons (.loc 1) .nil)) (.con (.int 0))) (.cons (.ret (.loc 2))
    .nil) .nil)
    (.cons (.ifs (.cmp .Eq (.idx (.loc 1) (.con (.int 0))) (.con (.int 0))) (.cons (.ret (.tup (.cons (.idx (.loc 0) (.con (.int 0))) (.cons (.idx (.loc 0) (.con (.int 1))) (.cons (.idx (.loc 0) (.con (.int 2))) (.cons (.call 21 (.cons (.idx (.loc 0) (.con (.int 3))) (.cons (.cutL (.loc 1) (.con (.int 1))) (.cons (.loc 2) .nil)))) (.cons (.idx (.loc 0) (.con (.int 4))) .nil)))))))
    .nil) .nil)
    (.cons (.ret (.tup (.cons (.idx (.loc 0) (.con (.int 0))) (.cons (.idx (.loc 0) (.con (.int 1))) (.cons (.idx (.loc 0) (.con (.int 2))) (.cons (.idx (.loc 0) (.con (.int 3))) (.cons (.call 21 (.cons (.idx (.loc 0) (.con (.int 4))) (.cons (.cutL (.loc 1) (.con (.int 1))) (.cons (.loc 2) .nil)))) .nil)))))))
    .nil)))
def d__law_put : DfD := ⟨"_law_put", top 40, ["_law_paper", "_law_place", "_law_node_here"], ⟨3, 3, b__law_put⟩⟩
-- 0 _law_paper, 1 _law_place, 2 _law_node_here
def b__law_spoilt_line : FSs :=
    (.cons (.asg 4 (.bin .Mod (.blt .int (.cons (.loc 3) .nil)) (.bin .Add (.blt .len (.cons (.loc 1) .nil)) (.con (.int 1)))))
    (.cons (.asg 5 (.bin .Add (.con (.int 1)) (.bin .Mod (.blt .int (.cons (.loc 3) .nil)) (.loc 0))))
    (.cons (.asg 6 (.bin .Mod (.bin .FloorDiv (.loc 2) (.con (.int 10))) (.con (.int 6))))
    (.cons (.ifs (.cmp .Eq (.loc 6) (.con (.int 0))) (.cons (.ret (.bin .Add (.cutH (.loc 1) (.loc 4)) (.cutL (.loc 1) (.bin .Add (.loc 4) (.con (.int 1))))))
    .nil) .nil)
    (.cons (.ifs (.cmp .Eq (.loc 6) (.con (.int 1))) (.cons (.ret (.blt .tuple (.cons (.blt .sorted (.cons (.bin .Add (.lc [7] (.nm 7) (.seq (.loc 1)) .nil (.loc 7)) (.lst (.cons (.tup (.cons (.loc 5) (.cons (.bin .Mod (.bin .FloorDiv (.loc 3) (.con (.int 5))) (.con (.int 2))) .nil))) .nil))) .nil)) .nil)))
    .nil) .nil)
    (.cons (.ifs (.cmp .Eq (.loc 6) (.con (.int 2))) (.cons (.ret (.blt .tuple (.cons (.lc [7] (.nm 7) (.rev (.blt .list (.cons (.loc 1) .nil))) .nil (.loc 7)) .nil)))
    .nil) .nil)
    (.cons (.ifs (.cmp .Eq (.loc 6) (.con (.int 3))) (.cons (.ret (.bin .Add (.bin .Add (.cutH (.loc 1) (.loc 4)) (.cutL (.cutH (.loc 1) (.loc 4)) (.bin .Sub (.blt .len (.cons (.cutH (.loc 1) (.loc 4)) .nil)) (.con (.int 1))))) (.cutL (.loc 1) (.loc 4))))
    .nil) .nil)
    (.cons (.ifs (.cmp .Eq (.loc 6) (.con (.int 4))) (.cons (.asg 8 (.idx (.lst (.cons (.tup (.cons (.con (.int 0)) (.cons (.con (.int 1)) .nil))) (.cons (.tup (.cons (.bin .Add (.loc 0) (.con (.int 1))) (.cons (.con (.int 0)) .nil))) (.cons (.tup (.cons (.loc 5) (.cons (.con (.int 2)) .nil))) (.cons (.tup (.cons (.loc 5) (.cons (.bin .Sub (.con (.int 0)) (.con (.int 1))) .nil))) (.cons (.tup (.cons (.bin .Add (.bin .Add (.loc 0) (.con (.int 1))) (.loc 3)) (.cons (.con (.int 1)) .nil))) .nil)))))) (.bin .Mod (.blt .int (.cons (.loc 3) .nil)) (.con (.int 5)))))
    (.cons (.ret (.bin .Add (.bin .Add (.cutH (.loc 1) (.loc 4)) (.tup (.cons (.loc 8) .nil))) (.cutL (.loc 1) (.loc 4))))
    .nil)) .nil)
    (.cons (.ret (.blt .tuple (.cons (.lc [7] (.nm 7) (.seq (.loc 1)) .nil (.ite (.cmp .In (.loc 7) (.cut (.loc 1) (.loc 4) (.bin .Add (.loc 4) (.con (.int 1))))) (.tup (.cons (.idx (.loc 7) (.con (.int 0))) (.cons (.bin .Sub (.con (.int 1)) (.idx (.loc 7) (.con (.int 1)))) .nil))) (.loc 7))) .nil)))
    .nil)))))))))
def d__law_spoilt_line : DfD := ⟨"_law_spoilt_line", top 41, ["_law_names", "_law_line_here", "_law_draw", "_law_other", "_law_at", "_law_name", "_law_way", "_law_word", "_law_bad"], ⟨4, 9, b__law_spoilt_line⟩⟩
-- 0 _law_names, 1 _law_line_here, 2 _law_draw, 3 _law_other, 4 _law_at, 5 _law_name, 6 _law_way, 7 _law_word, 8 _law_bad
def b__law_spoilt : FSs :=
    (.cons (.ifs (.cmp .Eq (.idx (.loc 2) (.con (.int 0))) (.con (.str [119, 105, 115, 104]))) (.cons (.ret (.tup (.cons (.con (.str [119, 105, 115, 104])) (.cons (.idx (.lst (.cons (.bin .Add (.loc 1) (.loc 4)) (.cons (.bin .Sub (.bin .Sub (.con (.int 0)) (.con (.int 1))) (.loc 4)) (.cons (.bin .Mod (.blt .int (.cons (.loc 4) .nil)) (.loc 1)) (.cons (.loc 1) (.cons (.bin .Mod (.blt .int (.cons (.bin .Add (.loc 4) (.con (.int 1))) .nil)) (.loc 1)) .nil)))))) (.bin .Mod (.loc 3) (.con (.int 5)))) .nil))))
    .nil) .nil)
    (.cons (.asg 5 (.bin .Mod (.loc 3) (.con (.int 10))))
    (.cons (.ifs (.cmp .Eq (.loc 5) (.con (.int 0))) (.cons (.ret (.tup (.cons (.con (.str [102, 114, 111, 109])) (.cons (.idx (.lst (.cons (.con (.int 0)) (.cons (.bin .Sub (.bin .Sub (.con (.int 0)) (.con (.int 1))) (.loc 4)) (.cons (.bin .Add (.loc 0) (.con (.int 1))) (.cons (.bin .Add (.bin .Add (.loc 0) (.con (.int 1))) (.loc 4)) .nil))))) (.bin .Mod (.bin .FloorDiv (.loc 3) (.con (.int 10))) (.con (.int 4)))) (.cons (.idx (.loc 2) (.con (.int 2))) (.cons (.idx (.loc 2) (.con (.int 3))) (.cons (.idx (.loc 2) (.con (.int 4))) .nil)))))))
    .nil) .nil)
    (.cons (.ifs (.cmp .Lt (.loc 5) (.con (.int 3))) (.cons (.ret (.tup (.cons (.con (.str [102, 114, 111, 109])) (.cons (.bin .Add (.con (.int 1)) (.bin .Mod (.blt .int (.cons (.loc 4) .nil)) (.loc 0))) (.cons (.idx (.loc 2) (.con (.int 2))) (.cons (.idx (.loc 2) (.con (.int 3))) (.cons (.idx (.loc 2) (.con (.int 4))) .nil)))))))
    .nil) .nil)
    (.cons (.ifs (.cmp .Eq (.loc 5) (.con (.int 3))) (.cons (.ret (.tup (.cons (.con (.str [102, 114, 111, 109])) (.cons (.idx (.loc 2) (.con (.int 1))) (.cons (.idx (.loc 2) (.con (.int 2))) (.cons (.idx (.loc 2) (.con (.int 4))) (.cons (.idx (.loc 2) (.con (.int 3))) .nil)))))))
    .nil) .nil)
    (.cons (.ifs (.cmp .Eq (.loc 5) (.con (.int 4))) (.cons (.ret (.idx (.loc 2) (.bin .Add (.con (.int 3)) (.bin .Mod (.loc 4) (.con (.int 2))))))
    .nil) .nil)
    (.cons (.ret (.tup (.cons (.con (.str [102, 114, 111, 109])) (.cons (.idx (.loc 2) (.con (.int 1))) (.cons (.call 22 (.cons (.loc 0) (.cons (.idx (.loc 2) (.con (.int 2))) (.cons (.loc 3) (.cons (.loc 4) .nil))))) (.cons (.idx (.loc 2) (.con (.int 3))) (.cons (.idx (.loc 2) (.con (.int 4))) .nil)))))))
    .nil)))))))
def d__law_spoilt : DfD := ⟨"_law_spoilt", top 42, ["_law_names", "_law_many", "_law_node_here", "_law_draw", "_law_other", "_law_way"], ⟨5, 6, b__law_spoilt⟩⟩
-- 0 _law_names, 1 _law_many, 2 _law_node_here, 3 _law_draw, 4 _law_other, 5 _law_way
def b__law_line : FSs :=
    (.cons (.ret (.ite (.cmp .Eq (.idx (.loc 1) (.con (.int 0))) (.con (.str [119, 105, 115, 104]))) (.idx (.loc 0) (.idx (.loc 1) (.con (.int 1)))) (.idx (.loc 1) (.con (.int 2)))))
    .nil)
def d__law_line : DfD := ⟨"_law_line", top 43, ["_law_wishes", "_law_paper"], ⟨2, 2, b__law_line⟩⟩
-- 0 _law_wishes, 1 _law_paper
def b__law_right_row : FSs :=
    (.cons (.asg 2 (.con (.int 0)))
    (.cons (.fr (.nm 3) (.seq (.loc 1)) (.cons (.ifs (.or (.cons (.not (.chain .Lt .LtE (.loc 2) (.idx (.loc 3) (.con (.int 0))) (.loc 0))) (.cons (.cmp .NotIn (.idx (.loc 3) (.con (.int 1))) (.tup (.cons (.con (.int 0)) (.cons (.con (.int 1)) .nil)))) .nil))) (.cons (.ret (.con (.bl false)))
    .nil) .nil)
    (.cons (.asg 2 (.idx (.loc 3) (.con (.int 0))))
    .nil)))
    (.cons (.ret (.con (.bl true)))
    .nil)))
def d__law_right_row : DfD := ⟨"_law_right_row", top 44, ["_law_names", "_law_row", "_law_last", "_law_word"], ⟨2, 4, b__law_right_row⟩⟩
-- 0 _law_names, 1 _law_row, 2 _law_last, 3 _law_word
def b__law_node_fault : FSs :=
    (.cons (.ifs (.cmp .Eq (.idx (.loc 2) (.con (.int 0))) (.con (.str [119, 105, 115, 104]))) (.cons (.ret (.ite (.chain .LtE .Lt (.con (.int 0)) (.idx (.loc 2) (.con (.int 1))) (.blt .len (.cons (.loc 1) .nil))) (.con .non) (.tup (.cons (.loc 3) (.cons (.con (.str [119, 105, 115, 104])) .nil)))))
    .nil) .nil)
    (.cons (.fr (.nm 4) (.range1 (.con (.int 2))) (.cons (.asg 5 (.call 26 (.cons (.loc 0) (.cons (.loc 1) (.cons (.idx (.loc 2) (.bin .Add (.con (.int 3)) (.loc 4))) (.cons (.bin .Add (.loc 3) (.tup (.cons (.loc 4) .nil))) .nil))))))
    (.cons (.ifs (.cmp .IsNot (.loc 5) (.con .non)) (.cons (.ret (.loc 5))
    .nil) .nil)
    .nil)))
    (.cons (.ifs (.not (.call 25 (.cons (.loc 0) (.cons (.idx (.loc 2) (.con (.int 2))) .nil)))) (.cons (.ret (.tup (.cons (.loc 3) (.cons (.con (.str [108, 105, 110, 101])) .nil))))
    .nil) .nil)
    (.cons (.ifs (.not (.chain .LtE .LtE (.con (.int 1)) (.idx (.loc 2) (.con (.int 1))) (.loc 0))) (.cons (.ret (.tup (.cons (.loc 3) (.cons (.con (.str [110, 97, 109, 101])) .nil))))
    .nil) .nil)
    (.cons (.ifs (.cmp .In (.idx (.loc 2) (.con (.int 1))) (.lc [6] (.nm 6) (.seq (.idx (.loc 2) (.con (.int 2)))) .nil (.idx (.loc 6) (.con (.int 0))))) (.cons (.ret (.tup (.cons (.loc 3) (.cons (.con (.str [97, 115, 107, 101, 100])) .nil))))
    .nil) .nil)
    (.cons (.fr (.nm 4) (.range1 (.con (.int 2))) (.cons (.asg 7 (.bin .Add (.lc [6] (.nm 6) (.seq (.idx (.loc 2) (.con (.int 2)))) .nil (.loc 6)) (.lst (.cons (.tup (.cons (.idx (.loc 2) (.con (.int 1))) (.cons (.bin .Sub (.con (.int 1)) (.loc 4)) .nil))) .nil))))
    (.cons (.ifs (.cmp .Gt (.blt .len (.cons (.lc [6] (.nm 6) (.seq (.call 24 (.cons (.loc 1) (.cons (.idx (.loc 2) (.bin .Add (.con (.int 3)) (.loc 4))) .nil)))) (.cons (.cmp .NotIn (.loc 6) (.loc 7)) .nil) (.loc 6)) .nil)) (.con (.int 0))) (.cons (.ret (.tup (.cons (.loc 3) (.cons (.idx (.lst (.cons (.con (.str [108, 101, 102, 116])) (.cons (.con (.str [114, 105, 103, 104, 116])) .nil))) (.loc 4)) .nil))))
    .nil) .nil)
    .nil)))
    (.cons (.ret (.con .non))
    .nil)))))))
def d__law_node_fault : DfD := ⟨"_law_node_fault", top 45, ["_law_names", "_law_wishes", "_law_paper", "_law_place", "_law_side", "_law_fault", "_law_word", "_law_allowed"], ⟨4, 8, b__law_node_fault⟩⟩
-- 0 _law_names, 1 _law_wishes, 2 _law_paper, 3 _law_place, 4 _law_side, 5 _law_fault, 6 _law_word, 7 _law_allowed
def b__law_due : FSs :=
    (.cons (.asg 3 (.call 26 (.cons (.loc 0) (.cons (.loc 1) (.cons (.loc 2) (.cons (.tup .nil) .nil))))))
    (.cons (.ifs (.and (.cons (.cmp .Is (.loc 3) (.con .non)) (.cons (.cmp .Gt (.blt .len (.cons (.call 24 (.cons (.loc 1) (.cons (.loc 2) .nil))) .nil)) (.con (.int 0))) .nil))) (.cons (.ret (.tup (.cons (.tup .nil) (.cons (.con (.str [101, 110, 100])) .nil))))
    .nil) .nil)
    (.cons (.ret (.loc 3))
    .nil)))
def d__law_due : DfD := ⟨"_law_due", top 46, ["_law_names", "_law_wishes", "_law_paper", "_law_fault"], ⟨3, 4, b__law_due⟩⟩
-- 0 _law_names, 1 _law_wishes, 2 _law_paper, 3 _law_fault
def b__law_same : FSs :=
    (.cons (.ifs (.isi (.loc 1) .tTuple) (.cons (.ifs (.or (.cons (.not (.isi (.loc 0) .tTuple)) (.cons (.cmp .NotEq (.blt .len (.cons (.loc 0) .nil)) (.blt .len (.cons (.loc 1) .nil))) .nil))) (.cons (.ret (.con (.bl false)))
    .nil) .nil)
    (.cons (.fr (.nm 2) (.range1 (.blt .len (.cons (.loc 1) .nil))) (.cons (.ifs (.not (.call 28 (.cons (.idx (.loc 0) (.loc 2)) (.cons (.idx (.loc 1) (.loc 2)) .nil)))) (.cons (.ret (.con (.bl false)))
    .nil) .nil)
    .nil))
    (.cons (.ret (.con (.bl true)))
    .nil))) .nil)
    (.cons (.ifs (.isi (.loc 1) .tStr) (.cons (.ret (.and (.cons (.isi (.loc 0) .tStr) (.cons (.cmp .Eq (.loc 0) (.loc 1)) .nil))))
    .nil) .nil)
    (.cons (.ret (.and (.cons (.isi (.loc 0) .tInt) (.cons (.not (.isi (.loc 0) .tBool)) (.cons (.cmp .Eq (.loc 0) (.loc 1)) .nil)))))
    .nil)))
def d__law_same : DfD := ⟨"_law_same", top 47, ["_law_actual", "_law_expected", "_law_k"], ⟨2, 3, b__law_same⟩⟩
-- 0 _law_actual, 1 _law_expected, 2 _law_k
def b__law_refused : FSs :=
    (.cons (.tr (.cons (.expr (.call 10 (.cons (.loc 0) (.cons (.loc 1) .nil))))
    .nil) (.cons 5 (some 2) (.cons (.ifs (.or (.cons (.not (.xisi 2 [7])) (.cons (.xisi 2 [6, 1]) .nil))) (.cons (.ret (.tup (.cons (.con (.str [111, 116, 104, 101, 114])) (.cons (.con (.int 0)) .nil))))
    .nil) .nil)
    (.cons (.ret (.tup (.cons (.xfld 2 5) (.cons (.xfld 2 6) .nil))))
    .nil)) .nil))
    (.cons (.ret (.con .non))
    .nil))
def d__law_refused : DfD := ⟨"_law_refused", top 48, ["_law_book", "_law_paper", "e"], ⟨2, 3, b__law_refused⟩⟩
-- 0 _law_book, 1 _law_paper, 2 e
def b__law_judged : FSs :=
    (.cons (.asg 4 (.call 27 (.cons (.loc 0) (.cons (.loc 1) (.cons (.loc 3) .nil)))))
    (.cons (.ifs (.not (.call 28 (.cons (.call 8 (.cons (.loc 3) .nil)) (.cons (.blt .len (.cons (.call 17 (.cons (.loc 3) .nil)) .nil)) .nil)))) (.cons (.ret (.con (.bl false)))
    .nil) .nil)
    (.cons (.ifs (.cmp .Is (.loc 4) (.con .non)) (.cons (.ret (.and (.cons (.cmp .Is (.call 7 (.cons (.loc 2) (.cons (.loc 3) .nil))) (.con .non)) (.cons (.cmp .Is (.call 29 (.cons (.loc 2) (.cons (.loc 3) .nil))) (.con .non)) .nil))))
    .nil) .nil)
    (.cons (.ret (.and (.cons (.call 28 (.cons (.call 7 (.cons (.loc 2) (.cons (.loc 3) .nil))) (.cons (.loc 4) .nil))) (.cons (.call 28 (.cons (.call 29 (.cons (.loc 2) (.cons (.loc 3) .nil))) (.cons (.loc 4) .nil))) .nil))))
    .nil))))
def d__law_judged : DfD := ⟨"_law_judged", top 49, ["_law_names", "_law_wishes", "_law_book", "_law_paper", "_law_due_here"], ⟨4, 5, b__law_judged⟩⟩
-- 0 _law_names, 1 _law_wishes, 2 _law_book, 3 _law_paper, 4 _law_due_here
def b_law : FSs :=
    (.cons (.asg 1 (.blt .abs (.cons (.call 11 (.cons (.loc 0) (.cons (.con (.int 0)) .nil))) .nil)))
    (.cons (.asg 2 (.bin .Mod (.loc 1) (.con (.int 5))))
    (.cons (.ifs (.cmp .Eq (.bin .Mod (.bin .FloorDiv (.loc 1) (.con (.int 5))) (.con (.int 9))) (.con (.int 1))) (.cons (.asg 2 (.con (.int 40)))
    .nil) .nil)
    (.cons (.asg 3 (.call 12 (.cons (.call 13 (.cons (.loc 0) (.cons (.con (.int 1)) .nil))) (.cons (.con (.int 64)) .nil))))
    (.cons (.asg 4 (.cmp .Eq (.bin .Mod (.bin .FloorDiv (.loc 1) (.con (.int 45))) (.con (.int 3))) (.con (.int 1))))
    (.cons (.asg 5 (.bin .Add (.con (.int 3)) (.bin .Mod (.bin .FloorDiv (.loc 1) (.con (.int 135))) (.con (.int 3)))))
    (.cons (.ifs (.loc 4) (.cons (.asg 5 (.bin .Mod (.bin .FloorDiv (.loc 1) (.con (.int 135))) (.con (.int 25))))
    .nil) .nil)
    (.cons (.asg 6 (.idx (.call 16 (.cons (.loc 3) (.cons (.loc 2) (.cons (.tup .nil) (.cons (.loc 5) (.cons (.loc 4) (.cons (.con (.int 0)) .nil))))))) (.con (.int 0))))
    (.cons (.asg 7 (.blt .sorted (.cons (.bin .Add (.call 17 (.cons (.loc 6) .nil)) (.lc [8] (.nm 8) (.seq (.cut (.loc 0) (.con (.int 2)) (.con (.int 32)))) .nil (.call 14 (.cons (.loc 8) (.cons (.blt .min (.cons (.loc 2) (.cons (.con (.int 5)) .nil))) .nil))))) .nil)))
    (.cons (.asg 9 (.lst .nil))
    (.cons (.fr (.nm 10) (.seq (.loc 7)) (.cons (.ifs (.or (.cons (.cmp .Eq (.blt .len (.cons (.loc 9) .nil)) (.con (.int 0))) (.cons (.cmp .NotEq (.idx (.loc 9) (.neg (.con (.int 1)))) (.loc 10)) .nil))) (.cons (.expr (.mth .append (.loc 9) (.cons (.loc 10) .nil)))
    .nil) .nil)
    .nil))
    (.cons (.asg 11 (.mk 0 32 (.cons (.loc 2) (.cons (.lc [12] (.nm 12) (.seq (.loc 9)) .nil (.blt .list (.cons (.loc 12) .nil))) .nil))))
    (.cons (.asg 13 (.call 18 (.cons (.loc 6) (.cons (.loc 9) .nil))))
    (.cons (.ifs (.or (.cons (.cmp .IsNot (.call 27 (.cons (.loc 2) (.cons (.loc 9) (.cons (.loc 13) .nil)))) (.con .non)) (.cons (.not (.call 30 (.cons (.loc 2) (.cons (.loc 9) (.cons (.loc 11) (.cons (.loc 13) .nil)))))) .nil))) (.cons (.ret (.con (.bl false)))
    .nil) .nil)
    (.cons (.asg 14 (.call 19 (.cons (.loc 13) (.cons (.tup .nil) .nil))))
    (.cons (.asg 15 (.call 12 (.cons (.call 13 (.cons (.loc 0) (.cons (.con (.int 2)) .nil))) (.cons (.con (.int 60)) .nil))))
    (.cons (.fr (.nm 16) (.range1 (.con (.int 12))) (.cons (.asg 17 (.loc 13))
    (.cons (.fr (.nm 18) (.range1 (.bin .Add (.con (.int 1)) (.bin .Mod (.loc 16) (.con (.int 2))))) (.cons (.asg 19 (.idx (.loc 14) (.bin .Mod (.bin .Add (.bin .Add (.idx (.loc 15) (.bin .Add (.bin .Mult (.con (.int 5)) (.loc 16)) (.loc 18))) (.bin .Mult (.con (.int 60)) (.idx (.loc 15) (.bin .Sub (.con (.int 59)) (.loc 16))))) (.loc 18)) (.blt .len (.cons (.loc 14) .nil)))))
    (.cons (.ifs (.and (.cons (.cmp .Eq (.loc 18) (.con (.int 1))) (.cons (.cmp .NotIn (.loc 19) (.call 19 (.cons (.loc 17) (.cons (.tup .nil) .nil)))) .nil))) (.cons (.asg 19 (.tup .nil))
    .nil) .nil)
    (.cons (.asg 20 (.call 23 (.cons (.loc 2) (.cons (.blt .len (.cons (.loc 9) .nil)) (.cons (.call 20 (.cons (.loc 17) (.cons (.loc 19) .nil))) (.cons (.idx (.loc 15) (.bin .Add (.bin .Add (.bin .Mult (.con (.int 5)) (.loc 16)) (.con (.int 2))) (.loc 18))) (.cons (.idx (.loc 15) (.bin .Sub (.bin .Add (.bin .Mult (.con (.int 5)) (.loc 16)) (.con (.int 4))) (.loc 18))) .nil)))))))
    (.cons (.asg 17 (.call 21 (.cons (.loc 17) (.cons (.loc 19) (.cons (.loc 20) .nil)))))
    .nil)))))
    (.cons (.ifs (.cmp .Gt (.loc 16) (.con (.int 9))) (.cons (.asg 17 (.call 20 (.cons (.loc 13) (.cons (.idx (.loc 14) (.bin .Mod (.idx (.loc 15) (.loc 16)) (.blt .len (.cons (.loc 14) .nil)))) .nil))))
    .nil) .nil)
    (.cons (.ifs (.not (.call 30 (.cons (.loc 2) (.cons (.loc 9) (.cons (.loc 11) (.cons (.loc 17) .nil)))))) (.cons (.ret (.con (.bl false)))
    .nil) .nil)
    .nil)))))
    (.cons (.ret (.cmp .Is (.call 7 (.cons (.loc 11) (.cons (.loc 13) .nil))) (.con .non)))
    .nil))))))))))))))))))
def d_law : DfD := ⟨"law", top 50, ["_law_script", "_law_first", "_law_names", "_law_draws_here", "_law_narrow", "_law_deep", "_law_grown", "_law_rows", "_law_cell_here", "_law_wishes", "_law_row", "_law_book", "_law_wish_here", "_law_right", "_law_places_here", "_law_more", "_law_k", "_law_paper", "_law_j", "_law_place", "_law_node_here"], ⟨1, 21, b_law⟩⟩
-- 0 _law_script, 1 _law_first, 2 _law_names, 3 _law_draws_here, 4 _law_narrow, 5 _law_deep, 6 _law_grown, 7 _law_rows, 8 _law_cell_here, 9 _law_wishes, 10 _law_row, 11 _law_book, 12 _law_wish_here, 13 _law_right, 14 _law_places_here, 15 _law_more, 16 _law_k, 17 _law_paper, 18 _law_j, 19 _law_place, 20 _law_node_here
def b_Book___init__ : FSs :=
    (.cons (.ifs (.or (.cons (.cmp .Lt (.loc 1) (.con (.int 0))) (.cons (.cmp .Gt (.loc 1) (.ccon 0)) .nil))) (.cons (.rais 0 (.cons (.loc 1) .nil))
    .nil) .nil)
    (.cons (.asg 3 (.lst .nil))
    (.cons (.fr (.tp [4, 5]) (.enum (.loc 2)) (.cons (.asg 6 (.call 4 (.cons (.loc 5) .nil)))
    (.cons (.ifs (.not (.call 0 (.cons (.loc 1) (.cons (.loc 6) .nil)))) (.cons (.rais 1 (.cons (.loc 4) .nil))
    .nil) .nil)
    (.cons (.expr (.mth .append (.loc 3) (.cons (.loc 6) .nil)))
    .nil))))
    (.cons (.asg 3 (.srtSet (.loc 3)))
    (.cons (.ifs (.cmp .Gt (.blt .len (.cons (.loc 3) .nil)) (.ccon 1)) (.cons (.rais 2 (.cons (.blt .len (.cons (.loc 3) .nil)) .nil))
    .nil) .nil)
    (.cons (.setf (.loc 0) 0 (.loc 1))
    (.cons (.setf (.loc 0) 7 (.blt .tuple (.cons (.loc 3) .nil)))
    .nil)))))))
def m_Book___init__ : MthD := ⟨"Book", ⟨"__init__", sub (top 21) 2, ["self", "names", "wishes", "rows", "at", "wish", "row"], ⟨3, 7, b_Book___init__⟩⟩⟩
-- 0 self, 1 names, 2 wishes, 3 rows, 4 at, 5 wish, 6 row
def L : LawD where
  file := "/claim/cut.py"
  defs := [d_row_is_right, d_within, d_answer_in, d_with_answer, d_plain_row, d_line_of, d_node_fault, d_line_tree_fault, d_line_tree_leaves, d_walked_tree, d_lines_tree, d__law_cell, d__law_draws, d__law_seed, d__law_wish, d__law_part, d__law_grow, d__law_leaf_rows, d__law_indexed, d__law_places, d__law_node, d__law_put, d__law_spoilt_line, d__law_spoilt, d__law_line, d__law_right_row, d__law_node_fault, d__law_due, d__law_same, d__law_refused, d__law_judged, d_law]
  mths := [m_Book___init__]
  clss := [⟨"Book", 32, [0, 7], [("MOST_NAMES", .int (40)), ("MOST_WISHES", .int (128))]⟩]
  errs := [⟨"BadNames", sub (top 3) 0, ["self", "names"], ["names"], [0]⟩, ⟨"BadWish", sub (top 4) 0, ["self", "index"], ["index"], [1]⟩, ⟨"TooMany", sub (top 5) 0, ["self", "many"], ["many"], [2]⟩, ⟨"BadName", sub (top 6) 0, ["self", "name"], ["name"], [3]⟩, ⟨"BadText", sub (top 7) 0, ["self", "at"], ["at"], [4]⟩, ⟨"BadPaper", sub (top 8) 0, ["self", "place", "kind"], ["place", "kind"], [5, 6]⟩, ⟨"BadLiar", sub (top 9) 0, ["self", "place", "kind"], ["place", "kind"], [5, 6]⟩]
  more := [("BookError", none), ("ValueError", some "ValueError")]
  cons := []
  fld := ["names", "index", "many", "name", "at", "place", "kind", "wishes"]
  sub := [[0, 7, 8], [1, 7, 8], [2, 7, 8], [3, 7, 8], [4, 7, 8], [5, 7, 8], [6, 7, 8]]
theorem stat : L.stat = true := by decide +kernel
theorem nd : L.fld.Nodup := by decide +kernel
theorem bnd : All BindN L.defs :=
  (.cons (fun _ _ _ _ _ _ us hl => match us, hl with | [_, _], _ => rfl)
  (.cons (fun _ _ _ _ _ _ us hl => match us, hl with | [_, _], _ => rfl)
  (.cons (fun _ _ _ _ _ _ us hl => match us, hl with | [_, _], _ => rfl)
  (.cons (fun _ _ _ _ _ _ us hl => match us, hl with | [_, _, _], _ => rfl)
  (.cons (fun _ _ _ _ _ _ us hl => match us, hl with | [_], _ => rfl)
  (.cons (fun _ _ _ _ _ _ us hl => match us, hl with | [_, _], _ => rfl)
  (.cons (fun _ _ _ _ _ _ us hl => match us, hl with | [_, _, _], _ => rfl)
  (.cons (fun _ _ _ _ _ _ us hl => match us, hl with | [_, _], _ => rfl)
  (.cons (fun _ _ _ _ _ _ us hl => match us, hl with | [_], _ => rfl)
  (.cons (fun _ _ _ _ _ _ us hl => match us, hl with | [_, _], _ => rfl)
  (.cons (fun _ _ _ _ _ _ us hl => match us, hl with | [_, _], _ => rfl)
  (.cons (fun _ _ _ _ _ _ us hl => match us, hl with | [_, _], _ => rfl)
  (.cons (fun _ _ _ _ _ _ us hl => match us, hl with | [_, _], _ => rfl)
  (.cons (fun _ _ _ _ _ _ us hl => match us, hl with | [_, _], _ => rfl)
  (.cons (fun _ _ _ _ _ _ us hl => match us, hl with | [_, _], _ => rfl)
  (.cons (fun _ _ _ _ _ _ us hl => match us, hl with | [_, _], _ => rfl)
  (.cons (fun _ _ _ _ _ _ us hl => match us, hl with | [_, _, _, _, _, _], _ => rfl)
  (.cons (fun _ _ _ _ _ _ us hl => match us, hl with | [_], _ => rfl)
  (.cons (fun _ _ _ _ _ _ us hl => match us, hl with | [_, _], _ => rfl)
  (.cons (fun _ _ _ _ _ _ us hl => match us, hl with | [_, _], _ => rfl)
  (.cons (fun _ _ _ _ _ _ us hl => match us, hl with | [_, _], _ => rfl)
  (.cons (fun _ _ _ _ _ _ us hl => match us, hl with | [_, _, _], _ => rfl)
  (.cons (fun _ _ _ _ _ _ us hl => match us, hl with | [_, _, _, _], _ => rfl)
  (.cons (fun _ _ _ _ _ _ us hl => match us, hl with | [_, _, _, _, _], _ => rfl)
  (.cons (fun _ _ _ _ _ _ us hl => match us, hl with | [_, _], _ => rfl)
  (.cons (fun _ _ _ _ _ _ us hl => match us, hl with | [_, _], _ => rfl)
  (.cons (fun _ _ _ _ _ _ us hl => match us, hl with | [_, _, _, _], _ => rfl)
  (.cons (fun _ _ _ _ _ _ us hl => match us, hl with | [_, _, _], _ => rfl)
  (.cons (fun _ _ _ _ _ _ us hl => match us, hl with | [_, _], _ => rfl)
  (.cons (fun _ _ _ _ _ _ us hl => match us, hl with | [_, _], _ => rfl)
  (.cons (fun _ _ _ _ _ _ us hl => match us, hl with | [_, _, _, _], _ => rfl)
  (.cons (fun _ _ _ _ _ _ us hl => match us, hl with | [_], _ => rfl) .nil))))))))))))))))))))))))))))))))
theorem bnm : All BindM L.mths :=
  (.cons (fun _ _ _ _ _ _ us hl => match us, hl with | [_, _, _], _ => rfl) .nil)
theorem bni : All BindI L.errs :=
  (.cons (fun _ _ _ _ _ _ _ us hl => match us, hl with | [_, _], _ => rfl)
  (.cons (fun _ _ _ _ _ _ _ us hl => match us, hl with | [_, _], _ => rfl)
  (.cons (fun _ _ _ _ _ _ _ us hl => match us, hl with | [_, _], _ => rfl)
  (.cons (fun _ _ _ _ _ _ _ us hl => match us, hl with | [_, _], _ => rfl)
  (.cons (fun _ _ _ _ _ _ _ us hl => match us, hl with | [_, _], _ => rfl)
  (.cons (fun _ _ _ _ _ _ _ us hl => match us, hl with | [_, _, _], _ => rfl)
  (.cons (fun _ _ _ _ _ _ _ us hl => match us, hl with | [_, _, _], _ => rfl) .nil)))))))
def lawIx : Nat := 31
def lawTop : Nat := 50
def loose : List PySem.Str := (["_wall", "BookError", "BadNames", "BadWish", "TooMany", "BadName", "BadText", "BadPaper", "BadLiar", "row_is_right", "within", "answer_in", "with_answer", "plain_row", "moved_wishes", "word_text", "read_number", "read_wish", "Book", "line_of", "node_fault", "line_tree_fault", "line_tree_leaves", "walked_tree", "lines_tree", "_law_cell", "_law_draws", "_law_seed", "_law_wish", "_law_part"] : List PySem.Str) ++ (["_law_grow", "_law_leaf_rows", "_law_indexed", "_law_places", "_law_node", "_law_put", "_law_spoilt_line", "_law_spoilt", "_law_line", "_law_right_row", "_law_node_fault", "_law_due", "_law_same", "_law_refused", "_law_judged"] : List PySem.Str)
end K13
set_option Elab.async false
set_option linter.all false
set_option autoImplicit false
set_option maxRecDepth 100000
set_option maxHeartbeats 0
namespace K13
open PySem PySem.Spec PyProof.Rows L2 Fx
abbrev rowH : PySem.W.OpenRow := PySem.W.OpenLaw.row PySem.Challenge.rw_papersorliars_k13_line_trees_judged
abbrev hk : PySem.W.Hook := L.hook 5
def ob (s : PySem.W.SharedT) : AlF := L.obsG 5 (HandSHeadRun.getT s)
theorem ob_eq (s : PySem.W.SharedT) : ob s = hk.obs s.abs := LawD.obs_eq L (HandSHeadRun.getT_eq s)
theorem run (w : World) : HandSHeadRun.RunEq rowH (PySem.W.view rowH.prog [lawTop]) hk ob 4000 loose w := by
  intro os
  kernel_rfl
end K13
set_option Elab.async false
set_option linter.all false
set_option autoImplicit false
set_option maxRecDepth 100000
set_option maxHeartbeats 4000000
/-! FxV: the evaluator's equations, for plain proofs. -/
namespace Fx
open PySem (Operator CmpOp)
section
variable (G : Glob) (cl : Orac) (xc : Xc) (ρ : Env) (S : Store)
def getL (ρ : Env) (i : Nat) (S : Store) : R D := match ρ[i]? with
  | some (some d) => .ok d S
  | _ => .stuck
@[simp] theorem getL_0 (d : D) (r : Env) : getL (some d :: r) 0 S = .ok d S := rfl
@[simp] theorem getL_s (a : Option D) (r : Env) (i : Nat) : getL (a :: r) (i + 1) S = getL r i S := rfl
@[simp] theorem getL_1 (a : Option D) (r : Env) : getL (a :: r) 1 S = getL r 0 S := rfl
@[simp] theorem getL_2 (a : Option D) (r : Env) : getL (a :: r) 2 S = getL r 1 S := rfl
@[simp] theorem getL_3 (a : Option D) (r : Env) : getL (a :: r) 3 S = getL r 2 S := rfl
@[simp] theorem getL_4 (a : Option D) (r : Env) : getL (a :: r) 4 S = getL r 3 S := rfl
@[simp] theorem getL_5 (a : Option D) (r : Env) : getL (a :: r) 5 S = getL r 4 S := rfl
@[simp] theorem getL_6 (a : Option D) (r : Env) : getL (a :: r) 6 S = getL r 5 S := rfl
@[simp] theorem getL_7 (a : Option D) (r : Env) : getL (a :: r) 7 S = getL r 6 S := rfl
@[simp] theorem getL_8 (a : Option D) (r : Env) : getL (a :: r) 8 S = getL r 7 S := rfl
@[simp] theorem getL_9 (a : Option D) (r : Env) : getL (a :: r) 9 S = getL r 8 S := rfl
@[simp] theorem getL_10 (a : Option D) (r : Env) : getL (a :: r) 10 S = getL r 9 S := rfl
@[simp] theorem getL_11 (a : Option D) (r : Env) : getL (a :: r) 11 S = getL r 10 S := rfl
@[simp] theorem getL_12 (a : Option D) (r : Env) : getL (a :: r) 12 S = getL r 11 S := rfl
/-! values -/
@[simp] theorem v_loc (i : Nat) : (ev G cl xc (.loc i)).v ρ S = getL ρ i S := rfl
@[simp] theorem v_con (c : D) : (ev G cl xc (.con c)).v ρ S = .ok c S := rfl
@[simp] theorem v_glo (k : Nat) : (ev G cl xc (.glo k)).v ρ S = optR G.consts[k]? S := rfl
@[simp] theorem v_bin (op : Operator) (a b : FE) : (ev G cl xc (.bin op a b)).v ρ S = ((ev G cl xc a).v ρ S).bind fun x S1 => ((ev G cl xc b).v ρ S1).bind fun y S2 => binop op x y S2 := rfl
@[simp] theorem v_neg (a : FE) : (ev G cl xc (.neg a)).v ρ S = ((ev G cl xc a).v ρ S).bind fun x S1 => (match x with
    | .int i => .ok (.int (-i)) S1
    | _ => .stuck) := rfl
@[simp] theorem v_not (a : FE) : (ev G cl xc (.not a)).v ρ S = ((ev G cl xc a).v ρ S).bind fun x S1 => optR ((truth S1 x).map fun b => .bl (!b)) S1 := rfl
@[simp] theorem v_and (es : FEs) : (ev G cl xc (.and es)).v ρ S = (evs G cl xc es).andV ρ S := rfl
@[simp] theorem v_or (es : FEs) : (ev G cl xc (.or es)).v ρ S = (evs G cl xc es).orV ρ S := rfl
@[simp] theorem v_cmp (op : CmpOp) (a b : FE) : (ev G cl xc (.cmp op a b)).v ρ S = ((ev G cl xc a).v ρ S).bind fun x S1 => ((ev G cl xc b).v ρ S1).bind fun y S2 => optR ((cmpop op x y S2).map .bl) S2 := rfl
@[simp] theorem v_ite (c a b : FE) : (ev G cl xc (.ite c a b)).v ρ S = ((ev G cl xc c).t ρ S).bind fun k S1 => if k then (ev G cl xc a).v ρ S1 else (ev G cl xc b).v ρ S1 := rfl
@[simp] theorem v_tup (es : FEs) : (ev G cl xc (.tup es)).v ρ S = ((evs G cl xc es).vs ρ S).bind fun ds S1 => if ds.length ≤ line then .ok (.tup ds) S1 else .stuck := rfl
@[simp] theorem v_lst (es : FEs) : (ev G cl xc (.lst es)).v ρ S = ((evs G cl xc es).vs ρ S).bind fun ds S1 => if ds.length ≤ line then .ok (.ref S1.length) (S1 ++ [.lst ds]) else .stuck := rfl
@[simp] theorem v_blt (b : Blt) (es : FEs) : (ev G cl xc (.blt b es)).v ρ S = ((evs G cl xc es).vs ρ S).bind fun ds S1 => bltF b ds S1 := rfl
@[simp] theorem v_mth (m : Mth) (o : FE) (es : FEs) : (ev G cl xc (.mth m o es)).v ρ S = ((ev G cl xc o).v ρ S).bind fun x S1 => if mOk m S1 x then ((evs G cl xc es).vs ρ S1).bind fun ds S2 => mthF m x ds S2 else .stuck := rfl
@[simp] theorem v_call (f : Nat) (es : FEs) : (ev G cl xc (.call f es)).v ρ S = ((evs G cl xc es).vs ρ S).bind fun ds S1 => cl f ds S1 := rfl
@[simp] theorem v_idx (o i : FE) : (ev G cl xc (.idx o i)).v ρ S = ((ev G cl xc o).v ρ S).bind fun x S1 => ((ev G cl xc i).v ρ S1).bind fun y S2 => optR (idxD S2 x y) S2 := rfl
@[simp] theorem v_cut (o lo hi : FE) : (ev G cl xc (.cut o lo hi)).v ρ S = ((ev G cl xc o).v ρ S).bind fun x S1 => (partV (ev G cl xc lo).v ρ S1).bind fun i S2 => (partV (ev G cl xc hi).v ρ S2).bind fun j S3 => cutD S3 x i j := rfl
@[simp] theorem v_cutL (o lo : FE) : (ev G cl xc (.cutL o lo)).v ρ S = ((ev G cl xc o).v ρ S).bind fun x S1 => (partV (ev G cl xc lo).v ρ S1).bind fun i S2 => cutD S2 x i none := rfl
@[simp] theorem v_cutH (o hi : FE) : (ev G cl xc (.cutH o hi)).v ρ S = ((ev G cl xc o).v ρ S).bind fun x S1 => (partV (ev G cl xc hi).v ρ S1).bind fun j S2 => cutD S2 x none j := rfl
@[simp] theorem v_isi (o : FE) (c : Ty) : (ev G cl xc (.isi o c)).v ρ S = ((ev G cl xc o).v ρ S).bind fun x S1 => optR ((kindD S1 x).map fun k => .bl (isTy k c)) S1 := rfl
@[simp] theorem v_lc (own : List Nat) (tg : FT) (src : FI) (cs : FEs) (elt : FE) : (ev G cl xc (.lc own tg src cs elt)).v ρ S = ((evi G cl xc src ρ S).bind fun p S1 =>
      (lcLoop (lcTurn own tg ρ (evs G cl xc cs).ts (ev G cl xc elt).v) (same p.2 S1) p.1 [] S1).noex.bind fun ys S2 => .ok (.ref S2.length) (S2 ++ [.lst ys])) := rfl
@[simp] theorem v_xfld (i f : Nat) : (ev G cl xc (.xfld i f)).v ρ S = (match xc, ρ[i]? with
    | some (_, fs), some none => optR (fs.lookup f) S
    | _, _ => .stuck) := rfl
@[simp] theorem v_xisi (i : Nat) (cs : List Nat) : (ev G cl xc (.xisi i cs)).v ρ S = (match xc, ρ[i]? with
    | some (C, _), some none => .ok (.bl (cs.any fun c => (G.sub.getD C []).contains c)) S
    | _, _ => .stuck) := rfl
/-! tests -/
def tst (r : R D) : R Bool := r.bind fun x S1 => optR (truth S1 x) S1
@[simp] theorem tst_ok (d : D) : tst (.ok d S) = optR (truth S d) S := rfl
@[simp] theorem t_loc (i : Nat) : (ev G cl xc (.loc i)).t ρ S = tst ((ev G cl xc (.loc i)).v ρ S) := rfl
@[simp] theorem t_con (c : D) : (ev G cl xc (.con c)).t ρ S = tst (.ok c S) := rfl
@[simp] theorem t_cmp (op : CmpOp) (a b : FE) : (ev G cl xc (.cmp op a b)).t ρ S = tst ((ev G cl xc (.cmp op a b)).v ρ S) := rfl
@[simp] theorem t_call (f : Nat) (es : FEs) : (ev G cl xc (.call f es)).t ρ S = tst ((ev G cl xc (.call f es)).v ρ S) := rfl
@[simp] theorem t_isi (o : FE) (c : Ty) : (ev G cl xc (.isi o c)).t ρ S = tst ((ev G cl xc (.isi o c)).v ρ S) := rfl
@[simp] theorem t_not (a : FE) : (ev G cl xc (.not a)).t ρ S = ((ev G cl xc a).t ρ S).bind fun k S1 => .ok (!k) S1 := rfl
@[simp] theorem t_and (es : FEs) : (ev G cl xc (.and es)).t ρ S = (evs G cl xc es).andT ρ S := rfl
@[simp] theorem t_or (es : FEs) : (ev G cl xc (.or es)).t ρ S = (evs G cl xc es).orT ρ S := rfl
/-! lists of expressions -/
@[simp] theorem vs_nil : (evs G cl xc .nil).vs ρ S = .ok [] S := rfl
@[simp] theorem vs_cons (e : FE) (es : FEs) : (evs G cl xc (.cons e es)).vs ρ S = ((ev G cl xc e).v ρ S).bind fun x S1 => ((evs G cl xc es).vs ρ S1).bind fun xs S2 => .ok (x :: xs) S2 := rfl
@[simp] theorem andT_1 (e : FE) : (evs G cl xc (.cons e .nil)).andT ρ S = (ev G cl xc e).t ρ S := rfl
@[simp] theorem andT_2 (e e2 : FE) (es : FEs) : (evs G cl xc (.cons e (.cons e2 es))).andT ρ S = ((ev G cl xc e).t ρ S).bind fun k S1 => if k then (evs G cl xc (.cons e2 es)).andT ρ S1 else .ok false S1 := rfl
@[simp] theorem orT_1 (e : FE) : (evs G cl xc (.cons e .nil)).orT ρ S = (ev G cl xc e).t ρ S := rfl
@[simp] theorem orT_2 (e e2 : FE) (es : FEs) : (evs G cl xc (.cons e (.cons e2 es))).orT ρ S = ((ev G cl xc e).t ρ S).bind fun k S1 => if k then .ok true S1 else (evs G cl xc (.cons e2 es)).orT ρ S1 := rfl
def andR (r : R D) (f : Store → R D) : R D := r.bind fun x S1 => (match x with
  | .bl true => f S1
  | .bl false => .ok (.bl false) S1
  | _ => .stuck)
def orR (r : R D) (f : Store → R D) : R D := r.bind fun x S1 => (match x with
  | .bl false => f S1
  | .bl true => .ok (.bl true) S1
  | _ => .stuck)
@[simp] theorem andR_t (f : Store → R D) : andR (.ok (.bl true) S) f = f S := rfl
@[simp] theorem andR_f (f : Store → R D) : andR (.ok (.bl false) S) f = .ok (.bl false) S := rfl
@[simp] theorem orR_t (f : Store → R D) : orR (.ok (.bl true) S) f = .ok (.bl true) S := rfl
@[simp] theorem orR_f (f : Store → R D) : orR (.ok (.bl false) S) f = f S := rfl
@[simp] theorem andR_b (f : Store → R D) (b : Bool) : andR (.ok (.bl b) S) f = if b then f S else .ok (.bl false) S := by cases b <;> rfl
@[simp] theorem orR_b (f : Store → R D) (b : Bool) : orR (.ok (.bl b) S) f = if b then .ok (.bl true) S else f S := by cases b <;> rfl
@[simp] theorem andV_1 (e : FE) : (evs G cl xc (.cons e .nil)).andV ρ S = (ev G cl xc e).v ρ S := rfl
@[simp] theorem andV_2 (e e2 : FE) (es : FEs) : (evs G cl xc (.cons e (.cons e2 es))).andV ρ S = andR ((ev G cl xc e).v ρ S) fun S1 => (evs G cl xc (.cons e2 es)).andV ρ S1 := rfl
@[simp] theorem orV_1 (e : FE) : (evs G cl xc (.cons e .nil)).orV ρ S = (ev G cl xc e).v ρ S := rfl
@[simp] theorem orV_2 (e e2 : FE) (es : FEs) : (evs G cl xc (.cons e (.cons e2 es))).orV ρ S = orR ((ev G cl xc e).v ρ S) fun S1 => (evs G cl xc (.cons e2 es)).orV ρ S1 := rfl
@[simp] theorem ts_0 : (evs G cl xc .nil).ts ρ S = .ok true S := rfl
@[simp] theorem ts_1 (e : FE) : (evs G cl xc (.cons e .nil)).ts ρ S = (ev G cl xc e).t ρ S := rfl
def rangeI (r : R D) : R (List D × Option Nat) := r.bind fun x S1 => (match x with
    | .int j => if small j then .ok (rangeD 0 j, none) S1 else .stuck
    | _ => .stuck)
@[simp] theorem rangeI_int {j : Int} {S : Store} (h : small j = true) : rangeI (.ok (.int j) S) = .ok (rangeD 0 j, none) S := by
  unfold rangeI
  show (if small j = true then _ else _) = _
  rw [if_pos h]
@[simp] theorem i_range1 (a : FE) : evi G cl xc (.range1 a) ρ S = rangeI ((ev G cl xc a).v ρ S) := rfl
def rangeJ (r : R D) (q : Store → R D) : R (List D × Option Nat) := r.bind fun x S1 => (q S1).bind fun y S2 => (match x, y with
    | .int i, .int j => if small i && small j then .ok (rangeD i j, none) S2 else .stuck
    | _, _ => .stuck)
theorem rangeJ_int {i j : Int} {S S2 : Store} {q : Store → R D} (h : small i = true) (e : q S = .ok (.int j) S2) (h2 : small j = true) : rangeJ (.ok (.int i) S) q = .ok (rangeD i j, none) S2 := by
  unfold rangeJ
  show (q S).bind _ = _
  rw [e]
  show (if (small i && small j) = true then _ else _) = _
  rw [if_pos (by rw [h, h2]; rfl)]
@[simp] theorem i_range2 (a b : FE) : evi G cl xc (.range2 a b) ρ S = rangeJ ((ev G cl xc a).v ρ S) fun S1 => (ev G cl xc b).v ρ S1 := rfl
def seqI (r : R D) : R (List D × Option Nat) := r.bind fun x S1 => (match x with
    | .tup xs => .ok (xs, none) S1
    | .ref n => (match lstOf S1 n with
      | some xs => .ok (xs, some n) S1
      | none => .stuck)
    | _ => .stuck)
@[simp] theorem seqI_tup (xs : List D) : seqI (.ok (.tup xs) S) = .ok (xs, none) S := rfl
@[simp] theorem i_seq (e : FE) : evi G cl xc (.seq e) ρ S = seqI ((ev G cl xc e).v ρ S) := rfl
@[simp] theorem partV_ok (f : Env → Store → R D) : partV f ρ S = (f ρ S).bind fun y S2 => (optR (intOf y) S2).bind fun i S3 => .ok (some i) S3 := rfl
/-! statements -/
def trK (G : Glob) (cl : Orac) (hs : FHs) (r : SR) : SR := match r with
  | .exn C fs ρ' S' => if C < G.exc.length then exh G cl hs C fs ρ' S' else .stuck
  | r => r
def calmK (r : SR) : SR := r.calm
def goneK (i : Nat) (r : SR) : SR := r.gone i
/-- what follows, under names that simp leaves alone until the head is known -/
def seqK (G : Glob) (cl : Orac) (xc : Xc) (ss : FSs) (r : SR) : SR := r.bind fun ρ' S' => exs G cl ss xc ρ' S'
def ifK (G : Glob) (cl : Orac) (xc : Xc) (t e : FSs) (ρ : Env) (r : R Bool) : SR := r.toS ρ fun k S1 => if k then exs G cl t xc ρ S1 else exs G cl e xc ρ S1
/-- the body of a for loop, under a name that simp leaves alone -/
def frB (G : Glob) (cl : Orac) (tg : FT) (b : FSs) (xc : Xc) : D → Env → Store → SR := fun d ρ S => (match asgT ρ tg d with
  | some ρ' => exs G cl b xc ρ' S
  | none => .stuck)
def setN (ρ : Env) (i : Nat) (d : D) (S : Store) : SR := match asgN ρ i d with
  | some ρ' => .nx ρ' S
  | none => .stuck
def setTs (ρ : Env) (is : List Nat) (d : D) (S : Store) : SR := match asgT ρ (.tp is) d with
  | some ρ' => .nx ρ' S
  | none => .stuck
def augR (ρ : Env) (op : Operator) (i : Nat) (e : Store → R D) (S : Store) : SR := match ρ[i]? with
    | some (some x) => (tidy S (e S)).toS ρ fun y S1 => (augop op x y S1).toS ρ fun z S2 => setN ρ i z S2
    | _ => .stuck
@[simp] theorem s_asg_ (i : Nat) (e : FE) : ex G cl (.asg i e) xc ρ S = (tidy S ((ev G cl xc e).v ρ S)).toS ρ fun d S1 => setN ρ i d S1 := Eq.trans rfl rfl
@[simp] theorem s_asgT_ (is : List Nat) (e : FE) : ex G cl (.asgT is e) xc ρ S = (tidy S ((ev G cl xc e).v ρ S)).toS ρ fun d S1 => setTs ρ is d S1 := Eq.trans rfl rfl
@[simp] theorem s_aug_ (i : Nat) (op : Operator) (e : FE) : ex G cl (.aug i op e) xc ρ S = augR ρ op i (fun S => (ev G cl xc e).v ρ S) S := Eq.trans rfl rfl
@[simp] theorem s_expr_ (e : FE) : ex G cl (.expr e) xc ρ S = (tidy S ((ev G cl xc e).v ρ S)).toS ρ fun _ S1 => .nx ρ S1 := Eq.trans rfl rfl
@[simp] theorem s_ret_ (e : FE) : ex G cl (.ret e) xc ρ S = (tidy S ((ev G cl xc e).v ρ S)).toS ρ fun d S1 => .ret d S1 := Eq.trans rfl rfl
@[simp] theorem s_ifs_ (c : FE) (t e : FSs) : ex G cl (.ifs c t e) xc ρ S = ifK G cl xc t e ρ (tidyB S ((ev G cl xc c).t ρ S)) := Eq.trans rfl rfl
@[simp] theorem ifK_ok (t e : FSs) (k : Bool) : ifK G cl xc t e ρ (.ok k S) = if k = true then exs G cl t xc ρ S else exs G cl e xc ρ S := Eq.trans rfl rfl
@[simp] theorem ifK_exn (t e : FSs) (C : Nat) (fs : List (Nat × D)) : ifK G cl xc t e ρ (.exn C fs S) = .exn C fs ρ S := Eq.trans rfl rfl
@[simp] theorem s_whl_ (c : FE) (b e : FSs) : ex G cl (.whl c b e) xc ρ S = whlL (fun ρ S => tidyB S ((ev G cl xc c).t ρ S)) (exs G cl b xc) (exs G cl e xc) turns ρ S := Eq.trans rfl rfl
@[simp] theorem s_fr_ (tg : FT) (src : FI) (b : FSs) : ex G cl (.fr tg src b) xc ρ S = (evi G cl xc src ρ S).toS ρ fun p S1 => forL (frB G cl tg b xc) (same p.2 S1) p.1 ρ S1 := Eq.trans rfl rfl
@[simp] theorem s_brk_ : ex G cl .brk xc ρ S = .brk ρ S := Eq.trans rfl rfl
@[simp] theorem s_cnt_ : ex G cl .cnt xc ρ S = .cnt ρ S := Eq.trans rfl rfl
@[simp] theorem s_pass_ : ex G cl .pass xc ρ S = .nx ρ S := Eq.trans rfl rfl
@[simp] theorem ss_nil : exs G cl .nil xc ρ S = .nx ρ S := rfl
@[simp] theorem ss_cons (s : FS) (ss : FSs) : exs G cl (.cons s ss) xc ρ S = seqK G cl xc ss (ex G cl s xc ρ S) := Eq.trans rfl rfl
@[simp] theorem seqK_nx (ss : FSs) : seqK G cl xc ss (.nx ρ S) = exs G cl ss xc ρ S := Eq.trans rfl rfl
@[simp] theorem seqK_ret (ss : FSs) (d : D) : seqK G cl xc ss (.ret d S) = .ret d S := Eq.trans rfl rfl
@[simp] theorem seqK_brk (ss : FSs) : seqK G cl xc ss (.brk ρ S) = .brk ρ S := Eq.trans rfl rfl
@[simp] theorem seqK_cnt (ss : FSs) : seqK G cl xc ss (.cnt ρ S) = .cnt ρ S := Eq.trans rfl rfl
@[simp] theorem seqK_exn (ss : FSs) (C : Nat) (fs : List (Nat × D)) : seqK G cl xc ss (.exn C fs ρ S) = .exn C fs ρ S := Eq.trans rfl rfl
@[simp] theorem s_rais_ (C : Nat) (es : FEs) : ex G cl (.rais C es) xc ρ S = ((evs G cl xc es).vs ρ S).toS ρ fun ds S1 => (match G.exc[C]? with
    | some fs => if ds.length = fs.length then .exn C (fs.zip ds).reverse ρ S1 else .stuck
    | none => .stuck) := Eq.trans rfl rfl
@[simp] theorem s_tr_ (b : FSs) (hs : FHs) : ex G cl (.tr b hs) none ρ S = trK G cl hs (exs G cl b none ρ S) := Eq.trans rfl rfl
@[simp] theorem trK_nx (hs : FHs) : trK G cl hs (.nx ρ S) = .nx ρ S := Eq.trans rfl rfl
@[simp] theorem trK_ret (hs : FHs) (d : D) : trK G cl hs (.ret d S) = .ret d S := Eq.trans rfl rfl
@[simp] theorem trK_brk (hs : FHs) : trK G cl hs (.brk ρ S) = .brk ρ S := Eq.trans rfl rfl
@[simp] theorem trK_cnt (hs : FHs) : trK G cl hs (.cnt ρ S) = .cnt ρ S := Eq.trans rfl rfl
@[simp] theorem trK_exn (hs : FHs) (C : Nat) (fs : List (Nat × D)) : trK G cl hs (.exn C fs ρ S) = if C < G.exc.length then exh G cl hs C fs ρ S else .stuck := Eq.trans rfl rfl
@[simp] theorem h_nil (C : Nat) (fs : List (Nat × D)) : exh G cl .nil C fs ρ S = .exn C fs ρ S := Eq.trans rfl rfl
@[simp] theorem h_none (c C : Nat) (b : FSs) (hs : FHs) (fs : List (Nat × D)) : exh G cl (.cons c none b hs) C fs ρ S = if (G.sub.getD C []).contains c = true then calmK (exs G cl b (some (C, fs)) ρ S) else exh G cl hs C fs ρ S := Eq.trans rfl rfl
@[simp] theorem h_some (c C i : Nat) (b : FSs) (hs : FHs) (fs : List (Nat × D)) : exh G cl (.cons c (some i) b hs) C fs ρ S = if (G.sub.getD C []).contains c = true then goneK i (calmK (exs G cl b (some (C, fs)) (ρ.set i none) S)) else exh G cl hs C fs ρ S := Eq.trans rfl rfl
@[simp] theorem calm_nx : calmK (.nx ρ S) = .nx ρ S := Eq.trans rfl rfl
@[simp] theorem calm_ret (d : D) : calmK (.ret d S) = .ret d S := Eq.trans rfl rfl
@[simp] theorem calm_brk : calmK (.brk ρ S) = .brk ρ S := Eq.trans rfl rfl
@[simp] theorem calm_cnt : calmK (.cnt ρ S) = .cnt ρ S := Eq.trans rfl rfl
@[simp] theorem gone_nx (i : Nat) : goneK i (.nx ρ S) = .nx (ρ.set i none) S := Eq.trans rfl rfl
@[simp] theorem gone_ret (i : Nat) (d : D) : goneK i (.ret d S) = .ret d S := Eq.trans rfl rfl
@[simp] theorem gone_brk (i : Nat) : goneK i (.brk ρ S) = .brk (ρ.set i none) S := Eq.trans rfl rfl
@[simp] theorem gone_cnt (i : Nat) : goneK i (.cnt ρ S) = .cnt (ρ.set i none) S := Eq.trans rfl rfl
end
/-! ### names -/
@[simp] theorem setN_0 (a : Option D) (r : Env) (d : D) (S : Store) : setN (a :: r) 0 d S = .nx (some d :: r) S := by simp [setN, asgN]
def SR.push (a : Option D) (r : SR) : SR := match r with
  | .nx ρ S => .nx (a :: ρ) S
  | .brk ρ S => .brk (a :: ρ) S
  | .cnt ρ S => .cnt (a :: ρ) S
  | .exn C fs ρ S => .exn C fs (a :: ρ) S
  | r => r
@[simp] theorem push_nx (a : Option D) (ρ : Env) (S : Store) : (SR.nx ρ S).push a = .nx (a :: ρ) S := rfl
@[simp] theorem setN_s (a : Option D) (r : Env) (i : Nat) (d : D) (S : Store) : setN (a :: r) (i + 1) d S = (setN r i d S).push a := by
  unfold setN asgN
  by_cases h : i < r.length
  · rw [if_pos (by simpa using h), if_pos h]; rfl
  · rw [if_neg (by simpa using h), if_neg h]; rfl
@[simp] theorem setN_1 (a : Option D) (r : Env) (d : D) (S : Store) : setN (a :: r) 1 d S = (setN r 0 d S).push a := setN_s a r 0 d S
@[simp] theorem setN_2 (a : Option D) (r : Env) (d : D) (S : Store) : setN (a :: r) 2 d S = (setN r 1 d S).push a := setN_s a r 1 d S
@[simp] theorem setN_3 (a : Option D) (r : Env) (d : D) (S : Store) : setN (a :: r) 3 d S = (setN r 2 d S).push a := setN_s a r 2 d S
@[simp] theorem setN_4 (a : Option D) (r : Env) (d : D) (S : Store) : setN (a :: r) 4 d S = (setN r 3 d S).push a := setN_s a r 3 d S
@[simp] theorem setN_5 (a : Option D) (r : Env) (d : D) (S : Store) : setN (a :: r) 5 d S = (setN r 4 d S).push a := setN_s a r 4 d S
@[simp] theorem setN_6 (a : Option D) (r : Env) (d : D) (S : Store) : setN (a :: r) 6 d S = (setN r 5 d S).push a := setN_s a r 5 d S
@[simp] theorem setN_7 (a : Option D) (r : Env) (d : D) (S : Store) : setN (a :: r) 7 d S = (setN r 6 d S).push a := setN_s a r 6 d S
@[simp] theorem setN_8 (a : Option D) (r : Env) (d : D) (S : Store) : setN (a :: r) 8 d S = (setN r 7 d S).push a := setN_s a r 7 d S
@[simp] theorem setN_9 (a : Option D) (r : Env) (d : D) (S : Store) : setN (a :: r) 9 d S = (setN r 8 d S).push a := setN_s a r 8 d S
@[simp] theorem setN_10 (a : Option D) (r : Env) (d : D) (S : Store) : setN (a :: r) 10 d S = (setN r 9 d S).push a := setN_s a r 9 d S
@[simp] theorem setN_11 (a : Option D) (r : Env) (d : D) (S : Store) : setN (a :: r) 11 d S = (setN r 10 d S).push a := setN_s a r 10 d S
/-! ### the store put in order -/
@[simp] theorem tidy_same (d : D) (S : Store) : tidy S (.ok d S) = .ok d S := by simp [tidy]
theorem tidy_len {d : D} {S S' : Store} (h : S'.length = S.length) : tidy S (.ok d S') = .ok d S' := by simp [tidy, h]
@[simp] theorem tidy_new (S : Store) (o : O) : tidy S (.ok (.ref S.length) (S ++ [o])) = .ok (.ref S.length) (S ++ [o]) := by
  unfold tidy
  simp [D.wf]
@[simp] theorem tidy_set (d : D) (S : Store) (n : Nat) (o : O) : tidy S (.ok d (S.set n o)) = .ok d (S.set n o) := tidy_len (by simp)
@[simp] theorem tidy_exn (C : Nat) (fs : List (Nat × D)) (S : Store) : tidy S (.exn C fs S) = .exn C fs S := by simp [tidy]
@[simp] theorem tidyB_same (d : Bool) (S : Store) : tidyB S (.ok d S) = .ok d S := by simp [tidyB]
@[simp] theorem tidyB_exn (C : Nat) (fs : List (Nat × D)) (S S' : Store) : tidyB S (.exn C fs S') = .exn C fs S' := rfl
/-- a value of no store: what was laid goes -/
theorem tidy_drop {d : D} {S T : Store} (h : d.wf S.length = true) : tidy S (.ok d (S ++ T)) = .ok d S := by
  unfold tidy
  cases T with
  | nil => simp
  | cons o T =>
    dsimp only
    rw [if_neg (by simp), if_pos (by simp), if_pos h]
theorem tidyB_drop {d : Bool} {S T : Store} : tidyB S (.ok d (S ++ T)) = .ok d S := by
  unfold tidyB
  cases T with
  | nil => simp
  | cons o T =>
    dsimp only
    rw [if_neg (by simp), if_pos (by simp)]
theorem tidy_exn_drop {C : Nat} {fs : List (Nat × D)} {S T : Store} (h : D.wfs S.length (fs.map (·.2)) = true) : tidy S (.exn C fs (S ++ T)) = .exn C fs S := by
  unfold tidy
  cases T with
  | nil => simp
  | cons o T =>
    dsimp only
    rw [if_neg (by simp), if_pos (by simp), if_pos h]
/-! ### calls -/
theorem call_eq {G : Glob} {n f : Nat} {fd : FnD} {ds : List D} {S : Store} (h : G.fns[f]? = some fd) (hl : ds.length = fd.np) : callN G (n + 1) f ds S = tidy S (exs G (callN G n) fd.body none (env0 fd ds) S).done := by
  show (match G.fns[f]? with
    | some fd => runFn G (callN G n) fd ds S
    | none => .stuck) = _
  rw [h]
  show runFn G (callN G n) fd ds S = _
  unfold runFn
  rw [if_pos hl]
@[simp] theorem done_ret (d : D) (S : Store) : (SR.ret d S).done = .ok d S := rfl
@[simp] theorem done_nx (ρ : Env) (S : Store) : (SR.nx ρ S).done = .ok .non S := rfl
@[simp] theorem done_exn (C : Nat) (fs : List (Nat × D)) (ρ : Env) (S : Store) : (SR.exn C fs ρ S).done = .exn C fs S := rfl
/-! ### operators -/
section
variable (S : Store)
@[simp] theorem add_int (i j : Int) : binop .Add (.int i) (.int j) S = .ok (.int (i + j)) S := rfl
@[simp] theorem sub_int (i j : Int) : binop .Sub (.int i) (.int j) S = .ok (.int (i - j)) S := rfl
@[simp] theorem mul_int (i j : Int) : binop .Mult (.int i) (.int j) S = if bits i + bits j < 1000000 then .ok (.int (i * j)) S else .stuck := rfl
@[simp] theorem fdiv_int (i j : Int) : binop .FloorDiv (.int i) (.int j) S = if j ≠ 0 ∧ j.natAbs < 1073741824 then .ok (.int (i.fdiv j)) S else .stuck := rfl
@[simp] theorem fmod_int (i j : Int) : binop .Mod (.int i) (.int j) S = if j ≠ 0 then .ok (.int (i.fmod j)) S else .stuck := rfl
@[simp] theorem pow_int (i j : Int) : binop .Pow (.int i) (.int j) S = if 0 ≤ j ∧ j ≤ 1000000 ∧ i.natAbs < 2 ^ 64 then .ok (.int (i ^ j.toNat)) S else .stuck := rfl
@[simp] theorem add_str (x y : List Nat) : binop .Add (.str x) (.str y) S = if x.length + y.length ≤ line then .ok (.str (x ++ y)) S else .stuck := rfl
@[simp] theorem add_tup (x y : List D) : binop .Add (.tup x) (.tup y) S = if x.length + y.length ≤ line then .ok (.tup (x ++ y)) S else .stuck := rfl
@[simp] theorem mul_str (x : List Nat) (j : Int) : binop .Mult (.str x) (.int j) S = if x.length * j.toNat ≤ line ∧ -(2 ^ 63) ≤ j ∧ j < 2 ^ 63 then .ok (.str (List.replicate j.toNat x).flatten) S else .stuck := rfl
@[simp] theorem aug_add (i j : Int) : augop .Add (.int i) (.int j) S = .ok (.int (i + j)) S := rfl
@[simp] theorem aug_sub (i j : Int) : augop .Sub (.int i) (.int j) S = .ok (.int (i - j)) S := rfl
@[simp] theorem c_eq (a b : D) : cmpop .Eq a b S = eqD S a b := rfl
@[simp] theorem c_ne (a b : D) : cmpop .NotEq a b S = (eqD S a b).map (!·) := rfl
@[simp] theorem c_lt (a b : D) : cmpop .Lt a b S = ltD a b := rfl
@[simp] theorem c_gt (a b : D) : cmpop .Gt a b S = ltD b a := rfl
@[simp] theorem c_le (a b : D) : cmpop .LtE a b S = (ltD b a).map (!·) := rfl
@[simp] theorem c_ge (a b : D) : cmpop .GtE a b S = (ltD a b).map (!·) := rfl
@[simp] theorem c_in (a b : D) : cmpop .In a b S = inD S a b := rfl
@[simp] theorem c_notin (a b : D) : cmpop .NotIn a b S = (inD S a b).map (!·) := rfl
@[simp] theorem c_is (a b : D) : cmpop .Is a b S = isD a b := rfl
@[simp] theorem c_isnot (a b : D) : cmpop .IsNot a b S = (isD a b).map (!·) := rfl
@[simp] theorem eq_int (i j : Int) : eqD S (.int i) (.int j) = some (decide (i = j)) := by
  unfold eqD
  dsimp only
  rw [if_pos (by simp [D.nb, D.dep])]
  by_cases h : i = j <;> simp [h]
@[simp] theorem eq_str (i j : List Nat) : eqD S (.str i) (.str j) = some (decide (i = j)) := rfl
@[simp] theorem eq_bl (i j : Bool) : eqD S (.bl i) (.bl j) = some (i == j) := rfl
@[simp] theorem lt_int (i j : Int) : ltD (.int i) (.int j) = some (decide (i < j)) := by
  unfold ltD
  rw [if_pos (by simp [D.nb, D.dep, D.alike])]
  rfl
@[simp] theorem in_str1 (c : Nat) (y : List Nat) : inD S (.str [c]) (.str y) = some (decide (c ∈ y)) := rfl
@[simp] theorem is_non (a : D) : isD a .non = some (decide (a = .non)) := rfl
@[simp] theorem tr_bl (b : Bool) : truth S (.bl b) = some b := rfl
@[simp] theorem tr_non : truth S .non = some false := rfl
@[simp] theorem tr_int (i : Int) : truth S (.int i) = some (i != 0) := rfl
@[simp] theorem tr_tup (xs : List D) : truth S (.tup xs) = some (!xs.isEmpty) := rfl
@[simp] theorem tr_ref (n : Nat) : truth S (.ref n) = (lstOf S n).map fun xs => !xs.isEmpty := by
  show (match lstOf S n with
    | some xs => some (!xs.isEmpty)
    | none => none) = _
  cases lstOf S n <;> rfl
@[simp] theorem kd_non : kindD S .non = some 0 := rfl
@[simp] theorem kd_bl (b : Bool) : kindD S (.bl b) = some 1 := rfl
@[simp] theorem kd_int (i : Int) : kindD S (.int i) = some 2 := rfl
@[simp] theorem kd_str (s : List Nat) : kindD S (.str s) = some 3 := rfl
@[simp] theorem kd_tup (s : List D) : kindD S (.tup s) = some 4 := rfl
@[simp] theorem f_len (ds : List D) : bltF .len ds S = fLen ds S := rfl
@[simp] theorem len_str (s : List Nat) : fLen [.str s] S = if s.length ≤ line then .ok (.int s.length) S else .stuck := rfl
@[simp] theorem len_tup (s : List D) : fLen [.tup s] S = .ok (.int s.length) S := rfl
theorem len_ref {n : Nat} {xs : List D} (h : lstOf S n = some xs) : fLen [.ref n] S = .ok (.int xs.length) S := by
  show (match seqOf S (D.ref n) with
    | some xs => R.ok (D.int xs.length) S
    | none => R.stuck) = _
  rw [show seqOf S (.ref n) = lstOf S n from rfl, h]
@[simp] theorem f_abs (i : Int) : bltF .abs [.int i] S = .ok (.int (if i < 0 then -i else i)) S := rfl
@[simp] theorem f_min (i j : Int) : bltF .min [.int i, .int j] S = .ok (.int (if j < i then j else i)) S := rfl
@[simp] theorem f_max (i j : Int) : bltF .max [.int i, .int j] S = .ok (.int (if j > i then j else i)) S := rfl
@[simp] theorem f_int_int (i : Int) : bltF .int [.int i] S = .ok (.int i) S := rfl
@[simp] theorem f_str_int (i : Int) : bltF .str [.int i] S = if i.natAbs.log2 < 1920 then .ok (.str (strInt i)) S else .stuck := rfl
@[simp] theorem f_str_str (i : List Nat) : bltF .str [.str i] S = .ok (.str i) S := rfl
theorem f_tuple {n : Nat} {xs : List D} (h : lstOf S n = some xs) : bltF .tuple [.ref n] S = .ok (.tup xs) S := by
  show (match lstOf S n with
    | some xs => R.ok (D.tup xs) S
    | none => R.stuck) = _
  rw [h]
@[simp] theorem i_str (s : List Nat) (k : Int) : idxD S (.str s) (.int k) = if s.length ≤ line then (atI s k).map fun c => .str [c] else none := rfl
@[simp] theorem i_tup (s : List D) (k : Int) : idxD S (.tup s) (.int k) = atI s k := rfl
@[simp] theorem i_ref (n : Nat) (k : Int) : idxD S (.ref n) (.int k) = (lstOf S n).bind fun xs => atI xs k := rfl
@[simp] theorem cut_str (s : List Nat) (lo hi : Option Int) : cutD S (.str s) lo hi = if s.length ≤ line then .ok (.str (cutX s lo hi)) S else .stuck := rfl
@[simp] theorem int_of (i : Int) : intOf (.int i) = some i := rfl
@[simp] theorem lstOf_new (o : List D) : lstOf (S ++ [.lst o]) S.length = some o := by simp [lstOf]
theorem atI_nat {α : Type} {xs : List α} {k : Nat} (h : k < xs.length) : atI xs (k : Int) = xs[k]? := by
  unfold atI ixN
  rw [if_pos (by omega), if_pos (by omega)]
  rfl
theorem strsOf_map : ∀ ss : List (List Nat), strsOf (ss.map D.str) = some ss
  | [] => rfl
  | s :: ss => by rw [List.map_cons, strsOf, strsOf_map ss]; rfl
theorem m_join {s : List Nat} {d : D} {ys : List (List Nat)} {xs : List D} (h : seqOf S d = some xs) (h2 : xs = ys.map D.str) (h3 : (ys.map List.length).sum + s.length * ys.length ≤ line) : mthF .join (.str s) [d] S = .ok (.str (joinS s ys)) S := by
  show (match seqOf S d with
    | some xs => (match strsOf xs with
      | some ys => if (ys.map List.length).sum + s.length * ys.length ≤ line then R.ok (D.str (joinS s ys)) S else R.stuck
      | none => R.stuck)
    | none => R.stuck) = _
  rw [h]
  dsimp only
  rw [h2, strsOf_map]
  dsimp only
  rw [if_pos h3]
@[simp] theorem mok_join (s : List Nat) : mOk .join S (.str s) = true := rfl
@[simp] theorem mok_app (n : Nat) : mOk .append S (.ref n) = (lstOf S n).isSome := rfl
@[simp] theorem mok_pop (n : Nat) : mOk .pop S (.ref n) = (lstOf S n).isSome := rfl
theorem m_app {n : Nat} {d : D} {xs : List D} (h : S[n]? = some (.lst xs)) (h2 : xs.length < line) : mthF .append (.ref n) [d] S = .ok .non (S.set n (.lst (xs ++ [d]))) := by
  show (match S[n]? with
    | some (.lst xs) => if xs.length < line then R.ok D.non (S.set n (.lst (xs ++ [d]))) else R.stuck
    | _ => R.stuck) = _
  rw [h]
  dsimp only
  rw [if_pos h2]
theorem m_pop {n : Nat} {d : D} {xs : List D} (h : S[n]? = some (.lst (xs ++ [d]))) : mthF .pop (.ref n) [] S = .ok d (S.set n (.lst xs)) := by
  show (match S[n]? with
    | some (.lst xs) => (match xs.getLast? with
      | some y => R.ok y (S.set n (.lst xs.dropLast))
      | none => R.stuck)
    | _ => R.stuck) = _
  rw [h]
  simp
theorem lst_is {n : Nat} {xs : List D} (h : S[n]? = some (.lst xs)) : lstOf S n = some xs := by unfold lstOf; rw [h]
end
/-! ### loops -/
theorem lcLoop_map {f : D → Store → R (Option D)} {chk : Store → Bool} {g : D → D} {S : Store} (hc : chk S = true) : ∀ {ds acc : List D}, (∀ d ∈ ds, f d S = .ok (some (g d)) S) → acc.length + ds.length ≤ line → lcLoop f chk ds acc S = .ok (acc ++ ds.map g) S
  | [], acc, _, _ => by simp [lcLoop]
  | d :: ds, acc, h, hl => by
    rw [List.length_cons] at hl
    have h1 := h d (List.mem_cons_self ..)
    have hs : decide (acc.length < line) = true := decide_eq_true (by omega)
    rw [lcLoop, h1]
    simp only [R.bind_ok, hc, hs, Bool.and_self, if_true]
    rw [lcLoop_map hc (fun x hx => h x (List.mem_cons_of_mem _ hx)) (by rw [List.length_append, List.length_singleton]; omega)]
    simp
end Fx
set_option Elab.async false
set_option linter.all false
set_option autoImplicit false
set_option maxRecDepth 100000
set_option maxHeartbeats 4000000
/-! FxW: more equations of the evaluator; loops; rows of pairs. -/
namespace Fx
open PySem (Operator CmpOp)
section
variable (G : Glob) (cl : Orac) (xc : Xc) (ρ : Env) (S : Store)
@[simp] theorem getL_13 (a : Option D) (r : Env) : getL (a :: r) 13 S = getL r 12 S := rfl
@[simp] theorem getL_14 (a : Option D) (r : Env) : getL (a :: r) 14 S = getL r 13 S := rfl
@[simp] theorem getL_15 (a : Option D) (r : Env) : getL (a :: r) 15 S = getL r 14 S := rfl
@[simp] theorem getL_16 (a : Option D) (r : Env) : getL (a :: r) 16 S = getL r 15 S := rfl
@[simp] theorem getL_17 (a : Option D) (r : Env) : getL (a :: r) 17 S = getL r 16 S := rfl
@[simp] theorem getL_18 (a : Option D) (r : Env) : getL (a :: r) 18 S = getL r 17 S := rfl
@[simp] theorem getL_19 (a : Option D) (r : Env) : getL (a :: r) 19 S = getL r 18 S := rfl
@[simp] theorem getL_20 (a : Option D) (r : Env) : getL (a :: r) 20 S = getL r 19 S := rfl
@[simp] theorem setN_12 (a : Option D) (r : Env) (d : D) (S : Store) : setN (a :: r) 12 d S = (setN r 11 d S).push a := setN_s a r 11 d S
@[simp] theorem setN_13 (a : Option D) (r : Env) (d : D) (S : Store) : setN (a :: r) 13 d S = (setN r 12 d S).push a := setN_s a r 12 d S
@[simp] theorem setN_14 (a : Option D) (r : Env) (d : D) (S : Store) : setN (a :: r) 14 d S = (setN r 13 d S).push a := setN_s a r 13 d S
@[simp] theorem setN_15 (a : Option D) (r : Env) (d : D) (S : Store) : setN (a :: r) 15 d S = (setN r 14 d S).push a := setN_s a r 14 d S
@[simp] theorem setN_16 (a : Option D) (r : Env) (d : D) (S : Store) : setN (a :: r) 16 d S = (setN r 15 d S).push a := setN_s a r 15 d S
@[simp] theorem setN_17 (a : Option D) (r : Env) (d : D) (S : Store) : setN (a :: r) 17 d S = (setN r 16 d S).push a := setN_s a r 16 d S
@[simp] theorem setN_18 (a : Option D) (r : Env) (d : D) (S : Store) : setN (a :: r) 18 d S = (setN r 17 d S).push a := setN_s a r 17 d S
@[simp] theorem setN_19 (a : Option D) (r : Env) (d : D) (S : Store) : setN (a :: r) 19 d S = (setN r 18 d S).push a := setN_s a r 18 d S
@[simp] theorem setN_20 (a : Option D) (r : Env) (d : D) (S : Store) : setN (a :: r) 20 d S = (setN r 19 d S).push a := setN_s a r 19 d S
def fldR (G : Glob) (f : Nat) (r : R D) : R D := r.bind fun x S1 => (match x with
    | .ref n => (match S1[n]? with
      | some (.ins C fs) => (match G.cfl[C]? with
        | some l => if l.contains f then optR (fs.lookup f) S1 else .stuck
        | none => .stuck)
      | _ => .stuck)
    | _ => .stuck)
@[simp] theorem v_fld (o : FE) (f : Nat) : (ev G cl xc (.fld o f)).v ρ S = fldR G f ((ev G cl xc o).v ρ S) := rfl
theorem fldR_ok {f n C : Nat} {fs : List (Nat × D)} {l : List Nat} {d : D} (h : S[n]? = some (.ins C fs)) (hl : G.cfl[C]? = some l) (hc : l.contains f = true) (hd : fs.lookup f = some d) : fldR G f (.ok (.ref n) S) = .ok d S := by
  show (match S[n]? with
      | some (.ins C fs) => (match G.cfl[C]? with
        | some l => if l.contains f then optR (fs.lookup f) S else .stuck
        | none => .stuck)
      | _ => .stuck) = _
  rw [h]
  dsimp only
  rw [hl]
  dsimp only
  rw [if_pos hc, hd]
  rfl
@[simp] theorem v_srtSet (e : FE) : (ev G cl xc (.srtSet e)).v ρ S = ((ev G cl xc e).v ρ S).bind fun x S1 => fSortSet x S1 := rfl
def mkR (G : Glob) (C : Nat) (g : List D → Store → R D) (r : R (List D)) : R D := r.bind fun ds S1 => if C < G.cfl.length then tidy S1 ((g (.ref S1.length :: ds) (S1 ++ [.ins C []])).bind fun r S2 => (match r with
    | .non => .ok (.ref S1.length) S2
    | _ => .stuck)) else .stuck
@[simp] theorem v_mk (C f : Nat) (es : FEs) : (ev G cl xc (.mk C f es)).v ρ S = mkR G C (cl f) ((evs G cl xc es).vs ρ S) := rfl
@[simp] theorem v_ccon (k : Nat) : (ev G cl xc (.ccon k)).v ρ S = optR G.ccons[k]? S := rfl
def chainR (op op' : CmpOp) (r : R D) (q : Store → R D) (t : Store → R D) : R D := r.bind fun x S1 => (q S1).bind fun y S2 => (optR (cmpop op x y S2) S2).bind fun k S3 =>
      if k then (t S3).bind fun z S4 => optR ((cmpop op' y z S4).map .bl) S4 else .ok (.bl false) S3
@[simp] theorem v_chain (op op' : CmpOp) (a b c : FE) : (ev G cl xc (.chain op op' a b c)).v ρ S = chainR op op' ((ev G cl xc a).v ρ S) (fun S1 => (ev G cl xc b).v ρ S1) (fun S1 => (ev G cl xc c).v ρ S1) := rfl
theorem chainR_is {op op' : CmpOp} {x y z : D} {q t : Store → R D} {k k' : Bool} (h1 : q S = .ok y S) (h2 : t S = .ok z S) (h3 : cmpop op x y S = some k) (h4 : cmpop op' y z S = some k') : chainR op op' (.ok x S) q t = .ok (.bl (k && k')) S := by
  unfold chainR
  simp only [R.bind_ok, h1, h3, optR_some]
  cases k with
  | true => simp only [if_true, h2, R.bind_ok, h4]; rfl
  | false => rfl
def chain3 (o : Option Bool) (op' : CmpOp) (y : D) (S : Store) (t : Store → R D) : R D := (optR o S).bind fun k S3 => if k then (t S3).bind fun z S4 => optR ((cmpop op' y z S4).map .bl) S4 else .ok (.bl false) S3
def chain2 (op op' : CmpOp) (x : D) (r : R D) (t : Store → R D) : R D := r.bind fun y S2 => chain3 (cmpop op x y S2) op' y S2 t
theorem chainR_ok (op op' : CmpOp) (x : D) (q t : Store → R D) : chainR op op' (.ok x S) q t = chain2 op op' x (q S) t := rfl
theorem chain2_ok (op op' : CmpOp) (x y : D) (t : Store → R D) : chain2 op op' x (.ok y S) t = chain3 (cmpop op x y S) op' y S t := rfl
theorem chain3_b (k : Bool) (op' : CmpOp) (y : D) (t : Store → R D) : chain3 (some k) op' y S t = if k = true then (t S).bind fun z S4 => optR ((cmpop op' y z S4).map .bl) S4 else .ok (.bl false) S := by cases k <;> rfl
@[simp] theorem t_chain (op op' : CmpOp) (a b c : FE) : (ev G cl xc (.chain op op' a b c)).t ρ S = tst ((ev G cl xc (.chain op op' a b c)).v ρ S) := rfl
@[simp] theorem t_idx (o i : FE) : (ev G cl xc (.idx o i)).t ρ S = tst ((ev G cl xc (.idx o i)).v ρ S) := rfl
@[simp] theorem t_blt (b : Blt) (es : FEs) : (ev G cl xc (.blt b es)).t ρ S = tst ((ev G cl xc (.blt b es)).v ρ S) := rfl
@[simp] theorem t_xisi (i : Nat) (cs : List Nat) : (ev G cl xc (.xisi i cs)).t ρ S = tst ((ev G cl xc (.xisi i cs)).v ρ S) := rfl
def enumR (r : R D) : R (List D × Option Nat) := r.bind fun x S1 => (match x with
    | .ref n => (match lstOf S1 n with
      | some xs => .ok (enumD 0 xs, some n) S1
      | none => .stuck)
    | _ => .stuck)
def revR (r : R D) : R (List D × Option Nat) := r.bind fun x S1 => (match x with
    | .ref n => (match lstOf S1 n with
      | some xs => .ok (xs.reverse, some n) S1
      | none => .stuck)
    | _ => .stuck)
@[simp] theorem i_enum (e : FE) : evi G cl xc (.enum e) ρ S = enumR ((ev G cl xc e).v ρ S) := rfl
@[simp] theorem i_rev (e : FE) : evi G cl xc (.rev e) ρ S = revR ((ev G cl xc e).v ρ S) := rfl
theorem enumR_ok {n : Nat} {xs : List D} (h : lstOf S n = some xs) : enumR (.ok (.ref n) S) = .ok (enumD 0 xs, some n) S := by
  show (match lstOf S n with
      | some xs => R.ok (enumD 0 xs, some n) S
      | none => .stuck) = _
  rw [h]
theorem revR_ok {n : Nat} {xs : List D} (h : lstOf S n = some xs) : revR (.ok (.ref n) S) = .ok (xs.reverse, some n) S := by
  show (match lstOf S n with
      | some xs => R.ok (xs.reverse, some n) S
      | none => .stuck) = _
  rw [h]
theorem seqI_ref {n : Nat} {xs : List D} (h : lstOf S n = some xs) : seqI (.ok (.ref n) S) = .ok (xs, some n) S := by
  show (match lstOf S n with
      | some xs => R.ok (xs, some n) S
      | none => .stuck) = _
  rw [h]
def parK (ρ : Env) (i j : Nat) (r : R D) (q : Store → R D) : SR := r.toS ρ fun x S1 => (q S1).toS ρ fun y S2 => (match (asgN ρ i x).bind fun ρ' => asgN ρ' j y with
    | some ρ' => .nx ρ' S2
    | none => .stuck)
@[simp] theorem s_par_ (i j : Nat) (a b : FE) : ex G cl (.par i j a b) xc ρ S = parK ρ i j ((ev G cl xc a).v ρ S) (fun S1 => (ev G cl xc b).v ρ S1) := Eq.trans rfl rfl
def setfK (G : Glob) (ρ : Env) (f : Nat) (r : R D) (q : Store → R D) : SR := r.toS ρ fun d S1 => (q S1).toS ρ fun x S2 => (match x with
    | .ref n => (match S2[n]? with
      | some (.ins C fs) => (match G.cfl[C]? with
        | some l => if l.contains f && decide (fs.length < 900) then .nx ρ (S2.set n (.ins C (putN f d fs))) else .stuck
        | none => .stuck)
      | _ => .stuck)
    | _ => .stuck)
@[simp] theorem s_setf_ (o : FE) (f : Nat) (e : FE) : ex G cl (.setf o f e) xc ρ S = setfK G ρ f (tidy S ((ev G cl xc e).v ρ S)) (fun S1 => (ev G cl xc o).v ρ S1) := Eq.trans rfl rfl
/-! ### what goes from the store -/
@[simp] theorem tidy_int (i : Int) (T : Store) : tidy S (.ok (.int i) (S ++ T)) = .ok (.int i) S := tidy_drop rfl
@[simp] theorem tidy_bl (i : Bool) (T : Store) : tidy S (.ok (.bl i) (S ++ T)) = .ok (.bl i) S := tidy_drop rfl
@[simp] theorem tidy_non (T : Store) : tidy S (.ok .non (S ++ T)) = .ok .non S := tidy_drop rfl
@[simp] theorem tidy_str (s : List Nat) (T : Store) : tidy S (.ok (.str s) (S ++ T)) = .ok (.str s) S := tidy_drop rfl
@[simp] theorem tidyB_app (b : Bool) (T : Store) : tidyB S (.ok b (S ++ T)) = .ok b S := tidyB_drop
theorem tidy_ref {k : Nat} {T : Store} {o : O} (h : (S ++ T)[k]? = some o) (hk : S.length ≤ k) (hw : o.wf S.length = true) (ht : T ≠ []) : tidy S (.ok (.ref k) (S ++ T)) = .ok (.ref S.length) (S ++ [o]) := by
  unfold tidy
  dsimp only
  have hl : T.length ≠ 0 := fun z => ht (List.length_eq_zero_iff.mp z)
  have nw : D.wf S.length (.ref k) = false := by simp [D.wf]; omega
  rw [if_neg (by simp; exact ht), if_pos (by simp), if_neg (by rw [nw]; exact Bool.false_ne_true), h]
  dsimp only
  rw [if_pos (by rw [hw, decide_eq_true hk]; rfl)]
@[simp] theorem at_0 {α : Type} (x : α) (xs : List α) : atI (x :: xs) 0 = some x := by
  have h := atI_nat (xs := x :: xs) (k := 0) (by simp)
  simpa using h
@[simp] theorem at_1 {α : Type} (x y : α) (xs : List α) : atI (x :: y :: xs) 1 = some y := by
  have h := atI_nat (xs := x :: y :: xs) (k := 1) (by simp)
  simpa using h
@[simp] theorem at_2 {α : Type} (x y z : α) (xs : List α) : atI (x :: y :: z :: xs) 2 = some z := by
  have h := atI_nat (xs := x :: y :: z :: xs) (k := 2) (by simp)
  simpa using h
@[simp] theorem at_3 {α : Type} (x y z u : α) (xs : List α) : atI (x :: y :: z :: u :: xs) 3 = some u := by
  have h := atI_nat (xs := x :: y :: z :: u :: xs) (k := 3) (by simp)
  simpa using h
@[simp] theorem at_4 {α : Type} (x y z u v : α) (xs : List α) : atI (x :: y :: z :: u :: v :: xs) 4 = some v := by
  have h := atI_nat (xs := x :: y :: z :: u :: v :: xs) (k := 4) (by simp)
  simpa using h
/-! ### comparisons of data -/
theorem eq_nb {a b : D} (h1 : a.nb = true) (h2 : b.nb = true) (h3 : a.dep ≤ 60) (h4 : b.dep ≤ 60) : eqD S a b = some (decide (a = b)) := by
  unfold eqD
  split
  · simp [D.nb] at h1
  · rename_i x y
    congr 1
    exact decide_eq_decide.mpr ⟨fun z => by rw [z], fun z => by injection z⟩
  · simp [D.nb] at h1
  · rw [if_pos (by simp [h1, h2, h3, h4])]
theorem in_nb {a b : D} {ys : List D} (h : seqOf S b = some ys) (h1 : a.nb = true) (h2 : D.nbs ys = true) (h3 : a.dep ≤ 60) (h4 : D.deps ys ≤ 60) : inD S a b = some (decide (a ∈ ys)) := by
  unfold inD
  split
  · cases h
  · rw [h]
    dsimp only
    rw [if_pos (by simp [h1, h2, h3, h4])]
@[simp] theorem seq_tup (xs : List D) : seqOf S (.tup xs) = some xs := rfl
@[simp] theorem seq_ref (n : Nat) : seqOf S (.ref n) = lstOf S n := rfl
theorem blsOf_map : ∀ bs : List Bool, blsOf (bs.map D.bl) = some bs
  | [] => rfl
  | b :: bs => by rw [List.map_cons, blsOf, blsOf_map bs]; rfl
theorem f_all {n : Nat} {bs : List Bool} (h : lstOf S n = some (bs.map D.bl)) : bltF .all [.ref n] S = .ok (.bl (bs.all id)) S := by
  show (match lstOf S n with
    | some xs => (match blsOf xs with
      | some is => R.ok (D.bl (is.all id)) S
      | none => .stuck)
    | none => .stuck) = _
  rw [h]
  dsimp only
  rw [blsOf_map]
theorem f_sorted {n : Nat} {xs : List D} (h : lstOf S n = some xs) (hc : canSortB xs = true) (hl : xs.length ≤ line) : bltF .sorted [.ref n] S = .ok (.ref S.length) (S ++ [O.lst (sortD xs)]) := by
  show (match lstOf S n with
    | some xs => if canSortB xs && decide (xs.length ≤ line) then R.ok (D.ref S.length) (S ++ [O.lst (sortD xs)]) else .stuck
    | none => .stuck) = _
  rw [h]
  dsimp only
  rw [if_pos (by simp [hc, hl])]
theorem add_ref {n m : Nat} {x y : List D} (h1 : S[n]? = some (.lst x)) (h2 : S[m]? = some (.lst y)) (hl : x.length + y.length ≤ line) : binop .Add (.ref n) (.ref m) S = .ok (.ref S.length) (S ++ [O.lst (x ++ y)]) := by
  show (match S[n]?, S[m]? with
    | some (.lst x), some (.lst y) => if x.length + y.length ≤ line then R.ok (D.ref S.length) (S ++ [O.lst (x ++ y)]) else .stuck
    | _, _ => .stuck) = _
  rw [h1, h2]
  dsimp only
  rw [if_pos hl]
theorem f_list {d : D} {xs : List D} (h : seqOf S d = some xs) : bltF .list [d] S = .ok (.ref S.length) (S ++ [O.lst xs]) := by
  show (match seqOf S d with
    | some xs => R.ok (D.ref S.length) (S ++ [O.lst xs])
    | none => .stuck) = _
  rw [h]
@[simp] theorem f_tup_tup (xs : List D) : bltF .tuple [.tup xs] S = .ok (.tup xs) S := rfl
end
/-! ### loops -/
theorem lcLoop_filter {f : D → Store → R (Option D)} {chk : Store → Bool} {p : D → Bool} {g : D → D} {S : Store} (hc : chk S = true) : ∀ {ds acc : List D}, (∀ d ∈ ds, f d S = .ok (if p d then some (g d) else none) S) → acc.length + ds.length ≤ line → lcLoop f chk ds acc S = .ok (acc ++ (ds.filter p).map g) S
  | [], acc, _, _ => by simp [lcLoop]
  | d :: ds, acc, h, hl => by
    rw [List.length_cons] at hl
    have h1 := h d (List.mem_cons_self ..)
    have hs : decide (acc.length < line) = true := decide_eq_true (by omega)
    rw [lcLoop, h1]
    simp only [R.bind_ok, hc, hs, Bool.and_self, if_true]
    cases hp : p d with
    | true =>
      simp only [if_true]
      rw [lcLoop_filter hc (fun x hx => h x (List.mem_cons_of_mem _ hx)) (by rw [List.length_append, List.length_singleton]; omega), List.filter_cons_of_pos hp]
      simp
    | false =>
      simp only [Bool.false_eq_true, if_false]
      rw [lcLoop_filter hc (fun x hx => h x (List.mem_cons_of_mem _ hx)) (by omega), List.filter_cons_of_neg (by simp [hp])]
@[simp] theorem same_none (S S' : Store) : same none S S' = true := rfl
@[simp] theorem same_self (g : Option Nat) (S : Store) : same g S S = true := by
  cases g with
  | none => rfl
  | some n => exact decide_eq_true rfl
theorem fl_nx {f : D → Env → Store → SR} {chk : Store → Bool} {d : D} {ds : List D} {ρ ρ' : Env} {S S' : Store} (h : f d ρ S = .nx ρ' S') (hc : chk S' = true) : forL f chk (d :: ds) ρ S = forL f chk ds ρ' S' := by
  rw [forL, h]
  dsimp only
  rw [if_pos hc]
theorem fl_ret {f : D → Env → Store → SR} {chk : Store → Bool} {d x : D} {ds : List D} {ρ : Env} {S S' : Store} (h : f d ρ S = .ret x S') : forL f chk (d :: ds) ρ S = .ret x S' := by rw [forL, h]
@[simp] theorem fl_nil {f : D → Env → Store → SR} {chk : Store → Bool} (ρ : Env) (S : Store) : forL f chk [] ρ S = .nx ρ S := rfl
/-- a loop that goes through -/
theorem forL_inv {f : D → Env → Store → SR} {chk : Store → Bool} (P : Nat → Env → Store → Prop) : ∀ (items : List D) (i : Nat) (ρ : Env) (S : Store), P i ρ S → (∀ j d ρ S, items[j]? = some d → P (i + j) ρ S → ∃ ρ' S', f d ρ S = .nx ρ' S' ∧ chk S' = true ∧ P (i + j + 1) ρ' S') →
    ∃ ρ' S', forL f chk items ρ S = .nx ρ' S' ∧ P (i + items.length) ρ' S'
  | [], i, ρ, S, h, _ => ⟨ρ, S, rfl, h⟩
  | d :: items, i, ρ, S, h, k => by
    obtain ⟨ρ1, S1, e1, c1, p1⟩ := k 0 d ρ S rfl h
    obtain ⟨ρ2, S2, e2, p2⟩ := forL_inv P items (i + 1) ρ1 S1 p1 fun j x ρ S hx hp => by
      have := k (j + 1) x ρ S (by simpa using hx) (by rwa [show i + (j + 1) = i + 1 + j by omega])
      rwa [show i + (j + 1) + 1 = i + 1 + j + 1 by omega] at this
    refine ⟨ρ2, S2, ?_, by rwa [show i + (d :: items).length = i + 1 + items.length by simp; omega]⟩
    unfold forL
    rw [e1]
    dsimp only
    rw [if_pos c1, e2]
theorem rangeD_nat (n : Nat) : rangeD 0 (n : Int) = (List.range n).map fun (k : Nat) => D.int (k : Int) := by
  unfold rangeD
  rw [show ((n : Int) - 0).toNat = n by omega]
  refine List.map_congr_left fun k _ => ?_
  rw [Int.zero_add]
theorem range_get {n j : Nat} {d : D} (h : (rangeD 0 (n : Int))[j]? = some d) : j < n ∧ d = .int (j : Int) := by
  rw [rangeD_nat, List.getElem?_map] at h
  obtain ⟨m, h1, rfl⟩ := Option.map_eq_some_iff.mp h
  obtain ⟨l, e⟩ := List.getElem?_eq_some_iff.mp h1
  rw [List.getElem_range] at e
  subst e
  exact ⟨by simpa using l, rfl⟩
theorem range_len (n : Nat) : (rangeD 0 (n : Int)).length = n := by rw [rangeD_nat]; simp
theorem small_nat {n : Nat} (h : n < 2 ^ 62) : small (n : Int) = true := by
  unfold small
  rw [Bool.and_eq_true, decide_eq_true_eq, decide_eq_true_eq]
  omega
/-! ### rows of pairs of numbers -/
abbrev Row := List (Int × Int)
def wD (w : Int × Int) : D := .tup [.int w.1, .int w.2]
def rD (r : Row) : D := .tup (r.map wD)
theorem wD_inj {a b : Int × Int} (h : wD a = wD b) : a = b := by
  obtain ⟨a1, a2⟩ := a
  obtain ⟨b1, b2⟩ := b
  simpa [wD] using h
theorem rs_inj {a b : Row} (h : a.map wD = b.map wD) : a = b := by
  induction a generalizing b with
  | nil => cases b with
    | nil => rfl
    | cons _ _ => cases h
  | cons x a ih =>
    cases b with
    | nil => cases h
    | cons y b =>
      rw [List.map_cons, List.map_cons] at h
      injection h with h1 h2
      rw [wD_inj h1, ih h2]
theorem rD_inj {a b : Row} (h : rD a = rD b) : a = b := rs_inj (by unfold rD at h; injection h)
theorem wD_mem {w : Int × Int} {r : Row} : wD w ∈ r.map wD ↔ w ∈ r := by
  constructor
  · intro h
    obtain ⟨x, hx, e⟩ := List.mem_map.mp h
    rw [← wD_inj e]; exact hx
  · exact fun h => List.mem_map.mpr ⟨w, h, rfl⟩
@[simp] theorem wD_nb (w : Int × Int) : (wD w).nb = true := rfl
@[simp] theorem wD_dep (w : Int × Int) : (wD w).dep = 1 := rfl
@[simp] theorem wDs_nb : ∀ r : Row, D.nbs (r.map wD) = true
  | [] => rfl
  | w :: r => by rw [List.map_cons, D.nbs, wD_nb, wDs_nb r]; rfl
theorem wDs_dep : ∀ r : Row, D.deps (r.map wD) ≤ 1
  | [] => Nat.zero_le _
  | w :: r => by rw [List.map_cons, D.deps, wD_dep]; have := wDs_dep r; omega
@[simp] theorem rD_nb (r : Row) : (rD r).nb = true := wDs_nb r
theorem rD_dep (r : Row) : (rD r).dep ≤ 2 := by
  show D.deps (r.map wD) + 1 ≤ 2
  have := wDs_dep r
  omega
@[simp] theorem wD_wf (n : Nat) (w : Int × Int) : (wD w).wf n = true := rfl
@[simp] theorem wDs_wf (n : Nat) : ∀ r : Row, D.wfs n (r.map wD) = true
  | [] => rfl
  | w :: r => by rw [List.map_cons, D.wfs, wD_wf, wDs_wf n r]; rfl
@[simp] theorem rD_wf (n : Nat) (r : Row) : (rD r).wf n = true := wDs_wf n r
@[simp] theorem tidy_row (S T : Store) (r : Row) : tidy S (.ok (rD r) (S ++ T)) = .ok (rD r) S := tidy_drop (rD_wf _ r)
end Fx
set_option Elab.async false
set_option linter.all false
set_option autoImplicit false
set_option maxRecDepth 100000
set_option maxHeartbeats 4000000
/-! FxX: the helpers that the laws share: cells, draws, seeds. -/
namespace Fx
theorem fmod_small (i : Int) {m : Nat} (h : 0 < m) : ∃ q : Nat, i.fmod (m : Int) = (q : Int) ∧ q < m := by
  have a := Int.fmod_nonneg_of_pos i (show (0 : Int) < (m : Int) by omega)
  have b := Int.fmod_lt_of_pos i (show (0 : Int) < (m : Int) by omega)
  exact ⟨(i.fmod (m : Int)).toNat, by omega, by omega⟩
theorem lstOf_app {S : Store} {m : Nat} {xs : List D} (h : lstOf S m = some xs) (T : Store) : lstOf (S ++ T) m = some xs := by
  unfold lstOf at h ⊢
  cases e : S[m]? with
  | none => rw [e] at h; cases h
  | some o =>
    have hm : m < S.length := (List.getElem?_eq_some_iff.mp e).1
    rw [List.getElem?_append_left hm]
    exact h
theorem set_last (S : Store) (a b : O) : (S ++ [a]).set S.length b = S ++ [b] := by
  rw [List.set_append_right _ _ (Nat.le_refl _), Nat.sub_self]
  rfl
theorem app_last {S : Store} {xs : List D} {d : D} (h : xs.length < line) : mthF .append (.ref S.length) [d] (S ++ [.lst xs]) = .ok .non (S ++ [.lst (xs ++ [d])]) := by
  have e := m_app (S ++ [O.lst xs]) (n := S.length) (d := d) (xs := xs) (by simp) h
  rw [e, set_last]
theorem tidy_last (S : Store) (a b : O) (d : D) : tidy (S ++ [a]) (.ok d (S ++ [b])) = .ok d (S ++ [b]) := tidy_len (by simp)
theorem log_le {i : Int} {k : Nat} (h0 : 0 ≤ i) (h : i < 2 ^ k) (hk : k < 999000) : bits i < 999000 := by
  unfold bits
  by_cases hz : i.natAbs = 0
  · rw [hz]; decide
  · have : i.natAbs < 2 ^ k := by
      have e : ((i.natAbs : Nat) : Int) = i := by omega
      have : ((i.natAbs : Nat) : Int) < ((2 ^ k : Nat) : Int) := by rw [e]; simpa using h
      exact Int.ofNat_lt.mp this
    have := (Nat.log2_lt hz).mpr this
    omega
/-- a script in the store -/
theorem scr_at (ns : List Int) (T : Store) : lstOf (O.frz (ns.map D.int) :: T) 0 = some (ns.map D.int) := rfl
/-! ### cells -/
def cellB : FSs := (.cons (.ifs (.cmp .Lt (.loc 1) (.blt .len (.cons (.loc 0) .nil))) (.cons (.ret (.idx (.loc 0) (.loc 1)))
    .nil) .nil)
    (.cons (.ret (.con (.int 0)))
    .nil))
def cellAt (ns : List Int) (k : Nat) : Int := (ns[k]?).getD 0
theorem cell_ok {G : Glob} {ix : Nat} (hG : G.fns[ix]? = some ⟨2, 2, cellB⟩) {n : Nat} {S : Store} {ns : List Int} {k : Nat} {r : Nat} (h : lstOf S r = some (ns.map D.int)) : callN G (n + 1) ix [.ref r, .int k] S = .ok (.int (cellAt ns k)) S := by
  rw [call_eq hG rfl]
  have hl := len_ref S h
  by_cases hk : k < ns.length
  · have h1 : (k : Int) < ((ns.map D.int).length : Int) := by simp; omega
    have h2 : atI (ns.map D.int) (k : Int) = some (.int ns[k]) := by rw [atI_nat (by simpa using hk)]; simp [hk]
    have h3 : cellAt ns k = ns[k] := by unfold cellAt; simp [hk]
    rw [List.length_map] at h1
    simp [cellB, env0, hl, h1, h, h2, h3]
  · have h1 : ¬ (k : Int) < ((ns.length : Nat) : Int) := by omega
    have h3 : cellAt ns k = 0 := by unfold cellAt; rw [List.getElem?_eq_none (by omega)]; rfl
    simp [cellB, env0, hl, h1, h3]
/-! ### draws -/
def okW (ws : List Int) : Prop := ∀ w ∈ ws, 0 ≤ w ∧ w < 60
theorem okW_add {ws : List Int} {w : Int} (h : okW ws) (a : 0 ≤ w) (b : w < 60) : okW (ws ++ [w]) := by
  intro x hx
  rcases List.mem_append.mp hx with q | q
  · exact h x q
  · rw [List.mem_singleton] at q; subst q; exact ⟨a, b⟩
def dA : FSs := .cons (.expr (.mth .append (.loc 2) (.cons (.bin .Mod (.loc 3) (.con (.int 60))) .nil)))
    (.cons (.asg 3 (.bin .FloorDiv (.loc 3) (.con (.int 60)))) .nil)
def dB : FSs := (.cons (.asg 5 (.bin .Mod (.blt .int (.cons (.bin .Add (.bin .Add (.bin .Mult (.loc 5) (.con (.int 48271))) (.bin .Mult (.con (.int 12345)) (.loc 4))) (.con (.int 7))) .nil)) (.con (.int 2147483647))))
    (.cons (.asg 6 (.bin .Mod (.blt .int (.cons (.bin .Add (.bin .Mult (.loc 5) (.con (.int 69621))) (.loc 4)) .nil)) (.con (.int 1000003))))
    (.cons (.expr (.mth .append (.loc 2) (.cons (.bin .Mod (.bin .FloorDiv (.loc 6) (.con (.int 3))) (.con (.int 60))) .nil)))
    .nil)))
def drawsB : FSs := (.cons (.asg 2 (.lst .nil))
    (.cons (.asg 3 (.blt .abs (.cons (.loc 0) .nil)))
    (.cons (.ifs (.cmp .GtE (.loc 3) (.bin .Pow (.con (.int 10)) (.con (.int 18)))) (.cons (.fr (.nm 4) (.range1 (.loc 1)) dA)
    (.cons (.ret (.loc 2))
    .nil)) .nil)
    (.cons (.asg 5 (.bin .Add (.loc 3) (.con (.int 17))))
    (.cons (.fr (.nm 4) (.range1 (.loc 1)) dB)
    (.cons (.ret (.loc 2))
    .nil))))))
theorem loopA {G : Glob} {cl : Orac} {S : Store} {m : Nat} {c r : Int} (hm : m < 1000) : ∃ ws v3 v4, ws.length = m ∧ okW ws ∧ forL (frB G cl (.nm 4) dA none) (same none (S ++ [.lst []])) (rangeD 0 (m : Int)) [some (.int c), some (.int (m : Int)), some (.ref S.length), some (.int r), none, none, none] (S ++ [.lst []]) = .nx [some (.int c), some (.int (m : Int)), some (.ref S.length), v3, v4, none, none] (S ++ [.lst (ws.map D.int)]) := by
  obtain ⟨ρ', S', loop, ws, r', v, P1, P2, rfl, rfl⟩ := forL_inv (f := frB G cl (.nm 4) dA none) (chk := same none (S ++ [.lst []])) (fun i ρ S' => ∃ (ws : List Int) (r' : Int) (v : Option D), ws.length = i ∧ okW ws ∧ ρ = [some (.int c), some (.int (m : Int)), some (.ref S.length), some (.int r'), v, none, none] ∧ S' = S ++ [.lst (ws.map D.int)]) (rangeD 0 (m : Int)) 0 [some (.int c), some (.int (m : Int)), some (.ref S.length), some (.int r), none, none, none] (S ++ [.lst []]) ⟨[], r, none, rfl, (fun _ h => by cases h), rfl, rfl⟩ (fun j d ρ S2 hj hP => by
    obtain ⟨ws, r', v, P1, P2, rfl, rfl⟩ := hP
    obtain ⟨hj1, rfl⟩ := range_get hj
    obtain ⟨q, q1, q2⟩ := fmod_small r' (m := 60) (by decide)
    have q1 : r'.fmod 60 = (q : Int) := q1
    have hl : line = 16777216 := rfl
    have hw : (ws.map D.int).length < line := by rw [List.length_map]; omega
    have ap := app_last (S := S) (d := .int (q : Int)) hw
    have hlst := lstOf_new (S := S) (ws.map D.int)
    refine ⟨[some (.int c), some (.int (m : Int)), some (.ref S.length), some (.int (r'.fdiv 60)), some (.int (j : Int)), none, none], S ++ [.lst ((ws ++ [(q : Int)]).map D.int)], ?_, rfl, ws ++ [(q : Int)], r'.fdiv 60, _, by simp; omega, okW_add P2 (by omega) (by omega), rfl, rfl⟩
    simp [frB, dA, asgT, asgN, hlst, q1, ap, tidy_last])
  rw [range_len] at P1
  exact ⟨ws, _, _, by omega, P2, loop⟩
theorem loopB {G : Glob} {cl : Orac} {S : Store} {m : Nat} {c r s : Int} (hm : m < 1000) (h0 : 0 ≤ s) (h1 : s < 2 ^ 62) : ∃ ws v4 v5 v6, ws.length = m ∧ okW ws ∧ forL (frB G cl (.nm 4) dB none) (same none (S ++ [.lst []])) (rangeD 0 (m : Int)) [some (.int c), some (.int (m : Int)), some (.ref S.length), some (.int r), none, some (.int s), none] (S ++ [.lst []]) = .nx [some (.int c), some (.int (m : Int)), some (.ref S.length), some (.int r), v4, v5, v6] (S ++ [.lst (ws.map D.int)]) := by
  obtain ⟨ρ', S', loop, ws, s', v, v6, P1, P2, P3, P4, rfl, rfl⟩ := forL_inv (f := frB G cl (.nm 4) dB none) (chk := same none (S ++ [.lst []])) (fun i ρ S' => ∃ (ws : List Int) (s' : Int) (v v6 : Option D), ws.length = i ∧ okW ws ∧ 0 ≤ s' ∧ s' < 2 ^ 62 ∧ ρ = [some (.int c), some (.int (m : Int)), some (.ref S.length), some (.int r), v, some (.int s'), v6] ∧ S' = S ++ [.lst (ws.map D.int)]) (rangeD 0 (m : Int)) 0 [some (.int c), some (.int (m : Int)), some (.ref S.length), some (.int r), none, some (.int s), none] (S ++ [.lst []]) ⟨[], s, none, none, rfl, (fun _ h => by cases h), h0, h1, rfl, rfl⟩ (fun j d ρ S2 hj hP => by
    obtain ⟨ws, s', v, v6, P1, P2, P3, P4, rfl, rfl⟩ := hP
    obtain ⟨hj1, rfl⟩ := range_get hj
    have hl : line = 16777216 := rfl
    have b1 : bits s' + bits 48271 < 1000000 := by
      have := log_le P3 P4 (by decide)
      have : bits 48271 = 15 := by decide
      omega
    have b2 : bits 12345 + bits (j : Int) < 1000000 := by
      have := log_le (i := (j : Int)) (k := 62) (by omega) (by omega) (by decide)
      have : bits 12345 = 13 := by decide
      omega
    obtain ⟨q, q1, q2⟩ := fmod_small (s' * 48271 + 12345 * (j : Int) + 7) (m := 2147483647) (by decide)
    have b3 : bits (q : Int) + bits 69621 < 1000000 := by
      have := log_le (i := (q : Int)) (k := 62) (by omega) (by omega) (by decide)
      have : bits 69621 = 16 := by decide
      omega
    obtain ⟨o, o1, o2⟩ := fmod_small ((q : Int) * 69621 + (j : Int)) (m := 1000003) (by decide)
    obtain ⟨w, w1, w2⟩ := fmod_small ((o : Int).fdiv 3) (m := 60) (by decide)
    have q1 : (s' * 48271 + 12345 * (j : Int) + 7).fmod 2147483647 = (q : Int) := q1
    have o1 : ((q : Int) * 69621 + (j : Int)).fmod 1000003 = (o : Int) := o1
    have w1 : ((o : Int).fdiv 3).fmod 60 = (w : Int) := w1
    have hw : (ws.map D.int).length < line := by rw [List.length_map]; omega
    have ap := app_last (S := S) (d := .int (w : Int)) hw
    have hlst := lstOf_new (S := S) (ws.map D.int)
    refine ⟨[some (.int c), some (.int (m : Int)), some (.ref S.length), some (.int r), some (.int (j : Int)), some (.int (q : Int)), some (.int (o : Int))], S ++ [.lst ((ws ++ [(w : Int)]).map D.int)], ?_, rfl, ws ++ [(w : Int)], (q : Int), _, _, by simp; omega, okW_add P2 (by omega) (by omega), by omega, by omega, rfl, rfl⟩
    simp [frB, dB, asgT, asgN, hlst, b1, b2, b3, q1, o1, w1, ap, tidy_last])
  rw [range_len] at P1
  exact ⟨ws, _, _, _, by omega, P2, loop⟩
theorem draws_ok {G : Glob} {ix : Nat} (hG : G.fns[ix]? = some ⟨2, 7, drawsB⟩) {n : Nat} {S : Store} {c : Int} {m : Nat} (hm : m < 1000) : ∃ ws : List Int, ws.length = m ∧ okW ws ∧ callN G (n + 1) ix [.int c, .int (m : Int)] S = .ok (.ref S.length) (S ++ [.lst (ws.map D.int)]) := by
  have hs := rangeI_int (S := S ++ [O.lst []]) (small_nat (n := m) (by omega))
  have hz : (0 : Nat) ≤ line := Nat.zero_le _
  have habs : 0 ≤ (if c < 0 then -c else c) := by split <;> omega
  generalize hr : (if c < 0 then -c else c) = r at habs
  by_cases hb : r < 1000000000000000000
  · obtain ⟨ws, v4, v5, v6, h1, h2, loop⟩ := loopB (G := G) (cl := callN G n) (S := S) (m := m) (c := c) (r := r) (s := r + 17) hm (by omega) (by omega)
    refine ⟨ws, h1, h2, ?_⟩
    rw [call_eq hG rfl]
    simp [drawsB, env0, hs, hz, hr, hb, loop]
  · obtain ⟨ws, v3, v4, h1, h2, loop⟩ := loopA (G := G) (cl := callN G n) (S := S) (m := m) (c := c) (r := r) hm
    refine ⟨ws, h1, h2, ?_⟩
    rw [call_eq hG rfl]
    simp [drawsB, env0, hs, hz, hr, hb, loop]
/-! ### seeds -/
def sdB : FSs := (.cons (.asg 3 (.bin .Mod (.blt .int (.cons (.bin .Add (.bin .Mult (.loc 3) (.con (.int 31))) (.blt .abs (.cons (.loc 4) .nil))) .nil)) (.con (.int 999999999989))))
    .nil)
def seedB (cx : Nat) : FSs := (.cons (.asg 2 (.blt .abs (.cons (.call cx (.cons (.loc 0) (.cons (.loc 1) .nil))) .nil)))
    (.cons (.ifs (.cmp .GtE (.loc 2) (.bin .Pow (.con (.int 10)) (.con (.int 18)))) (.cons (.ret (.loc 2))
    .nil) .nil)
    (.cons (.asg 3 (.bin .Add (.con (.int 5)) (.loc 1)))
    (.cons (.fr (.nm 4) (.seq (.loc 0)) sdB)
    (.cons (.ret (.loc 3))
    .nil)))))
theorem seed_ok {G : Glob} {ix cx : Nat} (hG : G.fns[ix]? = some ⟨2, 5, seedB cx⟩) (hC : G.fns[cx]? = some ⟨2, 2, cellB⟩) {n : Nat} {S : Store} {ns : List Int} {k : Nat} {r : Nat} (hk : k < 1000) (h : lstOf S r = some (ns.map D.int)) : ∃ i : Int, callN G (n + 2) ix [.ref r, .int (k : Int)] S = .ok (.int i) S := by
  have e1 := cell_ok hC (n := n) (k := k) h
  generalize cellAt ns k = c at e1
  rw [call_eq hG rfl]
  by_cases hb : (if c < 0 then -c else c) < 1000000000000000000
  · obtain ⟨ρ', S', loop, s', v, P3, P4, rfl, rfl⟩ := forL_inv (f := frB G (callN G (n + 1)) (.nm 4) sdB none) (chk := same (some r) S) (fun i ρ S' => ∃ (s' : Int) (v : Option D), 0 ≤ s' ∧ s' < 2 ^ 62 ∧ ρ = [some (.ref r), some (.int (k : Int)), some (.int (if c < 0 then -c else c)), some (.int s'), v] ∧ S' = S) (ns.map D.int) 0 [some (.ref r), some (.int (k : Int)), some (.int (if c < 0 then -c else c)), some (.int (5 + k)), none] S ⟨5 + k, none, by omega, by omega, rfl, rfl⟩ (fun j d ρ S2 hj hP => by
      obtain ⟨s', v, P3, P4, rfl, rfl⟩ := hP
      obtain ⟨x, hx, rfl⟩ := List.mem_map.mp (List.mem_of_getElem? hj)
      have b1 : bits s' + bits 31 < 1000000 := by
        have := log_le P3 P4 (by decide)
        have : bits 31 = 4 := by decide
        omega
      obtain ⟨q, q1, q2⟩ := fmod_small (s' * 31 + (if x < 0 then -x else x)) (m := 999999999989) (by decide)
      have q1 : (s' * 31 + (if x < 0 then -x else x)).fmod 999999999989 = (q : Int) := q1
      refine ⟨[some (.ref r), some (.int (k : Int)), some (.int (if c < 0 then -c else c)), some (.int (q : Int)), some (.int x)], S2, ?_, by simp, (q : Int), _, by omega, by omega, rfl, rfl⟩
      simp [frB, sdB, asgT, asgN, b1, q1])
    refine ⟨s', ?_⟩
    have sq := seqI_ref _ h
    simp [seedB, env0, e1, hb, sq, loop]
  · refine ⟨if c < 0 then -c else c, ?_⟩
    simp [seedB, env0, e1, hb]
end Fx
set_option Elab.async false
set_option linter.all false
set_option autoImplicit false
set_option maxRecDepth 100000
set_option maxHeartbeats 4000000
/-! K13A: rows judged, by the program and by the law. -/
namespace K13
open Fx
theorem fns_0 : L.G.fns[0]? = some ⟨2, 5, b_row_is_right⟩ := rfl
theorem fns_1 : L.G.fns[1]? = some ⟨2, 3, b_within⟩ := rfl
theorem fns_2 : L.G.fns[2]? = some ⟨2, 4, b_answer_in⟩ := rfl
theorem fns_3 : L.G.fns[3]? = some ⟨3, 6, b_with_answer⟩ := rfl
theorem fns_4 : L.G.fns[4]? = some ⟨1, 3, b_plain_row⟩ := rfl
theorem fns_25 : L.G.fns[25]? = some ⟨2, 4, b__law_right_row⟩ := rfl
/-- ascending names up to n, answers 0 and 1 -/
def rowOk (n : Int) : Int → Row → Bool
  | _, [] => true
  | l, w :: r => decide (l < w.1) && decide (w.1 ≤ n) && (decide (w.2 = 0) || decide (w.2 = 1)) && rowOk n w.1 r
def rB : FSs := (.cons (.ifs (.or (.cons (.cmp .LtE (.loc 3) (.loc 2)) (.cons (.cmp .Gt (.loc 3) (.loc 0)) (.cons (.cmp .NotIn (.loc 4) (.tup (.cons (.con (.int 0)) (.cons (.con (.int 1)) .nil)))) .nil)))) (.cons (.ret (.con (.bl false)))
    .nil) .nil)
    (.cons (.asg 2 (.loc 3))
    .nil))
theorem in01 (S : Store) (i : Int) : inD S (.int i) (.tup [.int 0, .int 1]) = some (decide (i = 0) || decide (i = 1)) := by
  rw [in_nb S (seq_tup S _) rfl rfl (by simp [D.dep]) (by simp [D.dep, D.deps])]
  by_cases h0 : i = 0 <;> by_cases h1 : i = 1 <;> simp [h0, h1]
theorem row_loop {cl : Orac} (n : Int) (Rr : D) (S : Store) : ∀ (r : Row) (l : Int) (v3 v4 : Option D),
    (rowOk n l r = true → ∃ l' v3' v4', forL (frB L.G cl (.tp [3, 4]) rB none) (same none S) (r.map wD) [some (.int n), some Rr, some (.int l), v3, v4] S = .nx [some (.int n), some Rr, some (.int l'), v3', v4'] S) ∧
    (rowOk n l r = false → forL (frB L.G cl (.tp [3, 4]) rB none) (same none S) (r.map wD) [some (.int n), some Rr, some (.int l), v3, v4] S = .ret (.bl false) S)
  | [], l, v3, v4 => ⟨fun _ => ⟨l, v3, v4, rfl⟩, fun h => by cases h⟩
  | w :: r, l, v3, v4 => by
    obtain ⟨ih1, ih2⟩ := row_loop (cl := cl) n Rr S r w.1 (some (.int w.1)) (some (.int w.2))
    have body : frB L.G cl (.tp [3, 4]) rB none (wD w) [some (.int n), some Rr, some (.int l), v3, v4] S = if (decide (l < w.1) && decide (w.1 ≤ n) && (decide (w.2 = 0) || decide (w.2 = 1))) = true then .nx [some (.int n), some Rr, some (.int w.1), some (.int w.1), some (.int w.2)] S else .ret (.bl false) S := by
      by_cases h1 : l < w.1
      · by_cases h2 : w.1 ≤ n
        · have h2' : ¬ n < w.1 := by omega
          by_cases h3 : w.2 = 0
          · simp [frB, wD, asgT, asgNs, asgN, rB, in01, h1, h2, h2', h3, line]
          · by_cases h4 : w.2 = 1
            · simp [frB, wD, asgT, asgNs, asgN, rB, in01, h1, h2, h2', h4, line]
            · simp [frB, wD, asgT, asgNs, asgN, rB, in01, h1, h2, h2', h3, h4, line]
        · have h2' : n < w.1 := by omega
          simp [frB, wD, asgT, asgNs, asgN, rB, h1, h2, h2', line]
      · simp [frB, wD, asgT, asgNs, asgN, rB, h1, line]
    cases hc : (decide (l < w.1) && decide (w.1 ≤ n) && (decide (w.2 = 0) || decide (w.2 = 1))) with
    | true =>
      rw [hc, if_pos rfl] at body
      have e : rowOk n l (w :: r) = rowOk n w.1 r := by rw [rowOk, hc, Bool.true_and]
      rw [e]
      refine ⟨fun h => ?_, fun h => ?_⟩
      · obtain ⟨l', a, b, q⟩ := ih1 h
        refine ⟨l', a, b, ?_⟩
        rw [List.map_cons, fl_nx body rfl, q]
      · rw [List.map_cons, fl_nx body rfl, ih2 h]
    | false =>
      rw [hc, if_neg Bool.false_ne_true] at body
      have e : rowOk n l (w :: r) = false := by rw [rowOk, hc, Bool.false_and]
      rw [e]
      refine ⟨fun h => (by cases h), fun _ => ?_⟩
      rw [List.map_cons, fl_ret body]
theorem row_ok {k : Nat} {n : Int} {r : Row} {S : Store} : callN L.G (k + 1) 0 [.int n, rD r] S = .ok (.bl (rowOk n 0 r)) S := by
  rw [call_eq fns_0 rfl]
  obtain ⟨h1, h2⟩ := row_loop (cl := callN L.G k) n (rD r) S r 0 none none
  cases h : rowOk n 0 r with
  | true =>
    obtain ⟨l', a, b, q⟩ := h1 h
    have q : forL (frB L.G (callN L.G k) (.tp [3, 4]) rB none) (same none S) (r.map wD) [some (.int n), some (.tup (r.map wD)), some (.int 0), none, none] S = _ := q
    unfold rB at q
    simp [b_row_is_right, env0, rD, q]
  | false =>
    have q := h2 h
    have q : forL (frB L.G (callN L.G k) (.tp [3, 4]) rB none) (same none S) (r.map wD) [some (.int n), some (.tup (r.map wD)), some (.int 0), none, none] S = _ := q
    unfold rB at q
    simp [b_row_is_right, env0, rD, q]
def lB : FSs := (.cons (.ifs (.or (.cons (.not (.chain .Lt .LtE (.loc 2) (.idx (.loc 3) (.con (.int 0))) (.loc 0))) (.cons (.cmp .NotIn (.idx (.loc 3) (.con (.int 1))) (.tup (.cons (.con (.int 0)) (.cons (.con (.int 1)) .nil)))) .nil))) (.cons (.ret (.con (.bl false)))
    .nil) .nil)
    (.cons (.asg 2 (.idx (.loc 3) (.con (.int 0))))
    .nil))
theorem lrow_loop {cl : Orac} (n : Int) (Rr : D) (S : Store) : ∀ (r : Row) (l : Int) (v3 : Option D),
    (rowOk n l r = true → ∃ l' v3', forL (frB L.G cl (.nm 3) lB none) (same none S) (r.map wD) [some (.int n), some Rr, some (.int l), v3] S = .nx [some (.int n), some Rr, some (.int l'), v3'] S) ∧
    (rowOk n l r = false → forL (frB L.G cl (.nm 3) lB none) (same none S) (r.map wD) [some (.int n), some Rr, some (.int l), v3] S = .ret (.bl false) S)
  | [], l, v3 => ⟨fun _ => ⟨l, v3, rfl⟩, fun h => by cases h⟩
  | w :: r, l, v3 => by
    obtain ⟨ih1, ih2⟩ := lrow_loop (cl := cl) n Rr S r w.1 (some (wD w))
    have body : frB L.G cl (.nm 3) lB none (wD w) [some (.int n), some Rr, some (.int l), v3] S = if (decide (l < w.1) && decide (w.1 ≤ n) && (decide (w.2 = 0) || decide (w.2 = 1))) = true then .nx [some (.int n), some Rr, some (.int w.1), some (wD w)] S else .ret (.bl false) S := by
      have ch : chainR .Lt .LtE (.ok (.int l) S) (fun S1 => .ok (.int w.1) S1) (fun S1 => .ok (.int n) S1) = .ok (.bl (decide (l < w.1) && !decide (n < w.1))) S :=
        chainR_is S (y := .int w.1) (z := .int n) rfl rfl (by simp) (by simp)
      by_cases h1 : l < w.1
      · by_cases h2 : w.1 ≤ n
        · have h2' : ¬ n < w.1 := by omega
          by_cases h3 : w.2 = 0
          · simp [frB, wD, asgT, asgN, lB, in01, h1, h2, h2', h3, line, ch]
          · by_cases h4 : w.2 = 1
            · simp [frB, wD, asgT, asgN, lB, in01, h1, h2, h2', h4, line, ch]
            · simp [frB, wD, asgT, asgN, lB, in01, h1, h2, h2', h3, h4, line, ch]
        · have h2' : n < w.1 := by omega
          simp [frB, wD, asgT, asgN, lB, h1, h2, h2', line, ch]
      · simp [frB, wD, asgT, asgN, lB, h1, line, ch]
    cases hc : (decide (l < w.1) && decide (w.1 ≤ n) && (decide (w.2 = 0) || decide (w.2 = 1))) with
    | true =>
      rw [hc, if_pos rfl] at body
      have e : rowOk n l (w :: r) = rowOk n w.1 r := by rw [rowOk, hc, Bool.true_and]
      rw [e]
      refine ⟨fun h => ?_, fun h => ?_⟩
      · obtain ⟨l', a, q⟩ := ih1 h
        refine ⟨l', a, ?_⟩
        rw [List.map_cons, fl_nx body rfl, q]
      · rw [List.map_cons, fl_nx body rfl, ih2 h]
    | false =>
      rw [hc, if_neg Bool.false_ne_true] at body
      have e : rowOk n l (w :: r) = false := by rw [rowOk, hc, Bool.false_and]
      rw [e]
      refine ⟨fun h => (by cases h), fun _ => ?_⟩
      rw [List.map_cons, fl_ret body]
theorem lrow_ok {k : Nat} {n : Int} {r : Row} {S : Store} : callN L.G (k + 1) 25 [.int n, rD r] S = .ok (.bl (rowOk n 0 r)) S := by
  rw [call_eq fns_25 rfl]
  obtain ⟨h1, h2⟩ := lrow_loop (cl := callN L.G k) n (rD r) S r 0 none
  cases h : rowOk n 0 r with
  | true =>
    obtain ⟨l', a, q⟩ := h1 h
    have q : forL (frB L.G (callN L.G k) (.nm 3) lB none) (same none S) (r.map wD) [some (.int n), some (.tup (r.map wD)), some (.int 0), none] S = _ := q
    unfold lB at q
    simp [b__law_right_row, env0, rD, q]
  | false =>
    have q := h2 h
    have q : forL (frB L.G (callN L.G k) (.nm 3) lB none) (same none S) (r.map wD) [some (.int n), some (.tup (r.map wD)), some (.int 0), none] S = _ := q
    unfold lB at q
    simp [b__law_right_row, env0, rD, q]
/-! ### within -/
def subs (x y : Row) : Bool := x.all fun w => decide (w ∈ y)
theorem within_ok {k : Nat} {x y : Row} {S : Store} (hx : x.length ≤ line) : callN L.G (k + 1) 1 [rD x, rD y] S = .ok (.bl (subs x y)) S := by
  rw [call_eq fns_1 rfl]
  have turn : ∀ d ∈ x.map wD, lcTurn [2] (.nm 2) [some (.tup (x.map wD)), some (.tup (y.map wD)), none] (evs L.G (callN L.G k) none .nil).ts (ev L.G (callN L.G k) none (.cmp .In (.loc 2) (.loc 1))).v d S = .ok (some (.bl (decide (d ∈ y.map wD)))) S := fun d hd => by
    obtain ⟨w, hw, rfl⟩ := List.mem_map.mp hd
    have e := in_nb S (seq_tup S (y.map wD)) (wD_nb w) (wDs_nb y) (by simp) (by have := wDs_dep y; omega)
    simp [lcTurn, wipe, asgT, asgN, e]
  have loop := lcLoop_map (chk := same none S) (g := fun d => .bl (decide (d ∈ y.map wD))) (S := S) rfl (ds := x.map wD) (acc := []) turn (by simpa using hx)
  have bl : (x.map wD).map (fun d => D.bl (decide (d ∈ y.map wD))) = (x.map fun w => decide (w ∈ y)).map D.bl := by
    rw [List.map_map, List.map_map]
    exact List.map_congr_left fun w _ => by simp only [Function.comp]; rw [decide_eq_decide.mpr wD_mem]
  rw [List.nil_append, bl] at loop
  have fa := f_all (S ++ [O.lst ((x.map fun w => decide (w ∈ y)).map D.bl)]) (n := S.length) (bs := x.map fun w => decide (w ∈ y)) (lstOf_new S _)
  have e : (x.map fun w => decide (w ∈ y)).all id = subs x y := by unfold subs; rw [List.all_map]; rfl
  rw [e] at fa
  simp only [List.map_map] at loop fa
  simp [b_within, env0, rD, loop, fa]
/-! ### answer_in -/
def ans (r : Row) (n : Int) : Option Int := match r with
  | [] => none
  | w :: r => if w.1 = n then some w.2 else ans r n
def oD : Option Int → D
  | none => .non
  | some i => .int i
def aB : FSs := (.cons (.ifs (.cmp .Eq (.loc 2) (.loc 1)) (.cons (.ret (.loc 3))
    .nil) .nil)
    .nil)
theorem ans_loop {cl : Orac} (n : Int) (Rr : D) (S : Store) : ∀ (r : Row) (v2 v3 : Option D),
    (ans r n = none → ∃ v2' v3', forL (frB L.G cl (.tp [2, 3]) aB none) (same none S) (r.map wD) [some Rr, some (.int n), v2, v3] S = .nx [some Rr, some (.int n), v2', v3'] S) ∧
    (∀ a, ans r n = some a → forL (frB L.G cl (.tp [2, 3]) aB none) (same none S) (r.map wD) [some Rr, some (.int n), v2, v3] S = .ret (.int a) S)
  | [], v2, v3 => ⟨fun _ => ⟨v2, v3, rfl⟩, fun a h => by cases h⟩
  | w :: r, v2, v3 => by
    obtain ⟨ih1, ih2⟩ := ans_loop (cl := cl) n Rr S r (some (.int w.1)) (some (.int w.2))
    have body : frB L.G cl (.tp [2, 3]) aB none (wD w) [some Rr, some (.int n), v2, v3] S = if w.1 = n then .ret (.int w.2) S else .nx [some Rr, some (.int n), some (.int w.1), some (.int w.2)] S := by
      by_cases h : w.1 = n
      · simp [frB, wD, asgT, asgNs, asgN, aB, h]
      · simp [frB, wD, asgT, asgNs, asgN, aB, h]
    by_cases h : w.1 = n
    · rw [if_pos h] at body
      have e : ans (w :: r) n = some w.2 := by unfold ans; rw [if_pos h]
      rw [e]
      refine ⟨fun z => (by cases z), fun a z => ?_⟩
      cases z
      rw [List.map_cons, fl_ret body]
    · rw [if_neg h] at body
      have e : ans (w :: r) n = ans r n := by rw [ans, if_neg h]
      rw [e]
      refine ⟨fun z => ?_, fun a z => ?_⟩
      · obtain ⟨x, y, q⟩ := ih1 z
        refine ⟨x, y, ?_⟩
        rw [List.map_cons, fl_nx body rfl, q]
      · rw [List.map_cons, fl_nx body rfl, ih2 a z]
theorem ans_ok {k : Nat} {n : Int} {r : Row} {S : Store} : callN L.G (k + 1) 2 [rD r, .int n] S = .ok (oD (ans r n)) S := by
  rw [call_eq fns_2 rfl]
  obtain ⟨h1, h2⟩ := ans_loop (cl := callN L.G k) n (.tup (r.map wD)) S r none none
  cases h : ans r n with
  | none =>
    obtain ⟨a, b, q⟩ := h1 h
    unfold aB at q
    simp [b_answer_in, env0, rD, q, oD]
  | some a =>
    have q := h2 a h
    unfold aB at q
    simp [b_answer_in, env0, rD, q, oD]
theorem ans_none {n : Int} : ∀ {r : Row}, ans r n = none ↔ n ∉ r.map (·.1)
  | [] => by simp [ans]
  | w :: r => by
    have ih := ans_none (n := n) (r := r)
    unfold ans
    by_cases h : w.1 = n
    · rw [if_pos h]; simp [h]
    · rw [if_neg h, ih]; simp [Ne.symm h]
end K13
set_option Elab.async false
set_option linter.all false
set_option autoImplicit false
set_option maxRecDepth 100000
set_option maxHeartbeats 4000000
/-! K13B: line trees, judged by the program and by the law. -/
namespace K13
open Fx
inductive Tr (α : Type) where
  | wish (a : α)
  | node (n : Int) (ln : Row) (l r : Tr α)
abbrev sWish : List Nat := [119, 105, 115, 104]
abbrev sFrom : List Nat := [102, 114, 111, 109]
def Tr.D {α : Type} (f : α → D) : Tr α → D
  | .wish a => .tup [.str sWish, f a]
  | .node n ln l r => .tup [.str sFrom, .int n, rD ln, l.D f, r.D f]
abbrev Pp := Tr Int
abbrev pD (p : Pp) : D := p.D D.int
def Tr.dep {α : Type} : Tr α → Nat
  | .wish _ => 0
  | .node _ _ l r => max l.dep r.dep + 1
def Tr.lv {α : Type} : Tr α → Nat
  | .wish _ => 1
  | .node _ _ l r => l.lv + r.lv
/-- short lines -/
def Tr.sm {α : Type} : Tr α → Prop
  | .wish _ => True
  | .node _ ln l r => ln.length ≤ 1000 ∧ l.sm ∧ r.sm
def Tr.ws {α : Type} : Tr α → List α
  | .wish a => [a]
  | .node _ _ l r => l.ws ++ r.ws
theorem Tr.ws_len {α : Type} : ∀ t : Tr α, t.ws.length = t.lv
  | .wish _ => rfl
  | .node _ _ l r => by rw [Tr.ws, List.length_append, l.ws_len, r.ws_len]; rfl
structure BookAt (S : Store) (b : Nat) (n : Int) (ws : List Row) : Prop where
  at_ : S[b]? = some (.ins 0 [(0, .int n), (7, .tup (ws.map rD))])
  sm : ∀ r ∈ ws, r.length ≤ 1000
  few : ws.length ≤ 1000
theorem BookAt.f0 {S : Store} {b : Nat} {n : Int} {ws : List Row} (B : BookAt S b n ws) : fldR L.G 0 (.ok (.ref b) S) = .ok (.int n) S := fldR_ok L.G S B.at_ (l := [0, 7]) rfl rfl rfl
theorem BookAt.f7 {S : Store} {b : Nat} {n : Int} {ws : List Row} (B : BookAt S b n ws) : fldR L.G 7 (.ok (.ref b) S) = .ok (.tup (ws.map rD)) S := fldR_ok L.G S B.at_ (l := [0, 7]) rfl rfl rfl
def lineOf (ws : List Row) : Pp → Row
  | .wish i => (ws[i.toNat]?).getD []
  | .node _ ln _ _ => ln
def inR (ws : List Row) : Pp → Prop
  | .wish i => 0 ≤ i ∧ i < ws.length
  | .node _ _ _ _ => True
theorem fns_5 : L.G.fns[5]? = some ⟨2, 2, b_line_of⟩ := rfl
theorem fns_6 : L.G.fns[6]? = some ⟨3, 8, b_node_fault⟩ := rfl
theorem fns_7 : L.G.fns[7]? = some ⟨2, 3, b_line_tree_fault⟩ := rfl
theorem fns_8 : L.G.fns[8]? = some ⟨1, 1, b_line_tree_leaves⟩ := rfl
theorem fns_17 : L.G.fns[17]? = some ⟨1, 1, b__law_leaf_rows⟩ := rfl
theorem fns_24 : L.G.fns[24]? = some ⟨2, 2, b__law_line⟩ := rfl
theorem fns_26 : L.G.fns[26]? = some ⟨4, 8, b__law_node_fault⟩ := rfl
theorem fns_27 : L.G.fns[27]? = some ⟨3, 4, b__law_due⟩ := rfl
theorem at_rows {ws : List Row} {i : Int} (h0 : 0 ≤ i) (h1 : i < ws.length) : atI (ws.map rD) i = some (rD ((ws[i.toNat]?).getD [])) := by
  obtain ⟨j, rfl⟩ := Int.eq_ofNat_of_zero_le h0
  have hj : j < ws.length := by omega
  rw [atI_nat (by rw [List.length_map]; exact hj), List.getElem?_map]
  simp [hj]
theorem lineOf_ok {k : Nat} {S : Store} {b : Nat} {n : Int} {ws : List Row} {p : Pp} (B : BookAt S b n ws) (h : inR ws p) : callN L.G (k + 1) 5 [.ref b, pD p] S = .ok (rD (lineOf ws p)) S := by
  rw [call_eq fns_5 rfl]
  cases p with
  | wish i => simp [b_line_of, env0, Tr.D, B.f7, at_rows h.1 h.2, lineOf]
  | node a ln l r => simp [b_line_of, env0, Tr.D, lineOf]
theorem lawLine_ok {k : Nat} {S : Store} {m : Nat} {ws : List Row} {p : Pp} (hm : lstOf S m = some (ws.map rD)) (h : inR ws p) : callN L.G (k + 1) 24 [.ref m, pD p] S = .ok (rD (lineOf ws p)) S := by
  rw [call_eq fns_24 rfl]
  cases p with
  | wish i => simp [b__law_line, env0, Tr.D, hm, at_rows h.1 h.2, lineOf]
  | node a ln l r => simp [b__law_line, env0, Tr.D, lineOf]
/-! ### faults -/
abbrev Ft := Option (List Int × List Nat)
abbrev sLine : List Nat := [108, 105, 110, 101]
abbrev sName : List Nat := [110, 97, 109, 101]
abbrev sAsked : List Nat := [97, 115, 107, 101, 100]
abbrev sLeft : List Nat := [108, 101, 102, 116]
abbrev sRight : List Nat := [114, 105, 103, 104, 116]
abbrev sEnd : List Nat := [101, 110, 100]
def plD (pl : List Int) : D := .tup (pl.map D.int)
def fD : Ft → D
  | none => .non
  | some (pl, k) => .tup [plD pl, .str k]
def nf (n : Int) (ws : List Row) : Pp → List Int → Ft
  | .wish i, pl => if 0 ≤ i ∧ i < ws.length then none else some (pl, sWish)
  | .node a ln l r, pl => match nf n ws l (pl ++ [0]) with
    | some f => some f
    | none => match nf n ws r (pl ++ [1]) with
      | some f => some f
      | none => if rowOk n 0 ln = true then (if 1 ≤ a ∧ a ≤ n then (if a ∈ ln.map (·.1) then some (pl, sAsked) else
          if subs (lineOf ws l) (ln ++ [(a, 1)]) = true then (if subs (lineOf ws r) (ln ++ [(a, 0)]) = true then none else some (pl, sRight)) else some (pl, sLeft)) else some (pl, sName)) else some (pl, sLine)
theorem nf_inR {n : Int} {ws : List Row} : ∀ {p : Pp} {pl : List Int}, nf n ws p pl = none → inR ws p
  | .wish i, pl, h => by
    unfold nf at h
    split at h
    · assumption
    · cases h
  | .node _ _ _ _, _, _ => trivial
theorem lineOf_len {ws : List Row} (hw : ∀ r ∈ ws, r.length ≤ 1000) : ∀ {p : Pp}, p.sm → (lineOf ws p).length ≤ 1000
  | .wish i, _ => by
    show ((ws[i.toNat]?).getD []).length ≤ 1000
    cases e : ws[i.toNat]? with
    | none => exact Nat.zero_le _
    | some r => exact hw r (List.mem_of_getElem? e)
  | .node _ _ _ _, h => h.1
theorem plD_add {S : Store} {pl : List Int} {i : Int} (h : pl.length + 1 ≤ line) : binop .Add (plD pl) (.tup [.int i]) S = .ok (plD (pl ++ [i])) S := by
  unfold plD
  rw [add_tup, if_pos (by simpa using h)]
  simp
theorem rD_add {S : Store} {r : Row} {a v : Int} (h : r.length + 1 ≤ line) : binop .Add (rD r) (.tup [.tup [.int a, .int v]]) S = .ok (rD (r ++ [(a, v)])) S := by
  unfold rD
  rw [add_tup, if_pos (by simpa using h)]
  simp [wD]
def fB : FSs := (.cons (.asg 6 (.call 6 (.cons (.loc 0) (.cons (.idx (.loc 1) (.bin .Add (.con (.int 3)) (.loc 5))) (.cons (.bin .Add (.loc 2) (.tup (.cons (.loc 5) .nil))) .nil)))))
    (.cons (.ifs (.cmp .IsNot (.loc 6) (.con .non)) (.cons (.ret (.loc 6))
    .nil) .nil)
    .nil))
def gB : FSs := (.cons (.ifs (.not (.call 1 (.cons (.call 5 (.cons (.loc 0) (.cons (.idx (.loc 1) (.bin .Add (.con (.int 3)) (.loc 5))) .nil))) (.cons (.bin .Add (.loc 4) (.tup (.cons (.tup (.cons (.loc 3) (.cons (.bin .Sub (.con (.int 1)) (.loc 5)) .nil))) .nil))) .nil)))) (.cons (.ret (.tup (.cons (.loc 2) (.cons (.loc 7) .nil))))
    .nil) .nil)
    .nil)
theorem fD_non {f : Ft} : fD f = .non ↔ f = none := by
  cases f with
  | none => simp [fD]
  | some f => obtain ⟨a, b⟩ := f; simp [fD]
theorem nf_ok {S : Store} {b : Nat} {n : Int} {ws : List Row} (B : BookAt S b n ws) : ∀ (p : Pp) (k : Nat) (pl : List Int), p.dep ≤ k → p.sm → pl.length + p.dep ≤ 1000 → callN L.G (k + 1) 6 [.ref b, pD p, plD pl] S = .ok (fD (nf n ws p pl)) S
  | .wish i, k, pl, hd, hs, hp => by
    rw [call_eq fns_6 rfl]
    have few : ws.length ≤ line := Nat.le_trans B.few (by decide)
    by_cases h0 : 0 ≤ i
    · by_cases h1 : i < ws.length
      · have h2 : ¬ i < 0 := by omega
        simp [b_node_fault, env0, Tr.D, B.f7, chainR_ok, chain2_ok, chain3_b, nf, h0, h1, h2, fD]
      · have h2 : ¬ i < 0 := by omega
        simp [b_node_fault, env0, Tr.D, B.f7, chainR_ok, chain2_ok, chain3_b, nf, h0, h1, h2, fD, line]
    · have h2 : i < 0 := by omega
      simp [b_node_fault, env0, Tr.D, B.f7, chainR_ok, chain2_ok, chain3_b, nf, h0, h2, fD, line]
  | .node a ln l r, k, pl, hd, hs, hp => by
    obtain ⟨hs1, hs2, hs3⟩ := hs
    simp only [Tr.dep] at hd hp
    obtain ⟨k, rfl⟩ : ∃ j, k = j + 1 := ⟨k - 1, by omega⟩
    have i1 := nf_ok B l k (pl ++ [0]) (by omega) hs2 (by simp; omega)
    have i2 := nf_ok B r k (pl ++ [1]) (by omega) hs3 (by simp; omega)
    have hl : pl.length + 1 ≤ line := by have : (1000 : Nat) ≤ line := by decide
                                         omega
    have hr : ln.length + 1 ≤ line := by have : (1001 : Nat) ≤ line := by decide
                                         omega
    have p0 := plD_add (S := S) (pl := pl) (i := 0) hl
    have p1 := plD_add (S := S) (pl := pl) (i := 1) hl
    have q1 := rD_add (S := S) (r := ln) (a := a) (v := 1) hr
    have q0 := rD_add (S := S) (r := ln) (a := a) (v := 0) hr
    have eR := row_ok (k := k) (n := n) (r := ln) (S := S)
    have eA := ans_ok (k := k) (n := a) (r := ln) (S := S)
    have body : ∀ (i : Int) (c : D) (f : Ft) (v5 v6 v7 : Option D), (i = 0 ∨ i = 1) → atI [D.str sFrom, .int a, rD ln, pD l, pD r] (3 + i) = some c → callN L.G (k + 1) 6 [.ref b, c, plD (pl ++ [i])] S = .ok (fD f) S →
        frB L.G (callN L.G (k + 1)) (.nm 5) fB none (.int i) [some (.ref b), some (.tup [D.str sFrom, .int a, rD ln, pD l, pD r]), some (plD pl), some (.int a), some (rD ln), v5, v6, v7] S =
        if f = none then .nx [some (.ref b), some (.tup [D.str sFrom, .int a, rD ln, pD l, pD r]), some (plD pl), some (.int a), some (rD ln), some (.int i), some .non, v7] S else .ret (fD f) S := by
      intro i c f v5 v6 v7 hi hc hcall
      have pp := plD_add (S := S) (pl := pl) (i := i) hl
      cases f with
      | none => simp [frB, asgT, asgN, fB, hc, pp, hcall, fD, line]
      | some f =>
        have e : ¬ fD (some f) = .non := by rw [fD_non]; simp
        simp [frB, asgT, asgN, fB, hc, pp, hcall, e, line]
    have b0 := fun v5 v6 v7 => body 0 (pD l) (nf n ws l (pl ++ [0])) v5 v6 v7 (.inl rfl) rfl i1
    have b1 := fun v5 v6 v7 => body 1 (pD r) (nf n ws r (pl ++ [1])) v5 v6 v7 (.inr rfl) rfl i2
    rw [call_eq fns_6 rfl]
    cases f1 : nf n ws l (pl ++ [0]) with
    | some f =>
      rw [f1] at b0
      have loop := fun v5 v6 v7 => fl_ret (chk := same none S) (ds := [.int 1]) (show _ = SR.ret (fD (some f)) S from b0 v5 v6 v7)
      unfold fB at loop
      simp [b_node_fault, env0, Tr.D, parK, asgN, loop, nf, f1, line]
    | none =>
      rw [f1] at b0
      cases f2 : nf n ws r (pl ++ [1]) with
      | some f =>
        rw [f2] at b1
        have loop := fun v5 v6 v7 => (fl_nx (chk := same none S) (ds := [.int 1]) (show _ = SR.nx _ S from b0 v5 v6 v7) rfl).trans (fl_ret (chk := same none S) (ds := []) (show _ = SR.ret (fD (some f)) S from b1 _ _ _))
        unfold fB at loop
        simp [b_node_fault, env0, Tr.D, parK, asgN, loop, nf, f1, f2, line]
      | none =>
        rw [f2] at b1
        have loop := fun v5 v6 v7 => (fl_nx (chk := same none S) (ds := [.int 1]) (show _ = SR.nx _ S from b0 v5 v6 v7) rfl).trans (fl_nx (chk := same none S) (ds := []) (show _ = SR.nx _ S from b1 _ _ _) rfl)
        unfold fB at loop
        have c1 := lineOf_ok (k := k) B (nf_inR f1)
        have c2 := lineOf_ok (k := k) B (nf_inR f2)
        have w1 := within_ok (k := k) (x := lineOf ws l) (y := ln ++ [(a, 1)]) (S := S) (Nat.le_trans (lineOf_len B.sm hs2) (by decide))
        have w2 := within_ok (k := k) (x := lineOf ws r) (y := ln ++ [(a, 0)]) (S := S) (Nat.le_trans (lineOf_len B.sm hs3) (by decide))
        by_cases h1 : rowOk n 0 ln = true
        · by_cases h2 : 1 ≤ a
          · have h2' : ¬ a < 1 := by omega
            by_cases h3 : a ≤ n
            · have h3' : ¬ n < a := by omega
              cases h4 : ans ln a with
              | some v =>
                have h5 : a ∈ ln.map (·.1) := Classical.byContradiction fun z => by rw [ans_none.mpr z] at h4; cases h4
                have hx : (if a ∈ ln.map (·.1) then some (pl, sAsked) else if subs (lineOf ws l) (ln ++ [(a, 1)]) = true then (if subs (lineOf ws r) (ln ++ [(a, 0)]) = true then none else some (pl, sRight)) else some (pl, sLeft)) = some (pl, sAsked) := if_pos h5
                have en : nf n ws (.node a ln l r) pl = some (pl, sAsked) := by rw [nf, f1, f2]; dsimp only; rw [if_pos h1, if_pos ⟨h2, h3⟩, hx]
                rw [en]
                simp [b_node_fault, env0, Tr.D, parK, asgN, loop, eR, eA, h1, h2, h2', h3, h3', h4, oD, B.f0, chainR_ok, chain2_ok, chain3_b, fD, line]
              | none =>
                have h5 := ans_none.mp h4
                have en : nf n ws (.node a ln l r) pl = if subs (lineOf ws l) (ln ++ [(a, 1)]) = true then (if subs (lineOf ws r) (ln ++ [(a, 0)]) = true then none else some (pl, sRight)) else some (pl, sLeft) := by rw [nf, f1, f2]; dsimp only; rw [if_pos h1, if_pos ⟨h2, h3⟩, if_neg h5]
                rw [en]
                have fr2 : ∀ (i v : Int) (c : D) (x : Row) (kd : List Nat) (v5 v6 v7 : Option D), i + v = 1 → atI [D.str sFrom, .int a, rD ln, pD l, pD r] (3 + i) = some c → callN L.G (k + 1) 5 [.ref b, c] S = .ok (rD x) S → callN L.G (k + 1) 1 [rD x, rD (ln ++ [(a, v)])] S = .ok (.bl (subs x (ln ++ [(a, v)]))) S →
                    frB L.G (callN L.G (k + 1)) (.tp [5, 7]) gB none (.tup [.int i, .str kd]) [some (.ref b), some (.tup [D.str sFrom, .int a, rD ln, pD l, pD r]), some (plD pl), some (.int a), some (rD ln), v5, v6, v7] S =
                    if subs x (ln ++ [(a, v)]) = true then .nx [some (.ref b), some (.tup [D.str sFrom, .int a, rD ln, pD l, pD r]), some (plD pl), some (.int a), some (rD ln), some (.int i), v6, some (.str kd)] S else .ret (fD (some (pl, kd))) S := by
                  intro i v c x kd v5 v6 v7 hv hc h5 h6
                  have q := rD_add (S := S) (r := ln) (a := a) (v := v) hr
                  have hv : 1 - i = v := by omega
                  cases hsx : subs x (ln ++ [(a, v)]) with
                  | true =>
                    rw [hsx] at h6
                    simp [frB, asgT, asgNs, asgN, gB, hc, h5, h6, q, hv, line]
                  | false =>
                    rw [hsx] at h6
                    simp [frB, asgT, asgNs, asgN, gB, hc, h5, h6, q, hv, line, fD]
                have t0 := fun v5 v6 v7 => fr2 0 1 (pD l) (lineOf ws l) sLeft v5 v6 v7 rfl rfl c1 w1
                have t1 := fun v5 v6 v7 => fr2 1 0 (pD r) (lineOf ws r) sRight v5 v6 v7 rfl rfl c2 w2
                cases s1 : subs (lineOf ws l) (ln ++ [(a, 1)]) with
                | false =>
                  rw [s1] at t0
                  have lp := fun v5 v6 v7 => fl_ret (chk := same none S) (ds := [.tup [.int 1, .str sRight]]) (show _ = SR.ret (fD (some (pl, sLeft))) S from t0 v5 v6 v7)
                  unfold gB at lp
                  simp [b_node_fault, env0, Tr.D, parK, asgN, loop, eR, eA, h1, h2, h2', h3, h3', h4, oD, B.f0, chainR_ok, chain2_ok, chain3_b, lp, line]
                | true =>
                  rw [s1] at t0
                  cases s2 : subs (lineOf ws r) (ln ++ [(a, 0)]) with
                  | false =>
                    rw [s2] at t1
                    have lp := fun v5 v6 v7 => (fl_nx (chk := same none S) (ds := [.tup [.int 1, .str sRight]]) (show _ = SR.nx _ S from t0 v5 v6 v7) rfl).trans (fl_ret (chk := same none S) (ds := []) (show _ = SR.ret (fD (some (pl, sRight))) S from t1 _ _ _))
                    unfold gB at lp
                    simp [b_node_fault, env0, Tr.D, parK, asgN, loop, eR, eA, h1, h2, h2', h3, h3', h4, oD, B.f0, chainR_ok, chain2_ok, chain3_b, lp, line]
                  | true =>
                    rw [s2] at t1
                    have lp := fun v5 v6 v7 => (fl_nx (chk := same none S) (ds := [.tup [.int 1, .str sRight]]) (show _ = SR.nx _ S from t0 v5 v6 v7) rfl).trans (fl_nx (chk := same none S) (ds := []) (show _ = SR.nx _ S from t1 _ _ _) rfl)
                    unfold gB at lp
                    simp [b_node_fault, env0, Tr.D, parK, asgN, loop, eR, eA, h1, h2, h2', h3, h3', h4, oD, B.f0, chainR_ok, chain2_ok, chain3_b, lp, line, fD]
            · have h3' : n < a := by omega
              have en : nf n ws (.node a ln l r) pl = some (pl, sName) := by rw [nf, f1, f2]; dsimp only; rw [if_pos h1, if_neg (fun z => h3 z.2)]
              rw [en]
              simp [b_node_fault, env0, Tr.D, parK, asgN, loop, eR, h1, h2, h2', h3, h3', B.f0, chainR_ok, chain2_ok, chain3_b, fD, line]
          · have h2' : a < 1 := by omega
            have en : nf n ws (.node a ln l r) pl = some (pl, sName) := by rw [nf, f1, f2]; dsimp only; rw [if_pos h1, if_neg (fun z => h2 z.1)]
            rw [en]
            simp [b_node_fault, env0, Tr.D, parK, asgN, loop, eR, h1, h2, h2', B.f0, chainR_ok, chain2_ok, chain3_b, fD, line]
        · have h1' : rowOk n 0 ln = false := by simpa using h1
          have en : nf n ws (.node a ln l r) pl = some (pl, sLine) := by rw [nf, f1, f2]; dsimp only; rw [if_neg h1]
          rw [en]
          simp [b_node_fault, env0, Tr.D, parK, asgN, loop, eR, h1', B.f0, fD, line]
end K13
set_option Elab.async false
set_option linter.all false
set_option autoImplicit false
set_option maxRecDepth 100000
set_option maxHeartbeats 4000000
/-! K13C: faults as the law finds them. -/
namespace K13
open Fx
@[simp] theorem plD_wf (n : Nat) (pl : List Int) : (plD pl).wf n = true := by
  unfold plD
  show D.wfs n (pl.map D.int) = true
  induction pl with
  | nil => rfl
  | cons x r ih => simpa [D.wfs, D.wf] using ih
@[simp] theorem fD_wf (n : Nat) (f : Ft) : (fD f).wf n = true := by
  cases f with
  | none => rfl
  | some f => obtain ⟨a, b⟩ := f; simp [fD, D.wf, D.wfs]
@[simp] theorem tidy_fD (S T : Store) (f : Ft) : tidy S (.ok (fD f) (S ++ T)) = .ok (fD f) S := tidy_drop (fD_wf _ f)
@[simp] theorem rg2 : rangeD 0 2 = [.int 0, .int 1] := rfl
@[simp] theorem small2 : small 2 = true := rfl
@[simp] theorem rangeI2 (S : Store) : rangeI (R.ok (D.int 2) S) = .ok ([.int 0, .int 1], none) S := rangeI_int rfl
theorem add_new (S : Store) (x y : List D) (hl : x.length + y.length ≤ line) : binop .Add (.ref S.length) (.ref (S.length + 1)) (S ++ [O.lst x, O.lst y]) = .ok (.ref (S.length + 2)) (S ++ [O.lst x, O.lst y, O.lst (x ++ y)]) := by
  rw [add_ref (x := x) (y := y) _ (by simp) (by simp) hl]
  simp
theorem tidy_third (S : Store) (a b c : O) (h : c.wf S.length = true) : tidy S (.ok (.ref (S.length + 2)) (S ++ [a, b, c])) = .ok (.ref S.length) (S ++ [c]) := tidy_ref S (by simp) (by omega) h (by simp)
@[simp] theorem tidyB_app2 (S : Store) (a : O) (T : Store) (b : Bool) : tidyB (S ++ [a]) (.ok b (S ++ a :: T)) = .ok b (S ++ [a]) := by
  have := tidyB_drop (d := b) (S := S ++ [a]) (T := T)
  simpa using this
theorem tidy_app2 (S : Store) (a : O) (T : Store) (d : D) (h : d.wf (S.length + 1) = true) : tidy (S ++ [a]) (.ok d (S ++ a :: T)) = .ok d (S ++ [a]) := by
  have := tidy_drop (d := d) (S := S ++ [a]) (T := T) (by simpa using h)
  simpa using this
def eB : FSs := (.cons (.asg 5 (.call 26 (.cons (.loc 0) (.cons (.loc 1) (.cons (.idx (.loc 2) (.bin .Add (.con (.int 3)) (.loc 4))) (.cons (.bin .Add (.loc 3) (.tup (.cons (.loc 4) .nil))) .nil))))))
    (.cons (.ifs (.cmp .IsNot (.loc 5) (.con .non)) (.cons (.ret (.loc 5))
    .nil) .nil)
    .nil))
def hB : FSs := (.cons (.asg 7 (.bin .Add (.lc [6] (.nm 6) (.seq (.idx (.loc 2) (.con (.int 2)))) .nil (.loc 6)) (.lst (.cons (.tup (.cons (.idx (.loc 2) (.con (.int 1))) (.cons (.bin .Sub (.con (.int 1)) (.loc 4)) .nil))) .nil))))
    (.cons (.ifs (.cmp .Gt (.blt .len (.cons (.lc [6] (.nm 6) (.seq (.call 24 (.cons (.loc 1) (.cons (.idx (.loc 2) (.bin .Add (.con (.int 3)) (.loc 4))) .nil)))) (.cons (.cmp .NotIn (.loc 6) (.loc 7)) .nil) (.loc 6)) .nil)) (.con (.int 0))) (.cons (.ret (.tup (.cons (.loc 3) (.cons (.idx (.lst (.cons (.con (.str [108, 101, 102, 116])) (.cons (.con (.str [114, 105, 103, 104, 116])) .nil))) (.loc 4)) .nil))))
    .nil) .nil)
    .nil))
/-- the words of a line -/
theorem words_lc {cl : Orac} {S : Store} {ρ : Env} {ln : Row} (i : Nat) (hi : i < ρ.length) (hl : ln.length ≤ line) : lcLoop (lcTurn [i] (.nm i) ρ (evs L.G cl none .nil).ts (ev L.G cl none (.loc i)).v) (same none S) (ln.map wD) [] S = .ok (ln.map wD) S := by
  have turn : ∀ d ∈ ln.map wD, lcTurn [i] (.nm i) ρ (evs L.G cl none .nil).ts (ev L.G cl none (.loc i)).v d S = .ok (some d) S := fun d hd => by
    have h2 : i < (wipe ρ [i]).length := by simpa [wipe] using hi
    have h3 : ((wipe ρ [i]).set i (some d))[i]? = some (some d) := by rw [List.getElem?_set_self h2]
    have g : getL ((wipe ρ [i]).set i (some d)) i S = .ok d S := by unfold getL; rw [h3]
    simp [lcTurn, asgT, asgN, h2, g]
  have loop := lcLoop_map (chk := same none S) (g := fun d => d) (S := S) rfl (ds := ln.map wD) (acc := []) turn (by simpa using hl)
  rw [List.nil_append, List.map_id'] at loop
  exact loop
theorem lawSide {k : Nat} {S : Store} {m : Nat} {n i v a : Int} {ws : List Row} {ln x : Row} {l r c : D} {pl : List Int} {kd : List Nat} {v4 v5 v6 v7 : Option D} (hm : lstOf S m = some (ws.map rD)) (hln : ln.length ≤ 1000) (hx : x.length ≤ 1000) (hv : 1 - i = v)
    (hc : atI [D.str sFrom, .int a, rD ln, l, r] (3 + i) = some c) (hk : atI [D.str sLeft, D.str sRight] i = some (.str kd))
    (h24 : ∀ T, callN L.G (k + 1) 24 [.ref m, c] (S ++ T) = .ok (rD x) (S ++ T)) :
    frB L.G (callN L.G (k + 1)) (.nm 4) hB none (.int i) [some (.int n), some (.ref m), some (.tup [D.str sFrom, .int a, rD ln, l, r]), some (plD pl), v4, v5, v6, v7] S =
      if subs x (ln ++ [(a, v)]) = true then .nx [some (.int n), some (.ref m), some (.tup [D.str sFrom, .int a, rD ln, l, r]), some (plD pl), some (.int i), v5, v6, some (.ref S.length)] (S ++ [O.lst ((ln ++ [(a, v)]).map wD)])
      else .ret (fD (some (pl, kd))) (S ++ [O.lst ((ln ++ [(a, v)]).map wD)]) := by
  have big : (2000 : Nat) ≤ line := by decide
  have lcA := words_lc (cl := callN L.G (k + 1)) (S := S) (ρ := [some (.int n), some (.ref m), some (.tup [D.str sFrom, .int a, rD ln, l, r]), some (plD pl), some (.int i), v5, v6, v7]) (ln := ln) 6 (by simp) (by omega)
  have ad := add_new S (ln.map wD) [.tup [.int a, .int v]] (by simp; omega)
  have tr : tidy S (.ok (.ref (S.length + 2)) (S ++ [O.lst (ln.map wD), O.lst [.tup [.int a, .int v]], O.lst (ln.map wD ++ [.tup [.int a, .int v]])])) = .ok (.ref S.length) (S ++ [O.lst (ln.map wD ++ [.tup [.int a, .int v]])]) := tidy_third S _ _ _ (by
    show D.wfs S.length (ln.map wD ++ [.tup [.int a, .int v]]) = true
    have := wDs_wf S.length (ln ++ [(a, v)])
    simpa [wD] using this)
  have e1 : (ln ++ [(a, v)]).map wD = ln.map wD ++ [.tup [.int a, .int v]] := by simp [wD]
  rw [e1]
  have h24 := h24 [O.lst (ln.map wD ++ [.tup [.int a, .int v]])]
  have sl : lstOf (S ++ [O.lst (ln.map wD ++ [.tup [.int a, .int v]])]) S.length = some ((ln ++ [(a, v)]).map wD) := by rw [e1]; exact lstOf_new S _
  have turn : ∀ d ∈ x.map wD, lcTurn [6] (.nm 6) [some (.int n), some (.ref m), some (.tup [D.str sFrom, .int a, rD ln, l, r]), some (plD pl), some (.int i), v5, v6, some (.ref S.length)] (evs L.G (callN L.G (k + 1)) none (.cons (.cmp .NotIn (.loc 6) (.loc 7)) .nil)).ts (ev L.G (callN L.G (k + 1)) none (.loc 6)).v d (S ++ [O.lst (ln.map wD ++ [.tup [.int a, .int v]])]) = .ok (if !decide (d ∈ (ln ++ [(a, v)]).map wD) then some d else none) (S ++ [O.lst (ln.map wD ++ [.tup [.int a, .int v]])]) := fun d hd => by
    obtain ⟨w, hw, rfl⟩ := List.mem_map.mp hd
    have e : inD (S ++ [O.lst (ln.map wD ++ [.tup [.int a, .int v]])]) (wD w) (.ref S.length) = some (decide (wD w ∈ (ln ++ [(a, v)]).map wD)) := in_nb _ sl (wD_nb w) (wDs_nb _) (by simp) (by have := wDs_dep (ln ++ [(a, v)]); omega)
    by_cases q : wD w ∈ (ln ++ [(a, v)]).map wD
    · rw [decide_eq_true q] at e ⊢
      simp [lcTurn, wipe, asgT, asgN, e]
    · rw [decide_eq_false q] at e ⊢
      simp [lcTurn, wipe, asgT, asgN, e]
  have lcB := lcLoop_filter (chk := same none (S ++ [O.lst (ln.map wD ++ [.tup [.int a, .int v]])])) (p := fun d => !decide (d ∈ (ln ++ [(a, v)]).map wD)) (g := fun d => d) (S := S ++ [O.lst (ln.map wD ++ [.tup [.int a, .int v]])]) rfl (ds := x.map wD) (acc := []) turn (by simp; omega)
  have lenB := len_ref (S ++ [O.lst (ln.map wD ++ [.tup [.int a, .int v]])] ++ [O.lst ((x.map wD).filter fun d => !decide (d ∈ (ln ++ [(a, v)]).map wD))]) (lstOf_new _ _)
  have e2 : (0 < ((x.map wD).filter fun d => !decide (d ∈ (ln ++ [(a, v)]).map wD)).length) ↔ ¬ subs x (ln ++ [(a, v)]) = true := by
    rw [List.length_pos_iff_exists_mem]
    unfold subs
    rw [List.all_eq_true]
    constructor
    · rintro ⟨d, hd⟩ al
      obtain ⟨hd, q⟩ := List.mem_filter.mp hd
      obtain ⟨w, hw, rfl⟩ := List.mem_map.mp hd
      have := al w hw
      rw [decide_eq_true_eq] at this
      rw [decide_eq_true (wD_mem.mpr this)] at q
      cases q
    · intro al
      refine Classical.byContradiction fun no => al fun w hw => ?_
      rw [decide_eq_true_eq]
      refine Classical.byContradiction fun nw => no ⟨wD w, List.mem_filter.mpr ⟨List.mem_map_of_mem hw, ?_⟩⟩
      simp only [Bool.not_eq_true', decide_eq_false_iff_not]
      exact fun z => nw (wD_mem.mp z)
  rw [List.nil_append, List.map_id'] at lcB
  clear turn
  generalize ((x.map wD).filter fun d => !decide (d ∈ (ln ++ [(a, v)]).map wD)) = fl at *
  have e5 : decide (0 < fl.length) = !subs x (ln ++ [(a, v)]) := by
    cases hs : subs x (ln ++ [(a, v)]) with
    | true => simp [hs] at e2; simp [e2]
    | false => simp [hs] at e2; simp [e2]
  generalize subs x (ln ++ [(a, v)]) = sb at *
  simp only [rD] at *
  generalize ln.map wD ++ [.tup [.int a, .int v]] = ys at *
  generalize ln.map wD = xs at *
  generalize x.map wD = us at *
  unfold hB
  simp at lcA lcB lenB h24 ad tr
  have tf := tidy_app2 S (O.lst ys) [O.lst [.str sLeft, .str sRight]] (.tup [plD pl, .str kd]) (by simp [D.wf, D.wfs])
  cases sb with
  | true =>
    simp [frB, asgT, asgN, hv, lcA, ad, tr, hc, h24, lcB, lenB, line, e5]
    done
  | false =>
    simp [frB, asgT, asgN, hv, lcA, ad, tr, hc, h24, lcB, lenB, line, hk, fD, e5, tf]
    done
theorem names_lc {cl : Orac} {S : Store} {ρ : Env} {ln : Row} (i : Nat) (hi : i < ρ.length) (hl : ln.length ≤ line) : lcLoop (lcTurn [i] (.nm i) ρ (evs L.G cl none .nil).ts (ev L.G cl none (.idx (.loc i) (.con (.int 0)))).v) (same none S) (ln.map wD) [] S = .ok (ln.map fun w => .int w.1) S := by
  have turn : ∀ d ∈ ln.map wD, lcTurn [i] (.nm i) ρ (evs L.G cl none .nil).ts (ev L.G cl none (.idx (.loc i) (.con (.int 0)))).v d S = .ok (some (match d with
      | .tup (x :: _) => x
      | d => d)) S := fun d hd => by
    obtain ⟨w, hw, rfl⟩ := List.mem_map.mp hd
    have h2 : i < (wipe ρ [i]).length := by simpa [wipe] using hi
    have h3 : ((wipe ρ [i]).set i (some (wD w)))[i]? = some (some (wD w)) := by rw [List.getElem?_set_self h2]
    have g : getL ((wipe ρ [i]).set i (some (wD w))) i S = .ok (wD w) S := by unfold getL; rw [h3]
    have g2 : idxD S (wD w) (.int 0) = some (.int w.1) := by simp [wD]
    simp [lcTurn, asgT, asgN, h2, g, g2]
    rfl
  have loop := lcLoop_map (chk := same none S) (S := S) rfl (ds := ln.map wD) (acc := []) turn (by simpa using hl)
  rw [List.nil_append, List.map_map] at loop
  exact loop
theorem in_names (S : Store) (a : Int) (ln : Row) : inD (S ++ [O.lst (ln.map fun w => .int w.1)]) (.int a) (.ref S.length) = some (decide (a ∈ ln.map (·.1))) := by
  have nb : D.nbs (ln.map fun w => .int w.1) = true := by
    induction ln with
    | nil => rfl
    | cons w r ih => simpa [D.nbs, D.nb] using ih
  have dp : D.deps (ln.map fun w => .int w.1) = 0 := by
    clear nb
    induction ln with
    | nil => rfl
    | cons w r ih => simpa [D.deps, D.dep] using ih
  rw [in_nb _ (a := .int a) (b := .ref S.length) (lstOf_new _ _) rfl nb (by simp [D.dep]) (by omega)]
  congr 1
  rw [decide_eq_decide]
  simp
theorem chain_b {S : Store} {op op' : PySem.CmpOp} {x y z : D} {q t : Store → R D} {k k' : Bool} (h1 : q S = .ok y S) (h2 : t S = .ok z S) (h3 : cmpop op x y S = some k) (h4 : cmpop op' y z S = some k') : chainR op op' (.ok x S) q t = .ok (.bl (k && k')) S := chainR_is S h1 h2 h3 h4
theorem lnf_ok {S : Store} {m : Nat} {n : Int} {ws : List Row} (hm : lstOf S m = some (ws.map rD)) (hw : ∀ r ∈ ws, r.length ≤ 1000) (few : ws.length ≤ 1000) : ∀ (p : Pp) (k : Nat) (pl : List Int), p.dep ≤ k → p.sm → pl.length + p.dep ≤ 1000 → callN L.G (k + 1) 26 [.int n, .ref m, pD p, plD pl] S = .ok (fD (nf n ws p pl)) S
  | .wish i, k, pl, hd, hs, hp => by
    rw [call_eq fns_26 rfl]
    have lm := len_ref S hm
    rw [List.length_map] at lm
    by_cases h0 : 0 ≤ i
    · by_cases h1 : i < ws.length
      · have h2 : ¬ i < 0 := by omega
        simp [b__law_node_fault, env0, Tr.D, lm, chainR_ok, chain2_ok, chain3_b, nf, h0, h1, h2, fD]
      · have h2 : ¬ i < 0 := by omega
        simp [b__law_node_fault, env0, Tr.D, lm, chainR_ok, chain2_ok, chain3_b, nf, h0, h1, h2, fD, line]
    · have h2 : i < 0 := by omega
      simp [b__law_node_fault, env0, Tr.D, lm, chainR_ok, chain2_ok, chain3_b, nf, h0, h2, fD, line]
  | .node a ln l r, k, pl, hd, hs, hp => by
    obtain ⟨hs1, hs2, hs3⟩ := hs
    simp only [Tr.dep] at hd hp
    obtain ⟨k, rfl⟩ : ∃ j, k = j + 1 := ⟨k - 1, by omega⟩
    have i1 := lnf_ok (n := n) hm hw few l k (pl ++ [0]) (by omega) hs2 (by simp; omega)
    have i2 := lnf_ok (n := n) hm hw few r k (pl ++ [1]) (by omega) hs3 (by simp; omega)
    have big : (2000 : Nat) ≤ line := by decide
    have hl : pl.length + 1 ≤ line := by omega
    have eR := lrow_ok (k := k) (n := n) (r := ln) (S := S)
    have body : ∀ (i : Int) (c : D) (f : Ft) (v4 v5 v6 v7 : Option D), (i = 0 ∨ i = 1) → atI [D.str sFrom, .int a, rD ln, pD l, pD r] (3 + i) = some c → callN L.G (k + 1) 26 [.int n, .ref m, c, plD (pl ++ [i])] S = .ok (fD f) S →
        frB L.G (callN L.G (k + 1)) (.nm 4) eB none (.int i) [some (.int n), some (.ref m), some (.tup [D.str sFrom, .int a, rD ln, pD l, pD r]), some (plD pl), v4, v5, v6, v7] S =
        if f = none then .nx [some (.int n), some (.ref m), some (.tup [D.str sFrom, .int a, rD ln, pD l, pD r]), some (plD pl), some (.int i), some .non, v6, v7] S else .ret (fD f) S := by
      intro i c f v4 v5 v6 v7 hi hc hcall
      have pp := plD_add (S := S) (pl := pl) (i := i) hl
      cases f with
      | none => simp [frB, asgT, asgN, eB, hc, pp, hcall, fD, line]
      | some f =>
        have e : ¬ fD (some f) = .non := by rw [fD_non]; simp
        simp [frB, asgT, asgN, eB, hc, pp, hcall, e, line]
    have b0 := fun v4 v5 v6 v7 => body 0 (pD l) (nf n ws l (pl ++ [0])) v4 v5 v6 v7 (.inl rfl) rfl i1
    have b1 := fun v4 v5 v6 v7 => body 1 (pD r) (nf n ws r (pl ++ [1])) v4 v5 v6 v7 (.inr rfl) rfl i2
    rw [call_eq fns_26 rfl]
    cases f1 : nf n ws l (pl ++ [0]) with
    | some f =>
      rw [f1] at b0
      have loop := fun v4 v5 v6 v7 => fl_ret (chk := same none S) (ds := [.int 1]) (show _ = SR.ret (fD (some f)) S from b0 v4 v5 v6 v7)
      unfold eB at loop
      simp [b__law_node_fault, env0, Tr.D, loop, nf, f1, line]
    | none =>
      rw [f1] at b0
      cases f2 : nf n ws r (pl ++ [1]) with
      | some f =>
        rw [f2] at b1
        have loop := fun v4 v5 v6 v7 => (fl_nx (chk := same none S) (ds := [.int 1]) (show _ = SR.nx _ S from b0 v4 v5 v6 v7) rfl).trans (fl_ret (chk := same none S) (ds := []) (show _ = SR.ret (fD (some f)) S from b1 _ _ _ _))
        unfold eB at loop
        simp [b__law_node_fault, env0, Tr.D, loop, nf, f1, f2, line]
      | none =>
        rw [f2] at b1
        have loop := fun v4 v5 v6 v7 => (fl_nx (chk := same none S) (ds := [.int 1]) (show _ = SR.nx _ S from b0 v4 v5 v6 v7) rfl).trans (fl_nx (chk := same none S) (ds := []) (show _ = SR.nx _ S from b1 _ _ _ _) rfl)
        unfold eB at loop
        have c1 := fun T => lawLine_ok (k := k) (lstOf_app hm T) (nf_inR f1)
        have c2 := fun T => lawLine_ok (k := k) (lstOf_app hm T) (nf_inR f2)
        have ch1 : ∀ q t : Store → R D, q S = .ok (.int a) S → t S = .ok (.int n) S → chainR .LtE .LtE (.ok (.int 1) S) q t = .ok (.bl (!decide (a < 1) && !decide (n < a))) S := fun q t h1 h2 => chain_b h1 h2 (by simp) (by simp)
        have ln1 := names_lc (cl := callN L.G (k + 1)) (S := S) (ρ := [some (.int n), some (.ref m), some (.tup [D.str sFrom, .int a, rD ln, pD l, pD r]), some (plD pl), some (.int 1), some .non, none, none]) (ln := ln) 6 (by simp) (by omega)
        have in1 := in_names S a ln
        by_cases h1 : rowOk n 0 ln = true
        · by_cases h2 : 1 ≤ a
          · have h2' : ¬ a < 1 := by omega
            by_cases h3 : a ≤ n
            · have h3' : ¬ n < a := by omega
              by_cases h5 : a ∈ ln.map (·.1)
              · have hx : (if a ∈ ln.map (·.1) then some (pl, sAsked) else if subs (lineOf ws l) (ln ++ [(a, 1)]) = true then (if subs (lineOf ws r) (ln ++ [(a, 0)]) = true then none else some (pl, sRight)) else some (pl, sLeft)) = some (pl, sAsked) := if_pos h5
                have en : nf n ws (.node a ln l r) pl = some (pl, sAsked) := by rw [nf, f1, f2]; dsimp only; rw [if_pos h1, if_pos ⟨h2, h3⟩, hx]
                rw [en]
                rw [decide_eq_true h5] at in1
                simp only [rD, Tr.D] at *
                generalize ln.map wD = xs at *
                generalize (ln.map fun w => D.int w.1) = ns at *
                simp [b__law_node_fault, env0, Tr.D, rD, loop, eR, h1, h2, h2', h3, h3', ch1, ln1, in1, fD, line]
              · have en : nf n ws (.node a ln l r) pl = if subs (lineOf ws l) (ln ++ [(a, 1)]) = true then (if subs (lineOf ws r) (ln ++ [(a, 0)]) = true then none else some (pl, sRight)) else some (pl, sLeft) := by rw [nf, f1, f2]; dsimp only; rw [if_pos h1, if_pos ⟨h2, h3⟩, if_neg h5]
                rw [en]
                rw [decide_eq_false h5] at in1
                have t0 := fun v4 v5 v6 v7 => lawSide (k := k) (i := 0) (v := 1) (n := n) (a := a) (l := pD l) (r := pD r) (pl := pl) (v4 := v4) (v5 := v5) (v6 := v6) (v7 := v7) hm hs1 (lineOf_len hw hs2) rfl rfl rfl c1
                have t1 := fun T v4 v5 v6 v7 => lawSide (k := k) (i := 1) (v := 0) (n := n) (a := a) (l := pD l) (r := pD r) (pl := pl) (v4 := v4) (v5 := v5) (v6 := v6) (v7 := v7) (lstOf_app hm T) hs1 (lineOf_len hw hs3) rfl rfl rfl (fun T' => by rw [List.append_assoc]; exact c2 (T ++ T'))
                simp only [rD, Tr.D] at *
                generalize ln.map wD = xs at *
                generalize (ln.map fun w => D.int w.1) = ns at *
                cases s1 : subs (lineOf ws l) (ln ++ [(a, 1)]) with
                | false =>
                  rw [s1] at t0
                  have lp := fun v4 v5 v6 v7 => fl_ret (chk := same none S) (ds := [.int 1]) (show _ = SR.ret (fD (some (pl, sLeft))) _ from t0 v4 v5 v6 v7)
                  unfold hB at lp
                  simp [b__law_node_fault, env0, Tr.D, rD, loop, eR, h1, h2, h2', h3, h3', ch1, ln1, in1, lp, line]
                | true =>
                  rw [s1] at t0
                  have t1 := t1 [O.lst ((ln ++ [(a, 1)]).map wD)]
                  generalize (ln ++ [(a, 1)]).map wD = y1 at *
                  generalize (ln ++ [(a, 0)]).map wD = y0 at *
                  cases s2 : subs (lineOf ws r) (ln ++ [(a, 0)]) with
                  | false =>
                    rw [s2] at t1
                    have lp := fun v4 v5 v6 v7 => (fl_nx (chk := same none S) (ds := [.int 1]) (show _ = SR.nx _ _ from t0 v4 v5 v6 v7) rfl).trans (fl_ret (chk := same none S) (ds := []) (show _ = SR.ret (fD (some (pl, sRight))) _ from t1 _ _ _ _))
                    unfold hB at lp
                    simp [b__law_node_fault, env0, Tr.D, rD, loop, eR, h1, h2, h2', h3, h3', ch1, ln1, in1, lp, line]
                  | true =>
                    rw [s2] at t1
                    have lp := fun v4 v5 v6 v7 => (fl_nx (chk := same none S) (ds := [.int 1]) (show _ = SR.nx _ _ from t0 v4 v5 v6 v7) rfl).trans (fl_nx (chk := same none S) (ds := []) (show _ = SR.nx _ _ from t1 _ _ _ _) rfl)
                    unfold hB at lp
                    simp [b__law_node_fault, env0, Tr.D, rD, loop, eR, h1, h2, h2', h3, h3', ch1, ln1, in1, lp, fD, line]
            · have h3' : n < a := by omega
              have en : nf n ws (.node a ln l r) pl = some (pl, sName) := by rw [nf, f1, f2]; dsimp only; rw [if_pos h1, if_neg (fun z => h3 z.2)]
              rw [en]
              simp [b__law_node_fault, env0, Tr.D, loop, eR, h1, h2, h2', h3, h3', ch1, fD, line]
          · have h2' : a < 1 := by omega
            have en : nf n ws (.node a ln l r) pl = some (pl, sName) := by rw [nf, f1, f2]; dsimp only; rw [if_pos h1, if_neg (fun z => h2 z.1)]
            rw [en]
            simp [b__law_node_fault, env0, Tr.D, loop, eR, h1, h2, h2', ch1, fD, line]
        · have h1' : rowOk n 0 ln = false := by simpa using h1
          have en : nf n ws (.node a ln l r) pl = some (pl, sLine) := by rw [nf, f1, f2]; dsimp only; rw [if_neg h1]
          rw [en]
          simp [b__law_node_fault, env0, Tr.D, loop, eR, h1', fD, line]
end K13
set_option Elab.async false
set_option linter.all false
set_option autoImplicit false
set_option maxRecDepth 100000
set_option maxHeartbeats 4000000
/-! K13E: a paper is judged alike. -/
namespace K13
open Fx
def due (n : Int) (ws : List Row) (p : Pp) : Ft := match nf n ws p [] with
  | some f => some f
  | none => if lineOf ws p = [] then none else some ([], sEnd)
theorem fns_9 : L.G.fns[9]? = some ⟨2, 6, b_walked_tree⟩ := rfl
theorem fns_10 : L.G.fns[10]? = some ⟨2, 3, b_lines_tree⟩ := rfl
theorem fns_28 : L.G.fns[28]? = some ⟨2, 3, b__law_same⟩ := rfl
theorem fns_29 : L.G.fns[29]? = some ⟨2, 3, b__law_refused⟩ := rfl
theorem fns_30 : L.G.fns[30]? = some ⟨4, 5, b__law_judged⟩ := rfl
theorem nf_lineOf_nb (ws : List Row) (p : Pp) : (rD (lineOf ws p)).nb = true := rD_nb _
theorem rD_eq_nil {r : Row} : rD r = .tup [] ↔ r = [] := by
  unfold rD
  simp
theorem due_ok {S : Store} {b : Nat} {n : Int} {ws : List Row} (B : BookAt S b n ws) {p : Pp} {k : Nat} (hd : p.dep ≤ k) (hs : p.sm) (hp : p.dep ≤ 1000) : callN L.G (k + 2) 7 [.ref b, pD p] S = .ok (fD (due n ws p)) S := by
  have e1 := nf_ok B p k [] hd hs (by simpa using hp)
  have pl0 : plD [] = .tup [] := rfl
  rw [pl0] at e1
  rw [call_eq fns_7 rfl]
  unfold due
  cases h : nf n ws p [] with
  | some f =>
    rw [h] at e1
    have e : ¬ fD (some f) = .non := by rw [fD_non]; simp
    simp [b_line_tree_fault, env0, e1, e, line]
  | none =>
    rw [h] at e1
    have e2 := lineOf_ok (k := k) B (nf_inR h)
    have e3 := eq_nb S (rD_nb (lineOf ws p)) (show (D.tup []).nb = true from rfl) (by have := rD_dep (lineOf ws p); omega) (by simp [D.dep, D.deps])
    by_cases q : lineOf ws p = []
    · rw [decide_eq_true (rD_eq_nil.mpr q)] at e3
      dsimp only
      rw [if_pos q]
      simp [b_line_tree_fault, env0, e1, e2, e3, fD, line]
    · rw [decide_eq_false (mt rD_eq_nil.mp q)] at e3
      simp [b_line_tree_fault, env0, e1, e2, e3, q, fD, line, plD]
theorem ldue_ok {S : Store} {m : Nat} {n : Int} {ws : List Row} (hm : lstOf S m = some (ws.map rD)) (hw : ∀ r ∈ ws, r.length ≤ 1000) (few : ws.length ≤ 1000) {p : Pp} {k : Nat} (hd : p.dep ≤ k) (hs : p.sm) (hp : p.dep ≤ 1000) : callN L.G (k + 2) 27 [.int n, .ref m, pD p] S = .ok (fD (due n ws p)) S := by
  have e1 := lnf_ok (n := n) hm hw few p k [] hd hs (by simpa using hp)
  have pl0 : plD [] = .tup [] := rfl
  rw [pl0] at e1
  rw [call_eq fns_27 rfl]
  unfold due
  cases h : nf n ws p [] with
  | some f =>
    rw [h] at e1
    have e : ¬ fD (some f) = .non := by rw [fD_non]; simp
    simp [b__law_due, env0, e1, e, line]
  | none =>
    rw [h] at e1
    have e2 := lawLine_ok (k := k) hm (nf_inR h)
    have e4 : fLen [rD (lineOf ws p)] S = .ok (.int (lineOf ws p).length) S := by
      have := len_tup S ((lineOf ws p).map wD)
      rw [List.length_map] at this
      exact this
    by_cases q : lineOf ws p = []
    · have : (lineOf ws p).length = 0 := by rw [q]; rfl
      dsimp only
      rw [if_pos q]
      simp [b__law_due, env0, e1, e2, e4, this, fD, line]
    · have : 0 < (lineOf ws p).length := List.length_pos_iff.mpr q
      simp [b__law_due, env0, e1, e2, e4, this, q, fD, line, plD]
theorem leaves_ok {α : Type} {f : α → D} {S : Store} : ∀ (t : Tr α) (k : Nat), t.dep ≤ k → callN L.G (k + 1) 8 [t.D f] S = .ok (.int t.lv) S
  | .wish a, k, _ => by
    rw [call_eq fns_8 rfl]
    simp [b_line_tree_leaves, env0, Tr.D, Tr.lv, line]
  | .node n ln l r, k, h => by
    simp only [Tr.dep] at h
    obtain ⟨k, rfl⟩ : ∃ j, k = j + 1 := ⟨k - 1, by omega⟩
    have i1 := leaves_ok (f := f) (S := S) l k (by omega)
    have i2 := leaves_ok (f := f) (S := S) r k (by omega)
    rw [call_eq fns_8 rfl]
    simp [b_line_tree_leaves, env0, Tr.D, Tr.lv, i1, i2, line]
theorem rows_ok {α : Type} {f : α → D} (hf : ∀ n a, (f a).wf n = true) {S : Store} : ∀ (t : Tr α) (k : Nat), t.dep ≤ k → t.lv ≤ 1000 → callN L.G (k + 1) 17 [t.D f] S = .ok (.ref S.length) (S ++ [O.lst (t.ws.map f)])
  | .wish a, k, _, _ => by
    rw [call_eq fns_17 rfl]
    simp [b__law_leaf_rows, env0, Tr.D, Tr.ws, line]
  | .node n ln l r, k, h, hv => by
    simp only [Tr.dep] at h
    simp only [Tr.lv] at hv
    obtain ⟨k, rfl⟩ : ∃ j, k = j + 1 := ⟨k - 1, by omega⟩
    have i1 := rows_ok hf (S := S) l k (by omega) (by omega)
    have i2 := rows_ok hf (S := S ++ [O.lst (l.ws.map f)]) r k (by omega) (by omega)
    rw [call_eq fns_17 rfl]
    have big : (2000 : Nat) ≤ line := by decide
    have ad := add_new S (l.ws.map f) (r.ws.map f) (by rw [List.length_map, List.length_map, l.ws_len, r.ws_len]; omega)
    have wf : (O.lst (l.ws.map f ++ r.ws.map f)).wf S.length = true := by
      rw [← List.map_append]
      show D.wfs S.length _ = true
      generalize l.ws ++ r.ws = as
      induction as with
      | nil => rfl
      | cons a as ih => rw [List.map_cons, D.wfs, hf, ih]; rfl
    have tr := tidy_third S (O.lst (l.ws.map f)) (O.lst (r.ws.map f)) (O.lst (l.ws.map f ++ r.ws.map f)) wf
    rw [Tr.ws, List.map_append]
    generalize l.ws.map f = x at *
    generalize r.ws.map f = y at *
    simp at i2 ad tr
    simp [b__law_leaf_rows, env0, Tr.D, i1, i2, ad, tr, line]
/-! ### with_answer -/
def put (st : Row) (a v : Int) : Row := (st.filter fun w => decide (w.1 < a)) ++ (a, v) :: st.filter fun w => decide (a < w.1)
theorem filt_lc {cl : Orac} {S : Store} {ρ : Env} {st : Row} (c : FE) (q : Int → Bool) (i : Nat) (hi : i < ρ.length) (hl : st.length ≤ line)
    (hc : ∀ w ∈ st, (ev L.G cl none c).t ((wipe ρ [i]).set i (some (wD w))) S = .ok (q w.1) S) : lcLoop (lcTurn [i] (.nm i) ρ (evs L.G cl none (.cons c .nil)).ts (ev L.G cl none (.loc i)).v) (same none S) (st.map wD) [] S = .ok ((st.filter fun w => q w.1).map wD) S := by
  have turn : ∀ d ∈ st.map wD, lcTurn [i] (.nm i) ρ (evs L.G cl none (.cons c .nil)).ts (ev L.G cl none (.loc i)).v d S = .ok (if (match d with
      | .tup (.int x :: _) => q x
      | _ => false) then some d else none) S := fun d hd => by
    obtain ⟨w, hw, rfl⟩ := List.mem_map.mp hd
    have h2 : i < (wipe ρ [i]).length := by simpa [wipe] using hi
    have h3 : ((wipe ρ [i]).set i (some (wD w)))[i]? = some (some (wD w)) := by rw [List.getElem?_set_self h2]
    have g : getL ((wipe ρ [i]).set i (some (wD w))) i S = .ok (wD w) S := by unfold getL; rw [h3]
    have e := hc w hw
    show _ = R.ok (if q w.1 = true then some (wD w) else none) S
    cases hq : q w.1 with
    | true => rw [hq] at e; simp [lcTurn, asgT, asgN, h2, g, e]
    | false => rw [hq] at e; simp [lcTurn, asgT, asgN, h2, g, e]
  have loop := lcLoop_filter (chk := same none S) (g := fun d => d) (S := S) rfl (ds := st.map wD) (acc := []) turn (by simpa using hl)
  rw [List.nil_append, List.map_id', List.filter_map] at loop
  exact loop
theorem parts_len {a : Int} : ∀ {st : Row}, a ∉ st.map (·.1) → (st.filter fun w => decide (w.1 < a)).length + (st.filter fun w => decide (a < w.1)).length = st.length
  | [], _ => rfl
  | w :: st, h => by
    simp only [List.map_cons, List.mem_cons, not_or] at h
    have ih := parts_len h.2
    by_cases c : w.1 < a
    · have c' : ¬ a < w.1 := by omega
      rw [List.filter_cons_of_pos (by simpa using c), List.filter_cons_of_neg (by simpa using c')]
      simp only [List.length_cons]
      omega
    · have c' : a < w.1 := by omega
      rw [List.filter_cons_of_neg (by simpa using c), List.filter_cons_of_pos (by simpa using c')]
      simp only [List.length_cons]
      omega
theorem put_len {st : Row} {a v : Int} (h : a ∉ st.map (·.1)) : (put st a v).length = st.length + 1 := by
  have := parts_len h
  unfold put
  rw [List.length_append, List.length_cons]
  omega
theorem put_mem {st : Row} {a v : Int} {w : Int × Int} (h : w ∈ put st a v) : w = (a, v) ∨ w ∈ st := by
  unfold put at h
  rcases List.mem_append.mp h with h | h
  · exact .inr (List.mem_filter.mp h).1
  · rcases List.mem_cons.mp h with h | h
    · exact .inl h
    · exact .inr (List.mem_filter.mp h).1
theorem put_ok {k : Nat} {S : Store} {st : Row} {a v : Int} (h : a ∉ st.map (·.1)) (hl : st.length ≤ 1000) : callN L.G (k + 1) 3 [rD st, .int a, .int v] S = .ok (rD (put st a v)) S := by
  have big : (2000 : Nat) ≤ line := by decide
  have hc := fun (w : Int × Int) => (show idxD S (wD w) (.int 0) = some (.int w.1) by simp [wD])
  have l1 := fun r5 => filt_lc (cl := callN L.G k) (S := S) (ρ := [some (rD st), some (.int a), some (.int v), none, none, r5]) (st := st) (.cmp .Lt (.idx (.loc 4) (.con (.int 0))) (.loc 1)) (fun x => decide (x < a)) 4 (by simp) (by omega) (fun w _ => by simp [wipe, hc w])
  have e3 := parts_len h
  have p2 : (st.filter fun w => decide (a < w.1)).length ≤ st.length := List.length_filter_le _ _
  have hc2 := fun T (w : Int × Int) => (show idxD (S ++ T) (wD w) (.int 0) = some (.int w.1) by simp [wD])
  have l2 := fun T r3 => filt_lc (cl := callN L.G k) (S := S ++ T) (ρ := [some (rD st), some (.int a), some (.int v), r3, none, none]) (st := st) (.cmp .Gt (.idx (.loc 4) (.con (.int 0))) (.loc 1)) (fun x => decide (a < x)) 4 (by simp) (by omega) (fun w _ => by simp [wipe, hc2 T w])
  have fin : rD (put st a v) = .tup ((st.filter fun w => decide (w.1 < a)).map wD ++ .tup [.int a, .int v] :: (st.filter fun w => decide (a < w.1)).map wD) := by unfold rD put; simp [wD]
  have wf : (rD (put st a v)).wf S.length = true := rD_wf _ _
  have n1 : ((st.filter fun w => decide (w.1 < a)).map wD).length = (st.filter fun w => decide (w.1 < a)).length := List.length_map ..
  have n2 : ((st.filter fun w => decide (a < w.1)).map wD).length = (st.filter fun w => decide (a < w.1)).length := List.length_map ..
  have n3 : (st.map wD).length = st.length := List.length_map ..
  rw [fin] at wf ⊢
  rw [call_eq fns_3 rfl]
  rw [← n1, ← n2, ← n3] at e3
  rw [← n2] at p2
  simp only [rD] at *
  clear fin n1 n2
  generalize (st.filter fun w => decide (w.1 < a)).map wD = x at *
  generalize (st.filter fun w => decide (a < w.1)).map wD = y at *
  generalize st.map wD = z at *
  have l2 := fun r3 => l2 [O.lst x] r3
  have t1 := tidy_ref (S ++ [O.lst x]) (k := S.length + 1) (T := [O.lst y]) (o := O.lst y) (by simp)
  have f1 := fun T => f_tuple (S ++ O.lst x :: T) (n := S.length) (xs := x) (by unfold lstOf; simp)
  have f2 := fun T => f_tuple (S ++ O.lst x :: O.lst y :: T) (n := S.length + 1) (xs := y) (by unfold lstOf; simp)
  have g1 := fun T => len_ref (S ++ O.lst x :: T) (n := S.length) (xs := x) (by unfold lstOf; simp)
  have g2 := fun T => len_ref (S ++ O.lst x :: O.lst y :: T) (n := S.length + 1) (xs := y) (by unfold lstOf; simp)
  have tn := tidy_new (S ++ [O.lst x]) (O.lst y)
  simp at l1 l2 tn
  have e4 : decide ((x.length : Int) + (y.length : Int) < (z.length : Int)) = false := by
    rw [decide_eq_false_iff_not]
    omega
  have e5 : ¬ ((x.length : Int) + (y.length : Int) < (z.length : Int)) := by omega
  have td := tidy_drop (S := S) (T := [O.lst x, O.lst y]) wf
  have s1 : x.length ≤ 16777215 := by omega
  have s2 : x.length + 1 + y.length ≤ 16777216 := by omega
  have s3 : x.length + (y.length + 1) ≤ 16777216 := by omega
  have f3 := f2 []
  have td2 := tidy_same (D.tup (x ++ .tup [.int a, .int v] :: y)) (S ++ [O.lst x, O.lst y])
  simp [b_with_answer, env0, l1, l2, tn, f1, f2, f3, g1, g2, e4, e5, td, td2, line, s1, s2, s3]

/-! ### walked_tree -/
def StOk (st : Row) : Prop := ∀ w ∈ st, w.2 = 0 ∨ w.2 = 1
theorem ans_in {a v : Int} : ∀ {st : Row}, ans st a = some v → ∃ w ∈ st, w.2 = v
  | [], h => by cases h
  | w :: st, h => by
    unfold ans at h
    by_cases c : w.1 = a
    · rw [if_pos c] at h
      exact ⟨w, List.mem_cons_self .., by injection h⟩
    · rw [if_neg c] at h
      obtain ⟨x, hx, e⟩ := ans_in h
      exact ⟨x, List.mem_cons_of_mem _ hx, e⟩
def Flat (d : D) : Prop := ∀ n, d.wf n = true
theorem walk_ok {S : Store} : ∀ (p : Pp) (k : Nat) (st : Row), p.dep ≤ k → st.length + p.dep ≤ 1000 → StOk st → ∃ d, Flat d ∧ callN L.G (k + 2) 9 [pD p, rD st] S = .ok d S
  | .wish i, k, st, _, _, _ => by
    refine ⟨.tup [.str [108, 101, 97, 102], .int i], fun n => by simp [D.wf, D.wfs], ?_⟩
    rw [call_eq fns_9 rfl]
    simp [b_walked_tree, env0, Tr.D, line]
  | .node a ln l r, k, st, hd, hl, hs => by
    simp only [Tr.dep] at hd hl
    obtain ⟨k, rfl⟩ : ∃ j, k = j + 1 := ⟨k - 1, by omega⟩
    have eA := ans_ok (k := k + 1) (n := a) (r := st) (S := S)
    rw [call_eq fns_9 rfl]
    cases h : ans st a with
    | some v =>
      rw [h] at eA
      obtain ⟨w, hw, e⟩ := ans_in h
      have hv : v = 0 ∨ v = 1 := e ▸ hs w hw
      rcases hv with rfl | rfl
      · obtain ⟨d, fd, i1⟩ := walk_ok (S := S) l k st (by omega) (by omega) hs
        refine ⟨d, fd, ?_⟩
        simp [b_walked_tree, env0, Tr.D, eA, oD, i1, line]
      · obtain ⟨d, fd, i1⟩ := walk_ok (S := S) r k st (by omega) (by omega) hs
        refine ⟨d, fd, ?_⟩
        simp [b_walked_tree, env0, Tr.D, eA, oD, i1, line]
    | none =>
      rw [h] at eA
      have nm := ans_none.mp h
      have hl2 : ∀ v, (put st a v).length = st.length + 1 := fun v => put_len nm
      obtain ⟨d, fd, i1⟩ := walk_ok (S := S) l k (put st a 0) (by omega) (by rw [hl2]; omega) (fun w hw => by rcases put_mem hw with e | e; rw [e]; exact .inl rfl; exact hs w e)
      obtain ⟨c, fc, i2⟩ := walk_ok (S := S) r k (put st a 1) (by omega) (by rw [hl2]; omega) (fun w hw => by rcases put_mem hw with e | e; rw [e]; exact .inr rfl; exact hs w e)
      have p0 := put_ok (k := k + 1) (S := S) (v := 0) nm (by omega)
      have p1 := put_ok (k := k + 1) (S := S) (v := 1) nm (by omega)
      have f : Flat (.tup [.str [97, 115, 107], .int a, d, c]) := fun n => by simp [D.wf, D.wfs, fd n, fc n]
      refine ⟨_, f, ?_⟩
      have td := tidy_drop (S := S) (T := [O.lst [d, c]]) (f S.length)
      simp [b_walked_tree, env0, Tr.D, eA, oD, lcLoop, lcTurn, wipe, asgT, asgN, p0, p1, i1, i2, td, line]
end K13
set_option Elab.async false
set_option linter.all false
set_option autoImplicit false
set_option maxRecDepth 100000
set_option maxHeartbeats 4000000
/-! K13G: every paper is judged as the law wants. -/
namespace K13
open Fx
theorem lines_ok {S : Store} {b : Nat} {n : Int} {ws : List Row} (B : BookAt S b n ws) {p : Pp} {k : Nat} (hd : p.dep ≤ k) (hs : p.sm) (hp : p.dep ≤ 1000) :
    match due n ws p with
    | none => ∃ d, Flat d ∧ callN L.G (k + 3) 10 [.ref b, pD p] S = .ok d S
    | some (pl, kd) => callN L.G (k + 3) 10 [.ref b, pD p] S = .exn 5 [(6, .str kd), (5, plD pl)] S := by
  have e1 := due_ok (k := k) B hd hs hp
  have ex : L.G.exc[5]? = some [5, 6] := rfl
  cases h : due n ws p with
  | none =>
    rw [h] at e1
    obtain ⟨d, fd, e2⟩ := walk_ok (S := S) p k [] hd (by simpa using hp) (fun w hw => by cases hw)
    refine ⟨d, fd, ?_⟩
    have e2 : callN L.G (k + 2) 9 [pD p, .tup []] S = _ := e2
    rw [call_eq fns_10 rfl]
    simp [b_lines_tree, env0, e1, e2, fD, line]
  | some f =>
    obtain ⟨pl, kd⟩ := f
    rw [h] at e1
    dsimp only
    rw [call_eq fns_10 rfl]
    have e : fD (some (pl, kd)) = .tup [plD pl, .str kd] := rfl
    rw [e] at e1
    simp [b_lines_tree, env0, e1, ex, line]
/-! ### the same -/
mutual
def D.sb : D → Bool
  | .int _ => true
  | .str _ => true
  | .tup xs => decide (xs.length ≤ 1000000) && D.sbs xs
  | .non => false
  | .bl _ => false
  | .ref _ => false
def D.sbs : List D → Bool
  | [] => true
  | x :: xs => D.sb x && D.sbs xs
end
theorem sbs_all : ∀ {xs : List D}, D.sbs xs = true → ∀ x ∈ xs, D.sb x = true
  | y :: ys, h, x, hx => by
    have h' : D.sb y = true ∧ D.sbs ys = true := by simpa [D.sbs] using h
    rcases List.mem_cons.mp hx with e | hx
    · rw [e]; exact h'.1
    · exact sbs_all h'.2 x hx
def sB : FSs := (.cons (.ifs (.not (.call 28 (.cons (.idx (.loc 0) (.loc 2)) (.cons (.idx (.loc 1) (.loc 2)) .nil)))) (.cons (.ret (.con (.bl false)))
    .nil) .nil)
    .nil)
theorem same_ok {S : Store} : ∀ (k : Nat) (d : D), D.sb d = true → d.dep ≤ k → callN L.G (k + 1) 28 [d, d] S = .ok (.bl true) S
  | k, .int i, _, _ => by
    rw [call_eq fns_28 rfl]
    simp [b__law_same, env0, isTy]
  | k, .str s, _, _ => by
    rw [call_eq fns_28 rfl]
    simp [b__law_same, env0, isTy]
  | k, .tup xs, hs, hd => by
    have hd' : D.deps xs + 1 ≤ k := by simpa [D.dep] using hd
    obtain ⟨k, rfl⟩ : ∃ j, k = j + 1 := ⟨k - 1, by omega⟩
    have hs' : xs.length ≤ 1000000 ∧ D.sbs xs = true := by simpa [D.sb] using hs
    obtain ⟨ρ', S', lp, h1, h2⟩ := forL_inv (f := frB L.G (callN L.G (k + 1)) (.nm 2) sB none) (chk := same none S) (fun _ ρ S1 => (∃ v, ρ = [some (.tup xs), some (.tup xs), v]) ∧ S1 = S) (rangeD 0 (xs.length : Int)) 0 [some (.tup xs), some (.tup xs), none] S ⟨⟨_, rfl⟩, rfl⟩ (by
      rintro j d ρ S1 hj ⟨⟨v, rfl⟩, rfl⟩
      obtain ⟨hl, rfl⟩ := range_get hj
      have at1 : atI xs (j : Int) = some xs[j] := by rw [atI_nat hl, List.getElem?_eq_getElem hl]
      have mem : xs[j] ∈ xs := List.getElem_mem hl
      have ih := same_ok (S := S1) k xs[j] (sbs_all hs'.2 _ mem) (deps_all (n := k) (by omega) _ mem)
      refine ⟨[some (.tup xs), some (.tup xs), some (.int j)], S1, ?_, rfl, ⟨_, rfl⟩, rfl⟩
      simp [frB, asgT, asgN, sB, at1, ih])
    obtain ⟨v, rfl⟩ := h1
    subst h2
    rw [call_eq fns_28 rfl]
    have sm : small (xs.length : Int) = true := small_nat (by omega)
    unfold sB at lp
    simp [b__law_same, env0, isTy, rangeI_int sm, lp]
  | k, .non, h, _ => by cases h
  | k, .bl _, h, _ => by cases h
  | k, .ref _, h, _ => by cases h
theorem same_int {S : Store} {k : Nat} {i : Int} : callN L.G (k + 1) 28 [.int i, .int i] S = .ok (.bl true) S := by
  rw [call_eq fns_28 rfl]
  simp [b__law_same, env0, isTy]
/-! ### refused, judged -/
theorem ref_ok {S : Store} {b : Nat} {n : Int} {ws : List Row} (B : BookAt S b n ws) {p : Pp} {k : Nat} (hd : p.dep ≤ k) (hs : p.sm) (hp : p.dep ≤ 1000) : callN L.G (k + 4) 29 [.ref b, pD p] S = .ok (fD (due n ws p)) S := by
  have e := lines_ok (k := k) B hd hs hp
  rw [call_eq fns_29 rfl]
  cases h : due n ws p with
  | none =>
    rw [h] at e
    obtain ⟨d, fd, e⟩ := e
    simp [b__law_refused, env0, e, fD]
  | some f =>
    obtain ⟨pl, kd⟩ := f
    rw [h] at e
    dsimp only at e
    have c1 : 5 < L.G.exc.length := by decide
    have c2 : L.G.sub.getD 5 [] = [5, 7, 8] := rfl
    have lk : List.lookup 5 [(6, D.str kd), (5, plD pl)] = some (plD pl) := rfl
    simp only [List.getD_eq_getElem?_getD] at c2
    simp [b__law_refused, env0, e, fD, c1, c2, lk, line]
def Fr : Ft → Prop
  | none => True
  | some (pl, _) => pl.length ≤ 1000000
theorem nf_fr {n : Int} {ws : List Row} : ∀ (p : Pp) (pl : List Int), pl.length + p.dep ≤ 1000000 → Fr (nf n ws p pl)
  | .wish i, pl, h => by
    unfold nf
    split
    · trivial
    · exact Nat.le_trans (Nat.le_add_right _ _) h
  | .node a ln l r, pl, h => by
    simp only [Tr.dep] at h
    have i1 := nf_fr (n := n) (ws := ws) l (pl ++ [0]) (by simp; omega)
    have i2 := nf_fr (n := n) (ws := ws) r (pl ++ [1]) (by simp; omega)
    have t : ∀ k, Fr (some (pl, k)) := fun k => by show pl.length ≤ _; omega
    unfold nf
    split
    · rename_i f e
      rwa [e] at i1
    · split
      · rename_i f e
        rwa [e] at i2
      · split
        · split
          · split
            · exact t _
            · split
              · split
                · trivial
                · exact t _
              · exact t _
          · exact t _
        · exact t _
theorem due_fr {n : Int} {ws : List Row} {p : Pp} (hp : p.dep ≤ 1000) : Fr (due n ws p) := by
  have i := nf_fr (n := n) (ws := ws) p [] (by simp; omega)
  unfold due
  split
  · rename_i f e
    rwa [e] at i
  · split
    · trivial
    · show 0 ≤ _
      omega
theorem pl_sb : ∀ pl : List Int, D.sbs (pl.map D.int) = true
  | [] => rfl
  | x :: r => by rw [List.map_cons, D.sbs, pl_sb r]; rfl
theorem pl_dep : ∀ pl : List Int, D.deps (pl.map D.int) = 0
  | [] => rfl
  | x :: r => by rw [List.map_cons, D.deps, pl_dep r]; rfl
theorem same_fault {S : Store} {k : Nat} {f : List Int × List Nat} (h : Fr (some f)) : callN L.G (k + 3) 28 [fD (some f), fD (some f)] S = .ok (.bl true) S := by
  obtain ⟨pl, kd⟩ := f
  refine same_ok (k + 2) _ ?_ ?_
  · show (decide (([plD pl, D.str kd] : List D).length ≤ 1000000) && D.sbs [plD pl, .str kd]) = true
    have h : pl.length ≤ 1000000 := h
    have := pl_sb pl
    simp [plD, D.sbs, D.sb, this, h]
  · have := pl_dep pl
    simp [fD, plD, D.dep, D.deps, this]
theorem judge_ok {S : Store} {b m : Nat} {n : Int} {ws : List Row} (B : BookAt S b n ws) (hm : lstOf S m = some (ws.map rD)) {p : Pp} {k : Nat} (hd : p.dep ≤ k) (hs : p.sm) (hp : p.dep ≤ 1000) (hv : p.lv ≤ 1000) : callN L.G (k + 5) 30 [.int n, .ref m, .ref b, pD p] S = .ok (.bl true) S := by
  have e1 := ldue_ok (n := n) (k := k + 2) hm B.sm B.few (Nat.le_trans hd (by omega)) hs hp
  have e2 := leaves_ok (f := D.int) (S := S) p (k + 3) (by omega)
  have e3 := rows_ok (f := D.int) (fun _ _ => rfl) (S := S) p (k + 3) (by omega) hv
  have e4 := len_ref (S ++ [O.lst (p.ws.map D.int)]) (lstOf_new S _)
  rw [List.length_map, Tr.ws_len] at e4
  have e5 := fun T => same_int (S := S ++ T) (k := k + 3) (i := (p.lv : Int))
  have e6 := due_ok (k := k + 2) B (Nat.le_trans hd (by omega)) hs hp
  have e7 := ref_ok B hd hs hp
  have fr := due_fr (n := n) (ws := ws) hp
  rw [call_eq fns_30 rfl]
  cases h : due n ws p with
  | none =>
    rw [h] at e1 e6 e7
    simp [b__law_judged, env0, e1, e2, e3, e4, e5, e6, e7, fD]
  | some f =>
    rw [h] at e1 e6 e7 fr
    have e8 := same_fault (S := S) (k := k + 1) fr
    have e : ¬ fD (some f) = .non := by rw [fD_non]; simp
    simp [b__law_judged, env0, e1, e2, e3, e4, e5, e6, e7, e8, e]
end K13
set_option Elab.async false
set_option linter.all false
set_option autoImplicit false
set_option maxRecDepth 100000
set_option maxHeartbeats 4000000
/-! K13I: right rows, drawn wishes, parts. -/
namespace K13
open Fx
theorem fns_11 : L.G.fns[11]? = some ⟨2, 2, cellB⟩ := rfl
theorem fns_12 : L.G.fns[12]? = some ⟨2, 7, drawsB⟩ := rfl
theorem fns_13 : L.G.fns[13]? = some ⟨2, 5, seedB 11⟩ := rfl
theorem fns_14 : L.G.fns[14]? = some ⟨2, 4, b__law_wish⟩ := rfl
theorem fns_15 : L.G.fns[15]? = some ⟨2, 5, b__law_part⟩ := rfl
theorem fns_16 : L.G.fns[16]? = some ⟨6, 16, b__law_grow⟩ := rfl
/-! ### right rows -/
theorem rowOk_iff {n : Int} : ∀ {r : Row} {l : Int}, rowOk n l r = true ↔ r.Pairwise (fun a b => a.1 < b.1) ∧ ∀ w ∈ r, l < w.1 ∧ w.1 ≤ n ∧ (w.2 = 0 ∨ w.2 = 1)
  | [], l => by simp [rowOk]
  | w :: r, l => by
    have ih := rowOk_iff (n := n) (r := r) (l := w.1)
    unfold rowOk
    simp only [Bool.and_eq_true, Bool.or_eq_true, decide_eq_true_eq]
    rw [ih, List.pairwise_cons]
    constructor
    · rintro ⟨⟨⟨h1, h2⟩, h3⟩, h4, h5⟩
      refine ⟨⟨fun x hx => (h5 x hx).1, h4⟩, fun x hx => ?_⟩
      rcases List.mem_cons.mp hx with e | hx
      · rw [e]; exact ⟨h1, h2, h3⟩
      · have := h5 x hx
        exact ⟨by omega, this.2⟩
    · rintro ⟨⟨h1, h2⟩, h3⟩
      have := h3 w (List.mem_cons_self ..)
      exact ⟨⟨⟨this.1, this.2.1⟩, this.2.2⟩, h2, fun x hx => ⟨h1 x hx, (h3 x (List.mem_cons_of_mem _ hx)).2⟩⟩
theorem rowOk_sub {n l : Int} {r s : Row} (h : rowOk n l r = true) (hs : s.Sublist r) : rowOk n l s = true := by
  rw [rowOk_iff] at h ⊢
  exact ⟨h.1.sublist hs, fun w hw => h.2 w (hs.subset hw)⟩
theorem rowOk_len {n : Int} : ∀ {r : Row} {l : Int}, rowOk n l r = true → l ≤ n → (r.length : Int) ≤ n - l
  | [], l, _, h => by simp; omega
  | w :: r, l, h, _ => by
    unfold rowOk at h
    simp only [Bool.and_eq_true, Bool.or_eq_true, decide_eq_true_eq] at h
    have := rowOk_len h.2 h.1.1.2
    simp only [List.length_cons]
    omega
/-! ### sorted rows -/
def insR (w : Int × Int) : Row → Row
  | [] => [w]
  | y :: r => if D.lt (wD w) (wD y) then w :: y :: r else y :: insR w r
def sortR : Row → Row
  | [] => []
  | w :: r => insR w (sortR r)
theorem insR_map (w : Int × Int) : ∀ r : Row, D.put (wD w) (r.map wD) = (insR w r).map wD
  | [] => rfl
  | y :: r => by
    rw [List.map_cons, D.put, insR]
    split
    · rfl
    · rw [insR_map w r]; rfl
theorem sortR_map : ∀ r : Row, sortD (r.map wD) = (sortR r).map wD
  | [] => rfl
  | w :: r => by rw [List.map_cons, sortD, sortR_map r, insR_map]; rfl
theorem insR_perm (w : Int × Int) : ∀ r : Row, (insR w r).Perm (w :: r)
  | [] => List.Perm.refl _
  | y :: r => by
    unfold insR
    split
    · exact List.Perm.refl _
    · exact ((insR_perm w r).cons y).trans (List.Perm.swap w y r)
theorem sortR_perm : ∀ r : Row, (sortR r).Perm r
  | [] => List.Perm.refl _
  | w :: r => (insR_perm w (sortR r)).trans ((sortR_perm r).cons w)
theorem al_rows (r : Row) : Al (r.map wD) := by
  intro a ha b hb
  obtain ⟨x, _, rfl⟩ := List.mem_map.mp ha
  obtain ⟨y, _, rfl⟩ := List.mem_map.mp hb
  rfl
theorem le_names {x y : Int × Int} (h : leD (wD x) (wD y) = true) : x.1 ≤ y.1 := by
  rw [leD_is rfl] at h
  have h : D.lt (wD y) (wD x) = false := by simpa using h
  by_cases c : D.int y.1 = D.int x.1
  · injection c with c
    omega
  · have : decide (y.1 < x.1) = false := by
      simpa [wD, D.lt, D.lts, c] using h
    simp at this
    exact this
theorem sortR_ok {n : Int} {r : Row} (hw : ∀ w ∈ r, 0 < w.1 ∧ w.1 ≤ n ∧ (w.2 = 0 ∨ w.2 = 1)) (nd : (r.map (·.1)).Nodup) : rowOk n 0 (sortR r) = true := by
  rw [rowOk_iff]
  refine ⟨?_, fun w h => hw w ((sortR_perm r).mem_iff.mp h)⟩
  have s := sortD_sorted (al_rows r)
  rw [sortR_map, List.pairwise_map] at s
  have nd2 : (sortR r).Pairwise fun a b => a.1 ≠ b.1 := by
    have : ((sortR r).map (·.1)).Nodup := ((sortR_perm r).map _).nodup_iff.mpr nd
    unfold List.Nodup at this
    rwa [List.pairwise_map] at this
  refine (s.and nd2).imp fun h => ?_
  have := le_names h.1
  have := h.2
  omega
theorem nd_names {n : Int} {r : Row} (h : rowOk n 0 r = true) : (r.map (·.1)).Nodup := by
  unfold List.Nodup
  rw [List.pairwise_map]
  exact (rowOk_iff.mp h).1.imp fun h => by omega
theorem more_ok {n a v : Int} {r : Row} (h : rowOk n 0 r = true) (h1 : 1 ≤ a) (h2 : a ≤ n) (hv : v = 0 ∨ v = 1) (ha : a ∉ r.map (·.1)) : rowOk n 0 (sortR (r ++ [(a, v)])) = true := by
  refine sortR_ok (fun w hw => ?_) ?_
  · rcases List.mem_append.mp hw with q | q
    · have := (rowOk_iff.mp h).2 w q
      exact ⟨by omega, this.2⟩
    · rw [List.mem_singleton] at q
      subst q
      exact ⟨by show 0 < a; omega, h2, hv⟩
  · rw [List.map_append, List.nodup_append]
    refine ⟨nd_names h, by simp, fun x hx y hy e => ?_⟩
    simp at hy
    subst hy
    exact ha (e ▸ hx)
theorem can_rows (r : Row) : canSortB (r.map wD) = true := by
  unfold canSortB
  have h1 := wDs_nb r
  have h2 := wDs_dep r
  have h3 := al_rows r
  unfold Al at h3
  simp only [Bool.and_eq_true, Bool.or_eq_true, List.all_eq_true, decide_eq_true_eq]
  exact ⟨⟨⟨h1, h3⟩, by omega⟩, .inl fun x hx => by obtain ⟨w, _, rfl⟩ := List.mem_map.mp hx; rfl⟩
/-! ### drawn wishes -/
theorem range_row {n : Int} {p : Nat → Bool} {v : Nat → Int} (hv : ∀ j, p j = true → v j = 0 ∨ v j = 1) : ∀ (m a : Nat) (l : Int), l ≤ a → (a : Int) + m ≤ n → rowOk n l (((List.range' a m).filter p).map fun (j : Nat) => ((j : Int) + 1, v j)) = true
  | 0, a, l, _, _ => rfl
  | m + 1, a, l, h1, h2 => by
    rw [List.range'_succ]
    cases hp : p a with
    | false =>
      rw [List.filter_cons_of_neg (by simp [hp])]
      exact range_row hv m (a + 1) l (by omega) (by omega)
    | true =>
      rw [List.filter_cons_of_pos hp, List.map_cons, rowOk]
      have ih := range_row (n := n) hv m (a + 1) ((a : Int) + 1) (by omega) (by omega)
      have e1 : l < (a : Int) + 1 := by omega
      have e2 : (a : Int) + 1 ≤ n := by omega
      rcases hv a hp with q | q <;> simp [e1, e2, q, ih]
theorem wish_ok {k : Nat} {S : Store} {c : Int} {n : Nat} (hn : n ≤ 40) : ∃ r : Row, rowOk n 0 r = true ∧ callN L.G (k + 2) 14 [.int c, .int (n : Int)] S = .ok (rD r) S := by
  obtain ⟨ws, h1, h2, e1⟩ := draws_ok fns_12 (n := k) (S := S) (c := c) (m := n) (by omega)
  have big : (2000 : Nat) ≤ line := by decide
  refine ⟨((List.range' 0 n).filter fun j => decide (0 < ((ws[j]?).getD 0).fmod 3)).map fun (j : Nat) => ((j : Int) + 1, ((ws[j]?).getD 0).fmod 3 - 1), range_row (fun j hp => ?_) n 0 0 (by omega) (by omega), ?_⟩
  · have := Int.fmod_lt_of_pos ((ws[j]?).getD 0) (show (0 : Int) < 3 by decide)
    simp at hp
    omega
  · rw [call_eq fns_14 rfl]
    have hl := lstOf_new (S := S) (ws.map D.int)
    have turn : ∀ d ∈ rangeD 0 (n : Int), lcTurn [3] (.nm 3) [some (.int c), some (.int (n : Int)), some (.ref S.length), none] (evs L.G (callN L.G (k + 1)) none (.cons (.cmp .Gt (.bin .Mod (.idx (.loc 2) (.loc 3)) (.con (.int 3))) (.con (.int 0))) .nil)).ts (ev L.G (callN L.G (k + 1)) none (.tup (.cons (.bin .Add (.loc 3) (.con (.int 1))) (.cons (.bin .Sub (.bin .Mod (.idx (.loc 2) (.loc 3)) (.con (.int 3))) (.con (.int 1))) .nil)))).v d (S ++ [O.lst (ws.map D.int)]) = .ok (if (match d with
        | .int j => decide (0 < ((ws[j.toNat]?).getD 0).fmod 3)
        | _ => false) then some (match d with
        | .int j => wD (j + 1, ((ws[j.toNat]?).getD 0).fmod 3 - 1)
        | d => d) else none) (S ++ [O.lst (ws.map D.int)]) := fun d hd => by
      obtain ⟨j, hj⟩ := List.getElem?_of_mem hd
      obtain ⟨hj, rfl⟩ := range_get hj
      have hj' : j < ws.length := by omega
      have a1 : atI (ws.map D.int) (j : Int) = some (.int ws[j]) := by rw [atI_nat (by simpa using hj')]; simp [hj']
      have a2 : (ws[(j : Int).toNat]?).getD 0 = ws[j] := by simp [hj']
      by_cases q : 0 < ws[j].fmod 3
      · simp [lcTurn, wipe, asgT, asgN, hl, a1, q, wD, line, hj']
      · simp [lcTurn, wipe, asgT, asgN, hl, a1, q, wD, line, hj']
    have loop := lcLoop_filter (chk := same none (S ++ [O.lst (ws.map D.int)])) (S := S ++ [O.lst (ws.map D.int)]) rfl (ds := rangeD 0 (n : Int)) (acc := []) turn (by rw [List.length_nil, range_len, Nat.zero_add]; omega)
    rw [List.nil_append, rangeD_nat, List.filter_map, List.map_map, List.range_eq_range'] at loop
    have sm := rangeI_int (S := S ++ [O.lst (ws.map D.int)]) (small_nat (n := n) (by omega))
    rw [rangeD_nat, List.range_eq_range'] at sm
    have fin : ((List.range' 0 n).filter fun j => decide (0 < ((ws[j]?).getD 0).fmod 3)).map (wD ∘ fun (j : Nat) => ((j : Int) + 1, ((ws[j]?).getD 0).fmod 3 - 1)) = _ := rfl
    unfold rD
    rw [List.map_map]
    have ft := f_tuple (S ++ [O.lst (ws.map D.int), O.lst (((List.range' 0 n).filter fun j => decide (0 < ((ws[j]?).getD 0).fmod 3)).map (wD ∘ fun (j : Nat) => ((j : Int) + 1, ((ws[j]?).getD 0).fmod 3 - 1)))]) (n := S.length + 1) (by unfold lstOf; simp; rfl)
    have loop' : lcLoop _ _ _ _ _ = R.ok (((List.range' 0 n).filter fun j => decide (0 < ((ws[j]?).getD 0).fmod 3)).map (wD ∘ fun (j : Nat) => ((j : Int) + 1, ((ws[j]?).getD 0).fmod 3 - 1))) _ := loop
    have wf := fun m => rD_wf m (((List.range' 0 n).filter fun j => decide (0 < ((ws[j]?).getD 0).fmod 3)).map fun (j : Nat) => ((j : Int) + 1, ((ws[j]?).getD 0).fmod 3 - 1))
    simp only [rD, List.map_map] at wf
    clear loop turn fin h1 h2
    generalize ((List.range' 0 n).filter fun j => decide (0 < ((ws[j]?).getD 0).fmod 3)).map (wD ∘ fun (j : Nat) => ((j : Int) + 1, ((ws[j]?).getD 0).fmod 3 - 1)) = rs at *
    have td := tidy_drop (S := S) (T := [O.lst (ws.map D.int), O.lst rs]) (wf _)
    have td1 := tidy_drop (S := S) (T := [O.lst (ws.map D.int)]) (wf _)
    have td2 := tidy_app2 S (O.lst (ws.map D.int)) [O.lst rs] (.tup rs) (wf _)
    simp [b__law_wish, env0, e1, sm, loop', ft, td, td1, td2]
end K13
set_option Elab.async false
set_option linter.all false
set_option autoImplicit false
set_option maxRecDepth 100000
set_option maxHeartbeats 4000000
/-! K13J: parts of rows, right line trees grown. -/
namespace K13
open Fx
def ptB : FSs := (.cons (.ifs (.cmp .Eq (.bin .Mod (.blt .int (.cons (.loc 3) .nil)) (.con (.int 2))) (.con (.int 0))) (.cons (.expr (.mth .append (.loc 2) (.cons (.loc 4) .nil)))
    .nil) .nil)
    (.cons (.asg 3 (.bin .FloorDiv (.loc 3) (.con (.int 2))))
    .nil))
theorem part_ok {k : Nat} {S : Store} {d : Int} {r : Row} (hr : r.length ≤ 1000) : ∃ s : Row, s.Sublist r ∧ callN L.G (k + 1) 15 [.int d, rD r] S = .ok (rD s) S := by
  have big : (2000 : Nat) ≤ line := by decide
  obtain ⟨ρ', S', loop, s, q, v, hs, rfl, rfl⟩ := forL_inv (f := frB L.G (callN L.G k) (.nm 4) ptB none) (chk := same none (S ++ [O.lst []])) (fun i ρ S' => ∃ (s : Row) (q : Int) (v : Option D), s.Sublist (r.take i) ∧ ρ = [some (.int d), some (rD r), some (.ref S.length), some (.int q), v] ∧ S' = S ++ [O.lst (s.map wD)]) (r.map wD) 0 [some (.int d), some (rD r), some (.ref S.length), some (.int d), none] (S ++ [O.lst []]) ⟨[], d, none, List.nil_sublist _, rfl, rfl⟩ (fun j x ρ S2 hj hP => by
    obtain ⟨s, q, v, hs, rfl, rfl⟩ := hP
    rw [Nat.zero_add] at hs ⊢
    rw [List.getElem?_map] at hj
    obtain ⟨w, hw, rfl⟩ := Option.map_eq_some_iff.mp hj
    have hl := hs.length_le
    rw [List.length_take] at hl
    have ap := app_last (S := S) (xs := s.map wD) (d := wD w) (by rw [List.length_map]; omega)
    have ht : r.take (j + 1) = r.take j ++ [w] := by rw [List.take_add_one, hw]; rfl
    have hlst := lstOf_new (S := S) (s.map wD)
    by_cases c : q.fmod 2 = 0
    · refine ⟨[some (.int d), some (rD r), some (.ref S.length), some (.int (q.fdiv 2)), some (wD w)], S ++ [O.lst ((s ++ [w]).map wD)], ?_, rfl, s ++ [w], _, _, by rw [ht]; exact hs.append (List.Sublist.refl _), rfl, rfl⟩
      simp [frB, ptB, asgT, asgN, c, ap, hlst, tidy_last]
    · refine ⟨[some (.int d), some (rD r), some (.ref S.length), some (.int (q.fdiv 2)), some (wD w)], S ++ [O.lst (s.map wD)], ?_, rfl, s, _, _, by rw [ht]; exact hs.trans (List.sublist_append_left _ _), rfl, rfl⟩
      simp [frB, ptB, asgT, asgN, c, hlst])
  rw [List.length_map, Nat.zero_add, List.take_length] at hs
  refine ⟨s, hs, ?_⟩
  rw [call_eq fns_15 rfl]
  have ft := f_tuple (S ++ [O.lst (s.map wD)]) (lstOf_new S (s.map wD))
  have td := tidy_row S [O.lst (s.map wD)] s
  unfold ptB at loop
  unfold rD at *
  generalize r.map wD = rs at *
  generalize s.map wD = ss at *
  simp [b__law_part, env0, loop, ft, td, line]
/-! ### grown trees -/
def Good (n : Int) : Row → Tr Row → Prop
  | al, .wish r => rowOk n 0 r = true ∧ (∀ w ∈ r, w ∈ al)
  | al, .node a ln l r => rowOk n 0 ln = true ∧ (∀ w ∈ ln, w ∈ al) ∧ 1 ≤ a ∧ a ≤ n ∧ a ∉ ln.map (·.1) ∧ Good n (ln ++ [(a, 1)]) l ∧ Good n (ln ++ [(a, 0)]) r
theorem Good.mono {n : Int} : ∀ {t : Tr Row} {x y : Row}, (∀ w ∈ x, w ∈ y) → Good n x t → Good n y t
  | .wish r, x, y, h, g => ⟨g.1, fun w hw => h w (g.2 w hw)⟩
  | .node a ln l r, x, y, h, g => ⟨g.1, fun w hw => h w (g.2.1 w hw), g.2.2⟩
theorem tr_wf (n : Nat) : ∀ t : Tr Row, (t.D rD).wf n = true
  | .wish r => by simp [Tr.D, D.wf, D.wfs, rD_wf]
  | .node a ln l r => by simp [Tr.D, D.wf, D.wfs, rD_wf, tr_wf n l, tr_wf n r]
theorem draw_at {S : Store} {dr : Nat} {ws : List Int} (h : lstOf S dr = some (ws.map D.int)) (hw : okW ws) (hl : ws.length = 64) (i : Int) : ∃ w : Nat, w < 60 ∧ ∀ T, idxD (S ++ T) (.ref dr) (.int (i.fmod 64)) = some (.int (w : Int)) := by
  obtain ⟨q, q1, q2⟩ := fmod_small i (m := 64) (by decide)
  have q1 : i.fmod 64 = (q : Int) := q1
  have hq : q < ws.length := by omega
  have := hw ws[q] (List.getElem_mem hq)
  refine ⟨ws[q].toNat, by omega, fun T => ?_⟩
  rw [i_ref, lstOf_app h T, q1]
  show atI (ws.map D.int) (q : Int) = _
  rw [atI_nat (by simpa using hq), List.getElem?_map, List.getElem?_eq_getElem hq]
  show some (D.int ws[q]) = _
  congr 2
  omega
/-- the names that are free -/
def free (n : Nat) (ln : Row) : List Int := ((List.range' 0 n).map fun (j : Nat) => ((j : Int) + 1)).filter fun a => decide (a ∉ ln.map (·.1))
theorem free_mem {n : Nat} {ln : Row} {a : Int} (h : a ∈ free n ln) : 1 ≤ a ∧ a ≤ n ∧ a ∉ ln.map (·.1) := by
  unfold free at h
  obtain ⟨h1, h2⟩ := List.mem_filter.mp h
  obtain ⟨j, hj, rfl⟩ := List.mem_map.mp h1
  have := List.mem_range'_1.mp hj
  exact ⟨by omega, by omega, by simpa using h2⟩
theorem free_len (n : Nat) (ln : Row) : (free n ln).length ≤ n := by
  unfold free
  refine Nat.le_trans (List.length_filter_le _ _) ?_
  simp
theorem range1_map (n : Nat) : rangeD 1 ((n : Int) + 1) = ((List.range' 0 n).map fun (j : Nat) => ((j : Int) + 1)).map D.int := by
  unfold rangeD
  rw [show ((n : Int) + 1 - 1).toNat = n by omega, List.range_eq_range', List.map_map]
  refine List.map_congr_left fun k _ => ?_
  show D.int (1 + (k : Int)) = D.int ((k : Int) + 1)
  rw [Int.add_comm]
def fresh (ln : Row) (d : D) : Bool := match d with
  | .int a => decide (a ∉ ln.map (·.1))
  | _ => false
theorem free_lc {cl : Orac} {S : Store} {n : Nat} {ln : Row} {ρ : Env} (hn : n ≤ 40) (hl : ln.length ≤ 1000) (h8 : ρ[8]? = some (some (rD ln))) (hρ : ρ.length = 16) :
    lcLoop (lcTurn [10] (.nm 10) ρ (evs L.G cl none (.cons (.cmp .NotIn (.loc 10) (.lc [11] (.nm 11) (.seq (.loc 8)) .nil (.idx (.loc 11) (.con (.int 0))))) .nil)).ts (ev L.G cl none (.loc 10)).v) (same none S) (((List.range' 0 n).map fun (j : Nat) => ((j : Int) + 1)).map D.int) [] S = .ok ((free n ln).map D.int) S := by
  have big : (2000 : Nat) ≤ line := by decide
  have turn : ∀ d ∈ ((List.range' 0 n).map fun (j : Nat) => ((j : Int) + 1)).map D.int, lcTurn [10] (.nm 10) ρ (evs L.G cl none (.cons (.cmp .NotIn (.loc 10) (.lc [11] (.nm 11) (.seq (.loc 8)) .nil (.idx (.loc 11) (.con (.int 0))))) .nil)).ts (ev L.G cl none (.loc 10)).v d S = .ok (if fresh ln d then some d else none) S := fun d hd => by
    obtain ⟨a, _, rfl⟩ := List.mem_map.mp hd
    have hρ2 : ((wipe ρ [10]).set 10 (some (D.int a))).length = 16 := by simp [wipe, hρ]
    have g10 : getL ((wipe ρ [10]).set 10 (some (D.int a))) 10 S = .ok (.int a) S := by
      unfold getL
      rw [List.getElem?_set_self (by simp [wipe, hρ])]
    have g8 : getL ((wipe ρ [10]).set 10 (some (D.int a))) 8 S = .ok (rD ln) S := by
      unfold getL
      rw [List.getElem?_set_ne (by decide)]
      simp [wipe, h8]
    have h2 : 10 < (wipe ρ [10]).length := by simp [wipe, hρ]
    have lc := names_lc (cl := cl) (S := S) (ρ := (wipe ρ [10]).set 10 (some (D.int a))) (ln := ln) 11 (by omega) (by omega)
    have inn := in_names S a ln
    have g8' : getL ((wipe ρ [10]).set 10 (some (D.int a))) 8 S = .ok (.tup (ln.map wD)) S := g8
    have fr : fresh ln (.int a) = decide (a ∉ ln.map (·.1)) := rfl
    rw [fr]
    generalize ln.map wD = xs at *
    generalize (ln.map fun w => D.int w.1) = ns at *
    by_cases c : a ∈ ln.map (·.1)
    · rw [decide_eq_true c] at inn
      rw [if_neg (by simpa using c)]
      simp [lcTurn, asgT, asgN, h2, g10, g8', lc, inn]
    · rw [decide_eq_false c] at inn
      rw [if_pos (by simpa using c)]
      simp [lcTurn, asgT, asgN, h2, g10, g8', lc, inn]
  have loop := lcLoop_filter (chk := same none S) (g := fun d => d) (S := S) rfl (ds := ((List.range' 0 n).map fun (j : Nat) => ((j : Int) + 1)).map D.int) (acc := []) turn (by simp; omega)
  rw [List.nil_append, List.map_id', List.filter_map] at loop
  exact loop
end K13
set_option Elab.async false
set_option linter.all false
set_option autoImplicit false
set_option maxRecDepth 100000
set_option maxHeartbeats 4000000
/-! K13K: the line tree grown. -/
namespace K13
open Fx
def gw0 : FS := .asg 6 (.idx (.loc 0) (.bin .Mod (.loc 5) (.blt .len (.cons (.loc 0) .nil))))
def gw1 : FS := .asg 7 (.idx (.loc 0) (.bin .Mod (.bin .Add (.bin .Mult (.loc 5) (.con (.int 7))) (.con (.int 3))) (.blt .len (.cons (.loc 0) .nil))))
def gw2 : FS := .asg 8 (.ite (.cmp .Gt (.bin .Mod (.loc 7) (.con (.int 3))) (.con (.int 0))) (.loc 2) (.call 15 (.cons (.loc 6) (.cons (.loc 2) .nil))))
def gw3 : FS := .asg 9 (.lc [10] (.nm 10) (.range2 (.con (.int 1)) (.bin .Add (.loc 1) (.con (.int 1)))) (.cons (.cmp .NotIn (.loc 10) (.lc [11] (.nm 11) (.seq (.loc 8)) .nil (.idx (.loc 11) (.con (.int 0))))) .nil) (.loc 10))
def gw4 : FS := .ifs (.or (.cons (.cmp .Lt (.loc 3) (.con (.int 1))) (.cons (.cmp .Eq (.blt .len (.cons (.loc 9) .nil)) (.con (.int 0))) (.cons (.and (.cons (.cmp .Gt (.blt .len (.cons (.loc 2) .nil)) (.con (.int 0))) (.cons (.cmp .Eq (.bin .Mod (.loc 6) (.con (.int 5))) (.con (.int 4))) .nil))) .nil)))) (.cons (.ret (.tup (.cons (.tup (.cons (.con (.str [119, 105, 115, 104])) (.cons (.ite (.cmp .Gt (.blt .len (.cons (.loc 8) .nil)) (.con (.int 0))) (.loc 8) (.loc 2)) .nil))) (.cons (.bin .Add (.loc 5) (.con (.int 1))) .nil)))) .nil) .nil
def gw5 : FS := .asg 10 (.idx (.loc 9) (.bin .Mod (.bin .Add (.loc 6) (.loc 7)) (.blt .len (.cons (.loc 9) .nil))))
def gw6 : FS := .asg 12 (.blt .tuple (.cons (.blt .sorted (.cons (.bin .Add (.lc [11] (.nm 11) (.seq (.loc 8)) .nil (.loc 11)) (.lst (.cons (.tup (.cons (.loc 10) (.cons (.con (.int 1)) .nil))) .nil))) .nil)) .nil))
def gw7 : FS := .asg 13 (.blt .tuple (.cons (.blt .sorted (.cons (.bin .Add (.lc [11] (.nm 11) (.seq (.loc 8)) .nil (.loc 11)) (.lst (.cons (.tup (.cons (.loc 10) (.cons (.con (.int 0)) .nil))) .nil))) .nil)) .nil))
def gw8 : FS := .asg 14 (.call 16 (.cons (.loc 0) (.cons (.loc 1) (.cons (.loc 12) (.cons (.ite (.and (.cons (.loc 4) (.cons (.cmp .Eq (.bin .Mod (.loc 7) (.con (.int 2))) (.con (.int 1))) .nil))) (.con (.int 0)) (.bin .Sub (.loc 3) (.con (.int 1)))) (.cons (.loc 4) (.cons (.bin .Add (.loc 5) (.con (.int 1))) .nil)))))))
def gw9 : FS := .asg 15 (.call 16 (.cons (.loc 0) (.cons (.loc 1) (.cons (.loc 13) (.cons (.ite (.and (.cons (.loc 4) (.cons (.cmp .Eq (.bin .Mod (.loc 7) (.con (.int 2))) (.con (.int 0))) .nil))) (.con (.int 0)) (.bin .Sub (.loc 3) (.con (.int 1)))) (.cons (.loc 4) (.cons (.idx (.loc 14) (.con (.int 1))) .nil)))))))
def gw10 : FS := .ret (.tup (.cons (.tup (.cons (.con (.str [102, 114, 111, 109])) (.cons (.loc 10) (.cons (.loc 8) (.cons (.idx (.loc 14) (.con (.int 0))) (.cons (.idx (.loc 15) (.con (.int 0))) .nil)))))) (.cons (.idx (.loc 15) (.con (.int 1))) .nil)))
theorem gweq : b__law_grow = .cons gw0 (.cons gw1 (.cons gw2 (.cons gw3 (.cons gw4 (.cons gw5 (.cons gw6 (.cons gw7 (.cons gw8 (.cons gw9 (.cons gw10 .nil)))))))))) := rfl
theorem st {G : Glob} {cl : Orac} {s : FS} {ss : FSs} {xc : Xc} {ρ ρ' : Env} {S S' : Store} (h : ex G cl s xc ρ S = .nx ρ' S') : exs G cl (.cons s ss) xc ρ S = exs G cl ss xc ρ' S' := by rw [ss_cons, h, seqK_nx]
theorem stR {G : Glob} {cl : Orac} {s : FS} {ss : FSs} {xc : Xc} {ρ : Env} {S S' : Store} {d : D} (h : ex G cl s xc ρ S = .ret d S') : exs G cl (.cons s ss) xc ρ S = .ret d S' := by rw [ss_cons, h, seqK_ret]
theorem len_row (S : Store) (r : Row) : fLen [rD r] S = .ok (.int r.length) S := by
  have := len_tup S (r.map wD)
  rw [List.length_map] at this
  exact this
theorem more_at {cl : Orac} {S : Store} {ln : Row} {a v : Int} {c : D} {r0 r1 r2 r3 r4 r5 r6 r7 r9 r11 r12 r13 r14 r15 : Option D} (hl : ln.length ≤ 1000) (hv : c = .int v) :
    tidy S ((ev L.G cl none (.blt .tuple (.cons (.blt .sorted (.cons (.bin .Add (.lc [11] (.nm 11) (.seq (.loc 8)) .nil (.loc 11)) (.lst (.cons (.tup (.cons (.loc 10) (.cons (.con c) .nil))) .nil))) .nil)) .nil))).v [r0, r1, r2, r3, r4, r5, r6, r7, some (rD ln), r9, some (.int a), r11, r12, r13, r14, r15] S) = .ok (rD (sortR (ln ++ [(a, v)]))) S := by
  subst hv
  have big : (2000 : Nat) ≤ line := by decide
  have lc := words_lc (cl := cl) (S := S) (ρ := [r0, r1, r2, r3, r4, r5, r6, r7, some (rD ln), r9, some (.int a), r11, r12, r13, r14, r15]) (ln := ln) 11 (by simp) (by omega)
  have ad := add_new S (ln.map wD) [.tup [.int a, .int v]] (by rw [List.length_map]; simp; omega)
  have e1 : ln.map wD ++ [.tup [.int a, .int v]] = (ln ++ [(a, v)]).map wD := by rw [List.map_append]; rfl
  have fs := f_sorted (S ++ [O.lst (ln.map wD), O.lst [.tup [.int a, .int v]], O.lst (ln.map wD ++ [.tup [.int a, .int v]])]) (n := S.length + 2) (xs := ln.map wD ++ [.tup [.int a, .int v]]) (by unfold lstOf; simp) (by rw [e1]; exact can_rows _) (by rw [e1, List.length_map, List.length_append]; simp; omega)
  rw [show sortD (ln.map wD ++ [.tup [.int a, .int v]]) = (sortR (ln ++ [(a, v)])).map wD by rw [e1, sortR_map]] at fs
  have wf := fun m => rD_wf m (sortR (ln ++ [(a, v)]))
  simp only [rD] at *
  clear e1
  generalize (sortR (ln ++ [(a, v)])).map wD = zs at *
  generalize ln.map wD ++ [.tup [.int a, .int v]] = ys at *
  generalize ln.map wD = xs at *
  have ft := f_tuple (S ++ [O.lst xs, O.lst [.tup [.int a, .int v]], O.lst ys, O.lst zs]) (n := S.length + 3) (xs := zs) (by unfold lstOf; simp)
  have td := tidy_drop (S := S) (T := [O.lst xs, O.lst [.tup [.int a, .int v]], O.lst ys, O.lst zs]) (wf _)
  simp at fs ad lc
  simp [lc, ad, fs, ft, td, line]
theorem grow_ok {n : Nat} (hn : n ≤ 40) {dr : Nat} {ws : List Int} (hw : okW ws) (hwl : ws.length = 64) : ∀ (d k : Nat) {S : Store} (_ : lstOf S dr = some (ws.map D.int)) (al : Row) (at_ : Nat) (nar : Bool), d ≤ k → rowOk n 0 al = true → at_ + 2 ^ (d + 1) ≤ 2 ^ 40 →
    ∃ (t : Tr Row) (at2 : Nat), Good n al t ∧ t.dep ≤ d ∧ t.lv ≤ (if nar then d + 1 else 2 ^ d) ∧ at2 + 1 ≤ at_ + 2 ^ (d + 1) ∧ callN L.G (k + 2) 16 [.ref dr, .int (n : Int), rD al, .int (d : Int), .bl nar, .int (at_ : Int)] S = .ok (.tup [t.D rD, .int (at2 : Int)]) S := by
  intro d
  induction d using Nat.strongRecOn with
  | _ d IH =>
  intro k S hS al at_ nar hk ha hat
  have big : (2000 : Nat) ≤ line := by decide
  have al_len : al.length ≤ 40 := by have := rowOk_len ha (by omega); omega
  have p1 : 1 ≤ 2 ^ d := Nat.one_le_two_pow
  have p2 : 2 ^ (d + 1) = 2 ^ d + 2 ^ d := by rw [Nat.pow_succ]; omega
  have hlen : fLen [.ref dr] S = .ok (.int 64) S := by
    have := len_ref S hS
    rw [List.length_map, hwl] at this
    exact this
  obtain ⟨w0, w0l, d0⟩ := draw_at hS hw hwl (at_ : Int)
  obtain ⟨w1, w1l, d1⟩ := draw_at hS hw hwl ((at_ : Int) * 7 + 3)
  have d0 := d0 []
  have d1 := d1 []
  rw [List.append_nil, i_ref, hS] at d0 d1
  have b7 : bits (at_ : Int) + bits 7 < 1000000 := by
    have := log_le (i := (at_ : Int)) (k := 62) (by omega) (by omega) (by decide)
    have : bits 7 = 2 := by decide
    omega
  generalize hcl : callN L.G (k + 1) = cl
  have dN : D.int (d : Int) = D.int (d : Int) := rfl
  have h0 : ex L.G cl gw0 none [some (.ref dr), some (.int (n : Int)), some (rD al), some (.int (d : Int)), some (.bl nar), some (.int (at_ : Int)), none, none, none, none, none, none, none, none, none, none] S = .nx [some (.ref dr), some (.int (n : Int)), some (rD al), some (.int (d : Int)), some (.bl nar), some (.int (at_ : Int)), some (.int (w0 : Int)), none, none, none, none, none, none, none, none, none] S := by
    unfold gw0
    simp only [Option.bind_some] at d0
    simp [hlen, hS, d0]
  have h1 : ex L.G cl gw1 none [some (.ref dr), some (.int (n : Int)), some (rD al), some (.int (d : Int)), some (.bl nar), some (.int (at_ : Int)), some (.int (w0 : Int)), none, none, none, none, none, none, none, none, none] S = .nx [some (.ref dr), some (.int (n : Int)), some (rD al), some (.int (d : Int)), some (.bl nar), some (.int (at_ : Int)), some (.int (w0 : Int)), some (.int (w1 : Int)), none, none, none, none, none, none, none, none] S := by
    unfold gw1
    simp only [Option.bind_some] at d1
    simp [hlen, hS, d1, b7]
  obtain ⟨ln, hsub, h2⟩ : ∃ ln : Row, ln.Sublist al ∧ ex L.G cl gw2 none [some (.ref dr), some (.int (n : Int)), some (rD al), some (.int (d : Int)), some (.bl nar), some (.int (at_ : Int)), some (.int (w0 : Int)), some (.int (w1 : Int)), none, none, none, none, none, none, none, none] S = .nx [some (.ref dr), some (.int (n : Int)), some (rD al), some (.int (d : Int)), some (.bl nar), some (.int (at_ : Int)), some (.int (w0 : Int)), some (.int (w1 : Int)), some (rD ln), none, none, none, none, none, none, none] S := by
    obtain ⟨s, hs, e⟩ := part_ok (k := k) (S := S) (d := (w0 : Int)) (r := al) (by omega)
    rw [hcl] at e
    by_cases c : 0 < (w1 : Int).fmod 3
    · refine ⟨al, List.Sublist.refl _, ?_⟩
      unfold gw2
      simp [c]
    · refine ⟨s, hs, ?_⟩
      unfold gw2
      simp [c, e]
  have hln := rowOk_sub ha hsub
  have ln_len : ln.length ≤ 40 := Nat.le_trans hsub.length_le al_len
  have h3 : ex L.G cl gw3 none [some (.ref dr), some (.int (n : Int)), some (rD al), some (.int (d : Int)), some (.bl nar), some (.int (at_ : Int)), some (.int (w0 : Int)), some (.int (w1 : Int)), some (rD ln), none, none, none, none, none, none, none] S = .nx [some (.ref dr), some (.int (n : Int)), some (rD al), some (.int (d : Int)), some (.bl nar), some (.int (at_ : Int)), some (.int (w0 : Int)), some (.int (w1 : Int)), some (rD ln), some (.ref S.length), none, none, none, none, none, none] (S ++ [O.lst ((free n ln).map D.int)]) := by
    have fl := free_lc (cl := cl) (S := S) (n := n) (ln := ln) (ρ := [some (.ref dr), some (.int (n : Int)), some (rD al), some (.int (d : Int)), some (.bl nar), some (.int (at_ : Int)), some (.int (w0 : Int)), some (.int (w1 : Int)), some (rD ln), none, none, none, none, none, none, none]) hn (by omega) rfl rfl
    have rg : ∀ q : Store → R D, q S = .ok (.int ((n : Int) + 1)) S → rangeJ (.ok (.int 1) S) q = .ok (((List.range' 0 n).map fun (j : Nat) => ((j : Int) + 1)).map D.int, none) S := fun q hq => by
      rw [← range1_map]
      have s2 : small ((n : Int) + 1) = true := by have := small_nat (n := n + 1) (by omega); rwa [Int.natCast_add] at this
      exact rangeJ_int rfl hq s2
    generalize ((List.range' 0 n).map fun (j : Nat) => ((j : Int) + 1)).map D.int = rs at *
    generalize (free n ln).map D.int = fs at *
    unfold gw3
    simp [rg, fl]
  have wfl : ∀ m, (D.tup [.str sWish, rD (if 0 < ln.length then ln else al)]).wf m = true := fun m => by simp [D.wf, D.wfs]
  have hwish : Good n al (.wish (if 0 < ln.length then ln else al)) := by
    split
    · exact ⟨hln, fun w h => hsub.subset h⟩
    · exact ⟨ha, fun w h => h⟩
  have hfl := len_ref (S ++ [O.lst ((free n ln).map D.int)]) (lstOf_new S ((free n ln).map D.int))
  rw [List.length_map] at hfl
  have hal := len_row (S ++ [O.lst ((free n ln).map D.int)]) al
  have hll := len_row (S ++ [O.lst ((free n ln).map D.int)]) ln
  have hfs := lstOf_new S ((free n ln).map D.int)
  have fin : ∀ {d : D} {o : O}, d.wf S.length = true → tidy S (SR.ret d (S ++ [o])).done = .ok d S := fun h => tidy_drop h
  have dlt : decide ((d : Int) < 1) = decide (d < 1) := by rw [decide_eq_decide]; omega
  have dlt2 : ((d : Int) < 1) = (d < 1) := by rw [eq_iff_iff]; omega
  generalize hF : O.lst ((free n ln).map D.int) = F at *
  have s0 : ∀ i : Int, (S ++ [F]) = (S ++ [F]) := fun _ => rfl
  by_cases cc : d < 1 ∨ (free n ln).length = 0 ∨ (0 < al.length ∧ (w0 : Int).fmod 5 = 4)
  · refine ⟨.wish (if 0 < ln.length then ln else al), at_ + 1, hwish, Nat.zero_le _, ?_, by omega, ?_⟩
    · show 1 ≤ _
      split <;> omega
    · have h4 : ex L.G cl gw4 none [some (.ref dr), some (.int (n : Int)), some (rD al), some (.int (d : Int)), some (.bl nar), some (.int (at_ : Int)), some (.int (w0 : Int)), some (.int (w1 : Int)), some (rD ln), some (.ref S.length), none, none, none, none, none, none] (S ++ [F]) = .ret (.tup [.tup [.str sWish, rD (if 0 < ln.length then ln else al)], .int ((at_ : Int) + 1)]) (S ++ [F]) := by
        unfold gw4
        by_cases c1 : d < 1
        · by_cases q : 0 < ln.length
          · simp [dlt2, c1, hll, q, line]
          · simp [dlt2, c1, hll, q, line]
        · by_cases c2 : (free n ln).length = 0
          · by_cases q : 0 < ln.length
            · simp [dlt2, c1, hfl, c2, hll, q, line]
            · simp [dlt2, c1, hfl, c2, hll, q, line]
          · obtain ⟨c3, c4⟩ : 0 < al.length ∧ (w0 : Int).fmod 5 = 4 := by
              rcases cc with c | c | c
              · exact absurd c c1
              · exact absurd c c2
              · exact c
            by_cases q : 0 < ln.length
            · simp [dlt2, c1, hfl, c2, hll, hal, c3, c4, q, line]
            · simp [dlt2, c1, hfl, c2, hll, hal, c3, c4, q, line]
      rw [call_eq fns_16 rfl, gweq, hcl]
      show tidy S (exs L.G cl _ none [some (.ref dr), some (.int (n : Int)), some (rD al), some (.int (d : Int)), some (.bl nar), some (.int (at_ : Int)), none, none, none, none, none, none, none, none, none, none] S).done = _
      rw [st h0, st h1, st h2, st h3, stR h4, fin (by simp [D.wf, D.wfs])]
      rfl
  · have cc' : 1 ≤ d ∧ (free n ln).length ≠ 0 ∧ ¬ (0 < al.length ∧ (w0 : Int).fmod 5 = 4) := ⟨by omega, fun z => cc (.inr (.inl z)), fun z => cc (.inr (.inr z))⟩
    obtain ⟨c1, c2, c3⟩ := cc'
    have c1' : ¬ d < 1 := by omega
    have h4 : ex L.G cl gw4 none [some (.ref dr), some (.int (n : Int)), some (rD al), some (.int (d : Int)), some (.bl nar), some (.int (at_ : Int)), some (.int (w0 : Int)), some (.int (w1 : Int)), some (rD ln), some (.ref S.length), none, none, none, none, none, none] (S ++ [F]) = .nx [some (.ref dr), some (.int (n : Int)), some (rD al), some (.int (d : Int)), some (.bl nar), some (.int (at_ : Int)), some (.int (w0 : Int)), some (.int (w1 : Int)), some (rD ln), some (.ref S.length), none, none, none, none, none, none] (S ++ [F]) := by
      unfold gw4
      by_cases q : 0 < al.length
      · have c4 : ¬ (w0 : Int).fmod 5 = 4 := fun z => c3 ⟨q, z⟩
        simp [dlt2, c1', hfl, c2, hal, q, c4]
      · simp [dlt2, c1', hfl, c2, hal, q]
    obtain ⟨x, x1, x2⟩ := fmod_small ((w0 : Int) + (w1 : Int)) (m := (free n ln).length) (by omega)
    have am := List.getElem_mem x2
    generalize ha2 : (free n ln)[x] = a at am
    obtain ⟨a1, a2, a3⟩ := free_mem am
    have axi : atI ((free n ln).map D.int) (x : Int) = some (.int a) := by
      rw [atI_nat (by simpa using x2), List.getElem?_map, List.getElem?_eq_getElem x2, ha2]
      rfl
    have h5 : ex L.G cl gw5 none [some (.ref dr), some (.int (n : Int)), some (rD al), some (.int (d : Int)), some (.bl nar), some (.int (at_ : Int)), some (.int (w0 : Int)), some (.int (w1 : Int)), some (rD ln), some (.ref S.length), none, none, none, none, none, none] (S ++ [F]) = .nx [some (.ref dr), some (.int (n : Int)), some (rD al), some (.int (d : Int)), some (.bl nar), some (.int (at_ : Int)), some (.int (w0 : Int)), some (.int (w1 : Int)), some (rD ln), some (.ref S.length), some (.int a), none, none, none, none, none] (S ++ [F]) := by
      unfold gw5
      have c2' : ¬ (((free n ln).length : Nat) : Int) = 0 := by omega
      have c2e : ¬ free n ln = [] := fun z => c2 (by rw [z]; rfl)
      simp [hfl, c2e, c2', x1, hfs, axi]
    have m1 : ∀ r12 r13, _ := fun r12 r13 => more_at (cl := cl) (S := S ++ [F]) (ln := ln) (a := a) (v := 1) (c := .int 1) (r0 := some (.ref dr)) (r1 := some (.int (n : Int))) (r2 := some (rD al)) (r3 := some (.int (d : Int))) (r4 := some (.bl nar)) (r5 := some (.int (at_ : Int))) (r6 := some (.int (w0 : Int))) (r7 := some (.int (w1 : Int))) (r9 := some (.ref S.length)) (r11 := none) (r12 := r12) (r13 := r13) (r14 := none) (r15 := none) (by omega) rfl
    have m0 : ∀ r12 r13, _ := fun r12 r13 => more_at (cl := cl) (S := S ++ [F]) (ln := ln) (a := a) (v := 0) (c := .int 0) (r0 := some (.ref dr)) (r1 := some (.int (n : Int))) (r2 := some (rD al)) (r3 := some (.int (d : Int))) (r4 := some (.bl nar)) (r5 := some (.int (at_ : Int))) (r6 := some (.int (w0 : Int))) (r7 := some (.int (w1 : Int))) (r9 := some (.ref S.length)) (r11 := none) (r12 := r12) (r13 := r13) (r14 := none) (r15 := none) (by omega) rfl
    have h6 : ex L.G cl gw6 none [some (.ref dr), some (.int (n : Int)), some (rD al), some (.int (d : Int)), some (.bl nar), some (.int (at_ : Int)), some (.int (w0 : Int)), some (.int (w1 : Int)), some (rD ln), some (.ref S.length), some (.int a), none, none, none, none, none] (S ++ [F]) = .nx [some (.ref dr), some (.int (n : Int)), some (rD al), some (.int (d : Int)), some (.bl nar), some (.int (at_ : Int)), some (.int (w0 : Int)), some (.int (w1 : Int)), some (rD ln), some (.ref S.length), some (.int a), none, some (rD (sortR (ln ++ [(a, 1)]))), none, none, none] (S ++ [F]) := by
      unfold gw6
      rw [s_asg_, m1]
      rfl
    have h7 : ex L.G cl gw7 none [some (.ref dr), some (.int (n : Int)), some (rD al), some (.int (d : Int)), some (.bl nar), some (.int (at_ : Int)), some (.int (w0 : Int)), some (.int (w1 : Int)), some (rD ln), some (.ref S.length), some (.int a), none, some (rD (sortR (ln ++ [(a, 1)]))), none, none, none] (S ++ [F]) = .nx [some (.ref dr), some (.int (n : Int)), some (rD al), some (.int (d : Int)), some (.bl nar), some (.int (at_ : Int)), some (.int (w0 : Int)), some (.int (w1 : Int)), some (rD ln), some (.ref S.length), some (.int a), none, some (rD (sortR (ln ++ [(a, 1)]))), some (rD (sortR (ln ++ [(a, 0)]))), none, none] (S ++ [F]) := by
      unfold gw7
      rw [s_asg_, m0]
      rfl
    obtain ⟨k, rfl⟩ : ∃ j, k = j + 1 := ⟨k - 1, by omega⟩
    have hS1 : lstOf (S ++ [F]) dr = some (ws.map D.int) := lstOf_app hS _
    obtain ⟨dl, dr2, hdl, hdr2, hlr⟩ : ∃ dl dr2 : Nat, (dl = if (nar && decide ((w1 : Int).fmod 2 = 1)) = true then 0 else d - 1) ∧ (dr2 = if (nar && decide ((w1 : Int).fmod 2 = 0)) = true then 0 else d - 1) ∧ True := ⟨_, _, rfl, rfl, trivial⟩
    have dl_le : dl ≤ d - 1 := by rw [hdl]; split <;> omega
    have dr_le : dr2 ≤ d - 1 := by rw [hdr2]; split <;> omega
    have pl : 2 ^ (dl + 1) ≤ 2 ^ d := Nat.pow_le_pow_right (by decide) (by omega)
    have pr : 2 ^ (dr2 + 1) ≤ 2 ^ d := Nat.pow_le_pow_right (by decide) (by omega)
    obtain ⟨tl, al2, g1, g2, g3, g4, g5⟩ := IH dl (by omega) k (S := S ++ [F]) hS1 (sortR (ln ++ [(a, 1)])) (at_ + 1) nar (by omega) (more_ok hln a1 a2 (.inr rfl) a3) (by omega)
    obtain ⟨tr, ar2, g1', g2', g3', g4', g5'⟩ := IH dr2 (by omega) k (S := S ++ [F]) hS1 (sortR (ln ++ [(a, 0)])) al2 nar (by omega) (more_ok hln a1 a2 (.inl rfl) a3) (by omega)
    rw [hcl] at g5 g5'
    have dm : ((d : Int) - 1) = ((d - 1 : Nat) : Int) := by omega
    have h8 : ex L.G cl gw8 none [some (.ref dr), some (.int (n : Int)), some (rD al), some (.int (d : Int)), some (.bl nar), some (.int (at_ : Int)), some (.int (w0 : Int)), some (.int (w1 : Int)), some (rD ln), some (.ref S.length), some (.int a), none, some (rD (sortR (ln ++ [(a, 1)]))), some (rD (sortR (ln ++ [(a, 0)]))), none, none] (S ++ [F]) = .nx [some (.ref dr), some (.int (n : Int)), some (rD al), some (.int (d : Int)), some (.bl nar), some (.int (at_ : Int)), some (.int (w0 : Int)), some (.int (w1 : Int)), some (rD ln), some (.ref S.length), some (.int a), none, some (rD (sortR (ln ++ [(a, 1)]))), some (rD (sortR (ln ++ [(a, 0)]))), some (.tup [tl.D rD, .int (al2 : Int)]), none] (S ++ [F]) := by
      unfold gw8
      rw [hdl, Int.natCast_add] at g5
      have g5 : cl 16 [.ref dr, .int (n : Int), rD (sortR (ln ++ [(a, 1)])), .int ((if (nar && decide ((w1 : Int).fmod 2 = 1)) = true then 0 else d - 1 : Nat) : Int), .bl nar, .int ((at_ : Int) + 1)] (S ++ [F]) = _ := g5
      cases nar with
      | false => simp at g5; simp [dm, g5]
      | true =>
        by_cases q : (w1 : Int).fmod 2 = 1
        · simp [q] at g5; simp [q, g5]
        · simp [q] at g5; simp [q, dm, g5]
    have h9 : ex L.G cl gw9 none [some (.ref dr), some (.int (n : Int)), some (rD al), some (.int (d : Int)), some (.bl nar), some (.int (at_ : Int)), some (.int (w0 : Int)), some (.int (w1 : Int)), some (rD ln), some (.ref S.length), some (.int a), none, some (rD (sortR (ln ++ [(a, 1)]))), some (rD (sortR (ln ++ [(a, 0)]))), some (.tup [tl.D rD, .int (al2 : Int)]), none] (S ++ [F]) = .nx [some (.ref dr), some (.int (n : Int)), some (rD al), some (.int (d : Int)), some (.bl nar), some (.int (at_ : Int)), some (.int (w0 : Int)), some (.int (w1 : Int)), some (rD ln), some (.ref S.length), some (.int a), none, some (rD (sortR (ln ++ [(a, 1)]))), some (rD (sortR (ln ++ [(a, 0)]))), some (.tup [tl.D rD, .int (al2 : Int)]), some (.tup [tr.D rD, .int (ar2 : Int)])] (S ++ [F]) := by
      unfold gw9
      rw [hdr2] at g5'
      have g5' : cl 16 [.ref dr, .int (n : Int), rD (sortR (ln ++ [(a, 0)])), .int ((if (nar && decide ((w1 : Int).fmod 2 = 0)) = true then 0 else d - 1 : Nat) : Int), .bl nar, .int (al2 : Int)] (S ++ [F]) = _ := g5'
      cases nar with
      | false => simp at g5'; simp [dm, g5']
      | true =>
        by_cases q : (w1 : Int).fmod 2 = 0
        · simp [q] at g5'; simp [q, g5']
        · simp [q] at g5'; simp [q, dm, g5']
    have h10 : ex L.G cl gw10 none [some (.ref dr), some (.int (n : Int)), some (rD al), some (.int (d : Int)), some (.bl nar), some (.int (at_ : Int)), some (.int (w0 : Int)), some (.int (w1 : Int)), some (rD ln), some (.ref S.length), some (.int a), none, some (rD (sortR (ln ++ [(a, 1)]))), some (rD (sortR (ln ++ [(a, 0)]))), some (.tup [tl.D rD, .int (al2 : Int)]), some (.tup [tr.D rD, .int (ar2 : Int)])] (S ++ [F]) = .ret (.tup [.tup [.str sFrom, .int a, rD ln, tl.D rD, tr.D rD], .int (ar2 : Int)]) (S ++ [F]) := by
      unfold gw10
      simp [line]
    have sp : ∀ v : Int, ∀ w ∈ sortR (ln ++ [(a, v)]), w ∈ ln ++ [(a, v)] := fun v w h => (sortR_perm _).mem_iff.mp h
    refine ⟨.node a ln tl tr, ar2, ⟨hln, fun w h => hsub.subset h, a1, a2, a3, g1.mono (sp 1), g1'.mono (sp 0)⟩, ?_, ?_, by omega, ?_⟩
    · simp only [Tr.dep]
      omega
    · simp only [Tr.lv]
      cases nar with
      | false =>
        simp only [Bool.false_eq_true, if_false] at g3 g3' ⊢
        have q1 : 2 ^ dl ≤ 2 ^ (d - 1) := Nat.pow_le_pow_right (by decide) dl_le
        have q2 : 2 ^ dr2 ≤ 2 ^ (d - 1) := Nat.pow_le_pow_right (by decide) dr_le
        have q3 : 2 ^ d = 2 ^ (d - 1) + 2 ^ (d - 1) := by
          obtain ⟨e, rfl⟩ : ∃ e, d = e + 1 := ⟨d - 1, by omega⟩
          rw [Nat.pow_succ, Nat.add_sub_cancel]
          omega
        omega
      | true =>
        simp only [if_true] at g3 g3' ⊢
        by_cases q : (w1 : Int).fmod 2 = 1
        · have : dl = 0 := by rw [hdl]; simp [q]
          omega
        · have q0 : (w1 : Int).fmod 2 = 0 := by
            have := Int.fmod_nonneg_of_pos (w1 : Int) (show (0 : Int) < 2 by decide)
            have := Int.fmod_lt_of_pos (w1 : Int) (show (0 : Int) < 2 by decide)
            omega
          have : dr2 = 0 := by rw [hdr2]; simp [q0]
          omega
    · rw [call_eq fns_16 rfl, gweq, hcl]
      show tidy S (exs L.G cl _ none [some (.ref dr), some (.int (n : Int)), some (rD al), some (.int (d : Int)), some (.bl nar), some (.int (at_ : Int)), none, none, none, none, none, none, none, none, none, none] S).done = _
      rw [st h0, st h1, st h2, st h3, st h4, st h5, st h6, st h7, st h8, st h9, stR h10, fin (by simp [D.wf, D.wfs, tr_wf])]
      rfl
end K13
set_option Elab.async false
set_option linter.all false
set_option autoImplicit false
set_option maxRecDepth 100000
set_option maxHeartbeats 4000000
/-! K13L: the right paper has no fault. -/
namespace K13
open Fx
theorem fns_18 : L.G.fns[18]? = some ⟨2, 2, b__law_indexed⟩ := rfl
def ixed (ws : List Row) : Tr Row → Pp
  | .wish r => .wish (ws.idxOf r : Nat)
  | .node a ln l r => .node a ln (ixed ws l) (ixed ws r)
theorem ixed_dep (ws : List Row) : ∀ t : Tr Row, (ixed ws t).dep = t.dep
  | .wish _ => rfl
  | .node a ln l r => by simp only [ixed, Tr.dep, ixed_dep ws l, ixed_dep ws r]
theorem ixed_lv (ws : List Row) : ∀ t : Tr Row, (ixed ws t).lv = t.lv
  | .wish _ => rfl
  | .node a ln l r => by simp only [ixed, Tr.lv, ixed_lv ws l, ixed_lv ws r]
theorem Good.sm {n : Int} (hn : 0 ≤ n) (hn2 : n ≤ 40) (ws : List Row) : ∀ {t : Tr Row} {al : Row}, Good n al t → (ixed ws t).sm
  | .wish _, _, _ => trivial
  | .node a ln l r, al, g => ⟨by have := rowOk_len g.1 hn; omega, g.2.2.2.2.2.1.sm hn hn2 ws, g.2.2.2.2.2.2.sm hn hn2 ws⟩
def rootLine : Tr Row → Row
  | .wish r => r
  | .node _ ln _ _ => ln
theorem Good.root {n : Int} : ∀ {t : Tr Row} {al : Row}, Good n al t → ∀ w ∈ rootLine t, w ∈ al
  | .wish _, _, g => g.2
  | .node _ _ _ _, _, g => g.2.1
theorem ixed_line {ws : List Row} : ∀ {t : Tr Row}, (∀ r ∈ t.ws, r ∈ ws) → lineOf ws (ixed ws t) = rootLine t
  | .wish r, h => by
    have hr := h r (List.mem_singleton_self r)
    have hl := List.idxOf_lt_length_of_mem hr
    show (ws[((ws.idxOf r : Nat) : Int).toNat]?).getD [] = r
    rw [Int.toNat_natCast, List.getElem?_eq_getElem hl, List.getElem_idxOf hl]
    rfl
  | .node _ _ _ _, _ => rfl
theorem ixed_nf {n : Int} {ws : List Row} : ∀ {t : Tr Row} {al : Row} {pl : List Int}, Good n al t → (∀ r ∈ t.ws, r ∈ ws) → nf n ws (ixed ws t) pl = none
  | .wish r, al, pl, g, h => by
    have hl := List.idxOf_lt_length_of_mem (h r (List.mem_singleton_self r))
    unfold ixed nf
    rw [if_pos ⟨by omega, by omega⟩]
  | .node a ln l r, al, pl, g, h => by
    obtain ⟨g1, g2, g3, g4, g5, g6, g7⟩ := g
    have hl : ∀ x ∈ l.ws, x ∈ ws := fun x hx => h x (List.mem_append_left _ hx)
    have hr : ∀ x ∈ r.ws, x ∈ ws := fun x hx => h x (List.mem_append_right _ hx)
    have sub : ∀ {x y : Row}, (∀ w ∈ x, w ∈ y) → subs x y = true := fun q => by
      unfold subs
      rw [List.all_eq_true]
      exact fun w hw => decide_eq_true (q w hw)
    unfold ixed
    rw [nf, ixed_nf g6 hl, ixed_nf g7 hr]
    dsimp only
    rw [if_pos g1, if_pos ⟨g3, g4⟩, if_neg g5, ixed_line hl, ixed_line hr, if_pos (sub g6.root), if_pos (sub g7.root)]
theorem ixed_due {n : Int} {ws : List Row} {t : Tr Row} (g : Good n [] t) (h : ∀ r ∈ t.ws, r ∈ ws) : due n ws (ixed ws t) = none := by
  unfold due
  rw [ixed_nf g h]
  dsimp only
  rw [if_pos]
  rw [ixed_line h]
  exact List.eq_nil_iff_forall_not_mem.mpr fun w hw => by cases g.root w hw
theorem rows_nb : ∀ ws : List Row, D.nbs (ws.map rD) = true
  | [] => rfl
  | r :: ws => by rw [List.map_cons, D.nbs, rD_nb, rows_nb ws]; rfl
theorem rows_dep : ∀ ws : List Row, D.deps (ws.map rD) ≤ 2
  | [] => Nat.zero_le _
  | r :: ws => by
    rw [List.map_cons, D.deps]
    have := rD_dep r
    have := rows_dep ws
    omega
end K13
set_option Elab.async false
set_option linter.all false
set_option autoImplicit false
set_option maxRecDepth 100000
set_option maxHeartbeats 4000000
/-! K13N: places, nodes, papers put together. -/
namespace K13
open Fx
theorem fns_19 : L.G.fns[19]? = some ⟨2, 2, b__law_places⟩ := rfl
theorem fns_20 : L.G.fns[20]? = some ⟨2, 4, b__law_node⟩ := rfl
theorem fns_21 : L.G.fns[21]? = some ⟨3, 3, b__law_put⟩ := rfl
theorem find_row {r : Row} : ∀ {ws : List Row}, r ∈ ws → (ws.map rD).findIdx? (fun x => decide (x = rD r)) = some (ws.idxOf r)
  | x :: ws, h => by
    rw [List.map_cons, List.findIdx?_cons, List.idxOf_cons]
    by_cases e : x = r
    · subst e
      simp
    · have h' : r ∈ ws := by
        rcases List.mem_cons.mp h with q | q
        · exact absurd q.symm e
        · exact q
      have e2 : ¬ rD x = rD r := fun z => e (rD_inj z)
      have e3 : (x == r) = false := beq_eq_false_iff_ne.mpr e
      rw [find_row h']
      simp [e2, e3]
theorem indexed_ok {S : Store} {m : Nat} {ws : List Row} (hm : lstOf S m = some (ws.map rD)) : ∀ (t : Tr Row) (k : Nat), t.dep ≤ k → (∀ r ∈ t.ws, r ∈ ws) → callN L.G (k + 1) 18 [t.D rD, .ref m] S = .ok (pD (ixed ws t)) S
  | .wish r, k, _, h => by
    have f := find_row (h r (List.mem_singleton_self r))
    have e : mthF .index (.ref m) [rD r] S = .ok (.int (ws.idxOf r : Nat)) S := by
      show (match lstOf S m with
        | some xs => if D.nbs xs && (rD r).nb && decide (D.deps xs < 60) && decide ((rD r).dep ≤ 60) then (match xs.findIdx? fun x => decide (x = rD r) with
          | some j => R.ok (D.int j) S
          | none => .stuck) else .stuck
        | none => .stuck) = _
      rw [hm]
      dsimp only
      have := rows_dep ws
      have := rD_dep r
      rw [if_pos (by simp [rows_nb]; omega), f]
    have mk : mOk .index S (.ref m) = true := by
      show (lstOf S m).isSome = true
      rw [hm]; rfl
    rw [call_eq fns_18 rfl]
    simp [b__law_indexed, env0, Tr.D, e, mk, line, ixed]
  | .node a ln l r, k, hk, h => by
    simp only [Tr.dep] at hk
    obtain ⟨k, rfl⟩ : ∃ j, k = j + 1 := ⟨k - 1, by omega⟩
    have i1 := indexed_ok hm l k (by omega) fun x hx => h x (List.mem_append_left _ hx)
    have i2 := indexed_ok hm r k (by omega) fun x hx => h x (List.mem_append_right _ hx)
    rw [call_eq fns_18 rfl]
    simp [b__law_indexed, env0, Tr.D, i1, i2, line, ixed]
/-! ### places -/
def Tr.at {α : Type} : Tr α → List Int → Option (Tr α)
  | t, [] => some t
  | .wish _, _ :: _ => none
  | .node _ _ l r, x :: xs => if x = 0 then l.at xs else if x = 1 then r.at xs else none
def places : Pp → List Int → List (List Int)
  | .wish _, pl => [pl]
  | .node _ _ l r, pl => places l (pl ++ [0]) ++ places r (pl ++ [1]) ++ [pl]
theorem places_at : ∀ (p : Pp) (pl x : List Int), x ∈ places p pl → ∃ y q, x = pl ++ y ∧ p.at y = some q ∧ y.length ≤ p.dep
  | .wish i, pl, x, h => by
    rw [places, List.mem_singleton] at h
    exact ⟨[], .wish i, by rw [h, List.append_nil], rfl, Nat.le_refl _⟩
  | .node a ln l r, pl, x, h => by
    simp only [places, List.mem_append, List.mem_singleton] at h
    rcases h with (h | h) | h
    · obtain ⟨y, q, e, h1, h2⟩ := places_at l _ x h
      exact ⟨0 :: y, q, by rw [e]; simp, by simp [Tr.at, h1], by simp only [List.length_cons, Tr.dep]; omega⟩
    · obtain ⟨y, q, e, h1, h2⟩ := places_at r _ x h
      exact ⟨1 :: y, q, by rw [e]; simp, by simp [Tr.at, h1], by simp only [List.length_cons, Tr.dep]; omega⟩
    · exact ⟨[], _, by rw [h, List.append_nil], rfl, Nat.zero_le _⟩
theorem places_len : ∀ (p : Pp) (pl : List Int), (places p pl).length + 1 = 2 * p.lv
  | .wish i, pl => rfl
  | .node a ln l r, pl => by
    have := places_len l (pl ++ [0])
    have := places_len r (pl ++ [1])
    simp only [places, List.length_append, List.length_singleton, Tr.lv]
    omega
theorem pls_wf (n : Nat) : ∀ ps : List (List Int), D.wfs n (ps.map plD) = true
  | [] => rfl
  | p :: ps => by rw [List.map_cons, D.wfs, plD_wf, pls_wf n ps]; rfl
theorem places_ok {S : Store} : ∀ (p : Pp) (k : Nat) (pl : List Int), p.dep ≤ k → p.lv ≤ 1000 → pl.length + p.dep ≤ 1000 → callN L.G (k + 1) 19 [pD p, plD pl] S = .ok (.ref S.length) (S ++ [O.lst ((places p pl).map plD)])
  | .wish i, k, pl, _, _, _ => by
    rw [call_eq fns_19 rfl]
    simp [b__law_places, env0, Tr.D, places, line]
  | .node a ln l r, k, pl, h, hv, hp => by
    simp only [Tr.dep] at h hp
    simp only [Tr.lv] at hv
    obtain ⟨k, rfl⟩ : ∃ j, k = j + 1 := ⟨k - 1, by omega⟩
    have i1 := places_ok (S := S) l k (pl ++ [0]) (by omega) (by omega) (by simp; omega)
    have i2 := places_ok (S := S ++ [O.lst ((places l (pl ++ [0])).map plD)]) r k (pl ++ [1]) (by omega) (by omega) (by simp; omega)
    have big : (5000 : Nat) ≤ line := by decide
    have n1 := places_len l (pl ++ [0])
    have n2 := places_len r (pl ++ [1])
    have p0 := fun S => plD_add (S := S) (pl := pl) (i := 0) (by omega)
    have p1 := fun S => plD_add (S := S) (pl := pl) (i := 1) (by omega)
    rw [call_eq fns_19 rfl]
    have ad := add_new S ((places l (pl ++ [0])).map plD) ((places r (pl ++ [1])).map plD) (by rw [List.length_map, List.length_map]; omega)
    have wf : (O.lst ((places (Tr.node a ln l r) pl).map plD)).wf S.length = true := pls_wf _ _
    have e : (places (Tr.node a ln l r) pl).map plD = (places l (pl ++ [0])).map plD ++ (places r (pl ++ [1])).map plD ++ [plD pl] := by simp [places]
    have nx : ((places l (pl ++ [0])).map plD).length = (places l (pl ++ [0])).length := List.length_map ..
    have ny : ((places r (pl ++ [1])).map plD).length = (places r (pl ++ [1])).length := List.length_map ..
    rw [← nx] at n1
    rw [← ny] at n2
    rw [e] at wf ⊢
    clear e nx ny
    generalize (places l (pl ++ [0])).map plD = x at *
    generalize (places r (pl ++ [1])).map plD = y at *
    have ad2 := add_ref (S ++ [O.lst x, O.lst y, O.lst (x ++ y), O.lst [plD pl]]) (n := S.length + 2) (m := S.length + 3) (x := x ++ y) (y := [plD pl]) (by simp) (by simp) (by simp; omega)
    have tr := tidy_ref S (k := S.length + 4) (T := [O.lst x, O.lst y, O.lst (x ++ y), O.lst [plD pl], O.lst (x ++ y ++ [plD pl])]) (o := O.lst (x ++ y ++ [plD pl])) (by simp) (by omega) wf (by simp)
    simp at i2 ad ad2 tr
    simp [b__law_places, env0, Tr.D, i1, i2, p0, p1, ad, ad2, tr, line]
/-! ### a node -/
def ndB : FSs := (.cons (.asg 2 (.idx (.loc 2) (.bin .Add (.con (.int 3)) (.loc 3))))
    .nil)
theorem node_loop {cl : Orac} {S : Store} {a b : D} : ∀ (y : List Int) (p q : Pp) (v : Option D), p.at y = some q → ∃ v', forL (frB L.G cl (.nm 3) ndB none) (same none S) (y.map D.int) [some a, some b, some (pD p), v] S = .nx [some a, some b, some (pD q), v'] S
  | [], p, q, v, h => by
    have : p = q := by cases p <;> (simp [Tr.at] at h; exact h)
    subst this
    exact ⟨v, rfl⟩
  | x :: y, .wish _, q, v, h => by simp [Tr.at] at h
  | x :: y, .node n ln l r, q, v, h => by
    unfold Tr.at at h
    by_cases h0 : x = 0
    · subst h0
      rw [if_pos rfl] at h
      obtain ⟨v', e⟩ := node_loop (cl := cl) (S := S) (a := a) (b := b) y l q (some (.int 0)) h
      refine ⟨v', ?_⟩
      have body : frB L.G cl (.nm 3) ndB none (.int 0) [some a, some b, some (pD (Tr.node n ln l r)), v] S = .nx [some a, some b, some (pD l), some (.int 0)] S := by
        simp [frB, ndB, asgT, asgN, Tr.D]
      rw [List.map_cons, fl_nx body rfl, e]
    · rw [if_neg h0] at h
      by_cases h1 : x = 1
      · subst h1
        rw [if_pos rfl] at h
        obtain ⟨v', e⟩ := node_loop (cl := cl) (S := S) (a := a) (b := b) y r q (some (.int 1)) h
        refine ⟨v', ?_⟩
        have body : frB L.G cl (.nm 3) ndB none (.int 1) [some a, some b, some (pD (Tr.node n ln l r)), v] S = .nx [some a, some b, some (pD r), some (.int 1)] S := by
          simp [frB, ndB, asgT, asgN, Tr.D]
        rw [List.map_cons, fl_nx body rfl, e]
      · rw [if_neg h1] at h
        cases h
theorem node_ok {S : Store} {k : Nat} {p q : Pp} {y : List Int} (h : p.at y = some q) : callN L.G (k + 1) 20 [pD p, plD y] S = .ok (pD q) S := by
  rw [call_eq fns_20 rfl]
  obtain ⟨v', e⟩ := node_loop (cl := callN L.G k) (S := S) (a := pD p) (b := .tup (y.map D.int)) y p q none h
  unfold ndB at e
  simp [b__law_node, env0, plD, e]
/-! ### how large -/
def Tr.lin {α : Type} : Tr α → Nat
  | .wish _ => 0
  | .node _ ln l r => max ln.length (max l.lin r.lin)
theorem Tr.lin_sm {α : Type} : ∀ {t : Tr α}, t.lin ≤ 1000 → t.sm
  | .wish _, _ => trivial
  | .node _ ln l r, h => by
    simp only [Tr.lin] at h
    exact ⟨by omega, Tr.lin_sm (by omega), Tr.lin_sm (by omega)⟩
theorem at_le {α : Type} : ∀ {y : List Int} {p q : Tr α}, p.at y = some q → q.dep ≤ p.dep ∧ q.lv ≤ p.lv ∧ q.lin ≤ p.lin ∧ y.length ≤ p.dep
  | [], p, q, h => by
    have : p = q := by cases p <;> (simp [Tr.at] at h; exact h)
    subst this
    exact ⟨Nat.le_refl _, Nat.le_refl _, Nat.le_refl _, Nat.zero_le _⟩
  | x :: y, .wish _, q, h => by simp [Tr.at] at h
  | x :: y, .node n ln l r, q, h => by
    unfold Tr.at at h
    by_cases h0 : x = 0
    · rw [if_pos h0] at h
      have := at_le h
      simp only [Tr.dep, Tr.lv, Tr.lin, List.length_cons]
      omega
    · rw [if_neg h0] at h
      by_cases h1 : x = 1
      · rw [if_pos h1] at h
        have := at_le h
        simp only [Tr.dep, Tr.lv, Tr.lin, List.length_cons]
        omega
      · rw [if_neg h1] at h
        cases h
/-! ### put -/
theorem tail_cut {α : Type} (x : α) (xs : List α) : cutX (x :: xs) (some 1) none = xs := by
  unfold cutX sIx
  simp
theorem put_paper {S : Store} {c : Nat} : ∀ (y : List Int) (p q q2 : Pp) (k : Nat), p.at y = some q → q2.dep ≤ q.dep → q2.lv ≤ q.lv → q2.lin ≤ c → p.lin ≤ c → y.length ≤ k → ∃ p2 : Pp, p2.dep ≤ p.dep ∧ p2.lv ≤ p.lv ∧ p2.lin ≤ c ∧ callN L.G (k + 1) 21 [pD p, plD y, pD q2] S = .ok (pD p2) S
  | [], p, q, q2, k, h, h1, h2, h3, h4, h5 => by
    have : p = q := by cases p <;> (simp [Tr.at] at h; exact h)
    subst this
    refine ⟨q2, h1, h2, h3, ?_⟩
    rw [call_eq fns_21 rfl]
    simp [b__law_put, env0, plD, line]
  | x :: y, .wish _, q, q2, k, h, _, _, _, _, _ => by simp [Tr.at] at h
  | x :: y, .node n ln l r, q, q2, k, h, h1, h2, h3, h4, h5 => by
    unfold Tr.at at h
    simp only [Tr.lin] at h4
    rw [List.length_cons] at h5
    obtain ⟨k, rfl⟩ : ∃ j, k = j + 1 := ⟨k - 1, by omega⟩
    have tc := tail_cut (D.int x) (y.map D.int)
    have cut : cutD S (.tup (.int x :: y.map D.int)) (some 1) none = .ok (.tup (y.map D.int)) S := by rw [cutD, tc]
    have nz : ¬ ((y.length : Int) + 1 = 0) := by omega
    by_cases h0 : x = 0
    · subst h0
      rw [if_pos rfl] at h
      obtain ⟨p2, g1, g2, g3, e⟩ := put_paper (S := S) (c := c) y l q q2 k h h1 h2 h3 (by omega) (by omega)
      refine ⟨.node n ln p2 r, by simp only [Tr.dep]; omega, by simp only [Tr.lv]; omega, by simp only [Tr.lin]; omega, ?_⟩
      rw [call_eq fns_21 rfl]
      unfold plD at e
      simp [b__law_put, env0, Tr.D, plD, cut, nz, e, line]
    · rw [if_neg h0] at h
      by_cases h1' : x = 1
      · subst h1'
        rw [if_pos rfl] at h
        obtain ⟨p2, g1, g2, g3, e⟩ := put_paper (S := S) (c := c) y r q q2 k h h1 h2 h3 (by omega) (by omega)
        refine ⟨.node n ln l p2, by simp only [Tr.dep]; omega, by simp only [Tr.lv]; omega, by simp only [Tr.lin]; omega, ?_⟩
        rw [call_eq fns_21 rfl]
        unfold plD at e
        simp [b__law_put, env0, Tr.D, plD, cut, nz, e, line]
      · rw [if_neg h1'] at h
        cases h
end K13
set_option Elab.async false
set_option linter.all false
set_option autoImplicit false
set_option maxRecDepth 100000
set_option maxHeartbeats 4000000
/-! K13O: spoilt lines, spoilt nodes. -/
namespace K13
open Fx
theorem fns_22 : L.G.fns[22]? = some ⟨4, 9, b__law_spoilt_line⟩ := rfl
theorem fns_23 : L.G.fns[23]? = some ⟨5, 6, b__law_spoilt⟩ := rfl
def sl0 : FS := .asg 4 (.bin .Mod (.blt .int (.cons (.loc 3) .nil)) (.bin .Add (.blt .len (.cons (.loc 1) .nil)) (.con (.int 1))))
def sl1 : FS := .asg 5 (.bin .Add (.con (.int 1)) (.bin .Mod (.blt .int (.cons (.loc 3) .nil)) (.loc 0)))
def sl2 : FS := .asg 6 (.bin .Mod (.bin .FloorDiv (.loc 2) (.con (.int 10))) (.con (.int 6)))
def sl3 : FS := .ifs (.cmp .Eq (.loc 6) (.con (.int 0))) (.cons (.ret (.bin .Add (.cutH (.loc 1) (.loc 4)) (.cutL (.loc 1) (.bin .Add (.loc 4) (.con (.int 1)))))) .nil) .nil
def sl4 : FS := .ifs (.cmp .Eq (.loc 6) (.con (.int 1))) (.cons (.ret (.blt .tuple (.cons (.blt .sorted (.cons (.bin .Add (.lc [7] (.nm 7) (.seq (.loc 1)) .nil (.loc 7)) (.lst (.cons (.tup (.cons (.loc 5) (.cons (.bin .Mod (.bin .FloorDiv (.loc 3) (.con (.int 5))) (.con (.int 2))) .nil))) .nil))) .nil)) .nil))) .nil) .nil
def sl5 : FS := .ifs (.cmp .Eq (.loc 6) (.con (.int 2))) (.cons (.ret (.blt .tuple (.cons (.lc [7] (.nm 7) (.rev (.blt .list (.cons (.loc 1) .nil))) .nil (.loc 7)) .nil))) .nil) .nil
def sl6 : FS := .ifs (.cmp .Eq (.loc 6) (.con (.int 3))) (.cons (.ret (.bin .Add (.bin .Add (.cutH (.loc 1) (.loc 4)) (.cutL (.cutH (.loc 1) (.loc 4)) (.bin .Sub (.blt .len (.cons (.cutH (.loc 1) (.loc 4)) .nil)) (.con (.int 1))))) (.cutL (.loc 1) (.loc 4)))) .nil) .nil
def sl7 : FS := .ifs (.cmp .Eq (.loc 6) (.con (.int 4))) (.cons (.asg 8 (.idx (.lst (.cons (.tup (.cons (.con (.int 0)) (.cons (.con (.int 1)) .nil))) (.cons (.tup (.cons (.bin .Add (.loc 0) (.con (.int 1))) (.cons (.con (.int 0)) .nil))) (.cons (.tup (.cons (.loc 5) (.cons (.con (.int 2)) .nil))) (.cons (.tup (.cons (.loc 5) (.cons (.bin .Sub (.con (.int 0)) (.con (.int 1))) .nil))) (.cons (.tup (.cons (.bin .Add (.bin .Add (.loc 0) (.con (.int 1))) (.loc 3)) (.cons (.con (.int 1)) .nil))) .nil)))))) (.bin .Mod (.blt .int (.cons (.loc 3) .nil)) (.con (.int 5))))) (.cons (.ret (.bin .Add (.bin .Add (.cutH (.loc 1) (.loc 4)) (.tup (.cons (.loc 8) .nil))) (.cutL (.loc 1) (.loc 4)))) .nil)) .nil
def sl8 : FS := .ret (.blt .tuple (.cons (.lc [7] (.nm 7) (.seq (.loc 1)) .nil (.ite (.cmp .In (.loc 7) (.cut (.loc 1) (.loc 4) (.bin .Add (.loc 4) (.con (.int 1))))) (.tup (.cons (.idx (.loc 7) (.con (.int 0))) (.cons (.bin .Sub (.con (.int 1)) (.idx (.loc 7) (.con (.int 1)))) .nil))) (.loc 7))) .nil))
theorem sleq : b__law_spoilt_line = .cons sl0 (.cons sl1 (.cons sl2 (.cons sl3 (.cons sl4 (.cons sl5 (.cons sl6 (.cons sl7 (.cons sl8 .nil)))))))) := rfl
def so0 : FS := .ifs (.cmp .Eq (.idx (.loc 2) (.con (.int 0))) (.con (.str [119, 105, 115, 104]))) (.cons (.ret (.tup (.cons (.con (.str [119, 105, 115, 104])) (.cons (.idx (.lst (.cons (.bin .Add (.loc 1) (.loc 4)) (.cons (.bin .Sub (.bin .Sub (.con (.int 0)) (.con (.int 1))) (.loc 4)) (.cons (.bin .Mod (.blt .int (.cons (.loc 4) .nil)) (.loc 1)) (.cons (.loc 1) (.cons (.bin .Mod (.blt .int (.cons (.bin .Add (.loc 4) (.con (.int 1))) .nil)) (.loc 1)) .nil)))))) (.bin .Mod (.loc 3) (.con (.int 5)))) .nil)))) .nil) .nil
def so1 : FS := .asg 5 (.bin .Mod (.loc 3) (.con (.int 10)))
def so2 : FS := .ifs (.cmp .Eq (.loc 5) (.con (.int 0))) (.cons (.ret (.tup (.cons (.con (.str [102, 114, 111, 109])) (.cons (.idx (.lst (.cons (.con (.int 0)) (.cons (.bin .Sub (.bin .Sub (.con (.int 0)) (.con (.int 1))) (.loc 4)) (.cons (.bin .Add (.loc 0) (.con (.int 1))) (.cons (.bin .Add (.bin .Add (.loc 0) (.con (.int 1))) (.loc 4)) .nil))))) (.bin .Mod (.bin .FloorDiv (.loc 3) (.con (.int 10))) (.con (.int 4)))) (.cons (.idx (.loc 2) (.con (.int 2))) (.cons (.idx (.loc 2) (.con (.int 3))) (.cons (.idx (.loc 2) (.con (.int 4))) .nil))))))) .nil) .nil
def so3 : FS := .ifs (.cmp .Lt (.loc 5) (.con (.int 3))) (.cons (.ret (.tup (.cons (.con (.str [102, 114, 111, 109])) (.cons (.bin .Add (.con (.int 1)) (.bin .Mod (.blt .int (.cons (.loc 4) .nil)) (.loc 0))) (.cons (.idx (.loc 2) (.con (.int 2))) (.cons (.idx (.loc 2) (.con (.int 3))) (.cons (.idx (.loc 2) (.con (.int 4))) .nil))))))) .nil) .nil
def so4 : FS := .ifs (.cmp .Eq (.loc 5) (.con (.int 3))) (.cons (.ret (.tup (.cons (.con (.str [102, 114, 111, 109])) (.cons (.idx (.loc 2) (.con (.int 1))) (.cons (.idx (.loc 2) (.con (.int 2))) (.cons (.idx (.loc 2) (.con (.int 4))) (.cons (.idx (.loc 2) (.con (.int 3))) .nil))))))) .nil) .nil
def so5 : FS := .ifs (.cmp .Eq (.loc 5) (.con (.int 4))) (.cons (.ret (.idx (.loc 2) (.bin .Add (.con (.int 3)) (.bin .Mod (.loc 4) (.con (.int 2)))))) .nil) .nil
def so6 : FS := .ret (.tup (.cons (.con (.str [102, 114, 111, 109])) (.cons (.idx (.loc 2) (.con (.int 1))) (.cons (.call 22 (.cons (.loc 0) (.cons (.idx (.loc 2) (.con (.int 2))) (.cons (.loc 3) (.cons (.loc 4) .nil))))) (.cons (.idx (.loc 2) (.con (.int 3))) (.cons (.idx (.loc 2) (.con (.int 4))) .nil))))))
theorem soeq : b__law_spoilt = .cons so0 (.cons so1 (.cons so2 (.cons so3 (.cons so4 (.cons so5 (.cons so6 .nil)))))) := rfl
theorem cut_map {α β : Type} (f : α → β) (xs : List α) (lo hi : Option Int) : cutX (xs.map f) lo hi = (cutX xs lo hi).map f := by
  unfold cutX
  rw [List.length_map, List.map_take, List.map_drop]
@[simp] theorem cut_tup (S : Store) (xs : List D) (lo hi : Option Int) : cutD S (.tup xs) lo hi = .ok (.tup (cutX xs lo hi)) S := rfl
theorem cut_hi_len {α : Type} (xs : List α) (a : Nat) : (cutX xs none (some (a : Int))).length = min a xs.length := by
  unfold cutX sIx
  dsimp only
  rw [List.length_take, List.length_drop, if_neg (by omega)]
  omega
theorem cut_lo_len {α : Type} (xs : List α) (a : Nat) : (cutX xs (some (a : Int)) none).length = xs.length - a := by
  unfold cutX sIx
  dsimp only
  rw [List.length_take, List.length_drop, if_neg (by omega)]
  omega
theorem cut_last_len {α : Type} (xs : List α) : (cutX xs (some ((xs.length : Int) - 1)) none).length ≤ 1 := by
  unfold cutX sIx
  dsimp only
  rw [List.length_take, List.length_drop]
  split <;> omega
theorem words_of {cl : Orac} {S : Store} {ρ : Env} {ds : List D} {chk : Store → Bool} (hc : chk S = true) (i : Nat) (hi : i < ρ.length) (hl : ds.length ≤ line) : lcLoop (lcTurn [i] (.nm i) ρ (evs L.G cl none .nil).ts (ev L.G cl none (.loc i)).v) chk ds [] S = .ok ds S := by
  have turn : ∀ d ∈ ds, lcTurn [i] (.nm i) ρ (evs L.G cl none .nil).ts (ev L.G cl none (.loc i)).v d S = .ok (some d) S := fun d hd => by
    have h2 : i < (wipe ρ [i]).length := by simpa [wipe] using hi
    have h3 : ((wipe ρ [i]).set i (some d))[i]? = some (some d) := by rw [List.getElem?_set_self h2]
    have g : getL ((wipe ρ [i]).set i (some d)) i S = .ok d S := by unfold getL; rw [h3]
    simp [lcTurn, asgT, asgN, h2, g]
  have loop := lcLoop_map (chk := chk) (g := fun d => d) (S := S) hc (ds := ds) (acc := []) turn (by simpa using hl)
  rw [List.nil_append, List.map_id'] at loop
  exact loop
def turned (cs : Row) (w : Int × Int) : Int × Int := if w ∈ cs then (w.1, 1 - w.2) else w
def turnD (cs : Row) (d : D) : D := match d with
  | .tup [.int x, .int v] => wD (turned cs (x, v))
  | d => d
theorem line_ok {k n : Nat} (hn : 1 ≤ n) {S : Store} {ln : Row} (hl : ln.length ≤ 1000) {w o : Int} (ho : 0 ≤ o ∧ o < 60) : ∃ ln2 : Row, ln2.length ≤ ln.length + 1 ∧ callN L.G (k + 1) 22 [.int (n : Int), rD ln, .int w, .int o] S = .ok (rD ln2) S := by
  have big : (2000 : Nat) ≤ line := by decide
  obtain ⟨a, ae, al⟩ := fmod_small o (m := ln.length + 1) (by omega)
  obtain ⟨b, be, bl⟩ := fmod_small o (m := n) (by omega)
  obtain ⟨y, ye, yl⟩ := fmod_small (w.fdiv 10) (m := 6) (by decide)
  have ye : (w.fdiv 10).fmod 6 = (y : Int) := ye
  have ae : o.fmod ((ln.length : Int) + 1) = (a : Int) := by rw [← ae]; rfl
  have hll := len_row S ln
  generalize hcl : callN L.G k = cl
  have h0 : ex L.G cl sl0 none [some (.int (n : Int)), some (rD ln), some (.int w), some (.int o), none, none, none, none, none] S = .nx [some (.int (n : Int)), some (rD ln), some (.int w), some (.int o), some (.int (a : Int)), none, none, none, none] S := by
    unfold sl0
    have nz : ¬ ((ln.length : Int) + 1 = 0) := by omega
    simp [hll, nz, ae]
  have h1 : ex L.G cl sl1 none [some (.int (n : Int)), some (rD ln), some (.int w), some (.int o), some (.int (a : Int)), none, none, none, none] S = .nx [some (.int (n : Int)), some (rD ln), some (.int w), some (.int o), some (.int (a : Int)), some (.int (1 + (b : Int))), none, none, none] S := by
    unfold sl1
    have nz : ¬ (n = 0) := by omega
    simp [nz, be]
  have h2 : ex L.G cl sl2 none [some (.int (n : Int)), some (rD ln), some (.int w), some (.int o), some (.int (a : Int)), some (.int (1 + (b : Int))), none, none, none] S = .nx [some (.int (n : Int)), some (rD ln), some (.int w), some (.int o), some (.int (a : Int)), some (.int (1 + (b : Int))), some (.int (y : Int)), none, none] S := by
    unfold sl2
    simp [ye]
  have no : ∀ (j : Int) (s : FSs) (v : Option D), ¬ (y : Int) = j → ex L.G cl (.ifs (.cmp .Eq (.loc 6) (.con (.int j))) s .nil) none [some (.int (n : Int)), some (rD ln), some (.int w), some (.int o), some (.int (a : Int)), some (.int (1 + (b : Int))), some (.int (y : Int)), none, v] S = .nx [some (.int (n : Int)), some (rD ln), some (.int w), some (.int o), some (.int (a : Int)), some (.int (1 + (b : Int))), some (.int (y : Int)), none, v] S := fun j s v h => by
    simp [h]
  have fin : ∀ {r : Row} {T : Store}, tidy S (SR.ret (rD r) (S ++ T)).done = .ok (rD r) S := fun {r T} => tidy_row S T r
  have fin0 : ∀ {r : Row}, tidy S (SR.ret (rD r) S).done = .ok (rD r) S := fun {r} => tidy_same _ _
  rw [call_eq fns_22 rfl, sleq, hcl]
  show ∃ ln2 : Row, _ ∧ tidy S (exs L.G cl _ none [some (.int (n : Int)), some (rD ln), some (.int w), some (.int o), none, none, none, none, none] S).done = _
  rw [st h0, st h1, st h2]
  have eT : ∀ r : Row, rD r = .tup (r.map wD) := fun _ => rfl
  by_cases c0 : y = 0
  · have l1 := cut_hi_len ln a
    have l2 := cut_lo_len ln (a + 1)
    refine ⟨cutX ln none (some (a : Int)) ++ cutX ln (some ((a : Int) + 1)) none, ?_, ?_⟩
    · rw [List.length_append, l1]
      have : (cutX ln (some ((a : Int) + 1)) none).length = _ := l2
      omega
    · have g : ex L.G cl sl3 none [some (.int (n : Int)), some (rD ln), some (.int w), some (.int o), some (.int (a : Int)), some (.int (1 + (b : Int))), some (.int (y : Int)), none, none] S = .ret (rD (cutX ln none (some (a : Int)) ++ cutX ln (some ((a : Int) + 1)) none)) S := by
        unfold sl3
        have l3 : (cutX (ln.map wD) none (some (a : Int))).length + (cutX (ln.map wD) (some ((a : Int) + 1)) none).length ≤ 16777216 := by
          rw [cut_map, cut_map, List.length_map, List.length_map, l1]
          have : (cutX ln (some ((a : Int) + 1)) none).length = _ := l2
          omega
        simp only [eT, List.map_append, ← cut_map]
        subst c0
        simp [l3, line]
      rw [stR g, fin0]
  · have s3 : ex L.G cl sl3 none _ S = _ := no 0 _ none (by omega)
    rw [st s3]
    by_cases c1 : y = 1
    · subst c1
      refine ⟨sortR (ln ++ [(1 + (b : Int), (o.fdiv 5).fmod 2)]), ?_, ?_⟩
      · rw [(sortR_perm _).length_eq, List.length_append]; simp
      · have lc := words_lc (cl := cl) (S := S) (ρ := [some (.int (n : Int)), some (rD ln), some (.int w), some (.int o), some (.int (a : Int)), some (.int (1 + (b : Int))), some (.int 1), none, none]) (ln := ln) 7 (by simp) (by omega)
        have ad := add_new S (ln.map wD) [.tup [.int (1 + (b : Int)), .int ((o.fdiv 5).fmod 2)]] (by rw [List.length_map]; simp; omega)
        have e1 : ln.map wD ++ [.tup [.int (1 + (b : Int)), .int ((o.fdiv 5).fmod 2)]] = (ln ++ [(1 + (b : Int), (o.fdiv 5).fmod 2)]).map wD := by rw [List.map_append]; rfl
        have fs := f_sorted (S ++ [O.lst (ln.map wD), O.lst [.tup [.int (1 + (b : Int)), .int ((o.fdiv 5).fmod 2)]], O.lst (ln.map wD ++ [.tup [.int (1 + (b : Int)), .int ((o.fdiv 5).fmod 2)]])]) (n := S.length + 2) (xs := ln.map wD ++ [.tup [.int (1 + (b : Int)), .int ((o.fdiv 5).fmod 2)]]) (by unfold lstOf; simp) (by rw [e1]; exact can_rows _) (by rw [e1, List.length_map, List.length_append]; simp; omega)
        rw [show sortD (ln.map wD ++ [.tup [.int (1 + (b : Int)), .int ((o.fdiv 5).fmod 2)]]) = (sortR (ln ++ [(1 + (b : Int), (o.fdiv 5).fmod 2)])).map wD by rw [e1, sortR_map]] at fs
        have wf := fun m => rD_wf m (sortR (ln ++ [(1 + (b : Int), (o.fdiv 5).fmod 2)]))
        have g : ex L.G cl sl4 none [some (.int (n : Int)), some (rD ln), some (.int w), some (.int o), some (.int (a : Int)), some (.int (1 + (b : Int))), some (.int 1), none, none] S = .ret (rD (sortR (ln ++ [(1 + (b : Int), (o.fdiv 5).fmod 2)]))) S := by
          clear s3 no h0 h1 h2 fin fin0
          simp only [rD] at *
          clear e1
          generalize (sortR (ln ++ [(1 + (b : Int), (o.fdiv 5).fmod 2)])).map wD = zs at *
          generalize hys : ln.map wD ++ [.tup [.int (1 + (b : Int)), .int ((o.fdiv 5).fmod 2)]] = ys at *
          clear hys
          generalize hxs : ln.map wD = xs at *
          clear hxs
          have ft := f_tuple (S ++ [O.lst xs, O.lst [.tup [.int (1 + (b : Int)), .int ((o.fdiv 5).fmod 2)]], O.lst ys, O.lst zs]) (n := S.length + 3) (xs := zs) (by unfold lstOf; simp)
          have td := tidy_drop (S := S) (T := [O.lst xs, O.lst [.tup [.int (1 + (b : Int)), .int ((o.fdiv 5).fmod 2)]], O.lst ys, O.lst zs]) (wf _)
          simp at fs ad lc
          unfold sl4
          simp [lc, ad, fs, ft, td, line]
        have g : ex L.G cl sl4 none [some (.int (n : Int)), some (rD ln), some (.int w), some (.int o), some (.int (a : Int)), some (.int (1 + (b : Int))), some (.int ((1 : Nat) : Int)), none, none] S = _ := g
        rw [stR g, fin0]
    · have s4 : ex L.G cl sl4 none _ S = _ := no 1 _ none (by omega)
      rw [st s4]
      by_cases c2 : y = 2
      · subst c2
        refine ⟨ln.reverse, by rw [List.length_reverse]; omega, ?_⟩
        have lc := words_of (cl := cl) (S := S ++ [O.lst (ln.map wD)]) (ρ := [some (.int (n : Int)), some (rD ln), some (.int w), some (.int o), some (.int (a : Int)), some (.int (1 + (b : Int))), some (.int 2), none, none]) (ds := (ln.map wD).reverse) (chk := same (some S.length) (S ++ [O.lst (ln.map wD)])) (by simp) 7 (by simp) (by rw [List.length_reverse, List.length_map]; omega)
        have wf := fun m => rD_wf m ln.reverse
        have g : ex L.G cl sl5 none [some (.int (n : Int)), some (rD ln), some (.int w), some (.int o), some (.int (a : Int)), some (.int (1 + (b : Int))), some (.int 2), none, none] S = .ret (rD ln.reverse) S := by
          have er : (ln.reverse).map wD = (ln.map wD).reverse := List.map_reverse
          clear s3 s4 no h0 h1 h2 fin fin0
          simp only [rD, er] at *
          generalize ln.map wD = xs at *
          have fl := f_list S (d := .tup xs) (xs := xs) rfl
          have rv := revR_ok (S ++ [O.lst xs]) (lstOf_new S xs)
          generalize xs.reverse = ys at *
          have ft := f_tuple (S ++ [O.lst xs, O.lst ys]) (n := S.length + 1) (xs := ys) (by unfold lstOf; simp)
          have td := tidy_drop (S := S) (T := [O.lst xs, O.lst ys]) (wf _)
          unfold sl5
          simp [fl, rv, lc, ft, td]
        have g : ex L.G cl sl5 none [some (.int (n : Int)), some (rD ln), some (.int w), some (.int o), some (.int (a : Int)), some (.int (1 + (b : Int))), some (.int ((2 : Nat) : Int)), none, none] S = _ := g
        rw [stR g, fin0]
      · have s5 : ex L.G cl sl5 none _ S = _ := no 2 _ none (by omega)
        rw [st s5]
        by_cases c3 : y = 3
        · subst c3
          have l1 := cut_hi_len ln a
          have l2 := cut_lo_len ln a
          have l4 := cut_last_len (cutX ln none (some (a : Int)))
          have q1 : (cutX (ln.map wD) none (some (a : Int))).length = (cutX ln none (some (a : Int))).length := by rw [cut_map, List.length_map]
          have e3 : rD (cutX ln none (some (a : Int)) ++ cutX (cutX ln none (some (a : Int))) (some (((cutX ln none (some (a : Int))).length : Int) - 1)) none ++ cutX ln (some (a : Int)) none) = .tup (cutX (ln.map wD) none (some (a : Int)) ++ cutX (cutX (ln.map wD) none (some (a : Int))) (some (((cutX (ln.map wD) none (some (a : Int))).length : Int) - 1)) none ++ cutX (ln.map wD) (some (a : Int)) none) := by
            rw [q1]
            simp only [eT, List.map_append, ← cut_map]
          have t1 : (cutX (ln.map wD) none (some (a : Int))).length + (cutX (cutX (ln.map wD) none (some (a : Int))) (some (((cutX (ln.map wD) none (some (a : Int))).length : Int) - 1)) none).length ≤ 16777216 := by
            rw [q1]
            simp only [cut_map, List.length_map]
            omega
          have t2 : (cutX (ln.map wD) none (some (a : Int))).length + (cutX (cutX (ln.map wD) none (some (a : Int))) (some (((cutX (ln.map wD) none (some (a : Int))).length : Int) - 1)) none).length + (cutX (ln.map wD) (some (a : Int)) none).length ≤ 16777216 := by
            rw [q1]
            simp only [cut_map, List.length_map]
            omega
          refine ⟨cutX ln none (some (a : Int)) ++ cutX (cutX ln none (some (a : Int))) (some (((cutX ln none (some (a : Int))).length : Int) - 1)) none ++ cutX ln (some (a : Int)) none, ?_, ?_⟩
          · rw [List.length_append, List.length_append]
            omega
          · have g : ex L.G cl sl6 none [some (.int (n : Int)), some (rD ln), some (.int w), some (.int o), some (.int (a : Int)), some (.int (1 + (b : Int))), some (.int 3), none, none] S = .ret (rD (cutX ln none (some (a : Int)) ++ cutX (cutX ln none (some (a : Int))) (some (((cutX ln none (some (a : Int))).length : Int) - 1)) none ++ cutX ln (some (a : Int)) none)) S := by
              rw [e3]
              clear s3 s4 s5 no h0 h1 h2 fin fin0 e3 q1 l1 l2 l4
              simp only [rD] at *
              have t2' : (cutX (ln.map wD) none (some (a : Int))).length + ((cutX (cutX (ln.map wD) none (some (a : Int))) (some (((cutX (ln.map wD) none (some (a : Int))).length : Int) - 1)) none).length + (cutX (ln.map wD) (some (a : Int)) none).length) ≤ 16777216 := by omega
              unfold sl6
              simp [t1, t2, t2', line]
            have g : ex L.G cl sl6 none [some (.int (n : Int)), some (rD ln), some (.int w), some (.int o), some (.int (a : Int)), some (.int (1 + (b : Int))), some (.int ((3 : Nat) : Int)), none, none] S = _ := g
            rw [stR g, fin0]
        · have s6 : ex L.G cl sl6 none _ S = _ := no 3 _ none (by omega)
          rw [st s6]
          by_cases c4 : y = 4
          · subst c4
            obtain ⟨x, xe, xl⟩ := fmod_small o (m := 5) (by decide)
            have xe : o.fmod 5 = (x : Int) := xe
            obtain ⟨z, hz⟩ : ∃ z : Int × Int, atI [wD (0, 1), wD ((n : Int) + 1, 0), wD (1 + (b : Int), 2), wD (1 + (b : Int), 0 - 1), wD ((n : Int) + 1 + o, 1)] (x : Int) = some (wD z) := by
              match x, xl with
              | 0, _ => exact ⟨_, at_0 _ _⟩
              | 1, _ => exact ⟨_, at_1 _ _ _⟩
              | 2, _ => exact ⟨_, at_2 _ _ _ _⟩
              | 3, _ => exact ⟨_, at_3 _ _ _ _ _⟩
              | 4, _ => exact ⟨_, at_4 _ _ _ _ _ _⟩
            have l1 := cut_hi_len ln a
            have l2 := cut_lo_len ln a
            have t1 : (cutX (ln.map wD) none (some (a : Int))).length + 1 ≤ 16777216 := by
              rw [cut_map, List.length_map]
              omega
            have t2 : (cutX (ln.map wD) none (some (a : Int))).length + 1 + (cutX (ln.map wD) (some (a : Int)) none).length ≤ 16777216 := by
              simp only [cut_map, List.length_map]
              omega
            have e3 : rD (cutX ln none (some (a : Int)) ++ [z] ++ cutX ln (some (a : Int)) none) = .tup (cutX (ln.map wD) none (some (a : Int)) ++ [wD z] ++ cutX (ln.map wD) (some (a : Int)) none) := by
              simp only [eT, List.map_append, ← cut_map]
              rfl
            refine ⟨cutX ln none (some (a : Int)) ++ [z] ++ cutX ln (some (a : Int)) none, ?_, ?_⟩
            · rw [List.length_append, List.length_append, List.length_singleton]
              omega
            · have g : ex L.G cl sl7 none [some (.int (n : Int)), some (rD ln), some (.int w), some (.int o), some (.int (a : Int)), some (.int (1 + (b : Int))), some (.int 4), none, none] S = .ret (rD (cutX ln none (some (a : Int)) ++ [z] ++ cutX ln (some (a : Int)) none)) S := by
                rw [e3]
                clear s3 s4 s5 s6 no h0 h1 h2 fin fin0 e3 l1 l2
                simp only [rD] at *
                have t3 : (cutX (ln.map wD) none (some (a : Int))).length ≤ 16777215 := by omega
                have t2' : (cutX (ln.map wD) none (some (a : Int))).length + ((cutX (ln.map wD) (some (a : Int)) none).length + 1) ≤ 16777216 := by omega
                have td := tidy_drop (S := S) (T := [O.lst [wD (0, 1), wD ((n : Int) + 1, 0), wD (1 + (b : Int), 2), wD (1 + (b : Int), 0 - 1), wD ((n : Int) + 1 + o, 1)]]) (wD_wf S.length z)
                simp only [wD] at hz td
                simp at hz td
                unfold sl7
                simp [xe, hz, td, t1, t2, t3, t2', line]
                rfl
              have g : ex L.G cl sl7 none [some (.int (n : Int)), some (rD ln), some (.int w), some (.int o), some (.int (a : Int)), some (.int (1 + (b : Int))), some (.int ((4 : Nat) : Int)), none, none] S = _ := g
              rw [stR g, fin0]
          · have s7 : ex L.G cl sl7 none _ S = _ := no 4 _ none (by omega)
            rw [st s7]
            have turn : ∀ d ∈ ln.map wD, lcTurn [7] (.nm 7) [some (.int (n : Int)), some (rD ln), some (.int w), some (.int o), some (.int (a : Int)), some (.int (1 + (b : Int))), some (.int (y : Int)), none, none] (evs L.G cl none .nil).ts (ev L.G cl none (.ite (.cmp .In (.loc 7) (.cut (.loc 1) (.loc 4) (.bin .Add (.loc 4) (.con (.int 1))))) (.tup (.cons (.idx (.loc 7) (.con (.int 0))) (.cons (.bin .Sub (.con (.int 1)) (.idx (.loc 7) (.con (.int 1)))) .nil))) (.loc 7))).v d S = .ok (some (turnD (cutX ln (some (a : Int)) (some ((a : Int) + 1))) d)) S := fun d hd => by
              obtain ⟨u, hu, rfl⟩ := List.mem_map.mp hd
              have inn := in_nb S (a := wD u) (b := .tup (cutX (ln.map wD) (some (a : Int)) (some ((a : Int) + 1)))) (seq_tup S _) (wD_nb u) (by rw [cut_map]; exact wDs_nb _) (by simp) (by rw [cut_map]; have := wDs_dep (cutX ln (some (a : Int)) (some ((a : Int) + 1))); omega)
              have i0 : idxD S (wD u) (.int 0) = some (.int u.1) := by simp [wD]
              have i1 : idxD S (wD u) (.int 1) = some (.int u.2) := by simp [wD]
              have tD : turnD (cutX ln (some (a : Int)) (some ((a : Int) + 1))) (wD u) = wD (turned (cutX ln (some (a : Int)) (some ((a : Int) + 1))) u) := rfl
              rw [tD]
              unfold turned
              by_cases q : u ∈ cutX ln (some (a : Int)) (some ((a : Int) + 1))
              · rw [if_pos q]
                rw [decide_eq_true (by rw [cut_map]; exact wD_mem.mpr q)] at inn
                simp [lcTurn, wipe, asgT, asgN, rD, inn, i0, i1, line]
                rfl
              · rw [if_neg q]
                rw [decide_eq_false (by rw [cut_map]; exact mt wD_mem.mp q)] at inn
                simp [lcTurn, wipe, asgT, asgN, rD, inn, i0, i1, line]
            have loop := lcLoop_map (chk := same none S) (S := S) rfl (ds := ln.map wD) (acc := []) turn (by simp; omega)
            rw [List.nil_append, List.map_map] at loop
            have loop : _ = R.ok (ln.map (wD ∘ turned (cutX ln (some (a : Int)) (some ((a : Int) + 1))))) S := loop
            rw [← List.map_map] at loop
            refine ⟨ln.map (turned (cutX ln (some (a : Int)) (some ((a : Int) + 1)))), by rw [List.length_map]; omega, ?_⟩
            have wf := fun m => rD_wf m (ln.map (turned (cutX ln (some (a : Int)) (some ((a : Int) + 1)))))
            have g : ex L.G cl sl8 none [some (.int (n : Int)), some (rD ln), some (.int w), some (.int o), some (.int (a : Int)), some (.int (1 + (b : Int))), some (.int (y : Int)), none, none] S = .ret (rD (ln.map (turned (cutX ln (some (a : Int)) (some ((a : Int) + 1)))))) S := by
              clear s3 s4 s5 s6 s7 no h0 h1 h2 fin fin0 turn
              simp only [rD] at *
              generalize (ln.map (turned (cutX ln (some (a : Int)) (some ((a : Int) + 1))))).map wD = zs at *
              generalize ln.map wD = xs at *
              have ft := f_tuple (S ++ [O.lst zs]) (n := S.length) (xs := zs) (by unfold lstOf; simp)
              have td := tidy_drop (S := S) (T := [O.lst zs]) (wf _)
              unfold sl8
              simp [loop, ft, td]
            rw [stR g, fin0]
theorem spoilt_ok {k n m : Nat} (hm : 1 ≤ m) {S : Store} {q : Pp} (hn : 1 ≤ q.dep → 1 ≤ n) (hl : q.lin ≤ 1000) {w o : Int} (ho : 0 ≤ o ∧ o < 60) : ∃ q2 : Pp, q2.dep ≤ q.dep ∧ q2.lv ≤ q.lv ∧ q2.lin ≤ q.lin + 1 ∧ callN L.G (k + 2) 23 [.int (n : Int), .int (m : Int), pD q, .int w, .int o] S = .ok (pD q2) S := by
  have big : (2000 : Nat) ≤ line := by decide
  cases q with
  | wish i =>
    obtain ⟨a, ae, al⟩ := fmod_small o (m := m) hm
    obtain ⟨b, be, bl⟩ := fmod_small (o + 1) (m := m) hm
    obtain ⟨x, xe, xl⟩ := fmod_small w (m := 5) (by decide)
    have xe : w.fmod 5 = (x : Int) := xe
    have nz : ¬ m = 0 := by omega
    obtain ⟨z, hz⟩ : ∃ z : Int, atI [D.int ((m : Int) + o), D.int (-1 - o), D.int (a : Int), D.int (m : Int), D.int (b : Int)] (x : Int) = some (.int z) := by
      match x, xl with
      | 0, _ => exact ⟨_, at_0 _ _⟩
      | 1, _ => exact ⟨_, at_1 _ _ _⟩
      | 2, _ => exact ⟨_, at_2 _ _ _ _⟩
      | 3, _ => exact ⟨_, at_3 _ _ _ _ _⟩
      | 4, _ => exact ⟨_, at_4 _ _ _ _ _ _⟩
    have td := tidy_drop (S := S) (T := [O.lst [D.int ((m : Int) + o), D.int (-1 - o), D.int (a : Int), D.int (m : Int), D.int (b : Int)]]) (d := .tup [.str sWish, .int z]) (by simp [D.wf, D.wfs])
    refine ⟨.wish z, Nat.le_refl _, Nat.le_refl _, Nat.zero_le _, ?_⟩
    rw [call_eq fns_23 rfl]
    try simp at hz
    try simp at td
    simp [b__law_spoilt, env0, Tr.D, nz, ae, be, xe, hz, td, line]
  | node a ln l r =>
    have hn : 1 ≤ n := hn (by simp only [Tr.dep]; omega)
    simp only [Tr.lin] at hl
    have nz : ¬ n = 0 := by omega
    obtain ⟨y, ye, yl⟩ := fmod_small w (m := 10) (by decide)
    have ye : w.fmod 10 = (y : Int) := ye
    generalize hcl : callN L.G (k + 1) = cl
    rw [call_eq fns_23 rfl, soeq, hcl]
    show ∃ q2 : Pp, _ ∧ _ ∧ _ ∧ tidy S (exs L.G cl _ none [some (.int (n : Int)), some (.int (m : Int)), some (pD (Tr.node a ln l r)), some (.int w), some (.int o), none] S).done = _
    have h0 : ex L.G cl so0 none [some (.int (n : Int)), some (.int (m : Int)), some (pD (Tr.node a ln l r)), some (.int w), some (.int o), none] S = .nx [some (.int (n : Int)), some (.int (m : Int)), some (pD (Tr.node a ln l r)), some (.int w), some (.int o), none] S := by
      unfold so0
      simp [Tr.D]
    have h1 : ex L.G cl so1 none [some (.int (n : Int)), some (.int (m : Int)), some (pD (Tr.node a ln l r)), some (.int w), some (.int o), none] S = .nx [some (.int (n : Int)), some (.int (m : Int)), some (pD (Tr.node a ln l r)), some (.int w), some (.int o), some (.int (y : Int))] S := by
      unfold so1
      simp [ye]
    have fin0 : ∀ {p : Pp}, tidy S (SR.ret (pD p) S).done = .ok (pD p) S := fun {p} => tidy_same _ _
    have node : ∀ a ln (l r : Pp), pD (Tr.node a ln l r) = .tup [.str sFrom, .int a, rD ln, pD l, pD r] := fun _ _ _ _ => rfl
    rw [st h0, st h1]
    show ∃ q2 : Pp, _ ∧ _ ∧ _ ∧ tidy S (exs L.G cl _ none [some (.int (n : Int)), some (.int (m : Int)), some (.tup [.str sFrom, .int a, rD ln, pD l, pD r]), some (.int w), some (.int o), some (.int (y : Int))] S).done = _
    by_cases c0 : y = 0
    · obtain ⟨x, xe, xl⟩ := fmod_small (w.fdiv 10) (m := 4) (by decide)
      have xe : (w.fdiv 10).fmod 4 = (x : Int) := xe
      obtain ⟨z, hz⟩ : ∃ z : Int, atI [D.int 0, D.int (-1 - o), D.int ((n : Int) + 1), D.int ((n : Int) + 1 + o)] (x : Int) = some (.int z) := by
        match x, xl with
        | 0, _ => exact ⟨_, at_0 _ _⟩
        | 1, _ => exact ⟨_, at_1 _ _ _⟩
        | 2, _ => exact ⟨_, at_2 _ _ _ _⟩
        | 3, _ => exact ⟨_, at_3 _ _ _ _ _⟩
      have wfp : ∀ (i : Nat) (p : Pp), (pD p).wf i = true := fun i p => by
        induction p with
        | wish j => simp [Tr.D, D.wf, D.wfs]
        | node a ln l r il ir => simp only [pD] at il ir; simp [Tr.D, D.wf, D.wfs, rD_wf, il, ir]
      have td := tidy_drop (S := S) (T := [O.lst [D.int 0, D.int (-1 - o), D.int ((n : Int) + 1), D.int ((n : Int) + 1 + o)]]) (d := .tup [.str sFrom, .int z, rD ln, pD l, pD r]) (wfp _ (.node z ln l r))
      refine ⟨.node z ln l r, Nat.le_refl _, Nat.le_refl _, by simp only [Tr.lin]; omega, ?_⟩
      have g : ex L.G cl so2 none [some (.int (n : Int)), some (.int (m : Int)), some (.tup [.str sFrom, .int a, rD ln, pD l, pD r]), some (.int w), some (.int o), some (.int (y : Int))] S = .ret (pD (.node z ln l r)) S := by
        subst c0
        unfold so2
        try simp at hz
        try simp at td
        simp [xe, hz, td, line, Tr.D]
      rw [stR g, fin0]
    · have h2 : ex L.G cl so2 none [some (.int (n : Int)), some (.int (m : Int)), some (.tup [.str sFrom, .int a, rD ln, pD l, pD r]), some (.int w), some (.int o), some (.int (y : Int))] S = .nx [some (.int (n : Int)), some (.int (m : Int)), some (.tup [.str sFrom, .int a, rD ln, pD l, pD r]), some (.int w), some (.int o), some (.int (y : Int))] S := by
        unfold so2
        simp [c0]
      rw [st h2]
      by_cases c1 : y < 3
      · obtain ⟨b, be, bl⟩ := fmod_small o (m := n) hn
        refine ⟨.node (1 + (b : Int)) ln l r, Nat.le_refl _, Nat.le_refl _, by simp only [Tr.lin]; omega, ?_⟩
        have g : ex L.G cl so3 none [some (.int (n : Int)), some (.int (m : Int)), some (.tup [.str sFrom, .int a, rD ln, pD l, pD r]), some (.int w), some (.int o), some (.int (y : Int))] S = .ret (pD (.node (1 + (b : Int)) ln l r)) S := by
          have c1' : (y : Int) < 3 := by omega
          unfold so3
          simp [c1', be, nz, line, Tr.D]
        rw [stR g, fin0]
      · have h3 : ex L.G cl so3 none [some (.int (n : Int)), some (.int (m : Int)), some (.tup [.str sFrom, .int a, rD ln, pD l, pD r]), some (.int w), some (.int o), some (.int (y : Int))] S = .nx [some (.int (n : Int)), some (.int (m : Int)), some (.tup [.str sFrom, .int a, rD ln, pD l, pD r]), some (.int w), some (.int o), some (.int (y : Int))] S := by
          have c1' : ¬ (y : Int) < 3 := by omega
          unfold so3
          simp [c1']
        rw [st h3]
        by_cases c3 : y = 3
        · refine ⟨.node a ln r l, by simp only [Tr.dep]; omega, by simp only [Tr.lv]; omega, by simp only [Tr.lin]; omega, ?_⟩
          have g : ex L.G cl so4 none [some (.int (n : Int)), some (.int (m : Int)), some (.tup [.str sFrom, .int a, rD ln, pD l, pD r]), some (.int w), some (.int o), some (.int (y : Int))] S = .ret (pD (.node a ln r l)) S := by
            subst c3
            unfold so4
            simp [line, Tr.D]
          rw [stR g, fin0]
        · have h4 : ex L.G cl so4 none [some (.int (n : Int)), some (.int (m : Int)), some (.tup [.str sFrom, .int a, rD ln, pD l, pD r]), some (.int w), some (.int o), some (.int (y : Int))] S = .nx [some (.int (n : Int)), some (.int (m : Int)), some (.tup [.str sFrom, .int a, rD ln, pD l, pD r]), some (.int w), some (.int o), some (.int (y : Int))] S := by
            have c3' : ¬ (y : Int) = 3 := by omega
            unfold so4
            simp [c3']
          rw [st h4]
          by_cases c4 : y = 4
          · subst c4
            obtain ⟨b, be, bl⟩ := fmod_small o (m := 2) (by decide)
            have be : o.fmod 2 = (b : Int) := be
            have : b = 0 ∨ b = 1 := by omega
            rcases this with rfl | rfl
            · refine ⟨l, by simp only [Tr.dep]; omega, by simp only [Tr.lv]; omega, by simp only [Tr.lin]; omega, ?_⟩
              have g : ex L.G cl so5 none [some (.int (n : Int)), some (.int (m : Int)), some (.tup [.str sFrom, .int a, rD ln, pD l, pD r]), some (.int w), some (.int o), some (.int ((4 : Nat) : Int))] S = .ret (pD l) S := by
                unfold so5
                simp [be]
              rw [stR g, fin0]
            · refine ⟨r, by simp only [Tr.dep]; omega, by simp only [Tr.lv]; omega, by simp only [Tr.lin]; omega, ?_⟩
              have g : ex L.G cl so5 none [some (.int (n : Int)), some (.int (m : Int)), some (.tup [.str sFrom, .int a, rD ln, pD l, pD r]), some (.int w), some (.int o), some (.int ((4 : Nat) : Int))] S = .ret (pD r) S := by
                unfold so5
                simp [be]
              rw [stR g, fin0]
          · have h5 : ex L.G cl so5 none [some (.int (n : Int)), some (.int (m : Int)), some (.tup [.str sFrom, .int a, rD ln, pD l, pD r]), some (.int w), some (.int o), some (.int (y : Int))] S = .nx [some (.int (n : Int)), some (.int (m : Int)), some (.tup [.str sFrom, .int a, rD ln, pD l, pD r]), some (.int w), some (.int o), some (.int (y : Int))] S := by
              have c4' : ¬ (y : Int) = 4 := by omega
              unfold so5
              simp [c4']
            rw [st h5]
            obtain ⟨ln2, n2, e⟩ := line_ok (k := k) hn (S := S) (ln := ln) (by omega) (w := w) ho
            rw [hcl] at e
            refine ⟨.node a ln2 l r, Nat.le_refl _, Nat.le_refl _, by simp only [Tr.lin]; omega, ?_⟩
            have g : ex L.G cl so6 none [some (.int (n : Int)), some (.int (m : Int)), some (.tup [.str sFrom, .int a, rD ln, pD l, pD r]), some (.int w), some (.int o), some (.int (y : Int))] S = .ret (pD (.node a ln2 l r)) S := by
              unfold so6
              simp [e, line, Tr.D]
            rw [stR g, fin0]
end K13
set_option Elab.async false
set_option linter.all false
set_option autoImplicit false
set_option maxRecDepth 100000
set_option maxHeartbeats 4000000
/-! K13P: rows of wishes in order. -/
namespace K13
open Fx
theorem fns_4' : L.G.fns[4]? = some ⟨1, 3, b_plain_row⟩ := rfl
theorem sortR_self {n : Int} : ∀ {r : Row} {l : Int}, rowOk n l r = true → sortR r = r
  | [], _, _ => rfl
  | [w], _, _ => rfl
  | w :: y :: r, l, h => by
    unfold rowOk at h
    simp only [Bool.and_eq_true] at h
    have ih := sortR_self h.2
    rw [sortR, ih, insR]
    have h2 := h.2
    unfold rowOk at h2
    simp only [Bool.and_eq_true, decide_eq_true_eq] at h2
    have lt : w.1 < y.1 := h2.1.1.1
    have ne : ¬ D.int w.1 = D.int y.1 := fun z => by injection z; omega
    rw [if_pos (by simp [wD, D.lt, D.lts, ne, lt])]
theorem plain_ok {k : Nat} {S : Store} {j : Nat} {n : Int} {r : Row} (hj : lstOf S j = some (r.map wD)) (hr : rowOk n 0 r = true) (hl : r.length ≤ 1000) : callN L.G (k + 1) 4 [.ref j] S = .ok (rD r) S := by
  have big : (2000 : Nat) ≤ line := by decide
  rw [call_eq fns_4 rfl]
  have sq := seqI_ref S hj
  have turn : ∀ d ∈ r.map wD, lcTurn [1, 2] (.tp [1, 2]) [some (.ref j), none, none] (evs L.G (callN L.G k) none .nil).ts (ev L.G (callN L.G k) none (.tup (.cons (.loc 1) (.cons (.loc 2) .nil)))).v d S = .ok (some d) S := fun d hd => by
    obtain ⟨w, hw, rfl⟩ := List.mem_map.mp hd
    simp [lcTurn, wipe, asgT, asgNs, asgN, wD, line]
  have loop := lcLoop_map (chk := same (some j) S) (g := fun d => d) (S := S) (by simp) (ds := r.map wD) (acc := []) turn (by simp; omega)
  rw [List.nil_append, List.map_id'] at loop
  have fs := f_sorted (S ++ [O.lst (r.map wD)]) (n := S.length) (xs := r.map wD) (by unfold lstOf; simp) (can_rows r) (by rw [List.length_map]; omega)
  rw [sortR_map, sortR_self hr] at fs
  have wf := fun m => rD_wf m r
  unfold rD at wf ⊢
  generalize r.map wD = xs at *
  have ft := f_tuple (S ++ [O.lst xs, O.lst xs]) (n := S.length + 1) (xs := xs) (by unfold lstOf; simp)
  have td := tidy_drop (S := S) (T := [O.lst xs, O.lst xs]) (wf _)
  simp at fs
  simp [b_plain_row, env0, sq, loop, fs, ft, td]
theorem rowOk_le {n m l : Int} {r : Row} (h : rowOk n l r = true) (hm : n ≤ m) : rowOk m l r = true := by
  rw [rowOk_iff] at h ⊢
  exact ⟨h.1, fun w hw => by have := h.2 w hw; exact ⟨this.1, by omega, this.2.2⟩⟩
/-! ### lists of rows -/
theorem alikes_rows : ∀ x y : Row, D.alikes (x.map wD) (y.map wD) = true
  | [], _ => by cases ‹Row› <;> rfl
  | _ :: _, [] => rfl
  | a :: x, b :: y => by
    rw [List.map_cons, List.map_cons, D.alikes, alikes_rows x y]
    rfl
theorem alike_rows (x y : Row) : D.alike (rD x) (rD y) = true := alikes_rows x y
theorem al_rws (rs : List Row) : Al (rs.map rD) := by
  intro a ha b hb
  obtain ⟨x, _, rfl⟩ := List.mem_map.mp ha
  obtain ⟨y, _, rfl⟩ := List.mem_map.mp hb
  exact alike_rows x y
theorem can_rws (rs : List Row) : canSortB (rs.map rD) = true := by
  unfold canSortB
  have h1 := rows_nb rs
  have h2 := rows_dep rs
  have h3 := al_rws rs
  unfold Al at h3
  simp only [Bool.and_eq_true, Bool.or_eq_true, List.all_eq_true, decide_eq_true_eq]
  exact ⟨⟨⟨h1, h3⟩, by omega⟩, .inl fun x hx => by obtain ⟨w, _, rfl⟩ := List.mem_map.mp hx; rfl⟩
theorem rows_of {rs : List Row} : ∀ {ds : List D}, (∀ d ∈ ds, d ∈ rs.map rD) → ∃ qs : List Row, ds = qs.map rD
  | [], _ => ⟨[], rfl⟩
  | d :: ds, h => by
    obtain ⟨q, _, rfl⟩ := List.mem_map.mp (h d (List.mem_cons_self ..))
    obtain ⟨qs, rfl⟩ := rows_of (ds := ds) fun x hx => h x (List.mem_cons_of_mem _ hx)
    exact ⟨q :: qs, rfl⟩
theorem mem_rD {r : Row} {rs : List Row} : rD r ∈ rs.map rD ↔ r ∈ rs := by
  constructor
  · intro h
    obtain ⟨q, hq, e⟩ := List.mem_map.mp h
    rwa [← rD_inj e]
  · exact fun h => List.mem_map.mpr ⟨r, h, rfl⟩
abbrev leR (a b : Row) : Prop := leD (rD a) (rD b) = true
theorem sort_rows (rs : List Row) : ∃ qs : List Row, sortD (rs.map rD) = qs.map rD ∧ (∀ r, r ∈ qs ↔ r ∈ rs) ∧ qs.Pairwise leR ∧ qs.length = rs.length := by
  have pm := sortD_perm (rs.map rD)
  obtain ⟨qs, e⟩ := rows_of (rs := rs) fun d hd => pm.mem_iff.mp hd
  refine ⟨qs, e, fun r => ?_, ?_, ?_⟩
  · rw [← mem_rD, ← e, pm.mem_iff, mem_rD]
  · have s := sortD_sorted (al_rws rs)
    rw [e, List.pairwise_map] at s
    exact s
  · have := pm.length_eq
    rw [e, List.length_map, List.length_map] at this
    exact this
theorem leR_anti {a b : Row} (h1 : leR a b) (h2 : leR b a) : a = b := rD_inj (leD_anti (alike_rows a b) (alike_rows b a) h1 h2)
theorem at_last {α : Type} (ys : List α) (z : α) : atI (ys ++ [z]) (-1) = some z := by
  unfold atI ixN
  rw [if_neg (by omega), List.length_append, List.length_singleton, if_pos (by omega)]
  show (ys ++ [z])[((-1 : Int) + ((ys.length + 1 : Nat) : Int)).toNat]? = _
  rw [show ((-1 : Int) + ((ys.length + 1 : Nat) : Int)).toNat = ys.length by omega]
  simp
/-! ### each once -/
def onB : FSs := (.cons (.ifs (.or (.cons (.cmp .Eq (.blt .len (.cons (.loc 9) .nil)) (.con (.int 0))) (.cons (.cmp .NotEq (.idx (.loc 9) (.neg (.con (.int 1)))) (.loc 10)) .nil))) (.cons (.expr (.mth .append (.loc 9) (.cons (.loc 10) .nil)))
    .nil) .nil)
    .nil)
structure Dis (qs W : List Row) : Prop where
  st : W.Pairwise fun a b => leR a b ∧ a ≠ b
  mem : ∀ r, r ∈ W ↔ r ∈ qs
  last : W.getLast? = qs.getLast?
  le : W.length ≤ qs.length
theorem Dis.nil : Dis [] [] := ⟨List.Pairwise.nil, fun _ => Iff.rfl, rfl, Nat.le_refl _⟩
theorem Dis.add {qs W : List Row} {q : Row} (d : Dis qs W) (h : W.getLast? ≠ some q) (hq : ∀ x ∈ qs, leR x q) (hs : qs.Pairwise leR) : Dis (qs ++ [q]) (W ++ [q]) := by
  refine ⟨?_, fun r => by simp [d.mem], by simp, by simp [d.le]⟩
  rw [List.pairwise_append]
  refine ⟨d.st, List.pairwise_singleton _ _, fun a ha b hb => ?_⟩
  rw [List.mem_singleton] at hb
  subst hb
  refine ⟨hq a ((d.mem a).mp ha), fun e => ?_⟩
  subst e
  cases hl : W.getLast? with
  | none => rw [List.getLast?_eq_none_iff.mp hl] at ha; cases ha
  | some z =>
    obtain ⟨ys, e⟩ := List.getLast?_eq_some_iff.mp hl
    have st := d.st
    rw [e, List.pairwise_append] at st
    rw [e] at ha
    rcases List.mem_append.mp ha with q | q
    · have l1 := (st.2.2 a q z (List.mem_singleton_self z))
      have l2 := hq z ((d.mem z).mp (by rw [e]; simp))
      exact l1.2 (leR_anti l1.1 l2)
    · rw [List.mem_singleton] at q
      exact h (by rw [hl, q])
theorem Dis.keep {qs W : List Row} {q : Row} (d : Dis qs W) (h : W.getLast? = some q) : Dis (qs ++ [q]) W := by
  refine ⟨d.st, fun r => ?_, by rw [h]; simp, by have := d.le; simp; omega⟩
  rw [List.mem_append, List.mem_singleton, d.mem]
  refine ⟨.inl, ?_⟩
  rintro (e | e)
  · exact e
  · subst e
    rw [d.last] at h
    exact List.mem_of_getLast? h
theorem once_loop {cl : Orac} {S : Store} {e0 e1 e2 e3 e4 e5 e6 e7 e8 e11 e12 e13 e14 e15 e16 e17 e18 e19 e20 : Option D} {qs : List Row} (hs : qs.Pairwise leR) (hl : qs.length ≤ 1000) {g : Option Nat} (hg : ∀ T, same g (S ++ [O.lst []]) (S ++ T) = true) : ∃ W v, Dis qs W ∧
    forL (frB L.G cl (.nm 10) onB none) (same g (S ++ [O.lst []])) (qs.map rD) [e0, e1, e2, e3, e4, e5, e6, e7, e8, some (.ref S.length), none, e11, e12, e13, e14, e15, e16, e17, e18, e19, e20] (S ++ [O.lst []]) = .nx [e0, e1, e2, e3, e4, e5, e6, e7, e8, some (.ref S.length), v, e11, e12, e13, e14, e15, e16, e17, e18, e19, e20] (S ++ [O.lst (W.map rD)]) := by
  have big : (2000 : Nat) ≤ line := by decide
  obtain ⟨ρ', S', loop, W, v, dis, rfl, rfl⟩ := forL_inv (f := frB L.G cl (.nm 10) onB none) (chk := same g (S ++ [O.lst []])) (fun i ρ S' => ∃ (W : List Row) (v : Option D), Dis (qs.take i) W ∧ ρ = [e0, e1, e2, e3, e4, e5, e6, e7, e8, some (.ref S.length), v, e11, e12, e13, e14, e15, e16, e17, e18, e19, e20] ∧ S' = S ++ [O.lst (W.map rD)]) (qs.map rD) 0 [e0, e1, e2, e3, e4, e5, e6, e7, e8, some (.ref S.length), none, e11, e12, e13, e14, e15, e16, e17, e18, e19, e20] (S ++ [O.lst []]) ⟨[], none, Dis.nil, rfl, rfl⟩ (fun j d ρ S2 hj hP => by
    obtain ⟨W, v, dis, rfl, rfl⟩ := hP
    rw [Nat.zero_add] at dis ⊢
    rw [List.getElem?_map] at hj
    obtain ⟨q, hq, rfl⟩ := Option.map_eq_some_iff.mp hj
    have hjl : j < qs.length := (List.getElem?_eq_some_iff.mp hq).1
    have ht : qs.take (j + 1) = qs.take j ++ [q] := by rw [List.take_add_one, hq]; rfl
    have hle := dis.le
    rw [List.length_take] at hle
    have wl : W.length < line := by omega
    have ap := app_last (S := S) (xs := W.map rD) (d := rD q) (by rw [List.length_map]; exact wl)
    have hlst := lstOf_new (S := S) (W.map rD)
    have hlen := len_ref _ hlst
    rw [List.length_map] at hlen
    by_cases c : W = []
    · subst c
      refine ⟨_, S ++ [O.lst (([] ++ [q] : List Row).map rD)], ?_, hg _, [q], some (rD q), ?_, rfl, rfl⟩
      · simp at ap hlst hlen
        simp [frB, onB, asgT, asgN, hlst, hlen, ap, tidy_last]
      · rw [ht]
        exact dis.add (by simp) (fun x hx => by
          have : qs.take j = [] := List.eq_nil_iff_forall_not_mem.mpr fun y hy => by have := (dis.mem y).mpr hy; cases this
          rw [this] at hx; cases hx) (hs.sublist (List.take_sublist _ _))
    · obtain ⟨ys, z, e⟩ : ∃ ys z, W = ys ++ [z] := ⟨W.dropLast, W.getLast c, (List.dropLast_concat_getLast c).symm⟩
      have al : atI (W.map rD) (-1) = some (rD z) := by rw [e, List.map_append]; exact at_last _ _
      have eq := eq_nb (S ++ [O.lst (W.map rD)]) (rD_nb z) (rD_nb q) (by have := rD_dep z; omega) (by have := rD_dep q; omega)
      have glast : W.getLast? = some z := by rw [e]; simp
      have c2 : ¬ (W.length : Int) = 0 := by rw [e]; simp; omega
      by_cases q2 : z = q
      · rw [decide_eq_true (by rw [q2])] at eq
        refine ⟨_, S ++ [O.lst (W.map rD)], ?_, hg _, W, some (rD q), ?_, rfl, rfl⟩
        · simp [frB, onB, asgT, asgN, hlst, hlen, c, al, eq]
        · rw [ht]
          exact dis.keep (by rw [glast, q2])
      · rw [decide_eq_false (fun z => q2 (rD_inj z))] at eq
        refine ⟨_, S ++ [O.lst ((W ++ [q]).map rD)], ?_, hg _, W ++ [q], some (rD q), ?_, rfl, rfl⟩
        · simp [frB, onB, asgT, asgN, hlst, hlen, c, al, eq, ap, tidy_last]
        · rw [ht]
          refine dis.add (by rw [glast]; exact fun z => q2 (by injection z)) (fun x hx => ?_) (hs.sublist (List.take_sublist _ _))
          have h2 : (qs.take (j + 1)).Pairwise leR := hs.sublist (List.take_sublist _ _)
          rw [ht, List.pairwise_append] at h2
          exact h2.2.2 x hx q (List.mem_singleton_self q))
  rw [List.length_map, Nat.zero_add, List.take_length] at dis
  exact ⟨W, v, dis, loop⟩
end K13
set_option Elab.async false
set_option linter.all false
set_option autoImplicit false
set_option maxRecDepth 100000
set_option maxHeartbeats 4000000
/-! K13Q: the book. -/
namespace K13
open Fx
theorem fns_32 : L.G.fns[32]? = some ⟨3, 7, b_Book___init__⟩ := rfl
def bk0 : FS := .ifs (.or (.cons (.cmp .Lt (.loc 1) (.con (.int 0))) (.cons (.cmp .Gt (.loc 1) (.ccon 0)) .nil))) (.cons (.rais 0 (.cons (.loc 1) .nil)) .nil) .nil
def bk1 : FS := .asg 3 (.lst .nil)
def bk2 : FS := .fr (.tp [4, 5]) (.enum (.loc 2)) (.cons (.asg 6 (.call 4 (.cons (.loc 5) .nil))) (.cons (.ifs (.not (.call 0 (.cons (.loc 1) (.cons (.loc 6) .nil)))) (.cons (.rais 1 (.cons (.loc 4) .nil)) .nil) .nil) (.cons (.expr (.mth .append (.loc 3) (.cons (.loc 6) .nil))) .nil)))
def bk3 : FS := .asg 3 (.srtSet (.loc 3))
def bk4 : FS := .ifs (.cmp .Gt (.blt .len (.cons (.loc 3) .nil)) (.ccon 1)) (.cons (.rais 2 (.cons (.blt .len (.cons (.loc 3) .nil)) .nil)) .nil) .nil
def bk5 : FS := .setf (.loc 0) 0 (.loc 1)
def bk6 : FS := .setf (.loc 0) 7 (.blt .tuple (.cons (.loc 3) .nil))
theorem bkeq : b_Book___init__ = .cons bk0 (.cons bk1 (.cons bk2 (.cons bk3 (.cons bk4 (.cons bk5 (.cons bk6 .nil)))))) := rfl
def bkB : FSs := (.cons (.asg 6 (.call 4 (.cons (.loc 5) .nil)))
    (.cons (.ifs (.not (.call 0 (.cons (.loc 1) (.cons (.loc 6) .nil)))) (.cons (.rais 1 (.cons (.loc 4) .nil))
    .nil) .nil)
    (.cons (.expr (.mth .append (.loc 3) (.cons (.loc 6) .nil)))
    .nil)))
theorem enum_get : ∀ (xs : List D) (a j : Nat) (d : D), (enumD a xs)[j]? = some d → ∃ x, xs[j]? = some x ∧ d = .tup [.int ((a + j : Nat) : Int), x]
  | [], a, j, d, h => by simp [enumD] at h
  | x :: xs, a, 0, d, h => by
    simp [enumD] at h
    exact ⟨x, rfl, h.symm⟩
  | x :: xs, a, j + 1, d, h => by
    have h' : (enumD (a + 1) xs)[j]? = some d := by simpa [enumD] using h
    obtain ⟨y, e1, e2⟩ := enum_get xs (a + 1) j d h'
    exact ⟨y, by simpa using e1, by rw [e2, show a + 1 + j = a + (j + 1) by omega]⟩
theorem enum_len : ∀ (xs : List D) (a : Nat), (enumD a xs).length = xs.length
  | [], _ => rfl
  | x :: xs, a => by rw [enumD, List.length_cons, enum_len xs (a + 1)]; rfl
theorem kbs_row : ∀ r : Row, D.kbs (r.map wD) = true
  | [] => rfl
  | w :: r => by rw [List.map_cons, D.kbs, kbs_row r]; rfl
theorem kbs_rows : ∀ rs : List Row, D.kbs (rs.map rD) = true
  | [] => rfl
  | r :: rs => by
    rw [List.map_cons, D.kbs, kbs_rows rs]
    show (D.kbs (r.map wD) && true) = true
    rw [kbs_row]
    rfl
theorem set_sorted {S : Store} {m : Nat} {W : List Row} (hm : lstOf S m = some (W.map rD)) (st : W.Pairwise fun a b => leR a b ∧ a ≠ b) (hl : W.length < 77) : fSortSet (.ref m) S = .ok (.ref S.length) (S ++ [O.lst (W.map rD)]) := by
  have e : W.map rD = onceD (sortD (W.map rD)) := once_is (al_rws W) (by
    unfold List.Nodup
    rw [List.pairwise_map]
    exact st.imp fun h e => h.2 (rD_inj e)) (by rw [List.pairwise_map]; exact st.imp fun h => h.1) (fun _ => Iff.rfl)
  show (match lstOf S m with
    | some xs => if canSortB xs && xs.all isTup && D.kbs xs && decide (D.deps xs ≤ 8) && decide (xs.length < 77) then R.ok (D.ref S.length) (S ++ [O.lst (onceD (sortD xs))]) else .stuck
    | none => .stuck) = _
  rw [hm]
  dsimp only
  have h1 : (W.map rD).all isTup = true := by
    rw [List.all_eq_true]
    intro d hd
    obtain ⟨r, _, rfl⟩ := List.mem_map.mp hd
    rfl
  have h2 := rows_dep W
  rw [if_pos (by
    simp only [Bool.and_eq_true, decide_eq_true_eq]
    exact ⟨⟨⟨⟨can_rws W, h1⟩, kbs_rows W⟩, by omega⟩, by rw [List.length_map]; exact hl⟩), ← e]
theorem init_ok {k : Nat} {S : Store} {n : Nat} (hn : n ≤ 40) {W : List Row} (hW : ∀ r ∈ W, rowOk n 0 r = true) (st_ : W.Pairwise fun a b => leR a b ∧ a ≠ b) (hl : W.length < 77) {lw : Nat} {refs : List Nat} (hlw : lstOf S lw = some (refs.map D.ref)) (hrl : refs.length = W.length) (hr : ∀ (j : Nat) (a : Nat) (r : Row), refs[j]? = some a → W[j]? = some r → lstOf S a = some (r.map wD)) :
    ∃ T, callN L.G (k + 2) 32 [.ref S.length, .int (n : Int), .ref lw] (S ++ [.ins 0 []]) = .ok .non (S ++ .ins 0 [(0, .int (n : Int)), (7, .tup (W.map rD))] :: T) := by
  have big : (2000 : Nat) ≤ line := by decide
  have hS : ∀ {m : Nat} {xs : List D} (T : Store), lstOf S m = some xs → lstOf (S ++ T) m = some xs := fun T h => lstOf_app h T
  generalize hcl : callN L.G (k + 1) = cl
  have h0 : ex L.G cl bk0 none [some (.ref S.length), some (.int (n : Int)), some (.ref lw), none, none, none, none] (S ++ [.ins 0 []]) = .nx [some (.ref S.length), some (.int (n : Int)), some (.ref lw), none, none, none, none] (S ++ [.ins 0 []]) := by
    have c0 : ¬ (n : Int) < 0 := by omega
    have c1 : ¬ (40 : Int) < (n : Int) := by omega
    have cc : L.G.ccons[0]? = some (.int 40) := rfl
    unfold bk0
    simp [c0, c1, cc]
  have h1 : ex L.G cl bk1 none [some (.ref S.length), some (.int (n : Int)), some (.ref lw), none, none, none, none] (S ++ [.ins 0 []]) = .nx [some (.ref S.length), some (.int (n : Int)), some (.ref lw), some (.ref (S ++ [O.ins 0 []]).length), none, none, none] (S ++ [.ins 0 []] ++ [.lst []]) := by
    unfold bk1
    have tn := tidy_new (S ++ [O.ins 0 []]) (O.lst [])
    simp at tn
    simp [tn, line]
  obtain ⟨v4, v5, v6, h2⟩ : ∃ v4 v5 v6, ex L.G cl bk2 none [some (.ref S.length), some (.int (n : Int)), some (.ref lw), some (.ref (S ++ [O.ins 0 []]).length), none, none, none] (S ++ [.ins 0 []] ++ [.lst []]) = .nx [some (.ref S.length), some (.int (n : Int)), some (.ref lw), some (.ref (S ++ [O.ins 0 []]).length), v4, v5, v6] (S ++ [.ins 0 []] ++ [.lst (W.map rD)]) := by
    have hlw' : lstOf (S ++ [.ins 0 []] ++ [.lst []]) lw = some (refs.map D.ref) := by rw [List.append_assoc]; exact hS _ hlw
    have lwl : lw < S.length := by
      unfold lstOf at hlw
      cases e : S[lw]? with
      | none => rw [e] at hlw; cases hlw
      | some o => exact (List.getElem?_eq_some_iff.mp e).1
    have en := enumR_ok _ hlw'
    obtain ⟨ρ', S', loop, v4, v5, v6, rfl, rfl⟩ := forL_inv (f := frB L.G cl (.tp [4, 5]) bkB none) (chk := same (some lw) (S ++ [.ins 0 []] ++ [.lst []])) (fun i ρ S' => ∃ (v4 v5 v6 : Option D), ρ = [some (.ref S.length), some (.int (n : Int)), some (.ref lw), some (.ref (S ++ [O.ins 0 []]).length), v4, v5, v6] ∧ S' = S ++ [.ins 0 []] ++ [.lst ((W.take i).map rD)]) (enumD 0 (refs.map D.ref)) 0 [some (.ref S.length), some (.int (n : Int)), some (.ref lw), some (.ref (S ++ [O.ins 0 []]).length), none, none, none] (S ++ [.ins 0 []] ++ [.lst []]) ⟨none, none, none, rfl, rfl⟩ (fun j d ρ S2 hj hP => by
      obtain ⟨v4, v5, v6, rfl, rfl⟩ := hP
      obtain ⟨x, e1, rfl⟩ := enum_get _ _ _ _ hj
      rw [List.getElem?_map] at e1
      obtain ⟨a, ha, rfl⟩ := Option.map_eq_some_iff.mp e1
      have jl : j < W.length := by
        have := (List.getElem?_eq_some_iff.mp ha).1
        omega
      have hw : W[j]? = some W[j] := List.getElem?_eq_getElem jl
      have mw := hW W[j] (List.getElem_mem jl)
      have wlen : W[j].length ≤ 1000 := by have := rowOk_len mw (by omega); omega
      have hra := hr j a W[j] ha hw
      rw [Nat.zero_add]
      have pl := plain_ok (k := k) (hS ([.ins 0 []] ++ [.lst ((W.take j).map rD)]) hra) mw wlen
      have rk := row_ok (k := k) (n := (n : Int)) (r := W[j]) (S := S ++ [.ins 0 []] ++ [.lst ((W.take j).map rD)])
      rw [mw] at rk
      rw [hcl] at pl rk
      have tl : (W.take j).length ≤ 77 := by rw [List.length_take]; omega
      have ap := app_last (S := S ++ [.ins 0 []]) (xs := (W.take j).map rD) (d := rD W[j]) (by rw [List.length_map]; omega)
      have td := tidy_last (S ++ [O.ins 0 []]) (.lst ((W.take j).map rD)) (.lst ((W.take j).map rD ++ [rD W[j]])) .non
      have hlst := lstOf_new (S := S ++ [O.ins 0 []]) ((W.take j).map rD)
      have ht : (W.take (j + 1)).map rD = (W.take j).map rD ++ [rD W[j]] := by rw [List.take_add_one, hw, List.map_append]; rfl
      refine ⟨[some (.ref S.length), some (.int (n : Int)), some (.ref lw), some (.ref (S ++ [O.ins 0 []]).length), some (.int ((0 + j : Nat) : Int)), some (.ref a), some (rD W[j])], _, ?_, ?_, _, _, _, rfl, rfl⟩
      · rw [ht]
        generalize (W.take j).map rD = xs at *
        clear ht hj
        simp at pl rk ap td hlst
        simp [frB, bkB, asgT, asgNs, asgN, pl, rk, ap, td, hlst]
      · show decide (_ = _) = true
        rw [List.append_assoc, List.append_assoc, List.getElem?_append_left lwl, List.getElem?_append_left lwl]
        simp)
    refine ⟨v4, v5, v6, ?_⟩
    rw [enum_len, List.length_map, hrl, Nat.zero_add, List.take_length] at loop
    unfold bk2
    unfold bkB at loop
    simp at en loop
    simp [en, loop]
  have h3 : ex L.G cl bk3 none [some (.ref S.length), some (.int (n : Int)), some (.ref lw), some (.ref (S ++ [O.ins 0 []]).length), v4, v5, v6] (S ++ [.ins 0 []] ++ [.lst (W.map rD)]) = .nx [some (.ref S.length), some (.int (n : Int)), some (.ref lw), some (.ref (S ++ [O.ins 0 []] ++ [O.lst (W.map rD)]).length), v4, v5, v6] (S ++ [.ins 0 []] ++ [.lst (W.map rD)] ++ [.lst (W.map rD)]) := by
    have ss := set_sorted (S := S ++ [O.ins 0 []] ++ [O.lst (W.map rD)]) (m := (S ++ [O.ins 0 []]).length) (lstOf_new _ _) st_ hl
    have tn := tidy_new (S ++ [O.ins 0 []] ++ [O.lst (W.map rD)]) (O.lst (W.map rD))
    generalize W.map rD = xs at *
    unfold bk3
    simp at ss tn
    simp [ss, tn]
  have h4 : ex L.G cl bk4 none [some (.ref S.length), some (.int (n : Int)), some (.ref lw), some (.ref (S ++ [O.ins 0 []] ++ [O.lst (W.map rD)]).length), v4, v5, v6] (S ++ [.ins 0 []] ++ [.lst (W.map rD)] ++ [.lst (W.map rD)]) = .nx [some (.ref S.length), some (.int (n : Int)), some (.ref lw), some (.ref (S ++ [O.ins 0 []] ++ [O.lst (W.map rD)]).length), v4, v5, v6] (S ++ [.ins 0 []] ++ [.lst (W.map rD)] ++ [.lst (W.map rD)]) := by
    have cc : L.G.ccons[1]? = some (.int 128) := rfl
    have ln := len_ref _ (lstOf_new (S := S ++ [O.ins 0 []] ++ [O.lst (W.map rD)]) (W.map rD))
    have c : ¬ (128 : Int) < (W.length : Int) := by omega
    rw [List.length_map] at ln
    unfold bk4
    simp at ln
    simp [cc, ln, c]
  have hC : L.G.cfl[0]? = some [0, 7] := rfl
  have h5 : ex L.G cl bk5 none [some (.ref S.length), some (.int (n : Int)), some (.ref lw), some (.ref (S ++ [O.ins 0 []] ++ [O.lst (W.map rD)]).length), v4, v5, v6] (S ++ [.ins 0 []] ++ [.lst (W.map rD)] ++ [.lst (W.map rD)]) = .nx [some (.ref S.length), some (.int (n : Int)), some (.ref lw), some (.ref (S ++ [O.ins 0 []] ++ [O.lst (W.map rD)]).length), v4, v5, v6] (S ++ [.ins 0 [(0, .int (n : Int))]] ++ [.lst (W.map rD)] ++ [.lst (W.map rD)]) := by
    unfold bk5
    simp [setfK, hC, putN]
  have h6 : ex L.G cl bk6 none [some (.ref S.length), some (.int (n : Int)), some (.ref lw), some (.ref (S ++ [O.ins 0 []] ++ [O.lst (W.map rD)]).length), v4, v5, v6] (S ++ [.ins 0 [(0, .int (n : Int))]] ++ [.lst (W.map rD)] ++ [.lst (W.map rD)]) = .nx [some (.ref S.length), some (.int (n : Int)), some (.ref lw), some (.ref (S ++ [O.ins 0 []] ++ [O.lst (W.map rD)]).length), v4, v5, v6] (S ++ [.ins 0 [(0, .int (n : Int)), (7, .tup (W.map rD))]] ++ [.lst (W.map rD)] ++ [.lst (W.map rD)]) := by
    have ft := f_tuple (S ++ [.ins 0 [(0, .int (n : Int))]] ++ [.lst (W.map rD)] ++ [.lst (W.map rD)]) (n := (S ++ [O.ins 0 []] ++ [O.lst (W.map rD)]).length) (xs := W.map rD) (by unfold lstOf; simp)
    generalize W.map rD = xs at *
    unfold bk6
    simp at ft
    simp [ft, setfK, hC, putN]
  refine ⟨[.lst (W.map rD), .lst (W.map rD)], ?_⟩
  rw [call_eq fns_32 rfl, bkeq, hcl]
  show tidy _ (exs L.G cl _ none [some (.ref S.length), some (.int (n : Int)), some (.ref lw), none, none, none, none] _).done = _
  rw [st h0, st h1, st h2, st h3, st h4, st h5, st h6, ss_nil, done_nx]
  unfold tidy
  dsimp only
  rw [if_neg (by simp), if_neg]
  · simp
  · intro z
    have e : (S ++ [O.ins 0 [(0, D.int (n : Int)), (7, D.tup (W.map rD))]] ++ [O.lst (W.map rD)] ++ [O.lst (W.map rD)]).take (S ++ [O.ins 0 []]).length = S ++ [O.ins 0 [(0, D.int (n : Int)), (7, D.tup (W.map rD))]] := by
      rw [List.append_assoc, List.take_left' (by simp)]
    rw [e] at z
    have z := List.append_cancel_left z
    simp at z
end K13
set_option Elab.async false
set_option linter.all false
set_option autoImplicit false
set_option maxRecDepth 100000
set_option maxHeartbeats 4000000
/-! K13R: the law, as far as its book and its right paper (printed by tools/gen13.py). -/
namespace K13
open Fx
def lw0 : FS := .asg 1 (.blt .abs (.cons (.call 11 (.cons (.loc 0) (.cons (.con (.int 0)) .nil))) .nil))
def lw1 : FS := .asg 2 (.bin .Mod (.loc 1) (.con (.int 5)))
def lw2 : FS := .ifs (.cmp .Eq (.bin .Mod (.bin .FloorDiv (.loc 1) (.con (.int 5))) (.con (.int 9))) (.con (.int 1))) (.cons (.asg 2 (.con (.int 40))) .nil) .nil
def lw3 : FS := .asg 3 (.call 12 (.cons (.call 13 (.cons (.loc 0) (.cons (.con (.int 1)) .nil))) (.cons (.con (.int 64)) .nil)))
def lw4 : FS := .asg 4 (.cmp .Eq (.bin .Mod (.bin .FloorDiv (.loc 1) (.con (.int 45))) (.con (.int 3))) (.con (.int 1)))
def lw5 : FS := .asg 5 (.bin .Add (.con (.int 3)) (.bin .Mod (.bin .FloorDiv (.loc 1) (.con (.int 135))) (.con (.int 3))))
def lw6 : FS := .ifs (.loc 4) (.cons (.asg 5 (.bin .Mod (.bin .FloorDiv (.loc 1) (.con (.int 135))) (.con (.int 25)))) .nil) .nil
def lw7 : FS := .asg 6 (.idx (.call 16 (.cons (.loc 3) (.cons (.loc 2) (.cons (.tup .nil) (.cons (.loc 5) (.cons (.loc 4) (.cons (.con (.int 0)) .nil))))))) (.con (.int 0)))
def lw8 : FS := .asg 7 (.blt .sorted (.cons (.bin .Add (.call 17 (.cons (.loc 6) .nil)) (.lc [8] (.nm 8) (.seq (.cut (.loc 0) (.con (.int 2)) (.con (.int 32)))) .nil (.call 14 (.cons (.loc 8) (.cons (.blt .min (.cons (.loc 2) (.cons (.con (.int 5)) .nil))) .nil))))) .nil))
def lw9 : FS := .asg 9 (.lst .nil)
def lw10 : FS := .fr (.nm 10) (.seq (.loc 7)) (.cons (.ifs (.or (.cons (.cmp .Eq (.blt .len (.cons (.loc 9) .nil)) (.con (.int 0))) (.cons (.cmp .NotEq (.idx (.loc 9) (.neg (.con (.int 1)))) (.loc 10)) .nil))) (.cons (.expr (.mth .append (.loc 9) (.cons (.loc 10) .nil))) .nil) .nil) .nil)
def lw11 : FS := .asg 11 (.mk 0 32 (.cons (.loc 2) (.cons (.lc [12] (.nm 12) (.seq (.loc 9)) .nil (.blt .list (.cons (.loc 12) .nil))) .nil)))
def lw12 : FS := .asg 13 (.call 18 (.cons (.loc 6) (.cons (.loc 9) .nil)))
def lw13 : FS := .ifs (.or (.cons (.cmp .IsNot (.call 27 (.cons (.loc 2) (.cons (.loc 9) (.cons (.loc 13) .nil)))) (.con .non)) (.cons (.not (.call 30 (.cons (.loc 2) (.cons (.loc 9) (.cons (.loc 11) (.cons (.loc 13) .nil)))))) .nil))) (.cons (.ret (.con (.bl false))) .nil) .nil
def lw14 : FS := .asg 14 (.call 19 (.cons (.loc 13) (.cons (.tup .nil) .nil)))
def lw15 : FS := .asg 15 (.call 12 (.cons (.call 13 (.cons (.loc 0) (.cons (.con (.int 2)) .nil))) (.cons (.con (.int 60)) .nil)))
def lw16 : FS := .fr (.nm 16) (.range1 (.con (.int 12))) (.cons (.asg 17 (.loc 13)) (.cons (.fr (.nm 18) (.range1 (.bin .Add (.con (.int 1)) (.bin .Mod (.loc 16) (.con (.int 2))))) (.cons (.asg 19 (.idx (.loc 14) (.bin .Mod (.bin .Add (.bin .Add (.idx (.loc 15) (.bin .Add (.bin .Mult (.con (.int 5)) (.loc 16)) (.loc 18))) (.bin .Mult (.con (.int 60)) (.idx (.loc 15) (.bin .Sub (.con (.int 59)) (.loc 16))))) (.loc 18)) (.blt .len (.cons (.loc 14) .nil))))) (.cons (.ifs (.and (.cons (.cmp .Eq (.loc 18) (.con (.int 1))) (.cons (.cmp .NotIn (.loc 19) (.call 19 (.cons (.loc 17) (.cons (.tup .nil) .nil)))) .nil))) (.cons (.asg 19 (.tup .nil)) .nil) .nil) (.cons (.asg 20 (.call 23 (.cons (.loc 2) (.cons (.blt .len (.cons (.loc 9) .nil)) (.cons (.call 20 (.cons (.loc 17) (.cons (.loc 19) .nil))) (.cons (.idx (.loc 15) (.bin .Add (.bin .Add (.bin .Mult (.con (.int 5)) (.loc 16)) (.con (.int 2))) (.loc 18))) (.cons (.idx (.loc 15) (.bin .Sub (.bin .Add (.bin .Mult (.con (.int 5)) (.loc 16)) (.con (.int 4))) (.loc 18))) .nil))))))) (.cons (.asg 17 (.call 21 (.cons (.loc 17) (.cons (.loc 19) (.cons (.loc 20) .nil))))) .nil))))) (.cons (.ifs (.cmp .Gt (.loc 16) (.con (.int 9))) (.cons (.asg 17 (.call 20 (.cons (.loc 13) (.cons (.idx (.loc 14) (.bin .Mod (.idx (.loc 15) (.loc 16)) (.blt .len (.cons (.loc 14) .nil)))) .nil)))) .nil) .nil) (.cons (.ifs (.not (.call 30 (.cons (.loc 2) (.cons (.loc 9) (.cons (.loc 11) (.cons (.loc 17) .nil)))))) (.cons (.ret (.con (.bl false))) .nil) .nil) .nil))))
def lw17 : FS := .ret (.cmp .Is (.call 7 (.cons (.loc 11) (.cons (.loc 13) .nil))) (.con .non))
theorem lweq : b_law = .cons lw0 (.cons lw1 (.cons lw2 (.cons lw3 (.cons lw4 (.cons lw5 (.cons lw6 (.cons lw7 (.cons lw8 (.cons lw9 (.cons lw10 (.cons lw11 (.cons lw12 (.cons lw13 (.cons lw14 (.cons lw15 (.cons lw16 (.cons lw17 .nil))))))))))))))))) := rfl
theorem fns_31 : L.G.fns[31]? = some ⟨1, 21, b_law⟩ := rfl
/-- a comprehension whose items are rows that nobody names -/
theorem lc_rows {f : D → Store → R (Option D)} {chk : Store → Bool} {P : Row → Prop} {S : Store} (hc : chk S = true) : ∀ {ds acc : List D}, (∀ d ∈ ds, ∃ r, P r ∧ f d S = .ok (some (rD r)) S) → acc.length + ds.length ≤ line → ∃ rs : List Row, rs.length = ds.length ∧ (∀ r ∈ rs, P r) ∧ lcLoop f chk ds acc S = .ok (acc ++ rs.map rD) S
  | [], acc, _, _ => ⟨[], rfl, (fun _ h => by cases h), by simp [lcLoop]⟩
  | d :: ds, acc, h, hl => by
    rw [List.length_cons] at hl
    obtain ⟨r, hr, h1⟩ := h d (List.mem_cons_self ..)
    have hs : decide (acc.length < line) = true := decide_eq_true (by omega)
    obtain ⟨rs, e1, e2, e3⟩ := lc_rows (f := f) (chk := chk) (P := P) hc (ds := ds) (acc := acc ++ [rD r]) (fun x hx => h x (List.mem_cons_of_mem _ hx)) (by rw [List.length_append, List.length_singleton]; omega)
    refine ⟨r :: rs, by simp [e1], fun x hx => ?_, ?_⟩
    · rcases List.mem_cons.mp hx with e | hx
      · rw [e]; exact hr
      · exact e2 x hx
    · rw [lcLoop, h1]
      simp only [R.bind_ok, hc, hs, Bool.and_self, if_true]
      rw [e3]
      simp
theorem lists_lc {cl : Orac} {S : Store} {ρ : Env} {chk : Store → Bool} (i : Nat) (hi : i < ρ.length) (hc : ∀ T, chk (S ++ T) = true) : ∀ (Ws : List Row) (acc : List D) (T : Store), acc.length + Ws.length ≤ line → lcLoop (lcTurn [i] (.nm i) ρ (evs L.G cl none .nil).ts (ev L.G cl none (.blt .list (.cons (.loc i) .nil))).v) chk (Ws.map rD) acc (S ++ T) = .ok (acc ++ (List.range' (S.length + T.length) Ws.length).map D.ref) (S ++ T ++ Ws.map fun r => O.lst (r.map wD))
  | [], acc, T, _ => by simp [lcLoop]
  | r :: Ws, acc, T, hl => by
    rw [List.length_cons] at hl
    have hs : decide (acc.length < line) = true := decide_eq_true (by omega)
    have h2 : i < (wipe ρ [i]).length := by simpa [wipe] using hi
    have h3 : ((wipe ρ [i]).set i (some (rD r)))[i]? = some (some (rD r)) := by rw [List.getElem?_set_self h2]
    have g : getL ((wipe ρ [i]).set i (some (rD r))) i (S ++ T) = .ok (rD r) (S ++ T) := by unfold getL; rw [h3]
    have fl := f_list (S ++ T) (d := rD r) (xs := r.map wD) rfl
    have tn := tidy_new (S ++ T) (O.lst (r.map wD))
    have ih := lists_lc (cl := cl) (ρ := ρ) i hi hc Ws (acc ++ [.ref (S ++ T).length]) (T ++ [O.lst (r.map wD)]) (by rw [List.length_append, List.length_singleton]; omega)
    have hc1 := hc (T ++ [O.lst (r.map wD)])
    rw [← List.append_assoc] at ih hc1
    have turn : lcTurn [i] (.nm i) ρ (evs L.G cl none .nil).ts (ev L.G cl none (.blt .list (.cons (.loc i) .nil))).v (rD r) (S ++ T) = .ok (some (.ref (S ++ T).length)) (S ++ T ++ [O.lst (r.map wD)]) := by
      simp only [lcTurn, asgT, asgN, h2, if_true, ts_0, tidyB_same, R.bind_ok, v_blt, vs_cons, v_loc, g, vs_nil, fl, tn]
    rw [List.map_cons, lcLoop, turn]
    simp only [R.bind_ok, hc1, hs, Bool.and_self, if_true]
    rw [ih]
    congr 1
    · rw [List.append_assoc, List.length_cons, List.range'_succ, List.length_append, List.length_append, List.length_singleton]
      rfl
    · simp
theorem cell_first (ns : List Int) : lstOf [O.frz (ns.map D.int)] 0 = some (ns.map D.int) := rfl
theorem ints_wf (n : Nat) : ∀ is : List Int, D.wfs n (is.map D.int) = true
  | [] => rfl
  | i :: is => by rw [List.map_cons, D.wfs, ints_wf n is]; rfl
theorem rws_wf (n : Nat) : ∀ rs : List Row, D.wfs n (rs.map rD) = true
  | [] => rfl
  | r :: rs => by rw [List.map_cons, D.wfs, rD_wf, rws_wf n rs]; rfl
theorem lv_pos {α : Type} : ∀ t : Tr α, 1 ≤ t.lv
  | .wish _ => Nat.le_refl _
  | .node _ _ l r => by have := lv_pos l; simp only [Tr.lv]; omega
theorem Good.rows {n : Int} : ∀ {t : Tr Row} {al : Row}, Good n al t → ∀ r ∈ t.ws, rowOk n 0 r = true
  | .wish r, _, g, x, hx => by
    rw [Tr.ws, List.mem_singleton] at hx
    rw [hx]; exact g.1
  | .node a ln l r, _, g, x, hx => by
    rcases List.mem_append.mp hx with h | h
    · exact g.2.2.2.2.2.1.rows x h
    · exact g.2.2.2.2.2.2.rows x h
theorem Good.lin {n : Int} (hn : 0 ≤ n) (hn2 : n ≤ 40) (ws : List Row) : ∀ {t : Tr Row} {al : Row}, Good n al t → (ixed ws t).lin ≤ 40
  | .wish _, _, _ => Nat.zero_le _
  | .node a ln l r, al, g => by
    have h1 := rowOk_len g.1 hn
    have h2 := g.2.2.2.2.2.1.lin hn hn2 ws
    have h3 := g.2.2.2.2.2.2.lin hn hn2 ws
    simp only [ixed, Tr.lin]
    omega
theorem Good.one {n : Int} : ∀ {t : Tr Row} {al : Row}, Good n al t → 1 ≤ t.dep → 1 ≤ n
  | .wish _, _, _, h => by simp [Tr.dep] at h
  | .node a ln l r, al, g, _ => by have := g.2.2.1; have := g.2.2.2.1; omega
/-- what the law has in hand when it begins to spoil -/
theorem first_part {cl : Orac} (ns : List Int) (hns : ns.length ≤ 63) (hcl : cl = callN L.G 99) : ∃ (f : Int) (n : Nat) (ws : List Int) (nar : Bool) (d : Nat) (t : Tr Row) (qs W : List Row) (v10 : Option D), n ≤ 40 ∧ d ≤ 24 ∧ Good n [] t ∧ t.dep ≤ 24 ∧ t.lv ≤ 32 ∧ (∀ r ∈ t.ws, r ∈ W) ∧ (∀ r ∈ W, rowOk n 0 r = true) ∧ W.length < 77 ∧
    ∀ ss, exs L.G cl (.cons lw0 (.cons lw1 (.cons lw2 (.cons lw3 (.cons lw4 (.cons lw5 (.cons lw6 (.cons lw7 (.cons lw8 (.cons lw9 (.cons lw10 (.cons lw11 ss)))))))))))) none [some (.ref 0), none, none, none, none, none, none, none, none, none, none, none, none, none, none, none, none, none, none, none, none] [O.frz (ns.map D.int)] = exs L.G cl ss none [some (.ref 0), some (.int f), some (.int (n : Int)), some (.ref 1), some (.bl nar), some (.int (d : Int)), some (t.D rD), some (.ref 2), none, some (.ref 3), v10, some (.ref 4), none, none, none, none, none, none, none, none, none] [O.frz (ns.map D.int), O.lst (ws.map D.int), O.lst (qs.map rD), O.lst (W.map rD), O.ins 0 [(0, .int (n : Int)), (7, .tup (W.map rD))]] := by
  have big : (2000 : Nat) ≤ line := by decide
  have c0 := cell_ok fns_11 (n := 98) (k := 0) (cell_first ns)
  rw [← hcl] at c0
  generalize cellAt ns 0 = c at c0
  obtain ⟨f, hf⟩ : ∃ f : Int, f = if c < 0 then -c else c := ⟨_, rfl⟩
  have c0 : cl 11 [.ref 0, .int 0] [O.frz (ns.map D.int)] = .ok (.int c) [O.frz (ns.map D.int)] := c0
  have h0 : ex L.G cl lw0 none [some (.ref 0), none, none, none, none, none, none, none, none, none, none, none, none, none, none, none, none, none, none, none, none] [O.frz (ns.map D.int)] = .nx [some (.ref 0), some (.int f), none, none, none, none, none, none, none, none, none, none, none, none, none, none, none, none, none, none, none] [O.frz (ns.map D.int)] := by
    unfold lw0
    rw [hf]
    simp [c0]
  have h1 : ex L.G cl lw1 none [some (.ref 0), some (.int f), none, none, none, none, none, none, none, none, none, none, none, none, none, none, none, none, none, none, none] [O.frz (ns.map D.int)] = .nx [some (.ref 0), some (.int f), some (.int (f.fmod 5)), none, none, none, none, none, none, none, none, none, none, none, none, none, none, none, none, none, none] [O.frz (ns.map D.int)] := by
    unfold lw1
    simp
  obtain ⟨n, hn, h2⟩ : ∃ n : Nat, n ≤ 40 ∧ ex L.G cl lw2 none [some (.ref 0), some (.int f), some (.int (f.fmod 5)), none, none, none, none, none, none, none, none, none, none, none, none, none, none, none, none, none, none] [O.frz (ns.map D.int)] = .nx [some (.ref 0), some (.int f), some (.int (n : Int)), none, none, none, none, none, none, none, none, none, none, none, none, none, none, none, none, none, none] [O.frz (ns.map D.int)] := by
    obtain ⟨m, me, ml⟩ := fmod_small f (m := 5) (by decide)
    have me : f.fmod 5 = (m : Int) := me
    by_cases c : (f.fdiv 5).fmod 9 = 1
    · refine ⟨40, Nat.le_refl _, ?_⟩
      unfold lw2
      simp [c]
    · refine ⟨m, by omega, ?_⟩
      unfold lw2
      simp [c, me]
  obtain ⟨sd, e13⟩ := seed_ok fns_13 fns_11 (n := 97) (k := 1) (by decide) (cell_first ns)
  obtain ⟨ws, hwl, hw, e12⟩ := draws_ok fns_12 (n := 98) (S := [O.frz (ns.map D.int)]) (c := sd) (m := 64) (by decide)
  have e13 : callN L.G 99 13 [.ref 0, .int 1] _ = _ := e13
  have e12 : callN L.G 99 12 [.int sd, .int 64] _ = _ := e12
  rw [← hcl] at e12 e13
  have h3 : ex L.G cl lw3 none [some (.ref 0), some (.int f), some (.int (n : Int)), none, none, none, none, none, none, none, none, none, none, none, none, none, none, none, none, none, none] [O.frz (ns.map D.int)] = .nx [some (.ref 0), some (.int f), some (.int (n : Int)), some (.ref 1), none, none, none, none, none, none, none, none, none, none, none, none, none, none, none, none, none] [O.frz (ns.map D.int), O.lst (ws.map D.int)] := by
    have tn := tidy_new [O.frz (ns.map D.int)] (O.lst (ws.map D.int))
    unfold lw3
    simp at tn e12
    simp [e12, e13, tn]
  obtain ⟨nar, h4⟩ : ∃ nar : Bool, ex L.G cl lw4 none [some (.ref 0), some (.int f), some (.int (n : Int)), some (.ref 1), none, none, none, none, none, none, none, none, none, none, none, none, none, none, none, none, none] [O.frz (ns.map D.int), O.lst (ws.map D.int)] = .nx [some (.ref 0), some (.int f), some (.int (n : Int)), some (.ref 1), some (.bl nar), none, none, none, none, none, none, none, none, none, none, none, none, none, none, none, none] [O.frz (ns.map D.int), O.lst (ws.map D.int)] := by
    refine ⟨decide ((f.fdiv 45).fmod 3 = 1), ?_⟩
    unfold lw4
    simp
  obtain ⟨x, xe, xl⟩ := fmod_small (f.fdiv 135) (m := 3) (by decide)
  have xe : (f.fdiv 135).fmod 3 = (x : Int) := xe
  have h5 : ex L.G cl lw5 none [some (.ref 0), some (.int f), some (.int (n : Int)), some (.ref 1), some (.bl nar), none, none, none, none, none, none, none, none, none, none, none, none, none, none, none, none] [O.frz (ns.map D.int), O.lst (ws.map D.int)] = .nx [some (.ref 0), some (.int f), some (.int (n : Int)), some (.ref 1), some (.bl nar), some (.int (3 + (x : Int))), none, none, none, none, none, none, none, none, none, none, none, none, none, none, none] [O.frz (ns.map D.int), O.lst (ws.map D.int)] := by
    unfold lw5
    simp [xe]
  obtain ⟨d, hd, hd2, h6⟩ : ∃ d : Nat, d ≤ 24 ∧ (nar = false → d ≤ 5) ∧ ex L.G cl lw6 none [some (.ref 0), some (.int f), some (.int (n : Int)), some (.ref 1), some (.bl nar), some (.int (3 + (x : Int))), none, none, none, none, none, none, none, none, none, none, none, none, none, none, none] [O.frz (ns.map D.int), O.lst (ws.map D.int)] = .nx [some (.ref 0), some (.int f), some (.int (n : Int)), some (.ref 1), some (.bl nar), some (.int (d : Int)), none, none, none, none, none, none, none, none, none, none, none, none, none, none, none] [O.frz (ns.map D.int), O.lst (ws.map D.int)] := by
    obtain ⟨y, ye, yl⟩ := fmod_small (f.fdiv 135) (m := 25) (by decide)
    have ye : (f.fdiv 135).fmod 25 = (y : Int) := ye
    cases nar with
    | true =>
      refine ⟨y, by omega, (fun z => by cases z), ?_⟩
      unfold lw6
      simp [ye]
    | false =>
      refine ⟨3 + x, by omega, fun _ => by omega, ?_⟩
      unfold lw6
      simp
  have wsAt : lstOf [O.frz (ns.map D.int), O.lst (ws.map D.int)] 1 = some (ws.map D.int) := rfl
  have pd : 2 ^ (d + 1) ≤ 2 ^ 25 := Nat.pow_le_pow_right (by decide) (by omega)
  obtain ⟨t, at2, g1, g2, g3, g4, g5⟩ := grow_ok hn hw hwl d 97 wsAt [] 0 nar (by omega) rfl (by omega)
  have g5 : callN L.G 99 16 [.ref 1, .int (n : Int), .tup [], .int (d : Int), .bl nar, .int 0] _ = _ := g5
  rw [← hcl] at g5
  have lv : t.lv ≤ 32 := by
    cases nar with
    | true => simp only [if_true] at g3; omega
    | false =>
      simp only [Bool.false_eq_true, if_false] at g3
      have : 2 ^ d ≤ 2 ^ 5 := Nat.pow_le_pow_right (by decide) (hd2 rfl)
      omega
  have h7 : ex L.G cl lw7 none [some (.ref 0), some (.int f), some (.int (n : Int)), some (.ref 1), some (.bl nar), some (.int (d : Int)), none, none, none, none, none, none, none, none, none, none, none, none, none, none, none] [O.frz (ns.map D.int), O.lst (ws.map D.int)] = .nx [some (.ref 0), some (.int f), some (.int (n : Int)), some (.ref 1), some (.bl nar), some (.int (d : Int)), some (t.D rD), none, none, none, none, none, none, none, none, none, none, none, none, none, none] [O.frz (ns.map D.int), O.lst (ws.map D.int)] := by
    unfold lw7
    simp [g5, line]
  have e17 := rows_ok (f := rD) (fun n r => rD_wf n r) (S := [O.frz (ns.map D.int), O.lst (ws.map D.int)]) t 98 (by omega) (by omega)
  have e17 : callN L.G 99 17 [t.D rD] _ = _ := e17
  rw [← hcl] at e17
  obtain ⟨m5, hm5, hm5e⟩ : ∃ m5 : Nat, m5 ≤ n ∧ (if (5 : Int) < (n : Int) then (5 : Int) else (n : Int)) = (m5 : Int) := by
    by_cases q : (5 : Int) < (n : Int)
    · exact ⟨5, by omega, by rw [if_pos q]; rfl⟩
    · exact ⟨n, Nat.le_refl _, by rw [if_neg q]⟩
  have mn : ∀ S, bltF .min [.int (n : Int), .int 5] S = .ok (.int (m5 : Int)) S := fun S => by rw [f_min, hm5e]
  obtain ⟨rs, rl, rk, lc8⟩ := lc_rows (f := lcTurn [8] (.nm 8) [some (.ref 0), some (.int f), some (.int (n : Int)), some (.ref 1), some (.bl nar), some (.int (d : Int)), some (t.D rD), none, none, none, none, none, none, none, none, none, none, none, none, none, none] (evs L.G cl none .nil).ts (ev L.G cl none (.call 14 (.cons (.loc 8) (.cons (.blt .min (.cons (.loc 2) (.cons (.con (.int 5)) .nil))) .nil)))).v) (chk := same (some 3) ([O.frz (ns.map D.int), O.lst (ws.map D.int)] ++ [O.lst (t.ws.map rD), O.lst (cutX (ns.map D.int) (some 2) (some 32))])) (P := fun r => rowOk n 0 r = true) (S := [O.frz (ns.map D.int), O.lst (ws.map D.int)] ++ [O.lst (t.ws.map rD), O.lst (cutX (ns.map D.int) (some 2) (some 32))]) (by simp) (ds := cutX (ns.map D.int) (some 2) (some 32)) (acc := []) (fun x hx => by
    rw [cut_map] at hx
    obtain ⟨i, _, rfl⟩ := List.mem_map.mp hx
    obtain ⟨r, r1, r2⟩ := wish_ok (k := 97) (S := [O.frz (ns.map D.int), O.lst (ws.map D.int)] ++ [O.lst (t.ws.map rD), O.lst (cutX (ns.map D.int) (some 2) (some 32))]) (c := i) (n := m5) (by omega)
    have r2 : callN L.G 99 14 [.int i, .int (m5 : Int)] _ = _ := r2
    rw [← hcl] at r2
    refine ⟨r, rowOk_le r1 (by omega), ?_⟩
    generalize [O.frz (ns.map D.int), O.lst (ws.map D.int)] ++ [O.lst (t.ws.map rD), O.lst (cutX (ns.map D.int) (some 2) (some 32))] = SS at *
    simp [lcTurn, wipe, asgT, asgN, mn, r2]) (by rw [cut_map, List.length_nil, List.length_map]; unfold cutX; rw [List.length_take, List.length_drop]; omega)
  have rl30 : rs.length ≤ 30 := by
    rw [rl, cut_map, List.length_map]
    unfold cutX sIx
    dsimp only
    rw [List.length_take, if_neg (by omega), if_neg (by omega)]
    omega
  obtain ⟨qs, q1, q2, q3, q4⟩ := sort_rows (t.ws ++ rs)
  have twl := t.ws_len
  have h8 : ex L.G cl lw8 none [some (.ref 0), some (.int f), some (.int (n : Int)), some (.ref 1), some (.bl nar), some (.int (d : Int)), some (t.D rD), none, none, none, none, none, none, none, none, none, none, none, none, none, none] [O.frz (ns.map D.int), O.lst (ws.map D.int)] = .nx [some (.ref 0), some (.int f), some (.int (n : Int)), some (.ref 1), some (.bl nar), some (.int (d : Int)), some (t.D rD), some (.ref 2), none, none, none, none, none, none, none, none, none, none, none, none, none] [O.frz (ns.map D.int), O.lst (ws.map D.int), O.lst (qs.map rD)] := by
    have sumD : t.ws.map rD ++ rs.map rD = (t.ws ++ rs).map rD := by rw [List.map_append]
    have l1 : (t.ws.map rD).length + (rs.map rD).length ≤ line := by rw [List.length_map, List.length_map]; omega
    have ct : cutD ([O.frz (ns.map D.int), O.lst (ws.map D.int)] ++ [O.lst (t.ws.map rD)]) (.ref 0) (some 2) (some 32) = .ok (.ref 3) ([O.frz (ns.map D.int), O.lst (ws.map D.int)] ++ [O.lst (t.ws.map rD), O.lst (cutX (ns.map D.int) (some 2) (some 32))]) := rfl
    have sq : seqI (.ok (.ref 3) ([O.frz (ns.map D.int), O.lst (ws.map D.int)] ++ [O.lst (t.ws.map rD), O.lst (cutX (ns.map D.int) (some 2) (some 32))])) = .ok (cutX (ns.map D.int) (some 2) (some 32), some 3) ([O.frz (ns.map D.int), O.lst (ws.map D.int)] ++ [O.lst (t.ws.map rD), O.lst (cutX (ns.map D.int) (some 2) (some 32))]) := rfl
    have ar := add_ref ([O.frz (ns.map D.int), O.lst (ws.map D.int)] ++ [O.lst (t.ws.map rD), O.lst (cutX (ns.map D.int) (some 2) (some 32)), O.lst (rs.map rD)]) (n := 2) (m := 4) (x := t.ws.map rD) (y := rs.map rD) rfl rfl l1
    have fs := f_sorted ([O.frz (ns.map D.int), O.lst (ws.map D.int)] ++ [O.lst (t.ws.map rD), O.lst (cutX (ns.map D.int) (some 2) (some 32)), O.lst (rs.map rD), O.lst (t.ws.map rD ++ rs.map rD)]) (n := 5) (xs := t.ws.map rD ++ rs.map rD) rfl (by rw [sumD]; exact can_rws _) (by rw [List.length_append]; exact l1)
    rw [show sortD (t.ws.map rD ++ rs.map rD) = qs.map rD by rw [sumD, q1]] at fs
    have td := tidy_ref [O.frz (ns.map D.int), O.lst (ws.map D.int)] (k := 6) (T := [O.lst (t.ws.map rD), O.lst (cutX (ns.map D.int) (some 2) (some 32)), O.lst (rs.map rD), O.lst (t.ws.map rD ++ rs.map rD), O.lst (qs.map rD)]) (o := O.lst (qs.map rD)) rfl (by simp) (rws_wf _ _) (by simp)
    clear g5 q1 rl rk sumD
    generalize cutX (ns.map D.int) (some 2) (some 32) = cs at *
    generalize qs.map rD = qd at *
    generalize t.ws.map rD = td1 at *
    generalize rs.map rD = rd at *
    simp at e17 ct sq lc8 ar fs td
    unfold lw8
    simp [e17, ct, sq, lc8, ar, fs, td]
  have h9 : ex L.G cl lw9 none [some (.ref 0), some (.int f), some (.int (n : Int)), some (.ref 1), some (.bl nar), some (.int (d : Int)), some (t.D rD), some (.ref 2), none, none, none, none, none, none, none, none, none, none, none, none, none] [O.frz (ns.map D.int), O.lst (ws.map D.int), O.lst (qs.map rD)] = .nx [some (.ref 0), some (.int f), some (.int (n : Int)), some (.ref 1), some (.bl nar), some (.int (d : Int)), some (t.D rD), some (.ref 2), none, some (.ref 3), none, none, none, none, none, none, none, none, none, none, none] [O.frz (ns.map D.int), O.lst (ws.map D.int), O.lst (qs.map rD), O.lst ([])] := by
    have tn := tidy_new [O.frz (ns.map D.int), O.lst (ws.map D.int), O.lst (qs.map rD)] (O.lst [])
    unfold lw9
    simp at tn
    simp [tn, line]
  obtain ⟨W, v10, dis, lp⟩ := once_loop (cl := cl) (S := [O.frz (ns.map D.int), O.lst (ws.map D.int), O.lst (qs.map rD)]) (e0 := some (.ref 0)) (e1 := some (.int f)) (e2 := some (.int (n : Int))) (e3 := some (.ref 1)) (e4 := some (.bl nar)) (e5 := some (.int (d : Int))) (e6 := some (t.D rD)) (e7 := some (.ref 2)) (e8 := none) (e11 := none) (e12 := none) (e13 := none) (e14 := none) (e15 := none) (e16 := none) (e17 := none) (e18 := none) (e19 := none) (e20 := none) q3 (by rw [q4, List.length_append]; omega) (g := some 2) (fun T => by simp [same])
  have h10 : ex L.G cl lw10 none [some (.ref 0), some (.int f), some (.int (n : Int)), some (.ref 1), some (.bl nar), some (.int (d : Int)), some (t.D rD), some (.ref 2), none, some (.ref 3), none, none, none, none, none, none, none, none, none, none, none] [O.frz (ns.map D.int), O.lst (ws.map D.int), O.lst (qs.map rD), O.lst ([])] = .nx [some (.ref 0), some (.int f), some (.int (n : Int)), some (.ref 1), some (.bl nar), some (.int (d : Int)), some (t.D rD), some (.ref 2), none, some (.ref 3), v10, none, none, none, none, none, none, none, none, none, none] [O.frz (ns.map D.int), O.lst (ws.map D.int), O.lst (qs.map rD), O.lst (W.map rD)] := by
    have sq : seqI (.ok (.ref 2) [O.frz (ns.map D.int), O.lst (ws.map D.int), O.lst (qs.map rD), O.lst ([])]) = .ok (qs.map rD, some 2) [O.frz (ns.map D.int), O.lst (ws.map D.int), O.lst (qs.map rD), O.lst ([])] := rfl
    unfold lw10
    unfold onB at lp
    simp at lp
    simp [sq, lp]
  have hmem : ∀ r, r ∈ W ↔ r ∈ t.ws ∨ r ∈ rs := fun r => by rw [dis.mem, q2, List.mem_append]
  have hWk : ∀ r ∈ W, rowOk n 0 r = true := fun r hr => by
    rcases (hmem r).mp hr with h | h
    · exact g1.rows r h
    · exact rk r h
  have hWl : W.length < 77 := by
    have := dis.le
    rw [q4, List.length_append] at this
    omega
  have lst12 := lists_lc (cl := cl) (S := [O.frz (ns.map D.int), O.lst (ws.map D.int), O.lst (qs.map rD), O.lst (W.map rD)]) (ρ := [some (.ref 0), some (.int f), some (.int (n : Int)), some (.ref 1), some (.bl nar), some (.int (d : Int)), some (t.D rD), some (.ref 2), none, some (.ref 3), v10, none, none, none, none, none, none, none, none, none, none]) (chk := same (some 3) [O.frz (ns.map D.int), O.lst (ws.map D.int), O.lst (qs.map rD), O.lst (W.map rD)]) 12 (by simp) (fun T => by simp [same]) W [] [] (by rw [List.length_nil]; omega)
  have hrefs : ∀ (j a : Nat) (r : Row), (List.range' 4 W.length)[j]? = some a → W[j]? = some r → lstOf ([O.frz (ns.map D.int), O.lst (ws.map D.int), O.lst (qs.map rD), O.lst (W.map rD)] ++ (W.map fun r => O.lst (r.map wD)) ++ [O.lst ((List.range' 4 W.length).map D.ref)]) a = some (r.map wD) := fun j a r ha hr => by
    have jl := (List.getElem?_eq_some_iff.mp hr).1
    rw [List.getElem?_range' jl] at ha
    injection ha with ha
    have : a = 4 + j := by omega
    subst this
    unfold lstOf
    rw [List.append_assoc, List.getElem?_append_right (by simp), List.getElem?_append_left (by simp; omega)]
    simp [hr]
  obtain ⟨T, ini⟩ := init_ok (k := 97) (S := [O.frz (ns.map D.int), O.lst (ws.map D.int), O.lst (qs.map rD), O.lst (W.map rD)] ++ (W.map fun r => O.lst (r.map wD)) ++ [O.lst ((List.range' 4 W.length).map D.ref)]) hn hWk dis.st hWl (lw := 4 + W.length) (refs := List.range' 4 W.length) (by
    have e : 4 + W.length = ([O.frz (ns.map D.int), O.lst (ws.map D.int), O.lst (qs.map rD), O.lst (W.map rD)] ++ (W.map fun r => O.lst (r.map wD))).length := by simp; omega
    rw [e]
    exact lstOf_new _ _) (by rw [List.length_range']) hrefs
  have ini : callN L.G 99 32 _ _ = _ := ini
  rw [← hcl] at ini
  have h11 : ex L.G cl lw11 none [some (.ref 0), some (.int f), some (.int (n : Int)), some (.ref 1), some (.bl nar), some (.int (d : Int)), some (t.D rD), some (.ref 2), none, some (.ref 3), v10, none, none, none, none, none, none, none, none, none, none] [O.frz (ns.map D.int), O.lst (ws.map D.int), O.lst (qs.map rD), O.lst (W.map rD)] = .nx [some (.ref 0), some (.int f), some (.int (n : Int)), some (.ref 1), some (.bl nar), some (.int (d : Int)), some (t.D rD), some (.ref 2), none, some (.ref 3), v10, some (.ref 4), none, none, none, none, none, none, none, none, none] [O.frz (ns.map D.int), O.lst (ws.map D.int), O.lst (qs.map rD), O.lst (W.map rD), O.ins 0 [(0, .int (n : Int)), (7, .tup (W.map rD))]] := by
    have hv : (evs L.G cl none (.cons (.loc 2) (.cons (.lc [12] (.nm 12) (.seq (.loc 9)) .nil (.blt .list (.cons (.loc 12) .nil))) .nil))).vs [some (.ref 0), some (.int f), some (.int (n : Int)), some (.ref 1), some (.bl nar), some (.int (d : Int)), some (t.D rD), some (.ref 2), none, some (.ref 3), v10, none, none, none, none, none, none, none, none, none, none] [O.frz (ns.map D.int), O.lst (ws.map D.int), O.lst (qs.map rD), O.lst (W.map rD)] = .ok [.int (n : Int), .ref (4 + W.length)] ([O.frz (ns.map D.int), O.lst (ws.map D.int), O.lst (qs.map rD), O.lst (W.map rD)] ++ (W.map fun r => O.lst (r.map wD)) ++ [O.lst ((List.range' 4 W.length).map D.ref)]) := by
      have sq : seqI (.ok (.ref 3) [O.frz (ns.map D.int), O.lst (ws.map D.int), O.lst (qs.map rD), O.lst (W.map rD)]) = .ok (W.map rD, some 3) [O.frz (ns.map D.int), O.lst (ws.map D.int), O.lst (qs.map rD), O.lst (W.map rD)] := rfl
      have e44 : W.length + 4 = 4 + W.length := by omega
      simp at lst12
      simp [sq, lst12]
      omega
    have b0 : 0 < L.G.cfl.length := by decide
    have t2 := tidy_ref ([O.frz (ns.map D.int), O.lst (ws.map D.int), O.lst (qs.map rD), O.lst (W.map rD)] ++ (W.map fun r => O.lst (r.map wD)) ++ [O.lst ((List.range' 4 W.length).map D.ref)]) (k := ([O.frz (ns.map D.int), O.lst (ws.map D.int), O.lst (qs.map rD), O.lst (W.map rD)] ++ (W.map fun r => O.lst (r.map wD)) ++ [O.lst ((List.range' 4 W.length).map D.ref)]).length) (T := .ins 0 [(0, .int (n : Int)), (7, .tup (W.map rD))] :: T) (o := .ins 0 [(0, .int (n : Int)), (7, .tup (W.map rD))]) (by simp) (Nat.le_refl _) (by simp [O.wf, D.wfs, D.wf, rws_wf]) (by simp)
    have t3 := tidy_ref [O.frz (ns.map D.int), O.lst (ws.map D.int), O.lst (qs.map rD), O.lst (W.map rD)] (k := ([O.frz (ns.map D.int), O.lst (ws.map D.int), O.lst (qs.map rD), O.lst (W.map rD)] ++ (W.map fun r => O.lst (r.map wD)) ++ [O.lst ((List.range' 4 W.length).map D.ref)]).length) (T := (W.map fun r => O.lst (r.map wD)) ++ [O.lst ((List.range' 4 W.length).map D.ref)] ++ [.ins 0 [(0, .int (n : Int)), (7, .tup (W.map rD))]]) (o := .ins 0 [(0, .int (n : Int)), (7, .tup (W.map rD))]) (by rw [← List.append_assoc, ← List.append_assoc]; simp) (by simp) (by simp [O.wf, D.wfs, D.wf, rws_wf]) (by simp)
    unfold lw11
    rw [s_asg_, v_mk, hv]
    unfold mkR
    rw [R.bind_ok, if_pos b0, ini]
    dsimp only [R.bind_ok]
    rw [t2]
    rw [← List.append_assoc, ← List.append_assoc] at t3
    rw [t3]
    rfl
  refine ⟨f, n, ws, nar, d, t, qs, W, v10, hn, hd, g1, by omega, lv, fun r hr => (hmem r).mpr (.inl hr), hWk, hWl, fun ss => ?_⟩
  rw [st h0, st h1, st h2, st h3, st h4, st h5, st h6, st h7, st h8, st h9, st h10, st h11]
end K13
set_option Elab.async false
set_option linter.all false
set_option autoImplicit false
set_option maxRecDepth 100000
set_option maxHeartbeats 4000000
/-! K13S: twelve spoilt papers (printed by tools/gen13b.py). -/
namespace K13
open Fx
def in0 : FS := .asg 19 (.idx (.loc 14) (.bin .Mod (.bin .Add (.bin .Add (.idx (.loc 15) (.bin .Add (.bin .Mult (.con (.int 5)) (.loc 16)) (.loc 18))) (.bin .Mult (.con (.int 60)) (.idx (.loc 15) (.bin .Sub (.con (.int 59)) (.loc 16))))) (.loc 18)) (.blt .len (.cons (.loc 14) .nil))))
def in1 : FS := .ifs (.and (.cons (.cmp .Eq (.loc 18) (.con (.int 1))) (.cons (.cmp .NotIn (.loc 19) (.call 19 (.cons (.loc 17) (.cons (.tup .nil) .nil)))) .nil))) (.cons (.asg 19 (.tup .nil)) .nil) .nil
def in2 : FS := .asg 20 (.call 23 (.cons (.loc 2) (.cons (.blt .len (.cons (.loc 9) .nil)) (.cons (.call 20 (.cons (.loc 17) (.cons (.loc 19) .nil))) (.cons (.idx (.loc 15) (.bin .Add (.bin .Add (.bin .Mult (.con (.int 5)) (.loc 16)) (.con (.int 2))) (.loc 18))) (.cons (.idx (.loc 15) (.bin .Sub (.bin .Add (.bin .Mult (.con (.int 5)) (.loc 16)) (.con (.int 4))) (.loc 18))) .nil))))))
def in3 : FS := .asg 17 (.call 21 (.cons (.loc 17) (.cons (.loc 19) (.cons (.loc 20) .nil))))
def inB : FSs := .cons in0 (.cons in1 (.cons in2 (.cons in3 .nil)))
def ou0 : FS := .asg 17 (.loc 13)
def ou1 : FS := .fr (.nm 18) (.range1 (.bin .Add (.con (.int 1)) (.bin .Mod (.loc 16) (.con (.int 2))))) inB
def ou2 : FS := .ifs (.cmp .Gt (.loc 16) (.con (.int 9))) (.cons (.asg 17 (.call 20 (.cons (.loc 13) (.cons (.idx (.loc 14) (.bin .Mod (.idx (.loc 15) (.loc 16)) (.blt .len (.cons (.loc 14) .nil)))) .nil)))) .nil) .nil
def ou3 : FS := .ifs (.not (.call 30 (.cons (.loc 2) (.cons (.loc 9) (.cons (.loc 11) (.cons (.loc 17) .nil)))))) (.cons (.ret (.con (.bl false))) .nil) .nil
def ouB : FSs := .cons ou0 (.cons ou1 (.cons ou2 (.cons ou3 .nil)))
theorem lw16_is : lw16 = .fr (.nm 16) (.range1 (.con (.int 12))) ouB := rfl
structure Ready (S : Store) (n : Nat) (W : List Row) (p : Pp) (ms : List Int) : Prop where
  book : BookAt S 4 n W
  wish : lstOf S 3 = some (W.map rD)
  plcs : lstOf S 5 = some ((places p []).map plD)
  more : lstOf S 6 = some (ms.map D.int)
  mlen : ms.length = 60
  mok : okW ms
  one : 1 ≤ W.length
  few : W.length < 77
  dep : p.dep ≤ 24
  lv : p.lv ≤ 32
  lin : p.lin ≤ 40
  nm : 1 ≤ p.dep → 1 ≤ n
theorem Ready.draw {S : Store} {n : Nat} {W : List Row} {p : Pp} {ms : List Int} (h : Ready S n W p ms) {i : Int} (h0 : 0 ≤ i) (h1 : i < 60) : ∃ w : Int, 0 ≤ w ∧ w < 60 ∧ atI (ms.map D.int) i = some (.int w) := by
  obtain ⟨j, rfl⟩ := Int.eq_ofNat_of_zero_le h0
  have hj : j < ms.length := by rw [h.mlen]; omega
  have := h.mok ms[j] (List.getElem_mem hj)
  refine ⟨ms[j], this.1, this.2, ?_⟩
  rw [atI_nat (by simpa using hj), List.getElem?_map, List.getElem?_eq_getElem hj]
  rfl
theorem Ready.place {S : Store} {n : Nat} {W : List Row} {p : Pp} {ms : List Int} (h : Ready S n W p ms) (i : Int) : ∃ (y : List Int) (q : Pp), p.at y = some q ∧ atI ((places p []).map plD) (i.fmod ((places p []).length : Int)) = some (plD y) := by
  have hl := places_len p []
  have hv := lv_pos p
  obtain ⟨x, xe, xl⟩ := fmod_small i (m := (places p []).length) (by omega)
  obtain ⟨y, q, e1, e2, _⟩ := places_at p [] _ (List.getElem_mem xl)
  refine ⟨y, q, e2, ?_⟩
  rw [xe, atI_nat (by simpa using xl), List.getElem?_map, List.getElem?_eq_getElem xl, e1]
  rfl
theorem Ready.plen {S : Store} {n : Nat} {W : List Row} {p : Pp} {ms : List Int} (h : Ready S n W p ms) : fLen [.ref 5] S = .ok (.int (places p []).length) S := by
  have := len_ref S h.plcs
  rwa [List.length_map] at this
theorem pls_nb : ∀ ps : List (List Int), D.nbs (ps.map plD) = true
  | [] => rfl
  | x :: ps => by
    have e : (plD x).nb = true := by
      show D.nbs (x.map D.int) = true
      induction x with
      | nil => rfl
      | cons a r ih => rw [List.map_cons, D.nbs, ih]; rfl
    rw [List.map_cons, D.nbs, e, pls_nb ps]; rfl
theorem pl_nb (x : List Int) : (plD x).nb = true := by
  have := pls_nb [x]
  simpa [D.nbs] using this
theorem pl_dep1 (x : List Int) : (plD x).dep = 1 := by
  show D.deps (x.map D.int) + 1 = 1
  rw [pl_dep]
theorem pls_dep : ∀ ps : List (List Int), D.deps (ps.map plD) ≤ 1
  | [] => Nat.zero_le _
  | x :: ps => by
    rw [List.map_cons, D.deps, pl_dep1]
    have := pls_dep ps
    omega
theorem pl_inj : ∀ {x y : List Int}, plD x = plD y → x = y := by
  intro x y h
  unfold plD at h
  injection h with h
  induction x generalizing y with
  | nil => cases y with
    | nil => rfl
    | cons b y => simp at h
  | cons a x ih => cases y with
    | nil => simp at h
    | cons b y =>
      simp at h
      rw [h.1, ih h.2]
theorem inner {cl : Orac} (hcl : cl = callN L.G 99) {S : Store} {n : Nat} {W : List Row} {p : Pp} {ms : List Int} (h : Ready S n W p ms) {e0 e1 e3 e4 e5 e6 e7 e8 e10 e12 : Option D} {v18 v19 v20 : Option D} (k j : Nat) (hk : k < 12) (hj : j < 2) (q : Pp) (q1 : q.dep ≤ p.dep) (q2' : q.lv ≤ p.lv) (q3 : q.lin ≤ 40 + j) (hj0 : j = 0 → q = p) :
    ∃ (q2 : Pp) (w19 w20 : Option D), q2.dep ≤ p.dep ∧ q2.lv ≤ p.lv ∧ q2.lin ≤ 41 + j ∧ frB L.G cl (.nm 18) inB none (.int (j : Int)) [e0, e1, some (.int (n : Int)), e3, e4, e5, e6, e7, e8, some (.ref 3), e10, some (.ref 4), e12, some (pD p), some (.ref 5), some (.ref 6), some (.int (k : Int)), some (pD q), v18, v19, v20] S = .nx [e0, e1, some (.int (n : Int)), e3, e4, e5, e6, e7, e8, some (.ref 3), e10, some (.ref 4), e12, some (pD p), some (.ref 5), some (.ref 6), some (.int (k : Int)), some (pD q2), some (.int (j : Int)), w19, w20] S := by
  have big : (2000 : Nat) ≤ line := by decide
  obtain ⟨a, a0, a1, ae⟩ := h.draw (i := 5 * (k : Int) + (j : Int)) (by omega) (by omega)
  obtain ⟨b, b0, b1, be⟩ := h.draw (i := 59 - (k : Int)) (by omega) (by omega)
  obtain ⟨c, c0, c1, ce⟩ := h.draw (i := 5 * (k : Int) + 2 + (j : Int)) (by omega) (by omega)
  obtain ⟨d, d0, d1, de⟩ := h.draw (i := 5 * (k : Int) + 4 - (j : Int)) (by omega) (by omega)
  obtain ⟨y0, qq, hy0, py⟩ := h.place (a + 60 * b + (j : Int))
  have g1 : bits 5 + bits (k : Int) < 1000000 := by
    have := log_le (i := (k : Int)) (k := 62) (by omega) (by omega) (by decide)
    have : bits 5 = 2 := by decide
    omega
  have g2 : bits 60 + bits b < 1000000 := by
    have := log_le (i := b) (k := 62) (by omega) (by omega) (by decide)
    have : bits 60 = 5 := by decide
    omega
  have plen := h.plen
  have pne : ¬ places p [] = [] := fun z => by have := places_len p []; rw [z] at this; have := lv_pos p; simp at *; omega
  have s0 : ex L.G cl in0 none [e0, e1, some (.int (n : Int)), e3, e4, e5, e6, e7, e8, some (.ref 3), e10, some (.ref 4), e12, some (pD p), some (.ref 5), some (.ref 6), some (.int (k : Int)), some (pD q), some (.int (j : Int)), v19, v20] S = .nx [e0, e1, some (.int (n : Int)), e3, e4, e5, e6, e7, e8, some (.ref 3), e10, some (.ref 4), e12, some (pD p), some (.ref 5), some (.ref 6), some (.int (k : Int)), some (pD q), some (.int (j : Int)), some (plD y0), v20] S := by
    have hm := h.more
    have hp := h.plcs
    generalize (places p []).map plD = pls at *
    unfold in0
    simp [g1, g2, hm, ae, be, plen, hp, py, pne]
  obtain ⟨y, s, hy, s1⟩ : ∃ (y : List Int) (s : Pp), q.at y = some s ∧ ex L.G cl in1 none [e0, e1, some (.int (n : Int)), e3, e4, e5, e6, e7, e8, some (.ref 3), e10, some (.ref 4), e12, some (pD p), some (.ref 5), some (.ref 6), some (.int (k : Int)), some (pD q), some (.int (j : Int)), some (plD y0), v20] S = .nx [e0, e1, some (.int (n : Int)), e3, e4, e5, e6, e7, e8, some (.ref 3), e10, some (.ref 4), e12, some (pD p), some (.ref 5), some (.ref 6), some (.int (k : Int)), some (pD q), some (.int (j : Int)), some (plD y), v20] S := by
    by_cases hj1 : j = 0
    · have e := hj0 hj1
      subst e
      subst hj1
      refine ⟨y0, qq, hy0, ?_⟩
      unfold in1
      simp
    · have hj1 : j = 1 := by omega
      subst hj1
      have pl := places_ok (S := S) q 98 [] (by have := h.dep; omega) (by have := h.lv; omega) (by simp; have := h.dep; omega)
      have pl : callN L.G 99 19 [pD q, .tup []] S = _ := pl
      rw [← hcl] at pl
      have inn := in_nb (S ++ [O.lst ((places q []).map plD)]) (a := plD y0) (b := .ref S.length) (lstOf_new S _) (pl_nb _) (pls_nb _) (by rw [pl_dep1]; decide) (by have := pls_dep (places q []); omega)
      by_cases c : plD y0 ∈ (places q []).map plD
      · rw [decide_eq_true c] at inn
        obtain ⟨x, hx, ex'⟩ := List.mem_map.mp c
        have := pl_inj ex'
        subst this
        obtain ⟨z, s, e1, e2, _⟩ := places_at q [] _ hx
        rw [List.nil_append] at e1
        subst e1
        refine ⟨x, s, e2, ?_⟩
        clear c
        generalize (places q []).map plD = pls at *
        unfold in1
        simp [pl, inn, line]
      · rw [decide_eq_false c] at inn
        refine ⟨[], q, by cases q <;> rfl, ?_⟩
        clear c
        generalize (places q []).map plD = pls at *
        have pl00 : plD [] = D.tup [] := rfl
        unfold in1
        simp [pl, inn, line, pl00]
  have hn : 1 ≤ s.dep → 1 ≤ n := fun z => h.nm (by have := (at_le hy).1; omega)
  obtain ⟨s2, t1, t2, t3, sp⟩ := spoilt_ok (k := 97) h.one (S := S) hn (by have := (at_le hy).2.2.1; omega) (w := c) (o := d) ⟨d0, d1⟩
  have sp : callN L.G 99 23 _ _ = _ := sp
  have nd := node_ok (S := S) (k := 98) hy
  have nd : callN L.G 99 20 _ _ = _ := nd
  obtain ⟨q2, u1, u2, u3, pt⟩ := put_paper (S := S) (c := 41 + j) y q s s2 98 hy t1 t2 (by have := (at_le hy).2.2.1; omega) (by omega) (by have := (at_le hy).2.2.2; have := h.dep; omega)
  have pt : callN L.G 99 21 _ _ = _ := pt
  rw [← hcl] at sp nd pt
  have hwl := len_ref S h.wish
  rw [List.length_map] at hwl
  have s2' : ex L.G cl in2 none [e0, e1, some (.int (n : Int)), e3, e4, e5, e6, e7, e8, some (.ref 3), e10, some (.ref 4), e12, some (pD p), some (.ref 5), some (.ref 6), some (.int (k : Int)), some (pD q), some (.int (j : Int)), some (plD y), v20] S = .nx [e0, e1, some (.int (n : Int)), e3, e4, e5, e6, e7, e8, some (.ref 3), e10, some (.ref 4), e12, some (pD p), some (.ref 5), some (.ref 6), some (.int (k : Int)), some (pD q), some (.int (j : Int)), some (plD y), some (pD s2)] S := by
    have hm := h.more
    unfold in2
    simp [hwl, nd, g1, hm, ce, de, sp]
  have s3 : ex L.G cl in3 none [e0, e1, some (.int (n : Int)), e3, e4, e5, e6, e7, e8, some (.ref 3), e10, some (.ref 4), e12, some (pD p), some (.ref 5), some (.ref 6), some (.int (k : Int)), some (pD q), some (.int (j : Int)), some (plD y), some (pD s2)] S = .nx [e0, e1, some (.int (n : Int)), e3, e4, e5, e6, e7, e8, some (.ref 3), e10, some (.ref 4), e12, some (pD p), some (.ref 5), some (.ref 6), some (.int (k : Int)), some (pD q2), some (.int (j : Int)), some (plD y), some (pD s2)] S := by
    unfold in3
    simp [pt]
  refine ⟨q2, some (plD y), some (pD s2), by omega, by omega, u3, ?_⟩
  show exs L.G cl inB none [e0, e1, some (.int (n : Int)), e3, e4, e5, e6, e7, e8, some (.ref 3), e10, some (.ref 4), e12, some (pD p), some (.ref 5), some (.ref 6), some (.int (k : Int)), some (pD q), some (.int (j : Int)), v19, v20] S = _
  unfold inB
  rw [st s0, st s1, st s2', st s3]
  rfl
theorem outer {cl : Orac} (hcl : cl = callN L.G 99) {S : Store} {n : Nat} {W : List Row} {p : Pp} {ms : List Int} (h : Ready S n W p ms) {e0 e1 e3 e4 e5 e6 e7 e8 e10 e12 : Option D} {v17 v18 v19 v20 : Option D} (k : Nat) (hk : k < 12) :
    ∃ (w17 w18 w19 w20 : Option D), exs L.G cl ouB none [e0, e1, some (.int (n : Int)), e3, e4, e5, e6, e7, e8, some (.ref 3), e10, some (.ref 4), e12, some (pD p), some (.ref 5), some (.ref 6), some (.int (k : Int)), v17, v18, v19, v20] S = .nx [e0, e1, some (.int (n : Int)), e3, e4, e5, e6, e7, e8, some (.ref 3), e10, some (.ref 4), e12, some (pD p), some (.ref 5), some (.ref 6), some (.int (k : Int)), w17, w18, w19, w20] S := by
  have big : (2000 : Nat) ≤ line := by decide
  have s0 : ex L.G cl ou0 none [e0, e1, some (.int (n : Int)), e3, e4, e5, e6, e7, e8, some (.ref 3), e10, some (.ref 4), e12, some (pD p), some (.ref 5), some (.ref 6), some (.int (k : Int)), v17, v18, v19, v20] S = .nx [e0, e1, some (.int (n : Int)), e3, e4, e5, e6, e7, e8, some (.ref 3), e10, some (.ref 4), e12, some (pD p), some (.ref 5), some (.ref 6), some (.int (k : Int)), some (pD p), v18, v19, v20] S := by
    unfold ou0
    simp
  obtain ⟨y, ye, yl⟩ := fmod_small (k : Int) (m := 2) (by decide)
  have ye : (k : Int).fmod 2 = (y : Int) := ye
  obtain ⟨q, w18, w19, w20, a1, a2, a3, s1⟩ : ∃ (q : Pp) (w18 w19 w20 : Option D), q.dep ≤ p.dep ∧ q.lv ≤ p.lv ∧ q.lin ≤ 42 ∧ ex L.G cl ou1 none [e0, e1, some (.int (n : Int)), e3, e4, e5, e6, e7, e8, some (.ref 3), e10, some (.ref 4), e12, some (pD p), some (.ref 5), some (.ref 6), some (.int (k : Int)), some (pD p), v18, v19, v20] S = .nx [e0, e1, some (.int (n : Int)), e3, e4, e5, e6, e7, e8, some (.ref 3), e10, some (.ref 4), e12, some (pD p), some (.ref 5), some (.ref 6), some (.int (k : Int)), some (pD q), w18, w19, w20] S := by
    obtain ⟨ρ', S', loop, q, v18', v19', v20', b1, b2, b3, b4, rfl, rfl⟩ := forL_inv (f := frB L.G cl (.nm 18) inB none) (chk := same none S) (fun j ρ S' => ∃ (q : Pp) (v18 v19 v20 : Option D), q.dep ≤ p.dep ∧ q.lv ≤ p.lv ∧ q.lin ≤ 40 + j ∧ (j = 0 → q = p) ∧ ρ = [e0, e1, some (.int (n : Int)), e3, e4, e5, e6, e7, e8, some (.ref 3), e10, some (.ref 4), e12, some (pD p), some (.ref 5), some (.ref 6), some (.int (k : Int)), some (pD q), v18, v19, v20] ∧ S' = S) (rangeD 0 ((1 + y : Nat) : Int)) 0 [e0, e1, some (.int (n : Int)), e3, e4, e5, e6, e7, e8, some (.ref 3), e10, some (.ref 4), e12, some (pD p), some (.ref 5), some (.ref 6), some (.int (k : Int)), some (pD p), v18, v19, v20] S ⟨p, v18, v19, v20, Nat.le_refl _, Nat.le_refl _, h.lin, fun _ => rfl, rfl, rfl⟩ (fun j d ρ S2 hj hP => by
      obtain ⟨q, v18, v19, v20, b1, b2, b3, b4, rfl, rfl⟩ := hP
      obtain ⟨hj1, rfl⟩ := range_get hj
      rw [Nat.zero_add] at b3 b4
      obtain ⟨q2, w19, w20, c1, c2, c3, e⟩ := inner hcl h k j hk (by omega) q b1 b2 b3 b4 (e0 := e0) (e1 := e1) (e3 := e3) (e4 := e4) (e5 := e5) (e6 := e6) (e7 := e7) (e8 := e8) (e10 := e10) (e12 := e12) (v18 := v18) (v19 := v19) (v20 := v20)
      exact ⟨_, _, e, rfl, q2, _, _, _, c1, c2, by omega, fun z => by omega, rfl, rfl⟩)
    rw [range_len] at b3
    refine ⟨q, v18', v19', v20', b1, b2, by omega, ?_⟩
    have sm : ∀ S, rangeI (.ok (.int (1 + (y : Int))) S) = .ok (rangeD 0 ((1 + y : Nat) : Int), none) S := fun S => by
      have := rangeI_int (S := S) (small_nat (n := 1 + y) (by omega))
      rw [← this]
      rfl
    generalize rangeD 0 ((1 + y : Nat) : Int) = rg at *
    unfold ou1
    simp [ye, sm, loop]
  obtain ⟨q2, c1, c2, c3, s2⟩ : ∃ q2 : Pp, q2.dep ≤ p.dep ∧ q2.lv ≤ p.lv ∧ q2.lin ≤ 42 ∧ ex L.G cl ou2 none [e0, e1, some (.int (n : Int)), e3, e4, e5, e6, e7, e8, some (.ref 3), e10, some (.ref 4), e12, some (pD p), some (.ref 5), some (.ref 6), some (.int (k : Int)), some (pD q), w18, w19, w20] S = .nx [e0, e1, some (.int (n : Int)), e3, e4, e5, e6, e7, e8, some (.ref 3), e10, some (.ref 4), e12, some (pD p), some (.ref 5), some (.ref 6), some (.int (k : Int)), some (pD q2), w18, w19, w20] S := by
    by_cases c : 9 < k
    · have c' : (9 : Int) < (k : Int) := by omega
      obtain ⟨a, a0, a1', ae⟩ := h.draw (i := (k : Int)) (by omega) (by omega)
      obtain ⟨z, q2, hz, pz⟩ := h.place a
      have nd := node_ok (S := S) (k := 98) hz
      have nd : callN L.G 99 20 _ _ = _ := nd
      rw [← hcl] at nd
      have le := at_le hz
      have hl := h.lin
      have plen := h.plen
      have pne : ¬ places p [] = [] := fun z => by have := places_len p []; rw [z] at this; have := lv_pos p; simp at *; omega
      have hm := h.more
      have hp := h.plcs
      refine ⟨q2, le.1, le.2.1, by omega, ?_⟩
      generalize (places p []).map plD = pls at *
      unfold ou2
      simp [c', hm, hp, ae, plen, pne, pz, nd]
    · have c' : ¬ (9 : Int) < (k : Int) := by omega
      refine ⟨q, a1, a2, a3, ?_⟩
      unfold ou2
      simp [c']
  have jd := judge_ok (k := 94) h.book h.wish (p := q2) (by have := h.dep; omega) (Tr.lin_sm (by omega)) (by have := h.dep; omega) (by have := h.lv; omega)
  have jd : callN L.G 99 30 _ _ = _ := jd
  rw [← hcl] at jd
  have s3 : ex L.G cl ou3 none [e0, e1, some (.int (n : Int)), e3, e4, e5, e6, e7, e8, some (.ref 3), e10, some (.ref 4), e12, some (pD p), some (.ref 5), some (.ref 6), some (.int (k : Int)), some (pD q2), w18, w19, w20] S = .nx [e0, e1, some (.int (n : Int)), e3, e4, e5, e6, e7, e8, some (.ref 3), e10, some (.ref 4), e12, some (pD p), some (.ref 5), some (.ref 6), some (.int (k : Int)), some (pD q2), w18, w19, w20] S := by
    unfold ou3
    simp [jd]
  refine ⟨some (pD q2), w18, w19, w20, ?_⟩
  unfold ouB
  rw [st s0, st s1, st s2, st s3]
  rfl
theorem twelve {cl : Orac} (hcl : cl = callN L.G 99) {S : Store} {n : Nat} {W : List Row} {p : Pp} {ms : List Int} (h : Ready S n W p ms) {e0 e1 e3 e4 e5 e6 e7 e8 e10 e12 : Option D} :
    ∃ (w16 w17 w18 w19 w20 : Option D), ex L.G cl lw16 none [e0, e1, some (.int (n : Int)), e3, e4, e5, e6, e7, e8, some (.ref 3), e10, some (.ref 4), e12, some (pD p), some (.ref 5), some (.ref 6), none, none, none, none, none] S = .nx [e0, e1, some (.int (n : Int)), e3, e4, e5, e6, e7, e8, some (.ref 3), e10, some (.ref 4), e12, some (pD p), some (.ref 5), some (.ref 6), w16, w17, w18, w19, w20] S := by
  obtain ⟨ρ', S', loop, v16, v17, v18, v19, v20, rfl, rfl⟩ := forL_inv (f := frB L.G cl (.nm 16) ouB none) (chk := same none S) (fun k ρ S' => ∃ (v16 v17 v18 v19 v20 : Option D), ρ = [e0, e1, some (.int (n : Int)), e3, e4, e5, e6, e7, e8, some (.ref 3), e10, some (.ref 4), e12, some (pD p), some (.ref 5), some (.ref 6), v16, v17, v18, v19, v20] ∧ S' = S) (rangeD 0 ((12 : Nat) : Int)) 0 [e0, e1, some (.int (n : Int)), e3, e4, e5, e6, e7, e8, some (.ref 3), e10, some (.ref 4), e12, some (pD p), some (.ref 5), some (.ref 6), none, none, none, none, none] S ⟨none, none, none, none, none, rfl, rfl⟩ (fun k d ρ S2 hj hP => by
    obtain ⟨v16, v17, v18, v19, v20, rfl, rfl⟩ := hP
    obtain ⟨hk, rfl⟩ := range_get hj
    obtain ⟨w17, w18, w19, w20, e⟩ := outer hcl h k hk (e0 := e0) (e1 := e1) (e3 := e3) (e4 := e4) (e5 := e5) (e6 := e6) (e7 := e7) (e8 := e8) (e10 := e10) (e12 := e12) (v17 := v17) (v18 := v18) (v19 := v19) (v20 := v20)
    exact ⟨_, _, e, rfl, _, _, _, _, _, rfl, rfl⟩)
  refine ⟨v16, v17, v18, v19, v20, ?_⟩
  have sm : ∀ S, rangeI (.ok (.int 12) S) = .ok (rangeD 0 ((12 : Nat) : Int), none) S := fun S => rangeI_int (small_nat (n := 12) (by decide))
  generalize rangeD 0 ((12 : Nat) : Int) = rg at *
  rw [lw16_is]
  simp [sm, loop]
theorem says : Says L 100 lawIx := by
  intro ns hns
  have big : (2000 : Nat) ≤ line := by decide
  obtain ⟨cl, hcl⟩ : ∃ cl, cl = callN L.G 99 := ⟨_, rfl⟩
  obtain ⟨f, n, ws, nar, d, t, qs, W, v10, hn, hd, good, dep, lv, tW, rk, wl, e1⟩ := first_part ns hns hcl
  have wfew : ∀ r ∈ W, r.length ≤ 1000 := fun r hr => by have := rowOk_len (rk r hr) (by omega); omega
  have dp : (ixed W t).dep ≤ 24 := by rw [ixed_dep]; exact dep
  have lvv : (ixed W t).lv ≤ 32 := by rw [ixed_lv]; exact lv
  have lin := good.lin (by omega) (by omega) W
  have hm4 : lstOf [O.frz (ns.map D.int), O.lst (ws.map D.int), O.lst (qs.map rD), O.lst (W.map rD), O.ins 0 [(0, .int (n : Int)), (7, .tup (W.map rD))]] 3 = some (W.map rD) := rfl
  have B4 : BookAt [O.frz (ns.map D.int), O.lst (ws.map D.int), O.lst (qs.map rD), O.lst (W.map rD), O.ins 0 [(0, .int (n : Int)), (7, .tup (W.map rD))]] 4 n W := ⟨rfl, wfew, by omega⟩
  have one : 1 ≤ W.length := by
    have h1 := t.ws_len
    have h2 := lv_pos t
    cases e : t.ws with
    | nil => rw [e] at h1; simp at h1; omega
    | cons r rs =>
      have := tW r (by rw [e]; exact List.mem_cons_self ..)
      cases W with
      | nil => cases this
      | cons a b => simp
  have c18 := indexed_ok hm4 t 98 (by omega) tW
  have c18 : callN L.G 99 18 _ _ = _ := c18
  have c27 := ldue_ok (n := (n : Int)) hm4 wfew (by omega) (p := ixed W t) (k := 97) (by omega) (Tr.lin_sm (by omega)) (by omega)
  have c27 : callN L.G 99 27 _ _ = _ := c27
  rw [ixed_due good tW] at c27
  have c30 := judge_ok (k := 94) B4 hm4 (p := ixed W t) (by omega) (Tr.lin_sm (by omega)) (by omega) (by omega)
  have c30 : callN L.G 99 30 _ _ = _ := c30
  have c19 := places_ok (S := [O.frz (ns.map D.int), O.lst (ws.map D.int), O.lst (qs.map rD), O.lst (W.map rD), O.ins 0 [(0, .int (n : Int)), (7, .tup (W.map rD))]]) (ixed W t) 98 [] (by omega) (by omega) (by simp; omega)
  have c19 : callN L.G 99 19 [_, .tup []] _ = _ := c19
  rw [← hcl] at c18 c27 c30 c19
  have h12 : ex L.G cl lw12 none [some (.ref 0), some (.int f), some (.int (n : Int)), some (.ref 1), some (.bl nar), some (.int (d : Int)), some (t.D rD), some (.ref 2), none, some (.ref 3), v10, some (.ref 4), none, none, none, none, none, none, none, none, none] [O.frz (ns.map D.int), O.lst (ws.map D.int), O.lst (qs.map rD), O.lst (W.map rD), O.ins 0 [(0, .int (n : Int)), (7, .tup (W.map rD))]] = .nx [some (.ref 0), some (.int f), some (.int (n : Int)), some (.ref 1), some (.bl nar), some (.int (d : Int)), some (t.D rD), some (.ref 2), none, some (.ref 3), v10, some (.ref 4), none, some (pD (ixed W t)), none, none, none, none, none, none, none] [O.frz (ns.map D.int), O.lst (ws.map D.int), O.lst (qs.map rD), O.lst (W.map rD), O.ins 0 [(0, .int (n : Int)), (7, .tup (W.map rD))]] := by
    generalize W.map rD = wd at *
    generalize qs.map rD = qd at *
    unfold lw12
    simp [c18]
  have h13 : ex L.G cl lw13 none [some (.ref 0), some (.int f), some (.int (n : Int)), some (.ref 1), some (.bl nar), some (.int (d : Int)), some (t.D rD), some (.ref 2), none, some (.ref 3), v10, some (.ref 4), none, some (pD (ixed W t)), none, none, none, none, none, none, none] [O.frz (ns.map D.int), O.lst (ws.map D.int), O.lst (qs.map rD), O.lst (W.map rD), O.ins 0 [(0, .int (n : Int)), (7, .tup (W.map rD))]] = .nx [some (.ref 0), some (.int f), some (.int (n : Int)), some (.ref 1), some (.bl nar), some (.int (d : Int)), some (t.D rD), some (.ref 2), none, some (.ref 3), v10, some (.ref 4), none, some (pD (ixed W t)), none, none, none, none, none, none, none] [O.frz (ns.map D.int), O.lst (ws.map D.int), O.lst (qs.map rD), O.lst (W.map rD), O.ins 0 [(0, .int (n : Int)), (7, .tup (W.map rD))]] := by
    generalize W.map rD = wd at *
    generalize qs.map rD = qd at *
    unfold lw13
    simp [c27, c30, fD]
  have h14 : ex L.G cl lw14 none [some (.ref 0), some (.int f), some (.int (n : Int)), some (.ref 1), some (.bl nar), some (.int (d : Int)), some (t.D rD), some (.ref 2), none, some (.ref 3), v10, some (.ref 4), none, some (pD (ixed W t)), none, none, none, none, none, none, none] [O.frz (ns.map D.int), O.lst (ws.map D.int), O.lst (qs.map rD), O.lst (W.map rD), O.ins 0 [(0, .int (n : Int)), (7, .tup (W.map rD))]] = .nx [some (.ref 0), some (.int f), some (.int (n : Int)), some (.ref 1), some (.bl nar), some (.int (d : Int)), some (t.D rD), some (.ref 2), none, some (.ref 3), v10, some (.ref 4), none, some (pD (ixed W t)), some (.ref 5), none, none, none, none, none, none] [O.frz (ns.map D.int), O.lst (ws.map D.int), O.lst (qs.map rD), O.lst (W.map rD), O.ins 0 [(0, .int (n : Int)), (7, .tup (W.map rD))], O.lst ((places (ixed W t) []).map plD)] := by
    have tn := tidy_new [O.frz (ns.map D.int), O.lst (ws.map D.int), O.lst (qs.map rD), O.lst (W.map rD), O.ins 0 [(0, .int (n : Int)), (7, .tup (W.map rD))]] (O.lst ((places (ixed W t) []).map plD))
    generalize (places (ixed W t) []).map plD = pls at *
    generalize W.map rD = wd at *
    generalize qs.map rD = qd at *
    unfold lw14
    simp at c19 tn
    simp [c19, tn, line]
  obtain ⟨sd, c13⟩ := seed_ok fns_13 fns_11 (n := 97) (k := 2) (S := [O.frz (ns.map D.int), O.lst (ws.map D.int), O.lst (qs.map rD), O.lst (W.map rD), O.ins 0 [(0, .int (n : Int)), (7, .tup (W.map rD))], O.lst ((places (ixed W t) []).map plD)]) (ns := ns) (r := 0) (by decide) rfl
  obtain ⟨ms, ml, mo, c12⟩ := draws_ok fns_12 (n := 98) (S := [O.frz (ns.map D.int), O.lst (ws.map D.int), O.lst (qs.map rD), O.lst (W.map rD), O.ins 0 [(0, .int (n : Int)), (7, .tup (W.map rD))], O.lst ((places (ixed W t) []).map plD)]) (c := sd) (m := 60) (by decide)
  have c13 : callN L.G 99 13 [.ref 0, .int 2] _ = _ := c13
  have c12 : callN L.G 99 12 [.int sd, .int 60] _ = _ := c12
  rw [← hcl] at c12 c13
  have h15 : ex L.G cl lw15 none [some (.ref 0), some (.int f), some (.int (n : Int)), some (.ref 1), some (.bl nar), some (.int (d : Int)), some (t.D rD), some (.ref 2), none, some (.ref 3), v10, some (.ref 4), none, some (pD (ixed W t)), some (.ref 5), none, none, none, none, none, none] [O.frz (ns.map D.int), O.lst (ws.map D.int), O.lst (qs.map rD), O.lst (W.map rD), O.ins 0 [(0, .int (n : Int)), (7, .tup (W.map rD))], O.lst ((places (ixed W t) []).map plD)] = .nx [some (.ref 0), some (.int f), some (.int (n : Int)), some (.ref 1), some (.bl nar), some (.int (d : Int)), some (t.D rD), some (.ref 2), none, some (.ref 3), v10, some (.ref 4), none, some (pD (ixed W t)), some (.ref 5), some (.ref 6), none, none, none, none, none] [O.frz (ns.map D.int), O.lst (ws.map D.int), O.lst (qs.map rD), O.lst (W.map rD), O.ins 0 [(0, .int (n : Int)), (7, .tup (W.map rD))], O.lst ((places (ixed W t) []).map plD), O.lst (ms.map D.int)] := by
    have tn := tidy_new [O.frz (ns.map D.int), O.lst (ws.map D.int), O.lst (qs.map rD), O.lst (W.map rD), O.ins 0 [(0, .int (n : Int)), (7, .tup (W.map rD))], O.lst ((places (ixed W t) []).map plD)] (O.lst (ms.map D.int))
    generalize (places (ixed W t) []).map plD = pls at *
    generalize W.map rD = wd at *
    generalize qs.map rD = qd at *
    unfold lw15
    simp at c12 tn
    simp [c12, c13, tn]
  have rdy : Ready [O.frz (ns.map D.int), O.lst (ws.map D.int), O.lst (qs.map rD), O.lst (W.map rD), O.ins 0 [(0, .int (n : Int)), (7, .tup (W.map rD))], O.lst ((places (ixed W t) []).map plD), O.lst (ms.map D.int)] n W (ixed W t) ms := ⟨⟨rfl, wfew, by omega⟩, rfl, rfl, rfl, ml, mo, one, wl, by omega, by omega, by omega, fun z => by rw [ixed_dep] at z; have := good.one z; omega⟩
  obtain ⟨w16, w17, w18, w19, w20, h16⟩ := twelve hcl rdy (e0 := some (.ref 0)) (e1 := some (.int f)) (e3 := some (.ref 1)) (e4 := some (.bl nar)) (e5 := some (.int (d : Int))) (e6 := some (t.D rD)) (e7 := some (.ref 2)) (e8 := none) (e10 := v10) (e12 := none)
  have c7 := due_ok rdy.book (p := ixed W t) (k := 97) (by omega) (Tr.lin_sm (by omega)) (by omega)
  have c7 : callN L.G 99 7 _ _ = _ := c7
  rw [ixed_due good tW, ← hcl] at c7
  have h17 : ex L.G cl lw17 none [some (.ref 0), some (.int f), some (.int (n : Int)), some (.ref 1), some (.bl nar), some (.int (d : Int)), some (t.D rD), some (.ref 2), none, some (.ref 3), v10, some (.ref 4), none, some (pD (ixed W t)), some (.ref 5), some (.ref 6), w16, w17, w18, w19, w20] [O.frz (ns.map D.int), O.lst (ws.map D.int), O.lst (qs.map rD), O.lst (W.map rD), O.ins 0 [(0, .int (n : Int)), (7, .tup (W.map rD))], O.lst ((places (ixed W t) []).map plD), O.lst (ms.map D.int)] = .ret (.bl true) [O.frz (ns.map D.int), O.lst (ws.map D.int), O.lst (qs.map rD), O.lst (W.map rD), O.ins 0 [(0, .int (n : Int)), (7, .tup (W.map rD))], O.lst ((places (ixed W t) []).map plD), O.lst (ms.map D.int)] := by
    generalize (places (ixed W t) []).map plD = pls at *
    generalize W.map rD = wd at *
    generalize qs.map rD = qd at *
    unfold lw17
    simp [c7, fD]
  refine ⟨[O.frz (ns.map D.int)], ?_⟩
  show callN L.G (99 + 1) 31 [.ref 0] _ = _
  rw [call_eq fns_31 rfl, lweq, ← hcl]
  show tidy _ (exs L.G cl _ none [some (.ref 0), none, none, none, none, none, none, none, none, none, none, none, none, none, none, none, none, none, none, none, none] _).done = _
  rw [e1, st h12, st h13, st h14, st h15, st h16, stR h17]
  exact tidy_drop (S := [O.frz (ns.map D.int)]) (T := [O.lst (ws.map D.int), O.lst (qs.map rD), O.lst (W.map rD), O.ins 0 [(0, .int (n : Int)), (7, .tup (W.map rD))], O.lst ((places (ixed W t) []).map plD), O.lst (ms.map D.int)]) rfl
end K13
set_option Elab.async false
set_option linter.all false
set_option maxRecDepth 100000
set_option maxHeartbeats 0
open PySem PySem.W PySem.Calls PyProof.Rows
theorem K13.closing (hl : Fx.Says K13.L 100 K13.lawIx) : PySem.Challenge.rw_papersorliars_k13_line_trees_judged.Holds := by
  w_on; o_law
  refine HandSHeadRun.head_any (r := OpenLaw.row PySem.Challenge.rw_papersorliars_k13_line_trees_judged) (q := view (OpenLaw.row PySem.Challenge.rw_papersorliars_k13_line_trees_judged).prog [K13.lawTop]) (H := K13.hk) (ob := K13.ob) (M := 4000) (loose := K13.loose) (d := HandSHeadRun.topDef (OpenLaw.row PySem.Challenge.rw_papersorliars_k13_line_trees_judged).prog K13.lawTop) (kwd := []) K13.ob_eq
    (by kernel_rfl) (fun s => by kernel_rfl) K13.run (by kernel_rfl) (by kernel_rfl) (by kernel_rfl) (by rfl) (by first | assumption | decide +kernel) (by decide +kernel) ⟨rfl, rfl, rfl, rfl, rfl, by decide +kernel⟩ ?hw ?hc
  case hw => w_witness2
  case hc =>
    refine L2.walk_ofE (l := PySem.Challenge.rw_papersorliars_k13_line_trees_judged) (n := 63) (k := 202) (x := "_law_script") (CX := L2.CX0) rfl (by decide) (by kernel_rfl) ⟨rfl, by decide, by decide⟩ ?F (fun _ _ _ _ z => z)
    intro w mg fa h Y G hmg0
    obtain ⟨K, KX, c⟩ := Y
    have hmg : mg ("law" : PySem.Str) = some (.ref fa) := by
      have e : (HandSHeadRun.topDef (OpenLaw.row PySem.Challenge.rw_papersorliars_k13_line_trees_judged).prog K13.lawTop).name = ("law" : PySem.Str) := by kernel_rfl
      rw [← e]
      exact hmg0
    obtain ⟨fd, sp, a1, a2, a3⟩ := Fx.law_fin (P := PySem.Challenge.rw_papersorliars_k13_line_trees_judged.prog) (w := w) (x := "_law_script") (d := K13.d_law) K13.stat K13.bnd K13.bnm K13.bni K13.nd KX G c rfl rfl hl rfl rfl hmg
    exact ⟨K, fd, sp, KX, a1, a2, a3⟩
theorem PySem.Challenge.cw_papersorliars_k13_line_trees_judged_holds : PySem.Challenge.rw_papersorliars_k13_line_trees_judged.Holds := by
  exact K13.closing K13.says
