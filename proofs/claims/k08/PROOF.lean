import PyProof.Rows.All
import Wide.All
import OpenK.AllK
import Wide.FinOn
import HandS.SetFor
import HandS.TupSets
import KE.KeyNested
import HandS.Dict
import HandS.TupLen
import HandS.Zip
import KE.GoesEnum
import HandS.ForMost
import HandS.TupAny
import HandS.TupMul
import HandS.Deep
import HandS.Wide
import HandS.Style
import HandS.StrMore
import HandS.Rev
import HandS.IsInst
import PyProof.ReprReads
import KE.SortData
import KE.DataEq
import HandS.More
import KE.KDictPairs
import KE.KDictCopyH
import HandS.Conv
import PyProof.ListStr
import HandS.Defaults
import KE.KDictZip
import HandS.HeadEnd
import HandS.Codes
import HandS.Head0
import HandS.Head1
import HandS.Head2
import HandS.HeadHook1
import HandS.HeadHook2
import PySem.Challenge.RW_manyways_k08_what_is_of_use
set_option Elab.async false
set_option linter.all false
set_option maxRecDepth 100000
/-! MWT: sets of tuples (whatever is in them), to be sorted or counted -/
namespace MW
open PySem PySem.Spec PyProof.Rows L2
abbrev KA := NestedKey × Addr
abbrev IsN (h : Heap) (p : KA) : Prop := NestedIs h p.1 (.ref p.2) ∧ p.1.depth ≤ 8
/-! ### what the model asks of a thing within a set -/
section
variable {P : Program} {w : World}
def ClsNo (P : Program) (w : World) (n : Nat) (s : Shared) (v : Value) : Prop := ∀ (A : Around) (E : Value → Shared → Prop) (Q : Bool → Shared → Prop), Q false s → wpAny (model P w) A (ofAClassStatement n v) Q E s
def HshAny (P : Program) (w : World) (n : Nat) (s : Shared) (v : Value) : Prop := ∀ (A : Around) (E : Value → Shared → Prop) (Q : Bool → Shared → Prop), (∀ b, Q b s) → wpAny (model P w) A (hashByValue n v) Q E s
theorem ClsNo.tup {n m : Nat} {s : Shared} {b : Addr} {o : Obj} {its : Array Value} (g1 : s.heap.get? b = some o) (g2 : o.cls = .type "tuple") (g3 : o.data = .seq its m) (all : ∀ v ∈ its.toList, ClsNo P w n s v) : ClsNo P w (n + 1) s (.ref b) := fun A E Q q => by
  unfold ofAClassStatement
  refine wpAny_bind (wpAny_typeOf (T := "tuple") ⟨o, g1, g2⟩ ?_)
  dsimp only
  simp only [show (("tuple" : String) == "tuple") = true by decide, if_true, Bool.not_true, Bool.false_eq_true, if_false]
  try refine wpAny_bind (wpAny_pure ?_)
  try simp only [Bool.not_true, Bool.false_eq_true, if_false]
  show wpAny _ _ (seqItems? (.ref b) >>= _) _ _ s
  refine wpAny_bind (wpAny_seqItems g1 g3 ?_)
  dsimp only
  refine wpAny_bind ?_
  show wpAny _ _ (forIn its _ _) _ _ s
  rw [← Array.forIn_toList]
  refine wpAny_forIn_list _ (fun l r t => t = s ∧ r.1 = none ∧ ∀ v ∈ l, ClsNo P w n s v) _ ?_ ?_ _ _ ⟨rfl, rfl, all⟩
  · rintro v l r t ⟨rfl, e, hl⟩
    refine wpAny_bind (hl v List.mem_cons_self A E _ ?_)
    simp only [Bool.false_eq_true, if_false]
    exact wpAny_pure ⟨rfl, rfl, fun u hu => hl u (List.mem_cons_of_mem _ hu)⟩
  · rintro ⟨r1, r2⟩ t ⟨rfl, e, _⟩
    simp only at e
    subst e
    exact wpAny_pure q
theorem HshAny.tup {n m : Nat} {s : Shared} {b : Addr} {o : Obj} {its : Array Value} (g1 : s.heap.get? b = some o) (g2 : o.cls = .type "tuple") (g3 : o.data = .seq its m) (all : ∀ v ∈ its.toList, HshAny P w n s v) : HshAny P w (n + 1) s (.ref b) := fun A E Q q => by
  unfold hashByValue
  refine wpAny_bind (wpAny_specialOf (T := "tuple") ⟨o, g1, g2⟩ F.slot_tuple_hash.lookup ?_)
  show wpAny _ _ (seqItems? (.ref b) >>= _) _ _ s
  refine wpAny_bind (wpAny_seqItems g1 g3 ?_)
  refine wpAny_bind ?_
  show wpAny _ _ (forIn its _ _) _ _ s
  rw [← Array.forIn_toList]
  refine wpAny_forIn_list _ (fun l r t => t = s ∧ r.1 = none ∧ ∀ v ∈ l, HshAny P w n s v) _ ?_ ?_ _ _ ⟨rfl, rfl, all⟩
  · rintro v l r t ⟨rfl, e, hl⟩
    refine wpAny_bind (hl v List.mem_cons_self A E _ fun b => ?_)
    cases b
    · simp only [Bool.not_false, if_true]
      exact wpAny_pure (wpAny_pure (q _))
    · simp only [Bool.not_true, Bool.false_eq_true, if_false]
      exact wpAny_pure ⟨rfl, rfl, fun u hu => hl u (List.mem_cons_of_mem _ hu)⟩
  · rintro ⟨r1, r2⟩ t ⟨rfl, e, _⟩
    simp only at e
    subst e
    exact wpAny_pure (q _)
mutual
theorem cls_key : ∀ (k : NestedKey) (v : Value) (n : Nat) (s : Shared), NestedIs s.heap k v → k.depth ≤ n → ClsNo P w n s v
  | .none, _, n, s, x, _ => fun A E Q q => by cases x; cases n <;> exact wpAny_pure q
  | .num i, _, n, s, x, _ => fun A E Q q => by cases x <;> cases n <;> exact wpAny_pure q
  | .text y, _, n, s, x, _ => fun A E Q q => by cases x; cases n <;> exact wpAny_pure q
  | .tup ks, _, n, s, x, hn => by
    cases x with
    | tup g1 g2 g3 g4 =>
      simp only [NestedKey.depth] at hn
      cases n with
      | zero => omega
      | succ n => exact .tup g1 g2 g3 (cls_keys ks _ n s g4 (by omega))
theorem cls_keys : ∀ (ks : List NestedKey) (us : List Value) (n : Nat) (s : Shared), NestedAll s.heap ks us → NestedKey.depthAll ks ≤ n → ∀ v ∈ us, ClsNo P w n s v
  | [], _, _, _, x, _, v, hv => by cases x; cases hv
  | k :: ks, _, n, s, x, hn, v, hv => by
    cases x with
    | cons x1 x2 =>
      simp only [NestedKey.depthAll] at hn
      rcases List.mem_cons.mp hv with e | hv
      · rw [e]; exact cls_key k _ n s x1 (by omega)
      · exact cls_keys ks _ n s x2 (by omega) v hv
end
mutual
theorem hsh_key : ∀ (k : NestedKey) (v : Value) (n : Nat) (s : Shared), NestedIs s.heap k v → k.depth ≤ n → HshAny P w n s v
  | .none, _, n, s, x, _ => fun A E Q q => by cases x; cases n <;> exact wpAny_pure (q _)
  | .num i, _, n, s, x, _ => fun A E Q q => by cases x <;> cases n <;> exact wpAny_pure (q _)
  | .text y, _, n, s, x, _ => fun A E Q q => by cases x; cases n <;> exact wpAny_pure (q _)
  | .tup ks, _, n, s, x, hn => by
    cases x with
    | tup g1 g2 g3 g4 =>
      simp only [NestedKey.depth] at hn
      cases n with
      | zero => omega
      | succ n => exact .tup g1 g2 g3 (hsh_keys ks _ n s g4 (by omega))
theorem hsh_keys : ∀ (ks : List NestedKey) (us : List Value) (n : Nat) (s : Shared), NestedAll s.heap ks us → NestedKey.depthAll ks ≤ n → ∀ v ∈ us, HshAny P w n s v
  | [], _, _, _, x, _, v, hv => by cases x; cases hv
  | k :: ks, _, n, s, x, hn, v, hv => by
    cases x with
    | cons x1 x2 =>
      simp only [NestedKey.depthAll] at hn
      rcases List.mem_cons.mp hv with e | hv
      · rw [e]; exact hsh_key k _ n s x1 (by omega)
      · exact hsh_keys ks _ n s x2 (by omega) v hv
end
end
section
variable {P : Program} {w : World} {A : Around} {E : Value → Shared → Prop} {s : Shared}
theorem seen_none {x : KA} (hx : IsN s.heap x) : ∀ {ys : List KA}, (∀ y ∈ ys, IsN s.heap y) → ∀ {Q : Bool → Shared → Prop}, Q false s → wpAny (model P w) A (searchCouldBeSeen (.ref x.2) (ys.map fun y => .ref y.2)) Q E s := by
  intro ys hy Q q
  unfold searchCouldBeSeen
  refine wpAny_bind ?_
  refine wpAny_forIn_list _ (fun l r t => t = s ∧ r.1 = none ∧ ∃ zs : List KA, l = zs.map (fun y => Value.ref y.2) ∧ ∀ y ∈ zs, IsN s.heap y) _ ?_ ?_ _ _ ⟨rfl, rfl, ys, rfl, hy⟩
  · rintro v l r t ⟨rfl, e, zs, ez, hz⟩
    cases zs with
    | nil => cases ez
    | cons z zs =>
      rw [List.map_cons] at ez
      injection ez with e1 e2
      subst e1 e2
      have more : ∀ y ∈ zs, IsN t.heap y := fun y h => hz y (List.mem_cons_of_mem _ h)
      have hz1 := hz z List.mem_cons_self
      dsimp only
      by_cases hv : (x.2 == z.2 || (carriedByValue (.ref x.2) && carriedByValue (.ref z.2))) = true
      · exact wp_if_pos hv (wpAny_pure ⟨rfl, rfl, zs, rfl, more⟩)
      · refine wp_if_neg hv ?_
        refine wpAny_bind (quiet_key x.1 _ 8 t hx.1 hx.2 A E _ ?_)
        simp only [Bool.not_true, Bool.false_eq_true, if_false]
        refine wpAny_bind (quiet_key z.1 _ 8 t hz1.1 hz1.2 A E _ ?_)
        simp only [Bool.not_true, Bool.false_eq_true, if_false]
        refine wpAny_bind (cls_key x.1 _ 8 t hx.1 hx.2 A E _ ?_)
        simp only [Bool.false_eq_true, if_false]
        refine wpAny_bind (cls_key z.1 _ 8 t hz1.1 hz1.2 A E _ ?_)
        simp only [Bool.false_eq_true, if_false]
        exact wpAny_pure ⟨rfl, rfl, zs, rfl, more⟩
  · rintro ⟨r1, r2⟩ t ⟨rfl, e, _⟩
    simp only at e
    subst e
    exact wpAny_pure q
/-! ### a set of tuples -/
abbrev hK (w : World) (k : NestedKey) : Int := NestedKey.hash w k
def rowN (w : World) (p : KA) : Int × Value := (hK w p.1, .ref p.2)
structure StN (w : World) (h : Heap) (a : Addr) (L : List KA) (es : Array (Int × Value)) (ep : Nat) (t : SetTable) : Prop where
  lies : ∃ o, h.get? a = some o ∧ o.ExactSet ∧ o.data = .set es ep t
  rows : es.toList = L.map (rowN w)
  tab : TabOk t (L.map fun p => hK w p.1)
  once : (L.map (·.1)).Nodup
  mem : ∀ p ∈ L, IsN h p
  led : w.params.followText "set-order" = true ∨ t.led = true
  room : L.length * 5 < t.mask * 3
variable {a : Addr} {L : List KA} {es : Array (Int × Value)} {ep : Nat} {t : SetTable}
theorem StN.many (S : StN w s.heap a L es ep t) : es.size = L.length := by rw [← Array.length_toList, S.rows, List.length_map]
theorem StN.spots (S : StN w s.heap a L es ep t) : t.place.size = L.length := by have := S.tab.sz; rwa [List.length_map] at this
theorem StN.fit (S : StN w s.heap a L es ep t) : t.fits es.size = true := by
  have h1 := S.spots
  have h2 := S.many
  have h3 := S.room
  unfold SetTable.fits SetTable.fill
  rw [S.tab.dm, Bool.and_eq_true, beq_iff_eq, decide_eq_true_eq]
  show t.place.size = es.size ∧ t.place.size + 0 ≤ t.mask
  omega
theorem StN.row (S : StN w s.heap a L es ep t) {i : Nat} {p : KA} (h : L[i]? = some p) : es[i]? = some (rowN w p) := by
  rw [← Array.getElem?_toList, S.rows, List.getElem?_map, h]; rfl
theorem StN.at0 (S : StN w s.heap a L es ep t) {i : Nat} {p : KA} (h : L[i]? = some p) : (es[i]?.map (·.1)).getD 0 = hK w p.1 := by rw [S.row h]; rfl
/-- the c-th place that is looked at -/
abbrev Pb (m : Nat) (h : Int) (c : Nat) : SetTable.Probe := nth m (runAt m (SetTable.bits h % (m + 1)) (SetTable.bits h)) c
theorem pb_add (m : Nat) (h : Int) (c q : Nat) : nth m (Pb m h c) q = Pb m h (c + q) := (nth_add m c _ q).symm
theorem pb_dummy (m : Nat) (h : Int) : ∀ c, (Pb m h c).dummy = none := by
  have go : ∀ (c : Nat) (p : SetTable.Probe), p.dummy = none → (nth m p c).dummy = none := fun c => by
    induction c with
    | zero => exact fun _ e => e
    | succ c ih => exact fun p e => ih _ (by unfold adv; split <;> exact e)
  exact fun c => go c _ rfl
/-- looking from the c-th place on: found, or the first free one -/
theorem look_from (S : StN w s.heap a L es ep t) {x : KA} (hx : IsN s.heap x) (hu : A.units + 8 < cLine) {K : Nat} (kf : K < 10 * SetTable.turns t.mask) (free : way t.mask (hK w x.1) K ∉ t.place.toList) (taken : ∀ c, c < K → way t.mask (hK w x.1) c ∈ t.place.toList)
    {Q : SetFound → Shared → Prop} (yes : x.1 ∈ L.map (·.1) → Q (.there none) s) (no : x.1 ∉ L.map (·.1) → Q (.free (way t.mask (hK w x.1) K) false) s) :
    ∀ (f c : Nat) (st : Option SetTable.Probe), st.getD (t.probeStart (hK w x.1)) = Pb t.mask (hK w x.1) c → c ≤ K → K < c + f → (∀ (i : Nat) (p : KA), L[i]? = some p → p.1 = x.1 → ∃ d, c ≤ d ∧ d < K ∧ t.place.toList[i]? = some (way t.mask (hK w x.1) d)) →
      wpAny (model P w) A (setSearchFrom a (.ref x.2) (hK w x.1) true f st) Q E s := by
  intro f
  induction f with
  | zero => intro c st _ h1 h2 _; omega
  | succ f ih =>
    intro c st est hc hf ahead
    obtain ⟨o, ho, oe, od⟩ := S.lies
    have gw : ¬ t.gaveWay = true := by unfold SetTable.gaveWay; rw [mask_odd S.tab.mok]; decide
    rw [setSearchFrom_succ]
    refine wpAny_bind (wpAny_setState_of ho od S.fit ?_)
    dsimp only
    refine wp_if_neg gw ?_
    try refine wpAny_bind (wpAny_pure ?_)
    have jw : ∀ q, (nth t.mask (Pb t.mask (hK w x.1) c) q).j = way t.mask (hK w x.1) (c + q) := fun q => congrArg SetTable.Probe.j (pb_add t.mask (hK w x.1) c q)
    rcases go_spec t S.tab.ris S.tab.dm (fun i => (es[i]?.map (·.1)).getD 0) (hK w x.1) (10 * SetTable.turns t.mask) (K - c) _ (pb_dummy t.mask (hK w x.1) c) (by omega)
      (fun q hq => by rw [jw]; exact taken _ (by omega)) (by rw [jw, Nat.add_sub_cancel' hc]; exact free) with ⟨q, i, hq, hi, hh, before, hp⟩ | ⟨before, hp⟩
    · rw [jw, pb_add] at hp
      have hp' : t.probe (fun i => (es[i]?.map (·.1)).getD 0) (hK w x.1) (st.getD (t.probeStart (hK w x.1))) = some (.candidate (way t.mask (hK w x.1) (c + q)) i (Pb t.mask (hK w x.1) (c + (q + 1)))) := by rw [est]; exact hp
      rw [hp']
      dsimp only
      rw [jw] at hi
      obtain ⟨p, hpi⟩ : ∃ p, L[i]? = some p := by
        have h1 : i < t.place.toList.length := (List.getElem?_eq_some_iff.mp hi).1
        rw [Array.length_toList, S.spots] at h1
        exact ⟨_, List.getElem?_eq_getElem h1⟩
      have pm : p ∈ L := List.mem_of_getElem? hpi
      have live := slot_live S.tab.ris hi
      have tail : wpAny (model P w) A (searchRest a (.ref x.2) (hK w x.1) true f es t (way t.mask (hK w x.1) (c + q)) i (Pb t.mask (hK w x.1) (c + (q + 1)))) Q E s := by
        unfold searchRest
        rw [S.row hpi]
        dsimp only [rowN]
        refine wpAny_bind (wpAny_holding ((nestedKind P w).eqBool (x := p.1) (y := x.1) hu (S.mem p pm) hx ?_))
        refine wpAny_bind (wpAny_setState_of ho od S.fit ?_)
        dsimp only
        by_cases same : p.1 = x.1
        · exact wp_if_pos (by simp [same]) (wpAny_pure (yes (List.mem_map.mpr ⟨p, pm, same⟩)))
        · refine wp_if_neg (by simp [same]) ?_
          try refine wpAny_bind (wpAny_pure ?_)
          rw [sameMem]
          dsimp only
          simp only [if_true, live, S.row hpi, rowN]
          refine wpAny_bind (wpAny_isSame_ref_self (wpAny_bind (wpAny_pure ?_)))
          simp only [if_true]
          refine wp_if_neg (by simp [same]) (ih (c + (q + 1)) _ rfl (by omega) (by omega) fun i0 p0 h0 e0 => ?_)
          obtain ⟨d, d1, d2, d3⟩ := ahead i0 p0 h0 e0
          rcases Nat.lt_trichotomy d (c + q) with z | z | z
          · refine absurd ((S.at0 h0).trans (congrArg (hK w) e0)) (before (d - c) i0 (by omega) ?_)
            rw [jw, Nat.add_sub_cancel' d1]; exact d3
          · subst z
            have s0 := slot_live S.tab.ris d3
            rw [live] at s0
            injection s0 with s0
            rw [← s0, hpi] at h0
            cases h0
            exact absurd e0 same
          · exact ⟨d, by omega, d2, d3⟩
      by_cases hl : t.led = true
      · refine wp_if_neg (by simp [hl]) ?_
        try refine wpAny_bind (wpAny_pure ?_)
        exact tail
      · refine wp_if_pos (by simp [hl]) ?_
        have rows : ((es.filter (·.1 == hK w x.1)).toList.map (·.2)) = ((L.filter fun p => hK w p.1 == hK w x.1).map fun y => Value.ref y.2) := by
          rw [Array.toList_filter, S.rows, List.filter_map, List.map_map]
          rfl
        rw [rows]
        refine wpAny_bind (seen_none hx (fun y hy => S.mem y (List.mem_filter.mp hy).1) ?_)
        refine wp_if_neg (by decide) ?_
        try refine wpAny_bind (wpAny_pure ?_)
        exact tail
    · rw [jw, Nat.add_sub_cancel' hc] at hp
      have hp' : t.probe (fun i => (es[i]?.map (·.1)).getD 0) (hK w x.1) (st.getD (t.probeStart (hK w x.1))) = some (.empty (way t.mask (hK w x.1) K) none) := by rw [est]; exact hp
      rw [hp']
      dsimp only
      refine wpAny_pure (no fun hm => ?_)
      obtain ⟨p0, h0, e0⟩ := List.mem_map.mp hm
      obtain ⟨i0, h1⟩ := List.mem_iff_getElem?.mp h0
      obtain ⟨d, d1, d2, d3⟩ := ahead i0 p0 h1 e0
      refine before (d - c) i0 (by omega) ?_ ((S.at0 h1).trans (congrArg (hK w) e0))
      rw [jw, Nat.add_sub_cancel' d1]; exact d3
/-- looking for a place -/
theorem look_at (S : StN w s.heap a L es ep t) {x : KA} (hx : IsN s.heap x) (hu : A.units + 8 < cLine) {Q : SetFound → Shared → Prop} (yes : x.1 ∈ L.map (·.1) → Q (.there none) s)
    (no : ∀ K, x.1 ∉ L.map (·.1) → way t.mask (hK w x.1) K ∉ t.place.toList → (∀ c, c < K → way t.mask (hK w x.1) c ∈ t.place.toList) → Q (.free (way t.mask (hK w x.1) K) false) s) : wpAny (model P w) A (setSearch a (.ref x.2) (hK w x.1) true) Q E s := by
  have room := S.room
  obtain ⟨K, k1, k2, k3⟩ := S.tab.first (by rw [List.length_map]; omega) (hK w x.1)
  have small : 10 * SetTable.turns t.mask ≤ 1420 := by
    unfold SetTable.turns
    rcases S.tab.mok with e | e | e <;> omega
  unfold setSearch
  refine look_from S hx hu k1 k2 k3 yes (fun n => no K n k2 k3) 100000 0 none rfl (Nat.zero_le _) (by omega) fun i p hp e => ?_
  have hi : (L.map fun p => hK w p.1)[i]? = some (hK w x.1) := by rw [List.getElem?_map, hp, ← e]; rfl
  obtain ⟨j, hj⟩ : ∃ j, t.place.toList[i]? = some j := by
    have h1 : i < L.length := (List.getElem?_eq_some_iff.mp hp).1
    exact ⟨_, List.getElem?_eq_getElem (by rw [Array.length_toList, S.spots]; exact h1)⟩
  obtain ⟨d, d1, d2⟩ := S.tab.before k2 hi hj
  exact ⟨d, Nat.zero_le _, d1, by rw [hj, d2]⟩
theorem range_pick {α : Type} : ∀ l : List α, (List.range l.length).filterMap (fun i => l[i]?) = l
  | [] => rfl
  | x :: l => by
    rw [List.length_cons, List.range_succ_eq_map, List.filterMap_cons]
    show x :: List.filterMap (fun i => (x :: l)[i]?) (List.map Nat.succ (List.range l.length)) = x :: l
    rw [List.filterMap_map]
    congr 1
    exact range_pick l
theorem pick_hash {L : List KA} {es : Array (Int × Value)} (rows : es.toList = L.map (rowN w)) : ∀ l : List Nat, (∀ i ∈ l, i < L.length) → (l.filterMap fun i => L[i]?).map (fun p => hK w p.1) = l.map fun i => (es.map (·.1)).getD i 0
  | [], _ => rfl
  | i :: l, h => by
    have hi := h i List.mem_cons_self
    have e : L[i]? = some L[i] := List.getElem?_eq_getElem hi
    have e2 : (es.map (·.1))[i]? = some (hK w L[i].1) := by rw [Array.getElem?_map, ← Array.getElem?_toList, rows, List.getElem?_map, e]; rfl
    rw [List.filterMap_cons, e, List.map_cons, List.map_cons, pick_hash rows l fun j hj => h j (List.mem_cons_of_mem _ hj)]
    congr 1
    rw [Array.getD_eq_getD_getElem?, e2]; rfl
/-- the same set over a table laid anew -/
theorem relay_n {o : Obj} (ho : s.heap.get? a = some o) (oe : o.ExactSet) (od : o.data = .set es ep t) (rows : es.toList = L.map (rowN w)) (sz : t.place.size = L.length) (dm : t.dummies = #[]) (fl : L.length ≤ t.mask) (once : (L.map (·.1)).Nodup) (mem : ∀ p ∈ L, IsN s.heap p)
    (led : w.params.followText "set-order" = true ∨ t.led = true) {want M : Nat} (hw : SetTable.sizeAbove want - 1 = M) (hM : MaskOk M) (h128 : SetTable.sizeAbove want ≤ 128) (room : L.length * 5 < M * 3) {Q : Unit → Shared → Prop}
    (q : ∀ h' L' es' ep' t', Heap.SameBut a s.heap h' → StN w h' a L' es' ep' t' → L'.Perm L → Q () { s with heap := h' }) : wpAny (model P w) A (setRelay a want) Q E s := by
  have many : es.size = L.length := by rw [← Array.length_toList, rows, List.length_map]
  have fit : t.fits es.size = true := by
    unfold SetTable.fits SetTable.fill
    rw [dm, Bool.and_eq_true, beq_iff_eq, decide_eq_true_eq]
    show t.place.size = es.size ∧ t.place.size + 0 ≤ t.mask
    omega
  obtain ⟨t', order, er, op, T, tm, tl, _, _⟩ := relaid_ok t (hs := es.map (·.1)) (wanted := want) hw hM (by rw [Array.size_map, many]; omega)
  rw [Array.size_map, many] at op
  have low : ∀ i ∈ order.toList, i < L.length := fun i hi => List.mem_range.mp (op.mem_iff.mp hi)
  have new : (order.filterMap (es[·]?)).toList = (order.toList.filterMap fun i => L[i]?).map (rowN w) := by
    rw [Array.toList_filterMap, List.map_filterMap]
    congr 1
    funext i
    rw [← Array.getElem?_toList, rows, List.getElem?_map]
  have perm : (order.toList.filterMap fun i => L[i]?).Perm L := by
    have := op.filterMap fun i => L[i]?
    rwa [range_pick] at this
  have T' := T
  rw [← pick_hash rows order.toList low] at T'
  generalize order.toList.filterMap (fun i => L[i]?) = L' at new perm T'
  have many' : (order.filterMap (es[·]?)).size = es.size := by rw [← Array.length_toList, new, List.length_map, perm.length_eq, many]
  rw [setRelay_eq]
  refine wpAny_bind (wpAny_setState_of ho od fit ?_)
  dsimp only
  refine wp_if_neg (by rw [sizeLine_eq]; omega) ?_
  try refine wpAny_bind (wpAny_pure ?_)
  rw [er]
  dsimp only
  refine wpAny_bind ?_
  refine wp_if_neg (by rw [many']; simp) ?_
  try refine wpAny_bind (wpAny_pure ?_)
  refine wpAny_pure ?_
  dsimp only
  refine wpAny_storeSet_of ho od ?_ (by rw [many', many, sizeLine_eq]; have := hM; rcases this with e | e | e <;> omega)
  have but : Heap.SameBut a s.heap (s.heap.update a (Obj.putSet (order.filterMap (es[·]?)) t')) := Heap.SameBut.update ..
  refine q _ L' _ (ep + 1) t' but ⟨⟨_, store_at ho od, ⟨oe.1, oe.2.1, oe.2.2⟩, rfl⟩, new, T', (perm.map (·.1)).nodup_iff.mpr once, fun p hp => ?_, by rw [tl]; exact led, by rw [perm.length_eq, tm]; exact room⟩ perm
  have m := mem p (perm.mem_iff.mp hp)
  refine ⟨NestedIs.at (fun b ob vs n hb hd => (but.2 b fun z => ?_).trans hb) _ _ m.1, m.2⟩
  subst z
  rw [ho] at hb
  cases hb
  rw [od] at hd
  cases hd
/-- a set's change leaves keys as they are -/
theorem IsN.stay {h h' : Heap} {o : Obj} {p : KA} (m : IsN h p) (ho : h.get? a = some o) (od : o.data = .set es ep t) (b : Heap.SameBut a h h') : IsN h' p := by
  refine ⟨NestedIs.at (fun c ob vs n hb hd => (b.2 c fun z => ?_).trans hb) _ _ m.1, m.2⟩
  subst z
  rw [ho] at hb
  cases hb
  rw [od] at hd
  cases hd
theorem IsN.keep {h h' : Heap} {p : KA} (m : IsN h p) (k : ∀ b o, h.get? b = some o → h'.get? b = some o) : IsN h' p := ⟨NestedIs.at (fun c ob vs n hb _ => k c ob hb) _ _ m.1, m.2⟩
theorem StN.keep {h h' : Heap} (S : StN w h a L es ep t) (k : ∀ o, h.get? a = some o → h'.get? a = some o) (m : ∀ p ∈ L, IsN h' p) : StN w h' a L es ep t := by
  obtain ⟨o, ho, r⟩ := S.lies
  exact ⟨⟨o, k o ho, r⟩, S.rows, S.tab, S.once, m, S.led, S.room⟩
/-- one thing put in -/
theorem add_n (S : StN w s.heap a L es ep t) {x : KA} (hx : IsN s.heap x) (hu : A.units + 8 < cLine) (cap : x.1 ∉ L.map (·.1) → L.length + 1 ≤ 76) {Q : Bool → Shared → Prop}
    (q : ∀ b h' L' es' ep' t', Heap.SameBut a s.heap h' → StN w h' a L' es' ep' t' → (x.1 ∈ L.map (·.1) → L' = L) → (x.1 ∉ L.map (·.1) → L'.Perm (x :: L)) → Q b { s with heap := h' }) : wpAny (model P w) A (setAddHashed a (.ref x.2) (hK w x.1)) Q E s := by
  obtain ⟨o, ho, oe, od⟩ := S.lies
  have many := S.many
  have room := S.room
  unfold setAddHashed
  refine wpAny_holding ?_
  rw [show (100000 : Nat) = 99999 + 1 from rfl, setAddHashedIn_succ]
  refine wpAny_bind (wpAny_setState_of ho od S.fit ?_)
  dsimp only
  refine wp_if_neg (by simp [byScan, Value.scannable]) ?_
  try refine wpAny_bind (wpAny_pure ?_)
  refine wpAny_bind (look_at S hx hu (fun hm => ?_) fun K hm free taken => ?_)
  · dsimp only
    exact wpAny_pure (q false s.heap L es ep t (Heap.SameBut.refl a s.heap) S (fun _ => rfl) fun z => absurd hm z)
  dsimp only
  refine wpAny_bind (wpAny_setState_of ho od S.fit ?_)
  dsimp only
  obtain ⟨e2, ple, T, tm, tl, _, _, _, fill⟩ := S.tab.put free taken
  have c76 := cap hm
  generalize hpt : t.put (way t.mask (hK w x.1) K) = pt at e2 T tm tl fill ⊢
  obtain ⟨t1, pos⟩ := pt
  dsimp only at e2 T tm tl fill ⊢
  rw [← e2] at T ple
  clear e2 hpt
  rw [List.length_map] at ple fill
  have ins : (SetTable.insertAt es pos (hK w x.1, Value.ref x.2)).toList = (L.take pos ++ x :: L.drop pos).map (rowN w) := by
    rw [SetTable.toList_insertAt, S.rows, List.map_append, List.map_cons, List.map_take, List.map_drop]; rfl
  have hash : (L.take pos ++ x :: L.drop pos).map (fun p => hK w p.1) = (L.map fun p => hK w p.1).take pos ++ hK w x.1 :: (L.map fun p => hK w p.1).drop pos := by
    rw [List.map_append, List.map_cons, List.map_take, List.map_drop]
  rw [← hash] at T
  have perm : (L.take pos ++ x :: L.drop pos).Perm (x :: L) := by
    have := List.perm_middle (a := x) (l₁ := L.take pos) (l₂ := L.drop pos)
    rwa [List.take_append_drop] at this
  generalize L.take pos ++ x :: L.drop pos = L1 at ins T perm
  have len1 : L1.length = L.length + 1 := perm.length_eq
  have once1 : (L1.map (·.1)).Nodup := (perm.map (·.1)).nodup_iff.mpr (List.nodup_cons.mpr ⟨hm, S.once⟩)
  generalize SetTable.insertAt es pos (hK w x.1, Value.ref x.2) = es1 at ins ⊢
  have many1 : es1.size = L.length + 1 := by rw [← Array.length_toList, ins, List.length_map, len1]
  -- whether the hash is by value matters to the order alone
  have go : ∀ b : Bool, wpAny (model P w) A (do
      storeSet a es1 (if b = true then t1 else { t1 with plain := false })
      if (!false && (if b = true then t1 else { t1 with plain := false }).tooFull) = true then setRelay a (SetTable.grown (es.size + 1))
      return true) Q E s := fun b => by
    obtain ⟨t2, ht2⟩ : ∃ t2, (if b = true then t1 else { t1 with plain := false }) = t2 := ⟨_, rfl⟩
    have T2 : TabOk t2 (L1.map fun p => hK w p.1) := by
      subst ht2
      cases b
      · exact ⟨T.ris, T.dm, T.sz, T.mok, T.bd, T.reach⟩
      · exact T
    have m2 : t2.mask = t.mask := by subst ht2; cases b <;> exact tm
    have l2 : t2.led = t.led := by subst ht2; cases b <;> exact tl
    have f2 : t2.fill = L.length + 1 := by subst ht2; cases b <;> exact fill
    rw [ht2]
    clear ht2
    refine wpAny_bind (wpAny_storeSet_of ho od ?_ (by rw [many1, sizeLine_eq]; omega))
    have but : Heap.SameBut a s.heap (s.heap.update a (Obj.putSet es1 t2)) := Heap.SameBut.update ..
    have ho1 := store_at (es' := es1) (t' := t2) ho od
    generalize s.heap.update a (Obj.putSet es1 t2) = h1 at but ho1 ⊢
    have mem1 : ∀ p ∈ L1, IsN h1 p := fun p hp => by
      rcases List.mem_cons.mp (perm.mem_iff.mp hp) with e | hp
      · rw [e]; exact hx.stay ho od but
      · exact (S.mem p hp).stay ho od but
    have led1 : w.params.followText "set-order" = true ∨ t2.led = true := by rw [l2]; exact S.led
    have sz2 : t2.place.size = L1.length := by have := T2.sz; rwa [List.length_map] at this
    by_cases full : t2.tooFull = true
    · first
        | (refine wpAny_bind ?_; refine wp_if_pos (by simp [full]) ?_)
        | (refine wp_if_pos (by simp [full]) ?_; refine wpAny_bind ?_)
      have big : (L.length + 1) * 5 ≥ t.mask * 3 := by
        have h := full
        unfold SetTable.tooFull at h
        rw [decide_eq_true_eq, f2, m2] at h
        exact h
      rw [many]
      have two : (t.mask = 7 ∧ L.length = 4) ∨ (t.mask = 31 ∧ L.length = 18) := by
        rcases S.tab.mok with e | e | e <;> rw [e] at big room
        · exact .inl ⟨e, by omega⟩
        · exact .inr ⟨e, by omega⟩
        · omega
      have again : ∀ M, SetTable.sizeAbove (SetTable.grown (L.length + 1)) - 1 = M → MaskOk M → SetTable.sizeAbove (SetTable.grown (L.length + 1)) ≤ 128 → (L.length + 1) * 5 < M * 3 →
          wpAny (model P w) A (setRelay a (SetTable.grown (L.length + 1))) (fun _ s' => wpAny (model P w) A (pure true) Q E s') E { s with heap := h1 } := fun M r1 r2 r3 r4 => by
        refine relay_n (s := { s with heap := h1 }) ho1 ⟨oe.1, oe.2.1, oe.2.2⟩ rfl ins sz2 T2.dm (by rw [len1, m2]; rcases two with ⟨e, e'⟩ | ⟨e, e'⟩ <;> omega) once1 mem1 led1 r1 r2 r3 (by rw [len1]; exact r4) ?_
        exact fun h2 L2 es2 ep2 t3 but2 S2 p2 => wpAny_pure (q true h2 L2 es2 ep2 t3 (but.trans but2) S2 (fun z => absurd z hm) fun _ => p2.trans perm)
      rcases two with ⟨_, e⟩ | ⟨_, e⟩
      · exact again 31 (by rw [e, size_20]) (.inr (.inl rfl)) (by rw [e, size_20]; decide) (by omega)
      · exact again 127 (by rw [e, size_76]) (.inr (.inr rfl)) (by rw [e, size_76]; decide) (by omega)
    · first
        | refine wp_if_neg (by simp [full]) ?_
        | (refine wpAny_bind ?_; refine wp_if_neg (by simp [full]) ?_; refine wpAny_pure ?_)
      refine wpAny_pure (q true h1 L1 es1 (ep + 1) t2 but ⟨⟨_, ho1, ⟨oe.1, oe.2.1, oe.2.2⟩, rfl⟩, ins, T2, once1, mem1, led1, ?_⟩ (fun z => absurd z hm) fun _ => perm)
      have h := full
      unfold SetTable.tooFull at h
      rw [decide_eq_true_eq, f2] at h
      rw [len1]
      omega
  by_cases pl : t1.plain = true
  · first
      | (refine wpAny_bind ?_; refine wp_if_pos pl ?_; exact hsh_key x.1 _ 8 s hx.1 hx.2 A E _ go)
      | exact wp_if_pos pl (wpAny_bind (hsh_key x.1 _ 8 s hx.1 hx.2 A E _ go))
  · first
      | (refine wpAny_bind ?_; refine wp_if_neg pl ?_; exact wpAny_pure (go true))
      | exact wp_if_neg pl (go true)
end
end MW

set_option Elab.async false
set_option linter.all false
set_option maxRecDepth 100000
/-! MWU: set(xs) of tuples, sorted or counted -/
namespace MW
open PySem PySem.Spec PyProof.Rows L2
/-! ### set(list of ints) -/
abbrev set0 (w : World) : Obj := { cls := .type "set", dict := none, data := .set #[] 0 (.fresh 0 0 (!w.params.followText "set-order")) }
section
variable {P : Program} {w : World} {A : Around} {E : Value → Shared → Prop} {s : Shared}
set_option maxHeartbeats 3200000 in
theorem set_lst {l : Addr} {its : Array Value} (ns : List Int) {Q : Value → Shared → Prop} (hh : A.handled = none) (hl : s.heap.IsList l its) (hi : IntsAre its.toList ns) (hb : ns.length + 1 < scanBound)
    (fin : ∀ (h' : Heap) (tk c : Nat), SetR w h' s.heap.objs.size (fun j => decide (j ∈ ns)) c → c ≤ ns.length → (∀ b o, s.heap.get? b = some o → h'.get? b = some o) → Q (.ref s.heap.objs.size) { s with heap := h', toks := tk }) :
    wpAny (model P w) A (call (.type "set") [.ref l]) Q E s := by
  have sz : its.size = ns.length := by simpa using IntsAre.length hi
  obtain ⟨_, _, mr⟩ := F.called_set.mro
  have q1 := F.called_set.made
  have q2 := F.called_set.sub
  refine wpAny_call (codeAny_of_tree ?_)
  show wpAny _ _ (callAny (.type "set") _) _ _ _
  refine wpAny_pure ⟨Code.quiet_builtin _ (by decide +kernel), codeAny_builtin F.entry_type_call ?_⟩
  rw [Around.under_plain (weight_type_call_type "set" [.ref l] []) rfl]
  have q3 := F.called_set.notType
  have q4 := F.called_set.canCreate
  have q5 := F.typeCall_set_1 (.ref l)
  repeat (any_goals (first | assumption | wp_step))
  refine codeAny_mono (code_set_led1 (.ref l) (E := E) (Q₁ := fun u t => u = .ref s.heap.objs.size ∧ t = { s with heap := s.heap.push (set0 w) }) ⟨rfl, rfl⟩) fun r t hr => ?_
  rcases r with e | fl
  · exact hr
  cases fl <;> first | exact hr.elim | skip
  obtain ⟨rfl, rfl⟩ := hr
  have new : (s.heap.push (set0 w)).get? s.heap.objs.size = some (set0 w) := Heap.get?_push_size _ rfl
  have isS : Shared.TypeIs { s with heap := s.heap.push (set0 w) } (.ref s.heap.objs.size) "set" := ⟨_, new, rfl⟩
  have q6 := F.called_set.init.lookup
  have q7 := F.called_set.init.bind (.ref s.heap.objs.size)
  repeat (any_goals (first | assumption | wp_step))
  refine codeAny_mono (codeAny_call_builtin (R := wants (fun u t => u = .none ∧ ∃ h' tk c, t = { s with heap := h', toks := tk } ∧ SetR w h' s.heap.objs.size (fun j => decide (j ∈ ns)) c ∧ c ≤ ns.length ∧ (∀ b o, s.heap.get? b = some o → h'.get? b = some o)) E) F.called_set.init.plain F.entry_set_init (check_set_init_1 isS ?_)) fun r t hr => ?_
  · obtain ⟨⟨cl, dd, dt, sl⟩, at0, e1, nl, e2⟩ := hl
    simp only at e1 e2
    subst e1 e2
    have at1 : (s.heap.push (set0 w)).get? l = some { cls := .type "list", dict := dd, data := .seq its nl, slots := sl } := Heap.get?_push_of_some _ at0
    have q8 := F.sub_list_set
    have q9 := F.sub_list_frozenset
    have nd : (Value.type "list" == Value.type "dict") = false := by decide
    have isL : (s.heap.push (set0 w)).IsList l its := ⟨_, at1, rfl, nl, rfl⟩
    unfold Builtin.«set.__init__» noKeywords Builtin.Frozenset.updateFrom
    generalize gI : pyIter = I
    wp_walk
    subst gI
    refine wpAny_pyIter_list isL (wpAny_bind (wpAny_runValue ?_))
    have lt0 : l < s.heap.objs.size := Heap.lt_size at0
    have lt1 : ∀ b, b < s.heap.objs.size → b ≠ (s.heap.push (set0 w)).objs.size := fun b h => by rw [Heap.size_push]; omega
    have hid : A.in1.in1.in1.handled = none := by simp [hh]
    have apart : s.heap.objs.size ∉ [(s.heap.push (set0 w)).objs.size, l] := by
      rw [Heap.size_push]
      simp only [List.mem_cons, List.not_mem_nil, or_false, not_or]
      exact ⟨Nat.ne_of_lt (Nat.lt_succ_self _), Nat.ne_of_gt lt0⟩
    refine set_update_ints ((Walks.list hid _ l (lt1 l lt0) its).toS) s.heap.objs.size apart ns sz hb (fun i v hv => ?_) (its.size - 0) 0 _ (by omega) (Nat.zero_le _) ⟨⟨_, Heap.get?_push_size _ rfl, rfl, rfl⟩, (isL.push _)⟩ ⟨0, Nat.le_refl 0, ?_⟩ fun t c mv hc hS => ?_
    · have lti : i < ns.length := by rw [← sz]; exact (Array.getElem?_eq_some_iff.mp hv).1
      obtain ⟨tk, e⟩ := PyProof.Rows.IntsAre.int_at hi i v (by rw [Array.getElem?_toList]; exact hv)
      exact ⟨ns[i], tk, List.getElem?_eq_getElem lti, by rw [e, List.getD_eq_getElem?_getD, List.getElem?_eq_getElem lti]; rfl⟩
    · exact setR_new_at (Heap.get?_push_of_some _ new)
    · obtain ⟨h', g2, d2, tk, o2⟩ := t
      cases (show g2 = s.gens from mv.gens)
      cases (show d2 = s.drawn from mv.drawn)
      cases (show o2 = s.os from mv.os)
      refine wpAny_pure ?_
      show wpAny _ _ (ret Value.none) _ _ _
      refine wpAny_pure ⟨rfl, h', tk, c, rfl, hS, by rw [sz] at hc; exact hc, fun b o e => ?_⟩
      have b0 := Heap.lt_size e
      refine mv.heap b o ?_ (Heap.get?_push_of_some _ (Heap.get?_push_of_some _ e))
      simp only [List.mem_cons, List.not_mem_nil, or_false, not_or]
      exact ⟨Nat.ne_of_lt b0, lt1 b b0⟩
  · rcases r with e | fl
    · exact hr
    cases fl <;> first | exact hr.elim | skip
    obtain ⟨rfl, h', tk, c, rfl, k1, k2, k3⟩ := hr
    repeat (any_goals (first | assumption | wp_step))
    exact fin _ _ _ k1 k2 k3
end
/-- what the set has got from the first i things -/
structure GotN (ks : List KA) (i : Nat) (L : List KA) : Prop where
  sub : ∀ p ∈ L, p ∈ ks.take i
  all : ∀ p ∈ ks.take i, p.1 ∈ L.map (·.1)
theorem GotN.zero (ks : List KA) : GotN ks 0 [] := ⟨fun p h => (by cases h), fun p h => (by simp at h)⟩
theorem GotN.same {ks L : List KA} {i : Nat} {x : KA} (g : GotN ks i L) (h : ks[i]? = some x) (hm : x.1 ∈ L.map (·.1)) : GotN ks (i + 1) L := by
  refine ⟨fun p hp => ?_, fun p hp => ?_⟩
  · rw [take_next h]
    exact List.mem_append_left _ (g.sub p hp)
  · rw [take_next h] at hp
    rcases List.mem_append.mp hp with z | z
    · exact g.all p z
    · rw [List.mem_singleton.mp z]; exact hm
theorem GotN.more {ks L L' : List KA} {i : Nat} {x : KA} (g : GotN ks i L) (h : ks[i]? = some x) (pm : L'.Perm (x :: L)) : GotN ks (i + 1) L' := by
  refine ⟨fun p hp => ?_, fun p hp => ?_⟩
  · rw [take_next h]
    rcases List.mem_cons.mp (pm.mem_iff.mp hp) with e | z
    · rw [e]; exact List.mem_append_right _ (List.mem_singleton.mpr rfl)
    · exact List.mem_append_left _ (g.sub p z)
  · rw [(pm.map (·.1)).mem_iff, List.map_cons]
    rw [take_next h] at hp
    rcases List.mem_append.mp hp with z | z
    · exact List.mem_cons_of_mem _ (g.all p z)
    · rw [List.mem_singleton.mp z]; exact List.mem_cons_self
/-- so many unlike keys at most -/
def FewN (ks : List KA) : Prop := ∀ l : List NestedKey, l.Nodup → (∀ k ∈ l, k ∈ ks.map (·.1)) → l.length ≤ 76
section
variable {P : Program} {w : World} {A : Around} {E : Value → Shared → Prop} {s : Shared}
theorem stN_new {h : Heap} {a : Addr} (ho : h.get? a = some (set0 w)) : StN w h a [] #[] 0 (.fresh 0 0 (!w.params.followText "set-order")) where
  lies := ⟨_, ho, ⟨rfl, rfl, rfl⟩, rfl⟩
  rows := rfl
  tab := ⟨List.Pairwise.nil, rfl, rfl, .inl rfl, fun x hx => (by cases hx), fun i h j hi => (by simp at hi)⟩
  once := List.nodup_nil
  mem := fun p hp => (by cases hp)
  led := by
    show _ ∨ (!w.params.followText "set-order") = true
    cases w.params.followText "set-order"
    · exact .inr rfl
    · exact .inl rfl
  room := by
    show 0 * 5 < 7 * 3
    decide
theorem update_n {I : Addr} {fp wr : List Addr} {G : Array GenState → Array GenState → Prop} {n : Nat} {Pv : Nat → Value → Prop} {St : Nat → Shared → Prop} {R : Result → Shared → Prop}
    (W : WalksS P w A.in1 I fp wr G n Pv St) (S : Addr) (hSf : S ∉ fp) (ks : List KA) (hn : n = ks.length) (few : FewN ks) (hval : ∀ i v, Pv i v → ∃ p, ks[i]? = some p ∧ v = .ref p.2)
    (h0 : Heap) (hk : ∀ p ∈ ks, IsN h0 p) (hS0 : h0.get? S = none) (hw0 : ∀ b ∈ wr, h0.get? b = none) (hu : A.units + 20 < cLine) :
    ∀ (k i : Nat) (s : Shared), n - i = k → i ≤ n → St i s → (∀ b o, h0.get? b = some o → s.heap.get? b = some o) → (∃ L es ep t, StN w s.heap S L es ep t ∧ GotN ks i L) →
      (∀ s' L es ep t, Moved (S :: wr) G s s' → StN w s'.heap S L es ep t → GotN ks n L → (∀ b o, h0.get? b = some o → s'.heap.get? b = some o) → R (.ok (.ret .none)) s') →
      codeAny (model P w) A (.builtin "set.update.loop" ⟨[.ref S, .ref I], []⟩) R s := by
  have hSw : S ∉ wr := fun h => hSf (W.sub _ h)
  have hsub : ∀ b ∈ wr, b ∈ S :: wr := fun b hb => List.mem_cons_of_mem _ hb
  have keepM : ∀ {s s' : Shared}, Moved wr G s s' → (∀ b o, h0.get? b = some o → s.heap.get? b = some o) → ∀ b o, h0.get? b = some o → s'.heap.get? b = some o := fun hm hkp b o e =>
    hm.heap b o (fun hb => by rw [hw0 b hb] at e; cases e) (hkp b o e)
  intro k
  induction k with
  | zero =>
    intro i s hk' hi hst hkp ⟨L, es, ep, t, hS, g⟩ hR
    have hin : i = n := by omega
    subst hin
    refine codeAny_builtin F.entry_set_update_loop ?_
    rw [Around.under_plainId F.plain_set_update_loop _]
    show wpAny _ A.in1 (pyNext (.ref I) >>= _) _ _ s
    refine wpAny_bind (W.done s _ _ hst fun s' hm => ?_)
    show wpAny _ A.in1 (ret Value.none) _ _ s'
    have hkp' := keepM hm hkp
    have sub : ∀ p ∈ L, p ∈ ks := fun p hp => List.mem_of_mem_take (g.sub p hp)
    exact wpAny_pure (hR s' L es ep t (hm.mono hsub) (hS.keep (fun o e => hm.heap S o hSw e) fun p hp => (hk p (sub p hp)).keep hkp') g hkp')
  | succ k ih =>
    intro i s hk' hi hst hkp ⟨L, es, ep, t, hS, g⟩ hR
    have hlt : i < n := by omega
    refine codeAny_builtin F.entry_set_update_loop ?_
    rw [Around.under_plainId F.plain_set_update_loop _]
    show wpAny _ A.in1 (pyNext (.ref I) >>= _) _ _ s
    refine wpAny_bind (W.item i s _ _ hlt hst fun v s' hP hst' hm => ?_)
    obtain ⟨p, hp, rfl⟩ := hval i v hP
    have hkp' := keepM hm hkp
    have sub : ∀ p ∈ L, p ∈ ks := fun p hp => List.mem_of_mem_take (g.sub p hp)
    have hS' : StN w s'.heap S L es ep t := hS.keep (fun o e => hm.heap S o hSw e) fun q hq => (hk q (sub q hq)).keep hkp'
    have hx : IsN s'.heap p := (hk p (List.mem_of_getElem? hp)).keep hkp'
    show wpAny _ A.in1 (holding [Value.ref p.2] (setAdd S (.ref p.2)) >>= _) _ _ s'
    refine wpAny_bind (wpAny_holding ?_)
    unfold setAdd
    refine wpAny_holding ?_
    have u1 : A.in1.units ≤ A.units + 1 := by simp only [Around.in1_units]; omega
    refine wpAny_bind (pyHash_key p.1 _ _ _ _ hx.1 (by have := hx.2; omega) ?_)
    refine add_n (s := { s' with toks := s'.toks + p.1.draws }) hS' hx (by omega) (fun hm2 => ?_) fun b h' L' es' ep' t' hsb hS2 c1 c2 => ?_
    · have := few (p.1 :: L.map (·.1)) (List.nodup_cons.mpr ⟨hm2, hS.once⟩) fun k hk2 => by
        rcases List.mem_cons.mp hk2 with e | hk2
        · rw [e]; exact List.mem_map.mpr ⟨p, List.mem_of_getElem? hp, rfl⟩
        · obtain ⟨q, hq, e⟩ := List.mem_map.mp hk2
          exact List.mem_map.mpr ⟨q, sub q hq, e⟩
      simpa using this
    have g' : GotN ks (i + 1) L' := by
      rcases Classical.em (p.1 ∈ L.map (·.1)) with c | c
      · rw [c1 c]; exact g.same hp c
      · exact g.more hp (c2 c)
    have hkp2 : ∀ b o, h0.get? b = some o → h'.get? b = some o := fun b o e => (hsb.2 b (fun z => by rw [z, hS0] at e; cases e)).trans (hkp' b o e)
    refine wpAny_pure ⟨plainId_quiet F.plain_set_update_loop _, ih (i + 1) _ (by omega) hlt (W.frame _ s' _ _ hst' (Nat.le_add_right _ _) fun b hb o e => ?_) hkp2 ⟨L', es', ep', t', hS2, g'⟩ fun s'' L2 es2 ep2 t2 hm'' hS'' g'' hkp'' => ?_⟩
    · rw [hsb.2 b (fun h : b = S => hSf (by rw [← h]; exact hb))]; exact e
    · refine hR s'' L2 es2 ep2 t2 (Moved.trans W.gtrans ((hm.mono hsub).then_heap (Nat.le_add_right _ _) fun b o hb e => ?_) hm'') hS'' g'' hkp''
      rw [hsb.2 b (fun h : b = S => hb (by rw [h]; exact List.mem_cons_self))]; exact e
set_option maxHeartbeats 3200000 in
/-- set(xs), xs a list or a tuple -/
theorem set_n {l : Addr} {its : Array Value} (ks : List KA) {Q : Value → Shared → Prop} (hh : A.handled = none) (hl : s.heap.IsList l its ∨ s.heap.IsTuple l its) (hi : its.toList = ks.map fun p => Value.ref p.2)
    (hk : ∀ p ∈ ks, IsN s.heap p) (few : FewN ks) (hu : A.units + 30 < cLine)
    (fin : ∀ (h' : Heap) (tk : Nat) L es ep t, StN w h' s.heap.objs.size L es ep t → GotN ks ks.length L → (∀ b o, s.heap.get? b = some o → h'.get? b = some o) → Q (.ref s.heap.objs.size) { s with heap := h', toks := tk }) :
    wpAny (model P w) A (call (.type "set") [.ref l]) Q E s := by
  have sz : its.size = ks.length := by
    have q := congrArg List.length hi
    rw [Array.length_toList, List.length_map] at q
    exact q
  obtain ⟨_, _, mr⟩ := F.called_set.mro
  have q1 := F.called_set.made
  have q2 := F.called_set.sub
  refine wpAny_call (codeAny_of_tree ?_)
  show wpAny _ _ (callAny (.type "set") _) _ _ _
  refine wpAny_pure ⟨Code.quiet_builtin _ (by decide +kernel), codeAny_builtin F.entry_type_call ?_⟩
  rw [Around.under_plain (weight_type_call_type "set" [.ref l] []) rfl]
  have q3 := F.called_set.notType
  have q4 := F.called_set.canCreate
  have q5 := F.typeCall_set_1 (.ref l)
  repeat (any_goals (first | assumption | wp_step))
  refine codeAny_mono (code_set_led1 (.ref l) (E := E) (Q₁ := fun u t => u = .ref s.heap.objs.size ∧ t = { s with heap := s.heap.push (set0 w) }) ⟨rfl, rfl⟩) fun r t hr => ?_
  rcases r with e | fl
  · exact hr
  cases fl <;> first | exact hr.elim | skip
  obtain ⟨rfl, rfl⟩ := hr
  have new : (s.heap.push (set0 w)).get? s.heap.objs.size = some (set0 w) := Heap.get?_push_size _ rfl
  have isS : Shared.TypeIs { s with heap := s.heap.push (set0 w) } (.ref s.heap.objs.size) "set" := ⟨_, new, rfl⟩
  have q6 := F.called_set.init.lookup
  have q7 := F.called_set.init.bind (.ref s.heap.objs.size)
  repeat (any_goals (first | assumption | wp_step))
  have none_of : ∀ b, s.heap.objs.size ≤ b → s.heap.get? b = none := fun b hb => by
    cases q : s.heap.get? b with
    | none => rfl
    | some o => exact absurd (Nat.lt_of_lt_of_le (Heap.lt_size q) hb) (Nat.lt_irrefl _)
  have hval : ∀ (i : Nat) (v : Value), its[i]? = some v → ∃ p, ks[i]? = some p ∧ v = .ref p.2 := fun i v hv => by
    have q : its.toList[i]? = some v := by rw [Array.getElem?_toList]; exact hv
    rw [hi, List.getElem?_map] at q
    cases hq : ks[i]? with
    | none => rw [hq] at q; cases q
    | some p =>
      rw [hq] at q
      exact ⟨p, rfl, (Option.some.inj q).symm⟩
  refine codeAny_mono (codeAny_call_builtin (R := wants (fun u t => u = .none ∧ ∃ h' tk L es ep t2, t = { s with heap := h', toks := tk } ∧ StN w h' s.heap.objs.size L es ep t2 ∧ GotN ks ks.length L ∧ (∀ b o, s.heap.get? b = some o → h'.get? b = some o)) E) F.called_set.init.plain F.entry_set_init (check_set_init_1 isS ?_)) fun r t hr => ?_
  · have hid : A.in1.in1.in1.handled = none := by simp [hh]
    have gets : (((s.heap.push (set0 w)).push { cls := .type "list_iterator", data := .fields #[.ref l, .int 0 0] })).get? s.heap.objs.size = some (set0 w) := Heap.get?_push_of_some _ new
    have lt1 : ∀ b, b < s.heap.objs.size → b ≠ (s.heap.push (set0 w)).objs.size := fun b h => by rw [Heap.size_push]; omega
    have au : A.in1.in1.in1.units + 20 < cLine := by simp only [Around.in1_units]; omega
    rcases hl with hl | hl
    · obtain ⟨⟨cl, dd, dt, sl⟩, at0, e1, nl, e2⟩ := hl
      simp only at e1 e2
      subst e1 e2
      have at1 : (s.heap.push (set0 w)).get? l = some { cls := .type "list", dict := dd, data := .seq its nl, slots := sl } := Heap.get?_push_of_some _ at0
      have q8 := F.sub_list_set
      have q9 := F.sub_list_frozenset
      have nd : (Value.type "list" == Value.type "dict") = false := by decide
      have isL : (s.heap.push (set0 w)).IsList l its := ⟨_, at1, rfl, nl, rfl⟩
      unfold Builtin.«set.__init__» noKeywords Builtin.Frozenset.updateFrom
      generalize gI : pyIter = I
      wp_walk
      subst gI
      refine wpAny_pyIter_list isL (wpAny_bind (wpAny_runValue ?_))
      have lt0 : l < s.heap.objs.size := Heap.lt_size at0
      have apart : s.heap.objs.size ∉ [(s.heap.push (set0 w)).objs.size, l] := by
        rw [Heap.size_push]
        simp only [List.mem_cons, List.not_mem_nil, or_false, not_or]
        exact ⟨Nat.ne_of_lt (Nat.lt_succ_self _), Nat.ne_of_gt lt0⟩
      refine update_n ((Walks.list hid _ l (lt1 l lt0) its).toS) s.heap.objs.size apart ks sz few hval s.heap hk (none_of _ (Nat.le_refl _)) (fun b hb => none_of b (by
          rw [List.mem_singleton.mp hb, Heap.size_push]
          exact Nat.le_succ _)) (by simp only [Around.in1_units]; omega) (its.size - 0) 0 _ (by omega) (Nat.zero_le _) ⟨⟨_, Heap.get?_push_size _ rfl, rfl, rfl⟩, (isL.push _)⟩ (fun b o e => Heap.get?_push_of_some _ (Heap.get?_push_of_some _ e)) ⟨[], #[], 0, _, stN_new (Heap.get?_push_of_some _ new), GotN.zero ks⟩ fun t L es ep t2 mv hS g hkp => ?_
      obtain ⟨h', g2, d2, tk, o2⟩ := t
      cases (show g2 = s.gens from mv.gens)
      cases (show d2 = s.drawn from mv.drawn)
      cases (show o2 = s.os from mv.os)
      refine wpAny_pure ?_
      show wpAny _ _ (ret Value.none) _ _ _
      rw [sz] at g
      exact wpAny_pure ⟨rfl, h', tk, L, es, ep, t2, rfl, hS, g, hkp⟩
    · obtain ⟨⟨cl, dd, dt, sl⟩, at0, e1, nl, e2⟩ := hl
      simp only at e1 e2
      subst e1 e2
      have at1 : (s.heap.push (set0 w)).get? l = some { cls := .type "tuple", dict := dd, data := .seq its nl, slots := sl } := Heap.get?_push_of_some _ at0
      have q8 := F.sub_tuple_set
      have q9 := F.sub_tuple_frozenset
      have nd : (Value.type "tuple" == Value.type "dict") = false := by decide
      have isL : (s.heap.push (set0 w)).IsTuple l its := ⟨_, at1, rfl, nl, rfl⟩
      unfold Builtin.«set.__init__» noKeywords Builtin.Frozenset.updateFrom
      generalize gI : pyIter = I
      wp_walk
      subst gI
      refine wpAny_pyIter_tuple isL (wpAny_bind (wpAny_runValue ?_))
      have lt0 : l < s.heap.objs.size := Heap.lt_size at0
      have apart : s.heap.objs.size ∉ [(s.heap.push (set0 w)).objs.size, l] := by
        rw [Heap.size_push]
        simp only [List.mem_cons, List.not_mem_nil, or_false, not_or]
        exact ⟨Nat.ne_of_lt (Nat.lt_succ_self _), Nat.ne_of_gt lt0⟩
      refine update_n ((Walks.tuple hid _ l (lt1 l lt0) its).toS) s.heap.objs.size apart ks sz few hval s.heap hk (none_of _ (Nat.le_refl _)) (fun b hb => none_of b (by
          rw [List.mem_singleton.mp hb, Heap.size_push]
          exact Nat.le_succ _)) (by simp only [Around.in1_units]; omega) (its.size - 0) 0 _ (by omega) (Nat.zero_le _) ⟨⟨_, Heap.get?_push_size _ rfl, rfl, rfl⟩, (isL.push _)⟩ (fun b o e => Heap.get?_push_of_some _ (Heap.get?_push_of_some _ e)) ⟨[], #[], 0, _, stN_new (Heap.get?_push_of_some _ new), GotN.zero ks⟩ fun t L es ep t2 mv hS g hkp => ?_
      obtain ⟨h', g2, d2, tk, o2⟩ := t
      cases (show g2 = s.gens from mv.gens)
      cases (show d2 = s.drawn from mv.drawn)
      cases (show o2 = s.os from mv.os)
      refine wpAny_pure ?_
      show wpAny _ _ (ret Value.none) _ _ _
      rw [sz] at g
      exact wpAny_pure ⟨rfl, h', tk, L, es, ep, t2, rfl, hS, g, hkp⟩
  · rcases r with e | fl
    · exact hr
    cases fl <;> first | exact hr.elim | skip
    obtain ⟨rfl, h', tk, L, es, ep, t2, rfl, k1, k2, k3⟩ := hr
    repeat (any_goals (first | assumption | wp_step))
    exact fin _ _ _ _ _ _ k1 k2 k3
end
end MW

set_option Elab.async false
set_option linter.all false
set_option maxRecDepth 100000
/-! MWE: enumerate of tuples -/
namespace MW
open PySem PySem.Spec PyProof.Rows L2
/-- what enumerate of one argument lays -/
abbrev enumO (it : Addr) : Obj := { cls := .type "enumerate", data := .fields #[.none, .bool false, .ref it, rawInt 0, .none, .none] }
set_option maxHeartbeats 1000000 in
theorem enum_one {v : Value} {o : Obj} {H : Heap → Prop} (B : Begins v o H) :
    Meets (Builtin.«enumerate.__new__» ⟨[.type "enumerate", v], []⟩) (fun _ R s => H s.heap ∧ R (.ok (.ret (.ref (s.heap.push o).objs.size))) { s with heap := (s.heap.push o).push (enumO s.heap.objs.size) }) :=
  .of_wp fun P w A R s h => by
    obtain ⟨hp, gs, dr, tk, os⟩ := s
    obtain ⟨b1, h⟩ := h
    have sub := sub_enumerate
    have start : ∀ {A' : Around} {E : Value → Shared → Prop} {Q : Value → Shared → Prop}, Q (.ref hp.objs.size) ⟨hp.push o, gs, dr, tk, os⟩ → wpAny (model P w) A' (pyIter v) Q E ⟨hp, gs, dr, tk, os⟩ :=
      fun q => B.iter P w _ _ ⟨hp, gs, dr, tk, os⟩ _ b1 q
    wp_walk using start
    refine wpAny_stack_any fun st => wpAny_pure ?_
    split
    · rename_i c _ _ _ _ _
      cases (c == Value.type "enumerate") <;> (wp_walk using start; exact ⟨_, rfl, h⟩)
    · wp_walk using start
      exact ⟨_, rfl, h⟩
section
variable {P : Program} {w : World} {A : Around} {E : Value → Shared → Prop} {s : Shared}
theorem call_enum1 {v : Value} {o : Obj} {H : Heap → Prop} {Q : Value → Shared → Prop} (B : Begins v o H) (b1 : H s.heap)
    (h : ∀ h', IsEnum h' (s.heap.objs.size + 1) s.heap.objs.size 0 .none → h'.get? s.heap.objs.size = some o → (∀ b u, s.heap.get? b = some u → h'.get? b = some u) → Q (.ref (s.heap.objs.size + 1)) { s with heap := h' }) :
    wpAny (model P w) A (call (.type "enumerate") [v]) Q E s := by
  refine callType_new F.called_enumerate (by decide) (F.typeCall_enumerate_1 _) (F.newCall_enumerate_1 _) (fun obj => F.args_object_init_2 obj _) F.entry_enumerate_new (enum_one B) ⟨b1, ?_⟩
  have z : (s.heap.push o).objs.size = s.heap.objs.size + 1 := Heap.size_push ..
  show _ ∧ _
  rw [z]
  have new : IsEnum ((s.heap.push o).push (enumO s.heap.objs.size)) (s.heap.objs.size + 1) s.heap.objs.size 0 .none := by
    have q := Heap.get?_push_size (s.heap.push o) (o := enumO s.heap.objs.size) rfl
    rw [z] at q; exact q
  exact ⟨⟨_, new, rfl⟩, h _ new (Heap.get?_push_of_some _ (Heap.get?_push_size _ B.free)) fun b u q => Heap.get?_push_of_some _ (Heap.get?_push_of_some _ q)⟩
theorem enum_end_t {e it l : Addr} {i : Nat} {its : Array Value} {old : Value} {Q : Option Value → Shared → Prop} (hh : A.handled = none) (he : IsEnum s.heap e it i old) (hit : s.heap.IsTupleIter it l i) (hl : s.heap.IsTuple l its) (hx : its[i]? = none)
    (q : ∀ h', Heap.ExtBut it s.heap h' → Q none { s with heap := h' }) : wpAny (model P w) A (pyNext (.ref e)) Q E s := by
  have ty : s.TypeIs (.ref e) "enumerate" := ⟨_, he, rfl⟩
  unfold pyNext
  refine wpAny_bind (wpAny_attempt (wpAny_callSpecial?_slot (name := Str.ofString "__next__") ty F.slot_enumerate_next (wpAny_call_entry F.slot_enumerate_next ty F.entry_enumerate_next ?_ (F.args_enumerate_next_1 _))))
  show wpAny _ _ (field (.ref e) 2 >>= _) _ _ _
  refine wpAny_bind (wpAny_field he rfl (x := .ref it) rfl ?_)
  refine wpAny_bind (wpAny_nextOf_tuple_end hh hit hl hx fun h' x he' hx' => ?_)
  obtain ⟨o, ho, hc⟩ := hx'
  exact wpAny_bind (wpAny_isInstance (T := "StopIteration") (b := true) ⟨o, ho, hc⟩ isSubtype_stop (wpAny_pure (q _ he')))
end
/-- the tuple at a, each thing in a new pair -/
def IteT (K : PySem.W.Frag) (a : Addr) : It :=
  ⟨fun i H => ∃ (xs : List V) (x : V), SqT K H a xs ∧ xs[i]? = some x, fun i H v H' => ∃ T x, v = .ref T ∧ H T = none ∧ H' = upd H T (.tup [.int (i : Nat), x]) ∧ ∀ xs, SqT K H a xs → xs[i]? = some x, fun i H => ∃ xs : List V, SqT K H a xs ∧ xs.length ≤ i⟩
theorem turn_enumT {P : Program} {w : World} {K : PySem.W.Frag} {elts : List Expr} {kk : Nat} {tpos : Pos} (a e it : Addr) (ai : a ≠ it) (ae : a ≠ e) :
    Turn P w K (.Tuple elts kk tpos) (IteT K a) [e, it] e (fun i h => (∃ old, IsEnum h e it ((i : Nat) : Int) old) ∧ h.IsTupleIter it a i ∧ e ≠ it) where
  mem := by simp
  obj := fun i h st b hb => by
    obtain ⟨⟨old, he⟩, ⟨o, ho, hc, hd⟩, _⟩ := st
    have e' : b = e ∨ b = it := by simpa using hb
    rcases e' with z | z
    · rw [z]; exact ⟨_, he, fun v q => nomatch q⟩
    · rw [z]; exact ⟨o, ho, fun v q => by rw [hd] at q; cases q⟩
  keep := fun i h h' st k => let ⟨⟨old, he⟩, hi, ne⟩ := st; ⟨⟨old, k e (by simp) _ he⟩, hi.at fun o q => k it (by simp) o q, ne⟩
  item := by
    intro X hP hw hK hc i pins s σ H E I hf st hg
    subst hP hw hK
    obtain ⟨⟨old, he⟩, hit, ne⟩ := st
    obtain ⟨xs, x, hq, hx⟩ := hg
    obtain ⟨its, rv, p, hz⟩ := I.tuple hq
    obtain ⟨u, hu, ru⟩ := rv.get hx
    have le : e < s.heap.objs.size := Heap.lt_size he
    have li : it < s.heap.objs.size := by obtain ⟨_, q, _⟩ := hit; exact Heap.lt_size q
    have lt : i < its.toArray.size := by
      rw [List.size_toArray]
      exact (List.getElem?_eq_some_iff.mp hu).1
    refine wpAny_pyNext_enum_itemD (Draws.tuple (prog := X.prog) (w := X.w) (A := X.A.in1) (by show X.A.handled = none; exact I.ok.hd hc) it a ai its.toArray) he ⟨hit, p⟩ lt ne (by simp [ne, Ne.symm ae]) fun x' h' tk hx' ho hst hT hsz hk => ?_
    have ex : x' = u := by
      have q : its.toArray[i]? = some u := by simpa using hu
      have q2 : its.toArray[i]? = some x' := hx'
      rw [q] at q2
      exact (Option.some.inj q2).symm
    subst ex
    refine ⟨_, rfl, wpAny_letOwnedTupleGo_enum (s := { s with heap := h', toks := tk + 1 }) ho fun h'' he' sb => ?_⟩
    have hT2 : h''.get? s.heap.objs.size = some { cls := .type "tuple", data := .seq #[.int i tk, x'] } := (sb.2 _ (Nat.ne_of_gt le)).trans hT
    have new : ObjOk X.prog X.w (upd H s.heap.objs.size (.tup [.int (i : Nat), x])) h'' s.heap.objs.size (.tup [.int (i : Nat), x]) :=
      ⟨by show 2 ≤ sizeLine; decide, [.int i tk, x'], .cons ⟨_, rfl⟩ (.cons ru .nil), ⟨_, hT2, rfl, _, rfl⟩⟩
    have I1 : Inv X pins σ (upd H s.heap.objs.size (.tup [.int (i : Nat), x])) { s with heap := h'', toks := tk + 1 } :=
      I.turnedNew (ch := [e, it]) (fun b ob hb q => (sb.2 b (fun z => hb (by simp [z]))).trans (hk b ob (fun z => hb (by simp [z])) (fun z => hb (by simp [z])) q)) hf (Nat.le_refl _) new
    refine ⟨.ref s.heap.objs.size, _, I1, rfl, ⟨_, x, rfl, I.hok.fresh (Nat.le_refl _), rfl, fun ys hy => by rw [I.tuple_inj hy hq]; exact hx⟩, ⟨⟨x', ?_⟩, hst.1.at fun o q => (sb.2 it (Ne.symm ne)).trans q, ne⟩, fun b hb => ?_⟩
    · have e1 : ((i + 1 : Nat) : Int) = (i : Int) + 1 := by omega
      rw [e1]; exact he'
    · have hb' : b < s.heap.objs.size := by
        have e' : b = e ∨ b = it := by simpa using hb
        rcases e' with z | z
        · rw [z]; exact le
        · rw [z]; exact li
      rw [upd_ne (Nat.ne_of_lt hb')]
      exact (hf b hb).1
  done := by
    intro X hP hw hK hc i pins s σ H E I hf st hg
    subst hP hw hK
    obtain ⟨⟨old, he⟩, hit, ne⟩ := st
    obtain ⟨xs, hq, hx⟩ := hg
    obtain ⟨its, rv, p, hz⟩ := I.tuple hq
    obtain ⟨f0, f1, f2, f3, f4, f5⟩ := hf it (by simp)
    have hl := rv.length
    exact enum_end_t (I.ok.hd hc) he hit p (by simp; omega) fun h' eb => ⟨rfl, I.turned (t' := s.toks) (fun b o hb q => eb b o hb q) f0 f1 f3 f4 f5⟩
  self := fun A i s Q E st h => let ⟨⟨_, he⟩, _⟩ := st; wpAny_pyIter_enum he h
/-- enumerate of a list or a tuple -/
def iEnumA (K : PySem.W.Frag) (ta : TA) : TI := fun σ H R => ta σ H fun vs H1 => ∃ a xs, vs = [.ref a] ∧ ((SqL K H1 a xs ∧ R (Ite K a) H1) ∨ (SqT K H1 a xs ∧ R (IteT K a) H1))
theorem pi_enumA {X : Cx} {e : Expr} {ta : TA} {p pos tpos : Pos} {elts : List Expr} {kk : Nat} (hg : Gl X "enumerate") (hm : X.mg "enumerate" = none) (ha : PA X [e] ta) (hs : starEach [e] X.env = [(false, eval e X.env)]) :
    PI X (.Tuple elts kk tpos) (.Call (.Name "enumerate" p) [e] [] pos) (iEnumA X.K ta) := by
  refine ⟨fun pins s σ H R I h => ?_⟩
  refine Call_ (ld_blt I hg hm boot_enumerate (PyProof.Rows.callWith_type1 (thn (ha.run pos pins s σ H _ I h) fun us s1 ⟨vs, H1, I1, r1, q1⟩ => ?_) hs rfl))
  obtain ⟨a, xs, ex, q1⟩ := q1
  subst ex
  cases r1 with
  | cons r rr =>
    cases rr
    cases r
    have fp : ∀ b, b ∈ [s1.heap.objs.size + 1, s1.heap.objs.size] → FpOk X pins H1 b := fun b hb => by
      have e' : b = s1.heap.objs.size + 1 ∨ b = s1.heap.objs.size := by simpa using hb
      have hle : s1.heap.objs.size ≤ b := by
        rcases e' with z | z
        · rw [z]; exact Nat.le_add_right _ _
        · rw [z]; exact Nat.le_refl _
      exact I1.fpOk hle (I1.hok.fresh hle)
    rcases q1 with ⟨hq, q⟩ | ⟨hq, q⟩
    · obtain ⟨its, rv, p', hz⟩ := I1.list hq
      refine call_enumerate_list p'.isList fun h' he hit hsz hk => wpAny_pyIter_enum he ?_
      have I2 : Inv X pins σ H1 { s1 with heap := h' } := I1.kept (t' := s1.toks) hk
      exact ⟨s1.heap.objs.size + 1, [s1.heap.objs.size + 1, s1.heap.objs.size], _, _, H1, rfl, I2, turn_enum a (s1.heap.objs.size + 1) s1.heap.objs.size, ⟨⟨.none, he⟩, hit, Nat.succ_ne_self _⟩, fp, q⟩
    · obtain ⟨its, rv, p', hz⟩ := I1.tuple hq
      have la : a < s1.heap.objs.size := by obtain ⟨o, ho, _⟩ := id p'; exact Heap.lt_size ho
      refine call_enum1 (begins_tuple a its.toArray) p' fun h' he ho hk => wpAny_pyIter_enum he ?_
      have I2 : Inv X pins σ H1 { s1 with heap := h' } := I1.kept (t' := s1.toks) hk
      exact ⟨s1.heap.objs.size + 1, [s1.heap.objs.size + 1, s1.heap.objs.size], _, _, H1, rfl, I2, turn_enumT a (s1.heap.objs.size + 1) s1.heap.objs.size (Nat.ne_of_lt la) (Nat.ne_of_lt (Nat.lt_succ_of_lt la)), ⟨⟨.none, he⟩, ⟨_, ho, rfl, rfl⟩, Nat.succ_ne_self _⟩, fp, q⟩
end MW

set_option Elab.async false
set_option linter.all false
set_option maxRecDepth 100000
/-! MW1: plain data over the heap of HandS -/
namespace MW
open PySem PySem.Spec PyProof.Rows L2

/-- plain data: texts as lists of codes -/
inductive D where
  | none
  | bool (b : Bool)
  | int (i : Int)
  | str (x : List Nat)
  | list (xs : List D)
  | tuple (xs : List D)
  | dict (ks : List D) (vs : List D)
  deriving Inhabited

abbrev AS := Addr → Prop
/-- the module's own things, and the world (texts' hashes) -/
structure Fg where
  f : PySem.W.Frag
  w : World
abbrev _root_.L2.Cx.fg (X : Cx) : Fg := ⟨X.K, X.w⟩
def mkS (l : List Nat) : Str := ⟨l.toArray⟩
theorem mkS_cps (x : Str) : mkS x.cps.toList = x := by cases x; simp [mkS]
theorem cps_mkS (l : List Nat) : (mkS l).cps.toList = l := by simp [mkS]

mutual
def py : D → PyData
  | .none => .none
  | .bool b => .bool b
  | .int i => .int i
  | .str x => .str (mkS x)
  | .list xs => .list (pys xs)
  | .tuple xs => .tuple (pys xs)
  | .dict _ _ => .dict []
def pys : List D → List PyData
  | [] => []
  | d :: ds => py d :: pys ds
end
theorem pys_map : ∀ ds, pys ds = ds.map py
  | [] => rfl
  | d :: ds => by rw [pys, pys_map ds]; rfl

/-- a list that nobody can change: the script, or one of the module's own -/
def SqF (K : Fg) (H : Hp) (a : Addr) (vs : List V) : Prop :=
  (∃ o, H a = some (.frz o (.lst vs))) ∨ ∃ (o : Obj) (its : Array Value) (n : Nat), K.f.lookup a = some o ∧ o.cls = .type "list" ∧ o.dict = Option.none ∧ o.data = .seq its n ∧ its.size ≤ sizeLine ∧ Vals vs its.toList
theorem SqF.sq {K : Fg} {H : Hp} {a : Addr} {vs : List V} (h : SqF K H a vs) : SqL K.f H a vs := by
  rcases h with ⟨o, h⟩ | h
  · exact .inl (.inr ⟨o, h⟩)
  · exact .inr h

mutual
/-- a key of a dict or set, up to == -/
def nk : D → NestedKey
  | .none => .none
  | .bool b => .num (if b = true then 1 else 0)
  | .int i => .num i
  | .str x => .text (mkS x)
  | .tuple ds => .tup (nks ds)
  | .list _ => .none
  | .dict _ _ => .none
def nks : List D → List NestedKey
  | [] => []
  | d :: ds => nk d :: nks ds
end
/-- can be a key: no list, no dict within, so many tuples deep -/
def hsh : Nat → D → Bool
  | _, .none => true
  | _, .bool _ => true
  | _, .int _ => true
  | _, .str _ => true
  | k + 1, .tuple ds => ds.all (hsh k)
  | 0, .tuple _ => false
  | _, .list _ => false
  | _, .dict _ _ => false
/-- is a tuple that can be a key -/
def tupK : D → Bool
  | .tuple ds => hsh 8 (.tuple ds)
  | _ => false
/-- the object at a is a dict with these keys (where they lie) and values -/
def ndP (w : World) (a : Addr) (kvs : List (NestedKey × Addr × V)) (h : Heap) : Prop :=
  kvs.length ≤ sizeLine ∧ (a == sysModules) = false ∧ ∃ xs : List (NestedKey × Addr × Value), Paired (fun (p : NestedKey × Addr × V) (q : NestedKey × Addr × Value) => p.1 = q.1 ∧ p.2.1 = q.2.1 ∧ RelV p.2.2 q.2.2) kvs xs ∧
    ∃ (o : Obj) (es : Array DictEntry) (ep : Nat), h.get? a = some o ∧ o.ExactDict ∧ o.data = .dict es ep ∧ es.toList = xs.map (fun x => (⟨NestedKey.hash w x.1, .ref x.2.1, x.2.2⟩ : DictEntry)) ∧ (xs.map (·.1)).Nodup
def ndO (w : World) (a : Addr) (kvs : List (NestedKey × Addr × V)) : HO := .ext (ndP w a kvs)
/-- keys of dicts as data -/
def kD : Key → D
  | .inl i => .int i
  | .inr x => .str x.cps.toList
def kDs (ks : List Key) : D := .tuple (ks.map kD)

mutual
/-- v stands for d, and reaches no address in O that may change -/
inductive Rp (K : Fg) (H : Hp) (O : AS) : V → D → Prop
  | none : Rp K H O .non .none
  | bool (b : Bool) : Rp K H O (.bl b) (.bool b)
  | int (i : Int) : Rp K H O (.int i) (.int i)
  | str (x : Str) : Rp K H O (.str x) (.str x.cps.toList)
  | list {a : Addr} {vs : List V} {ds : List D} : H a = some (.lst vs) → ¬ O a → Rps K H O vs ds → Rp K H O (.ref a) (.list ds)
  | flist {a : Addr} {vs : List V} {ds : List D} : SqF K H a vs → Rps K H O vs ds → Rp K H O (.ref a) (.list ds)
  | tuple {a : Addr} {vs : List V} {ds : List D} : SqT K.f H a vs → Rps K H O vs ds → Rp K H O (.ref a) (.tuple ds)
  | dictK {a : Addr} {kvs : List (Key × V)} {ds : List D} : H a = some (.dK kvs) → ¬ O a → Rps K H O (kvs.map (·.2)) ds → Rp K H O (.ref a) (.dict (kvs.map fun p => kD p.1) ds)
  | dictN {a : Addr} {kvs : List (NestedKey × Addr × V)} {ks ds : List D} : H a = some (ndO K.w a kvs) → ¬ O a → kvs.map (·.1) = ks.map nk → ks.all tupK = true → Rps K H O (kvs.map fun p => .ref p.2.1) ks → Rps K H O (kvs.map (·.2.2)) ds → Rp K H O (.ref a) (.dict ks ds)
inductive Rps (K : Fg) (H : Hp) (O : AS) : List V → List D → Prop
  | nil : Rps K H O [] []
  | cons {v : V} {vs : List V} {d : D} {ds : List D} : Rp K H O v d → Rps K H O vs ds → Rps K H O (v :: vs) (d :: ds)
end
/-- what a list or a dict that may change holds -/
inductive Ct (K : Fg) (H : Hp) (O : AS) (a : Addr) : D → Prop
  | list {vs : List V} {ds : List D} : H a = some (.lst vs) → Rps K H O vs ds → Ct K H O a (.list ds)
  | dictK {kvs : List (Key × V)} {ds : List D} : H a = some (.dK kvs) → Rps K H O (kvs.map (·.2)) ds → Ct K H O a (.dict (kvs.map fun p => kD p.1) ds)
  | dictN {kvs : List (NestedKey × Addr × V)} {ks ds : List D} : H a = some (ndO K.w a kvs) → kvs.map (·.1) = ks.map nk → ks.all tupK = true → Rps K H O (kvs.map fun p => .ref p.2.1) ks → Rps K H O (kvs.map (·.2.2)) ds → Ct K H O a (.dict ks ds)
/-- an operand: a value, or a list or dict of the def's own as it stands -/
def Opd (K : Fg) (H : Hp) (O : AS) (v : V) (d : D) : Prop := Rp K H O v d ∨ ∃ a, v = .ref a ∧ Ct K H O a d

section
variable {K : Fg} {H H' : Hp} {O O' : AS}
theorem Ct.mut {a : Addr} {d : D} (c : Ct K H O a d) : Mut (H a) := by
  cases c with
  | list h _ => rw [h]; exact trivial
  | dictK h _ => rw [h]; exact trivial
  | dictN h _ _ _ _ => rw [h]; exact trivial

/-- from (H, O) to (H', O'): what is tracked and not in O stays -/
def Go (H : Hp) (O : AS) (H' : Hp) (O' : AS) : Prop := ∀ b o, H b = some o → ¬ O b → H' b = some o ∧ ¬ O' b
theorem Go.refl : Go H O H O := fun _ _ h n => ⟨h, n⟩
theorem Go.trans {H2 : Hp} {O2 : AS} (g : Go H O H' O') (k : Go H' O' H2 O2) : Go H O H2 O2 := fun b o h n => k b o (g b o h n).1 (g b o h n).2
def Muts (H : Hp) (O : AS) : Prop := ∀ a, O a → Mut (H a)
theorem Muts.tup (m : Muts H O) {a : Addr} {vs : List V} (h : H a = some (.tup vs)) : ¬ O a := fun z => by have q := m a z; rw [h] at q; exact q
theorem Muts.frz (m : Muts H O) {a : Addr} {o : Obj} {u : HO} (h : H a = some (.frz o u)) : ¬ O a := fun z => by have q := m a z; rw [h] at q; exact q
theorem Muts.non (m : Muts H O) {a : Addr} (h : H a = Option.none) : ¬ O a := fun z => by have q := m a z; rw [h] at q; exact q
theorem Go.sqT (g : Go H O H' O') (m : Muts H O) {a : Addr} {vs : List V} (h : SqT K.f H a vs) : SqT K.f H' a vs := by
  rcases h with (h | ⟨o, h⟩) | h
  · exact .inl (.inl (g a _ h (m.tup h)).1)
  · exact .inl (.inr ⟨o, (g a _ h (m.frz h)).1⟩)
  · exact .inr h
theorem Go.sqF (g : Go H O H' O') (m : Muts H O) {a : Addr} {vs : List V} (h : SqF K H a vs) : SqF K H' a vs := by
  rcases h with ⟨o, h⟩ | h
  · exact .inl ⟨o, (g a _ h (m.frz h)).1⟩
  · exact .inr h
mutual
theorem Rp.go (g : Go H O H' O') (m : Muts H O) : ∀ {v : V} {d : D}, Rp K H O v d → Rp K H' O' v d
  | _, _, .none => .none
  | _, _, .bool b => .bool b
  | _, _, .int i => .int i
  | _, _, .str x => .str x
  | _, _, .list h n r => .list (g _ _ h n).1 (g _ _ h n).2 (Rps.go g m r)
  | _, _, .flist h r => .flist (g.sqF m h) (Rps.go g m r)
  | _, _, .tuple h r => .tuple (g.sqT m h) (Rps.go g m r)
  | _, _, .dictK h n r => .dictK (g _ _ h n).1 (g _ _ h n).2 (Rps.go g m r)
  | _, _, .dictN h n e t q r => .dictN (g _ _ h n).1 (g _ _ h n).2 e t (Rps.go g m q) (Rps.go g m r)
theorem Rps.go (g : Go H O H' O') (m : Muts H O) : ∀ {vs : List V} {ds : List D}, Rps K H O vs ds → Rps K H' O' vs ds
  | _, _, .nil => .nil
  | _, _, .cons r t => .cons (Rp.go g m r) (Rps.go g m t)
end
mutual
/-- fewer to be avoided -/
theorem Rp.weak (w : ∀ a, O' a → O a) : ∀ {v : V} {d : D}, Rp K H O v d → Rp K H O' v d
  | _, _, .none => .none
  | _, _, .bool b => .bool b
  | _, _, .int i => .int i
  | _, _, .str x => .str x
  | _, _, .list h n r => .list h (fun z => n (w _ z)) (Rps.weak w r)
  | _, _, .flist h r => .flist h (Rps.weak w r)
  | _, _, .tuple h r => .tuple h (Rps.weak w r)
  | _, _, .dictK h n r => .dictK h (fun z => n (w _ z)) (Rps.weak w r)
  | _, _, .dictN h n e t q r => .dictN h (fun z => n (w _ z)) e t (Rps.weak w q) (Rps.weak w r)
theorem Rps.weak (w : ∀ a, O' a → O a) : ∀ {vs : List V} {ds : List D}, Rps K H O vs ds → Rps K H O' vs ds
  | _, _, .nil => .nil
  | _, _, .cons r t => .cons (Rp.weak w r) (Rps.weak w t)
end
theorem Rps.length : ∀ {vs : List V} {ds : List D}, Rps K H O vs ds → vs.length = ds.length
  | _, _, .nil => rfl
  | _, _, .cons _ t => congrArg (· + 1) (Rps.length t)
theorem Rps.get : ∀ {vs : List V} {ds : List D} {i : Nat} {d : D}, Rps K H O vs ds → ds[i]? = some d → ∃ v, vs[i]? = some v ∧ Rp K H O v d
  | _, _, _, _, .nil, e => by simp at e
  | _, _, 0, _, .cons r _, e => by simp at e; subst e; exact ⟨_, rfl, r⟩
  | _, _, i + 1, _, .cons _ t, e => by
    obtain ⟨v, h1, h2⟩ := Rps.get (i := i) t (by simpa using e)
    exact ⟨v, by simpa using h1, h2⟩
theorem Rps.getV : ∀ {vs : List V} {ds : List D} {i : Nat} {v : V}, Rps K H O vs ds → vs[i]? = some v → ∃ d, ds[i]? = some d ∧ Rp K H O v d
  | _, _, _, _, .nil, e => by simp at e
  | _, _, 0, _, .cons r _, e => by simp at e; subst e; exact ⟨_, rfl, r⟩
  | _, _, i + 1, _, .cons _ t, e => by
    obtain ⟨v, h1, h2⟩ := Rps.getV (i := i) t (by simpa using e)
    exact ⟨v, by simpa using h1, h2⟩
theorem Rps.append : ∀ {vs us : List V} {ds es : List D}, Rps K H O vs ds → Rps K H O us es → Rps K H O (vs ++ us) (ds ++ es)
  | _, _, _, _, .nil, s => s
  | _, _, _, _, .cons r t, s => .cons r (Rps.append t s)
theorem Rps.take : ∀ {vs : List V} {ds : List D} (n : Nat), Rps K H O vs ds → Rps K H O (vs.take n) (ds.take n)
  | _, _, 0, _ => .nil
  | _, _, _ + 1, .nil => .nil
  | _, _, n + 1, .cons r t => .cons r (Rps.take n t)
theorem Rps.drop : ∀ {vs : List V} {ds : List D} (n : Nat), Rps K H O vs ds → Rps K H O (vs.drop n) (ds.drop n)
  | _, _, 0, r => r
  | _, _, _ + 1, .nil => .nil
  | _, _, n + 1, .cons _ t => Rps.drop n t
theorem Rps.set : ∀ {vs : List V} {ds : List D} {v : V} {d : D} (n : Nat), Rps K H O vs ds → Rp K H O v d → Rps K H O (vs.set n v) (ds.set n d)
  | _, _, _, _, _, .nil, _ => .nil
  | _, _, _, _, 0, .cons _ t, q => .cons q t
  | _, _, _, _, n + 1, .cons r t, q => .cons r (Rps.set n t q)
theorem Rps.reverse : ∀ {vs : List V} {ds : List D}, Rps K H O vs ds → Rps K H O vs.reverse ds.reverse
  | _, _, .nil => .nil
  | _, _, .cons r t => by rw [List.reverse_cons, List.reverse_cons]; exact Rps.append (Rps.reverse t) (.cons r .nil)
theorem Ct.go {a : Addr} {d : D} (g : Go H O H' O') (m : Muts H O) (e : H' a = H a) (c : Ct K H O a d) : Ct K H' O' a d := by
  cases c with
  | list h r => exact .list (e.trans h) (r.go g m)
  | dictK h r => exact .dictK (e.trans h) (r.go g m)
  | dictN h k t q r => exact .dictN (e.trans h) k t (q.go g m) (r.go g m)
theorem Ct.weak {a : Addr} {d : D} (w : ∀ a, O' a → O a) (c : Ct K H O a d) : Ct K H O' a d := by
  cases c with
  | list h r => exact .list h (r.weak w)
  | dictK h r => exact .dictK h (r.weak w)
  | dictN h k t q r => exact .dictN h k t (q.weak w) (r.weak w)
mutual
/-- of the library's relation: what is no dict -/
theorem Rp.dp : ∀ {v : V} {d : D}, Rp K H O v d → (py d).hasDict = false → Dp K.f H v (py d)
  | _, _, .none, _ => by rw [py]; exact .non
  | _, _, .bool b, _ => by rw [py]; exact .bl b
  | _, _, .int i, _ => by rw [py]; exact .int i
  | _, _, .str x, _ => by rw [py, mkS_cps]; exact .str x
  | _, _, .list h _ r, n => by rw [py] at n ⊢; exact .lst (.inl (.inl h)) (Rps.dp r (by simpa [PyData.hasDict] using n))
  | _, _, .flist h r, n => by rw [py] at n ⊢; exact .lst h.sq (Rps.dp r (by simpa [PyData.hasDict] using n))
  | _, _, .tuple h r, n => by rw [py] at n ⊢; exact .tup h (Rps.dp r (by simpa [PyData.hasDict] using n))
  | _, _, .dictK _ _ _, n => by rw [py] at n; simp [PyData.hasDict] at n
  | _, _, .dictN _ _ _ _ _ _, n => by rw [py] at n; simp [PyData.hasDict] at n
theorem Rps.dp : ∀ {vs : List V} {ds : List D}, Rps K H O vs ds → PyData.hasDictAll (pys ds) = false → DpAll K.f H vs (pys ds)
  | _, _, .nil, _ => by rw [pys]; exact .nil
  | _, _, .cons r t, n => by
    rw [pys] at n ⊢
    rw [PyData.hasDictAll, Bool.or_eq_false_iff] at n
    exact .cons (Rp.dp r n.1) (Rps.dp t n.2)
end
theorem Opd.dp {v : V} {d : D} (o : Opd K H O v d) (n : (py d).hasDict = false) : Dp K.f H v (py d) := by
  rcases o with r | ⟨a, rfl, c⟩
  · exact r.dp n
  · cases c with
    | list h r => rw [py] at n ⊢; exact .lst (.inl (.inl h)) (r.dp (by simpa [PyData.hasDict] using n))
    | dictK h r => rw [py] at n; simp [PyData.hasDict] at n
    | dictN h _ _ _ r => rw [py] at n; simp [PyData.hasDict] at n
/-- an operand that is a list, a tuple -/
theorem Opd.lst {v : V} {ds : List D} (o : Opd K H O v (.list ds)) : ∃ a vs, v = .ref a ∧ SqL K.f H a vs ∧ Rps K H O vs ds := by
  rcases o with r | ⟨a, rfl, c⟩
  · cases r with
    | list h n t => exact ⟨_, _, rfl, .inl (.inl h), t⟩
    | flist h t => exact ⟨_, _, rfl, h.sq, t⟩
  · cases c with
    | list h t => exact ⟨_, _, rfl, .inl (.inl h), t⟩
theorem Opd.tup {v : V} {ds : List D} (o : Opd K H O v (.tuple ds)) : ∃ a vs, v = .ref a ∧ SqT K.f H a vs ∧ Rps K H O vs ds := by
  rcases o with r | ⟨a, rfl, c⟩
  · cases r with
    | tuple h t => exact ⟨_, _, rfl, h, t⟩
  · cases c
theorem Opd.str {v : V} {x : List Nat} (o : Opd K H O v (.str x)) : v = .str (mkS x) := by
  rcases o with r | ⟨a, rfl, c⟩
  · cases r with
    | str x => rw [mkS_cps]
  · cases c
theorem Opd.int {v : V} {i : Int} (o : Opd K H O v (.int i)) : v = .int i := by
  rcases o with r | ⟨a, rfl, c⟩
  · cases r; rfl
  · cases c
theorem Opd.bool {v : V} {b : Bool} (o : Opd K H O v (.bool b)) : v = .bl b := by
  rcases o with r | ⟨a, rfl, c⟩
  · cases r; rfl
  · cases c
/-- what a dict with keys ks holds: by ints and texts, or by tuples -/
def Dc (K : Fg) (H : Hp) (O : AS) (a : Addr) (ks vs : List D) : Prop :=
  (∃ kvs : List (Key × V), H a = some (.dK kvs) ∧ ks = kvs.map (fun p => kD p.1) ∧ Rps K H O (kvs.map (·.2)) vs) ∨
  ∃ kvs : List (NestedKey × Addr × V), H a = some (ndO K.w a kvs) ∧ kvs.map (·.1) = ks.map nk ∧ ks.all tupK = true ∧ Rps K H O (kvs.map fun p => .ref p.2.1) ks ∧ Rps K H O (kvs.map (·.2.2)) vs
theorem Ct.dic {a : Addr} {ks vs : List D} (c : Ct K H O a (.dict ks vs)) : Dc K H O a ks vs := by
  cases c with
  | dictK h t => exact .inl ⟨_, h, rfl, t⟩
  | dictN h e t q r => exact .inr ⟨_, h, e, t, q, r⟩
theorem Opd.dic {v : V} {ks vs : List D} (o : Opd K H O v (.dict ks vs)) : ∃ a, v = .ref a ∧ Dc K H O a ks vs := by
  rcases o with r | ⟨a, rfl, c⟩
  · cases r with
    | dictK h n t => exact ⟨_, rfl, .inl ⟨_, h, rfl, t⟩⟩
    | dictN h n e t q r => exact ⟨_, rfl, .inr ⟨_, h, e, t, q, r⟩⟩
  · exact ⟨a, rfl, c.dic⟩
theorem Opd.none {v : V} (o : Opd K H O v .none) : v = .non := by
  rcases o with r | ⟨a, rfl, c⟩
  · cases r; rfl
  · cases c
theorem Rp.strI (x : List Nat) : Rp K H O (.str (mkS x)) (.str x) := by have h := Rp.str (K := K) (H := H) (O := O) (mkS x); rw [cps_mkS] at h; exact h
/-- something is laid at a new place -/
theorem Go.laid {p : Addr} {o : HO} (n : H p = Option.none) : Go H O (upd H p o) O := fun b u h z => ⟨by rw [upd_ne (ne_of_none h n)]; exact h, z⟩
theorem Muts.laid {p : Addr} {o : HO} (m : Muts H O) (n : H p = Option.none) : Muts (upd H p o) O := fun a z => by
  by_cases e : a = p
  · subst e; exact absurd z (m.non n)
  · rw [upd_ne e]; exact m a z
end

/-! ### slots -/
inductive Sl where
  | no
  | val (d : D)
  | own (d : D)
  | io (d : D)
  deriving Inhabited
abbrev Evn := List Sl
abbrev Stt := List (Option V)
/-- the slot's content -/
def pk (ρ : Evn) (i : Nat) : Option D := match ρ[i]? with
  | some (.val d) => some d
  | some (.own d) => some d
  | some (.io d) => some d
  | _ => none
/-- a value goes to a slot that is none of the handed-in ones -/
def setv (ρ : Evn) (i : Nat) (x : Sl) : Option Evn := match ρ[i]? with
  | some (.io _) => none
  | some _ => some (ρ.set i x)
  | none => none
/-- a new content of a list or dict of the def's own, or a handed-in one -/
def setc (ρ : Evn) (i : Nat) (d : D) : Option Evn := match ρ[i]? with
  | some (.own _) => some (ρ.set i (.own d))
  | some (.io _) => some (ρ.set i (.io d))
  | _ => none
def getc (ρ : Evn) (i : Nat) : Option D := match ρ[i]? with
  | some (.own d) => some d
  | some (.io d) => some d
  | _ => none
def IsM (ρ : Evn) (i : Nat) : Prop := ∃ d, getc ρ i = some d
/-- what stays the same through a def: the module, the caller's addresses, the entry's heap, where the handed-in lists lie -/
structure Fx where
  K : Fg
  A : AS
  G : Hp
  L : Nat → Option Addr
def Mine (σ : Stt) (ρ : Evn) (a : Addr) : Prop := ∃ i, IsM ρ i ∧ σ[i]? = some (some (.ref a))
def Av (F : Fx) (σ : Stt) (ρ : Evn) : AS := fun a => F.A a ∨ Mine σ ρ a
structure ER (F : Fx) (H : Hp) (σ : Stt) (ρ : Evn) : Prop where
  len : ρ.length = σ.length
  amb : ∀ a, F.A a → Mut (H a)
  val : ∀ (i : Nat) (d : D), ρ[i]? = some (.val d) → ∃ v, σ[i]? = some (some v) ∧ Rp F.K H (Av F σ ρ) v d
  own : ∀ (i : Nat) (d : D), ρ[i]? = some (.own d) → ∃ a, σ[i]? = some (some (.ref a)) ∧ ¬ F.A a ∧ F.G a = none ∧ Ct F.K H (Av F σ ρ) a d
  io : ∀ (i : Nat) (d : D), ρ[i]? = some (.io d) → ∃ a, σ[i]? = some (some (.ref a)) ∧ F.L i = some a ∧ F.A a ∧ Ct F.K H (Av F σ ρ) a d
  inj : ∀ (i j : Nat) (a : Addr), IsM ρ i → IsM ρ j → σ[i]? = some (some (.ref a)) → σ[j]? = some (some (.ref a)) → i = j
  since : ∀ b o, F.G b = some o → (∀ i, F.L i ≠ some b) → H b = some o
section
variable {F : Fx} {H H' : Hp} {σ : Stt} {ρ : Evn}
theorem isM_own {i : Nat} {d : D} (h : ρ[i]? = some (.own d)) : IsM ρ i := ⟨d, by simp [getc, h]⟩
theorem isM_io {i : Nat} {d : D} (h : ρ[i]? = some (.io d)) : IsM ρ i := ⟨d, by simp [getc, h]⟩
theorem IsM.cases {i : Nat} (h : IsM ρ i) : (∃ d, ρ[i]? = some (.own d)) ∨ ∃ d, ρ[i]? = some (.io d) := by
  obtain ⟨d, h⟩ := h
  unfold getc at h
  split at h
  · exact .inl ⟨_, by assumption⟩
  · exact .inr ⟨_, by assumption⟩
  · cases h
theorem getc_cases {i : Nat} {d : D} (h : getc ρ i = some d) : ρ[i]? = some (.own d) ∨ ρ[i]? = some (.io d) := by
  unfold getc at h
  split at h
  · cases h; exact .inl (by assumption)
  · cases h; exact .inr (by assumption)
  · cases h
theorem pk_cases {i : Nat} {d : D} (h : pk ρ i = some d) : ρ[i]? = some (.val d) ∨ ρ[i]? = some (.own d) ∨ ρ[i]? = some (.io d) := by
  unfold pk at h
  split at h
  · cases h; exact .inl (by assumption)
  · cases h; exact .inr (.inl (by assumption))
  · cases h; exact .inr (.inr (by assumption))
  · cases h
theorem ER.ct (e : ER F H σ ρ) {i : Nat} {d : D} (h : getc ρ i = some d) : ∃ a, σ[i]? = some (some (.ref a)) ∧ Ct F.K H (Av F σ ρ) a d := by
  rcases getc_cases h with h | h
  · obtain ⟨a, h1, _, _, h2⟩ := e.own i d h; exact ⟨a, h1, h2⟩
  · obtain ⟨a, h1, _, _, h2⟩ := e.io i d h; exact ⟨a, h1, h2⟩
theorem ER.muts (e : ER F H σ ρ) : Muts H (Av F σ ρ) := fun a h => by
  rcases h with h | ⟨i, hm, hs⟩
  · exact e.amb a h
  · obtain ⟨d, hd⟩ := hm
    obtain ⟨b, hb, c⟩ := e.ct hd
    rw [hs] at hb
    cases hb
    exact c.mut
/-- a slot as an operand -/
theorem ER.opd (e : ER F H σ ρ) {i : Nat} {d : D} (h : pk ρ i = some d) : ∃ v, σ[i]? = some (some v) ∧ Opd F.K H (Av F σ ρ) v d := by
  rcases pk_cases h with h | h | h
  · obtain ⟨v, h1, h2⟩ := e.val i d h; exact ⟨v, h1, .inl h2⟩
  · obtain ⟨a, h1, _, _, h2⟩ := e.own i d h; exact ⟨_, h1, .inr ⟨a, rfl, h2⟩⟩
  · obtain ⟨a, h1, _, _, h2⟩ := e.io i d h; exact ⟨_, h1, .inr ⟨a, rfl, h2⟩⟩
/-- the heap grows -/
theorem ER.grow (e : ER F H σ ρ) (g : ∀ b o, H b = some o → H' b = some o) : ER F H' σ ρ := by
  have go : Go H (Av F σ ρ) H' (Av F σ ρ) := fun b o h n => ⟨g b o h, n⟩
  have m := e.muts
  have eq : ∀ a, Mut (H a) → H' a = H a := fun a ha => by
    cases q : H a with
    | none => rw [q] at ha; exact ha.elim
    | some o => exact g a o q
  refine ⟨e.len, fun a h => ?_, fun i d h => ?_, fun i d h => ?_, fun i d h => ?_, e.inj, fun b o h n => g b o (e.since b o h n)⟩
  · rw [eq a (e.amb a h)]; exact e.amb a h
  · obtain ⟨v, h1, h2⟩ := e.val i d h; exact ⟨v, h1, h2.go go m⟩
  · obtain ⟨a, h1, h2, h3, h4⟩ := e.own i d h; exact ⟨a, h1, h2, h3, h4.go go m (eq a h4.mut)⟩
  · obtain ⟨a, h1, h2, h3, h4⟩ := e.io i d h; exact ⟨a, h1, h2, h3, h4.go go m (eq a h4.mut)⟩
theorem ER.laid (e : ER F H σ ρ) {p : Addr} {o : HO} (n : H p = none) : ER F (upd H p o) σ ρ := e.grow fun b u h => by rw [upd_ne (ne_of_none h n)]; exact h
end
end MW

set_option Elab.async false
set_option linter.all false
set_option maxRecDepth 100000
/-! MW2: operations on plain data; the small syntax; wp -/
namespace MW
open PySem PySem.Spec PyProof.Rows L2

/-! ### data -/
/-- nested at most k deep, no dict within -/
def shp : Nat → D → Bool
  | 0, _ => false
  | _ + 1, .none => true
  | _ + 1, .bool _ => true
  | _ + 1, .int _ => true
  | _ + 1, .str _ => true
  | k + 1, .list ds => ds.all (shp k)
  | k + 1, .tuple ds => ds.all (shp k)
  | _ + 1, .dict _ _ => false
mutual
def eqD : D → D → Bool
  | .none, .none => true
  | .bool a, .bool b => a == b
  | .bool a, .int j => (if a then 1 else 0) == j
  | .int i, .bool b => i == (if b then 1 else 0)
  | .int i, .int j => i == j
  | .str x, .str y => x == y
  | .list xs, .list ys => eqDs xs ys
  | .tuple xs, .tuple ys => eqDs xs ys
  | _, _ => false
def eqDs : List D → List D → Bool
  | [], [] => true
  | x :: xs, y :: ys => eqD x y && eqDs xs ys
  | _, _ => false
end
def inD (x : D) (ys : List D) : Bool := ys.any fun y => eqD y x
/-- a place in a list: from the left, or from the right below nought -/
def atD {α : Type} (xs : List α) (i : Int) : Option α :=
  if 0 ≤ i then xs[i.toNat]? else if -(xs.length : Int) ≤ i then xs[(i + xs.length).toNat]? else none
def sIxD (n d : Nat) : Option Int → Nat
  | none => d
  | some v => if v < 0 then (v + (n : Int)).toNat else min v.toNat n
def cutD {α : Type} (xs : List α) (lo hi : Option Int) : List α :=
  (xs.drop (sIxD xs.length 0 lo)).take (sIxD xs.length xs.length hi - sIxD xs.length 0 lo)
def fitL (n : Nat) : Bool := decide (n ≤ sizeLine)
def truD : D → Option Bool
  | .none => some false
  | .bool b => some b
  | .int i => some (i != 0)
  | .str x => if fitL x.length then some (!x.isEmpty) else none
  | .list xs => some (!xs.isEmpty)
  | .tuple xs => some (!xs.isEmpty)
  | .dict _ _ => none
def smallI (i : Int) : Bool := decide (-(2 ^ 64) < i) && decide (i < 2 ^ 64)
def binD (op : Operator) (x y : D) : Option D :=
  match op, x, y with
  | .Add, .int i, .int j => some (.int (i + j))
  | .Add, .str a, .str b => if fitL (a.length + b.length) then some (.str (a ++ b)) else none
  | .Add, .list a, .list b => if fitL (a.length + b.length) then some (.list (a ++ b)) else none
  | .Add, .tuple a, .tuple b => if fitL (a.length + b.length) then some (.tuple (a ++ b)) else none
  | .Sub, .int i, .int j => some (.int (i - j))
  | .Mult, .int i, .int j => if smallI i || smallI j then some (.int (i * j)) else none
  | .Mult, .list _, .int _ => none
  | .Mult, .str a, .int k => if decide (0 ≤ k) && decide (k < 2 ^ 63) && fitL (a.length * k.toNat) then some (.str (List.replicate k.toNat a).flatten) else none
  | .Mod, .int i, .int j => if decide (0 < j) then some (.int (i % j)) else none
  | .FloorDiv, .int i, .int j => if decide (0 < j) && decide (j < 1073741824) then some (.int (i / j)) else none
  | .Pow, .int i, .int j => if decide (0 ≤ j) && decide (j ≤ 1000000) && decide (i.natAbs < 2 ^ 64) then some (.int (i ^ j.toNat)) else none
  | .RShift, .int i, .int j => if decide (0 ≤ j) then some (.int (i / 2 ^ j.toNat)) else none
  | .BitAnd, .int i, .int j => some (.int (Builtin.bitAnd i j))
  | _, _, _ => none
/-- x < y, x <= y of alike data -/
def ltD (x y : D) : Option Bool :=
  match x, y with
  | .int i, .int j => some (decide (i < j))
  | .str a, .str b => some (decide (a < b))
  | .none, _ => none
  | x, y => if PySem.W.alike (py x) (py y) && shp 60 x && shp 60 y then some (PySem.W.dataLt (py x) (py y)) else none
def subD (a b : List Nat) : Bool := !(Builtin.Str.occurrences (mkS b) (mkS a) 0 (mkS b).length 1).isEmpty
def isScal : D → Bool
  | .none => true
  | .bool _ => true
  | _ => false
def isNn : D → Bool
  | .none => true
  | _ => false
def eqK : D → D → Bool
  | .int i, .int j => i == j
  | .str a, .str b => a == b
  | .tuple a, .tuple b => eqDs a b
  | _, _ => false
def isKey : D → Bool
  | .int _ => true
  | .str _ => true
  | .tuple ds => hsh 8 (.tuple ds)
  | _ => false
def isTup : D → Bool
  | .tuple _ => true
  | _ => false
/-- a dict's keys are all tuples, or none is -/
def kfit (ks : List D) (x : D) : Bool := ks.all fun k => isTup k == isTup x
def cmpD (op : CmpOp) (x y : D) : Option Bool :=
  match op, x, y with
  | .Eq, x, y => if shp 60 x && shp 60 y then some (eqD x y) else none
  | .NotEq, x, y => if shp 60 x && shp 60 y then some (!eqD x y) else none
  | .Lt, x, y => ltD x y
  | .Gt, .int i, .int j => some (decide (j < i))
  | .Gt, .str a, .str b => some (decide (b < a))
  | .LtE, .int i, .int j => some (decide (i ≤ j))
  | .GtE, .int i, .int j => some (decide (j ≤ i))
  | .In, x, .list ys => if shp 60 x && shp 60 (.list ys) then some (inD x ys) else none
  | .In, x, .tuple ys => if shp 60 x && shp 60 (.tuple ys) then some (inD x ys) else none
  | .In, .str a, .str b => some (subD a b)
  | .NotIn, x, .list ys => if shp 60 x && shp 60 (.list ys) then some (!inD x ys) else none
  | .NotIn, x, .tuple ys => if shp 60 x && shp 60 (.tuple ys) then some (!inD x ys) else none
  | .NotIn, .str a, .str b => some (!subD a b)
  | .Is, x, .none => some (isNn x)
  | .IsNot, x, .none => some (!isNn x)
  | .Is, .bool a, .bool b => some (decide (a = b))
  | .IsNot, .bool a, .bool b => some (!decide (a = b))
  | .In, x, .dict ks _ => if isKey x && kfit ks x then some (ks.any fun k => eqK k x) else none
  | .NotIn, x, .dict ks _ => if isKey x && kfit ks x then some (!ks.any fun k => eqK k x) else none
  | _, _, _ => none
/-- what stands in a dict at a key -/
def dget : List D → List D → D → Option D
  | k :: ks, v :: vs, x => if eqK k x then some v else dget ks vs x
  | _, _, _ => none
def dset : List D → List D → D → D → List D
  | k :: ks, v :: vs, x, y => (if eqK k x then y else v) :: dset ks vs x y
  | _, _, _, _ => []
def dputK (ks : List D) (x : D) : List D := if ks.any fun k => eqK k x then ks else ks ++ [x]
def dputV (ks vs : List D) (x y : D) : List D := if ks.any fun k => eqK k x then dset ks vs x y else vs ++ [y]
def asDi : D → Option (List D × List D)
  | .dict ks vs => some (ks, vs)
  | _ => none
def idxD (x i : D) : Option D :=
  match x, i with
  | .list xs, .int i => atD xs i
  | .tuple xs, .int i => atD xs i
  | .str xs, .int i => if fitL xs.length then (atD xs i).map fun c => .str [c] else none
  | .dict ks vs, k => if isKey k && kfit ks k then dget ks vs k else none
  | _, _ => none
def slcD (x : D) (lo hi : Option Int) : Option D :=
  match x with
  | .list xs => some (.list (cutD xs lo hi))
  | .tuple xs => some (.tuple (cutD xs lo hi))
  | .str xs => if fitL xs.length then some (.str (cutD xs lo hi)) else none
  | _ => none
/-- what a for goes over -/
def itemsD : D → Option (List D)
  | .list xs => some xs
  | .tuple xs => some xs
  | .str xs => some (xs.map fun c => .str [c])
  | _ => none
def boolsD : List D → Option (List Bool)
  | [] => some []
  | .bool b :: ds => (boolsD ds).map (b :: ·)
  | _ => none
def intsD : List D → Option (List Int)
  | [] => some []
  | .int i :: ds => (intsD ds).map (i :: ·)
  | _ => none
def strsD : List D → Option (List (List Nat))
  | [] => some []
  | .str i :: ds => (strsD ds).map (i :: ·)
  | _ => none
/-- the order of sorted on alike data -/
def leD (x y : D) : Bool := !PySem.W.dataLt (py y) (py x)
def sortable (ds : List D) : Bool :=
  (ds.all fun d => ds.all fun e => PySem.W.alike (py d) (py e)) && ds.all (shp 60) &&
  ((ds.all fun d => match d with | .tuple (_ :: _) => true | _ => false) || ds.all fun d => match d with | .none => false | .tuple _ => false | _ => true)
/-- the members of a list of ints, rising -/
def insI (x : Int) : List Int → List Int
  | [] => [x]
  | y :: ys => if x < y then x :: y :: ys else if x = y then y :: ys else y :: insI x ys
def oset : List Int → List Int
  | [] => []
  | x :: xs => insI x (oset xs)
/-- each once, the first ones stay -/
def onceD : List D → List D
  | [] => []
  | d :: ds => d :: (onceD ds).filter fun e => !eqD e d
/- the same, as data -/
mutual
def sameD : D → D → Bool
  | .none, .none => true
  | .bool a, .bool b => a == b
  | .int i, .int j => i == j
  | .str x, .str y => x == y
  | .list xs, .list ys => sameDs xs ys
  | .tuple xs, .tuple ys => sameDs xs ys
  | _, _ => false
def sameDs : List D → List D → Bool
  | [], [] => true
  | x :: xs, y :: ys => sameD x y && sameDs xs ys
  | _, _ => false
end
/-- what is equal is the same -/
def uniqD (ds : List D) : Bool := ds.all fun a => ds.all fun b => !eqD a b || sameD a b
/-- few enough unlike tuples for a set -/
def fewT (ds : List D) : Bool := ds.all tupK && decide (ds.length < 4000) && decide ((onceD ds).length ≤ 76)
def tset (ds : List D) : Option (List D) := if fewT ds && sortable ds && uniqD ds then some ((onceD ds).mergeSort leD) else none
/- repr: the text's length is at most so much -/
mutual
def rlen : D → Nat
  | .none => 4
  | .bool _ => 5
  | .int i => i.natAbs.log2 + 2
  | .str x => 10 * x.length + 2
  | .list ds => rlens ds + 2
  | .tuple ds => rlens ds + 3
  | .dict _ _ => 0
def rlens : List D → Nat
  | [] => 0
  | d :: ds => rlen d + 2 + rlens ds
end
def shwD (d : D) : Bool := shp 60 d && (py d).showable && decide ((py d).shown.length ≤ 16000000)
inductive Ty where | int | str | bool | tuple | list
  deriving DecidableEq, Inhabited
def isTy : Ty → D → Option Bool
  | .int, .int _ => some true
  | .int, .bool _ => some true
  | .str, .str _ => some true
  | .bool, .bool _ => some true
  | .tuple, .tuple _ => some true
  | .list, .list _ => some true
  | _, .dict _ _ => none
  | _, _ => some false
/-- built-in functions of data -/
inductive Bf where
  | len | tuple | list | sorted | sset | lset | all | any | sum | min1 | max1 | min2 | max2 | int | str | repr | abs | revs | trng | lrng | rep | cat | dnew | dpairs | isi (t : Ty)
  deriving DecidableEq, Inhabited
def asLT : D → Option (List D)
  | .list b => some b
  | .tuple b => some b
  | _ => none
/-- what a range goes over -/
def rngD (ds : List D) : Option (List D) :=
  match ds with
  | [.int j] => if decide (-(2 ^ 62) ≤ j) && decide (j < 2 ^ 62) then some ((List.range j.toNat).map fun (k : Nat) => .int (k : Int)) else none
  | [.int i, .int j] => if decide (-(2 ^ 62) ≤ i) && decide (i < 2 ^ 62) && decide (-(2 ^ 62) ≤ j) && decide (j < 2 ^ 62) then some ((List.range (j - i).toNat).map fun (k : Nat) => .int (i + (k : Int))) else none
  | _ => none
def pairsD : List D → Option (List (D × D))
  | [] => some []
  | .tuple [k, v] :: ps => if isKey k && !isTup k then (pairsD ps).map ((k, v) :: ·) else none
  | _ => none
/-- pairs whose keys are tuples -/
def pairsT : List D → Option (List (D × D))
  | [] => some []
  | .tuple [k, v] :: ps => if tupK k then (pairsT ps).map ((k, v) :: ·) else none
  | _ => none
def putAll : List (D × D) → List D → List D → List D × List D
  | [], ks, vs => (ks, vs)
  | p :: ps, ks, vs => putAll ps (dputK ks p.1) (dputV ks vs p.1 p.2)
/-- the pairs of a display: their data, one behind the other -/
def prsD : List D → Option (List (D × D))
  | [] => some []
  | k :: v :: ds => if isKey k then (prsD ds).map ((k, v) :: ·) else none
  | _ => none
/-- whether all keys go together -/
def fitAll : List D → List (D × D) → Bool
  | _, [] => true
  | ks, p :: ps => kfit ks p.1 && fitAll (dputK ks p.1) ps
theorem dputK_len (ks : List D) (x : D) : (dputK ks x).length ≤ ks.length + 1 := by
  unfold dputK
  split
  · omega
  · rw [List.length_append]; simp
def ddpD (ds : List D) : Option D := (prsD ds).bind fun ps => if fitAll [] ps && decide (0 < ps.length) && decide (ps.length ≤ 15) then some (.dict (putAll ps [] []).1 (putAll ps [] []).2) else none
/-- one thing out of a list: the last, or the one at a place -/
def popD (ds : List D) : List D → Option (D × List D)
  | [] => (ds[ds.length - 1]?).map fun d => (d, ds.dropLast)
  | [.int j] => if decide (0 ≤ j) && decide (j < 2 ^ 63) then (ds[j.toNat]?).map fun d => (d, ds.eraseIdx j.toNat) else none
  | _ => none
/-- no list, no dict -/
def plainD : D → Bool
  | .list _ => false
  | .dict _ _ => false
  | _ => true
def isort (ns : List Int) : List Int := ns.mergeSort fun a b => decide (a ≤ b)
def biD (f : Bf) (ds : List D) : Option D :=
  match f, ds with
  | .len, [.str x] => if fitL x.length then some (.int x.length) else none
  | .len, [.list x] => some (.int x.length)
  | .len, [.tuple x] => some (.int x.length)
  | .tuple, [.list x] => some (.tuple x)
  | .tuple, [.tuple x] => some (.tuple x)
  | .list, [.list x] => some (.list x)
  | .list, [.tuple x] => some (.list x)
  | .sorted, [.list x] => if sortable x then some (.list (x.mergeSort leD)) else none
  | .sorted, [.tuple x] => if sortable x then some (.list (x.mergeSort leD)) else none
  | .sset, [x] => (asLT x).bind fun ds => match intsD ds with
    | some ns => if decide (ns.length < 4000) && decide ((oset ns).length < 64) then some (.list ((oset ns).map .int)) else none
    | none => (tset ds).map .list
  | .lset, [x] => (asLT x).bind fun ds => match intsD ds with
    | some ns => if decide (ns.length < 4000) then some (.int (oset ns).length) else none
    | none => if fewT ds then some (.int (onceD ds).length) else none
  | .all, [.list x] => (boolsD x).map fun bs => .bool (bs.all id)
  | .any, [.list x] => (boolsD x).map fun bs => .bool (bs.any id)
  | .int, [.bool b] => some (.int (if b then 1 else 0))
  | .int, [.int i] => some (.int i)
  | .repr, [d] => if shwD d then some (.str (py d).shown.cps.toList) else none
  | .abs, [.int i] => some (.int (if i < 0 then -i else i))
  | .isi t, [d] => (isTy t d).map .bool
  | .min2, [.int i, .int j] => some (.int (if j < i then j else i))
  | .max2, [.int i, .int j] => some (.int (if j > i then j else i))
  | .min1, [.list (d :: ds)] => (intsD (d :: ds)).bind fun is => is.min?.map .int
  | .max1, [.list (d :: ds)] => (intsD (d :: ds)).bind fun is => is.max?.map .int
  | .sum, [.list ds] => (intsD ds).map fun is => .int is.sum
  | .revs, [.list x] => some (.list x.reverse)
  | .revs, [.str x] => if fitL x.length then some (.str x.reverse) else none
  | .trng, [d] => (rngD [d]).bind fun xs => if decide (xs.length ≤ 16777216) then some (.tuple xs) else none
  | .lrng, [d] => (rngD [d]).bind fun xs => if decide (xs.length ≤ 16777216) then some (.list xs) else none
  | .rep, [.list xs, .int k] => if decide (0 ≤ k) && decide (k < 2 ^ 63) && fitL (xs.length * k.toNat) then some (.list (List.replicate k.toNat xs).flatten) else none
  | .cat, [.list a, .list b] => if fitL (a.length + b.length) then some (.list (a ++ b)) else none
  | .list, [.str x] => if fitL x.length then some (.list (x.map fun c => .str [c])) else none
  | .dnew, [] => some (.dict [] [])
  | .len, [.dict ks _] => some (.int ks.length)
  | .sorted, [.dict ks _] => match intsD ks with
    | some ns => if decide (ns.length < 64) then some (.list ((isort ns).map .int)) else none
    | none => if ks.all tupK && sortable ks then some (.list (ks.mergeSort leD)) else none
  | .dpairs, [.list ps] => if fitL ps.length then ((pairsD ps).or (pairsT ps)).map fun kvs => .dict (putAll kvs [] []).1 (putAll kvs [] []).2 else none
  | _, _ => none
/-- methods that change nothing -/
inductive Me where
  | join | find | index | dget
  deriving DecidableEq, Inhabited
def joinN (a : List Nat) : List (List Nat) → List Nat
  | [] => []
  | [x] => x
  | x :: xs => x ++ a ++ joinN a xs
/-- the first place where one stands that is equal -/
def idxOfD (x : D) : List D → Option Nat
  | [] => none
  | d :: ds => if eqD d x then some 0 else (idxOfD x ds).map (· + 1)
def meD (m : Me) (o : D) (ds : List D) : Option D :=
  match m, o, ds with
  | .join, .str a, [.list x] => (strsD x).bind fun xs => if fitL ((xs.map (·.length)).sum + xs.length * a.length) then some (.str (joinN a xs)) else none
  | .index, .list x, [d] => if shp 60 d && shp 60 (.list x) && (py d).canLay0 && (py (.list x)).canLay0 then (idxOfD d x).map fun (k : Nat) => .int (k : Int) else none
  | .find, .str a, [.str b] => some (.int (Txt.find (mkS a) (mkS b)))
  | .dget, .dict ks vs, [k, x] => if isKey k && kfit ks k && plainD x then some ((dget ks vs k).getD x) else none
  | _, _, _ => none

def meTy : Me → D → Bool
  | .join, .str _ => true
  | .find, .str _ => true
  | .index, .list _ => true
  | .dget, .dict _ _ => true
  | _, _ => false

/-! ### syntax -/
inductive Tg where
  | nm (i : Nat)
  | tp (ts : List Tg)
  deriving Inhabited
mutual
def slots : Tg → List Nat
  | .nm i => [i]
  | .tp ts => slotss ts
def slotss : List Tg → List Nat
  | [] => []
  | t :: ts => slots t ++ slotss ts
end
mutual
inductive Ex where
  | var (i : Nat)
  | lit (d : D)
  | glo (x : Str) (d : D)
  | tup (es : List Ex)
  | lst (es : List Ex)
  | bin (op : Operator) (a b : Ex)
  | neg (a : Ex)
  | cmp (op : CmpOp) (a b : Ex)
  | cmp2 (op op' : CmpOp) (a b c : Ex)
  | and (a b : Ex)
  | or (a b : Ex)
  | not (a : Ex)
  | ife (c : Co) (a b : Ex)
  | idx (a i : Ex)
  | slc (a : Ex) (lo hi : Option Ex)
  | comp (ws : List Nat) (t : Tg) (rg : Bool) (it : List Ex) (c : List Co) (e : Ex)
  | call (f : Str) (es : List Ex)
  | bi (f : Bf) (es : List Ex)
  | me (m : Me) (o : Ex) (es : List Ex)
  | enm (a : Ex)
  | pop (i : Nat) (es : List Ex)
  | ddp (es : List Ex)
  | compL (ws : List Nat) (t : Tg) (i : Nat) (c : List Co) (e : Ex)
/- a test -/
inductive Co where
  | and (a b : Co)
  | or (a b : Co)
  | not (a : Co)
  | ife (c a b : Co)
  | ex (e : Ex)
end
instance : Inhabited Ex := ⟨.lit .none⟩
instance : Inhabited Co := ⟨.ex default⟩
inductive Sm where
  | asg (t : Tg) (e : Ex)
  | own (i : Nat) (e : Ex)
  | par (ts : List Nat) (es : List Ex)
  | setI (i : Nat) (k e : Ex)
  | app (i : Nat) (e : Ex)
  | ext (i : Nat) (e : Ex)
  | rvs (i : Nat)
  | ex (e : Ex)
  | ret (e : Ex)
  | retN
  | retF (e : Ex)
  | retO (i : Nat)
  | ite (c : Co) (a b : List Sm)
  | for (t : Tg) (rg : Bool) (it : List Ex) (b : List Sm)
  | forL (t : Tg) (i : Nat) (b : List Sm)
  | whl (c : Co) (b : List Sm)
  | brk
  | pass
  | never
  deriving Inhabited

/-! ### what is asked -/
def bnd {α : Type} (o : Option α) (k : α → Prop) : Prop := match o with
  | some a => k a
  | none => False
theorem bnd_some {α : Type} {a : α} {k : α → Prop} : bnd (some a) k = k a := rfl
theorem bnd_none {α : Type} {k : α → Prop} : bnd none k = False := rfl
theorem bnd_iff {α : Type} {o : Option α} {k : α → Prop} : bnd o k ↔ ∃ a, o = some a ∧ k a := by
  cases o with
  | none => simp [bnd]
  | some a => simp [bnd]
theorem bnd_of {α : Type} {o : Option α} {k : α → Prop} {a : α} (h : o = some a) (q : k a) : bnd o k := by rw [h]; exact q
theorem bnd_if {α : Type} {c : Prop} [Decidable c] {a : α} {k : α → Prop} : bnd (if c then some a else none) k ↔ c ∧ k a := by
  by_cases h : c
  · simp [h, bnd]
  · simp [h, bnd]
theorem bnd_map {α β : Type} {o : Option α} {f : α → β} {k : β → Prop} : bnd (o.map f) k = bnd o fun a => k (f a) := by cases o <;> rfl
theorem bnd_bind {α β : Type} {o : Option α} {f : α → Option β} {k : β → Prop} : bnd (o.bind f) k = bnd o fun a => bnd (f a) k := by cases o <;> rfl
def asB : D → Option Bool
  | .bool b => some b
  | _ => none
def asI : D → Option Int
  | .int b => some b
  | _ => none
def asT : D → Option (List D)
  | .tuple b => some b
  | _ => none
def asL : D → Option (List D)
  | .list b => some b
  | _ => none
abbrev PT := List D → (D → List D → Prop) → Prop
/-- a def of the program: which parameters are lists that it may change, what it does -/
structure Fn where
  io : List Bool
  pt : PT
  nw : Bool := false
abbrev Gm := Str → Option Fn
/-- a call's promise; simp does not look into what comes behind it -/
def callP (pt : PT) (xs : List D) (k : D → List D → Prop) : Prop := pt xs k
theorem callP_congr {pt pt' : PT} {xs xs' : List D} {k : D → List D → Prop} (h1 : pt = pt') (h2 : xs = xs') : callP pt xs k = callP pt' xs' k := by rw [h1, h2]
abbrev WP := Evn → (D → Evn → Prop) → Prop
abbrev WPC := Evn → (Bool → Evn → Prop) → Prop
abbrev WPs := Evn → (List D → Evn → Prop) → Prop
def srcD (rg : Bool) (ds : List D) : Option (List D) :=
  match rg, ds with
  | true, ds => rngD ds
  | false, [d] => itemsD d
  | _, _ => none
def enumD : D → Option D
  | .list xs => some (.list (xs.mapIdx fun i x => .tuple [.int (i : Int), x]))
  | .tuple xs => some (.list (xs.mapIdx fun i x => .tuple [.int (i : Int), x]))
  | _ => none
def freeze (ρ : Evn) (i : Nat) : Evn := match ρ[i]? with
  | some (.own d) => ρ.set i (.val d)
  | _ => ρ
/-- a name as a value: a list of the def's own stays as it is from here on -/
def rdv (ρ : Evn) (i : Nat) : Option (D × Evn) := match ρ[i]? with
  | some (.val d) => some (d, ρ)
  | some (.own d) => some (d, ρ.set i (.val d))
  | _ => none
mutual
def tgt : Tg → D → Evn → (Evn → Prop) → Prop
  | .nm i, d, ρ, Q => bnd (setv ρ i (.val d)) Q
  | .tp ts, d, ρ, Q => bnd (asT d) fun ds => tgts ts ds ρ Q
def tgts : List Tg → List D → Evn → (Evn → Prop) → Prop
  | [], ds, ρ, Q => ds = [] ∧ Q ρ
  | t :: ts, ds, ρ, Q => match ds with
    | d :: es => tgt t d ρ fun ρ' => tgts ts es ρ' Q
    | [] => False
end
/-- a comprehension's own names, forgotten -/
def wipeE (ρ : Evn) : List Nat → Evn
  | [] => ρ
  | v :: vs => (wipeE ρ vs).set v .no
def noOwn (ρ : Evn) (ws : List Nat) : Bool := ws.all fun i => (getc ρ i).isNone
/-- back from the block: the own names are as they were -/
def backE (ρ ρ' : Evn) : List Nat → Evn
  | [] => ρ'
  | v :: vs => match ρ[v]? with
    | some x => (backE ρ ρ' vs).set v x
    | none => backE ρ ρ' vs
/-- the turns of a comprehension -/
def turns (t : Tg) (c : WPC) (e : WP) (ws : List Nat) : List D → List D → Evn → (List D → Evn → Prop) → Prop
  | [], acc, ρ, Q => Q acc ρ
  | d :: ds, acc, ρ, Q => tgt t d ρ fun ρ1 => c ρ1 fun b ρ2 =>
    if b = true then e ρ2 fun y ρ3 => acc.length < sizeLine ∧ turns t c e ws ds (acc ++ [y]) (wipeE ρ3 ws) Q
    else turns t c e ws ds acc (wipeE ρ2 ws) Q
/-- a list of the def's own, or one that it may change, gone over as it stands: the slot, what is in it -/
def lkS (ρ : Evn) (i : Nat) : Option (Sl × List D) := match ρ[i]? with
  | some (.own (.list xs)) => some (.own (.list xs), xs)
  | some (.io (.list xs)) => some (.io (.list xs), xs)
  | _ => none
/-- the arguments of a def: data for each parameter; where it may change the list, the place -/
def argsIo : List Bool → List Ex → Option (List (Option Nat))
  | [], [] => some []
  | true :: io, .var i :: es => (argsIo io es).map (some i :: ·)
  | false :: io, _ :: es => (argsIo io es).map (none :: ·)
  | _, _ => none
/-- the places that come back -/
def outsE : List (Option Nat) → List D → Evn → Option Evn
  | [], [], ρ => some ρ
  | none :: ps, ds, ρ => outsE ps ds ρ
  | some i :: ps, d :: ds, ρ => (setc ρ i d).bind fun ρ' => outsE ps ds ρ'
  | _, _, _ => none
def peekC (ρ : Evn) : List (Option Nat) → List D → Option (List D)
  | [], [] => some []
  | none :: ps, d :: ds => (peekC ρ ps ds).map (d :: ·)
  | some i :: ps, _ :: ds => (getc ρ i).bind fun d => (peekC ρ ps ds).map (d :: ·)
  | _, _ => none
def ioOk (ρ : Evn) (ps : List (Option Nat)) : Bool := ps.all fun p => match p with
  | some j => (getc ρ j).isSome
  | none => true
def nodupP (ps : List (Option Nat)) : Bool := decide ((ps.filterMap id).Nodup)
/-- an operand: a name's list may be one of the def's own; it is looked at when all operands are there -/
def opd (x : Ex) (w : WP) (ρ : Evn) (K : (Evn → Option D) → Evn → Prop) : Prop :=
  match x with
  | .var i => bnd (pk ρ i) fun _ => K (fun ρ' => pk ρ' i) ρ
  | _ => w ρ fun d ρ1 => K (fun _ => some d) ρ1
mutual
def wp (Γ : Gm) : Ex → WP
  | .var i, ρ, P => bnd (rdv ρ i) fun q => P q.1 q.2
  | .lit d, ρ, P => P d ρ
  | .glo _ d, ρ, P => P d ρ
  | .tup es, ρ, P => wps Γ es ρ fun ds ρ' => fitL ds.length = true ∧ P (.tuple ds) ρ'
  | .lst es, ρ, P => wps Γ es ρ fun ds ρ' => fitL ds.length = true ∧ P (.list ds) ρ'
  | .bin op a b, ρ, P => opd a (wp Γ a) ρ fun r ρ1 => opd b (wp Γ b) ρ1 fun r' ρ2 => bnd (r ρ2) fun x => bnd (r' ρ2) fun y => bnd (binD op x y) fun z => P z ρ2
  | .neg a, ρ, P => wp Γ a ρ fun d ρ' => bnd (asI d) fun i => P (.int (-i)) ρ'
  | .cmp op a b, ρ, P => opd a (wp Γ a) ρ fun r ρ1 => opd b (wp Γ b) ρ1 fun r' ρ2 => bnd (r ρ2) fun x => bnd (r' ρ2) fun y => bnd (cmpD op x y) fun z => P (.bool z) ρ2
  | .cmp2 op op' a b c, ρ, P => wp Γ a ρ fun x ρ1 => wp Γ b ρ1 fun y ρ2 => bnd (cmpD op x y) fun z =>
      if z = true then wp Γ c ρ2 fun u ρ3 => bnd (cmpD op' y u) fun z' => P (.bool z') ρ3 else P (.bool false) ρ2
  | .and a b, ρ, P => wp Γ a ρ fun d ρ' => bnd (asB d) fun t => if t = true then wp Γ b ρ' P else P (.bool false) ρ'
  | .or a b, ρ, P => wp Γ a ρ fun d ρ' => bnd (asB d) fun t => if t = true then P (.bool true) ρ' else wp Γ b ρ' P
  | .not a, ρ, P => wp Γ a ρ fun d ρ' => bnd (asB d) fun t => P (.bool (!t)) ρ'
  | .ife c a b, ρ, P => wpc Γ c ρ fun t ρ' => if t = true then wp Γ a ρ' P else wp Γ b ρ' P
  | .idx a i, ρ, P => opd a (wp Γ a) ρ fun r ρ1 => opd i (wp Γ i) ρ1 fun r' ρ2 => bnd (r ρ2) fun x => bnd (r' ρ2) fun y => bnd (idxD x y) fun z => P z ρ2
  | .slc a lo hi, ρ, P => opd a (wp Γ a) ρ fun r ρ1 => wpp Γ lo ρ1 fun l ρ2 => wpp Γ hi ρ2 fun h ρ3 => bnd (r ρ3) fun x => bnd (slcD x l h) fun z => P z ρ3
  | .comp ws t rg it c e, ρ, P => wps Γ it ρ fun ds ρ1 => bnd (srcD rg ds) fun xs => noOwn ρ1 ws = true ∧
      turns t (wpcs Γ c) (wp Γ e) ws xs [] (wipeE ρ1 ws) fun acc ρ2 => P (.list acc) (backE ρ1 ρ2 ws)
  | .compL ws t i c e, ρ, P => match lkS ρ i with
    | some q => ws.contains i = false ∧ noOwn (ρ.set i .no) ws = true ∧ turns t (wpcs Γ c) (wp Γ e) ws q.2 [] (wipeE (ρ.set i .no) ws) fun acc ρ2 => P (.list acc) ((backE (ρ.set i .no) ρ2 ws).set i q.1)
    | none => bnd (rdv ρ i) fun q => bnd (srcD false [q.1]) fun xs => noOwn q.2 ws = true ∧ turns t (wpcs Γ c) (wp Γ e) ws xs [] (wipeE q.2 ws) fun acc ρ2 => P (.list acc) (backE q.2 ρ2 ws)
  | .call f es, ρ, P => bnd (Γ f) fun F => bnd (argsIo F.io es) fun ps => nodupP ps = true ∧ ioOk ρ ps = true ∧ wpa Γ ps es ρ fun ds ρ' => bnd (peekC ρ' ps ds) fun xs =>
      callP F.pt xs fun d outs => bnd (outsE ps outs ρ') fun ρ2 => P d ρ2
  | .bi f es, ρ, P => wpo Γ es ρ fun ds ρ' => bnd (biD f ds) fun z => P z ρ'
  | .enm a, ρ, P => wp Γ a ρ fun d ρ' => bnd (enumD d) fun z => P z ρ'
  | .pop i es, ρ, P => bnd ((getc ρ i).bind asL) fun _ => wpo Γ es ρ fun xs ρ1 => bnd ((getc ρ1 i).bind asL) fun ds => bnd (popD ds xs) fun q => bnd (setc ρ1 i (.list q.2)) fun ρ2 => P q.1 ρ2
  | .ddp es, ρ, P => wps Γ es ρ fun ds ρ' => bnd (ddpD ds) fun z => P z ρ'
  | .me m o es, ρ, P => opd o (wp Γ o) ρ fun r ρ1 => bnd (r ρ1) fun d1 => meTy m d1 = true ∧ wpo Γ es ρ1 fun ds ρ' => bnd (r ρ') fun x => bnd (meD m x ds) fun z => P z ρ'
/- operands -/
def wpo (Γ : Gm) : List Ex → WPs
  | [], ρ, P => P [] ρ
  | e :: es, ρ, P => opd e (wp Γ e) ρ fun r ρ1 => wpo Γ es ρ1 fun ds ρ2 => bnd (r ρ2) fun d => P (d :: ds) ρ2
/- values -/
def wps (Γ : Gm) : List Ex → WPs
  | [], ρ, P => P [] ρ
  | e :: es, ρ, P => wp Γ e ρ fun d ρ1 => wps Γ es ρ1 fun ds ρ2 => P (d :: ds) ρ2
/- a def's arguments -/
def wpa (Γ : Gm) : List (Option Nat) → List Ex → WPs
  | ps, [], ρ, P => ps = [] ∧ P [] ρ
  | ps, e :: es, ρ, P => match ps with
    | some _ :: ps => wpa Γ ps es ρ fun ds ρ2 => P (.none :: ds) ρ2
    | none :: ps => wp Γ e ρ fun d ρ1 => wpa Γ ps es ρ1 fun ds ρ2 => P (d :: ds) ρ2
    | [] => False
/- a part of a slice -/
def wpp (Γ : Gm) : Option Ex → Evn → (Option Int → Evn → Prop) → Prop
  | none, ρ, P => P none ρ
  | some e, ρ, P => wp Γ e ρ fun d ρ' => bnd (asI d) fun i => P (some i) ρ'
/- a test -/
def wpc (Γ : Gm) : Co → WPC
  | .and a b, ρ, P => wpc Γ a ρ fun t ρ' => if t = true then wpc Γ b ρ' P else P false ρ'
  | .or a b, ρ, P => wpc Γ a ρ fun t ρ' => if t = true then P true ρ' else wpc Γ b ρ' P
  | .not a, ρ, P => wpc Γ a ρ fun t ρ' => P (!t) ρ'
  | .ife c a b, ρ, P => wpc Γ c ρ fun t ρ' => if t = true then wpc Γ a ρ' P else wpc Γ b ρ' P
  | .ex e, ρ, P => opd e (wp Γ e) ρ fun r ρ' => bnd (r ρ') fun d => bnd (truD d) fun t => P t ρ'
def wpcs (Γ : Gm) : List Co → WPC
  | [], ρ, P => P true ρ
  | c :: cs, ρ, P => cs = [] ∧ wpc Γ c ρ P
end
structure Nd where
  nx : Evn → Prop
  rt : D → Evn → Prop
  bk : Evn → Prop := fun _ => False
  rn : D → Evn → Prop := fun _ _ => False
/-- the turns of a for -/
def forW (t : Tg) (b : Nd → Evn → Prop) (E : Nd) : List D → Evn → Prop
  | [], ρ => E.nx ρ
  | d :: ds, ρ => tgt t d ρ fun ρ1 => b { nx := fun ρ2 => forW t b E ds ρ2, rt := E.rt, bk := E.nx, rn := E.rn } ρ1
/-- the turns over a list that may be changed, but is not -/
def forLW (t : Tg) (i : Nat) (s : D) (b : Nd → Evn → Prop) (E : Nd) : List D → Evn → Prop
  | [], ρ => ρ[i]? = some (.io s) ∧ E.nx ρ
  | d :: ds, ρ => ρ[i]? = some (.io s) ∧ tgt t d ρ fun ρ1 => b { nx := fun ρ2 => forLW t i s b E ds ρ2, rt := E.rt, bk := E.nx, rn := E.rn } ρ1
def ioL (ρ : Evn) (i : Nat) : Option (List D) := match ρ[i]? with
  | some (.io (.list xs)) => some xs
  | _ => none
def whlW (c : WPC) (b : Nd → Evn → Prop) (E : Nd) : Nat → Evn → Prop
  | 0, _ => False
  | n + 1, ρ => c ρ fun t ρ1 => if t = true then b { nx := fun ρ2 => whlW c b E n ρ2, rt := E.rt, bk := E.nx, rn := E.rn } ρ1 else E.nx ρ1
def setvs : List Nat → List D → Evn → Option Evn
  | [], [], ρ => some ρ
  | i :: is, d :: ds, ρ => (setv ρ i (.val d)).bind fun ρ' => setvs is ds ρ'
  | _, _, _ => none
/-- a list of the def's own -/
def ownD (ρ : Evn) (i : Nat) : Option D := match ρ[i]? with
  | some (.own d) => some d
  | _ => none
mutual
def wpS (Γ : Gm) : Sm → Nd → Evn → Prop
  | .asg t e, E, ρ => wp Γ e ρ fun d ρ1 => tgt t d ρ1 E.nx
  | .own i e, E, ρ => wp Γ e ρ fun d ρ1 => bnd (setv ρ1 i (.own d)) E.nx
  | .par ts es, E, ρ => wps Γ es ρ fun ds ρ1 => fitL ds.length = true ∧ bnd (setvs ts ds ρ1) E.nx
  | .setI i k e, E, ρ => match getc ρ i with
    | some (.dict _ _) => wp Γ e ρ fun d ρ1 => bnd ((getc ρ1 i).bind asDi) fun _ => wp Γ k ρ1 fun x ρ2 => bnd ((getc ρ2 i).bind asDi) fun kv => isKey x = true ∧ kfit kv.1 x = true ∧ kv.1.length < sizeLine ∧ bnd (setc ρ2 i (.dict (dputK kv.1 x) (dputV kv.1 kv.2 x d))) E.nx
    | _ => wp Γ e ρ fun d ρ1 => bnd ((getc ρ1 i).bind asL) fun _ => wp Γ k ρ1 fun x ρ2 => bnd ((getc ρ2 i).bind asL) fun ds => bnd (asI x) fun j => (0 ≤ j ∧ j < ds.length) ∧ bnd (setc ρ2 i (.list (ds.set j.toNat d))) E.nx
  | .app i e, E, ρ => bnd ((getc ρ i).bind asL) fun _ => wp Γ e ρ fun d ρ1 => bnd ((getc ρ1 i).bind asL) fun ds => ds.length < sizeLine ∧ bnd (setc ρ1 i (.list (ds ++ [d]))) E.nx
  | .ext i e, E, ρ => bnd ((getc ρ i).bind asL) fun _ => opd e (wp Γ e) ρ fun r ρ1 => bnd ((getc ρ1 i).bind asL) fun ds => bnd ((r ρ1).bind asLT) fun es => fitL (ds.length + es.length) = true ∧ bnd (setc ρ1 i (.list (ds ++ es))) E.nx
  | .rvs i, E, ρ => bnd ((getc ρ i).bind asL) fun ds => bnd (setc ρ i (.list ds.reverse)) E.nx
  | .ex e, E, ρ => wp Γ e ρ fun _ ρ1 => E.nx ρ1
  | .ret e, E, ρ => wp Γ e ρ E.rt
  | .retN, E, ρ => E.rt .none ρ
  | .retF e, E, ρ => wp Γ e ρ E.rn
  | .retO i, E, ρ => bnd (ownD ρ i) fun d => E.rn d (ρ.set i .no)
  | .ite c a b, E, ρ => wpc Γ c ρ fun t ρ1 => if t = true then wpB Γ a E ρ1 else wpB Γ b E ρ1
  | .for t rg it b, E, ρ => wps Γ it ρ fun ds ρ1 => bnd (srcD rg ds) fun xs => forW t (wpB Γ b) E xs ρ1
  | .forL t i b, E, ρ => match ioL ρ i with
    | some xs => forLW t i (.list xs) (wpB Γ b) E xs ρ
    | none => bnd (rdv ρ i) fun q => bnd (srcD false [q.1]) fun xs => forW t (wpB Γ b) E xs q.2
  | .whl c b, E, ρ => ∃ n, whlW (wpc Γ c) (wpB Γ b) E n ρ
  | .brk, E, ρ => E.bk ρ
  | .pass, E, ρ => E.nx ρ
  | .never, _, _ => False
def wpB (Γ : Gm) : List Sm → Nd → Evn → Prop
  | [], E, ρ => E.nx ρ
  | s :: ss, E, ρ => wpS Γ s { E with nx := wpB Γ ss E } ρ
end
/-- the contents that a def gives back -/
def outsO : List Bool → Evn → Option (List D)
  | [], _ => some []
  | false :: io, ρ => outsO io ρ.tail
  | true :: io, ρ => match ρ with
    | .io d :: ρ => (outsO io ρ).map (d :: ·)
    | _ => none
/-- the slots at a def's start -/
def ev0 (io : List Bool) (n : Nat) (ds : List D) : Evn := (List.zipWith (fun b d => if b = true then Sl.io d else Sl.val d) io ds) ++ List.replicate (n - ds.length) .no
def wpF (Γ : Gm) (io : List Bool) (n : Nat) (b : List Sm) (ds : List D) (Q : D → List D → Prop) : Prop :=
  wpB Γ b { nx := fun ρ => bnd (outsO io ρ) (Q .none), rt := fun d ρ => bnd (outsO io ρ) (Q d) } (ev0 io n ds)
/-- a def that gives a new list each time -/
def wpN (Γ : Gm) (io : List Bool) (n : Nat) (b : List Sm) (ds : List D) (Q : D → List D → Prop) : Prop :=
  wpB Γ b { nx := fun _ => False, rt := fun _ _ => False, rn := fun d ρ => bnd (outsO io ρ) (Q d) } (ev0 io n ds)
def wpD (nw : Bool) (Γ : Gm) (io : List Bool) (n : Nat) (b : List Sm) : PT := if nw = true then wpN Γ io n b else wpF Γ io n b
end MW

set_option Elab.async false
set_option linter.all false
set_option maxRecDepth 100000
/-! MWN: keys that are tuples; what a dict answers, by whichever keys -/
namespace MW
open PySem PySem.Spec PyProof.Rows L2
theorem mkS_inj {x y : List Nat} (h : mkS x = mkS y) : x = y := by rw [← cps_mkS x, ← cps_mkS y, h]
/-! ### keys as the library's keys -/
mutual
theorem eqD_nk : ∀ (x y : D) (n m : Nat), hsh n x = true → hsh m y = true → eqD x y = NestedKey.beq (nk x) (nk y)
  | .none, y, n, m, _, h => by cases y <;> first | (cases m <;> simp [hsh] at h; done) | simp [eqD, nk, NestedKey.beq]
  | .bool a, y, n, m, _, h => by
    cases y <;> first | (cases m <;> simp [hsh] at h; done) | skip
    all_goals first | (simp [eqD, nk, NestedKey.beq]; done) | skip
    · rename_i b; cases a <;> cases b <;> simp [eqD, nk, NestedKey.beq]
    · rename_i j; cases a <;> simp [eqD, nk, NestedKey.beq] <;> rfl
  | .int i, y, n, m, _, h => by
    cases y <;> first | (cases m <;> simp [hsh] at h; done) | skip
    all_goals first | (simp [eqD, nk, NestedKey.beq]; done) | skip
    all_goals first | (rename_i b; cases b <;> simp [eqD, nk, NestedKey.beq] <;> rfl) | rfl
  | .str a, y, n, m, _, h => by
    cases y <;> first | (cases m <;> simp [hsh] at h; done) | skip
    all_goals first | (simp [eqD, nk, NestedKey.beq]; done) | skip
    all_goals
      rename_i b
      simp only [eqD, nk, NestedKey.beq]
      by_cases e : a = b
      · subst e; simp
      · have e2 : mkS a ≠ mkS b := fun z => e (mkS_inj z)
        rw [decide_eq_false e2, beq_eq_false_iff_ne.mpr e]
  | .tuple xs, y, n, m, h1, h => by
    cases y <;> first | (cases m <;> simp [hsh] at h; done) | skip
    all_goals first | (simp [eqD, nk, NestedKey.beq]; done) | skip
    all_goals
      rename_i ys
      cases n with
      | zero => simp [hsh] at h1
      | succ n =>
        cases m with
        | zero => simp [hsh] at h
        | succ m =>
          simp only [eqD, nk, NestedKey.beq]
          exact eqDs_nk xs ys n m (by simpa [hsh] using h1) (by simpa [hsh] using h)
  | .list _, y, n, m, h1, _ => by cases n <;> simp [hsh] at h1
  | .dict _ _, y, n, m, h1, _ => by cases n <;> simp [hsh] at h1
theorem eqDs_nk : ∀ (xs ys : List D) (n m : Nat), (∀ x ∈ xs, hsh n x = true) → (∀ y ∈ ys, hsh m y = true) → eqDs xs ys = NestedKey.beqAll (nks xs) (nks ys)
  | [], [], _, _, _, _ => by simp [eqDs, nks, NestedKey.beqAll]
  | [], _ :: _, _, _, _, _ => by simp [eqDs, nks, NestedKey.beqAll]
  | _ :: _, [], _, _, _, _ => by simp [eqDs, nks, NestedKey.beqAll]
  | x :: xs, y :: ys, n, m, h1, h2 => by
    simp only [eqDs, nks, NestedKey.beqAll]
    rw [eqD_nk x y n m (h1 x List.mem_cons_self) (h2 y List.mem_cons_self), eqDs_nk xs ys n m (fun z hz => h1 z (List.mem_cons_of_mem _ hz)) (fun z hz => h2 z (List.mem_cons_of_mem _ hz))]
end
mutual
theorem nk_depth : ∀ (x : D) (n : Nat), hsh n x = true → (nk x).depth ≤ n
  | .none, _, _ => by simp [nk, NestedKey.depth]
  | .bool _, _, _ => by simp [nk, NestedKey.depth]
  | .int _, _, _ => by simp [nk, NestedKey.depth]
  | .str _, _, _ => by simp [nk, NestedKey.depth]
  | .list _, _, _ => by simp [nk, NestedKey.depth]
  | .dict _ _, _, _ => by simp [nk, NestedKey.depth]
  | .tuple xs, n, h => by
    cases n with
    | zero => simp [hsh] at h
    | succ n =>
      simp only [nk, NestedKey.depth]
      have := nks_depth xs n (by simpa [hsh] using h)
      omega
theorem nks_depth : ∀ (xs : List D) (n : Nat), (∀ x ∈ xs, hsh n x = true) → NestedKey.depthAll (nks xs) ≤ n
  | [], _, _ => by simp [nks, NestedKey.depthAll]
  | x :: xs, n, h => by
    simp only [nks, NestedKey.depthAll]
    have h1 := nk_depth x n (h x List.mem_cons_self)
    have h2 := nks_depth xs n fun z hz => h z (List.mem_cons_of_mem _ hz)
    omega
end
theorem nks_map : ∀ ds : List D, nks ds = ds.map nk
  | [] => rfl
  | d :: ds => by rw [nks, nks_map ds]; rfl
section
variable {X : Cx} {pins : List (Addr × Obj)} {s : Shared} {σ : Stt} {H : Hp} {O : AS}
mutual
theorem Rp.nested (I : Inv X pins σ H s) : ∀ (d : D) (n : Nat) {v : V} {u : Value}, Rp X.fg H O v d → hsh n d = true → RelV v u → NestedIs s.heap (nk d) u
  | .none, _, _, _, r, _, ru => by
    cases r
    cases (show _ = Value.none from ru)
    rw [nk]; exact .none
  | .bool b, _, _, _, r, _, ru => by
    cases r
    cases (show _ = Value.bool b from ru)
    rw [nk]; exact .bool rfl
  | .int i, _, _, _, r, _, ru => by
    cases r
    obtain ⟨t, rfl⟩ := ru
    rw [nk]; exact .int i t
  | .str x, _, _, _, r, _, ru => by
    have e := Opd.str (.inl r)
    subst e
    obtain ⟨t, rfl⟩ := ru
    rw [nk]; exact .text _ t
  | .tuple ds, n, _, _, r, h, ru => by
    cases n with
    | zero => simp [hsh] at h
    | succ n =>
      cases r with
      | tuple q t =>
        rename_i a vs
        cases (show _ = Value.ref a from ru)
        obtain ⟨its, rv, ⟨o, ho, hc, m, hd⟩, _⟩ := I.tuple q
        rw [nk]
        exact .tup ho hc hd (Rps.nested I ds n t (by simpa [hsh] using h) (by simpa using rv))
  | .list _, n, _, _, _, h, _ => by cases n <;> simp [hsh] at h
  | .dict _ _, n, _, _, _, h, _ => by cases n <;> simp [hsh] at h
theorem Rps.nested (I : Inv X pins σ H s) : ∀ (ds : List D) (n : Nat) {vs : List V} {us : List Value}, Rps X.fg H O vs ds → (∀ d ∈ ds, hsh n d = true) → Vals vs us → NestedAll s.heap (nks ds) us
  | [], _, _, _, r, _, ru => by
    cases r; cases ru
    rw [nks]; exact .nil
  | d :: ds, n, _, _, r, h, ru => by
    cases r with
    | cons r1 t =>
      cases ru with
      | cons u1 u2 =>
        rw [nks]
        exact .cons (Rp.nested I d n r1 (h d List.mem_cons_self) u1) (Rps.nested I ds n t (fun z hz => h z (List.mem_cons_of_mem _ hz)) u2)
end
end
/-! ### dicts by tuples -/
abbrev NE := NestedKey × Addr × V
def valN (kvs : List NE) (k : NestedKey) : Option V := (kvs.find? fun p => decide (p.1 = k)).map (·.2.2)
abbrev NR : List NE → List (NestedKey × Addr × Value) → Prop := Paired fun p q => p.1 = q.1 ∧ p.2.1 = q.2.1 ∧ RelV p.2.2 q.2.2
theorem valN_pos {p : NE} {kvs : List NE} {k : NestedKey} (e : p.1 = k) : valN (p :: kvs) k = some p.2.2 := by simp [valN, List.find?_cons, e]
theorem valN_neg {p : NE} {kvs : List NE} {k : NestedKey} (e : ¬ p.1 = k) : valN (p :: kvs) k = valN kvs k := by simp [valN, List.find?_cons, e]
theorem NR.val {kvs : List NE} {xs : List (NestedKey × Addr × Value)} (r : NR kvs xs) (k : NestedKey) : RelO (valN kvs k) ((atKey xs k).map (·.2)) := by
  induction r with
  | nil => exact True.intro
  | @cons p q ps qs h t ih =>
    obtain ⟨h1, _, h2⟩ := h
    by_cases e : p.1 = k
    · have b : atKey (q :: qs) k = some q.2 := by simp [atKey, List.find?_cons, h1.symm.trans e]
      rw [valN_pos e, b]; exact h2
    · have e' : ¬ q.1 = k := fun z => e (h1.trans z)
      have b : atKey (q :: qs) k = atKey qs k := by simp [atKey, List.find?_cons, e']
      rw [valN_neg e, b]; exact ih
theorem valN_any (k : NestedKey) : ∀ kvs : List NE, (kvs.any fun p => decide (p.1 = k)) = (valN kvs k).isSome
  | [] => rfl
  | p :: r => by
    rw [List.any_cons]
    by_cases e : p.1 = k
    · rw [valN_pos e]; simp [e]
    · rw [valN_neg e, ← valN_any k r]; simp [e]
def putN (kvs : List NE) (k : NestedKey) (b : Addr) (v : V) : List NE := if kvs.any (fun p => decide (p.1 = k)) then kvs.map (fun p => if p.1 = k then (p.1, p.2.1, v) else p) else kvs ++ [(k, b, v)]
theorem NR.put {kvs : List NE} {xs : List (NestedKey × Addr × Value)} (r : NR kvs xs) (k : NestedKey) (b : Addr) {y : V} {u : Value} (ry : RelV y u) : NR (putN kvs k b y) (storedH xs k b u) := by
  have e : (kvs.any fun p => decide (p.1 = k)) = (atKey xs k).isSome := by rw [valN_any, (r.val k).isSome_eq, Option.isSome_map]
  unfold putN storedH
  rw [e]
  by_cases q : (atKey xs k).isSome = true
  · rw [if_pos q, if_pos q]
    clear e q
    induction r with
    | nil => exact .nil
    | @cons p q ps qs h t ih =>
      rw [List.map_cons, List.map_cons]
      refine .cons ?_ ih
      obtain ⟨h1, h2, h3⟩ := h
      unfold putAt
      by_cases e : p.1 = k
      · rw [if_pos e, if_pos (h1.symm.trans e)]; exact ⟨h1, h2, ry⟩
      · rw [if_neg e, if_neg (fun z => e (h1.trans z))]; exact ⟨h1, h2, h3⟩
  · rw [if_neg q, if_neg q]; exact Paired.snoc r ⟨rfl, rfl, ry⟩
theorem tupK_hsh {d : D} (h : tupK d = true) : ∃ ds, d = .tuple ds ∧ hsh 8 d = true := by
  cases d <;> first | (simp [tupK] at h; done) | skip
  exact ⟨_, rfl, h⟩
theorem isKey_tup {d : D} (h : isKey d = true) (t : isTup d = true) : tupK d = true := by
  cases d <;> first | (simp [isTup] at t; done) | exact h
theorem eqK_nk {x y : D} (hx : tupK x = true) (hy : tupK y = true) : eqK x y = decide (nk x = nk y) := by
  obtain ⟨xs, rfl, h1⟩ := tupK_hsh hx
  obtain ⟨ys, rfl, h2⟩ := tupK_hsh hy
  rw [NestedKey.decide_eq, ← eqD_nk _ _ 8 8 h1 h2]
  simp [eqK, eqD]
theorem keys_cons {p : NE} {kvs : List NE} {k : D} {ks : List D} (e : (p :: kvs).map (·.1) = (k :: ks).map nk) : p.1 = nk k ∧ kvs.map (·.1) = ks.map nk := by
  simpa using e
theorem anyN {x : D} (hx : tupK x = true) : ∀ {ks : List D} {kvs : List NE}, kvs.map (·.1) = ks.map nk → ks.all tupK = true → (ks.any fun k => eqK k x) = kvs.any fun p => decide (p.1 = nk x)
  | [], [], _, _ => rfl
  | [], _ :: _, e, _ => by simp at e
  | _ :: _, [], e, _ => by simp at e
  | k :: ks, p :: kvs, e, t => by
    obtain ⟨e1, e2⟩ := keys_cons e
    rw [List.all_cons, Bool.and_eq_true] at t
    rw [List.any_cons, List.any_cons, anyN hx e2 t.2, eqK_nk t.1 hx, e1]
theorem dgetN {K : Fg} {H : Hp} {O : AS} {x : D} (hx : tupK x = true) : ∀ {ks vs : List D} {kvs : List NE}, kvs.map (·.1) = ks.map nk → ks.all tupK = true → Rps K H O (kvs.map (·.2.2)) vs → ∀ d, dget ks vs x = some d → ∃ v, valN kvs (nk x) = some v ∧ Rp K H O v d
  | [], _, [], _, _, _, d, h => by simp [dget] at h
  | [], _, _ :: _, e, _, _, _, _ => by simp at e
  | _ :: _, _, [], e, _, _, _, _ => by simp at e
  | k :: ks, _, p :: kvs, e, t, r, d, h => by
    obtain ⟨e1, e2⟩ := keys_cons e
    rw [List.all_cons, Bool.and_eq_true] at t
    cases r with
    | cons r1 r2 =>
      simp only [dget, eqK_nk t.1 hx, decide_eq_true_eq] at h
      by_cases q : nk k = nk x
      · rw [if_pos q] at h; cases h
        exact ⟨_, valN_pos (e1.trans q), r1⟩
      · rw [if_neg q] at h
        rw [valN_neg (fun z => q (e1.symm.trans z))]
        exact dgetN hx e2 t.2 r2 d h
theorem dsetN {K : Fg} {H : Hp} {O : AS} {x : D} (hx : tupK x = true) {v : V} {d : D} (rv : Rp K H O v d) : ∀ {ks vs : List D} {kvs : List NE}, kvs.map (·.1) = ks.map nk → ks.all tupK = true → Rps K H O (kvs.map (·.2.2)) vs →
    Rps K H O ((kvs.map fun p => if p.1 = nk x then (p.1, p.2.1, v) else p).map (·.2.2)) (dset ks vs x d)
  | [], _, [], _, _, r => by cases r; exact .nil
  | [], _, _ :: _, e, _, _ => by simp at e
  | _ :: _, _, [], e, _, _ => by simp at e
  | k :: ks, _, p :: kvs, e, t, r => by
    obtain ⟨e1, e2⟩ := keys_cons e
    rw [List.all_cons, Bool.and_eq_true] at t
    cases r with
    | cons r1 r2 =>
      simp only [List.map_cons, dset, eqK_nk t.1 hx, decide_eq_true_eq]
      by_cases q : nk k = nk x
      · rw [if_pos q, if_pos (e1.trans q)]; exact .cons rv (dsetN hx rv e2 t.2 r2)
      · rw [if_neg q, if_neg (fun z => q (e1.symm.trans z))]; exact .cons r1 (dsetN hx rv e2 t.2 r2)
/-- a tuple-keyed dict with one thing put in -/
theorem putN_all {K : Fg} {H : Hp} {O : AS} {x : D} (hx : tupK x = true) {b : Addr} (rx : Rp K H O (.ref b) x) {v : V} {d : D} (rv : Rp K H O v d) {ks vs : List D} {kvs : List NE} (e : kvs.map (·.1) = ks.map nk) (t : ks.all tupK = true)
    (q : Rps K H O (kvs.map fun p => .ref p.2.1) ks) (r : Rps K H O (kvs.map (·.2.2)) vs) :
    (putN kvs (nk x) b v).map (·.1) = (dputK ks x).map nk ∧ (dputK ks x).all tupK = true ∧ Rps K H O ((putN kvs (nk x) b v).map fun p => .ref p.2.1) (dputK ks x) ∧ Rps K H O ((putN kvs (nk x) b v).map (·.2.2)) (dputV ks vs x d) := by
  unfold dputK dputV putN
  rw [anyN hx e t]
  by_cases h : (kvs.any fun p => decide (p.1 = nk x)) = true
  · rw [if_pos h, if_pos h, if_pos h]
    refine ⟨?_, t, ?_, dsetN hx rv e t r⟩
    · rw [← e, List.map_map]
      apply List.map_congr_left
      intro p _
      show (if p.1 = nk x then (p.1, p.2.1, v) else p).1 = p.1
      split <;> rfl
    · rw [List.map_map]
      have : (kvs.map ((fun p : NE => V.ref p.2.1) ∘ fun p => if p.1 = nk x then (p.1, p.2.1, v) else p)) = kvs.map fun p => V.ref p.2.1 := by
        apply List.map_congr_left
        intro p _
        show V.ref (if p.1 = nk x then (p.1, p.2.1, v) else p).2.1 = V.ref p.2.1
        split <;> rfl
      rw [this]; exact q
  · rw [if_neg h, if_neg h, if_neg h, List.map_append, List.map_append, List.map_append, List.map_append, List.all_append]
    exact ⟨by rw [e]; rfl, by rw [t]; simp [hx], q.append (.cons rx .nil), r.append (.cons rv .nil)⟩
theorem putN_len (kvs : List NE) (k : NestedKey) (b : Addr) (v : V) : (putN kvs k b v).length ≤ kvs.length + 1 := by
  unfold putN
  split
  · rw [List.length_map]; omega
  · rw [List.length_append]; simp
end MW

set_option Elab.async false
set_option linter.all false
set_option maxRecDepth 100000
/-! MW3: the operations of the model do what those on data say -/
namespace MW
open PySem PySem.Spec PyProof.Rows L2

/-- the answer z stands for d; nothing that is tracked has changed -/
def Nw (K : Fg) (H : Hp) (O : AS) (z : V) (d : D) (H' : Hp) : Prop := (∀ b o, H b = some o → H' b = some o) ∧ Rp K H' O z d
section
variable {K : Fg} {H : Hp} {O : AS}
theorem Nw.same {z : V} {d : D} (r : Rp K H O z d) : Nw K H O z d H := ⟨fun _ _ h => h, r⟩
theorem Nw.tup {p : Addr} {vs : List V} {ds : List D} (m : Muts H O) (n : H p = none) (r : Rps K H O vs ds) : Nw K H O (.ref p) (.tuple ds) (upd H p (.tup vs)) :=
  ⟨fun b o h => by rw [upd_ne (ne_of_none h n)]; exact h, .tuple (.inl (.inl upd_same)) (r.go (Go.laid n) m)⟩
theorem Nw.lst {p : Addr} {vs : List V} {ds : List D} (m : Muts H O) (n : H p = none) (r : Rps K H O vs ds) : Nw K H O (.ref p) (.list ds) (upd H p (.lst vs)) :=
  ⟨fun b o h => by rw [upd_ne (ne_of_none h n)]; exact h, .list upd_same (m.non n) (r.go (Go.laid n) m)⟩
theorem sIxD_eq (n d : Nat) : ∀ o : Option Int, sIxD n d o = HT.sIx n d o
  | none => rfl
  | some _ => rfl
theorem cutD_V (vs : List V) (lo hi : Option Int) : cutD vs lo hi = cutV vs lo hi := by
  unfold cutD cutV; rw [sIxD_eq, sIxD_eq]
theorem Rps.cut {vs : List V} {ds : List D} (lo hi : Option Int) (r : Rps K H O vs ds) : Rps K H O (cutD vs lo hi) (cutD ds lo hi) := by
  unfold cutD
  rw [r.length]
  exact (r.drop _).take _
theorem ixN_atD {α : Type} (xs : List α) (i : Int) : atI xs i = atD xs i := by
  unfold atI atD ixN
  by_cases h : 0 ≤ i
  · rw [if_pos h, if_pos h]
    by_cases h1 : i < (xs.length : Int)
    · rw [if_pos h1]; rfl
    · rw [if_neg h1]
      show none = _
      rw [List.getElem?_eq_none]
      omega
  · rw [if_neg h, if_neg h]
    by_cases h1 : -(xs.length : Int) ≤ i
    · rw [if_pos h1, if_pos h1]; rfl
    · rw [if_neg h1, if_neg h1]; rfl
theorem Rps.rep {vs : List V} {ds : List D} (r : Rps K H O vs ds) : ∀ n, Rps K H O (List.replicate n vs).flatten (List.replicate n ds).flatten
  | 0 => .nil
  | n + 1 => by rw [List.replicate_succ, List.replicate_succ, List.flatten_cons, List.flatten_cons]; exact r.append (r.rep n)
theorem fitL_iff {n : Nat} : fitL n = true ↔ n ≤ sizeLine := by simp [fitL]
theorem mkS_len (l : List Nat) : (mkS l).length = l.length := by simp [mkS, Str.length]
theorem mkS_app (a b : List Nat) : mkS a ++ mkS b = mkS (a ++ b) := by
  show Str.mk _ = _
  simp [mkS]
end

section
variable {X : Cx}
/-- list + list, whatever lists they are -/
theorem op_catL : OpR X (binaryOp .Add) (fun x y H Q => ∃ a b xs ys, x = .ref a ∧ y = .ref b ∧ SqL X.K H a xs ∧ SqL X.K H b ys ∧ xs.length + ys.length ≤ sizeLine ∧ ∀ p, H p = none → Q (.ref p) (upd H p (.lst (xs ++ ys)))) := by
  intro pins s σ H x y v u Q I rx ry h
  obtain ⟨a, b, xs, ys, rfl, rfl, ha, hb, hz, q⟩ := h
  cases rx
  cases ry
  obtain ⟨its, r, p, _⟩ := I.list ha
  obtain ⟨its2, r2, p2, _⟩ := I.list hb
  obtain ⟨⟨cls, dd, data, sl⟩, n, ho, hc, hd0, hd⟩ := p
  obtain ⟨⟨cls2, dd2, data2, sl2⟩, n2, ho2, hc2, hd02, hd2⟩ := p2
  simp only at hc hd hc2 hd2
  subst hc hd hc2 hd2
  have l1 := r.length
  have l2 := r2.length
  refine concat_meets ⟨_, ho, rfl⟩ ⟨_, ho2, rfl⟩ noFill_list_add seq_list_add PySem.F.slot_list_add PySem.F.entry_list_add (PySem.F.args_list_add_2 _ _)
    (list_addW a b its.toArray its2.toArray n n2 dd dd2 sl sl2 (by simp; omega)) ⟨ho, ho2, ?_⟩
  rw [show its.toArray ++ its2.toArray = (its ++ its2).toArray by simp]
  refine ⟨.ref s.heap.objs.size, _, I.laid (t' := s.toks) (o := .lst (xs ++ ys)) (fun c o e => Heap.get?_push_of_some _ e) (Nat.le_refl _) ?_, rfl, q _ (I.hok.fresh (Nat.le_refl _))⟩
  exact ⟨by rw [List.length_append]; exact hz, _, 0, r.append r2, Heap.get?_push_size _ rfl⟩
/-- a text many times -/
theorem op_repS : OpR X (binaryOp .Mult) (fun x y H Q => ∃ (a : List Nat) (k : Int), x = .str (mkS a) ∧ y = .int k ∧ 0 ≤ k ∧ k < 2 ^ 63 ∧ a.length * k.toNat ≤ sizeLine ∧ Q (.str (mkS (List.replicate k.toNat a).flatten)) H) := by
  intro pins s σ H x y v u Q I rx ry h
  obtain ⟨a, k, rfl, rfl, h1, h2, hz, q⟩ := h
  obtain ⟨t, rfl⟩ := rx
  obtain ⟨t', rfl⟩ := ry
  have line : (sizeLine : Nat) ≤ 2 ^ 60 := by decide
  refine P.mul_str (by rw [decide_eq_false (by omega), decide_eq_false (by omega)]; rfl) (fun hn hb => ?_) (fun hn hb => ?_) ?_
  · rw [mkS_len]
    intro hgt
    have hk : 0 < k := by omega
    have h3 : ((2 ^ 63 - 1 : Int) / k + 1) * k ≤ (a.length : Int) * k := Int.mul_le_mul_of_nonneg_right (by omega) (by omega)
    have h4 : (2 ^ 63 - 1 : Int) < ((2 ^ 63 - 1 : Int) / k + 1) * k := by
      have := Int.lt_ediv_add_one_mul_self (2 ^ 63 - 1 : Int) hk
      exact this
    have h5 : ((a.length * k.toNat : Nat) : Int) = (a.length : Int) * k := by rw [Int.natCast_mul, Int.toNat_of_nonneg h1]
    have h6 : ((a.length * k.toNat : Nat) : Int) ≤ (2 ^ 60 : Int) := by exact_mod_cast Nat.le_trans hz line
    omega
  · rw [mkS_len]
    unfold PySem.Builtin.Str.tooLong
    simp
    exact hz
  · have fin : ∀ (z : Str) (tk : Tok), z = mkS (List.replicate k.toNat a).flatten → EP X pins σ Q (.str z tk) { s with toks := s.toks + 1 } := fun z tk e => ⟨.str (mkS (List.replicate k.toNat a).flatten), H, I.tok _, ⟨tk, by rw [e]⟩, q⟩
    have fin0 : ∀ (z : Str) (tk : Tok), z = mkS (List.replicate k.toNat a).flatten → EP X pins σ Q (.str z tk) s := fun z tk e => ⟨.str (mkS (List.replicate k.toNat a).flatten), H, I, ⟨tk, by rw [e]⟩, q⟩
    by_cases c1 : k < 1
    · rw [if_pos c1]
      have hk : k.toNat = 0 := by omega
      refine ⟨by decide, fin _ _ ?_⟩
      rw [hk]; rfl
    · rw [if_neg c1]
      by_cases c2 : (k == 1 || (mkS a).length == 0) = true
      · rw [if_pos c2]
        refine fin0 _ _ ?_
        rw [Bool.or_eq_true, beq_iff_eq, beq_iff_eq, mkS_len] at c2
        rcases c2 with c2 | c2
        · rw [c2]; simp
        · rw [List.length_eq_zero_iff] at c2
          subst c2
          simp [mkS]
      · rw [if_neg c2]
        have e : (⟨(List.replicate k.toNat (mkS a).cps).foldl (· ++ ·) #[]⟩ : Str) = mkS (List.replicate k.toNat a).flatten := by
          show Str.mk _ = Str.mk _
          congr 1
          have f : ∀ (n : Nat) (acc : List Nat), (List.replicate n a.toArray).foldl (· ++ ·) acc.toArray = (acc ++ (List.replicate n a).flatten).toArray := by
            intro n
            induction n with
            | zero => intro acc; simp
            | succ n ih =>
              intro acc
              rw [List.replicate_succ, List.foldl_cons, show acc.toArray ++ a.toArray = (acc ++ a).toArray by simp, ih]
              simp [List.replicate_succ]
          exact f k.toNat []
        refine ⟨?_, fin _ _ e⟩
        rw [e, mkS_len]
        simp
        rw [Nat.mul_comm]
        exact hz
def rB (K : Fg) (op : Operator) : R2 := fun x y H Q => ∃ O dx dy dz, Muts H O ∧ Opd K H O x dx ∧ Opd K H O y dy ∧ binD op dx dy = some dz ∧ ∀ z H', Nw K H O z dz H' → Q z H'
theorem CMul_of {i j : Int} (h : (smallI i || smallI j) = true) : CMul i j := by
  simp only [smallI, Bool.or_eq_true, Bool.and_eq_true, decide_eq_true_eq] at h
  exact h
theorem op_bin (op : Operator) : OpR X (binaryOp op) (rB X.fg op) := by
  intro pins s σ H x y v u Q I rx ry h
  obtain ⟨O, dx, dy, dz, m, ox, oy, hb, q⟩ := h
  unfold binD at hb
  split at hb
  · cases hb
    exact op_add pins s σ H _ _ v u Q I rx ry ⟨_, _, ox.int, oy.int, q _ _ (.same (.int _))⟩
  · rename_i a b
    split at hb
    · cases hb
      rename_i hf
      refine op_add_str pins s σ H _ _ v u Q I rx ry ⟨_, _, ox.str, oy.str, by rw [mkS_len, mkS_len]; exact fitL_iff.mp hf, ?_⟩
      rw [mkS_app]
      exact q _ _ (.same (Rp.strI _))
    · cases hb
  · rename_i a b
    split at hb
    · cases hb
      rename_i hf
      obtain ⟨p, vs, e1, h1, r1⟩ := ox.lst
      obtain ⟨p2, vs2, e2, h2, r2⟩ := oy.lst
      refine op_catL pins s σ H _ _ v u Q I rx ry ⟨_, _, _, _, e1, e2, h1, h2, ?_, fun p n => q _ _ (.lst m n (r1.append r2))⟩
      rw [r1.length, r2.length]
      exact fitL_iff.mp hf
    · cases hb
  · rename_i a b
    split at hb
    · cases hb
      rename_i hf
      obtain ⟨p, vs, e1, h1, r1⟩ := ox.tup
      obtain ⟨p2, vs2, e2, h2, r2⟩ := oy.tup
      refine op_catA pins s σ H _ _ v u Q I rx ry ⟨_, _, _, _, e1, e2, h1, h2, ?_, fun z => ?_, fun z z2 => ?_, fun _ _ p n => q _ _ (.tup m n (r1.append r2))⟩
      · rw [r1.length, r2.length]
        exact fitL_iff.mp hf
      · subst z
        cases r1
        exact q _ _ (.same (.tuple h2 r2))
      · subst z2
        cases r2
        rw [List.append_nil] at q
        exact q _ _ (.same (.tuple h1 r1))
    · cases hb
  · cases hb
    exact op_sub pins s σ H _ _ v u Q I rx ry ⟨_, _, ox.int, oy.int, q _ _ (.same (.int _))⟩
  · split at hb
    · cases hb
      rename_i hf
      exact op_mul pins s σ H _ _ v u Q I rx ry ⟨_, _, ox.int, oy.int, CMul_of hf, q _ _ (.same (.int _))⟩
    · cases hb
  · cases hb
  · split at hb
    · cases hb
      rename_i hf
      simp only [Bool.and_eq_true, decide_eq_true_eq] at hf
      exact op_repS pins s σ H _ _ v u Q I rx ry ⟨_, _, ox.str, oy.int, hf.1.1, hf.1.2, fitL_iff.mp hf.2, q _ _ (.same (Rp.strI _))⟩
    · cases hb
  · split at hb
    · cases hb
      rename_i hf
      exact op_mod pins s σ H _ _ v u Q I rx ry ⟨_, _, ox.int, oy.int, of_decide_eq_true hf, q _ _ (.same (.int _))⟩
    · cases hb
  · split at hb
    · cases hb
      rename_i hf
      simp only [Bool.and_eq_true, decide_eq_true_eq] at hf
      exact op_fdiv pins s σ H _ _ v u Q I rx ry ⟨_, _, ox.int, oy.int, hf, q _ _ (.same (.int _))⟩
    · cases hb
  · split at hb
    · cases hb
      rename_i hf
      simp only [Bool.and_eq_true, decide_eq_true_eq] at hf
      exact op_pow pins s σ H _ _ v u Q I rx ry ⟨_, _, ox.int, oy.int, ⟨hf.1.1, hf.1.2, hf.2⟩, q _ _ (.same (.int _))⟩
    · cases hb
  · split at hb
    · cases hb
      rename_i hf
      exact op_shr pins s σ H _ _ v u Q I rx ry ⟨_, _, ox.int, oy.int, of_decide_eq_true hf, q _ _ (.same (.int _))⟩
    · cases hb
  · cases hb
    exact op_and pins s σ H _ _ v u Q I rx ry ⟨_, _, ox.int, oy.int, q _ _ (.same (.int _))⟩
  · cases hb

/-! ### shapes, equality, order -/
mutual
theorem shp_lay : ∀ (d : D) (k : Nat), shp k d = true → (py d).plain = true ∧ (py d).depth ≤ k ∧ (py d).hasDict = false
  | .none, _, _ => by simp [py, PyData.plain, PyData.depth, PyData.hasDict]
  | .bool b, _, _ => by simp [py, PyData.plain, PyData.depth, PyData.hasDict]
  | .int i, _, _ => by simp [py, PyData.plain, PyData.depth, PyData.hasDict]
  | .str x, _, _ => by simp [py, PyData.plain, PyData.depth, PyData.hasDict]
  | .list ds, 0, h => by simp [shp] at h
  | .list ds, k + 1, h => by
    simp only [shp] at h
    obtain ⟨h1, h2, h3⟩ := shp_lays ds k h
    simp only [py, PyData.plain, PyData.depth, PyData.hasDict]
    exact ⟨h1, by omega, h3⟩
  | .tuple ds, 0, h => by simp [shp] at h
  | .tuple ds, k + 1, h => by
    simp only [shp] at h
    obtain ⟨h1, h2, h3⟩ := shp_lays ds k h
    simp only [py, PyData.plain, PyData.depth, PyData.hasDict]
    exact ⟨h1, by omega, h3⟩
  | .dict _ _, 0, h => by simp [shp] at h
  | .dict _ _, _ + 1, h => by simp [shp] at h
theorem shp_lays : ∀ (ds : List D) (k : Nat), ds.all (shp k) = true → PyData.plainAll (pys ds) = true ∧ PyData.depthAll (pys ds) ≤ k ∧ PyData.hasDictAll (pys ds) = false
  | [], _, _ => by simp [pys, PyData.plainAll, PyData.depthAll, PyData.hasDictAll]
  | d :: ds, k, h => by
    rw [List.all_cons, Bool.and_eq_true] at h
    obtain ⟨a1, a2, a3⟩ := shp_lay d k h.1
    obtain ⟨b1, b2, b3⟩ := shp_lays ds k h.2
    simp only [pys, PyData.plainAll, PyData.depthAll, PyData.hasDictAll]
    rw [a1, b1, a3, b3]
    exact ⟨rfl, Nat.max_le.mpr ⟨a2, b2⟩, rfl⟩
end
theorem shp_shaped {d : D} (h : shp 60 d = true) (q : (py d).canLay0 = true) : SeqAt.shaped (py d) = true := by
  obtain ⟨h1, h2, _⟩ := shp_lay d 60 h
  show ((py d).canLay0 && decide ((py d).depth ≤ 64)) = true
  rw [q, decide_eq_true (by omega)]; rfl
theorem shp_dict {d : D} (h : shp 60 d = true) : (py d).hasDict = false := (shp_lay d 60 h).2.2
mutual
theorem eqD_py : ∀ x y : D, (py x).hasDict = false → eqD x y = PyData.eqv (py x) (py y)
  | .none, y, _ => by cases y <;> simp [eqD, py, PyData.eqv]
  | .bool a, y, _ => by cases y <;> simp [eqD, py, PyData.eqv]
  | .int a, y, _ => by cases y <;> simp [eqD, py, PyData.eqv]
  | .str a, y, _ => by
    cases y with
    | str b =>
      simp only [eqD, py, PyData.eqv]
      rw [Bool.eq_iff_iff, beq_iff_eq, beq_iff_eq]
      exact ⟨fun h => by rw [h], fun e => by rw [← cps_mkS a, ← cps_mkS b, e]⟩
    | _ => simp [eqD, py, PyData.eqv]
  | .list xs, y, h => by
    cases y <;> simp [eqD, py, PyData.eqv]
    exact eqDs_py xs _ (by simpa [py, PyData.hasDict] using h)
  | .tuple xs, y, h => by
    cases y <;> simp [eqD, py, PyData.eqv]
    exact eqDs_py xs _ (by simpa [py, PyData.hasDict] using h)
  | .dict _ _, y, h => by simp [py, PyData.hasDict] at h
theorem eqDs_py : ∀ xs ys : List D, PyData.hasDictAll (pys xs) = false → eqDs xs ys = PyData.eqvAll (pys xs) (pys ys)
  | [], ys, _ => by cases ys <;> simp [eqDs, pys, PyData.eqvAll]
  | x :: xs, ys, h => by
    rw [pys, PyData.hasDictAll, Bool.or_eq_false_iff] at h
    cases ys with
    | nil => simp [eqDs, pys, PyData.eqvAll]
    | cons y ys => simp only [eqDs, pys, PyData.eqvAll]; rw [eqD_py x y h.1, eqDs_py xs ys h.2]
end
theorem inD_py {x : D} {ys : List D} (h : ∀ y ∈ ys, (py y).hasDict = false) : inD x ys = (pys ys).any fun z => PyData.eqv z (py x) := by
  unfold inD
  induction ys with
  | nil => rfl
  | cons y ys ih => rw [pys, List.any_cons, List.any_cons, eqD_py y x (h y List.mem_cons_self), ih fun z hz => h z (List.mem_cons_of_mem _ hz)]
theorem hasDict_mem : ∀ {ys : List D} {y : D}, PyData.hasDictAll (pys ys) = false → y ∈ ys → (py y).hasDict = false
  | y :: ys, z, h, hz => by
    rw [pys, PyData.hasDictAll, Bool.or_eq_false_iff] at h
    rcases List.mem_cons.mp hz with rfl | hz
    · exact h.1
    · exact hasDict_mem h.2 hz
section
variable {pins : List (Addr × Obj)} {s : Shared} {σ : Stt} {H : Hp} {O : AS}
theorem Opd.reads {v : V} {u : Value} {d : D} (o : Opd X.fg H O v d) (n : (py d).hasDict = false) (I : Inv X pins σ H s) (r : RelV v u) : ∃ as, Reads s.heap u (py d) as := Dp.reads I (py d) v u (o.dp n) r
end
/-! ### dicts by int and str keys -/
theorem kD_inj {a b : Key} (h : kD a = kD b) : a = b := by
  cases a <;> cases b <;> simp only [kD, D.int.injEq, D.str.injEq, reduceCtorEq] at h
  · rw [h]
  · rename_i x y
    have : x = y := by rw [← mkS_cps x, ← mkS_cps y, h]
    rw [this]
theorem eqK_kD (a b : Key) : eqK (kD a) (kD b) = decide (a = b) := by
  by_cases h : a = b
  · subst h
    rw [decide_eq_true rfl]
    cases a <;> simp [kD, eqK]
  · rw [decide_eq_false h]
    cases a <;> cases b <;> simp only [kD, eqK] <;> first | rfl | (rw [beq_eq_false_iff_ne]; intro z; exact h (by
      first | (rw [z]) | (rename_i x y; have : x = y := by rw [← mkS_cps x, ← mkS_cps y, z]
                          rw [this])))
/-- a key's place -/
def vK : D → Option Key
  | .int i => some (.inl i)
  | .str x => some (.inr (mkS x))
  | _ => none
theorem key_opd {K : Fg} {H : Hp} {O : AS} {y : V} {dy : D} (o : Opd K H O y dy) (h : isKey dy = true) (ht : isTup dy = false) : ∃ k : Key, y = kV k ∧ dy = kD k := by
  cases dy <;> first | (simp [isKey] at h; done) | (simp [isTup] at ht; done) | skip
  · rename_i i; exact ⟨.inl i, o.int, rfl⟩
  · rename_i x; exact ⟨.inr (mkS x), o.str, by simp [kD, mkS]⟩
theorem isTup_kD (k : Key) : isTup (kD k) = false := by cases k <;> rfl
theorem tupK_isTup {d : D} (h : tupK d = true) : isTup d = true := by
  obtain ⟨ds, rfl, _⟩ := tupK_hsh h; rfl
theorem kfit_kD {kvs : List (Key × V)} {x : D} (h : kfit (kvs.map fun p => kD p.1) x = true) (ht : isTup x = true) : kvs = [] := by
  cases kvs with
  | nil => rfl
  | cons p r => simp [kfit, isTup_kD, ht] at h
theorem kfit_tup {ks : List D} {x : D} (t : ks.all tupK = true) (h : kfit ks x = true) (ht : isTup x = false) : ks = [] := by
  cases ks with
  | nil => rfl
  | cons k r =>
    rw [List.all_cons, Bool.and_eq_true] at t
    simp [kfit, tupK_isTup t.1, ht] at h
theorem dget_val {K : Fg} {H : Hp} {O : AS} {k : Key} : ∀ {kvs : List (Key × V)} {vs : List D}, Rps K H O (kvs.map (·.2)) vs → (∀ d, dget (kvs.map fun p => kD p.1) vs (kD k) = some d → ∃ v, valV kvs k = some v ∧ Rp K H O v d)
  | [], _, r, d, h => by cases r; simp [dget] at h
  | p :: kvs, _, r, d, h => by
    cases r with
    | cons r1 t =>
      simp only [List.map_cons, dget, eqK_kD, decide_eq_true_eq] at h
      by_cases e : p.1 = k
      · rw [if_pos e] at h; cases h
        exact ⟨p.2, valV_pos e, r1⟩
      · rw [if_neg e] at h
        rw [valV_neg e]
        exact dget_val t d h
theorem any_kD {k : Key} (kvs : List (Key × V)) : ((kvs.map fun p => kD p.1).any fun x => eqK x (kD k)) = kvs.any fun p => decide (p.1 = k) := by
  rw [List.any_map]
  congr 1
  funext p
  exact eqK_kD p.1 k
theorem dset_rps {K : Fg} {H : Hp} {O : AS} {k : Key} {v : V} {d : D} (rv : Rp K H O v d) : ∀ {kvs : List (Key × V)} {vs : List D}, Rps K H O (kvs.map (·.2)) vs → Rps K H O ((kvs.map fun p => if p.1 = k then (p.1, v) else p).map (·.2)) (dset (kvs.map fun p => kD p.1) vs (kD k) d)
  | [], _, r => by cases r; exact .nil
  | p :: kvs, _, r => by
    cases r with
    | cons r1 t =>
      simp only [List.map_cons, dset, eqK_kD, decide_eq_true_eq]
      by_cases e : p.1 = k
      · rw [if_pos e, if_pos e]; exact .cons rv (dset_rps rv t)
      · rw [if_neg e, if_neg e]; exact .cons r1 (dset_rps rv t)
theorem put_rps {K : Fg} {H : Hp} {O : AS} {k : Key} {v : V} {d : D} (rv : Rp K H O v d) {kvs : List (Key × V)} {vs : List D} (r : Rps K H O (kvs.map (·.2)) vs) :
    (putK kvs k v).map (fun p => kD p.1) = dputK (kvs.map fun p => kD p.1) (kD k) ∧ Rps K H O ((putK kvs k v).map (·.2)) (dputV (kvs.map fun p => kD p.1) vs (kD k) d) := by
  unfold dputK dputV
  rw [any_kD]
  by_cases h : (kvs.any fun p => decide (p.1 = k)) = true
  · have e : putK kvs k v = kvs.map fun p => if p.1 = k then (p.1, v) else p := by unfold putK; rw [if_pos h]
    rw [if_pos h, if_pos h, e]
    refine ⟨?_, dset_rps rv r⟩
    rw [List.map_map]
    apply List.map_congr_left
    intro p _
    show kD (if p.1 = k then (p.1, v) else p).1 = kD p.1
    split <;> rfl
  · have e : putK kvs k v = kvs ++ [(k, v)] := by unfold putK; rw [if_neg h]
    rw [if_neg h, if_neg h, e, List.map_append, List.map_append]
    exact ⟨rfl, r.append (.cons rv .nil)⟩
/-- what a list or dict that is new holds, by the heap ahead of it -/
inductive Nc (K : Fg) (H : Hp) (O : AS) (a : Addr) : HO → D → Prop
  | list {vs : List V} {ds : List D} : Rps K H O vs ds → Nc K H O a (.lst vs) (.list ds)
  | dictK {kvs : List (Key × V)} {ds : List D} : Rps K H O (kvs.map (·.2)) ds → Nc K H O a (.dK kvs) (.dict (kvs.map fun p => kD p.1) ds)
  | dictN {kvs : List NE} {ks ds : List D} : kvs.map (·.1) = ks.map nk → ks.all tupK = true → Rps K H O (kvs.map fun p => .ref p.2.1) ks → Rps K H O (kvs.map (·.2.2)) ds → Nc K H O a (ndO K.w a kvs) (.dict ks ds)
section
variable {pins : List (Addr × Obj)} {s : Shared} {σ : Stt} {H : Hp} {O : AS} {a : Addr} {ks vs : List D} {A : Around} {E : Value → Shared → Prop}
theorem ndO_at {kvs : List NE} (I : Inv X pins σ H s) (h : H a = some (ndO X.w a kvs)) : ndP X.w a kvs s.heap := (show ObjOk X.prog X.w H s.heap a (.ext (ndP X.w a kvs)) from I.hok a _ h).1
theorem ndO_ok {P : Program} {w : World} {H : Hp} {h : Heap} {kvs : List NE} (n : ndP w a kvs h) : ObjOk P w H h a (ndO w a kvs) := by
  have n' := n
  obtain ⟨_, _, _, _, o, _, _, ho, _⟩ := n'
  refine ⟨n, ⟨o, ho⟩, fun h1 h2 ⟨z, y, xs, r, o, es, ep, q1, q2⟩ k => ⟨z, y, xs, r, o, es, ep, k o q1, q2⟩⟩
/-- keys that lie where the heap says -/
theorem keys_is (I : Inv X pins σ H s) : ∀ {ks : List D} {kvs : List NE} {xs : List (NestedKey × Addr × Value)}, NR kvs xs → kvs.map (·.1) = ks.map nk → ks.all tupK = true → Rps X.fg H O (kvs.map fun p => .ref p.2.1) ks → ∀ x ∈ xs, NestedIs s.heap x.1 (.ref x.2.1) ∧ x.1.depth ≤ 8
  | [], [], _, .nil, _, _, _, x, hx => by simp at hx
  | [], _ :: _, _, _, e, _, _, _, _ => by simp at e
  | _ :: _, [], _, _, e, _, _, _, _ => by simp at e
  | k :: ks, p :: kvs, _, .cons (b := q) h t, e, tk, r, x, hx => by
    obtain ⟨e1, e2⟩ := keys_cons e
    rw [List.all_cons, Bool.and_eq_true] at tk
    rw [List.map_cons] at r
    cases r with
    | cons r1 r2 =>
      rcases List.mem_cons.mp hx with z | z
      · subst z
        obtain ⟨ds, e3, hh⟩ := tupK_hsh tk.1
        have q1 := Rp.nested I k 8 (u := .ref x.2.1) r1 hh (by show Value.ref x.2.1 = Value.ref p.2.1; rw [h.2.1])
        rw [← h.1, e1]
        exact ⟨q1, nk_depth k 8 hh⟩
      · exact keys_is I t e2 tk.2 r2 x z
/-- the dict as one by ints and texts, for such a key -/
theorem Dc.mix (I : Inv X pins σ H s) (c : Dc X.fg H O a ks vs) {x : D} (hf : kfit ks x = true) (ht : isTup x = false) :
    Mut (H a) ∧ ∃ (kvs : List (Key × V)) (us : List (Key × Value)), ks = kvs.map (fun p => kD p.1) ∧ Rps X.fg H O (kvs.map (·.2)) vs ∧ kvs.length ≤ sizeLine ∧ (a == sysModules) = false ∧ KV kvs us ∧ s.heap.DictOf (mixKind X.prog X.w) a us := by
  rcases c with ⟨kvs, h, e, r⟩ | ⟨kvs, h, e, t, q, r⟩
  · obtain ⟨z, hd, us, rel, dd⟩ := dk_of I.hok h
    exact ⟨by rw [h]; exact trivial, kvs, us, e, r, z, hd, rel, dd⟩
  · have e0 := kfit_tup t hf ht
    subst e0
    have e1 : kvs = [] := by simpa using e
    subst e1
    cases r
    obtain ⟨z, hd, xs, rel, o, es, ep, h1, h2, h3, h4, _⟩ := ndO_at I h
    cases rel
    have e2 : es = #[] := by rw [← Array.toList_inj]; simpa using h4
    subst e2
    exact ⟨by rw [h]; exact trivial, [], [], rfl, .nil, z, hd, .nil, o, #[], ep, h1, h2, h3, (fun e he => by simp at he), .nil, List.nodup_nil⟩
/-- the dict as one by tuples, for such a key -/
theorem Dc.nest (I : Inv X pins σ H s) (c : Dc X.fg H O a ks vs) {x : D} (hf : kfit ks x = true) (ht : isTup x = true) :
    Mut (H a) ∧ ∃ (kvs : List NE) (xs : List (NestedKey × Addr × Value)), kvs.map (·.1) = ks.map nk ∧ ks.all tupK = true ∧ Rps X.fg H O (kvs.map fun p => .ref p.2.1) ks ∧ Rps X.fg H O (kvs.map (·.2.2)) vs ∧ kvs.length ≤ sizeLine ∧ (a == sysModules) = false ∧ NR kvs xs ∧
      s.heap.DictOfH (nestedKind X.prog X.w) a xs := by
  rcases c with ⟨kvs, h, e, r⟩ | ⟨kvs, h, e, t, q, r⟩
  · subst e
    have e0 := kfit_kD hf ht
    subst e0
    cases r
    obtain ⟨z, hd, us, rel, dd⟩ := dk_of I.hok h
    cases rel
    obtain ⟨o, es, ep, h1, h2, h3, h4, h5, h6⟩ := dd
    have e2 : es.toList = [] := by
      have key : ∀ l : List DictEntry, Pairs (mixKind X.prog X.w) l [] → l = [] := fun l h => by cases h; rfl
      exact key _ h5
    exact ⟨by rw [h]; exact trivial, [], [], rfl, rfl, .nil, .nil, z, hd, .nil, o, es, ep, h1, h2, h3, e2, (fun x hx => by simp at hx), List.nodup_nil⟩
  · obtain ⟨z, hd, xs, rel, o, es, ep, h1, h2, h3, h4, h5⟩ := ndO_at I h
    exact ⟨by rw [h]; exact trivial, kvs, xs, e, t, q, r, z, hd, rel, o, es, ep, h1, h2, h3, h4, keys_is I rel e t q, h5⟩
theorem tup_ref {y : V} {dy : D} (oy : Opd X.fg H O y dy) (ht : isTup dy = true) : ∃ b, y = .ref b ∧ Rp X.fg H O (.ref b) dy := by
  cases dy <;> first | (simp [isTup] at ht; done) | skip
  obtain ⟨b, us, e, h, r⟩ := oy.tup
  exact ⟨b, e, .tuple h r⟩
theorem nk_is (I : Inv X pins σ H s) {b : Addr} {dy : D} (r : Rp X.fg H O (.ref b) dy) (hk : isKey dy = true) (ht : isTup dy = true) : (nestedKind X.prog X.w).is s.heap (nk dy) b := by
  obtain ⟨ds, e, hh⟩ := tupK_hsh (isKey_tup hk ht)
  exact ⟨Rp.nested I dy 8 r hh rfl, nk_depth dy 8 hh⟩
theorem dc_in (hu : A.units + 200 < cLine) (I : Inv X pins σ H s) (c : Dc X.fg H O a ks vs) {y : V} {dy : D} {u : Value} (oy : Opd X.fg H O y dy) (hk : isKey dy = true) (hf : kfit ks dy = true) (ry : RelV y u) {Q : Value → Shared → Prop}
    (h : ∀ s', Inv X pins σ H s' → Q (.bool (ks.any fun k => eqK k dy)) s') : wpAny (model X.prog X.w) A (compareOp .In u (.ref a)) Q E s := by
  cases ht : isTup dy with
  | false =>
    obtain ⟨_, kvs, us, rfl, r, z, hd, rel, dd⟩ := c.mix I hf ht
    obtain ⟨k, rfl, rfl⟩ := key_opd oy hk ht
    refine wpAny_in_of (kV_is ry) hd dd.mapOf ?_
    rw [any_kD, valV_any, (rel.val k).isSome_eq] at h
    exact h _ (I.tok _)
  | true =>
    obtain ⟨_, kvs, xs, e, t, q, r, z, hd, rel, dd⟩ := c.nest I hf ht
    obtain ⟨b, rfl, rb⟩ := tup_ref oy ht
    cases (show u = Value.ref b from ry)
    refine wpAny_in_heap (show (Around.in1 A).units + 8 < cLine by rw [Around.in1_units]; omega) (nk_is I rb hk ht) hd dd ?_
    have e2 := (rel.val (nk dy)).isSome_eq
    rw [Option.isSome_map] at e2
    rw [anyN (isKey_tup hk ht) e t, valN_any, e2] at h
    exact h _ (I.tok _)
theorem dc_notIn (hu : A.units + 200 < cLine) (I : Inv X pins σ H s) (c : Dc X.fg H O a ks vs) {y : V} {dy : D} {u : Value} (oy : Opd X.fg H O y dy) (hk : isKey dy = true) (hf : kfit ks dy = true) (ry : RelV y u) {Q : Value → Shared → Prop}
    (h : ∀ s', Inv X pins σ H s' → Q (.bool (!ks.any fun k => eqK k dy)) s') : wpAny (model X.prog X.w) A (compareOp .NotIn u (.ref a)) Q E s := by
  cases ht : isTup dy with
  | false =>
    obtain ⟨_, kvs, us, rfl, r, z, hd, rel, dd⟩ := c.mix I hf ht
    obtain ⟨k, rfl, rfl⟩ := key_opd oy hk ht
    refine wpAny_notIn_of (kV_is ry) hd dd.mapOf ?_
    rw [any_kD, valV_any, (rel.val k).isSome_eq] at h
    exact h _ (I.tok _)
  | true =>
    obtain ⟨_, kvs, xs, e, t, q, r, z, hd, rel, dd⟩ := c.nest I hf ht
    obtain ⟨b, rfl, rb⟩ := tup_ref oy ht
    cases (show u = Value.ref b from ry)
    refine wpAny_notIn_heap (show (Around.in1 A).units + 8 < cLine by rw [Around.in1_units]; omega) (nk_is I rb hk ht) hd dd ?_
    have e2 := (rel.val (nk dy)).isSome_eq
    rw [Option.isSome_map] at e2
    rw [anyN (isKey_tup hk ht) e t, valN_any, e2] at h
    exact h _ (I.tok _)
theorem dc_get (hu : A.units + 200 < cLine) (I : Inv X pins σ H s) (c : Dc X.fg H O a ks vs) {y : V} {dy dz : D} {u : Value} (oy : Opd X.fg H O y dy) (hk : isKey dy = true) (hf : kfit ks dy = true) (hg : dget ks vs dy = some dz) (ry : RelV y u) {Q : Value → Shared → Prop}
    (h : ∀ z w' s', Inv X pins σ H s' → RelV z w' → Rp X.fg H O z dz → Q w' s') : wpAny (model X.prog X.w) A (getItem (.ref a) u) Q E s := by
  cases ht : isTup dy with
  | false =>
    obtain ⟨_, kvs, us, rfl, r, z, hd, rel, dd⟩ := c.mix I hf ht
    obtain ⟨k, rfl, rfl⟩ := key_opd oy hk ht
    obtain ⟨v, hv, rv⟩ := dget_val r dz hg
    obtain ⟨w', hw, rw'⟩ := RelO.some_of (v := v) (o := valueAt us k) (by rw [← hv]; exact rel.val k)
    exact wpAny_getItem_of (kV_is ry) dd.mapOf hw (h v w' _ (I.tok _) rw' rv)
  | true =>
    obtain ⟨_, kvs, xs, e, t, q, r, z, hd, rel, dd⟩ := c.nest I hf ht
    obtain ⟨b, rfl, rb⟩ := tup_ref oy ht
    cases (show u = Value.ref b from ry)
    obtain ⟨v, hv, rv⟩ := dgetN (isKey_tup hk ht) e t r dz hg
    obtain ⟨w', hw, rw'⟩ := RelO.some_of (v := v) (o := (atKey xs (nk dy)).map (·.2)) (by rw [← hv]; exact rel.val (nk dy))
    obtain ⟨p, hp, hp2⟩ := Option.map_eq_some_iff.mp hw
    refine wpAny_getItem_heap (show (Around.in1 A).units + 8 < cLine by rw [Around.in1_units]; omega) (nk_is I rb hk ht) dd hp ?_
    rw [hp2]
    exact h v w' _ (I.tok _) rw' rv
theorem Dc.typeIs (I : Inv X pins σ H s) (c : Dc X.fg H O a ks vs) : s.TypeIs (.ref a) "dict" := by
  rcases c with ⟨kvs, h, _⟩ | ⟨kvs, h, _⟩
  · obtain ⟨_, _, us, _, dd⟩ := dk_of I.hok h
    exact dd.typeIs
  · obtain ⟨_, _, xs, _, o, es, ep, h1, h2, _⟩ := ndO_at I h
    exact ⟨o, h1, h2.1⟩
theorem Dc.len (I : Inv X pins σ H s) (c : Dc X.fg H O a ks vs) {Q : Value → Shared → Prop} (h : ∀ t s', Inv X pins σ H s' → Q (.int ks.length t) s') : wpAny (model X.prog X.w) A (call (.builtin "len") [.ref a]) Q E s := by
  rcases c with ⟨kvs, h1, e, r⟩ | ⟨kvs, h1, e, t, q, r⟩
  · subst e
    rw [List.length_map] at h
    exact d_len I (.inl h1) h
  · obtain ⟨z, hd, xs, rel, o, es, ep, h1, h2, h3, h4, h5⟩ := ndO_at I h1
    have dd : s.heap.DictOfH (nestedKind X.prog X.w) a xs := ⟨o, es, ep, h1, h2, h3, h4, keys_is I rel e t q, h5⟩
    have l1 : kvs.length = xs.length := Paired.length rel
    have l2 : kvs.length = ks.length := by simpa using congrArg List.length e
    refine call_len_dictH hd dd (by rw [← l1]; rw [sizeLine_eq] at z; omega) ?_
    rw [← l1, l2]
    exact h _ _ (I.tok _)
/-- d[y] = v -/
theorem dc_set (hu : A.units + 200 < cLine) (I : Inv X pins σ H s) (c : Dc X.fg H O a ks vs) {y v : V} {dy d : D} {u r : Value} (oy : Opd X.fg H O y dy) (hk : isKey dy = true) (hf : kfit ks dy = true) (hl : ks.length < sizeLine) (ry : RelV y u) (rv : RelV v r)
    (rp : Rp X.fg H O v d) {Q : Unit → Shared → Prop} (h : ∀ ho s', Nc X.fg H O a ho (.dict (dputK ks dy) (dputV ks vs dy d)) → Inv X pins σ (upd H a ho) s' → Q () s') : wpAny (model X.prog X.w) A (setItem (.ref a) u r) Q E s := by
  cases ht : isTup dy with
  | false =>
    obtain ⟨mu, kvs, us, rfl, q, z, hd, rel, dd⟩ := c.mix I hf ht
    obtain ⟨k, rfl, rfl⟩ := key_opd oy hk ht
    have hz : us.length ≤ sizeLine := by rw [← rel.length]; exact z
    have hl2 : (putK kvs k v).length ≤ sizeLine := by have := length_putK kvs k v; rw [List.length_map] at hl; omega
    refine wpAny_setItem_pairs (hsz := hz) (kV_is ry) dd fun h' dd' hs => ?_
    have he : ∃ q, h'.get? a = some q := let ⟨q, _, _, hq, _⟩ := dd'; ⟨q, hq⟩
    obtain ⟨p1, p2⟩ := put_rps rp q (k := k)
    refine h (.dK (putK kvs k v)) _ ?_ (d_write I mu hs he (dk_new hl2 hd (rel.put k rv) dd'))
    rw [← p1]
    exact .dictK p2
  | true =>
    obtain ⟨mu, kvs, xs, e, t, q, q2, z, hd, rel, dd⟩ := c.nest I hf ht
    obtain ⟨b, rfl, rb⟩ := tup_ref oy ht
    cases (show u = Value.ref b from ry)
    have l2 : kvs.length = ks.length := by simpa using congrArg List.length e
    have hz : xs.length ≤ sizeLine := by rw [← Paired.length rel]; exact z
    have hl2 : (putN kvs (nk dy) b v).length ≤ sizeLine := by have := putN_len kvs (nk dy) b v; omega
    refine wpAny_setItem_heap (hsz := hz) (show (Around.in1 A).units + 8 < cLine by rw [Around.in1_units]; omega) (nk_is I rb hk ht) dd fun h' dd' hs => ?_
    obtain ⟨o, es, ep, hq, h2, h3, h4, _, h5⟩ := dd'
    obtain ⟨p1, p2, p3, p4⟩ := putN_all (isKey_tup hk ht) rb rp e t q q2
    refine h (ndO X.w a (putN kvs (nk dy) b v)) _ (.dictN p1 p2 p3 p4) (d_write I mu hs ⟨o, hq⟩ (ndO_ok ⟨hl2, hd, _, rel.put (nk dy) b rv, o, es, ep, hq, h2, h3, h4, h5⟩))
end
def rC (K : Fg) (op : CmpOp) : R2 := fun x y H Q => ∃ O dx dy z, Muts H O ∧ Opd K H O x dx ∧ Opd K H O y dy ∧ cmpD op dx dy = some z ∧ Q (.bl z) H
theorem lt_run (hu : X.A.units + 200 < cLine) {pins : List (Addr × Obj)} {s : Shared} {σ : Stt} {H : Hp} {O : AS} {x y : V} {v u : Value} {dx dy : D} {z : Bool} {Q : VK} (I : Inv X pins σ H s) (rx : RelV x v) (ry : RelV y u)
    (ox : Opd X.fg H O x dx) (oy : Opd X.fg H O y dy) (h : ltD dx dy = some z) (q : Q (.bl z) H) : wpAny (model X.prog X.w) X.A (compareOp .Lt v u) (EP X pins σ Q) X.xe s := by
  unfold ltD at h
  split at h
  · cases h
    exact op_lt pins s σ H _ _ v u Q I rx ry ⟨_, _, ox.int, oy.int, q⟩
  · cases h
    exact op_lt_str pins s σ H _ _ v u Q I rx ry ⟨_, _, ox.str, oy.str, by rw [cps_mkS, cps_mkS]; exact q⟩
  · cases h
  · rename_i hnone
    split at h
    · cases h
      rename_i hc
      simp only [Bool.and_eq_true] at hc
      obtain ⟨⟨ha, hx⟩, hy⟩ := hc
      obtain ⟨as, r1⟩ := ox.reads (shp_dict hx) I rx
      obtain ⟨bs, r2⟩ := oy.reads (shp_dict hy) I ry
      have hn : py dx ≠ .none := by
        cases dx <;> first | (exfalso; simp_all; done) | (rw [py]; intro e; cases e)
      have hd := (shp_lay dx 60 hx).2.1
      exact PySem.W.rcLt_alike (py dx) (py dy) X.A s v u as bs r1 r2 ha hn (by have := Nat.min_le_left (py dx).depth (py dy).depth; omega) X.prog X.w X.xe _ ⟨.bl _, H, I, rfl, q⟩
    · cases h
theorem op_cmp (hu : X.A.units + 200 < cLine) (op : CmpOp) : OpR X (compareOp op) (rC X.fg op) := by
  intro pins s σ H x y v u Q I rx ry h
  obtain ⟨O, dx, dy, z, m, ox, oy, hb, q⟩ := h
  unfold cmpD at hb
  split at hb
  · split at hb
    · cases hb
      rename_i hc
      rw [Bool.and_eq_true] at hc
      rw [eqD_py _ _ (shp_dict hc.1)] at q
      obtain ⟨as, r1⟩ := ox.reads (shp_dict hc.1) I rx
      obtain ⟨bs, r2⟩ := oy.reads (shp_dict hc.2) I ry
      exact PySem.SeqAt.eq_plain r1 r2 (shp_lay _ 60 hc.1).1 (shp_lay _ 60 hc.2).1 (by have := (shp_lay dx 60 hc.1).2.1; have := Nat.min_le_left (py dx).depth (py dy).depth; omega) ⟨.bl _, H, I, rfl, q⟩
    · cases hb
  · split at hb
    · cases hb
      rename_i hc
      rw [Bool.and_eq_true] at hc
      rw [eqD_py _ _ (shp_dict hc.1)] at q
      obtain ⟨as, r1⟩ := ox.reads (shp_dict hc.1) I rx
      obtain ⟨bs, r2⟩ := oy.reads (shp_dict hc.2) I ry
      exact PySem.SeqAt.ne_plain r1 r2 (shp_lay _ 60 hc.1).1 (shp_lay _ 60 hc.2).1 (by have := (shp_lay dx 60 hc.1).2.1; have := Nat.min_le_left (py dx).depth (py dy).depth; omega) ⟨.bl _, H, I, rfl, q⟩
    · cases hb
  · exact lt_run hu I rx ry ox oy hb q
  · cases hb
    exact op_gt pins s σ H _ _ v u Q I rx ry ⟨_, _, ox.int, oy.int, q⟩
  · cases hb
    exact op_gt_str pins s σ H _ _ v u Q I rx ry ⟨_, _, ox.str, oy.str, by rw [cps_mkS, cps_mkS]; exact q⟩
  · cases hb
    exact op_le pins s σ H _ _ v u Q I rx ry ⟨_, _, ox.int, oy.int, q⟩
  · cases hb
    exact op_ge pins s σ H _ _ v u Q I rx ry ⟨_, _, ox.int, oy.int, q⟩
  · split at hb
    · cases hb
      rename_i hc
      rw [Bool.and_eq_true] at hc
      have hd := shp_dict hc.2
      rw [inD_py fun y hy => hasDict_mem (by simpa [py, PyData.hasDict] using hd) hy] at q
      obtain ⟨as, r1⟩ := ox.reads (shp_dict hc.1) I rx
      obtain ⟨bs, r2⟩ := oy.reads hd I ry
      rw [py] at r2
      have se := (shp_lay _ 60 hc.2).1
      rw [py, PyData.plain] at se
      exact PySem.SeqAt.in_list_data r2 r1 se (shp_lay _ 60 hc.1).1 (by have := (shp_lay dx 60 hc.1).2.1; omega) ⟨.bl _, H, I, rfl, q⟩
    · cases hb
  · split at hb
    · cases hb
      rename_i hc
      rw [Bool.and_eq_true] at hc
      have hd := shp_dict hc.2
      rw [inD_py fun y hy => hasDict_mem (by simpa [py, PyData.hasDict] using hd) hy] at q
      obtain ⟨as, r1⟩ := ox.reads (shp_dict hc.1) I rx
      obtain ⟨bs, r2⟩ := oy.reads hd I ry
      rw [py] at r2
      have se := (shp_lay _ 60 hc.2).1
      rw [py, PyData.plain] at se
      exact PySem.SeqAt.in_tuple_data r2 r1 se (shp_lay _ 60 hc.1).1 (by have := (shp_lay dx 60 hc.1).2.1; omega) ⟨.bl _, H, I, rfl, q⟩
    · cases hb
  · cases hb
    exact op_in_str pins s σ H _ _ v u Q I rx ry ⟨_, _, ox.str, oy.str, q⟩
  · split at hb
    · cases hb
      rename_i hc
      rw [Bool.and_eq_true] at hc
      have hd := shp_dict hc.2
      rw [inD_py fun y hy => hasDict_mem (by simpa [py, PyData.hasDict] using hd) hy] at q
      obtain ⟨as, r1⟩ := ox.reads (shp_dict hc.1) I rx
      obtain ⟨bs, r2⟩ := oy.reads hd I ry
      rw [py] at r2
      have se := (shp_lay _ 60 hc.2).1
      rw [py, PyData.plain] at se
      exact PySem.SeqAt.notIn_list_data r2 r1 se (shp_lay _ 60 hc.1).1 (by have := (shp_lay dx 60 hc.1).2.1; omega) ⟨.bl _, H, I, rfl, q⟩
    · cases hb
  · split at hb
    · cases hb
      rename_i hc
      rw [Bool.and_eq_true] at hc
      have hd := shp_dict hc.2
      rw [inD_py fun y hy => hasDict_mem (by simpa [py, PyData.hasDict] using hd) hy] at q
      obtain ⟨as, r1⟩ := ox.reads (shp_dict hc.1) I rx
      obtain ⟨bs, r2⟩ := oy.reads hd I ry
      rw [py] at r2
      have se := (shp_lay _ 60 hc.2).1
      rw [py, PyData.plain] at se
      exact PySem.SeqAt.notIn_tuple_data r2 r1 se (shp_lay _ 60 hc.1).1 (by have := (shp_lay dx 60 hc.1).2.1; omega) ⟨.bl _, H, I, rfl, q⟩
    · cases hb
  · cases hb
    exact op_notIn_str pins s σ H _ _ v u Q I rx ry ⟨_, _, ox.str, oy.str, q⟩
  · cases hb
    refine op_isN pins s σ H _ _ v u Q I rx ry ⟨oy.none, ?_⟩
    have e : decide (x = V.non) = isNn dx := by
      rcases ox with r | ⟨a, rfl, c⟩
      · cases r <;> simp [isNn]
      · cases c <;> simp [isNn]
    rw [e]; exact q
  · cases hb
    refine op_notN pins s σ H _ _ v u Q I rx ry ⟨oy.none, ?_⟩
    have e : (!decide (x = V.non)) = !isNn dx := by
      rcases ox with r | ⟨a, rfl, c⟩
      · cases r <;> simp [isNn]
      · cases c <;> simp [isNn]
    rw [e]; exact q
  · cases hb
    exact op_isBl pins s σ H _ _ v u Q I rx ry ⟨_, _, ox.bool, oy.bool, q⟩
  · cases hb
    exact op_notBl pins s σ H _ _ v u Q I rx ry ⟨_, _, ox.bool, oy.bool, q⟩
  · split at hb
    · rename_i hk
      cases hb
      rw [Bool.and_eq_true] at hk
      obtain ⟨a, rfl, c⟩ := oy.dic
      obtain rfl : u = Value.ref a := ry
      exact dc_in hu I c ox hk.1 hk.2 rx fun s' I' => ⟨.bl _, H, I', rfl, q⟩
    · cases hb
  · split at hb
    · rename_i hk
      cases hb
      rw [Bool.and_eq_true] at hk
      obtain ⟨a, rfl, c⟩ := oy.dic
      obtain rfl : u = Value.ref a := ry
      exact dc_notIn hu I c ox hk.1 hk.2 rx fun s' I' => ⟨.bl _, H, I', rfl, q⟩
    · cases hb
  · cases hb
end
end MW

set_option Elab.async false
set_option linter.all false
set_option maxRecDepth 100000
/-! MWM: dict(xs) of pairs with tuples as keys -/
namespace MW
open PySem PySem.Spec PyProof.Rows L2
/-- pairs whose keys are tuples -/
theorem pairsT_rps {K : Fg} {H : Hp} {O : AS} : ∀ {vs : List V} {ps : List D} {kds : List (D × D)}, Rps K H O vs ps → pairsT ps = some kds →
    ∃ (as : List Addr) (kvs : List NE), vs = as.map V.ref ∧ Paired (fun p (kv : NE) => SqT K.f H p [.ref kv.2.1, kv.2.2]) as kvs ∧ kvs.map (·.1) = (kds.map (·.1)).map nk ∧ (kds.map (·.1)).all tupK = true ∧ Rps K H O (kvs.map fun p => .ref p.2.1) (kds.map (·.1)) ∧ Rps K H O (kvs.map (·.2.2)) (kds.map (·.2))
  | _, _, kds, .nil, h => by simp [pairsT] at h; subst h; exact ⟨[], [], rfl, .nil, rfl, rfl, .nil, .nil⟩
  | _, d :: ds, kds, .cons r t, h => by
    cases d with
    | tuple xs =>
      match xs, r, h with
      | [k, v], r, h =>
        have h' : (if tupK k = true then (pairsT ds).map ((k, v) :: ·) else none) = some kds := h
        split at h'
        · rename_i hk
          obtain ⟨kds', h1, e⟩ := Option.map_eq_some_iff.mp h'
          subst e
          obtain ⟨as, kvs, e1, p1, e2, t2, q1, q2⟩ := pairsT_rps t h1
          obtain ⟨a, us, ea, sq, ru⟩ := Opd.tup (.inl r)
          subst ea
          cases ru with
          | cons rk ru =>
          cases ru with
          | cons rv ru =>
          cases ru
          obtain ⟨es, rfl, hh⟩ := tupK_hsh hk
          obtain ⟨b, us2, eb, _, _⟩ := Opd.tup (.inl rk)
          subst eb
          exact ⟨a :: as, (nk (.tuple es), b, _) :: kvs, by rw [e1]; rfl, .cons sq p1, by simp [e2], by simp [hk, t2], .cons rk q1, .cons rv q2⟩
        · cases h'
      | [], _, h => simp [pairsT] at h
      | [_], _, h => simp [pairsT] at h
      | _ :: _ :: _ :: _, _, h => simp [pairsT] at h
    | _ => simp [pairsT] at h
def putsN (acc kvs : List NE) : List NE := kvs.foldl (fun acc p => putN acc p.1 p.2.1 p.2.2) acc
theorem NR.puts {acc : List NE} {xs : List (NestedKey × Addr × Value)} (r : NR acc xs) : ∀ {kvs : List NE} {ps : List (NestedKey × Addr × Value)}, NR kvs ps → NR (putsN acc kvs) (storedAllH xs ps) := by
  intro kvs ps q
  induction q generalizing acc xs with
  | nil => exact r
  | @cons p q ps qs h t ih =>
    obtain ⟨h1, h2, h3⟩ := h
    have r1 := r.put p.1 p.2.1 h3
    have e : storedH xs p.1 p.2.1 q.2.2 = storedH xs q.1 q.2.1 q.2.2 := by rw [h1, h2]
    rw [e] at r1
    exact ih r1
theorem putsN_len : ∀ (kvs acc : List NE), (putsN acc kvs).length ≤ acc.length + kvs.length
  | [], acc => Nat.le_refl _
  | p :: kvs, acc => by
    have h := putsN_len kvs (putN acc p.1 p.2.1 p.2.2)
    have h2 := putN_len acc p.1 p.2.1 p.2.2
    show (putsN (putN acc p.1 p.2.1 p.2.2) kvs).length ≤ _
    rw [List.length_cons]
    omega
theorem puts_all {K : Fg} {H : Hp} {O : AS} : ∀ (kvs : List NE) (kds : List (D × D)), kvs.map (·.1) = (kds.map (·.1)).map nk → (kds.map (·.1)).all tupK = true → Rps K H O (kvs.map fun p => .ref p.2.1) (kds.map (·.1)) → Rps K H O (kvs.map (·.2.2)) (kds.map (·.2)) →
    ∀ (acc : List NE) (ks vs : List D), acc.map (·.1) = ks.map nk → ks.all tupK = true → Rps K H O (acc.map fun p => .ref p.2.1) ks → Rps K H O (acc.map (·.2.2)) vs →
    (putsN acc kvs).map (·.1) = (putAll kds ks vs).1.map nk ∧ (putAll kds ks vs).1.all tupK = true ∧ Rps K H O ((putsN acc kvs).map fun p => .ref p.2.1) (putAll kds ks vs).1 ∧ Rps K H O ((putsN acc kvs).map (·.2.2)) (putAll kds ks vs).2
  | [], [], _, _, _, _, acc, ks, vs, e, t, q, r => ⟨e, t, q, r⟩
  | [], _ :: _, h, _, _, _, _, _, _, _, _, _, _ => by simp at h
  | _ :: _, [], h, _, _, _, _, _, _, _, _, _, _ => by simp at h
  | p :: kvs, kd :: kds, h, t0, q0, r0, acc, ks, vs, e, t, q, r => by
    simp only [List.map_cons, List.cons.injEq] at h
    simp only [List.map_cons, List.all_cons, Bool.and_eq_true] at t0
    cases q0 with
    | cons qk q0 =>
    cases r0 with
    | cons rv r0 =>
    obtain ⟨p1, p2, p3, p4⟩ := putN_all t0.1 qk rv e t q r
    have h1 : p.1 = nk kd.1 := h.1
    show (putsN (putN acc p.1 p.2.1 p.2.2) kvs).map (·.1) = (putAll kds (dputK ks kd.1) (dputV ks vs kd.1 kd.2)).1.map nk ∧ _
    rw [← h1] at p1 p3 p4
    exact puts_all kvs kds h.2 t0.2 q0 r0 _ _ _ p1 p2 p3 p4
theorem vals_two {x y : V} {us : List Value} (r : Vals [x, y] us) : ∃ u w, us = [u, w] ∧ RelV x u ∧ RelV y w := by
  cases r with
  | cons a r =>
    cases r with
    | cons b r => cases r; exact ⟨_, _, rfl, a, b⟩
theorem pairsN_of {X : Cx} {pins : List (Addr × Obj)} {σ : Stt} {H : Hp} {s : Shared} (I : Inv X pins σ H s) : ∀ {as : List Addr} {kvs : List NE}, Paired (fun p (kv : NE) => SqT X.K H p [.ref kv.2.1, kv.2.2]) as kvs →
    ∃ ps : List (NestedKey × Addr × Value), NR kvs ps ∧ as.length = ps.length ∧ ∀ (j : Nat) x, ps[j]? = some x → ∃ T, as[j]? = some T ∧ s.heap.IsTuple T #[.ref x.2.1, x.2.2]
  | _, _, .nil => ⟨[], .nil, rfl, fun j x h => by simp at h⟩
  | _, _, .cons (a := T) (b := p) h t => by
    obtain ⟨ps, r, hl, hp⟩ := pairsN_of I t
    obtain ⟨its, rv, pl, _⟩ := I.tuple h
    obtain ⟨u1, v2, ei, r1, r2⟩ := vals_two rv
    subst ei
    cases (show u1 = Value.ref p.2.1 from r1)
    refine ⟨(p.1, p.2.1, v2) :: ps, .cons ⟨rfl, rfl, r2⟩ r, by simp [hl], fun j x hx => ?_⟩
    cases j with
    | zero => simp at hx; subst hx; exact ⟨T, rfl, pl⟩
    | succ j => exact hp j x (by simpa using hx)
theorem call_dictN {X : Cx} (hu : X.A.units + 200 < cLine) (hc : X.calm = true) {pins : List (Addr × Obj)} {σ : Stt} {H : Hp} {s : Shared} {a : Addr} {ws : List V} {ps : List D} {kds : List (D × D)} {O : AS} (I : Inv X pins σ H s) (h1 : SqL X.K H a ws) (r1 : Rps X.fg H O ws ps) (hk : pairsT ps = some kds) {Q : VK}
    (q : ∀ p kvs, H p = none → kvs.map (·.1) = (putAll kds [] []).1.map nk → (putAll kds [] []).1.all tupK = true → Rps X.fg H O (kvs.map fun p => .ref p.2.1) (putAll kds [] []).1 → Rps X.fg H O (kvs.map (·.2.2)) (putAll kds [] []).2 → Q (.ref p) (upd H p (ndO X.w p kvs))) :
    wpAny (model X.prog X.w) X.A (call (.type "dict") [.ref a]) (EP X pins σ Q) X.xe s := by
  obtain ⟨as, kvs, ew, pr, e1, t1, q1, q2⟩ := pairsT_rps r1 hk
  subst ew
  obtain ⟨its, rv, pl, hz⟩ := I.list h1
  have ei := refs_at rv
  subst ei
  rw [List.length_map] at hz
  obtain ⟨prs, rel, hl, hpr⟩ := pairsN_of I pr
  obtain ⟨o, n, ho, hcl, hd, hdat⟩ := pl
  have item : ∀ (j : Nat) (k v : Value), (prs.map fun x => (Value.ref x.2.1, x.2.2))[j]? = some (k, v) → (as.map Value.ref).toArray[j]? = some (.ref (as.getD j 0)) ∧ PairAt s.heap (as.getD j 0) k v := fun j k v e => by
    rw [List.getElem?_map] at e
    obtain ⟨x, hx, e⟩ := Option.map_eq_some_iff.mp e
    cases e
    obtain ⟨T, hT, ht⟩ := hpr j x hx
    have g : as.getD j 0 = T := by rw [List.getD_eq_getElem?_getD, hT]; rfl
    rw [g]
    exact ⟨by simp [hT], .inl ht⟩
  refine call_dict_pairsH (knd := nestedKind X.prog X.w) (ps := prs) (PairArg.list a (as.map Value.ref).toArray (fun j => as.getD j 0) (prs.map fun x => (Value.ref x.2.1, x.2.2))) (I.ok.hd hc) ?_ ⟨⟨o, n, ho, hcl, hd, hdat⟩, by simp [hl], item⟩ ⟨by simp, fun i key v e => ?_⟩ (fun h' keep x hx => ?_) (by simp; omega) fun h' tk dd keep => ?_
  · show (Around.in1 (Around.in1 X.A)).units + 8 < cLine
    rw [Around.in1_units, Around.in1_units]; omega
  · have e : (prs.map fun x => (Value.ref x.2.1, x.2.2))[i]? = some (key, v) := e
    rw [List.getElem?_map] at e
    obtain ⟨x, hx, e⟩ := Option.map_eq_some_iff.mp e
    cases e
    exact ⟨x.1, x.2.1, hx, rfl⟩
  · obtain ⟨k1, k2⟩ := keys_is I rel e1 t1 q1 x hx
    exact ⟨NestedIs.at (fun b ob vs m hb _ => keep b ob (Nat.ne_of_lt (Heap.lt_size hb)) (by simp) hb) _ _ k1, k2⟩
  · have hm : (s.heap.objs.size == sysModules) = false := beq_eq_false_iff_ne.mpr (Nat.ne_of_gt I.big)
    have np : H s.heap.objs.size = none := I.hok.fresh (Nat.le_refl _)
    obtain ⟨p1, p2, p3, p4⟩ := puts_all kvs kds e1 t1 q1 q2 [] [] [] rfl rfl .nil .nil
    have long : (putsN [] kvs).length ≤ sizeLine := by
      have := putsN_len kvs []
      have := Paired.length rel
      simp at *
      omega
    obtain ⟨o2, es, ep, g1, g2, g3, g4, _, g5⟩ := dd
    exact ⟨.ref s.heap.objs.size, upd H s.heap.objs.size (ndO X.w s.heap.objs.size (putsN [] kvs)), I.laid (t' := tk) (fun b ob e => keep b ob (by simp) e) (Nat.le_refl _) (ndO_ok ⟨long, hm, _, NR.puts .nil rel, o2, es, ep, g1, g2, g3, g4, g5⟩), rfl, q _ _ np p1 p2 p3 p4⟩
end MW

set_option Elab.async false
set_option linter.all false
set_option maxRecDepth 100000
/-! MW4: subscripts, slices, built-in functions, methods -/
namespace MW
open PySem PySem.Spec PyProof.Rows L2
section
variable {X : Cx}
def rI (K : Fg) : R2 := fun x y H Q => ∃ O dx dy dz, Muts H O ∧ Opd K H O x dx ∧ Opd K H O y dy ∧ idxD dx dy = some dz ∧ ∀ z H', Nw K H O z dz H' → Q z H'
theorem ix_d (hu : X.A.units + 200 < cLine) : IxR X (rI X.fg) := by
  intro value slice pins s σ H x y v u Q I rx ry h hs
  obtain ⟨O, dx, dy, dz, m, ox, oy, hb, q⟩ := h
  unfold idxD at hb
  split at hb
  · obtain ⟨p, vs, e1, h1, r1⟩ := ox.lst
    have e2 := oy.int
    rename_i xs i
    rw [← ixN_atD] at hb
    obtain ⟨j, hj, hx⟩ := Option.bind_eq_some_iff.mp hb
    obtain ⟨w, hw, rw'⟩ := r1.get hx
    exact ix_list value slice pins s σ H x y v u Q I rx ry ⟨p, vs, i, w, e1, e2, h1, by unfold atI; rw [r1.length, hj]; exact hw, q _ _ (.same rw')⟩ hs
  · obtain ⟨p, vs, e1, h1, r1⟩ := ox.tup
    have e2 := oy.int
    rename_i xs i
    rw [← ixN_atD] at hb
    obtain ⟨j, hj, hx⟩ := Option.bind_eq_some_iff.mp hb
    obtain ⟨w, hw, rw'⟩ := r1.get hx
    exact ix_tup value slice pins s σ H x y v u Q I rx ry ⟨p, vs, i, w, e1, e2, h1, by unfold atI; rw [r1.length, hj]; exact hw, q _ _ (.same rw')⟩ hs
  · rename_i xs i
    split at hb
    · rename_i hf
      obtain ⟨c, hc, e⟩ := Option.map_eq_some_iff.mp hb
      subst e
      rw [← ixN_atD] at hc
      exact ix_str value slice pins s σ H x y v u Q I rx ry ⟨mkS xs, i, c, ox.str, oy.int, by rw [mkS_len]; exact fitL_iff.mp hf, by rw [cps_mkS]; exact hc, q _ _ (.same (Rp.strI [c]))⟩ hs
    · cases hb
  · split at hb
    · rename_i hk
      rw [Bool.and_eq_true] at hk
      obtain ⟨a, rfl, c⟩ := ox.dic
      obtain rfl : v = Value.ref a := rx
      exact tail_any (c.typeIs I) PySem.F.slot_dict_getitem.lookup (dc_get hu I c oy hk.1 hk.2 hb ry fun w w' s' I' r' rw' => ⟨w, H, I', r', q _ _ (.same rw')⟩) hs
    · cases hb
  · cases hb
def rS (K : Fg) : V → Option Int → Option Int → Hp → VK → Prop := fun x lo hi H Q => ∃ O dx dz, Muts H O ∧ Opd K H O x dx ∧ slcD dx lo hi = some dz ∧ ∀ z H', Nw K H O z dz H' → Q z H'
theorem sl_d : SlR X (rS X.fg) := by
  intro pins s σ H x v vl vu lo hi sl Q I rx hs pl pu h
  obtain ⟨O, dx, dz, m, ox, hb, q⟩ := h
  unfold slcD at hb
  split at hb
  · cases hb
    obtain ⟨p, vs, e1, h1, r1⟩ := ox.lst
    refine sl_list pins s σ H x v vl vu lo hi sl Q I rx hs pl pu ⟨p, vs, e1, h1, fun p n => ?_⟩
    rw [← cutD_V]
    exact q _ _ (.lst m n (r1.cut lo hi))
  · cases hb
    obtain ⟨p, vs, e1, h1, r1⟩ := ox.tup
    rename_i xs
    refine sl_tupA pins s σ H x v vl vu lo hi sl Q I rx hs pl pu ⟨p, vs, e1, h1, fun w => ?_, fun w p n => ?_⟩
    · have e : cutD xs lo hi = xs := by
        unfold cutD
        rw [sIxD_eq, sIxD_eq, ← r1.length, w.1, w.2, List.drop_zero, Nat.sub_zero, r1.length, List.take_length]
      rw [e] at q
      exact q _ _ (.same (.tuple h1 r1))
    · rw [← cutD_V]
      exact q _ _ (.tup m n (r1.cut lo hi))
  · rename_i xs
    split at hb
    · cases hb
      rename_i hf
      have e : cutS (mkS xs) lo hi = mkS (cutD xs lo hi) := by
        unfold cutS cutD mkS
        simp [Str.length, sIxD_eq]
      refine sl_str pins s σ H x v vl vu lo hi sl Q I rx hs pl pu ⟨mkS xs, ox.str, by rw [mkS_len]; exact fitL_iff.mp hf, ?_⟩
      rw [e]
      exact q _ _ (.same (Rp.strI _))
    · cases hb
  · cases hb
/-! ### lists of one kind -/
theorem boolsD_V {K : Fg} {H : Hp} {O : AS} : ∀ {vs : List V} {ds : List D} {bs : List Bool}, Rps K H O vs ds → boolsD ds = some bs → vs = bs.map V.bl
  | _, _, _, .nil, h => by simp [boolsD] at h; subst h; rfl
  | _, d :: ds, _, .cons r t, h => by
    cases d with
    | bool b =>
      simp only [boolsD] at h
      obtain ⟨c, hc, e⟩ := Option.map_eq_some_iff.mp h
      subst e
      cases r
      rw [boolsD_V t hc]; rfl
    | _ => simp [boolsD] at h
theorem intsD_V {K : Fg} {H : Hp} {O : AS} : ∀ {vs : List V} {ds : List D} {bs : List Int}, Rps K H O vs ds → intsD ds = some bs → vs = bs.map V.int
  | _, _, _, .nil, h => by simp [intsD] at h; subst h; rfl
  | _, d :: ds, _, .cons r t, h => by
    cases d with
    | int b =>
      simp only [intsD] at h
      obtain ⟨c, hc, e⟩ := Option.map_eq_some_iff.mp h
      subst e
      cases r
      rw [intsD_V t hc]; rfl
    | _ => simp [intsD] at h
theorem strsD_V {K : Fg} {H : Hp} {O : AS} : ∀ {vs : List V} {ds : List D} {bs : List (List Nat)}, Rps K H O vs ds → strsD ds = some bs → vs = (bs.map mkS).map V.str
  | _, _, _, .nil, h => by simp [strsD] at h; subst h; rfl
  | _, d :: ds, _, .cons r t, h => by
    cases d with
    | str b =>
      simp only [strsD] at h
      obtain ⟨c, hc, e⟩ := Option.map_eq_some_iff.mp h
      subst e
      cases r
      rw [strsD_V t hc, List.map_cons, List.map_cons, mkS_cps]
    | _ => simp [strsD] at h
/-! ### built-in functions -/
def tyS : Ty → String
  | .int => "int"
  | .str => "str"
  | .bool => "bool"
  | .tuple => "tuple"
  | .list => "list"
theorem isi_run {pins : List (Addr × Obj)} {s : Shared} {σ : Stt} {H : Hp} {O : AS} {x : V} {v : Value} {d : D} {t : Ty} {b : Bool} {Q : VK} (I : Inv X pins σ H s) (rx : RelV x v) (o : Opd X.fg H O x d) (h : isTy t d = some b) (q : Q (.bl b) H) :
    wpAny (model X.prog X.w) X.A (call (.builtin "isinstance") [v, .type (tyS t)]) (EP X pins σ Q) X.xe s := by
  have go : ∀ {y : Value} {T : String} {P : Heap → Prop}, PySem.W.KitX X.K v (.type T) P → P s.heap → v ≠ .builtin "__main__.__loader__#opaque" → PySem.W.kitOne X.K (.type T) (.type (tyS t)) = some b →
      wpAny (model X.prog X.w) X.A (call (.builtin "isinstance") [v, .type (tyS t)]) (EP X pins σ Q) X.xe s := fun {y T P} Z p hx e =>
    PySem.W.kia_one Z I.kIn p e hx fun tk => ⟨.bl b, H, I.tok tk, rfl, q⟩
  cases d with
  | none =>
    cases o.none; cases (show v = Value.none from rx)
    exact go (y := .none) PySem.W.kitx_none True.intro (fun z => nomatch z) (by cases t <;> (simp only [isTy] at h; cases h; exact kit_ty (by decide +kernel)))
  | bool c =>
    cases o.bool; cases (show v = Value.bool c from rx)
    exact go (y := .none) PySem.W.kitx_bool True.intro (fun z => nomatch z) (by cases t <;> (simp only [isTy] at h; cases h; exact kit_ty (by decide +kernel)))
  | int i =>
    cases o.int; obtain ⟨tk, e⟩ := (show ∃ t, v = Value.int i t from rx); cases e
    exact go (y := .none) PySem.W.kitx_int True.intro (fun z => nomatch z) (by cases t <;> (simp only [isTy] at h; cases h; exact kit_ty (by decide +kernel)))
  | str z =>
    cases o.str; obtain ⟨tk, e⟩ := (show ∃ t, v = Value.str (mkS z) t from rx); cases e
    exact go (y := .none) PySem.W.kitx_str True.intro (fun z => nomatch z) (by cases t <;> (simp only [isTy] at h; cases h; exact kit_ty (by decide +kernel)))
  | list ds =>
    obtain ⟨a, vs, e, h1, _⟩ := o.lst
    subst e
    cases (show v = Value.ref a from rx)
    obtain ⟨its, _, ⟨ob, n, ho, hc, _, _⟩, _⟩ := I.list h1
    exact go (y := .none) PySem.W.kitx_list ⟨ob, ho, hc⟩ (fun z => nomatch z) (by cases t <;> (simp only [isTy] at h; cases h; exact kit_ty (by decide +kernel)))
  | tuple ds =>
    obtain ⟨a, vs, e, h1, _⟩ := o.tup
    subst e
    cases (show v = Value.ref a from rx)
    obtain ⟨its, _, ⟨ob, ho, hc, _⟩, _⟩ := I.tuple h1
    exact go (y := .none) PySem.W.kitx_tuple ⟨ob, ho, hc⟩ (fun z => nomatch z) (by cases t <;> (simp only [isTy] at h; cases h; exact kit_ty (by decide +kernel)))
  | dict ks vs => cases t <;> simp [isTy] at h
theorem repr_run (hu : X.A.units + 200 < cLine) (hg : X.A.guards = some []) {pins : List (Addr × Obj)} {s : Shared} {σ : Stt} {H : Hp} {O : AS} {x : V} {v : Value} {d : D} {Q : VK} (I : Inv X pins σ H s) (rx : RelV x v) (o : Opd X.fg H O x d) (h : shwD d = true)
    (q : Q (.str (py d).shown) H) : wpAny (model X.prog X.w) X.A (call (.builtin "repr") [v]) (EP X pins σ Q) X.xe s := by
  simp only [shwD, Bool.and_eq_true, decide_eq_true_eq] at h
  obtain ⟨⟨h1, h2⟩, h3⟩ := h
  have hz : (py d).shown.length ≤ sizeLine := Nat.le_trans h3 (by decide)
  have fin : ∀ (u : Tok) (tk : Nat), EP X pins σ Q (.str (py d).shown u) { s with toks := tk } := fun u tk => ⟨.str _, H, I.tok tk, ⟨u, rfl⟩, q⟩
  obtain ⟨as, r⟩ := o.reads (shp_dict h1) I rx
  have hd := (shp_lay d 60 h1).2.1
  cases d with
  | none =>
    cases o.none; cases (show v = Value.none from rx)
    exact P.repr_of_none (fin _ _)
  | bool b =>
    cases o.bool; cases (show v = Value.bool b from rx)
    exact P.repr_of_bool (by have := fin s.toks (s.toks + 1); simp only [py, PyData.shown] at this; cases b <;> exact this)
  | int i =>
    cases o.int; obtain ⟨tk, e⟩ := (show ∃ t, v = Value.int i t from rx); cases e
    exact P.repr_of_int (by simpa [py, PyData.showable] using h2) (fin _ _)
  | str z =>
    cases o.str; obtain ⟨tk, e⟩ := (show ∃ t, v = Value.str (mkS z) t from rx); cases e
    exact P.repr_of_str (fin _ _) hz
  | list ds =>
    obtain ⟨a, vs, e, _, _⟩ := o.lst
    subst e
    cases (show v = Value.ref a from rx)
    exact repr_of_reads' r h2 (fun z => by rw [shp_dict h1] at z; cases z) hg (by omega) (fun _ _ e => e) (fun h' u tk k => ⟨.str _, H, I.kept (t' := tk) k, ⟨u, rfl⟩, q⟩) hz
  | tuple ds =>
    obtain ⟨a, vs, e, _, _⟩ := o.tup
    subst e
    cases (show v = Value.ref a from rx)
    exact repr_of_reads' r h2 (fun z => by rw [shp_dict h1] at z; cases z) hg (by omega) (fun _ _ e => e) (fun h' u tk k => ⟨.str _, H, I.kept (t' := tk) k, ⟨u, rfl⟩, q⟩) hz
  | dict ks vs => simp [shp] at h1

/-! ### the call of a built-in function -/
abbrev Opds (K : Fg) (H : Hp) (O : AS) : List V → List D → Prop := Paired (Opd K H O)
theorem Opds.one {K : Fg} {H : Hp} {O : AS} {vs : List V} {d : D} (h : Opds K H O vs [d]) : ∃ v, vs = [v] ∧ Opd K H O v d := by
  cases h with
  | cons a b => cases b; exact ⟨_, rfl, a⟩
theorem Opds.two {K : Fg} {H : Hp} {O : AS} {vs : List V} {d e : D} (h : Opds K H O vs [d, e]) : ∃ v w, vs = [v, w] ∧ Opd K H O v d ∧ Opd K H O w e := by
  cases h with
  | cons a b =>
    cases b with
    | cons b c => cases c; exact ⟨_, _, rfl, a, b⟩
/-- the value that is called -/
def bfV : Bf → Option Value
  | .len => some (.builtin "len")
  | .tuple => some (.type "tuple")
  | .list => some (.type "list")
  | .sorted => some (.builtin "sorted")
  | .all => some (.builtin "all")
  | .any => some (.builtin "any")
  | .sum => some (.builtin "sum")
  | .min1 => some (.builtin "min")
  | .max1 => some (.builtin "max")
  | .min2 => some (.builtin "min")
  | .max2 => some (.builtin "max")
  | .int => some (.type "int")
  | .repr => some (.builtin "repr")
  | .abs => some (.builtin "abs")
  | .dpairs => some (.type "dict")
  | _ => none
theorem alike_all {ds : List D} (h : (ds.all fun d => ds.all fun e => PySem.W.alike (py d) (py e)) = true) : PySem.W.AllAlike (ds.map py) := by
  intro a ha b hb
  obtain ⟨d, hd, rfl⟩ := List.mem_map.mp ha
  obtain ⟨e, he, rfl⟩ := List.mem_map.mp hb
  rw [List.all_eq_true] at h
  have h1 := h d hd
  rw [List.all_eq_true] at h1
  exact h1 e he
theorem sortable_of {ds : List D} (h : sortable ds = true) : PySem.W.AllAlike (ds.map py) ∧ (∀ d ∈ ds, shp 60 d = true) ∧ PySem.W.Sortable (ds.map py) := by
  simp only [sortable, Bool.and_eq_true, Bool.or_eq_true] at h
  obtain ⟨⟨h1, h2⟩, h3⟩ := h
  refine ⟨alike_all h1, fun d hd => List.all_eq_true.mp h2 d hd, ?_⟩
  rcases h3 with h3 | h3
  · refine .inl fun p hp => ?_
    obtain ⟨d, hd, rfl⟩ := List.mem_map.mp hp
    have q := List.all_eq_true.mp h3 d hd
    cases d with
    | tuple xs =>
      cases xs with
      | nil => simp at q
      | cons x xs => exact ⟨py x, pys xs, by rw [py, pys]⟩
    | _ => simp at q
  · refine .inr fun p hp => ?_
    obtain ⟨d, hd, rfl⟩ := List.mem_map.mp hp
    have q := List.all_eq_true.mp h3 d hd
    cases d <;> simp at q <;> simp [py]
theorem zip_rp {K : Fg} {H : Hp} {O : AS} : ∀ {vs : List V} {ds : List D}, Rps K H O vs ds → ∀ p ∈ vs.zip ds, Rp K H O p.1 p.2
  | _, _, .nil => fun _ h => by simp at h
  | _, _, .cons r t => fun p h => by
    rw [List.zip_cons_cons] at h
    rcases List.mem_cons.mp h with rfl | h
    · exact r
    · exact zip_rp t p h
theorem unzip_rp {K : Fg} {H : Hp} {O : AS} : ∀ (l : List (V × D)), (∀ p ∈ l, Rp K H O p.1 p.2) → Rps K H O (l.map (·.1)) (l.map (·.2))
  | [], _ => .nil
  | p :: l, h => .cons (h p List.mem_cons_self) (unzip_rp l fun q hq => h q (List.mem_cons_of_mem _ hq))
theorem each_rel : ∀ {vs : List V} {us : List Value} {ds : List D}, Vals vs us → vs.length = ds.length → PySem.W.EachIs (fun u (p : V × D) => RelV p.1 u) us (vs.zip ds)
  | _, _, [], .nil, _ => .nil
  | _, _, d :: ds, .cons r t, h => by rw [List.zip_cons_cons]; exact .cons r (each_rel t (by simpa using h))
theorem vals_each : ∀ {out : List Value} {l : List (V × D)}, PySem.W.EachIs (fun u (p : V × D) => RelV p.1 u) out l → Vals (l.map (·.1)) out
  | _, _, .nil => .nil
  | _, _, .cons r t => .cons r (vals_each t)
/-- values that read as their data -/
theorem each_reads {H : Hp} {O : AS} {pins : List (Addr × Obj)} {s : Shared} {σ : Stt} (I : Inv X pins σ H s) : ∀ {vs : List V} {its : List Value} {ds : List D}, Vals vs its → Rps X.fg H O vs ds → (∀ d ∈ ds, shp 60 d = true) → PySem.W.EachIs (fun u (p : V × D) => ∃ as, Reads s.heap u (py p.2) as) its (vs.zip ds)
  | [], _, _, r, rp, _ => by cases r; cases rp; exact .nil
  | v :: vs, _, _, r, rp, hsh => by
    cases r with
    | cons r t =>
      cases rp with
      | cons rp tp =>
        rw [List.zip_cons_cons]
        exact .cons (Opd.reads (.inl rp) (shp_dict (hsh _ List.mem_cons_self)) I r) (each_reads I t tp fun d hd => hsh d (List.mem_cons_of_mem _ hd))
/-- what sorted does behind the collecting -/
theorem sort_tail {A : Around} (hu : A.units + 100 < cLine) {pins : List (Addr × Obj)} {s : Shared} {σ : Stt} {H : Hp} {O : AS} {us : List Value} {vs : List V} {ds : List D} {Q : VK} {E : Value → Shared → Prop} {R : PySem.Fin → Shared → Prop} (I : Inv X pins σ H s) (m : Muts H O)
    (r : Vals vs us) (rp : Rps X.fg H O vs ds) (hn : ds.length ≤ sizeLine) (hs : sortable ds = true) (q : ∀ p ws, H p = none → Rps X.fg H O ws (ds.mergeSort leD) → Q (.ref p) (upd H p (.lst ws))) (hR : ∀ p s', EP X pins σ Q (.ref p) s' → R (.done (.ret (.ref p))) s') :
    wpAny (model X.prog X.w) A (do let l ← newList us; let _ ← holding [l] (call (.builtin "list.sort") [l] []); ret l) R E s := by
  obtain ⟨h1, h2, h3⟩ := sortable_of hs
  have hl : us.length = ds.length := by rw [← r.length, rp.length]
  have e1 := each_rel r rp.length
  have hmap : (vs.zip ds).map (fun p => py p.2) = ds.map py := by
    show (vs.zip ds).map (py ∘ Prod.snd) = _
    rw [← List.map_map, List.map_snd_zip (by rw [rp.length]; exact Nat.le_refl _)]
  refine wpAny_bind (wpAny_newList ?_ (by rw [hl]; exact hn))
  have ho : (s.heap.push (seqObj "list" us.toArray 0)).get? s.heap.objs.size = some (seqObj "list" us.toArray 0) := Heap.get?_push_size _ rfl
  have er : PySem.W.EachIs (fun v (b : V × D) => ∃ as, Reads (PySem.W.sortingHeap (s.heap.push (seqObj "list" us.toArray 0)) s.heap.objs.size us) v (py b.2) as) us (vs.zip ds) :=
    (each_reads I r rp h2).mono fun _ _ ⟨as, q⟩ => ⟨as, PyProof.Rows.Reads.keeps (fun b o e => PySem.W.sortingHeap_old (Nat.ne_of_lt (Heap.lt_size e)) (Heap.get?_push_of_some _ e)) q⟩
  refine wpAny_bind (wpAny_holding (wpAny_call_entry PyProof.Rows.slot_list_sort ⟨_, ho, rfl⟩ PyProof.Rows.entry_list_sort (PySem.W.list_sort_vals (κ := PySem.W.dataKind (PySem.W.sortingHeap (s.heap.push (seqObj "list" us.toArray 0)) s.heap.objs.size us) ((vs.zip ds).map fun p => py p.2)) ho
    (PySem.W.SortsAt.data (s := { s with heap := PySem.W.sortingHeap (s.heap.push (seqObj "list" us.toArray 0)) s.heap.objs.size us }) (PySem.W.each_map (R := fun v d => ∃ as, Reads (PySem.W.sortingHeap (s.heap.push (seqObj "list" us.toArray 0)) s.heap.objs.size us) v d as) (fun p : V × D => py p.2) er) (by rw [hmap]; exact h1) (by rw [hmap]; exact h3) (PySem.W.bound_map fun p hp => ?_)) (by rw [hl]; exact hn) ⟨_, rfl, ?_⟩) (PyProof.Rows.args_list_sort _)))
  · have hd := (shp_lay p.2 60 (h2 p.2 (List.of_mem_zip hp).2)).2.1
    simp only [Around.in1_units]
    omega
  · have eo := PySem.W.sortVals_data (R := fun u (p : V × D) => RelV p.1 u) false e1 er (by rw [hmap]; exact h1)
    have er2 : (((vs.zip ds).mergeSort (PySem.W.dataLe false fun p : V × D => py p.2)).map (·.2)) = ds.mergeSort leD := by
      refine (List.map_mergeSort (r := PySem.W.dataLe false fun p : V × D => py p.2) (s := leD) (f := Prod.snd) (l := vs.zip ds) (fun x _ y _ => rfl)).trans ?_
      rw [List.map_snd_zip (by rw [rp.length]; exact Nat.le_refl _)]
    have rv := vals_each eo
    have rr : Rps X.fg H O (((vs.zip ds).mergeSort (PySem.W.dataLe false fun p : V × D => py p.2)).map (·.1)) (ds.mergeSort leD) := by
      rw [← er2]
      exact unzip_rp _ fun p hp => zip_rp rp p ((List.mergeSort_perm _ _).mem_iff.mp hp)
    obtain ⟨c, hc⟩ := PyProof.Rows.sortedHeap_at (vs := us) (out := (PySem.W.sortVals (PySem.W.dataKind (PySem.W.sortingHeap (s.heap.push (seqObj "list" us.toArray 0)) s.heap.objs.size us) ((vs.zip ds).map fun p => py p.2)) false us us).toArray) ho
    refine wpAny_pure (hR _ _ ⟨.ref s.heap.objs.size, _, I.laid (t' := s.toks) (o := .lst (((vs.zip ds).mergeSort (PySem.W.dataLe false fun p : V × D => py p.2)).map (·.1))) (fun b ob e => ?_) (Nat.le_refl _) ?_, rfl, q _ _ (I.hok.fresh (Nat.le_refl _)) rr⟩)
    · have hb := Heap.lt_size e
      rw [PyProof.Rows.sortedHeap_old (Nat.ne_of_lt hb) (by rw [size_push']; exact Nat.lt_succ_of_lt hb)]
      exact Heap.get?_push_of_some _ e
    · exact ⟨by rw [rr.length, List.length_mergeSort]; exact hn, _, c, rv, hc⟩
/-- sorted of a list that reads as data -/
theorem sorted_run (hu : X.A.units + 200 < cLine) {pins : List (Addr × Obj)} {s : Shared} {σ : Stt} {H : Hp} {O : AS} {a : Addr} {its : List Value} {vs : List V} {ds : List D} {Q : VK} (I : Inv X pins σ H s) (m : Muts H O)
    (hl : s.heap.IsList a its.toArray) (r : Vals vs its) (rp : Rps X.fg H O vs ds) (hn : ds.length ≤ sizeLine) (hs : sortable ds = true) (q : ∀ p ws, H p = none → Rps X.fg H O ws (ds.mergeSort leD) → Q (.ref p) (upd H p (.lst ws))) :
    wpAny (model X.prog X.w) X.A (call (.builtin "sorted") [.ref a]) (EP X pins σ Q) X.xe s := by
  obtain ⟨h1, h2, h3⟩ := sortable_of hs
  have e1 := each_rel r rp.length
  have em : ∀ (vs : List V) (its : List Value) (ds : List D), Vals vs its → Rps X.fg H O vs ds → (∀ d ∈ ds, shp 60 d = true) → PySem.W.EachIs (fun u (p : V × D) => ∃ as, Reads s.heap u (py p.2) as) its (vs.zip ds) := by
    intro vs
    induction vs with
    | nil => intro its ds r rp _; cases r; cases rp; exact .nil
    | cons v vs ih =>
      intro its ds r rp hsh
      cases r with
      | cons r t =>
        cases rp with
        | cons rp tp =>
          rw [List.zip_cons_cons]
          exact .cons (Opd.reads (.inl rp) (shp_dict (hsh _ List.mem_cons_self)) I r) (ih _ _ t tp fun d hd => hsh d (List.mem_cons_of_mem _ hd))
  have hmap : (vs.zip ds).map (fun p => py p.2) = ds.map py := by
    show (vs.zip ds).map (py ∘ Prod.snd) = _
    rw [← List.map_map, List.map_snd_zip (by rw [rp.length]; exact Nat.le_refl _)]
  refine PySem.W.sorted_data (enc := fun p : V × D => py p.2) hl e1 (em vs its ds r rp h2) (by rw [hmap]; exact h1) (by rw [hmap]; exact h3) (by rw [List.length_zip, rp.length, Nat.min_self]; exact hn) (fun p hp => ?_) fun out ho eo => ?_
  · have hd := (shp_lay p.2 60 (h2 p.2 (List.of_mem_zip hp).2)).2.1
    omega
  · have er : (((vs.zip ds).mergeSort (PySem.W.dataLe false fun p : V × D => py p.2)).map (·.2)) = ds.mergeSort leD := by
      refine (List.map_mergeSort (r := PySem.W.dataLe false fun p : V × D => py p.2) (s := leD) (f := Prod.snd) (l := vs.zip ds) (fun x _ y _ => rfl)).trans ?_
      rw [List.map_snd_zip (by rw [rp.length]; exact Nat.le_refl _)]
    have rv := vals_each eo
    have rr : Rps X.fg H O (((vs.zip ds).mergeSort (PySem.W.dataLe false fun p : V × D => py p.2)).map (·.1)) (ds.mergeSort leD) := by
      rw [← er]
      exact unzip_rp _ fun p hp => zip_rp rp p ((List.mergeSort_perm _ _).mem_iff.mp hp)
    obtain ⟨c, hc⟩ := PyProof.Rows.sortedAll_at s.heap its out.toArray
    refine ⟨.ref (s.heap.objs.size + 1), _, I.laid (t' := s.toks) (o := .lst (((vs.zip ds).mergeSort (PySem.W.dataLe false fun p : V × D => py p.2)).map (·.1))) (fun b ob e => PyProof.Rows.sortedAll_old e) (Nat.le_succ _) ?_, rfl, q _ _ (I.hok.fresh (Nat.le_succ _)) rr⟩
    exact ⟨by rw [rr.length, List.length_mergeSort]; exact hn, out, c, rv, hc⟩
/-- sorted of a tuple -/
theorem sorted_tup (hu : X.A.units + 200 < cLine) (hc : X.calm = true) {pins : List (Addr × Obj)} {s : Shared} {σ : Stt} {H : Hp} {O : AS} {a : Addr} {vs : List V} {ds : List D} {Q : VK} (I : Inv X pins σ H s) (m : Muts H O)
    (h : SqT X.fg.f H a vs) (rp : Rps X.fg H O vs ds) (hs : sortable ds = true) (q : ∀ p ws, H p = none → Rps X.fg H O ws (ds.mergeSort leD) → Q (.ref p) (upd H p (.lst ws))) :
    wpAny (model X.prog X.w) X.A (call (.builtin "sorted") [.ref a]) (EP X pins σ Q) X.xe s := by
  obtain ⟨its, rv, ⟨o, ho, ty, n, hd⟩, hz⟩ := I.tuple h
  refine Calls.call_function_entry PyProof.Rows.kind_sorted PyProof.Rows.plain_sorted PyProof.Rows.entry_sorted (PyProof.Rows.args_sorted1 _) ?_
  unfold Builtin.«sorted»
  refine wpAny_bind (m := checkCount "sorted" 1 1 _) (wpAny_pure ?_)
  refine wpAny_bind (wpAny_collect_seq (A := X.A.in1) a (T := "tuple") (.inr rfl) ho ty hd (fun h' hk => ?_) (by rw [List.size_toArray, ← rv.length]; exact hz))
  have I1 : Inv X pins σ H { s with heap := h' } := I.kept (t' := s.toks) hk
  exact sort_tail (by simp only [Around.in1_units]; omega) I1 m rv rp (by rw [← rp.length]; exact hz) hs q fun p s' hp => ⟨_, rfl, hp⟩
theorem ints_tup : ∀ {ks : List D} {ns : List Int}, ks.all tupK = true → intsD ks = some ns → ks = [] ∧ ns = []
  | [], ns, _, h => by simp [intsD] at h; exact ⟨rfl, h⟩
  | k :: r, ns, t, h => by
    rw [List.all_cons, Bool.and_eq_true] at t
    obtain ⟨ds, rfl, _⟩ := tupK_hsh t.1
    simp [intsD] at h
/-- sorted of a dict by tuples -/
theorem sorted_dn (hu : X.A.units + 200 < cLine) (hc : X.calm = true) {pins : List (Addr × Obj)} {s : Shared} {σ : Stt} {H : Hp} {O : AS} {a : Addr} {kvs : List NE} {ks : List D} {Q : VK} (I : Inv X pins σ H s) (m : Muts H O)
    (h : H a = some (ndO X.w a kvs)) (e : kvs.map (·.1) = ks.map nk) (rk : Rps X.fg H O (kvs.map fun p => .ref p.2.1) ks) (hs : sortable ks = true) (q : ∀ p ws, H p = none → Rps X.fg H O ws (ks.mergeSort leD) → Q (.ref p) (upd H p (.lst ws))) :
    wpAny (model X.prog X.w) X.A (call (.builtin "sorted") [.ref a]) (EP X pins σ Q) X.xe s := by
  obtain ⟨z, hd, xs, rel, o, es, ep, h1, h2, h3, h4, h5⟩ := ndO_at I h
  have l1 : kvs.length = xs.length := Paired.length rel
  have l2 : es.size = xs.length := by rw [← Array.length_toList, h4, List.length_map]
  have l3 : kvs.length = ks.length := by simpa using congrArg List.length e
  refine Calls.call_function_entry PyProof.Rows.kind_sorted PyProof.Rows.plain_sorted PyProof.Rows.entry_sorted (PyProof.Rows.args_sorted1 _) ?_
  unfold Builtin.«sorted»
  refine wpAny_bind (m := checkCount "sorted" 1 1 _) (wpAny_pure ?_)
  refine wpAny_bind (PySem.W.kdu_collect (A := X.A.in1) (KdlSrc.rawDict (es := es) (ep := ep) hd) (I.ok.hd hc) ⟨o, h1, h2, h3⟩ (by omega) fun h' tk acc hk hacc => ?_)
  have I1 : Inv X pins σ H { s with heap := h', toks := tk } := I.kept hk
  have ea : acc.toList = xs.map fun x => Value.ref x.2.1 := by
    apply List.ext_getElem?
    intro j
    rw [Array.getElem?_toList, List.getElem?_map]
    cases hj : acc[j]? with
    | none =>
      have : xs.length ≤ j := by
        have := Array.getElem?_eq_none_iff.mp hj
        have := hacc.1
        omega
      rw [List.getElem?_eq_none this]; rfl
    | some v =>
      obtain ⟨hj2, ev⟩ := hacc.2 j v hj
      have e5 : es.toList[j]? = some es[j] := by rw [Array.getElem?_toList]; exact Array.getElem?_eq_getElem hj2
      rw [h4, List.getElem?_map] at e5
      cases hx : xs[j]? with
      | none => rw [hx] at e5; cases e5
      | some x =>
        rw [hx] at e5
        have e6 := Option.some.inj e5
        rw [ev, ← e6]; rfl
  have rv : Vals (kvs.map fun p => V.ref p.2.1) acc.toList := by
    rw [ea]
    clear ea hacc h4 h5 l1 l2 l3 e rk h z
    induction rel with
    | nil => exact .nil
    | @cons p q ps qs hp t ih =>
      rw [List.map_cons, List.map_cons]
      exact .cons (by show Value.ref q.2.1 = Value.ref p.2.1; rw [hp.2.1]) ih
  exact sort_tail (by simp only [Around.in1_units]; omega) I1 m rv rk (by rw [← l3]; exact z) hs q fun p s' hp => ⟨_, rfl, hp⟩
theorem rps_ints' {K : Fg} {H : Hp} {O : AS} : ∀ ns : List Int, Rps K H O (ns.map V.int) (ns.map D.int)
  | [] => .nil
  | n :: ns => .cons (.int n) (rps_ints' ns)
theorem intsD_keys : ∀ {kvs : List (Key × V)} {ns : List Int}, intsD (kvs.map fun p => kD p.1) = some ns → kvs.map (·.1) = ns.map Sum.inl
  | [], ns, h => by simp [intsD] at h; subst h; rfl
  | (k, v) :: kvs, ns, h => by
    cases k with
    | inl i =>
      simp only [List.map_cons, kD, intsD] at h
      obtain ⟨l, hl, e⟩ := Option.map_eq_some_iff.mp h
      subst e
      rw [List.map_cons, List.map_cons, intsD_keys hl]
    | inr x => simp [kD, intsD] at h
theorem sorted_eq : ∀ {a b : List Int}, a.Pairwise (· ≤ ·) → b.Pairwise (· ≤ ·) → a.Perm b → a = b
  | [], b, _, _, p => by have := p.length_eq; cases b <;> simp_all
  | x :: a, [], _, _, p => by have := p.length_eq; simp at this
  | x :: a, y :: b, ha, hb, p => by
    obtain ⟨a1, a2⟩ := List.pairwise_cons.mp ha
    obtain ⟨b1, b2⟩ := List.pairwise_cons.mp hb
    have e : x = y := by
      have h1 : x ∈ y :: b := p.mem_iff.mp List.mem_cons_self
      have h2 : y ∈ x :: a := p.mem_iff.mpr List.mem_cons_self
      rcases List.mem_cons.mp h1 with q | q
      · exact q
      · rcases List.mem_cons.mp h2 with z | z
        · exact z.symm
        · have := a1 y z; have := b1 x q; omega
    subst e
    rw [sorted_eq a2 b2 (List.perm_cons x |>.mp p)]
theorem pairs_rps {K : Fg} {H : Hp} {O : AS} : ∀ {vs : List V} {ps : List D} {kds : List (D × D)}, Rps K H O vs ps → pairsD ps = some kds →
    ∃ (as : List Addr) (kvs : List (Key × V)), vs = as.map V.ref ∧ Paired (fun p kv => SqT K.f H p [kV kv.1, kv.2]) as kvs ∧ kds.map (·.1) = kvs.map (fun p => kD p.1) ∧ Rps K H O (kvs.map (·.2)) (kds.map (·.2))
  | _, _, kds, .nil, h => by simp [pairsD] at h; subst h; exact ⟨[], [], rfl, .nil, rfl, .nil⟩
  | _, d :: ds, kds, .cons r t, h => by
    cases d with
    | tuple xs =>
      match xs, r, h with
      | [k, v], r, h =>
        have h' : (if (isKey k && !isTup k) = true then (pairsD ds).map ((k, v) :: ·) else none) = some kds := h
        split at h'
        · rename_i hk
          obtain ⟨l, hl, e⟩ := Option.map_eq_some_iff.mp h'
          subst e
          obtain ⟨as, kvs, e1, pr, e2, r2⟩ := pairs_rps t hl
          obtain ⟨a, us, ea, h1, ru⟩ := Opd.tup (.inl r)
          cases ru with
          | cons rk t2 =>
            cases t2 with
            | cons rv t3 =>
              cases t3
              obtain ⟨kk, ek, ek2⟩ := key_opd (.inl rk) (by rw [Bool.and_eq_true] at hk; exact hk.1) (by rw [Bool.and_eq_true] at hk; simpa using hk.2)
              subst ek
              refine ⟨a :: as, (kk, _) :: kvs, by rw [ea, e1]; rfl, .cons h1 pr, ?_, .cons rv r2⟩
              rw [List.map_cons, List.map_cons, e2, ek2]
        · cases h'
      | [], r, h => simp [pairsD] at h
      | [_], r, h => simp [pairsD] at h
      | _ :: _ :: _ :: _, r, h => simp [pairsD] at h
    | _ => simp [pairsD] at h
theorem merge_rps {K : Fg} {H : Hp} {O : AS} : ∀ (kvs : List (Key × V)) (kds : List (D × D)), kds.map (·.1) = kvs.map (fun p => kD p.1) → Rps K H O (kvs.map (·.2)) (kds.map (·.2)) →
    ∀ (acc : List (Key × V)) (ks vs : List D), ks = acc.map (fun p => kD p.1) → Rps K H O (acc.map (·.2)) vs → (putAll kds ks vs).1 = (mergeK acc kvs).map (fun p => kD p.1) ∧ Rps K H O ((mergeK acc kvs).map (·.2)) (putAll kds ks vs).2
  | [], [], _, _, acc, ks, vs, e, r => ⟨e, r⟩
  | [], _ :: _, h, _, _, _, _, _, _ => by simp at h
  | _ :: _, [], h, _, _, _, _, _, _ => by simp at h
  | kv :: kvs, kd :: kds, h, rr, acc, ks, vs, e, r => by
    simp only [List.map_cons, List.cons.injEq] at h
    cases rr with
    | cons rv t =>
      obtain ⟨p1, p2⟩ := put_rps (k := kv.1) rv r
      have := merge_rps kvs kds h.2 t (putK acc kv.1 kv.2) (dputK ks kd.1) (dputV ks vs kd.1 kd.2) (by rw [h.1, e]; exact p1.symm) (by rw [h.1, e]; exact p2)
      exact this
/-- list of a text -/
theorem lstr_run (hc : X.calm = true) {pins : List (Addr × Obj)} {s : Shared} {σ : Stt} {H : Hp} {O : AS} {v : V} {u : Value} {x : List Nat} {Q : VK} (I : Inv X pins σ H s) (o1 : Opd X.fg H O v (.str x)) (ru : RelV v u) (hl : fitL x.length = true)
    (q : ∀ p ws, H p = none → Rps X.fg H O ws (x.map fun c => D.str [c]) → Q (.ref p) (upd H p (.lst ws))) : wpAny (model X.prog X.w) X.A (call (.type "list") [u]) (EP X pins σ Q) X.xe s := by
  have ev := o1.str
  subst ev
  obtain ⟨t, rfl⟩ := ru
  have hsz : (mkS x).cps.size = x.length := by simp [mkS]
  refine call_list_str (hn := by rw [hsz]; exact fitL_iff.mp hl) (I.ok.hd hc) (mkS x) t fun h' tk acc c' hk he hi => ?_
  have hlen : acc.toList.length = x.length := by rw [Array.length_toList, ← hsz]; exact hi.1
  have vs : Vals ((List.range acc.toList.length).map fun j => V.str (mkS [x.getD j 0])) acc.toList := vals_of_get acc.toList _ fun j u hj => by
    have hj' : acc[j]? = some u := by rw [← hj, Array.getElem?_toList]
    have hlt : j < x.length := by have := (List.getElem?_eq_some_iff.mp hj).1; omega
    obtain ⟨c, tk', q1, q2⟩ := hi.2 j u hj'
    have : c = x.getD j 0 := by
      have e1 : (mkS x).cps[j]? = some (x.getD j 0) := by simp [mkS, hlt]
      rw [e1] at q1; cases q1; rfl
    subst this
    exact ⟨tk', q2⟩
  have rp : ∀ n, n ≤ x.length → Rps X.fg H O ((List.range n).map fun j => V.str (mkS [x.getD j 0])) ((x.take n).map fun c => D.str [c]) := by
    intro n
    induction n with
    | zero => intro _; exact .nil
    | succ n ih =>
      intro hn
      have hlt : n < x.length := by omega
      rw [List.range_succ, List.map_append, List.take_succ_eq_append_getElem hlt, List.map_append]
      refine (ih (by omega)).append (.cons ?_ .nil)
      have : x.getD n 0 = x[n] := by simp [hlt]
      show Rp X.fg H O (V.str (mkS [x.getD n 0])) (D.str [x[n]])
      rw [this]
      exact Rp.strI _
  have rp' := rp x.length (Nat.le_refl _)
  rw [List.take_length, ← hlen] at rp'
  refine ⟨.ref s.heap.objs.size, _, I.laid (t' := tk) (o := .lst ((List.range acc.toList.length).map fun j => V.str (mkS [x.getD j 0]))) hk (Nat.le_refl _) ?_, rfl, q _ _ (I.hok.fresh (Nat.le_refl _)) rp'⟩
  exact ⟨by rw [List.length_map, List.length_range, hlen]; exact fitL_iff.mp hl, acc.toList, c', vs, by rw [Array.toArray_toList]; exact he⟩
theorem bi_run (hu : X.A.units + 200 < cLine) (hg : X.A.guards = some []) (hc : X.calm = true) (f : Bf) (g : Value) (hf : bfV f = some g) {pins : List (Addr × Obj)} {s : Shared} {σ : Stt} {H : Hp} {O : AS} {vs : List V} {us : List Value} {ds : List D} {dz : D} {Q : VK}
    (I : Inv X pins σ H s) (r : Vals vs us) (o : Opds X.fg H O vs ds) (m : Muts H O) (h : biD f ds = some dz) (q : ∀ z H', Nw X.fg H O z dz H' → Q z H') : wpAny (model X.prog X.w) X.A (call g us) (EP X pins σ Q) X.xe s := by
  unfold biD at h
  split at h
  · split at h
    · cases h; cases hf
      rename_i hl
      obtain ⟨v, rfl, o1⟩ := o.one
      exact call_len_str pins s σ H _ us Q I r ⟨_, by rw [o1.str], by rw [mkS_len]; exact fitL_iff.mp hl, by rw [mkS_len]; exact q _ _ (.same (.int _))⟩
    · cases h
  · cases h; cases hf
    obtain ⟨v, rfl, o1⟩ := o.one
    obtain ⟨p, ws, rfl, h1, r1⟩ := o1.lst
    exact call_len_seq pins s σ H _ us Q I r ⟨_, _, rfl, .inl h1, by rw [r1.length]; exact q _ _ (.same (.int _))⟩
  · cases h; cases hf
    obtain ⟨v, rfl, o1⟩ := o.one
    obtain ⟨p, ws, rfl, h1, r1⟩ := o1.tup
    exact call_len_seq pins s σ H _ us Q I r ⟨_, _, rfl, .inr h1, by rw [r1.length]; exact q _ _ (.same (.int _))⟩
  · cases h; cases hf
    obtain ⟨v, rfl, o1⟩ := o.one
    obtain ⟨p, ws, rfl, h1, r1⟩ := o1.lst
    exact call_tuple_of pins s σ H _ us Q I r ⟨_, _, rfl, .inl ⟨h1, fun l n => q _ _ (.tup m n r1)⟩⟩
  · cases h; cases hf
    obtain ⟨v, rfl, o1⟩ := o.one
    obtain ⟨p, ws, rfl, h1, r1⟩ := o1.tup
    exact call_tuple_of pins s σ H _ us Q I r ⟨_, _, rfl, .inr ⟨h1, q _ _ (.same (.tuple h1 r1))⟩⟩
  · cases h; cases hf
    obtain ⟨v, rfl, o1⟩ := o.one
    obtain ⟨p, ws, rfl, h1, r1⟩ := o1.lst
    exact call_list_of pins s σ H _ us Q I r ⟨_, _, rfl, .inl h1, fun l n => q _ _ (.lst m n r1)⟩
  · cases h; cases hf
    obtain ⟨v, rfl, o1⟩ := o.one
    obtain ⟨p, ws, rfl, h1, r1⟩ := o1.tup
    exact call_list_of pins s σ H _ us Q I r ⟨_, _, rfl, .inr h1, fun l n => q _ _ (.lst m n r1)⟩
  · split at h
    · cases h; cases hf
      rename_i hs
      obtain ⟨v, rfl, o1⟩ := o.one
      obtain ⟨p, ws, rfl, h1, r1⟩ := o1.lst
      obtain ⟨u, rfl, ru⟩ := vals1 r
      cases (show u = Value.ref p from ru)
      obtain ⟨its, rv, pl, hz⟩ := I.list h1
      exact sorted_run hu I m pl.isList rv r1 (by rw [← r1.length]; exact hz) hs fun p ws n r => q _ _ (.lst m n r)
    · cases h
  · split at h
    · cases h; cases hf
      rename_i hs
      obtain ⟨v, rfl, o1⟩ := o.one
      obtain ⟨p, ws, rfl, h1, r1⟩ := o1.tup
      obtain ⟨u, rfl, ru⟩ := vals1 r
      cases (show u = Value.ref p from ru)
      exact sorted_tup hu hc I m h1 r1 hs fun p ws n r => q _ _ (.lst m n r)
    · cases h
  · cases hf
  · cases hf
  · obtain ⟨bs, hb, e⟩ := Option.map_eq_some_iff.mp h
    subst e; cases hf
    obtain ⟨v, rfl, o1⟩ := o.one
    obtain ⟨p, ws, rfl, h1, r1⟩ := o1.lst
    exact cr_all hc pins s σ H _ us Q I r ⟨_, _, rfl, by rw [← boolsD_V r1 hb]; exact h1, q _ _ (.same (.bool _))⟩
  · obtain ⟨bs, hb, e⟩ := Option.map_eq_some_iff.mp h
    subst e; cases hf
    obtain ⟨v, rfl, o1⟩ := o.one
    obtain ⟨p, ws, rfl, h1, r1⟩ := o1.lst
    exact cr_any hc pins s σ H _ us Q I r ⟨_, _, rfl, by rw [← boolsD_V r1 hb]; exact h1, q _ _ (.same (.bool _))⟩
  · cases h; cases hf
    obtain ⟨v, rfl, o1⟩ := o.one
    exact call_int1 pins s σ H _ us Q I r (.inr ⟨_, by rw [o1.bool], q _ _ (.same (.int _))⟩)
  · cases h; cases hf
    obtain ⟨v, rfl, o1⟩ := o.one
    exact call_int1 pins s σ H _ us Q I r (.inl ⟨_, by rw [o1.int], q _ _ (.same (.int _))⟩)
  · split at h
    · cases h; cases hf
      rename_i hs
      obtain ⟨v, rfl, o1⟩ := o.one
      obtain ⟨u, rfl, ru⟩ := vals1 r
      exact repr_run hu hg I ru o1 hs (q _ _ (.same (.str _)))
    · cases h
  · cases h; cases hf
    obtain ⟨v, rfl, o1⟩ := o.one
    exact call_abs pins s σ H _ us Q I r ⟨_, by rw [o1.int], q _ _ (.same (.int _))⟩
  · cases hf
  · cases h; cases hf
    obtain ⟨v, w, rfl, o1, o2⟩ := o.two
    exact call_min2 hc pins s σ H _ us Q I r ⟨_, _, by rw [o1.int, o2.int], q _ _ (.same (.int _))⟩
  · cases h; cases hf
    obtain ⟨v, w, rfl, o1, o2⟩ := o.two
    exact call_max2 hc pins s σ H _ us Q I r ⟨_, _, by rw [o1.int, o2.int], q _ _ (.same (.int _))⟩
  · obtain ⟨is, hi, h⟩ := Option.bind_eq_some_iff.mp h
    obtain ⟨k, hk, e⟩ := Option.map_eq_some_iff.mp h
    subst e; cases hf
    obtain ⟨v, rfl, o1⟩ := o.one
    obtain ⟨p, ws, rfl, h1, r1⟩ := o1.lst
    have ev := intsD_V r1 hi
    have hlen : is.length = ws.length := by rw [ev, List.length_map]
    have r1l := r1.length
    refine cr_min hc pins s σ H _ us Q I r ⟨_, is, rfl, by rw [← ev]; exact h1, by rw [hlen, r1l]; simp, fun j hj hle => ?_⟩
    have e : j = k := by
      have a1 := hle k (List.min?_mem hk)
      have a2 := (List.min?_eq_some_iff.mp hk).2 j hj
      omega
    rw [e]
    exact q _ _ (.same (.int _))
  · obtain ⟨is, hi, h⟩ := Option.bind_eq_some_iff.mp h
    obtain ⟨k, hk, e⟩ := Option.map_eq_some_iff.mp h
    subst e; cases hf
    obtain ⟨v, rfl, o1⟩ := o.one
    obtain ⟨p, ws, rfl, h1, r1⟩ := o1.lst
    have ev := intsD_V r1 hi
    have hlen : is.length = ws.length := by rw [ev, List.length_map]
    have r1l := r1.length
    refine cr_max hc pins s σ H _ us Q I r ⟨_, is, rfl, by rw [← ev]; exact h1, by rw [hlen, r1l]; simp, fun j hj hle => ?_⟩
    have e : j = k := by
      have a1 := hle k (List.max?_mem hk)
      have a2 := (List.max?_eq_some_iff.mp hk).2 j hj
      omega
    rw [e]
    exact q _ _ (.same (.int _))
  · obtain ⟨is, hi, e⟩ := Option.map_eq_some_iff.mp h
    subst e; cases hf
    obtain ⟨v, rfl, o1⟩ := o.one
    obtain ⟨p, ws, rfl, h1, r1⟩ := o1.lst
    exact cr_sum hc pins s σ H _ us Q I r ⟨_, is, rfl, by rw [← intsD_V r1 hi]; exact h1, q _ _ (.same (.int _))⟩
  · cases hf
  · cases hf
  · cases hf
  · cases hf
  · cases hf
  · cases hf
  · split at h
    · cases h; cases hf
      rename_i x hl
      obtain ⟨v, rfl, o1⟩ := o.one
      obtain ⟨u, rfl, ru⟩ := vals1 r
      exact lstr_run hc I o1 ru hl fun p ws n r => q _ _ (.lst m n r)
    · cases h
  · cases hf
  · cases h; cases hf
    obtain ⟨v, rfl, o1⟩ := o.one
    obtain ⟨a, rfl, c⟩ := o1.dic
    obtain ⟨u, rfl, ru⟩ := vals1 r
    cases (show u = Value.ref a from ru)
    exact c.len I fun t s' I' => ⟨.int _, H, I', ⟨t, rfl⟩, q _ _ (.same (.int _))⟩
  · obtain ⟨v, rfl, o1⟩ := o.one
    obtain ⟨a, rfl, c⟩ := o1.dic
    cases hi : intsD _ with
    | some ns =>
      have hn := hi
      rw [hi] at h
      try dsimp only at h
      split at h
      · rename_i hl
        cases h; cases hf
        rcases c with ⟨kvs, h1, rfl, _⟩ | ⟨kvs, h1, e, t, rk, _⟩
        · refine call_sortedDI hc pins s σ H _ us Q I r ⟨a, kvs, ns, rfl, .inl h1, intsD_keys hn, of_decide_eq_true hl, fun ys p perm pw np => ?_⟩
          have e : ys = isort ns := by
            refine sorted_eq pw ?_ (perm.trans (List.mergeSort_perm _ _).symm)
            have := List.pairwise_mergeSort (le := fun (a b : Int) => decide (a ≤ b)) (fun a b c h q => by simp only [decide_eq_true_eq] at *; omega) (fun a b => by simp only [Bool.or_eq_true, decide_eq_true_eq]; omega) ns
            exact this.imp fun {a b} h => of_decide_eq_true h
          rw [e]
          exact q _ _ (.lst m np (rps_ints' _))
        · obtain ⟨e0, e1⟩ := ints_tup t hn
          subst e0 e1
          obtain ⟨u, rfl, ru⟩ := vals1 r
          cases (show u = Value.ref a from ru)
          exact sorted_dn hu hc I m h1 e rk rfl (by simpa [isort] using fun p ws (n : H p = none) r => q _ _ (.lst m n r))
      · cases h
    | none =>
      have hn := hi
      rw [hi] at h
      try dsimp only at h
      split at h
      · rename_i hs
        cases h; cases hf
        rw [Bool.and_eq_true] at hs
        rcases c with ⟨kvs, h1, e0, _⟩ | ⟨kvs, h1, e, t, rk, _⟩
        · cases kvs with
          | nil => subst e0; simp [intsD] at hn
          | cons p r =>
            rw [e0, List.map_cons, List.all_cons, Bool.and_eq_true] at hs
            have := tupK_isTup hs.1.1
            rw [isTup_kD] at this
            cases this
        · obtain ⟨u, rfl, ru⟩ := vals1 r
          cases (show u = Value.ref a from ru)
          exact sorted_dn hu hc I m h1 e rk hs.2 fun p ws n r => q _ _ (.lst m n r)
      · cases h
  · split at h
    · obtain ⟨kds, hk, e⟩ := Option.map_eq_some_iff.mp h
      subst e; cases hf
      obtain ⟨v, rfl, o1⟩ := o.one
      obtain ⟨a, ws, rfl, h1, r1⟩ := o1.lst
      cases hpd : pairsD _ with
      | none =>
        rw [hpd, Option.none_or] at hk
        obtain ⟨u, rfl, ru⟩ := vals1 r
        cases (show u = Value.ref a from ru)
        refine call_dictN hu hc I h1 r1 hk fun p kvs np p1 p2 p3 p4 => ?_
        exact q _ _ ⟨fun b o h => by rw [upd_ne (ne_of_none h np)]; exact h, .dictN upd_same (m.non np) p1 p2 (p3.go (Go.laid np) m) (p4.go (Go.laid np) m)⟩
      | some kds' =>
      rw [hpd] at hk
      cases hk
      obtain ⟨ps, kvs, e1, pr, e2, r2⟩ := pairs_rps r1 hpd
      refine call_dictP hc pins s σ H _ us Q I r ⟨a, ps, kvs, rfl, by rw [← e1]; exact h1, pr, fun p np => ?_⟩
      obtain ⟨p1, p2⟩ := merge_rps (K := X.fg) (H := H) (O := O) kvs kds e2 r2 [] [] [] rfl .nil
      have nw : Nw X.fg H O (.ref p) (.dict (putAll kds [] []).1 (putAll kds [] []).2) (upd H p (.dK (mergeK [] kvs))) := by
        refine ⟨fun b o h => by rw [upd_ne (ne_of_none h np)]; exact h, ?_⟩
        rw [p1]
        exact .dictK upd_same (m.non np) (p2.go (Go.laid np) m)
      exact q _ _ nw
    · cases h
  · cases h
/-- what is new each time -/
def newF : Bf → Bool
  | .list => true
  | .sorted => true
  | .dpairs => true
  | _ => false
theorem bi_new (hu : X.A.units + 200 < cLine) (hc : X.calm = true) (f : Bf) (g : Value) (hf : bfV f = some g) (hn : newF f = true) {pins : List (Addr × Obj)} {s : Shared} {σ : Stt} {H : Hp} {O : AS} {vs : List V} {us : List Value} {ds : List D} {dz : D} {Q : VK}
    (I : Inv X pins σ H s) (r : Vals vs us) (o : Opds X.fg H O vs ds) (m : Muts H O) (h : biD f ds = some dz) (q : ∀ p u, H p = none → Nc X.fg H O p u dz → Q (.ref p) (upd H p u)) : wpAny (model X.prog X.w) X.A (call g us) (EP X pins σ Q) X.xe s := by
  unfold biD at h
  split at h <;> first | (cases hn; done) | (cases h; done) | skip
  · cases h; cases hf
    obtain ⟨v, rfl, o1⟩ := o.one
    obtain ⟨p, ws, rfl, h1, r1⟩ := o1.lst
    exact call_list_of pins s σ H _ us Q I r ⟨_, _, rfl, .inl h1, fun l n => q _ _ n (.list r1)⟩
  · cases h; cases hf
    obtain ⟨v, rfl, o1⟩ := o.one
    obtain ⟨p, ws, rfl, h1, r1⟩ := o1.tup
    exact call_list_of pins s σ H _ us Q I r ⟨_, _, rfl, .inr h1, fun l n => q _ _ n (.list r1)⟩
  · split at h
    · cases h; cases hf
      rename_i hs
      obtain ⟨v, rfl, o1⟩ := o.one
      obtain ⟨p, ws, rfl, h1, r1⟩ := o1.lst
      obtain ⟨u, rfl, ru⟩ := vals1 r
      cases (show u = Value.ref p from ru)
      obtain ⟨its, rv, pl, hz⟩ := I.list h1
      exact sorted_run hu I m pl.isList rv r1 (by rw [← r1.length]; exact hz) hs fun p ws n r => q _ _ n (.list r)
    · cases h
  · split at h
    · cases h; cases hf
      rename_i hs
      obtain ⟨v, rfl, o1⟩ := o.one
      obtain ⟨p, ws, rfl, h1, r1⟩ := o1.tup
      obtain ⟨u, rfl, ru⟩ := vals1 r
      cases (show u = Value.ref p from ru)
      exact sorted_tup hu hc I m h1 r1 hs fun p ws n r => q _ _ n (.list r)
    · cases h
  · split at h
    · cases h; cases hf
      rename_i x hl
      obtain ⟨v, rfl, o1⟩ := o.one
      obtain ⟨u, rfl, ru⟩ := vals1 r
      exact lstr_run hc I o1 ru hl fun p ws n r => q _ _ n (.list r)
    · cases h
  · obtain ⟨v, rfl, o1⟩ := o.one
    obtain ⟨a, rfl, c⟩ := o1.dic
    cases hi : intsD _ with
    | some ns =>
      have hnn := hi
      rw [hi] at h
      try dsimp only at h
      split at h
      · rename_i hl
        cases h; cases hf
        rcases c with ⟨kvs, h1, rfl, _⟩ | ⟨kvs, h1, e, t, rk, _⟩
        · refine call_sortedDI hc pins s σ H _ us Q I r ⟨a, kvs, ns, rfl, .inl h1, intsD_keys hnn, of_decide_eq_true hl, fun ys p perm pw np => ?_⟩
          have e : ys = isort ns := by
            refine sorted_eq pw ?_ (perm.trans (List.mergeSort_perm _ _).symm)
            have := List.pairwise_mergeSort (le := fun a b : Int => decide (a ≤ b)) (fun a b c h1 h2 => by simp only [decide_eq_true_eq] at *; omega) (fun a b => by simp only [Bool.or_eq_true, decide_eq_true_eq]; omega) ns
            exact this.imp fun h => by simpa using h
          subst e
          exact q _ _ np (.list (rps_ints' _))
        · obtain ⟨rfl, rfl⟩ := ints_tup t hnn
          obtain ⟨u, rfl, ru⟩ := vals1 r
          cases (show u = Value.ref a from ru)
          exact sorted_dn hu hc I m h1 e rk rfl (by simpa [isort] using fun p ws (n : H p = none) r => q p (.lst ws) n (.list r))
      · cases h
    | none =>
      have hnn := hi
      rw [hi] at h
      try dsimp only at h
      split at h
      · rename_i hs
        cases h; cases hf
        rw [Bool.and_eq_true] at hs
        rcases c with ⟨kvs, h1, e0, _⟩ | ⟨kvs, h1, e, t, rk, _⟩
        · cases kvs with
          | nil => subst e0; simp [intsD] at hnn
          | cons p r =>
            rw [e0, List.map_cons, List.all_cons, Bool.and_eq_true] at hs
            have := tupK_isTup hs.1.1
            rw [isTup_kD] at this
            cases this
        · obtain ⟨u, rfl, ru⟩ := vals1 r
          cases (show u = Value.ref a from ru)
          exact sorted_dn hu hc I m h1 e rk hs.2 fun p ws n r => q _ _ n (.list r)
      · cases h
  · split at h
    · obtain ⟨kds, hk, e⟩ := Option.map_eq_some_iff.mp h
      subst e; cases hf
      obtain ⟨v, rfl, o1⟩ := o.one
      obtain ⟨a, ws, rfl, h1, r1⟩ := o1.lst
      cases hpd : pairsD _ with
      | none =>
        rw [hpd, Option.none_or] at hk
        obtain ⟨u, rfl, ru⟩ := vals1 r
        cases (show u = Value.ref a from ru)
        exact call_dictN hu hc I h1 r1 hk fun p kvs np p1 p2 p3 p4 => q _ _ np (.dictN p1 p2 p3 p4)
      | some kds' =>
      rw [hpd] at hk
      cases hk
      obtain ⟨ps, kvs, e1, pr, e2, r2⟩ := pairs_rps r1 hpd
      refine call_dictP hc pins s σ H _ us Q I r ⟨a, ps, kvs, rfl, by rw [← e1]; exact h1, pr, fun p np => ?_⟩
      obtain ⟨p1, p2⟩ := merge_rps (K := X.fg) (H := H) (O := O) kvs kds e2 r2 [] [] [] rfl .nil
      refine q _ _ np ?_
      rw [p1]
      exact .dictK p2
    · cases h
/-! ### methods -/
def meT : Me → String
  | .join => "str"
  | .find => "str"
  | .index => "list"
  | .dget => "dict"
def meId : Me → String
  | .join => "str.join"
  | .find => "str.find"
  | .index => "list.index"
  | .dget => "dict.get"
theorem dget_isSome {x : D} : ∀ {ks vs : List D}, ks.length = vs.length → (dget ks vs x).isSome = ks.any fun k => eqK k x
  | [], [], _ => rfl
  | [], _ :: _, h => by simp at h
  | _ :: _, [], h => by simp at h
  | k :: ks, v :: vs, h => by
    have ih := dget_isSome (x := x) (ks := ks) (vs := vs) (by simpa using h)
    unfold dget
    rw [List.any_cons]
    split
    · rename_i e; rw [e]; rfl
    · rename_i e; rw [ih]; simp [e]
/-- d.get(y, x) -/
theorem dc_getD {pins : List (Addr × Obj)} {σ : Stt} {H : Hp} {s : Shared} {A : Around} {E : Value → Shared → Prop} {O : AS} {a : Addr} {ks vs : List D} (hu : A.units + 200 < cLine) (I : Inv X pins σ H s) (c : Dc X.fg H O a ks vs) {y x : V} {dy dx : D} {u r : Value} (oy : Opd X.fg H O y dy) (hk : isKey dy = true) (hf : kfit ks dy = true)
    (rx : Rp X.fg H O x dx) (ry : RelV y u) (rr : RelV x r) {Q : Value → Shared → Prop} (h : ∀ z w' s', Inv X pins σ H s' → RelV z w' → Rp X.fg H O z ((dget ks vs dy).getD dx) → Q w' s') : wpAny (model X.prog X.w) A (call (.builtin "dict.get") [.ref a, u, r]) Q E s := by
  cases ht : isTup dy
  · obtain ⟨_, kvs, us, rfl, rv, z, hd, rel, dd⟩ := c.mix I hf ht
    obtain ⟨k, rfl, rfl⟩ := key_opd oy hk ht
    have len : (kvs.map fun p => kD p.1).length = vs.length := by have := rv.length; simpa using this
    have some_ := dget_isSome (x := kD k) len
    rw [any_kD, valV_any] at some_
    have rl := rel.val k
    refine call_meetsIn PySem.F.slot_dict_get dd.typeIs PySem.F.entry_dict_get (PySem.F.args_dict_get_3 ..) (meets_dict_get_default (mixKind X.prog X.w) a (kV_is ry) hd r) ⟨_, dd.mapOf, ?_⟩
    cases hg : dget (kvs.map fun p => kD p.1) vs (kD k) with
    | none =>
      rw [hg] at some_ h
      have n0 : valV kvs k = none := by cases q : valV kvs k with
        | none => rfl
        | some v => rw [q] at some_; cases some_
      have e2 := rl.getD (d := x) rr
      rw [n0] at e2
      exact h x _ _ (I.tok _) e2 rx
    | some dz =>
      obtain ⟨v, hv, rvv⟩ := dget_val rv dz hg
      rw [hg] at h
      have e2 := rl.getD (d := x) rr
      rw [hv] at e2
      exact h v _ _ (I.tok _) e2 rvv
  · obtain ⟨_, kvs, xs, e, t, q, rv, z, hd, rel, dd⟩ := c.nest I hf ht
    obtain ⟨b, rfl, rb⟩ := tup_ref oy ht
    cases (show u = Value.ref b from ry)
    have l2 : kvs.length = ks.length := by simpa using congrArg List.length e
    have len : ks.length = vs.length := by have := rv.length; rw [List.length_map] at this; omega
    have some_ := dget_isSome (x := dy) len
    rw [anyN (isKey_tup hk ht) e t, valN_any] at some_
    have rl := rel.val (nk dy)
    refine call_meetsIn PySem.F.slot_dict_get dd.typeIs PySem.F.entry_dict_get (PySem.F.args_dict_get_3 ..) (meetsH_dict_get_default (nestedKind X.prog X.w) a b hd r) ⟨(show (Around.in1 A).units + 8 < cLine by rw [Around.in1_units]; omega), nk dy, xs, nk_is I rb hk ht, dd, ?_⟩
    cases hg : dget ks vs dy with
    | none =>
      rw [hg] at some_ h
      have n0 : valN kvs (nk dy) = none := by cases q : valN kvs (nk dy) with
        | none => rfl
        | some v => rw [q] at some_; cases some_
      have e2 := rl.getD (d := x) rr
      rw [n0] at e2
      exact h x _ _ (I.tok _) e2 rx
    | some dz =>
      obtain ⟨v, hv, rvv⟩ := dgetN (isKey_tup hk ht) e t rv dz hg
      rw [hg] at h
      have e2 := rl.getD (d := x) rr
      rw [hv] at e2
      exact h v _ _ (I.tok _) e2 rvv
theorem plain_rp {K : Fg} {H : Hp} {O : AS} {v : V} {d : D} (o : Opd K H O v d) (h : plainD d = true) : Rp K H O v d := by
  rcases o with r | ⟨a, rfl, c⟩
  · exact r
  · cases c <;> simp [plainD] at h
theorem Dc.plain {pins : List (Addr × Obj)} {σ : Stt} {H : Hp} {s : Shared} {O : AS} {a : Addr} {ks vs : List D} (I : Inv X pins σ H s) (c : Dc X.fg H O a ks vs) : ∀ b, Value.ref a = .ref b → ∃ ob, s.heap.get? b = some ob ∧ ob.dict = none := by
  intro b e
  cases e
  rcases c with ⟨kvs, h, _⟩ | ⟨kvs, h, _⟩
  · obtain ⟨_, _, us, _, dd⟩ := dk_of I.hok h
    obtain ⟨ob, _, _, h1, h2, _⟩ := dd
    exact ⟨ob, h1, h2.2.1⟩
  · obtain ⟨_, _, xs, _, o, es, ep, h1, h2, _⟩ := ndO_at I h
    exact ⟨o, h1, h2.2.1⟩
theorem join_mk (a : List Nat) : ∀ xs : List (List Nat), Str.join (mkS a) (xs.map mkS) = mkS (joinN a xs)
  | [] => rfl
  | [x] => rfl
  | x :: y :: r => by
    show mkS x ++ mkS a ++ Str.join (mkS a) ((y :: r).map mkS) = _
    rw [join_mk a (y :: r), mkS_app, mkS_app]; rfl
theorem me_run (hu : X.A.units + 200 < cLine) (k : Me) {pins : List (Addr × Obj)} {s : Shared} {σ : Stt} {H : Hp} {O : AS} {x : V} {v : Value} {d : D} {vs : List V} {us : List Value} {ds : List D} {dz : D} {Q : VK}
    (I : Inv X pins σ H s) (rx : RelV x v) (ox : Opd X.fg H O x d) (r : Vals vs us) (o : Opds X.fg H O vs ds) (m : Muts H O) (h : meD k d ds = some dz) (q : ∀ z H', Nw X.fg H O z dz H' → Q z H') :
    wpAny (model X.prog X.w) X.A (call (.builtin (meId k)) (v :: us)) (EP X pins σ Q) X.xe s := by
  unfold meD at h
  split at h
  · rename_i a y
    obtain ⟨xs, hx, h⟩ := Option.bind_eq_some_iff.mp h
    split at h
    · cases h
      rename_i hf
      obtain ⟨v, rfl, o1⟩ := o.one
      obtain ⟨p, ws, rfl, h1, r1⟩ := o1.lst
      refine mt_join pins s σ H _ _ _ us Q I rx r ⟨mkS a, p, xs.map mkS, ox.str, rfl, .inl (by rw [← strsD_V r1 hx]; exact h1), ?_, ?_⟩
      · rw [List.map_map, List.length_map, mkS_len]
        rw [show (fun z : Str => z.length) ∘ mkS = fun z : List Nat => z.length from funext mkS_len]
        have := fitL_iff.mp hf
        exact Nat.le_trans this (by decide)
      · have e : Txt.join (mkS a) (xs.map mkS) = mkS (joinN a xs) := by
          show _ = mkS (joinN a xs)
          unfold Txt.join
          rw [StrLaws.glued_eq_join, join_mk]
        rw [e]
        exact q _ _ (.same (Rp.strI _))
    · cases h
  · rename_i xs y
    split at h
    · rename_i hc
      obtain ⟨j, hj, e⟩ := Option.map_eq_some_iff.mp h
      subst e
      simp only [Bool.and_eq_true] at hc
      obtain ⟨v, rfl, o1⟩ := o.one
      obtain ⟨p, ws, rfl, h1, r1⟩ := ox.lst
      have hd := shp_dict hc.1.1.2
      have hd' : PyData.hasDictAll (pys xs) = false := by simpa [py, PyData.hasDict] using hd
      have key : ∀ (l : List D) (j : Nat), PyData.hasDictAll (pys l) = false → idxOfD y l = some j → ∃ z, (pys l)[j]? = some z ∧ PyData.eqv z (py y) = true ∧ ∀ (m : Nat) (z' : PyData), m < j → (pys l)[m]? = some z' → PyData.eqv z' (py y) = false := by
        intro l
        induction l with
        | nil => intro j _ h; simp [idxOfD] at h
        | cons c l ih =>
          intro j hn h
          have hn' := hn
          rw [pys, PyData.hasDictAll, Bool.or_eq_false_iff] at hn
          unfold idxOfD at h
          split at h
          · cases h
            rename_i he
            refine ⟨py c, by rw [pys]; rfl, by rw [← eqD_py c y hn.1]; exact he, fun m z' hm => absurd hm (Nat.not_lt_zero _)⟩
          · rename_i he
            obtain ⟨i, hi, e⟩ := Option.map_eq_some_iff.mp h
            subst e
            obtain ⟨z, z1, z2, z3⟩ := ih i hn.2 hi
            refine ⟨z, by rw [pys]; exact z1, z2, fun m z' hm hz => ?_⟩
            rw [pys] at hz
            cases m with
            | zero =>
              have e0 : py c = z' := by simpa using hz
              rw [← e0, ← eqD_py c y hn.1]
              simpa using he
            | succ m => exact z3 m z' (by omega) (by simpa using hz)
      obtain ⟨z, z1, z2, z3⟩ := key xs _ hd' hj
      have sl := shp_shaped hc.1.1.2 hc.2
      rw [py] at sl
      refine mt_indexD (by omega) pins s σ H _ _ _ us Q I rx r ⟨p, v, py y, pys xs, _, z, rfl, rfl, ?_, o1.dp (shp_dict hc.1.1.1), sl, shp_shaped hc.1.1.1 hc.1.2, z1, z2, z3, q _ _ (.same (.int _))⟩
      exact .lst h1 (r1.dp hd')
    · cases h
  · cases h
    obtain ⟨v, rfl, o1⟩ := o.one
    exact mt_find pins s σ H _ _ _ us Q I rx r ⟨_, _, ox.str, by rw [o1.str], q _ _ (.same (.int _))⟩
  · split at h
    · rename_i hc
      simp only [Bool.and_eq_true] at hc
      cases h
      obtain ⟨a, rfl, c⟩ := ox.dic
      cases (show v = Value.ref a from rx)
      match vs, us, o, r with
      | [y, x], _, .cons oy (.cons oz .nil), .cons r1 (.cons r2 .nil) =>
        exact dc_getD hu I c oy hc.1.1 hc.1.2 (plain_rp oz hc.2) r1 r2 fun z w' s' I' rw' rz => ⟨z, H, I', rw', q z H (.same rz)⟩
    · cases h
  · cases h
end
end MW

set_option Elab.async false
set_option linter.all false
set_option maxRecDepth 100000
/-! MWS: sorted(set(xs)), len(set(xs)) of ints -/
namespace MW
open PySem PySem.Spec PyProof.Rows L2
/-! ### the members of a list of ints, rising -/
theorem insI_mem {x k : Int} : ∀ {l : List Int}, k ∈ insI x l ↔ k = x ∨ k ∈ l
  | [] => by simp [insI]
  | y :: ys => by
    unfold insI
    split
    · simp
    · split
      · rename_i h; subst h; simp
      · rw [List.mem_cons, insI_mem, List.mem_cons]
        constructor
        · rintro (h | h | h)
          · exact .inr (.inl h)
          · exact .inl h
          · exact .inr (.inr h)
        · rintro (h | h | h)
          · exact .inr (.inl h)
          · exact .inl h
          · exact .inr (.inr h)
theorem insI_lt {x : Int} : ∀ {l : List Int}, l.Pairwise (· < ·) → (insI x l).Pairwise (· < ·)
  | [], _ => by simp [insI]
  | y :: ys, h => by
    obtain ⟨h1, h2⟩ := List.pairwise_cons.mp h
    unfold insI
    split
    · rename_i q
      exact List.pairwise_cons.mpr ⟨fun z hz => by
        rcases List.mem_cons.mp hz with e | e
        · rw [e]; exact q
        · exact Int.lt_trans q (h1 z e), h⟩
    · split
      · exact h
      · refine List.pairwise_cons.mpr ⟨fun z hz => ?_, insI_lt h2⟩
        rcases insI_mem.mp hz with e | e
        · omega
        · exact h1 z e
theorem oset_mem {k : Int} : ∀ {l : List Int}, k ∈ oset l ↔ k ∈ l
  | [] => by simp [oset]
  | y :: ys => by
    show k ∈ insI y (oset ys) ↔ _
    rw [insI_mem, oset_mem, List.mem_cons]
theorem oset_lt : ∀ (l : List Int), (oset l).Pairwise (· < ·)
  | [] => .nil
  | y :: ys => insI_lt (oset_lt ys)
/-- rising lists with the same members are the same -/
theorem rising_eq : ∀ {a b : List Int}, a.Pairwise (· < ·) → b.Pairwise (· < ·) → (∀ k, k ∈ a ↔ k ∈ b) → a = b
  | [], [], _, _, _ => rfl
  | [], y :: ys, _, _, h => absurd ((h y).mpr List.mem_cons_self) (by simp)
  | x :: xs, [], _, _, h => absurd ((h x).mp List.mem_cons_self) (by simp)
  | x :: xs, y :: ys, ha, hb, h => by
    obtain ⟨a1, a2⟩ := List.pairwise_cons.mp ha
    obtain ⟨b1, b2⟩ := List.pairwise_cons.mp hb
    have e : x = y := by
      rcases List.mem_cons.mp ((h x).mp List.mem_cons_self) with e | e
      · exact e
      · rcases List.mem_cons.mp ((h y).mpr List.mem_cons_self) with q | q
        · exact q.symm
        · have := a1 y q
          have := b1 x e
          omega
    subst e
    rw [rising_eq a2 b2 fun k => ⟨fun hk => ?_, fun hk => ?_⟩]
    · rcases List.mem_cons.mp ((h k).mp (List.mem_cons_of_mem _ hk)) with e | e
      · have := a1 k hk; omega
      · exact e
    · rcases List.mem_cons.mp ((h k).mpr (List.mem_cons_of_mem _ hk)) with e | e
      · have := b1 k hk; omega
      · exact e
section
variable {X : Cx}
/-- set(xs) of ints, xs a list or a tuple: what is known of the set at once -/
theorem set_of {pins : List (Addr × Obj)} {s : Shared} {σ : Stt} {H : Hp} {O : AS} {v : V} {u : Value} {d : D} {ds : List D} {ns : List Int} {Q : Value → Shared → Prop} (hc : X.calm = true) (I : Inv X pins σ H s) (rv : RelV v u) (o : Opd X.fg H O v d)
    (hd : d = .list ds ∨ d = .tuple ds) (hn : intsD ds = some ns) (hb : ns.length + 1 < scanBound)
    (fin : ∀ s' a c, Inv X pins σ H s' → SetR X.w s'.heap a (fun j => decide (j ∈ ns)) c → c ≤ ns.length → Q (.ref a) s') : wpAny (model X.prog X.w) X.A (call (.type "set") [u]) Q X.xe s := by
  rcases hd with rfl | rfl
  · obtain ⟨a, vs, e, h1, r⟩ := o.lst
    subst e
    cases (show u = Value.ref a from rv)
    have e := intsD_V r hn
    subst e
    obtain ⟨its, r2, pl, hz⟩ := I.list h1
    refine set_lst ns (I.ok.hd hc) pl.isList (by simpa using r2.ints) hb fun h' tk c hS hle hk => fin _ _ c (I.kept fun b o e => hk b o e) hS hle
  · obtain ⟨a, vs, e, h1, r⟩ := o.tup
    subst e
    cases (show u = Value.ref a from rv)
    have e := intsD_V r hn
    subst e
    obtain ⟨its, r2, pl, hz⟩ := I.tuple h1
    refine call_set_tupI ns (I.ok.hd hc) (show s.heap.IsTuple a its.toArray from pl) (by simpa using r2.ints) hb fun h' tk c hS hle hk => fin _ _ c (I.kept fun b o e => hk b o e) hS hle
theorem asLT_or {d : D} {ds : List D} (h : asLT d = some ds) : d = .list ds ∨ d = .tuple ds := by
  cases d <;> first | (simp [asLT] at h; done) | skip
  · cases h; exact .inl rfl
  · cases h; exact .inr rfl
theorem count_oset {ns : List Int} {l : List Int} (nd : l.Nodup) (h : ∀ k, k ∈ l ↔ k ∈ ns) : l.length = (oset ns).length := by
  have n2 : (oset ns).Nodup := (oset_lt ns).imp fun {a b} q => by omega
  exact ((List.perm_ext_iff_of_nodup nd n2).mpr fun k => by rw [h, oset_mem]).length_eq
theorem setR_count {w : World} {h : Heap} {a : Addr} {ns : List Int} {c : Nat} (R : SetR w h a (fun j => decide (j ∈ ns)) c) : c = (oset ns).length := by
  obtain ⟨o, es, ep, t, _, _, _, _, nd, hm, _, _, hn, _⟩ := R
  rw [← hn, ← Array.length_toList, ← List.length_map (f := keyOf)]
  exact count_oset nd fun k => by rw [← hm k]; simp
theorem vals_ints : ∀ {ns : List Int} {us : List Value}, IntsAre us ns → Vals (ns.map V.int) us
  | _, _, .nil => .nil
  | _, _, .cons n t r => .cons ⟨t, rfl⟩ (vals_ints r)
theorem rps_ints {K : Fg} {H : Hp} {O : AS} : ∀ ns : List Int, Rps K H O (ns.map V.int) (ns.map D.int)
  | [] => .nil
  | n :: ns => .cons (.int n) (rps_ints ns)
end
end MW

set_option Elab.async false
set_option linter.all false
set_option maxRecDepth 100000
/-! MWR: x[::-1] of lists and texts; ranges as data -/
namespace MW
open PySem PySem.Spec PyProof.Rows L2
section
variable {X : Cx}
theorem rev_pick (z : Str) : (Builtin.Str.strSliceIndices none none (-1) z.length).filterMap (z.cps[·]?) = z.cps.toList.reverse := by
  have e : Builtin.Str.strSliceIndices none none (-1) z.length = sliceRange ((z.length : Int) - 1) (-1) (-1) := rfl
  rw [e, PySem.W.krv_sliceRange, PySem.W.krv_range, List.filterMap_reverse]
  congr 1
  exact PySem.W.krv_all z.cps
def tRevD (K : Fg) (te : TE) : TE := fun σ H Q => te σ H fun x H1 => (∃ a xs, x = .ref a ∧ SqL K.f H1 a xs ∧ ∀ p, H1 p = none → Q (.ref p) (upd H1 p (.lst xs.reverse))) ∨
  ∃ z : Str, x = .str z ∧ z.length ≤ sizeLine ∧ Q (.str ⟨z.cps.toList.reverse.toArray⟩) H1
theorem pe_revD {e : Expr} {te : TE} {k : Nat} {p1 p2 p3 pos : Pos} (he : PE X e te) : PE X (.Subscript e (.Slice none none (some (.UnaryOp .USub (.Constant (.int 1) k p1) p2)) p3) pos) (tRevD X.fg te) := by
  refine ⟨fun pins s σ H Q I h => ?_⟩
  refine Subscript_ (thn (he.run pins s σ H _ I h) fun v s1 ⟨x, H1, I1, r1, q1⟩ => ?_)
  have hst : PO X (some (.UnaryOp .USub (.Constant (.int 1) k p1) p2)) (tPart (tUn (rU fun i => .int (-i)) (tC (.int 1)))) := po_some (pe_un un_neg pe_int)
  refine wpAny_Slice (thn (po_none.run pins s1 σ H1 (fun o H2 => o = none ∧ H2 = H1) I1 ⟨rfl, rfl⟩) fun vl s2 ⟨l, H2, I2, pl, el, e2⟩ => ?_)
  subst el e2
  refine thn (po_none.run pins s2 σ H2 (fun o H3 => o = none ∧ H3 = H2) I2 ⟨rfl, rfl⟩) fun vu s3 ⟨u, H3, I3, pu, eu, e3⟩ => ?_
  subst eu e3
  refine thn (hst.run pins s3 σ H3 (fun o H4 => o = some (-1) ∧ H4 = H3) I3 ⟨1, rfl, -1, rfl, rfl, rfl⟩) fun vs s4 ⟨o, H4, I4, ps, eo, e4⟩ => ?_
  subst eo e4
  have I5 : Inv X pins σ H4 { s4 with heap := s4.heap.push { cls := .type "slice", data := .fields #[vl, vu, vs] } } := I4.kept (t' := s4.toks) fun b ob q => Heap.get?_push_of_some _ q
  show wpAny (model X.prog X.w) X.A (subscriptTail e (.Slice none none (some (.UnaryOp .USub (.Constant (.int 1) k p1) p2)) p3) v (.ref s4.heap.objs.size)) (EP X pins σ Q) X.xe { s4 with heap := s4.heap.push { cls := .type "slice", data := .fields #[vl, vu, vs] } }
  rcases q1 with ⟨a, xs, ex, hx, q⟩ | ⟨z, ex, hz, q⟩
  · subst ex
    cases r1
    obtain ⟨its, r, ht, hz⟩ := I5.list hx
    have hlen := r.length
    refine tail_any (ops := [.ref a, .ref s4.heap.objs.size]) ht.isList.typeIs (PySem.slot_list_getitem.lookup) ?_ (by with_unfolding_all rfl)
    refine wpAny_getItem_list_slice ht.isList (Heap.IsSliceOf.new _ vl vu vs) pl pu ps (by decide) ?_ (by rw [List.size_toArray]; omega)
    rw [PySem.W.krv_pick]
    refine ⟨.ref _, _, I5.laid (t' := s4.toks) (o := .lst xs.reverse) (fun b ob q => Heap.get?_push_of_some _ q) (Nat.le_refl _) ?_, rfl, q _ (I5.hok.fresh (Nat.le_refl _))⟩
    exact ⟨by rw [List.length_reverse]; exact hz, _, 0, r.reverse, Heap.get?_push_size _ rfl⟩
  · subst ex
    obtain ⟨t, rfl⟩ := r1
    obtain ⟨l, rfl, hl⟩ := IsPart.raw pl
    obtain ⟨u, rfl, hu⟩ := IsPart.raw pu
    obtain ⟨w, rfl, hw⟩ := IsPart.raw ps
    have el : l = none := by cases l <;> simp_all
    have eu : u = none := by cases u <;> simp_all
    obtain ⟨tk, rfl⟩ : ∃ tk, w = some ((-1 : Int), tk) := by
      cases w with
      | none => simp at hw
      | some w => obtain ⟨i, tk⟩ := w; simp at hw; subst hw; exact ⟨tk, rfl⟩
    subst el eu
    refine tail_any (ops := [.str z t, .ref s4.heap.objs.size]) (typeIs_str _ _ _) (PySem.F.slot_str_getitem.lookup) ?_ (by with_unfolding_all rfl)
    refine wpAny_getItem_str_slice (l := none) (u := none) (st := some (-1, tk)) ⟨_, Heap.get?_push_size _ rfl, rfl, rfl⟩ rfl ?_
    show Made.post (if ((-1 : Int) == 1 && (Builtin.Str.strSliceIndices none none (-1) z.length).length == z.length) = true then Made.val (.str z t)
      else Made.str ⟨((Builtin.Str.strSliceIndices none none (-1) z.length).filterMap (z.cps[·]?)).toArray⟩) (EP X pins σ Q) _
    rw [if_neg (fun h => by rw [Bool.and_eq_true] at h; exact absurd h.1 (by decide)), rev_pick]
    refine ⟨?_, .str _, H4, I5.tok _, ⟨_, rfl⟩, q⟩
    show (z.cps.toList.reverse.toArray).size ≤ sizeLine
    rw [List.size_toArray, List.length_reverse, Array.length_toList]
    exact hz
theorem rps_rg {K : Fg} {H : Hp} {O : AS} (n : Int) : Rps K H O (rgV 0 n) ((List.range n.toNat).map fun (k : Nat) => D.int (k : Int)) := by
  have key : ∀ l : List Nat, Rps K H O (l.map fun i => V.int (0 + (i : Nat))) (l.map fun (k : Nat) => D.int (k : Int)) := by
    intro l
    induction l with
    | nil => exact .nil
    | cons a l ih => exact .cons (by show Rp K H O (.int (0 + (a : Int))) (.int (a : Int)); rw [Int.zero_add]; exact .int _) ih
  unfold rgV
  rw [Int.sub_zero]
  exact key _
end
end MW

set_option Elab.async false
set_option linter.all false
set_option maxRecDepth 100000
/-! MWV: sets of tuples as data -/
namespace MW
open PySem PySem.Spec PyProof.Rows L2
/-! ### as data -/
theorem perm_unmap {α β : Type} {f : α → β} : ∀ {l m : List β}, l.Perm m → ∀ L : List α, m = L.map f → ∃ L1 : List α, L1.Perm L ∧ l = L1.map f := by
  intro l m h
  induction h with
  | nil =>
    intro L e
    cases L with
    | nil => exact ⟨[], .nil, rfl⟩
    | cons x L => cases e
  | @cons x a b p ih =>
    intro L e
    cases L with
    | nil => cases e
    | cons y L =>
      injection e with e1 e2
      obtain ⟨L1, h1, h2⟩ := ih L e2
      exact ⟨y :: L1, h1.cons _, by rw [List.map_cons, h2, e1]⟩
  | swap x y a =>
    intro L e
    cases L with
    | nil => cases e
    | cons u L =>
      injection e with e1 e2
      cases L with
      | nil => cases e2
      | cons v L =>
        injection e2 with e3 e4
        exact ⟨v :: u :: L, .swap _ _ _, by rw [List.map_cons, List.map_cons, e1, e3, e4]⟩
  | trans _ _ ih1 ih2 =>
    intro L e
    obtain ⟨L1, h1, h2⟩ := ih2 L e
    obtain ⟨L2, h3, h4⟩ := ih1 L1 h2
    exact ⟨L2, h3.trans h1, h4⟩
theorem leD_total (a b : D) : (leD a b || leD b a) = true := by
  unfold leD PySem.W.dataLt
  rw [Bool.or_eq_true]
  simp only [Bool.not_eq_true']
  by_cases h : PyProof.Rows.lexLt itemOrd (PySem.W.keyToks (py b)) (PySem.W.keyToks (py a)) = true
  · right
    by_cases q : PyProof.Rows.lexLt itemOrd (PySem.W.keyToks (py a)) (PySem.W.keyToks (py b)) = true
    · have := lex_trans (O := itemOrd) _ _ _ h q
      rw [lex_irrefl] at this; cases this
    · simpa using q
  · left; simpa using h
theorem leD_trans (a b c : D) (h : leD a b = true) (q : leD b c = true) : leD a c = true := by
  unfold leD PySem.W.dataLt at *
  simp only [Bool.not_eq_true'] at *
  cases e : PyProof.Rows.lexLt itemOrd (PySem.W.keyToks (py c)) (PySem.W.keyToks (py a)) with
  | false => rfl
  | true =>
    rcases lex_negTrans (O := itemOrd) _ (PySem.W.keyToks (py b)) _ e with z | z
    · rw [q] at z; cases z
    · rw [h] at z; cases z
theorem leD_anti {a b : D} (al : PySem.W.alike (py a) (py b) = true) (n : (py a).hasDict = false) (h : leD a b = true) (q : leD b a = true) : eqD a b = true := by
  unfold leD PySem.W.dataLt at h q
  simp only [Bool.not_eq_true'] at h q
  have e := lex_total (O := itemOrd) _ _ q h
  rw [eqD_py a b n]
  cases z : PyData.eqv (py a) (py b) with
  | true => rfl
  | false =>
    have := (PySem.W.toks_eqv _ _ al).2 z [.inl 0] [.inl 1]
    have k := (PySem.W.toks_eqv _ _ al).2 z [.inl 1] [.inl 0]
    rw [e, PySem.W.lex_pre] at this k
    rw [← k] at this
    rw [PySem.W.lex_one, PySem.W.lex_one] at this
    exact absurd this (by decide)
theorem sorted_uniq {l m : List D} : ∀ (hl : l.Pairwise fun a b => leD a b = true) (hm : m.Pairwise fun a b => leD a b = true) (p : l.Perm m) (an : ∀ a ∈ l, ∀ b ∈ l, leD a b = true → leD b a = true → a = b), l = m := by
  induction l generalizing m with
  | nil => intro _ _ p _; have := p.length_eq; cases m <;> simp_all
  | cons x l ih =>
    intro hl hm p an
    cases m with
    | nil => have := p.length_eq; simp at this
    | cons y m =>
      obtain ⟨a1, a2⟩ := List.pairwise_cons.mp hl
      obtain ⟨b1, b2⟩ := List.pairwise_cons.mp hm
      have hy : y ∈ x :: l := p.mem_iff.mpr List.mem_cons_self
      have hx : x ∈ y :: m := p.mem_iff.mp List.mem_cons_self
      have e : x = y := by
        rcases List.mem_cons.mp hy with e | hy'
        · exact e.symm
        · rcases List.mem_cons.mp hx with e | hx'
          · exact e
          · exact an x List.mem_cons_self y hy (a1 y hy') (b1 x hx')
      subst e
      rw [ih a2 b2 ((List.perm_cons x).mp p) fun a ha b hb => an a (List.mem_cons_of_mem _ ha) b (List.mem_cons_of_mem _ hb)]
theorem msort_perm {l m : List D} (p : l.Perm m) (an : ∀ a ∈ l, ∀ b ∈ l, leD a b = true → leD b a = true → a = b) : l.mergeSort leD = m.mergeSort leD :=
  sorted_uniq (List.pairwise_mergeSort leD_trans leD_total l) (List.pairwise_mergeSort leD_trans leD_total m) ((List.mergeSort_perm _ _).trans (p.trans (List.mergeSort_perm _ _).symm))
    fun a ha b hb => an a ((List.mergeSort_perm _ _).mem_iff.mp ha) b ((List.mergeSort_perm _ _).mem_iff.mp hb)
/-! ### each once -/
theorem onceD_sub {x : D} : ∀ {ds : List D}, x ∈ onceD ds → x ∈ ds
  | [], h => by cases h
  | d :: ds, h => by
    unfold onceD at h
    rcases List.mem_cons.mp h with e | h
    · rw [e]; exact List.mem_cons_self
    · exact List.mem_cons_of_mem _ (onceD_sub (List.mem_filter.mp h).1)
theorem tup_eqD {x y : D} (hx : tupK x = true) (hy : tupK y = true) : eqD x y = decide (nk x = nk y) := by
  obtain ⟨xs, rfl, h1⟩ := tupK_hsh hx
  obtain ⟨ys, rfl, h2⟩ := tupK_hsh hy
  rw [NestedKey.decide_eq, ← eqD_nk _ _ 8 8 h1 h2]
theorem onceD_keys : ∀ {ds : List D}, ds.all tupK = true → ((onceD ds).map nk).Nodup ∧ ∀ k, k ∈ (onceD ds).map nk ↔ k ∈ ds.map nk
  | [], _ => ⟨by simp [onceD], fun k => by simp [onceD]⟩
  | d :: ds, h => by
    rw [List.all_cons, Bool.and_eq_true] at h
    obtain ⟨h1, h2⟩ := onceD_keys h.2
    have tk : ∀ e ∈ onceD ds, tupK e = true := fun e he => List.all_eq_true.mp h.2 e (onceD_sub he)
    unfold onceD
    rw [List.map_cons]
    refine ⟨List.nodup_cons.mpr ⟨fun z => ?_, (List.filter_sublist.map nk).nodup h1⟩, fun k => ?_⟩
    · obtain ⟨e, he, q⟩ := List.mem_map.mp z
      obtain ⟨he, q2⟩ := List.mem_filter.mp he
      rw [tup_eqD (tk e he) h.1] at q2
      simp [q] at q2
    · rw [List.mem_cons, List.map_cons, List.mem_cons, ← h2]
      constructor
      · rintro (q | q)
        · exact .inl q
        · obtain ⟨e, he, q⟩ := List.mem_map.mp q
          exact .inr (List.mem_map.mpr ⟨e, (List.mem_filter.mp he).1, q⟩)
      · rintro (q | q)
        · exact .inl q
        · obtain ⟨e, he, q⟩ := List.mem_map.mp q
          by_cases z : nk d = nk e
          · exact .inl (by rw [← q, z])
          · refine .inr (List.mem_map.mpr ⟨e, List.mem_filter.mpr ⟨he, ?_⟩, q⟩)
            rw [tup_eqD (tk e he) h.1]
            simp [Ne.symm z]
mutual
theorem sameD_eq : ∀ {x y : D}, sameD x y = true → x = y
  | .none, y, h => by cases y <;> simp [sameD] at h; rfl
  | .bool a, y, h => by cases y <;> simp [sameD] at h; rw [h]
  | .int a, y, h => by cases y <;> simp [sameD] at h; rw [h]
  | .str a, y, h => by cases y <;> simp [sameD] at h; rw [h]
  | .list xs, y, h => by cases y <;> first | (simp [sameD] at h; done) | skip
                         simp only [sameD] at h; rw [sameDs_eq h]
  | .tuple xs, y, h => by cases y <;> first | (simp [sameD] at h; done) | skip
                          simp only [sameD] at h; rw [sameDs_eq h]
  | .dict _ _, y, h => by cases y <;> simp [sameD] at h
theorem sameDs_eq : ∀ {xs ys : List D}, sameDs xs ys = true → xs = ys
  | [], [], _ => rfl
  | [], _ :: _, h => by simp [sameDs] at h
  | _ :: _, [], h => by simp [sameDs] at h
  | x :: xs, y :: ys, h => by
    simp only [sameDs, Bool.and_eq_true] at h
    rw [sameD_eq h.1, sameDs_eq h.2]
end
theorem uniq_eq {ds : List D} (h : uniqD ds = true) {a b : D} (ha : a ∈ ds) (hb : b ∈ ds) (e : eqD a b = true) : a = b := by
  have h1 := List.all_eq_true.mp (List.all_eq_true.mp h a ha) b hb
  rw [e] at h1
  exact sameD_eq (by simpa using h1)
theorem nodup_len {α : Type} [DecidableEq α] : ∀ {l m : List α}, l.Nodup → (∀ x ∈ l, x ∈ m) → l.length ≤ m.length
  | [], _, _, _ => Nat.zero_le _
  | x :: l, m, h, s => by
    obtain ⟨h1, h2⟩ := List.nodup_cons.mp h
    have hx := s x List.mem_cons_self
    have := nodup_len (m := m.erase x) h2 fun y hy => (List.mem_erase_of_ne fun e => by subst e; exact h1 hy).mpr (s y (List.mem_cons_of_mem _ hy))
    rw [List.length_erase_of_mem hx] at this
    have : 0 < m.length := List.length_pos_of_mem hx
    rw [List.length_cons]; omega
theorem few_of {ks : List KA} {ds : List D} (h : fewT ds = true) (e : ks.map (·.1) = ds.map nk) : FewN ks := by
  simp only [fewT, Bool.and_eq_true, decide_eq_true_eq] at h
  intro l nd s
  have := nodup_len nd (m := (onceD ds).map nk) fun k hk => by
    rw [(onceD_keys h.1.1).2, ← e]; exact s k hk
  rw [List.length_map] at this
  omega
/-! ### set(xs) -/
section
variable {X : Cx}
theorem tups_refs {K : Fg} {H : Hp} {O : AS} : ∀ {ds : List D} {vs : List V}, Rps K H O vs ds → ds.all tupK = true → ∃ ks : List KA, vs = ks.map (fun p => V.ref p.2) ∧ ks.map (·.1) = ds.map nk
  | [], _, .nil, _ => ⟨[], rfl, rfl⟩
  | d :: ds, _, .cons r t, h => by
    rw [List.all_cons, Bool.and_eq_true] at h
    obtain ⟨ks, e1, e2⟩ := tups_refs t h.2
    obtain ⟨xs, rfl, _⟩ := tupK_hsh h.1
    cases r with
    | tuple q r =>
      rename_i a us
      exact ⟨(nk (.tuple xs), a) :: ks, by rw [e1]; rfl, by rw [List.map_cons, List.map_cons, e2]⟩
theorem refs_vals : ∀ {ks : List KA} {us : List Value}, Vals (ks.map fun p => V.ref p.2) us → us = ks.map fun p => Value.ref p.2
  | [], _, .nil => rfl
  | p :: ks, _, .cons r t => by
    cases r
    rw [refs_vals t] <;> rfl
theorem vals_refs : ∀ (ks : List KA), Vals (ks.map fun p => V.ref p.2) (ks.map fun p => Value.ref p.2)
  | [] => .nil
  | p :: ks => .cons rfl (vals_refs ks)
/-- of each of the set's things its data -/
theorem pick_data {K : Fg} {H : Hp} {O : AS} : ∀ {ks : List KA} {ds : List D}, Rps K H O (ks.map fun p => V.ref p.2) ds → ks.map (·.1) = ds.map nk → ∀ p ∈ ks, ∃ d ∈ ds, nk d = p.1 ∧ Rp K H O (.ref p.2) d
  | [], _, _, _, p, hp => by cases hp
  | q :: ks, ds, r, e, p, hp => by
    cases ds with
    | nil => simp at e
    | cons d ds =>
      cases r with
      | cons r t =>
        simp only [List.map_cons, List.cons.injEq] at e
        rcases List.mem_cons.mp hp with rfl | hp
        · exact ⟨d, List.mem_cons_self, e.1.symm, r⟩
        · obtain ⟨d', h1, h2⟩ := pick_data t e.2 p hp
          exact ⟨d', List.mem_cons_of_mem _ h1, h2⟩
theorem picks_data {K : Fg} {H : Hp} {O : AS} {ds : List D} : ∀ {L : List KA}, (∀ p ∈ L, ∃ d ∈ ds, nk d = p.1 ∧ Rp K H O (.ref p.2) d) → ∃ es : List D, Rps K H O (L.map fun p => V.ref p.2) es ∧ es.map nk = L.map (·.1) ∧ ∀ e ∈ es, e ∈ ds
  | [], _ => ⟨[], .nil, rfl, fun e h => by cases h⟩
  | p :: L, h => by
    obtain ⟨d, h1, h2, h3⟩ := h p List.mem_cons_self
    obtain ⟨es, q1, q2, q3⟩ := picks_data (L := L) fun q hq => h q (List.mem_cons_of_mem _ hq)
    exact ⟨d :: es, .cons h3 q1, by rw [List.map_cons, List.map_cons, h2, q2], fun e he => by
      rcases List.mem_cons.mp he with rfl | he
      · exact h1
      · exact q3 e he⟩
theorem nested_all {pins : List (Addr × Obj)} {s : Shared} {σ : Stt} {H : Hp} {O : AS} (I : Inv X pins σ H s) : ∀ {ks : List KA} {ds : List D}, Rps X.fg H O (ks.map fun p => V.ref p.2) ds → ks.map (·.1) = ds.map nk → ds.all tupK = true → ∀ p ∈ ks, IsN s.heap p := fun {ks ds} r e t p hp => by
  obtain ⟨d, h1, h2, h3⟩ := pick_data r e p hp
  obtain ⟨xs, rfl, h4⟩ := tupK_hsh (List.all_eq_true.mp t d h1)
  refine ⟨?_, by rw [← h2]; exact nk_depth _ 8 h4⟩
  rw [← h2]
  exact Rp.nested I _ 8 h3 h4 rfl
theorem tset_of {pins : List (Addr × Obj)} {s : Shared} {σ : Stt} {H : Hp} {O : AS} {v : V} {u : Value} {d : D} {ds : List D} {Q : Value → Shared → Prop} (hc : X.calm = true) (hu : X.A.units + 200 < cLine) (I : Inv X pins σ H s) (rv : RelV v u) (o : Opd X.fg H O v d)
    (hd : d = .list ds ∨ d = .tuple ds) (few : fewT ds = true)
    (fin : ∀ s' a ks L es ep t, Inv X pins σ H s' → Rps X.fg H O (ks.map fun p : KA => V.ref p.2) ds → ks.map (·.1) = ds.map nk → StN X.w s'.heap a L es ep t → GotN ks ks.length L → Q (.ref a) s') : wpAny (model X.prog X.w) X.A (call (.type "set") [u]) Q X.xe s := by
  have t : ds.all tupK = true := by simp only [fewT, Bool.and_eq_true] at few; exact few.1.1
  rcases hd with rfl | rfl
  · obtain ⟨a, vs, e, h1, r⟩ := o.lst
    subst e
    cases (show u = Value.ref a from rv)
    obtain ⟨ks, e1, e2⟩ := tups_refs r t
    subst e1
    obtain ⟨its, r2, pl, hz⟩ := I.list h1
    exact set_n ks (I.ok.hd hc) (.inl pl.isList) (by simpa using refs_vals r2) (nested_all I r e2 t) (few_of few e2) (by omega) fun h' tk L es ep t2 hS g hk => fin _ _ ks L es ep t2 (I.kept fun b o e => hk b o e) r e2 hS g
  · obtain ⟨a, vs, e, h1, r⟩ := o.tup
    subst e
    cases (show u = Value.ref a from rv)
    obtain ⟨ks, e1, e2⟩ := tups_refs r t
    subst e1
    obtain ⟨its, r2, pl, hz⟩ := I.tuple h1
    exact set_n ks (I.ok.hd hc) (.inr (show s.heap.IsTuple a its.toArray from pl)) (by simpa using refs_vals r2) (nested_all I r e2 t) (few_of few e2) (by omega) fun h' tk L es ep t2 hS g hk => fin _ _ ks L es ep t2 (I.kept fun b o e => hk b o e) r e2 hS g
theorem got_len {ks L : List KA} {ds : List D} (t : ds.all tupK = true) (e : ks.map (·.1) = ds.map nk) (nd : (L.map (·.1)).Nodup) (g : GotN ks ks.length L) : L.length = (onceD ds).length := by
  obtain ⟨h1, h2⟩ := onceD_keys t
  have p : (L.map (·.1)).Perm ((onceD ds).map nk) := (List.perm_ext_iff_of_nodup nd h1).mpr fun k => by
    rw [h2, ← e]
    constructor
    · intro hk
      obtain ⟨q, hq, rfl⟩ := List.mem_map.mp hk
      exact List.mem_map.mpr ⟨q, List.mem_of_mem_take (g.sub q hq), rfl⟩
    · intro hk
      obtain ⟨q, hq, rfl⟩ := List.mem_map.mp hk
      exact g.all q (by rw [List.take_length]; exact hq)
  simpa using p.length_eq
/-- sorted(set) -/
theorem tsort {pins : List (Addr × Obj)} {s : Shared} {σ : Stt} {H : Hp} {O : AS} {a : Addr} {ks L : List KA} {es : Array (Int × Value)} {ep : Nat} {t : SetTable} {ds : List D} {Q : VK} (hc : X.calm = true) (hu : X.A.units + 200 < cLine) (I : Inv X pins σ H s) (m : Muts H O)
    (r : Rps X.fg H O (ks.map fun p : KA => V.ref p.2) ds) (e : ks.map (·.1) = ds.map nk) (S : StN X.w s.heap a L es ep t) (g : GotN ks ks.length L) (few : fewT ds = true) (so : sortable ds = true) (un : uniqD ds = true)
    (q : ∀ p ws, H p = none → Rps X.fg H O ws ((onceD ds).mergeSort leD) → Q (.ref p) (upd H p (.lst ws))) : wpAny (model X.prog X.w) X.A (call (.builtin "sorted") [.ref a]) (EP X pins σ Q) X.xe s := by
  have tk : ds.all tupK = true := by simp only [fewT, Bool.and_eq_true] at few; exact few.1.1
  have lf : (onceD ds).length ≤ 76 := by simp only [fewT, Bool.and_eq_true, decide_eq_true_eq] at few; exact few.2
  have ln := got_len tk e S.once g
  obtain ⟨o, ho, oe, od⟩ := S.lies
  refine Calls.call_function_entry PyProof.Rows.kind_sorted PyProof.Rows.plain_sorted PyProof.Rows.entry_sorted (PyProof.Rows.args_sorted1 _) ?_
  unfold Builtin.«sorted»
  refine wpAny_bind (m := checkCount "sorted" 1 1 _) (wpAny_pure ?_)
  refine wpAny_bind (collect_set (A := X.A.in1) (I.ok.hd hc) ⟨o, ho, oe.1, od⟩ S.fit (by rw [S.many, ln]; unfold scanBound; omega) S.tab.ris S.led fun s1 us k1 hz g1 o1 pm => ?_)
  have I1 : Inv X pins σ H s1 := I.call' (ch := []) o1 (Un.kept k1) (I.hok.kept k1) (by rw [g1]; exact I.bare) (fun _ z => nomatch z)
  rw [S.rows, List.map_map] at pm
  obtain ⟨L1, p1, e1⟩ := perm_unmap pm L rfl
  obtain ⟨es1, r1, n1, s2⟩ := picks_data (K := X.fg) (H := H) (O := O) (ds := ds) (L := L1) fun p hp => pick_data r e p (List.mem_of_mem_take (g.sub p (p1.mem_iff.mp hp)))
  have rv : Vals (L1.map fun p => V.ref p.2) us := by rw [e1]; exact vals_refs L1
  have nd1 : (es1.map nk).Nodup := by rw [n1]; exact ((p1.map (·.1)).nodup_iff).mpr S.once
  have nd2 : es1.Nodup := nd1.of_map _ (fun _ _ h e => h (congrArg nk e))
  have k2 := onceD_keys tk
  have nd3 : (onceD ds).Nodup := k2.1.of_map _ (fun _ _ h e => h (congrArg nk e))
  have tks : ∀ d ∈ ds, tupK d = true := fun d hd => List.all_eq_true.mp tk d hd
  have by_key : ∀ x ∈ ds, ∀ y ∈ ds, nk x = nk y → x = y := fun x hx y hy h => uniq_eq un hx hy (by rw [tup_eqD (tks x hx) (tks y hy)]; exact decide_eq_true h)
  have mem1 : ∀ x, x ∈ es1 ↔ x ∈ onceD ds := fun x => by
    constructor
    · intro hx
      have : nk x ∈ (onceD ds).map nk := (k2.2 _).mpr (List.mem_map.mpr ⟨x, s2 x hx, rfl⟩)
      obtain ⟨y, hy, ey⟩ := List.mem_map.mp this
      rw [← by_key y (onceD_sub hy) x (s2 x hx) ey]
      exact hy
    · intro hx
      have h1 : nk x ∈ ks.map (·.1) := by rw [e]; exact List.mem_map.mpr ⟨x, onceD_sub hx, rfl⟩
      obtain ⟨p, hp, ep⟩ := List.mem_map.mp h1
      have h2 := g.all p (by rw [List.take_length]; exact hp)
      rw [← (p1.map (·.1)).mem_iff, ← n1, ep] at h2
      obtain ⟨y, hy, ey⟩ := List.mem_map.mp h2
      rw [← by_key y (s2 y hy) x (onceD_sub hx) ey]
      exact hy
  have pe : es1.Perm (onceD ds) := (List.perm_ext_iff_of_nodup nd2 nd3).mpr mem1
  have al : ∀ x ∈ ds, ∀ y ∈ ds, PySem.W.alike (py x) (py y) = true := fun x hx y hy => by
    simp only [sortable, Bool.and_eq_true] at so
    exact List.all_eq_true.mp (List.all_eq_true.mp so.1.1 x hx) y hy
  have sub : ∀ x ∈ es1, x ∈ ds := s2
  have sh : ∀ x ∈ ds, shp 60 x = true := (sortable_of so).2.1
  have so1 : sortable es1 = true := by
    simp only [sortable, Bool.and_eq_true, Bool.or_eq_true] at so ⊢
    obtain ⟨⟨a1, a2⟩, a3⟩ := so
    refine ⟨⟨?_, ?_⟩, ?_⟩
    · exact List.all_eq_true.mpr fun x hx => List.all_eq_true.mpr fun y hy => al x (sub x hx) y (sub y hy)
    · exact List.all_eq_true.mpr fun x hx => sh x (sub x hx)
    · rcases a3 with a3 | a3
      · exact .inl (List.all_eq_true.mpr fun x hx => List.all_eq_true.mp a3 x (sub x hx))
      · exact .inr (List.all_eq_true.mpr fun x hx => List.all_eq_true.mp a3 x (sub x hx))
  have me : es1.mergeSort leD = (onceD ds).mergeSort leD := msort_perm pe fun x hx y hy h1 h2 => uniq_eq un (sub x hx) (sub y hy) (leD_anti (al x (sub x hx) y (sub y hy)) (shp_dict (sh x (sub x hx))) h1 h2)
  exact sort_tail (by simp only [Around.in1_units]; omega) I1 m rv r1 (by rw [pe.length_eq, sizeLine_eq]; omega) so1 (by rw [me]; exact q) fun p s' hp => ⟨_, rfl, hp⟩
/-- what is asked of the operand -/
def rSs (K : Fg) (f : Bf) : V → Hp → VK → Prop := fun x H Q => ∃ O d dz, Muts H O ∧ Opd K H O x d ∧ biD f [d] = some dz ∧ ∀ z H', Nw K H O z dz H' → Q z H'
def rSsN (K : Fg) : V → Hp → VK → Prop := fun x H Q => ∃ O d dz, Muts H O ∧ Opd K H O x d ∧ biD .sset [d] = some dz ∧ ∀ p u, H p = none → Nc K H O p u dz → Q (.ref p) (upd H p u)
variable {a : Expr} {ta : TE} {p p2 q pos : Pos}
theorem pe_sset (hc : X.calm = true) (hu : X.A.units + 200 < cLine) (hg : Gl X "sorted") (hm : X.mg "sorted" = none) (hg2 : Gl X "set") (hm2 : X.mg "set" = none) (ha : PE X a ta) (na : starEach [a] X.env = (false, eval a X.env) :: starEach [] X.env) :
    PE X (.Call (.Name "sorted" p) [.Call (.Name "set" p2) [a] [] q] [] pos) (fun σ H Q => ta σ H fun x H1 => rSsN X.fg x H1 Q) := by
  refine ⟨fun pins s σ H Q I h => ?_⟩
  refine Call_ (ld_blt I hg hm (show bootBuiltins "sorted" = some (.builtin "sorted") by decide +kernel) (PyProof.Rows.callWith_builtin1 (PyProof.Rows.args_cons ?_ rfl) rfl rfl))
  refine Call_ (ld_blt I hg2 hm2 PyProof.Rows.boot_set (PyProof.Rows.callWith_type1 (PyProof.Rows.args_cons (thn (ha.run pins s σ H _ I h) fun v s1 ⟨x, H1, I1, r1, q1⟩ => PyProof.Rows.args_nil ?_) na) na rfl))
  obtain ⟨O, d, dz, m, o, hd, fin⟩ := q1
  obtain ⟨ds, h1, hd⟩ := Option.bind_eq_some_iff.mp hd
  cases h2 : intsD ds with
  | some ns =>
    rw [h2] at hd
    simp only at hd
    split at hd
    · rename_i hb
      cases hd
      simp only [Bool.and_eq_true, decide_eq_true_eq] at hb
      refine set_of hc I1 r1 o (asLT_or h1) h2 (by unfold scanBound; omega) fun s2 b c I2 hS hle => ?_
      refine PyProof.Rows.args_nil ?_
      refine sorted_set hS (I2.ok.hd hc) (by rw [setR_count hS]; exact hb.2) fun s3 l out n ms k1 k2 k3 k4 k5 k6 k7 k8 k9 => ?_
      have e : ms = oset ns := rising_eq k7 (oset_lt ns) fun k => by rw [k8, oset_mem]; simp
      subst e
      have fit : ((oset ns).map V.int).length ≤ sizeLine := by rw [List.length_map]; exact small64 hb.2
      have nl : H1 l = none := I2.hok.fresh k4
      have vs : Vals ((oset ns).map V.int) out.toList := vals_ints k6
      have I3 : Inv X pins σ (upd H1 l (.lst ((oset ns).map V.int))) { s2 with heap := s3.heap, gens := s3.gens, drawn := s3.drawn, toks := s3.toks } :=
        I2.call (ch := []) (Un.laid k1 k4 nl) (I2.hok.laid k1 k4 ⟨fit, out.toList, n, vs, by rw [k5]⟩) (by rw [k2]; exact I2.bare) (fun _ z => nomatch z)
      have e3 : s3 = { s2 with heap := s3.heap, gens := s3.gens, drawn := s3.drawn, toks := s3.toks } := by
        cases s3; cases s2; cases k3; rfl
      rw [e3]
      exact ⟨.ref l, _, I3, rfl, fin _ _ nl (.list (rps_ints (oset ns)))⟩
    · cases hd
  | none =>
    rw [h2] at hd
    simp only [tset] at hd
    split at hd
    · rename_i hb
      cases hd
      simp only [Bool.and_eq_true] at hb
      refine tset_of hc hu I1 r1 o (asLT_or h1) hb.1.1 fun s2 b ks L es ep t I2 rr e hS g => ?_
      refine PyProof.Rows.args_nil ?_
      exact tsort hc hu I2 m rr e hS g hb.1.1 hb.1.2 hb.2 fun p ws n r => fin _ _ n (.list r)
    · cases hd
theorem pe_lset (hc : X.calm = true) (hu : X.A.units + 200 < cLine) (hg : Gl X "len") (hm : X.mg "len" = none) (hg2 : Gl X "set") (hm2 : X.mg "set" = none) (ha : PE X a ta) (na : starEach [a] X.env = (false, eval a X.env) :: starEach [] X.env) :
    PE X (.Call (.Name "len" p) [.Call (.Name "set" p2) [a] [] q] [] pos) (fun σ H Q => ta σ H fun x H1 => rSs X.fg .lset x H1 Q) := by
  refine ⟨fun pins s σ H Q I h => ?_⟩
  refine Call_ (ld_blt I hg hm PySem.boot_len (PyProof.Rows.callWith_builtin1 (PyProof.Rows.args_cons ?_ rfl) rfl rfl))
  refine Call_ (ld_blt I hg2 hm2 PyProof.Rows.boot_set (PyProof.Rows.callWith_type1 (PyProof.Rows.args_cons (thn (ha.run pins s σ H _ I h) fun v s1 ⟨x, H1, I1, r1, q1⟩ => PyProof.Rows.args_nil ?_) na) na rfl))
  obtain ⟨O, d, dz, m, o, hd, fin⟩ := q1
  obtain ⟨ds, h1, hd⟩ := Option.bind_eq_some_iff.mp hd
  cases h2 : intsD ds with
  | some ns =>
    rw [h2] at hd
    simp only at hd
    split at hd
    · rename_i hb
      cases hd
      simp only [decide_eq_true_eq] at hb
      refine set_of hc I1 r1 o (asLT_or h1) h2 (by unfold scanBound; omega) fun s2 b c I2 hS hle => ?_
      have hcn := setR_count hS
      obtain ⟨ob, es, ep, t, ho, hex, hd, _, _, _, _, hf, hn, _⟩ := hS
      refine PyProof.Rows.args_nil ?_
      exact call_len_set ho hex hd hf (by rw [hn]; omega) ⟨.int (oset ns).length, H1, I2.tok _, ⟨_, by rw [hn, hcn]⟩, fin _ _ (Nw.same (.int _))⟩
    · cases hd
  | none =>
    rw [h2] at hd
    simp only at hd
    split at hd
    · rename_i hb
      cases hd
      refine tset_of hc hu I1 r1 o (asLT_or h1) hb fun s2 b ks L es ep t I2 rr e hS g => ?_
      have tk : ds.all tupK = true := by simp only [fewT, Bool.and_eq_true] at hb; exact hb.1.1
      have lf : (onceD ds).length ≤ 76 := by simp only [fewT, Bool.and_eq_true, decide_eq_true_eq] at hb; exact hb.2
      have ln := got_len tk e hS.once g
      have many := hS.many
      obtain ⟨ob, ho, hex, hd⟩ := hS.lies
      refine PyProof.Rows.args_nil ?_
      exact call_len_set ho hex hd hS.fit (by rw [many]; omega) ⟨.int (onceD ds).length, H1, I2.tok _, ⟨_, by rw [many, ln]⟩, fin _ _ (Nw.same (.int _))⟩
    · cases hd
end
end MW

set_option Elab.async false
set_option linter.all false
set_option maxRecDepth 100000
/-! MW5: defs that know that no repr is under way; the compiler; what it compiles is so -/
namespace MW
open PySem PySem.Spec PyProof.Rows L2

/-! ### a def's promise, where no guard stands around the call -/
abbrev CXZ : CXT := fun _ _ _ _ _ _ => False
structure FnG (P : Program) (w : World) (K : PySem.W.Frag) (mg : Str → Option Value) (base : Heap) (k : Nat) (f : Addr) (fd : FuncData) (ps : List Str) (sp : Sp) : Prop where
  len : ∀ vs H Q E, sp vs H Q E → vs.length = ps.length
  run : ∀ (A : Around) (outer : List Env) (s : Shared) (H : Hp) (args : Args) (us : List Value) (vs : List V) (Q : VK) (E : XK), A.guards = some [] → Room k A → Env0 P w K mg base A outer s H →
    BindsTo s fd args (ps.zip us) → Vals vs us → sp vs H Q E → codeAny (model P w) A (.call (.ref f) args) (CR CXZ outer P w H s Q E) s
theorem FnG.up {P : Program} {w : World} {K : PySem.W.Frag} {mg : Str → Option Value} {base : Heap} {j k : Nat} {f : Addr} {fd : FuncData} {ps : List Str} {sp : Sp} (F : FnG P w K mg base j f fd ps sp) (h : j ≤ k) : FnG P w K mg base k f fd ps sp :=
  { len := F.len, run := fun A outer s H args us vs Q E hg hr => F.run A outer s H args us vs Q E hg (hr.mono h) }
section
variable {P : Program} {w : World} {K : PySem.W.Frag} {mg : Str → Option Value} {base : Heap}
/-- a def by its body -/
theorem FunD.okG {x qual : Str} {params : Arguments} {body : List Stmt} {scope : Scope} {f : Addr} {fd : FuncData} {N ps : List Str} {k : Nat} {sp : Sp} (F : FunD K x qual params body scope [] [] f fd) (S : FnScope N ps scope)
    (len : ∀ vs H Q E, sp vs H Q E → vs.length = ps.length)
    (hb : ∀ (cdv : Value) (A : Around) (outer : List Env) (s : Shared) (H : Hp) (vs : List V) (Q : VK) (E : XK), A.guards = some [] → Room k (A.deeper (envOfC qual scope s.heap.objs.size f cdv)) → sp vs H Q E →
      ∃ t, PSs (cxOf CXZ P w K mg base N qual scope f cdv A outer s H E).nox body t ∧ t { nx := fun _ H' => Q .non H', rt := Q } (start N vs) H) : FnG P w K mg base (k + 1) f fd ps sp := by
  obtain ⟨oc, od, dV, kV, doc, pm, an, cdv, ct, osl, rfl, lk, hcd, _, _⟩ := F.ex
  refine ⟨len, fun A outer s H args us vs Q E hg hr e0 hbd r hsp => ?_⟩
  have inK : K.In s.heap := e0.mod.kin.keeps fun b o e => (e0.bs b o e).1
  have nol : s.heap.NoLimit := e0.mod.nolimit.keeps fun b o e => (e0.bs b o e).1
  have kinds : ∀ y ∈ ps.zip us, scope.names.lookup y.1 = some .local ∨ (scope.names.lookup y.1 = some .cell ∧ ((cellsFrom (s.heap.objs.size + 1) scope.names []).lookup y.1).isSome = true) := by
    rintro ⟨n, v⟩ hy
    rcases S.par n (List.of_mem_zip hy).1 with q | q
    · exact .inl q
    · exact .inr ⟨q, PySem.W.cellsFrom_some _ _ _ (.inl q)⟩
  refine codeAny_call_function hr.depth (inK _ _ lk) rfl S.co S.gen rfl (PySem.W.codeRec_of inK hcd) (hbd _ _ _ _ ?_)
  refine wpAny_newFunctionEnv_cells S.kind kinds fun env he s1 x => ?_
  subst he
  refine ⟨nol.keeps x.toInCall.keep, codeAny_func ?_⟩
  obtain ⟨t, ht, hq⟩ := hb cdv A outer s H vs Q E hg (hr.deeper _) hsp
  have I : Inv (cxOf CXZ P w K mg base N qual scope f cdv A outer s H E) [] (start N vs) H s1 := inv_start S hr.hd e0 (len _ _ _ _ hsp) r x
  refine wpAny_mono (ht.nox.run [] s1 (start N vs) H _ I hq) (fun fl s' hs => ?_) (fun _ _ hs => hs)
  cases fl with
  | ret u =>
    obtain ⟨v, σ', H', J, rv, q⟩ := hs
    exact ⟨v, H', J.os, J.bare, J.base, J.hok, rv, q⟩
  | next =>
    obtain ⟨σ', H', J, q⟩ := hs
    exact ⟨.non, H', J.os, J.bare, J.base, J.hok, rfl, q⟩
  | brk => obtain ⟨_, _, _, q⟩ := hs; exact q.elim
  | cont => obtain ⟨_, _, _, q⟩ := hs; exact q.elim
/-- a call by name -/
theorem pe_callG {X : Cx} {k : Nat} {f : Addr} {fd : FuncData} {ps : List Str} {sp : Sp} {x : Str} {p pos : Pos} {es : List Expr} {t : TA} (F : FnG X.prog X.w X.K X.mg X.base k f fd ps sp) (hr : Room k X.A) (hgd : X.A.guards = some []) (hg : Gl X x)
    (hm : X.mg x = some (.ref f)) (hk : PySem.W.keepIn X.K (.ref f) = true) (hb : Binds X.K fd ps []) (ha : PA X es t) (hne : es ≠ []) (hst : ∀ y ∈ es, ∀ e q, y ≠ .Starred e q) (hdb : (x == ("__debug__" : Str)) = false) : PE X (.Call (.Name x p) es [] pos) (tCall sp [] E0 t) := by
  have plain : ∀ {l : List Expr}, (∀ y ∈ l, ∀ e q, y ≠ .Starred e q) → starEach l X.env = l.map fun e => (false, eval e X.env) := by
    intro l
    induction l with
    | nil => intro _; rfl
    | cons y l ih =>
      intro h
      rw [List.map_cons, ← ih fun z hz => h z (List.mem_cons_of_mem _ hz)]
      have hy := h y List.mem_cons_self
      cases y <;> first | rfl | exact absurd rfl (hy _ _)
  have run : ∀ {pins : List (Addr × Obj)} {σ : Stt} {H : Hp} {s : Shared} {Q : VK} {us : List Value} {vs : List V}, Inv X pins σ H s → Vals vs us → sp (vs ++ []) H Q E0 → wpAny (model X.prog X.w) X.A (call (.ref f) us) (EP X pins σ Q) X.xe s := by
    intro pins σ H s Q us vs I r h
    rw [List.append_nil] at h
    have hl : (us ++ []).length = ps.length := by rw [List.append_nil, ← r.length]; exact F.len _ _ _ _ h
    have hbd := hb s us I.kIn hl
    rw [List.append_nil] at hbd
    refine wpAny_call (codeAny_mono (F.run X.A X.stack s H ⟨us, []⟩ us vs Q E0 hgd hr I.env0 hbd r h) fun r s' hq => ?_)
    cases r with
    | error e => exact (show False from hq).elim
    | ok fl =>
      cases fl with
      | ret u => exact I.after hq
      | next => exact (show False from hq).elim
      | brk => exact (show False from hq).elim
      | cont => exact (show False from hq).elim
  refine ⟨fun pins s σ H Q I h => ?_⟩
  refine wpAny_Call_Name_kw (ld_glob I hg hm ?_ hdb)
  cases es with
  | nil => exact absurd rfl hne
  | cons e es =>
    refine PySem.W.callWith_K (h₀ := X.base) I.ok.mod.kin hk (thn (ha.run pos pins s σ H _ I h) fun us s1 ⟨vs, H1, I1, r, q⟩ => ⟨I1.kIn, run I1 r q⟩) ?_ ?_
    · rw [plain hst, plain fun z hz => hst z (List.mem_cons_of_mem _ hz)]; rfl
    · rw [plain fun z hz => hst z (List.mem_cons_of_mem _ hz)]
      unfold backTo
      simp
end
end MW

set_option Elab.async false
set_option linter.all false
set_option maxRecDepth 100000
/-! MW6: the compiler; readings over data -/
namespace MW
open PySem PySem.Spec PyProof.Rows L2

/-! ### the compiler -/
structure Cm where
  N : List Str
  sc : Scope
  blk : Option Scope := none
  gl : List (Str × D) := []
  fs : List Str := []
  bl : List Str := []
  ms : List Str := []
  nw : Bool := false
  nf : List Str := []
def ixOf : List Str → Str → Option Nat
  | [], _ => none
  | y :: ys, x => if y = x then some 0 else (ixOf ys x).map (· + 1)
theorem ixOf_get : ∀ {N : List Str} {x : Str} {i : Nat}, ixOf N x = some i → N[i]? = some x
  | [], _, _, h => by simp [ixOf] at h
  | y :: ys, x, i, h => by
    unfold ixOf at h
    split at h
    · cases h; rename_i e; simp [e]
    · obtain ⟨j, hj, e⟩ := Option.map_eq_some_iff.mp h
      subst e
      simpa using ixOf_get hj
def litD : Const → Option D
  | .none => some .none
  | .bool b => some (.bool b)
  | .int i => some (.int i)
  | .str s => some (.str s.cps.toList)
  | _ => none
def isTupX : Expr → Bool
  | .Tuple _ _ _ => true
  | _ => false
def isSetE : Expr → Bool
  | .Set _ _ _ => true
  | _ => false
def isSlcE : Expr → Bool
  | .Slice _ _ _ _ => true
  | _ => false
def isStar : Expr → Bool
  | .Starred _ _ => true
  | _ => false
def isGl (c : Cm) (x : Str) : Bool := match c.sc.names.lookup x with
  | some .globalImplicit => !(x == ("__debug__" : Str))
  | _ => false
def isVis (c : Cm) (x : Str) : Bool := (match c.sc.names.lookup x with
  | some .local => true
  | some .cell => true
  | some .free => true
  | _ => false) && !(x == ("__debug__" : Str)) && !(x == ("__classdict__" : Str))
def isLoc (c : Cm) (x : Str) : Bool := match c.sc.names.lookup x with
  | some .local => true
  | some .cell => match c.blk with
    | none => true
    | some s => (match s.names.lookup x with | some .cell => true | _ => false)
  | _ => false
def tyOf? (x : Str) : Option Ty :=
  if x = "int" then some .int else if x = "str" then some .str else if x = "bool" then some .bool else if x = "tuple" then some .tuple else if x = "list" then some .list else none
def bfOf (x : Str) (n : Nat) : Option Bf :=
  if x = "len" then (if n = 1 then some .len else none)
  else if x = "tuple" then (if n = 1 then some .tuple else none)
  else if x = "list" then (if n = 1 then some .list else none)
  else if x = "sorted" then (if n = 1 then some .sorted else none)
  else if x = "all" then (if n = 1 then some .all else none)
  else if x = "any" then (if n = 1 then some .any else none)
  else if x = "sum" then (if n = 1 then some .sum else none)
  else if x = "min" then (if n = 1 then some .min1 else if n = 2 then some .min2 else none)
  else if x = "max" then (if n = 1 then some .max1 else if n = 2 then some .max2 else none)
  else if x = "int" then (if n = 1 then some .int else none)
  else if x = "repr" then (if n = 1 then some .repr else none)
  else if x = "abs" then (if n = 1 then some .abs else none)
  else if x = "dict" then (if n = 1 then some .dpairs else none)
  else none
def meOf (x : Str) (n : Nat) : Option Me :=
  if x = "join" then (if n = 1 then some .join else none)
  else if x = "index" then (if n = 1 then some .index else none)
  else if x = "find" then (if n = 1 then some .find else none)
  else if x = "get" then (if n = 2 then some .dget else none)
  else none
/-- the names that a block has of its own, with their slots -/
def ownOf (N : List Str) (s : Scope) : List (Str × Nat) := s.names.filterMap fun p => match p.2 with
  | .local => (ixOf N p.1).map fun i => (p.1, i)
  | .cell => (ixOf N p.1).map fun i => (p.1, i)
  | _ => none
/-- a name of a list that is changed somewhere: its place -/
def lkN (c : Cm) : Expr → Option Nat
  | .Name x _ => if isVis c x && c.ms.contains x then ixOf c.N x else none
  | _ => none
def mkComp (c : Cm) (it : Expr) (ws : List Nat) (g : Tg) (z : Bool × List Ex) (q : List Co) (y : Ex) : Ex := match lkN c it with
  | some i => .compL ws g i q y
  | none => .comp ws g z.1 z.2 q y
def mkFor (c : Cm) (it : Expr) (g : Tg) (z : Bool × List Ex) (b : List Sm) : Sm := match lkN c it with
  | some i => .forL g i b
  | none => .for g z.1 z.2 b
def Cm.into (c : Cm) (s : Scope) : Cm := { c with sc := relS s c.sc, blk := some s }
mutual
def cT (c : Cm) : Nat → Expr → Option Tg
  | 0, _ => none
  | n + 1, .Name x _ => if isLoc c x then (ixOf c.N x).map .nm else none
  | n + 1, .Tuple es _ _ => (cTs c n es).map .tp
  | _ + 1, _ => none
def cTs (c : Cm) : Nat → List Expr → Option (List Tg)
  | 0, _ => none
  | n + 1, [] => some []
  | n + 1, e :: es => (cT c n e).bind fun t => (cTs c n es).map (t :: ·)
end
mutual
def cE : Nat → Cm → Expr → Option Ex
  | 0, _, _ => none
  | n + 1, c, e => match e with
    | .Name x _ => if isVis c x then (ixOf c.N x).map .var else if isGl c x then (c.gl.lookup x).map (.glo x) else none
    | .Constant v _ _ => (litD v).map .lit
    | .Tuple es _ _ => (cEs n c es).map .tup
    | .List es _ => (cEs n c es).map .lst
    | .Dict [] [] _ => some (.bi .dnew [])
    | .Dict ks vs _ => if !decide (0 < ks.length) || !decide (ks.length ≤ 15) then none else (cDp n c ks vs).map .ddp
    | .BinOp (.List es _) .Mult b _ => (cEs n c es).bind fun x => (cE n c b).map fun y => .bi .rep [.lst x, y]
    | .BinOp a op b _ => (cE n c a).bind fun x => (cE n c b).map (.bin op x)
    | .UnaryOp .Not a _ => (cE n c a).map .not
    | .UnaryOp .USub a _ => (cE n c a).map .neg
    | .Compare a [op] [b] _ => if isSetE b then none else (cE n c a).bind fun x => (cE n c b).map (.cmp op x)
    | .Compare a [op, op'] [b, d] _ => if isSetE b || isSetE d then none else (cE n c a).bind fun x => (cE n c b).bind fun y => (cE n c d).map (.cmp2 op op' x y)
    | .BoolOp op [a] _ => cE n c a
    | .BoolOp .And (a :: b :: r) p => (cE n c a).bind fun x => (cE n c (.BoolOp .And (b :: r) p)).map (.and x)
    | .BoolOp .Or (a :: b :: r) p => (cE n c a).bind fun x => (cE n c (.BoolOp .Or (b :: r) p)).map (.or x)
    | .IfExp t a b _ => (cC n c t).bind fun z => (cE n c a).bind fun x => (cE n c b).map (.ife z x)
    | .Subscript a (.Slice none none (some (.UnaryOp .USub (.Constant (.int 1) _ _) _)) _) _ => (cE n c a).map fun x => .bi .revs [x]
    | .Subscript a (.Slice lo hi none _) _ => (cE n c a).bind fun x => (cP n c lo).bind fun l => (cP n c hi).map (.slc x l)
    | .Subscript a i _ => if isSlcE i then none else (cE n c a).bind fun x => (cE n c i).map (.idx x)
    | .ListComp e [⟨t, it, ifs, 0⟩] s _ => if isSetE it || !blkC c.N c.sc s (ownOf c.N s) || !decide ((ownOf c.N s).map (·.2)).Nodup then none else
        (cI n c (isTupX t) it).bind fun z => (cT (c.into s) n t).bind fun g => if !(slots g).all (fun j => ((ownOf c.N s).map (·.2)).contains j) then none else (cCs n (c.into s) ifs).bind fun q => (cE n (c.into s) e).map (mkComp c it ((ownOf c.N s).map (·.2)) g z q)
    | .Call (.Name f _) es [] _ => if !isGl c f then none else if c.fs.contains f then (if es.isEmpty then none else (cEs n c es).map (.call f)) else if !c.bl.contains f then none else
        match es with
        | [a, .Name T _] => if f = "isinstance" then (if isGl c T && c.bl.contains T then (tyOf? T).bind fun t => (cE n c a).map fun x => .bi (.isi t) [x] else none)
            else (bfOf f 2).bind fun b => (cEs n c es).map (.bi b)
        | [.Call (.Name g _) [a] [] _] => if g = "set" && isGl c g && c.bl.contains g && (f = "sorted" || f = "len") then (cE n c a).map fun x => .bi (if f = "sorted" then .sset else .lset) [x]
            else if g = "range" && isGl c g && c.bl.contains g && (f = "tuple" || f = "list") then (cE n c a).map fun x => .bi (if f = "tuple" then .trng else .lrng) [x]
            else if g = "enumerate" && isGl c g && c.bl.contains g && f = "dict" then (cE n c a).map fun x => .bi .dpairs [.enm x]
            else (bfOf f es.length).bind fun b => (cEs n c es).map (.bi b)
        | _ => (bfOf f es.length).bind fun b => (cEs n c es).map (.bi b)
    | .Call (.Attribute (.Name x xp) m ap) es [] cp => if m = "pop" then (if isVis c x && (ap.endLine == cp.line) && decide (es.length ≤ 1) then (ixOf c.N x).bind fun i => (cEs n c es).map (.pop i) else none) else
        if !(ap.endLine == cp.line) || !decide (es.length < 29) || es.isEmpty then none else (meOf m es.length).bind fun k => (cE n c (.Name x xp)).bind fun y => (cEs n c es).map (.me k y)
    | .Call (.Attribute o m ap) es [] cp => match o with
        | .Call (.Name _ _) [] [] _ => none
        | _ => if !(ap.endLine == cp.line) || !decide (es.length < 29) || es.isEmpty then none else (meOf m es.length).bind fun k => (cE n c o).bind fun x => (cEs n c es).map (.me k x)
    | _ => none
def cEs : Nat → Cm → List Expr → Option (List Ex)
  | 0, _, _ => none
  | n + 1, c, [] => some []
  | n + 1, c, e :: es => (cE n c e).bind fun x => (cEs n c es).map (x :: ·)
/- the pairs of a display -/
def cDp : Nat → Cm → List (Option Expr) → List Expr → Option (List Ex)
  | 0, _, _, _ => none
  | _ + 1, _, [], [] => some []
  | n + 1, c, some k :: ks, v :: vs => (cE n c k).bind fun x => (cE n c v).bind fun y => (cDp n c ks vs).map fun l => x :: y :: l
  | _ + 1, _, _, _ => none
def cP : Nat → Cm → Option Expr → Option (Option Ex)
  | 0, _, _ => none
  | _ + 1, _, none => some none
  | n + 1, c, some e => (cE n c e).map some
/- what a for goes over: a range, or a list, tuple, text -/
def cI : Nat → Cm → Bool → Expr → Option (Bool × List Ex)
  | 0, _, _, _ => none
  | n + 1, c, tt, e => match e with
    | .Call (.Name f _) [a] [] _ => if f = "range" && isGl c f && c.bl.contains f then (cEs n c [a]).map fun x => (true, x)
        else if tt && (f = "enumerate" && isGl c f && c.bl.contains f) then (cE n c a).map fun x => (false, [.enm x]) else (cE n c e).map fun x => (false, [x])
    | .Call (.Name f _) [a, b] [] _ => if f = "range" && isGl c f && c.bl.contains f then (cEs n c [a, b]).map fun x => (true, x) else (cE n c e).map fun x => (false, [x])
    | _ => (cE n c e).map fun x => (false, [x])
def cC : Nat → Cm → Expr → Option Co
  | 0, _, _ => none
  | n + 1, c, e => match e with
    | .UnaryOp .Not a _ => (cC n c a).map .not
    | .BoolOp op [a] _ => cC n c a
    | .BoolOp .And (a :: b :: r) p => (cC n c a).bind fun x => (cC n c (.BoolOp .And (b :: r) p)).map (.and x)
    | .BoolOp .Or (a :: b :: r) p => (cC n c a).bind fun x => (cC n c (.BoolOp .Or (b :: r) p)).map (.or x)
    | .BoolOp _ [] _ => none
    | .IfExp _ _ _ _ => none
    | .Starred _ _ => none
    | _ => (cE n c e).map .ex
def cCs : Nat → Cm → List Expr → Option (List Co)
  | 0, _, _ => none
  | n + 1, _, [] => some []
  | n + 1, c, [e] => (cC n c e).map ([·])
  | _ + 1, _, _ => none
end

/-! ### readings -/
abbrev Xo := Evn → Option D
def rdE (F : Fx) (w : WP) : TE := fun σ H Q => ∃ ρ P, ER F H σ ρ ∧ w ρ P ∧
  ∀ v H' d ρ', ER F H' σ ρ' → Go H (Mine σ ρ) H' (Mine σ ρ') → Rp F.K H' (Av F σ ρ') v d → P d ρ' → Q v H'
/-- the operand as it will be looked at -/
def Lt (F : Fx) (σ : Stt) (H : Hp) (ρ : Evn) (v : V) (r : Xo) : Prop := ∀ H2 ρ2 d, ER F H2 σ ρ2 → Go H (Mine σ ρ) H2 (Mine σ ρ2) → r ρ2 = some d → Opd F.K H2 (Av F σ ρ2) v d
def rdO (F : Fx) (x : Ex) (w : WP) : TE := fun σ H Q => ∃ ρ K, ER F H σ ρ ∧ opd x w ρ K ∧
  ∀ v H' r ρ', ER F H' σ ρ' → Go H (Mine σ ρ) H' (Mine σ ρ') → Lt F σ H' ρ' v r → K r ρ' → Q v H'
def rdC (F : Fx) (w : WPC) : TT := fun σ H Q => ∃ ρ P, ER F H σ ρ ∧ w ρ P ∧
  ∀ b H' ρ', ER F H' σ ρ' → Go H (Mine σ ρ) H' (Mine σ ρ') → P b ρ' → Q b H'
def rdS (F : Fx) (w : WPs) : TA := fun σ H Q => ∃ ρ P, ER F H σ ρ ∧ w ρ P ∧
  ∀ vs H' ds ρ', ER F H' σ ρ' → Go H (Mine σ ρ) H' (Mine σ ρ') → Rps F.K H' (Av F σ ρ') vs ds → P ds ρ' → Q vs H'
def rdL (F : Fx) (w : WPs) : TA := fun σ H Q => ∃ ρ P, ER F H σ ρ ∧ w ρ P ∧
  ∀ vs H' ds ρ', ER F H' σ ρ' → Go H (Mine σ ρ) H' (Mine σ ρ') → Opds F.K H' (Av F σ ρ') vs ds → P ds ρ' → Q vs H'
section
variable {F : Fx} {σ : Stt} {H H' : Hp} {ρ ρ' : Evn}
theorem gm_av6 {σ' : Stt} (g : Go H (Mine σ ρ) H' (Mine σ' ρ')) : Go H (Av F σ ρ) H' (Av F σ' ρ') := fun b o h n =>
  ⟨(g b o h fun z => n (.inr z)).1, fun z => z.elim (fun q => n (.inl q)) (g b o h fun z => n (.inr z)).2⟩
theorem Lt.of {v : V} {d : D} (m : Muts H (Av F σ ρ)) (r : Rp F.K H (Av F σ ρ) v d) : Lt F σ H ρ v fun _ => some d := fun H2 ρ2 d2 e g h => by
  cases h; exact .inl (r.go (gm_av6 g) m)
theorem Lt.go {v : V} {r : Xo} (l : Lt F σ H ρ v r) (g : Go H (Mine σ ρ) H' (Mine σ ρ')) : Lt F σ H' ρ' v r := fun H2 ρ2 d e g' h => l H2 ρ2 d e (g.trans g') h
theorem Lt.var {v : V} {i : Nat} (h : σ[i]? = some (some v)) : Lt F σ H ρ v fun ρ' => pk ρ' i := fun H2 ρ2 d e g q => by
  obtain ⟨w, h1, h2⟩ := e.opd q
  rw [h] at h1; cases h1; exact h2
end
theorem bnd_ex {α : Type} {o : Option α} {k : α → Prop} (h : bnd o k) : ∃ a, o = some a ∧ k a := bnd_iff.mp h
def bld (x : Ex) : Bool := match x with
  | .var _ => false
  | _ => true
theorem opd_bld {x : Ex} (h : bld x = true) (w : WP) (ρ : Evn) (K : Xo → Evn → Prop) : opd x w ρ K = w ρ fun d ρ1 => K (fun _ => some d) ρ1 := by
  cases x <;> first | rfl | simp [bld] at h
end MW

set_option Elab.async false
set_option linter.all false
set_option maxRecDepth 100000
/-! MW7: how slots and heap change together -/
namespace MW
open PySem PySem.Spec PyProof.Rows L2
section
variable {F : Fx} {σ : Stt} {H H' : Hp} {ρ ρ' : Evn}
theorem gm_av {σ' : Stt} (g : Go H (Mine σ ρ) H' (Mine σ' ρ')) : Go H (Av F σ ρ) H' (Av F σ' ρ') := fun b o h n =>
  ⟨(g b o h fun z => n (.inr z)).1, fun z => z.elim (fun q => n (.inl q)) (g b o h fun z => n (.inr z)).2⟩
theorem set_cases {α : Type} {l : List α} {i j : Nat} {x y : α} (h : (l.set i x)[j]? = some y) : (j = i ∧ y = x) ∨ (j ≠ i ∧ l[j]? = some y) := by
  by_cases e : j = i
  · subst e
    by_cases hl : j < l.length
    · rw [List.getElem?_set_self hl] at h
      exact .inl ⟨rfl, (Option.some.inj h).symm⟩
    · rw [List.getElem?_eq_none (by simpa using hl)] at h; cases h
  · rw [List.getElem?_set_ne (Ne.symm e)] at h
    exact .inr ⟨e, h⟩
theorem getc_of {i : Nat} {d : D} (h : ρ[i]? = some (.own d) ∨ ρ[i]? = some (.io d)) : getc ρ i = some d := by
  rcases h with h | h <;> simp [getc, h]
theorem isM_iff {i : Nat} : IsM ρ i ↔ (∃ d, ρ[i]? = some (.own d)) ∨ ∃ d, ρ[i]? = some (.io d) := by
  constructor
  · exact IsM.cases
  · rintro (⟨d, h⟩ | ⟨d, h⟩)
    · exact isM_own h
    · exact isM_io h
theorem isM_set_val {i j : Nat} {x : Sl} (hx : ∀ d, x ≠ .own d ∧ x ≠ .io d) (h : IsM (ρ.set i x) j) : j ≠ i ∧ IsM ρ j := by
  rw [isM_iff] at h
  rcases h with ⟨d, h⟩ | ⟨d, h⟩
  · rcases set_cases h with ⟨_, e⟩ | ⟨n, e⟩
    · exact absurd e.symm (hx d).1
    · exact ⟨n, isM_own e⟩
  · rcases set_cases h with ⟨_, e⟩ | ⟨n, e⟩
    · exact absurd e.symm (hx d).2
    · exact ⟨n, isM_io e⟩
/-- a list of the def's own becomes a value -/
theorem ER.freeze (e : ER F H σ ρ) {i : Nat} {d : D} (h : ρ[i]? = some (.own d)) :
    ∃ a, σ[i]? = some (some (.ref a)) ∧ ER F H σ (ρ.set i (.val d)) ∧ Go H (Mine σ ρ) H (Mine σ (ρ.set i (.val d))) ∧ Rp F.K H (Av F σ (ρ.set i (.val d))) (.ref a) d := by
  obtain ⟨a, h1, h2, h3, h4⟩ := e.own i d h
  have ism : ∀ j, IsM (ρ.set i (.val d)) j → j ≠ i ∧ IsM ρ j := fun j hj => isM_set_val (x := .val d) (fun d2 => ⟨(by intro z; cases z), (by intro z; cases z)⟩) hj
  have sub : ∀ b, Av F σ (ρ.set i (.val d)) b → Av F σ ρ b := by
    rintro b (hb | ⟨j, hm, hs⟩)
    · exact .inl hb
    · exact .inr ⟨j, (ism j hm).2, hs⟩
  have na : ¬ Av F σ (ρ.set i (.val d)) a := by
    rintro (hb | ⟨j, hm, hs⟩)
    · exact h2 hb
    · exact (ism j hm).1 (e.inj j i a (ism j hm).2 (isM_own h) hs h1)
  have rp : Rp F.K H (Av F σ (ρ.set i (.val d))) (.ref a) d := by
    cases h4 with
    | list q r => exact .list q na (r.weak sub)
    | dictK q r => exact .dictK q na (r.weak sub)
    | dictN q e t z r => exact .dictN q na e t (z.weak sub) (r.weak sub)
  refine ⟨a, h1, ⟨by rw [List.length_set]; exact e.len, e.amb, fun j x hj => ?_, fun j x hj => ?_, fun j x hj => ?_, fun j k b hj hk s1 s2 => e.inj j k b (ism j hj).2 (ism k hk).2 s1 s2, e.since⟩, fun b o hb n => ⟨hb, fun ⟨j, hm, hs⟩ => n ⟨j, (ism j hm).2, hs⟩⟩, rp⟩
  · rcases set_cases hj with ⟨rfl, q⟩ | ⟨n, q⟩
    · cases q; exact ⟨_, h1, rp⟩
    · obtain ⟨v, q1, q2⟩ := e.val j x q; exact ⟨v, q1, q2.weak sub⟩
  · rcases set_cases hj with ⟨_, q⟩ | ⟨n, q⟩
    · cases q
    · obtain ⟨b, q1, q2, q3, q4⟩ := e.own j x q; exact ⟨b, q1, q2, q3, q4.weak sub⟩
  · rcases set_cases hj with ⟨_, q⟩ | ⟨n, q⟩
    · cases q
    · obtain ⟨b, q1, q2, q3, q4⟩ := e.io j x q; exact ⟨b, q1, q2, q3, q4.weak sub⟩
theorem setv_eq {i : Nat} {x : Sl} (h : setv ρ i x = some ρ') : ρ' = ρ.set i x ∧ i < ρ.length ∧ ∀ d, ρ[i]? ≠ some (.io d) := by
  unfold setv at h
  split at h
  · cases h
  · cases h
    rename_i q hn
    exact ⟨rfl, (List.getElem?_eq_some_iff.mp hn).1, fun d e => by rw [hn] at e; exact q d (Option.some.inj e)⟩
  · cases h
/-- a slot takes a value -/
theorem ER.setVal (e : ER F H σ ρ) {i : Nat} {v : V} {d : D} (r : Rp F.K H (Av F σ ρ) v d) (h : setv ρ i (.val d) = some ρ') :
    ER F H (σ.set i (some v)) ρ' ∧ Go H (Mine σ ρ) H (Mine (σ.set i (some v)) ρ') := by
  obtain ⟨rfl, hi, _⟩ := setv_eq h
  have ism : ∀ j, IsM (ρ.set i (.val d)) j → j ≠ i ∧ IsM ρ j := fun j hj => isM_set_val (x := .val d) (fun d2 => ⟨(by intro z; cases z), (by intro z; cases z)⟩) hj
  have sg : ∀ {j : Nat} {x : Option V}, j ≠ i → ((σ.set i (some v))[j]? = some x ↔ σ[j]? = some x) := fun n => by rw [List.getElem?_set_ne (Ne.symm n)]
  have sub : ∀ b, Av F (σ.set i (some v)) (ρ.set i (.val d)) b → Av F σ ρ b := by
    rintro b (hb | ⟨j, hm, hs⟩)
    · exact .inl hb
    · exact .inr ⟨j, (ism j hm).2, (sg (ism j hm).1).mp hs⟩
  refine ⟨⟨by rw [List.length_set, List.length_set]; exact e.len, e.amb, fun j x hj => ?_, fun j x hj => ?_, fun j x hj => ?_, fun j k b hj hk s1 s2 => ?_, e.since⟩, fun b o hb n => ⟨hb, fun ⟨j, hm, hs⟩ => n ⟨j, (ism j hm).2, (sg (ism j hm).1).mp hs⟩⟩⟩
  · rcases set_cases hj with ⟨rfl, q⟩ | ⟨n, q⟩
    · cases q
      exact ⟨v, List.getElem?_set_self (by rw [← e.len]; exact hi), r.weak sub⟩
    · obtain ⟨w, q1, q2⟩ := e.val j x q; exact ⟨w, (sg n).mpr q1, q2.weak sub⟩
  · rcases set_cases hj with ⟨_, q⟩ | ⟨n, q⟩
    · cases q
    · obtain ⟨b, q1, q2, q3, q4⟩ := e.own j x q; exact ⟨b, (sg n).mpr q1, q2, q3, q4.weak sub⟩
  · rcases set_cases hj with ⟨_, q⟩ | ⟨n, q⟩
    · cases q
    · obtain ⟨b, q1, q2, q3, q4⟩ := e.io j x q; exact ⟨b, (sg n).mpr q1, q2, q3, q4.weak sub⟩
  · exact e.inj j k b (ism j hj).2 (ism k hk).2 ((sg (ism j hj).1).mp s1) ((sg (ism k hk).1).mp s2)
theorem Nc.weak {K : Fg} {H : Hp} {O O' : AS} {a : Addr} {o : HO} {d : D} (w : ∀ a, O' a → O a) (c : Nc K H O a o d) : Nc K H O' a o d := by
  cases c with
  | list r => exact .list (r.weak w)
  | dictK r => exact .dictK (r.weak w)
  | dictN e t q r => exact .dictN e t (q.weak w) (r.weak w)
theorem Nc.ct {K : Fg} {O O' : AS} {a : Addr} {o : HO} {d : D} (c : Nc K H O a o d) (g : Go H O (upd H a o) O') (m : Muts H O) : Ct K (upd H a o) O' a d := by
  cases c with
  | list r => exact .list upd_same (r.go g m)
  | dictK r => exact .dictK upd_same (r.go g m)
  | dictN e t q r => exact .dictN upd_same e t (q.go g m) (r.go g m)
theorem Nc.rp {K : Fg} {O : AS} {a : Addr} {o : HO} {d : D} (c : Nc K H O a o d) (n : H a = none) (m : Muts H O) : Rp K (upd H a o) O (.ref a) d := by
  cases c with
  | list r => exact .list upd_same (m.non n) (r.go (Go.laid n) m)
  | dictK r => exact .dictK upd_same (m.non n) (r.go (Go.laid n) m)
  | dictN e t q r => exact .dictN upd_same (m.non n) e t (q.go (Go.laid n) m) (r.go (Go.laid n) m)
/-- a slot takes a list (a dict) that has just been laid at a -/
theorem ER.setOwn (e : ER F H σ ρ) {i : Nat} {a : Addr} {d : D} {o : HO} (n : H a = none) (hG : F.G a = none) (c : Nc F.K H (Av F σ ρ) a o d) (h : setv ρ i (.own d) = some ρ') :
    ER F (upd H a o) (σ.set i (some (.ref a))) ρ' ∧ Go H (Mine σ ρ) (upd H a o) (Mine (σ.set i (some (.ref a))) ρ') := by
  obtain ⟨rfl, hi, hio⟩ := setv_eq h
  have hiσ : i < σ.length := by rw [← e.len]; exact hi
  have ism : ∀ j, IsM (ρ.set i (.own d)) j → j = i ∨ (j ≠ i ∧ IsM ρ j) := fun j hj => by
    by_cases q : j = i
    · exact .inl q
    · refine .inr ⟨q, ?_⟩
      obtain ⟨x, hx⟩ := hj
      unfold getc at hx
      rw [List.getElem?_set_ne (Ne.symm q)] at hx
      exact ⟨x, hx⟩
  have sg : ∀ {j : Nat} {x : Option V}, j ≠ i → ((σ.set i (some (.ref a)))[j]? = some x ↔ σ[j]? = some x) := fun n => by rw [List.getElem?_set_ne (Ne.symm n)]
  have si : (σ.set i (some (.ref a)))[i]? = some (some (.ref a)) := List.getElem?_set_self hiσ
  have mu := e.muts
  have nav : ¬ Av F σ ρ a := mu.non n
  have sub : ∀ b, Av F (σ.set i (some (.ref a))) (ρ.set i (.own d)) b → b = a ∨ Av F σ ρ b := by
    rintro b (hb | ⟨j, hm, hs⟩)
    · exact .inr (.inl hb)
    · rcases ism j hm with rfl | ⟨q, hm⟩
      · rw [si] at hs; cases hs; exact .inl rfl
      · exact .inr (.inr ⟨j, hm, (sg q).mp hs⟩)
  have h' : ∀ b, b ≠ a → (upd H a o) b = H b := fun b hb => upd_ne hb
  have tr : ∀ {b : Addr} {u : HO}, H b = some u → (upd H a o) b = some u := fun {b u} hb => by rw [h' b (ne_of_none hb n)]; exact hb
  have go : Go H (Av F σ ρ) (upd H a o) (Av F (σ.set i (some (.ref a))) (ρ.set i (.own d))) := fun b o hb q => ⟨tr hb, fun z => (sub b z).elim (ne_of_none hb n) q⟩
  have gm : Go H (Mine σ ρ) (upd H a o) (Mine (σ.set i (some (.ref a))) (ρ.set i (.own d))) := fun b u hb q => ⟨tr hb, fun ⟨j, hm, hs⟩ => by
    rcases ism j hm with rfl | ⟨w, hm⟩
    · rw [si] at hs; cases hs; exact ne_of_none hb n rfl
    · exact q ⟨j, hm, (sg w).mp hs⟩⟩
  have cmut : ∀ b, Mut (H b) → b ≠ a := fun b hb z => by rw [z, n] at hb; exact hb
  refine ⟨⟨by rw [List.length_set, List.length_set]; exact e.len, fun b hb => ?_, fun j x hj => ?_, fun j x hj => ?_, fun j x hj => ?_, fun j k b hj hk s1 s2 => ?_, fun b o hb q => ?_⟩, gm⟩
  · rw [h' b (cmut b (e.amb b hb))]; exact e.amb b hb
  · rcases set_cases hj with ⟨_, q⟩ | ⟨q, hq⟩
    · cases q
    · obtain ⟨w, q1, q2⟩ := e.val j x hq; exact ⟨w, (sg q).mpr q1, q2.go go mu⟩
  · rcases set_cases hj with ⟨rfl, q⟩ | ⟨q, hq⟩
    · cases q
      exact ⟨a, si, fun z => nav (.inl z), hG, c.ct go mu⟩
    · obtain ⟨b, q1, q2, q3, q4⟩ := e.own j x hq; exact ⟨b, (sg q).mpr q1, q2, q3, q4.go go mu (h' b (cmut b q4.mut))⟩
  · rcases set_cases hj with ⟨_, q⟩ | ⟨q, hq⟩
    · cases q
    · obtain ⟨b, q1, q2, q3, q4⟩ := e.io j x hq; exact ⟨b, (sg q).mpr q1, q2, q3, q4.go go mu (h' b (cmut b q4.mut))⟩
  · rcases ism j hj with rfl | ⟨q, hm⟩ <;> rcases ism k hk with rfl | ⟨q', hm'⟩
    · rfl
    · rw [si] at s1; cases s1
      exact absurd (Or.inr ⟨k, hm', (sg q').mp s2⟩) nav
    · rw [si] at s2; cases s2
      exact absurd (Or.inr ⟨j, hm, (sg q).mp s1⟩) nav
    · exact e.inj j k b hm hm' ((sg q).mp s1) ((sg q').mp s2)
  · exact tr (e.since b o hb q)

/-- the content of a list (a dict) of the def's own, or of a handed-in one, changes -/
theorem ER.setC (e : ER F H σ ρ) {i : Nat} {a : Addr} {d0 d : D} {o : HO} (h0 : getc ρ i = some d0) (ha : σ[i]? = some (some (.ref a))) (c : Nc F.K H (Av F σ ρ) a o d) (h : setc ρ i d = some ρ') :
    ER F (upd H a o) σ ρ' ∧ Go H (Mine σ ρ) (upd H a o) (Mine σ ρ') := by
  have mu := e.muts
  have mine : Mine σ ρ a := ⟨i, ⟨d0, h0⟩, ha⟩
  have hi : i < ρ.length := by
    rcases getc_cases h0 with q | q <;> exact (List.getElem?_eq_some_iff.mp q).1
  -- the new slot
  obtain ⟨x, hx, rfl, hk⟩ : ∃ x, (x = .own d ∨ x = .io d) ∧ ρ' = ρ.set i x ∧ ((x = .own d ∧ ∃ d1, ρ[i]? = some (.own d1)) ∨ (x = .io d ∧ ∃ d1, ρ[i]? = some (.io d1))) := by
    unfold setc at h
    split at h
    · cases h; exact ⟨_, .inl rfl, rfl, .inl ⟨rfl, _, by assumption⟩⟩
    · cases h; exact ⟨_, .inr rfl, rfl, .inr ⟨rfl, _, by assumption⟩⟩
    · cases h
  have gx : (ρ.set i x)[i]? = some x := List.getElem?_set_self hi
  have ismi : IsM (ρ.set i x) i := by rcases hx with rfl | rfl; exact isM_own gx; exact isM_io gx
  have ism : ∀ j, IsM (ρ.set i x) j ↔ IsM ρ j := fun j => by
    by_cases q : j = i
    · subst q; exact ⟨fun _ => ⟨d0, h0⟩, fun _ => ismi⟩
    · constructor
      · rintro ⟨y, hy⟩; unfold getc at hy; rw [List.getElem?_set_ne (Ne.symm q)] at hy; exact ⟨y, hy⟩
      · rintro ⟨y, hy⟩; refine ⟨y, ?_⟩; unfold getc; rw [List.getElem?_set_ne (Ne.symm q)]; exact hy
  have av : ∀ b, Av F σ (ρ.set i x) b ↔ Av F σ ρ b := fun b =>
    ⟨fun z => z.elim .inl fun ⟨j, hm, hs⟩ => .inr ⟨j, (ism j).mp hm, hs⟩, fun z => z.elim .inl fun ⟨j, hm, hs⟩ => .inr ⟨j, (ism j).mpr hm, hs⟩⟩
  have go : Go H (Av F σ ρ) (upd H a o) (Av F σ (ρ.set i x)) := fun b u hb n =>
    ⟨by rw [upd_ne fun q => n (by rw [q]; exact .inr mine)]; exact hb, fun z => n ((av b).mp z)⟩
  have gm : Go H (Mine σ ρ) (upd H a o) (Mine σ (ρ.set i x)) := fun b u hb n =>
    ⟨by rw [upd_ne fun q => n (by rw [q]; exact mine)]; exact hb, fun ⟨j, hm, hs⟩ => n ⟨j, (ism j).mp hm, hs⟩⟩
  have other : ∀ {j : Nat} {b : Addr}, j ≠ i → IsM ρ j → σ[j]? = some (some (.ref b)) → b ≠ a := fun {j b} q hm hs z => q (e.inj j i a hm ⟨d0, h0⟩ (z ▸ hs) ha)
  have omut : Mut (some o) := by cases c <;> exact trivial
  refine ⟨⟨by rw [List.length_set]; exact e.len, fun b hb => ?_, fun j y hj => ?_, fun j y hj => ?_, fun j y hj => ?_, fun j k b hj hk s1 s2 => e.inj j k b ((ism j).mp hj) ((ism k).mp hk) s1 s2, fun b u hb q => ?_⟩, gm⟩
  · by_cases z : b = a
    · subst z; rw [upd_same]; exact omut
    · rw [upd_ne z]; exact e.amb b hb
  · rcases set_cases hj with ⟨_, q⟩ | ⟨q, hq⟩
    · rcases hx with rfl | rfl <;> cases q
    · obtain ⟨w, q1, q2⟩ := e.val j y hq; exact ⟨w, q1, q2.go go mu⟩
  · rcases set_cases hj with ⟨rfl, q⟩ | ⟨q, hq⟩
    · rcases hk with ⟨rfl, d1, hd1⟩ | ⟨rfl, d1, hd1⟩
      · cases q
        obtain ⟨b, q1, q2, q3, q4⟩ := e.own j d1 hd1
        rw [ha] at q1; cases q1
        exact ⟨a, ha, q2, q3, c.ct go mu⟩
      · cases q
    · obtain ⟨b, q1, q2, q3, q4⟩ := e.own j y hq
      exact ⟨b, q1, q2, q3, q4.go go mu (upd_ne (other q (isM_own hq) q1))⟩
  · rcases set_cases hj with ⟨rfl, q⟩ | ⟨q, hq⟩
    · rcases hk with ⟨rfl, d1, hd1⟩ | ⟨rfl, d1, hd1⟩
      · cases q
      · cases q
        obtain ⟨b, q1, q2, q3, q4⟩ := e.io j d1 hd1
        rw [ha] at q1; cases q1
        exact ⟨a, ha, q2, q3, c.ct go mu⟩
    · obtain ⟨b, q1, q2, q3, q4⟩ := e.io j y hq
      exact ⟨b, q1, q2, q3, q4.go go mu (upd_ne (other q (isM_io hq) q1))⟩
  · have q1 := e.since b u hb q
    rcases getc_cases h0 with z | z
    · obtain ⟨b', p1, p2, p3, _⟩ := e.own i d0 z
      rw [ha] at p1; cases p1
      rw [upd_ne fun w => by rw [w, p3] at hb; cases hb]
      exact q1
    · obtain ⟨b', p1, p2, p3, _⟩ := e.io i d0 z
      rw [ha] at p1; cases p1
      rw [upd_ne fun w => q i (by rw [w]; exact p2)]
      exact q1
end
end MW

set_option Elab.async false
set_option linter.all false
set_option maxRecDepth 100000
/-! MW8: promises over data, calls; what a for goes over -/
namespace MW
open PySem PySem.Spec PyProof.Rows L2

/-! ### promises -/
inductive Ars (K : Fg) (H : Hp) (A : AS) : List Bool → List V → List D → Prop
  | nil : Ars K H A [] [] []
  | val {io : List Bool} {v : V} {vs : List V} {d : D} {ds : List D} : Rp K H A v d → Ars K H A io vs ds → Ars K H A (false :: io) (v :: vs) (d :: ds)
  | io {io : List Bool} {a : Addr} {vs : List V} {d : D} {ds : List D} : A a → Ct K H A a d → Ars K H A io vs ds → Ars K H A (true :: io) (.ref a :: vs) (d :: ds)
inductive Outs (K : Fg) (H : Hp) (A : AS) : List Bool → List V → List D → Prop
  | nil : Outs K H A [] [] []
  | val {io : List Bool} {v : V} {vs : List V} {ds : List D} : Outs K H A io vs ds → Outs K H A (false :: io) (v :: vs) ds
  | io {io : List Bool} {a : Addr} {vs : List V} {d : D} {ds : List D} : Ct K H A a d → Outs K H A io vs ds → Outs K H A (true :: io) (.ref a :: vs) (d :: ds)
def IoA (io : List Bool) (vs : List V) (a : Addr) : Prop := ∃ i : Nat, io[i]? = some true ∧ vs[i]? = some (.ref a)
def IoN (io : List Bool) (vs : List V) : Prop := ∀ (i j : Nat) (a : Addr), io[i]? = some true → io[j]? = some true → vs[i]? = some (.ref a) → vs[j]? = some (.ref a) → i = j
def spG (K : Fg) (F : Fn) : Sp := fun vs H Q _ => ∃ (A : AS) (ds : List D) (R : D → List D → Prop), (∀ a, A a → Mut (H a)) ∧ Ars K H A F.io vs ds ∧ IoN F.io vs ∧ F.pt ds R ∧
  (F.nw = false → ∀ d outs, R d outs → ∀ v H', (∀ a, A a → Mut (H' a)) → (∀ b o, H b = some o → ¬ IoA F.io vs b → H' b = some o) → Rp K H' A v d → Outs K H' A F.io vs outs → Q v H') ∧
  (F.nw = true → ∀ d outs, R d outs → ∀ a o H', H' a = none → (∀ a, A a → Mut (H' a)) → (∀ b o, H b = some o → ¬ IoA F.io vs b → H' b = some o) → Nc K H' A a o d → Outs K H' A F.io vs outs → Q (.ref a) (upd H' a o))
theorem Ars.len {K : Fg} {H : Hp} {A : AS} : ∀ {io : List Bool} {vs : List V} {ds : List D}, Ars K H A io vs ds → vs.length = io.length ∧ ds.length = io.length
  | _, _, _, .nil => ⟨rfl, rfl⟩
  | _, _, _, .val _ t => ⟨congrArg (· + 1) t.len.1, congrArg (· + 1) t.len.2⟩
  | _, _, _, .io _ _ t => ⟨congrArg (· + 1) t.len.1, congrArg (· + 1) t.len.2⟩

/-- the module's side of a context -/
structure XOk (Γ : Gm) (k : Nat) (c : Cm) (X : Cx) : Prop where
  N : X.N = c.N
  sc : X.env.scope = c.sc
  nd : c.N.Nodup
  calm : X.calm = true
  hg : X.A.guards = some []
  room : Room k X.A
  bl : ∀ x ∈ c.bl, X.mg x = none
  gl : ∀ x d, c.gl.lookup x = some d → ∃ u v, X.mg x = some u ∧ RelV v u ∧ ∀ H O, Rp X.fg H O v d
  fs : ∀ f F, Γ f = some F → ∃ a fd ps, X.mg f = some (.ref a) ∧ PySem.W.keepIn X.K (.ref a) = true ∧ Binds X.K fd ps [] ∧ FnG X.prog X.w X.K X.mg X.base k a fd ps (spG X.fg F)
  nf : ∀ f, f ∈ c.nf → ∃ F, Γ f = some F ∧ F.nw = true
  fn : ∀ x, isLoc c x = true → X.fn x = true ∨ X.env.scope.names.lookup x = some .local
theorem XOk.units {Γ : Gm} {k : Nat} {c : Cm} {X : Cx} (x : XOk Γ k c X) : X.A.units + 200 < cLine := by have := x.room.un; omega
/-- the same in a comprehension's block -/
theorem XOk.into {Γ : Gm} {k : Nat} {c : Cm} {X : Cx} (x : XOk Γ k c X) (s : Shared) (H : Hp) (scope : Scope) (C : Addr) (cl : List (Str × Addr)) (fp : List Addr) : XOk Γ k (c.into scope) (X.blk s H scope (compEnvC scope cl C X.env) fp) where
  N := x.N
  sc := by show relS scope X.env.scope = relS scope c.sc; rw [x.sc]
  nd := x.nd
  calm := x.calm
  hg := x.hg
  room := x.room
  bl := x.bl
  gl := x.gl
  fs := x.fs
  nf := x.nf
  fn := fun y h => by
    unfold isLoc at h
    show (scope.names.lookup y == some NameKind.cell) = true ∨ (relS scope X.env.scope).names.lookup y = some .local
    rw [x.sc]
    have e : (c.into scope).sc = relS scope c.sc := rfl
    rw [e] at h
    split at h
    · rename_i q; exact .inr q
    · left
      have e2 : (c.into scope).blk = some scope := rfl
      rw [e2] at h
      simp only at h
      split at h
      · rename_i q; rw [q]; rfl
      · cases h
    · cases h

/-! ### the slots behind a call -/
/-- the same kinds of slots, the values the same -/
def Shp2 (ρ ρ2 : Evn) : Prop := ρ2.length = ρ.length ∧ ∀ j : Nat, (∀ d, ρ2[j]? = some (.val d) → ρ[j]? = some (.val d)) ∧ (∀ d, ρ2[j]? = some (.own d) → ∃ e, ρ[j]? = some (.own e)) ∧ (∀ d, ρ2[j]? = some (.io d) → ∃ e, ρ[j]? = some (.io e)) ∧ (IsM ρ j → IsM ρ2 j)
theorem Shp2.refl {ρ : Evn} : Shp2 ρ ρ := ⟨rfl, fun _ => ⟨fun _ h => h, fun d h => ⟨d, h⟩, fun d h => ⟨d, h⟩, fun h => h⟩⟩
theorem Shp2.trans {ρ ρ1 ρ2 : Evn} (a : Shp2 ρ ρ1) (b : Shp2 ρ1 ρ2) : Shp2 ρ ρ2 :=
  ⟨b.1.trans a.1, fun j => ⟨fun d h => (a.2 j).1 d ((b.2 j).1 d h), fun d h => (b.2 j).2.1 d h |>.elim fun e q => (a.2 j).2.1 e q, fun d h => (b.2 j).2.2.1 d h |>.elim fun e q => (a.2 j).2.2.1 e q, fun h => (b.2 j).2.2.2 ((a.2 j).2.2.2 h)⟩⟩
theorem setc_cases {ρ ρ' : Evn} {i : Nat} {d : D} (h : setc ρ i d = some ρ') : (∃ e, ρ[i]? = some (.own e) ∧ ρ' = ρ.set i (.own d)) ∨ ∃ e, ρ[i]? = some (.io e) ∧ ρ' = ρ.set i (.io d) := by
  unfold setc at h
  split at h
  · cases h; exact .inl ⟨_, by assumption, rfl⟩
  · cases h; exact .inr ⟨_, by assumption, rfl⟩
  · cases h
theorem setc_getc {ρ ρ' : Evn} {i j : Nat} {d : D} (h : setc ρ i d = some ρ') : getc ρ' j = if j = i then some d else getc ρ j := by
  by_cases e : j = i
  · subst e
    rw [if_pos rfl]
    rcases setc_cases h with ⟨x, hx, rfl⟩ | ⟨x, hx, rfl⟩ <;>
      (have hl := (List.getElem?_eq_some_iff.mp hx).1
       simp [getc, hl])
  · rw [if_neg e]
    rcases setc_cases h with ⟨x, hx, rfl⟩ | ⟨x, hx, rfl⟩ <;> simp [getc, List.getElem?_set_ne (Ne.symm e)]
theorem Shp2.setc {ρ ρ' : Evn} {i : Nat} {d : D} (h : setc ρ i d = some ρ') : Shp2 ρ ρ' := by
  have key : ∀ (x y : Sl), ρ[i]? = some y → ρ' = ρ.set i x → ((∃ d, x = .own d) ∧ (∃ e, y = .own e)) ∨ ((∃ d, x = .io d) ∧ ∃ e, y = .io e) → Shp2 ρ ρ' := by
    rintro x y hy rfl k
    have hl := (List.getElem?_eq_some_iff.mp hy).1
    refine ⟨List.length_set .., fun j => ⟨fun d h => ?_, fun d h => ?_, fun d h => ?_, fun m => ?_⟩⟩
    · rcases set_cases h with ⟨_, q⟩ | ⟨_, q⟩
      · rcases k with ⟨⟨_, rfl⟩, _⟩ | ⟨⟨_, rfl⟩, _⟩ <;> cases q
      · exact q
    · rcases set_cases h with ⟨rfl, q⟩ | ⟨_, q⟩
      · rcases k with ⟨⟨_, rfl⟩, e, rfl⟩ | ⟨⟨_, rfl⟩, e, rfl⟩
        · exact ⟨e, hy⟩
        · cases q
      · exact ⟨d, q⟩
    · rcases set_cases h with ⟨rfl, q⟩ | ⟨_, q⟩
      · rcases k with ⟨⟨_, rfl⟩, e, rfl⟩ | ⟨⟨_, rfl⟩, e, rfl⟩
        · cases q
        · exact ⟨e, hy⟩
      · exact ⟨d, q⟩
    · by_cases q : j = i
      · subst q
        have gx : (ρ.set j x)[j]? = some x := List.getElem?_set_self hl
        rcases k with ⟨⟨_, rfl⟩, _⟩ | ⟨⟨_, rfl⟩, _⟩
        · exact isM_own gx
        · exact isM_io gx
      · obtain ⟨d, hd⟩ := m
        refine ⟨d, ?_⟩
        unfold getc
        rw [List.getElem?_set_ne (Ne.symm q)]
        exact hd
  rcases setc_cases h with ⟨x, hx, e⟩ | ⟨x, hx, e⟩
  · exact key _ _ hx e (.inl ⟨⟨_, rfl⟩, _, rfl⟩)
  · exact key _ _ hx e (.inr ⟨⟨_, rfl⟩, _, rfl⟩)
section
variable {F : Fx} {σ : Stt} {H H' : Hp} {ρ ρ2 : Evn}
theorem Shp2.av (s : Shp2 ρ ρ2) (b : Addr) : Av F σ ρ2 b ↔ Av F σ ρ b := by
  have m : ∀ j, IsM ρ2 j ↔ IsM ρ j := fun j => ⟨fun h => by
    rw [isM_iff] at h ⊢
    rcases h with ⟨d, h⟩ | ⟨d, h⟩
    · exact .inl ((s.2 j).2.1 d h)
    · exact .inr ((s.2 j).2.2.1 d h), (s.2 j).2.2.2⟩
  exact ⟨fun z => z.elim .inl fun ⟨j, hm, hs⟩ => .inr ⟨j, (m j).mp hm, hs⟩, fun z => z.elim .inl fun ⟨j, hm, hs⟩ => .inr ⟨j, (m j).mpr hm, hs⟩⟩
theorem ER.swap (e : ER F H σ ρ) (s : Shp2 ρ ρ2) (g : ∀ b o, H b = some o → ¬ Mine σ ρ b → H' b = some o) (mu : ∀ a, Av F σ ρ a → Mut (H' a))
    (nw : ∀ j d a, getc ρ2 j = some d → σ[j]? = some (some (.ref a)) → Ct F.K H' (Av F σ ρ) a d) : ER F H' σ ρ2 ∧ Go H (Mine σ ρ) H' (Mine σ ρ2) := by
  have av := fun b => s.av (F := F) (σ := σ) b
  have go : Go H (Av F σ ρ) H' (Av F σ ρ2) := fun b o h n => ⟨g b o h fun z => n (.inr z), fun z => n ((av b).mp z)⟩
  have w : ∀ a, Av F σ ρ2 a → Av F σ ρ a := fun a => (av a).mp
  have ism : ∀ j, IsM ρ2 j → IsM ρ j := fun j h => by
    rw [isM_iff] at h ⊢
    rcases h with ⟨d, h⟩ | ⟨d, h⟩
    · exact .inl ((s.2 j).2.1 d h)
    · exact .inr ((s.2 j).2.2.1 d h)
  refine ⟨⟨s.1.trans e.len, fun a h => mu a (.inl h), fun j d h => ?_, fun j d h => ?_, fun j d h => ?_, fun i j a h1 h2 => e.inj i j a (ism i h1) (ism j h2), fun b o h q => ?_⟩, fun b o h n => ⟨g b o h n, fun ⟨j, hm, hs⟩ => n ⟨j, ism j hm, hs⟩⟩⟩
  · obtain ⟨v, q1, q2⟩ := e.val j d ((s.2 j).1 d h); exact ⟨v, q1, q2.go go e.muts⟩
  · obtain ⟨x, hx⟩ := (s.2 j).2.1 d h
    obtain ⟨a, q1, q2, q3, _⟩ := e.own j x hx
    exact ⟨a, q1, q2, q3, (nw j d a (getc_of (.inl h)) q1).weak w⟩
  · obtain ⟨x, hx⟩ := (s.2 j).2.2.1 d h
    obtain ⟨a, q1, q2, q3, _⟩ := e.io j x hx
    exact ⟨a, q1, q2, q3, (nw j d a (getc_of (.inr h)) q1).weak w⟩
  · refine g b o (e.since b o h q) ?_
    rintro ⟨j, hm, hs⟩
    rw [isM_iff] at hm
    rcases hm with ⟨x, hx⟩ | ⟨x, hx⟩
    · obtain ⟨a, q1, _, q3, _⟩ := e.own j x hx
      rw [hs] at q1; cases q1
      rw [q3] at h; cases h
    · obtain ⟨a, q1, q2, _, _⟩ := e.io j x hx
      rw [hs] at q1; cases q1
      exact q j q2
/-- a def's arguments, as they have come -/
inductive Arv (K : Fg) (H : Hp) (O : AS) (σ : Stt) : List (Option Nat) → List V → List D → Prop
  | nil : Arv K H O σ [] [] []
  | val {ps : List (Option Nat)} {v : V} {vs : List V} {d : D} {ds : List D} : Rp K H O v d → Arv K H O σ ps vs ds → Arv K H O σ (none :: ps) (v :: vs) (d :: ds)
  | io {ps : List (Option Nat)} {j : Nat} {v : V} {vs : List V} {d : D} {ds : List D} : σ[j]? = some (some v) → Arv K H O σ ps vs ds → Arv K H O σ (some j :: ps) (v :: vs) (d :: ds)
theorem Arv.go {K : Fg} {O O' : AS} (g : Go H O H' O') (m : Muts H O) : ∀ {ps : List (Option Nat)} {vs : List V} {ds : List D}, Arv K H O σ ps vs ds → Arv K H' O' σ ps vs ds
  | _, _, _, .nil => .nil
  | _, _, _, .val r t => .val (r.go g m) (Arv.go g m t)
  | _, _, _, .io h t => .io h (Arv.go g m t)
/-- where the places stand -/
theorem argsIo_kinds : ∀ {io : List Bool} {es : List Ex} {ps : List (Option Nat)}, argsIo io es = some ps → ps.map (·.isSome) = io
  | [], [], _, h => by simp [argsIo] at h; subst h; rfl
  | [], _ :: _, _, h => by simp [argsIo] at h
  | true :: io, [], _, h => by simp [argsIo] at h
  | false :: io, [], _, h => by simp [argsIo] at h
  | false :: io, e :: es, _, h => by
    simp only [argsIo] at h
    obtain ⟨q, hq, e⟩ := Option.map_eq_some_iff.mp h
    subst e
    simp [argsIo_kinds hq]
  | true :: io, e :: es, _, h => by
    cases e with
    | var i =>
      simp only [argsIo] at h
      obtain ⟨q, hq, e⟩ := Option.map_eq_some_iff.mp h
      subst e
      simp [argsIo_kinds hq]
    | _ => simp [argsIo] at h
theorem Arv.ars (e : ER F H σ ρ) : ∀ {ps : List (Option Nat)} {vs : List V} {ds xs : List D}, Arv F.K H (Av F σ ρ) σ ps vs ds → peekC ρ ps ds = some xs → Ars F.K H (Av F σ ρ) (ps.map (·.isSome)) vs xs
  | _, _, _, _, .nil, h => by simp [peekC] at h; subst h; exact .nil
  | _, _, _, _, .val r t, h => by
    simp only [peekC] at h
    obtain ⟨q, hq, e'⟩ := Option.map_eq_some_iff.mp h
    subst e'
    exact .val r (Arv.ars e t hq)
  | _, _, _, _, .io (j := j) hv t, h => by
    simp only [peekC] at h
    obtain ⟨x, hx, h⟩ := Option.bind_eq_some_iff.mp h
    obtain ⟨q, hq, e'⟩ := Option.map_eq_some_iff.mp h
    subst e'
    obtain ⟨a, h1, c⟩ := e.ct hx
    rw [hv] at h1; cases h1
    exact .io (.inr ⟨j, ⟨x, hx⟩, hv⟩) c (Arv.ars e t hq)
/-- an argument that is a place is its slot's -/
theorem Arv.at : ∀ {ps : List (Option Nat)} {vs : List V} {ds : List D} {O : AS} {K : Fg}, Arv K H O σ ps vs ds → ∀ (i j : Nat), ps[i]? = some (some j) → ∃ v, vs[i]? = some v ∧ σ[j]? = some (some v)
  | _, _, _, _, _, .nil, i, j, h => by simp at h
  | _, _, _, _, _, .val r t, 0, j, h => by simp at h
  | _, _, _, _, _, .val r t, i + 1, j, h => by simpa using Arv.at t i j (by simpa using h)
  | _, _, _, _, _, .io hv t, 0, j, h => by simp at h; subst h; exact ⟨_, rfl, hv⟩
  | _, _, _, _, _, .io hv t, i + 1, j, h => by simpa using Arv.at t i j (by simpa using h)
theorem nodup_at : ∀ {ps : List (Option Nat)}, (ps.filterMap id).Nodup → ∀ (i j k : Nat), ps[i]? = some (some k) → ps[j]? = some (some k) → i = j
  | [], _, i, j, k, h, _ => by simp at h
  | p :: ps, nd, i, j, k, h1, h2 => by
    have mem : ∀ {n : Nat} {k : Nat}, ps[n]? = some (some k) → k ∈ ps.filterMap id := fun h => List.mem_filterMap.mpr ⟨some _, List.mem_of_getElem? h, rfl⟩
    cases p with
    | none =>
      rw [show (none :: ps).filterMap id = ps.filterMap id from rfl] at nd
      cases i with
      | zero => simp at h1
      | succ i =>
        cases j with
        | zero => simp at h2
        | succ j => rw [nodup_at nd i j k (by simpa using h1) (by simpa using h2)]
    | some q =>
      rw [show (some q :: ps).filterMap id = q :: ps.filterMap id from rfl, List.nodup_cons] at nd
      cases i with
      | zero =>
        cases j with
        | zero => rfl
        | succ j =>
          have e1 : q = k := by simpa using h1
          exact absurd (mem (by simpa using h2)) (e1 ▸ nd.1)
      | succ i =>
        cases j with
        | zero =>
          have e1 : q = k := by simpa using h2
          exact absurd (mem (by simpa using h1)) (e1 ▸ nd.1)
        | succ j => rw [nodup_at nd.2 i j k (by simpa using h1) (by simpa using h2)]
theorem isSome_at {ps : List (Option Nat)} {i : Nat} (h : (ps.map (·.isSome))[i]? = some true) : ∃ j, ps[i]? = some (some j) := by
  rw [List.getElem?_map] at h
  cases q : ps[i]? with
  | none => rw [q] at h; cases h
  | some o =>
    rw [q] at h
    cases o with
    | none => simp at h
    | some j => exact ⟨j, rfl⟩
theorem Arv.ioN {O : AS} {K : Fg} {ps : List (Option Nat)} {vs : List V} {ds : List D} (e : ER F H σ ρ) (t : Arv K H O σ ps vs ds) (nd : nodupP ps = true) (mm : ∀ j, some j ∈ ps → IsM ρ j) : IoN (ps.map (·.isSome)) vs := by
  intro i j a h1 h2 h3 h4
  obtain ⟨p, hp⟩ := isSome_at h1
  obtain ⟨q, hq⟩ := isSome_at h2
  obtain ⟨v, a1, a2⟩ := t.at i p hp
  obtain ⟨u, b1, b2⟩ := t.at j q hq
  rw [h3] at a1; cases a1
  rw [h4] at b1; cases b1
  have e1 := e.inj p q a (mm p (List.mem_of_getElem? hp)) (mm q (List.mem_of_getElem? hq)) a2 b2
  subst e1
  exact nodup_at (of_decide_eq_true nd) i j p hp hq
theorem peekC_mem : ∀ {ps : List (Option Nat)} {ds xs : List D}, peekC ρ ps ds = some xs → ∀ j, some j ∈ ps → IsM ρ j
  | [], _, _, _, j, h => by simp at h
  | none :: ps, [], _, h, j, hj => by simp [peekC] at h
  | none :: ps, d :: ds, _, h, j, hj => by
    simp only [peekC] at h
    obtain ⟨q, hq, _⟩ := Option.map_eq_some_iff.mp h
    exact peekC_mem hq j (by simpa using hj)
  | some i :: ps, [], _, h, j, hj => by simp [peekC] at h
  | some i :: ps, d :: ds, _, h, j, hj => by
    simp only [peekC] at h
    obtain ⟨x, hx, h⟩ := Option.bind_eq_some_iff.mp h
    obtain ⟨q, hq, _⟩ := Option.map_eq_some_iff.mp h
    rcases List.mem_cons.mp hj with e | hj
    · cases e; exact ⟨x, hx⟩
    · exact peekC_mem hq j hj
theorem outsE_shp : ∀ {ps : List (Option Nat)} {ds : List D} {ρ ρ2 : Evn}, outsE ps ds ρ = some ρ2 → Shp2 ρ ρ2
  | [], [], ρ, _, h => by simp [outsE] at h; subst h; exact .refl
  | [], _ :: _, _, _, h => by simp [outsE] at h
  | none :: ps, ds, ρ, _, h => outsE_shp (ps := ps) (ds := ds) (by simpa [outsE] using h)
  | some i :: ps, [], _, _, h => by simp [outsE] at h
  | some i :: ps, d :: ds, ρ, _, h => by
    simp only [outsE] at h
    obtain ⟨x, hx, h⟩ := Option.bind_eq_some_iff.mp h
    exact (Shp2.setc hx).trans (outsE_shp h)
theorem outsE_get {A : AS} {K : Fg} : ∀ {ps : List (Option Nat)} {vs : List V} {ds outs : List D} {ρ ρ2 : Evn} {H0 : Hp} {O : AS}, outsE ps outs ρ = some ρ2 → Arv K H0 O σ ps vs ds → Outs K H' A (ps.map (·.isSome)) vs outs →
    ∀ j d a, getc ρ2 j = some d → σ[j]? = some (some (.ref a)) → Ct K H' A a d ∨ (getc ρ j = some d ∧ some j ∉ ps)
  | [], _, _, _, ρ, _, _, _, h, .nil, o, j, d, a, hg, hs => by
    cases o
    simp [outsE] at h
    subst h
    exact .inr ⟨hg, by simp⟩
  | none :: ps, _, _, _, ρ, _, _, _, h, .val r t, o, j, d, a, hg, hs => by
    cases o with
    | val o =>
      rcases outsE_get (ps := ps) (by simpa [outsE] using h) t o j d a hg hs with q | ⟨q1, q2⟩
      · exact .inl q
      · exact .inr ⟨q1, by simpa using q2⟩
  | some i :: ps, _, _, _, ρ, _, _, _, h, .io hv t, o, j, d, a, hg, hs => by
    cases o with
    | io c o =>
      simp only [outsE] at h
      obtain ⟨x, hx, h⟩ := Option.bind_eq_some_iff.mp h
      rcases outsE_get h t o j d a hg hs with q | ⟨q1, q2⟩
      · exact .inl q
      · rw [setc_getc hx] at q1
        by_cases e : j = i
        · subst e
          rw [if_pos rfl] at q1
          cases q1
          rw [hv] at hs; cases hs
          exact .inl c
        · rw [if_neg e] at q1
          exact .inr ⟨q1, by simp [e, q2]⟩
end
end MW

set_option Elab.async false
set_option linter.all false
set_option maxRecDepth 100000
/-! MWD: dict displays, d.get(k, x), at the heap -/
namespace MW
open PySem PySem.Spec PyProof.Rows L2
section
variable {X : Cx} {pins : List (Addr × Obj)} {σ : Stt} {H : Hp} {s : Shared} {A : Around} {E : Value → Shared → Prop} {O : AS} {a : Addr} {ks vs : List D}
/-- a pair is put into the dict at a -/
theorem dc_put (hu : A.units + 200 < cLine) (I : Inv X pins σ H s) (c : Dc X.fg H O a ks vs) {y v : V} {dy d : D} {u r : Value} (oy : Opd X.fg H O y dy) (hk : isKey dy = true) (hf : kfit ks dy = true) (hl : ks.length < sizeLine) (ry : RelV y u) (rv : RelV v r)
    (rp : Rp X.fg H O v d) {Q : Unit → Shared → Prop} (h : ∀ ho s', Nc X.fg H O a ho (.dict (dputK ks dy) (dputV ks vs dy d)) → Inv X pins σ (upd H a ho) s' → Q () s') : wpAny (model X.prog X.w) A (dictSet a u r) Q E s := by
  cases ht : isTup dy
  · obtain ⟨mu, kvs, us, rfl, q, z, hd, rel, dd⟩ := c.mix I hf ht
    obtain ⟨k, rfl, rfl⟩ := key_opd oy hk ht
    have long : (putK kvs k v).length ≤ sizeLine := by
      have := length_putK kvs k v
      rw [List.length_map] at hl
      omega
    refine wpAny_dictSet_pairs (hsz := by rw [← rel.length]; exact z) (kV_is ry) dd fun h2 dd2 sb => ?_
    obtain ⟨p1, p2⟩ := put_rps rp q (k := k)
    refine h (.dK (putK kvs k v)) _ ?_ (d_write I mu sb (let ⟨q, _, _, e, _⟩ := dd2; ⟨q, e⟩) (dk_new long hd (rel.put k rv) dd2))
    rw [← p1]
    exact .dictK p2
  · obtain ⟨mu, kvs, xs, e, t, q, q2, z, hd, rel, dd⟩ := c.nest I hf ht
    obtain ⟨b, rfl, rb⟩ := tup_ref oy ht
    cases (show u = Value.ref b from ry)
    have l2 : kvs.length = ks.length := by simpa using congrArg List.length e
    have long : (putN kvs (nk dy) b v).length ≤ sizeLine := by
      have := putN_len kvs (nk dy) b v
      omega
    refine wpAny_dictSet_heap (hsz := by rw [← Paired.length rel]; exact z) (show A.units + 8 < cLine by omega) (nk_is I rb hk ht) dd fun h2 dd2 sb => ?_
    obtain ⟨o, es, ep, w1, w2, w3, w4, _, w5⟩ := dd2
    obtain ⟨p1, p2, p3, p4⟩ := putN_all (isKey_tup hk ht) rb rp e t q q2
    exact h (ndO X.w a (putN kvs (nk dy) b v)) _ (.dictN p1 p2 p3 p4) (d_write I mu sb ⟨o, w1⟩ (ndO_ok ⟨long, hd, _, rel.put (nk dy) b rv, o, es, ep, w1, w2, w3, w4, w5⟩))
theorem Nc.go {K : Fg} {H H' : Hp} {O O' : AS} {a : Addr} {o : HO} {d : D} (c : Nc K H O a o d) (g : Go H O H' O') (m : Muts H O) : Nc K H' O' a o d := by
  cases c with
  | list r => exact .list (r.go g m)
  | dictK r => exact .dictK (r.go g m)
  | dictN e t q r => exact .dictN e t (q.go g m) (r.go g m)
theorem Nc.mut {K : Fg} {H : Hp} {O : AS} {a : Addr} {o : HO} {d : D} (c : Nc K H O a o d) : Mut (some o) := by cases c <;> exact trivial
/-- values by twos -/
inductive VV2 : List V → List (Value × Value) → Prop
  | nil : VV2 [] []
  | cons {x y : V} {u r : Value} {vs : List V} {ws : List (Value × Value)} : RelV x u → RelV y r → VV2 vs ws → VV2 (x :: y :: vs) ((u, r) :: ws)
theorem VV2.len : ∀ {vs : List V} {ws : List (Value × Value)}, VV2 vs ws → vs.length = 2 * ws.length
  | _, _, .nil => rfl
  | _, _, .cons _ _ t => by rw [List.length_cons, List.length_cons, List.length_cons, t.len]; omega
theorem store_run (hu : A.units + 200 < cLine) (aO : O a) : ∀ (ws : List (Value × Value)) (us : List V) (ds : List D) (prs : List (D × D)) (H : Hp) (s : Shared) (ks vs : List D) (Q : PUnit → Shared → Prop), VV2 us ws → Rps X.fg H O us ds → prsD ds = some prs → fitAll ks prs = true →
    ks.length + prs.length ≤ 1000 → Inv X pins σ H s → Muts H O → (∃ ho, H a = some ho ∧ Nc X.fg H O a ho (.dict ks vs)) → Dc X.fg H O a ks vs →
    (∀ H1 ho1 s1, H1 a = some ho1 → (∀ b, b ≠ a → H1 b = H b) → Inv X pins σ H1 s1 → Nc X.fg H1 O a ho1 (.dict (putAll prs ks vs).1 (putAll prs ks vs).2) → Q PUnit.unit s1) →
    wpAny (model X.prog X.w) A (forIn ws PUnit.unit fun (x : Value × Value) (_ : PUnit) => (do dictSet a x.1 x.2; pure (ForInStep.yield PUnit.unit) : Sem (ForInStep PUnit))) Q E s := by
  intro ws
  induction ws with
  | nil =>
    intro us ds prs H s ks vs Q t r hp hf hl I mu nc0 c q
    cases t
    cases r
    cases hp
    obtain ⟨ho, e, nc⟩ := nc0
    rw [List.forIn_nil]
    exact wpAny_pure (q H ho s e (fun _ _ => rfl) I nc)
  | cons w ws ih =>
    intro us ds prs H s ks vs Q t r hp hf hl I mu nc0 c q
    cases t with
    | @cons x y u r0 us' ws' ru rr t =>
    cases r with
    | @cons _ _ k0 ds1 rk r =>
    cases r with
    | @cons _ _ v0 ds2 rv rs =>
    unfold prsD at hp
    split at hp
    · rename_i hk
      obtain ⟨ps, hps, e⟩ := Option.map_eq_some_iff.mp hp
      subst e
      simp only [fitAll, Bool.and_eq_true] at hf
      rw [List.length_cons] at hl
      rw [List.forIn_cons]
      refine wpAny_bind (wpAny_bind (dc_put hu I c (.inl rk) hk hf.1 (by rw [sizeLine_eq]; omega) ru rr rv fun ho s1 nc I1 => wpAny_pure ?_))
      have g : Go H O (upd H a ho) O := fun b o hb n => ⟨by rw [upd_ne fun z => n (by rw [z]; exact aO)]; exact hb, n⟩
      have ct := nc.ct g mu
      have mu1 : Muts (upd H a ho) O := fun b hb => by
        by_cases z : b = a
        · subst z; exact ct.mut
        · rw [upd_ne z]; exact mu b hb
      have len := dputK_len ks k0
      refine ih _ _ ps (upd H a ho) s1 _ _ Q t (rs.go g mu) hps hf.2 (by omega) I1 mu1 ⟨ho, upd_same, nc.go g mu⟩ ct.dic fun H1 ho1 s2 e1 e2 I2 nc2 => ?_
      exact q H1 ho1 s2 e1 (fun b hb => (e2 b hb).trans (upd_ne hb)) I2 nc2
    · cases hp
/-- a dict that is laid, then filled -/
theorem subDict_run {prs : List (Sem Value × Sem Value)} {Q : Addr → Shared → Prop} (hl : prs.length ≤ 15)
    (h : wpAny (model X.prog X.w) A (evalPairs prs) (fun ws s1 => wpAny (model X.prog X.w) A (forIn ws PUnit.unit fun (x : Value × Value) (_ : PUnit) => (do dictSet s.heap.objs.size x.1 x.2; pure (ForInStep.yield PUnit.unit) : Sem (ForInStep PUnit))) (fun _ s2 => Q s.heap.objs.size s2) E s1) E
      { s with heap := s.heap.push { cls := .type "dict", data := .dict #[] } }) : wpAny (model X.prog X.w) A (subDict prs) Q E s := by
  unfold subDict
  apply wpAny_bind
  apply wpAny_alloc
  apply wpAny_bind
  apply wpAny_holding
  rw [if_pos hl]
  apply wpAny_bind
  refine wpAny_mono h (fun ws s1 h1 => wpAny_holding (wpAny_bind (wpAny_mono h1 (fun _ s2 h2 => wpAny_pure (wpAny_pure h2)) fun _ _ e => e))) fun _ _ e => e
end
end MW

set_option Elab.async false
set_option linter.all false
set_option maxRecDepth 100000
/-! MW9: expressions -/
namespace MW
open PySem PySem.Spec PyProof.Rows L2
section
variable {Γ : Gm} {k : Nat} {c : Cm} {X : Cx} {F : Fx}
/-- what is compiled is so -/
abbrev SE (Γ : Gm) (X : Cx) (F : Fx) (e : Expr) (x : Ex) : Prop := PE X e (rdE F (wp Γ x))
theorem star_plain {e : Expr} {es : List Expr} {env : Env} (h : isStar e = false) : starEach (e :: es) env = (false, eval e env) :: starEach es env := by
  cases e <;> first | rfl | simp [isStar] at h
theorem cE_star : ∀ {n : Nat} {c : Cm} {e : Expr} {x : Ex}, cE n c e = some x → isStar e = false
  | 0, _, _, _, h => by simp [cE] at h
  | n + 1, c, e, x, h => by cases e <;> first | rfl | simp [cE] at h
/-- a name as an operand -/
theorem pe_opdVar {i : Nat} {y : Str} {pos : Pos} (hN : X.N[i]? = some y) (hv : Vis X.env.scope y) (h1 : (y == ("__debug__" : Str)) = false) (h2 : (y == ("__classdict__" : Str)) = false) (w : WP) : PE X (.Name y pos) (rdO F (.var i) w) := by
  refine ⟨fun pins s σ H Q I ⟨ρ, K, er, hw, hq⟩ => ?_⟩
  obtain ⟨d, hd, hk⟩ := bnd_ex hw
  obtain ⟨v, hv1, ho⟩ := er.opd hd
  exact (pe_var hN hv h1 h2).run pins s σ H Q I ⟨v, hv1, hq v H _ ρ er Go.refl (Lt.var hv1) hk⟩
theorem SE.opd {e : Expr} {x : Ex} (h : SE Γ X F e x) (hb : bld x = true) : PE X e (rdO F x (wp Γ x)) := by
  refine ⟨fun pins s σ H Q I ⟨ρ, K, er, hw, hq⟩ => ?_⟩
  rw [opd_bld hb] at hw
  exact h.run pins s σ H Q I ⟨ρ, _, er, hw, fun v H' d ρ' er' g r hk => hq v H' _ ρ' er' g (Lt.of er'.muts r) hk⟩
/-- two operands, an operation -/
theorem pe_two {a b : Expr} {xa xb : Ex} {g : D → D → Option D} {w : WP} {e : Expr} {r : R2} (ha : PE X a (rdO F xa (wp Γ xa))) (hb : PE X b (rdO F xb (wp Γ xb)))
    (hw : ∀ ρ P, w ρ P = MW.opd xa (wp Γ xa) ρ fun r ρ1 => MW.opd xb (wp Γ xb) ρ1 fun r' ρ2 => bnd (r ρ2) fun x => bnd (r' ρ2) fun y => bnd (g x y) fun z => P z ρ2)
    (hr : ∀ {x y : V} {H : Hp} {O : AS} {dx dy dz : D} {Q : VK}, Muts H O → Opd F.K H O x dx → Opd F.K H O y dy → g dx dy = some dz → (∀ z H', Nw F.K H O z dz H' → Q z H') → r x y H Q)
    (he : PE X e (tOp r (rdO F xa (wp Γ xa)) (rdO F xb (wp Γ xb)))) : PE X e (rdE F w) := by
  refine ⟨fun pins s σ H Q I ⟨ρ, P, er, h, hq⟩ => he.run pins s σ H Q I ?_⟩
  rw [hw] at h
  refine ⟨ρ, _, er, h, fun v1 H1 r1 ρ1 er1 g1 l1 h1 => ?_⟩
  refine ⟨ρ1, _, er1, h1, fun v2 H2 r2 ρ2 er2 g2 l2 h2 => ?_⟩
  obtain ⟨x, hx, h3⟩ := bnd_ex h2
  obtain ⟨y, hy, h4⟩ := bnd_ex h3
  obtain ⟨z, hz, h5⟩ := bnd_ex h4
  refine hr er2.muts (l1 H2 ρ2 x er2 g2 hx) (l2 H2 ρ2 y er2 Go.refl hy) hz fun zv H3 nw => ?_
  exact hq zv H3 z ρ2 (er2.grow nw.1) ((g1.trans g2).trans fun b o hb n => ⟨nw.1 b o hb, n⟩) nw.2 h5
theorem PA.nilS : PA X [] (rdS F (wps Γ [])) := ⟨fun pos pins s σ H Q I ⟨ρ, P, er, hw, hq⟩ => pa_nil.run pos pins s σ H Q I (hq [] H [] ρ er Go.refl .nil hw)⟩
theorem PA.consS {e : Expr} {es : List Expr} {x : Ex} {xs : List Ex} (h : SE Γ X F e x) (hs : isStar e = false) (t : PA X es (rdS F (wps Γ xs))) : PA X (e :: es) (rdS F (wps Γ (x :: xs))) := by
  refine ⟨fun pos pins s σ H Q I ⟨ρ, P, er, hw, hq⟩ => (pa_cons h t (star_plain hs)).run pos pins s σ H Q I ?_⟩
  refine ⟨ρ, _, er, hw, fun v H1 d ρ1 er1 g1 r1 h1 => ⟨ρ1, _, er1, h1, fun vs H2 ds ρ2 er2 g2 r2 h2 => ?_⟩⟩
  exact hq (v :: vs) H2 (d :: ds) ρ2 er2 (g1.trans g2) (.cons (r1.go (gm_av g2) er1.muts) r2) h2
theorem PA.nilL : PA X [] (rdL F (wpo Γ [])) := ⟨fun pos pins s σ H Q I ⟨ρ, P, er, hw, hq⟩ => pa_nil.run pos pins s σ H Q I (hq [] H [] ρ er Go.refl .nil hw)⟩
theorem PA.consL {e : Expr} {es : List Expr} {x : Ex} {xs : List Ex} (h : PE X e (rdO F x (wp Γ x))) (hs : isStar e = false) (t : PA X es (rdL F (wpo Γ xs))) : PA X (e :: es) (rdL F (wpo Γ (x :: xs))) := by
  refine ⟨fun pos pins s σ H Q I ⟨ρ, P, er, hw, hq⟩ => (pa_cons h t (star_plain hs)).run pos pins s σ H Q I ?_⟩
  refine ⟨ρ, _, er, hw, fun v H1 r ρ1 er1 g1 l1 h1 => ⟨ρ1, _, er1, h1, fun vs H2 ds ρ2 er2 g2 r2 h2 => ?_⟩⟩
  obtain ⟨d, hd, h3⟩ := bnd_ex h2
  exact hq (v :: vs) H2 (d :: ds) ρ2 er2 (g1.trans g2) (.cons (l1 H2 ρ2 d er2 g2 hd) r2) h3
def rdA (F : Fx) (ps : List (Option Nat)) (w : WPs) : TA := fun σ H Q => ∃ ρ P, ER F H σ ρ ∧ w ρ P ∧ (∀ j, some j ∈ ps → ∃ v, σ[j]? = some (some v)) ∧
  ∀ vs H' ds ρ', ER F H' σ ρ' → Go H (Mine σ ρ) H' (Mine σ ρ') → Arv F.K H' (Av F σ ρ') σ ps vs ds → P ds ρ' → Q vs H'
theorem PA.nilA : PA X [] (rdA F [] (wpa Γ [] [])) := ⟨fun pos pins s σ H Q I ⟨ρ, P, er, hw, _, hq⟩ => pa_nil.run pos pins s σ H Q I (hq [] H [] ρ er Go.refl .nil hw.2)⟩
theorem PA.consA {e : Expr} {es : List Expr} {x : Ex} {xs : List Ex} {ps : List (Option Nat)} (h : SE Γ X F e x) (hs : isStar e = false) (t : PA X es (rdA F ps (wpa Γ ps xs))) : PA X (e :: es) (rdA F (none :: ps) (wpa Γ (none :: ps) (x :: xs))) := by
  refine ⟨fun pos pins s σ H Q I ⟨ρ, P, er, hw, hm, hq⟩ => (pa_cons h t (star_plain hs)).run pos pins s σ H Q I ?_⟩
  refine ⟨ρ, _, er, hw, fun v H1 d ρ1 er1 g1 r1 h1 => ⟨ρ1, _, er1, h1, fun j hj => hm j (List.mem_cons_of_mem _ hj), fun vs H2 ds ρ2 er2 g2 r2 h2 => ?_⟩⟩
  exact hq (v :: vs) H2 (d :: ds) ρ2 er2 (g1.trans g2) (.val (r1.go (gm_av g2) er1.muts) r2) h2
theorem PA.consV {y : Str} {pos' : Pos} {es : List Expr} {x : Ex} {xs : List Ex} {ps : List (Option Nat)} {i : Nat} (hN : X.N[i]? = some y) (hv : Vis X.env.scope y) (h1 : (y == ("__debug__" : Str)) = false) (h2 : (y == ("__classdict__" : Str)) = false)
    (t : PA X es (rdA F ps (wpa Γ ps xs))) : PA X (.Name y pos' :: es) (rdA F (some i :: ps) (wpa Γ (some i :: ps) (x :: xs))) := by
  refine ⟨fun pos pins s σ H Q I ⟨ρ, P, er, hw, hm, hq⟩ => (pa_cons (pe_var hN hv h1 h2) t rfl).run pos pins s σ H Q I ?_⟩
  obtain ⟨v, hv⟩ := hm i List.mem_cons_self
  refine ⟨v, hv, ρ, _, er, hw, fun j hj => hm j (List.mem_cons_of_mem _ hj), fun vs H2 ds ρ2 er2 g2 r2 h2 => ?_⟩
  exact hq (v :: vs) H2 (.none :: ds) ρ2 er2 g2 (.io hv r2) h2
/-- the slots that are bound stay bound -/
theorem wpa_bound : True := trivial
theorem isVis_of {c : Cm} {x : Str} {sc : Scope} (h : isVis c x = true) (hs : sc = c.sc) : Vis sc x ∧ (x == ("__debug__" : Str)) = false ∧ (x == ("__classdict__" : Str)) = false := by
  subst hs
  simp only [isVis, Bool.and_eq_true, Bool.not_eq_true'] at h
  refine ⟨?_, h.1.2, h.2⟩
  have h1 := h.1.1
  split at h1
  · rename_i q; exact .inl q
  · rename_i q; exact .inr (.inl q)
  · rename_i q; exact .inr (.inr q)
  · cases h1
theorem isGl_of {c : Cm} {x : Str} {X : Cx} (h : isGl c x = true) (hs : X.env.scope = c.sc) : Gl X x ∧ (x == ("__debug__" : Str)) = false := by
  unfold isGl at h
  split at h
  · rename_i q
    refine ⟨?_, by simpa using h⟩
    show X.env.scope.names.lookup x = _
    rw [hs]; exact q
  · cases h
/-! ### what a for goes over -/
/-- J yields xs from here on -/
def Drv (F : Fx) (J : It) (H0 : Hp) (O0 : AS) (xs : List D) : Prop := ∀ H O, Go H0 O0 H O → Muts H O → ∀ i : Nat,
  (∀ d, xs[i]? = some d → J.go i H ∧ ∀ x H1, J.yld i H x H1 → (∀ b o, H b = some o → H1 b = some o) ∧ Rp F.K H1 O x d) ∧ (xs.length ≤ i → J.stop i H)
def rdI (F : Fx) (rg : Bool) (w : WPs) : TI := fun σ H R => ∃ ρ P, ER F H σ ρ ∧ w ρ P ∧ (∀ ds ρ', P ds ρ' → ∃ xs, srcD rg ds = some xs) ∧
  ∀ J H' ds xs ρ', ER F H' σ ρ' → Go H (Mine σ ρ) H' (Mine σ ρ') → srcD rg ds = some xs → Drv F J H' (Av F σ ρ') xs → P ds ρ' → R J H'
theorem drv_list {K : Fg} {A : AS} {G : Hp} {L : Nat → Option Addr} {H0 : Hp} {O0 : AS} {a : Addr} {xs : List D} (r : Rp K H0 O0 (.ref a) (.list xs)) (m : Muts H0 O0) : Drv ⟨K, A, G, L⟩ (Itl K.f a) H0 O0 xs := by
  intro H O g mu i
  obtain ⟨a', vs, e, h1, r1⟩ := Opd.lst (.inl (r.go g m))
  cases e
  refine ⟨fun d hd => ?_, fun hl => ⟨vs, h1, by rw [r1.length]; exact hl⟩⟩
  obtain ⟨v, hv, rv⟩ := r1.get hd
  refine ⟨⟨vs, v, h1, hv⟩, fun x H1 y => ?_⟩
  obtain ⟨e, y⟩ := y
  subst e
  have e2 := y vs h1
  rw [hv] at e2; cases e2
  exact ⟨fun _ _ q => q, rv⟩
theorem drv_tup {K : Fg} {A : AS} {G : Hp} {L : Nat → Option Addr} {H0 : Hp} {O0 : AS} {a : Addr} {xs : List D} (r : Rp K H0 O0 (.ref a) (.tuple xs)) (m : Muts H0 O0) : Drv ⟨K, A, G, L⟩ (Itt K.f a) H0 O0 xs := by
  intro H O g mu i
  obtain ⟨a', vs, e, h1, r1⟩ := Opd.tup (.inl (r.go g m))
  cases e
  refine ⟨fun d hd => ?_, fun hl => ⟨vs, h1, by rw [r1.length]; exact hl⟩⟩
  obtain ⟨v, hv, rv⟩ := r1.get hd
  refine ⟨⟨vs, v, h1, hv⟩, fun x H1 y => ?_⟩
  obtain ⟨e, y⟩ := y
  subst e
  have e2 := y vs h1
  rw [hv] at e2; cases e2
  exact ⟨fun _ _ q => q, rv⟩
theorem drv_enum {F : Fx} {H0 : Hp} {O0 : AS} {a : Addr} {xs : List D} (r : Rp F.K H0 O0 (.ref a) (.list xs)) (m : Muts H0 O0) : Drv F (Ite F.K.f a) H0 O0 (xs.mapIdx fun i x => .tuple [.int (i : Int), x]) := by
  intro H O g mu i
  obtain ⟨a', vs, e, h1, r1⟩ := Opd.lst (.inl (r.go g m))
  cases e
  refine ⟨fun d hd => ?_, fun hl => ⟨vs, h1, by rw [r1.length]; simpa using hl⟩⟩
  rw [List.getElem?_mapIdx] at hd
  obtain ⟨d', hd', e⟩ := Option.map_eq_some_iff.mp hd
  subst e
  obtain ⟨v, hv, rv⟩ := r1.get hd'
  refine ⟨⟨vs, v, h1, hv⟩, fun x H1 y => ?_⟩
  obtain ⟨T, x', rfl, nT, rfl, hx⟩ := y
  have e2 := hx vs h1
  rw [hv] at e2; cases e2
  refine ⟨fun b o hb => by rw [upd_ne (ne_of_none hb nT)]; exact hb, ?_⟩
  exact .tuple (.inl (.inl upd_same)) (.cons (.int _) (.cons (rv.go (Go.laid nT) mu) .nil))
theorem drv_enumT {F : Fx} {H0 : Hp} {O0 : AS} {a : Addr} {xs : List D} (r : Rp F.K H0 O0 (.ref a) (.tuple xs)) (m : Muts H0 O0) : Drv F (IteT F.K.f a) H0 O0 (xs.mapIdx fun i x => .tuple [.int (i : Int), x]) := by
  intro H O g mu i
  obtain ⟨a', vs, e, h1, r1⟩ := Opd.tup (.inl (r.go g m))
  cases e
  refine ⟨fun d hd => ?_, fun hl => ⟨vs, h1, by rw [r1.length]; simpa using hl⟩⟩
  rw [List.getElem?_mapIdx] at hd
  obtain ⟨d', hd', e⟩ := Option.map_eq_some_iff.mp hd
  subst e
  obtain ⟨v, hv, rv⟩ := r1.get hd'
  refine ⟨⟨vs, v, h1, hv⟩, fun x H1 y => ?_⟩
  obtain ⟨T, x', rfl, nT, rfl, hx⟩ := y
  have e2 := hx vs h1
  rw [hv] at e2; cases e2
  refine ⟨fun b o hb => by rw [upd_ne (ne_of_none hb nT)]; exact hb, ?_⟩
  exact .tuple (.inl (.inl upd_same)) (.cons (.int _) (.cons (rv.go (Go.laid nT) mu) .nil))
theorem drv_str {F : Fx} {H0 : Hp} {O0 : AS} (x : List Nat) : Drv F (Its (mkS x)) H0 O0 (x.map fun c => .str [c]) := by
  intro H O g mu i
  have sz : (mkS x).cps.size = x.length := by simp [mkS]
  refine ⟨fun d hd => ?_, fun hl => by show (mkS x).cps.size ≤ i; rw [sz]; simpa using hl⟩
  rw [List.getElem?_map] at hd
  obtain ⟨ch, hc, e⟩ := Option.map_eq_some_iff.mp hd
  subst e
  refine ⟨by show i < (mkS x).cps.size; rw [sz]; exact (List.getElem?_eq_some_iff.mp hc).1, fun v H1 y => ?_⟩
  obtain ⟨e, c', h1, e2⟩ := y
  subst e e2
  have : c' = ch := by
    have : (mkS x).cps[i]? = some ch := by simpa [mkS] using hc
    rw [this] at h1
    exact (Option.some.inj h1).symm
  subst this
  exact ⟨fun _ _ q => q, Rp.strI [c']⟩
theorem drv_rng {F : Fx} {H0 : Hp} {O0 : AS} (lo : Int) (n : Nat) (xs : List D) (h : xs = (List.range n).map fun (k : Nat) => .int (lo + (k : Int))) : Drv F (Itr lo n) H0 O0 xs := by
  intro H O g mu i
  subst h
  refine ⟨fun d hd => ?_, fun hl => by show n ≤ i; simpa using hl⟩
  rw [List.getElem?_map] at hd
  obtain ⟨j, hj, e⟩ := Option.map_eq_some_iff.mp hd
  obtain ⟨h1, h2⟩ := List.getElem?_eq_some_iff.mp hj
  simp at h1 h2
  subst h2 e
  refine ⟨h1, fun x H1 y => ?_⟩
  obtain ⟨e, y⟩ := y
  subst e y
  exact ⟨fun _ _ q => q, .int _⟩
/-- an iterator over a value -/
theorem it_val (hK : F.K = X.fg) {tg : Expr} {pins : List (Addr × Obj)} {s : Shared} {σ : Stt} {H : Hp} {O : AS} {v : V} {u : Value} {d : D} {xs : List D} {R : It → Hp → Prop} {E : Value → Shared → Prop} (I : Inv X pins σ H s) (m : Muts H O) (rv : RelV v u)
    (r : Rp F.K H O v d) (hx : itemsD d = some xs) (q : ∀ J, Drv F J H O xs → R J H) : wpAny (model X.prog X.w) X.A (pyIter u) (PIE X pins σ tg R) E s := by
  cases d with
  | list ds =>
    cases hx
    obtain ⟨a, vs, e, h1, _⟩ := Opd.lst (.inl r)
    subst e
    cases (show u = Value.ref a from rv)
    have dr := drv_list (A := F.A) (G := F.G) (L := F.L) r m
    rw [hK] at dr h1
    obtain ⟨its, _, pl, _⟩ := I.list h1
    refine wpAny_pyIter_list pl.isList ⟨_, [s.heap.objs.size], _, _, H, rfl, I.kept (t' := s.toks) (fun b o e => Heap.get?_push_of_some _ e), turn_list a _, ⟨_, Heap.get?_push_size _ rfl, rfl, rfl⟩, fun b hb => ?_, q _ (by rw [show F = ⟨X.fg, F.A, F.G, F.L⟩ by rw [← hK]]; exact dr)⟩
    rw [List.mem_singleton] at hb
    rw [hb]
    exact I.fpOk (Nat.le_refl _) (I.hok.fresh (Nat.le_refl _))
  | tuple ds =>
    cases hx
    obtain ⟨a, vs, e, h1, _⟩ := Opd.tup (.inl r)
    subst e
    cases (show u = Value.ref a from rv)
    have dr := drv_tup (A := F.A) (G := F.G) (L := F.L) r m
    rw [hK] at dr h1
    obtain ⟨its, _, pl, _⟩ := I.tuple h1
    refine wpAny_pyIter_tuple (show s.heap.IsTuple a its.toArray from pl) ⟨_, [s.heap.objs.size], _, _, H, rfl, I.kept (t' := s.toks) (fun b o e => Heap.get?_push_of_some _ e), turn_tuple a _, ⟨_, Heap.get?_push_size _ rfl, rfl, rfl⟩, fun b hb => ?_, q _ (by rw [show F = ⟨X.fg, F.A, F.G, F.L⟩ by rw [← hK]]; exact dr)⟩
    rw [List.mem_singleton] at hb
    rw [hb]
    exact I.fpOk (Nat.le_refl _) (I.hok.fresh (Nat.le_refl _))
  | str x =>
    cases hx
    cases Opd.str (.inl r)
    obtain ⟨t, e⟩ := (show ∃ t, u = Value.str (mkS x) t from rv)
    subst e
    cases ha : (mkS x).cps.all (· < 128)
    · exact wpAny_pyIter_wide ha (pi_one (tk := s.toks) I _ (turn_str _ (mkS x) t "str_iterator" (.inr rfl)) ⟨_, Heap.get?_push_size _ rfl, rfl, rfl⟩ (q _ (drv_str x)))
    · exact wpAny_pyIter_ascii ha (pi_one (tk := s.toks) I _ (turn_str _ (mkS x) t "str_ascii_iterator" (.inl rfl)) ⟨_, Heap.get?_push_size _ rfl, rfl, rfl⟩ (q _ (drv_str x)))
  | _ => simp [itemsD] at hx
end
end MW

set_option Elab.async false
set_option linter.all false
set_option maxRecDepth 100000
/-! MW10: targets, comprehensions -/
namespace MW
open PySem PySem.Spec PyProof.Rows L2
/-- the slots but those stand -/
def Sam (σ σ' : Stt) (l : List Nat) : Prop := σ'.length = σ.length ∧ ∀ j : Nat, j ∉ l → σ'[j]? = σ[j]?
theorem Sam.refl {σ : Stt} {l : List Nat} : Sam σ σ l := ⟨rfl, fun _ _ => rfl⟩
theorem Sam.trans {σ σ1 σ2 : Stt} {l m : List Nat} (a : Sam σ σ1 l) (b : Sam σ1 σ2 m) : Sam σ σ2 (l ++ m) :=
  ⟨b.1.trans a.1, fun j h => by rw [List.mem_append, not_or] at h; exact (b.2 j h.2).trans (a.2 j h.1)⟩
theorem tgts_len : ∀ {ts : List Tg} {ds : List D} {ρ : Evn} {Q : Evn → Prop}, tgts ts ds ρ Q → True := fun _ => trivial
section
variable {Γ : Gm} {k : Nat} {c : Cm} {X : Cx} {F : Fx}
def rdG (F : Fx) (t : Tg) : TG := fun v σ H Q => ∃ ρ d P, ER F H σ ρ ∧ Rp F.K H (Av F σ ρ) v d ∧ tgt t d ρ P ∧
  ∀ σ' ρ', ER F H σ' ρ' → Go H (Mine σ ρ) H (Mine σ' ρ') → Sam σ σ' (slots t) → P ρ' → Q σ' H
def rdGs (F : Fx) (ts : List Tg) : TGs := fun vs σ H Q => ∃ ρ ds P, ER F H σ ρ ∧ Rps F.K H (Av F σ ρ) vs ds ∧ tgts ts ds ρ P ∧
  ∀ σ' ρ', ER F H σ' ρ' → Go H (Mine σ ρ) H (Mine σ' ρ') → Sam σ σ' (slotss ts) → P ρ' → Q σ' H
theorem isLoc_of {x : Str} {sc : Scope} (h : isLoc c x = true) (hs : sc = c.sc) : Loc sc x := by
  subst hs
  unfold isLoc at h
  split at h
  · rename_i q; exact .inl q
  · rename_i q; exact .inr q
  · cases h
theorem cTs_len {c : Cm} : ∀ {n : Nat} {es : List Expr} {ts : List Tg}, cTs c n es = some ts → ts.length = es.length
  | 0, _, _, h => by simp [cTs] at h
  | n + 1, [], _, h => by simp [cTs] at h; subst h; rfl
  | n + 1, e :: es, _, h => by
    simp only [cTs] at h
    obtain ⟨t, ht, h⟩ := Option.bind_eq_some_iff.mp h
    obtain ⟨q, hq, e2⟩ := Option.map_eq_some_iff.mp h
    subst e2
    simp [cTs_len hq]
theorem cT_star {c : Cm} {n : Nat} {e : Expr} {t : Tg} (h : cT c n e = some t) : isStar e = false := by
  cases n with
  | zero => simp [cT] at h
  | succ n => cases e <;> first | rfl | simp [cT] at h
theorem cTs_star {c : Cm} : ∀ {n : Nat} {es : List Expr} {ts : List Tg}, cTs c n es = some ts → ∀ e ∈ es, isStar e = false
  | 0, _, _, h => by simp [cTs] at h
  | n + 1, [], _, h => fun e he => by simp at he
  | n + 1, e :: es, _, h => fun e' he => by
    simp only [cTs] at h
    obtain ⟨t, ht, h⟩ := Option.bind_eq_some_iff.mp h
    obtain ⟨q, hq, e2⟩ := Option.map_eq_some_iff.mp h
    rcases List.mem_cons.mp he with rfl | he
    · exact cT_star ht
    · exact cTs_star hq e' he
theorem asgE_cons {e : Expr} {es : List Expr} {env : Env} (h : isStar e = false) : assignEach (e :: es) env = (false, assign e env) :: assignEach es env := by
  cases e <;> first | rfl | simp [isStar] at h
theorem asgE_all {env : Env} : ∀ {es : List Expr}, (∀ e ∈ es, isStar e = false) → (assignEach es env).length = es.length ∧ (assignEach es env).findIdx? (·.1) = none
  | [], _ => ⟨rfl, rfl⟩
  | e :: es, h => by
    obtain ⟨a, b⟩ := asgE_all (env := env) (es := es) fun e' he => h e' (List.mem_cons_of_mem _ he)
    rw [asgE_cons (h e List.mem_cons_self)]
    refine ⟨by simp [a], ?_⟩
    rw [List.findIdx?_cons]
    simp [b]
theorem tgts_fit : ∀ {ts : List Tg} {ds : List D} {ρ : Evn} {Q : Evn → Prop}, tgts ts ds ρ Q → (∀ t d ρ Q, tgt t d ρ Q → ∃ ρ', Q ρ') → ds.length = ts.length
  | [], ds, _, _, h, _ => by rw [show ds = [] from h.1]; rfl
  | t :: ts, ds, ρ, Q, h, hh => by
    cases ds with
    | nil => exact (show False from h).elim
    | cons d ds =>
      obtain ⟨ρ', h'⟩ := hh t d ρ _ h
      simp [tgts_fit h' hh]
mutual
theorem tgt_any : ∀ (t : Tg) (d : D) (ρ : Evn) (Q : Evn → Prop), tgt t d ρ Q → ∃ ρ', Q ρ'
  | .nm i, d, ρ, Q, h => by obtain ⟨ρ', _, q⟩ := bnd_ex h; exact ⟨ρ', q⟩
  | .tp ts, d, ρ, Q, h => by obtain ⟨ds, _, q⟩ := bnd_ex h; exact tgts_any ts ds ρ Q q
theorem tgts_any : ∀ (ts : List Tg) (ds : List D) (ρ : Evn) (Q : Evn → Prop), tgts ts ds ρ Q → ∃ ρ', Q ρ'
  | [], ds, ρ, Q, h => ⟨ρ, h.2⟩
  | t :: ts, [], ρ, Q, h => (show False from h).elim
  | t :: ts, d :: ds, ρ, Q, h => by
    obtain ⟨ρ', h'⟩ := tgt_any t d ρ _ h
    exact tgts_any ts ds ρ' Q h'
end
mutual
theorem pg_ok (x : XOk Γ k c X) (hK : F.K = X.fg) : ∀ {n : Nat} {e : Expr} {t : Tg}, cT c n e = some t → PG X e (rdG F t)
  | 0, _, _, h => by simp [cT] at h
  | n + 1, e, t, h => by
    cases e with
    | Name y p =>
      simp only [cT] at h
      split at h
      · rename_i hl
        obtain ⟨i, hi, e⟩ := Option.map_eq_some_iff.mp h
        subst e
        have hN : X.N[i]? = some y := by rw [x.N]; exact ixOf_get hi
        refine ⟨fun pins s σ H v u Q I rv ⟨ρ, d, P, er, rp, ht, hq⟩ => ?_⟩
        obtain ⟨ρ', hs, hp⟩ := bnd_ex ht
        obtain ⟨er', g⟩ := er.setVal rp hs
        refine (pg_name (by rw [x.N]; exact x.nd) hN (isLoc_of hl x.sc) (x.fn y hl)).run pins s σ H v u Q I rv (hq _ ρ' er' g ⟨List.length_set .., fun j hj => ?_⟩ hp)
        rw [List.getElem?_set_ne]
        intro e; subst e; simp [slots] at hj
      · cases h
    | Tuple es kk p =>
      simp only [cT] at h
      obtain ⟨ts, ht, e⟩ := Option.map_eq_some_iff.mp h
      subst e
      have hst := cTs_star ht
      obtain ⟨hl, hf⟩ := asgE_all (env := X.env) hst
      refine ⟨fun pins s σ H v u Q I rv ⟨ρ, d, P, er, rp, hg, hq⟩ => ?_⟩
      obtain ⟨ds, hd, hts⟩ := bnd_ex hg
      have hd' : d = .tuple ds := by cases d <;> simp [asT] at hd; rw [hd]
      subst hd'
      obtain ⟨a, vs, e, h1, r1⟩ := Opd.tup (.inl rp)
      subst e
      refine (pg_tup x.calm (pgs_ok x hK ht) hl hf).run pins s σ H _ u Q I rv ⟨a, vs, rfl, by rw [hK] at h1; exact h1, ?_, ρ, ds, P, er, r1, hts, hq⟩
      rw [r1.length, tgts_fit hts tgt_any, cTs_len ht]
    | _ => simp [cT] at h
theorem pgs_ok (x : XOk Γ k c X) (hK : F.K = X.fg) : ∀ {n : Nat} {es : List Expr} {ts : List Tg}, cTs c n es = some ts → PGs X es (rdGs F ts)
  | 0, _, _, h => by simp [cTs] at h
  | n + 1, [], _, h => by
    simp [cTs] at h
    subst h
    refine ⟨fun pins s σ H vs us Q I rv ⟨ρ, ds, P, er, rp, hg, hq⟩ => ?_⟩
    obtain ⟨e, hp⟩ := hg
    subst e
    cases rp
    exact pgs_nil.run pins s σ H [] us Q I rv ⟨rfl, hq σ ρ er Go.refl .refl hp⟩
  | n + 1, e :: es, ts, h => by
    simp only [cTs] at h
    obtain ⟨t, ht, h⟩ := Option.bind_eq_some_iff.mp h
    obtain ⟨q, hq', e2⟩ := Option.map_eq_some_iff.mp h
    subst e2
    refine ⟨fun pins s σ H vs us Q I rv ⟨ρ, ds, P, er, rp, hg, hq⟩ => ?_⟩
    cases rp with
    | nil => exact (show False from hg).elim
    | cons r1 r2 =>
      refine (pgs_cons (pg_ok x hK ht) (pgs_ok x hK hq') (by rw [asgE_cons (cT_star ht)]; rfl)).run pins s σ H _ us Q I rv ⟨_, _, rfl, ρ, _, _, er, r1, hg, fun σ' ρ' er' g sm hp => ?_⟩
      refine ⟨ρ', _, _, er', r2.go (gm_av g) er.muts, hp, fun σ2 ρ2 er2 g2 sm2 hp2 => ?_⟩
      exact hq σ2 ρ2 er2 (g.trans g2) (sm.trans sm2) hp2
end
/-! ### comprehensions -/
def FOk (F : Fx) : Prop := ∀ j a, F.L j = some a → F.A a
/-- the fields of F, the new list at D to be avoided, too -/
def Fx.with (F : Fx) (D : Addr) : Fx := { F with A := fun a => F.A a ∨ a = D }
theorem wipe_get {σ : Stt} : ∀ {vs : List Nat} {j : Nat}, j ∉ vs → (wipe σ vs)[j]? = σ[j]?
  | [], j, _ => rfl
  | v :: vs, j, h => by
    rw [List.mem_cons, not_or] at h
    unfold wipe
    rw [List.getElem?_set_ne (Ne.symm h.1), wipe_get h.2]
theorem wipe_in {σ : Stt} : ∀ {vs : List Nat} {j : Nat}, j ∈ vs → j < σ.length → (wipe σ vs)[j]? = some none
  | v :: vs, j, h, hl => by
    unfold wipe
    by_cases e : j = v
    · subst e; rw [List.getElem?_set_self (by rw [wipe_length]; exact hl)]
    · rw [List.getElem?_set_ne (Ne.symm e)]
      exact wipe_in ((List.mem_cons.mp h).resolve_left e) hl
theorem wipeE_length {ρ : Evn} : ∀ {vs : List Nat}, (wipeE ρ vs).length = ρ.length
  | [] => rfl
  | v :: vs => by unfold wipeE; rw [List.length_set, wipeE_length]
theorem wipeE_get {ρ : Evn} : ∀ {vs : List Nat} {j : Nat}, j ∉ vs → (wipeE ρ vs)[j]? = ρ[j]?
  | [], j, _ => rfl
  | v :: vs, j, h => by
    rw [List.mem_cons, not_or] at h
    unfold wipeE
    rw [List.getElem?_set_ne (Ne.symm h.1), wipeE_get h.2]
theorem wipeE_in {ρ : Evn} : ∀ {vs : List Nat} {j : Nat} {x : Sl}, j ∈ vs → (wipeE ρ vs)[j]? = some x → x = .no
  | v :: vs, j, x, h, e => by
    unfold wipeE at e
    rcases set_cases e with ⟨_, q⟩ | ⟨q, e⟩
    · exact q
    · exact wipeE_in ((List.mem_cons.mp h).resolve_left q) e
theorem wipe_sam {σ σ2 : Stt} {vs l : List Nat} (s : Sam σ σ2 l) (h : ∀ j ∈ l, j ∈ vs) : wipe σ2 vs = wipe σ vs := by
  refine List.ext_getElem? fun j => ?_
  by_cases q : j ∈ vs
  · by_cases hl : j < σ.length
    · rw [wipe_in q hl, wipe_in q (by rw [s.1]; exact hl)]
    · rw [List.getElem?_eq_none (by rw [wipe_length, s.1]; omega), List.getElem?_eq_none (by rw [wipe_length]; omega)]
  · rw [wipe_get q, wipe_get q, s.2 j fun z => q (h j z)]
theorem wipe_wipe {σ : Stt} {vs : List Nat} : wipe (wipe σ vs) vs = wipe σ vs := wipe_sam (l := vs) ⟨wipe_length σ vs, fun j h => wipe_get h⟩ fun _ h => h
section
variable {σ : Stt} {H H' : Hp} {ρ ρ' : Evn}
theorem wipe_isM {vs : List Nat} {j : Nat} (h : IsM (wipeE ρ vs) j) : j ∉ vs ∧ IsM ρ j := by
  have nj : j ∉ vs := fun z => by
    obtain ⟨d, hd⟩ := h
    rcases getc_cases hd with q | q <;> (have := wipeE_in z q; cases this)
  refine ⟨nj, ?_⟩
  obtain ⟨d, hd⟩ := h
  refine ⟨d, ?_⟩
  unfold getc at hd ⊢
  rw [wipeE_get nj] at hd
  exact hd
/-- some slots are forgotten -/
theorem ER.wipe (e : ER F H σ ρ) (vs : List Nat) : ER F H (wipe σ vs) (wipeE ρ vs) ∧ Go H (Mine σ ρ) H (Mine (wipe σ vs) (wipeE ρ vs)) := by
  have mi : ∀ b, Mine (L2.wipe σ vs) (wipeE ρ vs) b → Mine σ ρ b := fun b ⟨j, hm, hs⟩ => by
    obtain ⟨h1, h2⟩ := wipe_isM hm
    rw [wipe_get h1] at hs
    exact ⟨j, h2, hs⟩
  have w : ∀ b, Av F (L2.wipe σ vs) (wipeE ρ vs) b → Av F σ ρ b := fun b z => z.elim .inl fun q => .inr (mi b q)
  have at_ : ∀ {j : Nat} {x : Sl}, (wipeE ρ vs)[j]? = some x → x ≠ .no → j ∉ vs ∧ ρ[j]? = some x := fun {j x} h n => by
    have nj : j ∉ vs := fun z => n (wipeE_in z h)
    rw [wipeE_get nj] at h
    exact ⟨nj, h⟩
  refine ⟨⟨by rw [wipeE_length, wipe_length]; exact e.len, e.amb, fun j d h => ?_, fun j d h => ?_, fun j d h => ?_, fun i j a h1 h2 s1 s2 => ?_, e.since⟩, fun b o hb n => ⟨hb, fun z => n (mi b z)⟩⟩
  · obtain ⟨nj, h⟩ := at_ h (by intro z; cases z)
    obtain ⟨v, q1, q2⟩ := e.val j d h
    exact ⟨v, by rw [wipe_get nj]; exact q1, q2.weak w⟩
  · obtain ⟨nj, h⟩ := at_ h (by intro z; cases z)
    obtain ⟨a, q1, q2, q3, q4⟩ := e.own j d h
    exact ⟨a, by rw [wipe_get nj]; exact q1, q2, q3, q4.weak w⟩
  · obtain ⟨nj, h⟩ := at_ h (by intro z; cases z)
    obtain ⟨a, q1, q2, q3, q4⟩ := e.io j d h
    exact ⟨a, by rw [wipe_get nj]; exact q1, q2, q3, q4.weak w⟩
  · obtain ⟨n1, m1⟩ := wipe_isM h1
    obtain ⟨n2, m2⟩ := wipe_isM h2
    rw [wipe_get n1] at s1
    rw [wipe_get n2] at s2
    exact e.inj i j a m1 m2 s1 s2
/-- a new list is to be avoided -/
theorem ER.withO (e : ER F H σ ρ) (fo : FOk F) {D : Addr} {u : HO} (mo : Mut (some u)) (n : H D = none) : ER (F.with D) (upd H D u) σ ρ ∧ Go H (Mine σ ρ) (upd H D u) (Mine σ ρ) := by
  have mu := e.muts
  have nd : ∀ b, Av F σ ρ b → b ≠ D := fun b z q => mu.non n (q ▸ z)
  have go : Go H (Av F σ ρ) (upd H D u) (Av (F.with D) σ ρ) := fun b o hb q => by
    have hbD := ne_of_none hb n
    refine ⟨by rw [upd_ne hbD]; exact hb, ?_⟩
    rintro ((z | z) | z)
    · exact q (.inl z)
    · exact hbD z
    · exact q (.inr z)
  have stay : ∀ a, Av F σ ρ a → (upd H D u) a = H a := fun a z => upd_ne (nd a z)
  refine ⟨⟨e.len, fun a ha => ?_, fun j d h => ?_, fun j d h => ?_, fun j d h => ?_, e.inj, fun b o h q => ?_⟩, fun b o hb q => ⟨by rw [upd_ne (ne_of_none hb n)]; exact hb, q⟩⟩
  · rcases ha with ha | rfl
    · rw [stay a (.inl ha)]; exact e.amb a ha
    · rw [upd_same]; exact mo
  · obtain ⟨v, q1, q2⟩ := e.val j d h
    exact ⟨v, q1, q2.go go mu⟩
  · obtain ⟨a, q1, q2, q3, q4⟩ := e.own j d h
    have mine : Av F σ ρ a := .inr ⟨j, isM_own h, q1⟩
    exact ⟨a, q1, fun z => z.elim q2 (nd a mine), q3, q4.go go mu (stay a mine)⟩
  · obtain ⟨a, q1, q2, q3, q4⟩ := e.io j d h
    exact ⟨a, q1, q2, .inl q3, q4.go go mu (stay a (.inl q3))⟩
  · have := e.since b o h q
    rw [upd_ne (ne_of_none this n)]; exact this
theorem ER.with (e : ER F H σ ρ) (fo : FOk F) {D : Addr} {l : List V} (n : H D = none) : ER (F.with D) (upd H D (.lst l)) σ ρ ∧ Go H (Mine σ ρ) (upd H D (.lst l)) (Mine σ ρ) := e.withO fo trivial n
/-- the list at D grows -/
theorem ER.updO {D : Addr} {u : HO} (mo : Mut (some u)) (e : ER F H σ ρ) (hA : F.A D) (hM : ¬ Mine σ ρ D) (hG : F.G D = none) : ER F (upd H D u) σ ρ := by
  have mu := e.muts
  have go : Go H (Av F σ ρ) (upd H D u) (Av F σ ρ) := fun b o hb q => ⟨by rw [upd_ne fun z => q (by rw [z]; exact .inl hA)]; exact hb, q⟩
  have nm : ∀ {j : Nat} {a : Addr}, IsM ρ j → σ[j]? = some (some (.ref a)) → a ≠ D := fun h1 h2 z => hM ⟨_, h1, z ▸ h2⟩
  refine ⟨e.len, fun a ha => ?_, fun j d h => ?_, fun j d h => ?_, fun j d h => ?_, e.inj, fun b o h q => ?_⟩
  · by_cases z : a = D
    · subst z; rw [upd_same]; exact mo
    · rw [upd_ne z]; exact e.amb a ha
  · obtain ⟨v, q1, q2⟩ := e.val j d h; exact ⟨v, q1, q2.go go mu⟩
  · obtain ⟨a, q1, q2, q3, q4⟩ := e.own j d h; exact ⟨a, q1, q2, q3, q4.go go mu (upd_ne (nm (isM_own h) q1))⟩
  · obtain ⟨a, q1, q2, q3, q4⟩ := e.io j d h; exact ⟨a, q1, q2, q3, q4.go go mu (upd_ne (nm (isM_io h) q1))⟩
  · rw [upd_ne fun z => by rw [z, hG] at h; cases h]; exact e.since b o h q
theorem ER.updD {D : Addr} {l : List V} (e : ER F H σ ρ) (hA : F.A D) (hM : ¬ Mine σ ρ D) (hG : F.G D = none) : ER F (upd H D (.lst l)) σ ρ := ER.updO trivial e hA hM hG
theorem backE_length {ρ ρ' : Evn} : ∀ {vs : List Nat}, (backE ρ ρ' vs).length = ρ'.length
  | [] => rfl
  | v :: vs => by
    unfold backE
    split
    · rw [List.length_set, backE_length]
    · exact backE_length
theorem backE_get {ρ ρ' : Evn} : ∀ {vs : List Nat} {j : Nat}, j ∉ vs → (backE ρ ρ' vs)[j]? = ρ'[j]?
  | [], j, _ => rfl
  | v :: vs, j, h => by
    rw [List.mem_cons, not_or] at h
    unfold backE
    split
    · rw [List.getElem?_set_ne (Ne.symm h.1), backE_get h.2]
    · exact backE_get h.2
theorem backE_in {ρ ρ' : Evn} (hl : ρ'.length = ρ.length) : ∀ {vs : List Nat} {j : Nat}, j ∈ vs → (backE ρ ρ' vs)[j]? = ρ[j]?
  | v :: vs, j, h => by
    unfold backE
    by_cases e : j = v
    · subst e
      split
      · rename_i x hx
        rw [List.getElem?_set_self (by rw [backE_length, hl]; exact (List.getElem?_eq_some_iff.mp hx).1), hx]
      · rename_i hx
        rw [hx, List.getElem?_eq_none (by rw [backE_length, hl]; exact List.getElem?_eq_none_iff.mp hx)]
    · have hj := (List.mem_cons.mp h).resolve_left e
      split
      · rw [List.getElem?_set_ne (Ne.symm e)]; exact backE_in hl hj
      · exact backE_in hl hj
/-- the heap without one address -/
def del (H : Hp) (D : Addr) : Hp := fun b => if b = D then none else H b
theorem del_ne {H : Hp} {D b : Addr} (h : b ≠ D) : del H D b = H b := if_neg h
theorem del_same {H : Hp} {D : Addr} : del H D D = none := if_pos rfl
theorem upd_del {H : Hp} {D : Addr} {o : HO} (h : H D = some o) : upd (del H D) D o = H := by
  funext b
  by_cases e : b = D
  · subst e; rw [upd_same, h]
  · rw [upd_ne e, del_ne e]
/-- back from the block, the new list put aside -/
theorem ER.back {H1 : Hp} {ρ1 ρw : Evn} {D : Addr} {vs : List Nat} (fo : FOk F) (e1 : ER F H1 σ ρ1) (ew : ER (F.with D) H (L2.wipe σ vs) ρw) (no : noOwn ρ1 vs = true) (g : Go H1 (Mine σ ρ1) H (Mine (L2.wipe σ vs) ρw)) (nD : H1 D = none) (hGD : F.G D = none) :
    ER F (del H D) σ (backE ρ1 ρw vs) ∧ Go H1 (Mine σ ρ1) (del H D) (Mine σ (backE ρ1 ρw vs)) ∧ Go H (Av (F.with D) (L2.wipe σ vs) ρw) (del H D) (Av F σ (backE ρ1 ρw vs)) := by
  have hl : ρw.length = ρ1.length := by rw [ew.len, wipe_length, e1.len]
  have inn : ∀ {j : Nat} {x : Sl}, (backE ρ1 ρw vs)[j]? = some x → (j ∈ vs ∧ ρ1[j]? = some x) ∨ (j ∉ vs ∧ ρw[j]? = some x) := fun {j x} h => by
    by_cases q : j ∈ vs
    · rw [backE_in hl q] at h; exact .inl ⟨q, h⟩
    · rw [backE_get q] at h; exact .inr ⟨q, h⟩
  have noM : ∀ {j : Nat}, j ∈ vs → ¬ IsM ρ1 j := fun {j} hj ⟨d, hd⟩ => by
    have := List.all_eq_true.mp no j hj
    rw [hd] at this; cases this
  have ism : ∀ {j : Nat}, IsM (backE ρ1 ρw vs) j → j ∉ vs ∧ IsM ρw j := fun {j} h => by
    rw [isM_iff] at h
    rcases h with ⟨d, h⟩ | ⟨d, h⟩
    · rcases inn h with ⟨q1, q2⟩ | ⟨q1, q2⟩
      · exact absurd (isM_own q2) (noM q1)
      · exact ⟨q1, isM_own q2⟩
    · rcases inn h with ⟨q1, q2⟩ | ⟨q1, q2⟩
      · exact absurd (isM_io q2) (noM q1)
      · exact ⟨q1, isM_io q2⟩
  have mi : ∀ b, Mine σ (backE ρ1 ρw vs) b → Mine (L2.wipe σ vs) ρw b := fun b ⟨j, hm, hs⟩ => by
    obtain ⟨q1, q2⟩ := ism hm
    exact ⟨j, q2, by rw [wipe_get q1]; exact hs⟩
  have w : ∀ b, Av F σ (backE ρ1 ρw vs) b → Av (F.with D) (L2.wipe σ vs) ρw b := fun b z => z.elim (fun q => .inl (.inl q)) fun q => .inr (mi b q)
  have g' : Go H1 (Mine σ ρ1) (del H D) (Mine σ (backE ρ1 ρw vs)) := fun b o hb n => ⟨by rw [del_ne (ne_of_none hb nD)]; exact (g b o hb n).1, fun z => (g b o hb n).2 (mi b z)⟩
  have gd : Go H (Av (F.with D) (L2.wipe σ vs) ρw) (del H D) (Av F σ (backE ρ1 ρw vs)) := fun b o hb n => ⟨by rw [del_ne fun z => n (.inl (.inr z))]; exact hb, fun z => n (w b z)⟩
  have aD : ∀ {a : Addr}, F.A a → a ≠ D := fun {a} ha z => by have := e1.amb a ha; rw [z, nD] at this; exact this
  refine ⟨⟨by rw [backE_length, hl]; exact e1.len, fun a ha => by rw [del_ne (aD ha)]; exact ew.amb a (.inl ha), fun j d h => ?_, fun j d h => ?_, fun j d h => ?_, fun i j a h1 h2 s1 s2 => ?_, fun b o h q => ?_⟩, g', gd⟩
  · rcases inn h with ⟨q1, q2⟩ | ⟨q1, q2⟩
    · obtain ⟨v, p1, p2⟩ := e1.val j d q2
      exact ⟨v, p1, p2.go (gm_av g') e1.muts⟩
    · obtain ⟨v, p1, p2⟩ := ew.val j d q2
      exact ⟨v, by rw [wipe_get q1] at p1; exact p1, p2.go gd ew.muts⟩
  · rcases inn h with ⟨q1, q2⟩ | ⟨q1, q2⟩
    · exact absurd (isM_own q2) (noM q1)
    · obtain ⟨a, p1, p2, p3, p4⟩ := ew.own j d q2
      exact ⟨a, by rw [wipe_get q1] at p1; exact p1, fun z => p2 (.inl z), p3, p4.go gd ew.muts (del_ne fun z => p2 (.inr z))⟩
  · rcases inn h with ⟨q1, q2⟩ | ⟨q1, q2⟩
    · exact absurd (isM_io q2) (noM q1)
    · obtain ⟨a, p1, p2, p3, p4⟩ := ew.io j d q2
      exact ⟨a, by rw [wipe_get q1] at p1; exact p1, p2, fo j a p2, p4.go gd ew.muts (del_ne (aD (fo j a p2)))⟩
  · obtain ⟨n1, m1⟩ := ism h1
    obtain ⟨n2, m2⟩ := ism h2
    exact ew.inj i j a m1 m2 (by rw [wipe_get n1]; exact s1) (by rw [wipe_get n2]; exact s2)
  · rw [del_ne fun z => by rw [z, hGD] at h; cases h]
    exact ew.since b o h q
end
end
end MW

set_option Elab.async false
set_option linter.all false
set_option maxRecDepth 100000
/-! MW11: comprehensions -/
namespace MW
open PySem PySem.Spec PyProof.Rows L2
section
variable {Γ : Gm} {k : Nat} {c : Cm} {X : Cx} {F : Fx}
/-- a new list (dict) -/
def rdN (F : Fx) (w : WP) : TE := fun σ H Q => ∃ ρ P, ER F H σ ρ ∧ w ρ P ∧
  ∀ a o H' d ρ', H' a = none → F.G a = none → ER F H' σ ρ' → Go H (Mine σ ρ) H' (Mine σ ρ') → Nc F.K H' (Av F σ ρ') a o d → P d ρ' → Q (.ref a) (upd H' a o)
theorem PE.new {e : Expr} {w : WP} (h : PE X e (rdN F w)) : PE X e (rdE F w) := by
  refine ⟨fun pins s σ H Q I ⟨ρ, P, er, hw, hq⟩ => h.run pins s σ H Q I ⟨ρ, P, er, hw, fun a o H' d ρ' n nG er' g nc hp => ?_⟩⟩
  exact hq _ _ d ρ' (er'.laid n) (fun b u hb q => ⟨by rw [upd_ne (ne_of_none (g b u hb q).1 n)]; exact (g b u hb q).1, (g b u hb q).2⟩) (nc.rp n er'.muts) hp
/-- in an entry's heap nothing stands that is not tracked now -/
theorem ER.noG {H : Hp} {σ : Stt} {ρ : Evn} {a : Addr} (e : ER F H σ ρ) (fo : FOk F) (n : H a = none) : F.G a = none := by
  cases q : F.G a with
  | none => rfl
  | some o =>
    by_cases h : ∃ i, F.L i = some a
    · obtain ⟨i, hi⟩ := h
      exact absurd (.inl (fo i a hi)) (e.muts.non n)
    · have := e.since a o q fun i hi => h ⟨i, hi⟩
      rw [n] at this; cases this
/-- some fields' reading, whichever fields -/
def anyE (K : Fg) (w : WP) : TE := fun σ H Q => ∃ F : Fx, F.K = K ∧ FOk F ∧ rdE F w σ H Q
def anyC (K : Fg) (w : WPC) : TT := fun σ H Q => ∃ F : Fx, F.K = K ∧ FOk F ∧ rdC F w σ H Q
def anyG (K : Fg) (t : Tg) : TG := fun v σ H Q => ∃ F : Fx, F.K = K ∧ FOk F ∧ rdG F t v σ H Q
theorem anyE_ok {X' : Cx} {e : Expr} {w : WP} {K : Fg} (h : ∀ F : Fx, F.K = K → FOk F → PE X' e (rdE F w)) : PE X' e (anyE K w) := ⟨fun pins s σ H Q I ⟨F, hK, fo, r⟩ => (h F hK fo).run pins s σ H Q I r⟩
theorem anyC_ok {X' : Cx} {e : List Expr} {w : WPC} {K : Fg} (h : ∀ F : Fx, F.K = K → FOk F → PTs X' e (rdC F w)) : PTs X' e (anyC K w) := ⟨fun pins s σ H Q I ⟨F, hK, fo, r⟩ => (h F hK fo).run pins s σ H Q I r⟩
theorem anyG_ok {X' : Cx} {e : Expr} {t : Tg} {K : Fg} (h : ∀ F : Fx, F.K = K → FOk F → PG X' e (rdG F t)) : PG X' e (anyG K t) := ⟨fun pins s σ H v u Q I r ⟨F, hK, fo, q⟩ => (h F hK fo).run pins s σ H v u Q I r q⟩
theorem FOk.with (fo : FOk F) (D : Addr) : FOk (F.with D) := fun j a h => .inl (fo j a h)
/-- the state of a comprehension between two turns -/
structure CSt (F : Fx) (σ : Stt) (H1 : Hp) (ρ1 : Evn) (ws : List Nat) (D : Addr) (H : Hp) (ρw : Evn) (av : List V) (ad : List MW.D) : Prop where
  er : ER (F.with D) H (wipe σ ws) ρw
  at_ : H D = some (.lst av)
  acc : Rps F.K H (Av (F.with D) (wipe σ ws) ρw) av ad
  go : Go H1 (Mine σ ρ1) H (Mine (wipe σ ws) ρw)
theorem mineD {H : Hp} {σ : Stt} {ρ : Evn} {D : Addr} (e : ER (F.with D) H σ ρ) (fo : FOk F) (aD : ∀ a, F.A a → a ≠ D) : ¬ Mine σ ρ D := by
  rintro ⟨j, hm, hs⟩
  rw [isM_iff] at hm
  rcases hm with ⟨d, h⟩ | ⟨d, h⟩
  · obtain ⟨a, q1, q2, _⟩ := e.own j d h
    rw [hs] at q1; cases q1
    exact q2 (.inr rfl)
  · obtain ⟨a, q1, q2, _⟩ := e.io j d h
    rw [hs] at q1; cases q1
    exact aD D (fo j D q2) rfl
theorem comp_coreG {t : Tg} {cs : List Co} {y : Ex} {ws : List Nat} {K : Fg} (hK : F.K = K) (fo : FOk F) (hsl : ∀ j ∈ slots t, j ∈ ws) {σ : Stt} {H1 : Hp} {ρ1 : Evn} {Q : VK} {P : MW.D → Evn → Prop} {J : It} {xs : List MW.D} (er1 : ER F H1 σ ρ1) (no : noOwn ρ1 ws = true)
    (dr : ∀ D H ρw, H1 D = none → ER (F.with D) H (wipe σ ws) ρw → Go H1 (Mine σ ρ1) H (Mine (wipe σ ws) ρw) → ∀ i : Nat, (∀ d, xs[i]? = some d → J.go i H ∧ ∀ x H', J.yld i H x H' → (∀ b o, H b = some o → H' b = some o) ∧ Rp F.K H' (Av (F.with D) (wipe σ ws) ρw) x d) ∧ (xs.length ≤ i → J.stop i H))
    (hturn : turns t (wpcs Γ cs) (wp Γ y) ws xs [] (wipeE ρ1 ws) fun acc ρ2 => P (.list acc) (backE ρ1 ρ2 ws))
    (hq : ∀ a o H' d ρ', H' a = none → F.G a = none → ER F H' σ ρ' → Go H1 (Mine σ ρ1) H' (Mine σ ρ') → Nc F.K H' (Av F σ ρ') a o d → P d ρ' → Q (.ref a) (upd H' a o)) :
    ∀ D, H1 D = none → ∃ W : Nat → Nat → Hp → Prop, (∃ m, W 0 m (upd H1 D (.lst []))) ∧ ∀ i m H, W i m H →
      (J.stop i H ∧ Q (.ref D) H) ∨ (J.go i H ∧ ∃ Nx : Hp → Prop, (∀ H', Nx H' → ∃ m', m' < m ∧ W (i + 1) m' H') ∧ ∀ x H', J.yld i H x H' → (anyG K t) x (wipe σ ws) H' fun σ2 H2 => wipe σ2 ws = wipe σ ws ∧ (anyC K (wpcs Γ cs)) σ2 H2 fun b H3 =>
        if b = true then (anyE K (wp Γ y)) σ2 H3 fun y H4 => ∃ acc, H4 D = some (.lst acc) ∧ acc.length < sizeLine ∧ Nx (upd H4 D (.lst (acc ++ [y]))) else Nx H3) := by
  intro D nD
  have hGD := er1.noG fo nD
  have aD : ∀ a, F.A a → a ≠ D := fun a ha z => by have := er1.amb a ha; rw [z, nD] at this; exact this
  obtain ⟨erD, gD⟩ := er1.with (l := []) fo nD
  obtain ⟨erW, gW⟩ := erD.wipe ws
  refine ⟨fun i m H => ∃ ρw av ad, m = xs.length - i ∧ i ≤ xs.length ∧ CSt F σ H1 ρ1 ws D H ρw av ad ∧ turns t (wpcs Γ cs) (wp Γ y) ws (xs.drop i) ad ρw fun acc ρ2 => P (.list acc) (backE ρ1 ρ2 ws),
    ⟨xs.length, _, [], [], rfl, Nat.zero_le _, ⟨erW, upd_same, .nil, gD.trans gW⟩, hturn⟩, ?_⟩
  rintro i m H ⟨ρw, av, ad, rfl, hi', st, tu⟩
  obtain ⟨drG, drS⟩ := dr D H ρw nD st.er st.go i
  by_cases hlt : i < xs.length
  · right
    obtain ⟨jg, jy⟩ := drG xs[i] (List.getElem?_eq_getElem hlt)
    rw [List.drop_eq_getElem_cons hlt] at tu
    refine ⟨jg, fun H' => ∃ ρw av ad, CSt F σ H1 ρ1 ws D H' ρw av ad ∧ turns t (wpcs Γ cs) (wp Γ y) ws (xs.drop (i + 1)) ad ρw fun acc ρ2 => P (.list acc) (backE ρ1 ρ2 ws), fun H' ⟨ρw', av', ad', st', tu'⟩ => ⟨xs.length - (i + 1), by omega, ρw', av', ad', rfl, hlt, st', tu'⟩, fun xv H' yl => ?_⟩
    obtain ⟨ext, rx⟩ := jy xv H' yl
    have er2 : ER (F.with D) H' (wipe σ ws) ρw := st.er.grow ext
    have g2 : Go H (Mine (wipe σ ws) ρw) H' (Mine (wipe σ ws) ρw) := fun b o hb n => ⟨ext b o hb, n⟩
    refine ⟨F.with D, hK, fo.with D, ρw, _, _, er2, rx, tu, fun σ3 ρ3 er3 g3 sam h3 => ⟨?_, ?_⟩⟩
    · rw [wipe_sam sam hsl, wipe_wipe]
    have w3 : wipe σ3 ws = wipe σ ws := by rw [wipe_sam sam hsl, wipe_wipe]
    refine ⟨F.with D, hK, fo.with D, ρ3, _, er3, h3, fun b H4 ρ4 er4 g4 h4 => ?_⟩
    have G4 := (g2.trans g3).trans g4
    have at4 : H4 D = some (.lst av) := (G4 D _ st.at_ (mineD st.er fo aD)).1
    cases b with
    | false =>
      simp only [Bool.false_eq_true, if_false] at h4 ⊢
      obtain ⟨er5, g5⟩ := er4.wipe ws
      rw [w3] at er5 g5
      exact ⟨wipeE ρ4 ws, av, ad, ⟨er5, at4, st.acc.go (gm_av (G4.trans g5)) st.er.muts, st.go.trans (G4.trans g5)⟩, h4⟩
    | true =>
      simp only [if_true] at h4 ⊢
      refine ⟨F.with D, hK, fo.with D, ρ4, _, er4, h4, fun yv H5 yd ρ5 er5 g5 ry h5 => ?_⟩
      have G5 := G4.trans g5
      have at5 : H5 D = some (.lst av) := (G5 D _ st.at_ (mineD st.er fo aD)).1
      have acc5 : Rps F.K H5 (Av (F.with D) σ3 ρ5) av ad := st.acc.go (gm_av G5) st.er.muts
      refine ⟨av, at5, by rw [acc5.length]; exact h5.1, ?_⟩
      have er6 := er5.updD (D := D) (l := av ++ [yv]) (.inr rfl) (mineD er5 fo aD) hGD
      obtain ⟨er7, g7⟩ := er6.wipe ws
      rw [w3] at er7 g7
      obtain ⟨er8, g8⟩ := er5.wipe ws
      rw [w3] at g8
      have go1 : Go H1 (Mine σ ρ1) (upd H5 D (.lst (av ++ [yv]))) (Mine (wipe σ ws) (wipeE ρ5 ws)) := fun b o hb n => by
        obtain ⟨p, q⟩ := (st.go.trans G5) b o hb n
        exact ⟨by rw [upd_ne (ne_of_none hb nD)]; exact p, (g8 b o p q).2⟩
      have goc : Go H5 (Av (F.with D) σ3 ρ5) (upd H5 D (.lst (av ++ [yv]))) (Av (F.with D) (wipe σ ws) (wipeE ρ5 ws)) := fun b o hb n => by
        refine ⟨by rw [upd_ne fun z => n (.inl (.inr z))]; exact hb, ?_⟩
        rintro (z | z)
        · exact n (.inl z)
        · exact (g8 b o hb fun q => n (.inr q)).2 z
      exact ⟨wipeE ρ5 ws, av ++ [yv], ad ++ [yd], ⟨er7, upd_same, (acc5.append (.cons ry .nil)).go goc er5.muts, go1⟩, h5.2⟩
  · left
    have e : i = xs.length := by omega
    subst e
    rw [List.drop_length] at tu
    refine ⟨drS (Nat.le_refl _), ?_⟩
    obtain ⟨erB, gB, gd⟩ := ER.back fo er1 st.er no st.go nD hGD
    have := hq D (.lst av) (del H D) (.list ad) _ del_same hGD erB gB (.list (st.acc.go gd st.er.muts)) tu
    rw [upd_del st.at_] at this
    exact this
theorem comp_core {rg : Bool} {its : List Ex} {t : Tg} {cs : List Co} {y : Ex} {ws : List Nat} {K : Fg} (hK : F.K = K) (fo : FOk F) (hsl : ∀ j ∈ slots t, j ∈ ws) {σ : Stt} {H : Hp} {Q : VK} (h : rdN F (wp Γ (.comp ws t rg its cs y)) σ H Q) :
    tLc (rdI F rg (wps Γ its)) (anyG K t) (anyC K (wpcs Γ cs)) (anyE K (wp Γ y)) ws σ H Q := by
  obtain ⟨ρ, P, er, hw, hq⟩ := h
  refine ⟨ρ, _, er, hw, fun ds ρ' h => (bnd_ex h).elim fun xs q => ⟨xs, q.1⟩, fun J H1 ds xs ρ1 er1 g1 hxs dr h1 => ?_⟩
  obtain ⟨xs', hxs', no, hturn⟩ := bnd_ex h1
  rw [hxs] at hxs'; cases hxs'
  refine comp_coreG hK fo hsl er1 no (fun D H ρw nD erw gw i => ?_) hturn fun a o H' d ρ' n nG er' g' nc hp => hq a o H' d ρ' n nG er' (g1.trans g') nc hp
  have goA : Go H1 (Av F σ ρ1) H (Av (F.with D) (wipe σ ws) ρw) := fun b o hb n => by
    obtain ⟨q1, q2⟩ := gw b o hb fun z => n (.inr z)
    refine ⟨q1, ?_⟩
    rintro ((z | z) | z)
    · exact n (.inl z)
    · exact ne_of_none hb nD z
    · exact q2 z
  exact dr H _ goA erw.muts i
/-! ### a list gone over as it stands -/
theorem lkS_of {ρ : Evn} {i : Nat} {q : Sl × List MW.D} (h : lkS ρ i = some q) : ρ[i]? = some q.1 ∧ (q.1 = .own (.list q.2) ∨ q.1 = .io (.list q.2)) := by
  unfold lkS at h
  split at h
  · cases h; exact ⟨by assumption, .inl rfl⟩
  · cases h; exact ⟨by assumption, .inr rfl⟩
  · cases h
theorem set_no_isM {ρ : Evn} {i j : Nat} (h : IsM (ρ.set i .no) j) : j ≠ i ∧ IsM ρ j := isM_set_val (x := .no) (fun d => ⟨(by intro z; cases z), (by intro z; cases z)⟩) h
/-- the name's slot is put aside, its list is to be left as it is -/
theorem ER.aside {H : Hp} {σ : Stt} {ρ : Evn} (e : ER F H σ ρ) {i : Nat} {a : Addr} {d0 : MW.D} (h0 : getc ρ i = some d0) (ha : σ[i]? = some (some (.ref a))) :
    ER (F.with a) H σ (ρ.set i .no) ∧ (∀ b, Av (F.with a) σ (ρ.set i .no) b ↔ Av F σ ρ b) ∧ ¬ Mine σ (ρ.set i .no) a := by
  have mi : IsM ρ i := ⟨d0, h0⟩
  have nm : ¬ Mine σ (ρ.set i .no) a := fun ⟨j, hm, hs⟩ => (set_no_isM hm).1 (e.inj j i a (set_no_isM hm).2 mi hs ha)
  have back : ∀ j, j ≠ i → IsM ρ j → IsM (ρ.set i .no) j := fun j n ⟨x, hx⟩ => ⟨x, by unfold getc at hx ⊢; rw [List.getElem?_set_ne (Ne.symm n)]; exact hx⟩
  have av : ∀ b, Av (F.with a) σ (ρ.set i .no) b ↔ Av F σ ρ b := fun b => by
    constructor
    · rintro ((z | z) | ⟨j, hm, hs⟩)
      · exact .inl z
      · rw [z]; exact .inr ⟨i, mi, ha⟩
      · exact .inr ⟨j, (set_no_isM hm).2, hs⟩
    · rintro (z | ⟨j, hm, hs⟩)
      · exact .inl (.inl z)
      · by_cases q : j = i
        · subst q; rw [ha] at hs; cases hs; exact .inl (.inr rfl)
        · exact .inr ⟨j, back j q hm, hs⟩
  have w : ∀ b, Av (F.with a) σ (ρ.set i .no) b → Av F σ ρ b := fun b => (av b).mp
  have at_ : ∀ {j : Nat} {x : Sl}, (ρ.set i .no)[j]? = some x → x ≠ .no → j ≠ i ∧ ρ[j]? = some x := fun {j x} h n => by
    rcases set_cases h with ⟨_, q⟩ | ⟨q, h⟩
    · exact absurd q n
    · exact ⟨q, h⟩
  refine ⟨⟨by rw [List.length_set]; exact e.len, fun b hb => ?_, fun j d h => ?_, fun j d h => ?_, fun j d h => ?_, fun j k b h1 h2 s1 s2 => e.inj j k b (set_no_isM h1).2 (set_no_isM h2).2 s1 s2, e.since⟩, av, nm⟩
  · rcases hb with hb | rfl
    · exact e.amb b hb
    · exact e.muts _ (.inr ⟨i, mi, ha⟩)
  · obtain ⟨_, h⟩ := at_ h (by intro z; cases z)
    obtain ⟨v, q1, q2⟩ := e.val j d h
    exact ⟨v, q1, q2.weak w⟩
  · obtain ⟨nj, h⟩ := at_ h (by intro z; cases z)
    obtain ⟨b, q1, q2, q3, q4⟩ := e.own j d h
    refine ⟨b, q1, ?_, q3, q4.weak w⟩
    rintro (z | z)
    · exact q2 z
    · exact nj (e.inj j i a (isM_own h) mi (z ▸ q1) ha)
  · obtain ⟨nj, h⟩ := at_ h (by intro z; cases z)
    obtain ⟨b, q1, q2, q3, q4⟩ := e.io j d h
    exact ⟨b, q1, q2, .inl q3, q4.weak w⟩
/-- and taken up again -/
theorem ER.again {H H' : Hp} {σ : Stt} {ρ ρ' : Evn} (e : ER F H σ ρ) {i : Nat} {a : Addr} {xs : List MW.D} {vs : List V} {s : Sl} (hs : ρ[i]? = some s) (hk : s = .own (.list xs) ∨ s = .io (.list xs)) (ha : σ[i]? = some (some (.ref a))) (hv : H a = some (.lst vs)) (rv : Rps F.K H (Av F σ ρ) vs xs)
    (e' : ER (F.with a) H' σ ρ') (g : Go H (Mine σ (ρ.set i .no)) H' (Mine σ ρ')) :
    ER F H' σ (ρ'.set i s) ∧ Go H (Mine σ ρ) H' (Mine σ (ρ'.set i s)) ∧ (∀ b, Av (F.with a) σ ρ' b ↔ Av F σ (ρ'.set i s) b) := by
  have gc : getc ρ i = some (.list xs) := getc_of (by rcases hk with rfl | rfl; exact .inl hs; exact .inr hs)
  obtain ⟨e0, av0, nm0⟩ := e.aside gc ha
  obtain ⟨ha', nm⟩ := g a _ hv nm0
  have hl : i < ρ'.length := by rw [e'.len, ← e.len]; exact (List.getElem?_eq_some_iff.mp hs).1
  have gi : (ρ'.set i s)[i]? = some s := List.getElem?_set_self hl
  have mi : IsM (ρ'.set i s) i := by rcases hk with rfl | rfl; exact isM_own gi; exact isM_io gi
  have ni : ¬ IsM ρ' i := fun z => nm ⟨i, z, ha⟩
  have ism : ∀ j, j ≠ i → (IsM (ρ'.set i s) j ↔ IsM ρ' j) := fun j n => by
    constructor
    · rintro ⟨x, hx⟩; refine ⟨x, ?_⟩; unfold getc at hx ⊢; rw [List.getElem?_set_ne (Ne.symm n)] at hx; exact hx
    · rintro ⟨x, hx⟩; refine ⟨x, ?_⟩; unfold getc at hx ⊢; rw [List.getElem?_set_ne (Ne.symm n)]; exact hx
  have av : ∀ b, Av (F.with a) σ ρ' b ↔ Av F σ (ρ'.set i s) b := fun b => by
    constructor
    · rintro ((z | z) | ⟨j, hm, h2⟩)
      · exact .inl z
      · rw [z]; exact .inr ⟨i, mi, ha⟩
      · exact .inr ⟨j, (ism j fun z => ni (z ▸ hm)).mpr hm, h2⟩
    · rintro (z | ⟨j, hm, h2⟩)
      · exact .inl (.inl z)
      · by_cases q : j = i
        · subst q; rw [ha] at h2; cases h2; exact .inl (.inr rfl)
        · exact .inr ⟨j, (ism j q).mp hm, h2⟩
  have w : ∀ b, Av F σ (ρ'.set i s) b → Av (F.with a) σ ρ' b := fun b => (av b).mpr
  have mu0 : Muts H (Av (F.with a) σ (ρ.set i .no)) := e0.muts
  have rv' : Rps F.K H' (Av F σ (ρ'.set i s)) vs xs := ((rv.weak fun b => (av0 b).mp).go (gm_av (F := F.with a) g) mu0).weak w
  have ct : Ct F.K H' (Av F σ (ρ'.set i s)) a (.list xs) := .list ha' rv'
  have fa : ∀ b, F.A b → (F.with a).A b := fun b z => .inl z
  refine ⟨⟨by rw [List.length_set]; exact e'.len, fun b hb => e'.amb b (fa b hb), fun j d h => ?_, fun j d h => ?_, fun j d h => ?_, fun j k b h1 h2 s1 s2 => ?_, e'.since⟩, fun b o hb n => ?_, av⟩
  · rcases set_cases h with ⟨_, q⟩ | ⟨_, h⟩
    · rcases hk with rfl | rfl <;> cases q
    · obtain ⟨v, q1, q2⟩ := e'.val j d h
      exact ⟨v, q1, q2.weak w⟩
  · rcases set_cases h with ⟨rfl, q⟩ | ⟨_, h⟩
    · rcases hk with rfl | rfl
      · cases q
        obtain ⟨b, q1, q2, q3, _⟩ := e.own _ _ hs
        rw [ha] at q1; cases q1
        exact ⟨a, ha, q2, q3, ct⟩
      · cases q
    · obtain ⟨b, q1, q2, q3, q4⟩ := e'.own j d h
      exact ⟨b, q1, fun z => q2 (.inl z), q3, q4.weak w⟩
  · rcases set_cases h with ⟨rfl, q⟩ | ⟨nj, h⟩
    · rcases hk with rfl | rfl
      · cases q
      · cases q
        obtain ⟨b, q1, q2, q3, _⟩ := e.io _ _ hs
        rw [ha] at q1; cases q1
        exact ⟨a, ha, q2, q3, ct⟩
    · obtain ⟨b, q1, q2, q3, q4⟩ := e'.io j d h
      refine ⟨b, q1, q2, ?_, q4.weak w⟩
      rcases q3 with z | z
      · exact z
      · exact absurd ⟨j, isM_io h, z ▸ q1⟩ nm
  · by_cases q1 : j = i
    · by_cases q2 : k = i
      · rw [q1, q2]
      · subst q1; rw [ha] at s1; cases s1; exact absurd ⟨k, (ism k q2).mp h2, s2⟩ nm
    · by_cases q2 : k = i
      · subst q2; rw [ha] at s2; cases s2; exact absurd ⟨j, (ism j q1).mp h1, s1⟩ nm
      · exact e'.inj j k b ((ism j q1).mp h1) ((ism k q2).mp h2) s1 s2
  · have nb : ¬ Mine σ (ρ.set i .no) b := fun ⟨j, hm, h2⟩ => n ⟨j, (set_no_isM hm).2, h2⟩
    obtain ⟨p1, p2⟩ := g b o hb nb
    refine ⟨p1, fun ⟨j, hm, h2⟩ => ?_⟩
    by_cases q : j = i
    · subst q; rw [ha] at h2; cases h2
      exact n ⟨j, ⟨_, gc⟩, ha⟩
    · exact p2 ⟨j, (ism j q).mp hm, h2⟩
/-- what a name's list is gone over by -/
def rdLk (F : Fx) (i : Nat) : TI := fun σ H R => ∃ a vs, σ[i]? = some (some (.ref a)) ∧ H a = some (.lst vs) ∧ R (Itl F.K.f a) H
theorem pi_lk (hK : F.K = X.fg) {i : Nat} {y : Str} {p : Pos} {tg : Expr} (hv : PE X (.Name y p) (tVar i)) : PI X tg (.Name y p) (rdLk F i) := by
  refine ⟨fun pins s σ H R I ⟨a, vs, h1, h2, q⟩ => ?_⟩
  refine thn (hv.run pins s σ H (fun v H1 => v = .ref a ∧ H1 = H) I ⟨.ref a, h1, rfl, rfl⟩) fun u s1 ⟨v, H1, I1, rv, e1, e2⟩ => ?_
  subst e1
  subst e2
  cases (show u = Value.ref a from rv)
  obtain ⟨its, _, pl, _⟩ := I1.list (SqL.of h2)
  rw [hK] at q
  refine wpAny_pyIter_list pl.isList ⟨_, [s1.heap.objs.size], _, _, _, rfl, I1.kept (t' := s1.toks) (fun b o e => Heap.get?_push_of_some _ e), turn_list a _, ⟨_, Heap.get?_push_size _ rfl, rfl, rfl⟩, fun b hb => ?_, q⟩
  rw [List.mem_singleton] at hb
  rw [hb]
  exact I1.fpOk (Nat.le_refl _) (I1.hok.fresh (Nat.le_refl _))
theorem lk_drv {K : Fg} {H : Hp} {O : AS} {a : Addr} {vs : List V} {xs : List MW.D} (hv : H a = some (.lst vs)) (r : Rps K H O vs xs) (i : Nat) : (∀ d, xs[i]? = some d → (Itl K.f a).go i H ∧ ∀ x H', (Itl K.f a).yld i H x H' → (∀ b o, H b = some o → H' b = some o) ∧ Rp K H' O x d) ∧ (xs.length ≤ i → (Itl K.f a).stop i H) := by
  refine ⟨fun d hd => ?_, fun hl => ⟨vs, SqL.of hv, by rw [r.length]; exact hl⟩⟩
  obtain ⟨v, h1, rp⟩ := r.get hd
  refine ⟨⟨vs, v, SqL.of hv, h1⟩, fun x H' y => ?_⟩
  obtain ⟨e, y⟩ := y
  subst e
  have e2 := y vs (SqL.of hv)
  rw [h1] at e2; cases e2
  exact ⟨fun _ _ q => q, rp⟩
theorem compL_core {t : Tg} {i : Nat} {cs : List Co} {y : Ex} {ws : List Nat} {K : Fg} (hK : F.K = K) (fo : FOk F) (hsl : ∀ j ∈ slots t, j ∈ ws) {σ : Stt} {H : Hp} {Q : VK} {ρ : Evn} {P : MW.D → Evn → Prop} {q : Sl × List MW.D} (hlk : lkS ρ i = some q) (er : ER F H σ ρ) (hw : wp Γ (.compL ws t i cs y) ρ P)
    (hq : ∀ a o H' d ρ', H' a = none → F.G a = none → ER F H' σ ρ' → Go H (Mine σ ρ) H' (Mine σ ρ') → Nc F.K H' (Av F σ ρ') a o d → P d ρ' → Q (.ref a) (upd H' a o)) :
    tLc (rdLk F i) (anyG K t) (anyC K (wpcs Γ cs)) (anyE K (wp Γ y)) ws σ H Q := by
  unfold wp at hw
  rw [hlk] at hw
  obtain ⟨hi, no, hturn⟩ := hw
  obtain ⟨hs, hk⟩ := lkS_of hlk
  obtain ⟨s, xs⟩ := q
  have hs : ρ[i]? = some s := hs
  have hk : s = .own (.list xs) ∨ s = .io (.list xs) := hk
  have gc : getc ρ i = some (.list xs) := getc_of (by rcases hk with rfl | rfl; exact .inl hs; exact .inr hs)
  obtain ⟨a, ha, ct⟩ := er.ct gc
  cases ct with
  | list hv rv =>
    rename_i vs
    obtain ⟨e0, av0, nm0⟩ := er.aside gc ha
    have niw : i ∉ ws := by simpa using hi
    refine ⟨a, vs, ha, hv, ?_⟩
    refine comp_coreG (F := F.with a) (P := fun d ρ' => P d (ρ'.set i s)) hK (fo.with a) hsl e0 no (fun D H1 ρw nD erw gw j => ?_) hturn fun b o H' d ρ' n nG er' g' nc hp => ?_
    · obtain ⟨hv', _⟩ := gw a _ hv nm0
      have r1 : Rps F.K H1 (Av ((F.with a).with D) (wipe σ ws) ρw) vs xs := (rv.weak fun b => (av0 b).mp).go (fun b o hb n => by
        obtain ⟨q1, q2⟩ := gw b o hb fun z => n (.inr z)
        refine ⟨q1, ?_⟩
        rintro ((z | z) | z)
        · exact n (.inl z)
        · exact ne_of_none hb nD z
        · exact q2 z) e0.muts
      exact lk_drv hv' r1 j
    · obtain ⟨erR, gR, avR⟩ := er.again hs hk ha hv rv er' g'
      exact hq b o H' d _ n nG erR gR (nc.weak fun c => (avR c).mpr) hp
structure CompOk (Γ : Gm) (c : Cm) (X : Cx) (F : Fx) (tg it : Expr) (ifs : List Expr) (scope : Scope) (e : Expr) (rg : Bool) (its : List Ex) (t : Tg) (cs : List Co) (y : Ex) : Prop where
  blk : blkC c.N c.sc scope (ownOf c.N scope) = true
  sl : ∀ j ∈ slots t, j ∈ (ownOf c.N scope).map (·.2)
  set : isSetE it = false
  I : PI X tg it (rdI F rg (wps Γ its))
  G : ∀ (s : Shared) (H : Hp) (C : Addr) (cl : List (Str × Addr)) (fp : List Addr) (F : Fx), F.K = X.fg → FOk F → PG (X.blk s H scope (compEnvC scope cl C X.env) fp) tg (rdG F t)
  T : ∀ (s : Shared) (H : Hp) (C : Addr) (cl : List (Str × Addr)) (fp : List Addr) (F : Fx), F.K = X.fg → FOk F → PTs (X.blk s H scope (compEnvC scope cl C X.env) fp) ifs (rdC F (wpcs Γ cs))
  E : ∀ (s : Shared) (H : Hp) (C : Addr) (cl : List (Str × Addr)) (fp : List Addr) (F : Fx), F.K = X.fg → FOk F → PE (X.blk s H scope (compEnvC scope cl C X.env) fp) e (rdE F (wp Γ y))
theorem set_fold {it : Expr} {env : Env} (h : isSetE it = false) (v : Value) : foldedSetIterable it env v = pure v := by cases it <;> first | rfl | simp [isSetE] at h
theorem pe_comp {e it tg : Expr} {ifs : List Expr} {scope : Scope} {pos : Pos} {rg : Bool} {its : List Ex} {t : Tg} {cs : List Co} {y : Ex} (x : XOk Γ k c X) (hK : F.K = X.fg) (fo : FOk F) (q : CompOk Γ c X F tg it ifs scope e rg its t cs y) :
    PE X (.ListComp e [⟨tg, it, ifs, 0⟩] scope pos) (rdN F (wp Γ (.comp ((ownOf c.N scope).map (·.2)) t rg its cs y))) := by
  have blk : BlkOk X.N X.env.scope scope (ownOf c.N scope) := by rw [x.N, x.sc]; exact blkOk_by q.blk
  refine ⟨fun pins s σ H Q I h => ?_⟩
  exact (pe_lc (g := anyG X.fg t) (tt := anyC X.fg (wpcs Γ cs)) (te := anyE X.fg (wp Γ y)) x.calm (by rw [x.N]; exact x.nd) q.I blk (fun s H C cl fp => anyG_ok (q.G s H C cl fp)) (fun s H C cl fp => anyC_ok (q.T s H C cl fp)) (fun s H C cl fp => anyE_ok (q.E s H C cl fp)) (set_fold q.set)).run pins s σ H Q I (comp_core hK fo q.sl h)
/-- a comprehension over a name's list as it stands -/
theorem pe_compL {e tg : Expr} {ifs : List Expr} {scope : Scope} {pos p : Pos} {x1 : Str} {i : Nat} {t : Tg} {cs : List Co} {y : Ex} (x : XOk Γ k c X) (hK : F.K = X.fg) (fo : FOk F) (hv : PE X (.Name x1 p) (tVar i)) (q : CompOk Γ c X F tg (.Name x1 p) ifs scope e false [.var i] t cs y) :
    PE X (.ListComp e [⟨tg, .Name x1 p, ifs, 0⟩] scope pos) (rdN F (wp Γ (.compL ((ownOf c.N scope).map (·.2)) t i cs y))) := by
  have blk : BlkOk X.N X.env.scope scope (ownOf c.N scope) := by rw [x.N, x.sc]; exact blkOk_by q.blk
  refine ⟨fun pins s σ H Q I ⟨ρ, P, er, hw, hq⟩ => ?_⟩
  cases hlk : lkS ρ i with
  | some z =>
    exact (pe_lc (g := anyG X.fg t) (tt := anyC X.fg (wpcs Γ cs)) (te := anyE X.fg (wp Γ y)) x.calm (by rw [x.N]; exact x.nd) (pi_lk hK hv) blk (fun s H C cl fp => anyG_ok (q.G s H C cl fp)) (fun s H C cl fp => anyC_ok (q.T s H C cl fp)) (fun s H C cl fp => anyE_ok (q.E s H C cl fp)) (set_fold q.set)).run pins s σ H Q I (compL_core hK fo q.sl hlk er hw hq)
  | none =>
    refine (pe_comp x hK fo q).run pins s σ H Q I ⟨ρ, P, er, ?_, hq⟩
    unfold wp at hw
    rw [hlk] at hw
    unfold wp
    exact hw
/-- name = [..], on one line -/
theorem ps_comp {e it tg : Expr} {ifs : List Expr} {scope : Scope} {pos py spos : Pos} {rg : Bool} {its : List Ex} {t : Tg} {cs : List Co} {y : Ex} {n : Str} {i : Nat} (x : XOk Γ k c X) (hK : F.K = X.fg) (fo : FOk F) (q : CompOk Γ c X F tg it ifs scope e rg its t cs y)
    (hN : X.N[i]? = some n) (hl : X.env.scope.names.lookup n = some .local) (hli : (py.line == pos.line) = true) (ha : (scope.names.any fun (m, k) => m == n && (k == .local || k == .cell)) = false) :
    PS X (.Assign [.Name n py] (.ListComp e [⟨tg, it, ifs, 0⟩] scope pos) spos) (tAsg (rdN F (wp Γ (.comp ((ownOf c.N scope).map (·.2)) t rg its cs y))) (gName i)) := by
  have blk : BlkOk X.N X.env.scope scope (ownOf c.N scope) := by rw [x.N, x.sc]; exact blkOk_by q.blk
  refine ⟨fun pins s σ H Q I h => ?_⟩
  exact (ps_setLc (g := anyG X.fg t) (tt := anyC X.fg (wpcs Γ cs)) (te := anyE X.fg (wp Γ y)) x.calm (by rw [x.N]; exact x.nd) hN hl (sw_true I.ok.kind hl hli ha) q.I blk (fun s H C cl fp => anyG_ok (q.G s H C cl fp)) (fun s H C cl fp => anyC_ok (q.T s H C cl fp)) (fun s H C cl fp => anyE_ok (q.E s H C cl fp)) (set_fold q.set)).run pins s σ H Q I (comp_core hK fo q.sl h)
theorem ps_compL {e tg : Expr} {ifs : List Expr} {scope : Scope} {pos p py spos : Pos} {x1 : Str} {i1 : Nat} {t : Tg} {cs : List Co} {y : Ex} {n : Str} {i : Nat} (x : XOk Γ k c X) (hK : F.K = X.fg) (fo : FOk F) (hv : PE X (.Name x1 p) (tVar i1)) (q : CompOk Γ c X F tg (.Name x1 p) ifs scope e false [.var i1] t cs y)
    (hN : X.N[i]? = some n) (hl : X.env.scope.names.lookup n = some .local) (hli : (py.line == pos.line) = true) (ha : (scope.names.any fun (m, k) => m == n && (k == .local || k == .cell)) = false) :
    PS X (.Assign [.Name n py] (.ListComp e [⟨tg, .Name x1 p, ifs, 0⟩] scope pos) spos) (tAsg (rdN F (wp Γ (.compL ((ownOf c.N scope).map (·.2)) t i1 cs y))) (gName i)) := by
  have blk : BlkOk X.N X.env.scope scope (ownOf c.N scope) := by rw [x.N, x.sc]; exact blkOk_by q.blk
  refine ⟨fun pins s σ H D I h => ?_⟩
  obtain ⟨ρ, P, er, hw, hq⟩ := h
  cases hlk : lkS ρ i1 with
  | some z =>
    exact (ps_setLc (g := anyG X.fg t) (tt := anyC X.fg (wpcs Γ cs)) (te := anyE X.fg (wp Γ y)) x.calm (by rw [x.N]; exact x.nd) hN hl (sw_true I.ok.kind hl hli ha) (pi_lk hK hv) blk (fun s H C cl fp => anyG_ok (q.G s H C cl fp)) (fun s H C cl fp => anyC_ok (q.T s H C cl fp)) (fun s H C cl fp => anyE_ok (q.E s H C cl fp)) (set_fold q.set)).run pins s σ H D I (compL_core hK fo q.sl hlk er hw hq)
  | none =>
    refine (ps_comp x hK fo q hN hl hli ha).run pins s σ H D I ⟨ρ, P, er, ?_, hq⟩
    unfold wp at hw
    rw [hlk] at hw
    unfold wp
    exact hw
end
end MW

set_option Elab.async false
set_option linter.all false
set_option maxRecDepth 100000
/-! MW12: expressions, all of them -/
namespace MW
open PySem PySem.Spec PyProof.Rows L2
/-- the pairs of a display, as they are evaluated -/
structure PDp (X : Cx) (ks : List (Option Expr)) (vs : List Expr) (t : TA) : Prop where
  run : ∀ (pos : Pos) (pins : List (Addr × Obj)) (s : Shared) (σ : Stt) (H : Hp) (Q : List V → Hp → Prop), Inv X pins σ H s → t σ H Q →
    wpAny (model X.prog X.w) X.A (evalPairs (pairTrees ks vs X.env pos)) (fun ws s' => ∃ us H', Inv X pins σ H' s' ∧ VV2 us ws ∧ Q us H') X.xe s
section
variable {Γ : Gm} {k : Nat} {c : Cm} {X : Cx} {F : Fx}
def rdP (F : Fx) (w : Evn → (Option Int → Evn → Prop) → Prop) : TO := fun σ H Q => ∃ ρ P, ER F H σ ρ ∧ w ρ P ∧
  ∀ o H' ρ', ER F H' σ ρ' → Go H (Mine σ ρ) H' (Mine σ ρ') → P o ρ' → Q o H'
structure OkN (Γ : Gm) (k n : Nat) : Prop where
  E : ∀ {c : Cm} {X : Cx} {F : Fx} {e : Expr} {x : Ex}, XOk Γ k c X → F.K = X.fg → FOk F → cE n c e = some x → PE X e (rdE F (wp Γ x))
  O : ∀ {c : Cm} {X : Cx} {F : Fx} {e : Expr} {x : Ex}, XOk Γ k c X → F.K = X.fg → FOk F → cE n c e = some x → PE X e (rdO F x (wp Γ x))
  S : ∀ {c : Cm} {X : Cx} {F : Fx} {e : List Expr} {x : List Ex}, XOk Γ k c X → F.K = X.fg → FOk F → cEs n c e = some x → PA X e (rdS F (wps Γ x))
  L : ∀ {c : Cm} {X : Cx} {F : Fx} {e : List Expr} {x : List Ex}, XOk Γ k c X → F.K = X.fg → FOk F → cEs n c e = some x → PA X e (rdL F (wpo Γ x))
  A : ∀ {c : Cm} {X : Cx} {F : Fx} {e : List Expr} {x : List Ex} {io : List Bool} {ps : List (Option Nat)}, XOk Γ k c X → F.K = X.fg → FOk F → cEs n c e = some x → argsIo io x = some ps → PA X e (rdA F ps (wpa Γ ps x))
  D : ∀ {c : Cm} {X : Cx} {F : Fx} {ks : List (Option Expr)} {vs : List Expr} {x : List Ex}, XOk Γ k c X → F.K = X.fg → FOk F → cDp n c ks vs = some x → PDp X ks vs (rdS F (wps Γ x))
  P : ∀ {c : Cm} {X : Cx} {F : Fx} {e : Option Expr} {x : Option Ex}, XOk Γ k c X → F.K = X.fg → FOk F → cP n c e = some x → PO X e (rdP F (wpp Γ x))
  I : ∀ {c : Cm} {X : Cx} {F : Fx} {e : Expr} {z : Bool × List Ex} {tg : Expr}, XOk Γ k c X → F.K = X.fg → FOk F → cI n c (isTupX tg) e = some z → PI X tg e (rdI F z.1 (wps Γ z.2))
  C : ∀ {c : Cm} {X : Cx} {F : Fx} {e : Expr} {x : Co}, XOk Γ k c X → F.K = X.fg → FOk F → cC n c e = some x → L2.PT X e (rdC F (wpc Γ x))
  W : ∀ {c : Cm} {X : Cx} {F : Fx} {op : BoolOp} {vs : List Expr} {p : Pos} {x : Co}, XOk Γ k c X → F.K = X.fg → FOk F → cC n c (.BoolOp op vs p) = some x → PW X (.BoolOp op vs p) (rdC F (wpc Γ x))
  T : ∀ {c : Cm} {X : Cx} {F : Fx} {e : List Expr} {x : List Co}, XOk Γ k c X → F.K = X.fg → FOk F → cCs n c e = some x → PTs X e (rdC F (wpcs Γ x))
theorem nomarkS {op : CmpOp} {b : Expr} (h : isSetE b = false) : behindInMarks op b = false := by cases b <;> first | rfl | simp [isSetE] at h
/-- a name, as a value -/
theorem pe_valVar {i : Nat} {y : Str} {pos : Pos} (hN : X.N[i]? = some y) (hv : Vis X.env.scope y) (h1 : (y == ("__debug__" : Str)) = false) (h2 : (y == ("__classdict__" : Str)) = false) : PE X (.Name y pos) (rdE F (wp Γ (.var i))) := by
  refine ⟨fun pins s σ H Q I ⟨ρ, P, er, hw, hq⟩ => ?_⟩
  obtain ⟨⟨d, ρ'⟩, hd, hp⟩ := bnd_ex hw
  unfold rdv at hd
  split at hd
  · cases hd
    rename_i hs
    obtain ⟨v, hv1, rp⟩ := er.val i _ hs
    exact (pe_var hN hv h1 h2).run pins s σ H Q I ⟨v, hv1, hq v H _ ρ er Go.refl rp hp⟩
  · cases hd
    rename_i hs
    obtain ⟨a, ha, er', g, rp⟩ := er.freeze hs
    exact (pe_var hN hv h1 h2).run pins s σ H Q I ⟨.ref a, ha, hq _ H _ _ er' g rp hp⟩
  · cases hd
theorem pe_const {v : V} {d : D} {e : Expr} (h : PE X e (tC v)) (r : ∀ H O, Rp F.K H O v d) (x : Ex) (hx : ∀ ρ P, wp Γ x ρ P = P d ρ) : PE X e (rdE F (wp Γ x)) :=
  ⟨fun pins s σ H Q I ⟨ρ, P, er, hw, hq⟩ => h.run pins s σ H Q I (hq v H d ρ er Go.refl (r _ _) (by rw [hx] at hw; exact hw))⟩
theorem pe_lstN {es : List Expr} {xs : List Ex} {pos : Pos} (fo : FOk F) (h : PA X es (rdS F (wps Γ xs))) : PE X (.List es pos) (rdN F (wp Γ (.lst xs))) := by
  refine ⟨fun pins s σ H Q I ⟨ρ, P, er, hw, hq⟩ => (pe_lst h).run pins s σ H Q I ?_⟩
  exact ⟨ρ, _, er, hw, fun vs H' ds ρ' er' g r hp => ⟨by rw [r.length]; exact fitL_iff.mp hp.1, fun p n => hq p _ H' _ ρ' n (er'.noG fo n) er' g (.list r) hp.2⟩⟩
theorem pe_tupE {es : List Expr} {xs : List Ex} {kk : Nat} {pos : Pos} (h : PA X es (rdS F (wps Γ xs))) : PE X (.Tuple es kk pos) (rdE F (wp Γ (.tup xs))) := by
  refine ⟨fun pins s σ H Q I ⟨ρ, P, er, hw, hq⟩ => (pe_tup h).run pins s σ H Q I ?_⟩
  refine ⟨ρ, _, er, hw, fun vs H' ds ρ' er' g r hp => ⟨by rw [r.length]; exact fitL_iff.mp hp.1, fun p n => ?_⟩⟩
  have nw := Nw.tup (vs := vs) er'.muts n r
  exact hq _ _ _ ρ' (er'.laid n) (g.trans fun b o hb q => ⟨nw.1 b o hb, q⟩) nw.2 hp.2
def rBi (K : Fg) (f : Bf) : List V → Hp → VK → Prop := fun xs H Q => ∃ O ds dz, Muts H O ∧ Opds K H O xs ds ∧ biD f ds = some dz ∧ ∀ z H', Nw K H O z dz H' → Q z H'
theorem cr_bi (x : XOk Γ k c X) {f : Bf} {g : Value} (hf : bfV f = some g) : CallR X g (rBi X.fg f) := by
  intro pins s σ H xs us Q I r ⟨O, ds, dz, m, o, h, q⟩
  exact bi_run x.units x.hg x.calm f g hf I r o m h q
def rIs (K : Fg) (t : Ty) : List V → Hp → VK → Prop := fun xs H Q => ∃ O y d b, xs = [y, .ty (tyS t)] ∧ Opd K H O y d ∧ isTy t d = some b ∧ Q (.bl b) H
theorem cr_is {t : Ty} : CallR X (.builtin "isinstance") (rIs X.fg t) := by
  intro pins s σ H xs us Q I r ⟨O, y, d, b, e, o, h, q⟩
  subst e
  obtain ⟨u1, u2, rfl, r1, r2⟩ := vals2 r
  cases (show u2 = Value.type (tyS t) from r2)
  exact isi_run I r1 o h q
def rBiN (K : Fg) (f : Bf) : List V → Hp → VK → Prop := fun xs H Q => ∃ O ds dz, Muts H O ∧ Opds K H O xs ds ∧ biD f ds = some dz ∧ ∀ p u, H p = none → Nc K H O p u dz → Q (.ref p) (upd H p u)
theorem cr_biN (x : XOk Γ k c X) {f : Bf} {g : Value} (hf : bfV f = some g) (hn : newF f = true) : CallR X g (rBiN X.fg f) := by
  intro pins s σ H xs us Q I r ⟨O, ds, dz, m, o, h, q⟩
  exact bi_new x.units x.calm f g hf hn I r o m h q
def rMe (K : Fg) (m : Me) : V → List V → Hp → VK → Prop := fun x xs H Q => ∃ O d ds dz, Muts H O ∧ Opd K H O x d ∧ Opds K H O xs ds ∧ meD m d ds = some dz ∧ ∀ z H', Nw K H O z dz H' → Q z H'
theorem mt_me (x : XOk Γ k c X) (m : Me) : MtR X (meId m) (rMe X.fg m) := by
  intro pins s σ H y xs v us Q I rx rs ⟨O, d, ds, dz, mu, o, os, h, q⟩
  exact me_run x.units m I rx o rs os mu h q
/-- the table of built-in functions is the model's -/
theorem bfOf_tab {x : Str} {n : Nat} {b : Bf} (h : bfOf x n = some b) : (x = "len" ∧ b = .len) ∨ (x = "tuple" ∧ b = .tuple) ∨ (x = "list" ∧ b = .list) ∨ (x = "sorted" ∧ b = .sorted) ∨ (x = "all" ∧ b = .all) ∨ (x = "any" ∧ b = .any) ∨ (x = "sum" ∧ b = .sum) ∨
    (x = "min" ∧ (b = .min1 ∨ b = .min2)) ∨ (x = "max" ∧ (b = .max1 ∨ b = .max2)) ∨ (x = "int" ∧ b = .int) ∨ (x = "repr" ∧ b = .repr) ∨ (x = "abs" ∧ b = .abs) ∨ (x = "dict" ∧ b = .dpairs) := by
  unfold bfOf at h
  by_cases h1 : x = "len"
  · rw [if_pos h1] at h; split at h
    · cases h; exact .inl ⟨h1, rfl⟩
    · cases h
  rw [if_neg h1] at h; refine .inr ?_
  by_cases h1 : x = "tuple"
  · rw [if_pos h1] at h; split at h
    · cases h; exact .inl ⟨h1, rfl⟩
    · cases h
  rw [if_neg h1] at h; refine .inr ?_
  by_cases h1 : x = "list"
  · rw [if_pos h1] at h; split at h
    · cases h; exact .inl ⟨h1, rfl⟩
    · cases h
  rw [if_neg h1] at h; refine .inr ?_
  by_cases h1 : x = "sorted"
  · rw [if_pos h1] at h; split at h
    · cases h; exact .inl ⟨h1, rfl⟩
    · cases h
  rw [if_neg h1] at h; refine .inr ?_
  by_cases h1 : x = "all"
  · rw [if_pos h1] at h; split at h
    · cases h; exact .inl ⟨h1, rfl⟩
    · cases h
  rw [if_neg h1] at h; refine .inr ?_
  by_cases h1 : x = "any"
  · rw [if_pos h1] at h; split at h
    · cases h; exact .inl ⟨h1, rfl⟩
    · cases h
  rw [if_neg h1] at h; refine .inr ?_
  by_cases h1 : x = "sum"
  · rw [if_pos h1] at h; split at h
    · cases h; exact .inl ⟨h1, rfl⟩
    · cases h
  rw [if_neg h1] at h; refine .inr ?_
  by_cases h1 : x = "min"
  · rw [if_pos h1] at h; split at h
    · cases h; exact .inl ⟨h1, .inl rfl⟩
    · split at h
      · cases h; exact .inl ⟨h1, .inr rfl⟩
      · cases h
  rw [if_neg h1] at h; refine .inr ?_
  by_cases h1 : x = "max"
  · rw [if_pos h1] at h; split at h
    · cases h; exact .inl ⟨h1, .inl rfl⟩
    · split at h
      · cases h; exact .inl ⟨h1, .inr rfl⟩
      · cases h
  rw [if_neg h1] at h; refine .inr ?_
  by_cases h1 : x = "int"
  · rw [if_pos h1] at h; split at h
    · cases h; exact .inl ⟨h1, rfl⟩
    · cases h
  rw [if_neg h1] at h; refine .inr ?_
  by_cases h1 : x = "repr"
  · rw [if_pos h1] at h; split at h
    · cases h; exact .inl ⟨h1, rfl⟩
    · cases h
  rw [if_neg h1] at h; refine .inr ?_
  by_cases h1 : x = "abs"
  · rw [if_pos h1] at h; split at h
    · cases h; exact .inl ⟨h1, rfl⟩
    · cases h
  rw [if_neg h1] at h; refine .inr ?_
  by_cases h1 : x = "dict"
  · rw [if_pos h1] at h; split at h
    · cases h; exact ⟨h1, rfl⟩
    · cases h
  rw [if_neg h1] at h; cases h
def BtF (x : Str) (g : Value) : Prop := bootBuiltins x = some g ∧ x ≠ "__name__" ∧ (x == ("__debug__" : Str)) = false ∧ ((∃ i, g = .builtin i) ∨ ∃ T, g = .type T)
theorem bfOf_boot {x : Str} {n : Nat} {b : Bf} (h : bfOf x n = some b) : ∃ g, bfV b = some g ∧ BtF x g := by
  rcases bfOf_tab h with ⟨rfl, rfl⟩ | ⟨rfl, rfl⟩ | ⟨rfl, rfl⟩ | ⟨rfl, rfl⟩ | ⟨rfl, rfl⟩ | ⟨rfl, rfl⟩ | ⟨rfl, rfl⟩ | ⟨rfl, rfl | rfl⟩ | ⟨rfl, rfl | rfl⟩ | ⟨rfl, rfl⟩ | ⟨rfl, rfl⟩ | ⟨rfl, rfl⟩ | ⟨rfl, rfl⟩ <;>
    exact ⟨_, rfl, by decide +kernel, by decide +kernel, by decide +kernel, by first | exact .inl ⟨_, rfl⟩ | exact .inr ⟨_, rfl⟩⟩
theorem tyOf_boot {x : Str} {t : Ty} (h : tyOf? x = some t) : bootBuiltins x = some (.type (tyS t)) ∧ x ≠ "__name__" ∧ (x == ("__debug__" : Str)) = false := by
  unfold tyOf? at h
  by_cases h1 : x = "int"
  · rw [if_pos h1] at h; cases h; subst h1; exact ⟨by decide +kernel, by decide +kernel, by decide +kernel⟩
  rw [if_neg h1] at h
  by_cases h1 : x = "str"
  · rw [if_pos h1] at h; cases h; subst h1; exact ⟨by decide +kernel, by decide +kernel, by decide +kernel⟩
  rw [if_neg h1] at h
  by_cases h1 : x = "bool"
  · rw [if_pos h1] at h; cases h; subst h1; exact ⟨by decide +kernel, by decide +kernel, by decide +kernel⟩
  rw [if_neg h1] at h
  by_cases h1 : x = "tuple"
  · rw [if_pos h1] at h; cases h; subst h1; exact ⟨by decide +kernel, by decide +kernel, by decide +kernel⟩
  rw [if_neg h1] at h
  by_cases h1 : x = "list"
  · rw [if_pos h1] at h; cases h; subst h1; exact ⟨by decide +kernel, by decide +kernel, by decide +kernel⟩
  rw [if_neg h1] at h; cases h
theorem all_plain {es : List Expr} {env : Env} {pos : Pos} (h : ∀ e ∈ es, isStar e = false) : starEach es env = es.map (fun e => (false, eval e env)) ∧ (backTo pos (starEach es env)).any (·.1) = false ∧ (backTo pos (starEach es env)).all (fun x => !x.1) = true := by
  have e : starEach es env = es.map (fun e => (false, eval e env)) := by
    induction es with
    | nil => rfl
    | cons y l ih =>
      rw [star_plain (h y List.mem_cons_self), ih fun z hz => h z (List.mem_cons_of_mem _ hz)]; rfl
  refine ⟨e, ?_, ?_⟩
  · rw [e]; unfold backTo; simp
  · rw [e]; unfold backTo; simp
theorem cEs_star {n : Nat} {c : Cm} : ∀ {n : Nat} {es : List Expr} {xs : List Ex}, cEs n c es = some xs → ∀ e ∈ es, isStar e = false
  | 0, _, _, h => by simp [cEs] at h
  | n + 1, [], _, _ => fun e he => by simp at he
  | n + 1, e :: es, _, h => fun e' he => by
    simp only [cEs] at h
    obtain ⟨x, hx, h⟩ := Option.bind_eq_some_iff.mp h
    obtain ⟨q, hq, _⟩ := Option.map_eq_some_iff.mp h
    rcases List.mem_cons.mp he with rfl | he
    · exact cE_star hx
    · exact cEs_star (n := n) hq e' he
theorem cEs_len {c : Cm} : ∀ {n : Nat} {es : List Expr} {xs : List Ex}, cEs n c es = some xs → xs.length = es.length
  | 0, _, _, h => by simp [cEs] at h
  | n + 1, [], _, h => by simp [cEs] at h; subst h; rfl
  | n + 1, e :: es, _, h => by
    simp only [cEs] at h
    obtain ⟨x, hx, h⟩ := Option.bind_eq_some_iff.mp h
    obtain ⟨q, hq, e2⟩ := Option.map_eq_some_iff.mp h
    subst e2
    simp [cEs_len hq]
end
end MW

set_option Elab.async false
set_option linter.all false
set_option maxRecDepth 100000
/-! MW13: each form of expression -/
namespace MW
open PySem PySem.Spec PyProof.Rows L2
section
variable {Γ : Gm} {k n : Nat} {c : Cm} {X : Cx} {F : Fx}
theorem pe_imp {e : Expr} {t t' : TE} (h : PE X e t) (w : ∀ σ H Q, t' σ H Q → t σ H Q) : PE X e t' := ⟨fun pins s σ H Q I q => h.run pins s σ H Q I (w σ H Q q)⟩
theorem pt_imp {e : Expr} {t t' : TT} (h : L2.PT X e t) (w : ∀ σ H Q, t' σ H Q → t σ H Q) : L2.PT X e t' := ⟨fun pins s σ H Q I q => h.run pins s σ H Q I (w σ H Q q)⟩
theorem pw_imp {e : Expr} {t t' : TT} (h : PW X e t) (w : ∀ σ H Q, t' σ H Q → t σ H Q) : PW X e t' := ⟨fun wh pins s σ H Q I q => h.run wh pins s σ H Q I (w σ H Q q)⟩
theorem pe_litD {v : Const} {d : D} {j : Nat} {pos : Pos} (h : litD v = some d) : PE X (.Constant v j pos) (rdE F (wp Γ (.lit d))) := by
  cases v <;> first | (simp [litD] at h; done) | skip
  · cases h; exact pe_const pe_non (fun _ _ => .none) _ fun _ _ => rfl
  · cases h; exact pe_const pe_bl (fun _ _ => .bool _) _ fun _ _ => rfl
  · cases h; exact pe_const pe_int (fun _ _ => .int _) _ fun _ _ => rfl
  · cases h; exact pe_const pe_str (fun _ _ => .str _) _ fun _ _ => rfl
theorem pe_nm (x : XOk Γ k c X) (hK : F.K = X.fg) {y : Str} {pos : Pos} {e : Ex} (h : (if isVis c y then (ixOf c.N y).map Ex.var else if isGl c y then (c.gl.lookup y).map (Ex.glo y) else none) = some e) : PE X (.Name y pos) (rdE F (wp Γ e)) := by
  split at h
  · rename_i hv
    obtain ⟨i, hi, e⟩ := Option.map_eq_some_iff.mp h
    subst e
    obtain ⟨h1, h2, h3⟩ := isVis_of hv x.sc
    exact pe_valVar (by rw [x.N]; exact ixOf_get hi) h1 h2 h3
  · split at h
    · rename_i hg
      obtain ⟨d, hd, e⟩ := Option.map_eq_some_iff.mp h
      subst e
      obtain ⟨u, v, h1, h2, h3⟩ := x.gl y d hd
      obtain ⟨g1, g2⟩ := isGl_of hg x.sc
      exact pe_const (pe_glob g1 h1 h2 g2) (fun H O => by rw [hK]; exact h3 H O) _ fun _ _ => rfl
    · cases h
/-- the operand of an expression -/
theorem opd_nm (x : XOk Γ k c X) (hK : F.K = X.fg) {y : Str} {pos : Pos} {e : Ex} (h : (if isVis c y then (ixOf c.N y).map Ex.var else if isGl c y then (c.gl.lookup y).map (Ex.glo y) else none) = some e) : PE X (.Name y pos) (rdO F e (wp Γ e)) := by
  have h0 := h
  split at h
  · rename_i hv
    obtain ⟨i, hi, e⟩ := Option.map_eq_some_iff.mp h
    subst e
    obtain ⟨h1, h2, h3⟩ := isVis_of hv x.sc
    exact pe_opdVar (by rw [x.N]; exact ixOf_get hi) h1 h2 h3 _
  · have : bld e = true := by
      split at h
      · obtain ⟨d, _, e⟩ := Option.map_eq_some_iff.mp h
        subst e; rfl
      · cases h
    exact SE.opd (pe_nm x hK h0) this
theorem pe_negE {a : Expr} {xa : Ex} {pos : Pos} (ha : PE X a (rdE F (wp Γ xa))) : PE X (.UnaryOp .USub a pos) (rdE F (wp Γ (.neg xa))) := by
  refine pe_imp (pe_un un_neg ha) fun σ H Q ⟨ρ, P, er, hw, hq⟩ => ⟨ρ, _, er, hw, fun v H1 d ρ1 er1 g1 r1 h1 => ?_⟩
  obtain ⟨i, hi, hp⟩ := bnd_ex h1
  cases d <;> first | (simp [asI] at hi; done) | skip
  cases hi
  cases Opd.int (.inl r1)
  exact ⟨i, rfl, hq _ _ _ _ er1 g1 (.int _) hp⟩
theorem asB_rp {K : Fg} {H : Hp} {O : AS} {v : V} {d : D} {b : Bool} (r : Rp K H O v d) (h : asB d = some b) : v = .bl b := by
  cases d <;> first | (simp [asB] at h; done) | skip
  cases h
  exact Opd.bool (.inl r)
theorem pe_notE {a : Expr} {xa : Ex} {pos : Pos} (ha : PE X a (rdE F (wp Γ xa))) : PE X (.UnaryOp .Not a pos) (rdE F (wp Γ (.not xa))) := by
  refine pe_imp (L2.pe_not ha) fun σ H Q ⟨ρ, P, er, hw, hq⟩ => ⟨ρ, _, er, hw, fun v H1 d ρ1 er1 g1 r1 h1 => ?_⟩
  obtain ⟨b, hb, hp⟩ := bnd_ex h1
  exact ⟨b, asB_rp r1 hb, hq _ _ _ _ er1 g1 (.bool _) hp⟩
theorem pe_andE {a b : Expr} {rest : List Expr} {xa xb : Ex} {pos : Pos} (ha : PE X a (rdE F (wp Γ xa))) (hb : PE X (.BoolOp .And (b :: rest) pos) (rdE F (wp Γ xb))) : PE X (.BoolOp .And (a :: b :: rest) pos) (rdE F (wp Γ (.and xa xb))) := by
  refine pe_imp (L2.pe_and ha hb) fun σ H Q ⟨ρ, P, er, hw, hq⟩ => ⟨ρ, _, er, hw, fun v H1 d ρ1 er1 g1 r1 h1 => ?_⟩
  obtain ⟨t, ht, hp⟩ := bnd_ex h1
  refine ⟨t, asB_rp r1 ht, ?_⟩
  cases t with
  | false => simp only [Bool.false_eq_true, if_false] at hp ⊢; exact hq _ _ _ _ er1 g1 (.bool _) hp
  | true => simp only [if_true] at hp ⊢; exact ⟨ρ1, P, er1, hp, fun v H' d ρ' er' g' r' h' => hq v H' d ρ' er' (g1.trans g') r' h'⟩
theorem pe_orE {a b : Expr} {rest : List Expr} {xa xb : Ex} {pos : Pos} (ha : PE X a (rdE F (wp Γ xa))) (hb : PE X (.BoolOp .Or (b :: rest) pos) (rdE F (wp Γ xb))) : PE X (.BoolOp .Or (a :: b :: rest) pos) (rdE F (wp Γ (.or xa xb))) := by
  refine pe_imp (L2.pe_or ha hb) fun σ H Q ⟨ρ, P, er, hw, hq⟩ => ⟨ρ, _, er, hw, fun v H1 d ρ1 er1 g1 r1 h1 => ?_⟩
  obtain ⟨t, ht, hp⟩ := bnd_ex h1
  refine ⟨t, asB_rp r1 ht, ?_⟩
  cases t with
  | true => simp only [if_true] at hp ⊢; exact hq _ _ _ _ er1 g1 (.bool _) hp
  | false => simp only [Bool.false_eq_true, if_false] at hp ⊢; exact ⟨ρ1, P, er1, hp, fun v H' d ρ' er' g' r' h' => hq v H' d ρ' er' (g1.trans g') r' h'⟩
theorem pe_ifE {t a b : Expr} {xt : Co} {xa xb : Ex} {pos : Pos} (ht : L2.PT X t (rdC F (wpc Γ xt))) (ha : PE X a (rdE F (wp Γ xa))) (hb : PE X b (rdE F (wp Γ xb))) : PE X (.IfExp t a b pos) (rdE F (wp Γ (.ife xt xa xb))) := by
  refine pe_imp (L2.pe_ifExp ht ha hb) fun σ H Q ⟨ρ, P, er, hw, hq⟩ => ⟨ρ, _, er, hw, fun v H1 ρ1 er1 g1 h1 => ?_⟩
  cases v with
  | true => simp only [if_true] at h1 ⊢; exact ⟨ρ1, P, er1, h1, fun v H' d ρ' er' g' r' h' => hq v H' d ρ' er' (g1.trans g') r' h'⟩
  | false => simp only [Bool.false_eq_true, if_false] at h1 ⊢; exact ⟨ρ1, P, er1, h1, fun v H' d ρ' er' g' r' h' => hq v H' d ρ' er' (g1.trans g') r' h'⟩
theorem pe_binE {op : Operator} {a b : Expr} {xa xb : Ex} {pos : Pos} (hK : F.K = X.fg) (ha : PE X a (rdO F xa (wp Γ xa))) (hb : PE X b (rdO F xb (wp Γ xb))) : PE X (.BinOp a op b pos) (rdE F (wp Γ (.bin op xa xb))) :=
  pe_two (g := binD op) (r := rB X.fg op) ha hb (fun _ _ => rfl) (fun {x y H O dx dy dz Q} m o1 o2 h q => by rw [hK] at o1 o2 q; exact ⟨O, dx, dy, dz, m, o1, o2, h, q⟩) (pe_op (op_bin op) ha hb)
theorem pe_ixE (x : XOk Γ k c X) {a b : Expr} {xa xb : Ex} {pos : Pos} (hK : F.K = X.fg) (hs : isSlcE b = false) (ha : PE X a (rdO F xa (wp Γ xa))) (hb : PE X b (rdO F xb (wp Γ xb))) : PE X (.Subscript a b pos) (rdE F (wp Γ (.idx xa xb))) :=
  pe_two (g := idxD) (r := MW.rI X.fg) ha hb (fun _ _ => rfl) (fun {x y H O dx dy dz Q} m o1 o2 h q => by rw [hK] at o1 o2 q; exact ⟨O, dx, dy, dz, m, o1, o2, h, q⟩)
    (pe_ix (ix_d x.units) ha hb fun o i => by cases b <;> first | rfl | simp [isSlcE] at hs)
theorem pe_slE {a : Expr} {lo hi : Option Expr} {xa : Ex} {xl xh : Option Ex} {pos p2 : Pos} (hK : F.K = X.fg) (ha : PE X a (rdO F xa (wp Γ xa))) (hl : PO X lo (rdP F (wpp Γ xl))) (hh : PO X hi (rdP F (wpp Γ xh))) :
    PE X (.Subscript a (.Slice lo hi none p2) pos) (rdE F (wp Γ (.slc xa xl xh))) := by
  refine pe_imp (pe_slice sl_d ha hl hh) fun σ H Q ⟨ρ, P, er, hw, hq⟩ => ⟨ρ, _, er, hw, fun v H1 r1 ρ1 er1 g1 l1 h1 => ⟨ρ1, _, er1, h1, fun lo' H2 ρ2 er2 g2 h2 => ⟨ρ2, _, er2, h2, fun hi' H3 ρ3 er3 g3 h3 => ?_⟩⟩⟩
  obtain ⟨x, hx, h4⟩ := bnd_ex h3
  obtain ⟨z, hz, h5⟩ := bnd_ex h4
  have o := l1 H3 ρ3 x er3 (g2.trans g3) hx
  rw [hK] at o
  refine ⟨_, x, z, er3.muts, o, hz, fun zv H4 nw => ?_⟩
  rw [← hK] at nw
  exact hq zv H4 z ρ3 (er3.grow nw.1) (((g1.trans g2).trans g3).trans fun b o hb n => ⟨nw.1 b o hb, n⟩) nw.2 h5
/-- a comparison -/
theorem cmp_core {op : CmpOp} {xa xb : Ex} (hK : F.K = X.fg) {σ : Stt} {H : Hp} {Q : VK} {ρ : Evn} {P : D → Evn → Prop} (er : ER F H σ ρ) (hw : wp Γ (.cmp op xa xb) ρ P)
    (hq : ∀ z H' ρ', ER F H' σ ρ' → Go H (Mine σ ρ) H' (Mine σ ρ') → P (.bool z) ρ' → Q (.bl z) H') : tOp (rC X.fg op) (rdO F xa (wp Γ xa)) (rdO F xb (wp Γ xb)) σ H Q := by
  refine ⟨ρ, _, er, hw, fun v1 H1 r1 ρ1 er1 g1 l1 h1 => ⟨ρ1, _, er1, h1, fun v2 H2 r2 ρ2 er2 g2 l2 h2 => ?_⟩⟩
  obtain ⟨x, hx, h3⟩ := bnd_ex h2
  obtain ⟨y, hy, h4⟩ := bnd_ex h3
  obtain ⟨z, hz, h5⟩ := bnd_ex h4
  have o1 := l1 H2 ρ2 x er2 g2 hx
  have o2 := l2 H2 ρ2 y er2 Go.refl hy
  rw [hK] at o1 o2
  exact ⟨_, x, y, z, er2.muts, o1, o2, hz, hq z H2 ρ2 er2 (g1.trans g2) h5⟩
theorem chain_core {op op' : CmpOp} {xa xb xc : Ex} (hK : F.K = X.fg) {σ : Stt} {H : Hp} {Q : VK} {ρ : Evn} {P : D → Evn → Prop} (er : ER F H σ ρ) (hw : wp Γ (.cmp2 op op' xa xb xc) ρ P)
    (hq : ∀ z H' ρ', ER F H' σ ρ' → Go H (Mine σ ρ) H' (Mine σ ρ') → P (.bool z) ρ' → Q (.bl z) H') : tChain (rC X.fg op) (rC X.fg op') (rdE F (wp Γ xa)) (rdE F (wp Γ xb)) (rdE F (wp Γ xc)) σ H Q := by
  refine ⟨ρ, _, er, hw, fun v1 H1 x ρ1 er1 g1 o1 h1 => ⟨ρ1, _, er1, h1, fun v2 H2 y ρ2 er2 g2 o2 h2 => ?_⟩⟩
  obtain ⟨z, hz, h3⟩ := bnd_ex h2
  have o1' := o1.go (gm_av g2) er1.muts
  rw [hK] at o1'
  have o2' := o2
  rw [hK] at o2'
  refine ⟨_, x, y, z, er2.muts, .inl o1', .inl o2', hz, z, rfl, ?_⟩
  cases z with
  | false => simp only [Bool.false_eq_true, if_false] at h3 ⊢; exact hq _ _ _ er2 (g1.trans g2) h3
  | true =>
    simp only [if_true] at h3 ⊢
    refine ⟨ρ2, _, er2, h3, fun v3 H3 u ρ3 er3 g3 o3 h4 => ?_⟩
    obtain ⟨z', hz', h5⟩ := bnd_ex h4
    have o2'' := o2.go (gm_av g3) er2.muts
    rw [hK] at o2'' o3
    exact ⟨_, y, u, z', er3.muts, .inl o2'', .inl o3, hz', hq z' H3 ρ3 er3 ((g1.trans g2).trans g3) h5⟩
theorem last_of {op op' : CmpOp} {b d : Expr} (h : isSetE d = false) : lastMarks [op, op'] [b, d] = false := nomarkS h
theorem pe_cmpE (x : XOk Γ k c X) {op : CmpOp} {a b : Expr} {xa xb : Ex} {pos : Pos} (hK : F.K = X.fg) (hs : isSetE b = false) (ha : PE X a (rdO F xa (wp Γ xa))) (hb : PE X b (rdO F xb (wp Γ xb))) : PE X (.Compare a [op] [b] pos) (rdE F (wp Γ (.cmp op xa xb))) :=
  pe_imp (pe_cmpR (op_cmp x.units op) ha hb (nomarkS hs)) fun σ H Q ⟨ρ, P, er, hw, hq⟩ => cmp_core hK er hw fun z H' ρ' er' g h => hq _ _ _ ρ' er' g (.bool _) h
theorem pt_cmpE (x : XOk Γ k c X) {op : CmpOp} {a b : Expr} {xa xb : Ex} {pos : Pos} (hK : F.K = X.fg) (hs : isSetE b = false) (ha : PE X a (rdO F xa (wp Γ xa))) (hb : PE X b (rdO F xb (wp Γ xb))) : L2.PT X (.Compare a [op] [b] pos) (rdC F (wpc Γ (.ex (.cmp op xa xb)))) :=
  pt_imp (pt_cmpR (op_cmp x.units op) ha hb (nomarkS hs)) fun σ H Q ⟨ρ, P, er, hw, hq⟩ => cmp_core (P := fun d ρ' => bnd (truD d) fun t => P t ρ') hK er hw fun z H' ρ' er' g h => ⟨z, rfl, hq _ _ ρ' er' g h⟩
theorem pe_chE (x : XOk Γ k c X) {op op' : CmpOp} {a b d : Expr} {xa xb xd : Ex} {pos : Pos} (hK : F.K = X.fg) (hs : isSetE d = false) (ha : PE X a (rdE F (wp Γ xa))) (hb : PE X b (rdE F (wp Γ xb))) (hd : PE X d (rdE F (wp Γ xd))) : PE X (.Compare a [op, op'] [b, d] pos) (rdE F (wp Γ (.cmp2 op op' xa xb xd))) :=
  pe_imp (pe_chain (op_cmp x.units op) (op_cmp x.units op') ha hb hd (last_of hs)) fun σ H Q ⟨ρ, P, er, hw, hq⟩ => chain_core hK er hw fun z H' ρ' er' g h => hq _ _ _ ρ' er' g (.bool _) h
theorem pt_chE (x : XOk Γ k c X) {op op' : CmpOp} {a b d : Expr} {xa xb xd : Ex} {pos : Pos} (hK : F.K = X.fg) (hs : isSetE d = false) (ha : PE X a (rdE F (wp Γ xa))) (hb : PE X b (rdE F (wp Γ xb))) (hd : PE X d (rdE F (wp Γ xd))) : L2.PT X (.Compare a [op, op'] [b, d] pos) (rdC F (wpc Γ (.ex (.cmp2 op op' xa xb xd)))) :=
  pt_imp (pt_chain (op_cmp x.units op) (op_cmp x.units op') ha hb hd (last_of hs)) fun σ H Q ⟨ρ, P, er, hw, hq⟩ => chain_core (P := fun d ρ' => bnd (truD d) fun t => P t ρ') hK er hw fun z H' ρ' er' g h => ⟨z, rfl, hq _ _ ρ' er' g h⟩
/-- truth -/
theorem truV_of {K : Fg} {H : Hp} {O : AS} {v : V} {d : D} {t : Bool} (o : Opd K H O v d) (h : truD d = some t) : TruV K.f v H t := by
  cases d with
  | none => cases o.none; cases h; rfl
  | bool b => cases o.bool; cases h; rfl
  | int i => cases o.int; cases h; rfl
  | str x =>
    cases o.str
    have h' : (if fitL x.length = true then some (!x.isEmpty) else none) = some t := h
    by_cases hf : fitL x.length = true
    · rw [if_pos hf] at h'
      cases h'
      refine ⟨by rw [mkS_len]; exact fitL_iff.mp hf, ?_⟩
      rw [mkS_len]
      cases x with
      | nil => rfl
      | cons a l =>
        have : ((a :: l).length : Int) ≠ 0 := by simp; omega
        simpa using this
    · rw [if_neg hf] at h'; cases h'
  | list xs =>
    obtain ⟨a, vs, e, h1, r1⟩ := o.lst
    subst e; cases h
    refine .inl ⟨vs, h1, ?_⟩
    cases r1 <;> rfl
  | tuple xs =>
    obtain ⟨a, vs, e, h1, r1⟩ := o.tup
    subst e; cases h
    refine .inr (.inl ⟨vs, h1, ?_⟩)
    cases r1 <;> rfl
  | dict ks vs => cases h
/-- the tests that are a value's truth -/
def plainT (e : Expr) : Bool := match e with
  | .UnaryOp .Not _ _ => false
  | .BoolOp _ _ _ => false
  | .IfExp _ _ _ _ => false
  | .Compare _ _ _ _ => false
  | _ => true
theorem plainT_eq {e : Expr} {env : Env} (h : plainT e = true) (whole : Sem Value) : isTrue e env whole = (do let v ← whole; standAt e.pos; holding [v] (truthy v)) := by
  cases e with
  | UnaryOp op a p => cases op <;> first | rfl | simp [plainT] at h
  | _ => first | rfl | simp [plainT] at h
theorem pt_plE {e : Expr} {xe : Ex} (hK : F.K = X.fg) (hp : plainT e = true) (he : PE X e (rdO F xe (wp Γ xe))) : L2.PT X e (rdC F (wpc Γ (.ex xe))) :=
  pt_imp (pt_truth he (plainT_eq hp)) fun σ H Q ⟨ρ, P, er, hw, hq⟩ => ⟨ρ, _, er, hw, fun v H1 r ρ1 er1 g1 l1 h1 => by
    obtain ⟨d, hd, h2⟩ := bnd_ex h1
    obtain ⟨t, ht, h3⟩ := bnd_ex h2
    have o := l1 H1 ρ1 d er1 Go.refl hd
    rw [hK] at o
    exact ⟨t, truV_of o ht, hq t H1 ρ1 er1 g1 h3⟩⟩
/-- behind a call -/
theorem call_end {ps : List (Option Nat)} {io : List Bool} {vs : List V} {ds xd outs : List D} {σ : Stt} {H1 H2 : Hp} {ρ1 : Evn} {P : Evn → Prop} (kd : ps.map (·.isSome) = io) (er1 : ER F H1 σ ρ1) (av : Arv F.K H1 (Av F σ ρ1) σ ps vs ds) (hx : peekC ρ1 ps ds = some xd) (ho : bnd (outsE ps outs ρ1) P)
    (mu : ∀ a, Av F σ ρ1 a → Mut (H2 a)) (keep : ∀ b o, H1 b = some o → ¬ IoA io vs b → H2 b = some o) (ov : Outs F.K H2 (Av F σ ρ1) io vs outs) :
    ∃ ρ2, P ρ2 ∧ ER F H2 σ ρ2 ∧ Go H1 (Mine σ ρ1) H2 (Mine σ ρ2) ∧ ∀ a, Av F σ ρ2 a → Av F σ ρ1 a := by
  obtain ⟨ρ2, ho, hP⟩ := bnd_ex ho
  have shp := outsE_shp ho
  have mine : ∀ b, IoA io vs b → ∃ j, some j ∈ ps ∧ IsM ρ1 j ∧ σ[j]? = some (some (.ref b)) := by
    rintro b ⟨i, h1, h2⟩
    rw [← kd] at h1
    obtain ⟨j, hj⟩ := isSome_at h1
    obtain ⟨v', hv', hs⟩ := av.at i j hj
    rw [h2] at hv'; cases hv'
    exact ⟨j, List.mem_of_getElem? hj, peekC_mem hx j (List.mem_of_getElem? hj), hs⟩
  have keep' : ∀ b o, H1 b = some o → ¬ Mine σ ρ1 b → H2 b = some o := fun b o hb n => keep b o hb fun z => n ((mine b z).elim fun j q => ⟨j, q.2.1, q.2.2⟩)
  have go : Go H1 (Av F σ ρ1) H2 (Av F σ ρ1) := fun b o hb n => ⟨keep' b o hb fun z => n (.inr z), n⟩
  rw [← kd] at ov
  obtain ⟨er2, g2⟩ := er1.swap shp keep' mu fun j d a hd hs => by
    rcases outsE_get ho av ov j d a hd hs with q | ⟨q1, q2⟩
    · exact q
    · obtain ⟨a', h1, ct⟩ := er1.ct q1
      rw [hs] at h1; cases h1
      have : H2 a = H1 a := by
        have m := ct.mut
        cases q : H1 a with
        | none => rw [q] at m; exact m.elim
        | some o =>
          refine keep a o q fun z => ?_
          obtain ⟨j', hj', m', hs'⟩ := mine a z
          have := er1.inj j j' a ⟨d, q1⟩ m' hs hs'
          subst this
          exact q2 hj'
      exact ct.go go er1.muts this
  exact ⟨ρ2, hP, er2, g2, fun a h => (shp.av (F := F) (σ := σ) a).mp h⟩
/-- a call of a def -/
theorem pe_callC (x : XOk Γ k c X) (hK : F.K = X.fg) {f : Str} {es : List Expr} {xs : List Ex} {p pos : Pos} (hg : isGl c f = true) (hne : es ≠ []) (hst : ∀ e ∈ es, isStar e = false)
    (ha : ∀ io ps, argsIo io xs = some ps → PA X es (rdA F ps (wpa Γ ps xs))) {pins : List (Addr × Obj)} {s : Shared} {σ : Stt} {H : Hp} {Q : VK} (I : Inv X pins σ H s) {ρ : Evn} {P : D → Evn → Prop} (er : ER F H σ ρ) (hw : wp Γ (.call f xs) ρ P)
    (q1 : ∀ Fn, Γ f = some Fn → Fn.nw = false → ∀ v H' d ρ', ER F H' σ ρ' → Go H (Mine σ ρ) H' (Mine σ ρ') → Rp F.K H' (Av F σ ρ') v d → P d ρ' → Q v H')
    (q2 : ∀ a o H' d ρ', H' a = none → F.G a = none → ER F H' σ ρ' → Go H (Mine σ ρ) H' (Mine σ ρ') → Nc F.K H' (Av F σ ρ') a o d → P d ρ' → Q (.ref a) (upd H' a o)) (fo : FOk F) :
    wpAny (model X.prog X.w) X.A (eval (.Call (.Name f p) es [] pos) X.env) (EP X pins σ Q) X.xe s := by
  obtain ⟨g1, g2⟩ := isGl_of hg x.sc
  obtain ⟨Fn, hF, hw⟩ := bnd_ex hw
  obtain ⟨ps, hps, nd, iok, hw⟩ := bnd_ex hw
  obtain ⟨a, fd, pn, hm, hk, hbd, fg⟩ := x.fs f Fn hF
  refine (pe_callG fg x.room x.hg g1 hm hk hbd (ha _ ps hps) hne (fun y hy e q z => by have := hst y hy; rw [z] at this; cases this) g2).run pins s σ H Q I ?_
  refine ⟨ρ, _, er, hw, fun j hj => ?_, fun vs H1 ds ρ1 er1 g1 av h1 => ?_⟩
  · have := (List.all_eq_true.mp iok) _ hj
    obtain ⟨d, hd⟩ := Option.isSome_iff_exists.mp this
    obtain ⟨a, ha, _⟩ := er.ct hd
    exact ⟨_, ha⟩
  obtain ⟨xd, hx, hpt⟩ := bnd_ex h1
  have kd := argsIo_kinds hps
  have ars := Arv.ars er1 av hx
  have ion := av.ioN er1 nd (peekC_mem hx)
  rw [kd] at ars ion
  show spG X.fg Fn (vs ++ []) H1 Q E0
  rw [List.append_nil, ← hK]
  refine ⟨Av F σ ρ1, xd, _, er1.muts, ars, ion, hpt, fun hn d outs hR v H2 mu keep rv ov => ?_, fun hn d outs hR a o H2 na mu keep nc ov => ?_⟩
  · obtain ⟨ρ2, hP, er2, g2, w⟩ := call_end kd er1 av hx hR mu keep ov
    exact q1 Fn hF hn v H2 d ρ2 er2 (g1.trans g2) (rv.weak w) hP
  · obtain ⟨ρ2, hP, er2, g2, w⟩ := call_end kd er1 av hx hR mu keep ov
    exact q2 a o H2 d ρ2 na (er2.noG fo na) er2 (g1.trans g2) (nc.weak w) hP
theorem pe_callE (x : XOk Γ k c X) (hK : F.K = X.fg) (fo : FOk F) {f : Str} {es : List Expr} {xs : List Ex} {p pos : Pos} (hg : isGl c f = true) (hne : es ≠ []) (hst : ∀ e ∈ es, isStar e = false)
    (ha : ∀ io ps, argsIo io xs = some ps → PA X es (rdA F ps (wpa Γ ps xs))) : PE X (.Call (.Name f p) es [] pos) (rdE F (wp Γ (.call f xs))) :=
  ⟨fun pins s σ H Q I ⟨ρ, P, er, hw, hq⟩ => pe_callC x hK hg hne hst ha I er hw (fun _ _ _ v H' d ρ' er' g r h => hq v H' d ρ' er' g r h) (fun a o H' d ρ' n nG er' g nc hp => hq _ _ d ρ' (er'.laid n) (fun b u hb q => ⟨by rw [upd_ne (ne_of_none (g b u hb q).1 n)]; exact (g b u hb q).1, (g b u hb q).2⟩) (nc.rp n er'.muts) hp) fo⟩
/-- of one that gives a new list -/
theorem pe_callN (x : XOk Γ k c X) (hK : F.K = X.fg) (fo : FOk F) {f : Str} {es : List Expr} {xs : List Ex} {p pos : Pos} (hnf : f ∈ c.nf) (hg : isGl c f = true) (hne : es ≠ []) (hst : ∀ e ∈ es, isStar e = false)
    (ha : ∀ io ps, argsIo io xs = some ps → PA X es (rdA F ps (wpa Γ ps xs))) : PE X (.Call (.Name f p) es [] pos) (rdN F (wp Γ (.call f xs))) := by
  obtain ⟨F0, h1, h2⟩ := x.nf f hnf
  refine ⟨fun pins s σ H Q I ⟨ρ, P, er, hw, hq⟩ => pe_callC x hK hg hne hst ha I er hw (fun Fn hF hn => ?_) hq fo⟩
  rw [h1] at hF; cases hF
  rw [h2] at hn; cases hn
theorem biD_nil {b : Bf} {g : Value} (h : bfV b = some g) : biD b [] = none := by cases b <;> first | rfl | cases h
/-- a call of a built-in function -/
theorem pe_biE (x : XOk Γ k c X) (hK : F.K = X.fg) {f : Str} {es : List Expr} {xs : List Ex} {p pos : Pos} {b : Bf} {m : Nat} (hg : isGl c f = true) (hb : f ∈ c.bl) (hf : bfOf f m = some b) (hn : xs.length = es.length) (hst : ∀ e ∈ es, isStar e = false)
    (ha : PA X es (rdL F (wpo Γ xs))) : PE X (.Call (.Name f p) es [] pos) (rdE F (wp Γ (.bi b xs))) := by
  obtain ⟨g1, _⟩ := isGl_of hg x.sc
  have hm := x.bl f hb
  obtain ⟨g, hg', b1, b2, b3, b4⟩ := bfOf_boot hf
  cases es with
  | nil =>
    refine ⟨fun pins s σ H Q I ⟨ρ, P, er, hw, hq⟩ => ?_⟩
    have : xs = [] := List.length_eq_zero_iff.mp hn
    subst this
    obtain ⟨z, hz, _⟩ := bnd_ex hw
    rw [biD_nil hg'] at hz; cases hz
  | cons e es =>
    have st := star_plain (es := es) (env := X.env) (hst e List.mem_cons_self)
    have pl := (all_plain (env := X.env) (pos := pos) fun z hz => hst z (List.mem_cons_of_mem e hz)).2.1
    have key : ∀ σ H Q, rdE F (wp Γ (.bi b xs)) σ H Q → tCB (rBi X.fg b) (rdL F (wpo Γ xs)) σ H Q := fun σ H Q ⟨ρ, P, er, hw, hq⟩ => ⟨ρ, _, er, hw, fun vs H1 ds ρ1 er1 g1 o h1 => by
      obtain ⟨z, hz, h2⟩ := bnd_ex h1
      rw [hK] at o
      refine ⟨_, ds, z, er1.muts, o, hz, fun zv H2 nw => ?_⟩
      rw [← hK] at nw
      exact hq zv H2 z ρ1 (er1.grow nw.1) (g1.trans fun b o hb n => ⟨nw.1 b o hb, n⟩) nw.2 h2⟩
    have cr := cr_bi x (f := b) hg'
    rcases b4 with ⟨i, rfl⟩ | ⟨T, rfl⟩
    · exact pe_imp (pe_callB cr g1 hm b1 ha b2 b3 st pl) key
    · exact pe_imp (pe_callTy cr g1 hm b1 ha b2 b3 st pl) key
/-- a built-in that gives a new list or dict -/
theorem pe_biN (x : XOk Γ k c X) (hK : F.K = X.fg) (fo : FOk F) {f : Str} {es : List Expr} {xs : List Ex} {p pos : Pos} {b : Bf} {m : Nat} (hg : isGl c f = true) (hb : f ∈ c.bl) (hf : bfOf f m = some b) (hnew : newF b = true) (hne : es ≠ []) (hst : ∀ e ∈ es, isStar e = false)
    (ha : PA X es (rdL F (wpo Γ xs))) : PE X (.Call (.Name f p) es [] pos) (rdN F (wp Γ (.bi b xs))) := by
  obtain ⟨g1, _⟩ := isGl_of hg x.sc
  have hm := x.bl f hb
  obtain ⟨g, hg', b1, b2, b3, b4⟩ := bfOf_boot hf
  cases es with
  | nil => exact absurd rfl hne
  | cons e es =>
    have st := star_plain (es := es) (env := X.env) (hst e List.mem_cons_self)
    have pl := (all_plain (env := X.env) (pos := pos) fun z hz => hst z (List.mem_cons_of_mem e hz)).2.1
    have key : ∀ σ H Q, rdN F (wp Γ (.bi b xs)) σ H Q → tCB (rBiN X.fg b) (rdL F (wpo Γ xs)) σ H Q := fun σ H Q ⟨ρ, P, er, hw, hq⟩ => ⟨ρ, _, er, hw, fun vs H1 ds ρ1 er1 g1 o h1 => by
      obtain ⟨z, hz, h2⟩ := bnd_ex h1
      rw [hK] at o
      refine ⟨_, ds, z, er1.muts, o, hz, fun p u n nc => ?_⟩
      rw [← hK] at nc
      exact hq p u H1 z ρ1 n (er1.noG fo n) er1 g1 nc h2⟩
    have cr := cr_biN x (f := b) hg' hnew
    rcases b4 with ⟨i, rfl⟩ | ⟨T, rfl⟩
    · exact pe_imp (pe_callB cr g1 hm b1 ha b2 b3 st pl) key
    · exact pe_imp (pe_callTy cr g1 hm b1 ha b2 b3 st pl) key
/-- isinstance -/
theorem pe_isiE (x : XOk Γ k c X) (hK : F.K = X.fg) {T : Str} {a : Expr} {xa : Ex} {p p2 pos : Pos} {t : Ty} (hg : isGl c "isinstance" = true) (hb : ("isinstance" : Str) ∈ c.bl) (hgT : isGl c T = true) (hbT : T ∈ c.bl) (hT : tyOf? T = some t) (hst : isStar a = false)
    (ha : PE X a (rdO F xa (wp Γ xa))) : PE X (.Call (.Name "isinstance" p) [a, .Name T p2] [] pos) (rdE F (wp Γ (.bi (.isi t) [xa]))) := by
  obtain ⟨g1, _⟩ := isGl_of hg x.sc
  obtain ⟨g2, _⟩ := isGl_of hgT x.sc
  obtain ⟨t1, t2, t3⟩ := tyOf_boot hT
  have st := star_plain (es := [.Name T p2]) (env := X.env) hst
  have pT : PE X (.Name T p2) (tC (.ty (tyS t))) := pe_bltn g2 (x.bl T hbT) t1 rfl t2 t3
  refine pe_imp (pe_callB (r := rIs X.fg t) cr_is g1 (x.bl _ hb) (by decide +kernel) (pa_cons ha (pa_cons pT pa_nil) st) (by decide +kernel) (by decide +kernel) st rfl) fun σ H Q ⟨ρ, P, er, hw, hq⟩ => ?_
  have hw' : opd xa (wp Γ xa) ρ (fun r ρ1 => bnd (r ρ1) fun d => bnd (biD (.isi t) [d]) fun z => P z ρ1) := hw
  refine ⟨ρ, _, er, hw', fun v H1 r ρ1 er1 g1 l1 h1 => ?_⟩
  obtain ⟨d, hd, h2⟩ := bnd_ex h1
  obtain ⟨z, hz, h3⟩ := bnd_ex h2
  have o := l1 H1 ρ1 d er1 Go.refl hd
  rw [hK] at o
  obtain ⟨bb, hb, e⟩ := Option.map_eq_some_iff.mp (show (isTy t d).map D.bool = some z from hz)
  subst e
  exact ⟨_, v, d, bb, rfl, o, hb, hq _ _ _ ρ1 er1 g1 (.bool _) h3⟩
theorem meOf_boot {m : Str} {q : Nat} {k : Me} (h : meOf m q = some k) : (m = "join" ∧ k = .join) ∨ (m = "index" ∧ k = .index) ∨ (m = "find" ∧ k = .find) ∨ (m = "get" ∧ k = .dget) := by
  unfold meOf at h
  by_cases h1 : m = "join"
  · rw [if_pos h1] at h; split at h
    · cases h; exact .inl ⟨h1, rfl⟩
    · cases h
  rw [if_neg h1] at h
  by_cases h1 : m = "index"
  · rw [if_pos h1] at h; split at h
    · cases h; exact .inr (.inl ⟨h1, rfl⟩)
    · cases h
  rw [if_neg h1] at h
  by_cases h1 : m = "find"
  · rw [if_pos h1] at h; split at h
    · cases h; exact .inr (.inr (.inl ⟨h1, rfl⟩))
    · cases h
  rw [if_neg h1] at h
  by_cases h1 : m = "get"
  · rw [if_pos h1] at h; split at h
    · cases h; exact .inr (.inr (.inr ⟨h1, rfl⟩))
    · cases h
  rw [if_neg h1] at h; cases h
theorem tyV_me {K : Fg} {H : Hp} {O : AS} {v : V} {d : D} {m : Me} (hm : m ≠ .dget) (o : Opd K H O v d) (h : meTy m d = true) : tyV K.f (meT m) v H := by
  cases m <;> cases d <;> first | (cases h; done) | (exact absurd rfl hm) | skip
  · cases o.str; rfl
  · cases o.str; rfl
  · obtain ⟨a, vs, e, h1, _⟩ := o.lst
    subst e
    exact .inl ⟨rfl, vs, h1⟩
theorem pe_meE (x : XOk Γ k c X) (hK : F.K = X.fg) {m : Str} {o : Expr} {es : List Expr} {xo : Ex} {xs : List Ex} {ap cp : Pos} {kk : Me} {q : Nat} (hm : meOf m q = some kk) (hline : (ap.endLine == cp.line) = true) (hl : es.length < 29) (hne : es ≠ [])
    (hsup : ∀ f p cp, o ≠ .Call (.Name f p) [] [] cp) (hst : ∀ e ∈ es, isStar e = false) (ho : PE X o (rdO F xo (wp Γ xo))) (ha : PA X es (rdL F (wpo Γ xs))) : PE X (.Call (.Attribute o m ap) es [] cp) (rdE F (wp Γ (.me kk xo xs))) := by
  have base : attributeBase o m X.env (eval o X.env) = eval o X.env := by
    unfold attributeBase
    split
    · exact absurd rfl (hsup _ _ _)
    · rfl
  cases es with
  | nil => exact absurd rfl hne
  | cons e es =>
    have st := star_plain (es := es) (env := X.env) (hst e List.mem_cons_self)
    have pl := (all_plain (env := X.env) (pos := cp) fun z hz => hst z (List.mem_cons_of_mem e hz)).2.1
    have pl2 := (all_plain (env := X.env) (pos := cp) hst).2.2
    have few : ((backTo cp (starEach (e :: es) X.env)).all (fun x => !x.1) && (backToKw cp (keywordEach [] X.env)).all (fun x => x.1.isSome)
      && decide ((e :: es).length + ([] : List Keyword).length + (if ([] : List Keyword).isEmpty then 0 else 1) < 30)) = true := by
      rw [pl2, Bool.true_and]
      have : (e :: es).length + ([] : List Keyword).length + (if ([] : List Keyword).isEmpty then 0 else 1) < 30 := by
        show (e :: es).length + 0 + 0 < 30
        omega
      rw [decide_eq_true this]
      rfl
    have key : kk ≠ .dget → ∀ σ H Q, rdE F (wp Γ (.me kk xo xs)) σ H Q → tBM X.K (meT kk) (rMe X.fg kk) (rdO F xo (wp Γ xo)) (rdL F (wpo Γ xs)) σ H Q := fun nd σ H Q ⟨ρ, P, er, hw, hq⟩ => ⟨ρ, _, er, hw, fun v H1 r ρ1 er1 g1 l1 h1 => by
      obtain ⟨d1, hd1, ty, h2⟩ := bnd_ex h1
      have o1 := l1 H1 ρ1 d1 er1 Go.refl hd1
      rw [hK] at o1
      refine ⟨tyV_me nd o1 ty, ρ1, _, er1, h2, fun vs H2 ds ρ2 er2 g2 os h3 => ?_⟩
      obtain ⟨xd, hx, h4⟩ := bnd_ex h3
      obtain ⟨z, hz, h5⟩ := bnd_ex h4
      have o2 := l1 H2 ρ2 xd er2 g2 hx
      rw [hK] at o2 os
      refine ⟨_, xd, ds, z, er2.muts, o2, os, hz, fun zv H3 nw => ?_⟩
      rw [← hK] at nw
      exact hq zv H3 z ρ2 (er2.grow nw.1) ((g1.trans g2).trans fun b o hb n => ⟨nw.1 b o hb, n⟩) nw.2 h5⟩
    rcases meOf_boot hm with ⟨rfl, rfl⟩ | ⟨rfl, rfl⟩ | ⟨rfl, rfl⟩ | ⟨rfl, rfl⟩
    · exact pe_imp (pe_bm PySem.F.plainAttrs_str PySem.F.slot_str_join PySem.F.type_str_join (mt_me x .join) ho ha base few hline st pl) (key (by decide))
    · exact pe_imp (pe_bm PySem.F.plainAttrs_list PySem.F.slot_list_index PySem.F.type_list_index (mt_me x .index) ho ha base few hline st pl) (key (by decide))
    · exact pe_imp (pe_bm PySem.F.plainAttrs_str PySem.F.slot_str_find PySem.F.type_str_find (mt_me x .find) ho ha base few hline st pl) (key (by decide))
    · refine ⟨fun pins s σ H Q I ⟨ρ, P, er, hw, hq⟩ => ?_⟩
      have ho1 := ho.run pins s σ H (fun v H1 => ∃ d1 r ρ1, ER F H1 σ ρ1 ∧ Go H (Mine σ ρ) H1 (Mine σ ρ1) ∧ Lt F σ H1 ρ1 v r ∧ r ρ1 = some d1 ∧ meTy .dget d1 = true ∧ wpo Γ xs ρ1 fun ds ρ' => bnd (r ρ') fun x => bnd (meD .dget x ds) fun z => P z ρ') I
        ⟨ρ, _, er, hw, fun v H1 r ρ1 er1 g1 l1 h1 => by
          obtain ⟨d1, hd1, ty, h2⟩ := bnd_ex h1
          exact ⟨d1, r, ρ1, er1, g1, l1, hd1, ty, h2⟩⟩
      refine wpAny_Call_method_late base few hline rfl (thn ho1 fun v s1 ⟨y, H1, I1, ry, d1, r, ρ1, er1, g1, l1, hd1, ty, h2⟩ => ?_)
      have o1 := l1 H1 ρ1 d1 er1 Go.refl hd1
      rw [hK] at o1
      cases d1 <;> first | (cases ty; done) | skip
      obtain ⟨a, rfl, c⟩ := o1.dic
      cases (show v = Value.ref a from ry)
      refine ⟨"dict", "dict.get", PySem.F.plainAttrs_dict, PySem.F.slot_dict_get, PySem.F.type_dict_get, c.typeIs I1, c.plain I1, ?_⟩
      have hA := ha.run cp pins s1 σ H1 (fun vs H2 => ∃ ds ρ2, ER F H2 σ ρ2 ∧ Go H1 (Mine σ ρ1) H2 (Mine σ ρ2) ∧ Opds F.K H2 (Av F σ ρ2) vs ds ∧ bnd (r ρ2) fun x => bnd (meD .dget x ds) fun z => P z ρ2) I1
        ⟨ρ1, _, er1, h2, fun vs H2 ds ρ2 er2 g2 os h3 => ⟨ds, ρ2, er2, g2, os, h3⟩⟩
      rw [st] at hA ⊢
      refine Calls.callWith_builtin (by show (false || (backTo cp (starEach es X.env)).any (·.1)) = false; rw [pl] <;> rfl) (Calls.evalArgs_plain ?_)
      refine thn hA fun us s2 ⟨vs, H2, I2, r2, ds, ρ2, er2, g2, os, h3⟩ => ?_
      obtain ⟨xd, hx, h4⟩ := bnd_ex h3
      obtain ⟨z, hz, h5⟩ := bnd_ex h4
      have o2 := l1 H2 ρ2 xd er2 g2 hx
      rw [hK] at o2 os
      refine mt_me x .dget pins s2 σ H2 (.ref a) vs _ us Q I2 (show RelV (.ref a) (Value.ref a) from rfl) r2 ⟨_, xd, ds, z, er2.muts, o2, os, hz, fun zv H3 nw => ?_⟩
      rw [← hK] at nw
      exact hq zv H3 z ρ2 (er2.grow nw.1) ((g1.trans g2).trans fun b o hb n => ⟨nw.1 b o hb, n⟩) nw.2 h5
/-- sorted(set(x)), a new list -/
theorem pe_setN (x : XOk Γ k c X) (hK : F.K = X.fg) (fo : FOk F) {a : Expr} {xa : Ex} {p p2 q pos : Pos} (hg : isGl c "sorted" = true) (hb : ("sorted" : Str) ∈ c.bl) (hg2 : isGl c "set" = true) (hb2 : ("set" : Str) ∈ c.bl) (hst : isStar a = false) (ha : PE X a (rdO F xa (wp Γ xa))) :
    PE X (.Call (.Name "sorted" p) [.Call (.Name "set" p2) [a] [] q] [] pos) (rdN F (wp Γ (.bi .sset [xa]))) := by
  obtain ⟨g1, _⟩ := isGl_of hg x.sc
  obtain ⟨g2, _⟩ := isGl_of hg2 x.sc
  have st := star_plain (es := []) (env := X.env) hst
  refine pe_imp (pe_sset x.calm x.units g1 (x.bl _ hb) g2 (x.bl _ hb2) ha st) fun σ H Q ⟨ρ, P, er, hw, hq⟩ => ?_
  have hw' : opd xa (wp Γ xa) ρ (fun r ρ1 => bnd (r ρ1) fun d => bnd (biD .sset [d]) fun z => P z ρ1) := hw
  refine ⟨ρ, _, er, hw', fun v H1 r ρ1 er1 g1 l1 h1 => ?_⟩
  obtain ⟨d, hd, h2⟩ := bnd_ex h1
  obtain ⟨z, hz, h3⟩ := bnd_ex h2
  have o := l1 H1 ρ1 d er1 Go.refl hd
  rw [hK] at o
  refine ⟨_, d, z, er1.muts, o, hz, fun p u n nc => ?_⟩
  rw [← hK] at nc
  exact hq p u H1 z ρ1 n (er1.noG fo n) er1 g1 nc h3
/-- len(set(x)) -/
theorem pe_lsetE (x : XOk Γ k c X) (hK : F.K = X.fg) {a : Expr} {xa : Ex} {p p2 q pos : Pos} (hg : isGl c "len" = true) (hb : ("len" : Str) ∈ c.bl) (hg2 : isGl c "set" = true) (hb2 : ("set" : Str) ∈ c.bl) (hst : isStar a = false) (ha : PE X a (rdO F xa (wp Γ xa))) :
    PE X (.Call (.Name "len" p) [.Call (.Name "set" p2) [a] [] q] [] pos) (rdE F (wp Γ (.bi .lset [xa]))) := by
  obtain ⟨g1, _⟩ := isGl_of hg x.sc
  obtain ⟨g2, _⟩ := isGl_of hg2 x.sc
  have st := star_plain (es := []) (env := X.env) hst
  refine pe_imp (pe_lset x.calm x.units g1 (x.bl _ hb) g2 (x.bl _ hb2) ha st) fun σ H Q ⟨ρ, P, er, hw, hq⟩ => ?_
  have hw' : opd xa (wp Γ xa) ρ (fun r ρ1 => bnd (r ρ1) fun d => bnd (biD .lset [d]) fun z => P z ρ1) := hw
  refine ⟨ρ, _, er, hw', fun v H1 r ρ1 er1 g1 l1 h1 => ?_⟩
  obtain ⟨d, hd, h2⟩ := bnd_ex h1
  obtain ⟨z, hz, h3⟩ := bnd_ex h2
  have o := l1 H1 ρ1 d er1 Go.refl hd
  rw [hK] at o
  refine ⟨_, d, z, er1.muts, o, hz, fun zv H2 nw => ?_⟩
  rw [← hK] at nw
  exact hq zv H2 z ρ1 (er1.grow nw.1) (g1.trans fun b o hb n => ⟨nw.1 b o hb, n⟩) nw.2 h3
/-- sorted(set(x)), len(set(x)) -/
theorem pe_setE (x : XOk Γ k c X) (hK : F.K = X.fg) (fo : FOk F) {f : Str} {a : Expr} {xa : Ex} {p p2 q pos : Pos} (hf : f = "sorted" ∨ f = "len") (hg : isGl c f = true) (hb : f ∈ c.bl) (hg2 : isGl c "set" = true) (hb2 : ("set" : Str) ∈ c.bl) (hst : isStar a = false) (ha : PE X a (rdO F xa (wp Γ xa))) :
    PE X (.Call (.Name f p) [.Call (.Name "set" p2) [a] [] q] [] pos) (rdE F (wp Γ (.bi (if f = "sorted" then .sset else .lset) [xa]))) := by
  rcases hf with rfl | rfl
  · exact PE.new (pe_setN x hK fo hg hb hg2 hb2 hst ha)
  · exact pe_lsetE x hK hg hb hg2 hb2 hst ha
/-- x[::-1] -/
theorem pe_revsE (hK : F.K = X.fg) {a : Expr} {xa : Ex} {j : Nat} {p1 p2 p3 pos : Pos} (ha : PE X a (rdO F xa (wp Γ xa))) :
    PE X (.Subscript a (.Slice none none (some (.UnaryOp .USub (.Constant (.int 1) j p1) p2)) p3) pos) (rdE F (wp Γ (.bi .revs [xa]))) := by
  refine pe_imp (pe_revD ha) fun σ H Q ⟨ρ, P, er, hw, hq⟩ => ?_
  have hw' : opd xa (wp Γ xa) ρ (fun r ρ1 => bnd (r ρ1) fun d => bnd (biD .revs [d]) fun z => P z ρ1) := hw
  refine ⟨ρ, _, er, hw', fun v H1 r ρ1 er1 g1 l1 h1 => ?_⟩
  obtain ⟨d, hd, h2⟩ := bnd_ex h1
  obtain ⟨z, hz, h3⟩ := bnd_ex h2
  have o := l1 H1 ρ1 d er1 Go.refl hd
  have fin : ∀ zv H2, Nw F.K H1 (Av F σ ρ1) zv z H2 → Q zv H2 := fun zv H2 nw => hq zv H2 z ρ1 (er1.grow nw.1) (g1.trans fun b o hb n => ⟨nw.1 b o hb, n⟩) nw.2 h3
  cases d with
  | list xs =>
    obtain ⟨p, vs, e, h4, r4⟩ := o.lst
    cases (show some (D.list xs.reverse) = some z from hz)
    rw [hK] at h4
    exact .inl ⟨p, vs, e, h4, fun q n => fin _ _ (.lst er1.muts n r4.reverse)⟩
  | str xs =>
    have hz' : (if fitL xs.length = true then some (D.str xs.reverse) else none) = some z := hz
    split at hz'
    · rename_i hf
      cases hz'
      refine .inr ⟨mkS xs, o.str, by rw [mkS_len]; exact fitL_iff.mp hf, ?_⟩
      rw [cps_mkS]
      exact fin _ _ (.same (Rp.strI _))
    · cases hz'
  | _ => cases hz
/-- tuple(range(n)), list(range(n)) -/
theorem pe_trngE (x : XOk Γ k c X) (hK : F.K = X.fg) {f : Str} {a : Expr} {xa : Ex} {p p2 q pos : Pos} (hf : f = "tuple" ∨ f = "list") (hg : isGl c f = true) (hb : f ∈ c.bl) (hg2 : isGl c "range" = true) (hb2 : ("range" : Str) ∈ c.bl) (hst : isStar a = false) (ha : PE X a (rdO F xa (wp Γ xa))) :
    PE X (.Call (.Name f p) [.Call (.Name "range" p2) [a] [] q] [] pos) (rdE F (wp Γ (.bi (if f = "tuple" then .trng else .lrng) [xa]))) := by
  obtain ⟨g1, _⟩ := isGl_of hg x.sc
  obtain ⟨g2, _⟩ := isGl_of hg2 x.sc
  have st := star_plain (es := []) (env := X.env) hst
  have core : ∀ (b : Bf) (mk : List D → D), (∀ d, biD b [d] = (rngD [d]).bind fun xs => if decide (xs.length ≤ 16777216) = true then some (mk xs) else none) → ∀ σ H Q, rdE F (wp Γ (.bi b [xa])) σ H Q →
      (rdO F xa (wp Γ xa)) σ H fun v H1 => ∃ n, v = .int n ∧ RgOk 0 n ∧ ∃ O, Muts H1 O ∧ ∃ xs, Rps F.K H1 O (rgV 0 n) xs ∧ ∀ zv H2, Nw F.K H1 O zv (mk xs) H2 → Q zv H2 := fun b mk hb σ H Q ⟨ρ, P, er, hw, hq⟩ => by
    have hw' : opd xa (wp Γ xa) ρ (fun r ρ1 => bnd (r ρ1) fun d => bnd (biD b [d]) fun z => P z ρ1) := hw
    refine ⟨ρ, _, er, hw', fun v H1 r ρ1 er1 g1 l1 h1 => ?_⟩
    obtain ⟨d, hd, h2⟩ := bnd_ex h1
    obtain ⟨z, hz, h3⟩ := bnd_ex h2
    have o := l1 H1 ρ1 d er1 Go.refl hd
    rw [hb] at hz
    obtain ⟨xs, hx, hz⟩ := Option.bind_eq_some_iff.mp hz
    obtain ⟨n, rfl, b1, b2, rfl⟩ : ∃ n : Int, d = .int n ∧ -(2 ^ 62) ≤ n ∧ n < 2 ^ 62 ∧ xs = (List.range n.toNat).map fun (k : Nat) => .int (k : Int) := by
      unfold rngD at hx
      split at hx
      · rename_i j e
        cases e
        split at hx
        · rename_i q
          cases hx
          simp only [Bool.and_eq_true, decide_eq_true_eq] at q
          exact ⟨j, rfl, q.1, q.2, rfl⟩
        · cases hx
      · rename_i e; cases e
      · cases hx
    split at hz
    · rename_i hl
      cases hz
      have hl := of_decide_eq_true hl
      rw [List.length_map, List.length_range] at hl
      refine ⟨n, o.int, ⟨by decide, by decide, b1, b2, by rw [Int.sub_zero]; exact hl⟩, _, er1.muts, _, rps_rg n, fun zv H2 nw => ?_⟩
      exact hq zv H2 _ ρ1 (er1.grow nw.1) (g1.trans fun b o hb n => ⟨nw.1 b o hb, n⟩) nw.2 h3
    · cases hz
  rcases hf with rfl | rfl
  · refine pe_imp (pe_tupRg x.calm g1 (x.bl _ hb) (prg_1 g2 (x.bl _ hb2) ha st)) fun σ H Q h => ?_
    obtain ⟨ρ, K, er, hw, hq⟩ := core .trng .tuple (fun _ => rfl) σ H Q h
    exact ⟨ρ, K, er, hw, fun v H1 r ρ1 er1 g1 l1 h1 => by
      obtain ⟨n, e, ok, O, m, xs, rp, fin⟩ := hq v H1 r ρ1 er1 g1 l1 h1
      exact ⟨n, e, ok, fun q nq => fin _ _ (.tup m nq rp)⟩⟩
  · refine pe_imp (pe_listRg x.calm g1 (x.bl _ hb) (prg_1 g2 (x.bl _ hb2) ha st)) fun σ H Q h => ?_
    obtain ⟨ρ, K, er, hw, hq⟩ := core .lrng .list (fun _ => rfl) σ H Q h
    exact ⟨ρ, K, er, hw, fun v H1 r ρ1 er1 g1 l1 h1 => by
      obtain ⟨n, e, ok, O, m, xs, rp, fin⟩ := hq v H1 r ρ1 er1 g1 l1 h1
      exact ⟨n, e, ok, fun q nq => fin _ _ (.lst m nq rp)⟩⟩
/-- list(range(n)), a new list -/
theorem pe_lrngN (x : XOk Γ k c X) (hK : F.K = X.fg) (fo : FOk F) {a : Expr} {xa : Ex} {p p2 q pos : Pos} (hg : isGl c "list" = true) (hb : ("list" : Str) ∈ c.bl) (hg2 : isGl c "range" = true) (hb2 : ("range" : Str) ∈ c.bl) (hst : isStar a = false) (ha : PE X a (rdO F xa (wp Γ xa))) :
    PE X (.Call (.Name "list" p) [.Call (.Name "range" p2) [a] [] q] [] pos) (rdN F (wp Γ (.bi .lrng [xa]))) := by
  obtain ⟨g1, _⟩ := isGl_of hg x.sc
  obtain ⟨g2, _⟩ := isGl_of hg2 x.sc
  have st := star_plain (es := []) (env := X.env) hst
  refine pe_imp (pe_listRg x.calm g1 (x.bl _ hb) (prg_1 g2 (x.bl _ hb2) ha st)) fun σ H Q ⟨ρ, P, er, hw, hq⟩ => ?_
  have hw' : opd xa (wp Γ xa) ρ (fun r ρ1 => bnd (r ρ1) fun d => bnd (biD .lrng [d]) fun z => P z ρ1) := hw
  refine ⟨ρ, _, er, hw', fun v H1 r ρ1 er1 g1 l1 h1 => ?_⟩
  obtain ⟨d, hd, h2⟩ := bnd_ex h1
  obtain ⟨z, hz, h3⟩ := bnd_ex h2
  have o := l1 H1 ρ1 d er1 Go.refl hd
  have hz' : ((rngD [d]).bind fun xs => if decide (xs.length ≤ 16777216) = true then some (D.list xs) else none) = some z := hz
  obtain ⟨xs, hx, hz'⟩ := Option.bind_eq_some_iff.mp hz'
  obtain ⟨n, rfl, b1, b2, rfl⟩ : ∃ j : Int, d = .int j ∧ -(2 ^ 62) ≤ j ∧ j < 2 ^ 62 ∧ xs = (List.range j.toNat).map fun (k : Nat) => .int (k : Int) := by
    unfold rngD at hx
    split at hx
    · rename_i j e
      cases e
      split at hx
      · rename_i q
        cases hx
        simp only [Bool.and_eq_true, decide_eq_true_eq] at q
        exact ⟨j, rfl, q.1, q.2, rfl⟩
      · cases hx
    · rename_i e; cases e
    · cases hx
  split at hz'
  · rename_i hl
    cases hz'
    have hl := of_decide_eq_true hl
    rw [List.length_map, List.length_range] at hl
    exact ⟨n, o.int, ⟨by decide, by decide, b1, b2, by rw [Int.sub_zero]; exact hl⟩, fun p np => hq p _ H1 _ ρ1 np (er1.noG fo np) er1 g1 (.list (rps_rg n)) h3⟩
  · cases hz'
/-- [..] * n -/
theorem rps_rep {K : Fg} {H : Hp} {O : AS} {vs : List V} {ds : List D} (r : Rps K H O vs ds) : ∀ n : Nat, Rps K H O (List.replicate n vs).flatten (List.replicate n ds).flatten
  | 0 => .nil
  | n + 1 => by rw [List.replicate_succ, List.replicate_succ, List.flatten_cons, List.flatten_cons]; exact r.append (rps_rep r n)
theorem pe_repN (hK : F.K = X.fg) (fo : FOk F) {a b : Expr} {xs : List Ex} {xb : Ex} {pos : Pos} (ha : PE X a (rdN F (wp Γ (.lst xs)))) (hb : PE X b (rdO F xb (wp Γ xb))) : PE X (.BinOp a .Mult b pos) (rdN F (wp Γ (.bi .rep [.lst xs, xb]))) := by
  refine pe_imp (pe_op op_rep ha hb) fun σ H Q ⟨ρ, P, er, hw, hq⟩ => ?_
  have hw' : wp Γ (.lst xs) ρ (fun d1 ρ1 => opd xb (wp Γ xb) ρ1 fun r2 ρ2 => bnd (r2 ρ2) fun d2 => bnd (biD .rep [d1, d2]) fun z => P z ρ2) := hw
  refine ⟨ρ, _, er, hw', fun p o H' d1 ρ1 n nG er1 g1 nc h1 => ⟨ρ1, _, er1.laid n, h1, fun v2 H2 r2 ρ2 er2 g2 l2 h2 => ?_⟩⟩
  obtain ⟨d2, hd2, h3⟩ := bnd_ex h2
  obtain ⟨z, hz, h4⟩ := bnd_ex h3
  have o2 := l2 H2 ρ2 d2 er2 Go.refl hd2
  have nm : ¬ Mine σ ρ1 p := by
    rintro ⟨i, ⟨d, hm⟩, hs⟩
    obtain ⟨a', h5, ct⟩ := er1.ct hm
    rw [hs] at h5; cases h5
    have := ct.mut
    rw [n] at this; exact this
  have gl : Go H' (Mine σ ρ1) (upd H' p o) (Mine σ ρ1) := Go.laid n
  cases nc with
  | list r1 =>
    rename_i vs ds
    cases d2 with
    | int k =>
      have hz' : (if (decide (0 ≤ k) && decide (k < 2 ^ 63) && fitL (ds.length * k.toNat)) = true then some (D.list (List.replicate k.toNat ds).flatten) else none) = some z := hz
      split at hz'
      · rename_i hc
        cases hz'
        simp only [Bool.and_eq_true, decide_eq_true_eq] at hc
        have hp := (g2 p _ upd_same nm).1
        have r2' : Rps F.K H2 (Av F σ ρ2) vs ds := r1.go (gm_av6 (gl.trans g2)) er1.muts
        have hlen := r1.length
        refine ⟨p, k, vs, rfl, o2.int, hp, by omega, hc.1.2, by rw [hlen]; exact fitL_iff.mp hc.2, fun q nq => ?_⟩
        exact hq q _ H2 _ ρ2 nq (er2.noG fo nq) er2 ((g1.trans gl).trans g2) (.list (rps_rep r2' _)) h4
      · cases hz'
    | _ => cases hz
  | dictK r => cases hz
  | dictN e t q r => cases hz
/-- a + [..], a new list -/
theorem pe_catN (hK : F.K = X.fg) (fo : FOk F) {a b : Expr} {xa : Ex} {xs : List Ex} {pos : Pos} (ha : PE X a (rdO F xa (wp Γ xa))) (hb : PE X b (rdE F (wp Γ (.lst xs)))) : PE X (.BinOp a .Add b pos) (rdN F (wp Γ (.bi .cat [xa, .lst xs]))) := by
  refine pe_imp (pe_op op_catL ha hb) fun σ H Q ⟨ρ, P, er, hw, hq⟩ => ?_
  have hw' : opd xa (wp Γ xa) ρ (fun r ρ1 => wp Γ (.lst xs) ρ1 fun d2 ρ2 => bnd (r ρ2) fun d1 => bnd (biD .cat [d1, d2]) fun z => P z ρ2) := hw
  refine ⟨ρ, _, er, hw', fun v1 H1 r1 ρ1 er1 g1 l1 h1 => ⟨ρ1, _, er1, h1, fun v2 H2 d2 ρ2 er2 g2 rp2 h2 => ?_⟩⟩
  obtain ⟨d1, hd1, h3⟩ := bnd_ex h2
  obtain ⟨z, hz, h4⟩ := bnd_ex h3
  have o1 := l1 H2 ρ2 d1 er2 g2 hd1
  cases d1 with
  | list x1 =>
    cases d2 with
    | list x2 =>
      have hz' : (if fitL (x1.length + x2.length) = true then some (D.list (x1 ++ x2)) else none) = some z := hz
      split at hz'
      · rename_i hc
        cases hz'
        obtain ⟨p1, vs1, e1, q1, r1⟩ := o1.lst
        obtain ⟨p2, vs2, e2, q2, r2⟩ := Opd.lst (.inl rp2)
        have l1 := r1.length
        have l2 := r2.length
        have hc' := fitL_iff.mp hc
        rw [hK] at q1 q2
        refine ⟨p1, p2, vs1, vs2, e1, e2, q1, q2, by omega, fun p np => ?_⟩
        exact hq p _ H2 _ ρ2 np (er2.noG fo np) er2 (g1.trans g2) (.list (r1.append r2)) h4
      · cases hz'
    | _ => cases hz
  | _ => cases hz
/-- {} -/
theorem pe_dnewN (fo : FOk F) {pos : Pos} : PE X (.Dict [] [] pos) (rdN F (wp Γ (.bi .dnew []))) :=
  pe_imp pe_dnewK fun σ H Q ⟨ρ, P, er, hw, hq⟩ => fun p n => hq p (.dK []) H _ ρ n (er.noG fo n) er Go.refl (.dictK (kvs := []) .nil) hw
theorem pairs_len : ∀ (ks : List (Option Expr)) (vs : List Expr) (env : Env) (pos : Pos) (n : Nat) (c : Cm) (xs : List Ex), cDp n c ks vs = some xs → ks.all (·.isSome) = true ∧ ks.length = vs.length
  | ks, vs, env, pos, 0, c, xs, h => by simp [cDp] at h
  | [], [], env, pos, n + 1, c, xs, h => ⟨rfl, rfl⟩
  | [], _ :: _, env, pos, n + 1, c, xs, h => by simp [cDp] at h
  | none :: _, _, env, pos, n + 1, c, xs, h => by simp [cDp] at h
  | some k :: ks, [], env, pos, n + 1, c, xs, h => by simp [cDp] at h
  | some k :: ks, v :: vs, env, pos, n + 1, c, xs, h => by
    simp only [cDp] at h
    obtain ⟨x, hx, h⟩ := Option.bind_eq_some_iff.mp h
    obtain ⟨y, hy, h⟩ := Option.bind_eq_some_iff.mp h
    obtain ⟨l, hl, e⟩ := Option.map_eq_some_iff.mp h
    obtain ⟨p, q⟩ := pairs_len ks vs env pos n c l hl
    exact ⟨by rw [List.all_cons, p]; rfl, by rw [List.length_cons, List.length_cons, q]⟩
/-- {k: v, ..} -/
theorem pe_ddpN (x : XOk Γ k c X) (fo : FOk F) (hK : F.K = X.fg) {ks : List (Option Expr)} {vs : List Expr} {xs : List Ex} {pos : Pos} (h : ∀ F : Fx, F.K = X.fg → FOk F → PDp X ks vs (rdS F (wps Γ xs))) (hs : ks.all (·.isSome) = true) (hl : ks.length = vs.length) (h0 : 0 < ks.length) (h15 : ks.length ≤ 15) : PE X (.Dict ks vs pos) (rdN F (wp Γ (.ddp xs))) := by
  refine ⟨fun pins s σ H Q I ⟨ρ, P, er, hw, hq⟩ => ?_⟩
  have len : (pairTrees ks vs X.env pos).length = ks.length := pairTrees_length ks vs X.env pos hs hl
  rw [arm_eval_Dict, zip_pairTrees ks vs X.env pos hs hl, dictDisplay_pairs _ (fun z => by rw [z] at len; simp at len; omega) (by omega)]
  refine wpAny_bind (wpAny_standAt (wpAny_bind (subDict_run (by omega) ?_)))
  have n : H s.heap.objs.size = none := I.hok.fresh (Nat.le_refl _)
  obtain ⟨erD, gD⟩ := er.withO (u := .dK []) fo trivial n
  have nG := er.noG fo n
  have aD : ∀ a, F.A a → a ≠ s.heap.objs.size := fun a ha z => by have := er.amb a ha; rw [z, n] at this; exact this
  have I1 := I.laid (a := s.heap.objs.size) (o := .dK []) (h' := s.heap.push { cls := .type "dict", data := .dict #[] }) (t' := s.toks) (fun _ _ q => Heap.get?_push_of_some _ q) (Nat.le_refl _) (dk_empty s.heap I.big)
  have hw' : wps Γ xs ρ fun ds ρ' => bnd (ddpD ds) fun z => P z ρ' := hw
  refine wpAny_mono ((h (F.with s.heap.objs.size) hK (fo.with _)).run pos pins _ σ _ (fun us H2 => ∃ ds ρ2, ER (F.with s.heap.objs.size) H2 σ ρ2 ∧ Go (upd H s.heap.objs.size (.dK [])) (Mine σ ρ) H2 (Mine σ ρ2) ∧ Rps F.K H2 (Av (F.with s.heap.objs.size) σ ρ2) us ds ∧ bnd (ddpD ds) fun z => P z ρ2) I1 ?_) (fun ws s1 ⟨us, H2, I2, vv, ds, ρ2, er2, g2, rs, hz⟩ => ?_) fun _ _ e => e
  · exact ⟨ρ, _, erD, hw', fun vs H' ds ρ' er' g r hp => ⟨ds, ρ', er', g, r, hp⟩⟩
  obtain ⟨z, hz, hp⟩ := bnd_ex hz
  obtain ⟨ps, hps, hz⟩ := Option.bind_eq_some_iff.mp hz
  split at hz
  · rename_i hc
    cases hz
    simp only [Bool.and_eq_true, decide_eq_true_eq] at hc
    have nM := mineD erD fo aD
    have hD : H2 s.heap.objs.size = some (.dK []) := (g2 _ _ upd_same nM).1
    have nM2 := mineD er2 fo aD
    have k2 : (F.with s.heap.objs.size).K = X.fg := hK
    have rs' : Rps X.fg H2 (Av (F.with s.heap.objs.size) σ ρ2) us ds := by rw [← hK]; exact rs
    refine store_run (O := Av (F.with s.heap.objs.size) σ ρ2) (by have := x.units; omega) (.inl (.inr rfl)) ws us ds ps H2 s1 [] [] _ vv rs' hps hc.1.1 (by simp; omega) I2 er2.muts ⟨_, hD, .dictK (kvs := []) .nil⟩ (.inl ⟨[], hD, rfl, .nil⟩) fun H3 ho s3 e1 e2 I3 nc => ?_
    have eH : H3 = upd H2 s.heap.objs.size ho := by
      funext b
      by_cases q : b = s.heap.objs.size
      · subst q; rw [upd_same, e1]
      · rw [upd_ne q, e2 b q]
    have mo : Mut (some ho) := nc.mut
    have er3 : ER (F.with s.heap.objs.size) H3 σ ρ2 := by rw [eH]; exact ER.updO mo er2 (.inr rfl) nM2 nG
    have g3 : Go H (Mine σ ρ) H3 (Mine σ ρ2) := fun b o hb q => by
      obtain ⟨p1, p2⟩ := (gD.trans g2) b o hb q
      exact ⟨by rw [e2 b (ne_of_none hb n)]; exact p1, p2⟩
    obtain ⟨erB, gB, gd⟩ := ER.back (vs := []) fo er er3 rfl g3 n nG
    have nc' : Nc F.K H3 (Av (F.with s.heap.objs.size) σ ρ2) s.heap.objs.size ho (.dict (putAll ps [] []).1 (putAll ps [] []).2) := by rw [hK]; exact nc
    have fin := hq s.heap.objs.size ho (del H3 s.heap.objs.size) _ ρ2 del_same nG erB gB (nc'.go gd er3.muts) hp
    rw [upd_del e1] at fin
    exact wpAny_pure ⟨.ref s.heap.objs.size, H3, I3, rfl, fin⟩
  · cases hz
end
end MW

set_option Elab.async false
set_option linter.all false
set_option maxRecDepth 100000
/-! MWO: L.pop(), L.pop(i); dict(enumerate(x)) -/
namespace MW
open PySem PySem.Spec PyProof.Rows L2
section
variable {Γ : Gm} {k n : Nat} {c : Cm} {X : Cx} {F : Fx}
theorem getc_list {H : Hp} {σ : Stt} {ρ : Evn} {i : Nat} {ds : List D} (er : ER F H σ ρ) (h : (getc ρ i).bind asL = some ds) : ∃ a vs, σ[i]? = some (some (.ref a)) ∧ H a = some (.lst vs) ∧ Rps F.K H (Av F σ ρ) vs ds ∧ getc ρ i = some (.list ds) := by
  obtain ⟨d, hd, h⟩ := Option.bind_eq_some_iff.mp h
  cases d <;> first | (simp [asL] at h; done) | skip
  cases h
  obtain ⟨a, ha, ct⟩ := er.ct hd
  cases ct with
  | list h1 r => exact ⟨a, _, ha, h1, r, hd⟩
theorem vis_at {y : Str} {i : Nat} (x : XOk Γ k c X) (hv : isVis c y = true) (hi : ixOf c.N y = some i) {pos : Pos} : PE X (.Name y pos) (tVar i) := by
  obtain ⟨h1, h2, h3⟩ := isVis_of hv x.sc
  exact pe_var (by rw [x.N]; exact ixOf_get hi) h1 h2 h3
theorem few1 {a : Expr} {env : Env} {cp : Pos} (h : isStar a = false) : ((backTo cp (starEach [a] env)).all (fun x => !x.1) && (backToKw cp (keywordEach [] env)).all (fun x => x.1.isSome) && decide ([a].length + ([] : List Keyword).length + (if ([] : List Keyword).isEmpty then 0 else 1) < 30)) = true := by
  rw [(all_plain (env := env) (pos := cp) (es := [a]) fun e he => by rw [List.mem_singleton] at he; rw [he]; exact h).2.2]
  rfl
theorem Rps.erase {K : Fg} {H : Hp} {O : AS} : ∀ {vs : List V} {ds : List D} (n : Nat), Rps K H O vs ds → Rps K H O (vs.eraseIdx n) (ds.eraseIdx n)
  | _, _, _, .nil => .nil
  | _, _, 0, .cons _ t => t
  | _, _, n + 1, .cons r t => .cons r (Rps.erase n t)
theorem Rps.last {K : Fg} {H : Hp} {O : AS} : ∀ {vs : List V} {ds : List D}, Rps K H O vs ds → Rps K H O vs.dropLast ds.dropLast
  | _, _, .nil => .nil
  | _, _, .cons r .nil => .nil
  | _, _, .cons r (.cons q t) => .cons r (Rps.last (.cons q t))
theorem pe_popE {y : Str} {i : Nat} {p ap cp : Pos} {es : List Expr} {xs : List Ex} (x : XOk Γ k c X) (hK : F.K = X.fg) (hv : isVis c y = true) (hi : ixOf c.N y = some i) (hline : (ap.endLine == cp.line) = true) (hl : es.length ≤ 1) (hst : ∀ e ∈ es, isStar e = false) (hx : xs.length = es.length)
    (ha : PA X es (rdL F (wpo Γ xs))) : PE X (.Call (.Attribute (.Name y p) "pop" ap) es [] cp) (rdE F (wp Γ (.pop i xs))) := by
  match es, hl, hx with
  | [], _, hx =>
    have := List.length_eq_zero_iff.mp hx
    subst this
    refine pe_imp (pe_bm0 PySem.F.plainAttrs_list PySem.F.slot_list_pop PySem.F.type_list_pop mt_pop (vis_at x hv hi) rfl hline) fun σ H Q ⟨ρ, P, er, hw, hq⟩ => ?_
    obtain ⟨ds0, h0, hw⟩ := bnd_ex hw
    obtain ⟨ds, hds, hw⟩ := bnd_ex (show bnd ((getc ρ i).bind asL) _ from hw)
    obtain ⟨q, hpop, hw⟩ := bnd_ex hw
    obtain ⟨ρ2, hs, hn⟩ := bnd_ex hw
    obtain ⟨b, vs, hb, hb2, rps, hg⟩ := getc_list er hds
    obtain ⟨d, hd, e⟩ := Option.map_eq_some_iff.mp (show (ds[ds.length - 1]?).map (fun d => (d, ds.dropLast)) = some q from hpop)
    subst e
    obtain ⟨v, hv1, rv⟩ := rps.get hd
    obtain ⟨e2, g2⟩ := er.setC hg hb (.list rps.last) hs
    refine ⟨.ref b, hb, .inl ⟨rfl, vs, SqL.of hb2⟩, b, vs, v, rfl, rfl, hb2, by rw [rps.length]; exact hv1, ?_⟩
    exact hq v _ d ρ2 e2 g2 (rv.go (gm_av6 g2) er.muts) hn
  | [a], _, hx =>
    obtain ⟨xa, rfl⟩ := List.length_eq_one_iff.mp hx
    have hs1 := hst a (by simp)
    refine pe_imp (pe_bm PySem.F.plainAttrs_list PySem.F.slot_list_pop PySem.F.type_list_pop mt_popAt (vis_at x hv hi) ha rfl (few1 hs1) hline (star_plain hs1) rfl) fun σ H Q ⟨ρ, P, er, hw, hq⟩ => ?_
    obtain ⟨ds0, h0, hw⟩ := bnd_ex hw
    obtain ⟨b, vs0, hb, hb2, _, _⟩ := getc_list er h0
    have hw' : wpo Γ [xa] ρ (fun es ρ1 => (∃ d, es = [d]) ∧ bnd ((getc ρ1 i).bind asL) fun ds => bnd (popD ds es) fun q => bnd (setc ρ1 i (.list q.2)) fun ρ2 => P q.1 ρ2) := by
      have hw2 : opd xa (wp Γ xa) ρ (fun r ρ1 => bnd (r ρ1) fun d => bnd ((getc ρ1 i).bind asL) fun ds => bnd (popD ds [d]) fun q => bnd (setc ρ1 i (.list q.2)) fun ρ2 => P q.1 ρ2) := hw
      show opd xa (wp Γ xa) ρ (fun r ρ1 => bnd (r ρ1) fun d => (∃ d', [d] = [d']) ∧ bnd ((getc ρ1 i).bind asL) fun ds => bnd (popD ds [d]) fun q => bnd (setc ρ1 i (.list q.2)) fun ρ2 => P q.1 ρ2)
      simpa using hw2
    refine ⟨.ref b, hb, .inl ⟨rfl, vs0, SqL.of hb2⟩, ρ, _, er, hw', fun us H1 es1 ρ1 er1 g1 os h1 => ?_⟩
    obtain ⟨⟨d0, rfl⟩, h1⟩ := h1
    obtain ⟨ds, hds, hw⟩ := bnd_ex h1
    obtain ⟨q, hpop, hw⟩ := bnd_ex hw
    obtain ⟨ρ2, hs, hn⟩ := bnd_ex hw
    obtain ⟨b', vs, hb', hv', rps, hg⟩ := getc_list er1 hds
    rw [hb] at hb'; cases hb'
    unfold popD at hpop
    split at hpop
    · rename_i z; cases z
    · rename_i j z
      cases z
      split at hpop
      · rename_i hj
        simp only [Bool.and_eq_true, decide_eq_true_eq] at hj
        obtain ⟨d, hd, e⟩ := Option.map_eq_some_iff.mp hpop
        subst e
        obtain ⟨v, hv1, rv⟩ := rps.get hd
        have lt := (List.getElem?_eq_some_iff.mp hd).1
        obtain ⟨e2, g2⟩ := er1.setC hg hb (.list (rps.erase j.toNat)) hs
        cases os with
        | cons o1 os =>
          cases os
          cases o1.int
          refine ⟨b, vs, j, j.toNat, v, rfl, rfl, hv', by omega, by omega, ?_, hv1, ?_⟩
          · have := rps.length
            unfold seqIndex?
            simp only
            rw [if_neg (show ¬ j < 0 by omega), if_pos (by simp; omega)]
          · exact hq v _ d ρ2 e2 (g1.trans g2) (rv.go (gm_av6 g2) er1.muts) hn
      · cases hpop
    · cases hpop
end
end MW

set_option Elab.async false
set_option linter.all false
set_option maxRecDepth 100000
/-! MWQ: dict(enumerate(t)) of a tuple t -/
namespace MW
open PySem PySem.Spec PyProof.Rows L2
section
variable {P : Program} {w : World} {A : Around} {E : Value → Shared → Prop} {s : Shared}
set_option maxHeartbeats 1000000 in
/-- the next pair of an enumerate over a tuple, while it holds an earlier one -/
theorem et_held {e it l T : Addr} {i : Nat} {its : Array Value} {x old : Value} {f : Bool} {oT : Obj} {Q : Option Value → Shared → Prop}
    (he : IsEnumHeld s.heap e it i old T f) (hT : s.heap.get? T = some oT) (hTe : T ≠ e) (hTi : T ≠ it) (hit : s.heap.IsTupleIter it l i) (hl : s.heap.IsTuple l its) (hx : its[i]? = some x) (hne : e ≠ it)
    (q : ∀ h', IsEnumHeld h' e it ((i : Int) + 1) old T true → h'.IsTupleIter it l (i + 1) → h'.get? s.heap.objs.size = some { cls := .type "tuple", data := .seq #[.int i s.toks, x] } →
      (∀ b o, b ≠ e → b ≠ it → s.heap.get? b = some o → h'.get? b = some o) → Q (some (.ref s.heap.objs.size)) { s with heap := h', toks := s.toks + 1 }) :
    wpAny (model P w) A (pyNext (.ref e)) Q E s := by
  obtain ⟨hp, gs, dr, tk, os⟩ := s
  have ty : (⟨hp, gs, dr, tk, os⟩ : Shared).TypeIs (.ref e) "enumerate" := ⟨_, he, rfl⟩
  unfold pyNext
  refine wpAny_bind (wpAny_attempt (wpAny_callSpecial?_slot (name := Str.ofString "__next__") ty F.slot_enumerate_next (wpAny_call_entry F.slot_enumerate_next ty F.entry_enumerate_next ?_ (F.args_enumerate_next_1 _))))
  show wpAny _ _ (field (.ref e) 2 >>= _) _ _ _
  refine wpAny_bind (wpAny_field he rfl (x := .ref it) rfl ?_)
  refine wpAny_bind (wpAny_nextOf_tuple_item hit hl hx fun h1 t1 (s1 : Heap.SameBut it hp h1) => ?_)
  have e1 : IsEnumHeld h1 e it i old T f := (s1.2 e hne).trans he
  show wpAny _ _ (field (.ref e) 3 >>= _) _ _ ⟨h1, gs, dr, tk, os⟩
  refine wpAny_bind (wpAny_field e1 rfl (x := rawInt i) rfl ?_)
  show wpAny _ _ (field (.ref e) 4 >>= _) _ _ ⟨h1, gs, dr, tk, os⟩
  refine wpAny_bind (wpAny_field e1 rfl (x := .none) rfl ?_)
  show wpAny _ _ (mkInt i >>= _) _ _ ⟨h1, gs, dr, tk, os⟩
  refine wpAny_bind (wpAny_mkInt ?_)
  show wpAny _ _ (setField (.ref e) 3 (rawInt ((i : Int) + 1)) >>= _) _ _ ⟨h1, gs, dr, tk + 1, os⟩
  refine wpAny_bind (wpAny_setField_rec e1 (by simp) fun h2 e2 s2 => ?_)
  replace s2 : Heap.SameBut e h1 h2 := s2
  replace e2 : IsEnumHeld h2 e it ((i : Int) + 1) old T f := e2
  show wpAny _ _ (setField (.ref e) 4 .none >>= _) _ _ ⟨h2, gs, dr, tk + 1, os⟩
  refine wpAny_bind (wpAny_setField_rec e2 (by simp) fun h3 e3 s3 => ?_)
  replace s3 : Heap.SameBut e h2 h3 := s3
  replace e3 : IsEnumHeld h3 e it ((i : Int) + 1) old T f := e3
  show wpAny _ _ (newTuple [.int i tk, x] >>= _) _ _ ⟨h3, gs, dr, tk + 1, os⟩
  refine wpAny_bind (wpAny_newTuple ?_)
  have e4 : IsEnumHeld (h3.push { cls := .type "tuple", data := .seq #[.int i tk, x] }) e it ((i : Int) + 1) old T f := Heap.get?_push_of_some _ e3
  generalize hh : h3.push { cls := .type "tuple", data := .seq #[.int i tk, x] } = h4 at e4
  have sz : h3.objs.size = hp.objs.size := by rw [s3.1, s2.1, s1.1]
  have el : e < hp.objs.size := Heap.lt_size he
  have t4 : h4.get? hp.objs.size = some { cls := .type "tuple", data := .seq #[.int i tk, x] } := by rw [← hh, ← sz]; exact Heap.get?_push_size _ rfl
  have k4 : ∀ b o, b ≠ e → b ≠ it → hp.get? b = some o → h4.get? b = some o := fun b o n1 n2 y => by
    rw [← hh]; exact Heap.get?_push_of_some _ (s3.extBut b o n1 (s2.extBut b o n1 (s1.extBut b o n2 y)))
  have i4 : h4.IsTupleIter it l (i + 1) := by
    obtain ⟨o, ho, r⟩ := t1
    rw [← hh]
    exact ⟨o, Heap.get?_push_of_some _ (s3.extBut _ _ (Ne.symm hne) (s2.extBut _ _ (Ne.symm hne) ho)), r⟩
  show wpAny _ _ (Builtin.SmallTypes.ownedTupleIsFree (.ref e) >>= _) _ _ ⟨h4, gs, dr, tk + 1, os⟩
  rw [sz]
  refine wpAny_bind (wpAny_tupleHeld_enum (s := ⟨h4, gs, dr, tk + 1, os⟩) e4 (k4 T oT hTe hTi hT) fun h5 e5 s5 => ?_)
  replace s5 : Heap.SameBut e h4 h5 := s5
  simp only [Bool.false_eq_true, if_false]
  refine wpAny_pure ⟨_, rfl, wpAny_pure (q h5 e5 ?_ (s5.extBut _ _ (Nat.ne_of_gt el) t4) fun b o n1 n2 y => s5.extBut b o n1 (k4 b o n1 n2 y))⟩
  obtain ⟨o, ho, r⟩ := i4
  exact ⟨o, s5.extBut _ _ (Ne.symm hne) ho, r⟩
theorem et_end {e it l : Addr} {i : Nat} {its : Array Value} {oe : Obj} {fs : Array Value} {Q : Option Value → Shared → Prop} (hh : A.handled = none) (he : s.heap.get? e = some oe) (hc : oe.cls = .type "enumerate") (hf : oe.data = .fields fs) (h2 : fs[2]? = some (.ref it))
    (hit : s.heap.IsTupleIter it l i) (hl : s.heap.IsTuple l its) (hx : its[i]? = none) (q : ∀ h', Heap.ExtBut it s.heap h' → Q none { s with heap := h' }) : wpAny (model P w) A (pyNext (.ref e)) Q E s := by
  have ty : s.TypeIs (.ref e) "enumerate" := ⟨_, he, hc⟩
  unfold pyNext
  refine wpAny_bind (wpAny_attempt (wpAny_callSpecial?_slot (name := Str.ofString "__next__") ty F.slot_enumerate_next (wpAny_call_entry F.slot_enumerate_next ty F.entry_enumerate_next ?_ (F.args_enumerate_next_1 _))))
  show wpAny _ _ (field (.ref e) 2 >>= _) _ _ _
  refine wpAny_bind (wpAny_field he hf (x := .ref it) h2 ?_)
  refine wpAny_bind (wpAny_nextOf_tuple_end hh hit hl hx fun h' x he' hx' => ?_)
  obtain ⟨o, ho, hc⟩ := hx'
  exact wpAny_bind (wpAny_isInstance (T := "StopIteration") (b := true) ⟨o, ho, hc⟩ isSubtype_stop (wpAny_pure (q _ he')))
end
/-- enumerate over a tuple as the argument of dict -/
theorem enumT_arg {P : Program} {w : World} (e it l : Addr) (hei : e ≠ it) (hle : l ≠ e) (hli : l ≠ it) (its : Array Value) :
    PairArg P w "enumerate" e [e, it, l] [e, it] its.size (fun i k v => (∃ t, k = .int i t) ∧ its[i]? = some v)
      (fun h => (∃ old, IsEnum h e it 0 old) ∧ h.IsTupleIter it l 0 ∧ h.IsTuple l its) where
  type := fun s ok => let ⟨⟨_, he⟩, _⟩ := ok; ⟨_, he, rfl⟩
  notDict := by decide
  keep := fun h h' ok hk => by
    obtain ⟨⟨old, he⟩, hit, hl⟩ := ok
    exact ⟨⟨old, hk _ _ he⟩, hit.at fun o x => hk _ o x, hl.at fun o x => hk _ o x⟩
  there := fun h ok b hb => by
    obtain ⟨⟨old, he⟩, ⟨o1, h1, _⟩, ⟨o2, h2, _⟩⟩ := ok
    simp only [List.mem_cons, List.not_mem_nil, or_false] at hb
    rcases hb with rfl | rfl | rfl
    all_goals first | exact ⟨_, he⟩ | exact ⟨_, h1⟩ | exact ⟨_, h2⟩
  sub := fun b hb => by simp at hb ⊢; rcases hb with rfl | rfl <;> simp
  noKeys := fun A s Q E hA ok h => let ⟨⟨_, he⟩, _⟩ := ok; getAttrOr_miss_enumerate he rfl rfl rfl enumerate_no_keys (by decide +kernel) hA h
  iter := fun A s d Q E hA ok hd hdf h => by
    obtain ⟨⟨old, he⟩, hit, hl⟩ := ok
    simp only [List.mem_cons, List.not_mem_nil, or_false, not_or] at hdf
    obtain ⟨de, dit, dl⟩ := hdf
    refine wpAny_pyIter_enum he (h e [e, it] (fun i h => h.IsTupleIter it l i ∧ h.IsTuple l its ∧ ((∃ old, IsEnum h e it i old) ∨ ∃ old T f oT, IsEnumHeld h e it i old T f ∧ h.get? T = some oT ∧ T ≠ e ∧ T ≠ it ∧ T ≠ d)) s.heap s.toks ?_
      ⟨hit, hl, .inl ⟨old, he⟩⟩ (fun _ _ e => e) fun b hb => .inl hb)
    exact {
      off := fun hm => by
        simp only [List.mem_cons, List.not_mem_nil, or_false] at hm
        rcases hm with x | x
        · exact de x
        · exact dit x
      frame := fun i h1 h2 st hk => by
        obtain ⟨hit, hl, he⟩ := st
        refine ⟨hit.at fun o x => hk _ o (Ne.symm dit) x, hl.at fun o x => hk _ o (Ne.symm dl) x, ?_⟩
        rcases he with ⟨old, he⟩ | ⟨old, T, f, oT, he, hT, r1, r2, r3⟩
        · exact .inl ⟨old, hk _ _ (Ne.symm de) he⟩
        · exact .inr ⟨old, T, f, oT, hk _ _ (Ne.symm de) he, hk _ _ r3 hT, r1, r2, r3⟩
      item := fun i s1 Q1 E1 hi st hds hQ => by
        obtain ⟨hit, hl, he⟩ := st
        have ex := Array.getElem?_eq_getElem hi
        have ec : ((i + 1 : Nat) : Int) = (i : Int) + 1 := by omega
        have nit : s1.heap.objs.size ≠ it := let ⟨_, x, _⟩ := hit; Nat.ne_of_gt (Heap.lt_size x)
        rcases he with ⟨old, he⟩ | ⟨old, T, f, oT, he, hT, r1, r2, r3⟩
        · refine wpAny_pyNext_enum_itemC (Draws.tuple (A := A.in1) (show A.in1.handled = none from hA) it l hli its) he ⟨hit, hl⟩ hi hei (by simp only [List.mem_cons, List.not_mem_nil, or_false, not_or]; exact ⟨hei, Ne.symm hle⟩) fun x h' tk hp ho st' hT hsz hk => ?_
          exact hQ s1.heap.objs.size _ x h' (tk + 1) ⟨⟨_, rfl⟩, hp⟩ (.inl ⟨_, hT, rfl, _, rfl⟩)
            ⟨st'.1, st'.2, .inr ⟨_, s1.heap.objs.size, false, _, (by rw [ec]; exact ho), hT, Nat.ne_of_gt (Heap.lt_size he), nit, Nat.ne_of_gt hds⟩⟩
            fun b o hb x => hk b o (fun y => hb (by simp [y])) (fun y => hb (by simp [y])) x
        · refine et_held he hT r1 r2 hit hl ex hei fun h' ho hit' hT' hk => ?_
          exact hQ s1.heap.objs.size _ _ h' (s1.toks + 1) ⟨⟨_, rfl⟩, ex⟩ (.inl ⟨_, hT', rfl, _, rfl⟩)
            ⟨hit', hl.at fun o x => hk l o hle hli x, .inr ⟨old, T, true, oT, (by rw [ec]; exact ho), hk _ _ r1 r2 hT, r1, r2, r3⟩⟩
            fun b o hb x => hk b o (fun y => hb (by simp [y])) (fun y => hb (by simp [y])) x
      done := fun s1 Q1 E1 st hQ => by
        obtain ⟨hit, hl, he⟩ := st
        have hx : its[its.size]? = none := Array.getElem?_eq_none (Nat.le_refl _)
        rcases he with ⟨old, he⟩ | ⟨old, T, f, oT, he, hT, r1, r2, r3⟩
        · exact et_end hA he rfl rfl rfl hit hl hx fun h' hk => hQ h' s1.toks fun b o hb x => hk b o (fun y => hb (by simp [y])) x
        · exact et_end hA he rfl rfl rfl hit hl hx fun h' hk => hQ h' s1.toks fun b o hb x => hk b o (fun y => hb (by simp [y])) x }

/-- 0, 1, .. as keys, from i on -/
def enumK (i : Nat) : List V → List (Key × V)
  | [] => []
  | v :: vs => (.inl (i : Int), v) :: enumK (i + 1) vs
def enumR (i : Nat) : List Value → List (Key × Value)
  | [] => []
  | v :: vs => (.inl (i : Int), v) :: enumR (i + 1) vs
theorem enumR_len : ∀ (vs : List Value) (i : Nat), (enumR i vs).length = vs.length
  | [], _ => rfl
  | _ :: vs, i => by simp [enumR, enumR_len vs]
theorem enumR_get : ∀ (vs : List Value) (i j : Nat), (enumR i vs)[j]? = vs[j]?.map fun v => (.inl ((i + j : Nat) : Int), v)
  | [], _, _ => by simp [enumR]
  | v :: vs, i, 0 => by simp [enumR]
  | v :: vs, i, j + 1 => by
    show (enumR (i + 1) vs)[j]? = _
    rw [enumR_get vs (i + 1) j, show i + 1 + j = i + (j + 1) by omega]
    rfl
theorem enumK_kv : ∀ {vs : List V} {us : List Value} (i : Nat), Vals vs us → KV (enumK i vs) (enumR i us)
  | _, _, _, .nil => .nil
  | _, _, i, .cons r t => .cons ⟨rfl, r⟩ (enumK_kv (i + 1) t)
theorem enumK_snd : ∀ (vs : List V) (i : Nat), (enumK i vs).map (·.2) = vs
  | [], _ => rfl
  | v :: vs, i => by simp [enumK, enumK_snd vs]
section
variable {X : Cx}
/-- dict(enumerate(a)) -/
theorem pe_denumA {a : Expr} {te : TE} {p p2 q pos : Pos} (hcm : X.calm = true) (g1 : Gl X "dict") (m1 : X.mg "dict" = none) (g2 : Gl X "enumerate") (m2 : X.mg "enumerate" = none) (st : starEach [a] X.env = [(false, eval a X.env)]) (ha : PE X a te) :
    PE X (.Call (.Name "dict" p) [.Call (.Name "enumerate" p2) [a] [] q] [] pos) (fun σ H Q => te σ H fun v H1 => ∃ b vs, v = .ref b ∧ (SqL X.K H1 b vs ∨ SqT X.K H1 b vs) ∧ ∀ d, H1 d = none → Q (.ref d) (upd H1 d (.dK (mergeK [] (enumK 0 vs))))) := by
  refine ⟨fun pins s σ H Q I h => ?_⟩
  refine Call_ (ld_blt I g1 m1 PyProof.Rows.boot_dict (PyProof.Rows.callWith_type1 (rest := []) ?_ rfl rfl))
  show wpAny _ _ (spliced ((false, eval (.Call (.Name "enumerate" p2) [a] [] q) X.env) :: backTo pos (starEach [] X.env))) _ _ s
  refine Calls.spliced_cons (Call_ (ld_blt I g2 m2 boot_enumerate (PyProof.Rows.callWith_type1 (thn ((pa_cons ha pa_nil st).run q pins s σ H (fun us H1 => match us with | [v] => ∃ b vs, v = .ref b ∧ (SqL X.K H1 b vs ∨ SqT X.K H1 b vs) ∧ ∀ d, H1 d = none → Q (.ref d) (upd H1 d (.dK (mergeK [] (enumK 0 vs)))) | _ => False) I h) fun us s1 ⟨vs, H1, I1, r1, q1⟩ => ?_) st rfl)))
  cases r1 with
  | nil => exact q1.elim
  | cons r rr =>
    cases rr with
    | cons _ _ => exact q1.elim
    | nil =>
    obtain ⟨b, xs, e, hsq, q1⟩ := q1
    subst e
    cases r
    have fin : ∀ {h' : Heap} {Rel : Nat → Value → Value → Prop} {fp wr : List Addr} {OK : Heap → Prop} {its : List Value}, (∀ b o, s1.heap.get? b = some o → h'.get? b = some o) → s1.heap.objs.size < h'.objs.size → Vals xs its → its.length ≤ sizeLine →
        PairArg X.prog X.w "enumerate" (s1.heap.objs.size + 1) fp wr its.toArray.size Rel OK → OK h' → (∀ i k v, Rel i k v → (∃ t, k = .int i t) ∧ its.toArray[i]? = some v) → (∀ b ∈ wr, s1.heap.objs.size ≤ b) →
        wpAny (model X.prog X.w) X.A (spliced (backTo pos (starEach [] X.env))) (fun us s2 => wpAny (model X.prog X.w) X.A (call (.type "dict") (.ref (s1.heap.objs.size + 1) :: us)) (EP X pins σ Q) X.xe s2) X.xe { s1 with heap := h' } := by
      intro h' Rel fp wr OK its hk hz rv hl PA0 ok rel hwr
      refine Calls.spliced_nil ?_
      refine PySem.call_dict_pairs (knd := mixKind X.prog X.w) (kvs := enumR 0 its) (s := { s1 with heap := h' }) PA0 (I.ok.hd hcm) ok ⟨by rw [enumR_len]; simp, fun i key v hr => ?_⟩ (by simpa using hl) fun h2 tk hd hk2 => ?_
      · obtain ⟨⟨t, rfl⟩, hv⟩ := rel i key v hr
        refine ⟨.inl (i : Int), ?_, ?_⟩
        · rw [enumR_get, show its[i]? = some v by simpa using hv, Nat.zero_add]; rfl
        · simp [mixKind, keyIs, Value.isInt]
      · have big : s1.heap.objs.size ≤ h'.objs.size := Nat.le_of_lt hz
        have fr : H1 h'.objs.size = none := I1.hok.fresh big
        have I2 : Inv X pins σ H1 { s1 with heap := h' } := I1.kept (t' := s1.toks) hk
        have keep : ∀ b o, s1.heap.get? b = some o → h2.get? b = some o := fun b o e => hk2 b o (fun hm => absurd (Heap.lt_size e) (Nat.not_lt.mpr (hwr b hm))) (hk b o e)
        have hm : (h'.objs.size == sysModules) = false := beq_eq_false_iff_ne.mpr (Nat.ne_of_gt I2.big)
        refine ⟨.ref h'.objs.size, upd H1 h'.objs.size (.dK (mergeK [] (enumK 0 xs))), I1.laid (t' := tk) keep big (show ObjOk X.prog X.w _ _ _ (.dK (mergeK [] (enumK 0 xs))) from ⟨?_, hm, merged [] (enumR 0 its), KV.merge (enumK_kv 0 rv) .nil, hd⟩), rfl, q1 _ fr⟩
        have := congrArg List.length (enumK_snd xs 0)
        rw [List.length_map] at this
        refine Nat.le_trans (length_mergeK _ _) ?_
        rw [this, rv.length, List.length_nil, Nat.zero_add]; exact hl
    rcases hsq with hq | hq
    · obtain ⟨its, rv, p', hz⟩ := I1.list hq
      have la : b < s1.heap.objs.size := by obtain ⟨o, n, ho, _⟩ := id p'; exact Heap.lt_size ho
      refine call_enumerate_list p'.isList fun h' he hit hsz hk => ?_
      refine fin hk (by rw [hsz]; exact Nat.lt_add_of_pos_right (by decide)) rv (by rw [← rv.length]; exact hz) (PairArg.enumerate (s1.heap.objs.size + 1) s1.heap.objs.size b (Nat.succ_ne_self _) (Nat.ne_of_lt (Nat.lt_succ_of_lt la)) (Nat.ne_of_lt la) its.toArray) ⟨⟨.none, he⟩, hit, p'.isList.at fun o e => hk _ o e⟩ (fun i k v h => h) (fun b hb => ?_)
      have e' : b = s1.heap.objs.size + 1 ∨ b = s1.heap.objs.size := by simpa using hb
      rcases e' with z | z
      · rw [z]; exact Nat.le_add_right _ _
      · rw [z]; exact Nat.le_refl _
    · obtain ⟨its, rv, p', hz⟩ := I1.tuple hq
      have la : b < s1.heap.objs.size := by obtain ⟨o, ho, _⟩ := id p'; exact Heap.lt_size ho
      refine call_enum1 (begins_tuple b its.toArray) p' fun h' he ho hk => ?_
      have sz : s1.heap.objs.size + 1 < h'.objs.size := Heap.lt_size he
      refine fin hk (Nat.lt_of_succ_lt sz) rv (by rw [← rv.length]; exact hz) (enumT_arg (s1.heap.objs.size + 1) s1.heap.objs.size b (Nat.succ_ne_self _) (Nat.ne_of_lt (Nat.lt_succ_of_lt la)) (Nat.ne_of_lt la) its.toArray) ⟨⟨.none, he⟩, ⟨_, ho, rfl, rfl⟩, (let ⟨o, ho, r⟩ := p'; ⟨o, hk _ _ ho, r⟩)⟩ (fun i k v h => h) (fun b hb => ?_)
      have e' : b = s1.heap.objs.size + 1 ∨ b = s1.heap.objs.size := by simpa using hb
      rcases e' with z | z
      · rw [z]; exact Nat.le_add_right _ _
      · rw [z]; exact Nat.le_refl _
end

theorem pairs_enum : ∀ (l : List D) (k : Nat), pairsD (l.mapIdx fun i x => .tuple [.int ((i + k : Nat) : Int), x]) = some (l.mapIdx fun i x => (.int ((i + k : Nat) : Int), x))
  | [], _ => rfl
  | x :: l, k => by
    rw [List.mapIdx_cons, List.mapIdx_cons]
    have e : ∀ i : Nat, i + 1 + k = i + (k + 1) := fun i => by omega
    simp only [e]
    show (if isKey (D.int ((0 + k : Nat) : Int)) && !isTup (D.int ((0 + k : Nat) : Int)) then (pairsD (l.mapIdx fun i x => .tuple [.int ((i + (k + 1) : Nat) : Int), x])).map ((D.int ((0 + k : Nat) : Int), x) :: ·) else none) = _
    rw [pairs_enum l (k + 1)]
    rfl
theorem enum_fst : ∀ {K : Fg} {H : Hp} {O : AS} {vs : List V} {l : List D} (k : Nat), Rps K H O vs l → (l.mapIdx fun i x => ((.int ((i + k : Nat) : Int), x) : D × D)).map (·.1) = (enumK k vs).map fun p => kD p.1
  | _, _, _, _, _, _, .nil => rfl
  | _, _, _, _, x :: l, k, .cons r t => by
    rw [List.mapIdx_cons, List.map_cons]
    have e : ∀ i : Nat, i + 1 + k = i + (k + 1) := fun i => by omega
    simp only [e]
    rw [enum_fst (k + 1) t, Nat.zero_add]
    rfl
theorem enum_snd : ∀ (l : List D) (k : Nat), (l.mapIdx fun i x => ((.int ((i + k : Nat) : Int), x) : D × D)).map (·.2) = l
  | [], _ => rfl
  | x :: l, k => by
    rw [List.mapIdx_cons, List.map_cons]
    have e : ∀ i : Nat, i + 1 + k = i + (k + 1) := fun i => by omega
    simp only [e]
    rw [enum_snd l (k + 1)]
section
variable {Γ : Gm} {k n : Nat} {c : Cm} {X : Cx} {F : Fx}
/-- dict(enumerate(a)), a new dict -/
theorem pe_denumN (x : XOk Γ k c X) (hK : F.K = X.fg) (fo : FOk F) {a : Expr} {xa : Ex} {p p2 q pos : Pos} (hg : isGl c "dict" = true) (hb : ("dict" : Str) ∈ c.bl) (hg2 : isGl c "enumerate" = true) (hb2 : ("enumerate" : Str) ∈ c.bl) (hst : isStar a = false) (ha : PE X a (rdE F (wp Γ xa))) :
    PE X (.Call (.Name "dict" p) [.Call (.Name "enumerate" p2) [a] [] q] [] pos) (rdN F (wp Γ (.bi .dpairs [.enm xa]))) := by
  obtain ⟨g1, _⟩ := isGl_of hg x.sc
  obtain ⟨g2, _⟩ := isGl_of hg2 x.sc
  have st := star_plain (es := []) (env := X.env) hst
  refine pe_imp (pe_denumA x.calm g1 (x.bl _ hb) g2 (x.bl _ hb2) st ha) fun σ H Q ⟨ρ, P, er, hw, hq⟩ => ?_
  have hw' : wp Γ xa ρ (fun d ρ1 => bnd (enumD d) fun z => bnd (some z) fun z => bnd (biD .dpairs [z]) fun y => P y ρ1) := hw
  refine ⟨ρ, _, er, hw', fun v H1 d ρ1 er1 g1 rp h1 => ?_⟩
  obtain ⟨z, hz, h2⟩ := bnd_ex h1
  have core : ∀ (l : List D) (b : Addr) (vs : List V), z = .list (l.mapIdx fun i x => .tuple [.int (i : Int), x]) → Rps X.fg H1 (Av F σ ρ1) vs l → ∀ d, H1 d = none → Q (.ref d) (upd H1 d (.dK (mergeK [] (enumK 0 vs)))) := by
    intro l b vs ez rv d nd
    subst ez
    obtain ⟨z', hz', h3⟩ := bnd_ex h2
    cases hz'
    obtain ⟨y, hy, h4⟩ := bnd_ex h3
    have hy' : (if fitL (l.mapIdx fun i x => D.tuple [.int (i : Int), x]).length = true then ((pairsD (l.mapIdx fun i x => .tuple [.int (i : Int), x])).or (pairsT (l.mapIdx fun i x => .tuple [.int (i : Int), x]))).map (fun kvs => D.dict (putAll kvs [] []).1 (putAll kvs [] []).2) else none) = some y := hy
    split at hy'
    · rw [show pairsD (l.mapIdx fun i x => .tuple [.int (i : Int), x]) = some (l.mapIdx fun i x => (.int (i : Int), x)) from pairs_enum l 0] at hy'
      cases hy'
      obtain ⟨p1, p2⟩ := merge_rps (K := X.fg) (H := H1) (O := Av F σ ρ1) (enumK 0 vs) (l.mapIdx fun i x => (.int (i : Int), x)) (enum_fst 0 rv) (by rw [enumK_snd, show (l.mapIdx fun i x => ((.int (i : Int), x) : D × D)).map (·.2) = l from enum_snd l 0]; exact rv) [] [] [] rfl .nil
      refine hq d _ H1 _ ρ1 nd (er1.noG fo nd) er1 g1 ?_ h4
      dsimp only
      rw [p1, hK]
      exact .dictK p2
    · cases hy'
  cases d with
  | list l =>
    cases (show some (D.list (l.mapIdx fun i x => .tuple [.int (i : Int), x])) = some z from hz)
    obtain ⟨b, vs, e, h3, r3⟩ := Opd.lst (.inl rp)
    rw [hK] at h3 r3
    exact ⟨b, vs, e, .inl h3, core l b vs rfl r3⟩
  | tuple l =>
    cases (show some (D.list (l.mapIdx fun i x => .tuple [.int (i : Int), x])) = some z from hz)
    obtain ⟨b, vs, e, h3, r3⟩ := Opd.tup (.inl rp)
    rw [hK] at h3 r3
    exact ⟨b, vs, e, .inr h3, core l b vs rfl r3⟩
  | _ => cases hz
end
end MW

set_option Elab.async false
set_option linter.all false
set_option maxRecDepth 100000
/-! MW14: what is compiled is so, for expressions -/
namespace MW
open PySem PySem.Spec PyProof.Rows L2
section
variable {Γ : Gm} {k n : Nat} {c : Cm} {X : Cx} {F : Fx}
theorem pi_valE {e tg : Expr} {xe : Ex} (hK : F.K = X.fg) (he : PE X e (rdE F (wp Γ xe))) : PI X tg e (rdI F false (wps Γ [xe])) := by
  refine ⟨fun pins s σ H R I ⟨ρ, P, er, hw, hs, hq⟩ => ?_⟩
  have hw' : wp Γ xe ρ (fun d ρ1 => P [d] ρ1) := hw
  refine thn (he.run pins s σ H (fun v H' => ∃ d ρ', ER F H' σ ρ' ∧ Go H (Mine σ ρ) H' (Mine σ ρ') ∧ Rp F.K H' (Av F σ ρ') v d ∧ P [d] ρ') I ⟨ρ, _, er, hw', fun v H' d ρ' er' g r h => ⟨d, ρ', er', g, r, h⟩⟩) fun u s1 ⟨v, H1, I1, rv, d, ρ1, er1, g1, rp, h1⟩ => ?_
  obtain ⟨xs, hx⟩ := hs _ _ h1
  exact it_val hK I1 er1.muts rv rp hx fun J dr => hq J H1 [d] xs ρ1 er1 g1 hx dr h1
theorem rng_one {d : D} {xs : List D} (h : rngD [d] = some xs) : ∃ j : Int, d = .int j ∧ -(2 ^ 62) ≤ j ∧ j < 2 ^ 62 ∧ xs = (List.range j.toNat).map fun (k : Nat) => .int (k : Int) := by
  unfold rngD at h
  split at h
  · rename_i j e
    cases e
    split at h
    · rename_i q
      cases h
      simp only [Bool.and_eq_true, decide_eq_true_eq] at q
      exact ⟨j, rfl, q.1, q.2, rfl⟩
    · cases h
  · rename_i e; cases e
  · cases h
theorem rng_two {d e : D} {xs : List D} (h : rngD [d, e] = some xs) : ∃ i j : Int, d = .int i ∧ e = .int j ∧ (-(2 ^ 62) ≤ i ∧ i < 2 ^ 62 ∧ -(2 ^ 62) ≤ j ∧ j < 2 ^ 62) ∧ xs = (List.range (j - i).toNat).map fun (k : Nat) => .int (i + (k : Int)) := by
  unfold rngD at h
  split at h
  · rename_i e; cases e
  · rename_i i j e
    cases e
    split at h
    · rename_i q
      cases h
      simp only [Bool.and_eq_true, decide_eq_true_eq] at q
      exact ⟨i, j, rfl, rfl, ⟨q.1.1.1, q.1.1.2, q.1.2, q.2⟩, rfl⟩
    · cases h
  · cases h
theorem pi_r1 (x : XOk Γ k c X) {a tg : Expr} {xs : List Ex} {p pos : Pos} (hg : isGl c "range" = true) (hb : ("range" : Str) ∈ c.bl) (hn : xs.length = 1) (hst : isStar a = false) (ha : PA X [a] (rdS F (wps Γ xs))) : PI X tg (.Call (.Name "range" p) [a] [] pos) (rdI F true (wps Γ xs)) := by
  obtain ⟨g1, _⟩ := isGl_of hg x.sc
  obtain ⟨xe, rfl⟩ := List.length_eq_one_iff.mp hn
  refine ⟨fun pins s σ H R I ⟨ρ, P, er, hw, hs, hq⟩ => (pi_range1 g1 (x.bl _ hb) ha (star_plain hst)).run pins s σ H R I ?_⟩
  have hw' : wps Γ [xe] ρ (fun ds ρ1 => (∃ d, ds = [d]) ∧ P ds ρ1) := by
    have hw2 : wp Γ xe ρ (fun d ρ1 => P [d] ρ1) := hw
    show wp Γ xe ρ (fun d ρ1 => (∃ d', [d] = [d']) ∧ P [d] ρ1)
    simpa using hw2
  refine ⟨ρ, _, er, hw', fun vs H1 ds ρ1 er1 g1 r1 h1 => ?_⟩
  obtain ⟨⟨d, rfl⟩, h1⟩ := h1
  obtain ⟨l, hl⟩ := hs _ _ h1
  obtain ⟨j, rfl, b1, b2, e⟩ := rng_one hl
  cases r1 with
  | cons r r' =>
    cases r'
    cases Opd.int (.inl r)
    refine ⟨j, rfl, b1, b2, hq _ H1 _ l ρ1 er1 g1 hl (drv_rng 0 j.toNat l ?_) h1⟩
    rw [e]; simp
theorem pi_r2 (x : XOk Γ k c X) {a b tg : Expr} {xs : List Ex} {p pos : Pos} (hg : isGl c "range" = true) (hb : ("range" : Str) ∈ c.bl) (hn : xs.length = 2) (hst : isStar a = false) (hst2 : isStar b = false) (ha : PA X [a, b] (rdS F (wps Γ xs))) : PI X tg (.Call (.Name "range" p) [a, b] [] pos) (rdI F true (wps Γ xs)) := by
  obtain ⟨g1, _⟩ := isGl_of hg x.sc
  obtain ⟨xe, xe', rfl⟩ : ∃ u v, xs = [u, v] := by
    match xs, hn with
    | [u, v], _ => exact ⟨u, v, rfl⟩
  have st2 : starEach [b] X.env = [(false, eval b X.env)] := star_plain hst2
  have st1 : starEach [a, b] X.env = [(false, eval a X.env), (false, eval b X.env)] := by rw [star_plain hst, st2]
  refine ⟨fun pins s σ H R I ⟨ρ, P, er, hw, hs, hq⟩ => (pi_range2 g1 (x.bl _ hb) ha st1 st2).run pins s σ H R I ?_⟩
  have hw' : wps Γ [xe, xe'] ρ (fun ds ρ1 => (∃ d e, ds = [d, e]) ∧ P ds ρ1) := by
    have hw2 : wp Γ xe ρ (fun d ρ1 => wp Γ xe' ρ1 fun e ρ2 => P [d, e] ρ2) := hw
    show wp Γ xe ρ (fun d ρ1 => wp Γ xe' ρ1 fun e ρ2 => (∃ d' e', [d, e] = [d', e']) ∧ P [d, e] ρ2)
    simpa using hw2
  refine ⟨ρ, _, er, hw', fun vs H1 ds ρ1 er1 g1 r1 h1 => ?_⟩
  obtain ⟨⟨d, e, rfl⟩, h1⟩ := h1
  obtain ⟨l, hl⟩ := hs _ _ h1
  obtain ⟨i, j, rfl, rfl, bb, el⟩ := rng_two hl
  cases r1 with
  | cons r r' =>
    cases r' with
    | cons r2 r' =>
      cases r'
      cases Opd.int (.inl r)
      cases Opd.int (.inl r2)
      exact ⟨i, j, rfl, bb, hq _ H1 _ l ρ1 er1 g1 hl (drv_rng i (j - i).toNat l el) h1⟩
theorem pi_enumE (x : XOk Γ k c X) (hK : F.K = X.fg) {a tg : Expr} {xe : Ex} {p pos : Pos} (ht : isTupX tg = true) (hg : isGl c "enumerate" = true) (hb : ("enumerate" : Str) ∈ c.bl) (hst : isStar a = false) (ha : PE X a (rdE F (wp Γ xe))) : PI X tg (.Call (.Name "enumerate" p) [a] [] pos) (rdI F false (wps Γ [.enm xe])) := by
  obtain ⟨g1, _⟩ := isGl_of hg x.sc
  cases tg <;> first | (simp [isTupX] at ht; done) | skip
  have st : starEach [a] X.env = [(false, eval a X.env)] := star_plain hst
  refine ⟨fun pins s σ H R I ⟨ρ, P, er, hw, hs, hq⟩ => (pi_enumA g1 (x.bl _ hb) (pa_cons ha pa_nil st) st).run pins s σ H R I ?_⟩
  have hw' : wp Γ xe ρ (fun d ρ1 => bnd (enumD d) fun z => P [z] ρ1) := hw
  refine ⟨ρ, _, er, hw', fun v H1 d ρ1 er1 g1 rp h1 => ?_⟩
  obtain ⟨z, hz, h2⟩ := bnd_ex h1
  cases d with
  | list xs =>
    cases (show some (D.list (xs.mapIdx fun i x => .tuple [.int (i : Int), x])) = some z from hz)
    obtain ⟨b, vs, e, h3, r3⟩ := Opd.lst (.inl rp)
    subst e
    have dr := drv_enum rp er1.muts
    rw [hK] at dr h3
    exact ⟨b, vs, rfl, .inl ⟨h3, hq _ H1 _ _ ρ1 er1 g1 rfl dr h2⟩⟩
  | tuple xs =>
    cases (show some (D.list (xs.mapIdx fun i x => .tuple [.int (i : Int), x])) = some z from hz)
    obtain ⟨b, vs, e, h3, r3⟩ := Opd.tup (.inl rp)
    subst e
    have dr := drv_enumT rp er1.muts
    rw [hK] at dr h3
    exact ⟨b, vs, rfl, .inr ⟨h3, hq _ H1 _ _ ρ1 er1 g1 rfl dr h2⟩⟩
  | _ => cases hz
/-! ### the induction -/
theorem okN_0 : OkN Γ k 0 where
  E := fun _ _ _ h => by simp [cE] at h
  O := fun _ _ _ h => by simp [cE] at h
  S := fun _ _ _ h => by simp [cEs] at h
  D := fun _ _ _ h => by simp [cDp] at h
  L := fun _ _ _ h => by simp [cEs] at h
  A := fun _ _ _ h _ => by simp [cEs] at h
  P := fun _ _ _ h => by simp [cP] at h
  I := fun _ _ _ h => by simp [cI] at h
  C := fun _ _ _ h => by simp [cC] at h
  W := fun _ _ _ h => by simp [cC] at h
  T := fun _ _ _ h => by simp [cCs] at h
theorem lkN_of {c : Cm} {it : Expr} {i : Nat} (h : lkN c it = some i) : ∃ x p, it = .Name x p ∧ isVis c x = true ∧ ixOf c.N x = some i := by
  unfold lkN at h
  split at h
  · split at h
    · rename_i q
      simp only [Bool.and_eq_true] at q
      exact ⟨_, _, rfl, q.1, h⟩
    · cases h
  · cases h
theorem cI_name {c : Cm} {tt : Bool} {y : Str} {p : Pos} {i : Nat} {z : Bool × List Ex} (hv : isVis c y = true) (hi : ixOf c.N y = some i) (h : cI n c tt (.Name y p) = some z) : z = (false, [.var i]) := by
  cases n with
  | zero => simp [cI] at h
  | succ n =>
    unfold cI at h
    split at h <;> first | (rename_i e; cases e; done) | skip
    obtain ⟨q, hq, e⟩ := Option.map_eq_some_iff.mp h
    subst e
    cases n with
    | zero => simp [cE] at hq
    | succ n =>
      unfold cE at hq
      simp only [hv, if_true, hi] at hq
      cases hq
      rfl
/-- a comprehension that was compiled, over a name's list as it stands or not -/
theorem pe_mkComp (ih : OkN Γ k n) (x : XOk Γ k c X) (hK : F.K = X.fg) (fo : FOk F) {e it tg : Expr} {ifs : List Expr} {scope : Scope} {pos : Pos} {z : Bool × List Ex} {g : Tg} {q : List Co} {y : Ex} (s1 : isSetE it = false) (s2 : blkC c.N c.sc scope (ownOf c.N scope) = true) (hsl : ∀ j ∈ slots g, j ∈ (ownOf c.N scope).map (·.2))
    (hz : cI n c (isTupX tg) it = some z) (hg : ∀ (s : Shared) (H : Hp) (C : Addr) (cl : List (Str × Addr)) (fp : List Addr) (F : Fx), F.K = X.fg → FOk F → PG (X.blk s H scope (compEnvC scope cl C X.env) fp) tg (rdG F g))
    (ht : ∀ (s : Shared) (H : Hp) (C : Addr) (cl : List (Str × Addr)) (fp : List Addr) (F : Fx), F.K = X.fg → FOk F → PTs (X.blk s H scope (compEnvC scope cl C X.env) fp) ifs (rdC F (wpcs Γ q)))
    (he : ∀ (s : Shared) (H : Hp) (C : Addr) (cl : List (Str × Addr)) (fp : List Addr) (F : Fx), F.K = X.fg → FOk F → PE (X.blk s H scope (compEnvC scope cl C X.env) fp) e (rdE F (wp Γ y))) :
    PE X (.ListComp e [⟨tg, it, ifs, 0⟩] scope pos) (rdN F (wp Γ (mkComp c it ((ownOf c.N scope).map (·.2)) g z q y))) := by
  unfold mkComp
  cases hl : lkN c it with
  | none => exact pe_comp x hK fo ⟨s2, hsl, s1, ih.I x hK fo hz, hg, ht, he⟩
  | some i =>
    obtain ⟨w, p, rfl, hv, hi⟩ := lkN_of hl
    have := cI_name hv hi hz
    subst this
    exact pe_compL x hK fo (vis_at x hv hi) ⟨s2, hsl, s1, ih.I x hK fo hz, hg, ht, he⟩
theorem okE (ih : OkN Γ k n) (x : XOk Γ k c X) (hK : F.K = X.fg) (fo : FOk F) {e : Expr} {xe : Ex} (h : cE (n + 1) c e = some xe) : PE X e (rdE F (wp Γ xe)) := by
  unfold cE at h
  split at h
  · exact pe_nm x hK h
  · obtain ⟨d, hd, e⟩ := Option.map_eq_some_iff.mp h
    subst e
    exact pe_litD hd
  · obtain ⟨q, hq, e⟩ := Option.map_eq_some_iff.mp h
    subst e
    exact pe_tupE (ih.S x hK fo hq)
  · obtain ⟨q, hq, e⟩ := Option.map_eq_some_iff.mp h
    subst e
    exact PE.new (pe_lstN fo (ih.S x hK fo hq))
  · cases h
    exact PE.new (pe_dnewN fo)
  · split at h
    · cases h
    · rename_i hs
      simp only [Bool.or_eq_true, Bool.not_eq_true', not_or, Bool.not_eq_false, decide_eq_false_iff_not, Decidable.not_not] at hs
      obtain ⟨q, hq, e⟩ := Option.map_eq_some_iff.mp h
      subst e
      have pl := pairs_len _ _ X.env (⟨0, 0, 0, 0⟩) _ _ _ hq
      exact PE.new (pe_ddpN x fo hK (fun F hK fo => ih.D x hK fo hq) pl.1 pl.2 hs.1 hs.2)
  · obtain ⟨q, hq, h⟩ := Option.bind_eq_some_iff.mp h
    obtain ⟨q', hq', e⟩ := Option.map_eq_some_iff.mp h
    subst e
    exact PE.new (pe_repN hK fo (pe_lstN fo (ih.S x hK fo hq)) (ih.O x hK fo hq'))
  · obtain ⟨q, hq, h⟩ := Option.bind_eq_some_iff.mp h
    obtain ⟨q', hq', e⟩ := Option.map_eq_some_iff.mp h
    subst e
    exact pe_binE hK (ih.O x hK fo hq) (ih.O x hK fo hq')
  · obtain ⟨q, hq, e⟩ := Option.map_eq_some_iff.mp h
    subst e
    exact pe_notE (ih.E x hK fo hq)
  · obtain ⟨q, hq, e⟩ := Option.map_eq_some_iff.mp h
    subst e
    exact pe_negE (ih.E x hK fo hq)
  · split at h
    · cases h
    · rename_i hs
      obtain ⟨q, hq, h⟩ := Option.bind_eq_some_iff.mp h
      obtain ⟨q', hq', e⟩ := Option.map_eq_some_iff.mp h
      subst e
      exact pe_cmpE x hK (by simpa using hs) (ih.O x hK fo hq) (ih.O x hK fo hq')
  · split at h
    · cases h
    · rename_i hs
      obtain ⟨q, hq, h⟩ := Option.bind_eq_some_iff.mp h
      obtain ⟨q', hq', h⟩ := Option.bind_eq_some_iff.mp h
      obtain ⟨q'', hq'', e⟩ := Option.map_eq_some_iff.mp h
      subst e
      exact pe_chE x hK (by simp at hs; exact hs.2) (ih.E x hK fo hq) (ih.E x hK fo hq') (ih.E x hK fo hq'')
  · exact pe_one (ih.E x hK fo h)
  · obtain ⟨q, hq, h⟩ := Option.bind_eq_some_iff.mp h
    obtain ⟨q', hq', e⟩ := Option.map_eq_some_iff.mp h
    subst e
    exact pe_andE (ih.E x hK fo hq) (ih.E x hK fo hq')
  · obtain ⟨q, hq, h⟩ := Option.bind_eq_some_iff.mp h
    obtain ⟨q', hq', e⟩ := Option.map_eq_some_iff.mp h
    subst e
    exact pe_orE (ih.E x hK fo hq) (ih.E x hK fo hq')
  · obtain ⟨z, hz, h⟩ := Option.bind_eq_some_iff.mp h
    obtain ⟨q, hq, h⟩ := Option.bind_eq_some_iff.mp h
    obtain ⟨q', hq', e⟩ := Option.map_eq_some_iff.mp h
    subst e
    exact pe_ifE (ih.C x hK fo hz) (ih.E x hK fo hq) (ih.E x hK fo hq')
  · obtain ⟨q, hq, e⟩ := Option.map_eq_some_iff.mp h
    subst e
    exact pe_revsE hK (ih.O x hK fo hq)
  · obtain ⟨q, hq, h⟩ := Option.bind_eq_some_iff.mp h
    obtain ⟨l, hl, h⟩ := Option.bind_eq_some_iff.mp h
    obtain ⟨u, hu, e⟩ := Option.map_eq_some_iff.mp h
    subst e
    exact pe_slE hK (ih.O x hK fo hq) (ih.P x hK fo hl) (ih.P x hK fo hu)
  · split at h
    · cases h
    · rename_i hs
      obtain ⟨q, hq, h⟩ := Option.bind_eq_some_iff.mp h
      obtain ⟨q', hq', e⟩ := Option.map_eq_some_iff.mp h
      subst e
      exact pe_ixE x hK (by simpa using hs) (ih.O x hK fo hq) (ih.O x hK fo hq')
  · split at h
    · cases h
    · rename_i hs
      simp only [Bool.or_eq_true, Bool.not_eq_true', not_or, Bool.not_eq_true, Bool.not_eq_false] at hs
      obtain ⟨⟨s1, s2⟩, s3⟩ := hs
      obtain ⟨z, hz, h⟩ := Option.bind_eq_some_iff.mp h
      obtain ⟨g, hg, h⟩ := Option.bind_eq_some_iff.mp h
      split at h
      · cases h
      · rename_i hsl
        obtain ⟨q, hq, h⟩ := Option.bind_eq_some_iff.mp h
        obtain ⟨y, hy, e⟩ := Option.map_eq_some_iff.mp h
        subst e
        simp only [Bool.not_eq_true', Bool.not_eq_false, List.all_eq_true, List.contains_iff_mem] at hsl
        exact PE.new (pe_mkComp ih x hK fo s1 s2 hsl hz (fun s H C cl fp F hK fo => pg_ok (x.into s H _ C cl fp) hK hg) (fun s H C cl fp F hK fo => ih.T (x.into s H _ C cl fp) hK fo hq) fun s H C cl fp F hK fo => ih.E (x.into s H _ C cl fp) hK fo hy)
  · split at h
    · cases h
    · rename_i f p1 es p2 hg
      have hg' : isGl c f = true := by simpa using hg
      split at h
      · split at h
        · cases h
        · rename_i hne
          obtain ⟨q, hq, e⟩ := Option.map_eq_some_iff.mp h
          subst e
          exact pe_callE x hK fo hg' (by intro z; rw [z] at hne; exact hne rfl) (cEs_star (n := n) (c := c) hq) fun io ps hp => ih.A x hK fo hq hp
      · split at h
        · cases h
        · rename_i hb
          have hb' : f ∈ c.bl := by simpa using hb
          split at h
          · split at h
            · rename_i hi
              subst hi
              split at h
              · rename_i hT
                simp only [Bool.and_eq_true, List.contains_iff_mem] at hT
                obtain ⟨t, ht, h⟩ := Option.bind_eq_some_iff.mp h
                obtain ⟨q, hq, e⟩ := Option.map_eq_some_iff.mp h
                subst e
                exact pe_isiE x hK hg' hb' hT.1 hT.2 ht (cE_star hq) (ih.O x hK fo hq)
              · cases h
            · obtain ⟨b, hb2, h⟩ := Option.bind_eq_some_iff.mp h
              obtain ⟨q, hq, e⟩ := Option.map_eq_some_iff.mp h
              subst e
              exact pe_biE x hK hg' hb' hb2 (cEs_len hq) (cEs_star (n := n) (c := c) hq) (ih.L x hK fo hq)
          · split at h
            · rename_i hs
              simp only [Bool.and_eq_true, Bool.or_eq_true, decide_eq_true_eq, List.contains_iff_mem] at hs
              obtain ⟨⟨⟨s1, s2⟩, s3⟩, s4⟩ := hs
              obtain ⟨q, hq, e⟩ := Option.map_eq_some_iff.mp h
              subst e s1
              exact pe_setE x hK fo s4 hg' hb' s2 s3 (cE_star hq) (ih.O x hK fo hq)
            · split at h
              · rename_i hs
                simp only [Bool.and_eq_true, Bool.or_eq_true, decide_eq_true_eq, List.contains_iff_mem] at hs
                obtain ⟨⟨⟨s1, s2⟩, s3⟩, s4⟩ := hs
                obtain ⟨q, hq, e⟩ := Option.map_eq_some_iff.mp h
                subst e s1
                exact pe_trngE x hK s4 hg' hb' s2 s3 (cE_star hq) (ih.O x hK fo hq)
              split at h
              · rename_i hs
                simp only [Bool.and_eq_true, decide_eq_true_eq, List.contains_iff_mem] at hs
                obtain ⟨⟨⟨s1, s2⟩, s3⟩, s4⟩ := hs
                obtain ⟨q, hq, e⟩ := Option.map_eq_some_iff.mp h
                subst e s1 s4
                exact PE.new (pe_denumN x hK fo hg' hb' s2 s3 (cE_star hq) (ih.E x hK fo hq))
              obtain ⟨b, hb2, h⟩ := Option.bind_eq_some_iff.mp h
              obtain ⟨q, hq, e⟩ := Option.map_eq_some_iff.mp h
              subst e
              exact pe_biE x hK hg' hb' hb2 (cEs_len hq) (cEs_star (n := n) (c := c) hq) (ih.L x hK fo hq)
          · obtain ⟨b, hb2, h⟩ := Option.bind_eq_some_iff.mp h
            obtain ⟨q, hq, e⟩ := Option.map_eq_some_iff.mp h
            subst e
            exact pe_biE x hK hg' hb' hb2 (cEs_len hq) (cEs_star (n := n) (c := c) hq) (ih.L x hK fo hq)
  · split at h
    · rename_i hm
      split at h
      · rename_i hs
        subst hm
        simp only [Bool.and_eq_true, decide_eq_true_eq] at hs
        obtain ⟨⟨s1, s2⟩, s3⟩ := hs
        obtain ⟨i, hi, h⟩ := Option.bind_eq_some_iff.mp h
        obtain ⟨q, hq, e⟩ := Option.map_eq_some_iff.mp h
        subst e
        exact pe_popE x hK s1 hi s2 s3 (cEs_star (n := n) (c := c) hq) (cEs_len hq) (ih.L x hK fo hq)
      · cases h
    · split at h
      · cases h
      · rename_i hs
        simp only [Bool.or_eq_true, Bool.not_eq_true', not_or, Bool.not_eq_true, Bool.not_eq_false, decide_eq_true_eq, decide_eq_false_iff_not, Decidable.not_not] at hs
        obtain ⟨⟨s1, s2⟩, s3⟩ := hs
        obtain ⟨kk, hkk, h⟩ := Option.bind_eq_some_iff.mp h
        obtain ⟨q, hq, h⟩ := Option.bind_eq_some_iff.mp h
        obtain ⟨q', hq', e⟩ := Option.map_eq_some_iff.mp h
        subst e
        exact pe_meE x hK hkk s1 s2 (by intro z; rw [z] at s3; cases s3) (fun f p cp z => by cases z) (cEs_star (n := n) (c := c) hq') (ih.O x hK fo hq) (ih.L x hK fo hq')
  · split at h
    · cases h
    · rename_i hsup
      split at h
      · cases h
      · rename_i hs
        simp only [Bool.or_eq_true, Bool.not_eq_true', not_or, Bool.not_eq_true, Bool.not_eq_false, decide_eq_true_eq, decide_eq_false_iff_not, Decidable.not_not] at hs
        obtain ⟨⟨s1, s2⟩, s3⟩ := hs
        obtain ⟨kk, hkk, h⟩ := Option.bind_eq_some_iff.mp h
        obtain ⟨q, hq, h⟩ := Option.bind_eq_some_iff.mp h
        obtain ⟨q', hq', e⟩ := Option.map_eq_some_iff.mp h
        subst e
        exact pe_meE x hK hkk s1 s2 (by intro z; rw [z] at s3; cases s3) (fun f p cp z => hsup f p cp z) (cEs_star (n := n) (c := c) hq') (ih.O x hK fo hq) (ih.L x hK fo hq')
  · cases h
/-- a name only comes from a name (or a bracketed and/or of one) -/
theorem cE_bld {e : Expr} {xe : Ex} (h : cE (n + 1) c e = some xe) (hb : ¬ bld xe = true) : (∃ y p, e = .Name y p) ∨ ∃ op a p, e = .BoolOp op [a] p := by
  unfold cE at h
  split at h
  · exact .inl ⟨_, _, rfl⟩
  · obtain ⟨_, _, e⟩ := Option.map_eq_some_iff.mp h; subst e; exact absurd rfl hb
  · obtain ⟨_, _, e⟩ := Option.map_eq_some_iff.mp h; subst e; exact absurd rfl hb
  · obtain ⟨_, _, e⟩ := Option.map_eq_some_iff.mp h; subst e; exact absurd rfl hb
  · cases h; exact absurd rfl hb
  · split at h
    · cases h
    · obtain ⟨_, _, e⟩ := Option.map_eq_some_iff.mp h; subst e; exact absurd rfl hb
  · obtain ⟨_, _, h⟩ := Option.bind_eq_some_iff.mp h
    obtain ⟨_, _, e⟩ := Option.map_eq_some_iff.mp h; subst e; exact absurd rfl hb
  · obtain ⟨_, _, h⟩ := Option.bind_eq_some_iff.mp h
    obtain ⟨_, _, e⟩ := Option.map_eq_some_iff.mp h; subst e; exact absurd rfl hb
  · obtain ⟨_, _, e⟩ := Option.map_eq_some_iff.mp h; subst e; exact absurd rfl hb
  · obtain ⟨_, _, e⟩ := Option.map_eq_some_iff.mp h; subst e; exact absurd rfl hb
  · split at h
    · cases h
    · obtain ⟨_, _, h⟩ := Option.bind_eq_some_iff.mp h
      obtain ⟨_, _, e⟩ := Option.map_eq_some_iff.mp h; subst e; exact absurd rfl hb
  · split at h
    · cases h
    · obtain ⟨_, _, h⟩ := Option.bind_eq_some_iff.mp h
      obtain ⟨_, _, h⟩ := Option.bind_eq_some_iff.mp h
      obtain ⟨_, _, e⟩ := Option.map_eq_some_iff.mp h; subst e; exact absurd rfl hb
  · exact .inr ⟨_, _, _, rfl⟩
  · obtain ⟨_, _, h⟩ := Option.bind_eq_some_iff.mp h
    obtain ⟨_, _, e⟩ := Option.map_eq_some_iff.mp h; subst e; exact absurd rfl hb
  · obtain ⟨_, _, h⟩ := Option.bind_eq_some_iff.mp h
    obtain ⟨_, _, e⟩ := Option.map_eq_some_iff.mp h; subst e; exact absurd rfl hb
  · obtain ⟨_, _, h⟩ := Option.bind_eq_some_iff.mp h
    obtain ⟨_, _, h⟩ := Option.bind_eq_some_iff.mp h
    obtain ⟨_, _, e⟩ := Option.map_eq_some_iff.mp h; subst e; exact absurd rfl hb
  · obtain ⟨_, _, e⟩ := Option.map_eq_some_iff.mp h; subst e; exact absurd rfl hb
  · obtain ⟨_, _, h⟩ := Option.bind_eq_some_iff.mp h
    obtain ⟨_, _, h⟩ := Option.bind_eq_some_iff.mp h
    obtain ⟨_, _, e⟩ := Option.map_eq_some_iff.mp h; subst e; exact absurd rfl hb
  · split at h
    · cases h
    · obtain ⟨_, _, h⟩ := Option.bind_eq_some_iff.mp h
      obtain ⟨_, _, e⟩ := Option.map_eq_some_iff.mp h; subst e; exact absurd rfl hb
  · split at h
    · cases h
    · obtain ⟨_, _, h⟩ := Option.bind_eq_some_iff.mp h
      obtain ⟨_, _, h⟩ := Option.bind_eq_some_iff.mp h
      split at h
      · cases h
      · obtain ⟨_, _, h⟩ := Option.bind_eq_some_iff.mp h
        obtain ⟨_, _, e⟩ := Option.map_eq_some_iff.mp h; subst e; exact absurd (by unfold mkComp; split <;> rfl) hb
  · split at h
    · cases h
    · split at h
      · split at h
        · cases h
        · obtain ⟨_, _, e⟩ := Option.map_eq_some_iff.mp h; subst e; exact absurd rfl hb
      · split at h
        · cases h
        · split at h
          · split at h
            · split at h
              · obtain ⟨_, _, h⟩ := Option.bind_eq_some_iff.mp h
                obtain ⟨_, _, e⟩ := Option.map_eq_some_iff.mp h; subst e; exact absurd rfl hb
              · cases h
            · obtain ⟨_, _, h⟩ := Option.bind_eq_some_iff.mp h
              obtain ⟨_, _, e⟩ := Option.map_eq_some_iff.mp h; subst e; exact absurd rfl hb
          · split at h
            · obtain ⟨_, _, e⟩ := Option.map_eq_some_iff.mp h; subst e; exact absurd rfl hb
            · split at h
              · obtain ⟨_, _, e⟩ := Option.map_eq_some_iff.mp h; subst e; exact absurd rfl hb
              split at h
              · obtain ⟨_, _, e⟩ := Option.map_eq_some_iff.mp h; subst e; exact absurd rfl hb
              obtain ⟨_, _, h⟩ := Option.bind_eq_some_iff.mp h
              obtain ⟨_, _, e⟩ := Option.map_eq_some_iff.mp h; subst e; exact absurd rfl hb
          · obtain ⟨_, _, h⟩ := Option.bind_eq_some_iff.mp h
            obtain ⟨_, _, e⟩ := Option.map_eq_some_iff.mp h; subst e; exact absurd rfl hb
  · split at h
    · split at h
      · obtain ⟨_, _, h⟩ := Option.bind_eq_some_iff.mp h
        obtain ⟨_, _, e⟩ := Option.map_eq_some_iff.mp h; subst e; exact absurd rfl hb
      · cases h
    · split at h
      · cases h
      · obtain ⟨_, _, h⟩ := Option.bind_eq_some_iff.mp h
        obtain ⟨_, _, h⟩ := Option.bind_eq_some_iff.mp h
        obtain ⟨_, _, e⟩ := Option.map_eq_some_iff.mp h; subst e; exact absurd rfl hb
  · split at h
    · cases h
    · split at h
      · cases h
      · obtain ⟨_, _, h⟩ := Option.bind_eq_some_iff.mp h
        obtain ⟨_, _, h⟩ := Option.bind_eq_some_iff.mp h
        obtain ⟨_, _, e⟩ := Option.map_eq_some_iff.mp h; subst e; exact absurd rfl hb
  · cases h
theorem okO (ih : OkN Γ k n) (x : XOk Γ k c X) (hK : F.K = X.fg) (fo : FOk F) {e : Expr} {xe : Ex} (h : cE (n + 1) c e = some xe) : PE X e (rdO F xe (wp Γ xe)) := by
  by_cases hb : bld xe = true
  · exact SE.opd (okE ih x hK fo h) hb
  · have h0 := h
    have key := cE_bld h hb
    rcases key with ⟨y, p, rfl⟩ | ⟨op, a, p, rfl⟩
    · simp only [cE] at h0
      exact opd_nm x hK h0
    · simp only [cE] at h0
      exact pe_one (ih.O x hK fo h0)
theorem okC (ih : OkN Γ k n) (ihs : ∀ m, m < n → OkN Γ k m) (W : ∀ {op : BoolOp} {vs : List Expr} {p : Pos} {xc : Co}, cC (n + 1) c (.BoolOp op vs p) = some xc → PW X (.BoolOp op vs p) (rdC F (wpc Γ xc))) (x : XOk Γ k c X) (hK : F.K = X.fg) (fo : FOk F) {e : Expr} {xc : Co} (h : cC (n + 1) c e = some xc) : L2.PT X e (rdC F (wpc Γ xc)) := by
  have h0 := h
  unfold cC at h
  split at h
  · obtain ⟨q, hq, e⟩ := Option.map_eq_some_iff.mp h
    subst e
    refine pt_imp (L2.pt_not (ih.C x hK fo hq)) fun σ H Q ⟨ρ, P, er, hw, hq⟩ => ⟨ρ, _, er, hw, fun b H' ρ' er' g h => hq _ H' ρ' er' g h⟩
  · exact (W h0).pt
  · exact (W h0).pt
  · exact (W h0).pt
  · cases h
  · cases h
  · cases h
  · rename_i n1 n2 n3 n4 n5 n6 n7
    obtain ⟨q, hq, e'⟩ := Option.map_eq_some_iff.mp h
    subst e'
    by_cases hp : plainT e = true
    · exact pt_plE hK hp (ih.O x hK fo hq)
    · cases e with
      | UnaryOp op a p => cases op <;> first | exact absurd rfl hp | exact absurd rfl (n1 _ _)
      | BoolOp op vs p =>
        cases vs with
        | nil => exact absurd rfl (n5 _ _)
        | cons a r =>
          cases r with
          | nil => exact absurd rfl (n2 _ _ _)
          | cons b r => cases op with
            | And => exact absurd rfl (n3 _ _ _ _)
            | Or => exact absurd rfl (n4 _ _ _ _)
      | IfExp a b d p => exact absurd rfl (n6 _ _ _ _)
      | Compare a ops bs p =>
        cases n with
        | zero => simp [cE] at hq
        | succ m =>
          have ihm := ihs m (Nat.lt_succ_self m)
          unfold cE at hq
          split at hq
          all_goals first | (rename_i e; cases e; done) | (rename_i e _; cases e; done) | (cases hq; done) | skip
          · rename_i e
            cases e
            split at hq
            · cases hq
            · rename_i hs
              obtain ⟨u, hu, hq⟩ := Option.bind_eq_some_iff.mp hq
              obtain ⟨u', hu', e⟩ := Option.map_eq_some_iff.mp hq
              subst e
              exact pt_cmpE x hK (by simpa using hs) (ihm.O x hK fo hu) (ihm.O x hK fo hu')
          · rename_i e
            cases e
            split at hq
            · cases hq
            · rename_i hs
              obtain ⟨u, hu, hq⟩ := Option.bind_eq_some_iff.mp hq
              obtain ⟨u', hu', hq⟩ := Option.bind_eq_some_iff.mp hq
              obtain ⟨u'', hu'', e⟩ := Option.map_eq_some_iff.mp hq
              subst e
              exact pt_chE x hK (by simp at hs; exact hs.2) (ihm.E x hK fo hu) (ihm.E x hK fo hu') (ihm.E x hK fo hu'')
      | _ => exact absurd rfl hp
theorem okW (ih : OkN Γ k n) (x : XOk Γ k c X) (hK : F.K = X.fg) (fo : FOk F) {op : BoolOp} {vs : List Expr} {p : Pos} {xc : Co} (h : cC (n + 1) c (.BoolOp op vs p) = some xc) : PW X (.BoolOp op vs p) (rdC F (wpc Γ xc)) := by
  cases vs with
  | nil => cases op <;> simp [cC] at h
  | cons a r =>
    cases r with
    | nil =>
      have h : cC n c a = some xc := by cases op <;> simpa [cC] using h
      cases op with
      | And => exact pw_and1 (ih.C x hK fo h)
      | Or => exact pw_or1 (ih.C x hK fo h)
    | cons b r =>
      cases op with
      | And =>
        simp only [cC] at h
        obtain ⟨u, hu, h⟩ := Option.bind_eq_some_iff.mp h
        obtain ⟨u', hu', e⟩ := Option.map_eq_some_iff.mp h
        subst e
        refine pw_imp (L2.pw_and (ih.C x hK fo hu) (ih.W x hK fo hu')) fun σ H Q ⟨ρ, P, er, hw, hq⟩ => ⟨ρ, _, er, hw, fun t H1 ρ1 er1 g1 h1 => ?_⟩
        cases t with
        | true => simp only [if_true] at h1 ⊢; exact ⟨ρ1, P, er1, h1, fun z H' ρ' er' g' h' => hq z H' ρ' er' (g1.trans g') h'⟩
        | false => simp only [Bool.false_eq_true, if_false] at h1 ⊢; exact hq _ _ _ er1 g1 h1
      | Or =>
        simp only [cC] at h
        obtain ⟨u, hu, h⟩ := Option.bind_eq_some_iff.mp h
        obtain ⟨u', hu', e⟩ := Option.map_eq_some_iff.mp h
        subst e
        refine pw_imp (L2.pw_or (ih.C x hK fo hu) (ih.W x hK fo hu')) fun σ H Q ⟨ρ, P, er, hw, hq⟩ => ⟨ρ, _, er, hw, fun t H1 ρ1 er1 g1 h1 => ?_⟩
        cases t with
        | true => simp only [if_true] at h1 ⊢; exact hq _ _ _ er1 g1 h1
        | false => simp only [Bool.false_eq_true, if_false] at h1 ⊢; exact ⟨ρ1, P, er1, h1, fun z H' ρ' er' g' h' => hq z H' ρ' er' (g1.trans g') h'⟩
theorem okI (ih : OkN Γ k n) (x : XOk Γ k c X) (hK : F.K = X.fg) (fo : FOk F) {e tg : Expr} {z : Bool × List Ex} (h : cI (n + 1) c (isTupX tg) e = some z) : PI X tg e (rdI F z.1 (wps Γ z.2)) := by
  have plain : ∀ {q : Ex}, cE n c e = some q → z = (false, [q]) → PI X tg e (rdI F z.1 (wps Γ z.2)) := fun hq e => by
    subst e
    exact pi_valE hK (ih.E x hK fo hq)
  unfold cI at h
  split at h
  · split at h
    · rename_i hc
      simp only [Bool.and_eq_true, decide_eq_true_eq, List.contains_iff_mem] at hc
      obtain ⟨⟨rfl, hg⟩, hb⟩ := hc
      obtain ⟨q, hq, e⟩ := Option.map_eq_some_iff.mp h
      subst e
      exact pi_r1 x hg hb (cEs_len hq) (cEs_star (n := n) (c := c) hq _ (by simp)) (ih.S x hK fo hq)
    · split at h
      · rename_i hc
        simp only [Bool.and_eq_true, decide_eq_true_eq, List.contains_iff_mem] at hc
        obtain ⟨ht, ⟨rfl, hg⟩, hb⟩ := hc
        obtain ⟨q, hq, e⟩ := Option.map_eq_some_iff.mp h
        subst e
        exact pi_enumE x hK ht hg hb (cE_star hq) (ih.E x hK fo hq)
      obtain ⟨q, hq, e⟩ := Option.map_eq_some_iff.mp h
      exact plain hq e.symm
  · split at h
    · rename_i hc
      simp only [Bool.and_eq_true, decide_eq_true_eq, List.contains_iff_mem] at hc
      obtain ⟨⟨rfl, hg⟩, hb⟩ := hc
      obtain ⟨q, hq, e⟩ := Option.map_eq_some_iff.mp h
      subst e
      exact pi_r2 x hg hb (cEs_len hq) (cEs_star (n := n) (c := c) hq _ (by simp)) (cEs_star (n := n) (c := c) hq _ (by simp)) (ih.S x hK fo hq)
    · obtain ⟨q, hq, e⟩ := Option.map_eq_some_iff.mp h
      exact plain hq e.symm
  · obtain ⟨q, hq, e⟩ := Option.map_eq_some_iff.mp h
    exact plain hq e.symm
theorem okP (ih : OkN Γ k n) (x : XOk Γ k c X) (hK : F.K = X.fg) (fo : FOk F) {e : Option Expr} {xe : Option Ex} (h : cP (n + 1) c e = some xe) : PO X e (rdP F (wpp Γ xe)) := by
  cases e with
  | none =>
    simp only [cP] at h
    cases h
    exact ⟨fun pins s σ H Q I ⟨ρ, P, er, hw, hq⟩ => po_none.run pins s σ H Q I (hq none H ρ er Go.refl hw)⟩
  | some e =>
    simp only [cP] at h
    obtain ⟨q, hq, e⟩ := Option.map_eq_some_iff.mp h
    subst e
    refine ⟨fun pins s σ H Q I ⟨ρ, P, er, hw, hq2⟩ => (po_some (ih.E x hK fo hq)).run pins s σ H Q I ⟨ρ, _, er, hw, fun v H1 d ρ1 er1 g1 r1 h1 => ?_⟩⟩
    obtain ⟨i, hi, hp⟩ := bnd_ex h1
    cases d <;> first | (simp [asI] at hi; done) | skip
    cases hi
    cases Opd.int (.inl r1)
    exact ⟨i, rfl, hq2 _ _ _ er1 g1 hp⟩
theorem okT (ih : OkN Γ k n) (x : XOk Γ k c X) (hK : F.K = X.fg) (fo : FOk F) {e : List Expr} {xe : List Co} (h : cCs (n + 1) c e = some xe) : PTs X e (rdC F (wpcs Γ xe)) := by
  match e, h with
  | [], h =>
    simp only [cCs] at h
    cases h
    exact ⟨fun pins s σ H Q I ⟨ρ, P, er, hw, hq⟩ => pts_nil.run pins s σ H Q I (hq true H ρ er Go.refl hw)⟩
  | [e], h =>
    simp only [cCs] at h
    obtain ⟨q, hq, e⟩ := Option.map_eq_some_iff.mp h
    subst e
    exact ⟨fun pins s σ H Q I ⟨ρ, P, er, hw, hq2⟩ => (pts_one (ih.C x hK fo hq)).run pins s σ H Q I ⟨ρ, P, er, hw.2, hq2⟩⟩
  | _ :: _ :: _, h => simp [cCs] at h
theorem okS (ih : OkN Γ k n) (x : XOk Γ k c X) (hK : F.K = X.fg) (fo : FOk F) {e : List Expr} {xe : List Ex} (h : cEs (n + 1) c e = some xe) : PA X e (rdS F (wps Γ xe)) := by
  cases e with
  | nil => simp only [cEs] at h; cases h; exact PA.nilS
  | cons e es =>
    simp only [cEs] at h
    obtain ⟨u, hu, h⟩ := Option.bind_eq_some_iff.mp h
    obtain ⟨u', hu', e⟩ := Option.map_eq_some_iff.mp h
    subst e
    exact PA.consS (ih.E x hK fo hu) (cE_star hu) (ih.S x hK fo hu')
theorem okD (ih : OkN Γ k n) (x : XOk Γ k c X) (hK : F.K = X.fg) (fo : FOk F) {ks : List (Option Expr)} {vs : List Expr} {xe : List Ex} (h : cDp (n + 1) c ks vs = some xe) : PDp X ks vs (rdS F (wps Γ xe)) := by
  match ks, vs, h with
  | [], [], h =>
    simp only [cDp] at h
    cases h
    exact ⟨fun pos pins s σ H Q I ⟨ρ, P, er, hw, hq⟩ => pairTrees_nil_walk ⟨[], H, I, .nil, hq [] H [] ρ er Go.refl .nil hw⟩⟩
  | some k1 :: ks, v1 :: vs, h =>
    simp only [cDp] at h
    obtain ⟨a, ha, h⟩ := Option.bind_eq_some_iff.mp h
    obtain ⟨b, hb, h⟩ := Option.bind_eq_some_iff.mp h
    obtain ⟨l, hl, e⟩ := Option.map_eq_some_iff.mp h
    subst e
    refine ⟨fun pos pins s σ H Q I ⟨ρ, P, er, hw, hq⟩ => ?_⟩
    refine pairTrees_cons_walk ?_
    refine wpAny_mono ((ih.E x hK fo ha).run pins s σ H (fun v H1 => ∃ d ρ1, ER F H1 σ ρ1 ∧ Go H (Mine σ ρ) H1 (Mine σ ρ1) ∧ Rp F.K H1 (Av F σ ρ1) v d ∧ wps Γ (b :: l) ρ1 fun ds ρ2 => P (d :: ds) ρ2) I ⟨ρ, _, er, hw, fun v H1 d ρ1 er1 g1 r1 h1 => ⟨d, ρ1, er1, g1, r1, h1⟩⟩) (fun u s1 ⟨v, H1, I1, rv, d, ρ1, er1, g1, r1, h1⟩ => ?_) fun _ _ e => e
    refine wpAny_mono ((ih.E x hK fo hb).run pins s1 σ H1 (fun w H2 => ∃ d' ρ2, ER F H2 σ ρ2 ∧ Go H1 (Mine σ ρ1) H2 (Mine σ ρ2) ∧ Rp F.K H2 (Av F σ ρ2) w d' ∧ wps Γ l ρ2 fun ds ρ3 => P (d :: d' :: ds) ρ3) I1 ⟨ρ1, _, er1, h1, fun w H2 d' ρ2 er2 g2 r2 h2 => ⟨d', ρ2, er2, g2, r2, h2⟩⟩) (fun u2 s2 ⟨w, H2, I2, rw2, d', ρ2, er2, g2, r2, h2⟩ => ?_) fun _ _ e => e
    refine wpAny_mono ((ih.D x hK fo hl).run pos pins s2 σ H2 (fun us H3 => ∃ ds ρ3, ER F H3 σ ρ3 ∧ Go H2 (Mine σ ρ2) H3 (Mine σ ρ3) ∧ Rps F.K H3 (Av F σ ρ3) us ds ∧ P (d :: d' :: ds) ρ3) I2 ⟨ρ2, _, er2, h2, fun us H3 ds ρ3 er3 g3 r3 h3 => ⟨ds, ρ3, er3, g3, r3, h3⟩⟩) (fun ws s3 ⟨us, H3, I3, vv, ds, ρ3, er3, g3, r3, h3⟩ => ?_) fun _ _ e => e
    exact ⟨v :: w :: us, H3, I3, .cons rv rw2 vv, hq _ H3 _ ρ3 er3 ((g1.trans g2).trans g3) (.cons (r1.go (gm_av (g2.trans g3)) er1.muts) (.cons (r2.go (gm_av g3) er2.muts) r3)) h3⟩
  | [], _ :: _, h => simp [cDp] at h
  | none :: _, _, h => simp [cDp] at h
  | some _ :: _, [], h => simp [cDp] at h
theorem okL (ih : OkN Γ k n) (x : XOk Γ k c X) (hK : F.K = X.fg) (fo : FOk F) {e : List Expr} {xe : List Ex} (h : cEs (n + 1) c e = some xe) : PA X e (rdL F (wpo Γ xe)) := by
  cases e with
  | nil => simp only [cEs] at h; cases h; exact PA.nilL
  | cons e es =>
    simp only [cEs] at h
    obtain ⟨u, hu, h⟩ := Option.bind_eq_some_iff.mp h
    obtain ⟨u', hu', e⟩ := Option.map_eq_some_iff.mp h
    subst e
    exact PA.consL (ih.O x hK fo hu) (cE_star hu) (ih.L x hK fo hu')
/-- a place's expression is its name -/
theorem pe_tvar (x : XOk Γ k c X) : ∀ {n : Nat} {e : Expr} {i : Nat}, cE n c e = some (.var i) → PE X e (tVar i)
  | 0, _, _, h => by simp [cE] at h
  | n + 1, e, i, h => by
    rcases cE_bld h (by simp [bld]) with ⟨y, p, rfl⟩ | ⟨op, a, p, rfl⟩
    · simp only [cE] at h
      split at h
      · rename_i hv
        obtain ⟨j, hj, e⟩ := Option.map_eq_some_iff.mp h
        cases e
        obtain ⟨h1, h2, h3⟩ := isVis_of hv x.sc
        exact pe_var (by rw [x.N]; exact ixOf_get hj) h1 h2 h3
      · split at h
        · obtain ⟨_, _, e⟩ := Option.map_eq_some_iff.mp h
          cases e
        · cases h
    · simp only [cE] at h
      exact pe_one (pe_tvar x h)
theorem PA.consV2 {e : Expr} {es : List Expr} {x : Ex} {xs : List Ex} {ps : List (Option Nat)} {i : Nat} (h : PE X e (tVar i)) (hs : isStar e = false)
    (t : PA X es (rdA F ps (wpa Γ ps xs))) : PA X (e :: es) (rdA F (some i :: ps) (wpa Γ (some i :: ps) (x :: xs))) := by
  refine ⟨fun pos pins s σ H Q I ⟨ρ, P, er, hw, hm, hq⟩ => (pa_cons h t (star_plain hs)).run pos pins s σ H Q I ?_⟩
  obtain ⟨v, hv⟩ := hm i List.mem_cons_self
  refine ⟨v, hv, ρ, _, er, hw, fun j hj => hm j (List.mem_cons_of_mem _ hj), fun vs H2 ds ρ2 er2 g2 r2 h2 => ?_⟩
  exact hq (v :: vs) H2 (.none :: ds) ρ2 er2 g2 (.io hv r2) h2
theorem okA (ih : OkN Γ k n) (x : XOk Γ k c X) (hK : F.K = X.fg) (fo : FOk F) {e : List Expr} {xe : List Ex} {io : List Bool} {ps : List (Option Nat)} (h : cEs (n + 1) c e = some xe) (hp : argsIo io xe = some ps) : PA X e (rdA F ps (wpa Γ ps xe)) := by
  cases e with
  | nil =>
    simp only [cEs] at h
    cases h
    cases io with
    | nil => simp [argsIo] at hp; subst hp; exact PA.nilA
    | cons b io => cases b <;> simp [argsIo] at hp
  | cons e es =>
    simp only [cEs] at h
    obtain ⟨u, hu, h⟩ := Option.bind_eq_some_iff.mp h
    obtain ⟨u', hu', e⟩ := Option.map_eq_some_iff.mp h
    subst e
    cases io with
    | nil => simp [argsIo] at hp
    | cons b io =>
      cases b with
      | false =>
        simp only [argsIo] at hp
        obtain ⟨q, hq, e⟩ := Option.map_eq_some_iff.mp hp
        subst e
        exact PA.consA (ih.E x hK fo hu) (cE_star hu) (ih.A x hK fo hu' hq)
      | true =>
        cases u with
        | var i =>
          simp only [argsIo] at hp
          obtain ⟨q, hq, e⟩ := Option.map_eq_some_iff.mp hp
          subst e
          exact PA.consV2 (pe_tvar x hu) (cE_star hu) (ih.A x hK fo hu' hq)
        | _ => simp [argsIo] at hp
theorem okN : ∀ n, OkN Γ k n := by
  intro n
  induction n using Nat.strongRecOn with
  | _ n ihs =>
    cases n with
    | zero => exact okN_0
    | succ n =>
      have ih := ihs n (Nat.lt_succ_self n)
      exact {
        E := fun x hK fo h => okE ih x hK fo h
        O := fun x hK fo h => okO ih x hK fo h
        S := fun x hK fo h => okS ih x hK fo h
        D := fun x hK fo h => okD ih x hK fo h
        L := fun x hK fo h => okL ih x hK fo h
        A := fun x hK fo h hp => okA ih x hK fo h hp
        P := fun x hK fo h => okP ih x hK fo h
        I := fun x hK fo h => okI ih x hK fo h
        C := fun x hK fo h => okC ih (fun m hm => ihs m (Nat.lt_succ_of_lt hm)) (fun h => okW ih x hK fo h) x hK fo h
        W := fun x hK fo h => okW ih x hK fo h
        T := fun x hK fo h => okT ih x hK fo h }
end
end MW

set_option Elab.async false
set_option linter.all false
set_option maxRecDepth 100000
/-! MW15: statements: the compiler, the small rules -/
namespace MW
open PySem PySem.Spec PyProof.Rows L2

def isCompE : Expr → Bool
  | .ListComp _ _ _ _ => true
  | .SetComp _ _ _ _ => true
  | .DictComp _ _ _ _ _ => true
  | _ => false
def isTupE : Expr → Bool
  | .Tuple _ _ _ => true
  | _ => false
/-- name = [..]: as the model does it -/
def lcOk (c : Cm) (e : Expr) (y : Str) (py : Pos) : Bool := match e with
  | .ListComp _ _ _ _ => true
  | e => !isCompE e
/-- the comprehension's list goes right into the name -/
def lcIn (c : Cm) (s : Scope) (p : Pos) (y : Str) (py : Pos) : Bool := decide (c.sc.names.lookup y = some .local) && (py.line == p.line) && !(s.names.any fun (m, k) => m == y && (k == .local || k == .cell))
/-- a new list each time -/
def freshE (c : Cm) : Expr → Bool
  | .List _ _ => true
  | .ListComp _ _ _ _ => true
  | .Dict _ _ _ => true
  | .BinOp (.List _ _) .Mult _ _ => true
  | .Call (.Name f _) es [] _ => if c.fs.contains f then c.nf.contains f else (decide (f = "list") || decide (f = "sorted") || decide (f = "dict")) && decide (es.length = 1)
  | _ => false
def isStarB : Expr → Bool
  | .Starred .. => true
  | _ => false
def swpS (sc : Scope) (ts vs : List Expr) : Option (Option (List Str)) :=
  if !(ts.length == 2 || ts.length == 3) || vs.length != ts.length then some none
  else if vs.any isStarB then some none
  else
    let names := ts.filterMap fun
      | .Name id pos => if sc.names.lookup id == some .local && pos.line == (ts.head?.map (·.pos.line)).getD 0 then some id else none
      | _ => none
    if names.length != ts.length || names.eraseDups.length != names.length then some none
    else if vs.all (foldedForSure 8) then some none
    else if vs.all (constantsAlone 8) then none
    else some (some names)
mutual
def cS : Nat → Cm → Stmt → Option Sm
  | 0, _, _ => none
  | n + 1, c, s => match s with
    | .Expr (.Constant (.str _) _ _) _ => some .pass
    | .Expr (.Call (.Attribute (.Name x _) m ap) [] [] cp) _ => if m = "reverse" && isVis c x && (ap.endLine == cp.line) then (ixOf c.N x).map .rvs else none
    | .Expr (.Call (.Attribute (.Name x _) m ap) [a] [] cp) _ =>
      if m = "append" && isVis c x && (ap.endLine == cp.line) then (ixOf c.N x).bind fun i => (cE n c a).map (.app i)
      else if m = "extend" && isVis c x && (ap.endLine == cp.line) then (ixOf c.N x).bind fun i => (cE n c a).map (.ext i) else none
    | .Expr (.Call f es ks p) _ => (cE n c (.Call f es ks p)).map .ex
    | .Return none _ => some .retN
    | .Return (some e) _ => if c.nw then (match e with
        | .Name y _ => if isVis c y then (ixOf c.N y).map .retO else none
        | e => if freshE c e then (cE n c e).map .retF else none) else (cE n c e).map .ret
    | .Assign [.Name y py] (.BinOp a .Add (.List es p2) p) _ => if !isLoc c y then none else (ixOf c.N y).bind fun i =>
        if c.ms.contains y then (cE n c a).bind fun x => (cEs n c es).map fun xs => .own i (.bi .cat [x, .lst xs]) else (cE n c (.BinOp a .Add (.List es p2) p)).map (.asg (.nm i))
    | .Assign [.Name y py] e _ => if !isLoc c y || !lcOk c e y py then none else (ixOf c.N y).bind fun i =>
        if freshE c e && c.ms.contains y then (cE n c e).map (.own i) else (cE n c e).map (.asg (.nm i))
    | .Assign [.Tuple [.Name x px, .Name y py] kt pt] (.Tuple [a, b] k2 p2) _ => (swpS c.sc [.Name x px, .Name y py] [a, b]).bind fun r => match r with
        | none => (cT c n (.Tuple [.Name x px, .Name y py] kt pt)).bind fun t => (cE n c (.Tuple [a, b] k2 p2)).map (.asg t)
        | some r => (ixOf c.N x).bind fun i => (ixOf c.N y).bind fun j => if !decide (r = [x, y]) || i = j || !decide (c.sc.names.lookup x = some .local) || !decide (c.sc.names.lookup y = some .local) then none else (cEs n c [a, b]).map (.par [i, j])
    | .Assign [.Tuple ts kt pt] e _ => if isTupE e then none else (cT c n (.Tuple ts kt pt)).bind fun t => (cE n c e).map (.asg t)
    | .Assign [.Subscript (.Name x _) i _] e _ => if isSlcE i || !isVis c x then none else (ixOf c.N x).bind fun j => (cE n c i).bind fun u => (cE n c e).map (.setI j u)
    | .If t a b _ => (cC n c t).bind fun z => (cSs n c a).bind fun x => (cSs n c b).map (.ite z x)
    | .For tg it body [] _ => if isSetE it then none else (cI n c (isTupX tg) it).bind fun z => (cT c n tg).bind fun g => (cSs n c body).map (mkFor c it g z)
    | .While t body [] _ => (cC n c t).bind fun z => (cSs n c body).map (.whl z)
    | .Break _ => some .brk
    | .Pass _ => some .pass
    | .Raise _ _ _ => some .never
    | _ => none
def cSs : Nat → Cm → List Stmt → Option (List Sm)
  | 0, _, _ => none
  | _ + 1, _, [] => some []
  | n + 1, c, s :: ss => (cS n c s).bind fun x => (cSs n c ss).map (x :: ·)
end
/-! ### readings of statements -/
structure Lk (F : Fx) (D : Ends) (E : Nd) (σ : Stt) (H : Hp) (ρ : Evn) : Prop where
  nx : ∀ σ' H' ρ', ER F H' σ' ρ' → Go H (Mine σ ρ) H' (Mine σ' ρ') → E.nx ρ' → D.nx σ' H'
  bk : ∀ σ' H' ρ', ER F H' σ' ρ' → Go H (Mine σ ρ) H' (Mine σ' ρ') → E.bk ρ' → D.bk σ' H'
  rt : ∀ v σ' H' d ρ', ER F H' σ' ρ' → Go H (Mine σ ρ) H' (Mine σ' ρ') → Rp F.K H' (Av F σ' ρ') v d → E.rt d ρ' → D.rt v H'
  rn : ∀ a o σ' H' d ρ', H' a = none → F.G a = none → ER F H' σ' ρ' → Go H (Mine σ ρ) H' (Mine σ' ρ') → Nc F.K H' (Av F σ' ρ') a o d → E.rn d ρ' → D.rt (.ref a) (upd H' a o)
theorem Lk.go {F : Fx} {D : Ends} {E : Nd} {σ σ1 : Stt} {H H1 : Hp} {ρ ρ1 : Evn} (l : Lk F D E σ H ρ) (g : Go H (Mine σ ρ) H1 (Mine σ1 ρ1)) : Lk F D E σ1 H1 ρ1 :=
  ⟨fun σ' H' ρ' e g' h => l.nx σ' H' ρ' e (g.trans g') h, fun σ' H' ρ' e g' h => l.bk σ' H' ρ' e (g.trans g') h, fun v σ' H' d ρ' e g' r h => l.rt v σ' H' d ρ' e (g.trans g') r h, fun a o σ' H' d ρ' n nG e g' nc h => l.rn a o σ' H' d ρ' n nG e (g.trans g') nc h⟩
def rdSt (F : Fx) (w : Nd → Evn → Prop) : TS := fun D σ H => ∃ ρ E, ER F H σ ρ ∧ w E ρ ∧ Lk F D E σ H ρ
theorem ps_imp {X : Cx} {st : Stmt} {t t' : TS} (h : PS X st t) (w : ∀ D σ H, t' D σ H → t D σ H) : PS X st t' := ⟨fun pins s σ H D I q => h.run pins s σ H D I (w D σ H q)⟩
theorem pss_imp {X : Cx} {st : List Stmt} {t t' : TS} (h : PSs X st t) (w : ∀ D σ H, t' D σ H → t D σ H) : PSs X st t' := ⟨fun pins s σ H D I q => h.run pins s σ H D I (w D σ H q)⟩
theorem pg_imp {X : Cx} {e : Expr} {t t' : TG} (h : PG X e t) (w : ∀ v σ H Q, t' v σ H Q → t v σ H Q) : PG X e t' := ⟨fun pins s σ H v u Q I r q => h.run pins s σ H v u Q I r (w v σ H Q q)⟩
section
variable {Γ : Gm} {k n : Nat} {c : Cm} {X : Cx} {F : Fx}
theorem swap_plain {e : Expr} {t : Option Expr} {l : Nat} {env : Env} (h : isCompE e = false) : swapsWith e t l env = pure false := by
  cases e <;> first | rfl | simp [isCompE] at h
theorem sw_false {elt : Expr} {gs : List Comprehension} {s : Scope} {p py : Pos} {y : Str} {l : Nat} {env : Env} {c : Cm} (hs : env.scope = c.sc) (h : lcIn c s p y py = false) : swapsWith (.ListComp elt gs s p) (some (.Name y py)) l env = pure false := by
  have e : (env.kindOf y == some .local) = decide (c.sc.names.lookup y = some .local) := by
    show (env.scope.names.lookup y == some .local) = _
    rw [hs, Bool.beq_eq_decide_eq]
  unfold lcIn at h
  unfold swapsWith
  simp only [Expr.pos, e]
  rw [show (env.blockKind == ScopeKind.function && decide (c.sc.names.lookup y = some .local) && py.line == p.line && !(s.names.any fun (m, k) => m == y && (k == .local || k == .cell))) = false by
    rw [Bool.and_assoc, Bool.and_assoc, ← Bool.and_assoc (decide _), h, Bool.and_false]]
theorem swap_call {f : Expr} {es : List Expr} {ks : List Keyword} {p : Pos} {t : Option Expr} {l : Nat} {env : Env} : swapsWith (.Call f es ks p) t l env = pure false := rfl
/-- name = e -/
theorem ps_nmE {e : Expr} {xe : Ex} {y : Str} {i : Nat} {py pos : Pos} (x : XOk Γ k c X) (hy : isLoc c y = true) (hi : ixOf c.N y = some i) (hs : isCompE e = false) (he : PE X e (rdE F (wp Γ xe))) : PS X (.Assign [.Name y py] e pos) (rdSt F (wpS Γ (.asg (.nm i) xe))) := by
  refine ps_imp (ps_set (by rw [x.N]; exact x.nd) (by rw [x.N]; exact ixOf_get hi) (isLoc_of hy x.sc) he (swap_plain hs) (x.fn y hy)) fun D σ H ⟨ρ, E, er, hw, lk⟩ => ⟨ρ, _, er, hw, fun v H' d ρ' er' g r h => ?_⟩
  obtain ⟨ρ2, h2, hn⟩ := bnd_ex h
  obtain ⟨e2, g2⟩ := er'.setVal r h2
  exact lk.nx _ _ ρ2 e2 (g.trans g2) hn
theorem own_end {xe : Ex} {i : Nat} {D : Ends} {σ : Stt} {H : Hp} (fo : FOk F) (h : rdSt F (wpS Γ (.own i xe)) D σ H) : rdN F (wp Γ xe) σ H fun v H1 => D.nx (σ.set i (some v)) H1 := by
  obtain ⟨ρ, E, er, hw, lk⟩ := h
  refine ⟨ρ, _, er, hw, fun a o H' d ρ' n nG er' g nc h => ?_⟩
  obtain ⟨ρ2, h2, hn⟩ := bnd_ex h
  obtain ⟨e2, g2⟩ := er'.setOwn n nG nc h2
  exact lk.nx _ _ ρ2 e2 (g.trans g2) hn
theorem nm_end {xe : Ex} {i : Nat} {D : Ends} {σ : Stt} {H : Hp} (h : rdSt F (wpS Γ (.asg (.nm i) xe)) D σ H) : rdE F (wp Γ xe) σ H fun v H1 => D.nx (σ.set i (some v)) H1 := by
  obtain ⟨ρ, E, er, hw, lk⟩ := h
  refine ⟨ρ, _, er, hw, fun v H' d ρ' er' g r h => ?_⟩
  obtain ⟨ρ2, h2, hn⟩ := bnd_ex h
  obtain ⟨e2, g2⟩ := er'.setVal r h2
  exact lk.nx _ _ ρ2 e2 (g.trans g2) hn
theorem rdE_N {w : WP} {σ : Stt} {H : Hp} {Q : VK} (h : rdE F w σ H Q) : rdN F w σ H Q := by
  obtain ⟨ρ, P, er, hw, hq⟩ := h
  exact ⟨ρ, P, er, hw, fun a o H' d ρ' n nG er' g nc hp => hq _ _ d ρ' (er'.laid n) (fun b u hb q => ⟨by rw [upd_ne (ne_of_none (g b u hb q).1 n)]; exact (g b u hb q).1, (g b u hb q).2⟩) (nc.rp n er'.muts) hp⟩
theorem ps_ownE {e : Expr} {xe : Ex} {y : Str} {i : Nat} {py pos : Pos} (x : XOk Γ k c X) (fo : FOk F) (hy : isLoc c y = true) (hi : ixOf c.N y = some i) (hs : isCompE e = false) (he : PE X e (rdN F (wp Γ xe))) : PS X (.Assign [.Name y py] e pos) (rdSt F (wpS Γ (.own i xe))) :=
  ps_imp (ps_set (by rw [x.N]; exact x.nd) (by rw [x.N]; exact ixOf_get hi) (isLoc_of hy x.sc) he (swap_plain hs) (x.fn y hy)) fun D σ H h => own_end fo h
/-- a comprehension that was compiled -/
theorem comp_of (okn : ∀ n, OkN Γ k n) (x : XOk Γ k c X) (hK : F.K = X.fg) (fo : FOk F) {e : Expr} {gs : List Comprehension} {s : Scope} {p : Pos} {xe : Ex} (h : cE n c (.ListComp e gs s p) = some xe) :
    PE X (.ListComp e gs s p) (rdN F (wp Γ xe)) ∧ ∀ {nn : Str} {i : Nat} {py spos : Pos}, X.N[i]? = some nn → X.env.scope.names.lookup nn = some .local → (py.line == p.line) = true → (s.names.any fun (m, k) => m == nn && (k == .local || k == .cell)) = false →
      PS X (.Assign [.Name nn py] (.ListComp e gs s p) spos) (tAsg (rdN F (wp Γ xe)) (gName i)) := by
  cases n with
  | zero => simp [cE] at h
  | succ n =>
    have ih := okn n
    unfold cE at h
    split at h <;> first | (rename_i e; cases e; done) | (rename_i e _; cases e; done) | (cases h; done) | skip
    rename_i e t it ifs s p eq
    cases eq
    split at h
    · cases h
    · rename_i hs
      simp only [Bool.or_eq_true, Bool.not_eq_true', not_or, Bool.not_eq_true, Bool.not_eq_false] at hs
      obtain ⟨⟨s1, s2⟩, s3⟩ := hs
      obtain ⟨z, hz, h⟩ := Option.bind_eq_some_iff.mp h
      obtain ⟨g, hg, h⟩ := Option.bind_eq_some_iff.mp h
      split at h
      · cases h
      · rename_i hsl
        obtain ⟨q, hq, h⟩ := Option.bind_eq_some_iff.mp h
        obtain ⟨y, hy, e⟩ := Option.map_eq_some_iff.mp h
        subst e
        simp only [Bool.not_eq_true', Bool.not_eq_false, List.all_eq_true, List.contains_iff_mem] at hsl
        have ok : CompOk Γ c X F t it ifs s e z.1 z.2 g q y := ⟨s2, hsl, s1, ih.I x hK fo hz, fun s H C cl fp F hK fo => pg_ok (x.into s H _ C cl fp) hK hg, fun s H C cl fp F hK fo => ih.T (x.into s H _ C cl fp) hK fo hq, fun s H C cl fp F hK fo => ih.E (x.into s H _ C cl fp) hK fo hy⟩
        unfold mkComp
        cases hl : lkN c it with
        | none => exact ⟨pe_comp x hK fo ok, fun a1 a2 a3 a4 => ps_comp x hK fo ok a1 a2 a3 a4⟩
        | some i =>
          obtain ⟨w, p, rfl, hv, hi⟩ := lkN_of hl
          have := cI_name hv hi hz
          subst this
          exact ⟨pe_compL x hK fo (vis_at x hv hi) ok, fun a1 a2 a3 a4 => ps_compL x hK fo (vis_at x hv hi) ok a1 a2 a3 a4⟩
/-- name = e, any that was compiled -/
theorem ps_asgN (okn : ∀ n, OkN Γ k n) (x : XOk Γ k c X) (hK : F.K = X.fg) (fo : FOk F) {e : Expr} {xe : Ex} {y : Str} {i : Nat} {py pos : Pos} (hy : isLoc c y = true) (hl : lcOk c e y py = true) (hi : ixOf c.N y = some i) (he : cE n c e = some xe) :
    PS X (.Assign [.Name y py] e pos) (rdSt F (wpS Γ (.asg (.nm i) xe))) := by
  by_cases hc : isCompE e = true
  · cases e <;> first | (simp [isCompE] at hc; done) | (simp [lcOk, isCompE] at hl; done) | skip
    obtain ⟨pe, ps⟩ := comp_of okn x hK fo he
    rename_i elt gs s p
    by_cases hl : lcIn c s p y py = true
    · simp only [lcIn, Bool.and_eq_true, decide_eq_true_eq, Bool.not_eq_true'] at hl
      exact ps_imp (ps (by rw [x.N]; exact ixOf_get hi) (by rw [x.sc]; exact hl.1.1) hl.1.2 hl.2) fun D σ H h => rdE_N (nm_end h)
    · exact ps_imp (ps_set (by rw [x.N]; exact x.nd) (by rw [x.N]; exact ixOf_get hi) (isLoc_of hy x.sc) pe (sw_false x.sc (by simpa using hl)) (x.fn y hy)) fun D σ H h => rdE_N (nm_end h)
  · exact ps_nmE x hy hi (by simpa using hc) ((okn n).E x hK fo he)
/-- list(x), sorted(x), dict(x) -/
theorem pe_freshB (ih : OkN Γ k n) (x : XOk Γ k c X) (hK : F.K = X.fg) (fo : FOk F) {f : Str} {es : List Expr} {p pos : Pos} {xe : Ex} (hnf : c.fs.contains f = false) (hf : f = "list" ∨ f = "sorted" ∨ f = "dict") (h1 : es.length = 1) (h : cE (n + 1) c (.Call (.Name f p) es [] pos) = some xe) :
    PE X (.Call (.Name f p) es [] pos) (rdN F (wp Γ xe)) := by
  have hne : es ≠ [] := fun z => by rw [z] at h1; cases h1
  have bN : ∀ {b : Bf}, bfOf f es.length = some b → newF b = true := fun {b} hb => by
    rw [h1] at hb
    rcases hf with rfl | rfl | rfl
    · have : b = .list := by have e : bfOf "list" 1 = some .list := by decide
                             rw [e] at hb; exact (Option.some.inj hb).symm
      rw [this]; rfl
    · have : b = .sorted := by have e : bfOf "sorted" 1 = some .sorted := by decide
                               rw [e] at hb; exact (Option.some.inj hb).symm
      rw [this]; rfl
    · have : b = .dpairs := by have e : bfOf "dict" 1 = some .dpairs := by decide
                               rw [e] at hb; exact (Option.some.inj hb).symm
      rw [this]; rfl
  unfold cE at h
  dsimp only at h
  split at h
  · cases h
  · rename_i hg
    have hg' : isGl c f = true := by simpa using hg
    rw [hnf] at h
    simp only [Bool.false_eq_true, if_false] at h
    split at h
    · cases h
    · rename_i hb
      have hb' : f ∈ c.bl := by simpa using hb
      have gen : ((bfOf f es.length).bind fun b => (cEs n c es).map (.bi b)) = some xe → PE X (.Call (.Name f p) es [] pos) (rdN F (wp Γ xe)) := fun h => by
        obtain ⟨b, hb2, h⟩ := Option.bind_eq_some_iff.mp h
        obtain ⟨q, hq, e⟩ := Option.map_eq_some_iff.mp h
        subst e
        exact pe_biN x hK fo hg' hb' hb2 (bN hb2) hne (cEs_star (n := n) (c := c) hq) (ih.L x hK fo hq)
      split at h
      · simp at h1
      · split at h
        · rename_i hs
          simp only [Bool.and_eq_true, Bool.or_eq_true, decide_eq_true_eq, List.contains_iff_mem] at hs
          obtain ⟨⟨⟨s1, s2⟩, s3⟩, s4⟩ := hs
          obtain ⟨q, hq, e⟩ := Option.map_eq_some_iff.mp h
          subst e s1
          have ef : f = "sorted" := by
            rcases s4 with e | e
            · exact e
            · exfalso
              rw [e] at hf
              revert hf; decide
          subst ef
          exact pe_setN x hK fo hg' hb' s2 s3 (cE_star hq) (ih.O x hK fo hq)
        · split at h
          · rename_i hs
            simp only [Bool.and_eq_true, Bool.or_eq_true, decide_eq_true_eq, List.contains_iff_mem] at hs
            obtain ⟨⟨⟨s1, s2⟩, s3⟩, s4⟩ := hs
            obtain ⟨q, hq, e⟩ := Option.map_eq_some_iff.mp h
            subst e s1
            have ef : f = "list" := by
              rcases s4 with e | e
              · exfalso
                rw [e] at hf
                revert hf; decide
              · exact e
            subst ef
            exact pe_lrngN x hK fo hg' hb' s2 s3 (cE_star hq) (ih.O x hK fo hq)
          · split at h
            · rename_i hs
              simp only [Bool.and_eq_true, decide_eq_true_eq, List.contains_iff_mem] at hs
              obtain ⟨⟨⟨s1, s2⟩, s3⟩, s4⟩ := hs
              obtain ⟨q, hq, e⟩ := Option.map_eq_some_iff.mp h
              subst e s1 s4
              exact pe_denumN x hK fo hg' hb' s2 s3 (cE_star hq) (ih.E x hK fo hq)
            · exact gen h
      · exact gen h
/-- a new list, as a value -/
theorem pe_fresh (okn : ∀ n, OkN Γ k n) (x : XOk Γ k c X) (hK : F.K = X.fg) (fo : FOk F) {e : Expr} {xe : Ex} (hf : freshE c e = true) (he : cE n c e = some xe) : PE X e (rdN F (wp Γ xe)) := by
  cases n with
  | zero => simp [cE] at he
  | succ n =>
    cases e with
    | List es p =>
      simp only [cE] at he
      obtain ⟨q, hq, e⟩ := Option.map_eq_some_iff.mp he
      subst e
      exact pe_lstN fo ((okn n).S x hK fo hq)
    | ListComp e gs s p =>
      exact (comp_of okn x hK fo he).1
    | Dict ks vs p =>
      unfold cE at he
      split at he <;> first | (rename_i e; cases e; done) | (rename_i e _; cases e; done) | (cases he; done) | skip
      · rename_i eq
        cases eq
        cases he
        exact pe_dnewN fo
      · rename_i eq
        cases eq
        split at he
        · cases he
        · rename_i hs
          simp only [Bool.or_eq_true, Bool.not_eq_true', not_or, Bool.not_eq_false, decide_eq_false_iff_not, Decidable.not_not] at hs
          obtain ⟨q, hq, e⟩ := Option.map_eq_some_iff.mp he
          subst e
          have pl := pairs_len _ _ X.env (⟨0, 0, 0, 0⟩) _ _ _ hq
          exact pe_ddpN x fo hK (fun F hK fo => (okn n).D x hK fo hq) pl.1 pl.2 hs.1 hs.2
    | BinOp a op b p =>
      unfold freshE at hf
      split at hf <;> first | (rename_i e; cases e; done) | (rename_i e _; cases e; done) | (cases hf; done) | skip
      rename_i eq
      cases eq
      simp only [cE] at he
      obtain ⟨q, hq, he⟩ := Option.bind_eq_some_iff.mp he
      obtain ⟨q', hq', e⟩ := Option.map_eq_some_iff.mp he
      subst e
      exact pe_repN hK fo (pe_lstN fo ((okn n).S x hK fo hq)) ((okn n).O x hK fo hq')
    | Call f es ks p =>
      unfold freshE at hf
      split at hf <;> first | (rename_i e; cases e; done) | (rename_i e _; cases e; done) | (cases hf; done) | skip
      rename_i f p1 es p2 eq
      cases eq
      by_cases hfs : c.fs.contains f = true
      case neg =>
        rw [if_neg hfs] at hf
        simp only [Bool.and_eq_true, Bool.or_eq_true, decide_eq_true_eq] at hf
        exact pe_freshB (okn n) x hK fo (by simpa using hfs) (hf.1.elim (fun h => h.elim .inl fun h => .inr (.inl h)) fun h => .inr (.inr h)) hf.2 he
      rw [if_pos hfs] at hf
      have hf : f ∈ c.fs ∧ f ∈ c.nf := ⟨by simpa using hfs, by simpa using hf⟩
      have key : cE (n + 1) c (.Call (.Name f p1) es [] p) = if !isGl c f then none else if es.isEmpty then none else (cEs n c es).map (.call f) := by
        have e1 : c.fs.contains f = true := by simpa using hf.1
        simp only [cE, e1, if_true]
      rw [key] at he
      split at he
      · cases he
      · rename_i hg
        split at he
        · cases he
        · rename_i hne
          obtain ⟨q, hq, e⟩ := Option.map_eq_some_iff.mp he
          subst e
          exact pe_callN x hK fo hf.2 (by simpa using hg) (by intro z; rw [z] at hne; exact hne rfl) (cEs_star (n := n) (c := c) hq) fun io ps hp => (okn n).A x hK fo hq hp
    | _ => simp [freshE] at hf
theorem ps_asgO (okn : ∀ n, OkN Γ k n) (x : XOk Γ k c X) (hK : F.K = X.fg) (fo : FOk F) {e : Expr} {xe : Ex} {y : Str} {i : Nat} {py pos : Pos} (hf : freshE c e = true) (hy : isLoc c y = true) (hl : lcOk c e y py = true) (hi : ixOf c.N y = some i) (he : cE n c e = some xe) :
    PS X (.Assign [.Name y py] e pos) (rdSt F (wpS Γ (.own i xe))) := by
  by_cases hc : isCompE e = true
  · cases e <;> first | (simp [isCompE] at hc; done) | (simp [lcOk, isCompE] at hl; done) | skip
    obtain ⟨pe, ps⟩ := comp_of okn x hK fo he
    rename_i elt gs s p
    by_cases hl : lcIn c s p y py = true
    · simp only [lcIn, Bool.and_eq_true, decide_eq_true_eq, Bool.not_eq_true'] at hl
      exact ps_imp (ps (by rw [x.N]; exact ixOf_get hi) (by rw [x.sc]; exact hl.1.1) hl.1.2 hl.2) fun D σ H h => own_end fo h
    · exact ps_imp (ps_set (by rw [x.N]; exact x.nd) (by rw [x.N]; exact ixOf_get hi) (isLoc_of hy x.sc) pe (sw_false x.sc (by simpa using hl)) (x.fn y hy)) fun D σ H h => own_end fo h
  · exact ps_ownE x fo hy hi (by simpa using hc) (pe_fresh okn x hK fo hf he)
/-- a, b = e -/
theorem ps_tupE (x : XOk Γ k c X) (hK : F.K = X.fg) {e : Expr} {ts : List Expr} {xe : Ex} {t : Tg} {kt : Nat} {pt pos : Pos} (ht : cT c n (.Tuple ts kt pt) = some t) (hw : ∀ env, env = X.env → env.blockKind = .function → swappedStores [.Tuple ts kt pt] e env = pure none) (he : PE X e (rdE F (wp Γ xe))) :
    PS X (.Assign [.Tuple ts kt pt] e pos) (rdSt F (wpS Γ (.asg t xe))) := by
  refine ⟨fun pins s σ H D I h => ?_⟩
  have hb : X.env.blockKind = .function := by unfold Env.blockKind; rw [I.ok.kind]; rfl
  refine (ps_imp (ps_asg he (pg_ok x hK ht) (by cases e <;> rfl) (hw _ rfl hb)) fun D σ H ⟨ρ, E, er, hw, lk⟩ => ?_).run pins s σ H D I h
  refine ⟨ρ, _, er, hw, fun v H' d ρ' er' g r h => ⟨ρ', d, _, er', r, h, fun σ2 ρ2 e2 g2 _ h2 => lk.nx _ _ ρ2 e2 (g.trans g2) h2⟩⟩
theorem sw_none {e : Expr} {ts : List Expr} {kt : Nat} {pt : Pos} (h : isTupE e = false) (env : Env) : swappedStores [.Tuple ts kt pt] e env = pure none := by
  cases e <;> first | rfl | simp [isTupE] at h
theorem isStarB_eq : (fun e : Expr => match e with | .Starred .. => true | _ => false) = isStarB := by
  funext e; cases e <;> rfl
theorem swpS_ok {env : Env} {ts vs : List Expr} {kt k2 : Nat} {pt p2 : Pos} {r : Option (List Str)} (hb : env.blockKind = .function) (h : swpS env.scope ts vs = some r) : swappedStores [.Tuple ts kt pt] (.Tuple vs k2 p2) env = pure r := by
  unfold swpS at h
  unfold swappedStores
  simp only [hb]
  have e0 : (ScopeKind.function != ScopeKind.function) = false := rfl
  rw [e0, Bool.or_false]
  split at h
  · rename_i q; cases h; exact if_pos q
  · rename_i q
    refine (if_neg q).trans ?_
    split at h
    · rename_i q; cases h; exact if_pos q
    · rename_i q
      refine (if_neg q).trans ?_
      simp only at h
      split at h
      · rename_i q; cases h; exact if_pos q
      · rename_i q
        refine (if_neg q).trans ?_
        split at h
        · rename_i q; cases h; exact if_pos q
        · rename_i q
          refine (if_neg q).trans ?_
          split at h
          · cases h
          · rename_i q
            cases h
            exact if_neg q
end
end MW

set_option Elab.async false
set_option linter.all false
set_option maxRecDepth 100000
/-! MW16: statements -/
namespace MW
open PySem PySem.Spec PyProof.Rows L2
theorem list_extendW (l : Addr) (items : Array Value) (n : Nat) (b : Addr) (items2 : Array Value) (n2 : Nat) (dd : Option Addr) (sl : Array (Option Value))
    (hc0 : ¬(!items.isEmpty && Builtin.List.listTooLong (items.size + items2.size)) = true) (hc1 : items.size ≤ sizeLine) (hs2 : items.size + items2.size ≤ sizeLine + 1) :
    Meets (Builtin.«list.extend» ⟨[.ref l, .ref b], []⟩) (fun _ R s => s.heap.get? l = some { cls := .type "list", data := .seq items n } ∧ s.heap.get? b = some { cls := .type "list", dict := dd, data := .seq items2 n2, slots := sl } ∧ R (.ok (.ret Value.none)) { s with heap := s.heap.update l (Obj.mapSeq fun x => x ++ items2), toks := s.toks }) :=
  .of_wp fun prog w A R s h => by
    obtain ⟨hp, g, d, tk, os⟩ := s
    obtain ⟨hl, hb, h⟩ := h
    have f1 := AutoSeq1.idx_int
    have f2 := AutoSeq1.sub_tuple_tuple
    have f3 := AutoSeq1.sub_list_list
    have f4 := AutoSeq1.sub_tuple_list
    have f5 := AutoSeq1.sub_list_tuple
    have hz' : (items ++ items2).size ≤ sizeLine + 1 := by rw [Array.size_append]; exact hs2
    wp_walk using (wpAny_updateSeq hl rfl (hz := hc1) (_hz' := hz')), AutoSeq1.wpAny_loadPart' hl, AutoSeq1.wpAny_loadPart' hb
    exact ⟨_, rfl, h⟩
theorem list_extendT (l : Addr) (items : Array Value) (n : Nat) (b : Addr) (items2 : Array Value) (n2 : Nat) (dd : Option Addr) (sl : Array (Option Value))
    (hc0 : ¬(!items.isEmpty && Builtin.List.listTooLong (items.size + items2.size)) = true) (hc1 : items.size ≤ sizeLine) (hs2 : items.size + items2.size ≤ sizeLine + 1) :
    Meets (Builtin.«list.extend» ⟨[.ref l, .ref b], []⟩) (fun _ R s => s.heap.get? l = some { cls := .type "list", data := .seq items n } ∧ s.heap.get? b = some { cls := .type "tuple", dict := dd, data := .seq items2 n2, slots := sl } ∧ R (.ok (.ret Value.none)) { s with heap := s.heap.update l (Obj.mapSeq fun x => x ++ items2), toks := s.toks }) :=
  .of_wp fun prog w A R s h => by
    obtain ⟨hp, g, d, tk, os⟩ := s
    obtain ⟨hl, hb, h⟩ := h
    have f1 := AutoSeq1.idx_int
    have f2 := AutoSeq1.sub_tuple_tuple
    have f3 := AutoSeq1.sub_list_list
    have f4 := AutoSeq1.sub_tuple_list
    have f5 := AutoSeq1.sub_list_tuple
    have hz' : (items ++ items2).size ≤ sizeLine + 1 := by rw [Array.size_append]; exact hs2
    wp_walk using (wpAny_updateSeq hl rfl (hz := hc1) (_hz' := hz')), AutoSeq1.wpAny_loadPart' hl, AutoSeq1.wpAny_loadPart' hb
    exact ⟨_, rfl, h⟩
section
variable {Γ : Gm} {k n : Nat} {c : Cm} {X : Cx} {F : Fx}
def rExtL (K : Fg) : V → List V → Hp → VK → Prop := fun x vs H Q => ∃ l b xs zs, x = .ref l ∧ vs = [.ref b] ∧ H l = some (.lst xs) ∧ (SqL K.f H b zs ∨ SqT K.f H b zs) ∧ xs.length + zs.length ≤ sizeLine ∧ Q .non (upd H l (.lst (xs ++ zs)))
theorem mt_extL : MtR X "list.extend" (rExtL X.fg) := by
  intro pins s σ H x vs v us Q I rx rv h
  obtain ⟨l, b, xs, zs, rfl, rfl, hH, hB, hz, q⟩ := h
  cases rx
  obtain ⟨u, rfl, ru⟩ := rv.one
  cases ru
  obtain ⟨z, its, n, r, hl, e⟩ := I.lstM hH
  have fin : ∀ {its2 : List Value}, Vals zs its2 → EP X pins σ Q .none { s with heap := s.heap.update l (Obj.mapSeq fun x => x ++ its2.toArray), toks := s.toks } := fun {its2} r2 =>
    ⟨.non, _, I.lset (its' := its ++ its2) hH e (by simp) (r.append r2) (by rw [List.length_append]; exact hz), rfl, q⟩
  have sizes : ∀ {its2 : List Value}, Vals zs its2 → its.toArray.size + its2.toArray.size ≤ sizeLine := fun r2 => by have := r2.length; rw [List.size_toArray, List.size_toArray]; omega
  have long : ∀ {its2 : List Value}, Vals zs its2 → ¬ (!its.toArray.isEmpty && Builtin.List.listTooLong (its.toArray.size + its2.toArray.size)) = true := fun r2 => by
    rw [notLongL (sizes r2), Bool.and_false]
    exact Bool.false_ne_true
  rcases hB with hB | hB
  · obtain ⟨its2, r2, p2, _⟩ := I.list hB
    obtain ⟨⟨cls2, dd2, data2, sl2⟩, n2, ho2, hc2, hd02, hd2⟩ := p2
    simp only at hc2 hd2
    subst hc2 hd2
    refine call_meets F.slot_list_extend ⟨_, e, rfl⟩ F.entry_list_extend (F.args_list_extend_2 _ _) (list_extendW l its.toArray n b its2.toArray n2 dd2 sl2 (long r2) (by rw [List.size_toArray]; omega) (by have := sizes r2; omega)) ⟨e, ho2, fin r2⟩
  · obtain ⟨its2, r2, p2, _⟩ := I.tuple hB
    obtain ⟨⟨cls2, dd2, data2, sl2⟩, ho2, hc2, n2, hd2⟩ := p2
    simp only at hc2 hd2
    subst hc2 hd2
    refine call_meets F.slot_list_extend ⟨_, e, rfl⟩ F.entry_list_extend (F.args_list_extend_2 _ _) (list_extendT l its.toArray n b its2.toArray n2 dd2 sl2 (long r2) (by rw [List.size_toArray]; omega) (by have := sizes r2; omega)) ⟨e, ho2, fin r2⟩



theorem ps_app {y : Str} {i : Nat} {a : Expr} {xa : Ex} {p ap cp pos : Pos} (x : XOk Γ k c X) (hK : F.K = X.fg) (hv : isVis c y = true) (hi : ixOf c.N y = some i) (hline : (ap.endLine == cp.line) = true) (hst : isStar a = false) (ha : PE X a (rdE F (wp Γ xa))) :
    PS X (.Expr (.Call (.Attribute (.Name y p) "append" ap) [a] [] cp) pos) (rdSt F (wpS Γ (.app i xa))) := by
  refine ps_imp (ps_expr (pe_bm PySem.F.plainAttrs_list PySem.F.slot_list_append PySem.F.type_list_append mt_append (vis_at x hv hi) (pa_cons ha pa_nil (star_plain hst)) rfl (few1 hst) hline (star_plain hst) rfl) swap_call) fun D σ H ⟨ρ, E, er, hw, lk⟩ => ?_
  obtain ⟨ds0, h0, hw⟩ := bnd_ex hw
  obtain ⟨b, vs0, hb, hb2, _, _⟩ := getc_list er h0
  refine ⟨.ref b, hb, .inl ⟨rfl, vs0, SqL.of hb2⟩, ρ, _, er, hw, fun v H1 d ρ1 er1 g1 r1 h1 => ?_⟩
  obtain ⟨ds, hds, hlen, h2⟩ := bnd_ex h1
  obtain ⟨ρ2, hs, hn⟩ := bnd_ex h2
  obtain ⟨b', vs, hb', hv', rps, hg⟩ := getc_list er1 hds
  rw [hb] at hb'; cases hb'
  obtain ⟨e2, g2⟩ := er1.setC hg hb (.list (rps.append (.cons r1 .nil))) hs
  exact ⟨b, vs, v, rfl, rfl, hv', by rw [rps.length]; exact hlen, lk.nx _ _ ρ2 e2 (g1.trans g2) hn⟩
theorem ps_ext {y : Str} {i : Nat} {a : Expr} {xa : Ex} {p ap cp pos : Pos} (x : XOk Γ k c X) (hK : F.K = X.fg) (hv : isVis c y = true) (hi : ixOf c.N y = some i) (hline : (ap.endLine == cp.line) = true) (hst : isStar a = false) (ha : PE X a (rdO F xa (wp Γ xa))) :
    PS X (.Expr (.Call (.Attribute (.Name y p) "extend" ap) [a] [] cp) pos) (rdSt F (wpS Γ (.ext i xa))) := by
  refine ps_imp (ps_expr (pe_bm PySem.F.plainAttrs_list PySem.F.slot_list_extend PySem.F.type_list_extend mt_extL (vis_at x hv hi) (pa_cons ha pa_nil (star_plain hst)) rfl (few1 hst) hline (star_plain hst) rfl) swap_call) fun D σ H ⟨ρ, E, er, hw, lk⟩ => ?_
  obtain ⟨ds0, h0, hw⟩ := bnd_ex hw
  obtain ⟨b, vs0, hb, hb2, _, _⟩ := getc_list er h0
  refine ⟨.ref b, hb, .inl ⟨rfl, vs0, SqL.of hb2⟩, ρ, _, er, hw, fun v H1 r ρ1 er1 g1 l1 h1 => ?_⟩
  obtain ⟨ds, hds, h2⟩ := bnd_ex h1
  obtain ⟨es, hes, hlen, h3⟩ := bnd_ex h2
  obtain ⟨ρ2, hs, hn⟩ := bnd_ex h3
  obtain ⟨d, hd, hes⟩ := Option.bind_eq_some_iff.mp hes
  have o := l1 H1 ρ1 d er1 Go.refl hd
  obtain ⟨b', vs, hb', hv', rps, hg⟩ := getc_list er1 hds
  rw [hb] at hb'; cases hb'
  have seq : ∃ a zs, v = .ref a ∧ (SqL F.K.f H1 a zs ∨ SqT F.K.f H1 a zs) ∧ Rps F.K H1 (Av F σ ρ1) zs es := by
    cases d <;> first | (simp [asLT] at hes; done) | skip
    · cases hes
      obtain ⟨a, zs, e, q, r⟩ := o.lst
      exact ⟨a, zs, e, .inl q, r⟩
    · cases hes
      obtain ⟨a, zs, e, q, r⟩ := o.tup
      exact ⟨a, zs, e, .inr q, r⟩
  obtain ⟨a2, zs, rfl, sq, rz⟩ := seq
  rw [hK] at sq
  obtain ⟨e2, g2⟩ := er1.setC hg hb (.list (rps.append rz)) hs
  exact ⟨b, a2, vs, zs, rfl, rfl, hv', sq, by rw [rps.length, rz.length]; exact fitL_iff.mp hlen, lk.nx _ _ ρ2 e2 (g1.trans g2) hn⟩
theorem ps_rvs {y : Str} {i : Nat} {p ap cp pos : Pos} (x : XOk Γ k c X) (hv : isVis c y = true) (hi : ixOf c.N y = some i) (hline : (ap.endLine == cp.line) = true) :
    PS X (.Expr (.Call (.Attribute (.Name y p) "reverse" ap) [] [] cp) pos) (rdSt F (wpS Γ (.rvs i))) := by
  refine ps_imp (ps_expr (pe_bm0 PySem.F.plainAttrs_list PySem.F.slot_list_reverse PySem.F.type_list_reverse mt_reverse (vis_at x hv hi) rfl hline) swap_call) fun D σ H ⟨ρ, E, er, hw, lk⟩ => ?_
  obtain ⟨ds, hds, hw⟩ := bnd_ex hw
  obtain ⟨ρ2, hs, hn⟩ := bnd_ex hw
  obtain ⟨b, vs, hb, hb2, rps, hg⟩ := getc_list er hds
  obtain ⟨e2, g2⟩ := er.setC hg hb (.list rps.reverse) hs
  exact ⟨.ref b, hb, .inl ⟨rfl, vs, SqL.of hb2⟩, b, vs, rfl, rfl, hb2, lk.nx _ _ ρ2 e2 g2 hn⟩
theorem getc_dict {H : Hp} {σ : Stt} {ρ : Evn} {i : Nat} {kv : List D × List D} (er : ER F H σ ρ) (h : (getc ρ i).bind asDi = some kv) : ∃ a, σ[i]? = some (some (.ref a)) ∧ Dc F.K H (Av F σ ρ) a kv.1 kv.2 ∧ getc ρ i = some (.dict kv.1 kv.2) := by
  obtain ⟨d, hd, h⟩ := Option.bind_eq_some_iff.mp h
  cases d <;> first | (simp [asDi] at h; done) | skip
  cases h
  obtain ⟨a, h1, ct⟩ := er.ct hd
  exact ⟨a, h1, ct.dic, hd⟩
/-- d[y] = v, what is asked -/
def sDPutM (K : Fg) (td ty tv : TE) : TS := fun D σ H => tv σ H fun v H1 => td σ H1 fun x H2 => ty σ H2 fun y H3 => ∃ a O ks vs dy d, x = .ref a ∧ Dc K H3 O a ks vs ∧ Opd K H3 O y dy ∧ isKey dy = true ∧ kfit ks dy = true ∧ ks.length < sizeLine ∧ Rp K H3 O v d ∧
  ∀ ho, Nc K H3 O a ho (.dict (dputK ks dy) (dputV ks vs dy d)) → D.nx σ (upd H3 a ho)
theorem ps_dputM {o i value : Expr} {td ty tv : TE} {pos' pos : Pos} (hu : X.A.units + 200 < cLine) (ho : PE X o td) (hi : PE X i ty) (hv : PE X value tv) (hs : swapsWith value (some (.Subscript o i pos')) pos.line X.env = pure false) :
    PS X (.Assign [.Subscript o i pos'] value pos) (sDPutM X.fg td ty tv) := by
  refine ⟨fun pins s σ H D I h => ?_⟩
  refine wpAny_Assign_Subscript (thn (hv.run pins s σ H _ I h) fun r s1 ⟨v, H1, I1, rv, q1⟩ => thn (ho.run pins s1 σ H1 _ I1 q1) fun u s2 ⟨x, H2, I2, rx, q2⟩ => thn (hi.run pins s2 σ H2 _ I2 q2) fun iv s3 ⟨y, H3, I3, ry, a, O, ks, vs, dy, d, ex, c, oy, hk, hf, hl, rp, q3⟩ => ?_) hs
  subst ex
  cases (show u = Value.ref a from rx)
  exact dc_set hu I3 c oy hk hf hl ry rv rp fun ho s4 nc I4 => ⟨σ, _, I4, q3 ho nc⟩
theorem ps_dputE {y : Str} {i : Nat} {a e : Expr} {xa xe : Ex} {p sp pos : Pos} (x : XOk Γ k c X) (hK : F.K = X.fg) (hv : isVis c y = true) (hi : ixOf c.N y = some i) (hsl : isSlcE a = false) (ha : PE X a (rdE F (wp Γ xa))) (he : PE X e (rdE F (wp Γ xe)))
    {pins : List (Addr × Obj)} {s : Shared} {σ : Stt} {H : Hp} {D : Ends} (I : Inv X pins σ H s) {ρ : Evn} {E : Nd} (er : ER F H σ ρ)
    (hw : wp Γ xe ρ fun d ρ1 => bnd ((getc ρ1 i).bind asDi) fun _ => wp Γ xa ρ1 fun x ρ2 => bnd ((getc ρ2 i).bind asDi) fun kv => isKey x = true ∧ kfit kv.1 x = true ∧ kv.1.length < sizeLine ∧ bnd (setc ρ2 i (.dict (dputK kv.1 x) (dputV kv.1 kv.2 x d))) E.nx) (lk : Lk F D E σ H ρ) :
    wpAny (model X.prog X.w) X.A (exec (.Assign [.Subscript (.Name y p) a sp] e pos) X.env) (SP X pins D) X.xe s := by
  refine (ps_dputM (by have := x.units; omega) (vis_at x hv hi) ha he (by cases e <;> rfl)).run pins s σ H D I ⟨ρ, _, er, hw, fun v H1 d ρ1 er1 g1 r1 h1 => ?_⟩
  obtain ⟨kv0, h0, h1⟩ := bnd_ex h1
  obtain ⟨b, hb, _⟩ := getc_dict er1 h0
  refine ⟨.ref b, hb, ρ1, _, er1, h1, fun yv H2 z ρ2 er2 g2 r2 h2 => ?_⟩
  obtain ⟨kv, hkv, hkey, hfit, hlen, h3⟩ := bnd_ex h2
  obtain ⟨ρ3, hs3, hn⟩ := bnd_ex h3
  obtain ⟨b', hb', dc, hg⟩ := getc_dict er2 hkv
  rw [hb] at hb'; cases hb'
  have rv := r1.go (gm_av g2) er1.muts
  rw [← hK]
  refine ⟨b, _, _, _, _, _, rfl, dc, .inl r2, hkey, hfit, hlen, rv, fun ho nc => ?_⟩
  obtain ⟨e3, g3⟩ := er2.setC hg hb nc hs3
  exact lk.nx _ _ ρ3 e3 ((g1.trans g2).trans g3) hn
theorem ps_setI {y : Str} {i : Nat} {a e : Expr} {xa xe : Ex} {p sp pos : Pos} (x : XOk Γ k c X) (hK : F.K = X.fg) (hv : isVis c y = true) (hi : ixOf c.N y = some i) (hsl : isSlcE a = false) (ha : PE X a (rdE F (wp Γ xa))) (he : PE X e (rdE F (wp Γ xe))) :
    PS X (.Assign [.Subscript (.Name y p) a sp] e pos) (rdSt F (wpS Γ (.setI i xa xe))) := by
  refine ⟨fun pins s σ H D I h => ?_⟩
  obtain ⟨ρ, E, er, hw, lk⟩ := h
  unfold MW.wpS at hw
  split at hw
  · exact ps_dputE x hK hv hi hsl ha he I er hw lk
  · have hg : PG X (.Subscript (.Name y p) a sp) (gSub (tVar i) (rdE F (wp Γ xa)) rSetL) := pg_sub (vis_at x hv hi) ha set_list fun v => by cases a <;> first | rfl | simp [isSlcE] at hsl
    refine (ps_asg he hg (by cases e <;> rfl) (by cases e <;> rfl)).run pins s σ H D I ⟨ρ, _, er, hw, fun v H1 d ρ1 er1 g1 r1 h1 => ?_⟩
    obtain ⟨ds0, h0, h1⟩ := bnd_ex h1
    obtain ⟨b, vs0, hb, hb2, _, _⟩ := getc_list er1 h0
    refine ⟨.ref b, hb, ρ1, _, er1, h1, fun kv H2 z ρ2 er2 g2 r2 h2 => ?_⟩
    obtain ⟨ds, hds, h3⟩ := bnd_ex h2
    obtain ⟨j, hj, ⟨j0, j1⟩, h4⟩ := bnd_ex h3
    obtain ⟨ρ3, hs, hn⟩ := bnd_ex h4
    obtain ⟨b', vs, hb', hv', rps, hg⟩ := getc_list er2 hds
    rw [hb] at hb'; cases hb'
    cases z <;> first | (simp [asI] at hj; done) | skip
    cases hj
    cases Opd.int (.inl r2)
    obtain ⟨e3, g3⟩ := er2.setC hg hb (.list (rps.set j.toNat (r1.go (gm_av g2) er1.muts))) hs
    refine ⟨b, vs, j, j.toNat, rfl, rfl, hv', ?_, lk.nx _ _ ρ3 e3 ((g1.trans g2).trans g3) hn⟩
    unfold ixN
    rw [if_pos j0, if_pos (by rw [rps.length]; exact j1)]
/-- a, b = x, y -/
theorem ps_parE {xn yn : Str} {i j : Nat} {a b : Expr} {xs : List Ex} {px py pt pos : Pos} {kt k2 : Nat} {p2 : Pos} (x : XOk Γ k c X) (hK : F.K = X.fg) (hi : ixOf c.N xn = some i) (hj : ixOf c.N yn = some j) (hij : i ≠ j)
    (hx : c.sc.names.lookup xn = some .local) (hy : c.sc.names.lookup yn = some .local) (hsw : swpS c.sc [.Name xn px, .Name yn py] [a, b] = some (some [xn, yn])) (ha : PA X [a, b] (rdS F (wps Γ xs))) :
    PS X (.Assign [.Tuple [.Name xn px, .Name yn py] kt pt] (.Tuple [a, b] k2 p2) pos) (rdSt F (wpS Γ (.par [i, j] xs))) := by
  refine ⟨fun pins s σ H D I h => ?_⟩
  have hb : X.env.blockKind = .function := by unfold Env.blockKind; rw [I.ok.kind]; rfl
  have hw : swappedStores [.Tuple [.Name xn px, .Name yn py] kt pt] (.Tuple [a, b] k2 p2) X.env = pure (some [xn, yn]) := swpS_ok hb (by rw [x.sc]; exact hsw)
  refine (ps_imp (ps_par x.calm (by rw [x.N]; exact x.nd) (by rw [x.N]; exact ixOf_get hi) (by rw [x.N]; exact ixOf_get hj) hij (by rw [x.sc]; exact hx) (by rw [x.sc]; exact hy) ha hw rfl) fun D σ H ⟨ρ, E, er, hw, lk⟩ => ⟨ρ, _, er, hw, fun vs H1 ds ρ1 er1 g1 r1 h1 => ?_⟩).run pins s σ H D I h
  obtain ⟨ρ2, hs, hn⟩ := bnd_ex h1.2
  match vs, ds, r1 with
  | [], [], _ => simp [setvs] at hs
  | [_], [_], _ => simp [setvs] at hs
  | [u, v], [d, e], .cons ru (.cons rv .nil) =>
    simp only [setvs] at hs
    obtain ⟨ρa, h1, hs⟩ := Option.bind_eq_some_iff.mp hs
    obtain ⟨ρb, h2, hs⟩ := Option.bind_eq_some_iff.mp hs
    cases hs
    obtain ⟨ea, ga⟩ := er1.setVal ru h1
    obtain ⟨eb, gb⟩ := ea.setVal (rv.go (gm_av ga) er1.muts) h2
    exact ⟨u, v, rfl, lk.nx _ _ _ eb ((g1.trans ga).trans gb) hn⟩
  | _ :: _ :: _ :: _, _, .cons _ (.cons _ (.cons _ _)) => simp [setvs, Option.bind_eq_some_iff] at hs
theorem ps_exE {f : Expr} {es : List Expr} {ks : List Keyword} {p pos : Pos} {xe : Ex} (he : PE X (.Call f es ks p) (rdE F (wp Γ xe))) : PS X (.Expr (.Call f es ks p) pos) (rdSt F (wpS Γ (.ex xe))) :=
  ps_imp (ps_expr he swap_call) fun D σ H ⟨ρ, E, er, hw, lk⟩ => ⟨ρ, _, er, hw, fun v H1 d ρ1 er1 g1 r1 h1 => lk.nx _ _ _ er1 g1 h1⟩
theorem ps_retE {e : Expr} {xe : Ex} {pos : Pos} (he : PE X e (rdE F (wp Γ xe))) : PS X (.Return (some e) pos) (rdSt F (wpS Γ (.ret xe))) :=
  ps_imp (ps_ret he) fun D σ H ⟨ρ, E, er, hw, lk⟩ => ⟨ρ, _, er, hw, fun v H1 d ρ1 er1 g1 r1 h1 => lk.rt _ _ _ _ _ er1 g1 r1 h1⟩
theorem ps_retF {e : Expr} {xe : Ex} {pos : Pos} (he : PE X e (rdN F (wp Γ xe))) : PS X (.Return (some e) pos) (rdSt F (wpS Γ (.retF xe))) :=
  ps_imp (ps_ret he) fun D σ H ⟨ρ, E, er, hw, lk⟩ => ⟨ρ, _, er, hw, fun a o H1 d ρ1 n nG er1 g1 r1 h1 => lk.rn _ _ _ _ _ _ n nG er1 g1 r1 h1⟩
/-- a list of one's own, given away -/
theorem ER.give {σ : Stt} {H : Hp} {ρ : Evn} {i : Nat} {d : D} (er : ER F H σ ρ) (h : ρ[i]? = some (.own d)) : ∃ a o, σ[i]? = some (some (.ref a)) ∧ F.G a = none ∧ H = upd (del H a) a o ∧ ER F (del H a) σ (ρ.set i .no) ∧ Go H (Mine σ ρ) (del H a) (Mine σ (ρ.set i .no)) ∧ Nc F.K (del H a) (Av F σ (ρ.set i .no)) a o d := by
  obtain ⟨a, h1, h2, h3, h4⟩ := er.own i d h
  have mi : Mine σ ρ a := ⟨i, isM_own h, h1⟩
  have ism : ∀ j, IsM (ρ.set i .no) j → j ≠ i ∧ IsM ρ j := fun j hj => isM_set_val (x := .no) (fun d2 => ⟨(by intro z; cases z), (by intro z; cases z)⟩) hj
  have sub : ∀ b, Av F σ (ρ.set i .no) b → Av F σ ρ b := by
    rintro b (hb | ⟨j, hm, hs⟩)
    · exact .inl hb
    · exact .inr ⟨j, (ism j hm).2, hs⟩
  have na : ∀ b, Av F σ (ρ.set i .no) b → b ≠ a := by
    rintro b (hb | ⟨j, hm, hs⟩) rfl
    · exact h2 hb
    · exact (ism j hm).1 (er.inj j i b (ism j hm).2 (isM_own h) hs h1)
  have go : Go H (Av F σ ρ) (del H a) (Av F σ (ρ.set i .no)) := fun b o hb n => ⟨by rw [del_ne (show b ≠ a from fun z => n (.inr (by rw [z]; exact mi)))]; exact hb, fun z => n (sub b z)⟩
  have gm : Go H (Mine σ ρ) (del H a) (Mine σ (ρ.set i .no)) := fun b o hb n => ⟨by rw [del_ne (show b ≠ a from fun z => n (by rw [z]; exact mi))]; exact hb, fun ⟨j, hm, hs⟩ => n ⟨j, (ism j hm).2, hs⟩⟩
  have dl : ∀ b, Av F σ (ρ.set i .no) b → del H a b = H b := fun b hb => del_ne (na b hb)
  obtain ⟨o, ho, nc⟩ : ∃ o, H a = some o ∧ Nc F.K (del H a) (Av F σ (ρ.set i .no)) a o d := by
    cases h4 with
    | list q r => exact ⟨_, q, .list (r.go go er.muts)⟩
    | dictK q r => exact ⟨_, q, .dictK (r.go go er.muts)⟩
    | dictN q e t z r => exact ⟨_, q, .dictN e t (z.go go er.muts) (r.go go er.muts)⟩
  refine ⟨a, o, h1, h3, (upd_del ho).symm, ⟨by rw [List.length_set]; exact er.len, fun b hb => by rw [dl b (.inl hb)]; exact er.amb b hb, fun j x hj => ?_, fun j x hj => ?_, fun j x hj => ?_, fun j k b hj hk s1 s2 => er.inj j k b (ism j hj).2 (ism k hk).2 s1 s2, fun b u hb hn => ?_⟩, gm, nc⟩
  · rcases set_cases hj with ⟨rfl, q⟩ | ⟨n, q⟩
    · cases q
    · obtain ⟨v, q1, q2⟩ := er.val j x q; exact ⟨v, q1, q2.go go er.muts⟩
  · have hj' := hj
    rcases set_cases hj with ⟨_, q⟩ | ⟨n, q⟩
    · cases q
    · obtain ⟨b, q1, q2, q3, q4⟩ := er.own j x q
      exact ⟨b, q1, q2, q3, q4.go go er.muts (dl b (.inr ⟨j, isM_own hj', q1⟩))⟩
  · have hj' := hj
    rcases set_cases hj with ⟨_, q⟩ | ⟨n, q⟩
    · cases q
    · obtain ⟨b, q1, q2, q3, q4⟩ := er.io j x q
      exact ⟨b, q1, q2, q3, q4.go go er.muts (dl b (.inr ⟨j, isM_io hj', q1⟩))⟩
  · have := er.since b u hb hn
    rw [del_ne]
    · exact this
    · rintro rfl
      rw [h3] at hb; cases hb
theorem ps_retO {y : Str} {i : Nat} {p pos : Pos} (x : XOk Γ k c X) (hv : isVis c y = true) (hi : ixOf c.N y = some i) : PS X (.Return (some (.Name y p)) pos) (rdSt F (wpS Γ (.retO i))) := by
  refine ps_imp (ps_ret (vis_at x hv hi)) fun D σ H ⟨ρ, E, er, hw, lk⟩ => ?_
  obtain ⟨d, hd, hr⟩ := bnd_ex hw
  have : ρ[i]? = some (.own d) := by
    unfold ownD at hd
    split at hd
    · rename_i q; cases hd; exact q
    · cases hd
  obtain ⟨a, o, h1, h2, h3, h4, h5, h6⟩ := er.give this
  refine ⟨.ref a, h1, ?_⟩
  rw [h3]
  exact lk.rn a o σ (del H a) d _ del_same h2 h4 h5 h6 hr
theorem ps_retNE {pos : Pos} : PS X (.Return none pos) (rdSt F (wpS Γ .retN)) :=
  ps_imp ps_retN fun D σ H ⟨ρ, E, er, hw, lk⟩ => lk.rt _ _ _ _ _ er Go.refl .none hw
theorem ps_ifS {t : Expr} {a b : List Stmt} {xt : Co} {xa xb : List Sm} {pos : Pos} (ht : L2.PT X t (rdC F (wpc Γ xt))) (ha : PSs X a (rdSt F (wpB Γ xa))) (hb : PSs X b (rdSt F (wpB Γ xb))) : PS X (.If t a b pos) (rdSt F (wpS Γ (.ite xt xa xb))) := by
  refine ps_imp (ps_if ht ha hb) fun D σ H ⟨ρ, E, er, hw, lk⟩ => ⟨ρ, _, er, hw, fun z H1 ρ1 er1 g1 h1 => ?_⟩
  cases z with
  | true => simp only [if_true] at h1 ⊢; exact ⟨ρ1, E, er1, h1, lk.go g1⟩
  | false => simp only [Bool.false_eq_true, if_false] at h1 ⊢; exact ⟨ρ1, E, er1, h1, lk.go g1⟩
theorem passes0 {M : Model} {A : Around} {env : Env} {xe : Value → Shared → Prop} (h : ∀ e s, ¬ xe e s) : PassesOwn M A env xe := fun _ _ z => (h _ _ z).elim
theorem ps_forS {tg it : Expr} {body : List Stmt} {rg : Bool} {its : List Ex} {t : Tg} {b : List Sm} {pos : Pos} (x : XOk Γ k c X) (hK : F.K = X.fg) (hx : ∀ e s, ¬ X.xe e s) (hset : isSetE it = false) (hi : PI X tg it (rdI F rg (wps Γ its))) (hg : PG X tg (rdG F t)) (hb : PSs X body (rdSt F (wpB Γ b))) :
    PS X (.For tg it body [] pos) (rdSt F (wpS Γ (.for t rg its b))) := by
  refine ps_imp (ps_for (passes0 hx) x.calm hi hg hb (set_fold hset)) fun D σ H ⟨ρ, E, er, hw, lk⟩ => ?_
  refine ⟨ρ, _, er, hw, fun ds ρ' h => (bnd_ex h).elim fun xs q => ⟨xs, q.1⟩, fun J H1 ds xs ρ1 er1 g1 hxs dr h1 => ?_⟩
  obtain ⟨xs', hxs', hfor⟩ := bnd_ex h1
  rw [hxs] at hxs'; cases hxs'
  refine ⟨fun i m σ' H' => ∃ ρ', m = xs.length - i ∧ i ≤ xs.length ∧ ER F H' σ' ρ' ∧ Go H1 (Mine σ ρ1) H' (Mine σ' ρ') ∧ forW t (wpB Γ b) E (xs.drop i) ρ', ⟨xs.length, ρ1, rfl, Nat.zero_le _, er1, Go.refl, hfor⟩, ?_⟩
  rintro i m σ' H' ⟨ρ', rfl, hi', er', g', tu⟩
  obtain ⟨drG, drS⟩ := dr H' _ (gm_av g') er'.muts i
  by_cases hlt : i < xs.length
  · right
    obtain ⟨jg, jy⟩ := drG xs[i] (List.getElem?_eq_getElem hlt)
    rw [List.drop_eq_getElem_cons hlt] at tu
    refine ⟨jg, fun σ2 H2 => ∃ ρ2, ER F H2 σ2 ρ2 ∧ Go H1 (Mine σ ρ1) H2 (Mine σ2 ρ2) ∧ forW t (wpB Γ b) E (xs.drop (i + 1)) ρ2, fun σ2 H2 ⟨ρ2, e2, g2, h2⟩ => ⟨xs.length - (i + 1), by omega, ρ2, rfl, hlt, e2, g2, h2⟩, fun xv H2 yl => ?_⟩
    obtain ⟨ext, rx⟩ := jy xv H2 yl
    have er2 : ER F H2 σ' ρ' := er'.grow ext
    have g2 : Go H' (Mine σ' ρ') H2 (Mine σ' ρ') := fun b o hb n => ⟨ext b o hb, n⟩
    refine ⟨ρ', _, _, er2, rx, tu, fun σ3 ρ3 er3 g3 _ h3 => ⟨ρ3, _, er3, h3, ?_⟩⟩
    have G3 : Go H1 (Mine σ ρ1) H2 (Mine σ3 ρ3) := (g'.trans g2).trans g3
    exact ⟨fun σ4 H4 ρ4 e4 g4 h4 => ⟨ρ4, e4, G3.trans g4, h4⟩, fun σ4 H4 ρ4 e4 g4 h4 => lk.nx _ _ _ e4 ((g1.trans G3).trans g4) h4, fun v σ4 H4 d ρ4 e4 g4 r4 h4 => lk.rt _ _ _ _ _ e4 ((g1.trans G3).trans g4) r4 h4, fun a o σ4 H4 d ρ4 n4 m4 e4 g4 r4 h4 => lk.rn _ _ _ _ _ _ n4 m4 e4 ((g1.trans G3).trans g4) r4 h4⟩
  · left
    have e : i = xs.length := by omega
    subst e
    rw [List.drop_length] at tu
    exact ⟨drS (Nat.le_refl _), lk.nx _ _ _ er' (g1.trans g') tu⟩
/-- a name's list that may be changed, but is not, gone over -/
theorem ps_forL {tg : Expr} {body : List Stmt} {t : Tg} {b : List Sm} {y : Str} {i : Nat} {p pos : Pos} (x : XOk Γ k c X) (hK : F.K = X.fg) (hx : ∀ e s, ¬ X.xe e s) (hv : PE X (.Name y p) (tVar i)) (hi : PI X tg (.Name y p) (rdI F false (wps Γ [.var i]))) (hg : PG X tg (rdG F t)) (hb : PSs X body (rdSt F (wpB Γ b))) :
    PS X (.For tg (.Name y p) body [] pos) (rdSt F (wpS Γ (.forL t i b))) := by
  refine ⟨fun pins s σ H D I ⟨ρ, E, er, hw, lk⟩ => ?_⟩
  unfold MW.wpS at hw
  cases hl : ioL ρ i with
  | none =>
    rw [hl] at hw
    refine (ps_forS x hK hx rfl hi hg hb).run pins s σ H D I ⟨ρ, E, er, ?_, lk⟩
    unfold MW.wpS
    exact hw
  | some xs =>
    rw [hl] at hw
    have hs : ρ[i]? = some (.io (.list xs)) := by
      unfold ioL at hl
      split at hl
      · cases hl; assumption
      · cases hl
    obtain ⟨a, ha, hL, hA, ct⟩ := er.io i _ hs
    cases ct with
    | list hv0 rv0 =>
      rename_i vs
      refine (ps_for (passes0 hx) x.calm (pi_lk hK hv) hg hb (set_fold rfl)).run pins s σ H D I ?_
      refine ⟨a, vs, ha, hv0, fun i' m σ' H' => ∃ ρ', m = xs.length - i' ∧ i' ≤ xs.length ∧ ER F H' σ' ρ' ∧ Go H (Mine σ ρ) H' (Mine σ' ρ') ∧ forLW t i (.list xs) (wpB Γ b) E (xs.drop i') ρ', ⟨xs.length, ρ, rfl, Nat.zero_le _, er, Go.refl, hw⟩, ?_⟩
      rintro i' m σ' H' ⟨ρ', rfl, hi', er', g', tu⟩
      have io' : ρ'[i]? = some (.io (.list xs)) := by
        cases hd : xs.drop i' with
        | nil => rw [hd] at tu; exact tu.1
        | cons d ds => rw [hd] at tu; exact tu.1
      obtain ⟨a', ha', hL', _, ct'⟩ := er'.io i _ io'
      rw [hL] at hL'; cases hL'
      cases ct' with
      | list hv' rv' =>
        obtain ⟨drG, drS⟩ := lk_drv hv' rv' i'
        by_cases hlt : i' < xs.length
        · right
          obtain ⟨jg, jy⟩ := drG xs[i'] (List.getElem?_eq_getElem hlt)
          rw [List.drop_eq_getElem_cons hlt] at tu
          refine ⟨jg, fun σ2 H2 => ∃ ρ2, ER F H2 σ2 ρ2 ∧ Go H (Mine σ ρ) H2 (Mine σ2 ρ2) ∧ forLW t i (.list xs) (wpB Γ b) E (xs.drop (i' + 1)) ρ2, fun σ2 H2 ⟨ρ2, e2, g2, h2⟩ => ⟨xs.length - (i' + 1), by omega, ρ2, rfl, hlt, e2, g2, h2⟩, fun xv H2 yl => ?_⟩
          obtain ⟨ext, rx⟩ := jy xv H2 yl
          have er2 : ER F H2 σ' ρ' := er'.grow ext
          have g2 : Go H' (Mine σ' ρ') H2 (Mine σ' ρ') := fun b o hb n => ⟨ext b o hb, n⟩
          refine ⟨ρ', _, _, er2, rx, tu.2, fun σ3 ρ3 er3 g3 _ h3 => ⟨ρ3, _, er3, h3, ?_⟩⟩
          have G3 : Go H (Mine σ ρ) H2 (Mine σ3 ρ3) := (g'.trans g2).trans g3
          exact ⟨fun σ4 H4 ρ4 e4 g4 h4 => ⟨ρ4, e4, G3.trans g4, h4⟩, fun σ4 H4 ρ4 e4 g4 h4 => lk.nx _ _ _ e4 (G3.trans g4) h4, fun v σ4 H4 d ρ4 e4 g4 r4 h4 => lk.rt _ _ _ _ _ e4 (G3.trans g4) r4 h4, fun a o σ4 H4 d ρ4 n4 m4 e4 g4 r4 h4 => lk.rn _ _ _ _ _ _ n4 m4 e4 (G3.trans g4) r4 h4⟩
        · left
          have e : i' = xs.length := by omega
          subst e
          rw [List.drop_length] at tu
          exact ⟨drS (Nat.le_refl _), lk.nx _ _ _ er' g' tu.2⟩
theorem ps_whlS {t : Expr} {body : List Stmt} {xt : Co} {b : List Sm} {pos : Pos} (hx : ∀ e s, ¬ X.xe e s) (ht : L2.PT X t (rdC F (wpc Γ xt))) (hb : PSs X body (rdSt F (wpB Γ b))) : PS X (.While t body [] pos) (rdSt F (wpS Γ (.whl xt b))) := by
  refine ps_imp (ps_while (passes0 hx) ht hb) fun D σ H ⟨ρ, E, er, ⟨m0, hw⟩, lk⟩ => ?_
  refine ⟨fun m σ' H' => ∃ ρ', ER F H' σ' ρ' ∧ Go H (Mine σ ρ) H' (Mine σ' ρ') ∧ whlW (wpc Γ xt) (wpB Γ b) E m ρ', ⟨m0, ρ, er, Go.refl, hw⟩, ?_⟩
  rintro m σ' H' ⟨ρ', er', g', w⟩
  cases m with
  | zero => exact w.elim
  | succ m =>
    refine ⟨ρ', _, er', w, fun z H1 ρ1 er1 g1 h1 => ?_⟩
    cases z with
    | false => simp only [Bool.false_eq_true, if_false] at h1 ⊢; exact lk.nx _ _ _ er1 (g'.trans g1) h1
    | true =>
      simp only [if_true] at h1 ⊢
      refine ⟨fun σ2 H2 => ∃ ρ2, ER F H2 σ2 ρ2 ∧ Go H (Mine σ ρ) H2 (Mine σ2 ρ2) ∧ whlW (wpc Γ xt) (wpB Γ b) E m ρ2, fun σ2 H2 h2 => ⟨m, Nat.lt_succ_self m, h2⟩, ρ1, _, er1, h1, ?_⟩
      have G1 := g'.trans g1
      exact ⟨fun σ4 H4 ρ4 e4 g4 h4 => ⟨ρ4, e4, G1.trans g4, h4⟩, fun σ4 H4 ρ4 e4 g4 h4 => lk.nx _ _ _ e4 (G1.trans g4) h4, fun v σ4 H4 d ρ4 e4 g4 r4 h4 => lk.rt _ _ _ _ _ e4 (G1.trans g4) r4 h4, fun a o σ4 H4 d ρ4 n4 m4 e4 g4 r4 h4 => lk.rn _ _ _ _ _ _ n4 m4 e4 (G1.trans g4) r4 h4⟩
theorem ps_nextE {st : Stmt} (h : PS X st tNext) : PS X st (rdSt F (wpS Γ .pass)) := ps_imp h fun D σ H ⟨ρ, E, er, hw, lk⟩ => lk.nx _ _ _ er Go.refl hw
theorem ps_brkE {pos : Pos} : PS X (.Break pos) (rdSt F (wpS Γ .brk)) := ps_imp ps_break fun D σ H ⟨ρ, E, er, hw, lk⟩ => lk.bk _ _ _ er Go.refl hw
theorem ps_nevE {st : Stmt} : PS X st (rdSt F (wpS Γ .never)) := ps_imp ps_never fun D σ H ⟨ρ, E, er, hw, lk⟩ => hw
theorem pss_nilE : PSs X [] (rdSt F (wpB Γ [])) := pss_imp pss_nil fun D σ H ⟨ρ, E, er, hw, lk⟩ => lk.nx _ _ _ er Go.refl hw
theorem pss_consE {st : Stmt} {rest : List Stmt} {a : Sm} {b : List Sm} (h1 : PS X st (rdSt F (wpS Γ a))) (h2 : PSs X rest (rdSt F (wpB Γ b))) : PSs X (st :: rest) (rdSt F (wpB Γ (a :: b))) :=
  pss_imp (pss_cons h1 h2) fun D σ H ⟨ρ, E, er, hw, lk⟩ => ⟨ρ, _, er, hw, fun σ' H' ρ' e g h => ⟨ρ', E, e, h, lk.go g⟩, fun σ' H' ρ' e g h => lk.bk _ _ _ e g h, fun v σ' H' d ρ' e g r h => lk.rt _ _ _ _ _ e g r h, fun a o σ' H' d ρ' n m e g r h => lk.rn _ _ _ _ _ _ n m e g r h⟩
end
end MW

set_option Elab.async false
set_option linter.all false
set_option maxRecDepth 100000
/-! MW17: what is compiled is so, for statements; a def -/
namespace MW
open PySem PySem.Spec PyProof.Rows L2
section
variable {Γ : Gm} {k n : Nat} {c : Cm} {X : Cx} {F : Fx}
structure OkS (Γ : Gm) (k n : Nat) : Prop where
  S : ∀ {c : Cm} {X : Cx} {F : Fx} {s : Stmt} {x : Sm}, XOk Γ k c X → F.K = X.fg → FOk F → (∀ e s, ¬ X.xe e s) → cS n c s = some x → PS X s (rdSt F (wpS Γ x))
  B : ∀ {c : Cm} {X : Cx} {F : Fx} {s : List Stmt} {x : List Sm}, XOk Γ k c X → F.K = X.fg → FOk F → (∀ e s, ¬ X.xe e s) → cSs n c s = some x → PSs X s (rdSt F (wpB Γ x))
theorem okS_S (okn : ∀ n, OkN Γ k n) (ih : OkS Γ k n) (x : XOk Γ k c X) (hK : F.K = X.fg) (fo : FOk F) (hx : ∀ e s, ¬ X.xe e s) {s : Stmt} {xs : Sm} (h : cS (n + 1) c s = some xs) : PS X s (rdSt F (wpS Γ xs)) := by
  unfold cS at h
  split at h
  · cases h; exact ps_nextE ps_doc
  · split at h
    · rename_i hc
      simp only [Bool.and_eq_true, decide_eq_true_eq] at hc
      obtain ⟨⟨rfl, hv⟩, hl⟩ := hc
      obtain ⟨i, hi, e⟩ := Option.map_eq_some_iff.mp h
      subst e
      exact ps_rvs x hv hi hl
    · cases h
  · split at h
    · rename_i hc
      simp only [Bool.and_eq_true, decide_eq_true_eq] at hc
      obtain ⟨⟨rfl, hv⟩, hl⟩ := hc
      obtain ⟨i, hi, h⟩ := Option.bind_eq_some_iff.mp h
      obtain ⟨q, hq, e⟩ := Option.map_eq_some_iff.mp h
      subst e
      exact ps_app x hK hv hi hl (cE_star hq) ((okn n).E x hK fo hq)
    · split at h
      · rename_i hc
        simp only [Bool.and_eq_true, decide_eq_true_eq] at hc
        obtain ⟨⟨rfl, hv⟩, hl⟩ := hc
        obtain ⟨i, hi, h⟩ := Option.bind_eq_some_iff.mp h
        obtain ⟨q, hq, e⟩ := Option.map_eq_some_iff.mp h
        subst e
        exact ps_ext x hK hv hi hl (cE_star hq) ((okn n).O x hK fo hq)
      · cases h
  · obtain ⟨q, hq, e⟩ := Option.map_eq_some_iff.mp h
    subst e
    exact ps_exE ((okn n).E x hK fo hq)
  · cases h; exact ps_retNE
  · split at h
    · split at h
      · split at h
        · rename_i hv
          obtain ⟨i, hi, e⟩ := Option.map_eq_some_iff.mp h
          subst e
          exact ps_retO x hv hi
        · cases h
      · split at h
        · rename_i hf
          obtain ⟨q, hq, e⟩ := Option.map_eq_some_iff.mp h
          subst e
          exact ps_retF (pe_fresh okn x hK fo hf hq)
        · cases h
    · obtain ⟨q, hq, e⟩ := Option.map_eq_some_iff.mp h
      subst e
      exact ps_retE ((okn n).E x hK fo hq)
  · split at h
    · cases h
    · rename_i hc
      obtain ⟨i, hi, h⟩ := Option.bind_eq_some_iff.mp h
      have hc' := hc
      simp only [Bool.not_eq_true', Bool.not_eq_false] at hc'
      split at h
      · obtain ⟨q, hq, h⟩ := Option.bind_eq_some_iff.mp h
        obtain ⟨q', hq', e⟩ := Option.map_eq_some_iff.mp h
        subst e
        exact ps_ownE x fo hc' hi rfl (pe_catN hK fo ((okn n).O x hK fo hq) (PE.new (pe_lstN fo ((okn n).S x hK fo hq'))))
      · obtain ⟨q, hq, e⟩ := Option.map_eq_some_iff.mp h
        subst e
        exact ps_asgN okn x hK fo hc' (by simp [lcOk, isCompE]) hi hq
  · split at h
    · cases h
    · rename_i hc
      simp only [Bool.or_eq_true, Bool.not_eq_true', not_or, Bool.not_eq_true, Bool.not_eq_false] at hc
      obtain ⟨i, hi, h⟩ := Option.bind_eq_some_iff.mp h
      split at h
      · rename_i hf
        simp only [Bool.and_eq_true] at hf
        obtain ⟨q, hq, e⟩ := Option.map_eq_some_iff.mp h
        subst e
        exact ps_asgO okn x hK fo hf.1 hc.1 hc.2 hi hq
      · obtain ⟨q, hq, e⟩ := Option.map_eq_some_iff.mp h
        subst e
        exact ps_asgN okn x hK fo hc.1 hc.2 hi hq
  · obtain ⟨r, hr, h⟩ := Option.bind_eq_some_iff.mp h
    cases r with
    | none =>
      simp only at h
      obtain ⟨t, ht, h⟩ := Option.bind_eq_some_iff.mp h
      obtain ⟨q, hq, e⟩ := Option.map_eq_some_iff.mp h
      subst e
      exact ps_tupE x hK ht (fun env he hb => by subst he; exact swpS_ok hb (by rw [x.sc]; exact hr)) ((okn n).E x hK fo hq)
    | some r =>
      simp only at h
      obtain ⟨i, hi, h⟩ := Option.bind_eq_some_iff.mp h
      obtain ⟨j, hj, h⟩ := Option.bind_eq_some_iff.mp h
      split at h
      · cases h
      · rename_i hc
        simp only [Bool.or_eq_true, Bool.not_eq_true', not_or, Bool.not_eq_true, Bool.not_eq_false, decide_eq_true_eq, decide_eq_false_iff_not, Decidable.not_not] at hc
        obtain ⟨⟨⟨c1, c2⟩, c3⟩, c4⟩ := hc
        obtain ⟨q, hq, e⟩ := Option.map_eq_some_iff.mp h
        subst e c1
        exact ps_parE x hK hi hj c2 c3 c4 hr ((okn n).S x hK fo hq)
  · split at h
    · cases h
    · rename_i hc
      obtain ⟨t, ht, h⟩ := Option.bind_eq_some_iff.mp h
      obtain ⟨q, hq, e⟩ := Option.map_eq_some_iff.mp h
      subst e
      exact ps_tupE x hK ht (fun env _ _ => sw_none (by simpa using hc) env) ((okn n).E x hK fo hq)
  · split at h
    · cases h
    · rename_i hc
      simp only [Bool.or_eq_true, Bool.not_eq_true', not_or, Bool.not_eq_true, Bool.not_eq_false] at hc
      obtain ⟨j, hj, h⟩ := Option.bind_eq_some_iff.mp h
      obtain ⟨u, hu, h⟩ := Option.bind_eq_some_iff.mp h
      obtain ⟨q, hq, e⟩ := Option.map_eq_some_iff.mp h
      subst e
      exact ps_setI x hK hc.2 hj hc.1 ((okn n).E x hK fo hu) ((okn n).E x hK fo hq)
  · obtain ⟨z, hz, h⟩ := Option.bind_eq_some_iff.mp h
    obtain ⟨u, hu, h⟩ := Option.bind_eq_some_iff.mp h
    obtain ⟨q, hq, e⟩ := Option.map_eq_some_iff.mp h
    subst e
    exact ps_ifS ((okn n).C x hK fo hz) (ih.B x hK fo hx hu) (ih.B x hK fo hx hq)
  · split at h
    · cases h
    · rename_i hs
      obtain ⟨z, hz, h⟩ := Option.bind_eq_some_iff.mp h
      obtain ⟨g, hg, h⟩ := Option.bind_eq_some_iff.mp h
      obtain ⟨q, hq, e⟩ := Option.map_eq_some_iff.mp h
      subst e
      unfold mkFor
      cases hl : lkN c _ with
      | none => exact ps_forS x hK hx (by simpa using hs) ((okn n).I x hK fo hz) (pg_ok x hK hg) (ih.B x hK fo hx hq)
      | some i =>
        obtain ⟨w, p, e, hv, hi⟩ := lkN_of hl
        subst e
        have := cI_name hv hi hz
        subst this
        exact ps_forL x hK hx (vis_at x hv hi) ((okn n).I x hK fo hz) (pg_ok x hK hg) (ih.B x hK fo hx hq)
  · obtain ⟨z, hz, h⟩ := Option.bind_eq_some_iff.mp h
    obtain ⟨q, hq, e⟩ := Option.map_eq_some_iff.mp h
    subst e
    exact ps_whlS hx ((okn n).C x hK fo hz) (ih.B x hK fo hx hq)
  · cases h; exact ps_brkE
  · cases h; exact ps_nextE ps_pass
  · cases h; exact ps_nevE
  · cases h
theorem okS_B (ih : OkS Γ k n) (x : XOk Γ k c X) (hK : F.K = X.fg) (fo : FOk F) (hx : ∀ e s, ¬ X.xe e s) {s : List Stmt} {xs : List Sm} (h : cSs (n + 1) c s = some xs) : PSs X s (rdSt F (wpB Γ xs)) := by
  cases s with
  | nil => simp only [cSs] at h; cases h; exact pss_nilE
  | cons a r =>
    simp only [cSs] at h
    obtain ⟨u, hu, h⟩ := Option.bind_eq_some_iff.mp h
    obtain ⟨q, hq, e⟩ := Option.map_eq_some_iff.mp h
    subst e
    exact pss_consE (ih.S x hK fo hx hu) (ih.B x hK fo hx hq)
theorem okSt : ∀ n, OkS Γ k n
  | 0 => ⟨fun _ _ _ _ h => by simp [cS] at h, fun _ _ _ _ h => by simp [cSs] at h⟩
  | n + 1 => ⟨fun x hK fo hx h => okS_S okN (okSt n) x hK fo hx h, fun x hK fo hx h => okS_B (okSt n) x hK fo hx h⟩
end
end MW

set_option Elab.async false
set_option linter.all false
set_option maxRecDepth 100000
/-! MW18: a def -/
namespace MW
open PySem PySem.Spec PyProof.Rows L2
theorem ev0_get {io : List Bool} {n : Nat} {ds : List D} (hl : ds.length = io.length) {i : Nat} {x : Sl} (h : (ev0 io n ds)[i]? = some x) : (∃ d, x = .val d ∧ io[i]? = some false ∧ ds[i]? = some d) ∨ (∃ d, x = .io d ∧ io[i]? = some true ∧ ds[i]? = some d) ∨ x = .no := by
  unfold ev0 at h
  by_cases hi : i < ds.length
  · rw [List.getElem?_append_left (by rw [List.length_zipWith]; omega)] at h
    have hio : i < io.length := by omega
    rw [List.getElem?_zipWith, List.getElem?_eq_getElem hio, List.getElem?_eq_getElem hi] at h
    simp only [Option.some.injEq] at h
    rw [List.getElem?_eq_getElem hio, List.getElem?_eq_getElem hi]
    cases e : io[i] with
    | false => rw [e] at h; simp at h; exact .inl ⟨_, h.symm, rfl, rfl⟩
    | true => rw [e] at h; simp at h; exact .inr (.inl ⟨_, h.symm, rfl, rfl⟩)
  · rw [List.getElem?_append_right (by rw [List.length_zipWith]; omega)] at h
    obtain ⟨_, e⟩ := List.getElem?_eq_some_iff.mp h
    simp at e
    exact .inr (.inr e.symm)
theorem Ars.getV {K : Fg} {H : Hp} {A : AS} : ∀ {io : List Bool} {vs : List V} {ds : List D}, Ars K H A io vs ds → ∀ (i : Nat) (d : D), io[i]? = some false → ds[i]? = some d → ∃ v, vs[i]? = some v ∧ Rp K H A v d
  | _, _, _, .nil, i, d, h, _ => by simp at h
  | _, _, _, .val r t, 0, d, h, h2 => by simp at h2; subst h2; exact ⟨_, rfl, r⟩
  | _, _, _, .val r t, i + 1, d, h, h2 => by simpa using t.getV i d (by simpa using h) (by simpa using h2)
  | _, _, _, .io _ _ t, 0, d, h, h2 => by simp at h
  | _, _, _, .io _ _ t, i + 1, d, h, h2 => by simpa using t.getV i d (by simpa using h) (by simpa using h2)
theorem Ars.getA {K : Fg} {H : Hp} {A : AS} : ∀ {io : List Bool} {vs : List V} {ds : List D}, Ars K H A io vs ds → ∀ (i : Nat), io[i]? = some true → ∃ a d, vs[i]? = some (.ref a) ∧ ds[i]? = some d ∧ A a ∧ Ct K H A a d
  | _, _, _, .nil, i, h => by simp at h
  | _, _, _, .val r t, 0, h => by simp at h
  | _, _, _, .val r t, i + 1, h => by simpa using t.getA i (by simpa using h)
  | _, _, _, .io (a := a) (d := d) h1 h2 t, 0, h => ⟨a, d, rfl, rfl, h1, h2⟩
  | _, _, _, .io _ _ t, i + 1, h => by simpa using t.getA i (by simpa using h)
theorem start_get {N : List Str} {vs : List V} {i : Nat} {v : V} (h : vs[i]? = some v) : (L2.start N vs)[i]? = some (some v) := by
  have hi := (List.getElem?_eq_some_iff.mp h).1
  unfold L2.start
  rw [List.getElem?_append_left (by rw [List.length_map]; exact hi), List.getElem?_map, h]; rfl
theorem start_inv {N : List Str} {vs : List V} {i : Nat} {v : V} (h : (L2.start N vs)[i]? = some (some v)) : vs[i]? = some v := by
  unfold L2.start at h
  by_cases hi : i < vs.length
  · rw [List.getElem?_append_left (by rw [List.length_map]; exact hi), List.getElem?_map] at h
    cases e : vs[i]? with
    | none => rw [e] at h; cases h
    | some u => rw [e] at h; simp at h; rw [h]
  · rw [List.getElem?_append_right (by rw [List.length_map]; omega)] at h
    obtain ⟨_, e⟩ := List.getElem?_eq_some_iff.mp h
    simp at e
theorem outs_of {K : Fg} {H : Hp} {A : AS} : ∀ {io : List Bool} {vs : List V} {ρ : Evn} {outs : List D}, vs.length = io.length → (∀ (i : Nat) (d : D), ρ[i]? = some (Sl.io d) → io[i]? = some true → ∃ a : Addr, vs[i]? = some (V.ref a) ∧ Ct K H A a d) → outsO io ρ = some outs → Outs K H A io vs outs
  | [], [], ρ, outs, _, _, h => by simp [outsO] at h; subst h; exact .nil
  | [], _ :: _, _, _, hl, _, _ => by simp at hl
  | _ :: _, [], _, _, hl, _, _ => by simp at hl
  | false :: io, v :: vs, ρ, outs, hl, hg, h => by
    simp only [outsO] at h
    refine .val (outs_of (by simpa using hl) (fun i d h1 h2 => ?_) h)
    cases ρ with
    | nil => simp at h1
    | cons x ρ => simpa using hg (i + 1) d (by simpa using h1) (by simpa using h2)
  | true :: io, v :: vs, ρ, outs, hl, hg, h => by
    unfold outsO at h
    split at h
    · rename_i d ρ
      obtain ⟨q, hq, e⟩ := Option.map_eq_some_iff.mp h
      subst e
      obtain ⟨a, ha, ct⟩ := hg 0 d rfl rfl
      have : v = .ref a := by simpa using ha
      subst this
      refine .io ct (outs_of (by simpa using hl) (fun i d h1 h2 => ?_) hq)
      simpa using hg (i + 1) d (by simpa using h1) (by simpa using h2)
    · cases h
/-- the module's constants and what is not of the module -/
structure MOk (K : Fg) (mg : Str → Option Value) (gl : List (Str × D)) (bl : List Str) : Prop where
  bl : ∀ x ∈ bl, mg x = none
  gl : ∀ x d, gl.lookup x = some d → ∃ u v, mg x = some u ∧ RelV v u ∧ ∀ H O, Rp K H O v d
def GOk (P : Program) (w : World) (K : PySem.W.Frag) (mg : Str → Option Value) (base : Heap) (Γ : Gm) (k : Nat) : Prop :=
  ∀ f F, Γ f = some F → ∃ a fd ps, mg f = some (.ref a) ∧ PySem.W.keepIn K (.ref a) = true ∧ Binds K fd ps [] ∧ FnG P w K mg base k a fd ps (spG ⟨K, w⟩ F)
theorem GOk.up {P : Program} {w : World} {K : PySem.W.Frag} {mg : Str → Option Value} {base : Heap} {Γ : Gm} {j k : Nat} (g : GOk P w K mg base Γ j) (h : j ≤ k) : GOk P w K mg base Γ k := fun f F e => by
  obtain ⟨a, fd, ps, h1, h2, h3, h4⟩ := g f F e
  exact ⟨a, fd, ps, h1, h2, h3, h4.up h⟩
section
variable {P : Program} {w : World} {K : PySem.W.Frag} {mg : Str → Option Value} {base : Heap}
theorem fnG_of {x qual : Str} {params : Arguments} {body : List Stmt} {scope : Scope} {f : Addr} {fd : FuncData} {N ps : List Str} {k m : Nat} {Γ : Gm} {gl : List (Str × D)} {fs bl ms : List Str} {io : List Bool} {bx : List Sm} {nw : Bool} {nf : List Str} (F : FunD K x qual params body scope [] [] f fd) (S : FnScope N ps scope)
    (hc : cSs m { N := N, sc := scope, gl := gl, fs := fs, bl := bl, ms := ms, nw := nw, nf := nf } body = some bx) (hio : io.length = ps.length) (mo : MOk ⟨K, w⟩ mg gl bl) (g : GOk P w K mg base Γ k) (hnf : ∀ f, f ∈ nf → ∃ F, Γ f = some F ∧ F.nw = true) :
    FnG P w K mg base (k + 1) f fd ps (spG ⟨K, w⟩ ⟨io, wpD nw Γ io N.length bx, nw⟩) := by
  have len : ∀ vs H Q E, spG ⟨K, w⟩ ⟨io, wpD nw Γ io N.length bx, nw⟩ vs H Q E → vs.length = ps.length := by
    rintro vs H Q E ⟨A, ds, R, _, ars, _⟩
    rw [ars.len.1]; exact hio
  refine FunD.okG F S len fun cdv A outer s H vs Q E hg hr hsp => ?_
  obtain ⟨AA, ds, R, mu, ars, ion, hpt, fin⟩ := hsp
  have ars : Ars ⟨K, w⟩ H AA io vs ds := ars
  have ion : IoN io vs := ion
  have hpt : wpD nw Γ io N.length bx ds R := hpt
  let Fx' : Fx := ⟨⟨K, w⟩, AA, H, fun i => if io[i]? = some true then (match vs[i]? with | some (.ref a) => some a | _ => none) else none⟩
  have hL : ∀ i a, Fx'.L i = some a ↔ io[i]? = some true ∧ vs[i]? = some (.ref a) := fun i a => by
    show (if io[i]? = some true then (match vs[i]? with | some (.ref a) => some a | _ => none) else none) = some a ↔ _
    split
    · rename_i q
      constructor
      · intro h
        refine ⟨q, ?_⟩
        split at h
        · rename_i b hb; cases h; exact hb
        · cases h
      · rintro ⟨_, h⟩
        rw [h]
    · rename_i q
      exact ⟨fun h => (by cases h), fun h => absurd h.1 q⟩
  have fo : FOk Fx' := fun j a h => by
    obtain ⟨h1, h2⟩ := (hL j a).mp h
    obtain ⟨a', d, q1, _, q3, _⟩ := ars.getA j h1
    rw [h2] at q1; cases q1
    exact q3
  have hNl : ps.length ≤ N.length := by
    have := congrArg List.length S.pre
    rw [List.length_take] at this
    omega
  have hvl := ars.len
  have ism : ∀ i, IsM (ev0 io N.length ds) i → io[i]? = some true := fun i h => by
    rw [isM_iff] at h
    rcases h with ⟨d, h⟩ | ⟨d, h⟩
    · rcases ev0_get hvl.2 h with ⟨_, e, _⟩ | ⟨_, e, _⟩ | e <;> cases e
    · rcases ev0_get hvl.2 h with ⟨_, e, _⟩ | ⟨_, _, q, _⟩ | e
      · cases e
      · exact q
      · cases e
  have av : ∀ a, Av Fx' (L2.start N vs) (ev0 io N.length ds) a → AA a := by
    rintro a (h | ⟨j, hm, hs⟩)
    · exact h
    · obtain ⟨a', d, q1, _, q3, _⟩ := ars.getA j (ism j hm)
      rw [start_inv hs] at q1; cases q1
      exact q3
  have er : ER Fx' H (L2.start N vs) (ev0 io N.length ds) := by
    refine ⟨?_, mu, fun i d h => ?_, fun i d h => ?_, fun i d h => ?_, fun i j a h1 h2 s1 s2 => ?_, fun b o hb _ => hb⟩
    · unfold ev0 L2.start
      rw [List.length_append, List.length_append, List.length_zipWith, List.length_map, List.length_replicate, List.length_replicate]
      omega
    · rcases ev0_get hvl.2 h with ⟨d', e, q1, q2⟩ | ⟨_, e, _⟩ | e
      · cases e
        obtain ⟨v, hv, rp⟩ := ars.getV i d q1 q2
        exact ⟨v, start_get hv, rp.weak av⟩
      · cases e
      · cases e
    · rcases ev0_get hvl.2 h with ⟨_, e, _⟩ | ⟨_, e, _⟩ | e <;> cases e
    · rcases ev0_get hvl.2 h with ⟨_, e, _⟩ | ⟨d', e, q1, q2⟩ | e
      · cases e
      · cases e
        obtain ⟨a, d2, p1, p2, p3, p4⟩ := ars.getA i q1
        rw [q2] at p2; cases p2
        exact ⟨a, start_get p1, (hL i a).mpr ⟨q1, p1⟩, p3, p4.weak av⟩
      · cases e
    · exact ion i j a (ism i h1) (ism j h2) (start_inv s1) (start_inv s2)
  have ok : XOk Γ k { N := N, sc := scope, gl := gl, fs := fs, bl := bl, ms := ms, nw := nw, nf := nf } (cxOf CXZ P w K mg base N qual scope f cdv A outer s H E).nox :=
    { N := rfl, sc := rfl, nd := S.nd, calm := rfl, hg := hg, room := hr, bl := mo.bl, gl := mo.gl, fs := g, nf := hnf, fn := fun y _ => .inl rfl }
  refine ⟨rdSt Fx' (wpB Γ bx), (((okSt m).B ok rfl fo (fun _ _ z => z) hc)), ?_⟩
  have keep : ∀ σ' H' ρ', ER Fx' H' σ' ρ' → ∀ b o, H b = some o → ¬ IoA io vs b → H' b = some o := fun σ' H' ρ' er' b o hb n => er'.since b o hb fun i hi => n ⟨i, (hL i b).mp hi⟩
  have outs : ∀ σ' H' ρ' outs, ER Fx' H' σ' ρ' → outsO io ρ' = some outs → Outs ⟨K, w⟩ H' AA io vs outs := fun σ' H' ρ' outs er' ho => outs_of hvl.1 (fun i d h1 h2 => by
    obtain ⟨a, _, q2, _, q4⟩ := er'.io i d h1
    exact ⟨a, ((hL i a).mp q2).2, q4.weak fun a h => .inl h⟩) ho
  cases nw with
  | false =>
    have post : ∀ v σ' H' d ρ', ER Fx' H' σ' ρ' → Rp ⟨K, w⟩ H' (Av Fx' σ' ρ') v d → bnd (outsO io ρ') (R d) → Q v H' := fun v σ' H' d ρ' er' rp h => by
      obtain ⟨os, ho, hR⟩ := bnd_ex h
      exact fin.1 rfl d os hR v H' er'.amb (keep σ' H' ρ' er') (rp.weak fun a h => .inl h) (outs σ' H' ρ' os er' ho)
    exact ⟨ev0 io N.length ds, _, er, hpt, fun σ' H' ρ' er' g h => post .non σ' H' .none ρ' er' .none h, fun σ' H' ρ' er' g h => h.elim, fun v σ' H' d ρ' er' g rp h => post v σ' H' d ρ' er' rp h, fun a o σ' H' d ρ' n nG er' g nc h => h.elim⟩
  | true =>
    refine ⟨ev0 io N.length ds, _, er, hpt, fun σ' H' ρ' er' g h => h.elim, fun σ' H' ρ' er' g h => h.elim, fun v σ' H' d ρ' er' g rp h => h.elim, fun a o σ' H' d ρ' n nG er' g nc h => ?_⟩
    obtain ⟨os, ho, hR⟩ := bnd_ex h
    exact fin.2 rfl d os hR a o H' n er'.amb (keep σ' H' ρ' er') (nc.weak fun a h => .inl h) (outs σ' H' ρ' os er' ho)
end
end MW

set_option Elab.async false
set_option linter.all false
set_option maxRecDepth 100000
set_option maxHeartbeats 2000000
/-! MW19: the law's def from the checker's call; the table of defs -/
namespace MW
open PySem PySem.Spec PyProof.Rows L2
/-- the heap that a law's call begins with: the script at most -/
theorem call_law {P : Program} {w : World} {K : PySem.W.Frag} {mg mb : Str → Option Value} {k : Nat} {fa a : Addr} {fd : FuncData} {x : Str} {sp : Sp} {s₁ : Shared} {vs : List Value} {ns : List Int}
    (KX : K.In s₁.heap) (hns : s₁.heap.Ns mainGlobals mg) (hb : s₁.heap.Ns builtinsNs mb) (hbb : ∀ x : Str, x ≠ "__name__" → mb x = bootBuiltins x) (hlim : s₁.heap.NoLimit) (hg : s₁.gens = #[])
    (ha : s₁.heap.get? a = some { cls := .type "list", data := .seq vs.toArray }) (hi : IntsAre vs ns) (hl : ns.length ≤ sizeLine) (hr : Room k callerA)
    (F : ∀ base : Heap, K.In base → base.Ns mainGlobals mg → FnG P w K mg base k fa fd [x] sp) (hbind : ∀ (s : Shared) (u : Value), BindsTo s fd ⟨[u], []⟩ [(x, u)])
    (hsp : ∀ H : Hp, SqF ⟨K, w⟩ H a (ns.map V.int) → sp [.ref a] H (fun v _ => v = .bl true) fun _ _ _ => False) :
    codeAny (model P w) callerA (.call (.ref fa) ⟨[.ref a], []⟩) (fun r s' => r = .ok (.ret (.bool true)) ∧ OldK s₁.heap s'.heap ∧ s'.os = s₁.os ∧ AllBare s'.gens) s₁ := by
  have rv := L2.vals_ints hi
  have ln := hi.length
  suffices core : ∀ H : Hp, (∀ b u, H b = some u → b = a ∧ ∃ o xs, u = .frz o (.lst xs)) → SqF ⟨K, w⟩ H a (ns.map V.int) → HOk P w H s₁.heap → (H a ≠ none → K.lookup a = none) →
      codeAny (model P w) callerA (.call (.ref fa) ⟨[.ref a], []⟩) (fun r s' => r = .ok (.ret (.bool true)) ∧ OldK s₁.heap s'.heap ∧ s'.os = s₁.os ∧ AllBare s'.gens) s₁ by
    cases hk : K.lookup a with
    | some o =>
      have e := KX a o hk
      rw [ha] at e
      cases e
      exact core (fun _ => none) (fun b u z => by cases z) (.inr ⟨_, vs.toArray, _, hk, rfl, rfl, rfl, by rw [List.size_toArray, ln]; exact hl, by simpa using rv⟩) (fun b u z => by cases (show (none : Option HO) = some u from z)) fun z => absurd rfl z
    | none =>
      have one : ∀ b u, (if b = a then some (HO.frz { cls := .type "list", data := .seq vs.toArray } (.lst (ns.map V.int))) else none) = some u → b = a ∧ u = .frz { cls := .type "list", data := .seq vs.toArray } (.lst (ns.map V.int)) := fun b u z => by
        split at z
        · rename_i q; cases z; exact ⟨q, rfl⟩
        · cases z
      refine core (fun b => if b = a then some (.frz { cls := .type "list", data := .seq vs.toArray } (.lst (ns.map V.int))) else none) (fun b u z => ⟨(one b u z).1, _, _, (one b u z).2⟩) (.inl ⟨_, if_pos rfl⟩) (fun b u z => ?_) fun _ => hk
      obtain ⟨rfl, rfl⟩ := one b u z
      exact ⟨ha, by rw [List.length_map]; exact hl, vs, _, rv, ha⟩
  intro H hO hS hok hK
  have non : ∀ {b : Addr}, (∀ u, H b ≠ some u) → H b = none := fun {b} h => by
    cases q : H b with
    | none => rfl
    | some u => exact absurd q (h u)
  have kept : ∀ {b : Addr} {o : Obj}, s₁.heap.get? b = some o → H b = none → (hidT s₁.heap H).get? b = some o := fun e n => hidT_get e n
  have nsK : ∀ {b : Addr} {m : Str → Option Value}, s₁.heap.Ns b m → (hidT s₁.heap H).Ns b m := fun {b m} ⟨o, es, ep, e, d, r⟩ => by
    refine ⟨o, es, ep, kept e (non fun u q => ?_), d, r⟩
    have e' := (hO b u q).1
    subst e'
    rw [ha] at e; cases e
    cases (show Data.seq vs.toArray _ = Data.dict es ep from d)
  have KB : K.In (hidT s₁.heap H) := fun b o e => kept (KX b o e) (non fun u q => by
    have e' := (hO b u q).1
    subst e'
    rw [hK (by rw [q]; simp)] at e; cases e)
  have M : Mod K mg (hidT s₁.heap H) := ⟨KB, nsK hns, ⟨mb, nsK hb, hbb⟩, let ⟨mc, h1, h2⟩ := hlim; ⟨mc, nsK h1, h2⟩⟩
  have none_ : ∀ b : Addr, b ∉ ([] : List Addr) := fun b h => by cases h
  have e0 : Env0 P w K mg (hidT s₁.heap H) callerA [] s₁ H := ⟨rfl, M, fun b o e => of_hidT e, Nat.le_of_eq (hidT_size _ _), trivial, fun b hb => (none_ b hb).elim, hok, .of_eq hg⟩
  refine codeAny_mono ((F _ KB (nsK hns)).run callerA [] s₁ H ⟨[.ref a], []⟩ [.ref a] [.ref a] _ _ rfl hr e0 (hbind s₁ (.ref a)) (.cons rfl .nil) (hsp H hS)) fun r s' h => ?_
  rcases r with e | fl
  · exact False.elim h
  cases fl <;> first | exact False.elim h | skip
  obtain ⟨v, H', os, bare, un, hok', r', q⟩ := h
  cases (show v = .bl true from q)
  cases r'
  refine ⟨rfl, OldK.of_keep fun b o e => ?_, os, bare⟩
  cases q : H b with
  | none => exact un.keep b o e q (fun z => (none_ b z).elim) (none_ b)
  | some u =>
    obtain ⟨_, ob, xs, rfl⟩ := hO b u q
    have z2 := un.frzs b ob _ q
    obtain ⟨e1, _⟩ := hok b _ q
    obtain ⟨e2, _⟩ := hok' b _ z2
    rw [e] at e1; cases e1
    exact e2
/-- the end of a law -/
theorem walk_law {l : PySem.W.OpenLaw} {n k : Nat} {q : Program} {loose : List Str} {XP : (Str → Option Value) → Heap → Prop} {YP : World → Heap → Prop} {d : DefRec} {x : Str}
    (hn : l.most = some n) (hn2 : n ≤ sizeLine) (hdf : d.params.defaults = []) (hr : Room k callerA)
    (F : ∀ (w : World) (mg : Str → Option Value) (fa : Addr) (h : Heap), YP w h → h.Ns mainGlobals mg → mg d.name = some (.ref fa) →
      ∃ (K : PySem.W.Frag) (fd : FuncData) (sp : PT), K.In h ∧ (∀ (s : Shared) (u : Value), BindsTo s fd ⟨[u], []⟩ [(x, u)]) ∧
        (∀ ns : List Int, ns.length ≤ n → sp [.list (ns.map .int)] fun d outs => d = .bool true) ∧
        ∀ base : Heap, K.In base → base.Ns mainGlobals mg → FnG l.prog w K mg base k fa fd [x] (spG ⟨K, w⟩ ⟨[false], sp, false⟩)) :
    PySem.W.WalkO q loose XP YP l.row.toRowW d [] (fun f vs => PySem.call f vs) := by
  refine Att.attach_call hn hdf fun w s₀ s₁ mg mb fa o pm cd doc a vs ns G Y ho hd hcd hmg hobj hints hlen hg => ?_
  obtain ⟨K, fd, sp, KX, hb, hsp, hF⟩ := F w mg fa _ Y G.T.g hmg
  refine call_law KX G.T.g G.T.b G.T.builtins G.T.nolimit hg hobj hints (Nat.le_trans hlen hn2) hr hF hb fun H hS => ?_
  have rp : ∀ ns : List Int, Rps ⟨K, w⟩ H (fun _ => False) (ns.map V.int) (ns.map D.int) := fun ns => by
    induction ns with
    | nil => exact .nil
    | cons i l ih => exact .cons (.int i) ih
  refine ⟨fun _ => False, [.list (ns.map .int)], _, fun _ z => z.elim, .val (.flist hS (rp ns)) .nil, fun i j b h1 => ?_, hsp ns hlen, fun _ d outs hR v H' _ _ r _ => ?_, fun z => by cases z⟩
  · match i with
    | 0 => simp at h1
    | i + 1 => simp at h1
  · subst hR
    exact Opd.bool (.inl r)
/-! ### the table of defs -/
abbrev tab (l : List (Str × Fn)) : Gm := fun x => l.lookup x
section
variable {P : Program} {w : World} {K : PySem.W.Frag} {mg : Str → Option Value} {base : Heap}
theorem GOk.nil : GOk P w K mg base (tab []) 0 := fun f F h => by cases h
/-- one more def: what it is for is less than what it does -/
theorem GOk.cons {x qual : Str} {params : Arguments} {body : List Stmt} {scope : Scope} {f : Addr} {fd : FuncData} {N ps : List Str} {k m : Nat} {l : List (Str × Fn)} {gl : List (Str × D)} {fs bl ms : List Str} {io : List Bool} {bx : List Sm} {nw : Bool} {nf : List Str} {sp : PT}
    (g : GOk P w K mg base (tab l) k) (F : FunD K x qual params body scope [] [] f fd) (hm : mg x = some (.ref f)) (hb : Binds K fd ps []) (S : FnScope N ps scope)
    (hc : cSs m { N := N, sc := scope, gl := gl, fs := fs, bl := bl, ms := ms, nw := nw, nf := nf } body = some bx) (hio : io.length = ps.length) (mo : MOk ⟨K, w⟩ mg gl bl)
    (hnf : ∀ f, f ∈ nf → ∃ F, tab l f = some F ∧ F.nw = true) (hsp : ∀ ds R, sp ds R → wpD nw (tab l) io N.length bx ds R) : GOk P w K mg base (tab ((x, ⟨io, sp, nw⟩) :: l)) (k + 1) := by
  intro y G hy
  have h1 := fnG_of (P := P) (w := w) (mg := mg) (base := base) F S hc hio mo g hnf
  by_cases e : y = x
  · subst e
    have : G = ⟨io, sp, nw⟩ := by
      have : List.lookup y ((y, (⟨io, sp, nw⟩ : Fn)) :: l) = some G := hy
      simp [List.lookup] at this
      exact this.symm
    subst this
    refine ⟨f, fd, ps, hm, F.kp, hb, ⟨fun vs H Q E h => ?_, fun A outer s H args us vs Q E hg hr he hbd r h => ?_⟩⟩
    · obtain ⟨AA, ds, R, mu, ars, ion, hpt, fin⟩ := h
      exact h1.len vs H Q E ⟨AA, ds, R, mu, ars, ion, hsp ds R hpt, fin⟩
    · obtain ⟨AA, ds, R, mu, ars, ion, hpt, fin⟩ := h
      exact h1.run A outer s H args us vs Q E hg hr he hbd r ⟨AA, ds, R, mu, ars, ion, hsp ds R hpt, fin⟩
  · have : tab l y = some G := by
      have : List.lookup y ((x, (⟨io, sp, nw⟩ : Fn)) :: l) = some G := hy
      simp only [List.lookup] at this
      have ne : (y == x) = false := by simpa using e
      rw [ne] at this
      exact this
    exact (g.up (Nat.le_succ k)) y G this
/-- a def by its purpose -/
theorem fnG_sp {x qual : Str} {params : Arguments} {body : List Stmt} {scope : Scope} {f : Addr} {fd : FuncData} {N ps : List Str} {k m : Nat} {l : List (Str × Fn)} {gl : List (Str × D)} {fs bl ms : List Str} {io : List Bool} {bx : List Sm} {nw : Bool} {nf : List Str} {sp : PT}
    (g : GOk P w K mg base (tab l) k) (F : FunD K x qual params body scope [] [] f fd) (S : FnScope N ps scope) (hc : cSs m { N := N, sc := scope, gl := gl, fs := fs, bl := bl, ms := ms, nw := nw, nf := nf } body = some bx) (hio : io.length = ps.length) (mo : MOk ⟨K, w⟩ mg gl bl)
    (hnf : ∀ f, f ∈ nf → ∃ F, tab l f = some F ∧ F.nw = true) (hsp : ∀ ds R, sp ds R → wpD nw (tab l) io N.length bx ds R) : FnG P w K mg base (k + 1) f fd ps (spG ⟨K, w⟩ ⟨io, sp, nw⟩) := by
  have h1 := fnG_of (P := P) (w := w) (mg := mg) (base := base) F S hc hio mo g hnf
  refine ⟨fun vs H Q E h => ?_, fun A outer s H args us vs Q E hg hr he hbd r h => ?_⟩
  · obtain ⟨AA, ds, R, mu, ars, ion, hpt, fin⟩ := h
    exact h1.len vs H Q E ⟨AA, ds, R, mu, ars, ion, hsp ds R hpt, fin⟩
  · obtain ⟨AA, ds, R, mu, ars, ion, hpt, fin⟩ := h
    exact h1.run A outer s H args us vs Q E hg hr he hbd r ⟨AA, ds, R, mu, ars, ion, hsp ds R hpt, fin⟩
end
end MW

set_option Elab.async false
set_option linter.all false
set_option maxRecDepth 100000
/-! MW20: equations for the plain part -/
namespace MW
open PySem PySem.Spec
/-! simp looks at what comes behind only when it is its turn -/
theorem bnd_cg {α : Type} {o o' : Option α} {k : α → Prop} (h : o = o') : bnd o k = bnd o' k := by rw [h]
theorem wp_cg {Γ : Gm} {e : Ex} {ρ ρ' : Evn} {P : D → Evn → Prop} (h : ρ = ρ') : wp Γ e ρ P = wp Γ e ρ' P := by rw [h]
theorem wpo_cg {Γ : Gm} {e : List Ex} {ρ ρ' : Evn} {P : List D → Evn → Prop} (h : ρ = ρ') : wpo Γ e ρ P = wpo Γ e ρ' P := by rw [h]
theorem wps_cg {Γ : Gm} {e : List Ex} {ρ ρ' : Evn} {P : List D → Evn → Prop} (h : ρ = ρ') : wps Γ e ρ P = wps Γ e ρ' P := by rw [h]
theorem wpa_cg {Γ : Gm} {ps : List (Option Nat)} {e : List Ex} {ρ ρ' : Evn} {P : List D → Evn → Prop} (h : ρ = ρ') : wpa Γ ps e ρ P = wpa Γ ps e ρ' P := by rw [h]
theorem wpp_cg {Γ : Gm} {e : Option Ex} {ρ ρ' : Evn} {P : Option Int → Evn → Prop} (h : ρ = ρ') : wpp Γ e ρ P = wpp Γ e ρ' P := by rw [h]
theorem wpc_cg {Γ : Gm} {e : Co} {ρ ρ' : Evn} {P : Bool → Evn → Prop} (h : ρ = ρ') : wpc Γ e ρ P = wpc Γ e ρ' P := by rw [h]
theorem wpcs_cg {Γ : Gm} {e : List Co} {ρ ρ' : Evn} {P : Bool → Evn → Prop} (h : ρ = ρ') : wpcs Γ e ρ P = wpcs Γ e ρ' P := by rw [h]
theorem opd_cg {x : Ex} {w : WP} {ρ ρ' : Evn} {K : (Evn → Option D) → Evn → Prop} (h : ρ = ρ') : opd x w ρ K = opd x w ρ' K := by rw [h]
theorem wpS_cg {Γ : Gm} {s : Sm} {E : Nd} {ρ ρ' : Evn} (h : ρ = ρ') : MW.wpS Γ s E ρ = MW.wpS Γ s E ρ' := by rw [h]
theorem wpB_cg {Γ : Gm} {s : List Sm} {E : Nd} {ρ ρ' : Evn} (h : ρ = ρ') : wpB Γ s E ρ = wpB Γ s E ρ' := by rw [h]
theorem tgt_cg {t : Tg} {d d' : D} {ρ ρ' : Evn} {Q : Evn → Prop} (h : d = d') (h2 : ρ = ρ') : tgt t d ρ Q = tgt t d' ρ' Q := by rw [h, h2]
theorem tgts_cg {t : List Tg} {d d' : List D} {ρ ρ' : Evn} {Q : Evn → Prop} (h : d = d') (h2 : ρ = ρ') : tgts t d ρ Q = tgts t d' ρ' Q := by rw [h, h2]
theorem turns_cg {t : Tg} {c : WPC} {e : WP} {ws : List Nat} {ds ds' acc acc' : List D} {ρ ρ' : Evn} {Q : List D → Evn → Prop} (h : ds = ds') (h2 : acc = acc') (h3 : ρ = ρ') : turns t c e ws ds acc ρ Q = turns t c e ws ds' acc' ρ' Q := by rw [h, h2, h3]
theorem forW_cg {t : Tg} {b : Nd → Evn → Prop} {E : Nd} {ds ds' : List D} {ρ ρ' : Evn} (h : ds = ds') (h3 : ρ = ρ') : forW t b E ds ρ = forW t b E ds' ρ' := by rw [h, h3]
theorem add_ii (i j : Int) : binD .Add (.int i) (.int j) = some (.int (i + j)) := rfl
theorem add_ss (a b : List Nat) : binD .Add (.str a) (.str b) = if fitL (a.length + b.length) = true then some (.str (a ++ b)) else none := rfl
theorem add_ll (a b : List D) : binD .Add (.list a) (.list b) = if fitL (a.length + b.length) = true then some (.list (a ++ b)) else none := rfl
theorem add_tt (a b : List D) : binD .Add (.tuple a) (.tuple b) = if fitL (a.length + b.length) = true then some (.tuple (a ++ b)) else none := rfl
theorem sub_ii (i j : Int) : binD .Sub (.int i) (.int j) = some (.int (i - j)) := rfl
theorem mul_ii (i j : Int) : binD .Mult (.int i) (.int j) = if (smallI i || smallI j) = true then some (.int (i * j)) else none := rfl
theorem mul_si (a : List Nat) (k : Int) : binD .Mult (.str a) (.int k) = if (decide (0 ≤ k) && decide (k < 2 ^ 63) && fitL (a.length * k.toNat)) = true then some (.str (List.replicate k.toNat a).flatten) else none := rfl
theorem mod_ii (i j : Int) : binD .Mod (.int i) (.int j) = if decide (0 < j) = true then some (.int (i % j)) else none := rfl
theorem fdiv_ii (i j : Int) : binD .FloorDiv (.int i) (.int j) = if (decide (0 < j) && decide (j < 1073741824)) = true then some (.int (i / j)) else none := rfl
theorem pow_ii (i j : Int) : binD .Pow (.int i) (.int j) = if (decide (0 ≤ j) && decide (j ≤ 1000000) && decide (i.natAbs < 2 ^ 64)) = true then some (.int (i ^ j.toNat)) else none := rfl
theorem shr_ii (i j : Int) : binD .RShift (.int i) (.int j) = if decide (0 ≤ j) = true then some (.int (i / 2 ^ j.toNat)) else none := rfl
theorem and_ii (i j : Int) : binD .BitAnd (.int i) (.int j) = some (.int (Builtin.bitAnd i j)) := rfl
theorem c_eq (x y : D) : cmpD .Eq x y = if (shp 60 x && shp 60 y) = true then some (eqD x y) else none := by cases x <;> cases y <;> rfl
theorem c_ne (x y : D) : cmpD .NotEq x y = if (shp 60 x && shp 60 y) = true then some (!eqD x y) else none := by cases x <;> cases y <;> rfl
theorem lt_ii (i j : Int) : cmpD .Lt (.int i) (.int j) = some (decide (i < j)) := rfl
theorem lt_ss (i j : List Nat) : cmpD .Lt (.str i) (.str j) = some (decide (i < j)) := rfl
theorem gt_ii (i j : Int) : cmpD .Gt (.int i) (.int j) = some (decide (j < i)) := rfl
theorem gt_ss (i j : List Nat) : cmpD .Gt (.str i) (.str j) = some (decide (j < i)) := rfl
theorem le_ii (i j : Int) : cmpD .LtE (.int i) (.int j) = some (decide (i ≤ j)) := rfl
theorem ge_ii (i j : Int) : cmpD .GtE (.int i) (.int j) = some (decide (j ≤ i)) := rfl
theorem in_l (x : D) (ys : List D) : cmpD .In x (.list ys) = if (shp 60 x && shp 60 (.list ys)) = true then some (inD x ys) else none := by cases x <;> rfl
theorem in_t (x : D) (ys : List D) : cmpD .In x (.tuple ys) = if (shp 60 x && shp 60 (.tuple ys)) = true then some (inD x ys) else none := by cases x <;> rfl
theorem in_s (a b : List Nat) : cmpD .In (.str a) (.str b) = some (subD a b) := rfl
theorem nin_l (x : D) (ys : List D) : cmpD .NotIn x (.list ys) = if (shp 60 x && shp 60 (.list ys)) = true then some (!inD x ys) else none := by cases x <;> rfl
theorem nin_t (x : D) (ys : List D) : cmpD .NotIn x (.tuple ys) = if (shp 60 x && shp 60 (.tuple ys)) = true then some (!inD x ys) else none := by cases x <;> rfl
theorem nin_s (a b : List Nat) : cmpD .NotIn (.str a) (.str b) = some (!subD a b) := rfl
theorem is_n (x : D) : cmpD .Is x .none = some (isNn x) := by cases x <;> rfl
theorem isn_n (x : D) : cmpD .IsNot x .none = some (!isNn x) := by cases x <;> rfl
theorem is_bb (a b : Bool) : cmpD .Is (.bool a) (.bool b) = some (decide (a = b)) := rfl
theorem isn_bb (a b : Bool) : cmpD .IsNot (.bool a) (.bool b) = some (!decide (a = b)) := rfl
theorem ix_l (xs : List D) (i : Int) : idxD (.list xs) (.int i) = atD xs i := rfl
theorem ix_t (xs : List D) (i : Int) : idxD (.tuple xs) (.int i) = atD xs i := rfl
theorem ix_s (xs : List Nat) (i : Int) : idxD (.str xs) (.int i) = if fitL xs.length = true then (atD xs i).map fun c => .str [c] else none := rfl
theorem sl_l (xs : List D) (a b : Option Int) : slcD (.list xs) a b = some (.list (cutD xs a b)) := rfl
theorem sl_t (xs : List D) (a b : Option Int) : slcD (.tuple xs) a b = some (.tuple (cutD xs a b)) := rfl
theorem sl_s (xs : List Nat) (a b : Option Int) : slcD (.str xs) a b = if fitL xs.length = true then some (.str (cutD xs a b)) else none := rfl
theorem t_b (b : Bool) : truD (.bool b) = some b := rfl
theorem t_i (b : Int) : truD (.int b) = some (b != 0) := rfl
theorem t_l (b : List D) : truD (.list b) = some (!b.isEmpty) := rfl
theorem t_t (b : List D) : truD (.tuple b) = some (!b.isEmpty) := rfl
theorem t_n : truD .none = some false := rfl
theorem t_s (x : List Nat) : truD (.str x) = if fitL x.length = true then some (!x.isEmpty) else none := rfl
theorem len_s (x : List Nat) : biD .len [.str x] = if fitL x.length = true then some (.int x.length) else none := rfl
theorem len_l (x : List D) : biD .len [.list x] = some (.int x.length) := rfl
theorem len_t (x : List D) : biD .len [.tuple x] = some (.int x.length) := rfl
theorem tup_l (x : List D) : biD .tuple [.list x] = some (.tuple x) := rfl
theorem tup_t (x : List D) : biD .tuple [.tuple x] = some (.tuple x) := rfl
theorem lst_l (x : List D) : biD .list [.list x] = some (.list x) := rfl
theorem lst_t (x : List D) : biD .list [.tuple x] = some (.list x) := rfl
theorem srt_l (x : List D) : biD .sorted [.list x] = if sortable x = true then some (.list (x.mergeSort leD)) else none := rfl
/-- what a set of these is, rising; how many there are -/
def ssetD (ds : List D) : Option D := match intsD ds with
  | some ns => if (decide (ns.length < 4000) && decide ((oset ns).length < 64)) = true then some (.list ((oset ns).map .int)) else none
  | none => (tset ds).map .list
def lsetD (ds : List D) : Option D := match intsD ds with
  | some ns => if decide (ns.length < 4000) = true then some (.int (oset ns).length) else none
  | none => if fewT ds = true then some (.int (onceD ds).length) else none
theorem sset_x (x : D) : biD .sset [x] = (asLT x).bind ssetD := rfl
theorem lset_x (x : D) : biD .lset [x] = (asLT x).bind lsetD := rfl
theorem ssetI {ds : List D} {ns : List Int} (h : intsD ds = some ns) : ssetD ds = if (decide (ns.length < 4000) && decide ((oset ns).length < 64)) = true then some (.list ((oset ns).map .int)) else none := by unfold ssetD; rw [h]
theorem lsetI {ds : List D} {ns : List Int} (h : intsD ds = some ns) : lsetD ds = if decide (ns.length < 4000) = true then some (.int (oset ns).length) else none := by unfold lsetD; rw [h]
theorem ssetT {d : D} {ds : List D} (h : ∀ i, d ≠ .int i) : ssetD (d :: ds) = (tset (d :: ds)).map .list := by
  unfold ssetD
  cases d <;> first | rfl | exact absurd rfl (h _)
theorem lsetT {d : D} {ds : List D} (h : ∀ i, d ≠ .int i) : lsetD (d :: ds) = if fewT (d :: ds) = true then some (.int (onceD (d :: ds)).length) else none := by
  unfold lsetD
  cases d <;> first | rfl | exact absurd rfl (h _)
theorem all_l (x : List D) : biD .all [.list x] = (boolsD x).map fun bs => .bool (bs.all id) := rfl
theorem any_l (x : List D) : biD .any [.list x] = (boolsD x).map fun bs => .bool (bs.any id) := rfl
theorem int_b (b : Bool) : biD .int [.bool b] = some (.int (if b = true then 1 else 0)) := rfl
theorem int_i (b : Int) : biD .int [.int b] = some (.int b) := rfl
theorem repr_x (d : D) : biD .repr [d] = if shwD d = true then some (.str (py d).shown.cps.toList) else none := rfl
theorem isi_x (t : Ty) (d : D) : biD (.isi t) [d] = (isTy t d).map .bool := rfl
theorem revs_l (x : List D) : biD .revs [.list x] = some (.list x.reverse) := rfl
theorem revs_s (x : List Nat) : biD .revs [.str x] = if fitL x.length = true then some (.str x.reverse) else none := rfl
theorem trng_x (d : D) : biD .trng [d] = (rngD [d]).bind fun xs => if decide (xs.length ≤ 16777216) = true then some (.tuple xs) else none := rfl
theorem lrng_x (d : D) : biD .lrng [d] = (rngD [d]).bind fun xs => if decide (xs.length ≤ 16777216) = true then some (.list xs) else none := rfl
theorem rep_x (xs : List D) (k : Int) : biD .rep [.list xs, .int k] = if (decide (0 ≤ k) && decide (k < 2 ^ 63) && fitL (xs.length * k.toNat)) = true then some (.list (List.replicate k.toNat xs).flatten) else none := rfl
theorem cat_x (a b : List D) : biD .cat [.list a, .list b] = if fitL (a.length + b.length) = true then some (.list (a ++ b)) else none := rfl
theorem lst_s (x : List Nat) : biD .list [.str x] = if fitL x.length = true then some (.list (x.map fun c => .str [c])) else none := rfl
theorem ix_dk (ks vs : List D) (k : D) : idxD (.dict ks vs) k = if (isKey k && kfit ks k) = true then dget ks vs k else none := by cases k <;> rfl
theorem dnew_x : biD .dnew [] = some (.dict [] []) := rfl
theorem as_d (ks vs : List D) : asDi (.dict ks vs) = some (ks, vs) := rfl
theorem key_i (i : Int) : isKey (.int i) = true := rfl
theorem key_s (x : List Nat) : isKey (.str x) = true := rfl
theorem enum_t (xs : List D) : enumD (.tuple xs) = some (.list (xs.mapIdx fun i x => .tuple [.int (i : Int), x])) := rfl
theorem srt_t (x : List D) : biD .sorted [.tuple x] = if sortable x = true then some (.list (x.mergeSort leD)) else none := rfl
theorem enum_l (xs : List D) : enumD (.list xs) = some (.list (xs.mapIdx fun i x => .tuple [.int (i : Int), x])) := rfl
theorem in_dk (x : D) (ks vs : List D) : cmpD .In x (.dict ks vs) = if (isKey x && kfit ks x) = true then some (ks.any fun k => eqK k x) else none := by cases x <;> rfl
theorem nin_dk (x : D) (ks vs : List D) : cmpD .NotIn x (.dict ks vs) = if (isKey x && kfit ks x) = true then some (!ks.any fun k => eqK k x) else none := by cases x <;> rfl
theorem len_dk (ks vs : List D) : biD .len [.dict ks vs] = some (.int ks.length) := rfl
theorem srt_dk (ks vs : List D) : biD .sorted [.dict ks vs] = match intsD ks with
    | some ns => if decide (ns.length < 64) = true then some (.list ((isort ns).map .int)) else none
    | none => if (ks.all tupK && sortable ks) = true then some (.list (ks.mergeSort leD)) else none := rfl
theorem key_t (ds : List D) : isKey (.tuple ds) = hsh 8 (.tuple ds) := rfl
theorem dpairs_l (ps : List D) : biD .dpairs [.list ps] = if fitL ps.length = true then ((pairsD ps).or (pairsT ps)).map (fun kvs => .dict (putAll kvs [] []).1 (putAll kvs [] []).2) else none := rfl
theorem find_x (a b : List Nat) : meD .find (.str a) [.str b] = some (.int (Txt.find (mkS a) (mkS b))) := rfl
theorem findT (a : List Nat) : meTy .find (.str a) = true := rfl
theorem join_x (a : List Nat) (x : List D) : meD .join (.str a) [.list x] = (strsD x).bind fun xs => if fitL ((xs.map (·.length)).sum + xs.length * a.length) = true then some (.str (joinN a xs)) else none := rfl
theorem joinT (a : List Nat) : meTy .join (.str a) = true := rfl
theorem lt_l (x : List D) : asLT (.list x) = some x := rfl
theorem lt_t (x : List D) : asLT (.tuple x) = some x := rfl
theorem as_i (i : Int) : asI (.int i) = some i := rfl
theorem as_l (x : List D) : asL (.list x) = some x := rfl
theorem as_t (x : List D) : asT (.tuple x) = some x := rfl
theorem as_b (b : Bool) : asB (.bool b) = some b := rfl
theorem atA {α : Type} (x : α) (l : List α) : atD (x :: l) 0 = some x := rfl
theorem atB {α : Type} (x y : α) (l : List α) : atD (x :: y :: l) 1 = some y := rfl
theorem atC {α : Type} (x y z : α) (l : List α) : atD (x :: y :: z :: l) 2 = some z := rfl
theorem atDd {α : Type} (x y z u : α) (l : List α) : atD (x :: y :: z :: u :: l) 3 = some u := rfl
theorem atE {α : Type} (x y z u v : α) (l : List α) : atD (x :: y :: z :: u :: v :: l) 4 = some v := rfl
theorem tn0 : Int.toNat 0 = 0 := rfl
theorem tn1 : Int.toNat 1 = 1 := rfl
theorem tn2 : Int.toNat 2 = 2 := rfl
theorem tn3 : Int.toNat 3 = 3 := rfl
theorem at_nat {α : Type} {xs : List α} {i : Int} {n : Nat} (h : i = (n : Int)) (hn : n < xs.length) : atD xs i = some xs[n] := by
  subst h
  unfold atD
  rw [if_pos (Int.natCast_nonneg n)]
  simp [hn]
theorem at_in {α : Type} {xs : List α} {i : Int} (h0 : 0 ≤ i) (h1 : i < xs.length) : ∃ x, x ∈ xs ∧ atD xs i = some x := by
  obtain ⟨n, rfl⟩ := Int.eq_ofNat_of_zero_le h0
  have hn : n < xs.length := by omega
  exact ⟨xs[n], List.getElem_mem hn, at_nat rfl hn⟩
theorem sIx_pos {n d : Nat} {i : Int} (h : 0 ≤ i) : sIxD n d (some i) = min i.toNat n := by
  show (if i < 0 then (i + (n : Int)).toNat else min i.toNat n) = _
  rw [if_neg (by omega)]
theorem cut_to {α : Type} (xs : List α) {i : Int} (h : 0 ≤ i) : cutD xs none (some i) = xs.take i.toNat := by
  unfold cutD
  rw [sIx_pos h]
  show ((xs.drop 0).take (min i.toNat xs.length - 0)) = _
  rw [List.drop_zero, Nat.sub_zero]
  by_cases q : i.toNat ≤ xs.length
  · rw [Nat.min_eq_left q]
  · rw [Nat.min_eq_right (by omega), List.take_of_length_le (Nat.le_refl _), List.take_of_length_le (by omega)]
theorem cut_from {α : Type} (xs : List α) {i : Int} (h : 0 ≤ i) : cutD xs (some i) none = xs.drop i.toNat := by
  unfold cutD
  rw [sIx_pos h]
  show ((xs.drop (min i.toNat xs.length)).take (xs.length - min i.toNat xs.length)) = _
  by_cases q : i.toNat ≤ xs.length
  · rw [Nat.min_eq_left q]
    exact List.take_of_length_le (by rw [List.length_drop]; exact Nat.le_refl _)
  · rw [Nat.min_eq_right (by omega), List.drop_of_length_le (Nat.le_refl _), List.drop_of_length_le (by omega)]
    simp
theorem wpD_f (Γ : Gm) (io : List Bool) (n : Nat) (b : List Sm) (ds : List D) (R : D → List D → Prop) : wpD false Γ io n b ds R = wpF Γ io n b ds R := rfl
theorem wpD_n (Γ : Gm) (io : List Bool) (n : Nat) (b : List Sm) (ds : List D) (R : D → List D → Prop) : wpD true Γ io n b ds R = wpN Γ io n b ds R := rfl
/-- plain ints -/
def intsT (l : List Int) : D := .tuple (l.map .int)
theorem intsD_map : ∀ l : List Int, intsD (l.map .int) = some l
  | [] => rfl
  | x :: l => by show (intsD (l.map .int)).map (x :: ·) = _; rw [intsD_map l]; rfl
theorem boolsD_map : ∀ l : List Bool, boolsD (l.map .bool) = some l
  | [] => rfl
  | x :: l => by show (boolsD (l.map .bool)).map (x :: ·) = _; rw [boolsD_map l]; rfl
theorem strsD_map : ∀ l : List (List Nat), strsD (l.map .str) = some l
  | [] => rfl
  | x :: l => by show (strsD (l.map .str)).map (x :: ·) = _; rw [strsD_map l]; rfl
theorem shp_ints (l : List Int) : shp 60 (.tuple (l.map .int)) = true := by
  show (l.map D.int).all (shp 59) = true
  simp [shp]
theorem shp_intsL (l : List Int) : shp 60 (.list (l.map .int)) = true := by
  show (l.map D.int).all (shp 59) = true
  simp [shp]
theorem in_ints (x : Int) : ∀ l : List Int, inD (.int x) (l.map .int) = decide (x ∈ l)
  | [] => rfl
  | y :: l => by
    have ih := in_ints x l
    unfold inD at ih ⊢
    rw [List.map_cons, List.any_cons, ih]
    show ((y == x) || decide (x ∈ l)) = _
    by_cases h : x = y
    · subst h; simp
    · have : ¬ y = x := fun z => h z.symm
      simp [h, this]
theorem eq_ints : ∀ a b : List Int, eqDs (a.map .int) (b.map .int) = decide (a = b)
  | [], [] => rfl
  | [], _ :: _ => rfl
  | _ :: _, [] => rfl
  | x :: a, y :: b => by
    show ((x == y) && eqDs (a.map .int) (b.map .int)) = _
    rw [eq_ints a b]
    by_cases h : x = y <;> by_cases q : a = b <;> simp [h, q]
theorem eq_refl_ints (a : List Int) : eqDs (a.map .int) (a.map .int) = true := by rw [eq_ints]; simp
theorem oset_le : ∀ l : List Int, (oset l).length ≤ l.length := by
  have ins : ∀ (x : Int) (l : List Int), (insI x l).length ≤ l.length + 1 := by
    intro x l
    induction l with
    | nil => simp [insI]
    | cons y ys ih =>
      unfold insI
      split
      · simp
      · split
        · simp
        · simp; exact ih
  intro l
  induction l with
  | nil => simp [oset]
  | cons y ys ih =>
    have := ins y (oset ys)
    show (insI y (oset ys)).length ≤ _
    simp; omega
theorem ssetM (ns : List Int) : ssetD (ns.map .int) = if (decide (ns.length < 4000) && decide ((oset ns).length < 64)) = true then some (.list ((oset ns).map .int)) else none := ssetI (intsD_map ns)
theorem lsetM (ns : List Int) : lsetD (ns.map .int) = if decide (ns.length < 4000) = true then some (.int (oset ns).length) else none := lsetI (intsD_map ns)
end MW

set_option Elab.async false
set_option linter.all false
set_option maxRecDepth 100000
/-! MW21: repr of small data -/
namespace MW
open PySem PySem.Spec PyProof.Rows L2
mutual
/-- ints below 10^12, codes in their range, no dict -/
def tame : D → Bool
  | .none => true
  | .bool _ => true
  | .int i => decide (i.natAbs < 10 ^ 12)
  | .str x => x.all (· < 0x110000)
  | .list ds => tames ds
  | .tuple ds => tames ds
  | .dict _ _ => false
def tames : List D → Bool
  | [] => true
  | d :: ds => tame d && tames ds
end
mutual
def bul : D → Nat
  | .none => 0
  | .bool _ => 0
  | .int _ => 0
  | .str x => x.length
  | .list ds => buls ds
  | .tuple ds => buls ds
  | .dict _ _ => 0
def buls : List D → Nat
  | [] => 0
  | d :: ds => bul d + 1 + buls ds
end
mutual
theorem tame_leaves : ∀ d : D, tame d = true → (py d).leavesShort 13 = true ∧ (py d).showable = true ∧ (py d).bulk = bul d
  | .none, _ => ⟨rfl, rfl, rfl⟩
  | .bool _, _ => ⟨rfl, rfl, rfl⟩
  | .int i, h => by
    simp only [tame, decide_eq_true_eq] at h
    refine ⟨?_, ?_, rfl⟩
    · simp only [py, PyData.leavesShort, decide_eq_true_eq]
      exact PyData.shown_int_le h
    · simp only [py, PyData.showable, decide_eq_true_eq]
      by_cases e : i.natAbs = 0
      · rw [e]; decide
      · have := (Nat.log2_lt e (k := 1920)).mpr (Nat.lt_of_lt_of_le h (Nat.le_of_lt_succ (by decide)))
        exact this
  | .str x, h => by
    simp only [tame, List.all_eq_true, decide_eq_true_eq] at h
    refine ⟨?_, rfl, ?_⟩
    · simp only [py, PyData.leavesShort, cps_mkS, List.all_eq_true, decide_eq_true_eq]
      intro c hc
      have := h c hc
      have e : (16 : Nat) ^ 8 = 4294967296 := by decide
      omega
    · show (mkS x).cps.size = x.length
      simp [mkS]
  | .list ds, h => by
    simp only [tame] at h
    obtain ⟨h1, h2, h3⟩ := tames_leaves ds h
    simp only [py, PyData.leavesShort, PyData.showable, PyData.bulk, bul]
    exact ⟨h1, h2, h3⟩
  | .tuple ds, h => by
    simp only [tame] at h
    obtain ⟨h1, h2, h3⟩ := tames_leaves ds h
    simp only [py, PyData.leavesShort, PyData.showable, PyData.bulk, bul]
    exact ⟨h1, h2, h3⟩
  | .dict _ _, h => by simp [tame] at h
theorem tames_leaves : ∀ ds : List D, tames ds = true → PyData.leavesShortAll 13 (pys ds) = true ∧ PyData.showableAll (pys ds) = true ∧ PyData.bulkAll (pys ds) = buls ds
  | [], _ => ⟨rfl, rfl, rfl⟩
  | d :: ds, h => by
    simp only [tames, Bool.and_eq_true] at h
    obtain ⟨a1, a2, a3⟩ := tame_leaves d h.1
    obtain ⟨b1, b2, b3⟩ := tames_leaves ds h.2
    simp only [pys, PyData.leavesShortAll, PyData.showableAll, PyData.bulkAll, buls]
    rw [a1, a2, a3, b1, b2, b3]
    exact ⟨rfl, rfl, rfl⟩
end
theorem shwD_of {d : D} (h1 : shp 60 d = true) (h2 : tame d = true) (h3 : bul d ≤ 1000000) : shwD d = true := by
  obtain ⟨a, b, c⟩ := tame_leaves d h2
  have := PyData.shown_le_bulk 13 (by decide) (py d) a
  unfold shwD
  rw [h1, b, c] at *
  simp only [Bool.true_and, decide_eq_true_eq]
  omega
theorem tames_iff : ∀ ds : List D, tames ds = true ↔ ∀ d ∈ ds, tame d = true
  | [] => by simp [tames]
  | d :: ds => by rw [tames, Bool.and_eq_true, tames_iff ds]; simp
theorem buls_le : ∀ (ds : List D) (n : Nat), (∀ d ∈ ds, bul d ≤ n) → buls ds ≤ ds.length * (n + 1)
  | [], _, _ => by simp [buls]
  | d :: ds, n, h => by
    have h1 := h d List.mem_cons_self
    have h2 := buls_le ds n fun x hx => h x (List.mem_cons_of_mem _ hx)
    rw [buls, List.length_cons, Nat.add_mul]
    omega
theorem shp_all {k : Nat} {ds : List D} (h : ∀ d ∈ ds, shp k d = true) : ds.all (shp k) = true := List.all_eq_true.mpr h
theorem shwD_bool (b : Bool) : shwD (.bool b) = true := shwD_of rfl rfl (Nat.zero_le _)
theorem tame_ints {l : List Int} (h : ∀ k ∈ l, 0 ≤ k ∧ k < 1000000) : tames (l.map .int) = true := (tames_iff _).mpr fun d hd => by
  obtain ⟨k, hk, rfl⟩ := List.mem_map.mp hd
  have := h k hk
  simp only [tame, decide_eq_true_eq]
  have : k.natAbs < 1000000 := by omega
  exact Nat.lt_trans this (by decide)
theorem buls_ints (l : List Int) : buls (l.map .int) ≤ l.length := by
  have := buls_le (l.map .int) 0 fun d hd => by
    obtain ⟨k, _, rfl⟩ := List.mem_map.mp hd
    simp [bul]
  simpa using this
theorem shwD_ints {l : List Int} (h : ∀ k ∈ l, 0 ≤ k ∧ k < 1000000) (hl : l.length ≤ 1000000) : shwD (.tuple (l.map .int)) = true :=
  shwD_of (shp_ints l) (by simp only [tame]; exact tame_ints h) (by simp only [bul]; exact Nat.le_trans (buls_ints l) hl)
/-! slots whose content is not known: nothing, or a value -/
def isFr : Sl → Bool
  | .no => true
  | .val _ => true
  | _ => false
def isOw : Sl → Bool
  | .own _ => true
  | _ => false
def getcS : Sl → Option D
  | .own d => some d
  | .io d => some d
  | _ => none
theorem isFr_no : isFr .no = true := rfl
theorem isFr_val (d : D) : isFr (.val d) = true := rfl
theorem isFr_own (d : D) : isFr (.own d) = false := rfl
theorem isFr_io (d : D) : isFr (.io d) = false := rfl
theorem isOw_own (d : D) : isOw (.own d) = true := rfl
theorem isOw_io (d : D) : isOw (.io d) = false := rfl
theorem getcS_own (d : D) : getcS (.own d) = some d := rfl
theorem getcS_io (d : D) : getcS (.io d) = some d := rfl
theorem setv_e (ρ : Evn) (i : Nat) (v : Sl) : setv ρ i v = (ρ[i]?).bind fun x => if isFr x = true then some (ρ.set i v) else if isOw x = true then some (ρ.set i v) else none := by
  unfold setv
  cases ρ[i]? with
  | none => rfl
  | some x => cases x <;> rfl
theorem getc_e (ρ : Evn) (i : Nat) : getc ρ i = (ρ[i]?).bind fun x => if isFr x = true then none else getcS x := by
  unfold getc
  cases ρ[i]? with
  | none => rfl
  | some x => cases x <;> rfl
theorem shp_strT (x : List Nat) : shp 60 (.str x) = true := rfl
end MW

set_option Elab.async false
set_option linter.all false
set_option maxRecDepth 100000
/-! MW22: equality and order of plain data, comprehensions that only compute -/
namespace MW
open PySem PySem.Spec PyProof.Rows L2
mutual
theorem eqD_refl : ∀ (k : Nat) (d : D), shp k d = true → eqD d d = true
  | 0, d, h => by cases d <;> simp [shp] at h
  | k + 1, .none, _ => rfl
  | k + 1, .bool b, _ => by cases b <;> rfl
  | k + 1, .int i, _ => by simp [eqD]
  | k + 1, .str x, _ => by simp [eqD]
  | k + 1, .list ds, h => by simp only [eqD]; exact eqDs_refl k ds (by simpa only [shp] using h)
  | k + 1, .tuple ds, h => by simp only [eqD]; exact eqDs_refl k ds (by simpa only [shp] using h)
  | k + 1, .dict _ _, h => by simp [shp] at h
theorem eqDs_refl : ∀ (k : Nat) (ds : List D), ds.all (shp k) = true → eqDs ds ds = true
  | _, [], _ => rfl
  | k, d :: ds, h => by
    rw [List.all_cons, Bool.and_eq_true] at h
    simp only [eqDs]
    rw [eqD_refl k d h.1, eqDs_refl k ds h.2]; rfl
end
/-- order within tuples -/
def dlts (xs ys : List D) : Bool := PyProof.Rows.lexLt PyProof.Rows.itemOrd (PySem.W.keyToksAll (pys xs)) (PySem.W.keyToksAll (pys ys))
theorem dlt_t (xs ys : List D) : PySem.W.dataLt (py (.tuple xs)) (py (.tuple ys)) = dlts xs ys := PySem.W.dataLt_tuple _ _
theorem dlt_i (x y : Int) : PySem.W.dataLt (py (.int x)) (py (.int y)) = decide (x < y) := PySem.W.dataLt_int _ _
theorem dlt_s (x y : List Nat) : PySem.W.dataLt (py (.str x)) (py (.str y)) = decide (x < y) := by
  show PySem.W.dataLt (.str (mkS x)) (.str (mkS y)) = _
  rw [PySem.W.dataLt_str, cps_mkS, cps_mkS]
theorem dlts_nil : dlts [] [] = false := by
  unfold dlts
  rw [show pys [] = [] from rfl, show PySem.W.keyToksAll [] = [.inl 0] from rfl, PySem.W.lex_one]
  decide
theorem dlts_cons {x y : D} (xs ys : List D) (h : PySem.W.alike (py x) (py y) = true) (n : (py x).hasDict = false) : dlts (x :: xs) (y :: ys) = if eqD x y = true then dlts xs ys else PySem.W.dataLt (py x) (py y) := by
  unfold dlts
  rw [eqD_py x y n]
  split
  · rename_i e; exact PySem.W.dataLt_all_yes h e
  · rename_i e; exact PySem.W.dataLt_all_no h (by simpa using e)
theorem dlts_i (a b : Int) (xs ys : List D) : dlts (.int a :: xs) (.int b :: ys) = (decide (a < b) || (decide (a = b) && dlts xs ys)) := by
  rw [dlts_cons xs ys rfl rfl, dlt_i]
  by_cases h : a = b
  · subst h; simp [eqD]
  · simp [eqD, h]
theorem dlts_s (a b : List Nat) (xs ys : List D) : dlts (.str a :: xs) (.str b :: ys) = (decide (a < b) || (decide (a = b) && dlts xs ys)) := by
  rw [dlts_cons xs ys rfl rfl, dlt_s]
  by_cases h : a = b
  · subst h
    have : ¬ a < a := List.lt_irrefl a
    simp [eqD, this]
  · simp [eqD, h]
theorem lt_tt (xs ys : List D) : cmpD .Lt (.tuple xs) (.tuple ys) = if (PySem.W.alikeAll (pys xs) (pys ys) && shp 60 (.tuple xs) && shp 60 (.tuple ys)) = true then some (dlts xs ys) else none := by
  rw [← dlt_t]; rfl
theorem fm_turns {α : Type} {f g : α → D} {p : α → Bool} {c : WPC} {e : WP} {i : Nat} {ρ : Evn} {Q : List D → Evn → Prop} (xs : List α) (hl : xs.length ≤ 1000000) (hi : i < ρ.length) (hn : ρ[i]? = some .no)
    (hc : ∀ x ∈ xs, ∀ P : Bool → Evn → Prop, P (p x) (ρ.set i (.val (f x))) → c (ρ.set i (.val (f x))) P)
    (he : ∀ x ∈ xs, p x = true → ∀ P : D → Evn → Prop, P (g x) (ρ.set i (.val (f x))) → e (ρ.set i (.val (f x))) P) (hQ : Q ((xs.filter p).map g) ρ) : turns (.nm i) c e [i] (xs.map f) [] ρ Q := by
  have back : ∀ d : D, (ρ.set i (.val d)).set i .no = ρ := fun k => by
    rw [List.set_set]
    apply List.ext_getElem?
    intro j
    by_cases hj : j = i
    · subst hj; rw [List.getElem?_set_self hi, hn]
    · rw [List.getElem?_set_ne (Ne.symm hj)]
  have main : ∀ (ys pre : List α), xs = pre ++ ys → turns (.nm i) c e [i] (ys.map f) ((pre.filter p).map g) ρ Q := by
    intro ys
    induction ys with
    | nil => intro pre e'; rw [List.append_nil] at e'; subst e'; exact hQ
    | cons x ys ih =>
      intro pre e'
      have hx : x ∈ xs := by rw [e']; simp
      have ll : xs.length = pre.length + (ys.length + 1) := by rw [e']; simp
      have l2 : (pre.filter p).length ≤ pre.length := List.length_filter_le _ _
      have nxt := ih (pre ++ [x]) (by rw [e']; simp)
      simp only [List.map_cons, turns, tgt, setv, hn, bnd_some]
      refine hc x hx _ ?_
      by_cases hp : p x = true
      · rw [if_pos hp]
        refine he x hx hp _ ⟨by rw [sizeLine_eq, List.length_map]; omega, ?_⟩
        show turns _ _ _ _ _ _ ((ρ.set i (.val (f x))).set i .no) Q
        rw [back]
        have e2 : ((pre ++ [x]).filter p).map g = (pre.filter p).map g ++ [g x] := by rw [List.filter_append]; simp [hp]
        rw [e2] at nxt; exact nxt
      · rw [if_neg hp]
        show turns _ _ _ _ _ _ ((ρ.set i (.val (f x))).set i .no) Q
        rw [back]
        have e2 : ((pre ++ [x]).filter p).map g = (pre.filter p).map g := by rw [List.filter_append]; simp [hp]
        rw [e2] at nxt; exact nxt
  exact main xs [] rfl
theorem map_turns {α : Type} {f g : α → D} {c : WPC} {e : WP} {i : Nat} {ρ : Evn} {Q : List D → Evn → Prop} (xs : List α) (hc : c = fun x k => k true x) (hl : xs.length ≤ 1000000) (hi : i < ρ.length) (hn : ρ[i]? = some .no)
    (he : ∀ x ∈ xs, ∀ P : D → Evn → Prop, P (g x) (ρ.set i (.val (f x))) → e (ρ.set i (.val (f x))) P) (hQ : Q (xs.map g) ρ) : turns (.nm i) c e [i] (xs.map f) [] ρ Q :=
  fm_turns (p := fun _ => true) xs hl hi hn (fun x _ P h => by rw [hc]; exact h) (fun x hx _ => he x hx) (by rw [List.filter_eq_self.mpr fun _ _ => rfl]; exact hQ)
theorem in_bools (b : Bool) : ∀ l : List Bool, inD (.bool b) (l.map .bool) = decide (b ∈ l)
  | [] => rfl
  | y :: l => by
    have ih := in_bools b l
    unfold inD at ih ⊢
    rw [List.map_cons, List.any_cons, ih]
    show ((y == b) || decide (b ∈ l)) = _
    cases y <;> cases b <;> simp
theorem shp_bools (l : List Bool) : shp 60 (.list (l.map .bool)) = true := by
  show (l.map D.bool).all (shp 59) = true
  simp [shp]
theorem shp_strs (l : List (List Nat)) : shp 60 (.list (l.map .str)) = true := by
  show (l.map D.str).all (shp 59) = true
  simp [shp]
theorem true_mem {α : Type} (l : List α) (f : α → Bool) : decide (true ∈ l.map f) = l.any f := by
  rw [Bool.eq_iff_iff]; simp
theorem at_last {α : Type} (l : List α) (x : α) : atD (l ++ [x]) (-1) = some x := by
  unfold atD
  rw [if_neg (by decide), if_pos (by rw [List.length_append]; simp; omega)]
  have : (-1 + ((l ++ [x]).length : Int)).toNat = l.length := by rw [List.length_append]; simp; omega
  rw [this]; simp
theorem tame_strs {l : List (List Nat)} (h : ∀ w ∈ l, ∀ c ∈ w, c < 1114112) : tames (l.map .str) = true := (tames_iff _).mpr fun d hd => by
  obtain ⟨w, hw, rfl⟩ := List.mem_map.mp hd
  simp only [tame, List.all_eq_true, decide_eq_true_eq]
  exact fun c hc => h w hw c hc
theorem buls_strs {l : List (List Nat)} {n : Nat} (h : ∀ w ∈ l, w.length ≤ n) : buls (l.map .str) ≤ l.length * (n + 1) := by
  have := buls_le (l.map .str) n fun d hd => by
    obtain ⟨w, hw, rfl⟩ := List.mem_map.mp hd
    exact h w hw
  simpa using this
theorem shwD_strs {l : List (List Nat)} {n : Nat} (h : ∀ w ∈ l, ∀ c ∈ w, c < 1114112) (hl : ∀ w ∈ l, w.length ≤ n) (hn : l.length * (n + 1) ≤ 1000000) : shwD (.list (l.map .str)) = true :=
  shwD_of (shp_strs l) (by simp only [tame]; exact tame_strs h) (by simp only [bul]; exact Nat.le_trans (buls_strs hl) hn)
end MW

set_option linter.all false
/-! MHa: texts that many laws share -/
namespace MH
open PySem MW
def b_law_tape : List Sm := [
  .retF (.lst [(.bi .list [(.slc (.var 0) none (some (.lit (.int 63))))]), (.lit (.int 0)), (.lit (.int 0))])]
def b_law_draw : List Sm := [
  .ite (.ex (.cmp .Gt (.idx (.var 0) (.lit (.int 2))) (.lit (.int 0)))) [
    .asg (.nm 5) (.bin .Mod (.idx (.var 0) (.lit (.int 2))) (.var 1)),
    .setI 0 (.lit (.int 2)) (.bin .FloorDiv (.idx (.var 0) (.lit (.int 2))) (.var 1)),
    .ret (.var 5)] [],
  .asg (.nm 2) (.idx (.var 0) (.lit (.int 1))),
  .setI 0 (.lit (.int 1)) (.bin .Add (.var 2) (.lit (.int 1))),
  .asg (.nm 3) (.ife (.ex (.cmp .Gt (.bi .len [(.idx (.var 0) (.lit (.int 0)))]) (.lit (.int 0)))) (.idx (.idx (.var 0) (.lit (.int 0))) (.bin .Mod (.var 2) (.bi .len [(.idx (.var 0) (.lit (.int 0)))]))) (.lit (.int 0))),
  .ite (.and (.ex (.cmp .GtE (.var 3) (.bin .Pow (.lit (.int 10)) (.lit (.int 18))))) (.ex (.cmp .Lt (.var 2) (.bi .len [(.idx (.var 0) (.lit (.int 0)))])))) [
    .setI 0 (.lit (.int 2)) (.bin .FloorDiv (.var 3) (.var 1)),
    .ret (.bin .Mod (.var 3) (.var 1))] [],
  .asg (.nm 4) (.bin .Mod (.bin .Mult (.bin .Add (.bin .Add (.bin .Mod (.var 3) (.lit (.int 2147483647))) (.bin .Mult (.lit (.int 40692)) (.var 2))) (.lit (.int 12345))) (.lit (.int 48271))) (.lit (.int 2147483647))),
  .asg (.nm 4) (.bin .Mod (.bin .Mult (.var 4) (.bin .Add (.var 4) (.lit (.int 40692)))) (.lit (.int 2147483587))),
  .ret (.bin .Mod (.bin .FloorDiv (.bin .Mod (.bin .Mult (.bin .Mod (.bin .Add (.bin .Mult (.var 4) (.lit (.int 69621))) (.var 2)) (.lit (.int 2147483399))) (.lit (.int 16807))) (.lit (.int 2147483563))) (.lit (.int 7))) (.var 1))]
def b_law_signs_c1 : List Co := [(.ex (.cmp .Eq (.bin .BitAnd (.bin .RShift (.var 2) (.var 3)) (.lit (.int 1))) (.lit (.int 1))))]
def b_law_signs_e2 : Ex := (.idx (.var 1) (.var 3))
def b_law_signs : List Sm := [
  .asg (.nm 1) (.idx (.lst [(.lit (.str [97, 98, 99])), (.lit (.str [97, 98, 122])), (.lit (.str [99, 109, 120])), (.lit (.str [97, 104, 122]))]) (.call "_law_draw" [(.var 0), (.lit (.int 4))])),
  .asg (.nm 2) (.bin .Add (.lit (.int 1)) (.call "_law_draw" [(.var 0), (.lit (.int 7))])),
  .ret (.me .join (.lit (.str [])) [(.comp [3] (.nm 3) true [(.lit (.int 3))] b_law_signs_c1 b_law_signs_e2)])]
def b_law_some_c1 : List Co := [(.ex (.cmp .Eq (.call "_law_draw" [(.var 0), (.var 2)]) (.lit (.int 0))))]
def b_law_some_e2 : Ex := (.var 3)
def b_law_some : List Sm := [
  .ret (.bi .tuple [(.comp [3] (.nm 3) true [(.var 1)] b_law_some_c1 b_law_some_e2)])]
def b_law_steps_c1 : List Co := [(.ex (.cmp .Eq (.call "_law_draw" [(.var 0), (.var 3)]) (.lit (.int 0))))]
def b_law_steps_e2 : Ex := (.tup [(.var 5), (.var 6), (.var 7)])
def b_law_steps_b3 : List Sm := [
  .ext 4 (.comp [7] (.nm 7) true [(.var 2)] b_law_steps_c1 b_law_steps_e2)]
def b_law_steps_b4 : List Sm := [
  .for (.nm 6) false [(.var 1)] b_law_steps_b3]
def b_law_steps : List Sm := [
  .asg (.nm 3) (.idx (.lst [(.lit (.int 2)), (.lit (.int 3)), (.lit (.int 4)), (.lit (.int 6))]) (.call "_law_draw" [(.var 0), (.lit (.int 4))])),
  .own 4 (.lst []),
  .for (.nm 5) true [(.var 2)] b_law_steps_b4,
  .ret (.bi .tuple [(.var 4)])]
def b_law_single_e1 : Ex := (.tup [(.var 4), (.var 5), (.call "_law_draw" [(.var 0), (.var 2)])])
def b_law_single_b2 : List Sm := [
  .ext 3 (.comp [5] (.nm 5) false [(.var 1)] [] b_law_single_e1)]
def b_law_single : List Sm := [
  .own 3 (.lst []),
  .for (.nm 4) true [(.var 2)] b_law_single_b2,
  .ret (.bi .tuple [(.var 3)])]
def b_law_machine : List Sm := [
  .asg (.nm 2) (.call "_law_signs" [(.var 0)]),
  .asg (.nm 3) (.bin .Add (.lit (.int 1)) (.call "_law_draw" [(.var 0), (.var 1)])),
  .ite (.ex (.cmp .Eq (.call "_law_draw" [(.var 0), (.lit (.int 4))]) (.lit (.int 0)))) [
    .asg (.nm 5) (.call "_law_draw" [(.var 0), (.var 3)]),
    .ret (.tup [(.var 2), (.var 3), (.tup [(.var 5)]), (.call "_law_some" [(.var 0), (.var 3), (.lit (.int 2))]), (.call "_law_single" [(.var 0), (.var 2), (.var 3)])])] [],
  .asg (.nm 4) (.call "_law_some" [(.var 0), (.var 3), (.lit (.int 2))]),
  .ret (.tup [(.var 2), (.var 3), (.var 4), (.call "_law_some" [(.var 0), (.var 3), (.idx (.lst [(.lit (.int 2)), (.lit (.int 3))]) (.call "_law_draw" [(.var 0), (.lit (.int 2))]))]), (.call "_law_steps" [(.var 0), (.var 2), (.var 3)])])]
def b_law_word_e1 : Ex := (.idx (.var 1) (.call "_law_draw" [(.var 0), (.bi .len [(.var 1)])]))
def b_law_word : List Sm := [
  .ret (.me .join (.lit (.str [])) [(.comp [3] (.nm 3) true [(.call "_law_draw" [(.var 0), (.bin .Add (.var 2) (.lit (.int 1)))])] [] b_law_word_e1)])]
def b_behind_c1 : List Co := [(.and (.ex (.cmp .Eq (.idx (.var 3) (.lit (.int 1))) (.var 2))) (.ex (.cmp .In (.idx (.var 3) (.lit (.int 0))) (.var 1))))]
def b_behind_e2 : Ex := (.idx (.var 3) (.lit (.int 2)))
def b_behind : List Sm := [
  .ret (.bi .tuple [(.bi .sset [(.comp [3] (.nm 3) false [(.idx (.var 0) (.lit (.int 4)))] b_behind_c1 b_behind_e2)])])]
def b_behind_word_b1 : List Sm := [
  .asg (.nm 1) (.call "behind" [(.var 0), (.var 1), (.var 3)])]
def b_behind_word : List Sm := [
  .for (.nm 3) false [(.var 2)] b_behind_word_b1,
  .ret (.var 1)]
def b_takes_from_e1 : Ex := (.cmp .In (.var 3) (.idx (.var 0) (.lit (.int 3))))
def b_takes_from : List Sm := [
  .ret (.bi .any [(.comp [3] (.nm 3) false [(.call "behind_word" [(.var 0), (.var 1), (.var 2)])] [] b_takes_from_e1)])]
def b_takes : List Sm := [
  .ret (.call "takes_from" [(.var 0), (.idx (.var 0) (.lit (.int 2))), (.var 1)])]
end MH

set_option Elab.async false
set_option linter.all false
set_option maxRecDepth 100000
set_option maxHeartbeats 0
namespace MH
open PySem MW
/-! ### loops by an invariant -/
theorem turns_inv {t : Tg} {c : WPC} {e : WP} {ws : List Nat} {Q : List D → Evn → Prop} (I : List D → List D → Evn → Prop)
    (step : ∀ d rest acc ρ (T : List D → Evn → Prop), I (d :: rest) acc ρ → (∀ acc' ρ', I rest acc' ρ' → T acc' ρ') →
      tgt t d ρ fun ρ1 => c ρ1 fun b ρ2 => if b = true then e ρ2 fun y ρ3 => acc.length < sizeLine ∧ T (acc ++ [y]) (wipeE ρ3 ws) else T acc (wipeE ρ2 ws))
    (fin : ∀ acc ρ, I [] acc ρ → Q acc ρ) : ∀ (xs acc : List D) (ρ : Evn), I xs acc ρ → turns t c e ws xs acc ρ Q
  | [], acc, ρ, h => fin acc ρ h
  | d :: xs, acc, ρ, h => step d xs acc ρ (fun a r => turns t c e ws xs a r Q) h fun a r q => turns_inv I step fin xs a r q
theorem forW_inv {t : Tg} {b : Nd → Evn → Prop} {E : Nd} (I : List D → Evn → Prop)
    (step : ∀ d rest ρ (T : Evn → Prop), I (d :: rest) ρ → (∀ ρ', I rest ρ' → T ρ') → tgt t d ρ fun ρ1 => b { nx := T, rt := E.rt, bk := E.nx, rn := E.rn } ρ1)
    (fin : ∀ ρ, I [] ρ → E.nx ρ) : ∀ (xs : List D) (ρ : Evn), I xs ρ → forW t b E xs ρ
  | [], ρ, h => fin ρ h
  | d :: xs, ρ, h => step d xs ρ (fun r => forW t b E xs r) h fun r q => forW_inv I step fin xs r q
theorem wpB_step {Γ : Gm} {s : Sm} {ss : List Sm} {E : Nd} {ρ : Evn} (h : ∀ N, N = wpB Γ ss E → MW.wpS Γ s { E with nx := N } ρ) : wpB Γ (s :: ss) E ρ := h _ rfl
abbrev fr (x : Sl) : Prop := x = .no ∨ ∃ d, x = .val d
/-! ### small facts -/
def Ris (l : List Int) : Prop := l.Pairwise (· < ·)
theorem rng_n {j : Int} (h0 : 0 ≤ j) (h1 : j ≤ 1000000) : rngD [.int j] = some ((List.range j.toNat).map fun (k : Nat) => .int (k : Int)) := by
  unfold rngD
  simp only
  rw [if_pos]
  simp only [Bool.and_eq_true, decide_eq_true_eq]
  omega
theorem fit_of {n : Nat} (h : n ≤ 1000000) : fitL n = true := by rw [fitL_iff, sizeLine_eq]; omega
theorem siz_of {n : Nat} (h : n ≤ 1000000) : n < sizeLine := by rw [sizeLine_eq]; omega
theorem shp_i (i : Int) : shp 60 (.int i) = true := rfl
theorem shp_b (a : Bool) : shp 60 (.bool a) = true := rfl
theorem shp_n : shp 60 .none = true := rfl
theorem shp_str {x : List Nat} (h : ∀ c ∈ x, c < 128) : shp 60 (.str x) = true := rfl
theorem eq_i (i j : Int) : eqD (.int i) (.int j) = (i == j) := Eq.trans (b := (i == j)) rfl (by cases (i == j) <;> rfl)
theorem eq_s (a b : List Nat) : eqD (.str a) (.str b) = (a == b) := Eq.trans (b := (a == b)) rfl (by cases (a == b) <;> rfl)
theorem eq_b (a b : Bool) : eqD (.bool a) (.bool b) = (a == b) := Eq.trans (b := (a == b)) rfl (by cases (a == b) <;> rfl)
theorem eq_t (a b : List Int) : eqD (.tuple (a.map .int)) (.tuple (b.map .int)) = decide (a = b) := Eq.trans (b := eqDs (a.map .int) (b.map .int)) rfl (eq_ints a b)
theorem eq_l (a b : List Int) : eqD (.list (a.map .int)) (.list (b.map .int)) = decide (a = b) := Eq.trans (b := eqDs (a.map .int) (b.map .int)) rfl (eq_ints a b)
theorem eq_l0 (a : List Int) : eqD (.list (a.map .int)) (.list []) = a.isEmpty := by cases a <;> rfl
theorem join_one : ∀ w : List Nat, joinN [] (w.map fun c => [c]) = w
  | [] => rfl
  | [c] => rfl
  | c :: d :: w => by
    have := join_one (d :: w)
    show [c] ++ [] ++ joinN [] ((d :: w).map fun c => [c]) = _
    rw [this]; rfl
theorem strs_one (w : List Nat) : strsD (w.map fun c => D.str [c]) = some (w.map fun c => [c]) := by
  have := strsD_map (w.map fun c => [c])
  rw [List.map_map] at this
  exact this
theorem sum_one : ∀ w : List Nat, ((w.map fun c => [c]).map (·.length)).sum = w.length
  | [] => rfl
  | c :: w => by
    show 1 + ((w.map fun c => [c]).map (·.length)).sum = _
    rw [sum_one w]; simp; omega
/-! ### the tape -/
def tape (cs : List Int) (a b : Int) : D := .list [.list (cs.map .int), .int a, .int b]
def Tp (t : D) : Prop := ∃ cs a b, 0 ≤ a ∧ t = tape cs a b
def spDraw : MW.PT := fun ds R => ∃ t many, ds = [t, .int many] ∧ Tp t ∧ 0 < many ∧ many < 1073741824 ∧ ∀ v t', 0 ≤ v → v < many → Tp t' → R (.int v) [t']
theorem sm_r (i : Int) {j : Int} (h : smallI j = true) : (smallI i || smallI j) = true := by rw [h, Bool.or_true]
theorem sm_l {i : Int} (j : Int) (h : smallI i = true) : (smallI i || smallI j) = true := by rw [h, Bool.true_or]
theorem sm_mod (x : Int) : smallI (x % 2147483647) = true := by
  have := Int.emod_nonneg x (show (2147483647 : Int) ≠ 0 by decide)
  have := Int.emod_lt_of_pos x (show (0 : Int) < 2147483647 by decide)
  simp only [smallI, Bool.and_eq_true, decide_eq_true_eq]
  omega
theorem ok_draw (Γ : Gm) (ds : List D) (R : D → List D → Prop) (h : spDraw ds R) : wpD false Γ [true, false] 6 b_law_draw ds R := by
  obtain ⟨t, many, rfl, ⟨cs, a, b, ha, rfl⟩, h1, h2, hR⟩ := h
  have hG : True := trivial
  have e1 : decide (0 < many) = true := decide_eq_true h1
  have e2 : (decide (0 < many) && decide (many < 1073741824)) = true := by rw [e1, decide_eq_true h2]; rfl
  have em : ∀ x t', Tp t' → R (.int (x % many)) [t'] := fun x t' ht => hR _ _ (Int.emod_nonneg _ (by omega)) (Int.emod_lt_of_pos _ h1) ht
  have tp : ∀ c d, 0 ≤ c → Tp (.list [.list (cs.map .int), .int c, .int d]) := fun c d hc => ⟨cs, c, d, hc, rfl⟩
  simp only [b_law_draw, tape, wpD_f, wpD_n, wpF, wpN, Bool.false_eq_true, if_false, if_true, ev0, List.zipWith_cons_cons, List.zipWith_nil_left, List.zipWith_nil_right, List.zipWith, List.replicate, List.length_cons, List.length_nil, Nat.reduceAdd, Nat.reduceSub, List.cons_append, List.nil_append, wpB, MW.wpS, wpc, wpcs, opd, wp, wps, wpo, wpa, wpp, bnd_some, bnd_none, bnd_if, bnd_map, bnd_bind, pk, rdv, setv, setc, getc, List.getElem?_cons_zero, List.getElem?_cons_succ, List.set_cons_zero, List.set_cons_succ, add_ii, add_ss, add_ll, add_tt, sub_ii, mul_ii, mul_si, mod_ii, fdiv_ii, pow_ii, shr_ii, and_ii, c_eq, c_ne, lt_ii, lt_ss, gt_ii, gt_ss, le_ii, ge_ii, in_l, in_t, in_s, nin_l, nin_t, nin_s, is_n, isn_n, is_bb, isn_bb, ix_l, ix_t, ix_s, sl_l, sl_t, sl_s, t_b, t_i, t_l, t_t, t_n, t_s, len_s, len_l, len_t, tup_l, tup_t, lst_l, lst_t, srt_l, sset_x, lset_x, ssetM, lsetM, all_l, any_l, int_b, int_i, repr_x, isi_x, revs_l, revs_s, trng_x, lrng_x, rep_x, cat_x, lst_s, ix_dk, dnew_x, as_d, key_i, key_s, enum_l, enum_t, srt_t, in_dk, nin_dk, len_dk, srt_dk, dpairs_l, find_x, findT, join_x, joinT, lt_l, lt_t, as_i, as_l, as_t, as_b, atA, atB, atC, atDd, atE, tn0, tn1, tn2, tn3, outsO, List.tail_cons, tgt, tgts, Option.bind_some, Option.map_some, Option.bind_none, Option.map_none, ownD, isTy, hG, argsIo, ioOk, List.all_cons, List.all_nil, Bool.and_true, Option.isSome_some, peekC, outsE, true_and, and_true, srcD, itemsD, turns, List.map_cons, List.map_nil, wipeE, backE, noOwn, Option.isNone_none]
  split
  · exact ⟨e1, e2, by decide, em _ _ (tp _ _ ha)⟩
  · refine ⟨by decide, ?_⟩
    split
    · rename_i hl
      refine ⟨hl, ?_⟩
      have hl' := of_decide_eq_true hl
      obtain ⟨z, hz, ez⟩ := at_in (xs := cs.map D.int) (i := a % ((cs.map D.int).length : Int)) (Int.emod_nonneg _ (by omega)) (Int.emod_lt_of_pos _ hl')
      obtain ⟨c, _, rfl⟩ := List.mem_map.mp hz
      rw [ez]
      simp only [wpD_f, wpD_n, wpF, wpN, Bool.false_eq_true, if_false, if_true, ev0, List.zipWith_cons_cons, List.zipWith_nil_left, List.zipWith_nil_right, List.zipWith, List.replicate, List.length_cons, List.length_nil, Nat.reduceAdd, Nat.reduceSub, List.cons_append, List.nil_append, wpB, MW.wpS, wpc, wpcs, opd, wp, wps, wpo, wpa, wpp, bnd_some, bnd_none, bnd_if, bnd_map, bnd_bind, pk, rdv, setv, setc, getc, List.getElem?_cons_zero, List.getElem?_cons_succ, List.set_cons_zero, List.set_cons_succ, add_ii, add_ss, add_ll, add_tt, sub_ii, mul_ii, mul_si, mod_ii, fdiv_ii, pow_ii, shr_ii, and_ii, c_eq, c_ne, lt_ii, lt_ss, gt_ii, gt_ss, le_ii, ge_ii, in_l, in_t, in_s, nin_l, nin_t, nin_s, is_n, isn_n, is_bb, isn_bb, ix_l, ix_t, ix_s, sl_l, sl_t, sl_s, t_b, t_i, t_l, t_t, t_n, t_s, len_s, len_l, len_t, tup_l, tup_t, lst_l, lst_t, srt_l, sset_x, lset_x, ssetM, lsetM, all_l, any_l, int_b, int_i, repr_x, isi_x, revs_l, revs_s, trng_x, lrng_x, rep_x, cat_x, lst_s, ix_dk, dnew_x, as_d, key_i, key_s, enum_l, enum_t, srt_t, in_dk, nin_dk, len_dk, srt_dk, dpairs_l, find_x, findT, join_x, joinT, lt_l, lt_t, as_i, as_l, as_t, as_b, atA, atB, atC, atDd, atE, tn0, tn1, tn2, tn3, outsO, List.tail_cons, tgt, tgts, Option.bind_some, Option.map_some, Option.bind_none, Option.map_none, ownD, isTy, hG, argsIo, ioOk, List.all_cons, List.all_nil, Bool.and_true, Option.isSome_some, peekC, outsE, true_and, and_true, srcD, itemsD, turns, List.map_cons, List.map_nil, wipeE, backE, noOwn, Option.isNone_none]
      refine ⟨by decide, ?_⟩
      split
      · split
        · exact ⟨e2, by decide, e1, em _ _ (tp _ _ (by omega))⟩
        · repeat' (first | exact em _ _ (tp _ _ (by omega)) | refine ⟨by first | exact e1 | exact e2 | decide | exact sm_l _ (sm_mod _) | exact sm_r _ (by decide) | exact sm_l _ (by decide), ?_⟩)
      · repeat' (first | exact em _ _ (tp _ _ (by omega)) | refine ⟨by first | exact e1 | exact e2 | decide | exact sm_l _ (sm_mod _) | exact sm_r _ (by decide) | exact sm_l _ (by decide), ?_⟩)
    · refine ⟨by decide, ?_⟩
      split
      · rename_i h; exact absurd h (by decide)
      · repeat' (first | exact em _ _ (tp _ _ (by omega)) | refine ⟨by first | exact e1 | exact e2 | decide | exact sm_l _ (sm_mod _) | exact sm_r _ (by decide) | exact sm_l _ (by decide), ?_⟩)
def spTape : MW.PT := fun ds R => ∃ ns : List Int, ds = [.list (ns.map .int)] ∧ ∀ t, Tp t → R t []
theorem ok_tape (Γ : Gm) (ds : List D) (R : D → List D → Prop) (h : spTape ds R) : wpD true Γ [false] 1 b_law_tape ds R := by
  obtain ⟨ns, rfl, hR⟩ := h
  have hG : True := trivial
  simp only [b_law_tape, wpD_f, wpD_n, wpF, wpN, Bool.false_eq_true, if_false, if_true, ev0, List.zipWith_cons_cons, List.zipWith_nil_left, List.zipWith_nil_right, List.zipWith, List.replicate, List.length_cons, List.length_nil, Nat.reduceAdd, Nat.reduceSub, List.cons_append, List.nil_append, wpB, MW.wpS, wpc, wpcs, opd, wp, wps, wpo, wpa, wpp, bnd_some, bnd_none, bnd_if, bnd_map, bnd_bind, pk, rdv, setv, setc, getc, List.getElem?_cons_zero, List.getElem?_cons_succ, List.set_cons_zero, List.set_cons_succ, add_ii, add_ss, add_ll, add_tt, sub_ii, mul_ii, mul_si, mod_ii, fdiv_ii, pow_ii, shr_ii, and_ii, c_eq, c_ne, lt_ii, lt_ss, gt_ii, gt_ss, le_ii, ge_ii, in_l, in_t, in_s, nin_l, nin_t, nin_s, is_n, isn_n, is_bb, isn_bb, ix_l, ix_t, ix_s, sl_l, sl_t, sl_s, t_b, t_i, t_l, t_t, t_n, t_s, len_s, len_l, len_t, tup_l, tup_t, lst_l, lst_t, srt_l, sset_x, lset_x, ssetM, lsetM, all_l, any_l, int_b, int_i, repr_x, isi_x, revs_l, revs_s, trng_x, lrng_x, rep_x, cat_x, lst_s, ix_dk, dnew_x, as_d, key_i, key_s, enum_l, enum_t, srt_t, in_dk, nin_dk, len_dk, srt_dk, dpairs_l, find_x, findT, join_x, joinT, lt_l, lt_t, as_i, as_l, as_t, as_b, atA, atB, atC, atDd, atE, tn0, tn1, tn2, tn3, outsO, List.tail_cons, tgt, tgts, Option.bind_some, Option.map_some, Option.bind_none, Option.map_none, ownD, isTy, hG, argsIo, ioOk, List.all_cons, List.all_nil, Bool.and_true, Option.isSome_some, peekC, outsE, true_and, and_true, srcD, itemsD, turns, List.map_cons, List.map_nil, wipeE, backE, noOwn, Option.isNone_none]
  rw [cut_to _ (by decide), ← List.map_take]
  exact ⟨by decide, hR _ ⟨ns.take (Int.toNat 63), 0, 0, by decide, rfl⟩⟩
/-- a machine's signs -/
structure Sg (s : List Nat) : Prop where
  c : ∀ c ∈ s, 97 ≤ c ∧ c < 123
  r : s.Pairwise (· < ·)
  l0 : 1 ≤ s.length
  l1 : s.length ≤ 4
theorem Sg.lt {s : List Nat} (h : Sg s) : ∀ c ∈ s, c < 128 := fun c hc => by have := h.c c hc; omega
instance (s : List Nat) : Decidable (Sg s) := decidable_of_iff ((∀ c ∈ s, 97 ≤ c ∧ c < 123) ∧ s.Pairwise (· < ·) ∧ 1 ≤ s.length ∧ s.length ≤ 4) ⟨fun ⟨a, b, c, d⟩ => ⟨a, b, c, d⟩, fun h => ⟨h.c, h.r, h.l0, h.l1⟩⟩
def spSigns : MW.PT := fun ds R => ∃ t, ds = [t] ∧ Tp t ∧ ∀ sg t', Sg sg → Tp t' → R (.str sg) [t']
abbrev fDraw : Fn := ⟨[true, false], spDraw, false⟩
theorem bt00 : Builtin.bitAnd ((1 + 0 : Int) / 2 ^ Int.toNat (0 : Nat)) 1 = 1 := by decide
theorem bt01 : Builtin.bitAnd ((1 + 0 : Int) / 2 ^ Int.toNat (1 : Nat)) 1 = 0 := by decide
theorem bt02 : Builtin.bitAnd ((1 + 0 : Int) / 2 ^ Int.toNat (2 : Nat)) 1 = 0 := by decide
theorem bt10 : Builtin.bitAnd ((1 + 1 : Int) / 2 ^ Int.toNat (0 : Nat)) 1 = 0 := by decide
theorem bt11 : Builtin.bitAnd ((1 + 1 : Int) / 2 ^ Int.toNat (1 : Nat)) 1 = 1 := by decide
theorem bt12 : Builtin.bitAnd ((1 + 1 : Int) / 2 ^ Int.toNat (2 : Nat)) 1 = 0 := by decide
theorem bt20 : Builtin.bitAnd ((1 + 2 : Int) / 2 ^ Int.toNat (0 : Nat)) 1 = 1 := by decide
theorem bt21 : Builtin.bitAnd ((1 + 2 : Int) / 2 ^ Int.toNat (1 : Nat)) 1 = 1 := by decide
theorem bt22 : Builtin.bitAnd ((1 + 2 : Int) / 2 ^ Int.toNat (2 : Nat)) 1 = 0 := by decide
theorem bt30 : Builtin.bitAnd ((1 + 3 : Int) / 2 ^ Int.toNat (0 : Nat)) 1 = 0 := by decide
theorem bt31 : Builtin.bitAnd ((1 + 3 : Int) / 2 ^ Int.toNat (1 : Nat)) 1 = 0 := by decide
theorem bt32 : Builtin.bitAnd ((1 + 3 : Int) / 2 ^ Int.toNat (2 : Nat)) 1 = 1 := by decide
theorem bt40 : Builtin.bitAnd ((1 + 4 : Int) / 2 ^ Int.toNat (0 : Nat)) 1 = 1 := by decide
theorem bt41 : Builtin.bitAnd ((1 + 4 : Int) / 2 ^ Int.toNat (1 : Nat)) 1 = 0 := by decide
theorem bt42 : Builtin.bitAnd ((1 + 4 : Int) / 2 ^ Int.toNat (2 : Nat)) 1 = 1 := by decide
theorem bt50 : Builtin.bitAnd ((1 + 5 : Int) / 2 ^ Int.toNat (0 : Nat)) 1 = 0 := by decide
theorem bt51 : Builtin.bitAnd ((1 + 5 : Int) / 2 ^ Int.toNat (1 : Nat)) 1 = 1 := by decide
theorem bt52 : Builtin.bitAnd ((1 + 5 : Int) / 2 ^ Int.toNat (2 : Nat)) 1 = 1 := by decide
theorem bt60 : Builtin.bitAnd ((1 + 6 : Int) / 2 ^ Int.toNat (0 : Nat)) 1 = 1 := by decide
theorem bt61 : Builtin.bitAnd ((1 + 6 : Int) / 2 ^ Int.toNat (1 : Nat)) 1 = 1 := by decide
theorem bt62 : Builtin.bitAnd ((1 + 6 : Int) / 2 ^ Int.toNat (2 : Nat)) 1 = 1 := by decide
theorem rng3 : rngD [.int 3] = some [.int (0 : Nat), .int (1 : Nat), .int (2 : Nat)] := by rfl
theorem at_0 {α : Type} (x : α) (l : List α) : atD (x :: l) ((0 : Nat) : Int) = some x := rfl
theorem at_1 {α : Type} (x y : α) (l : List α) : atD (x :: y :: l) ((1 : Nat) : Int) = some y := rfl
theorem at_2 {α : Type} (x y z : α) (l : List α) : atD (x :: y :: z :: l) ((2 : Nat) : Int) = some z := rfl
theorem fit3 : fitL 3 = true := by decide
theorem ge0 (n : Nat) : decide (0 ≤ (n : Int)) = true := decide_eq_true (Int.natCast_nonneg n)
theorem e11 : ((1 : Int) == 1) = true := rfl
theorem e01 : ((0 : Int) == 1) = false := rfl
theorem ok_signs (Γ : Gm) (hG : Γ "_law_draw" = some fDraw) (ds : List D) (R : D → List D → Prop) (h : spSigns ds R) : wpD false Γ [true] 4 b_law_signs ds R := by
  obtain ⟨t, rfl, ht, hR⟩ := h
  simp only [b_law_signs, wpD_f, wpD_n, wpF, wpN, Bool.false_eq_true, if_false, if_true, ev0, List.zipWith_cons_cons, List.zipWith_nil_left, List.zipWith_nil_right, List.zipWith, List.replicate, List.length_cons, List.length_nil, Nat.reduceAdd, Nat.reduceSub, List.cons_append, List.nil_append, wpB, MW.wpS, wpc, wpcs, opd, wp, wps, wpo, wpa, wpp, bnd_some, bnd_none, bnd_if, bnd_map, bnd_bind, pk, rdv, setv, setc, getc, List.getElem?_cons_zero, List.getElem?_cons_succ, List.set_cons_zero, List.set_cons_succ, add_ii, add_ss, add_ll, add_tt, sub_ii, mul_ii, mul_si, mod_ii, fdiv_ii, pow_ii, shr_ii, and_ii, c_eq, c_ne, lt_ii, lt_ss, gt_ii, gt_ss, le_ii, ge_ii, in_l, in_t, in_s, nin_l, nin_t, nin_s, is_n, isn_n, is_bb, isn_bb, ix_l, ix_t, ix_s, sl_l, sl_t, sl_s, t_b, t_i, t_l, t_t, t_n, t_s, len_s, len_l, len_t, tup_l, tup_t, lst_l, lst_t, srt_l, sset_x, lset_x, ssetM, lsetM, all_l, any_l, int_b, int_i, repr_x, isi_x, revs_l, revs_s, trng_x, lrng_x, rep_x, cat_x, lst_s, ix_dk, dnew_x, as_d, key_i, key_s, enum_l, enum_t, srt_t, in_dk, nin_dk, len_dk, srt_dk, dpairs_l, find_x, findT, join_x, joinT, lt_l, lt_t, as_i, as_l, as_t, as_b, atA, atB, atC, atDd, atE, tn0, tn1, tn2, tn3, outsO, List.tail_cons, tgt, tgts, Option.bind_some, Option.map_some, Option.bind_none, Option.map_none, ownD, isTy, hG, argsIo, ioOk, List.all_cons, List.all_nil, Bool.and_true, Option.isSome_some, peekC, outsE, true_and, and_true, srcD, itemsD, turns, List.map_cons, List.map_nil, wipeE, backE, noOwn, Option.isNone_none]
  refine ⟨by decide, by decide, t, 4, rfl, ht, by decide, by decide, fun v t1 h0 h1 ht1 => ?_⟩
  have : v = 0 ∨ v = 1 ∨ v = 2 ∨ v = 3 := by omega
  rcases this with rfl | rfl | rfl | rfl
  all_goals
    simp only [wpD_f, wpD_n, wpF, wpN, Bool.false_eq_true, if_false, if_true, ev0, List.zipWith_cons_cons, List.zipWith_nil_left, List.zipWith_nil_right, List.zipWith, List.replicate, List.length_cons, List.length_nil, Nat.reduceAdd, Nat.reduceSub, List.cons_append, List.nil_append, wpB, MW.wpS, wpc, wpcs, opd, wp, wps, wpo, wpa, wpp, bnd_some, bnd_none, bnd_if, bnd_map, bnd_bind, pk, rdv, setv, setc, getc, List.getElem?_cons_zero, List.getElem?_cons_succ, List.set_cons_zero, List.set_cons_succ, add_ii, add_ss, add_ll, add_tt, sub_ii, mul_ii, mul_si, mod_ii, fdiv_ii, pow_ii, shr_ii, and_ii, c_eq, c_ne, lt_ii, lt_ss, gt_ii, gt_ss, le_ii, ge_ii, in_l, in_t, in_s, nin_l, nin_t, nin_s, is_n, isn_n, is_bb, isn_bb, ix_l, ix_t, ix_s, sl_l, sl_t, sl_s, t_b, t_i, t_l, t_t, t_n, t_s, len_s, len_l, len_t, tup_l, tup_t, lst_l, lst_t, srt_l, sset_x, lset_x, ssetM, lsetM, all_l, any_l, int_b, int_i, repr_x, isi_x, revs_l, revs_s, trng_x, lrng_x, rep_x, cat_x, lst_s, ix_dk, dnew_x, as_d, key_i, key_s, enum_l, enum_t, srt_t, in_dk, nin_dk, len_dk, srt_dk, dpairs_l, find_x, findT, join_x, joinT, lt_l, lt_t, as_i, as_l, as_t, as_b, atA, atB, atC, atDd, atE, tn0, tn1, tn2, tn3, outsO, List.tail_cons, tgt, tgts, Option.bind_some, Option.map_some, Option.bind_none, Option.map_none, ownD, isTy, hG, argsIo, ioOk, List.all_cons, List.all_nil, Bool.and_true, Option.isSome_some, peekC, outsE, true_and, and_true, srcD, itemsD, turns, List.map_cons, List.map_nil, wipeE, backE, noOwn, Option.isNone_none]
    refine ⟨by decide, t1, 7, rfl, ht1, by decide, by decide, fun v t2 h0 h1 ht2 => ?_⟩
    have : v = 0 ∨ v = 1 ∨ v = 2 ∨ v = 3 ∨ v = 4 ∨ v = 5 ∨ v = 6 := by omega
    rcases this with rfl | rfl | rfl | rfl | rfl | rfl | rfl
  all_goals simp only [b_law_signs_c1, b_law_signs_e2, wpD_f, wpD_n, wpF, wpN, Bool.false_eq_true, if_false, if_true, ev0, List.zipWith_cons_cons, List.zipWith_nil_left, List.zipWith_nil_right, List.zipWith, List.replicate, List.length_cons, List.length_nil, Nat.reduceAdd, Nat.reduceSub, List.cons_append, List.nil_append, wpB, MW.wpS, wpc, wpcs, opd, wp, wps, wpo, wpa, wpp, bnd_some, bnd_none, bnd_if, bnd_map, bnd_bind, pk, rdv, setv, setc, getc, List.getElem?_cons_zero, List.getElem?_cons_succ, List.set_cons_zero, List.set_cons_succ, add_ii, add_ss, add_ll, add_tt, sub_ii, mul_ii, mul_si, mod_ii, fdiv_ii, pow_ii, shr_ii, and_ii, c_eq, c_ne, lt_ii, lt_ss, gt_ii, gt_ss, le_ii, ge_ii, in_l, in_t, in_s, nin_l, nin_t, nin_s, is_n, isn_n, is_bb, isn_bb, ix_l, ix_t, ix_s, sl_l, sl_t, sl_s, t_b, t_i, t_l, t_t, t_n, t_s, len_s, len_l, len_t, tup_l, tup_t, lst_l, lst_t, srt_l, sset_x, lset_x, ssetM, lsetM, all_l, any_l, int_b, int_i, repr_x, isi_x, revs_l, revs_s, trng_x, lrng_x, rep_x, cat_x, lst_s, ix_dk, dnew_x, as_d, key_i, key_s, enum_l, enum_t, srt_t, in_dk, nin_dk, len_dk, srt_dk, dpairs_l, find_x, findT, join_x, joinT, lt_l, lt_t, as_i, as_l, as_t, as_b, atA, atB, atC, atDd, atE, tn0, tn1, tn2, tn3, outsO, List.tail_cons, tgt, tgts, Option.bind_some, Option.map_some, Option.bind_none, Option.map_none, ownD, isTy, hG, argsIo, ioOk, List.all_cons, List.all_nil, Bool.and_true, Option.isSome_some, peekC, outsE, true_and, and_true, srcD, itemsD, turns, List.map_cons, List.map_nil, wipeE, backE, noOwn, Option.isNone_none, rng3, bt00, bt01, bt02, bt10, bt11, bt12, bt20, bt21, bt22, bt30, bt31, bt32, bt40, bt41, bt42, bt50, bt51, bt52, bt60, bt61, bt62, eq_i, at_0, at_1, at_2, fit3, shp_i, ge0, e11, e01, strsD, Bool.and_self]
  all_goals repeat' (first | exact hR _ _ (by decide) ht2 | refine ⟨by decide, ?_⟩)
end MH

set_option Elab.async false
set_option linter.all false
set_option maxRecDepth 100000
set_option maxHeartbeats 0
namespace MH
open PySem MW
/-! ### sets of stands -/
structure St (n : Int) (l : List Int) : Prop where
  r : Ris l
  b : ∀ k ∈ l, 0 ≤ k ∧ k < n
theorem Ris.nodup {l : List Int} (h : Ris l) : l.Nodup := h.imp fun {a b} q => by omega
theorem len_of_range {l : List Int} {n : Int} (nd : l.Nodup) (h : ∀ k ∈ l, 0 ≤ k ∧ k < n) : l.length ≤ n.toNat := by
  have : l.length ≤ ((List.range n.toNat).map fun (k : Nat) => (k : Int)).length := List.Nodup.length_le_of_subset nd fun k hk => by
    have := h k hk
    rw [List.mem_map]
    exact ⟨k.toNat, by rw [List.mem_range]; omega, by omega⟩
  simpa using this
theorem St.len {n : Int} {l : List Int} (h : St n l) : l.length ≤ n.toNat := len_of_range h.r.nodup h.b
theorem St.nil (n : Int) : St n [] := ⟨.nil, fun k hk => by cases hk⟩
theorem St.snoc {s : Nat} {l : List Int} (h : St (s : Int) l) : St ((s + 1 : Nat) : Int) (l ++ [(s : Int)]) :=
  ⟨List.pairwise_append.mpr ⟨h.r, List.pairwise_singleton _ _, fun a ha b hb => by rw [List.mem_singleton] at hb; have := h.b a ha; omega⟩, fun k hk => by
    rcases List.mem_append.mp hk with q | q
    · have := h.b k q; omega
    · rw [List.mem_singleton] at q; omega⟩
theorem St.up {n m : Int} {l : List Int} (h : St n l) (q : n ≤ m) : St m l := ⟨h.r, fun k hk => by have := h.b k hk; omega⟩
theorem oset_ris (l : List Int) : Ris (oset l) := (oset_lt l).imp fun {a b} q => by omega
theorem St.oset {n : Int} {l : List Int} (h : ∀ k ∈ l, 0 ≤ k ∧ k < n) : St n (oset l) := ⟨oset_ris l, fun k hk => h k (oset_mem.mp hk)⟩
theorem rng_step {s k : Nat} {d : D} {rest : List D} (h : d :: rest = (List.range' s k).map fun (k : Nat) => D.int (k : Int)) : ∃ k', k = k' + 1 ∧ d = .int (s : Int) ∧ rest = (List.range' (s + 1) k').map fun (k : Nat) => D.int (k : Int) := by
  cases k with
  | zero => simp at h
  | succ k' =>
    rw [List.range'_succ, List.map_cons] at h
    cases h
    exact ⟨k', rfl, rfl, rfl⟩
theorem rng_nil {s k : Nat} (h : [] = (List.range' s k).map fun (k : Nat) => D.int (k : Int)) : k = 0 := by
  cases k with
  | zero => rfl
  | succ k' => rw [List.range'_succ, List.map_cons] at h; cases h
theorem map_step {α : Type} {f : α → D} {xs : List α} {d : D} {rest : List D} (h : d :: rest = xs.map f) : ∃ x xs', xs = x :: xs' ∧ d = f x ∧ rest = xs'.map f := by
  cases xs with
  | nil => simp at h
  | cons x xs' => rw [List.map_cons] at h; cases h; exact ⟨x, xs', rfl, rfl, rfl⟩
theorem map_nil' {α : Type} {f : α → D} {xs : List α} (h : [] = xs.map f) : xs = [] := by
  cases xs with
  | nil => rfl
  | cons x xs' => rw [List.map_cons] at h; cases h
def spSome : MW.PT := fun ds R => ∃ t many rare, ds = [t, .int many, .int rare] ∧ Tp t ∧ 0 ≤ many ∧ many ≤ 1000 ∧ 0 < rare ∧ rare < 1073741824 ∧
  ∀ (l : List Int) t', St many l → Tp t' → R (intsT l) [t']
theorem ok_some (Γ : Gm) (hG : Γ "_law_draw" = some fDraw) (ds : List D) (R : D → List D → Prop) (h : spSome ds R) : wpD false Γ [true, false, false] 4 b_law_some ds R := by
  obtain ⟨t, many, rare, rfl, ht, m0, m1, r0, r1, hR⟩ := h
  simp only [b_law_some, wpD_f, wpD_n, wpF, wpN, Bool.false_eq_true, if_false, if_true, ev0, List.zipWith_cons_cons, List.zipWith_nil_left, List.zipWith_nil_right, List.zipWith, List.replicate, List.length_cons, List.length_nil, Nat.reduceAdd, Nat.reduceSub, List.cons_append, List.nil_append, wpB, MW.wpS, wpc, wpcs, opd, wp, wps, wpo, wpa, wpp, bnd_some, bnd_none, bnd_if, bnd_map, bnd_bind, pk, rdv, setv, setc, getc, List.getElem?_cons_zero, List.getElem?_cons_succ, List.set_cons_zero, List.set_cons_succ, add_ii, add_ss, add_ll, add_tt, sub_ii, mul_ii, mul_si, mod_ii, fdiv_ii, pow_ii, shr_ii, and_ii, c_eq, c_ne, lt_ii, lt_ss, gt_ii, gt_ss, le_ii, ge_ii, in_l, in_t, in_s, nin_l, nin_t, nin_s, is_n, isn_n, is_bb, isn_bb, ix_l, ix_t, ix_s, sl_l, sl_t, sl_s, t_b, t_i, t_l, t_t, t_n, t_s, len_s, len_l, len_t, tup_l, tup_t, lst_l, lst_t, srt_l, sset_x, lset_x, ssetM, lsetM, all_l, any_l, int_b, int_i, repr_x, isi_x, revs_l, revs_s, trng_x, lrng_x, rep_x, cat_x, lst_s, ix_dk, dnew_x, as_d, key_i, key_s, enum_l, enum_t, srt_t, in_dk, nin_dk, len_dk, srt_dk, dpairs_l, find_x, findT, join_x, joinT, lt_l, lt_t, as_i, as_l, as_t, as_b, atA, atB, atC, atDd, atE, tn0, tn1, tn2, tn3, outsO, List.tail_cons, tgt, tgts, Option.bind_some, Option.map_some, Option.bind_none, Option.map_none, ownD, isTy, hG, argsIo, ioOk, List.all_cons, List.all_nil, Bool.and_true, Option.isSome_some, peekC, outsE, true_and, and_true, srcD, itemsD, turns, List.map_cons, List.map_nil, wipeE, backE, noOwn, Option.isNone_none, rng_n m0 (show many ≤ 1000000 by omega)]
  refine turns_inv (fun rest acc ρ => ∃ (s k : Nat) (os : List Int) (t' : D), rest = (List.range' s k).map (fun (k : Nat) => D.int (k : Int)) ∧ s + k = many.toNat ∧ St (s : Int) os ∧ acc = os.map .int ∧ Tp t' ∧ ρ = [.io t', .val (.int many), .val (.int rare), .no]) ?_ ?_ _ _ _
    ⟨0, many.toNat, [], t, by rw [List.range_eq_range'], by omega, St.nil _, rfl, ht, rfl⟩
  · rintro d rest acc ρ T ⟨s, k, os, t', he, hk, hos, rfl, ht', rfl⟩ hT
    obtain ⟨k', rfl, rfl, rfl⟩ := rng_step he
    simp only [b_law_some_c1, b_law_some_e2, wpD_f, wpD_n, wpF, wpN, Bool.false_eq_true, if_false, if_true, ev0, List.zipWith_cons_cons, List.zipWith_nil_left, List.zipWith_nil_right, List.zipWith, List.replicate, List.length_cons, List.length_nil, Nat.reduceAdd, Nat.reduceSub, List.cons_append, List.nil_append, wpB, MW.wpS, wpc, wpcs, opd, wp, wps, wpo, wpa, wpp, bnd_some, bnd_none, bnd_if, bnd_map, bnd_bind, pk, rdv, setv, setc, getc, List.getElem?_cons_zero, List.getElem?_cons_succ, List.set_cons_zero, List.set_cons_succ, add_ii, add_ss, add_ll, add_tt, sub_ii, mul_ii, mul_si, mod_ii, fdiv_ii, pow_ii, shr_ii, and_ii, c_eq, c_ne, lt_ii, lt_ss, gt_ii, gt_ss, le_ii, ge_ii, in_l, in_t, in_s, nin_l, nin_t, nin_s, is_n, isn_n, is_bb, isn_bb, ix_l, ix_t, ix_s, sl_l, sl_t, sl_s, t_b, t_i, t_l, t_t, t_n, t_s, len_s, len_l, len_t, tup_l, tup_t, lst_l, lst_t, srt_l, sset_x, lset_x, ssetM, lsetM, all_l, any_l, int_b, int_i, repr_x, isi_x, revs_l, revs_s, trng_x, lrng_x, rep_x, cat_x, lst_s, ix_dk, dnew_x, as_d, key_i, key_s, enum_l, enum_t, srt_t, in_dk, nin_dk, len_dk, srt_dk, dpairs_l, find_x, findT, join_x, joinT, lt_l, lt_t, as_i, as_l, as_t, as_b, atA, atB, atC, atDd, atE, tn0, tn1, tn2, tn3, outsO, List.tail_cons, tgt, tgts, Option.bind_some, Option.map_some, Option.bind_none, Option.map_none, ownD, isTy, hG, argsIo, ioOk, List.all_cons, List.all_nil, Bool.and_true, Option.isSome_some, peekC, outsE, true_and, and_true, srcD, itemsD, turns, List.map_cons, List.map_nil, wipeE, backE, noOwn, Option.isNone_none]
    refine ⟨by decide, t', rare, rfl, ht', r0, r1, fun v t2 v0 v1 ht2 => ?_⟩
    simp only [wpD_f, wpD_n, wpF, wpN, Bool.false_eq_true, if_false, if_true, ev0, List.zipWith_cons_cons, List.zipWith_nil_left, List.zipWith_nil_right, List.zipWith, List.replicate, List.length_cons, List.length_nil, Nat.reduceAdd, Nat.reduceSub, List.cons_append, List.nil_append, wpB, MW.wpS, wpc, wpcs, opd, wp, wps, wpo, wpa, wpp, bnd_some, bnd_none, bnd_if, bnd_map, bnd_bind, pk, rdv, setv, setc, getc, List.getElem?_cons_zero, List.getElem?_cons_succ, List.set_cons_zero, List.set_cons_succ, add_ii, add_ss, add_ll, add_tt, sub_ii, mul_ii, mul_si, mod_ii, fdiv_ii, pow_ii, shr_ii, and_ii, c_eq, c_ne, lt_ii, lt_ss, gt_ii, gt_ss, le_ii, ge_ii, in_l, in_t, in_s, nin_l, nin_t, nin_s, is_n, isn_n, is_bb, isn_bb, ix_l, ix_t, ix_s, sl_l, sl_t, sl_s, t_b, t_i, t_l, t_t, t_n, t_s, len_s, len_l, len_t, tup_l, tup_t, lst_l, lst_t, srt_l, sset_x, lset_x, ssetM, lsetM, all_l, any_l, int_b, int_i, repr_x, isi_x, revs_l, revs_s, trng_x, lrng_x, rep_x, cat_x, lst_s, ix_dk, dnew_x, as_d, key_i, key_s, enum_l, enum_t, srt_t, in_dk, nin_dk, len_dk, srt_dk, dpairs_l, find_x, findT, join_x, joinT, lt_l, lt_t, as_i, as_l, as_t, as_b, atA, atB, atC, atDd, atE, tn0, tn1, tn2, tn3, outsO, List.tail_cons, tgt, tgts, Option.bind_some, Option.map_some, Option.bind_none, Option.map_none, ownD, isTy, hG, argsIo, ioOk, List.all_cons, List.all_nil, Bool.and_true, Option.isSome_some, peekC, outsE, true_and, and_true, srcD, itemsD, turns, List.map_cons, List.map_nil, wipeE, backE, noOwn, Option.isNone_none, shp_i, Bool.and_self]
    split
    · refine ⟨siz_of (by have := hos.len; rw [List.length_map]; omega), ?_⟩
      rw [show os.map D.int ++ [D.int (s : Int)] = (os ++ [(s : Int)]).map D.int by simp]
      exact hT _ _ ⟨s + 1, k', _, t2, rfl, by omega, hos.snoc, rfl, ht2, rfl⟩
    · exact hT _ _ ⟨s + 1, k', os, t2, rfl, by omega, hos.up (by omega), rfl, ht2, rfl⟩
  · rintro acc ρ ⟨s, k, os, t', he, hk, hos, rfl, ht', rfl⟩
    have hk0 := rng_nil he
    subst hk0
    simp only [wpD_f, wpD_n, wpF, wpN, Bool.false_eq_true, if_false, if_true, ev0, List.zipWith_cons_cons, List.zipWith_nil_left, List.zipWith_nil_right, List.zipWith, List.replicate, List.length_cons, List.length_nil, Nat.reduceAdd, Nat.reduceSub, List.cons_append, List.nil_append, wpB, MW.wpS, wpc, wpcs, opd, wp, wps, wpo, wpa, wpp, bnd_some, bnd_none, bnd_if, bnd_map, bnd_bind, pk, rdv, setv, setc, getc, List.getElem?_cons_zero, List.getElem?_cons_succ, List.set_cons_zero, List.set_cons_succ, add_ii, add_ss, add_ll, add_tt, sub_ii, mul_ii, mul_si, mod_ii, fdiv_ii, pow_ii, shr_ii, and_ii, c_eq, c_ne, lt_ii, lt_ss, gt_ii, gt_ss, le_ii, ge_ii, in_l, in_t, in_s, nin_l, nin_t, nin_s, is_n, isn_n, is_bb, isn_bb, ix_l, ix_t, ix_s, sl_l, sl_t, sl_s, t_b, t_i, t_l, t_t, t_n, t_s, len_s, len_l, len_t, tup_l, tup_t, lst_l, lst_t, srt_l, sset_x, lset_x, ssetM, lsetM, all_l, any_l, int_b, int_i, repr_x, isi_x, revs_l, revs_s, trng_x, lrng_x, rep_x, cat_x, lst_s, ix_dk, dnew_x, as_d, key_i, key_s, enum_l, enum_t, srt_t, in_dk, nin_dk, len_dk, srt_dk, dpairs_l, find_x, findT, join_x, joinT, lt_l, lt_t, as_i, as_l, as_t, as_b, atA, atB, atC, atDd, atE, tn0, tn1, tn2, tn3, outsO, List.tail_cons, tgt, tgts, Option.bind_some, Option.map_some, Option.bind_none, Option.map_none, ownD, isTy, hG, argsIo, ioOk, List.all_cons, List.all_nil, Bool.and_true, Option.isSome_some, peekC, outsE, true_and, and_true, srcD, itemsD, turns, List.map_cons, List.map_nil, wipeE, backE, noOwn, Option.isNone_none]
    exact hR os t' (hos.up (by omega)) ht'
/-! ### steps -/
abbrev Stp := Int × Nat × Int
def dS (s : Stp) : D := .tuple [.int s.1, .str [s.2.1], .int s.2.2]
def lt3 (a b : Stp) : Prop := a.1 < b.1 ∨ a.1 = b.1 ∧ (a.2.1 < b.2.1 ∨ a.2.1 = b.2.1 ∧ a.2.2 < b.2.2)
structure SOk (sg : List Nat) (n : Int) (s : Stp) : Prop where
  a : 0 ≤ s.1 ∧ s.1 < n
  c : s.2.1 ∈ sg
  b : 0 ≤ s.2.2 ∧ s.2.2 < n
structure SsOk (sg : List Nat) (n : Int) (l : List Stp) : Prop where
  m : ∀ s ∈ l, SOk sg n s
  r : l.Pairwise lt3
  l : l.length ≤ 256
def spStp : MW.PT := fun ds R => ∃ t sg many, ds = [t, .str sg, .int many] ∧ Tp t ∧ Sg sg ∧ 0 < many ∧ many ≤ 8 ∧ ∀ (l : List Stp) t', SsOk sg many l → Tp t' → R (.tuple (l.map dS)) [t']
def blk (one : Int) (c : Nat) (os : List Int) : List Stp := os.map fun o => (one, c, o)
/-- the list while stand `one` is at work, behind the signs `pre` -/
structure Grow (sg : List Nat) (many one : Int) (pre : List Nat) (G : List Stp) : Prop where
  m : ∀ s ∈ G, SOk sg many s
  r : G.Pairwise lt3
  u : ∀ s ∈ G, s.1 < one ∨ s.1 = one ∧ s.2.1 ∈ pre
theorem Grow.add {sg : List Nat} {many one : Int} {pre cs : List Nat} {c : Nat} {G : List Stp} {os : List Int} (hs : Sg sg) (e : sg = pre ++ c :: cs) (h0 : 0 ≤ one) (h1 : one < many) (g : Grow sg many one pre G) (o : St many os) : Grow sg many one (pre ++ [c]) (G ++ blk one c os) := by
  have pr := hs.r
  rw [e] at pr
  refine ⟨fun s hs => ?_, List.pairwise_append.mpr ⟨g.r, ?_, fun a ha b hb => ?_⟩, fun s hs => ?_⟩
  · rcases List.mem_append.mp hs with q | q
    · exact g.m s q
    · obtain ⟨k, hk, rfl⟩ := List.mem_map.mp q
      exact ⟨⟨h0, h1⟩, by rw [e]; simp, o.b k hk⟩
  · exact List.pairwise_map.mpr (o.r.imp fun {a b} q => .inr ⟨rfl, .inr ⟨rfl, q⟩⟩)
  · obtain ⟨k, hk, rfl⟩ := List.mem_map.mp hb
    rcases g.u a ha with q | ⟨q1, q2⟩
    · exact .inl q
    · exact .inr ⟨q1, .inl ((List.pairwise_append.mp pr).2.2 _ q2 c List.mem_cons_self)⟩
  · rcases List.mem_append.mp hs with q | q
    · rcases g.u s q with z | ⟨z1, z2⟩
      · exact .inl z
      · exact .inr ⟨z1, List.mem_append_left _ z2⟩
    · obtain ⟨k, hk, rfl⟩ := List.mem_map.mp q
      exact .inr ⟨rfl, by simp⟩
theorem Grow.nil (sg : List Nat) (many one : Int) (pre : List Nat) : Grow sg many one pre [] := ⟨fun s hs => (by cases hs), List.Pairwise.nil, fun s hs => (by cases hs)⟩
theorem Grow.next {sg : List Nat} {many one : Int} {G : List Stp} (g : Grow sg many one sg G) : Grow sg many (one + 1) [] G :=
  ⟨g.m, g.r, fun s hs => .inl (by rcases g.u s hs with q | q <;> omega)⟩
theorem map_blk (one : Int) (c : Nat) (os : List Int) : (os.map fun o => dS (one, c, o)) = (blk one c os).map dS := by simp [blk]
theorem st_comp {Γ : Gm} (hG : Γ "_law_draw" = some fDraw) {sg : D} {many rare one : Int} {c : Nat} {F : D} (h1 : 0 < rare) (h2 : rare < 1073741824) (m0 : 0 ≤ many) (hm : many ≤ 8) {Q : List D → Evn → Prop} (t : D) (ht : Tp t)
    (hQ : ∀ (os : List Int) t', St many os → Tp t' → Q ((blk one c os).map dS) [.io t', .val sg, .val (.int many), .val (.int rare), .own F, .val (.int one), .val (.str [c]), .no]) :
    turns (.nm 7) (wpcs Γ b_law_steps_c1) (wp Γ b_law_steps_e2) [7] ((List.range many.toNat).map fun (k : Nat) => .int (k : Int)) [] [.io t, .val sg, .val (.int many), .val (.int rare), .own F, .val (.int one), .val (.str [c]), .no] Q := by
  refine turns_inv (fun rest acc ρ => ∃ (s k : Nat) (os : List Int) (t' : D), rest = (List.range' s k).map (fun (k : Nat) => D.int (k : Int)) ∧ s + k = many.toNat ∧ St (s : Int) os ∧ acc = (os.map fun o => dS (one, c, o)) ∧ Tp t' ∧ ρ = [.io t', .val sg, .val (.int many), .val (.int rare), .own F, .val (.int one), .val (.str [c]), .no]) ?_ ?_ _ _ _
    ⟨0, many.toNat, [], t, by rw [List.range_eq_range'], by omega, St.nil _, rfl, ht, rfl⟩
  · rintro d rest acc ρ T ⟨s, k, os, t', he, hk, hos, rfl, ht', rfl⟩ hT
    obtain ⟨k', rfl, rfl, rfl⟩ := rng_step he
    simp only [b_law_steps_c1, b_law_steps_e2, wpD_f, wpD_n, wpF, wpN, Bool.false_eq_true, if_false, if_true, ev0, List.zipWith_cons_cons, List.zipWith_nil_left, List.zipWith_nil_right, List.zipWith, List.replicate, List.length_cons, List.length_nil, Nat.reduceAdd, Nat.reduceSub, List.cons_append, List.nil_append, wpB, MW.wpS, wpc, wpcs, opd, wp, wps, wpo, wpa, wpp, bnd_some, bnd_none, bnd_if, bnd_map, bnd_bind, pk, rdv, setv, setc, getc, List.getElem?_cons_zero, List.getElem?_cons_succ, List.set_cons_zero, List.set_cons_succ, add_ii, add_ss, add_ll, add_tt, sub_ii, mul_ii, mul_si, mod_ii, fdiv_ii, pow_ii, shr_ii, and_ii, c_eq, c_ne, lt_ii, lt_ss, gt_ii, gt_ss, le_ii, ge_ii, in_l, in_t, in_s, nin_l, nin_t, nin_s, is_n, isn_n, is_bb, isn_bb, ix_l, ix_t, ix_s, sl_l, sl_t, sl_s, t_b, t_i, t_l, t_t, t_n, t_s, len_s, len_l, len_t, tup_l, tup_t, lst_l, lst_t, srt_l, sset_x, lset_x, ssetM, lsetM, all_l, any_l, int_b, int_i, repr_x, isi_x, revs_l, revs_s, trng_x, lrng_x, rep_x, cat_x, lst_s, ix_dk, dnew_x, as_d, key_i, key_s, enum_l, enum_t, srt_t, in_dk, nin_dk, len_dk, srt_dk, dpairs_l, find_x, findT, join_x, joinT, lt_l, lt_t, as_i, as_l, as_t, as_b, atA, atB, atC, atDd, atE, tn0, tn1, tn2, tn3, outsO, List.tail_cons, tgt, tgts, Option.bind_some, Option.map_some, Option.bind_none, Option.map_none, ownD, isTy, hG, argsIo, ioOk, List.all_cons, List.all_nil, Bool.and_true, Option.isSome_some, peekC, outsE, true_and, and_true, srcD, itemsD, turns, List.map_cons, List.map_nil, wipeE, backE, noOwn, Option.isNone_none]
    refine ⟨by decide, t', rare, rfl, ht', h1, h2, fun v t2 v0 v1 ht2 => ?_⟩
    simp only [wpD_f, wpD_n, wpF, wpN, Bool.false_eq_true, if_false, if_true, ev0, List.zipWith_cons_cons, List.zipWith_nil_left, List.zipWith_nil_right, List.zipWith, List.replicate, List.length_cons, List.length_nil, Nat.reduceAdd, Nat.reduceSub, List.cons_append, List.nil_append, wpB, MW.wpS, wpc, wpcs, opd, wp, wps, wpo, wpa, wpp, bnd_some, bnd_none, bnd_if, bnd_map, bnd_bind, pk, rdv, setv, setc, getc, List.getElem?_cons_zero, List.getElem?_cons_succ, List.set_cons_zero, List.set_cons_succ, add_ii, add_ss, add_ll, add_tt, sub_ii, mul_ii, mul_si, mod_ii, fdiv_ii, pow_ii, shr_ii, and_ii, c_eq, c_ne, lt_ii, lt_ss, gt_ii, gt_ss, le_ii, ge_ii, in_l, in_t, in_s, nin_l, nin_t, nin_s, is_n, isn_n, is_bb, isn_bb, ix_l, ix_t, ix_s, sl_l, sl_t, sl_s, t_b, t_i, t_l, t_t, t_n, t_s, len_s, len_l, len_t, tup_l, tup_t, lst_l, lst_t, srt_l, sset_x, lset_x, ssetM, lsetM, all_l, any_l, int_b, int_i, repr_x, isi_x, revs_l, revs_s, trng_x, lrng_x, rep_x, cat_x, lst_s, ix_dk, dnew_x, as_d, key_i, key_s, enum_l, enum_t, srt_t, in_dk, nin_dk, len_dk, srt_dk, dpairs_l, find_x, findT, join_x, joinT, lt_l, lt_t, as_i, as_l, as_t, as_b, atA, atB, atC, atDd, atE, tn0, tn1, tn2, tn3, outsO, List.tail_cons, tgt, tgts, Option.bind_some, Option.map_some, Option.bind_none, Option.map_none, ownD, isTy, hG, argsIo, ioOk, List.all_cons, List.all_nil, Bool.and_true, Option.isSome_some, peekC, outsE, true_and, and_true, srcD, itemsD, turns, List.map_cons, List.map_nil, wipeE, backE, noOwn, Option.isNone_none, shp_i, Bool.and_self]
    split
    · refine ⟨by decide, siz_of (by have := hos.len; rw [List.length_map]; omega), ?_⟩
      rw [show (os.map fun o => dS (one, c, o)) ++ [D.tuple [D.int one, D.str [c], D.int (s : Int)]] = (os ++ [(s : Int)]).map fun o => dS (one, c, o) by simp [dS]]
      exact hT _ _ ⟨s + 1, k', _, t2, rfl, by omega, hos.snoc, rfl, ht2, rfl⟩
    · exact hT _ _ ⟨s + 1, k', os, t2, rfl, by omega, hos.up (by omega), rfl, ht2, rfl⟩
  · rintro acc ρ ⟨s, k, os, t', he, hk, hos, rfl, ht', rfl⟩
    have hk0 := rng_nil he
    subst hk0
    rw [map_blk]
    exact hQ os t' (hos.up (by omega)) ht'
theorem st_in {Γ : Gm} (hG : Γ "_law_draw" = some fDraw) {sg : List Nat} (hs : Sg sg) {many rare one : Int} (h1 : 0 < rare) (h2 : rare < 1073741824) (hm : many ≤ 8) (o0 : 0 ≤ one) (o1 : one < many) {E : Nd} (F : List Stp) (t : D) (x6 : Sl) (ht : Tp t) (h6 : fr x6) (n : Nat) (gF : Grow sg many one [] F) (lF : F.length ≤ n) (n0 : n ≤ 1000)
    (hQ : ∀ (G : List Stp) t' y6, Grow sg many one sg G → G.length ≤ n + 32 → Tp t' → fr y6 → E.nx [.io t', .val (.str sg), .val (.int many), .val (.int rare), .own (.list (G.map dS)), .val (.int one), y6, .no]) :
    forW (.nm 6) (wpB Γ b_law_steps_b3) E (sg.map fun c => .str [c]) [.io t, .val (.str sg), .val (.int many), .val (.int rare), .own (.list (F.map dS)), .val (.int one), x6, .no] := by
  refine forW_inv (fun rest ρ => ∃ (pre cs : List Nat) (G : List Stp) (t' : D) (y : Sl), sg = pre ++ cs ∧ rest = cs.map (fun c => D.str [c]) ∧ Grow sg many one pre G ∧ G.length ≤ n + 8 * pre.length ∧ Tp t' ∧ fr y ∧ ρ = [.io t', .val (.str sg), .val (.int many), .val (.int rare), .own (.list (G.map dS)), .val (.int one), y, .no]) ?_ ?_ _ _
    ⟨[], sg, F, t, x6, rfl, rfl, gF, by simpa using lF, ht, h6, rfl⟩
  · rintro d rest ρ T ⟨pre, cs, G, t', y, e, er, g, lG, ht', hy, rfl⟩ hT
    obtain ⟨c, cs', rfl, rfl, rfl⟩ := map_step er
    have sl := hs.l1
    have sl2 : sg.length = pre.length + (cs'.length + 1) := by rw [e]; simp
    have step : wpB Γ b_law_steps_b3 { nx := T, rt := E.rt, bk := E.nx, rn := E.rn } [.io t', .val (.str sg), .val (.int many), .val (.int rare), .own (.list (G.map dS)), .val (.int one), .val (.str [c]), .no] := by
      simp only [b_law_steps_b3, wpD_f, wpD_n, wpF, wpN, Bool.false_eq_true, if_false, if_true, ev0, List.zipWith_cons_cons, List.zipWith_nil_left, List.zipWith_nil_right, List.zipWith, List.replicate, List.length_cons, List.length_nil, Nat.reduceAdd, Nat.reduceSub, List.cons_append, List.nil_append, wpB, MW.wpS, wpc, wpcs, opd, wp, wps, wpo, wpa, wpp, bnd_some, bnd_none, bnd_if, bnd_map, bnd_bind, pk, rdv, setv, setc, getc, List.getElem?_cons_zero, List.getElem?_cons_succ, List.set_cons_zero, List.set_cons_succ, add_ii, add_ss, add_ll, add_tt, sub_ii, mul_ii, mul_si, mod_ii, fdiv_ii, pow_ii, shr_ii, and_ii, c_eq, c_ne, lt_ii, lt_ss, gt_ii, gt_ss, le_ii, ge_ii, in_l, in_t, in_s, nin_l, nin_t, nin_s, is_n, isn_n, is_bb, isn_bb, ix_l, ix_t, ix_s, sl_l, sl_t, sl_s, t_b, t_i, t_l, t_t, t_n, t_s, len_s, len_l, len_t, tup_l, tup_t, lst_l, lst_t, srt_l, sset_x, lset_x, ssetM, lsetM, all_l, any_l, int_b, int_i, repr_x, isi_x, revs_l, revs_s, trng_x, lrng_x, rep_x, cat_x, lst_s, ix_dk, dnew_x, as_d, key_i, key_s, enum_l, enum_t, srt_t, in_dk, nin_dk, len_dk, srt_dk, dpairs_l, find_x, findT, join_x, joinT, lt_l, lt_t, as_i, as_l, as_t, as_b, atA, atB, atC, atDd, atE, tn0, tn1, tn2, tn3, outsO, List.tail_cons, tgt, tgts, Option.bind_some, Option.map_some, Option.bind_none, Option.map_none, ownD, isTy, hG, argsIo, ioOk, List.all_cons, List.all_nil, Bool.and_true, Option.isSome_some, peekC, outsE, true_and, and_true, srcD, itemsD, turns, List.map_cons, List.map_nil, wipeE, backE, noOwn, Option.isNone_none, rng_n (show 0 ≤ many by omega) (show many ≤ 1000000 by omega)]
      refine st_comp hG h1 h2 (by omega) hm t' ht' fun os t2 hos ht2 => ?_
      have ho := hos.len
      simp only [wpD_f, wpD_n, wpF, wpN, Bool.false_eq_true, if_false, if_true, ev0, List.zipWith_cons_cons, List.zipWith_nil_left, List.zipWith_nil_right, List.zipWith, List.replicate, List.length_cons, List.length_nil, Nat.reduceAdd, Nat.reduceSub, List.cons_append, List.nil_append, wpB, MW.wpS, wpc, wpcs, opd, wp, wps, wpo, wpa, wpp, bnd_some, bnd_none, bnd_if, bnd_map, bnd_bind, pk, rdv, setv, setc, getc, List.getElem?_cons_zero, List.getElem?_cons_succ, List.set_cons_zero, List.set_cons_succ, add_ii, add_ss, add_ll, add_tt, sub_ii, mul_ii, mul_si, mod_ii, fdiv_ii, pow_ii, shr_ii, and_ii, c_eq, c_ne, lt_ii, lt_ss, gt_ii, gt_ss, le_ii, ge_ii, in_l, in_t, in_s, nin_l, nin_t, nin_s, is_n, isn_n, is_bb, isn_bb, ix_l, ix_t, ix_s, sl_l, sl_t, sl_s, t_b, t_i, t_l, t_t, t_n, t_s, len_s, len_l, len_t, tup_l, tup_t, lst_l, lst_t, srt_l, sset_x, lset_x, ssetM, lsetM, all_l, any_l, int_b, int_i, repr_x, isi_x, revs_l, revs_s, trng_x, lrng_x, rep_x, cat_x, lst_s, ix_dk, dnew_x, as_d, key_i, key_s, enum_l, enum_t, srt_t, in_dk, nin_dk, len_dk, srt_dk, dpairs_l, find_x, findT, join_x, joinT, lt_l, lt_t, as_i, as_l, as_t, as_b, atA, atB, atC, atDd, atE, tn0, tn1, tn2, tn3, outsO, List.tail_cons, tgt, tgts, Option.bind_some, Option.map_some, Option.bind_none, Option.map_none, ownD, isTy, hG, argsIo, ioOk, List.all_cons, List.all_nil, Bool.and_true, Option.isSome_some, peekC, outsE, true_and, and_true, srcD, itemsD, turns, List.map_cons, List.map_nil, wipeE, backE, noOwn, Option.isNone_none, List.length_map]
      refine ⟨fit_of (by simp only [blk, List.length_map]; omega), ?_⟩
      rw [← List.map_append]
      exact hT _ ⟨pre ++ [c], cs', G ++ blk one c os, t2, _, by rw [e]; simp, rfl, g.add hs e o0 o1 hos, by simp only [blk, List.length_append, List.length_map, List.length_singleton]; omega, ht2, .inr ⟨_, rfl⟩, rfl⟩
    rcases hy with rfl | ⟨d, rfl⟩
    · simp only [tgt, setv, List.getElem?_cons_zero, List.getElem?_cons_succ, List.set_cons_zero, List.set_cons_succ, bnd_some]
      exact step
    · simp only [tgt, setv, List.getElem?_cons_zero, List.getElem?_cons_succ, List.set_cons_zero, List.set_cons_succ, bnd_some]
      exact step
  · rintro ρ ⟨pre, cs, G, t', y, e, er, g, lG, ht', hy, rfl⟩
    have := map_nil' er
    subst this
    rw [List.append_nil] at e
    subst e
    exact hQ G t' y g (by have := hs.l1; omega) ht' hy
theorem ok_steps (Γ : Gm) (hG : Γ "_law_draw" = some fDraw) (ds : List D) (R : D → List D → Prop) (h : spStp ds R) : wpD false Γ [true, false, false] 8 b_law_steps ds R := by
  obtain ⟨t, sg, many, rfl, ht, hs, m0, m1, hR⟩ := h
  simp only [b_law_steps, wpD_f, wpD_n, wpF, wpN, Bool.false_eq_true, if_false, if_true, ev0, List.zipWith_cons_cons, List.zipWith_nil_left, List.zipWith_nil_right, List.zipWith, List.replicate, List.length_cons, List.length_nil, Nat.reduceAdd, Nat.reduceSub, List.cons_append, List.nil_append, wpB, MW.wpS, wpc, wpcs, opd, wp, wps, wpo, wpa, wpp, bnd_some, bnd_none, bnd_if, bnd_map, bnd_bind, pk, rdv, setv, setc, getc, List.getElem?_cons_zero, List.getElem?_cons_succ, List.set_cons_zero, List.set_cons_succ, add_ii, add_ss, add_ll, add_tt, sub_ii, mul_ii, mul_si, mod_ii, fdiv_ii, pow_ii, shr_ii, and_ii, c_eq, c_ne, lt_ii, lt_ss, gt_ii, gt_ss, le_ii, ge_ii, in_l, in_t, in_s, nin_l, nin_t, nin_s, is_n, isn_n, is_bb, isn_bb, ix_l, ix_t, ix_s, sl_l, sl_t, sl_s, t_b, t_i, t_l, t_t, t_n, t_s, len_s, len_l, len_t, tup_l, tup_t, lst_l, lst_t, srt_l, sset_x, lset_x, ssetM, lsetM, all_l, any_l, int_b, int_i, repr_x, isi_x, revs_l, revs_s, trng_x, lrng_x, rep_x, cat_x, lst_s, ix_dk, dnew_x, as_d, key_i, key_s, enum_l, enum_t, srt_t, in_dk, nin_dk, len_dk, srt_dk, dpairs_l, find_x, findT, join_x, joinT, lt_l, lt_t, as_i, as_l, as_t, as_b, atA, atB, atC, atDd, atE, tn0, tn1, tn2, tn3, outsO, List.tail_cons, tgt, tgts, Option.bind_some, Option.map_some, Option.bind_none, Option.map_none, ownD, isTy, hG, argsIo, ioOk, List.all_cons, List.all_nil, Bool.and_true, Option.isSome_some, peekC, outsE, true_and, and_true, srcD, itemsD, turns, List.map_cons, List.map_nil, wipeE, backE, noOwn, Option.isNone_none]
  refine ⟨by decide, by decide, t, 4, rfl, ht, by decide, by decide, fun v t1 v0 v1 ht1 => ?_⟩
  have main : ∀ rare : Int, 0 < rare → rare < 1073741824 → ∀ E : Nd, (∀ (G : List Stp) t' y5 y6, SsOk sg many G → Tp t' → E.nx [.io t', .val (.str sg), .val (.int many), .val (.int rare), .own (.list (G.map dS)), y5, y6, .no]) →
      forW (.nm 5) (wpB Γ b_law_steps_b4) E ((List.range many.toNat).map fun (k : Nat) => .int (k : Int)) [.io t1, .val (.str sg), .val (.int many), .val (.int rare), .own (.list []), .no, .no, .no] := by
    intro rare h1 h2 E hQ
    refine forW_inv (fun rest ρ => ∃ (s k : Nat) (G : List Stp) (t' : D) (x y : Sl), rest = (List.range' s k).map (fun (k : Nat) => D.int (k : Int)) ∧ s + k = many.toNat ∧ Grow sg many (s : Int) [] G ∧ G.length ≤ 32 * s ∧ Tp t' ∧ fr x ∧ fr y ∧ ρ = [.io t', .val (.str sg), .val (.int many), .val (.int rare), .own (.list (G.map dS)), x, y, .no]) ?_ ?_ _ _
      ⟨0, many.toNat, [], t1, .no, .no, by rw [List.range_eq_range'], by omega, Grow.nil _ _ _ _, by simp, ht1, .inl rfl, .inl rfl, rfl⟩
    · rintro d rest ρ T ⟨s, k, G, t', x, y, he, hk, g, lG, ht', hx, hy, rfl⟩ hT
      obtain ⟨k', rfl, rfl, rfl⟩ := rng_step he
      have step : wpB Γ b_law_steps_b4 { nx := T, rt := E.rt, bk := E.nx, rn := E.rn } [.io t', .val (.str sg), .val (.int many), .val (.int rare), .own (.list (G.map dS)), .val (.int (s : Int)), y, .no] := by
        simp only [b_law_steps_b4, wpD_f, wpD_n, wpF, wpN, Bool.false_eq_true, if_false, if_true, ev0, List.zipWith_cons_cons, List.zipWith_nil_left, List.zipWith_nil_right, List.zipWith, List.replicate, List.length_cons, List.length_nil, Nat.reduceAdd, Nat.reduceSub, List.cons_append, List.nil_append, wpB, MW.wpS, wpc, wpcs, opd, wp, wps, wpo, wpa, wpp, bnd_some, bnd_none, bnd_if, bnd_map, bnd_bind, pk, rdv, setv, setc, getc, List.getElem?_cons_zero, List.getElem?_cons_succ, List.set_cons_zero, List.set_cons_succ, add_ii, add_ss, add_ll, add_tt, sub_ii, mul_ii, mul_si, mod_ii, fdiv_ii, pow_ii, shr_ii, and_ii, c_eq, c_ne, lt_ii, lt_ss, gt_ii, gt_ss, le_ii, ge_ii, in_l, in_t, in_s, nin_l, nin_t, nin_s, is_n, isn_n, is_bb, isn_bb, ix_l, ix_t, ix_s, sl_l, sl_t, sl_s, t_b, t_i, t_l, t_t, t_n, t_s, len_s, len_l, len_t, tup_l, tup_t, lst_l, lst_t, srt_l, sset_x, lset_x, ssetM, lsetM, all_l, any_l, int_b, int_i, repr_x, isi_x, revs_l, revs_s, trng_x, lrng_x, rep_x, cat_x, lst_s, ix_dk, dnew_x, as_d, key_i, key_s, enum_l, enum_t, srt_t, in_dk, nin_dk, len_dk, srt_dk, dpairs_l, find_x, findT, join_x, joinT, lt_l, lt_t, as_i, as_l, as_t, as_b, atA, atB, atC, atDd, atE, tn0, tn1, tn2, tn3, outsO, List.tail_cons, tgt, tgts, Option.bind_some, Option.map_some, Option.bind_none, Option.map_none, ownD, isTy, hG, argsIo, ioOk, List.all_cons, List.all_nil, Bool.and_true, Option.isSome_some, peekC, outsE, true_and, and_true, srcD, itemsD, turns, List.map_cons, List.map_nil, wipeE, backE, noOwn, Option.isNone_none]
        refine st_in hG hs h1 h2 m1 (Int.natCast_nonneg s) (by omega) G t' y ht' hy (32 * s) g lG (by omega) fun G' t2 y6 g' l' ht2 hy6 => ?_
        exact hT _ ⟨s + 1, k', G', t2, _, y6, rfl, by omega, g'.next, by omega, ht2, .inr ⟨_, rfl⟩, hy6, rfl⟩
      rcases hx with rfl | ⟨d, rfl⟩
      · simp only [tgt, setv, List.getElem?_cons_zero, List.getElem?_cons_succ, List.set_cons_zero, List.set_cons_succ, bnd_some]
        exact step
      · simp only [tgt, setv, List.getElem?_cons_zero, List.getElem?_cons_succ, List.set_cons_zero, List.set_cons_succ, bnd_some]
        exact step
    · rintro ρ ⟨s, k, G, t', x, y, he, hk, g, lG, ht', hx, hy, rfl⟩
      have hk0 := rng_nil he
      subst hk0
      exact hQ G t' x y ⟨g.m, g.r, by omega⟩ ht'
  have : v = 0 ∨ v = 1 ∨ v = 2 ∨ v = 3 := by omega
  rcases this with rfl | rfl | rfl | rfl
  all_goals simp only [wpD_f, wpD_n, wpF, wpN, Bool.false_eq_true, if_false, if_true, ev0, List.zipWith_cons_cons, List.zipWith_nil_left, List.zipWith_nil_right, List.zipWith, List.replicate, List.length_cons, List.length_nil, Nat.reduceAdd, Nat.reduceSub, List.cons_append, List.nil_append, wpB, MW.wpS, wpc, wpcs, opd, wp, wps, wpo, wpa, wpp, bnd_some, bnd_none, bnd_if, bnd_map, bnd_bind, pk, rdv, setv, setc, getc, List.getElem?_cons_zero, List.getElem?_cons_succ, List.set_cons_zero, List.set_cons_succ, add_ii, add_ss, add_ll, add_tt, sub_ii, mul_ii, mul_si, mod_ii, fdiv_ii, pow_ii, shr_ii, and_ii, c_eq, c_ne, lt_ii, lt_ss, gt_ii, gt_ss, le_ii, ge_ii, in_l, in_t, in_s, nin_l, nin_t, nin_s, is_n, isn_n, is_bb, isn_bb, ix_l, ix_t, ix_s, sl_l, sl_t, sl_s, t_b, t_i, t_l, t_t, t_n, t_s, len_s, len_l, len_t, tup_l, tup_t, lst_l, lst_t, srt_l, sset_x, lset_x, ssetM, lsetM, all_l, any_l, int_b, int_i, repr_x, isi_x, revs_l, revs_s, trng_x, lrng_x, rep_x, cat_x, lst_s, ix_dk, dnew_x, as_d, key_i, key_s, enum_l, enum_t, srt_t, in_dk, nin_dk, len_dk, srt_dk, dpairs_l, find_x, findT, join_x, joinT, lt_l, lt_t, as_i, as_l, as_t, as_b, atA, atB, atC, atDd, atE, tn0, tn1, tn2, tn3, outsO, List.tail_cons, tgt, tgts, Option.bind_some, Option.map_some, Option.bind_none, Option.map_none, ownD, isTy, hG, argsIo, ioOk, List.all_cons, List.all_nil, Bool.and_true, Option.isSome_some, peekC, outsE, true_and, and_true, srcD, itemsD, turns, List.map_cons, List.map_nil, wipeE, backE, noOwn, Option.isNone_none, rng_n (show 0 ≤ many by omega) (show many ≤ 1000000 by omega)]
  all_goals
    refine ⟨by decide, main _ (by decide) (by decide) _ fun G t' y5 y6 hG' ht' => ?_⟩
    simp only [wpD_f, wpD_n, wpF, wpN, Bool.false_eq_true, if_false, if_true, ev0, List.zipWith_cons_cons, List.zipWith_nil_left, List.zipWith_nil_right, List.zipWith, List.replicate, List.length_cons, List.length_nil, Nat.reduceAdd, Nat.reduceSub, List.cons_append, List.nil_append, wpB, MW.wpS, wpc, wpcs, opd, wp, wps, wpo, wpa, wpp, bnd_some, bnd_none, bnd_if, bnd_map, bnd_bind, pk, rdv, setv, setc, getc, List.getElem?_cons_zero, List.getElem?_cons_succ, List.set_cons_zero, List.set_cons_succ, add_ii, add_ss, add_ll, add_tt, sub_ii, mul_ii, mul_si, mod_ii, fdiv_ii, pow_ii, shr_ii, and_ii, c_eq, c_ne, lt_ii, lt_ss, gt_ii, gt_ss, le_ii, ge_ii, in_l, in_t, in_s, nin_l, nin_t, nin_s, is_n, isn_n, is_bb, isn_bb, ix_l, ix_t, ix_s, sl_l, sl_t, sl_s, t_b, t_i, t_l, t_t, t_n, t_s, len_s, len_l, len_t, tup_l, tup_t, lst_l, lst_t, srt_l, sset_x, lset_x, ssetM, lsetM, all_l, any_l, int_b, int_i, repr_x, isi_x, revs_l, revs_s, trng_x, lrng_x, rep_x, cat_x, lst_s, ix_dk, dnew_x, as_d, key_i, key_s, enum_l, enum_t, srt_t, in_dk, nin_dk, len_dk, srt_dk, dpairs_l, find_x, findT, join_x, joinT, lt_l, lt_t, as_i, as_l, as_t, as_b, atA, atB, atC, atDd, atE, tn0, tn1, tn2, tn3, outsO, List.tail_cons, tgt, tgts, Option.bind_some, Option.map_some, Option.bind_none, Option.map_none, ownD, isTy, hG, argsIo, ioOk, List.all_cons, List.all_nil, Bool.and_true, Option.isSome_some, peekC, outsE, true_and, and_true, srcD, itemsD, turns, List.map_cons, List.map_nil, wipeE, backE, noOwn, Option.isNone_none]
    exact hR G t' hG' ht'
/-! one step a stand and sign -/
theorem sg_comp {Γ : Gm} (hG : Γ "_law_draw" = some fDraw) {sg : List Nat} (hs : Sg sg) {many one : Int} {F : List Stp} (m0 : 0 < many) (hm : many ≤ 8) (o0 : 0 ≤ one) (o1 : one < many) {Q : List D → Evn → Prop} (t : D) (ht : Tp t) (gF : Grow sg many one [] F)
    (hQ : ∀ (l : List Stp) t', Grow sg many one sg (F ++ l) → l.length = sg.length → Tp t' → Q (l.map dS) [.io t', .val (.str sg), .val (.int many), .own (.list (F.map dS)), .val (.int one), .no]) :
    turns (.nm 5) (wpcs Γ []) (wp Γ b_law_single_e1) [5] (sg.map fun c => .str [c]) [] [.io t, .val (.str sg), .val (.int many), .own (.list (F.map dS)), .val (.int one), .no] Q := by
  refine turns_inv (fun rest acc ρ => ∃ (pre cs : List Nat) (l : List Stp) (t' : D), sg = pre ++ cs ∧ rest = cs.map (fun c => D.str [c]) ∧ Grow sg many one pre (F ++ l) ∧ l.length = pre.length ∧ acc = l.map dS ∧ Tp t' ∧ ρ = [.io t', .val (.str sg), .val (.int many), .own (.list (F.map dS)), .val (.int one), .no]) ?_ ?_ _ _ _
    ⟨[], sg, [], t, rfl, rfl, by simpa using gF, rfl, rfl, ht, rfl⟩
  · rintro d rest acc ρ T ⟨pre, cs, l, t', e, er, g, hl, rfl, ht', rfl⟩ hT
    obtain ⟨c, cs', rfl, rfl, rfl⟩ := map_step er
    have sl := hs.l1
    have sl2 : sg.length = pre.length + (cs'.length + 1) := by rw [e]; simp
    simp only [b_law_single_e1, wpD_f, wpD_n, wpF, wpN, Bool.false_eq_true, if_false, if_true, ev0, List.zipWith_cons_cons, List.zipWith_nil_left, List.zipWith_nil_right, List.zipWith, List.replicate, List.length_cons, List.length_nil, Nat.reduceAdd, Nat.reduceSub, List.cons_append, List.nil_append, wpB, MW.wpS, wpc, wpcs, opd, wp, wps, wpo, wpa, wpp, bnd_some, bnd_none, bnd_if, bnd_map, bnd_bind, pk, rdv, setv, setc, getc, List.getElem?_cons_zero, List.getElem?_cons_succ, List.set_cons_zero, List.set_cons_succ, add_ii, add_ss, add_ll, add_tt, sub_ii, mul_ii, mul_si, mod_ii, fdiv_ii, pow_ii, shr_ii, and_ii, c_eq, c_ne, lt_ii, lt_ss, gt_ii, gt_ss, le_ii, ge_ii, in_l, in_t, in_s, nin_l, nin_t, nin_s, is_n, isn_n, is_bb, isn_bb, ix_l, ix_t, ix_s, sl_l, sl_t, sl_s, t_b, t_i, t_l, t_t, t_n, t_s, len_s, len_l, len_t, tup_l, tup_t, lst_l, lst_t, srt_l, sset_x, lset_x, ssetM, lsetM, all_l, any_l, int_b, int_i, repr_x, isi_x, revs_l, revs_s, trng_x, lrng_x, rep_x, cat_x, lst_s, ix_dk, dnew_x, as_d, key_i, key_s, enum_l, enum_t, srt_t, in_dk, nin_dk, len_dk, srt_dk, dpairs_l, find_x, findT, join_x, joinT, lt_l, lt_t, as_i, as_l, as_t, as_b, atA, atB, atC, atDd, atE, tn0, tn1, tn2, tn3, outsO, List.tail_cons, tgt, tgts, Option.bind_some, Option.map_some, Option.bind_none, Option.map_none, ownD, isTy, hG, argsIo, ioOk, List.all_cons, List.all_nil, Bool.and_true, Option.isSome_some, peekC, outsE, true_and, and_true, srcD, itemsD, turns, List.map_cons, List.map_nil, wipeE, backE, noOwn, Option.isNone_none]
    refine ⟨by decide, t', many, rfl, ht', m0, by omega, fun v t2 v0 v1 ht2 => ?_⟩
    simp only [wpD_f, wpD_n, wpF, wpN, Bool.false_eq_true, if_false, if_true, ev0, List.zipWith_cons_cons, List.zipWith_nil_left, List.zipWith_nil_right, List.zipWith, List.replicate, List.length_cons, List.length_nil, Nat.reduceAdd, Nat.reduceSub, List.cons_append, List.nil_append, wpB, MW.wpS, wpc, wpcs, opd, wp, wps, wpo, wpa, wpp, bnd_some, bnd_none, bnd_if, bnd_map, bnd_bind, pk, rdv, setv, setc, getc, List.getElem?_cons_zero, List.getElem?_cons_succ, List.set_cons_zero, List.set_cons_succ, add_ii, add_ss, add_ll, add_tt, sub_ii, mul_ii, mul_si, mod_ii, fdiv_ii, pow_ii, shr_ii, and_ii, c_eq, c_ne, lt_ii, lt_ss, gt_ii, gt_ss, le_ii, ge_ii, in_l, in_t, in_s, nin_l, nin_t, nin_s, is_n, isn_n, is_bb, isn_bb, ix_l, ix_t, ix_s, sl_l, sl_t, sl_s, t_b, t_i, t_l, t_t, t_n, t_s, len_s, len_l, len_t, tup_l, tup_t, lst_l, lst_t, srt_l, sset_x, lset_x, ssetM, lsetM, all_l, any_l, int_b, int_i, repr_x, isi_x, revs_l, revs_s, trng_x, lrng_x, rep_x, cat_x, lst_s, ix_dk, dnew_x, as_d, key_i, key_s, enum_l, enum_t, srt_t, in_dk, nin_dk, len_dk, srt_dk, dpairs_l, find_x, findT, join_x, joinT, lt_l, lt_t, as_i, as_l, as_t, as_b, atA, atB, atC, atDd, atE, tn0, tn1, tn2, tn3, outsO, List.tail_cons, tgt, tgts, Option.bind_some, Option.map_some, Option.bind_none, Option.map_none, ownD, isTy, hG, argsIo, ioOk, List.all_cons, List.all_nil, Bool.and_true, Option.isSome_some, peekC, outsE, true_and, and_true, srcD, itemsD, turns, List.map_cons, List.map_nil, wipeE, backE, noOwn, Option.isNone_none]
    refine ⟨by decide, siz_of (by rw [List.length_map]; omega), ?_⟩
    have hv : St many [v] := ⟨List.pairwise_singleton _ _, fun k hk => by rw [List.mem_singleton] at hk; omega⟩
    have g' := g.add hs e o0 o1 hv
    rw [show l.map dS ++ [D.tuple [D.int one, D.str [c], D.int v]] = (l ++ blk one c [v]).map dS by simp [dS, blk]]
    exact hT _ _ ⟨pre ++ [c], cs', l ++ blk one c [v], t2, by rw [e]; simp, rfl, by rw [← List.append_assoc]; exact g', by simp [blk, hl], rfl, ht2, rfl⟩
  · rintro acc ρ ⟨pre, cs, l, t', e, er, g, hl, rfl, ht', rfl⟩
    have := map_nil' er
    subst this
    rw [List.append_nil] at e
    subst e
    exact hQ l t' g hl ht'
def spSng : MW.PT := fun ds R => ∃ t sg many, ds = [t, .str sg, .int many] ∧ Tp t ∧ Sg sg ∧ 0 < many ∧ many ≤ 8 ∧ ∀ (l : List Stp) t', SsOk sg many l → l.length = many.toNat * sg.length → Tp t' → R (.tuple (l.map dS)) [t']
theorem ok_single (Γ : Gm) (hG : Γ "_law_draw" = some fDraw) (ds : List D) (R : D → List D → Prop) (h : spSng ds R) : wpD false Γ [true, false, false] 6 b_law_single ds R := by
  obtain ⟨t, sg, many, rfl, ht, hs, m0, m1, hR⟩ := h
  have sl := hs.l1
  have mul4 : ∀ s : Nat, s ≤ 8 → s * sg.length ≤ 32 := fun s h => Nat.le_trans (Nat.mul_le_mul h sl) (by decide)
  simp only [b_law_single, wpD_f, wpD_n, wpF, wpN, Bool.false_eq_true, if_false, if_true, ev0, List.zipWith_cons_cons, List.zipWith_nil_left, List.zipWith_nil_right, List.zipWith, List.replicate, List.length_cons, List.length_nil, Nat.reduceAdd, Nat.reduceSub, List.cons_append, List.nil_append, wpB, MW.wpS, wpc, wpcs, opd, wp, wps, wpo, wpa, wpp, bnd_some, bnd_none, bnd_if, bnd_map, bnd_bind, pk, rdv, setv, setc, getc, List.getElem?_cons_zero, List.getElem?_cons_succ, List.set_cons_zero, List.set_cons_succ, add_ii, add_ss, add_ll, add_tt, sub_ii, mul_ii, mul_si, mod_ii, fdiv_ii, pow_ii, shr_ii, and_ii, c_eq, c_ne, lt_ii, lt_ss, gt_ii, gt_ss, le_ii, ge_ii, in_l, in_t, in_s, nin_l, nin_t, nin_s, is_n, isn_n, is_bb, isn_bb, ix_l, ix_t, ix_s, sl_l, sl_t, sl_s, t_b, t_i, t_l, t_t, t_n, t_s, len_s, len_l, len_t, tup_l, tup_t, lst_l, lst_t, srt_l, sset_x, lset_x, ssetM, lsetM, all_l, any_l, int_b, int_i, repr_x, isi_x, revs_l, revs_s, trng_x, lrng_x, rep_x, cat_x, lst_s, ix_dk, dnew_x, as_d, key_i, key_s, enum_l, enum_t, srt_t, in_dk, nin_dk, len_dk, srt_dk, dpairs_l, find_x, findT, join_x, joinT, lt_l, lt_t, as_i, as_l, as_t, as_b, atA, atB, atC, atDd, atE, tn0, tn1, tn2, tn3, outsO, List.tail_cons, tgt, tgts, Option.bind_some, Option.map_some, Option.bind_none, Option.map_none, ownD, isTy, hG, argsIo, ioOk, List.all_cons, List.all_nil, Bool.and_true, Option.isSome_some, peekC, outsE, true_and, and_true, srcD, itemsD, turns, List.map_cons, List.map_nil, wipeE, backE, noOwn, Option.isNone_none, rng_n (show 0 ≤ many by omega) (show many ≤ 1000000 by omega)]
  refine ⟨by decide, forW_inv (fun rest ρ => ∃ (s k : Nat) (G : List Stp) (t' : D) (x : Sl), rest = (List.range' s k).map (fun (k : Nat) => D.int (k : Int)) ∧ s + k = many.toNat ∧ Grow sg many (s : Int) [] G ∧ G.length = s * sg.length ∧ Tp t' ∧ fr x ∧ ρ = [.io t', .val (.str sg), .val (.int many), .own (.list (G.map dS)), x, .no]) ?_ ?_ _ _
      ⟨0, many.toNat, [], t, .no, by rw [List.range_eq_range'], by omega, Grow.nil _ _ _ _, by simp, ht, .inl rfl, rfl⟩⟩
  · rintro d rest ρ T ⟨s, k, G, t', x, he, hk, g, lG, ht', hx, rfl⟩ hT
    obtain ⟨k', rfl, rfl, rfl⟩ := rng_step he
    have step : ∀ rt bk rn, wpB Γ b_law_single_b2 { nx := T, rt := rt, bk := bk, rn := rn } [.io t', .val (.str sg), .val (.int many), .own (.list (G.map dS)), .val (.int (s : Int)), .no] := by
      intro rt bk rn
      simp only [b_law_single_b2, wpD_f, wpD_n, wpF, wpN, Bool.false_eq_true, if_false, if_true, ev0, List.zipWith_cons_cons, List.zipWith_nil_left, List.zipWith_nil_right, List.zipWith, List.replicate, List.length_cons, List.length_nil, Nat.reduceAdd, Nat.reduceSub, List.cons_append, List.nil_append, wpB, MW.wpS, wpc, wpcs, opd, wp, wps, wpo, wpa, wpp, bnd_some, bnd_none, bnd_if, bnd_map, bnd_bind, pk, rdv, setv, setc, getc, List.getElem?_cons_zero, List.getElem?_cons_succ, List.set_cons_zero, List.set_cons_succ, add_ii, add_ss, add_ll, add_tt, sub_ii, mul_ii, mul_si, mod_ii, fdiv_ii, pow_ii, shr_ii, and_ii, c_eq, c_ne, lt_ii, lt_ss, gt_ii, gt_ss, le_ii, ge_ii, in_l, in_t, in_s, nin_l, nin_t, nin_s, is_n, isn_n, is_bb, isn_bb, ix_l, ix_t, ix_s, sl_l, sl_t, sl_s, t_b, t_i, t_l, t_t, t_n, t_s, len_s, len_l, len_t, tup_l, tup_t, lst_l, lst_t, srt_l, sset_x, lset_x, ssetM, lsetM, all_l, any_l, int_b, int_i, repr_x, isi_x, revs_l, revs_s, trng_x, lrng_x, rep_x, cat_x, lst_s, ix_dk, dnew_x, as_d, key_i, key_s, enum_l, enum_t, srt_t, in_dk, nin_dk, len_dk, srt_dk, dpairs_l, find_x, findT, join_x, joinT, lt_l, lt_t, as_i, as_l, as_t, as_b, atA, atB, atC, atDd, atE, tn0, tn1, tn2, tn3, outsO, List.tail_cons, tgt, tgts, Option.bind_some, Option.map_some, Option.bind_none, Option.map_none, ownD, isTy, hG, argsIo, ioOk, List.all_cons, List.all_nil, Bool.and_true, Option.isSome_some, peekC, outsE, true_and, and_true, srcD, itemsD, turns, List.map_cons, List.map_nil, wipeE, backE, noOwn, Option.isNone_none]
      refine sg_comp hG hs m0 m1 (Int.natCast_nonneg s) (by omega) t' ht' g fun l t2 g' l' ht2 => ?_
      simp only [wpD_f, wpD_n, wpF, wpN, Bool.false_eq_true, if_false, if_true, ev0, List.zipWith_cons_cons, List.zipWith_nil_left, List.zipWith_nil_right, List.zipWith, List.replicate, List.length_cons, List.length_nil, Nat.reduceAdd, Nat.reduceSub, List.cons_append, List.nil_append, wpB, MW.wpS, wpc, wpcs, opd, wp, wps, wpo, wpa, wpp, bnd_some, bnd_none, bnd_if, bnd_map, bnd_bind, pk, rdv, setv, setc, getc, List.getElem?_cons_zero, List.getElem?_cons_succ, List.set_cons_zero, List.set_cons_succ, add_ii, add_ss, add_ll, add_tt, sub_ii, mul_ii, mul_si, mod_ii, fdiv_ii, pow_ii, shr_ii, and_ii, c_eq, c_ne, lt_ii, lt_ss, gt_ii, gt_ss, le_ii, ge_ii, in_l, in_t, in_s, nin_l, nin_t, nin_s, is_n, isn_n, is_bb, isn_bb, ix_l, ix_t, ix_s, sl_l, sl_t, sl_s, t_b, t_i, t_l, t_t, t_n, t_s, len_s, len_l, len_t, tup_l, tup_t, lst_l, lst_t, srt_l, sset_x, lset_x, ssetM, lsetM, all_l, any_l, int_b, int_i, repr_x, isi_x, revs_l, revs_s, trng_x, lrng_x, rep_x, cat_x, lst_s, ix_dk, dnew_x, as_d, key_i, key_s, enum_l, enum_t, srt_t, in_dk, nin_dk, len_dk, srt_dk, dpairs_l, find_x, findT, join_x, joinT, lt_l, lt_t, as_i, as_l, as_t, as_b, atA, atB, atC, atDd, atE, tn0, tn1, tn2, tn3, outsO, List.tail_cons, tgt, tgts, Option.bind_some, Option.map_some, Option.bind_none, Option.map_none, ownD, isTy, hG, argsIo, ioOk, List.all_cons, List.all_nil, Bool.and_true, Option.isSome_some, peekC, outsE, true_and, and_true, srcD, itemsD, turns, List.map_cons, List.map_nil, wipeE, backE, noOwn, Option.isNone_none, List.length_map]
      have := mul4 s (by omega)
      refine ⟨fit_of (by omega), ?_⟩
      rw [← List.map_append]
      exact hT _ ⟨s + 1, k', G ++ l, t2, _, rfl, by omega, g'.next, by rw [List.length_append, Nat.add_mul, Nat.one_mul]; omega, ht2, .inr ⟨_, rfl⟩, rfl⟩
    rcases hx with rfl | ⟨d, rfl⟩
    · simp only [tgt, setv, List.getElem?_cons_zero, List.getElem?_cons_succ, List.set_cons_zero, List.set_cons_succ, bnd_some]
      exact step _ _ _
    · simp only [tgt, setv, List.getElem?_cons_zero, List.getElem?_cons_succ, List.set_cons_zero, List.set_cons_succ, bnd_some]
      exact step _ _ _
  · rintro ρ ⟨s, k, G, t', x, he, hk, g, lG, ht', hx, rfl⟩
    have hk0 := rng_nil he
    subst hk0
    simp only [wpD_f, wpD_n, wpF, wpN, Bool.false_eq_true, if_false, if_true, ev0, List.zipWith_cons_cons, List.zipWith_nil_left, List.zipWith_nil_right, List.zipWith, List.replicate, List.length_cons, List.length_nil, Nat.reduceAdd, Nat.reduceSub, List.cons_append, List.nil_append, wpB, MW.wpS, wpc, wpcs, opd, wp, wps, wpo, wpa, wpp, bnd_some, bnd_none, bnd_if, bnd_map, bnd_bind, pk, rdv, setv, setc, getc, List.getElem?_cons_zero, List.getElem?_cons_succ, List.set_cons_zero, List.set_cons_succ, add_ii, add_ss, add_ll, add_tt, sub_ii, mul_ii, mul_si, mod_ii, fdiv_ii, pow_ii, shr_ii, and_ii, c_eq, c_ne, lt_ii, lt_ss, gt_ii, gt_ss, le_ii, ge_ii, in_l, in_t, in_s, nin_l, nin_t, nin_s, is_n, isn_n, is_bb, isn_bb, ix_l, ix_t, ix_s, sl_l, sl_t, sl_s, t_b, t_i, t_l, t_t, t_n, t_s, len_s, len_l, len_t, tup_l, tup_t, lst_l, lst_t, srt_l, sset_x, lset_x, ssetM, lsetM, all_l, any_l, int_b, int_i, repr_x, isi_x, revs_l, revs_s, trng_x, lrng_x, rep_x, cat_x, lst_s, ix_dk, dnew_x, as_d, key_i, key_s, enum_l, enum_t, srt_t, in_dk, nin_dk, len_dk, srt_dk, dpairs_l, find_x, findT, join_x, joinT, lt_l, lt_t, as_i, as_l, as_t, as_b, atA, atB, atC, atDd, atE, tn0, tn1, tn2, tn3, outsO, List.tail_cons, tgt, tgts, Option.bind_some, Option.map_some, Option.bind_none, Option.map_none, ownD, isTy, hG, argsIo, ioOk, List.all_cons, List.all_nil, Bool.and_true, Option.isSome_some, peekC, outsE, true_and, and_true, srcD, itemsD, turns, List.map_cons, List.map_nil, wipeE, backE, noOwn, Option.isNone_none]
    have es : s = many.toNat := by omega
    have := mul4 s (by omega)
    exact hR G t' ⟨g.m, g.r, by omega⟩ (by rw [lG, es]) ht'
end MH

set_option Elab.async false
set_option linter.all false
set_option maxRecDepth 100000
set_option maxHeartbeats 0
namespace MH
open PySem MW
structure Mac where
  sg : List Nat
  many : Int
  begins : List Int
  ends : List Int
  steps : List Stp
def dM (m : Mac) : D := .tuple [.str m.sg, .int m.many, intsT m.begins, intsT m.ends, .tuple (m.steps.map dS)]
structure Mk (m : Mac) : Prop where
  sg : Sg m.sg
  m0 : 0 < m.many
  m1 : m.many ≤ 8
  b : St m.many m.begins
  e : St m.many m.ends
  s : SsOk m.sg m.many m.steps
def spMachine : MW.PT := fun ds R => ∃ t most, ds = [t, .int most] ∧ 0 < most ∧ most ≤ 8 ∧ Tp t ∧ ∀ m t', Mk m → m.many ≤ most → Tp t' → R (dM m) [t']
abbrev fSigns : Fn := ⟨[true], spSigns, false⟩
abbrev fSome : Fn := ⟨[true, false, false], spSome, false⟩
abbrev fSteps : Fn := ⟨[true, false, false], spStp, false⟩
abbrev fSingle : Fn := ⟨[true, false, false], spSng, false⟩
theorem ok_machine (Γ : Gm) (hG : Γ "_law_draw" = some fDraw) (hS : Γ "_law_signs" = some fSigns) (hO : Γ "_law_some" = some fSome) (hT : Γ "_law_steps" = some fSteps) (hI : Γ "_law_single" = some fSingle) (ds : List D) (R : D → List D → Prop) (h : spMachine ds R) : wpD false Γ [true, false] 6 b_law_machine ds R := by
  obtain ⟨t, most, rfl, o0, o1, ht, hR⟩ := h
  simp (maxSteps := 10000000) only [b_law_machine, wpD_f, wpD_n, wpF, wpN, Bool.false_eq_true, if_false, if_true, ev0, List.zipWith_cons_cons, List.zipWith_nil_left, List.zipWith_nil_right, List.zipWith, List.replicate, List.length_cons, List.length_nil, Nat.reduceAdd, Nat.reduceSub, List.cons_append, List.nil_append, wpB, MW.wpS, wpc, wpcs, opd, wp, wps, wpo, wpa, wpp, bnd_some, bnd_none, bnd_if, bnd_map, bnd_bind, pk, rdv, setv, setc, getc, List.getElem?_cons_zero, List.getElem?_cons_succ, List.set_cons_zero, List.set_cons_succ, add_ii, add_ss, add_ll, add_tt, sub_ii, mul_ii, mul_si, mod_ii, fdiv_ii, pow_ii, shr_ii, and_ii, c_eq, c_ne, lt_ii, lt_ss, gt_ii, gt_ss, le_ii, ge_ii, in_l, in_t, in_s, nin_l, nin_t, nin_s, is_n, isn_n, is_bb, isn_bb, ix_l, ix_t, ix_s, sl_l, sl_t, sl_s, t_b, t_i, t_l, t_t, t_n, t_s, len_s, len_l, len_t, tup_l, tup_t, lst_l, lst_t, srt_l, sset_x, lset_x, ssetM, lsetM, all_l, any_l, int_b, int_i, repr_x, isi_x, revs_l, revs_s, trng_x, lrng_x, rep_x, cat_x, lst_s, ix_dk, dnew_x, as_d, key_i, key_s, enum_l, enum_t, srt_t, in_dk, nin_dk, len_dk, srt_dk, dpairs_l, find_x, findT, join_x, joinT, lt_l, lt_t, as_i, as_l, as_t, as_b, atA, atB, atC, atDd, atE, tn0, tn1, tn2, tn3, outsO, List.tail_cons, tgt, tgts, Option.bind_some, Option.map_some, Option.bind_none, Option.map_none, ownD, isTy, hG, argsIo, ioOk, List.all_cons, List.all_nil, Bool.and_true, Option.isSome_some, peekC, outsE, true_and, and_true, srcD, itemsD, turns, List.map_cons, List.map_nil, wipeE, backE, noOwn, Option.isNone_none, hS, hO, hT, hI]
  refine ⟨by decide, t, rfl, ht, fun sg t1 hsg ht1 => ?_⟩
  simp only [wpD_f, wpD_n, wpF, wpN, Bool.false_eq_true, if_false, if_true, ev0, List.zipWith_cons_cons, List.zipWith_nil_left, List.zipWith_nil_right, List.zipWith, List.replicate, List.length_cons, List.length_nil, Nat.reduceAdd, Nat.reduceSub, List.cons_append, List.nil_append, wpB, MW.wpS, wpc, wpcs, opd, wp, wps, wpo, wpa, wpp, bnd_some, bnd_none, bnd_if, bnd_map, bnd_bind, pk, rdv, setv, setc, getc, List.getElem?_cons_zero, List.getElem?_cons_succ, List.set_cons_zero, List.set_cons_succ, add_ii, add_ss, add_ll, add_tt, sub_ii, mul_ii, mul_si, mod_ii, fdiv_ii, pow_ii, shr_ii, and_ii, c_eq, c_ne, lt_ii, lt_ss, gt_ii, gt_ss, le_ii, ge_ii, in_l, in_t, in_s, nin_l, nin_t, nin_s, is_n, isn_n, is_bb, isn_bb, ix_l, ix_t, ix_s, sl_l, sl_t, sl_s, t_b, t_i, t_l, t_t, t_n, t_s, len_s, len_l, len_t, tup_l, tup_t, lst_l, lst_t, srt_l, sset_x, lset_x, ssetM, lsetM, all_l, any_l, int_b, int_i, repr_x, isi_x, revs_l, revs_s, trng_x, lrng_x, rep_x, cat_x, lst_s, ix_dk, dnew_x, as_d, key_i, key_s, enum_l, enum_t, srt_t, in_dk, nin_dk, len_dk, srt_dk, dpairs_l, find_x, findT, join_x, joinT, lt_l, lt_t, as_i, as_l, as_t, as_b, atA, atB, atC, atDd, atE, tn0, tn1, tn2, tn3, outsO, List.tail_cons, tgt, tgts, Option.bind_some, Option.map_some, Option.bind_none, Option.map_none, ownD, isTy, hG, argsIo, ioOk, List.all_cons, List.all_nil, Bool.and_true, Option.isSome_some, peekC, outsE, true_and, and_true, srcD, itemsD, turns, List.map_cons, List.map_nil, wipeE, backE, noOwn, Option.isNone_none, hS, hO, hT, hI]
  refine ⟨by decide, t1, most, rfl, ht1, o0, by omega, fun v t2 v0 v1 ht2 => ?_⟩
  simp only [wpD_f, wpD_n, wpF, wpN, Bool.false_eq_true, if_false, if_true, ev0, List.zipWith_cons_cons, List.zipWith_nil_left, List.zipWith_nil_right, List.zipWith, List.replicate, List.length_cons, List.length_nil, Nat.reduceAdd, Nat.reduceSub, List.cons_append, List.nil_append, wpB, MW.wpS, wpc, wpcs, opd, wp, wps, wpo, wpa, wpp, bnd_some, bnd_none, bnd_if, bnd_map, bnd_bind, pk, rdv, setv, setc, getc, List.getElem?_cons_zero, List.getElem?_cons_succ, List.set_cons_zero, List.set_cons_succ, add_ii, add_ss, add_ll, add_tt, sub_ii, mul_ii, mul_si, mod_ii, fdiv_ii, pow_ii, shr_ii, and_ii, c_eq, c_ne, lt_ii, lt_ss, gt_ii, gt_ss, le_ii, ge_ii, in_l, in_t, in_s, nin_l, nin_t, nin_s, is_n, isn_n, is_bb, isn_bb, ix_l, ix_t, ix_s, sl_l, sl_t, sl_s, t_b, t_i, t_l, t_t, t_n, t_s, len_s, len_l, len_t, tup_l, tup_t, lst_l, lst_t, srt_l, sset_x, lset_x, ssetM, lsetM, all_l, any_l, int_b, int_i, repr_x, isi_x, revs_l, revs_s, trng_x, lrng_x, rep_x, cat_x, lst_s, ix_dk, dnew_x, as_d, key_i, key_s, enum_l, enum_t, srt_t, in_dk, nin_dk, len_dk, srt_dk, dpairs_l, find_x, findT, join_x, joinT, lt_l, lt_t, as_i, as_l, as_t, as_b, atA, atB, atC, atDd, atE, tn0, tn1, tn2, tn3, outsO, List.tail_cons, tgt, tgts, Option.bind_some, Option.map_some, Option.bind_none, Option.map_none, ownD, isTy, hG, argsIo, ioOk, List.all_cons, List.all_nil, Bool.and_true, Option.isSome_some, peekC, outsE, true_and, and_true, srcD, itemsD, turns, List.map_cons, List.map_nil, wipeE, backE, noOwn, Option.isNone_none, hS, hO, hT, hI]
  refine ⟨by decide, t2, 4, rfl, ht2, by decide, by decide, fun u t3 u0 u1 ht3 => ?_⟩
  simp only [wpD_f, wpD_n, wpF, wpN, Bool.false_eq_true, if_false, if_true, ev0, List.zipWith_cons_cons, List.zipWith_nil_left, List.zipWith_nil_right, List.zipWith, List.replicate, List.length_cons, List.length_nil, Nat.reduceAdd, Nat.reduceSub, List.cons_append, List.nil_append, wpB, MW.wpS, wpc, wpcs, opd, wp, wps, wpo, wpa, wpp, bnd_some, bnd_none, bnd_if, bnd_map, bnd_bind, pk, rdv, setv, setc, getc, List.getElem?_cons_zero, List.getElem?_cons_succ, List.set_cons_zero, List.set_cons_succ, add_ii, add_ss, add_ll, add_tt, sub_ii, mul_ii, mul_si, mod_ii, fdiv_ii, pow_ii, shr_ii, and_ii, c_eq, c_ne, lt_ii, lt_ss, gt_ii, gt_ss, le_ii, ge_ii, in_l, in_t, in_s, nin_l, nin_t, nin_s, is_n, isn_n, is_bb, isn_bb, ix_l, ix_t, ix_s, sl_l, sl_t, sl_s, t_b, t_i, t_l, t_t, t_n, t_s, len_s, len_l, len_t, tup_l, tup_t, lst_l, lst_t, srt_l, sset_x, lset_x, ssetM, lsetM, all_l, any_l, int_b, int_i, repr_x, isi_x, revs_l, revs_s, trng_x, lrng_x, rep_x, cat_x, lst_s, ix_dk, dnew_x, as_d, key_i, key_s, enum_l, enum_t, srt_t, in_dk, nin_dk, len_dk, srt_dk, dpairs_l, find_x, findT, join_x, joinT, lt_l, lt_t, as_i, as_l, as_t, as_b, atA, atB, atC, atDd, atE, tn0, tn1, tn2, tn3, outsO, List.tail_cons, tgt, tgts, Option.bind_some, Option.map_some, Option.bind_none, Option.map_none, ownD, isTy, hG, argsIo, ioOk, List.all_cons, List.all_nil, Bool.and_true, Option.isSome_some, peekC, outsE, true_and, and_true, srcD, itemsD, turns, List.map_cons, List.map_nil, wipeE, backE, noOwn, Option.isNone_none, hS, hO, hT, hI, shp_i, Bool.and_self]
  split
  · refine ⟨by decide, t3, 1 + v, rfl, ht3, by omega, by omega, fun b t4 b0 b1 ht4 => ?_⟩
    simp only [wpD_f, wpD_n, wpF, wpN, Bool.false_eq_true, if_false, if_true, ev0, List.zipWith_cons_cons, List.zipWith_nil_left, List.zipWith_nil_right, List.zipWith, List.replicate, List.length_cons, List.length_nil, Nat.reduceAdd, Nat.reduceSub, List.cons_append, List.nil_append, wpB, MW.wpS, wpc, wpcs, opd, wp, wps, wpo, wpa, wpp, bnd_some, bnd_none, bnd_if, bnd_map, bnd_bind, pk, rdv, setv, setc, getc, List.getElem?_cons_zero, List.getElem?_cons_succ, List.set_cons_zero, List.set_cons_succ, add_ii, add_ss, add_ll, add_tt, sub_ii, mul_ii, mul_si, mod_ii, fdiv_ii, pow_ii, shr_ii, and_ii, c_eq, c_ne, lt_ii, lt_ss, gt_ii, gt_ss, le_ii, ge_ii, in_l, in_t, in_s, nin_l, nin_t, nin_s, is_n, isn_n, is_bb, isn_bb, ix_l, ix_t, ix_s, sl_l, sl_t, sl_s, t_b, t_i, t_l, t_t, t_n, t_s, len_s, len_l, len_t, tup_l, tup_t, lst_l, lst_t, srt_l, sset_x, lset_x, ssetM, lsetM, all_l, any_l, int_b, int_i, repr_x, isi_x, revs_l, revs_s, trng_x, lrng_x, rep_x, cat_x, lst_s, ix_dk, dnew_x, as_d, key_i, key_s, enum_l, enum_t, srt_t, in_dk, nin_dk, len_dk, srt_dk, dpairs_l, find_x, findT, join_x, joinT, lt_l, lt_t, as_i, as_l, as_t, as_b, atA, atB, atC, atDd, atE, tn0, tn1, tn2, tn3, outsO, List.tail_cons, tgt, tgts, Option.bind_some, Option.map_some, Option.bind_none, Option.map_none, ownD, isTy, hG, argsIo, ioOk, List.all_cons, List.all_nil, Bool.and_true, Option.isSome_some, peekC, outsE, true_and, and_true, srcD, itemsD, turns, List.map_cons, List.map_nil, wipeE, backE, noOwn, Option.isNone_none, hS, hO, hT, hI]
    refine ⟨by decide, by decide, t4, 1 + v, 2, rfl, ht4, by omega, by omega, by decide, by decide, fun l t5 l1 ht5 => ?_⟩
    simp only [wpD_f, wpD_n, wpF, wpN, Bool.false_eq_true, if_false, if_true, ev0, List.zipWith_cons_cons, List.zipWith_nil_left, List.zipWith_nil_right, List.zipWith, List.replicate, List.length_cons, List.length_nil, Nat.reduceAdd, Nat.reduceSub, List.cons_append, List.nil_append, wpB, MW.wpS, wpc, wpcs, opd, wp, wps, wpo, wpa, wpp, bnd_some, bnd_none, bnd_if, bnd_map, bnd_bind, pk, rdv, setv, setc, getc, List.getElem?_cons_zero, List.getElem?_cons_succ, List.set_cons_zero, List.set_cons_succ, add_ii, add_ss, add_ll, add_tt, sub_ii, mul_ii, mul_si, mod_ii, fdiv_ii, pow_ii, shr_ii, and_ii, c_eq, c_ne, lt_ii, lt_ss, gt_ii, gt_ss, le_ii, ge_ii, in_l, in_t, in_s, nin_l, nin_t, nin_s, is_n, isn_n, is_bb, isn_bb, ix_l, ix_t, ix_s, sl_l, sl_t, sl_s, t_b, t_i, t_l, t_t, t_n, t_s, len_s, len_l, len_t, tup_l, tup_t, lst_l, lst_t, srt_l, sset_x, lset_x, ssetM, lsetM, all_l, any_l, int_b, int_i, repr_x, isi_x, revs_l, revs_s, trng_x, lrng_x, rep_x, cat_x, lst_s, ix_dk, dnew_x, as_d, key_i, key_s, enum_l, enum_t, srt_t, in_dk, nin_dk, len_dk, srt_dk, dpairs_l, find_x, findT, join_x, joinT, lt_l, lt_t, as_i, as_l, as_t, as_b, atA, atB, atC, atDd, atE, tn0, tn1, tn2, tn3, outsO, List.tail_cons, tgt, tgts, Option.bind_some, Option.map_some, Option.bind_none, Option.map_none, ownD, isTy, hG, argsIo, ioOk, List.all_cons, List.all_nil, Bool.and_true, Option.isSome_some, peekC, outsE, true_and, and_true, srcD, itemsD, turns, List.map_cons, List.map_nil, wipeE, backE, noOwn, Option.isNone_none, hS, hO, hT, hI]
    refine ⟨by decide, t5, sg, 1 + v, rfl, ht5, hsg, by omega, by omega, fun st t6 s1 _ ht6 => ?_⟩
    simp only [wpD_f, wpD_n, wpF, wpN, Bool.false_eq_true, if_false, if_true, ev0, List.zipWith_cons_cons, List.zipWith_nil_left, List.zipWith_nil_right, List.zipWith, List.replicate, List.length_cons, List.length_nil, Nat.reduceAdd, Nat.reduceSub, List.cons_append, List.nil_append, wpB, MW.wpS, wpc, wpcs, opd, wp, wps, wpo, wpa, wpp, bnd_some, bnd_none, bnd_if, bnd_map, bnd_bind, pk, rdv, setv, setc, getc, List.getElem?_cons_zero, List.getElem?_cons_succ, List.set_cons_zero, List.set_cons_succ, add_ii, add_ss, add_ll, add_tt, sub_ii, mul_ii, mul_si, mod_ii, fdiv_ii, pow_ii, shr_ii, and_ii, c_eq, c_ne, lt_ii, lt_ss, gt_ii, gt_ss, le_ii, ge_ii, in_l, in_t, in_s, nin_l, nin_t, nin_s, is_n, isn_n, is_bb, isn_bb, ix_l, ix_t, ix_s, sl_l, sl_t, sl_s, t_b, t_i, t_l, t_t, t_n, t_s, len_s, len_l, len_t, tup_l, tup_t, lst_l, lst_t, srt_l, sset_x, lset_x, ssetM, lsetM, all_l, any_l, int_b, int_i, repr_x, isi_x, revs_l, revs_s, trng_x, lrng_x, rep_x, cat_x, lst_s, ix_dk, dnew_x, as_d, key_i, key_s, enum_l, enum_t, srt_t, in_dk, nin_dk, len_dk, srt_dk, dpairs_l, find_x, findT, join_x, joinT, lt_l, lt_t, as_i, as_l, as_t, as_b, atA, atB, atC, atDd, atE, tn0, tn1, tn2, tn3, outsO, List.tail_cons, tgt, tgts, Option.bind_some, Option.map_some, Option.bind_none, Option.map_none, ownD, isTy, hG, argsIo, ioOk, List.all_cons, List.all_nil, Bool.and_true, Option.isSome_some, peekC, outsE, true_and, and_true, srcD, itemsD, turns, List.map_cons, List.map_nil, wipeE, backE, noOwn, Option.isNone_none, hS, hO, hT, hI]
    exact ⟨by decide, hR ⟨sg, 1 + v, [b], l, st⟩ t6 ⟨hsg, by show 0 < 1 + v; omega, by show 1 + v ≤ 8; omega, ⟨List.pairwise_singleton _ _, fun k hk => by rw [List.mem_singleton] at hk; rw [hk]; exact ⟨b0, b1⟩⟩, l1, s1⟩ (by show 1 + v ≤ most; omega) ht6⟩
  · refine ⟨by decide, t3, 1 + v, 2, rfl, ht3, by omega, by omega, by decide, by decide, fun l t4 l1 ht4 => ?_⟩
    simp only [wpD_f, wpD_n, wpF, wpN, Bool.false_eq_true, if_false, if_true, ev0, List.zipWith_cons_cons, List.zipWith_nil_left, List.zipWith_nil_right, List.zipWith, List.replicate, List.length_cons, List.length_nil, Nat.reduceAdd, Nat.reduceSub, List.cons_append, List.nil_append, wpB, MW.wpS, wpc, wpcs, opd, wp, wps, wpo, wpa, wpp, bnd_some, bnd_none, bnd_if, bnd_map, bnd_bind, pk, rdv, setv, setc, getc, List.getElem?_cons_zero, List.getElem?_cons_succ, List.set_cons_zero, List.set_cons_succ, add_ii, add_ss, add_ll, add_tt, sub_ii, mul_ii, mul_si, mod_ii, fdiv_ii, pow_ii, shr_ii, and_ii, c_eq, c_ne, lt_ii, lt_ss, gt_ii, gt_ss, le_ii, ge_ii, in_l, in_t, in_s, nin_l, nin_t, nin_s, is_n, isn_n, is_bb, isn_bb, ix_l, ix_t, ix_s, sl_l, sl_t, sl_s, t_b, t_i, t_l, t_t, t_n, t_s, len_s, len_l, len_t, tup_l, tup_t, lst_l, lst_t, srt_l, sset_x, lset_x, ssetM, lsetM, all_l, any_l, int_b, int_i, repr_x, isi_x, revs_l, revs_s, trng_x, lrng_x, rep_x, cat_x, lst_s, ix_dk, dnew_x, as_d, key_i, key_s, enum_l, enum_t, srt_t, in_dk, nin_dk, len_dk, srt_dk, dpairs_l, find_x, findT, join_x, joinT, lt_l, lt_t, as_i, as_l, as_t, as_b, atA, atB, atC, atDd, atE, tn0, tn1, tn2, tn3, outsO, List.tail_cons, tgt, tgts, Option.bind_some, Option.map_some, Option.bind_none, Option.map_none, ownD, isTy, hG, argsIo, ioOk, List.all_cons, List.all_nil, Bool.and_true, Option.isSome_some, peekC, outsE, true_and, and_true, srcD, itemsD, turns, List.map_cons, List.map_nil, wipeE, backE, noOwn, Option.isNone_none, hS, hO, hT, hI]
    refine ⟨by decide, by decide, by decide, t4, 2, rfl, ht4, by decide, by decide, fun w t5 w0 w1 ht5 => ?_⟩
    have : w = 0 ∨ w = 1 := by omega
    rcases this with rfl | rfl
    all_goals
      simp only [wpD_f, wpD_n, wpF, wpN, Bool.false_eq_true, if_false, if_true, ev0, List.zipWith_cons_cons, List.zipWith_nil_left, List.zipWith_nil_right, List.zipWith, List.replicate, List.length_cons, List.length_nil, Nat.reduceAdd, Nat.reduceSub, List.cons_append, List.nil_append, wpB, MW.wpS, wpc, wpcs, opd, wp, wps, wpo, wpa, wpp, bnd_some, bnd_none, bnd_if, bnd_map, bnd_bind, pk, rdv, setv, setc, getc, List.getElem?_cons_zero, List.getElem?_cons_succ, List.set_cons_zero, List.set_cons_succ, add_ii, add_ss, add_ll, add_tt, sub_ii, mul_ii, mul_si, mod_ii, fdiv_ii, pow_ii, shr_ii, and_ii, c_eq, c_ne, lt_ii, lt_ss, gt_ii, gt_ss, le_ii, ge_ii, in_l, in_t, in_s, nin_l, nin_t, nin_s, is_n, isn_n, is_bb, isn_bb, ix_l, ix_t, ix_s, sl_l, sl_t, sl_s, t_b, t_i, t_l, t_t, t_n, t_s, len_s, len_l, len_t, tup_l, tup_t, lst_l, lst_t, srt_l, sset_x, lset_x, ssetM, lsetM, all_l, any_l, int_b, int_i, repr_x, isi_x, revs_l, revs_s, trng_x, lrng_x, rep_x, cat_x, lst_s, ix_dk, dnew_x, as_d, key_i, key_s, enum_l, enum_t, srt_t, in_dk, nin_dk, len_dk, srt_dk, dpairs_l, find_x, findT, join_x, joinT, lt_l, lt_t, as_i, as_l, as_t, as_b, atA, atB, atC, atDd, atE, tn0, tn1, tn2, tn3, outsO, List.tail_cons, tgt, tgts, Option.bind_some, Option.map_some, Option.bind_none, Option.map_none, ownD, isTy, hG, argsIo, ioOk, List.all_cons, List.all_nil, Bool.and_true, Option.isSome_some, peekC, outsE, true_and, and_true, srcD, itemsD, turns, List.map_cons, List.map_nil, wipeE, backE, noOwn, Option.isNone_none, hS, hO, hT, hI]
      refine ⟨t5, 1 + v, _, rfl, ht5, by omega, by omega, by decide, by decide, fun l' t6 l3 ht6 => ?_⟩
      simp only [wpD_f, wpD_n, wpF, wpN, Bool.false_eq_true, if_false, if_true, ev0, List.zipWith_cons_cons, List.zipWith_nil_left, List.zipWith_nil_right, List.zipWith, List.replicate, List.length_cons, List.length_nil, Nat.reduceAdd, Nat.reduceSub, List.cons_append, List.nil_append, wpB, MW.wpS, wpc, wpcs, opd, wp, wps, wpo, wpa, wpp, bnd_some, bnd_none, bnd_if, bnd_map, bnd_bind, pk, rdv, setv, setc, getc, List.getElem?_cons_zero, List.getElem?_cons_succ, List.set_cons_zero, List.set_cons_succ, add_ii, add_ss, add_ll, add_tt, sub_ii, mul_ii, mul_si, mod_ii, fdiv_ii, pow_ii, shr_ii, and_ii, c_eq, c_ne, lt_ii, lt_ss, gt_ii, gt_ss, le_ii, ge_ii, in_l, in_t, in_s, nin_l, nin_t, nin_s, is_n, isn_n, is_bb, isn_bb, ix_l, ix_t, ix_s, sl_l, sl_t, sl_s, t_b, t_i, t_l, t_t, t_n, t_s, len_s, len_l, len_t, tup_l, tup_t, lst_l, lst_t, srt_l, sset_x, lset_x, ssetM, lsetM, all_l, any_l, int_b, int_i, repr_x, isi_x, revs_l, revs_s, trng_x, lrng_x, rep_x, cat_x, lst_s, ix_dk, dnew_x, as_d, key_i, key_s, enum_l, enum_t, srt_t, in_dk, nin_dk, len_dk, srt_dk, dpairs_l, find_x, findT, join_x, joinT, lt_l, lt_t, as_i, as_l, as_t, as_b, atA, atB, atC, atDd, atE, tn0, tn1, tn2, tn3, outsO, List.tail_cons, tgt, tgts, Option.bind_some, Option.map_some, Option.bind_none, Option.map_none, ownD, isTy, hG, argsIo, ioOk, List.all_cons, List.all_nil, Bool.and_true, Option.isSome_some, peekC, outsE, true_and, and_true, srcD, itemsD, turns, List.map_cons, List.map_nil, wipeE, backE, noOwn, Option.isNone_none, hS, hO, hT, hI]
      refine ⟨by decide, t6, sg, 1 + v, rfl, ht6, hsg, by omega, by omega, fun st t7 s1 ht7 => ?_⟩
      simp only [wpD_f, wpD_n, wpF, wpN, Bool.false_eq_true, if_false, if_true, ev0, List.zipWith_cons_cons, List.zipWith_nil_left, List.zipWith_nil_right, List.zipWith, List.replicate, List.length_cons, List.length_nil, Nat.reduceAdd, Nat.reduceSub, List.cons_append, List.nil_append, wpB, MW.wpS, wpc, wpcs, opd, wp, wps, wpo, wpa, wpp, bnd_some, bnd_none, bnd_if, bnd_map, bnd_bind, pk, rdv, setv, setc, getc, List.getElem?_cons_zero, List.getElem?_cons_succ, List.set_cons_zero, List.set_cons_succ, add_ii, add_ss, add_ll, add_tt, sub_ii, mul_ii, mul_si, mod_ii, fdiv_ii, pow_ii, shr_ii, and_ii, c_eq, c_ne, lt_ii, lt_ss, gt_ii, gt_ss, le_ii, ge_ii, in_l, in_t, in_s, nin_l, nin_t, nin_s, is_n, isn_n, is_bb, isn_bb, ix_l, ix_t, ix_s, sl_l, sl_t, sl_s, t_b, t_i, t_l, t_t, t_n, t_s, len_s, len_l, len_t, tup_l, tup_t, lst_l, lst_t, srt_l, sset_x, lset_x, ssetM, lsetM, all_l, any_l, int_b, int_i, repr_x, isi_x, revs_l, revs_s, trng_x, lrng_x, rep_x, cat_x, lst_s, ix_dk, dnew_x, as_d, key_i, key_s, enum_l, enum_t, srt_t, in_dk, nin_dk, len_dk, srt_dk, dpairs_l, find_x, findT, join_x, joinT, lt_l, lt_t, as_i, as_l, as_t, as_b, atA, atB, atC, atDd, atE, tn0, tn1, tn2, tn3, outsO, List.tail_cons, tgt, tgts, Option.bind_some, Option.map_some, Option.bind_none, Option.map_none, ownD, isTy, hG, argsIo, ioOk, List.all_cons, List.all_nil, Bool.and_true, Option.isSome_some, peekC, outsE, true_and, and_true, srcD, itemsD, turns, List.map_cons, List.map_nil, wipeE, backE, noOwn, Option.isNone_none, hS, hO, hT, hI]
      exact ⟨by decide, hR ⟨sg, 1 + v, l, l', st⟩ t7 ⟨hsg, by show 0 < 1 + v; omega, by show 1 + v ≤ 8; omega, l1, l3, s1⟩ (by show 1 + v ≤ most; omega) ht7⟩
/-! words -/
def spWord : MW.PT := fun ds R => ∃ t sg most, ds = [t, .str sg, .int most] ∧ 0 ≤ most ∧ most ≤ 1000 ∧ Tp t ∧ 0 < sg.length ∧ sg.length ≤ 1000 ∧ ∀ (w : List Nat) t', (∀ c ∈ w, c ∈ sg) → (w.length : Int) ≤ most → Tp t' → R (.str w) [t']
theorem ok_word (Γ : Gm) (hG : Γ "_law_draw" = some fDraw) (ds : List D) (R : D → List D → Prop) (h : spWord ds R) : wpD false Γ [true, false, false] 4 b_law_word ds R := by
  obtain ⟨t, sg, most, rfl, o0, o1, ht, hs0, hs1, hR⟩ := h
  simp only [b_law_word, wpD_f, wpD_n, wpF, wpN, Bool.false_eq_true, if_false, if_true, ev0, List.zipWith_cons_cons, List.zipWith_nil_left, List.zipWith_nil_right, List.zipWith, List.replicate, List.length_cons, List.length_nil, Nat.reduceAdd, Nat.reduceSub, List.cons_append, List.nil_append, wpB, MW.wpS, wpc, wpcs, opd, wp, wps, wpo, wpa, wpp, bnd_some, bnd_none, bnd_if, bnd_map, bnd_bind, pk, rdv, setv, setc, getc, List.getElem?_cons_zero, List.getElem?_cons_succ, List.set_cons_zero, List.set_cons_succ, add_ii, add_ss, add_ll, add_tt, sub_ii, mul_ii, mul_si, mod_ii, fdiv_ii, pow_ii, shr_ii, and_ii, c_eq, c_ne, lt_ii, lt_ss, gt_ii, gt_ss, le_ii, ge_ii, in_l, in_t, in_s, nin_l, nin_t, nin_s, is_n, isn_n, is_bb, isn_bb, ix_l, ix_t, ix_s, sl_l, sl_t, sl_s, t_b, t_i, t_l, t_t, t_n, t_s, len_s, len_l, len_t, tup_l, tup_t, lst_l, lst_t, srt_l, sset_x, lset_x, ssetM, lsetM, all_l, any_l, int_b, int_i, repr_x, isi_x, revs_l, revs_s, trng_x, lrng_x, rep_x, cat_x, lst_s, ix_dk, dnew_x, as_d, key_i, key_s, enum_l, enum_t, srt_t, in_dk, nin_dk, len_dk, srt_dk, dpairs_l, find_x, findT, join_x, joinT, lt_l, lt_t, as_i, as_l, as_t, as_b, atA, atB, atC, atDd, atE, tn0, tn1, tn2, tn3, outsO, List.tail_cons, tgt, tgts, Option.bind_some, Option.map_some, Option.bind_none, Option.map_none, ownD, isTy, hG, argsIo, ioOk, List.all_cons, List.all_nil, Bool.and_true, Option.isSome_some, peekC, outsE, true_and, and_true, srcD, itemsD, turns, List.map_cons, List.map_nil, wipeE, backE, noOwn, Option.isNone_none]
  refine ⟨by decide, t, most + 1, rfl, ht, by omega, by omega, fun v t1 v0 v1 ht1 => ?_⟩
  simp only [wpD_f, wpD_n, wpF, wpN, Bool.false_eq_true, if_false, if_true, ev0, List.zipWith_cons_cons, List.zipWith_nil_left, List.zipWith_nil_right, List.zipWith, List.replicate, List.length_cons, List.length_nil, Nat.reduceAdd, Nat.reduceSub, List.cons_append, List.nil_append, wpB, MW.wpS, wpc, wpcs, opd, wp, wps, wpo, wpa, wpp, bnd_some, bnd_none, bnd_if, bnd_map, bnd_bind, pk, rdv, setv, setc, getc, List.getElem?_cons_zero, List.getElem?_cons_succ, List.set_cons_zero, List.set_cons_succ, add_ii, add_ss, add_ll, add_tt, sub_ii, mul_ii, mul_si, mod_ii, fdiv_ii, pow_ii, shr_ii, and_ii, c_eq, c_ne, lt_ii, lt_ss, gt_ii, gt_ss, le_ii, ge_ii, in_l, in_t, in_s, nin_l, nin_t, nin_s, is_n, isn_n, is_bb, isn_bb, ix_l, ix_t, ix_s, sl_l, sl_t, sl_s, t_b, t_i, t_l, t_t, t_n, t_s, len_s, len_l, len_t, tup_l, tup_t, lst_l, lst_t, srt_l, sset_x, lset_x, ssetM, lsetM, all_l, any_l, int_b, int_i, repr_x, isi_x, revs_l, revs_s, trng_x, lrng_x, rep_x, cat_x, lst_s, ix_dk, dnew_x, as_d, key_i, key_s, enum_l, enum_t, srt_t, in_dk, nin_dk, len_dk, srt_dk, dpairs_l, find_x, findT, join_x, joinT, lt_l, lt_t, as_i, as_l, as_t, as_b, atA, atB, atC, atDd, atE, tn0, tn1, tn2, tn3, outsO, List.tail_cons, tgt, tgts, Option.bind_some, Option.map_some, Option.bind_none, Option.map_none, ownD, isTy, hG, argsIo, ioOk, List.all_cons, List.all_nil, Bool.and_true, Option.isSome_some, peekC, outsE, true_and, and_true, srcD, itemsD, turns, List.map_cons, List.map_nil, wipeE, backE, noOwn, Option.isNone_none, rng_n v0 (show v ≤ 1000000 by omega)]
  have fs : fitL sg.length = true := fit_of (by omega)
  refine turns_inv (fun rest acc ρ => ∃ (s k : Nat) (w : List Nat) (t' : D), rest = (List.range' s k).map (fun (k : Nat) => D.int (k : Int)) ∧ s + k = v.toNat ∧ (∀ c ∈ w, c ∈ sg) ∧ w.length = s ∧ acc = (w.map fun c => D.str [c]) ∧ Tp t' ∧ ρ = [.io t', .val (.str sg), .val (.int most), .no]) ?_ ?_ _ _ _
    ⟨0, v.toNat, [], t1, by rw [List.range_eq_range'], by omega, fun c hc => (by cases hc), rfl, rfl, ht1, rfl⟩
  · rintro d rest acc ρ T ⟨s, k, w, t', he, hk, hw, hl, rfl, ht', rfl⟩ hT
    obtain ⟨k', rfl, rfl, rfl⟩ := rng_step he
    simp only [b_law_word_e1, wpD_f, wpD_n, wpF, wpN, Bool.false_eq_true, if_false, if_true, ev0, List.zipWith_cons_cons, List.zipWith_nil_left, List.zipWith_nil_right, List.zipWith, List.replicate, List.length_cons, List.length_nil, Nat.reduceAdd, Nat.reduceSub, List.cons_append, List.nil_append, wpB, MW.wpS, wpc, wpcs, opd, wp, wps, wpo, wpa, wpp, bnd_some, bnd_none, bnd_if, bnd_map, bnd_bind, pk, rdv, setv, setc, getc, List.getElem?_cons_zero, List.getElem?_cons_succ, List.set_cons_zero, List.set_cons_succ, add_ii, add_ss, add_ll, add_tt, sub_ii, mul_ii, mul_si, mod_ii, fdiv_ii, pow_ii, shr_ii, and_ii, c_eq, c_ne, lt_ii, lt_ss, gt_ii, gt_ss, le_ii, ge_ii, in_l, in_t, in_s, nin_l, nin_t, nin_s, is_n, isn_n, is_bb, isn_bb, ix_l, ix_t, ix_s, sl_l, sl_t, sl_s, t_b, t_i, t_l, t_t, t_n, t_s, len_s, len_l, len_t, tup_l, tup_t, lst_l, lst_t, srt_l, sset_x, lset_x, ssetM, lsetM, all_l, any_l, int_b, int_i, repr_x, isi_x, revs_l, revs_s, trng_x, lrng_x, rep_x, cat_x, lst_s, ix_dk, dnew_x, as_d, key_i, key_s, enum_l, enum_t, srt_t, in_dk, nin_dk, len_dk, srt_dk, dpairs_l, find_x, findT, join_x, joinT, lt_l, lt_t, as_i, as_l, as_t, as_b, atA, atB, atC, atDd, atE, tn0, tn1, tn2, tn3, outsO, List.tail_cons, tgt, tgts, Option.bind_some, Option.map_some, Option.bind_none, Option.map_none, ownD, isTy, hG, argsIo, ioOk, List.all_cons, List.all_nil, Bool.and_true, Option.isSome_some, peekC, outsE, true_and, and_true, srcD, itemsD, turns, List.map_cons, List.map_nil, wipeE, backE, noOwn, Option.isNone_none, fs]
    refine ⟨by decide, t', (sg.length : Int), rfl, ht', by omega, by omega, fun v' t2 v0' v1' ht2 => ?_⟩
    obtain ⟨c, hc, e⟩ := at_in (xs := sg) v0' v1'
    simp only [wpD_f, wpD_n, wpF, wpN, Bool.false_eq_true, if_false, if_true, ev0, List.zipWith_cons_cons, List.zipWith_nil_left, List.zipWith_nil_right, List.zipWith, List.replicate, List.length_cons, List.length_nil, Nat.reduceAdd, Nat.reduceSub, List.cons_append, List.nil_append, wpB, MW.wpS, wpc, wpcs, opd, wp, wps, wpo, wpa, wpp, bnd_some, bnd_none, bnd_if, bnd_map, bnd_bind, pk, rdv, setv, setc, getc, List.getElem?_cons_zero, List.getElem?_cons_succ, List.set_cons_zero, List.set_cons_succ, add_ii, add_ss, add_ll, add_tt, sub_ii, mul_ii, mul_si, mod_ii, fdiv_ii, pow_ii, shr_ii, and_ii, c_eq, c_ne, lt_ii, lt_ss, gt_ii, gt_ss, le_ii, ge_ii, in_l, in_t, in_s, nin_l, nin_t, nin_s, is_n, isn_n, is_bb, isn_bb, ix_l, ix_t, ix_s, sl_l, sl_t, sl_s, t_b, t_i, t_l, t_t, t_n, t_s, len_s, len_l, len_t, tup_l, tup_t, lst_l, lst_t, srt_l, sset_x, lset_x, ssetM, lsetM, all_l, any_l, int_b, int_i, repr_x, isi_x, revs_l, revs_s, trng_x, lrng_x, rep_x, cat_x, lst_s, ix_dk, dnew_x, as_d, key_i, key_s, enum_l, enum_t, srt_t, in_dk, nin_dk, len_dk, srt_dk, dpairs_l, find_x, findT, join_x, joinT, lt_l, lt_t, as_i, as_l, as_t, as_b, atA, atB, atC, atDd, atE, tn0, tn1, tn2, tn3, outsO, List.tail_cons, tgt, tgts, Option.bind_some, Option.map_some, Option.bind_none, Option.map_none, ownD, isTy, hG, argsIo, ioOk, List.all_cons, List.all_nil, Bool.and_true, Option.isSome_some, peekC, outsE, true_and, and_true, srcD, itemsD, turns, List.map_cons, List.map_nil, wipeE, backE, noOwn, Option.isNone_none, fs, e]
    refine ⟨siz_of (by rw [List.length_map]; omega), ?_⟩
    rw [show w.map (fun c => D.str [c]) ++ [D.str [c]] = (w ++ [c]).map fun c => D.str [c] by simp]
    refine hT _ _ ⟨s + 1, k', w ++ [c], t2, rfl, by omega, fun d hd => ?_, by simp [hl], rfl, ht2, rfl⟩
    rcases List.mem_append.mp hd with q | q
    · exact hw d q
    · rw [List.mem_singleton] at q; rw [q]; exact hc
  · rintro acc ρ ⟨s, k, w, t', he, hk, hw, hl, rfl, ht', rfl⟩
    have hk0 := rng_nil he
    subst hk0
    simp only [wpD_f, wpD_n, wpF, wpN, Bool.false_eq_true, if_false, if_true, ev0, List.zipWith_cons_cons, List.zipWith_nil_left, List.zipWith_nil_right, List.zipWith, List.replicate, List.length_cons, List.length_nil, Nat.reduceAdd, Nat.reduceSub, List.cons_append, List.nil_append, wpB, MW.wpS, wpc, wpcs, opd, wp, wps, wpo, wpa, wpp, bnd_some, bnd_none, bnd_if, bnd_map, bnd_bind, pk, rdv, setv, setc, getc, List.getElem?_cons_zero, List.getElem?_cons_succ, List.set_cons_zero, List.set_cons_succ, add_ii, add_ss, add_ll, add_tt, sub_ii, mul_ii, mul_si, mod_ii, fdiv_ii, pow_ii, shr_ii, and_ii, c_eq, c_ne, lt_ii, lt_ss, gt_ii, gt_ss, le_ii, ge_ii, in_l, in_t, in_s, nin_l, nin_t, nin_s, is_n, isn_n, is_bb, isn_bb, ix_l, ix_t, ix_s, sl_l, sl_t, sl_s, t_b, t_i, t_l, t_t, t_n, t_s, len_s, len_l, len_t, tup_l, tup_t, lst_l, lst_t, srt_l, sset_x, lset_x, ssetM, lsetM, all_l, any_l, int_b, int_i, repr_x, isi_x, revs_l, revs_s, trng_x, lrng_x, rep_x, cat_x, lst_s, ix_dk, dnew_x, as_d, key_i, key_s, enum_l, enum_t, srt_t, in_dk, nin_dk, len_dk, srt_dk, dpairs_l, find_x, findT, join_x, joinT, lt_l, lt_t, as_i, as_l, as_t, as_b, atA, atB, atC, atDd, atE, tn0, tn1, tn2, tn3, outsO, List.tail_cons, tgt, tgts, Option.bind_some, Option.map_some, Option.bind_none, Option.map_none, ownD, isTy, hG, argsIo, ioOk, List.all_cons, List.all_nil, Bool.and_true, Option.isSome_some, peekC, outsE, true_and, and_true, srcD, itemsD, turns, List.map_cons, List.map_nil, wipeE, backE, noOwn, Option.isNone_none, strs_one, sum_one, join_one]
    exact ⟨fit_of (by simp; omega), hR w t' hw (by omega) ht'⟩
/-! ### what the program computes, plainly -/
def sel (S : List Int) (c : Nat) (l : List Stp) : List Int := (l.filter fun s => s.2.1 == c && decide (s.1 ∈ S)).map (·.2.2)
def beh (m : Mac) (S : List Int) (c : Nat) : List Int := oset (sel S c m.steps)
def behw (m : Mac) (S : List Int) (w : List Nat) : List Int := w.foldl (beh m) S
def tk (m : Mac) (S : List Int) (w : List Nat) : Bool := (behw m S w).any fun k => decide (k ∈ m.ends)
theorem mem_sel {S : List Int} {c : Nat} {l : List Stp} {x : Int} : x ∈ sel S c l ↔ ∃ s ∈ l, s.2.1 = c ∧ s.1 ∈ S ∧ s.2.2 = x := by
  unfold sel
  simp only [List.mem_map, List.mem_filter, Bool.and_eq_true, beq_iff_eq, decide_eq_true_eq]
  constructor
  · rintro ⟨s, ⟨h1, h2, h3⟩, h4⟩; exact ⟨s, h1, h2, h3, h4⟩
  · rintro ⟨s, h1, h2, h3, h4⟩; exact ⟨s, ⟨h1, h2, h3⟩, h4⟩
theorem sel_rng {m : Mac} (hm : Mk m) (S : List Int) (c : Nat) : ∀ k ∈ sel S c m.steps, 0 ≤ k ∧ k < m.many := fun k hk => by
  obtain ⟨s, h1, _, _, h4⟩ := mem_sel.mp hk
  have := (hm.s.m s h1).b
  rw [h4] at this; exact this
theorem beh_st {m : Mac} (hm : Mk m) (S : List Int) (c : Nat) : St m.many (beh m S c) := St.oset (sel_rng hm S c)
theorem behw_st {m : Mac} (hm : Mk m) : ∀ (w : List Nat) (S : List Int), St m.many S → St m.many (behw m S w)
  | [], S, h => h
  | c :: w, S, h => behw_st hm w _ (beh_st hm S c)
theorem mem_beh {m : Mac} {S : List Int} {c : Nat} {x : Int} : x ∈ beh m S c ↔ ∃ s ∈ m.steps, s.2.1 = c ∧ s.1 ∈ S ∧ s.2.2 = x := by
  unfold beh; rw [oset_mem, mem_sel]
theorem behw_app (m : Mac) (S : List Int) (u v : List Nat) : behw m S (u ++ v) = behw m (behw m S u) v := List.foldl_append
/-! ### that the defs compute it -/
def spBehind : MW.PT := fun ds R => ∃ m S c, ds = [dM m, intsT S, .str [c]] ∧ Mk m ∧ c < 128 ∧ R (intsT (beh m S c)) []
theorem ok_behind (Γ : Gm) (ds : List D) (R : D → List D → Prop) (h : spBehind ds R) : wpD false Γ [false, false, false] 4 b_behind ds R := by
  obtain ⟨m, S, c, rfl, hm, hc, hR⟩ := h
  have hG : True := trivial
  have hl := hm.s.l
  simp only [b_behind, dM, wpD_f, wpD_n, wpF, wpN, Bool.false_eq_true, if_false, if_true, ev0, List.zipWith_cons_cons, List.zipWith_nil_left, List.zipWith_nil_right, List.zipWith, List.replicate, List.length_cons, List.length_nil, Nat.reduceAdd, Nat.reduceSub, List.cons_append, List.nil_append, wpB, MW.wpS, wpc, wpcs, opd, wp, wps, wpo, wpa, wpp, bnd_some, bnd_none, bnd_if, bnd_map, bnd_bind, pk, rdv, setv, setc, getc, List.getElem?_cons_zero, List.getElem?_cons_succ, List.set_cons_zero, List.set_cons_succ, add_ii, add_ss, add_ll, add_tt, sub_ii, mul_ii, mul_si, mod_ii, fdiv_ii, pow_ii, shr_ii, and_ii, c_eq, c_ne, lt_ii, lt_ss, gt_ii, gt_ss, le_ii, ge_ii, in_l, in_t, in_s, nin_l, nin_t, nin_s, is_n, isn_n, is_bb, isn_bb, ix_l, ix_t, ix_s, sl_l, sl_t, sl_s, t_b, t_i, t_l, t_t, t_n, t_s, len_s, len_l, len_t, tup_l, tup_t, lst_l, lst_t, srt_l, sset_x, lset_x, ssetM, lsetM, all_l, any_l, int_b, int_i, repr_x, isi_x, revs_l, revs_s, trng_x, lrng_x, rep_x, cat_x, lst_s, ix_dk, dnew_x, as_d, key_i, key_s, enum_l, enum_t, srt_t, in_dk, nin_dk, len_dk, srt_dk, dpairs_l, find_x, findT, join_x, joinT, lt_l, lt_t, as_i, as_l, as_t, as_b, atA, atB, atC, atDd, atE, tn0, tn1, tn2, tn3, outsO, List.tail_cons, tgt, tgts, Option.bind_some, Option.map_some, Option.bind_none, Option.map_none, ownD, isTy, hG, argsIo, ioOk, List.all_cons, List.all_nil, Bool.and_true, Option.isSome_some, peekC, outsE, true_and, and_true, srcD, itemsD, turns, List.map_cons, List.map_nil, wipeE, backE, noOwn, Option.isNone_none]
  refine turns_inv (fun rest acc ρ => ∃ (pre xs : List Stp), m.steps = pre ++ xs ∧ rest = xs.map dS ∧ acc = (sel S c pre).map .int ∧ ρ = [.val (.tuple [.str m.sg, .int m.many, intsT m.begins, intsT m.ends, .tuple (m.steps.map dS)]), .val (intsT S), .val (.str [c]), .no]) ?_ ?_ _ _ _
    ⟨[], m.steps, rfl, rfl, rfl, rfl⟩
  · rintro d rest acc ρ T ⟨pre, xs, e, er, rfl, rfl⟩ hT
    obtain ⟨⟨a, w, b⟩, xs', rfl, rfl, rfl⟩ := map_step er
    have hx := hm.s.m (a, w, b) (by rw [e]; simp)
    have hw : w < 128 := hm.sg.lt w hx.c
    have s1 : shp 60 (.str [w]) = true := shp_str fun d hd => by rw [List.mem_singleton] at hd; rw [hd]; exact hw
    have s2 : shp 60 (.str [c]) = true := shp_str fun d hd => by rw [List.mem_singleton] at hd; rw [hd]; exact hc
    have ll : m.steps.length = pre.length + (xs'.length + 1) := by rw [e]; simp
    have l2 : (sel S c pre).length ≤ pre.length := by unfold sel; rw [List.length_map]; exact List.length_filter_le _ _
    have e1 : ([w] == [c]) = (w == c) := by rw [Bool.eq_iff_iff]; simp
    simp only [b_behind_c1, b_behind_e2, dS, intsT, wpD_f, wpD_n, wpF, wpN, Bool.false_eq_true, if_false, if_true, ev0, List.zipWith_cons_cons, List.zipWith_nil_left, List.zipWith_nil_right, List.zipWith, List.replicate, List.length_cons, List.length_nil, Nat.reduceAdd, Nat.reduceSub, List.cons_append, List.nil_append, wpB, MW.wpS, wpc, wpcs, opd, wp, wps, wpo, wpa, wpp, bnd_some, bnd_none, bnd_if, bnd_map, bnd_bind, pk, rdv, setv, setc, getc, List.getElem?_cons_zero, List.getElem?_cons_succ, List.set_cons_zero, List.set_cons_succ, add_ii, add_ss, add_ll, add_tt, sub_ii, mul_ii, mul_si, mod_ii, fdiv_ii, pow_ii, shr_ii, and_ii, c_eq, c_ne, lt_ii, lt_ss, gt_ii, gt_ss, le_ii, ge_ii, in_l, in_t, in_s, nin_l, nin_t, nin_s, is_n, isn_n, is_bb, isn_bb, ix_l, ix_t, ix_s, sl_l, sl_t, sl_s, t_b, t_i, t_l, t_t, t_n, t_s, len_s, len_l, len_t, tup_l, tup_t, lst_l, lst_t, srt_l, sset_x, lset_x, ssetM, lsetM, all_l, any_l, int_b, int_i, repr_x, isi_x, revs_l, revs_s, trng_x, lrng_x, rep_x, cat_x, lst_s, ix_dk, dnew_x, as_d, key_i, key_s, enum_l, enum_t, srt_t, in_dk, nin_dk, len_dk, srt_dk, dpairs_l, find_x, findT, join_x, joinT, lt_l, lt_t, as_i, as_l, as_t, as_b, atA, atB, atC, atDd, atE, tn0, tn1, tn2, tn3, outsO, List.tail_cons, tgt, tgts, Option.bind_some, Option.map_some, Option.bind_none, Option.map_none, ownD, isTy, hG, argsIo, ioOk, List.all_cons, List.all_nil, Bool.and_true, Option.isSome_some, peekC, outsE, true_and, and_true, srcD, itemsD, turns, List.map_cons, List.map_nil, wipeE, backE, noOwn, Option.isNone_none, s1, s2, Bool.and_self, eq_s, shp_i, shp_ints, in_ints, e1]
    have hh : ∀ z, m.steps = pre ++ (a, w, b) :: xs' → z = sel S c (pre ++ [(a, w, b)]) → T (z.map .int) _ := fun z q1 q2 => hT _ _ ⟨pre ++ [(a, w, b)], xs', by rw [q1]; simp, rfl, by rw [q2], rfl⟩
    have fa : sel S c (pre ++ [(a, w, b)]) = sel S c pre ++ (if (w == c && decide (a ∈ S)) = true then [b] else []) := by
      unfold sel
      rw [List.filter_append, List.map_append, List.filter_cons]
      split <;> rfl
    split
    · rename_i h1
      split
      · rename_i h2
        refine ⟨siz_of (by rw [List.length_map]; omega), ?_⟩
        rw [show (sel S c pre).map D.int ++ [D.int b] = (sel S c pre ++ [b]).map D.int by simp]
        exact hh _ e (by rw [fa, if_pos (by rw [h1, h2]; rfl)])
      · rename_i h2
        refine hh _ e (by rw [fa, if_neg (by simp only [Bool.and_eq_true]; exact fun z => h2 z.2), List.append_nil])
    · rename_i h1
      refine hh _ e (by rw [fa, if_neg (by simp only [Bool.and_eq_true]; exact fun z => h1 z.1), List.append_nil])
  · rintro acc ρ ⟨pre, xs, e, er, rfl, rfl⟩
    have := map_nil' er
    subst this
    rw [List.append_nil] at e
    rw [← e]
    simp only [wpD_f, wpD_n, wpF, wpN, Bool.false_eq_true, if_false, if_true, ev0, List.zipWith_cons_cons, List.zipWith_nil_left, List.zipWith_nil_right, List.zipWith, List.replicate, List.length_cons, List.length_nil, Nat.reduceAdd, Nat.reduceSub, List.cons_append, List.nil_append, wpB, MW.wpS, wpc, wpcs, opd, wp, wps, wpo, wpa, wpp, bnd_some, bnd_none, bnd_if, bnd_map, bnd_bind, pk, rdv, setv, setc, getc, List.getElem?_cons_zero, List.getElem?_cons_succ, List.set_cons_zero, List.set_cons_succ, add_ii, add_ss, add_ll, add_tt, sub_ii, mul_ii, mul_si, mod_ii, fdiv_ii, pow_ii, shr_ii, and_ii, c_eq, c_ne, lt_ii, lt_ss, gt_ii, gt_ss, le_ii, ge_ii, in_l, in_t, in_s, nin_l, nin_t, nin_s, is_n, isn_n, is_bb, isn_bb, ix_l, ix_t, ix_s, sl_l, sl_t, sl_s, t_b, t_i, t_l, t_t, t_n, t_s, len_s, len_l, len_t, tup_l, tup_t, lst_l, lst_t, srt_l, sset_x, lset_x, ssetM, lsetM, all_l, any_l, int_b, int_i, repr_x, isi_x, revs_l, revs_s, trng_x, lrng_x, rep_x, cat_x, lst_s, ix_dk, dnew_x, as_d, key_i, key_s, enum_l, enum_t, srt_t, in_dk, nin_dk, len_dk, srt_dk, dpairs_l, find_x, findT, join_x, joinT, lt_l, lt_t, as_i, as_l, as_t, as_b, atA, atB, atC, atDd, atE, tn0, tn1, tn2, tn3, outsO, List.tail_cons, tgt, tgts, Option.bind_some, Option.map_some, Option.bind_none, Option.map_none, ownD, isTy, hG, argsIo, ioOk, List.all_cons, List.all_nil, Bool.and_true, Option.isSome_some, peekC, outsE, true_and, and_true, srcD, itemsD, turns, List.map_cons, List.map_nil, wipeE, backE, noOwn, Option.isNone_none, intsD_map]
    have l1 : (sel S c m.steps).length ≤ 256 := by
      have : (sel S c m.steps).length ≤ m.steps.length := by unfold sel; rw [List.length_map]; exact List.length_filter_le _ _
      omega
    refine ⟨?_, hR⟩
    simp only [Bool.and_eq_true, decide_eq_true_eq]
    exact ⟨by omega, by have := (beh_st hm S c).len; have := hm.m1; unfold beh at *; omega⟩
def spBW : MW.PT := fun ds R => ∃ m S w, ds = [dM m, intsT S, .str w] ∧ Mk m ∧ (∀ c ∈ w, c < 128) ∧ w.length ≤ 1000 ∧ R (intsT (behw m S w)) []
abbrev fBehind : Fn := ⟨[false, false, false], spBehind, false⟩
theorem ok_behind_word (Γ : Gm) (hB : Γ "behind" = some fBehind) (ds : List D) (R : D → List D → Prop) (h : spBW ds R) : wpD false Γ [false, false, false] 4 b_behind_word ds R := by
  obtain ⟨m, S, w, rfl, hm, hw, hl, hR⟩ := h
  have hG : True := trivial
  simp only [b_behind_word, wpD_f, wpD_n, wpF, wpN, Bool.false_eq_true, if_false, if_true, ev0, List.zipWith_cons_cons, List.zipWith_nil_left, List.zipWith_nil_right, List.zipWith, List.replicate, List.length_cons, List.length_nil, Nat.reduceAdd, Nat.reduceSub, List.cons_append, List.nil_append, wpB, MW.wpS, wpc, wpcs, opd, wp, wps, wpo, wpa, wpp, bnd_some, bnd_none, bnd_if, bnd_map, bnd_bind, pk, rdv, setv, setc, getc, List.getElem?_cons_zero, List.getElem?_cons_succ, List.set_cons_zero, List.set_cons_succ, add_ii, add_ss, add_ll, add_tt, sub_ii, mul_ii, mul_si, mod_ii, fdiv_ii, pow_ii, shr_ii, and_ii, c_eq, c_ne, lt_ii, lt_ss, gt_ii, gt_ss, le_ii, ge_ii, in_l, in_t, in_s, nin_l, nin_t, nin_s, is_n, isn_n, is_bb, isn_bb, ix_l, ix_t, ix_s, sl_l, sl_t, sl_s, t_b, t_i, t_l, t_t, t_n, t_s, len_s, len_l, len_t, tup_l, tup_t, lst_l, lst_t, srt_l, sset_x, lset_x, ssetM, lsetM, all_l, any_l, int_b, int_i, repr_x, isi_x, revs_l, revs_s, trng_x, lrng_x, rep_x, cat_x, lst_s, ix_dk, dnew_x, as_d, key_i, key_s, enum_l, enum_t, srt_t, in_dk, nin_dk, len_dk, srt_dk, dpairs_l, find_x, findT, join_x, joinT, lt_l, lt_t, as_i, as_l, as_t, as_b, atA, atB, atC, atDd, atE, tn0, tn1, tn2, tn3, outsO, List.tail_cons, tgt, tgts, Option.bind_some, Option.map_some, Option.bind_none, Option.map_none, ownD, isTy, hG, argsIo, ioOk, List.all_cons, List.all_nil, Bool.and_true, Option.isSome_some, peekC, outsE, true_and, and_true, srcD, itemsD, turns, List.map_cons, List.map_nil, wipeE, backE, noOwn, Option.isNone_none]
  refine forW_inv (fun rest ρ => ∃ (pre xs : List Nat) (x : Sl), w = pre ++ xs ∧ rest = xs.map (fun c => D.str [c]) ∧ fr x ∧ ρ = [.val (dM m), .val (intsT (behw m S pre)), .val (.str w), x]) ?_ ?_ _ _
    ⟨[], w, .no, rfl, rfl, .inl rfl, rfl⟩
  · rintro d rest ρ T ⟨pre, xs, x, e, er, hx, rfl⟩ hT
    obtain ⟨c, xs', rfl, rfl, rfl⟩ := map_step er
    have step : ∀ rt bk rn, wpB Γ b_behind_word_b1 { nx := T, rt := rt, bk := bk, rn := rn } [.val (dM m), .val (intsT (behw m S pre)), .val (.str w), .val (.str [c])] := by
      intro rt bk rn
      simp only [b_behind_word_b1, wpD_f, wpD_n, wpF, wpN, Bool.false_eq_true, if_false, if_true, ev0, List.zipWith_cons_cons, List.zipWith_nil_left, List.zipWith_nil_right, List.zipWith, List.replicate, List.length_cons, List.length_nil, Nat.reduceAdd, Nat.reduceSub, List.cons_append, List.nil_append, wpB, MW.wpS, wpc, wpcs, opd, wp, wps, wpo, wpa, wpp, bnd_some, bnd_none, bnd_if, bnd_map, bnd_bind, pk, rdv, setv, setc, getc, List.getElem?_cons_zero, List.getElem?_cons_succ, List.set_cons_zero, List.set_cons_succ, add_ii, add_ss, add_ll, add_tt, sub_ii, mul_ii, mul_si, mod_ii, fdiv_ii, pow_ii, shr_ii, and_ii, c_eq, c_ne, lt_ii, lt_ss, gt_ii, gt_ss, le_ii, ge_ii, in_l, in_t, in_s, nin_l, nin_t, nin_s, is_n, isn_n, is_bb, isn_bb, ix_l, ix_t, ix_s, sl_l, sl_t, sl_s, t_b, t_i, t_l, t_t, t_n, t_s, len_s, len_l, len_t, tup_l, tup_t, lst_l, lst_t, srt_l, sset_x, lset_x, ssetM, lsetM, all_l, any_l, int_b, int_i, repr_x, isi_x, revs_l, revs_s, trng_x, lrng_x, rep_x, cat_x, lst_s, ix_dk, dnew_x, as_d, key_i, key_s, enum_l, enum_t, srt_t, in_dk, nin_dk, len_dk, srt_dk, dpairs_l, find_x, findT, join_x, joinT, lt_l, lt_t, as_i, as_l, as_t, as_b, atA, atB, atC, atDd, atE, tn0, tn1, tn2, tn3, outsO, List.tail_cons, tgt, tgts, Option.bind_some, Option.map_some, Option.bind_none, Option.map_none, ownD, isTy, hG, argsIo, ioOk, List.all_cons, List.all_nil, Bool.and_true, Option.isSome_some, peekC, outsE, true_and, and_true, srcD, itemsD, turns, List.map_cons, List.map_nil, wipeE, backE, noOwn, Option.isNone_none, hB]
      refine ⟨by decide, m, _, c, rfl, hm, hw c (by rw [e]; simp), ?_⟩
      simp only [wpD_f, wpD_n, wpF, wpN, Bool.false_eq_true, if_false, if_true, ev0, List.zipWith_cons_cons, List.zipWith_nil_left, List.zipWith_nil_right, List.zipWith, List.replicate, List.length_cons, List.length_nil, Nat.reduceAdd, Nat.reduceSub, List.cons_append, List.nil_append, wpB, MW.wpS, wpc, wpcs, opd, wp, wps, wpo, wpa, wpp, bnd_some, bnd_none, bnd_if, bnd_map, bnd_bind, pk, rdv, setv, setc, getc, List.getElem?_cons_zero, List.getElem?_cons_succ, List.set_cons_zero, List.set_cons_succ, add_ii, add_ss, add_ll, add_tt, sub_ii, mul_ii, mul_si, mod_ii, fdiv_ii, pow_ii, shr_ii, and_ii, c_eq, c_ne, lt_ii, lt_ss, gt_ii, gt_ss, le_ii, ge_ii, in_l, in_t, in_s, nin_l, nin_t, nin_s, is_n, isn_n, is_bb, isn_bb, ix_l, ix_t, ix_s, sl_l, sl_t, sl_s, t_b, t_i, t_l, t_t, t_n, t_s, len_s, len_l, len_t, tup_l, tup_t, lst_l, lst_t, srt_l, sset_x, lset_x, ssetM, lsetM, all_l, any_l, int_b, int_i, repr_x, isi_x, revs_l, revs_s, trng_x, lrng_x, rep_x, cat_x, lst_s, ix_dk, dnew_x, as_d, key_i, key_s, enum_l, enum_t, srt_t, in_dk, nin_dk, len_dk, srt_dk, dpairs_l, find_x, findT, join_x, joinT, lt_l, lt_t, as_i, as_l, as_t, as_b, atA, atB, atC, atDd, atE, tn0, tn1, tn2, tn3, outsO, List.tail_cons, tgt, tgts, Option.bind_some, Option.map_some, Option.bind_none, Option.map_none, ownD, isTy, hG, argsIo, ioOk, List.all_cons, List.all_nil, Bool.and_true, Option.isSome_some, peekC, outsE, true_and, and_true, srcD, itemsD, turns, List.map_cons, List.map_nil, wipeE, backE, noOwn, Option.isNone_none]
      exact hT _ ⟨pre ++ [c], xs', _, by rw [e]; simp, rfl, .inr ⟨_, rfl⟩, by rw [behw_app]; rfl⟩
    rcases hx with rfl | ⟨d, rfl⟩
    · simp only [tgt, setv, List.getElem?_cons_zero, List.getElem?_cons_succ, List.set_cons_zero, List.set_cons_succ, bnd_some]
      exact step _ _ _
    · simp only [tgt, setv, List.getElem?_cons_zero, List.getElem?_cons_succ, List.set_cons_zero, List.set_cons_succ, bnd_some]
      exact step _ _ _
  · rintro ρ ⟨pre, xs, x, e, er, hx, rfl⟩
    have := map_nil' er
    subst this
    rw [List.append_nil] at e
    rw [← e]
    simp only [wpD_f, wpD_n, wpF, wpN, Bool.false_eq_true, if_false, if_true, ev0, List.zipWith_cons_cons, List.zipWith_nil_left, List.zipWith_nil_right, List.zipWith, List.replicate, List.length_cons, List.length_nil, Nat.reduceAdd, Nat.reduceSub, List.cons_append, List.nil_append, wpB, MW.wpS, wpc, wpcs, opd, wp, wps, wpo, wpa, wpp, bnd_some, bnd_none, bnd_if, bnd_map, bnd_bind, pk, rdv, setv, setc, getc, List.getElem?_cons_zero, List.getElem?_cons_succ, List.set_cons_zero, List.set_cons_succ, add_ii, add_ss, add_ll, add_tt, sub_ii, mul_ii, mul_si, mod_ii, fdiv_ii, pow_ii, shr_ii, and_ii, c_eq, c_ne, lt_ii, lt_ss, gt_ii, gt_ss, le_ii, ge_ii, in_l, in_t, in_s, nin_l, nin_t, nin_s, is_n, isn_n, is_bb, isn_bb, ix_l, ix_t, ix_s, sl_l, sl_t, sl_s, t_b, t_i, t_l, t_t, t_n, t_s, len_s, len_l, len_t, tup_l, tup_t, lst_l, lst_t, srt_l, sset_x, lset_x, ssetM, lsetM, all_l, any_l, int_b, int_i, repr_x, isi_x, revs_l, revs_s, trng_x, lrng_x, rep_x, cat_x, lst_s, ix_dk, dnew_x, as_d, key_i, key_s, enum_l, enum_t, srt_t, in_dk, nin_dk, len_dk, srt_dk, dpairs_l, find_x, findT, join_x, joinT, lt_l, lt_t, as_i, as_l, as_t, as_b, atA, atB, atC, atDd, atE, tn0, tn1, tn2, tn3, outsO, List.tail_cons, tgt, tgts, Option.bind_some, Option.map_some, Option.bind_none, Option.map_none, ownD, isTy, hG, argsIo, ioOk, List.all_cons, List.all_nil, Bool.and_true, Option.isSome_some, peekC, outsE, true_and, and_true, srcD, itemsD, turns, List.map_cons, List.map_nil, wipeE, backE, noOwn, Option.isNone_none]
    exact hR
def spTF : MW.PT := fun ds R => ∃ m S w, ds = [dM m, intsT S, .str w] ∧ Mk m ∧ St m.many S ∧ (∀ c ∈ w, c < 128) ∧ w.length ≤ 1000 ∧ R (.bool (tk m S w)) []
abbrev fBW : Fn := ⟨[false, false, false], spBW, false⟩
abbrev fTF : Fn := ⟨[false, false, false], spTF, false⟩
theorem ok_takes_from (Γ : Gm) (hB : Γ "behind_word" = some fBW) (ds : List D) (R : D → List D → Prop) (h : spTF ds R) : wpD false Γ [false, false, false] 4 b_takes_from ds R := by
  obtain ⟨m, S, w, rfl, hm, hS, hw, hl, hR⟩ := h
  have hG : True := trivial
  simp only [b_takes_from, wpD_f, wpD_n, wpF, wpN, Bool.false_eq_true, if_false, if_true, ev0, List.zipWith_cons_cons, List.zipWith_nil_left, List.zipWith_nil_right, List.zipWith, List.replicate, List.length_cons, List.length_nil, Nat.reduceAdd, Nat.reduceSub, List.cons_append, List.nil_append, wpB, MW.wpS, wpc, wpcs, opd, wp, wps, wpo, wpa, wpp, bnd_some, bnd_none, bnd_if, bnd_map, bnd_bind, pk, rdv, setv, setc, getc, List.getElem?_cons_zero, List.getElem?_cons_succ, List.set_cons_zero, List.set_cons_succ, add_ii, add_ss, add_ll, add_tt, sub_ii, mul_ii, mul_si, mod_ii, fdiv_ii, pow_ii, shr_ii, and_ii, c_eq, c_ne, lt_ii, lt_ss, gt_ii, gt_ss, le_ii, ge_ii, in_l, in_t, in_s, nin_l, nin_t, nin_s, is_n, isn_n, is_bb, isn_bb, ix_l, ix_t, ix_s, sl_l, sl_t, sl_s, t_b, t_i, t_l, t_t, t_n, t_s, len_s, len_l, len_t, tup_l, tup_t, lst_l, lst_t, srt_l, sset_x, lset_x, ssetM, lsetM, all_l, any_l, int_b, int_i, repr_x, isi_x, revs_l, revs_s, trng_x, lrng_x, rep_x, cat_x, lst_s, ix_dk, dnew_x, as_d, key_i, key_s, enum_l, enum_t, srt_t, in_dk, nin_dk, len_dk, srt_dk, dpairs_l, find_x, findT, join_x, joinT, lt_l, lt_t, as_i, as_l, as_t, as_b, atA, atB, atC, atDd, atE, tn0, tn1, tn2, tn3, outsO, List.tail_cons, tgt, tgts, Option.bind_some, Option.map_some, Option.bind_none, Option.map_none, ownD, isTy, hG, argsIo, ioOk, List.all_cons, List.all_nil, Bool.and_true, Option.isSome_some, peekC, outsE, true_and, and_true, srcD, itemsD, turns, List.map_cons, List.map_nil, wipeE, backE, noOwn, Option.isNone_none, hB]
  refine ⟨by decide, m, S, w, rfl, hm, hw, hl, ?_⟩
  simp only [wpD_f, wpD_n, wpF, wpN, Bool.false_eq_true, if_false, if_true, ev0, List.zipWith_cons_cons, List.zipWith_nil_left, List.zipWith_nil_right, List.zipWith, List.replicate, List.length_cons, List.length_nil, Nat.reduceAdd, Nat.reduceSub, List.cons_append, List.nil_append, wpB, MW.wpS, wpc, wpcs, opd, wp, wps, wpo, wpa, wpp, bnd_some, bnd_none, bnd_if, bnd_map, bnd_bind, pk, rdv, setv, setc, getc, List.getElem?_cons_zero, List.getElem?_cons_succ, List.set_cons_zero, List.set_cons_succ, add_ii, add_ss, add_ll, add_tt, sub_ii, mul_ii, mul_si, mod_ii, fdiv_ii, pow_ii, shr_ii, and_ii, c_eq, c_ne, lt_ii, lt_ss, gt_ii, gt_ss, le_ii, ge_ii, in_l, in_t, in_s, nin_l, nin_t, nin_s, is_n, isn_n, is_bb, isn_bb, ix_l, ix_t, ix_s, sl_l, sl_t, sl_s, t_b, t_i, t_l, t_t, t_n, t_s, len_s, len_l, len_t, tup_l, tup_t, lst_l, lst_t, srt_l, sset_x, lset_x, ssetM, lsetM, all_l, any_l, int_b, int_i, repr_x, isi_x, revs_l, revs_s, trng_x, lrng_x, rep_x, cat_x, lst_s, ix_dk, dnew_x, as_d, key_i, key_s, enum_l, enum_t, srt_t, in_dk, nin_dk, len_dk, srt_dk, dpairs_l, find_x, findT, join_x, joinT, lt_l, lt_t, as_i, as_l, as_t, as_b, atA, atB, atC, atDd, atE, tn0, tn1, tn2, tn3, outsO, List.tail_cons, tgt, tgts, Option.bind_some, Option.map_some, Option.bind_none, Option.map_none, ownD, isTy, hG, argsIo, ioOk, List.all_cons, List.all_nil, Bool.and_true, Option.isSome_some, peekC, outsE, true_and, and_true, srcD, itemsD, turns, List.map_cons, List.map_nil, wipeE, backE, noOwn, Option.isNone_none, intsT]
  have hb := (behw_st hm w S hS).len
  have hm1 := hm.m1
  refine turns_inv (fun rest acc ρ => ∃ (pre xs : List Int), behw m S w = pre ++ xs ∧ rest = xs.map .int ∧ acc = (pre.map fun k => decide (k ∈ m.ends)).map .bool ∧ ρ = [.val (dM m), .val (.tuple (S.map .int)), .val (.str w), .no]) ?_ ?_ _ _ _
    ⟨[], _, rfl, rfl, rfl, rfl⟩
  · rintro d rest acc ρ T ⟨pre, xs, e, er, rfl, rfl⟩ hT
    obtain ⟨c, xs', rfl, rfl, rfl⟩ := map_step er
    have ll : (behw m S w).length = pre.length + (xs'.length + 1) := by rw [e]; simp
    simp only [b_takes_from_e1, dM, intsT, wpD_f, wpD_n, wpF, wpN, Bool.false_eq_true, if_false, if_true, ev0, List.zipWith_cons_cons, List.zipWith_nil_left, List.zipWith_nil_right, List.zipWith, List.replicate, List.length_cons, List.length_nil, Nat.reduceAdd, Nat.reduceSub, List.cons_append, List.nil_append, wpB, MW.wpS, wpc, wpcs, opd, wp, wps, wpo, wpa, wpp, bnd_some, bnd_none, bnd_if, bnd_map, bnd_bind, pk, rdv, setv, setc, getc, List.getElem?_cons_zero, List.getElem?_cons_succ, List.set_cons_zero, List.set_cons_succ, add_ii, add_ss, add_ll, add_tt, sub_ii, mul_ii, mul_si, mod_ii, fdiv_ii, pow_ii, shr_ii, and_ii, c_eq, c_ne, lt_ii, lt_ss, gt_ii, gt_ss, le_ii, ge_ii, in_l, in_t, in_s, nin_l, nin_t, nin_s, is_n, isn_n, is_bb, isn_bb, ix_l, ix_t, ix_s, sl_l, sl_t, sl_s, t_b, t_i, t_l, t_t, t_n, t_s, len_s, len_l, len_t, tup_l, tup_t, lst_l, lst_t, srt_l, sset_x, lset_x, ssetM, lsetM, all_l, any_l, int_b, int_i, repr_x, isi_x, revs_l, revs_s, trng_x, lrng_x, rep_x, cat_x, lst_s, ix_dk, dnew_x, as_d, key_i, key_s, enum_l, enum_t, srt_t, in_dk, nin_dk, len_dk, srt_dk, dpairs_l, find_x, findT, join_x, joinT, lt_l, lt_t, as_i, as_l, as_t, as_b, atA, atB, atC, atDd, atE, tn0, tn1, tn2, tn3, outsO, List.tail_cons, tgt, tgts, Option.bind_some, Option.map_some, Option.bind_none, Option.map_none, ownD, isTy, hG, argsIo, ioOk, List.all_cons, List.all_nil, Bool.and_true, Option.isSome_some, peekC, outsE, true_and, and_true, srcD, itemsD, turns, List.map_cons, List.map_nil, wipeE, backE, noOwn, Option.isNone_none, shp_i, shp_ints, Bool.and_self, in_ints]
    refine ⟨siz_of (by rw [List.length_map, List.length_map]; omega), ?_⟩
    exact hT _ _ ⟨pre ++ [c], xs', by rw [e]; simp, rfl, by simp, rfl⟩
  · rintro acc ρ ⟨pre, xs, e, er, rfl, rfl⟩
    have := map_nil' er
    subst this
    rw [List.append_nil] at e
    rw [← e]
    simp only [wpD_f, wpD_n, wpF, wpN, Bool.false_eq_true, if_false, if_true, ev0, List.zipWith_cons_cons, List.zipWith_nil_left, List.zipWith_nil_right, List.zipWith, List.replicate, List.length_cons, List.length_nil, Nat.reduceAdd, Nat.reduceSub, List.cons_append, List.nil_append, wpB, MW.wpS, wpc, wpcs, opd, wp, wps, wpo, wpa, wpp, bnd_some, bnd_none, bnd_if, bnd_map, bnd_bind, pk, rdv, setv, setc, getc, List.getElem?_cons_zero, List.getElem?_cons_succ, List.set_cons_zero, List.set_cons_succ, add_ii, add_ss, add_ll, add_tt, sub_ii, mul_ii, mul_si, mod_ii, fdiv_ii, pow_ii, shr_ii, and_ii, c_eq, c_ne, lt_ii, lt_ss, gt_ii, gt_ss, le_ii, ge_ii, in_l, in_t, in_s, nin_l, nin_t, nin_s, is_n, isn_n, is_bb, isn_bb, ix_l, ix_t, ix_s, sl_l, sl_t, sl_s, t_b, t_i, t_l, t_t, t_n, t_s, len_s, len_l, len_t, tup_l, tup_t, lst_l, lst_t, srt_l, sset_x, lset_x, ssetM, lsetM, all_l, any_l, int_b, int_i, repr_x, isi_x, revs_l, revs_s, trng_x, lrng_x, rep_x, cat_x, lst_s, ix_dk, dnew_x, as_d, key_i, key_s, enum_l, enum_t, srt_t, in_dk, nin_dk, len_dk, srt_dk, dpairs_l, find_x, findT, join_x, joinT, lt_l, lt_t, as_i, as_l, as_t, as_b, atA, atB, atC, atDd, atE, tn0, tn1, tn2, tn3, outsO, List.tail_cons, tgt, tgts, Option.bind_some, Option.map_some, Option.bind_none, Option.map_none, ownD, isTy, hG, argsIo, ioOk, List.all_cons, List.all_nil, Bool.and_true, Option.isSome_some, peekC, outsE, true_and, and_true, srcD, itemsD, turns, List.map_cons, List.map_nil, wipeE, backE, noOwn, Option.isNone_none, boolsD_map, List.any_map]
    exact hR
def spTk : MW.PT := fun ds R => ∃ m w, ds = [dM m, .str w] ∧ Mk m ∧ (∀ c ∈ w, c < 128) ∧ w.length ≤ 1000 ∧ R (.bool (tk m m.begins w)) []
theorem ok_takes (Γ : Gm) (hB : Γ "takes_from" = some fTF) (ds : List D) (R : D → List D → Prop) (h : spTk ds R) : wpD false Γ [false, false] 2 b_takes ds R := by
  obtain ⟨m, w, rfl, hm, hw, hl, hR⟩ := h
  have hG : True := trivial
  simp only [b_takes, dM, wpD_f, wpD_n, wpF, wpN, Bool.false_eq_true, if_false, if_true, ev0, List.zipWith_cons_cons, List.zipWith_nil_left, List.zipWith_nil_right, List.zipWith, List.replicate, List.length_cons, List.length_nil, Nat.reduceAdd, Nat.reduceSub, List.cons_append, List.nil_append, wpB, MW.wpS, wpc, wpcs, opd, wp, wps, wpo, wpa, wpp, bnd_some, bnd_none, bnd_if, bnd_map, bnd_bind, pk, rdv, setv, setc, getc, List.getElem?_cons_zero, List.getElem?_cons_succ, List.set_cons_zero, List.set_cons_succ, add_ii, add_ss, add_ll, add_tt, sub_ii, mul_ii, mul_si, mod_ii, fdiv_ii, pow_ii, shr_ii, and_ii, c_eq, c_ne, lt_ii, lt_ss, gt_ii, gt_ss, le_ii, ge_ii, in_l, in_t, in_s, nin_l, nin_t, nin_s, is_n, isn_n, is_bb, isn_bb, ix_l, ix_t, ix_s, sl_l, sl_t, sl_s, t_b, t_i, t_l, t_t, t_n, t_s, len_s, len_l, len_t, tup_l, tup_t, lst_l, lst_t, srt_l, sset_x, lset_x, ssetM, lsetM, all_l, any_l, int_b, int_i, repr_x, isi_x, revs_l, revs_s, trng_x, lrng_x, rep_x, cat_x, lst_s, ix_dk, dnew_x, as_d, key_i, key_s, enum_l, enum_t, srt_t, in_dk, nin_dk, len_dk, srt_dk, dpairs_l, find_x, findT, join_x, joinT, lt_l, lt_t, as_i, as_l, as_t, as_b, atA, atB, atC, atDd, atE, tn0, tn1, tn2, tn3, outsO, List.tail_cons, tgt, tgts, Option.bind_some, Option.map_some, Option.bind_none, Option.map_none, ownD, isTy, hG, argsIo, ioOk, List.all_cons, List.all_nil, Bool.and_true, Option.isSome_some, peekC, outsE, true_and, and_true, srcD, itemsD, turns, List.map_cons, List.map_nil, wipeE, backE, noOwn, Option.isNone_none, hB]
  exact ⟨by decide, m, m.begins, w, rfl, hm, hm.b, hw, hl, hR⟩
end MH

set_option Elab.async false
set_option linter.all false
set_option maxRecDepth 100000
set_option maxHeartbeats 0
namespace MH
open PySem MW
/-! ### lists of steps, sorted -/
instance (a b : Stp) : Decidable (lt3 a b) := by unfold lt3; infer_instance
theorem single_lt (x y : Nat) : ([x] < [y]) ↔ x < y := by
  rw [List.cons_lt_cons_iff]; simp
theorem lt_dS (a b : Stp) : PySem.W.dataLt (py (dS a)) (py (dS b)) = decide (lt3 a b) := by
  unfold dS
  rw [dlt_t, dlts_i, dlts_s, dlts_i, dlts_nil, Bool.eq_iff_iff]
  simp only [Bool.or_eq_true, Bool.and_eq_true, decide_eq_true_eq, Bool.false_eq_true, and_false, or_false, single_lt, List.cons.injEq, and_true]
  rfl
def le3 (a b : Stp) : Bool := decide (¬ lt3 b a)
theorem le_dS (a b : Stp) : leD (dS a) (dS b) = le3 a b := by
  unfold leD le3
  rw [lt_dS]
  by_cases h : lt3 b a <;> simp [h]
def srt (l : List Stp) : List Stp := l.mergeSort le3
theorem sort_dS (l : List Stp) : (l.map dS).mergeSort leD = (srt l).map dS := (List.map_mergeSort fun a _ b _ => (le_dS a b).symm).symm
theorem alike_dS (a b : Stp) : PySem.W.alike (py (dS a)) (py (dS b)) = true := rfl
theorem shp_dS (a : Stp) : shp 60 (dS a) = true := rfl
theorem sortable_dS (l : List Stp) : sortable (l.map dS) = true := by
  unfold sortable
  simp only [Bool.and_eq_true, Bool.or_eq_true]
  refine ⟨⟨?_, ?_⟩, .inl ?_⟩
  · rw [List.all_eq_true]
    intro x hx
    obtain ⟨a, _, rfl⟩ := List.mem_map.mp hx
    rw [List.all_eq_true]
    intro y hy
    obtain ⟨b, _, rfl⟩ := List.mem_map.mp hy
    exact alike_dS a b
  · rw [List.all_eq_true]
    intro x hx
    obtain ⟨a, _, rfl⟩ := List.mem_map.mp hx
    rfl
  · rw [List.all_eq_true]
    intro x hx
    obtain ⟨a, _, rfl⟩ := List.mem_map.mp hx
    rfl
theorem lt3_irrefl (a : Stp) : ¬ lt3 a a := by unfold lt3; omega
theorem lt3_trans {a b c : Stp} (h : lt3 a b) (q : lt3 b c) : lt3 a c := by unfold lt3 at *; omega
theorem lt3_tri (a b : Stp) : lt3 a b ∨ a = b ∨ lt3 b a := by
  obtain ⟨a1, a2, a3⟩ := a
  obtain ⟨b1, b2, b3⟩ := b
  unfold lt3
  simp only [Prod.mk.injEq]
  omega
theorem srt_perm (l : List Stp) : (srt l).Perm l := List.mergeSort_perm _ _
theorem mem_srt {l : List Stp} {x : Stp} : x ∈ srt l ↔ x ∈ l := (srt_perm l).mem_iff
theorem srt_len (l : List Stp) : (srt l).length = l.length := List.length_mergeSort _
theorem srt_pw (l : List Stp) : (srt l).Pairwise fun a b => ¬ lt3 b a := by
  have := List.pairwise_mergeSort (le := le3) (fun a b c h q => by
    simp only [le3, decide_eq_true_eq] at *
    intro z
    rcases lt3_tri a b with e | e | e
    · rcases lt3_tri b c with f | f | f
      · exact lt3_irrefl _ (lt3_trans (lt3_trans e f) z)
      · subst f; exact h z
      · exact q f
    · subst e; exact q z
    · exact h e) (fun a b => by
    simp only [le3, Bool.or_eq_true, decide_eq_true_eq]
    by_cases z : lt3 b a
    · right; intro y; exact lt3_irrefl _ (lt3_trans z y)
    · exact .inl z) l
  exact this.imp fun {a b} h => by simpa [le3] using h
theorem srt_ris {l : List Stp} (nd : l.Nodup) : (srt l).Pairwise lt3 := by
  have h1 := srt_pw l
  have h2 : (srt l).Nodup := (srt_perm l).nodup_iff.mpr nd
  refine (h1.and h2).imp fun {a b} ⟨p, q⟩ => ?_
  rcases lt3_tri a b with e | e | e
  · exact e
  · exact absurd e q
  · exact absurd e p
theorem ris3_nodup {l : List Stp} (h : l.Pairwise lt3) : l.Nodup := h.imp fun {a b} q e => by subst e; exact lt3_irrefl _ q
/-- two rising lists of the same members -/
theorem ris3_ext : ∀ {a b : List Stp}, a.Pairwise lt3 → b.Pairwise lt3 → (∀ x, x ∈ a ↔ x ∈ b) → a = b
  | [], [], _, _, _ => rfl
  | [], y :: b, _, _, h => by have := (h y).mpr List.mem_cons_self; cases this
  | x :: a, [], _, _, h => by have := (h x).mp List.mem_cons_self; cases this
  | x :: a, y :: b, ha, hb, h => by
    obtain ⟨a1, a2⟩ := List.pairwise_cons.mp ha
    obtain ⟨b1, b2⟩ := List.pairwise_cons.mp hb
    have e : x = y := by
      rcases List.mem_cons.mp ((h x).mp List.mem_cons_self) with q | q
      · exact q
      · rcases List.mem_cons.mp ((h y).mpr List.mem_cons_self) with z | z
        · exact z.symm
        · exact absurd (lt3_trans (a1 y z) (b1 x q)) (lt3_irrefl _)
    subst e
    rw [ris3_ext a2 b2 fun z => ?_]
    constructor
    · intro hz
      rcases List.mem_cons.mp ((h z).mp (List.mem_cons_of_mem _ hz)) with q | q
      · subst q; exact absurd (a1 z hz) (lt3_irrefl _)
      · exact q
    · intro hz
      rcases List.mem_cons.mp ((h z).mpr (List.mem_cons_of_mem _ hz)) with q | q
      · subst q; exact absurd (b1 z hz) (lt3_irrefl _)
      · exact q
/-- two rising lists of ints of the same members -/
theorem ris_ext : ∀ {a b : List Int}, Ris a → Ris b → (∀ x, x ∈ a ↔ x ∈ b) → a = b
  | [], [], _, _, _ => rfl
  | [], y :: b, _, _, h => by have := (h y).mpr List.mem_cons_self; cases this
  | x :: a, [], _, _, h => by have := (h x).mp List.mem_cons_self; cases this
  | x :: a, y :: b, ha, hb, h => by
    obtain ⟨a1, a2⟩ := List.pairwise_cons.mp ha
    obtain ⟨b1, b2⟩ := List.pairwise_cons.mp hb
    have e : x = y := by
      rcases List.mem_cons.mp ((h x).mp List.mem_cons_self) with q | q
      · exact q
      · rcases List.mem_cons.mp ((h y).mpr List.mem_cons_self) with z | z
        · exact z.symm
        · have := a1 y z; have := b1 x q; omega
    subst e
    rw [ris_ext a2 b2 fun z => ?_]
    constructor
    · intro hz
      rcases List.mem_cons.mp ((h z).mp (List.mem_cons_of_mem _ hz)) with q | q
      · have := a1 z hz; omega
      · exact q
    · intro hz
      rcases List.mem_cons.mp ((h z).mpr (List.mem_cons_of_mem _ hz)) with q | q
      · have := b1 z hz; omega
      · exact q
/-! ### ways along steps -/
def Way (l : List Stp) : Int → List Nat → Int → Prop
  | s, [], x => s = x
  | s, c :: w, x => ∃ y, (s, c, y) ∈ l ∧ Way l y w x
theorem way_snoc {l : List Stp} : ∀ (w : List Nat) (s x : Int) (c : Nat), Way l s (w ++ [c]) x ↔ ∃ y, Way l s w y ∧ (y, c, x) ∈ l
  | [], s, x, c => by
    simp only [List.nil_append, Way]
    constructor
    · rintro ⟨y, h, rfl⟩; exact ⟨s, rfl, h⟩
    · rintro ⟨y, rfl, h⟩; exact ⟨x, h, rfl⟩
  | d :: w, s, x, c => by
    simp only [List.cons_append, Way, way_snoc w]
    constructor
    · rintro ⟨y, h, z, h2, h3⟩; exact ⟨z, ⟨y, h, h2⟩, h3⟩
    · rintro ⟨z, ⟨y, h, h2⟩, h3⟩; exact ⟨y, h, z, h2, h3⟩
theorem mem_behw {m : Mac} : ∀ (w : List Nat) (S : List Int) (x : Int), x ∈ behw m S w ↔ ∃ s ∈ S, Way m.steps s w x
  | [], S, x => by
    show x ∈ S ↔ _
    simp only [Way]
    constructor
    · intro h; exact ⟨x, h, rfl⟩
    · rintro ⟨s, h, rfl⟩; exact h
  | c :: w, S, x => by
    show x ∈ behw m (beh m S c) w ↔ _
    rw [mem_behw w]
    simp only [mem_beh, Way]
    constructor
    · rintro ⟨y, ⟨⟨s1, s2, s3⟩, h1, rfl, h3, rfl⟩, h⟩; exact ⟨s1, h3, s3, h1, h⟩
    · rintro ⟨s, hs, y, h1, h2⟩; exact ⟨y, ⟨(s, c, y), h1, rfl, hs, rfl⟩, h2⟩
theorem tk_iff {m : Mac} {S : List Int} {w : List Nat} : tk m S w = true ↔ ∃ s ∈ S, ∃ x ∈ m.ends, Way m.steps s w x := by
  unfold tk
  simp only [List.any_eq_true, decide_eq_true_eq, mem_behw]
  constructor
  · rintro ⟨x, ⟨s, h1, h2⟩, h3⟩; exact ⟨s, h1, x, h3, h2⟩
  · rintro ⟨s, h1, x, h3, h2⟩; exact ⟨x, ⟨s, h1, h2⟩, h3⟩
/-! ### repr of machines -/
theorem shp_dM (m : Mac) : shp 60 (dM m) = true := by
  show ([D.str m.sg, .int m.many, intsT m.begins, intsT m.ends, .tuple (m.steps.map dS)].all (shp 59)) = true
  have h1 : ∀ l : List Int, shp 59 (intsT l) = true := fun l => by
    show (l.map D.int).all (shp 58) = true
    simp [shp]
  have h2 : shp 59 (.tuple (m.steps.map dS)) = true := by
    show (m.steps.map dS).all (shp 58) = true
    rw [List.all_eq_true]
    intro x hx
    obtain ⟨a, _, rfl⟩ := List.mem_map.mp hx
    rfl
  simp only [List.all_cons, List.all_nil, h1, h2, Bool.and_true]
  rfl
theorem tame_int {k : Int} (h : 0 ≤ k ∧ k < 1000000) : tame (.int k) = true := by
  have := tame_ints (l := [k]) fun x hx => by rw [List.mem_singleton] at hx; rw [hx]; exact h
  simpa [tames] using this
/-- a machine whose steps may stand in any order -/
structure Mq (m : Mac) : Prop where
  sg : Sg m.sg
  m0 : 0 < m.many
  m1 : m.many ≤ 8
  b : St m.many m.begins
  e : St m.many m.ends
  s : ∀ s ∈ m.steps, SOk m.sg m.many s
  l : m.steps.length ≤ 256
theorem Mk.q {m : Mac} (h : Mk m) : Mq m := ⟨h.sg, h.m0, h.m1, h.b, h.e, h.s.m, h.s.l⟩
theorem shw_q {m : Mac} (h : Mq m) : shwD (dM m) = true := by
  have m1 := h.m1
  have m0 := h.m0
  have si : ∀ {l : List Int}, St m.many l → tames (l.map .int) = true ∧ buls (l.map .int) ≤ 8 := fun {l} q =>
    ⟨tame_ints fun k hk => by have := q.b k hk; omega, Nat.le_trans (buls_ints l) (by have := q.len; omega)⟩
  have ss : tames (m.steps.map dS) = true ∧ buls (m.steps.map dS) ≤ 256 * 5 := by
    constructor
    · rw [tames_iff]
      intro d hd
      obtain ⟨s, hs, rfl⟩ := List.mem_map.mp hd
      have q := h.s s hs
      have qc := h.sg.lt _ q.c
      simp only [dS, tame, tames, Bool.and_true, Bool.and_eq_true]
      refine ⟨?_, ?_, ?_⟩
      · have := tame_int (k := s.1) (by have := q.a; omega); simpa [tame] using this
      · simp; omega
      · have := tame_int (k := s.2.2) (by have := q.b; omega); simpa [tame] using this
    · have := buls_le (m.steps.map dS) 4 fun d hd => by
        obtain ⟨s, hs, rfl⟩ := List.mem_map.mp hd
        simp [dS, bul, buls]
      rw [List.length_map] at this
      exact Nat.le_trans this (Nat.mul_le_mul_right _ h.l)
  refine shwD_of (shp_dM m) ?_ ?_
  · simp only [dM, intsT, tame, tames, Bool.and_true, Bool.and_eq_true]
    refine ⟨?_, ?_, (si h.b).1, (si h.e).1, ss.1⟩
    · rw [List.all_eq_true]
      intro c hc
      have := h.sg.lt c hc
      simp; omega
    · have := tame_int (k := m.many) (by omega); simpa [tame] using this
  · have := (si h.b).2
    have := (si h.e).2
    have := ss.2
    have := h.sg.l1
    simp only [dM, intsT, bul, buls]
    omega
theorem shw_dM {m : Mac} (h : Mk m) : shwD (dM m) = true := shw_q h.q
end MH

set_option Elab.async false
set_option linter.all false
set_option maxRecDepth 100000
set_option maxHeartbeats 0
namespace MH
open PySem MW
/-! ### each once, by an encoding -/
def onceL {α : Type} [DecidableEq α] : List α → List α
  | [] => []
  | x :: xs => x :: (onceL xs).filter fun y => !decide (y = x)
section
variable {α : Type} [DecidableEq α]
theorem mem_onceL {y : α} : ∀ {l : List α}, y ∈ onceL l ↔ y ∈ l
  | [] => by simp [onceL]
  | x :: xs => by
    simp only [onceL, List.mem_cons, List.mem_filter, mem_onceL (l := xs)]
    by_cases h : y = x
    · simp [h]
    · simp [h]
theorem nodup_onceL : ∀ l : List α, (onceL l).Nodup
  | [] => by simp [onceL]
  | x :: xs => by
    simp only [onceL]
    refine List.nodup_cons.mpr ⟨fun h => ?_, (nodup_onceL xs).filter _⟩
    have := (List.mem_filter.mp h).2
    simp at this
theorem onceL_le (l : List α) : (onceL l).length ≤ l.length := nodup_len (nodup_onceL l) fun x hx => mem_onceL.mp hx
/-- nothing twice, just where nothing is lost -/
theorem onceL_nodup {l : List α} (h : (onceL l).length = l.length) : l.Nodup := by
  induction l with
  | nil => exact List.nodup_nil
  | cons x xs ih =>
    have h1 := onceL_le xs
    have h2 : ((onceL xs).filter fun y => !decide (y = x)).length ≤ (onceL xs).length := List.length_filter_le _ _
    simp only [onceL, List.length_cons] at h
    have e : (onceL xs).length = xs.length := by omega
    refine List.nodup_cons.mpr ⟨fun z => ?_, ih e⟩
    have e2 : ((onceL xs).filter fun y => !decide (y = x)).length = (onceL xs).length := by omega
    rw [List.length_filter_eq_length_iff] at e2
    have := e2 x (mem_onceL.mpr z)
    simp at this
theorem onceL_self {l : List α} (h : l.Nodup) : (onceL l).length = l.length := by
  have h1 := onceL_le l
  have h2 := nodup_len h (m := onceL l) fun x hx => mem_onceL.mpr hx
  omega
theorem onceD_map {f : α → D} (h : ∀ a b, eqD (f a) (f b) = decide (a = b)) : ∀ l : List α, onceD (l.map f) = (onceL l).map f
  | [] => rfl
  | x :: xs => by
    simp only [List.map_cons, onceD, onceL, onceD_map h xs, List.filter_map]
    congr 2
    apply List.filter_congr
    intro y _
    simp [h]
theorem sameD_refl : ∀ (k : Nat) (d : D), shp k d = true → sameD d d = true
  | 0, d, h => by cases d <;> simp [shp] at h
  | k + 1, .none, _ => rfl
  | k + 1, .bool b, _ => by simp [sameD]
  | k + 1, .int i, _ => by simp [sameD]
  | k + 1, .str x, _ => by simp [sameD]
  | k + 1, .list ds, h => by
    simp only [sameD]
    exact all ds (by simpa only [shp] using h)
  | k + 1, .tuple ds, h => by
    simp only [sameD]
    exact all ds (by simpa only [shp] using h)
  | k + 1, .dict _ _, h => by simp [shp] at h
where
  all {k : Nat} : ∀ ds : List D, ds.all (shp k) = true → sameDs ds ds = true
  | [], _ => rfl
  | d :: ds, h => by
    rw [List.all_cons, Bool.and_eq_true] at h
    simp only [sameDs, sameD_refl k d h.1, all ds h.2, Bool.and_self]
theorem uniq_map {f : α → D} (h : ∀ a b, eqD (f a) (f b) = decide (a = b)) (s : ∀ a, shp 60 (f a) = true) (l : List α) : uniqD (l.map f) = true := by
  unfold uniqD
  rw [List.all_eq_true]
  intro x hx
  rw [List.all_eq_true]
  intro y hy
  obtain ⟨a, _, rfl⟩ := List.mem_map.mp hx
  obtain ⟨b, _, rfl⟩ := List.mem_map.mp hy
  rw [h]
  by_cases e : a = b
  · subst e; rw [sameD_refl 60 _ (s a)]; simp
  · simp [e]
theorem few_map {f : α → D} (h : ∀ a b, eqD (f a) (f b) = decide (a = b)) (t : ∀ a, tupK (f a) = true) {l : List α} (hl : l.length < 4000) (ho : (onceL l).length ≤ 76) : fewT (l.map f) = true := by
  unfold fewT
  rw [Bool.and_eq_true, Bool.and_eq_true]
  refine ⟨⟨?_, ?_⟩, ?_⟩
  · rw [List.all_eq_true]
    intro x hx
    obtain ⟨a, _, rfl⟩ := List.mem_map.mp hx
    exact t a
  · rw [List.length_map]; exact decide_eq_true hl
  · rw [onceD_map h, List.length_map]; exact decide_eq_true ho
theorem lset_map {f : α → D} (h : ∀ a b, eqD (f a) (f b) = decide (a = b)) (t : ∀ a, tupK (f a) = true) {l : List α} (hl : l.length < 4000) (ho : (onceL l).length ≤ 76) : lsetD (l.map f) = some (.int (onceL l).length) := by
  cases l with
  | nil => rfl
  | cons a l =>
    have q := few_map h t hl ho
    have e := onceD_map h (a :: l)
    rw [List.map_cons] at q e ⊢
    rw [lsetT (fun i z => by have := t a; rw [z] at this; cases this), if_pos q, e, List.length_map]
end
/-! ### steps -/
theorem eqS (a b : Stp) : eqD (dS a) (dS b) = decide (a = b) := by
  obtain ⟨a1, a2, a3⟩ := a
  obtain ⟨b1, b2, b3⟩ := b
  show ((a1 == b1) && (([a2] == [b2]) && ((a3 == b3) && true))) = _
  rw [Bool.eq_iff_iff]
  simp only [Bool.and_eq_true, beq_iff_eq, decide_eq_true_eq, Prod.mk.injEq, List.cons.injEq, and_true]
theorem tupS (a : Stp) : tupK (dS a) = true := rfl
theorem shpSs (l : List Stp) : shp 60 (.tuple (l.map dS)) = true := by
  show (l.map dS).all (shp 59) = true
  rw [List.all_eq_true]
  intro x hx
  obtain ⟨a, _, rfl⟩ := List.mem_map.mp hx
  rfl
theorem inSs (a : Stp) : ∀ l : List Stp, inD (dS a) (l.map dS) = decide (a ∈ l)
  | [] => rfl
  | b :: l => by
    have ih := inSs a l
    unfold inD at ih ⊢
    rw [List.map_cons, List.any_cons, ih, eqS, Bool.eq_iff_iff, Bool.or_eq_true, decide_eq_true_eq, decide_eq_true_eq, decide_eq_true_eq, List.mem_cons]
    constructor
    · rintro (h | h)
      · exact .inl h.symm
      · exact .inr h
    · rintro (h | h)
      · exact .inl h.symm
      · exact .inr h
/-- a set of steps, rising -/
def sets (l : List Stp) : List Stp := srt (onceL l)
theorem mem_sets {l : List Stp} {x : Stp} : x ∈ sets l ↔ x ∈ l := by unfold sets; rw [mem_srt, mem_onceL]
theorem sets_ris (l : List Stp) : (sets l).Pairwise lt3 := srt_ris (nodup_onceL l)
theorem sets_len (l : List Stp) : (sets l).length ≤ l.length := by unfold sets; rw [srt_len]; exact onceL_le l
theorem sset_dS {l : List Stp} (hl : l.length < 4000) (ho : (onceL l).length ≤ 76) : ssetD (l.map dS) = some (.list ((sets l).map dS)) := by
  cases l with
  | nil =>
    unfold sets srt
    rw [show onceL ([] : List Stp) = [] from rfl, List.mergeSort_nil]
    rfl
  | cons a l =>
    have q := few_map eqS tupS hl ho
    have u := uniq_map eqS shp_dS (a :: l)
    have s := sortable_dS (a :: l)
    have e := onceD_map eqS (a :: l)
    rw [List.map_cons] at q u s e ⊢
    rw [ssetT (fun i z => by cases z)]
    unfold tset
    rw [q, s, u, e, sort_dS]
    rfl
/-! ### comprehensions that only compute, whatever their names -/
theorem fm_turnsG {α : Type} {t : Tg} {f g : α → D} {p : α → Bool} {c : WPC} {e : WP} {ws : List Nat} {ρ : Evn} {Q : List D → Evn → Prop} (E : α → Evn) (xs : List α) (hl : xs.length ≤ 1000000)
    (ht : ∀ x ∈ xs, ∀ P : Evn → Prop, P (E x) → tgt t (f x) ρ P) (hw : ∀ x ∈ xs, wipeE (E x) ws = ρ)
    (hc : ∀ x ∈ xs, ∀ P : Bool → Evn → Prop, P (p x) (E x) → c (E x) P)
    (he : ∀ x ∈ xs, p x = true → ∀ P : D → Evn → Prop, P (g x) (E x) → e (E x) P) (hQ : Q ((xs.filter p).map g) ρ) : turns t c e ws (xs.map f) [] ρ Q := by
  have key : ∀ (xs : List α) (acc : List D), acc.length + xs.length ≤ 1000000 → (∀ x ∈ xs, ∀ P : Evn → Prop, P (E x) → tgt t (f x) ρ P) → (∀ x ∈ xs, wipeE (E x) ws = ρ) →
      (∀ x ∈ xs, ∀ P : Bool → Evn → Prop, P (p x) (E x) → c (E x) P) → (∀ x ∈ xs, p x = true → ∀ P : D → Evn → Prop, P (g x) (E x) → e (E x) P) → Q (acc ++ (xs.filter p).map g) ρ → turns t c e ws (xs.map f) acc ρ Q := by
    intro xs
    induction xs with
    | nil => intro acc _ _ _ _ _ hQ; simpa [turns] using hQ
    | cons x xs ih =>
      intro acc hl ht hw hc he hQ
      rw [List.length_cons] at hl
      rw [List.map_cons]
      unfold turns
      refine ht x List.mem_cons_self _ (hc x List.mem_cons_self _ ?_)
      have m := fun (y : α) (hy : y ∈ xs) => List.mem_cons_of_mem x hy
      by_cases q : p x = true
      · rw [if_pos q]
        refine he x List.mem_cons_self q _ ⟨siz_of (by omega), ?_⟩
        rw [hw x List.mem_cons_self]
        refine ih _ (by rw [List.length_append, List.length_singleton]; omega) (fun y hy => ht y (m y hy)) (fun y hy => hw y (m y hy)) (fun y hy => hc y (m y hy)) (fun y hy => he y (m y hy)) ?_
        rw [List.filter_cons_of_pos q, List.map_cons] at hQ
        simpa using hQ
      · rw [if_neg q, hw x List.mem_cons_self]
        refine ih _ (by omega) (fun y hy => ht y (m y hy)) (fun y hy => hw y (m y hy)) (fun y hy => hc y (m y hy)) (fun y hy => he y (m y hy)) ?_
        rwa [List.filter_cons_of_neg (by simpa using q)] at hQ
  exact key xs [] (by simpa using hl) ht hw hc he (by simpa using hQ)
/-! ### dicts whose values are told by the keys -/
section
variable {α : Type} [DecidableEq α] {f : α → D} {v : α → D}
theorem any_map (h : ∀ a b, eqK (f a) (f b) = decide (a = b)) (p : α) (l : List α) : ((l.map f).any fun k => eqK k (f p)) = decide (p ∈ l) := by
  rw [List.any_map, Bool.eq_iff_iff, List.any_eq_true, decide_eq_true_eq]
  constructor
  · rintro ⟨x, hx, e⟩
    simp only [Function.comp, h, decide_eq_true_eq] at e
    rw [← e]; exact hx
  · intro hp
    exact ⟨p, hp, by simp [h]⟩
theorem dget_map (h : ∀ a b, eqK (f a) (f b) = decide (a = b)) {p : α} : ∀ {l : List α}, p ∈ l → dget (l.map f) (l.map v) (f p) = some (v p)
  | a :: l, hp => by
    rw [List.map_cons, List.map_cons]
    unfold dget
    rw [h]
    by_cases e : a = p
    · subst e; simp
    · have hp' : p ∈ l := by
        rcases List.mem_cons.mp hp with z | z
        · exact absurd z.symm e
        · exact z
      simp [e, dget_map h hp']
theorem dset_map (h : ∀ a b, eqK (f a) (f b) = decide (a = b)) {p : α} : ∀ l : List α, dset (l.map f) (l.map v) (f p) (v p) = l.map v
  | [] => rfl
  | a :: l => by
    rw [List.map_cons, List.map_cons]
    unfold dset
    rw [h, dset_map h l]
    by_cases e : a = p
    · subst e; simp
    · simp [e]
theorem dput_old (h : ∀ a b, eqK (f a) (f b) = decide (a = b)) {p : α} {l : List α} (hp : p ∈ l) : dputK (l.map f) (f p) = l.map f ∧ dputV (l.map f) (l.map v) (f p) (v p) = l.map v := by
  unfold dputK dputV
  rw [any_map h, decide_eq_true hp, dset_map h]
  exact ⟨rfl, rfl⟩
theorem dput_new (h : ∀ a b, eqK (f a) (f b) = decide (a = b)) {p : α} {l : List α} (hp : p ∉ l) : dputK (l.map f) (f p) = (l ++ [p]).map f ∧ dputV (l.map f) (l.map v) (f p) (v p) = (l ++ [p]).map v := by
  unfold dputK dputV
  rw [any_map h, decide_eq_false hp]
  exact ⟨by simp, by simp⟩
/-- one more, or none -/
theorem dput_any (h : ∀ a b, eqK (f a) (f b) = decide (a = b)) (p : α) (l : List α) : ∃ l' : List α, dputK (l.map f) (f p) = l'.map f ∧ dputV (l.map f) (l.map v) (f p) (v p) = l'.map v ∧ p ∈ l' ∧ (∀ x ∈ l, x ∈ l') ∧ (∀ x ∈ l', x = p ∨ x ∈ l) ∧ l'.length ≤ l.length + 1 := by
  by_cases hp : p ∈ l
  · obtain ⟨e1, e2⟩ := dput_old (v := v) h hp
    exact ⟨l, e1, e2, hp, fun x hx => hx, fun x hx => .inr hx, Nat.le_succ _⟩
  · obtain ⟨e1, e2⟩ := dput_new (v := v) h hp
    refine ⟨l ++ [p], e1, e2, by simp, fun x hx => List.mem_append_left _ hx, fun x hx => ?_, by simp⟩
    rcases List.mem_append.mp hx with z | z
    · exact .inr z
    · exact .inl (List.mem_singleton.mp z)
theorem kfit_map (t : ∀ a, isTup (f a) = true) (p : α) (l : List α) : kfit (l.map f) (f p) = true := by
  unfold kfit
  rw [List.all_eq_true]
  intro x hx
  obtain ⟨a, _, rfl⟩ := List.mem_map.mp hx
  rw [t, t]; rfl
end
end MH

set_option Elab.async false
set_option linter.all false
set_option maxRecDepth 100000
/-! MX1: what an expression computes, by rules; a tactic that follows the text -/
namespace MW
open PySem PySem.Spec PyProof.Rows L2
structure Ev (Γ : Gm) (ρ : Evn) (e : Ex) (d : D) (ρ' : Evn) : Prop where
  run : ∀ P : D → Evn → Prop, P d ρ' → wp Γ e ρ P
structure EvO (Γ : Gm) (ρ : Evn) (e : Ex) (r : Evn → Option D) (ρ' : Evn) : Prop where
  run : ∀ K : (Evn → Option D) → Evn → Prop, K r ρ' → opd e (wp Γ e) ρ K
structure EvC (Γ : Gm) (ρ : Evn) (c : Co) (b : Bool) (ρ' : Evn) : Prop where
  run : ∀ P : Bool → Evn → Prop, P b ρ' → wpc Γ c ρ P
structure EvCs (Γ : Gm) (ρ : Evn) (c : List Co) (b : Bool) (ρ' : Evn) : Prop where
  run : ∀ P : Bool → Evn → Prop, P b ρ' → wpcs Γ c ρ P
structure EvS (Γ : Gm) (ρ : Evn) (es : List Ex) (ds : List D) (ρ' : Evn) : Prop where
  run : ∀ P : List D → Evn → Prop, P ds ρ' → wps Γ es ρ P
structure EvL (Γ : Gm) (ρ : Evn) (es : List Ex) (ds : List D) (ρ' : Evn) : Prop where
  run : ∀ P : List D → Evn → Prop, P ds ρ' → wpo Γ es ρ P
structure EvPt (Γ : Gm) (ρ : Evn) (e : Option Ex) (i : Option Int) (ρ' : Evn) : Prop where
  run : ∀ P : Option Int → Evn → Prop, P i ρ' → wpp Γ e ρ P
structure TgR (t : Tg) (d : D) (ρ ρ' : Evn) : Prop where
  run : ∀ Q : Evn → Prop, Q ρ' → tgt t d ρ Q
structure TgsR (t : List Tg) (d : List D) (ρ ρ' : Evn) : Prop where
  run : ∀ Q : Evn → Prop, Q ρ' → tgts t d ρ Q
/-- a list told as a map -/
structure Sr (l m : List D) : Prop where
  eq : l = m
/-- a map told by a kind of data -/
structure Mz (l m : List D) : Prop where
  eq : l = m
/-- two lists, one behind the other -/
structure Cz (l m : List D) : Prop where
  eq : l = m
/-- either -/
structure Iz (l m : D) : Prop where
  eq : l = m
/-- data told by a kind -/
structure En (l m : D) : Prop where
  eq : l = m
section
variable {Γ : Gm} {ρ ρ1 ρ2 ρ3 ρ' : Evn}
theorem ev_lit {d : D} : Ev Γ ρ (.lit d) d ρ := .mk fun P h => h
theorem ev_glo {x : Str} {d : D} : Ev Γ ρ (.glo x d) d ρ := .mk fun P h => h
theorem ev_var {i : Nat} {d : D} (h : rdv ρ i = some (d, ρ')) : Ev Γ ρ (.var i) d ρ' := .mk fun P q => by show bnd (rdv ρ i) _; rw [h]; exact q
theorem ev_tup {es : List Ex} {ds : List D} (h : EvS Γ ρ es ds ρ') (f : fitL ds.length = true) : Ev Γ ρ (.tup es) (.tuple ds) ρ' := .mk fun P q => h.run _ ⟨f, q⟩
theorem ev_lst {es : List Ex} {ds : List D} (h : EvS Γ ρ es ds ρ') (f : fitL ds.length = true) : Ev Γ ρ (.lst es) (.list ds) ρ' := .mk fun P q => h.run _ ⟨f, q⟩
theorem ev_bin {op : Operator} {a b : Ex} {r r' : Evn → Option D} {x y z : D} (h1 : EvO Γ ρ a r ρ1) (h2 : EvO Γ ρ1 b r' ρ2) (e1 : r ρ2 = some x) (e2 : r' ρ2 = some y) (e3 : binD op x y = some z) : Ev Γ ρ (.bin op a b) z ρ2 := .mk fun P q => h1.run _ (h2.run _ (by rw [e1, e2]; show bnd (binD op x y) _; rw [e3]; exact q))
theorem ev_neg {a : Ex} {i : Int} (h : Ev Γ ρ a (.int i) ρ') : Ev Γ ρ (.neg a) (.int (-i)) ρ' := .mk fun P q => h.run _ q
theorem ev_cmp {op : CmpOp} {a b : Ex} {r r' : Evn → Option D} {x y : D} {z : Bool} (h1 : EvO Γ ρ a r ρ1) (h2 : EvO Γ ρ1 b r' ρ2) (e1 : r ρ2 = some x) (e2 : r' ρ2 = some y) (e3 : cmpD op x y = some z) : Ev Γ ρ (.cmp op a b) (.bool z) ρ2 := .mk fun P q => h1.run _ (h2.run _ (by rw [e1, e2]; show bnd (cmpD op x y) _; rw [e3]; exact q))
theorem ev_cmp2 {op op' : CmpOp} {a b c : Ex} {x y u : D} {z z' : Bool} (h1 : Ev Γ ρ a x ρ1) (h2 : Ev Γ ρ1 b y ρ2) (e1 : cmpD op x y = some z) (h3 : Ev Γ ρ2 c u ρ2) (e2 : cmpD op' y u = some z') : Ev Γ ρ (.cmp2 op op' a b c) (.bool (z && z')) ρ2 := .mk fun P q => h1.run _ (h2.run _ (by
  show bnd (cmpD op x y) _
  rw [e1]
  show (if z = true then _ else _)
  cases z with
  | false => exact q
  | true => rw [if_pos rfl]; exact h3.run _ (by rw [e2]; exact q)))
theorem ev_and {a b : Ex} {s t : Bool} (h1 : Ev Γ ρ a (.bool s) ρ1) (h2 : s = true → Ev Γ ρ1 b (.bool t) ρ1) : Ev Γ ρ (.and a b) (.bool (s && t)) ρ1 := .mk fun P q => h1.run _ (by
  show (if s = true then _ else _)
  cases s with
  | false => exact q
  | true => rw [if_pos rfl]; exact (h2 rfl).run _ q)
theorem ev_or {a b : Ex} {s t : Bool} (h1 : Ev Γ ρ a (.bool s) ρ1) (h2 : s = false → Ev Γ ρ1 b (.bool t) ρ1) : Ev Γ ρ (.or a b) (.bool (s || t)) ρ1 := .mk fun P q => h1.run _ (by
  show (if s = true then _ else _)
  cases s with
  | true => exact q
  | false => rw [if_neg (by decide)]; exact (h2 rfl).run _ q)
theorem ev_not {a : Ex} {s : Bool} (h : Ev Γ ρ a (.bool s) ρ') : Ev Γ ρ (.not a) (.bool (!s)) ρ' := .mk fun P q => h.run _ q
theorem ev_ife {c : Co} {a b : Ex} {t : Bool} {x y z : D} (h : EvC Γ ρ c t ρ1) (h1 : t = true → Ev Γ ρ1 a x ρ1) (h2 : t = false → Ev Γ ρ1 b y ρ1) (e : Iz (if t = true then x else y) z) : Ev Γ ρ (.ife c a b) z ρ1 := .mk fun P q => h.run _ (by
  show (if t = true then _ else _)
  have e := e.eq
  cases t with
  | true => rw [if_pos rfl] at e ⊢; rw [e] at h1; exact (h1 rfl).run _ q
  | false => rw [if_neg (by decide)] at e ⊢; rw [e] at h2; exact (h2 rfl).run _ q)
theorem ite_int {t : Bool} {x y : Int} : (if t = true then D.int x else D.int y) = .int (if t = true then x else y) := by cases t <;> rfl
theorem ite_str {t : Bool} {x y : List Nat} : (if t = true then D.str x else D.str y) = .str (if t = true then x else y) := by cases t <;> rfl
theorem ite_bool {t : Bool} {x y : Bool} : (if t = true then D.bool x else D.bool y) = .bool (if t = true then x else y) := by cases t <;> rfl
theorem ite_enc {α : Type} (e : α → D) {t : Bool} {x y : α} : (if t = true then e x else e y) = e (if t = true then x else y) := by cases t <;> rfl
theorem ite_tupm {α : Type} (e : α → D) {t : Bool} {x y : List α} : (if t = true then D.tuple (x.map e) else D.tuple (y.map e)) = .tuple ((if t = true then x else y).map e) := by cases t <;> rfl
theorem ite_lstm {α : Type} (e : α → D) {t : Bool} {x y : List α} : (if t = true then D.list (x.map e) else D.list (y.map e)) = .list ((if t = true then x else y).map e) := by cases t <;> rfl
theorem ev_idx {a i : Ex} {r r' : Evn → Option D} {x y z : D} (h1 : EvO Γ ρ a r ρ1) (h2 : EvO Γ ρ1 i r' ρ2) (e1 : r ρ2 = some x) (e2 : r' ρ2 = some y) (e3 : idxD x y = some z) : Ev Γ ρ (.idx a i) z ρ2 := .mk fun P q => h1.run _ (h2.run _ (by rw [e1, e2]; show bnd (idxD x y) _; rw [e3]; exact q))
theorem ev_slc {a : Ex} {lo hi : Option Ex} {l h : Option Int} {r : Evn → Option D} {x z : D} (h1 : EvO Γ ρ a r ρ1) (h2 : EvPt Γ ρ1 lo l ρ2) (h3 : EvPt Γ ρ2 hi h ρ3) (e1 : r ρ3 = some x) (e2 : slcD x l h = some z) : Ev Γ ρ (.slc a lo hi) z ρ3 := .mk fun P q => h1.run _ (h2.run _ (h3.run _ (by rw [e1]; show bnd (slcD x l h) _; rw [e2]; exact q)))
theorem evp_none : EvPt Γ ρ none none ρ := .mk fun P h => h
theorem evp_some {e : Ex} {i : Int} (h : Ev Γ ρ e (.int i) ρ') : EvPt Γ ρ (some e) (some i) ρ' := .mk fun P q => h.run _ q
theorem evo_var {i : Nat} {d : D} (h : pk ρ i = some d) : EvO Γ ρ (.var i) (fun ρ' => pk ρ' i) ρ := .mk fun K q => by show bnd (pk ρ i) _; rw [h]; exact q
theorem evo_bld {x : Ex} {d : D} (hb : bld x = true) (h : Ev Γ ρ x d ρ') : EvO Γ ρ x (fun _ => some d) ρ' := .mk fun K q => by rw [opd_bld hb]; exact h.run _ q
theorem evl_nil : EvL Γ ρ [] [] ρ := .mk fun P h => h
theorem evl_cons {e : Ex} {es : List Ex} {r : Evn → Option D} {d : D} {ds : List D} (h : EvO Γ ρ e r ρ1) (hs : EvL Γ ρ1 es ds ρ2) (e1 : r ρ2 = some d) : EvL Γ ρ (e :: es) (d :: ds) ρ2 := .mk fun P q => h.run _ (hs.run _ (by rw [e1]; exact q))
theorem evs_nil : EvS Γ ρ [] [] ρ := .mk fun P h => h
theorem evs_cons {e : Ex} {es : List Ex} {d : D} {ds : List D} (h : Ev Γ ρ e d ρ1) (hs : EvS Γ ρ1 es ds ρ2) : EvS Γ ρ (e :: es) (d :: ds) ρ2 := .mk fun P q => h.run _ (hs.run _ q)
theorem ev_bi {f : Bf} {es : List Ex} {ds : List D} {z : D} (h : EvL Γ ρ es ds ρ') (e : biD f ds = some z) : Ev Γ ρ (.bi f es) z ρ' := .mk fun P q => h.run _ (by show bnd (biD f ds) _; rw [e]; exact q)
theorem ev_enm {a : Ex} {d z : D} (h : Ev Γ ρ a d ρ') (e : enumD d = some z) : Ev Γ ρ (.enm a) z ρ' := .mk fun P q => h.run _ (by show bnd (enumD d) _; rw [e]; exact q)
theorem ev_me {m : Me} {o : Ex} {es : List Ex} {r : Evn → Option D} {d1 x z : D} {ds : List D} (h1 : EvO Γ ρ o r ρ1) (e0 : r ρ1 = some d1) (ty : meTy m d1 = true) (h2 : EvL Γ ρ1 es ds ρ2) (e1 : r ρ2 = some x) (e2 : meD m x ds = some z) : Ev Γ ρ (.me m o es) z ρ2 := .mk fun P q => h1.run _ (by
  rw [e0]
  show bnd (some d1) _
  exact ⟨ty, h2.run _ (by rw [e1]; show bnd (meD m x ds) _; rw [e2]; exact q)⟩)
theorem evc_and {a b : Co} {s t : Bool} (h1 : EvC Γ ρ a s ρ1) (h2 : s = true → EvC Γ ρ1 b t ρ1) : EvC Γ ρ (.and a b) (s && t) ρ1 := .mk fun P q => h1.run _ (by
  cases s with
  | false => exact q
  | true => rw [if_pos rfl]; exact (h2 rfl).run _ q)
theorem evc_or {a b : Co} {s t : Bool} (h1 : EvC Γ ρ a s ρ1) (h2 : s = false → EvC Γ ρ1 b t ρ1) : EvC Γ ρ (.or a b) (s || t) ρ1 := .mk fun P q => h1.run _ (by
  cases s with
  | true => exact q
  | false => rw [if_neg (by decide)]; exact (h2 rfl).run _ q)
theorem evc_not {a : Co} {s : Bool} (h : EvC Γ ρ a s ρ') : EvC Γ ρ (.not a) (!s) ρ' := .mk fun P q => h.run _ q
theorem evc_ex {e : Ex} {r : Evn → Option D} {d : D} {t : Bool} (h : EvO Γ ρ e r ρ') (e1 : r ρ' = some d) (e2 : truD d = some t) : EvC Γ ρ (.ex e) t ρ' := .mk fun P q => h.run _ (by rw [e1]; show bnd (truD d) _; rw [e2]; exact q)
theorem evcs_nil : EvCs Γ ρ [] true ρ := .mk fun P h => h
theorem evcs_one {c : Co} {b : Bool} (h : EvC Γ ρ c b ρ') : EvCs Γ ρ [c] b ρ' := .mk fun P q => ⟨rfl, h.run _ q⟩
theorem tg_nm {i : Nat} {d : D} (h : setv ρ i (.val d) = some ρ') : TgR (.nm i) d ρ ρ' := .mk fun Q q => by show bnd (setv ρ i (.val d)) Q; rw [h]; exact q
theorem tg_tp {ts : List Tg} {d : D} {ds : List D} (e : asT d = some ds) (h : TgsR ts ds ρ ρ') : TgR (.tp ts) d ρ ρ' := .mk fun Q q => by show bnd (asT d) _; rw [e]; exact h.run _ q
theorem tgs_nil : TgsR [] [] ρ ρ := .mk fun Q q => ⟨rfl, q⟩
theorem tgs_cons {t : Tg} {ts : List Tg} {d : D} {ds : List D} (h : TgR t d ρ ρ1) (hs : TgsR ts ds ρ1 ρ2) : TgsR (t :: ts) (d :: ds) ρ ρ2 := .mk fun Q q => h.run _ (hs.run _ q)
/-! ### comprehensions -/
theorem turns_fm {α : Type} {t : Tg} {f g : α → D} {p : α → Bool} {c : WPC} {e : WP} {ws : List Nat} {Q : List D → Evn → Prop} (E : α → Evn) (xs : List α) (hl : xs.length ≤ 1000000)
    (ht : ∀ x ∈ xs, TgR t (f x) ρ (E x)) (hw : ∀ x ∈ xs, wipeE (E x) ws = ρ)
    (hc : ∀ x ∈ xs, ∀ P : Bool → Evn → Prop, P (p x) (E x) → c (E x) P)
    (he : ∀ x ∈ xs, p x = true → ∀ P : D → Evn → Prop, P (g x) (E x) → e (E x) P) (hQ : Q ((xs.filter p).map g) ρ) : turns t c e ws (xs.map f) [] ρ Q := by
  have key : ∀ (xs : List α) (acc : List D), acc.length + xs.length ≤ 1000000 → (∀ x ∈ xs, TgR t (f x) ρ (E x)) → (∀ x ∈ xs, wipeE (E x) ws = ρ) →
      (∀ x ∈ xs, ∀ P : Bool → Evn → Prop, P (p x) (E x) → c (E x) P) → (∀ x ∈ xs, p x = true → ∀ P : D → Evn → Prop, P (g x) (E x) → e (E x) P) → Q (acc ++ (xs.filter p).map g) ρ → turns t c e ws (xs.map f) acc ρ Q := by
    intro xs
    induction xs with
    | nil => intro acc _ _ _ _ _ hQ; simpa [turns] using hQ
    | cons x xs ih =>
      intro acc hl ht hw hc he hQ
      rw [List.length_cons] at hl
      rw [List.map_cons]
      unfold turns
      refine (ht x List.mem_cons_self).run _ (hc x List.mem_cons_self _ ?_)
      have m := fun (y : α) (hy : y ∈ xs) => List.mem_cons_of_mem x hy
      by_cases q : p x = true
      · rw [if_pos q]
        refine he x List.mem_cons_self q _ ⟨by rw [sizeLine_eq]; omega, ?_⟩
        rw [hw x List.mem_cons_self]
        refine ih _ (by rw [List.length_append, List.length_singleton]; omega) (fun y hy => ht y (m y hy)) (fun y hy => hw y (m y hy)) (fun y hy => hc y (m y hy)) (fun y hy => he y (m y hy)) ?_
        rw [List.filter_cons_of_pos q, List.map_cons] at hQ
        simpa using hQ
      · rw [if_neg q, hw x List.mem_cons_self]
        refine ih _ (by omega) (fun y hy => ht y (m y hy)) (fun y hy => hw y (m y hy)) (fun y hy => hc y (m y hy)) (fun y hy => he y (m y hy)) ?_
        rwa [List.filter_cons_of_neg (by simpa using q)] at hQ
  exact key xs [] (by simpa using hl) ht hw hc he (by simpa using hQ)
theorem ev_compf {α : Type} {ws : List Nat} {t : Tg} {rg : Bool} {it : List Ex} {c : List Co} {e : Ex} {ds l : List D} {xs : List α} {f g : α → D} {p : α → Bool} {ρw : Evn} {E : α → Evn} {z : List D}
    (h1 : EvS Γ ρ it ds ρ1) (h2 : srcD rg ds = some l) (h3 : Sr l (xs.map f)) (no : noOwn ρ1 ws = true) (hw : wipeE ρ1 ws = ρw) (hb : backE ρ1 ρw ws = ρ2)
    (ht : ∀ x, x ∈ xs → TgR t (f x) ρw (E x)) (hwp : ∀ x, wipeE (E x) ws = ρw) (hc : ∀ x, x ∈ xs → EvCs Γ (E x) c (p x) (E x)) (he : ∀ x, x ∈ xs → p x = true → Ev Γ (E x) e (g x) (E x)) (hl : xs.length ≤ 1000000) (hz : Mz ((xs.filter p).map g) z) : Ev Γ ρ (.comp ws t rg it c e) (.list z) ρ2 := .mk fun P q => by
  rcases h3 with ⟨rfl⟩
  unfold wp
  refine h1.run _ ?_
  rw [h2]
  refine ⟨no, ?_⟩
  rw [hw]
  refine turns_fm E xs hl ht (fun x _ => hwp x) (fun x hx => (hc x hx).run) (fun x hx hp => (he x hx hp).run) ?_
  rw [hb, hz.eq]; exact q
theorem ev_comp0 {α : Type} {ws : List Nat} {t : Tg} {rg : Bool} {it : List Ex} {e : Ex} {ds l : List D} {xs : List α} {f g : α → D} {ρw : Evn} {E : α → Evn} {z : List D}
    (h1 : EvS Γ ρ it ds ρ1) (h2 : srcD rg ds = some l) (h3 : Sr l (xs.map f)) (no : noOwn ρ1 ws = true) (hw : wipeE ρ1 ws = ρw) (hb : backE ρ1 ρw ws = ρ2)
    (ht : ∀ x, x ∈ xs → TgR t (f x) ρw (E x)) (hwp : ∀ x, wipeE (E x) ws = ρw) (he : ∀ x, x ∈ xs → Ev Γ (E x) e (g x) (E x)) (hl : xs.length ≤ 1000000) (hz : Mz (xs.map g) z) : Ev Γ ρ (.comp ws t rg it [] e) (.list z) ρ2 :=
  ev_compf (p := fun _ => true) h1 h2 h3 no hw hb ht hwp (fun x _ => evcs_nil) (fun x hx _ => he x hx) hl ⟨by rw [List.filter_eq_self.mpr fun _ _ => rfl]; exact hz.eq⟩
/-! ### pure defs -/
def pure1 {α : Type} (e1 : α → D) (pre : α → Prop) (res : α → D) : PT := fun ds R => ∃ a, ds = [e1 a] ∧ pre a ∧ R (res a) []
def pure2 {α β : Type} (e1 : α → D) (e2 : β → D) (pre : α → β → Prop) (res : α → β → D) : PT := fun ds R => ∃ a b, ds = [e1 a, e2 b] ∧ pre a b ∧ R (res a b) []
def pure3 {α β γ : Type} (e1 : α → D) (e2 : β → D) (e3 : γ → D) (pre : α → β → γ → Prop) (res : α → β → γ → D) : PT := fun ds R => ∃ a b c, ds = [e1 a, e2 b, e3 c] ∧ pre a b c ∧ R (res a b c) []
def pure4 {α β γ δ : Type} (e1 : α → D) (e2 : β → D) (e3 : γ → D) (e4 : δ → D) (pre : α → β → γ → δ → Prop) (res : α → β → γ → δ → D) : PT := fun ds R => ∃ a b c d, ds = [e1 a, e2 b, e3 c, e4 d] ∧ pre a b c d ∧ R (res a b c d) []
def pure5 {α β γ δ ε : Type} (e1 : α → D) (e2 : β → D) (e3 : γ → D) (e4 : δ → D) (e5 : ε → D) (pre : α → β → γ → δ → ε → Prop) (res : α → β → γ → δ → ε → D) : PT := fun ds R => ∃ a b c d e, ds = [e1 a, e2 b, e3 c, e4 d, e5 e] ∧ pre a b c d e ∧ R (res a b c d e) []
structure EvA (Γ : Gm) (ps : List (Option Nat)) (ρ : Evn) (es : List Ex) (ds : List D) (ρ' : Evn) : Prop where
  run : ∀ P : List D → Evn → Prop, P ds ρ' → wpa Γ ps es ρ P
theorem eva_nil : EvA Γ [] ρ [] [] ρ := .mk fun P h => ⟨rfl, h⟩
theorem eva_val {ps : List (Option Nat)} {e : Ex} {es : List Ex} {d : D} {ds : List D} (h : Ev Γ ρ e d ρ1) (hs : EvA Γ ps ρ1 es ds ρ2) : EvA Γ (none :: ps) ρ (e :: es) (d :: ds) ρ2 := .mk fun P q => h.run _ (hs.run _ q)
theorem eva_io {ps : List (Option Nat)} {i : Nat} {e : Ex} {es : List Ex} {ds : List D} (hs : EvA Γ ps ρ es ds ρ2) : EvA Γ (some i :: ps) ρ (e :: es) (.none :: ds) ρ2 := .mk fun P q => hs.run _ q
theorem ev_call {f : Str} {es : List Ex} {F : Fn} {ps : List (Option Nat)} {ds xs outs : List D} {z : D} (hF : Γ f = some F) (h1 : argsIo F.io es = some ps) (h2 : nodupP ps = true) (h3 : ioOk ρ ps = true) (h4 : EvA Γ ps ρ es ds ρ1) (h5 : peekC ρ1 ps ds = some xs)
    (h6 : ∀ R : D → List D → Prop, R z outs → F.pt xs R) (h7 : outsE ps outs ρ1 = some ρ2) : Ev Γ ρ (.call f es) z ρ2 := .mk fun P q => by
  unfold wp
  rw [hF]
  show bnd (argsIo F.io es) _
  rw [h1]
  refine ⟨h2, h3, h4.run _ ?_⟩
  rw [h5]
  refine h6 _ ?_
  rw [h7]
  exact q
theorem ev_call1 {f : Str} {x : Ex} {α : Type} {e1 : α → D} {pre : α → Prop} {res : α → D} {nw : Bool} {a : α} {d : D} {z : D} (hF : Γ f = some ⟨[false], pure1 e1 pre res, nw⟩) (h1 : Ev Γ ρ x d ρ1) (q1 : En d (e1 a)) (hp : pre a) (hz : res a = z) : Ev Γ ρ (.call f [x]) z ρ1 := by
  rcases q1 with ⟨rfl⟩; subst hz
  exact ev_call hF rfl rfl rfl (eva_val h1 eva_nil) rfl (fun R r => ⟨a, rfl, hp, r⟩) rfl
theorem ev_call2 {f : Str} {x y : Ex} {α β : Type} {e1 : α → D} {e2 : β → D} {pre : α → β → Prop} {res : α → β → D} {nw : Bool} {a : α} {b : β} {d d' : D} {z : D} (hF : Γ f = some ⟨[false, false], pure2 e1 e2 pre res, nw⟩) (h1 : Ev Γ ρ x d ρ1) (q1 : En d (e1 a)) (h2 : Ev Γ ρ1 y d' ρ2) (q2 : En d' (e2 b)) (hp : pre a b) (hz : res a b = z) : Ev Γ ρ (.call f [x, y]) z ρ2 := by
  rcases q1 with ⟨rfl⟩; rcases q2 with ⟨rfl⟩; subst hz
  exact ev_call hF rfl rfl rfl (eva_val h1 (eva_val h2 eva_nil)) rfl (fun R r => ⟨a, b, rfl, hp, r⟩) rfl
theorem ev_call3 {f : Str} {x y u : Ex} {α β γ : Type} {e1 : α → D} {e2 : β → D} {e3 : γ → D} {pre : α → β → γ → Prop} {res : α → β → γ → D} {nw : Bool} {a : α} {b : β} {c : γ} {d d' d'' : D} {z : D} (hF : Γ f = some ⟨[false, false, false], pure3 e1 e2 e3 pre res, nw⟩) (h1 : Ev Γ ρ x d ρ1) (q1 : En d (e1 a)) (h2 : Ev Γ ρ1 y d' ρ2) (q2 : En d' (e2 b)) (h3 : Ev Γ ρ2 u d'' ρ3) (q3 : En d'' (e3 c)) (hp : pre a b c) (hz : res a b c = z) : Ev Γ ρ (.call f [x, y, u]) z ρ3 := by
  rcases q1 with ⟨rfl⟩; rcases q2 with ⟨rfl⟩; rcases q3 with ⟨rfl⟩; subst hz
  exact ev_call hF rfl rfl rfl (eva_val h1 (eva_val h2 (eva_val h3 eva_nil))) rfl (fun R r => ⟨a, b, c, rfl, hp, r⟩) rfl
theorem ev_call4 {f : Str} {x y u v : Ex} {α β γ δ : Type} {e1 : α → D} {e2 : β → D} {e3 : γ → D} {e4 : δ → D} {pre : α → β → γ → δ → Prop} {res : α → β → γ → δ → D} {nw : Bool} {a : α} {b : β} {c : γ} {g : δ} {d d' d'' d3 : D} {z : D} {ρ4 : Evn} (hF : Γ f = some ⟨[false, false, false, false], pure4 e1 e2 e3 e4 pre res, nw⟩) (h1 : Ev Γ ρ x d ρ1) (q1 : En d (e1 a)) (h2 : Ev Γ ρ1 y d' ρ2) (q2 : En d' (e2 b)) (h3 : Ev Γ ρ2 u d'' ρ3) (q3 : En d'' (e3 c)) (h4 : Ev Γ ρ3 v d3 ρ4) (q4 : En d3 (e4 g)) (hp : pre a b c g) (hz : res a b c g = z) : Ev Γ ρ (.call f [x, y, u, v]) z ρ4 := by
  rcases q1 with ⟨rfl⟩; rcases q2 with ⟨rfl⟩; rcases q3 with ⟨rfl⟩; rcases q4 with ⟨rfl⟩; subst hz
  exact ev_call hF rfl rfl rfl (eva_val h1 (eva_val h2 (eva_val h3 (eva_val h4 eva_nil)))) rfl (fun R r => ⟨a, b, c, g, rfl, hp, r⟩) rfl
/-! ### statements -/
variable {ss : List Sm} {E : Nd}
theorem wb_nil (h : E.nx ρ) : wpB Γ [] E ρ := h
theorem wb_asg {t : Tg} {e : Ex} {d : D} (h : Ev Γ ρ e d ρ1) (ht : TgR t d ρ1 ρ2) (k : wpB Γ ss E ρ2) : wpB Γ (.asg t e :: ss) E ρ := h.run _ (ht.run _ k)
theorem wb_own {i : Nat} {e : Ex} {d : D} (h : Ev Γ ρ e d ρ1) (ht : setv ρ1 i (.own d) = some ρ2) (k : wpB Γ ss E ρ2) : wpB Γ (.own i e :: ss) E ρ := h.run _ (by show bnd (setv ρ1 i (.own d)) _; rw [ht]; exact k)
theorem wb_par {ts : List Nat} {es : List Ex} {ds : List D} (h : EvS Γ ρ es ds ρ1) (f : fitL ds.length = true) (ht : setvs ts ds ρ1 = some ρ2) (k : wpB Γ ss E ρ2) : wpB Γ (.par ts es :: ss) E ρ := h.run _ ⟨f, by show bnd (setvs ts ds ρ1) _; rw [ht]; exact k⟩
theorem wb_app {i : Nat} {e : Ex} {d : D} {l0 l : List D} (h0 : getc ρ i = some (.list l0)) (h : Ev Γ ρ e d ρ1) (h1 : getc ρ1 i = some (.list l)) (sz : l.length ≤ 1000000) {z : List D} (hz : Cz (l ++ [d]) z) (ht : setc ρ1 i (.list z) = some ρ2) (k : wpB Γ ss E ρ2) : wpB Γ (.app i e :: ss) E ρ := by
  rcases hz with ⟨rfl⟩
  show bnd ((getc ρ i).bind asL) _
  rw [h0]
  refine h.run _ ?_
  rw [h1]
  refine ⟨by rw [sizeLine_eq]; omega, ?_⟩
  rw [ht]; exact k
theorem wb_ext {i : Nat} {e : Ex} {r : Evn → Option D} {x : D} {l0 l es : List D} (h0 : getc ρ i = some (.list l0)) (h : EvO Γ ρ e r ρ1) (h1 : getc ρ1 i = some (.list l)) (h2 : r ρ1 = some x) (h3 : asLT x = some es) (sz : fitL (l.length + es.length) = true) {z : List D} (hz : Cz (l ++ es) z) (ht : setc ρ1 i (.list z) = some ρ2) (k : wpB Γ ss E ρ2) : wpB Γ (.ext i e :: ss) E ρ := by
  rcases hz with ⟨rfl⟩
  show bnd ((getc ρ i).bind asL) _
  rw [h0, Option.bind_some, as_l, bnd_some]
  refine h.run _ ?_
  rw [h1]
  show bnd ((r ρ1).bind asLT) _
  rw [h2]
  show bnd (asLT x) _
  rw [h3]
  refine ⟨sz, ?_⟩
  rw [ht]; exact k
theorem wb_rvs {i : Nat} {l : List D} (h0 : getc ρ i = some (.list l)) (ht : setc ρ i (.list l.reverse) = some ρ2) (k : wpB Γ ss E ρ2) : wpB Γ (.rvs i :: ss) E ρ := by
  show bnd ((getc ρ i).bind asL) _
  rw [h0]
  show bnd (setc ρ i (.list l.reverse)) _
  rw [ht]; exact k
theorem wb_setD {i : Nat} {kx e : Ex} {d x : D} {ks0 vs0 ks vs ks1 vs1 : List D} (h0 : getc ρ i = some (.dict ks0 vs0)) (h : Ev Γ ρ e d ρ1) (h1 : getc ρ1 i = some (.dict ks1 vs1)) (hk : Ev Γ ρ1 kx x ρ2) (h2 : getc ρ2 i = some (.dict ks vs)) (ky : isKey x = true) (kf : kfit ks x = true) (sz : ks.length ≤ 1000000)
    (ht : setc ρ2 i (.dict (dputK ks x) (dputV ks vs x d)) = some ρ3) (k : wpB Γ ss E ρ3) : wpB Γ (.setI i kx e :: ss) E ρ := by
  unfold wpB MW.wpS
  rw [h0]
  refine h.run _ ?_
  rw [h1]
  refine hk.run _ ?_
  rw [h2]
  refine ⟨ky, kf, by rw [sizeLine_eq]; show ks.length < _; omega, ?_⟩
  show bnd (setc ρ2 i (.dict (dputK ks x) (dputV ks vs x d))) _
  rw [ht]; exact k
theorem wb_setL {i : Nat} {kx e : Ex} {d : D} {j : Int} {l0 l1 l : List D} (h0 : getc ρ i = some (.list l0)) (h : Ev Γ ρ e d ρ1) (h1 : getc ρ1 i = some (.list l1)) (hk : Ev Γ ρ1 kx (.int j) ρ2) (h2 : getc ρ2 i = some (.list l)) (b0 : 0 ≤ j) (b1 : j < l.length)
    (ht : setc ρ2 i (.list (l.set j.toNat d)) = some ρ3) (k : wpB Γ ss E ρ3) : wpB Γ (.setI i kx e :: ss) E ρ := by
  unfold wpB MW.wpS
  rw [h0]
  refine h.run _ ?_
  rw [h1]
  refine hk.run _ ?_
  rw [h2]
  refine ⟨⟨b0, b1⟩, ?_⟩
  rw [ht]; exact k
theorem wb_ex {e : Ex} {d : D} (h : Ev Γ ρ e d ρ1) (k : wpB Γ ss E ρ1) : wpB Γ (.ex e :: ss) E ρ := h.run _ k
theorem wb_ret {e : Ex} {d : D} (h : Ev Γ ρ e d ρ1) (k : E.rt d ρ1) : wpB Γ (.ret e :: ss) E ρ := h.run _ k
theorem wb_retN (k : E.rt .none ρ) : wpB Γ (.retN :: ss) E ρ := k
theorem wb_retF {e : Ex} {d : D} (h : Ev Γ ρ e d ρ1) (k : E.rn d ρ1) : wpB Γ (.retF e :: ss) E ρ := h.run _ k
theorem wb_retO {i : Nat} {d : D} (h : ownD ρ i = some d) (k : E.rn d (ρ.set i .no)) : wpB Γ (.retO i :: ss) E ρ := by
  show bnd (ownD ρ i) _
  rw [h]; exact k
theorem wb_ite {c : Co} {a b : List Sm} {t : Bool} (h : EvC Γ ρ c t ρ1) (k1 : t = true → wpB Γ a { E with nx := wpB Γ ss E } ρ1) (k2 : t = false → wpB Γ b { E with nx := wpB Γ ss E } ρ1) : wpB Γ (.ite c a b :: ss) E ρ := h.run _ (by
  cases t with
  | true => rw [if_pos rfl]; exact k1 rfl
  | false => rw [if_neg (by decide)]; exact k2 rfl)
theorem wb_for {t : Tg} {rg : Bool} {it : List Ex} {b : List Sm} {ds xs : List D} (h : EvS Γ ρ it ds ρ1) (hs : srcD rg ds = some xs) (kk : forW t (wpB Γ b) { E with nx := wpB Γ ss E } xs ρ1) : wpB Γ (.for t rg it b :: ss) E ρ := by
  unfold wpB MW.wpS
  refine h.run _ ?_
  rw [hs]; exact kk
theorem wb_whl {c : Co} {b : List Sm} (kk : ∃ n, whlW (wpc Γ c) (wpB Γ b) { E with nx := wpB Γ ss E } n ρ) : wpB Γ (.whl c b :: ss) E ρ := kk
theorem wb_brk (k : E.bk ρ) : wpB Γ (.brk :: ss) E ρ := k
theorem wb_pass (k : wpB Γ ss E ρ) : wpB Γ (.pass :: ss) E ρ := k
end
theorem setv_ok {ρ ρ' : Evn} {i : Nat} {x v : Sl} (h1 : ρ[i]? = some x) (h2 : (isFr x || isOw x) = true) (h3 : ρ.set i v = ρ') : setv ρ i v = some ρ' := by
  subst h3
  cases x with
  | io d => simp [isFr, isOw] at h2
  | no => simp [setv, h1]
  | val d => simp [setv, h1]
  | own d => simp [setv, h1]
theorem isFr_or {x : Sl} (h : isFr x = true) : (isFr x || isOw x) = true := by rw [h]; rfl
theorem setc_own {ρ ρ' : Evn} {i : Nat} {d d0 : D} (h1 : ρ[i]? = some (.own d0)) (h3 : ρ.set i (.own d) = ρ') : setc ρ i d = some ρ' := by subst h3; simp [setc, h1]
theorem setc_io {ρ ρ' : Evn} {i : Nat} {d d0 : D} (h1 : ρ[i]? = some (.io d0)) (h3 : ρ.set i (.io d) = ρ') : setc ρ i d = some ρ' := by subst h3; simp [setc, h1]
theorem rdv_val {ρ : Evn} {i : Nat} {d : D} (h : ρ[i]? = some (.val d)) : rdv ρ i = some (d, ρ) := by unfold rdv; rw [h]
theorem rdv_own {ρ ρ' : Evn} {i : Nat} {d : D} (h : ρ[i]? = some (.own d)) (h3 : ρ.set i (.val d) = ρ') : rdv ρ i = some (d, ρ') := by subst h3; unfold rdv; rw [h]
theorem fitL_of {n : Nat} (h : n ≤ 1000000) : fitL n = true := by rw [fitL_iff, sizeLine_eq]; omega
theorem setvs_ok {ρ ρ1 ρ2 : Evn} {i : Nat} {is : List Nat} {d : D} {ds : List D} (h : setv ρ i (.val d) = some ρ1) (hs : setvs is ds ρ1 = some ρ2) : setvs (i :: is) (d :: ds) ρ = some ρ2 := by unfold setvs; rw [h]; exact hs
theorem setvs_nil {ρ : Evn} : setvs [] [] ρ = some ρ := rfl
theorem asMap_id (l : List D) : l = l.map id := by simp
theorem app_map {α : Type} {f : α → D} {a b : List α} : a.map f ++ b.map f = (a ++ b).map f := (List.map_append ..).symm
theorem src_l {l : List D} : srcD false [.list l] = some l := rfl
theorem src_t {l : List D} : srcD false [.tuple l] = some l := rfl
theorem src_s {l : List Nat} : srcD false [.str l] = some (l.map fun c => .str [c]) := rfl
theorem src_r1 {j : Int} (h0 : 0 ≤ j) (h1 : j ≤ 1000000) : srcD true [.int j] = some ((List.range j.toNat).map fun (k : Nat) => .int (k : Int)) := by
  show rngD [.int j] = _
  unfold rngD
  simp only
  rw [if_pos]
  simp only [Bool.and_eq_true, decide_eq_true_eq]
  omega
theorem src_r2 {i j : Int} (h0 : -1000000 ≤ i) (h1 : i ≤ 1000000) (h2 : -1000000 ≤ j) (h3 : j ≤ 1000000) : srcD true [.int i, .int j] = some ((List.range (j - i).toNat).map fun (k : Nat) => .int (i + (k : Int))) := by
  show rngD [.int i, .int j] = _
  unfold rngD
  simp only
  rw [if_pos]
  simp only [Bool.and_eq_true, decide_eq_true_eq]
  omega
theorem cq_i {i j : Int} : cmpD .Eq (.int i) (.int j) = some (decide (i = j)) := by show some (i == j) = _; simp [BEq.beq]
theorem cq_s {i j : List Nat} : cmpD .Eq (.str i) (.str j) = some (decide (i = j)) := by show some (i == j) = _; rw [Bool.beq_eq_decide_eq]
theorem cq_b {i j : Bool} : cmpD .Eq (.bool i) (.bool j) = some (decide (i = j)) := by cases i <;> cases j <;> rfl
theorem cn_i {i j : Int} : cmpD .NotEq (.int i) (.int j) = some (!decide (i = j)) := by show some (!(i == j)) = _; simp [BEq.beq]
theorem cn_s {i j : List Nat} : cmpD .NotEq (.str i) (.str j) = some (!decide (i = j)) := by show some (!(i == j)) = _; rw [Bool.beq_eq_decide_eq]
theorem cn_b {i j : Bool} : cmpD .NotEq (.bool i) (.bool j) = some (!decide (i = j)) := by cases i <;> cases j <;> rfl
/-! kinds of data: how they are told, compared -/
class Cod {α : Type} [DecidableEq α] (e : α → D) (k : outParam Nat) : Prop where
  eq : ∀ a b, eqD (e a) (e b) = decide (a = b)
  sh : ∀ a, shp k (e a) = true
theorem shp_mono : ∀ {k m : Nat} {d : D}, shp k d = true → k ≤ m → shp m d = true
  | 0, _, d, h, _ => by cases d <;> simp [shp] at h
  | k + 1, 0, _, _, q => absurd q (by omega)
  | k + 1, m + 1, .none, _, _ => rfl
  | k + 1, m + 1, .bool _, _, _ => rfl
  | k + 1, m + 1, .int _, _, _ => rfl
  | k + 1, m + 1, .str _, _, _ => rfl
  | k + 1, m + 1, .list ds, h, q => by
    show ds.all (shp m) = true
    have h : ds.all (shp k) = true := h
    rw [List.all_eq_true] at h ⊢
    exact fun x hx => shp_mono (h x hx) (by omega)
  | k + 1, m + 1, .tuple ds, h, q => by
    show ds.all (shp m) = true
    have h : ds.all (shp k) = true := h
    rw [List.all_eq_true] at h ⊢
    exact fun x hx => shp_mono (h x hx) (by omega)
  | k + 1, m + 1, .dict _ _, h, _ => by simp [shp] at h
theorem Cod.sh60 {α : Type} [DecidableEq α] {e : α → D} {k : Nat} [c : Cod e k] (h : k ≤ 60 := by decide) (a : α) : shp 60 (e a) = true := shp_mono (c.sh a) h
instance : Cod D.int 1 := ⟨fun a b => by rw [MH.eq_i, Bool.beq_eq_decide_eq], fun _ => rfl⟩
instance : Cod D.str 1 := ⟨fun a b => by rw [MH.eq_s, Bool.beq_eq_decide_eq], fun _ => rfl⟩
instance : Cod D.bool 1 := ⟨fun a b => by rw [MH.eq_b, Bool.beq_eq_decide_eq], fun _ => rfl⟩
/-- one letter -/
abbrev chrD (c : Nat) : D := .str [c]
instance : Cod chrD 1 := ⟨fun a b => by rw [MH.eq_s, Bool.beq_eq_decide_eq]; simp, fun _ => rfl⟩
theorem eqDs_map {α : Type} [DecidableEq α] {e : α → D} (h : ∀ a b, eqD (e a) (e b) = decide (a = b)) : ∀ a b : List α, eqDs (a.map e) (b.map e) = decide (a = b)
  | [], [] => rfl
  | [], _ :: _ => rfl
  | _ :: _, [] => rfl
  | x :: a, y :: b => by
    show (eqD (e x) (e y) && eqDs (a.map e) (b.map e)) = _
    rw [h, eqDs_map h a b]
    by_cases h1 : x = y <;> by_cases h2 : a = b <;> simp [h1, h2]
theorem shps_map {α : Type} {e : α → D} {k : Nat} (h : ∀ a, shp k (e a) = true) (l : List α) : (l.map e).all (shp k) = true := by
  rw [List.all_eq_true]
  intro x hx
  obtain ⟨a, _, rfl⟩ := List.mem_map.mp hx
  exact h a
/-- tuples, lists of things alike -/
abbrev tupD {α : Type} (e : α → D) (l : List α) : D := .tuple (l.map e)
abbrev lstD {α : Type} (e : α → D) (l : List α) : D := .list (l.map e)
instance {α : Type} [DecidableEq α] {e : α → D} {k : Nat} [c : Cod e k] : Cod (tupD e) (k + 1) := ⟨fun a b => eqDs_map c.eq a b, fun a => shps_map c.sh a⟩
instance {α : Type} [DecidableEq α] {e : α → D} {k : Nat} [c : Cod e k] : Cod (lstD e) (k + 1) := ⟨fun a b => eqDs_map c.eq a b, fun a => shps_map c.sh a⟩
instance : Cod intsT 2 := inferInstanceAs (Cod (tupD D.int) 2)
abbrev prD {α β : Type} (e1 : α → D) (e2 : β → D) (p : α × β) : D := .tuple [e1 p.1, e2 p.2]
instance {α β : Type} [DecidableEq α] [DecidableEq β] {e1 : α → D} {e2 : β → D} {k m : Nat} [c : Cod e1 k] [d : Cod e2 m] : Cod (prD e1 e2) (k + m + 1) := ⟨fun a b => by
  show (eqD (e1 a.1) (e1 b.1) && (eqD (e2 a.2) (e2 b.2) && true)) = _
  rw [c.eq, d.eq]
  obtain ⟨a1, a2⟩ := a
  obtain ⟨b1, b2⟩ := b
  by_cases h1 : a1 = b1 <;> by_cases h2 : a2 = b2 <;> simp [h1, h2], fun a => by
  show (shp (k + m) (e1 a.1) && (shp (k + m) (e2 a.2) && true)) = true
  rw [shp_mono (c.sh a.1) (by omega), shp_mono (d.sh a.2) (by omega)]; rfl⟩
instance : Cod MH.dS 2 := ⟨MH.eqS, fun _ => rfl⟩
theorem inD_map {α : Type} [DecidableEq α] {e : α → D} (h : ∀ a b, eqD (e a) (e b) = decide (a = b)) (a : α) : ∀ l : List α, inD (e a) (l.map e) = decide (a ∈ l)
  | [] => rfl
  | b :: l => by
    have ih := inD_map h a l
    unfold inD at ih ⊢
    rw [List.map_cons, List.any_cons, ih, h, Bool.eq_iff_iff]
    simp only [Bool.or_eq_true, decide_eq_true_eq, List.mem_cons]
    exact ⟨fun q => q.elim (fun z => .inl z.symm) .inr, fun q => q.elim (fun z => .inl z.symm) .inr⟩
section
variable {α : Type} [DecidableEq α] {e : α → D} {k : Nat} [c : Cod e k]
theorem cq_e {a b : α} (h : k ≤ 60 := by decide) : cmpD .Eq (e a) (e b) = some (decide (a = b)) := by
  rw [c_eq, Cod.sh60 h, Cod.sh60 h, c.eq]; rfl
theorem cn_e {a b : α} (h : k ≤ 60 := by decide) : cmpD .NotEq (e a) (e b) = some (!decide (a = b)) := by
  rw [c_ne, Cod.sh60 h, Cod.sh60 h, c.eq]; rfl
theorem in_te {a : α} {l : List α} (h : k ≤ 59 := by decide) : cmpD .In (e a) (.tuple (l.map e)) = some (decide (a ∈ l)) := by
  rw [in_t, Cod.sh60 (by omega), inD_map c.eq, show shp 60 (.tuple (l.map e)) = true from shps_map (fun a => shp_mono (c.sh a) h) l]; rfl
theorem in_le {a : α} {l : List α} (h : k ≤ 59 := by decide) : cmpD .In (e a) (.list (l.map e)) = some (decide (a ∈ l)) := by
  rw [in_l, Cod.sh60 (by omega), inD_map c.eq, show shp 60 (.list (l.map e)) = true from shps_map (fun a => shp_mono (c.sh a) h) l]; rfl
theorem nin_te {a : α} {l : List α} (h : k ≤ 59 := by decide) : cmpD .NotIn (e a) (.tuple (l.map e)) = some (!decide (a ∈ l)) := by
  rw [nin_t, Cod.sh60 (by omega), inD_map c.eq, show shp 60 (.tuple (l.map e)) = true from shps_map (fun a => shp_mono (c.sh a) h) l]; rfl
theorem nin_le {a : α} {l : List α} (h : k ≤ 59 := by decide) : cmpD .NotIn (e a) (.list (l.map e)) = some (!decide (a ∈ l)) := by
  rw [nin_l, Cod.sh60 (by omega), inD_map c.eq, show shp 60 (.list (l.map e)) = true from shps_map (fun a => shp_mono (c.sh a) h) l]; rfl
end
/-! operations -/
theorem add_tm {α : Type} {e : α → D} {a b : List α} (h : fitL (a.length + b.length) = true) : binD .Add (.tuple (a.map e)) (.tuple (b.map e)) = some (.tuple ((a ++ b).map e)) := by
  rw [add_tt, List.length_map, List.length_map, if_pos h, List.map_append]
theorem add_lm {α : Type} {e : α → D} {a b : List α} (h : fitL (a.length + b.length) = true) : binD .Add (.list (a.map e)) (.list (b.map e)) = some (.list ((a ++ b).map e)) := by
  rw [add_ll, List.length_map, List.length_map, if_pos h, List.map_append]
theorem add_sf {a b : List Nat} (h : fitL (a.length + b.length) = true) : binD .Add (.str a) (.str b) = some (.str (a ++ b)) := by rw [add_ss, if_pos h]
theorem mod_p {i j : Int} (h : 0 < j) : binD .Mod (.int i) (.int j) = some (.int (i % j)) := by rw [mod_ii, decide_eq_true h]; rfl
theorem fdiv_p {i j : Int} (h : 0 < j) (k : j < 1073741824) : binD .FloorDiv (.int i) (.int j) = some (.int (i / j)) := by rw [fdiv_ii, decide_eq_true h, decide_eq_true k]; rfl
theorem mul_l {i j : Int} (h : smallI i = true) : binD .Mult (.int i) (.int j) = some (.int (i * j)) := by rw [mul_ii, h]; rfl
theorem mul_r {i j : Int} (h : smallI j = true) : binD .Mult (.int i) (.int j) = some (.int (i * j)) := by rw [mul_ii, h, Bool.or_true]; rfl
theorem small_of {i : Int} (h : -1000000000000 ≤ i) (k : i ≤ 1000000000000) : smallI i = true := by
  simp only [smallI, Bool.and_eq_true, decide_eq_true_eq]; omega
theorem len_tm {α : Type} {e : α → D} {l : List α} : biD .len [.tuple (l.map e)] = some (.int l.length) := by rw [len_t, List.length_map]
theorem len_lm {α : Type} {e : α → D} {l : List α} : biD .len [.list (l.map e)] = some (.int l.length) := by rw [len_l, List.length_map]
theorem len_sf {x : List Nat} (h : fitL x.length = true) : biD .len [.str x] = some (.int x.length) := by rw [len_s, if_pos h]
theorem any_m {α : Type} {h : α → Bool} {l : List α} : biD .any [.list (l.map fun x => .bool (h x))] = some (.bool (l.any h)) := by
  rw [any_l, show (l.map fun x => D.bool (h x)) = (l.map h).map D.bool by rw [List.map_map]; rfl, boolsD_map, Option.map_some, List.any_map]; rfl
theorem all_m {α : Type} {h : α → Bool} {l : List α} : biD .all [.list (l.map fun x => .bool (h x))] = some (.bool (l.all h)) := by
  rw [all_l, show (l.map fun x => D.bool (h x)) = (l.map h).map D.bool by rw [List.map_map]; rfl, boolsD_map, Option.map_some, List.all_map]; rfl
theorem sset_m {α : Type} {h : α → Int} {l : List α} (h1 : l.length < 4000) (h2 : (oset (l.map h)).length < 64) : biD .sset [.list (l.map fun x => .int (h x))] = some (.list ((oset (l.map h)).map .int)) := by
  rw [sset_x, lt_l, show (l.map fun x => D.int (h x)) = (l.map h).map D.int by rw [List.map_map]; rfl]
  show ssetD _ = _
  rw [ssetM, List.length_map, decide_eq_true h1, decide_eq_true h2]; rfl
theorem sset_l {l : List Int} (h1 : l.length < 4000) (h2 : (oset l).length < 64) : biD .sset [.list (l.map .int)] = some (.list ((oset l).map .int)) := by
  rw [sset_x, lt_l]
  show ssetD _ = _
  rw [ssetM, decide_eq_true h1, decide_eq_true h2]; rfl
theorem sset_t {l : List Int} (h1 : l.length < 4000) (h2 : (oset l).length < 64) : biD .sset [.tuple (l.map .int)] = some (.list ((oset l).map .int)) := by
  rw [sset_x, lt_t]
  show ssetD _ = _
  rw [ssetM, decide_eq_true h1, decide_eq_true h2]; rfl
theorem ix_of {α : Type} {e : α → D} {l : List α} {i : Int} {a : α} (h0 : 0 ≤ i) (h : l[i.toNat]? = some a) : idxD (.tuple (l.map e)) (.int i) = some (e a) := by
  rw [ix_t]; unfold atD; rw [if_pos h0, List.getElem?_map, h]; rfl
theorem ix_ofL {α : Type} {e : α → D} {l : List α} {i : Int} {a : α} (h0 : 0 ≤ i) (h : l[i.toNat]? = some a) : idxD (.list (l.map e)) (.int i) = some (e a) := by
  rw [ix_l]; unfold atD; rw [if_pos h0, List.getElem?_map, h]; rfl
theorem ix_sf {x : List Nat} {i : Int} {c : Nat} (f : fitL x.length = true) (h0 : 0 ≤ i) (h : x[i.toNat]? = some c) : idxD (.str x) (.int i) = some (.str [c]) := by
  rw [ix_s, if_pos f]; unfold atD; rw [if_pos h0, h]; rfl
/-! what a map of a map is, told as data of one kind -/
theorem map_as {α β : Type} {g : α → D} {l : List α} (e : β → D) (h : α → β) (q : ∀ x, g x = e (h x)) : l.map g = (l.map h).map e := by
  rw [List.map_map]; exact List.map_congr_left fun x _ => q x
theorem map_self {α : Type} (e : α → D) {l : List α} : l.map (fun x => e x) = l.map e := rfl
theorem map_i {α : Type} {f : α → Int} {l : List α} : l.map (fun x => D.int (f x)) = (l.map f).map D.int := by rw [List.map_map]; rfl
theorem map_s {α : Type} {f : α → List Nat} {l : List α} : l.map (fun x => D.str (f x)) = (l.map f).map D.str := by rw [List.map_map]; rfl
theorem map_t3 {α : Type} {f h : α → Int} {g : α → Nat} {l : List α} : l.map (fun x => D.tuple [.int (f x), .str [g x], .int (h x)]) = (l.map fun x => (f x, g x, h x)).map MH.dS := by rw [List.map_map]; rfl
theorem map_tm {α β : Type} {e : β → D} {f : α → List β} {l : List α} : l.map (fun x => D.tuple ((f x).map e)) = (l.map f).map (tupD e) := by rw [List.map_map]; rfl
theorem cq_l0 {α : Type} {e : α → D} {l : List α} (s : ∀ a, shp 59 (e a) = true) : cmpD .Eq (.list (l.map e)) (.list []) = some l.isEmpty := by
  rw [c_eq, show shp 60 (.list (l.map e)) = true from shps_map s l]; cases l <;> rfl
theorem cn_l0 {α : Type} {e : α → D} {l : List α} (s : ∀ a, shp 59 (e a) = true) : cmpD .NotEq (.list (l.map e)) (.list []) = some (!l.isEmpty) := by
  rw [c_ne, show shp 60 (.list (l.map e)) = true from shps_map s l]; cases l <;> rfl
theorem cq_t0 {α : Type} {e : α → D} {l : List α} (s : ∀ a, shp 59 (e a) = true) : cmpD .Eq (.tuple (l.map e)) (.tuple []) = some l.isEmpty := by
  rw [c_eq, show shp 60 (.tuple (l.map e)) = true from shps_map s l]; cases l <;> rfl
theorem cn_t0 {α : Type} {e : α → D} {l : List α} (s : ∀ a, shp 59 (e a) = true) : cmpD .NotEq (.tuple (l.map e)) (.tuple []) = some (!l.isEmpty) := by
  rw [c_ne, show shp 60 (.tuple (l.map e)) = true from shps_map s l]; cases l <;> rfl
theorem app_one {α : Type} {e : α → D} {l : List α} {x : α} : l.map e ++ [e x] = (l ++ [x]).map e := by simp
theorem app_dS {l : List MH.Stp} {a b : Int} {c : Nat} : l.map MH.dS ++ [D.tuple [.int a, .str [c], .int b]] = (l ++ [(a, c, b)]).map MH.dS := by simp [MH.dS]
/-! loops -/
theorem wb_forI {Γ : Gm} {ss : List Sm} {E : Nd} {ρ ρ1 : Evn} {t : Tg} {rg : Bool} {it : List Ex} {b : List Sm} {ds l : List D} {α σ : Type} (xs : List α) {f : α → D} (En : σ → Evn) (I : List α → List α → σ → Prop) (s0 : σ)
    (h : EvS Γ ρ it ds ρ1) (hs : srcD rg ds = some l) (hl : l = xs.map f) (hE : ρ1 = En s0) (h0 : I [] xs s0)
    (step : ∀ pre x rest s (T : Evn → Prop), xs = pre ++ x :: rest → I pre (x :: rest) s → (∀ s', I (pre ++ [x]) rest s' → T (En s')) → ∃ ρ2, TgR t (f x) (En s) ρ2 ∧ wpB Γ b { nx := T, rt := E.rt, bk := wpB Γ ss E, rn := E.rn } ρ2)
    (fin : ∀ s, I xs [] s → wpB Γ ss E (En s)) : wpB Γ (.for t rg it b :: ss) E ρ := by
  subst hl; subst hE
  refine wb_for h hs ?_
  have key : ∀ (rest pre : List α) (s : σ), xs = pre ++ rest → I pre rest s → forW t (wpB Γ b) { E with nx := wpB Γ ss E } (rest.map f) (En s) := by
    intro rest
    induction rest with
    | nil => intro pre s e hI; rw [List.append_nil] at e; subst e; exact fin s hI
    | cons x rest ih =>
      intro pre s e hI
      obtain ⟨ρ2, htg, hb⟩ := step pre x rest s (fun r => forW t (wpB Γ b) { E with nx := wpB Γ ss E } (rest.map f) r) e hI fun s' q => ih (pre ++ [x]) s' (by rw [e]; simp) q
      exact htg.run _ hb
  exact key xs [] s0 rfl h0
/-- a while, by a measure -/
theorem wb_whlI {Γ : Gm} {ss : List Sm} {E : Nd} {ρ : Evn} {c : Co} {b : List Sm} {σ : Type} (En : σ → Evn) (I : σ → Prop) (mea : σ → Nat) (s0 : σ) (hE : ρ = En s0) (h0 : I s0)
    (step : ∀ s (T : Evn → Prop), I s → (∀ s', I s' → mea s' < mea s → T (En s')) → ∃ t ρ1, EvC Γ (En s) c t ρ1 ∧ (t = true → wpB Γ b { nx := T, rt := E.rt, bk := wpB Γ ss E, rn := E.rn } ρ1) ∧ (t = false → wpB Γ ss E ρ1)) : wpB Γ (.whl c b :: ss) E ρ := by
  subst hE
  refine wb_whl ?_
  have key : ∀ (n : Nat) (s : σ), mea s < n → I s → whlW (wpc Γ c) (wpB Γ b) { E with nx := wpB Γ ss E } n (En s) := by
    intro n
    induction n with
    | zero => intro s h; omega
    | succ n ih =>
      intro s h hI
      obtain ⟨t, ρ1, hc, h1, h2⟩ := step s (fun r => whlW (wpc Γ c) (wpB Γ b) { E with nx := wpB Γ ss E } n r) hI fun s' q m => ih s' (by omega) q
      unfold whlW
      refine hc.run _ ?_
      cases t with
      | true => rw [if_pos rfl]; exact h1 rfl
      | false => rw [if_neg (by decide)]; exact h2 rfl
  exact ⟨_, key (mea s0 + 1) s0 (Nat.lt_succ_self _) h0⟩
theorem wp_f {Γ : Gm} {io : List Bool} {n : Nat} {b : List Sm} {ds : List D} {R : D → List D → Prop} {ρ : Evn} (e : ev0 io n ds = ρ) (h : wpB Γ b { nx := fun ρ => bnd (outsO io ρ) (R .none), rt := fun d ρ => bnd (outsO io ρ) (R d) } ρ) : wpD false Γ io n b ds R := by subst e; exact h
theorem wp_n {Γ : Gm} {io : List Bool} {n : Nat} {b : List Sm} {ds : List D} {R : D → List D → Prop} {ρ : Evn} (e : ev0 io n ds = ρ) (h : wpB Γ b { nx := fun _ => False, rt := fun _ _ => False, rn := fun d ρ => bnd (outsO io ρ) (R d) } ρ) : wpD true Γ io n b ds R := by subst e; exact h
theorem ret_of {R : D → List D → Prop} {d d' : D} {o : List D} (h : R d' o) (e : d = d') : R d o := by subst e; exact h
theorem end_of {io : List Bool} {ρ : Evn} {R : D → List D → Prop} {d d' : D} {o : List D} (h : R d' o) (eo : outsO io ρ = some o) (e : d = d') : bnd (outsO io ρ) (R d) := by subst e; rw [eo]; exact h
theorem cast_T {T : Evn → Prop} {ρ ρ' : Evn} (h : T ρ) (e : ρ' = ρ) : T ρ' := by subst e; exact h
section
variable {Γ : Gm} {ss : List Sm} {E : Nd} {ρ ρ1 : Evn}
/-- a for: the slots are told by what has been gone over, and a state -/
theorem wb_forP {t : Tg} {rg : Bool} {it : List Ex} {b : List Sm} {ds l : List D} {α σ : Type} (xs : List α) (f : α → D) (En : List α → σ → Evn) (I : List α → σ → Prop) (s0 : σ)
    (h : EvS Γ ρ it ds ρ1) (hs : srcD rg ds = some l) (hl : Sr l (xs.map f)) (hE : ρ1 = En [] s0) (h0 : I [] s0)
    (step : ∀ pre x rest s (T : Evn → Prop), xs = pre ++ x :: rest → I pre s → (∀ s', I (pre ++ [x]) s' → T (En (pre ++ [x]) s')) → ∃ ρ2, TgR t (f x) (En pre s) ρ2 ∧ wpB Γ b { nx := T, rt := E.rt, bk := wpB Γ ss E, rn := E.rn } ρ2)
    (fin : ∀ s, I xs s → wpB Γ ss E (En xs s)) : wpB Γ (.for t rg it b :: ss) E ρ := by
  rcases hl with ⟨rfl⟩; subst hE
  refine wb_for h hs ?_
  have key : ∀ (rest pre : List α) (s : σ), xs = pre ++ rest → I pre s → forW t (wpB Γ b) { E with nx := wpB Γ ss E } (rest.map f) (En pre s) := by
    intro rest
    induction rest with
    | nil => intro pre s e hI; rw [List.append_nil] at e; subst e; exact fin s hI
    | cons x rest ih =>
      intro pre s e hI
      obtain ⟨ρ2, htg, hb⟩ := step pre x rest s (fun r => forW t (wpB Γ b) { E with nx := wpB Γ ss E } (rest.map f) r) e hI fun s' q => ih (pre ++ [x]) s' (by rw [e]; simp) q
      exact htg.run _ hb
  exact key xs [] s0 rfl h0
end
theorem cq_c {a c : Nat} : cmpD .Eq (.str [a]) (.str [c]) = some (decide (a = c)) := cq_e (e := chrD)
theorem cn_c {a c : Nat} : cmpD .NotEq (.str [a]) (.str [c]) = some (!decide (a = c)) := cn_e (e := chrD)
section
variable {Γ : Gm} {ρ ρ1 ρ2 ρ3 ρ' : Evn}
theorem ev_compLf {α : Type} {ws : List Nat} {t : Tg} {i : Nat} {c : List Co} {e : Ex} {s : Sl} {l : List D} {xs : List α} {f g : α → D} {p : α → Bool} {ρ0 ρw : Evn} {E : α → Evn} {z : List D}
    (h1 : lkS ρ i = some (s, l)) (h3 : Sr l (xs.map f)) (ni : ws.contains i = false) (h0 : ρ.set i .no = ρ0) (no : noOwn ρ0 ws = true) (hw : wipeE ρ0 ws = ρw) (hb : backE ρ0 ρw ws = ρ1) (hs : ρ1.set i s = ρ2)
    (ht : ∀ x, x ∈ xs → TgR t (f x) ρw (E x)) (hwp : ∀ x, wipeE (E x) ws = ρw) (hc : ∀ x, x ∈ xs → EvCs Γ (E x) c (p x) (E x)) (he : ∀ x, x ∈ xs → p x = true → Ev Γ (E x) e (g x) (E x)) (hl : xs.length ≤ 1000000) (hz : Mz ((xs.filter p).map g) z) : Ev Γ ρ (.compL ws t i c e) (.list z) ρ2 := ⟨fun P q => by
  rcases h3 with ⟨rfl⟩
  subst h0
  unfold wp
  rw [h1]
  refine ⟨ni, no, ?_⟩
  rw [hw]
  refine turns_fm E xs hl ht (fun x _ => hwp x) (fun x hx => (hc x hx).run) (fun x hx hp => (he x hx hp).run) ?_
  rw [hb, hs, hz.eq]; exact q⟩
theorem ev_compL0 {α : Type} {ws : List Nat} {t : Tg} {i : Nat} {e : Ex} {s : Sl} {l : List D} {xs : List α} {f g : α → D} {ρ0 ρw : Evn} {E : α → Evn} {z : List D}
    (h1 : lkS ρ i = some (s, l)) (h3 : Sr l (xs.map f)) (ni : ws.contains i = false) (h0 : ρ.set i .no = ρ0) (no : noOwn ρ0 ws = true) (hw : wipeE ρ0 ws = ρw) (hb : backE ρ0 ρw ws = ρ1) (hs : ρ1.set i s = ρ2)
    (ht : ∀ x, x ∈ xs → TgR t (f x) ρw (E x)) (hwp : ∀ x, wipeE (E x) ws = ρw) (he : ∀ x, x ∈ xs → Ev Γ (E x) e (g x) (E x)) (hl : xs.length ≤ 1000000) (hz : Mz (xs.map g) z) : Ev Γ ρ (.compL ws t i [] e) (.list z) ρ2 :=
  ev_compLf (p := fun _ => true) h1 h3 ni h0 no hw hb hs ht hwp (fun x _ => evcs_nil) (fun x hx _ => he x hx) hl ⟨by rw [List.filter_eq_self.mpr fun _ _ => rfl]; exact hz.eq⟩
theorem ev_compLv {ws : List Nat} {t : Tg} {i : Nat} {c : List Co} {e : Ex} {d : D} (h1 : lkS ρ i = none) (h : Ev Γ ρ (.comp ws t false [.var i] c e) d ρ') : Ev Γ ρ (.compL ws t i c e) d ρ' := ⟨fun P q => by
  have := h.run P q
  unfold wp at this
  unfold wp
  rw [h1]
  exact this⟩
def pure1L {α : Type} (e1 : α → D) (pre : α → Prop) (res : α → D) : PT := fun ds R => ∃ a, ds = [e1 a] ∧ pre a ∧ R (res a) [e1 a]
def pure2L {α β : Type} (e1 : α → D) (e2 : β → D) (pre : α → β → Prop) (res : α → β → D) : PT := fun ds R => ∃ a b, ds = [e1 a, e2 b] ∧ pre a b ∧ R (res a b) [e2 b]
def pure3L {α β γ : Type} (e1 : α → D) (e2 : β → D) (e3 : γ → D) (pre : α → β → γ → Prop) (res : α → β → γ → D) : PT := fun ds R => ∃ a b c, ds = [e1 a, e2 b, e3 c] ∧ pre a b c ∧ R (res a b c) [e3 c]
/-- the last argument is a list that is lent -/
theorem ev_call3L {f : Str} {x y : Ex} {i : Nat} {α β γ : Type} {e1 : α → D} {e2 : β → D} {e3 : γ → D} {pre : α → β → γ → Prop} {res : α → β → γ → D} {nw : Bool} {a : α} {b : β} {c : γ} {d d' d'' : D} {z : D} (hF : Γ f = some ⟨[false, false, true], pure3L e1 e2 e3 pre res, nw⟩) (h1 : Ev Γ ρ x d ρ1) (q1 : En d (e1 a)) (h2 : Ev Γ ρ1 y d' ρ2) (q2 : En d' (e2 b))
    (g1 : ioOk ρ [none, none, some i] = true) (g2 : getc ρ2 i = some d'') (q3 : En d'' (e3 c)) (hs : setc ρ2 i d'' = some ρ2) (hp : pre a b c) (hz : res a b c = z) : Ev Γ ρ (.call f [x, y, .var i]) z ρ2 := by
  rcases q1 with ⟨rfl⟩; rcases q2 with ⟨rfl⟩; rcases q3 with ⟨rfl⟩; subst hz
  refine ev_call hF rfl ?_ g1 (eva_val h1 (eva_val h2 (eva_io eva_nil))) ?_ (fun R r => ⟨a, b, c, rfl, hp, r⟩) ?_
  · simp [nodupP]
  · simp only [peekC, g2, Option.bind_some, Option.map_some]
  · simp only [outsE, hs, Option.bind_some]
end
section
variable {Γ : Gm} {ss : List Sm} {E : Nd} {ρ ρ1 : Evn}
/-- a for over a list that is lent -/
theorem wb_forPL {t : Tg} {i : Nat} {b : List Sm} {l : List D} {α σ : Type} (xs : List α) (f : α → D) (En : List α → σ → Evn) (I : List α → σ → Prop) (s0 : σ)
    (h : ioL ρ i = some l) (hl : Sr l (xs.map f)) (hE : ρ = En [] s0) (hk : ∀ pre s, (En pre s)[i]? = some (.io (.list (xs.map f)))) (h0 : I [] s0)
    (step : ∀ pre x rest s (T : Evn → Prop), xs = pre ++ x :: rest → I pre s → (∀ s', I (pre ++ [x]) s' → T (En (pre ++ [x]) s')) → ∃ ρ2, TgR t (f x) (En pre s) ρ2 ∧ wpB Γ b { nx := T, rt := E.rt, bk := wpB Γ ss E, rn := E.rn } ρ2)
    (fin : ∀ s, I xs s → wpB Γ ss E (En xs s)) : wpB Γ (.forL t i b :: ss) E ρ := by
  rcases hl with ⟨rfl⟩; subst hE
  unfold wpB MW.wpS
  rw [h]
  have key : ∀ (rest pre : List α) (s : σ), xs = pre ++ rest → I pre s → forLW t i (.list (xs.map f)) (wpB Γ b) { E with nx := wpB Γ ss E } (rest.map f) (En pre s) := by
    intro rest
    induction rest with
    | nil => intro pre s e hI; rw [List.append_nil] at e; subst e; exact ⟨hk _ _, fin s hI⟩
    | cons x rest ih =>
      intro pre s e hI
      obtain ⟨ρ2, htg, hb⟩ := step pre x rest s (fun r => forLW t i (.list (xs.map f)) (wpB Γ b) { E with nx := wpB Γ ss E } (rest.map f) r) e hI fun s' q => ih (pre ++ [x]) s' (by rw [e]; simp) q
      exact ⟨hk _ _, htg.run _ hb⟩
  exact key xs [] s0 rfl h0
/-- a for over a name that is a value by now -/
theorem wb_forLv {t : Tg} {i : Nat} {b : List Sm} (h : ioL ρ i = none) (k : wpB Γ (.for t false [.var i] b :: ss) E ρ) : wpB Γ (.forL t i b :: ss) E ρ := by
  unfold wpB MW.wpS at k ⊢
  rw [h]
  exact k
end
/-! places and slices of typed lists -/
def enumL {α : Type} (l : List α) : List (Int × α) := l.mapIdx fun i x => ((i : Int), x)
abbrev prI {α : Type} (e : α → D) (p : Int × α) : D := .tuple [.int p.1, e p.2]
theorem enum_map {α : Type} {e : α → D} {l : List α} : ((l.map e).mapIdx fun i x => D.tuple [.int (i : Int), x]) = (enumL l).map (prI e) := by
  unfold enumL
  apply List.ext_getElem?
  intro i
  simp only [List.getElem?_mapIdx, List.getElem?_map, Option.map_map]
  cases l[i]? <;> rfl
theorem enum_tm {α : Type} {e : α → D} {l : List α} : enumD (.tuple (l.map e)) = some (.list ((enumL l).map (prI e))) := by rw [enum_t, enum_map]
theorem enum_lm {α : Type} {e : α → D} {l : List α} : enumD (.list (l.map e)) = some (.list ((enumL l).map (prI e))) := by rw [enum_l, enum_map]
theorem enumL_mem {α : Type} {l : List α} {p : Int × α} (h : p ∈ enumL l) : 0 ≤ p.1 ∧ l[p.1.toNat]? = some p.2 := by
  unfold enumL at h
  obtain ⟨i, hi, e⟩ := List.mem_mapIdx.mp h
  subst e
  exact ⟨Int.natCast_nonneg i, by simp [hi]⟩
theorem enumL_len {α : Type} {l : List α} : (enumL l).length = l.length := by unfold enumL; rw [List.length_mapIdx]
theorem sl_tm {α : Type} {e : α → D} {l : List α} {i : Int} (h : 0 ≤ i) : slcD (.tuple (l.map e)) none (some i) = some (.tuple ((l.take i.toNat).map e)) := by rw [sl_t, cut_to _ h, List.map_take]
theorem sl_lm {α : Type} {e : α → D} {l : List α} {i : Int} (h : 0 ≤ i) : slcD (.list (l.map e)) none (some i) = some (.list ((l.take i.toNat).map e)) := by rw [sl_l, cut_to _ h, List.map_take]
theorem sl_tf {α : Type} {e : α → D} {l : List α} {i : Int} (h : 0 ≤ i) : slcD (.tuple (l.map e)) (some i) none = some (.tuple ((l.drop i.toNat).map e)) := by rw [sl_t, cut_from _ h, List.map_drop]
theorem sl_lf {α : Type} {e : α → D} {l : List α} {i : Int} (h : 0 ≤ i) : slcD (.list (l.map e)) (some i) none = some (.list ((l.drop i.toNat).map e)) := by rw [sl_l, cut_from _ h, List.map_drop]
theorem ix_lm {α : Type} {e : α → D} {l : List α} {i : Int} {k : Nat} {x : α} (hk : l[k]? = some x) (hi : i = (k : Int)) : idxD (.list (l.map e)) (.int i) = some (e x) := by
  subst hi
  rw [ix_l]; unfold atD
  rw [if_pos (Int.natCast_nonneg k)]
  simp [hk]
theorem ix_tm {α : Type} {e : α → D} {l : List α} {i : Int} {k : Nat} {x : α} (hk : l[k]? = some x) (hi : i = (k : Int)) : idxD (.tuple (l.map e)) (.int i) = some (e x) := by
  subst hi
  rw [ix_t]; unfold atD
  rw [if_pos (Int.natCast_nonneg k)]
  simp [hk]
end MW

set_option Elab.async false
set_option linter.all false
set_option maxRecDepth 100000
set_option maxHeartbeats 0
namespace K08
open PySem PySem.Spec PyProof.Rows L2 MW
open MH (b_law_tape b_law_draw b_law_signs_c1 b_law_signs_e2 b_law_signs b_law_some_c1 b_law_some_e2 b_law_some b_law_steps_c1 b_law_steps_e2 b_law_steps_b3 b_law_steps_b4 b_law_steps b_law_single_e1 b_law_single_b2 b_law_single b_law_machine)
/-! ### the text -/
def top (i : Nat) : Stmt := PySem.Challenge.pw_manyways_k08_what_is_of_use.main.body.getD i (.Pass ⟨0, 0, 0, 0⟩)
abbrev s_law_tape : Stmt := top 10
theorem c_law_tape : cSs 200 { N := ["_law_script"], sc := defScope s_law_tape, gl := [], fs := [], bl := ["list"], ms := [], nw := true, nf := [] } (defBody s_law_tape) = some b_law_tape := by kernel_rfl
theorem sc_law_tape : FnScope ["_law_script"] ["_law_script"] (defScope s_law_tape) := C8.fnScope_by (by decide +kernel)
abbrev s_law_draw : Stmt := top 11
theorem c_law_draw : cSs 200 { N := ["_law_tape_here", "_law_many", "_law_spot", "_law_cell", "_law_seed", "_law_found"], sc := defScope s_law_draw, gl := [], fs := [], bl := ["len"], ms := ["_law_tape_here"], nw := false, nf := [] } (defBody s_law_draw) = some b_law_draw := by kernel_rfl
theorem sc_law_draw : FnScope ["_law_tape_here", "_law_many", "_law_spot", "_law_cell", "_law_seed", "_law_found"] ["_law_tape_here", "_law_many"] (defScope s_law_draw) := C8.fnScope_by (by decide +kernel)
abbrev s_law_signs : Stmt := top 12
theorem c_law_signs : cSs 200 { N := ["_law_tape_here", "_law_letters", "_law_bits", "_law_k"], sc := defScope s_law_signs, gl := [], fs := ["_law_draw"], bl := ["range"], ms := ["_law_tape_here"], nw := false, nf := [] } (defBody s_law_signs) = some b_law_signs := by kernel_rfl
theorem sc_law_signs : FnScope ["_law_tape_here", "_law_letters", "_law_bits", "_law_k"] ["_law_tape_here"] (defScope s_law_signs) := C8.fnScope_by (by decide +kernel)
abbrev s_law_some : Stmt := top 13
theorem c_law_some : cSs 200 { N := ["_law_tape_here", "_law_many", "_law_rare", "_law_stand"], sc := defScope s_law_some, gl := [], fs := ["_law_draw"], bl := ["range", "tuple"], ms := ["_law_tape_here"], nw := false, nf := [] } (defBody s_law_some) = some b_law_some := by kernel_rfl
theorem sc_law_some : FnScope ["_law_tape_here", "_law_many", "_law_rare", "_law_stand"] ["_law_tape_here", "_law_many", "_law_rare"] (defScope s_law_some) := C8.fnScope_by (by decide +kernel)
abbrev s_law_steps : Stmt := top 14
theorem c_law_steps : cSs 200 { N := ["_law_tape_here", "_law_signs_here", "_law_many", "_law_rare", "_law_found", "_law_one", "_law_sign", "_law_other"], sc := defScope s_law_steps, gl := [], fs := ["_law_draw"], bl := ["range", "tuple"], ms := ["_law_found", "_law_tape_here"], nw := false, nf := [] } (defBody s_law_steps) = some b_law_steps := by kernel_rfl
theorem sc_law_steps : FnScope ["_law_tape_here", "_law_signs_here", "_law_many", "_law_rare", "_law_found", "_law_one", "_law_sign", "_law_other"] ["_law_tape_here", "_law_signs_here", "_law_many"] (defScope s_law_steps) := C8.fnScope_by (by decide +kernel)
abbrev s_law_single : Stmt := top 15
theorem c_law_single : cSs 200 { N := ["_law_tape_here", "_law_signs_here", "_law_many", "_law_found", "_law_one", "_law_sign"], sc := defScope s_law_single, gl := [], fs := ["_law_draw"], bl := ["range", "tuple"], ms := ["_law_found", "_law_tape_here"], nw := false, nf := [] } (defBody s_law_single) = some b_law_single := by kernel_rfl
theorem sc_law_single : FnScope ["_law_tape_here", "_law_signs_here", "_law_many", "_law_found", "_law_one", "_law_sign"] ["_law_tape_here", "_law_signs_here", "_law_many"] (defScope s_law_single) := C8.fnScope_by (by decide +kernel)
abbrev s_law_machine : Stmt := top 16
theorem c_law_machine : cSs 200 { N := ["_law_tape_here", "_law_most", "_law_signs_here", "_law_many", "_law_begins", "_law_begin"], sc := defScope s_law_machine, gl := [], fs := ["_law_draw", "_law_signs", "_law_some", "_law_steps", "_law_single"], bl := [], ms := ["_law_tape_here"], nw := false, nf := [] } (defBody s_law_machine) = some b_law_machine := by kernel_rfl
theorem sc_law_machine : FnScope ["_law_tape_here", "_law_most", "_law_signs_here", "_law_many", "_law_begins", "_law_begin"] ["_law_tape_here", "_law_most"] (defScope s_law_machine) := C8.fnScope_by (by decide +kernel)
abbrev s_law_come_to : Stmt := top 17
def b_law_come_to_c1 : Co := (.ex (.var 3))
def b_law_come_to_c2 : List Co := [(.and (.ex (.cmp .In (.var 5) (.var 2))) (.ex (.cmp .NotIn (.var 6) (.var 2))))]
def b_law_come_to_e3 : Ex := (.var 6)
def b_law_come_to_b4 : List Sm := [
  .asg (.nm 4) (.bi .sset [(.comp [5, 6] (.tp [(.nm 5), (.nm 6)]) false [(.var 0)] b_law_come_to_c2 b_law_come_to_e3)]),
  .asg (.nm 2) (.bin .Add (.var 2) (.var 4)),
  .asg (.nm 3) (.cmp .NotEq (.var 4) (.lst []))]
def b_law_come_to : List Sm := [
  .asg (.nm 2) (.bi .list [(.var 1)]),
  .asg (.nm 3) (.lit (.bool true)),
  .whl b_law_come_to_c1 b_law_come_to_b4,
  .ret (.bi .tuple [(.bi .sorted [(.var 2)])])]
theorem c_law_come_to : cSs 200 { N := ["_law_pairs", "_law_some_here", "_law_found", "_law_going", "_law_more", "_law_one", "_law_other"], sc := defScope s_law_come_to, gl := [], fs := [], bl := ["list", "set", "sorted", "tuple"], ms := [], nw := false, nf := [] } (defBody s_law_come_to) = some b_law_come_to := by kernel_rfl
theorem sc_law_come_to : FnScope ["_law_pairs", "_law_some_here", "_law_found", "_law_going", "_law_more", "_law_one", "_law_other"] ["_law_pairs", "_law_some_here"] (defScope s_law_come_to) := C8.fnScope_by (by decide +kernel)
abbrev s_law_order : Stmt := top 19
def b_law_order_b1 : List Sm := [
  .app 3 (.pop 2 [(.call "_law_draw" [(.var 0), (.bi .len [(.var 2)])])])]
def b_law_order : List Sm := [
  .own 2 (.bi .lrng [(.var 1)]),
  .own 3 (.lst []),
  .for (.nm 4) true [(.var 1)] b_law_order_b1,
  .ret (.bi .tuple [(.var 3)])]
theorem c_law_order : cSs 200 { N := ["_law_tape_here", "_law_many", "_law_left", "_law_found", "_law_k"], sc := defScope s_law_order, gl := [], fs := ["_law_draw"], bl := ["len", "list", "range", "tuple"], ms := ["_law_found", "_law_left", "_law_tape_here"], nw := false, nf := [] } (defBody s_law_order) = some b_law_order := by kernel_rfl
theorem sc_law_order : FnScope ["_law_tape_here", "_law_many", "_law_left", "_law_found", "_law_k"] ["_law_tape_here", "_law_many"] (defScope s_law_order) := C8.fnScope_by (by decide +kernel)
abbrev s_law_chain : Stmt := top 20
def b_law_chain_b1 : List Sm := [
  .app 3 (.pop 2 [(.call "_law_draw" [(.var 0), (.bi .len [(.var 2)])])])]
def b_law_chain_e2 : Ex := (.tup [(.idx (.var 3) (.bin .Sub (.var 4) (.lit (.int 1)))), (.idx (.lit (.str [97, 98, 121, 122])) (.call "_law_draw" [(.var 0), (.lit (.int 4))])), (.idx (.var 3) (.var 4))])
def b_law_chain_b3 : List Sm := [
  .app 5 (.tup [(.call "_law_draw" [(.var 0), (.var 1)]), (.idx (.lit (.str [97, 98, 121, 122])) (.call "_law_draw" [(.var 0), (.lit (.int 4))])), (.call "_law_draw" [(.var 0), (.var 1)])])]
def b_law_chain : List Sm := [
  .asg (.nm 1) (.bin .Add (.lit (.int 7)) (.call "_law_draw" [(.var 0), (.lit (.int 2))])),
  .own 2 (.bi .lrng [(.var 1)]),
  .own 3 (.lst []),
  .for (.nm 4) true [(.var 1)] b_law_chain_b1,
  .own 5 (.comp [4] (.nm 4) true [(.lit (.int 1)), (.var 1)] [] b_law_chain_e2),
  .for (.nm 4) true [(.call "_law_draw" [(.var 0), (.lit (.int 3))])] b_law_chain_b3,
  .ret (.tup [(.lit (.str [97, 98, 121, 122])), (.var 1), (.tup [(.idx (.var 3) (.lit (.int 0)))]), (.tup [(.idx (.var 3) (.neg (.lit (.int 1))))]), (.bi .tuple [(.bi .sset [(.var 5)])])])]
theorem c_law_chain : cSs 200 { N := ["_law_tape_here", "_law_many", "_law_left", "_law_row", "_law_k", "_law_steps_here"], sc := defScope s_law_chain, gl := [], fs := ["_law_draw"], bl := ["len", "list", "range", "set", "sorted", "tuple"], ms := ["_law_left", "_law_row", "_law_steps_here", "_law_tape_here"], nw := false, nf := [] } (defBody s_law_chain) = some b_law_chain := by kernel_rfl
theorem sc_law_chain : FnScope ["_law_tape_here", "_law_many", "_law_left", "_law_row", "_law_k", "_law_steps_here"] ["_law_tape_here"] (defScope s_law_chain) := C8.fnScope_by (by decide +kernel)
abbrev s_law_called : Stmt := top 18
def b_law_called_c1 : List Co := [(.and (.ex (.cmp .In (.var 10) (.var 1))) (.ex (.cmp .In (.var 12) (.var 1))))]
def b_law_called_e2 : Ex := (.tup [(.idx (.var 1) (.var 10)), (.var 11), (.idx (.var 1) (.var 12))])
def b_law_called_c3 : List Co := [(.ex (.cmp .In (.var 13) (.var 1)))]
def b_law_called_e4 : Ex := (.idx (.var 1) (.var 13))
def b_law_called_e5 : Ex := (.bi .tuple [(.bi .sorted [(.comp [13] (.nm 13) false [(.var 9)] b_law_called_c3 b_law_called_e4)])])
def b_law_called : List Sm := [
  .asg (.tp [(.nm 4), (.nm 5), (.nm 6), (.nm 7), (.nm 8)]) (.var 0),
  .asg (.nm 2) (.comp [10, 11, 12] (.tp [(.nm 10), (.nm 11), (.nm 12)]) false [(.var 8)] b_law_called_c1 b_law_called_e2),
  .asg (.nm 3) (.comp [9] (.nm 9) false [(.tup [(.var 6), (.var 7)])] [] b_law_called_e5),
  .ret (.tup [(.var 4), (.bi .len [(.var 1)]), (.idx (.var 3) (.lit (.int 0))), (.idx (.var 3) (.lit (.int 1))), (.bi .tuple [(.bi .sorted [(.var 2)])])])]
theorem c_law_called : cSs 200 { N := ["_law_machine_here", "_law_names", "_law_found", "_law_parts", "_law_signs_here", "_law_many", "_law_begins", "_law_ends", "_law_steps_here", "_law_some_here", "_law_one", "_law_sign", "_law_other", "_law_stand"], sc := defScope s_law_called, gl := [], fs := [], bl := ["len", "sorted", "tuple"], ms := [], nw := false, nf := [] } (defBody s_law_called) = some b_law_called := by kernel_rfl
theorem sc_law_called : FnScope ["_law_machine_here", "_law_names", "_law_found", "_law_parts", "_law_signs_here", "_law_many", "_law_begins", "_law_ends", "_law_steps_here", "_law_some_here", "_law_one", "_law_sign", "_law_other", "_law_stand"] ["_law_machine_here", "_law_names"] (defScope s_law_called) := C8.fnScope_by (by decide +kernel)
abbrev s_beside : Stmt := top 2
def b_beside_c1 : List Co := [(.and (.ex (.cmp .Eq (.idx (.var 3) (.lit (.int 0))) (.var 1))) (.ex (.cmp .NotIn (.idx (.var 3) (.lit (.int 1))) (.var 2))))]
def b_beside_e2 : Ex := (.idx (.var 3) (.lit (.int 1)))
def b_beside : List Sm := [
  .ret (.bi .sset [(.comp [3] (.nm 3) false [(.var 0)] b_beside_c1 b_beside_e2)])]
theorem c_beside : cSs 200 { N := ["pairs", "stand", "known", "pair"], sc := defScope s_beside, gl := [], fs := [], bl := ["set", "sorted"], ms := ["known"], nw := false, nf := [] } (defBody s_beside) = some b_beside := by kernel_rfl
theorem sc_beside : FnScope ["pairs", "stand", "known", "pair"] ["pairs", "stand", "known"] (defScope s_beside) := C8.fnScope_by (by decide +kernel)
abbrev s_closed : Stmt := top 1
def b_closed_c1 : Co := (.ex (.cmp .Lt (.var 3) (.bi .len [(.var 2)])))
def b_closed_b2 : List Sm := [
  .ext 2 (.call "beside" [(.var 0), (.idx (.var 2) (.var 3)), (.var 2)]),
  .asg (.nm 3) (.bin .Add (.var 3) (.lit (.int 1)))]
def b_closed : List Sm := [
  .own 2 (.bi .list [(.var 1)]),
  .asg (.nm 3) (.lit (.int 0)),
  .whl b_closed_c1 b_closed_b2,
  .ret (.bi .tuple [(.bi .sorted [(.var 2)])])]
theorem c_closed : cSs 200 { N := ["pairs", "some", "found", "at"], sc := defScope s_closed, gl := [], fs := ["beside"], bl := ["len", "list", "sorted", "tuple"], ms := ["found"], nw := false, nf := [] } (defBody s_closed) = some b_closed := by kernel_rfl
theorem sc_closed : FnScope ["pairs", "some", "found", "at"] ["pairs", "some"] (defScope s_closed) := C8.fnScope_by (by decide +kernel)
abbrev s_met : Stmt := top 3
def b_met_e1 : Ex := (.tup [(.idx (.var 1) (.lit (.int 0))), (.idx (.var 1) (.lit (.int 2)))])
def b_met : List Sm := [
  .ret (.call "closed" [(.comp [1] (.nm 1) false [(.idx (.var 0) (.lit (.int 4)))] [] b_met_e1), (.idx (.var 0) (.lit (.int 2)))])]
theorem c_met : cSs 200 { N := ["machine", "step"], sc := defScope s_met, gl := [], fs := ["closed"], bl := [], ms := [], nw := false, nf := [] } (defBody s_met) = some b_met := by kernel_rfl
theorem sc_met : FnScope ["machine", "step"] ["machine"] (defScope s_met) := C8.fnScope_by (by decide +kernel)
abbrev s_in_numbers : Stmt := top 5
def b_in_numbers_c1 : List Co := [(.ex (.cmp .In (.var 2) (.var 0)))]
def b_in_numbers_e2 : Ex := (.idx (.var 0) (.var 2))
def b_in_numbers : List Sm := [
  .ret (.bi .tuple [(.bi .sorted [(.comp [2] (.nm 2) false [(.var 1)] b_in_numbers_c1 b_in_numbers_e2)])])]
theorem c_in_numbers : cSs 200 { N := ["numbers", "some", "stand"], sc := defScope s_in_numbers, gl := [], fs := [], bl := ["sorted", "tuple"], ms := [], nw := false, nf := [] } (defBody s_in_numbers) = some b_in_numbers := by kernel_rfl
theorem sc_in_numbers : FnScope ["numbers", "some", "stand"] ["numbers", "some"] (defScope s_in_numbers) := C8.fnScope_by (by decide +kernel)
abbrev s_numbered_by : Stmt := top 6
def b_numbered_by_c1 : List Co := [(.and (.ex (.cmp .In (.idx (.var 8) (.lit (.int 0))) (.var 1))) (.ex (.cmp .In (.idx (.var 8) (.lit (.int 2))) (.var 1))))]
def b_numbered_by_e2 : Ex := (.var 8)
def b_numbered_by_e3 : Ex := (.tup [(.idx (.var 1) (.idx (.var 8) (.lit (.int 0)))), (.idx (.var 8) (.lit (.int 1))), (.idx (.var 1) (.idx (.var 8) (.lit (.int 2))))])
def b_numbered_by : List Sm := [
  .asg (.tp [(.nm 3), (.nm 4), (.nm 5), (.nm 6), (.nm 7)]) (.var 0),
  .asg (.nm 2) (.comp [8] (.nm 8) false [(.var 7)] b_numbered_by_c1 b_numbered_by_e2),
  .asg (.nm 2) (.bi .sorted [(.comp [8] (.nm 8) false [(.var 2)] [] b_numbered_by_e3)]),
  .ret (.tup [(.var 3), (.bi .len [(.var 1)]), (.call "in_numbers" [(.var 1), (.var 5)]), (.call "in_numbers" [(.var 1), (.var 6)]), (.bi .tuple [(.var 2)])])]
theorem c_numbered_by : cSs 200 { N := ["machine", "numbers", "found", "signs", "many", "begins", "ends", "steps", "step"], sc := defScope s_numbered_by, gl := [], fs := ["in_numbers"], bl := ["len", "sorted", "tuple"], ms := [], nw := false, nf := [] } (defBody s_numbered_by) = some b_numbered_by := by kernel_rfl
theorem sc_numbered_by : FnScope ["machine", "numbers", "found", "signs", "many", "begins", "ends", "steps", "step"] ["machine", "numbers"] (defScope s_numbered_by) := C8.fnScope_by (by decide +kernel)
abbrev s_leading : Stmt := top 4
def b_leading_e1 : Ex := (.tup [(.idx (.var 1) (.lit (.int 2))), (.idx (.var 1) (.lit (.int 0)))])
def b_leading : List Sm := [
  .ret (.call "closed" [(.comp [1] (.nm 1) false [(.idx (.var 0) (.lit (.int 4)))] [] b_leading_e1), (.idx (.var 0) (.lit (.int 3)))])]
theorem c_leading : cSs 200 { N := ["machine", "step"], sc := defScope s_leading, gl := [], fs := ["closed"], bl := [], ms := [], nw := false, nf := [] } (defBody s_leading) = some b_leading := by kernel_rfl
theorem sc_leading : FnScope ["machine", "step"] ["machine"] (defScope s_leading) := C8.fnScope_by (by decide +kernel)
abbrev s_trimmed : Stmt := top 7
def b_trimmed_c1 : List Co := [(.ex (.cmp .In (.var 3) (.var 1)))]
def b_trimmed_e2 : Ex := (.var 3)
def b_trimmed_e3 : Ex := (.tup [(.var 3), (.var 4)])
def b_trimmed : List Sm := [
  .asg (.nm 1) (.call "met" [(.var 0)]),
  .asg (.nm 2) (.comp [3] (.nm 3) false [(.call "leading" [(.var 0)])] b_trimmed_c1 b_trimmed_e2),
  .ite (.ex (.cmp .Eq (.var 2) (.lst []))) [
    .ret (.tup [(.idx (.var 0) (.lit (.int 0))), (.lit (.int 1)), (.tup []), (.tup []), (.tup [])])] [],
  .ret (.call "numbered_by" [(.var 0), (.bi .dpairs [(.comp [4, 3] (.tp [(.nm 4), (.nm 3)]) false [(.enm (.var 2))] [] b_trimmed_e3)])])]
theorem c_trimmed : cSs 200 { N := ["machine", "there", "some", "stand", "number"], sc := defScope s_trimmed, gl := [], fs := ["met", "numbered_by", "leading"], bl := ["dict", "enumerate"], ms := [], nw := false, nf := [] } (defBody s_trimmed) = some b_trimmed := by kernel_rfl
theorem sc_trimmed : FnScope ["machine", "there", "some", "stand", "number"] ["machine"] (defScope s_trimmed) := C8.fnScope_by (by decide +kernel)
abbrev s_renamed : Stmt := top 8
def b_renamed : List Sm := [
  .ret (.call "numbered_by" [(.var 0), (.bi .dpairs [(.enm (.var 1))])])]
theorem c_renamed : cSs 200 { N := ["machine", "numbers"], sc := defScope s_renamed, gl := [], fs := ["numbered_by"], bl := ["dict", "enumerate"], ms := [], nw := false, nf := [] } (defBody s_renamed) = some b_renamed := by kernel_rfl
theorem sc_renamed : FnScope ["machine", "numbers"] ["machine", "numbers"] (defScope s_renamed) := C8.fnScope_by (by decide +kernel)
abbrev s_law : Stmt := top 21
def b_law_e1 : Ex := (.tup [(.idx (.var 11) (.lit (.int 0))), (.idx (.var 11) (.lit (.int 2)))])
def b_law_e2 : Ex := (.tup [(.idx (.var 11) (.lit (.int 2))), (.idx (.var 11) (.lit (.int 0)))])
def b_law_c3 : List Co := [(.ex (.cmp .In (.var 10) (.var 6)))]
def b_law_e4 : Ex := (.var 10)
def b_law_e5 : Ex := (.tup [(.var 10), (.var 12)])
def b_law_b6 : List Sm := [
  .asg (.nm 3) (.call "_law_machine" [(.var 1), (.lit (.int 6))]),
  .ite (.and (.ex (.cmp .Eq (.var 2) (.lit (.int 0)))) (.ex (.cmp .Eq (.call "_law_draw" [(.var 1), (.lit (.int 3))]) (.lit (.int 0))))) [
    .asg (.nm 3) (.call "_law_chain" [(.var 1)])] [],
  .asg (.nm 4) (.bi .repr [(.var 3)]),
  .asg (.nm 5) (.call "_law_come_to" [(.comp [11] (.nm 11) false [(.idx (.var 3) (.lit (.int 4)))] [] b_law_e1), (.idx (.var 3) (.lit (.int 2)))]),
  .asg (.nm 6) (.call "_law_come_to" [(.comp [11] (.nm 11) false [(.idx (.var 3) (.lit (.int 4)))] [] b_law_e2), (.idx (.var 3) (.lit (.int 3)))]),
  .ite (.or (.ex (.cmp .NotEq (.bi .repr [(.call "met" [(.var 3)])]) (.bi .repr [(.var 5)]))) (.ex (.cmp .NotEq (.bi .repr [(.call "leading" [(.var 3)])]) (.bi .repr [(.var 6)])))) [
    .ret (.lit (.bool false))] [],
  .asg (.nm 7) (.comp [10] (.nm 10) false [(.var 5)] b_law_c3 b_law_e4),
  .asg (.nm 8) (.tup [(.idx (.var 3) (.lit (.int 0))), (.lit (.int 1)), (.tup []), (.tup []), (.tup [])]),
  .ite (.ex (.cmp .NotEq (.var 7) (.lst []))) [
    .asg (.nm 8) (.call "_law_called" [(.var 3), (.bi .dpairs [(.comp [12, 10] (.tp [(.nm 12), (.nm 10)]) false [(.enm (.var 7))] [] b_law_e5)])])] [],
  .ite (.ex (.cmp .NotEq (.bi .repr [(.call "trimmed" [(.var 3)])]) (.bi .repr [(.var 8)]))) [
    .ret (.lit (.bool false))] [],
  .asg (.nm 9) (.call "_law_order" [(.var 1), (.idx (.var 3) (.lit (.int 1)))]),
  .ite (.ex (.cmp .NotEq (.bi .repr [(.call "renamed" [(.var 3), (.var 9)])]) (.bi .repr [(.call "_law_called" [(.var 3), (.bi .dpairs [(.enm (.var 9))])])]))) [
    .ret (.lit (.bool false))] [],
  .ite (.or (.ex (.cmp .NotEq (.bi .repr [(.call "met" [(.var 3)])]) (.bi .repr [(.var 5)]))) (.ex (.cmp .NotEq (.bi .repr [(.call "leading" [(.var 3)])]) (.bi .repr [(.var 6)])))) [
    .ret (.lit (.bool false))] [],
  .ite (.or (.ex (.cmp .NotEq (.bi .repr [(.call "trimmed" [(.var 3)])]) (.bi .repr [(.var 8)]))) (.ex (.cmp .NotEq (.bi .repr [(.var 3)]) (.var 4)))) [
    .ret (.lit (.bool false))] []]
def b_law : List Sm := [
  .own 1 (.call "_law_tape" [(.var 0)]),
  .for (.nm 2) true [(.lit (.int 5))] b_law_b6,
  .ret (.lit (.bool true))]
theorem c_law : cSs 200 { N := ["_law_script", "_law_tape_here", "_law_k", "_law_machine_here", "_law_shot", "_law_there", "_law_back", "_law_some_here", "_law_due", "_law_numbers", "_law_stand", "_law_step", "_law_at"], sc := defScope s_law, gl := [], fs := ["_law_tape", "_law_draw", "_law_machine", "_law_come_to", "_law_order", "_law_chain", "_law_called", "met", "leading", "trimmed", "renamed"], bl := ["dict", "enumerate", "range", "repr"], ms := ["_law_tape_here"], nw := false, nf := ["_law_tape"] } (defBody s_law) = some b_law := by kernel_rfl
theorem sc_law : FnScope ["_law_script", "_law_tape_here", "_law_k", "_law_machine_here", "_law_shot", "_law_there", "_law_back", "_law_some_here", "_law_due", "_law_numbers", "_law_stand", "_law_step", "_law_at"] ["_law_script"] (defScope s_law) := C8.fnScope_by (by decide +kernel)
end K08

set_option Elab.async false
set_option linter.all false
set_option maxRecDepth 100000
set_option maxHeartbeats 0
/- lengths -/
local macro_rules | `(tactic| array_mem_dec) => `(tactic| first
  | assumption | omega
  | (simp only [List.length_map, List.length_append, List.length_cons, List.length_nil, List.length_range, List.length_reverse, List.length_singleton]; first | done | omega)
  | (refine Nat.le_trans (List.length_filter_le _ _) ?_; array_mem_dec)
  | (rw [List.length_map]; refine Nat.le_trans (List.length_filter_le _ _) ?_; array_mem_dec)
  | (refine Nat.lt_of_le_of_lt (List.length_filter_le _ _) ?_; array_mem_dec)
  | (rw [List.length_map]; refine Nat.lt_of_le_of_lt (List.length_filter_le _ _) ?_; array_mem_dec))
/- one step -/
local macro_rules | `(tactic| array_get_dec) => `(tactic| first
  | (show MW.Ev _ _ _ _ _; first
    | apply MW.ev_var | exact MW.ev_lit | apply MW.ev_idx | apply MW.ev_cmp | apply MW.ev_bin | apply MW.ev_bi | apply MW.ev_tup | apply MW.ev_lst | apply MW.ev_slc
    | (apply MW.ev_call1; (· assumption)) | (apply MW.ev_call2; (· assumption)) | (apply MW.ev_call3; (· assumption)) | (apply MW.ev_call4; (· assumption)) | (apply MW.ev_call3L; (· assumption))
    | apply MW.ev_comp0 | apply MW.ev_compf | apply MW.ev_compL0 | apply MW.ev_compLf
    | apply MW.ev_and | apply MW.ev_or | apply MW.ev_not | apply MW.ev_ife | apply MW.ev_neg | apply MW.ev_cmp2 | apply MW.ev_enm | apply MW.ev_me | exact MW.ev_glo)
  | (show MW.EvO _ _ _ _ _; first | apply MW.evo_var | apply MW.evo_bld)
  | (show MW.EvL _ _ _ _ _; first | exact MW.evl_nil | apply MW.evl_cons)
  | (show MW.EvS _ _ _ _ _; first | exact MW.evs_nil | apply MW.evs_cons)
  | (show MW.EvA _ _ _ _ _ _; first | exact MW.eva_nil | apply MW.eva_val | apply MW.eva_io)
  | (show MW.EvPt _ _ _ _ _; first | exact MW.evp_none | apply MW.evp_some)
  | (show MW.EvC _ _ _ _ _; first | apply MW.evc_ex | apply MW.evc_and | apply MW.evc_or | apply MW.evc_not)
  | (show MW.EvCs _ _ _ _ _; first | exact MW.evcs_nil | apply MW.evcs_one)
  | (show MW.TgR _ _ _ _; first | apply MW.tg_nm | apply MW.tg_tp)
  | (show MW.TgsR _ _ _ _; first | exact MW.tgs_nil | apply MW.tgs_cons)
  | (show MW.wpB _ _ _ _; first
    | apply MW.wb_asg | apply MW.wb_own | apply MW.wb_app | apply MW.wb_ext | apply MW.wb_ite | apply MW.wb_ret | apply MW.wb_nil | apply MW.wb_par | apply MW.wb_rvs | apply MW.wb_retF | apply MW.wb_retN | apply MW.wb_retO | apply MW.wb_ex | apply MW.wb_brk | apply MW.wb_pass
    | (apply MW.wb_setL; rfl) | (apply MW.wb_setD; rfl))
  | (show (_ : Option MW.Evn) = some _; first
    | (apply MW.setv_ok; (· exact rfl); (· first | rfl | exact MW.isFr_or (by assumption))) | (apply MW.setc_own; (· exact rfl)) | (apply MW.setc_io; (· exact rfl)) | apply MW.setvs_ok | exact MW.setvs_nil | exact rfl)
  | (show (_ : MW.Evn) = _; first
    | (simp only [List.set_cons_zero, List.set_cons_succ] <;> rfl)
    | (simp only [MW.backE, MW.wipeE, List.getElem?_cons_zero, List.getElem?_cons_succ, List.set_cons_zero, List.set_cons_succ] <;> rfl)
    | exact rfl | (simp; done))
  | (show (_ : Option (MW.D × MW.Evn)) = some _; first | (apply MW.rdv_val; exact rfl) | (apply MW.rdv_own; (· exact rfl)))
  | (show (_ : Option (List MW.D)) = some _; first
    | exact MW.src_t | exact MW.src_l | exact MW.src_s
    | (refine MW.src_r1 ?_ ?_ <;> first | decide | omega | skip)
    | (refine MW.src_r2 ?_ ?_ ?_ ?_ <;> first | decide | omega | skip)
    | exact rfl)
  | (show MW.Sr _ _; first | exact MW.Sr.mk rfl | exact MW.Sr.mk (MW.asMap_id _))
  | (show MW.Mz _ _; first
    | exact MW.Mz.mk (MW.map_self MW.D.int) | exact MW.Mz.mk (MW.map_self MW.D.str) | exact MW.Mz.mk (MW.map_self MH.dS) | exact MW.Mz.mk (MW.map_self MW.D.bool)
    | exact MW.Mz.mk MW.map_i | exact MW.Mz.mk MW.map_s | exact MW.Mz.mk MW.map_t3 | exact MW.Mz.mk MW.map_tm | exact MW.Mz.mk rfl)
  | (show MW.Cz _ _; first
    | exact MW.Cz.mk MW.app_map | exact MW.Cz.mk (MW.app_one (e := MW.D.int)) | exact MW.Cz.mk (MW.app_one (e := MW.D.str)) | exact MW.Cz.mk (MW.app_one (e := MW.D.bool)) | exact MW.Cz.mk (MW.app_one (e := MW.intsT)) | exact MW.Cz.mk MW.app_dS | exact MW.Cz.mk rfl)
  | (show MW.Iz _ _; first
    | exact MW.Iz.mk MW.ite_int | exact MW.Iz.mk MW.ite_str | exact MW.Iz.mk MW.ite_bool | exact MW.Iz.mk (MW.ite_tupm MW.D.int) | exact MW.Iz.mk (MW.ite_lstm MW.D.int) | exact MW.Iz.mk rfl)
  | (show MW.En _ _; exact MW.En.mk rfl)
  | (show MW.cmpD _ _ _ = some _; first
    | exact MW.cq_c | exact MW.cq_i | exact MW.cq_s | exact MW.cq_b | exact MW.cn_c | exact MW.cn_i | exact MW.cn_s | exact MW.cn_b
    | exact MW.lt_ii _ _ | exact MW.gt_ii _ _ | exact MW.le_ii _ _ | exact MW.ge_ii _ _ | exact MW.lt_ss _ _
    | exact MW.in_te (e := MW.D.int) | exact MW.in_le (e := MW.D.int) | exact MW.nin_te (e := MW.D.int) | exact MW.nin_le (e := MW.D.int)
    | exact MW.is_n _ | exact MW.isn_n _ | exact MW.is_bb _ _ | exact MW.isn_bb _ _
    | exact MW.cq_l0 (fun _ => rfl) | exact MW.cn_l0 (fun _ => rfl) | exact MW.cq_t0 (fun _ => rfl) | exact MW.cn_t0 (fun _ => rfl)
    | exact MW.cq_e (e := MW.intsT) | exact MW.cq_e (e := MW.tupD MW.D.int) | exact MW.cq_e (e := MW.lstD MW.D.int)
    | exact MW.cn_e (e := MW.intsT) | exact MW.cn_e (e := MW.tupD MW.D.int) | exact MW.cn_e (e := MW.lstD MW.D.int)
    | exact MW.in_te (e := MW.D.str) | exact MW.in_le (e := MW.D.str) | exact MW.nin_te (e := MW.D.str) | exact MW.nin_le (e := MW.D.str)
    | exact of_eq_true (eq_true (by assumption)))
  | (show MW.binD _ _ _ = some _; first
    | exact MW.add_ii _ _ | exact MW.sub_ii _ _ | (refine MW.add_sf ?_) | (refine MW.add_tm ?_) | (refine MW.add_lm ?_)
    | (refine MW.mod_p ?_; first | decide | omega | skip)
    | (refine MW.fdiv_p ?_ ?_ <;> first | decide | omega | skip)
    | (refine MW.mul_r ?_; first | decide | (refine MW.small_of ?_ ?_ <;> omega))
    | (refine MW.mul_l ?_; first | decide | (refine MW.small_of ?_ ?_ <;> omega))
    | exact of_eq_true (eq_true (by assumption)) | exact rfl)
  | (show MW.biD _ _ = some _; first
    | exact MW.len_tm | exact MW.len_lm | (refine MW.len_sf ?_) | exact MW.any_m | exact MW.all_m
    | exact MW.tup_l _ | exact MW.tup_t _ | exact MW.lst_l _ | exact MW.lst_t _
    | (refine MW.sset_l ?_ ?_) | (refine MW.sset_t ?_ ?_) | (refine MW.sset_m ?_ ?_)
    | exact of_eq_true (eq_true (by assumption)) | exact rfl)
  | (show MW.slcD _ _ _ = some _; first | (refine MW.sl_tm ?_; omega) | (refine MW.sl_lm ?_; omega) | (refine MW.sl_tf ?_; omega) | (refine MW.sl_lf ?_; omega) | exact of_eq_true (eq_true (by assumption)) | exact rfl)
  | (show MW.enumD _ = some _; first | exact MW.enum_tm | exact MW.enum_lm | exact MW.enum_l _ | exact MW.enum_t _)
  | (show (_ : Option MW.D) = some _; first | exact of_eq_true (eq_true (by assumption)) | exact rfl)
  | (show (_ : Option Bool) = some _; first | exact MW.t_b _ | exact MW.t_i _ | exact MW.t_l _ | exact MW.t_t _ | exact rfl)
  | (show MW.fitL _ = true; refine MW.fitL_of ?_; array_mem_dec)
  | (show MW.noOwn _ _ = true; first | rfl | (simp only [MW.noOwn, MW.getc_e, List.all_cons, List.all_nil, List.getElem?_cons_zero, List.getElem?_cons_succ, Option.bind_some, MW.isFr_no, MW.isFr_val, if_true, Option.isNone_none, Bool.and_self, *]; done))
  | (intro _ _ _; show MW.Ev _ _ _ _ _)
  | (intro _ _; first | (show MW.Ev _ _ _ _ _) | (show MW.EvCs _ _ _ _ _) | (show MW.TgR _ _ _ _) | exact rfl)
  | (intro _; first
    | (show MW.Ev _ _ _ _ _) | (show MW.EvC _ _ _ _ _)
    | (show (_ : MW.Evn) = _; first
      | (simp only [MW.backE, MW.wipeE, List.getElem?_cons_zero, List.getElem?_cons_succ, List.set_cons_zero, List.set_cons_succ] <;> rfl) | exact rfl))
  | (show (_ : Nat) ≤ _; array_mem_dec)
  | (show (_ : Nat) < _; array_mem_dec)
  | with_reducible exact of_eq_true (eq_true (by assumption))
  | exact rfl)

namespace K08
open PySem MW MH
/-! ### sorted ints -/
theorem le_int (a b : Int) : leD (.int a) (.int b) = decide (a ≤ b) := by
  show (!PySem.W.dataLt (py (.int b)) (py (.int a))) = _
  have : PySem.W.dataLt (py (.int b)) (py (.int a)) = decide (b < a) := dlt_i b a
  rw [this, Bool.eq_iff_iff]
  simp
theorem sort_ints (l : List Int) : (l.map D.int).mergeSort leD = (isort l).map D.int := (List.map_mergeSort fun a _ b _ => (le_int a b).symm).symm
theorem sortable_ints (l : List Int) : sortable (l.map D.int) = true := by
  unfold sortable
  rw [Bool.and_eq_true, Bool.and_eq_true, Bool.or_eq_true]
  refine ⟨⟨?_, ?_⟩, .inr ?_⟩
  · rw [List.all_eq_true]; intro x hx
    rw [List.all_eq_true]; intro y hy
    obtain ⟨a, _, rfl⟩ := List.mem_map.mp hx
    obtain ⟨b, _, rfl⟩ := List.mem_map.mp hy
    rfl
  · rw [List.all_eq_true]; intro x hx
    obtain ⟨a, _, rfl⟩ := List.mem_map.mp hx
    rfl
  · rw [List.all_eq_true]; intro x hx
    obtain ⟨a, _, rfl⟩ := List.mem_map.mp hx
    rfl
theorem srt_int {l : List Int} : biD .sorted [.list (l.map .int)] = some (.list ((isort l).map .int)) := by rw [srt_l, sortable_ints, sort_ints]; rfl
theorem srt_st {l : List Stp} : biD .sorted [.list (l.map dS)] = some (.list ((srt l).map dS)) := by rw [srt_l, sortable_dS, sort_dS]; rfl
theorem isort_perm (l : List Int) : (isort l).Perm l := List.mergeSort_perm _ _
theorem mem_isort {l : List Int} {x : Int} : x ∈ isort l ↔ x ∈ l := (isort_perm l).mem_iff
theorem isort_ris {l : List Int} (nd : l.Nodup) : Ris (isort l) := by
  have h1 : (isort l).Pairwise (· ≤ ·) := (List.pairwise_mergeSort (le := fun (a b : Int) => decide (a ≤ b)) (fun a b c h q => by simp only [decide_eq_true_eq] at *; omega) (fun a b => by simp only [Bool.or_eq_true, decide_eq_true_eq]; omega) l).imp fun {a b} h => of_decide_eq_true h
  have h2 : (isort l).Nodup := (isort_perm l).nodup_iff.mpr nd
  exact (h1.and h2).imp fun {a b} q => by have := q.1; have := q.2; omega
/-! ### what is come to -/
abbrev Pr := Int × Int
def dP (p : Pr) : D := .tuple [.int p.1, .int p.2]
inductive Reach (ps : List Pr) (s : List Int) : Int → Prop
  | base {x : Int} : x ∈ s → Reach ps s x
  | step {x y : Int} : Reach ps s x → (x, y) ∈ ps → Reach ps s y
open Classical in
noncomputable def clo (ps : List Pr) (s : List Int) : List Int := ((List.range 8).map fun (k : Nat) => (k : Int)).filter fun x => decide (Reach ps s x)
theorem clo_ris (ps : List Pr) (s : List Int) : Ris (clo ps s) := by
  refine List.Pairwise.filter _ ?_
  show ((List.range 8).map fun (k : Nat) => (k : Int)).Pairwise (· < ·)
  decide
theorem mem_clo {ps : List Pr} {s : List Int} {x : Int} : x ∈ clo ps s ↔ (0 ≤ x ∧ x < 8) ∧ Reach ps s x := by
  unfold clo
  rw [List.mem_filter, List.mem_map]
  simp only [decide_eq_true_eq, List.mem_range]
  constructor
  · rintro ⟨⟨k, hk, rfl⟩, h⟩; exact ⟨⟨by omega, by omega⟩, h⟩
  · rintro ⟨⟨h0, h1⟩, h⟩; exact ⟨⟨x.toNat, by omega, by omega⟩, h⟩
structure Pk (ps : List Pr) : Prop where
  b : ∀ p ∈ ps, 0 ≤ p.2 ∧ p.2 < 8
  l : ps.length ≤ 256
/-- a list on the way -/
structure On (ps : List Pr) (s l : List Int) : Prop where
  nd : l.Nodup
  b : ∀ k ∈ l, 0 ≤ k ∧ k < 8
  st : ∀ k ∈ s, k ∈ l
  r : ∀ k ∈ l, Reach ps s k
theorem On.len {ps : List Pr} {s l : List Int} (h : On ps s l) : l.length ≤ 8 := len_of_range (n := 8) h.nd h.b
theorem On.start {ps : List Pr} {s : List Int} (h : St 8 s) : On ps s s := ⟨h.r.nodup, h.b, fun k q => q, fun k q => .base q⟩
theorem On.add {ps : List Pr} {s l m : List Int} (h : On ps s l) (nm : m.Nodup) (hm : ∀ j ∈ m, j ∉ l ∧ (0 ≤ j ∧ j < 8) ∧ ∃ k ∈ l, (k, j) ∈ ps) : On ps s (l ++ m) := by
  refine ⟨?_, fun k hk => ?_, fun k hk => List.mem_append_left _ (h.st k hk), fun k hk => ?_⟩
  · rw [List.nodup_append]
    exact ⟨h.nd, nm, fun x hx y hy e => (hm y hy).1 (e ▸ hx)⟩
  · rcases List.mem_append.mp hk with z | z
    · exact h.b k z
    · exact (hm k z).2.1
  · rcases List.mem_append.mp hk with z | z
    · exact h.r k z
    · obtain ⟨q, h1, h2⟩ := (hm k z).2.2
      exact .step (h.r q h1) h2
theorem On.fin {ps : List Pr} {s l : List Int} (h : On ps s l) (c : ∀ p ∈ ps, p.1 ∈ l → p.2 ∈ l) : isort l = clo ps s := by
  have key : ∀ x, Reach ps s x → x ∈ l := fun x hx => by
    induction hx with
    | base h1 => exact h.st _ h1
    | step _ h2 ih => exact c _ h2 ih
  refine ris_ext (isort_ris h.nd) (clo_ris ps s) fun x => ?_
  rw [mem_isort, mem_clo]
  exact ⟨fun hx => ⟨h.b x hx, h.r x hx⟩, fun hx => key x hx.2⟩
/-! ### numbers for stands -/
def dF (f : List Pr) : D := .dict (f.map fun p => .int p.1) (f.map fun p => .int p.2)
def lk : List Pr → Int → Option Int
  | [], _ => none
  | p :: f, x => if p.1 = x then some p.2 else lk f x
def hs (f : List Pr) (x : Int) : Bool := decide (x ∈ f.map (·.1))
theorem eqK_i (i j : Int) : eqK (.int i) (.int j) = decide (i = j) := by
  show (i == j) = _
  rw [Bool.eq_iff_iff]; simp
theorem dget_F : ∀ (f : List Pr) (x : Int), dget (f.map fun p => D.int p.1) (f.map fun p => D.int p.2) (.int x) = (lk f x).map D.int
  | [], _ => rfl
  | p :: f, x => by
    show (if eqK (.int p.1) (.int x) = true then some (D.int p.2) else dget _ _ _) = _
    rw [eqK_i, dget_F f x]
    by_cases h : p.1 = x <;> simp [h, lk]
theorem any_F (f : List Pr) (x : Int) : ((f.map fun p => D.int p.1).any fun k => eqK k (.int x)) = hs f x := by
  unfold hs
  rw [List.any_map, Bool.eq_iff_iff, List.any_eq_true, decide_eq_true_eq, List.mem_map]
  constructor
  · rintro ⟨p, hp, h⟩
    have : decide (p.1 = x) = true := by rw [← eqK_i]; exact h
    exact ⟨p, hp, of_decide_eq_true this⟩
  · rintro ⟨p, hp, rfl⟩
    exact ⟨p, hp, by show eqK (.int p.1) (.int p.1) = true; rw [eqK_i]; simp⟩
theorem kfit_F (f : List Pr) (x : Int) : kfit (f.map fun p => D.int p.1) (.int x) = true := by
  unfold kfit
  rw [List.all_map, List.all_eq_true]
  intro p _
  rfl
theorem in_F {f : List Pr} {x : Int} : cmpD .In (.int x) (dF f) = some (hs f x) := by
  show (if isKey (D.int x) && kfit (f.map fun p => D.int p.1) (.int x) then some ((f.map fun p => D.int p.1).any fun k => eqK k (.int x)) else none) = _
  rw [kfit_F, any_F]; rfl
def vl (f : List Pr) (x : Int) : Int := (lk f x).getD 0
theorem lk_hs : ∀ {f : List Pr} {x : Int}, hs f x = true → lk f x = some (vl f x)
  | [], x, h => by simp [hs] at h
  | p :: f, x, h => by
    unfold vl lk
    by_cases e : p.1 = x
    · simp [e]
    · have : hs f x = true := by
        unfold hs at h ⊢
        simp only [List.map_cons, List.mem_cons, decide_eq_true_eq] at h ⊢
        rcases h with h | h
        · exact absurd h.symm e
        · exact h
      rw [if_neg e, lk_hs this]; rfl
theorem ix_F {f : List Pr} {x : Int} (h : hs f x = true) : idxD (dF f) (.int x) = some (.int (vl f x)) := by
  show (if isKey (D.int x) && kfit (f.map fun p => D.int p.1) (.int x) then dget (f.map fun p => D.int p.1) (f.map fun p => D.int p.2) (.int x) else none) = _
  rw [kfit_F, dget_F, lk_hs h]; rfl
theorem vl_mem : ∀ {f : List Pr} {x : Int}, hs f x = true → ∃ p ∈ f, vl f x = p.2
  | [], x, h => by simp [hs] at h
  | p :: f, x, h => by
    by_cases e : p.1 = x
    · exact ⟨p, List.mem_cons_self, by simp [vl, lk, e]⟩
    · have : hs f x = true := by
        unfold hs at h ⊢
        simp only [List.map_cons, List.mem_cons, decide_eq_true_eq] at h ⊢
        rcases h with h | h
        · exact absurd h.symm e
        · exact h
      obtain ⟨q, hq, h2⟩ := vl_mem this
      exact ⟨q, List.mem_cons_of_mem _ hq, by rw [← h2]; simp [vl, lk, e]⟩
/-- the dict of pairs of ints -/
def put1 (f : List Pr) (k v : Int) : List Pr := if hs f k then f.map fun p => if p.1 = k then (p.1, v) else p else f ++ [(k, v)]
def puts (l : List Pr) (f : List Pr) : List Pr := l.foldl (fun f p => put1 f p.1 p.2) f
theorem dset_F (k v : Int) : ∀ f : List Pr, dset (f.map fun p => D.int p.1) (f.map fun p => D.int p.2) (.int k) (.int v) = (f.map fun p => if p.1 = k then (p.1, v) else p).map fun p => D.int p.2
  | [] => rfl
  | p :: f => by
    show (if eqK (.int p.1) (.int k) = true then D.int v else D.int p.2) :: dset (f.map fun p => D.int p.1) (f.map fun p => D.int p.2) (.int k) (.int v) = _
    rw [dset_F k v f, eqK_i, List.map_cons, List.map_cons]
    by_cases h : p.1 = k <;> simp [h]
theorem put_K (f : List Pr) (k v : Int) : dputK (f.map fun p => D.int p.1) (.int k) = (put1 f k v).map fun p => D.int p.1 := by
  unfold dputK put1
  rw [any_F]
  cases hs f k
  · simp
  · simp only [if_true, List.map_map]
    refine List.map_congr_left fun p _ => ?_
    show D.int p.1 = D.int (if p.1 = k then (p.1, v) else p).1
    by_cases h : p.1 = k <;> simp [h]
theorem put_V (f : List Pr) (k v : Int) : dputV (f.map fun p => D.int p.1) (f.map fun p => D.int p.2) (.int k) (.int v) = (put1 f k v).map fun p => D.int p.2 := by
  unfold dputV put1
  rw [any_F]
  cases hs f k
  · simp
  · simp only [if_true]
    exact dset_F k v f
theorem putAll_F : ∀ (l f : List Pr), putAll (l.map fun p => (D.int p.1, D.int p.2)) (f.map fun p => D.int p.1) (f.map fun p => D.int p.2) = ((puts l f).map fun p => D.int p.1, (puts l f).map fun p => D.int p.2)
  | [], f => rfl
  | p :: l, f => by
    show putAll (l.map fun p => (D.int p.1, D.int p.2)) (dputK (f.map fun p => D.int p.1) (.int p.1)) (dputV (f.map fun p => D.int p.1) (f.map fun p => D.int p.2) (.int p.1) (.int p.2)) = _
    rw [put_K f p.1 p.2, put_V, putAll_F l (put1 f p.1 p.2)]
    rfl
theorem pairsD_F : ∀ l : List Pr, pairsD (l.map dP) = some (l.map fun p => (D.int p.1, D.int p.2))
  | [] => rfl
  | p :: l => by
    show (if isKey (D.int p.1) && !isTup (D.int p.1) then (pairsD (l.map dP)).map ((D.int p.1, D.int p.2) :: ·) else none) = _
    rw [pairsD_F l]; rfl
theorem dict_F {l : List Pr} (h : l.length ≤ 1000) : biD .dpairs [.list (l.map dP)] = some (dF (puts l [])) := by
  rw [dpairs_l, pairsD_F, if_pos (fit_of (by rw [List.length_map]; omega))]
  show some (D.dict (putAll (l.map fun p => (D.int p.1, D.int p.2)) ([] : List D) []).1 (putAll (l.map fun p => (D.int p.1, D.int p.2)) ([] : List D) []).2) = _
  rw [show putAll (l.map fun p => (D.int p.1, D.int p.2)) [] [] = _ from putAll_F l []]
  rfl
/-- numbers that are small -/
def Fk (f : List Pr) : Prop := f.length ≤ 1000 ∧ ∀ p ∈ f, 0 ≤ p.2 ∧ p.2 < 1000
theorem put1_k {f : List Pr} {k v : Int} {n : Nat} (h : f.length ≤ n ∧ ∀ p ∈ f, 0 ≤ p.2 ∧ p.2 < 1000) (hv : 0 ≤ v ∧ v < 1000) : (put1 f k v).length ≤ n + 1 ∧ ∀ p ∈ put1 f k v, 0 ≤ p.2 ∧ p.2 < 1000 := by
  unfold put1
  cases hs f k
  · simp only [Bool.false_eq_true, if_false, List.length_append, List.length_singleton]
    refine ⟨by omega, fun p hp => ?_⟩
    rcases List.mem_append.mp hp with z | z
    · exact h.2 p z
    · rw [List.mem_singleton] at z; rw [z]; exact hv
  · simp only [if_true, List.length_map]
    refine ⟨by omega, fun p hp => ?_⟩
    obtain ⟨q, hq, rfl⟩ := List.mem_map.mp hp
    split
    · exact hv
    · exact h.2 q hq
theorem puts_k : ∀ (l f : List Pr) (n : Nat), (∀ p ∈ l, 0 ≤ p.2 ∧ p.2 < 1000) → (f.length ≤ n ∧ ∀ p ∈ f, 0 ≤ p.2 ∧ p.2 < 1000) → (puts l f).length ≤ n + l.length ∧ ∀ p ∈ puts l f, 0 ≤ p.2 ∧ p.2 < 1000
  | [], f, n, _, h => h
  | p :: l, f, n, hl, h => by
    have := puts_k l (put1 f p.1 p.2) (n + 1) (fun q hq => hl q (List.mem_cons_of_mem _ hq)) (put1_k h (hl p List.mem_cons_self))
    refine ⟨?_, this.2⟩
    have := this.1
    show (puts l (put1 f p.1 p.2)).length ≤ _
    rw [List.length_cons]; omega
theorem fk_puts {l : List Pr} (h : l.length ≤ 1000) (hl : ∀ p ∈ l, 0 ≤ p.2 ∧ p.2 < 1000) : Fk (puts l []) := by
  have := puts_k l [] 0 hl ⟨Nat.le_refl _, fun p hp => by cases hp⟩
  exact ⟨by omega, this.2⟩
/-! ### the machine by numbers -/
def inN (f : List Pr) (s : List Int) : List Int := isort ((s.filter fun x => hs f x).map fun x => vl f x)
def rS (f : List Pr) (ss : List Stp) : List Stp := srt ((ss.filter fun s => hs f s.1 && hs f s.2.2).map fun s => (vl f s.1, s.2.1, vl f s.2.2))
def nbD (m : Mac) (f : List Pr) : D := .tuple [.str m.sg, .int f.length, intsT (inN f m.begins), intsT (inN f m.ends), .tuple ((rS f m.steps).map dS)]
end K08

set_option Elab.async false
set_option linter.all false
set_option maxRecDepth 100000
set_option maxHeartbeats 0

namespace K08
open PySem MW MH
local macro_rules | `(tactic| array_get_dec) => `(tactic| first | exact srt_int | exact srt_st | exact in_F)
theorem p0 (p : Pr) : idxD (dP p) (.int 0) = some (.int p.1) := rfl
theorem p1 (p : Pr) : idxD (dP p) (.int 1) = some (.int p.2) := rfl
/-! ### beside -/
def bes (ps : List Pr) (k : Int) (l : List Int) : List Int := oset ((ps.filter fun p => decide (p.1 = k) && !decide (p.2 ∈ l)).map fun p => p.2)
abbrev pBes : MW.PT := pure3L (fun ps : List Pr => .list (ps.map dP)) D.int (fun l : List Int => .list (l.map .int)) (fun ps k l => Pk ps) (fun ps k l => .list ((bes ps k l).map .int))
abbrev fBes : Fn := ⟨[false, false, true], pBes, false⟩
theorem oset_len8 {l : List Int} (h : ∀ k ∈ l, 0 ≤ k ∧ k < 8) : (oset l).length ≤ 8 := len_of_range (n := 8) (oset_ris l).nodup fun k hk => h k (oset_mem.mp hk)
theorem ok_beside (Γ : Gm) (ds : List D) (R : D → List D → Prop) (h : pBes ds R) : wpD false Γ [false, false, true] 4 b_beside ds R := by
  obtain ⟨ps, k, l, rfl, hp, hR⟩ := h
  dsimp only at hR
  have lp := hp.l
  have os : (oset ((ps.filter fun p => decide (p.1 = k) && !decide (p.2 ∈ l)).map fun p => p.2)).length < 64 := Nat.lt_of_le_of_lt (oset_len8 fun x hx => by
    obtain ⟨p, hq, rfl⟩ := List.mem_map.mp hx
    exact hp.b p (List.mem_filter.mp hq).1) (by decide)
  refine wp_f (by simp only [ev0, List.zipWith_cons_cons, List.zipWith_nil_left, List.zipWith_nil_right, List.zipWith, List.replicate, List.length_cons, List.length_nil, Nat.reduceAdd, Nat.reduceSub, List.cons_append, List.nil_append, Bool.false_eq_true, if_false, if_true] <;> rfl) ?_
  unfold b_beside
  have i0 := p0
  have i1 := p1
  repeat' array_get_dec
  (dsimp only; refine end_of hR ?_ ?_; (· rfl))
  rfl
/-! ### closed -/
theorem mem_bes {ps : List Pr} {k j : Int} {l : List Int} : j ∈ bes ps k l ↔ (k, j) ∈ ps ∧ j ∉ l := by
  unfold bes
  rw [oset_mem, List.mem_map]
  constructor
  · rintro ⟨⟨a, b⟩, hp, rfl⟩
    obtain ⟨h1, h2⟩ := List.mem_filter.mp hp
    simp only [Bool.and_eq_true, decide_eq_true_eq, Bool.not_eq_true', decide_eq_false_iff_not] at h2
    exact ⟨h2.1 ▸ h1, h2.2⟩
  · rintro ⟨h1, h2⟩
    exact ⟨(k, j), List.mem_filter.mpr ⟨h1, by simp [h2]⟩, rfl⟩
theorem On.bes {ps : List Pr} {s l : List Int} (hp : Pk ps) (h : On ps s l) {k : Int} (hk : k ∈ l) : On ps s (l ++ bes ps k l) :=
  h.add (oset_ris _).nodup fun j hj => by
    obtain ⟨h1, h2⟩ := mem_bes.mp hj
    exact ⟨h2, hp.b _ h1, k, hk, h1⟩
abbrev pClosed : MW.PT := pure2 (fun ps : List Pr => .list (ps.map dP)) intsT (fun ps s => Pk ps ∧ St 8 s) (fun ps s => intsT (clo ps s))
abbrev fClosed : Fn := ⟨[false, false], pClosed, false⟩
theorem ok_closed (Γ : Gm) (hB : Γ "beside" = some fBes) (ds : List D) (R : D → List D → Prop) (h : pClosed ds R) : wpD false Γ [false, false] 4 b_closed ds R := by
  obtain ⟨ps, s, rfl, ⟨hp, hs⟩, hR⟩ := h
  dsimp only at hR
  have ls : s.length ≤ 8 := hs.len
  refine wp_f (by simp only [ev0, List.zipWith_cons_cons, List.zipWith_nil_left, List.zipWith_nil_right, List.zipWith, List.replicate, List.length_cons, List.length_nil, Nat.reduceAdd, Nat.reduceSub, List.cons_append, List.nil_append, Bool.false_eq_true, if_false, if_true] <;> rfl) ?_
  unfold b_closed
  repeat' array_get_dec
  apply wb_whlI (fun (t : List Int × Nat) => [.val (.list (ps.map dP)), .val (.tuple (s.map .int)), .own (.list (t.1.map .int)), .val (.int (t.2 : Int))])
    (fun t => On ps s t.1 ∧ t.2 ≤ t.1.length ∧ ∀ (i : Nat) k, i < t.2 → t.1[i]? = some k → ∀ j, (k, j) ∈ ps → j ∈ t.1) (fun t => 9 - t.2) (s, 0) rfl ⟨On.start hs, Nat.zero_le _, fun i k h => by cases h⟩
  rintro ⟨l, a⟩ T1 ⟨ho, la, hd⟩ hT1
  have ho : On ps s l := ho
  have la : a ≤ l.length := la
  have hd : ∀ (i : Nat) k, i < a → l[i]? = some k → ∀ j, (k, j) ∈ ps → j ∈ l := hd
  have ll := ho.len
  refine ⟨_, _, by repeat' array_get_dec, ?_, ?_⟩
  · intro c
    have lt : a < l.length := by simpa using c
    obtain ⟨k, hk⟩ : ∃ k, l[a]? = some k := ⟨_, List.getElem?_eq_getElem lt⟩
    have ik : idxD (.list (l.map D.int)) (.int (a : Int)) = some (.int k) := ix_lm hk rfl
    have o2 := ho.bes hp (List.mem_of_getElem? hk)
    have l2 := o2.len
    rw [List.length_append] at l2
    unfold b_closed_b2
    repeat' array_get_dec
    exact hT1 (l ++ bes ps k l, a + 1) ⟨o2, by show a + 1 ≤ (l ++ bes ps k l).length; rw [List.length_append]; omega, fun i q hi hq j hj => by
      have hi : i < a + 1 := hi
      have hq2 : (l ++ bes ps k l)[i]? = some q := hq
      show j ∈ l ++ bes ps k l
      rw [List.getElem?_append_left (by omega)] at hq2
      by_cases e : i = a
      · subst e
        rw [hk] at hq2; cases hq2
        by_cases z : j ∈ l
        · exact List.mem_append_left _ z
        · exact List.mem_append_right _ (mem_bes.mpr ⟨hj, z⟩)
      · exact List.mem_append_left _ (hd i q (by omega) hq2 j hj)⟩ (by show 9 - (a + 1) < 9 - a; omega)
  · intro c
    have ge : a = l.length := by have := c; simp at this; omega
    subst ge
    have e := ho.fin fun p hq h1 => by
      obtain ⟨i, hi⟩ := List.getElem?_of_mem h1
      exact hd i p.1 (List.getElem?_eq_some_iff.mp hi).1 hi p.2 hq
    repeat' array_get_dec
    rw [← e] at hR
    (dsimp only; refine end_of hR ?_ ?_; (· rfl))
    rfl
/-! ### the law's own -/
def mor (ps : List Pr) (l : List Int) : List Int := oset ((ps.filter fun p => decide (p.1 ∈ l) && !decide (p.2 ∈ l)).map fun p => p.2)
theorem mem_mor {ps : List Pr} {j : Int} {l : List Int} : j ∈ mor ps l ↔ (∃ k ∈ l, (k, j) ∈ ps) ∧ j ∉ l := by
  unfold mor
  rw [oset_mem, List.mem_map]
  constructor
  · rintro ⟨⟨a, b⟩, hp, rfl⟩
    obtain ⟨h1, h2⟩ := List.mem_filter.mp hp
    simp only [Bool.and_eq_true, decide_eq_true_eq, Bool.not_eq_true', decide_eq_false_iff_not] at h2
    exact ⟨⟨a, h2.1, h1⟩, h2.2⟩
  · rintro ⟨⟨k, hk, h1⟩, h2⟩
    exact ⟨(k, j), List.mem_filter.mpr ⟨h1, by simp [h2, hk]⟩, rfl⟩
theorem ok_come_to (Γ : Gm) (ds : List D) (R : D → List D → Prop) (h : pClosed ds R) : wpD false Γ [false, false] 7 b_law_come_to ds R := by
  obtain ⟨ps, s, rfl, ⟨hp, hs⟩, hR⟩ := h
  dsimp only at hR
  have ls : s.length ≤ 8 := hs.len
  have lp := hp.l
  have i0 := p0
  have i1 := p1
  refine wp_f (by simp only [ev0, List.zipWith_cons_cons, List.zipWith_nil_left, List.zipWith_nil_right, List.zipWith, List.replicate, List.length_cons, List.length_nil, Nat.reduceAdd, Nat.reduceSub, List.cons_append, List.nil_append, Bool.false_eq_true, if_false, if_true] <;> rfl) ?_
  unfold b_law_come_to
  repeat' array_get_dec
  apply wb_whlI (fun (t : List Int × Bool × Sl) => [.val (.list (ps.map dP)), .val (.tuple (s.map .int)), .val (.list (t.1.map .int)), .val (.bool t.2.1), t.2.2, .no, .no])
    (fun t => On ps s t.1 ∧ isFr t.2.2 = true ∧ (t.2.1 = false → ∀ p ∈ ps, p.1 ∈ t.1 → p.2 ∈ t.1)) (fun t => if t.2.1 = true then 1 + (9 - t.1.length) else 0) (s, true, Sl.no) rfl ⟨On.start hs, rfl, fun h => by cases h⟩
  rintro ⟨l, g, x4⟩ T1 ⟨ho, q4, hd⟩ hT1
  have ho : On ps s l := ho
  have q4 : isFr x4 = true := q4
  have hd : g = false → ∀ p ∈ ps, p.1 ∈ l → p.2 ∈ l := hd
  have ll := ho.len
  refine ⟨_, _, by repeat' array_get_dec, ?_, ?_⟩
  · intro c
    have c : g = true := c
    subst c
    have o2 : On ps s (l ++ mor ps l) := ho.add (oset_ris _).nodup fun j hj => by
      obtain ⟨⟨k, hk, h1⟩, h2⟩ := mem_mor.mp hj
      exact ⟨h2, hp.b _ h1, k, hk, h1⟩
    have l2 := o2.len
    rw [List.length_append] at l2
    have os : (oset ((ps.filter fun p => decide (p.1 ∈ l) && !decide (p.2 ∈ l)).map fun p => p.2)).length < 64 := by
      have : (mor ps l).length < 64 := by omega
      exact this
    have lm : l.length + (oset ((ps.filter fun p => decide (p.1 ∈ l) && !decide (p.2 ∈ l)).map Prod.snd)).length ≤ 8 := l2
    unfold b_law_come_to_b4
    repeat' array_get_dec
    refine hT1 (l ++ mor ps l, !(mor ps l).isEmpty, _) ⟨o2, rfl, fun hg p hq h1 => ?_⟩ ?_
    · have hg : (!(mor ps l).isEmpty) = false := hg
      have h1 : p.1 ∈ l ++ mor ps l := h1
      show p.2 ∈ l ++ mor ps l
      have e : mor ps l = [] := by simpa using hg
      rw [e, List.append_nil] at h1 ⊢
      by_cases z : p.2 ∈ l
      · exact z
      · have := mem_mor.mpr ⟨⟨p.1, h1, hq⟩, z⟩
        rw [e] at this; cases this
    · show (if (!(mor ps l).isEmpty) = true then 1 + (9 - (l ++ mor ps l).length) else 0) < 1 + (9 - l.length)
      split
      · rename_i hg
        have : mor ps l ≠ [] := by simpa using hg
        have := List.length_pos_iff.mpr this
        rw [List.length_append]; omega
      · omega
  · intro c
    have e := ho.fin (hd c)
    repeat' array_get_dec
    rw [← e] at hR
    (dsimp only; refine end_of hR ?_ ?_; (· rfl))
    rfl
end K08

set_option Elab.async false
set_option linter.all false
set_option maxRecDepth 100000
set_option maxHeartbeats 0

namespace K08
open PySem MW MH
def fw (ss : List Stp) : List Pr := ss.map fun s => (s.1, s.2.2)
def bw (ss : List Stp) : List Pr := ss.map fun s => (s.2.2, s.1)
theorem en_fw {ss : List Stp} : En (.list (ss.map fun s => .tuple [.int s.1, .int s.2.2])) (.list ((fw ss).map dP)) := ⟨by unfold fw; rw [List.map_map]; rfl⟩
theorem en_bw {ss : List Stp} : En (.list (ss.map fun s => .tuple [.int s.2.2, .int s.1])) (.list ((bw ss).map dP)) := ⟨by unfold bw; rw [List.map_map]; rfl⟩
theorem ix_Fl {f : List Pr} {x : Int} {b : Bool} (h : (hs f x && b) = true) : idxD (dF f) (.int x) = some (.int (vl f x)) := ix_F (by rw [Bool.and_eq_true] at h; exact h.1)
theorem ix_Fr {f : List Pr} {x : Int} {b : Bool} (h : (b && hs f x) = true) : idxD (dF f) (.int x) = some (.int (vl f x)) := ix_F (by rw [Bool.and_eq_true] at h; exact h.2)
theorem ix_Fml {f : List Pr} {s : Stp} {ss : List Stp} (h : s ∈ ss.filter fun s => hs f s.1 && hs f s.2.2) : idxD (dF f) (.int s.1) = some (.int (vl f s.1)) := ix_Fl (List.mem_filter.mp h).2
theorem ix_Fmr {f : List Pr} {s : Stp} {ss : List Stp} (h : s ∈ ss.filter fun s => hs f s.1 && hs f s.2.2) : idxD (dF f) (.int s.2.2) = some (.int (vl f s.2.2)) := ix_Fr (List.mem_filter.mp h).2
theorem sr2 {a b : List Int} : Sr [.tuple (a.map .int), .tuple (b.map .int)] ([a, b].map intsT) := ⟨rfl⟩
theorem sr2' {a b : List Int} : Sr [intsT a, intsT b] ([a, b].map intsT) := ⟨rfl⟩
theorem len_F {f : List Pr} : biD .len [dF f] = some (.int f.length) := by
  show some (D.int ((f.map fun p => D.int p.1).length : Nat)) = _
  rw [List.length_map]
local macro_rules | `(tactic| array_get_dec) => `(tactic| first | exact srt_int | exact srt_st | exact in_F | exact en_fw | exact en_bw | exact len_F | exact ix_F (by assumption) | exact ix_Fl (by assumption) | exact ix_Fr (by assumption) | exact ix_Fml (by assumption) | exact ix_Fmr (by assumption) | exact sr2 | exact sr2')
theorem Pk.fw {m : Mac} (h : Mk m) : Pk (fw m.steps) := ⟨fun p hp => by
  obtain ⟨s, hs, rfl⟩ := List.mem_map.mp hp
  have := (h.s.m s hs).b
  have := h.m1
  exact ⟨by omega, by omega⟩, by show (List.map _ _).length ≤ _; rw [List.length_map]; exact h.s.l⟩
theorem Pk.bw {m : Mac} (h : Mk m) : Pk (bw m.steps) := ⟨fun p hp => by
  obtain ⟨s, hs, rfl⟩ := List.mem_map.mp hp
  have := (h.s.m s hs).a
  have := h.m1
  exact ⟨by omega, by omega⟩, by show (List.map _ _).length ≤ _; rw [List.length_map]; exact h.s.l⟩
noncomputable abbrev cloF (m : Mac) : List Int := clo (fw m.steps) m.begins
noncomputable abbrev cloB (m : Mac) : List Int := clo (bw m.steps) m.ends
noncomputable abbrev pMet : MW.PT := pure1 dM Mk (fun m => intsT (cloF m))
noncomputable abbrev pLead : MW.PT := pure1 dM Mk (fun m => intsT (cloB m))
noncomputable abbrev fMet : Fn := ⟨[false], pMet, false⟩
noncomputable abbrev fLead : Fn := ⟨[false], pLead, false⟩
theorem ok_met (Γ : Gm) (hC : Γ "closed" = some fClosed) (ds : List D) (R : D → List D → Prop) (h : pMet ds R) : wpD false Γ [false] 2 b_met ds R := by
  obtain ⟨m, rfl, hm, hR⟩ := h
  dsimp only at hR
  have q : Pk (fw m.steps) ∧ St 8 m.begins := ⟨Pk.fw hm, hm.b.up hm.m1⟩
  have lm := hm.s.l
  have e4 : idxD (dM m) (.int 4) = some (.tuple (m.steps.map dS)) := rfl
  have e2 : idxD (dM m) (.int 2) = some (.tuple (m.begins.map .int)) := rfl
  refine wp_f (by simp only [ev0, List.zipWith_cons_cons, List.zipWith_nil_left, List.zipWith_nil_right, List.zipWith, List.replicate, List.length_cons, List.length_nil, Nat.reduceAdd, Nat.reduceSub, List.cons_append, List.nil_append, Bool.false_eq_true, if_false, if_true] <;> rfl) ?_
  unfold b_met
  repeat' array_get_dec
  ((try dsimp only); refine end_of hR ?_ ?_; (· rfl))
  rfl
theorem ok_leading (Γ : Gm) (hC : Γ "closed" = some fClosed) (ds : List D) (R : D → List D → Prop) (h : pLead ds R) : wpD false Γ [false] 2 b_leading ds R := by
  obtain ⟨m, rfl, hm, hR⟩ := h
  dsimp only at hR
  have q : Pk (bw m.steps) ∧ St 8 m.ends := ⟨Pk.bw hm, hm.e.up hm.m1⟩
  have lm := hm.s.l
  have e4 : idxD (dM m) (.int 4) = some (.tuple (m.steps.map dS)) := rfl
  have e2 : idxD (dM m) (.int 3) = some (.tuple (m.ends.map .int)) := rfl
  refine wp_f (by simp only [ev0, List.zipWith_cons_cons, List.zipWith_nil_left, List.zipWith_nil_right, List.zipWith, List.replicate, List.length_cons, List.length_nil, Nat.reduceAdd, Nat.reduceSub, List.cons_append, List.nil_append, Bool.false_eq_true, if_false, if_true] <;> rfl) ?_
  unfold b_leading
  repeat' array_get_dec
  ((try dsimp only); refine end_of hR ?_ ?_; (· rfl))
  rfl
abbrev pInN : MW.PT := pure2 dF intsT (fun f s => s.length ≤ 1000) (fun f s => intsT (inN f s))
abbrev fInN : Fn := ⟨[false, false], pInN, false⟩
theorem ok_in_numbers (Γ : Gm) (ds : List D) (R : D → List D → Prop) (h : pInN ds R) : wpD false Γ [false, false] 3 b_in_numbers ds R := by
  obtain ⟨f, s, rfl, hl, hR⟩ := h
  dsimp only at hR
  refine wp_f (by simp only [ev0, List.zipWith_cons_cons, List.zipWith_nil_left, List.zipWith_nil_right, List.zipWith, List.replicate, List.length_cons, List.length_nil, Nat.reduceAdd, Nat.reduceSub, List.cons_append, List.nil_append, Bool.false_eq_true, if_false, if_true] <;> rfl) ?_
  unfold b_in_numbers
  repeat' array_get_dec
  ((try dsimp only); refine end_of hR ?_ ?_; (· rfl))
  rfl
abbrev pNb : MW.PT := pure2 dM dF (fun m f => Mk m) nbD
abbrev fNb : Fn := ⟨[false, false], pNb, false⟩
theorem ok_numbered_by (Γ : Gm) (hI : Γ "in_numbers" = some fInN) (ds : List D) (R : D → List D → Prop) (h : pNb ds R) : wpD false Γ [false, false] 9 b_numbered_by ds R := by
  obtain ⟨m, f, rfl, hm, hR⟩ := h
  have lm := hm.s.l
  have h1 := hm.m1
  have lb := hm.b.len
  have le := hm.e.len
  have q1 : m.begins.length ≤ 1000 := by omega
  have q2 : m.ends.length ≤ 1000 := by omega
  refine wp_f (by simp only [ev0, List.zipWith_cons_cons, List.zipWith_nil_left, List.zipWith_nil_right, List.zipWith, List.replicate, List.length_cons, List.length_nil, Nat.reduceAdd, Nat.reduceSub, List.cons_append, List.nil_append, Bool.false_eq_true, if_false, if_true] <;> rfl) ?_
  unfold b_numbered_by
  repeat' array_get_dec
  ((try dsimp only); refine end_of hR ?_ ?_; (· rfl))
  rfl
theorem ok_called (Γ : Gm) (ds : List D) (R : D → List D → Prop) (h : pNb ds R) : wpD false Γ [false, false] 14 b_law_called ds R := by
  obtain ⟨m, f, rfl, hm, hR⟩ := h
  have lm := hm.s.l
  have h1 := hm.m1
  have lb := hm.b.len
  have le := hm.e.len
  have q1 : m.begins.length ≤ 1000 := by omega
  have q2 : m.ends.length ≤ 1000 := by omega
  refine wp_f (by simp only [ev0, List.zipWith_cons_cons, List.zipWith_nil_left, List.zipWith_nil_right, List.zipWith, List.replicate, List.length_cons, List.length_nil, Nat.reduceAdd, Nat.reduceSub, List.cons_append, List.nil_append, Bool.false_eq_true, if_false, if_true] <;> rfl) ?_
  unfold b_law_called
  repeat' array_get_dec
  · rename_i x hx
    simp only [List.mem_cons, List.not_mem_nil, or_false] at hx
    rcases hx with e | e <;> (rw [e]; omega)
  ((try dsimp only); refine end_of hR ?_ ?_; (· rfl))
  rfl

/-! ### trimmed, renamed -/
def sw (p : Pr) : Pr := (p.2, p.1)
def nbU (u : List Int) : List Pr := puts ((enumL u).map sw) []
def nbE (l : List Int) : List Pr := puts (enumL l) []
theorem dict_U {u : List Int} (h : u.length ≤ 1000) : biD .dpairs [.list ((enumL u).map fun p => .tuple [.int p.2, .int p.1])] = some (dF (nbU u)) := by
  have e : ((enumL u).map fun p => D.tuple [.int p.2, .int p.1]) = ((enumL u).map sw).map dP := by rw [List.map_map]; rfl
  rw [e]
  exact dict_F (by rw [List.length_map, enumL_len]; exact h)
theorem dict_E {l : List Int} (h : l.length ≤ 1000) : biD .dpairs [.list ((enumL l).map (prI D.int))] = some (dF (nbE l)) := by
  have e : (enumL l).map (prI D.int) = (enumL l).map dP := rfl
  rw [e]
  exact dict_F (by rw [enumL_len]; exact h)
noncomputable def usd (m : Mac) : List Int := (cloB m).filter fun x => decide (x ∈ cloF m)
noncomputable def trD (m : Mac) : D := if (usd m).isEmpty = true then .tuple [.str m.sg, .int 1, .tuple [], .tuple [], .tuple []] else nbD m (nbU (usd m))
theorem clo_len (ps : List Pr) (s : List Int) : (clo ps s).length ≤ 8 := len_of_range (n := 8) (clo_ris ps s).nodup fun k hk => (mem_clo.mp hk).1
noncomputable abbrev pTrim : MW.PT := pure1 dM Mk trD
noncomputable abbrev fTrim : Fn := ⟨[false], pTrim, false⟩
theorem ok_trimmed (Γ : Gm) (hM : Γ "met" = some fMet) (hN : Γ "numbered_by" = some fNb) (hL : Γ "leading" = some fLead) (ds : List D) (R : D → List D → Prop) (h : pTrim ds R) : wpD false Γ [false] 5 b_trimmed ds R := by
  obtain ⟨m, rfl, hm, hR⟩ := h
  have lc : (cloB m).length ≤ 8 := clo_len _ _
  have lu : ((cloB m).filter fun x => decide (x ∈ cloF m)).length ≤ 1000 := Nat.le_trans (List.length_filter_le _ _) (by omega)
  have e0 : idxD (dM m) (.int 0) = some (.str m.sg) := rfl
  have dU := dict_U lu
  have len8 : (enumL ((cloB m).filter fun x => decide (x ∈ cloF m))).length ≤ 1000000 := by rw [enumL_len]; omega
  refine wp_f (by simp only [ev0, List.zipWith_cons_cons, List.zipWith_nil_left, List.zipWith_nil_right, List.zipWith, List.replicate, List.length_cons, List.length_nil, Nat.reduceAdd, Nat.reduceSub, List.cons_append, List.nil_append, Bool.false_eq_true, if_false, if_true] <;> rfl) ?_
  unfold b_trimmed
  repeat' array_get_dec
  · intro c
    have c' : (usd m).isEmpty = true := c
    unfold trD at hR
    rw [if_pos c'] at hR
    repeat' array_get_dec
    ((try dsimp only); refine end_of hR ?_ ?_; (· rfl))
    rfl
  · intro c
    have c' : ¬ (usd m).isEmpty = true := by rw [show (usd m).isEmpty = false from c]; simp
    unfold trD at hR
    rw [if_neg c'] at hR
    repeat' array_get_dec
    ((try dsimp only); refine end_of hR ?_ ?_; (· rfl))
    rfl
abbrev pRen : MW.PT := pure2 dM intsT (fun m l => Mk m ∧ l.length ≤ 1000) (fun m l => nbD m (nbE l))
abbrev fRen : Fn := ⟨[false, false], pRen, false⟩
theorem ok_renamed (Γ : Gm) (hN : Γ "numbered_by" = some fNb) (ds : List D) (R : D → List D → Prop) (h : pRen ds R) : wpD false Γ [false, false] 2 b_renamed ds R := by
  obtain ⟨m, l, rfl, ⟨hm, hl⟩, hR⟩ := h
  dsimp only at hR
  have dE := dict_E hl
  refine wp_f (by simp only [ev0, List.zipWith_cons_cons, List.zipWith_nil_left, List.zipWith_nil_right, List.zipWith, List.replicate, List.length_cons, List.length_nil, Nat.reduceAdd, Nat.reduceSub, List.cons_append, List.nil_append, Bool.false_eq_true, if_false, if_true] <;> rfl) ?_
  unfold b_renamed
  repeat' array_get_dec
  ((try dsimp only); refine end_of hR ?_ ?_; (· rfl))
  rfl
end K08

set_option Elab.async false
set_option linter.all false
set_option maxRecDepth 100000
set_option maxHeartbeats 0

namespace K08
open PySem MW MH
def rngI (n : Int) : List Int := (List.range n.toNat).map fun (k : Nat) => (k : Int)
theorem lrng_I {n : Int} (h0 : 0 ≤ n) (h1 : n ≤ 1000) : biD .lrng [.int n] = some (.list ((rngI n).map .int)) := by
  rw [lrng_x, rng_n h0 (by omega)]
  show (if decide (((List.range n.toNat).map fun (k : Nat) => D.int (k : Int)).length ≤ 16777216) = true then some (D.list ((List.range n.toNat).map fun (k : Nat) => D.int (k : Int))) else none) = _
  rw [if_pos (decide_eq_true (by simp; omega))]
  unfold rngI
  rw [List.map_map]; rfl
theorem rngI_nd (n : Int) : (rngI n).Nodup := by
  unfold rngI
  rw [List.nodup_iff_pairwise_ne, List.pairwise_map]
  exact (List.nodup_iff_pairwise_ne.mp List.nodup_range).imp fun {a b} h => by omega
theorem mem_rngI {n k : Int} (h : 0 ≤ n) : k ∈ rngI n ↔ 0 ≤ k ∧ k < n := by
  unfold rngI
  rw [List.mem_map]
  simp only [List.mem_range]
  constructor
  · rintro ⟨a, h1, rfl⟩; omega
  · intro h1; exact ⟨k.toNat, by omega, by omega⟩
theorem rngI_len (n : Int) : (rngI n).length = n.toNat := by simp [rngI]
theorem er_map {α β : Type} (f : α → β) : ∀ (l : List α) (j : Nat), (l.map f).eraseIdx j = (l.eraseIdx j).map f
  | [], _ => rfl
  | x :: l, 0 => rfl
  | x :: l, j + 1 => by
    show f x :: (l.map f).eraseIdx j = f x :: (l.eraseIdx j).map f
    rw [er_map f l j]
theorem er_perm : ∀ (l : List Int) (j : Nat) (h : j < l.length), (l[j] :: l.eraseIdx j).Perm l
  | x :: l, 0, _ => List.Perm.refl _
  | x :: l, j + 1, h => by
    have h' : j < l.length := by simpa using h
    exact (List.Perm.swap x l[j] _).trans ((er_perm l j h').cons x)
theorem pop_step {Γ : Gm} (hG : Γ "_law_draw" = some fDraw) {left found : List Int} {t : D} (ht : Tp t) {y x4 : Sl} {rest : List Sl} {E : Nd} (h0 : 0 < left.length) (hl : left.length ≤ 1000) (hf : found.length ≤ 1000)
    (k : ∀ (j : Nat) v t', left[j]? = some v → Tp t' → E.nx (.io t' :: y :: .own (.list ((left.eraseIdx j).map .int)) :: .own (.list ((found ++ [v]).map .int)) :: x4 :: rest)) :
    wpB Γ [.app 3 (.pop 2 [(.call "_law_draw" [(.var 0), (.bi .len [(.var 2)])])])] E (.io t :: y :: .own (.list (left.map .int)) :: .own (.list (found.map .int)) :: x4 :: rest) := by
  simp only [wpD_f, wpD_n, wpF, wpN, Bool.false_eq_true, if_false, if_true, ev0, List.zipWith_cons_cons, List.zipWith_nil_left, List.zipWith_nil_right, List.zipWith, List.replicate, List.length_cons, List.length_nil, Nat.reduceAdd, Nat.reduceSub, List.cons_append, List.nil_append, wpB, MW.wpS, wpc, wpcs, opd, wp, wps, wpo, wpa, wpp, bnd_some, bnd_none, bnd_if, bnd_map, bnd_bind, pk, rdv, setv, setc, getc, List.getElem?_cons_zero, List.getElem?_cons_succ, List.set_cons_zero, List.set_cons_succ, add_ii, add_ss, add_ll, add_tt, sub_ii, mul_ii, mul_si, mod_ii, fdiv_ii, pow_ii, shr_ii, and_ii, c_eq, c_ne, lt_ii, lt_ss, gt_ii, gt_ss, le_ii, ge_ii, in_l, in_t, in_s, nin_l, nin_t, nin_s, is_n, isn_n, is_bb, isn_bb, ix_l, ix_t, ix_s, sl_l, sl_t, sl_s, t_b, t_i, t_l, t_t, t_n, t_s, len_s, len_l, len_t, tup_l, tup_t, lst_l, lst_t, srt_l, sset_x, lset_x, ssetM, lsetM, all_l, any_l, int_b, int_i, repr_x, isi_x, revs_l, revs_s, trng_x, lrng_x, rep_x, cat_x, lst_s, ix_dk, dnew_x, as_d, key_i, key_s, enum_l, enum_t, srt_t, in_dk, nin_dk, len_dk, srt_dk, dpairs_l, find_x, findT, join_x, joinT, lt_l, lt_t, as_i, as_l, as_t, as_b, atA, atB, atC, atDd, atE, tn0, tn1, tn2, tn3, outsO, List.tail_cons, tgt, tgts, Option.bind_some, Option.map_some, Option.bind_none, Option.map_none, ownD, isTy, hG, argsIo, ioOk, List.all_cons, List.all_nil, Bool.and_true, Option.isSome_some, peekC, outsE, true_and, and_true, srcD, itemsD, turns, List.map_cons, List.map_nil, wipeE, backE, noOwn, Option.isNone_none, List.length_map]
  refine ⟨rfl, t, (left.length : Int), rfl, ht, by omega, by omega, fun v t' v0 v1 ht' => ?_⟩
  simp only [wpD_f, wpD_n, wpF, wpN, Bool.false_eq_true, if_false, if_true, ev0, List.zipWith_cons_cons, List.zipWith_nil_left, List.zipWith_nil_right, List.zipWith, List.replicate, List.length_cons, List.length_nil, Nat.reduceAdd, Nat.reduceSub, List.cons_append, List.nil_append, wpB, MW.wpS, wpc, wpcs, opd, wp, wps, wpo, wpa, wpp, bnd_some, bnd_none, bnd_if, bnd_map, bnd_bind, pk, rdv, setv, setc, getc, List.getElem?_cons_zero, List.getElem?_cons_succ, List.set_cons_zero, List.set_cons_succ, add_ii, add_ss, add_ll, add_tt, sub_ii, mul_ii, mul_si, mod_ii, fdiv_ii, pow_ii, shr_ii, and_ii, c_eq, c_ne, lt_ii, lt_ss, gt_ii, gt_ss, le_ii, ge_ii, in_l, in_t, in_s, nin_l, nin_t, nin_s, is_n, isn_n, is_bb, isn_bb, ix_l, ix_t, ix_s, sl_l, sl_t, sl_s, t_b, t_i, t_l, t_t, t_n, t_s, len_s, len_l, len_t, tup_l, tup_t, lst_l, lst_t, srt_l, sset_x, lset_x, ssetM, lsetM, all_l, any_l, int_b, int_i, repr_x, isi_x, revs_l, revs_s, trng_x, lrng_x, rep_x, cat_x, lst_s, ix_dk, dnew_x, as_d, key_i, key_s, enum_l, enum_t, srt_t, in_dk, nin_dk, len_dk, srt_dk, dpairs_l, find_x, findT, join_x, joinT, lt_l, lt_t, as_i, as_l, as_t, as_b, atA, atB, atC, atDd, atE, tn0, tn1, tn2, tn3, outsO, List.tail_cons, tgt, tgts, Option.bind_some, Option.map_some, Option.bind_none, Option.map_none, ownD, isTy, hG, argsIo, ioOk, List.all_cons, List.all_nil, Bool.and_true, Option.isSome_some, peekC, outsE, true_and, and_true, srcD, itemsD, turns, List.map_cons, List.map_nil, wipeE, backE, noOwn, Option.isNone_none]
  obtain ⟨x, hx⟩ : ∃ x, left[v.toNat]? = some x := ⟨_, List.getElem?_eq_getElem (by omega)⟩
  have e : popD (left.map D.int) [.int v] = some (.int x, (left.eraseIdx v.toNat).map D.int) := by
    show (if decide (0 ≤ v) && decide (v < 2 ^ 63) then ((left.map D.int)[v.toNat]?).map fun d => (d, (left.map D.int).eraseIdx v.toNat) else none) = _
    rw [if_pos (by rw [Bool.and_eq_true]; exact ⟨decide_eq_true v0, decide_eq_true (by omega)⟩), List.getElem?_map, hx]
    simp [er_map]
  rw [e]
  simp only [wpD_f, wpD_n, wpF, wpN, Bool.false_eq_true, if_false, if_true, ev0, List.zipWith_cons_cons, List.zipWith_nil_left, List.zipWith_nil_right, List.zipWith, List.replicate, List.length_cons, List.length_nil, Nat.reduceAdd, Nat.reduceSub, List.cons_append, List.nil_append, wpB, MW.wpS, wpc, wpcs, opd, wp, wps, wpo, wpa, wpp, bnd_some, bnd_none, bnd_if, bnd_map, bnd_bind, pk, rdv, setv, setc, getc, List.getElem?_cons_zero, List.getElem?_cons_succ, List.set_cons_zero, List.set_cons_succ, add_ii, add_ss, add_ll, add_tt, sub_ii, mul_ii, mul_si, mod_ii, fdiv_ii, pow_ii, shr_ii, and_ii, c_eq, c_ne, lt_ii, lt_ss, gt_ii, gt_ss, le_ii, ge_ii, in_l, in_t, in_s, nin_l, nin_t, nin_s, is_n, isn_n, is_bb, isn_bb, ix_l, ix_t, ix_s, sl_l, sl_t, sl_s, t_b, t_i, t_l, t_t, t_n, t_s, len_s, len_l, len_t, tup_l, tup_t, lst_l, lst_t, srt_l, sset_x, lset_x, ssetM, lsetM, all_l, any_l, int_b, int_i, repr_x, isi_x, revs_l, revs_s, trng_x, lrng_x, rep_x, cat_x, lst_s, ix_dk, dnew_x, as_d, key_i, key_s, enum_l, enum_t, srt_t, in_dk, nin_dk, len_dk, srt_dk, dpairs_l, find_x, findT, join_x, joinT, lt_l, lt_t, as_i, as_l, as_t, as_b, atA, atB, atC, atDd, atE, tn0, tn1, tn2, tn3, outsO, List.tail_cons, tgt, tgts, Option.bind_some, Option.map_some, Option.bind_none, Option.map_none, ownD, isTy, hG, argsIo, ioOk, List.all_cons, List.all_nil, Bool.and_true, Option.isSome_some, peekC, outsE, true_and, and_true, srcD, itemsD, turns, List.map_cons, List.map_nil, wipeE, backE, noOwn, Option.isNone_none]
  refine ⟨siz_of (by rw [List.length_map]; omega), ?_⟩
  have := k v.toNat x t' hx ht'
  rw [List.map_append] at this
  exact this
theorem erase_perm {left found R : List Int} {j : Nat} {v : Int} (h : (found ++ left).Perm R) (hj : left[j]? = some v) : ((found ++ [v]) ++ left.eraseIdx j).Perm R := by
  refine List.Perm.trans ?_ h
  rw [List.append_assoc]
  refine List.Perm.append_left _ ?_
  obtain ⟨lt, e⟩ := List.getElem?_eq_some_iff.mp hj
  rw [← e]
  exact er_perm left j lt
def spOrd : MW.PT := fun ds R => ∃ t many, ds = [t, .int many] ∧ Tp t ∧ 0 < many ∧ many ≤ 1000 ∧ ∀ l t', l.Perm (rngI many) → Tp t' → R (intsT l) [t']
theorem ok_order (Γ : Gm) (hG : Γ "_law_draw" = some fDraw) (ds : List D) (R : D → List D → Prop) (h : spOrd ds R) : wpD false Γ [true, false] 5 b_law_order ds R := by
  obtain ⟨t, many, rfl, ht, m0, m1, hR⟩ := h
  have lr := lrng_I (Int.le_of_lt m0) m1
  refine wp_f (by simp only [ev0, List.zipWith_cons_cons, List.zipWith_nil_left, List.zipWith_nil_right, List.zipWith, List.replicate, List.length_cons, List.length_nil, Nat.reduceAdd, Nat.reduceSub, List.cons_append, List.nil_append, Bool.false_eq_true, if_false, if_true] <;> rfl) ?_
  unfold b_law_order
  repeat' array_get_dec
  apply wb_forP (List.range many.toNat) (fun k : Nat => D.int (k : Int)) (fun pre (s : D × List Int × List Int × Sl) => [.io s.1, .val (.int many), .own (.list (s.2.1.map .int)), .own (.list (s.2.2.1.map .int)), s.2.2.2])
    (fun pre s => Tp s.1 ∧ (s.2.2.1 ++ s.2.1).Perm (rngI many) ∧ s.2.2.1.length = pre.length ∧ isFr s.2.2.2 = true) (t, rngI many, [], Sl.no)
  repeat' array_get_dec
  · exact ⟨ht, List.Perm.refl _, rfl, rfl⟩
  · rintro pre x rest ⟨t1, left, found, x4⟩ T e ⟨ht1, hp, hl, q4⟩ hT'
    have hp : (found ++ left).Perm (rngI many) := hp
    have hl : found.length = pre.length := hl
    have ln := hp.length_eq
    rw [rngI_len, List.length_append] at ln
    have le := congrArg List.length e
    rw [List.length_range, List.length_append, List.length_cons] at le
    refine ⟨_, by repeat' array_get_dec, ?_⟩
    unfold b_law_order_b1
    refine pop_step hG ht1 (by omega) (by omega) (by omega) fun j v t' hj ht' => ?_
    exact hT' (t', left.eraseIdx j, found ++ [v], _) ⟨ht', erase_perm hp hj, by simp [hl], rfl⟩
  · rintro ⟨t1, left, found, x4⟩ ⟨ht1, hp, hl, q4⟩
    have hp : (found ++ left).Perm (rngI many) := hp
    have hl : found.length = (List.range many.toNat).length := hl
    have ln := hp.length_eq
    rw [rngI_len, List.length_append] at ln
    rw [List.length_range] at hl
    have e : left = [] := List.length_eq_zero_iff.mp (by omega)
    rw [e, List.append_nil] at hp
    have hR := hR found t1 hp ht1
    repeat' array_get_dec
    ((try dsimp only); refine end_of hR ?_ ?_; (· rfl))
    rfl
end K08

set_option Elab.async false
set_option linter.all false
set_option maxRecDepth 100000
set_option maxHeartbeats 0

namespace K08
open PySem MW MH
def abyz : List Nat := [97, 98, 121, 122]
theorem sg_abyz : Sg abyz := by decide
theorem rng_1n {n : Int} (h0 : 1 ≤ n) (h1 : n ≤ 1000) : rngD [.int 1, .int n] = some ((List.range (n - 1).toNat).map fun (k : Nat) => .int (1 + (k : Int))) := src_r2 (by decide) (by decide) (by omega) (by omega)
def spChain : MW.PT := fun ds R => ∃ t, ds = [t] ∧ Tp t ∧ ∀ m t', Mk m → Tp t' → R (dM m) [t']
theorem at_m {α : Type} {f : α → D} {l : List α} {i : Int} {x : α} (h : atD l i = some x) : atD (l.map f) i = some (f x) := by
  unfold atD at *
  simp only [List.length_map, List.getElem?_map]
  split at h
  · rename_i z; rw [if_pos z, h]; rfl
  · rename_i z; rw [if_neg z]
    split at h
    · rename_i z; rw [if_pos z, h]; rfl
    · cases h
structure ChS (many : Int) (l : List Stp) (n : Nat) : Prop where
  m : ∀ s ∈ l, SOk abyz many s
  l : l.length = n
theorem ok_chain (Γ : Gm) (hG : Γ "_law_draw" = some fDraw) (ds : List D) (R : D → List D → Prop) (h : spChain ds R) : wpD false Γ [true] 6 b_law_chain ds R := by
  obtain ⟨t, rfl, ht, hR⟩ := h
  refine wp_f (by simp only [ev0, List.zipWith_cons_cons, List.zipWith_nil_left, List.zipWith_nil_right, List.zipWith, List.replicate, List.length_cons, List.length_nil, Nat.reduceAdd, Nat.reduceSub, List.cons_append, List.nil_append, Bool.false_eq_true, if_false, if_true] <;> rfl) ?_
  unfold b_law_chain
  refine wpB_step fun N hN => ?_
  simp only [wpD_f, wpD_n, wpF, wpN, Bool.false_eq_true, if_false, if_true, ev0, List.zipWith_cons_cons, List.zipWith_nil_left, List.zipWith_nil_right, List.zipWith, List.replicate, List.length_cons, List.length_nil, Nat.reduceAdd, Nat.reduceSub, List.cons_append, List.nil_append, wpB, MW.wpS, wpc, wpcs, opd, wp, wps, wpo, wpa, wpp, bnd_some, bnd_none, bnd_if, bnd_map, bnd_bind, pk, rdv, setv, setc, getc, List.getElem?_cons_zero, List.getElem?_cons_succ, List.set_cons_zero, List.set_cons_succ, add_ii, add_ss, add_ll, add_tt, sub_ii, mul_ii, mul_si, mod_ii, fdiv_ii, pow_ii, shr_ii, and_ii, c_eq, c_ne, lt_ii, lt_ss, gt_ii, gt_ss, le_ii, ge_ii, in_l, in_t, in_s, nin_l, nin_t, nin_s, is_n, isn_n, is_bb, isn_bb, ix_l, ix_t, ix_s, sl_l, sl_t, sl_s, t_b, t_i, t_l, t_t, t_n, t_s, len_s, len_l, len_t, tup_l, tup_t, lst_l, lst_t, srt_l, sset_x, lset_x, ssetM, lsetM, all_l, any_l, int_b, int_i, repr_x, isi_x, revs_l, revs_s, trng_x, lrng_x, rep_x, cat_x, lst_s, ix_dk, dnew_x, as_d, key_i, key_s, enum_l, enum_t, srt_t, in_dk, nin_dk, len_dk, srt_dk, dpairs_l, find_x, findT, join_x, joinT, lt_l, lt_t, as_i, as_l, as_t, as_b, atA, atB, atC, atDd, atE, tn0, tn1, tn2, tn3, outsO, List.tail_cons, tgt, tgts, Option.bind_some, Option.map_some, Option.bind_none, Option.map_none, ownD, isTy, hG, argsIo, ioOk, List.all_cons, List.all_nil, Bool.and_true, Option.isSome_some, peekC, outsE, true_and, and_true, srcD, itemsD, turns, List.map_cons, List.map_nil, wipeE, backE, noOwn, Option.isNone_none]
  refine ⟨by decide, t, 2, rfl, ht, by decide, by decide, fun v t0 v0 v1 ht0 => ?_⟩
  simp only [wpD_f, wpD_n, wpF, wpN, Bool.false_eq_true, if_false, if_true, ev0, List.zipWith_cons_cons, List.zipWith_nil_left, List.zipWith_nil_right, List.zipWith, List.replicate, List.length_cons, List.length_nil, Nat.reduceAdd, Nat.reduceSub, List.cons_append, List.nil_append, wpB, MW.wpS, wpc, wpcs, opd, wp, wps, wpo, wpa, wpp, bnd_some, bnd_none, bnd_if, bnd_map, bnd_bind, pk, rdv, setv, setc, getc, List.getElem?_cons_zero, List.getElem?_cons_succ, List.set_cons_zero, List.set_cons_succ, add_ii, add_ss, add_ll, add_tt, sub_ii, mul_ii, mul_si, mod_ii, fdiv_ii, pow_ii, shr_ii, and_ii, c_eq, c_ne, lt_ii, lt_ss, gt_ii, gt_ss, le_ii, ge_ii, in_l, in_t, in_s, nin_l, nin_t, nin_s, is_n, isn_n, is_bb, isn_bb, ix_l, ix_t, ix_s, sl_l, sl_t, sl_s, t_b, t_i, t_l, t_t, t_n, t_s, len_s, len_l, len_t, tup_l, tup_t, lst_l, lst_t, srt_l, sset_x, lset_x, ssetM, lsetM, all_l, any_l, int_b, int_i, repr_x, isi_x, revs_l, revs_s, trng_x, lrng_x, rep_x, cat_x, lst_s, ix_dk, dnew_x, as_d, key_i, key_s, enum_l, enum_t, srt_t, in_dk, nin_dk, len_dk, srt_dk, dpairs_l, find_x, findT, join_x, joinT, lt_l, lt_t, as_i, as_l, as_t, as_b, atA, atB, atC, atDd, atE, tn0, tn1, tn2, tn3, outsO, List.tail_cons, tgt, tgts, Option.bind_some, Option.map_some, Option.bind_none, Option.map_none, ownD, isTy, hG, argsIo, ioOk, List.all_cons, List.all_nil, Bool.and_true, Option.isSome_some, peekC, outsE, true_and, and_true, srcD, itemsD, turns, List.map_cons, List.map_nil, wipeE, backE, noOwn, Option.isNone_none]
  rw [hN]
  generalize hm : 7 + v = many
  have m0 : 7 ≤ many := by omega
  have m1 : many ≤ 8 := by omega
  have lr := lrng_I (show 0 ≤ many by omega) (show many ≤ 1000 by omega)
  repeat' array_get_dec
  apply wb_forP (List.range many.toNat) (fun k : Nat => D.int (k : Int)) (fun pre (s : D × List Int × List Int × Sl) => [.io s.1, .val (.int many), .own (.list (s.2.1.map .int)), .own (.list (s.2.2.1.map .int)), s.2.2.2, .no])
    (fun pre s => Tp s.1 ∧ (s.2.2.1 ++ s.2.1).Perm (rngI many) ∧ s.2.2.1.length = pre.length ∧ isFr s.2.2.2 = true) (t0, rngI many, [], Sl.no)
  repeat' array_get_dec
  · exact ⟨ht0, List.Perm.refl _, rfl, rfl⟩
  · rintro pre x rest ⟨t1, left, found, x4⟩ T e ⟨ht1, hp, hl, q4⟩ hT'
    have hp : (found ++ left).Perm (rngI many) := hp
    have hl : found.length = pre.length := hl
    have ln := hp.length_eq
    rw [rngI_len, List.length_append] at ln
    have le := congrArg List.length e
    rw [List.length_range, List.length_append, List.length_cons] at le
    refine ⟨_, by repeat' array_get_dec, ?_⟩
    unfold b_law_chain_b1
    refine pop_step hG ht1 (by omega) (by omega) (by omega) fun j v t' hj ht' => ?_
    exact hT' (t', left.eraseIdx j, found ++ [v], _) ⟨ht', erase_perm hp hj, by simp [hl], rfl⟩
  · rintro ⟨t1, left, row, x4⟩ ⟨ht1, hp, hl, q4⟩
    have hp : (row ++ left).Perm (rngI many) := hp
    have hl : row.length = (List.range many.toNat).length := hl
    have ln := hp.length_eq
    rw [rngI_len, List.length_append] at ln
    rw [List.length_range] at hl
    have e : left = [] := List.length_eq_zero_iff.mp (by omega)
    subst e
    rw [List.append_nil] at hp
    have hb : ∀ k ∈ row, 0 ≤ k ∧ k < many := fun k hk => (mem_rngI (by omega)).mp (hp.mem_iff.mp hk)
    have q4 : isFr x4 = true := q4
    refine wpB_step fun N hN => ?_
    simp only [wpD_f, wpD_n, wpF, wpN, Bool.false_eq_true, if_false, if_true, ev0, List.zipWith_cons_cons, List.zipWith_nil_left, List.zipWith_nil_right, List.zipWith, List.replicate, List.length_cons, List.length_nil, Nat.reduceAdd, Nat.reduceSub, List.cons_append, List.nil_append, wpB, MW.wpS, wpc, wpcs, opd, wp, wps, wpo, wpa, wpp, bnd_some, bnd_none, bnd_if, bnd_map, bnd_bind, pk, rdv, setv_e, setc, getc_e, isFr_no, isFr_val, isFr_own, isFr_io, isOw_own, isOw_io, getcS_own, getcS_io, List.getElem?_cons_zero, List.getElem?_cons_succ, List.set_cons_zero, List.set_cons_succ, add_ii, add_ss, add_ll, add_tt, sub_ii, mul_ii, mul_si, mod_ii, fdiv_ii, pow_ii, shr_ii, and_ii, c_eq, c_ne, lt_ii, lt_ss, gt_ii, gt_ss, le_ii, ge_ii, in_l, in_t, in_s, nin_l, nin_t, nin_s, is_n, isn_n, is_bb, isn_bb, ix_l, ix_t, ix_s, sl_l, sl_t, sl_s, t_b, t_i, t_l, t_t, t_n, t_s, len_s, len_l, len_t, tup_l, tup_t, lst_l, lst_t, srt_l, sset_x, lset_x, ssetM, lsetM, all_l, any_l, int_b, int_i, repr_x, isi_x, revs_l, revs_s, trng_x, lrng_x, rep_x, cat_x, lst_s, ix_dk, dnew_x, as_d, key_i, key_s, enum_l, enum_t, srt_t, in_dk, nin_dk, len_dk, srt_dk, dpairs_l, find_x, findT, join_x, joinT, lt_l, lt_t, as_i, as_l, as_t, as_b, atA, atB, atC, atDd, atE, tn0, tn1, tn2, tn3, outsO, List.tail_cons, tgt, tgts, Option.bind_some, Option.map_some, Option.bind_none, Option.map_none, ownD, isTy, hG, argsIo, ioOk, List.all_cons, List.all_nil, Bool.and_true, Option.isSome_some, peekC, outsE, true_and, and_true, srcD, itemsD, turns, List.map_cons, List.map_nil, wipeE, backE, noOwn, Option.isNone_none, q4, rng_1n (show 1 ≤ many by omega) (show many ≤ 1000 by omega)]
    refine turns_inv (fun rest acc ρ => ∃ (l : List Stp) (t' : D) (x : Sl), (∀ d ∈ rest, ∃ k : Int, d = .int k ∧ 1 ≤ k ∧ k < many) ∧ l.length + rest.length ≤ 8 ∧ (∀ s ∈ l, SOk abyz many s) ∧ acc = l.map dS ∧ Tp t' ∧ isFr x = true ∧ ρ = [.io t', .val (.int many), .own (.list (([] : List Int).map .int)), .own (.list (row.map .int)), x, .no]) ?_ ?_ _ _ _
      ⟨[], t1, _, fun d hd => by
        obtain ⟨k, hk, rfl⟩ := List.mem_map.mp hd
        have := List.mem_range.mp hk
        exact ⟨_, rfl, by omega, by omega⟩, by simp; omega, fun s hs => (by cases hs), rfl, ht1, rfl, rfl⟩
    · rintro d rest acc ρ T ⟨l, t', x, hd, hll, hs, rfl, ht', hx, rfl⟩ hT
      obtain ⟨k, rfl, k1, k2⟩ := hd d List.mem_cons_self
      obtain ⟨a, ha, ea⟩ := at_in (xs := row) (i := k - 1) (by omega) (by omega)
      obtain ⟨b, hb', eb⟩ := at_in (xs := row) (i := k) (by omega) (by omega)
      simp only [b_law_chain_e2, wpD_f, wpD_n, wpF, wpN, Bool.false_eq_true, if_false, if_true, ev0, List.zipWith_cons_cons, List.zipWith_nil_left, List.zipWith_nil_right, List.zipWith, List.replicate, List.length_cons, List.length_nil, Nat.reduceAdd, Nat.reduceSub, List.cons_append, List.nil_append, wpB, MW.wpS, wpc, wpcs, opd, wp, wps, wpo, wpa, wpp, bnd_some, bnd_none, bnd_if, bnd_map, bnd_bind, pk, rdv, setv_e, setc, getc_e, isFr_no, isFr_val, isFr_own, isFr_io, isOw_own, isOw_io, getcS_own, getcS_io, List.getElem?_cons_zero, List.getElem?_cons_succ, List.set_cons_zero, List.set_cons_succ, add_ii, add_ss, add_ll, add_tt, sub_ii, mul_ii, mul_si, mod_ii, fdiv_ii, pow_ii, shr_ii, and_ii, c_eq, c_ne, lt_ii, lt_ss, gt_ii, gt_ss, le_ii, ge_ii, in_l, in_t, in_s, nin_l, nin_t, nin_s, is_n, isn_n, is_bb, isn_bb, ix_l, ix_t, ix_s, sl_l, sl_t, sl_s, t_b, t_i, t_l, t_t, t_n, t_s, len_s, len_l, len_t, tup_l, tup_t, lst_l, lst_t, srt_l, sset_x, lset_x, ssetM, lsetM, all_l, any_l, int_b, int_i, repr_x, isi_x, revs_l, revs_s, trng_x, lrng_x, rep_x, cat_x, lst_s, ix_dk, dnew_x, as_d, key_i, key_s, enum_l, enum_t, srt_t, in_dk, nin_dk, len_dk, srt_dk, dpairs_l, find_x, findT, join_x, joinT, lt_l, lt_t, as_i, as_l, as_t, as_b, atA, atB, atC, atDd, atE, tn0, tn1, tn2, tn3, outsO, List.tail_cons, tgt, tgts, Option.bind_some, Option.map_some, Option.bind_none, Option.map_none, ownD, isTy, hG, argsIo, ioOk, List.all_cons, List.all_nil, Bool.and_true, Option.isSome_some, peekC, outsE, true_and, and_true, srcD, itemsD, turns, List.map_cons, List.map_nil, wipeE, backE, noOwn, Option.isNone_none, hx, at_m (f := D.int) ea]
      refine ⟨by decide, t', 4, rfl, ht', by decide, by decide, fun v' t2 v0' v1' ht2 => ?_⟩
      obtain ⟨c, hc, ec⟩ := at_in (xs := abyz) (i := v') v0' v1'
      have ec' : atD [97, 98, 121, 122] v' = some c := ec
      simp only [wpD_f, wpD_n, wpF, wpN, Bool.false_eq_true, if_false, if_true, ev0, List.zipWith_cons_cons, List.zipWith_nil_left, List.zipWith_nil_right, List.zipWith, List.replicate, List.length_cons, List.length_nil, Nat.reduceAdd, Nat.reduceSub, List.cons_append, List.nil_append, wpB, MW.wpS, wpc, wpcs, opd, wp, wps, wpo, wpa, wpp, bnd_some, bnd_none, bnd_if, bnd_map, bnd_bind, pk, rdv, setv_e, setc, getc_e, isFr_no, isFr_val, isFr_own, isFr_io, isOw_own, isOw_io, getcS_own, getcS_io, List.getElem?_cons_zero, List.getElem?_cons_succ, List.set_cons_zero, List.set_cons_succ, add_ii, add_ss, add_ll, add_tt, sub_ii, mul_ii, mul_si, mod_ii, fdiv_ii, pow_ii, shr_ii, and_ii, c_eq, c_ne, lt_ii, lt_ss, gt_ii, gt_ss, le_ii, ge_ii, in_l, in_t, in_s, nin_l, nin_t, nin_s, is_n, isn_n, is_bb, isn_bb, ix_l, ix_t, ix_s, sl_l, sl_t, sl_s, t_b, t_i, t_l, t_t, t_n, t_s, len_s, len_l, len_t, tup_l, tup_t, lst_l, lst_t, srt_l, sset_x, lset_x, ssetM, lsetM, all_l, any_l, int_b, int_i, repr_x, isi_x, revs_l, revs_s, trng_x, lrng_x, rep_x, cat_x, lst_s, ix_dk, dnew_x, as_d, key_i, key_s, enum_l, enum_t, srt_t, in_dk, nin_dk, len_dk, srt_dk, dpairs_l, find_x, findT, join_x, joinT, lt_l, lt_t, as_i, as_l, as_t, as_b, atA, atB, atC, atDd, atE, tn0, tn1, tn2, tn3, outsO, List.tail_cons, tgt, tgts, Option.bind_some, Option.map_some, Option.bind_none, Option.map_none, ownD, isTy, hG, argsIo, ioOk, List.all_cons, List.all_nil, Bool.and_true, Option.isSome_some, peekC, outsE, true_and, and_true, srcD, itemsD, turns, List.map_cons, List.map_nil, wipeE, backE, noOwn, Option.isNone_none, hx, at_m (f := D.int) eb, ec', show fitL 4 = true from by decide, show fitL 3 = true from by decide]
      have ll : l.length + rest.length + 1 ≤ 8 := by have := hll; rw [List.length_cons] at this; omega
      refine ⟨siz_of (by rw [List.length_map]; omega), ?_⟩
      rw [show l.map dS ++ [D.tuple [.int a, .str [c], .int b]] = (l ++ [(a, c, b)]).map dS by simp [dS]]
      exact hT _ _ ⟨l ++ [(a, c, b)], t2, .no, fun d hd' => hd d (List.mem_cons_of_mem _ hd'), by rw [List.length_append, List.length_singleton]; omega, fun s hs' => by
        rcases List.mem_append.mp hs' with z | z
        · exact hs s z
        · rw [List.mem_singleton] at z; rw [z]; exact ⟨hb a ha, hc, hb b hb'⟩, rfl, ht2, rfl, rfl⟩
    · rintro acc ρ ⟨l, t', x, _, hll, hs, rfl, ht', hx, rfl⟩
      simp only [wpD_f, wpD_n, wpF, wpN, Bool.false_eq_true, if_false, if_true, ev0, List.zipWith_cons_cons, List.zipWith_nil_left, List.zipWith_nil_right, List.zipWith, List.replicate, List.length_cons, List.length_nil, Nat.reduceAdd, Nat.reduceSub, List.cons_append, List.nil_append, wpB, MW.wpS, wpc, wpcs, opd, wp, wps, wpo, wpa, wpp, bnd_some, bnd_none, bnd_if, bnd_map, bnd_bind, pk, rdv, setv_e, setc, getc_e, isFr_no, isFr_val, isFr_own, isFr_io, isOw_own, isOw_io, getcS_own, getcS_io, List.getElem?_cons_zero, List.getElem?_cons_succ, List.set_cons_zero, List.set_cons_succ, add_ii, add_ss, add_ll, add_tt, sub_ii, mul_ii, mul_si, mod_ii, fdiv_ii, pow_ii, shr_ii, and_ii, c_eq, c_ne, lt_ii, lt_ss, gt_ii, gt_ss, le_ii, ge_ii, in_l, in_t, in_s, nin_l, nin_t, nin_s, is_n, isn_n, is_bb, isn_bb, ix_l, ix_t, ix_s, sl_l, sl_t, sl_s, t_b, t_i, t_l, t_t, t_n, t_s, len_s, len_l, len_t, tup_l, tup_t, lst_l, lst_t, srt_l, sset_x, lset_x, ssetM, lsetM, all_l, any_l, int_b, int_i, repr_x, isi_x, revs_l, revs_s, trng_x, lrng_x, rep_x, cat_x, lst_s, ix_dk, dnew_x, as_d, key_i, key_s, enum_l, enum_t, srt_t, in_dk, nin_dk, len_dk, srt_dk, dpairs_l, find_x, findT, join_x, joinT, lt_l, lt_t, as_i, as_l, as_t, as_b, atA, atB, atC, atDd, atE, tn0, tn1, tn2, tn3, outsO, List.tail_cons, tgt, tgts, Option.bind_some, Option.map_some, Option.bind_none, Option.map_none, ownD, isTy, hG, argsIo, ioOk, List.all_cons, List.all_nil, Bool.and_true, Option.isSome_some, peekC, outsE, true_and, and_true, srcD, itemsD, turns, List.map_cons, List.map_nil, wipeE, backE, noOwn, Option.isNone_none, hx, q4]
      rw [hN]
      refine wpB_step fun N hN => ?_
      simp only [wpD_f, wpD_n, wpF, wpN, Bool.false_eq_true, if_false, if_true, ev0, List.zipWith_cons_cons, List.zipWith_nil_left, List.zipWith_nil_right, List.zipWith, List.replicate, List.length_cons, List.length_nil, Nat.reduceAdd, Nat.reduceSub, List.cons_append, List.nil_append, wpB, MW.wpS, wpc, wpcs, opd, wp, wps, wpo, wpa, wpp, bnd_some, bnd_none, bnd_if, bnd_map, bnd_bind, pk, rdv, setv_e, setc, getc_e, isFr_no, isFr_val, isFr_own, isFr_io, isOw_own, isOw_io, getcS_own, getcS_io, List.getElem?_cons_zero, List.getElem?_cons_succ, List.set_cons_zero, List.set_cons_succ, add_ii, add_ss, add_ll, add_tt, sub_ii, mul_ii, mul_si, mod_ii, fdiv_ii, pow_ii, shr_ii, and_ii, c_eq, c_ne, lt_ii, lt_ss, gt_ii, gt_ss, le_ii, ge_ii, in_l, in_t, in_s, nin_l, nin_t, nin_s, is_n, isn_n, is_bb, isn_bb, ix_l, ix_t, ix_s, sl_l, sl_t, sl_s, t_b, t_i, t_l, t_t, t_n, t_s, len_s, len_l, len_t, tup_l, tup_t, lst_l, lst_t, srt_l, sset_x, lset_x, ssetM, lsetM, all_l, any_l, int_b, int_i, repr_x, isi_x, revs_l, revs_s, trng_x, lrng_x, rep_x, cat_x, lst_s, ix_dk, dnew_x, as_d, key_i, key_s, enum_l, enum_t, srt_t, in_dk, nin_dk, len_dk, srt_dk, dpairs_l, find_x, findT, join_x, joinT, lt_l, lt_t, as_i, as_l, as_t, as_b, atA, atB, atC, atDd, atE, tn0, tn1, tn2, tn3, outsO, List.tail_cons, tgt, tgts, Option.bind_some, Option.map_some, Option.bind_none, Option.map_none, ownD, isTy, hG, argsIo, ioOk, List.all_cons, List.all_nil, Bool.and_true, Option.isSome_some, peekC, outsE, true_and, and_true, srcD, itemsD, turns, List.map_cons, List.map_nil, wipeE, backE, noOwn, Option.isNone_none, q4]
      refine ⟨by decide, t', 3, rfl, ht', by decide, by decide, fun v2 t2 v20 v21 ht2 => ?_⟩
      simp only [wpD_f, wpD_n, wpF, wpN, Bool.false_eq_true, if_false, if_true, ev0, List.zipWith_cons_cons, List.zipWith_nil_left, List.zipWith_nil_right, List.zipWith, List.replicate, List.length_cons, List.length_nil, Nat.reduceAdd, Nat.reduceSub, List.cons_append, List.nil_append, wpB, MW.wpS, wpc, wpcs, opd, wp, wps, wpo, wpa, wpp, bnd_some, bnd_none, bnd_if, bnd_map, bnd_bind, pk, rdv, setv_e, setc, getc_e, isFr_no, isFr_val, isFr_own, isFr_io, isOw_own, isOw_io, getcS_own, getcS_io, List.getElem?_cons_zero, List.getElem?_cons_succ, List.set_cons_zero, List.set_cons_succ, add_ii, add_ss, add_ll, add_tt, sub_ii, mul_ii, mul_si, mod_ii, fdiv_ii, pow_ii, shr_ii, and_ii, c_eq, c_ne, lt_ii, lt_ss, gt_ii, gt_ss, le_ii, ge_ii, in_l, in_t, in_s, nin_l, nin_t, nin_s, is_n, isn_n, is_bb, isn_bb, ix_l, ix_t, ix_s, sl_l, sl_t, sl_s, t_b, t_i, t_l, t_t, t_n, t_s, len_s, len_l, len_t, tup_l, tup_t, lst_l, lst_t, srt_l, sset_x, lset_x, ssetM, lsetM, all_l, any_l, int_b, int_i, repr_x, isi_x, revs_l, revs_s, trng_x, lrng_x, rep_x, cat_x, lst_s, ix_dk, dnew_x, as_d, key_i, key_s, enum_l, enum_t, srt_t, in_dk, nin_dk, len_dk, srt_dk, dpairs_l, find_x, findT, join_x, joinT, lt_l, lt_t, as_i, as_l, as_t, as_b, atA, atB, atC, atDd, atE, tn0, tn1, tn2, tn3, outsO, List.tail_cons, tgt, tgts, Option.bind_some, Option.map_some, Option.bind_none, Option.map_none, ownD, isTy, hG, argsIo, ioOk, List.all_cons, List.all_nil, Bool.and_true, Option.isSome_some, peekC, outsE, true_and, and_true, srcD, itemsD, turns, List.map_cons, List.map_nil, wipeE, backE, noOwn, Option.isNone_none, q4, rng_n v20 (show v2 ≤ 1000000 by omega)]
      refine forW_inv (fun rest ρ => ∃ (l : List Stp) (t' : D) (x : Sl), l.length + rest.length ≤ 16 ∧ (∀ s ∈ l, SOk abyz many s) ∧ Tp t' ∧ isFr x = true ∧ ρ = [.io t', .val (.int many), .own (.list (([] : List Int).map .int)), .own (.list (row.map .int)), x, .own (.list (l.map dS))]) ?_ ?_ _ _
        ⟨l, t2, x4, by have : l.length ≤ 8 := hll; rw [List.length_map, List.length_range]; omega, hs, ht2, q4, rfl⟩
      · rintro d rest ρ T ⟨l, t', x, hll, hs, ht', hx, rfl⟩ hT
        rw [List.length_cons] at hll
        simp only [b_law_chain_b3, wpD_f, wpD_n, wpF, wpN, Bool.false_eq_true, if_false, if_true, ev0, List.zipWith_cons_cons, List.zipWith_nil_left, List.zipWith_nil_right, List.zipWith, List.replicate, List.length_cons, List.length_nil, Nat.reduceAdd, Nat.reduceSub, List.cons_append, List.nil_append, wpB, MW.wpS, wpc, wpcs, opd, wp, wps, wpo, wpa, wpp, bnd_some, bnd_none, bnd_if, bnd_map, bnd_bind, pk, rdv, setv_e, setc, getc_e, isFr_no, isFr_val, isFr_own, isFr_io, isOw_own, isOw_io, getcS_own, getcS_io, List.getElem?_cons_zero, List.getElem?_cons_succ, List.set_cons_zero, List.set_cons_succ, add_ii, add_ss, add_ll, add_tt, sub_ii, mul_ii, mul_si, mod_ii, fdiv_ii, pow_ii, shr_ii, and_ii, c_eq, c_ne, lt_ii, lt_ss, gt_ii, gt_ss, le_ii, ge_ii, in_l, in_t, in_s, nin_l, nin_t, nin_s, is_n, isn_n, is_bb, isn_bb, ix_l, ix_t, ix_s, sl_l, sl_t, sl_s, t_b, t_i, t_l, t_t, t_n, t_s, len_s, len_l, len_t, tup_l, tup_t, lst_l, lst_t, srt_l, sset_x, lset_x, ssetM, lsetM, all_l, any_l, int_b, int_i, repr_x, isi_x, revs_l, revs_s, trng_x, lrng_x, rep_x, cat_x, lst_s, ix_dk, dnew_x, as_d, key_i, key_s, enum_l, enum_t, srt_t, in_dk, nin_dk, len_dk, srt_dk, dpairs_l, find_x, findT, join_x, joinT, lt_l, lt_t, as_i, as_l, as_t, as_b, atA, atB, atC, atDd, atE, tn0, tn1, tn2, tn3, outsO, List.tail_cons, tgt, tgts, Option.bind_some, Option.map_some, Option.bind_none, Option.map_none, ownD, isTy, hG, argsIo, ioOk, List.all_cons, List.all_nil, Bool.and_true, Option.isSome_some, peekC, outsE, true_and, and_true, srcD, itemsD, turns, List.map_cons, List.map_nil, wipeE, backE, noOwn, Option.isNone_none, hx]
        refine ⟨by decide, t', many, rfl, ht', by omega, by omega, fun a t3 a0 a1 ht3 => ?_⟩
        simp only [wpD_f, wpD_n, wpF, wpN, Bool.false_eq_true, if_false, if_true, ev0, List.zipWith_cons_cons, List.zipWith_nil_left, List.zipWith_nil_right, List.zipWith, List.replicate, List.length_cons, List.length_nil, Nat.reduceAdd, Nat.reduceSub, List.cons_append, List.nil_append, wpB, MW.wpS, wpc, wpcs, opd, wp, wps, wpo, wpa, wpp, bnd_some, bnd_none, bnd_if, bnd_map, bnd_bind, pk, rdv, setv_e, setc, getc_e, isFr_no, isFr_val, isFr_own, isFr_io, isOw_own, isOw_io, getcS_own, getcS_io, List.getElem?_cons_zero, List.getElem?_cons_succ, List.set_cons_zero, List.set_cons_succ, add_ii, add_ss, add_ll, add_tt, sub_ii, mul_ii, mul_si, mod_ii, fdiv_ii, pow_ii, shr_ii, and_ii, c_eq, c_ne, lt_ii, lt_ss, gt_ii, gt_ss, le_ii, ge_ii, in_l, in_t, in_s, nin_l, nin_t, nin_s, is_n, isn_n, is_bb, isn_bb, ix_l, ix_t, ix_s, sl_l, sl_t, sl_s, t_b, t_i, t_l, t_t, t_n, t_s, len_s, len_l, len_t, tup_l, tup_t, lst_l, lst_t, srt_l, sset_x, lset_x, ssetM, lsetM, all_l, any_l, int_b, int_i, repr_x, isi_x, revs_l, revs_s, trng_x, lrng_x, rep_x, cat_x, lst_s, ix_dk, dnew_x, as_d, key_i, key_s, enum_l, enum_t, srt_t, in_dk, nin_dk, len_dk, srt_dk, dpairs_l, find_x, findT, join_x, joinT, lt_l, lt_t, as_i, as_l, as_t, as_b, atA, atB, atC, atDd, atE, tn0, tn1, tn2, tn3, outsO, List.tail_cons, tgt, tgts, Option.bind_some, Option.map_some, Option.bind_none, Option.map_none, ownD, isTy, hG, argsIo, ioOk, List.all_cons, List.all_nil, Bool.and_true, Option.isSome_some, peekC, outsE, true_and, and_true, srcD, itemsD, turns, List.map_cons, List.map_nil, wipeE, backE, noOwn, Option.isNone_none, hx]
        refine ⟨by decide, t3, 4, rfl, ht3, by decide, by decide, fun v' t4 v0' v1' ht4 => ?_⟩
        obtain ⟨c, hc, ec⟩ := at_in (xs := abyz) (i := v') v0' v1'
        have ec' : atD [97, 98, 121, 122] v' = some c := ec
        simp only [wpD_f, wpD_n, wpF, wpN, Bool.false_eq_true, if_false, if_true, ev0, List.zipWith_cons_cons, List.zipWith_nil_left, List.zipWith_nil_right, List.zipWith, List.replicate, List.length_cons, List.length_nil, Nat.reduceAdd, Nat.reduceSub, List.cons_append, List.nil_append, wpB, MW.wpS, wpc, wpcs, opd, wp, wps, wpo, wpa, wpp, bnd_some, bnd_none, bnd_if, bnd_map, bnd_bind, pk, rdv, setv_e, setc, getc_e, isFr_no, isFr_val, isFr_own, isFr_io, isOw_own, isOw_io, getcS_own, getcS_io, List.getElem?_cons_zero, List.getElem?_cons_succ, List.set_cons_zero, List.set_cons_succ, add_ii, add_ss, add_ll, add_tt, sub_ii, mul_ii, mul_si, mod_ii, fdiv_ii, pow_ii, shr_ii, and_ii, c_eq, c_ne, lt_ii, lt_ss, gt_ii, gt_ss, le_ii, ge_ii, in_l, in_t, in_s, nin_l, nin_t, nin_s, is_n, isn_n, is_bb, isn_bb, ix_l, ix_t, ix_s, sl_l, sl_t, sl_s, t_b, t_i, t_l, t_t, t_n, t_s, len_s, len_l, len_t, tup_l, tup_t, lst_l, lst_t, srt_l, sset_x, lset_x, ssetM, lsetM, all_l, any_l, int_b, int_i, repr_x, isi_x, revs_l, revs_s, trng_x, lrng_x, rep_x, cat_x, lst_s, ix_dk, dnew_x, as_d, key_i, key_s, enum_l, enum_t, srt_t, in_dk, nin_dk, len_dk, srt_dk, dpairs_l, find_x, findT, join_x, joinT, lt_l, lt_t, as_i, as_l, as_t, as_b, atA, atB, atC, atDd, atE, tn0, tn1, tn2, tn3, outsO, List.tail_cons, tgt, tgts, Option.bind_some, Option.map_some, Option.bind_none, Option.map_none, ownD, isTy, hG, argsIo, ioOk, List.all_cons, List.all_nil, Bool.and_true, Option.isSome_some, peekC, outsE, true_and, and_true, srcD, itemsD, turns, List.map_cons, List.map_nil, wipeE, backE, noOwn, Option.isNone_none, hx, ec', show fitL 4 = true from by decide, show fitL 3 = true from by decide]
        refine ⟨by decide, t4, many, rfl, ht4, by omega, by omega, fun b t5 b0 b1 ht5 => ?_⟩
        simp only [wpD_f, wpD_n, wpF, wpN, Bool.false_eq_true, if_false, if_true, ev0, List.zipWith_cons_cons, List.zipWith_nil_left, List.zipWith_nil_right, List.zipWith, List.replicate, List.length_cons, List.length_nil, Nat.reduceAdd, Nat.reduceSub, List.cons_append, List.nil_append, wpB, MW.wpS, wpc, wpcs, opd, wp, wps, wpo, wpa, wpp, bnd_some, bnd_none, bnd_if, bnd_map, bnd_bind, pk, rdv, setv_e, setc, getc_e, isFr_no, isFr_val, isFr_own, isFr_io, isOw_own, isOw_io, getcS_own, getcS_io, List.getElem?_cons_zero, List.getElem?_cons_succ, List.set_cons_zero, List.set_cons_succ, add_ii, add_ss, add_ll, add_tt, sub_ii, mul_ii, mul_si, mod_ii, fdiv_ii, pow_ii, shr_ii, and_ii, c_eq, c_ne, lt_ii, lt_ss, gt_ii, gt_ss, le_ii, ge_ii, in_l, in_t, in_s, nin_l, nin_t, nin_s, is_n, isn_n, is_bb, isn_bb, ix_l, ix_t, ix_s, sl_l, sl_t, sl_s, t_b, t_i, t_l, t_t, t_n, t_s, len_s, len_l, len_t, tup_l, tup_t, lst_l, lst_t, srt_l, sset_x, lset_x, ssetM, lsetM, all_l, any_l, int_b, int_i, repr_x, isi_x, revs_l, revs_s, trng_x, lrng_x, rep_x, cat_x, lst_s, ix_dk, dnew_x, as_d, key_i, key_s, enum_l, enum_t, srt_t, in_dk, nin_dk, len_dk, srt_dk, dpairs_l, find_x, findT, join_x, joinT, lt_l, lt_t, as_i, as_l, as_t, as_b, atA, atB, atC, atDd, atE, tn0, tn1, tn2, tn3, outsO, List.tail_cons, tgt, tgts, Option.bind_some, Option.map_some, Option.bind_none, Option.map_none, ownD, isTy, hG, argsIo, ioOk, List.all_cons, List.all_nil, Bool.and_true, Option.isSome_some, peekC, outsE, true_and, and_true, srcD, itemsD, turns, List.map_cons, List.map_nil, wipeE, backE, noOwn, Option.isNone_none, hx, show fitL 3 = true from by decide]
        refine ⟨siz_of (by rw [List.length_map]; omega), ?_⟩
        rw [show l.map dS ++ [D.tuple [.int a, .str [c], .int b]] = (l ++ [(a, c, b)]).map dS by simp [dS]]
        exact hT _ ⟨l ++ [(a, c, b)], t5, _, by rw [List.length_append, List.length_singleton]; omega, fun s hs' => by
          rcases List.mem_append.mp hs' with z | z
          · exact hs s z
          · rw [List.mem_singleton] at z; rw [z]; exact ⟨⟨a0, a1⟩, hc, b0, b1⟩, ht5, rfl, rfl⟩
      · rintro ρ ⟨l, t', x, hll, hs, ht', hx, rfl⟩
        have hll : l.length ≤ 16 := hll
        show N _
        rw [hN]
        obtain ⟨a, ha, ea⟩ := at_in (xs := row) (i := 0) (by omega) (by omega)
        have r0 : idxD (.list (row.map D.int)) (.int 0) = some (.int a) := at_m ea
        obtain ⟨b, hb', rl⟩ : ∃ b, b ∈ row ∧ idxD (.list (row.map D.int)) (.int (-1)) = some (.int b) := by
          have lt : row.length - 1 < row.length := by omega
          refine ⟨row[row.length - 1], List.getElem_mem lt, ?_⟩
          have e : atD row (-1) = some row[row.length - 1] := by
            unfold atD
            rw [if_neg (by omega), if_pos (by omega), show ((-1 : Int) + (row.length : Int)).toNat = row.length - 1 by omega]
            exact List.getElem?_eq_getElem lt
          exact at_m e
        have lo := onceL_le l
        have sS : biD .sset [.list (l.map dS)] = some (.list ((sets l).map dS)) := by
          rw [sset_x]
          exact sset_dS (by omega) (by omega)
        have hR := hR ⟨abyz, many, [a], [b], sets l⟩ t' ⟨sg_abyz, by show 0 < many; omega, m1, ⟨by show List.Pairwise _ [a]; simp, fun k hk => by rw [List.mem_singleton.mp hk]; exact hb a ha⟩, ⟨by show List.Pairwise _ [b]; simp, fun k hk => by rw [List.mem_singleton.mp hk]; exact hb b hb'⟩,
          ⟨fun s hs' => hs s (mem_sets.mp hs'), sets_ris l, by have := sets_len l; show (sets l).length ≤ 256; omega⟩⟩ ht'
        repeat' array_get_dec
        ((try dsimp only); refine end_of hR ?_ ?_; (· rfl))
        rfl
end K08

set_option Elab.async false
set_option linter.all false
set_option maxRecDepth 100000
set_option maxHeartbeats 0

namespace K08
open PySem MW MH
/-! ### what is shown -/
structure Sm8 (m : Mac) : Prop where
  sg : Sg m.sg
  mn : 0 ≤ m.many ∧ m.many ≤ 1000
  b : ∀ k ∈ m.begins, 0 ≤ k ∧ k < 1000
  bl : m.begins.length ≤ 8
  e : ∀ k ∈ m.ends, 0 ≤ k ∧ k < 1000
  el : m.ends.length ≤ 8
  s : ∀ s ∈ m.steps, (0 ≤ s.1 ∧ s.1 < 1000) ∧ s.2.1 < 128 ∧ (0 ≤ s.2.2 ∧ s.2.2 < 1000)
  l : m.steps.length ≤ 256
theorem shw_8 {m : Mac} (h : Sm8 m) : shwD (dM m) = true := by
  have m0 := h.mn
  have si : ∀ {l : List Int}, (∀ k ∈ l, 0 ≤ k ∧ k < 1000) → l.length ≤ 8 → tames (l.map .int) = true ∧ buls (l.map .int) ≤ 8 := fun {l} q ql =>
    ⟨tame_ints fun k hk => by have := q k hk; omega, Nat.le_trans (buls_ints l) ql⟩
  have ss : tames (m.steps.map dS) = true ∧ buls (m.steps.map dS) ≤ 256 * 5 := by
    constructor
    · rw [tames_iff]
      intro d hd
      obtain ⟨s, hs, rfl⟩ := List.mem_map.mp hd
      obtain ⟨qa, qc, qb⟩ := h.s s hs
      simp only [dS, tame, tames, Bool.and_true, Bool.and_eq_true]
      refine ⟨?_, ?_, ?_⟩
      · have := tame_int (k := s.1) (by omega); simpa [tame] using this
      · simp; omega
      · have := tame_int (k := s.2.2) (by omega); simpa [tame] using this
    · have := buls_le (m.steps.map dS) 4 fun d hd => by
        obtain ⟨s, hs, rfl⟩ := List.mem_map.mp hd
        simp [dS, bul, buls]
      rw [List.length_map] at this
      exact Nat.le_trans this (Nat.mul_le_mul_right _ h.l)
  refine shwD_of (shp_dM m) ?_ ?_
  · simp only [dM, intsT, tame, tames, Bool.and_true, Bool.and_eq_true]
    refine ⟨?_, ?_, (si h.b h.bl).1, (si h.e h.el).1, ss.1⟩
    · rw [List.all_eq_true]
      intro c hc
      have := h.sg.lt c hc
      simp; omega
    · have := tame_int (k := m.many) (by omega); simpa [tame] using this
  · have := (si h.b h.bl).2
    have := (si h.e h.el).2
    have := ss.2
    have := h.sg.l1
    simp only [dM, intsT, bul, buls]
    omega
theorem shw_ints {l : List Int} (h : ∀ k ∈ l, 0 ≤ k ∧ k < 8) (hl : l.length ≤ 8) : shwD (intsT l) = true := by
  refine shwD_of ?_ ?_ ?_
  · show (l.map D.int).all (shp 59) = true
    rw [List.all_map, List.all_eq_true]; intro k _; rfl
  · show tames (l.map .int) = true
    exact tame_ints fun k hk => by have := h k hk; omega
  · show bul (.tuple (l.map .int)) ≤ _
    have := buls_ints l
    simp only [bul]
    omega
theorem shw_nb {m : Mac} (hm : Mk m) {f : List Pr} (hf : Fk f) : shwD (nbD m f) = true := by
  have h1 := hm.m1
  have vb : ∀ x, hs f x = true → 0 ≤ vl f x ∧ vl f x < 1000 := fun x h => by
    obtain ⟨p, hp, e⟩ := vl_mem h
    rw [e]; exact hf.2 p hp
  have ib : ∀ s : List Int, (∀ k ∈ inN f s, 0 ≤ k ∧ k < 1000) ∧ (inN f s).length ≤ s.length := fun s => by
    refine ⟨fun k hk => ?_, ?_⟩
    · obtain ⟨x, hx, rfl⟩ := List.mem_map.mp (mem_isort.mp hk)
      exact vb x (List.mem_filter.mp hx).2
    · unfold inN
      rw [(isort_perm _).length_eq, List.length_map]
      exact List.length_filter_le _ _
  have lb := hm.b.len
  have le := hm.e.len
  have ls := hm.s.l
  have := ib m.begins
  have := ib m.ends
  refine shw_8 (m := ⟨m.sg, f.length, inN f m.begins, inN f m.ends, rS f m.steps⟩) ⟨hm.sg, ⟨by show 0 ≤ (f.length : Int); omega, by have := hf.1; show (f.length : Int) ≤ 1000; omega⟩, (ib _).1, by have := (ib m.begins).2; show (inN f m.begins).length ≤ 8; omega, (ib _).1, by have := (ib m.ends).2; show (inN f m.ends).length ≤ 8; omega, fun s hs' => ?_, ?_⟩
  · obtain ⟨x, hx, rfl⟩ := List.mem_map.mp (mem_srt.mp hs')
    obtain ⟨hx1, hx2⟩ := List.mem_filter.mp hx
    rw [Bool.and_eq_true] at hx2
    exact ⟨vb _ hx2.1, hm.sg.lt _ (hm.s.m x hx1).c, vb _ hx2.2⟩
  · show (rS f m.steps).length ≤ 256
    unfold rS
    rw [srt_len, List.length_map]
    exact Nat.le_trans (List.length_filter_le _ _) ls
theorem enumL_b {l : List Int} {p : Pr} (h : p ∈ enumL l) : (0 ≤ p.1 ∧ p.1 < (l.length : Int)) ∧ p.2 ∈ l := by
  obtain ⟨h1, h2⟩ := enumL_mem h
  have lt := (List.getElem?_eq_some_iff.mp h2).1
  exact ⟨⟨h1, by omega⟩, List.mem_of_getElem? h2⟩
theorem fk_U {u : List Int} (h : u.length ≤ 8) : Fk (nbU u) := fk_puts (by rw [List.length_map, enumL_len]; omega) fun p hp => by
  obtain ⟨q, hq, rfl⟩ := List.mem_map.mp hp
  have := (enumL_b hq).1
  show 0 ≤ q.1 ∧ q.1 < 1000
  omega
theorem fk_E {l : List Int} (h : l.length ≤ 8) (hb : ∀ k ∈ l, 0 ≤ k ∧ k < 8) : Fk (nbE l) := fk_puts (by rw [enumL_len]; omega) fun p hp => by
  have := hb _ (enumL_b hp).2
  omega
theorem usd_len (m : Mac) : (usd m).length ≤ 8 := Nat.le_trans (List.length_filter_le _ _) (clo_len _ _)
theorem usd_eq (m : Mac) : (cloF m).filter (fun x => decide (x ∈ cloB m)) = usd m := by
  refine ris_ext (List.Pairwise.filter _ (clo_ris _ _)) (List.Pairwise.filter _ (clo_ris _ _)) fun x => ?_
  unfold usd
  rw [List.mem_filter, List.mem_filter, decide_eq_true_eq, decide_eq_true_eq]
  exact And.comm
theorem shw_tr {m : Mac} (hm : Mk m) : shwD (trD m) = true := by
  unfold trD
  split
  · exact shw_8 (m := ⟨m.sg, 1, [], [], []⟩) ⟨hm.sg, (show (0 : Int) ≤ 1 ∧ (1 : Int) ≤ 1000 by decide), fun k h => (by cases h), Nat.zero_le _, fun k h => (by cases h), Nat.zero_le _, fun k h => (by cases h), Nat.zero_le _⟩
  · exact shw_nb hm (fk_U (usd_len m))
/-! ### the law -/
theorem wpB_app {Γ : Gm} : ∀ (A B : List Sm) (E : Nd), wpB Γ (A ++ B) E = wpB Γ A { E with nx := wpB Γ B E }
  | [], B, E => rfl
  | a :: A, B, E => by
    show MW.wpS Γ a { E with nx := wpB Γ (A ++ B) E } = _
    rw [wpB_app A B E]
    rfl
end K08

set_option Elab.async false
set_option linter.all false
set_option maxRecDepth 100000
set_option maxHeartbeats 0

namespace K08
open PySem MW MH
local macro_rules | `(tactic| array_get_dec) => `(tactic| first | exact en_fw | exact en_bw)
abbrev fOrd : Fn := ⟨[true, false], spOrd, false⟩
abbrev fChain : Fn := ⟨[true], spChain, false⟩
abbrev fMach : Fn := ⟨[true, false], spMachine, false⟩
abbrev fTape : Fn := ⟨[false], spTape, true⟩
structure GL (Γ : Gm) : Prop where
  T : Γ "_law_tape" = some fTape
  D : Γ "_law_draw" = some fDraw
  M : Γ "_law_machine" = some fMach
  C : Γ "_law_come_to" = some fClosed
  O : Γ "_law_order" = some fOrd
  H : Γ "_law_chain" = some fChain
  K : Γ "_law_called" = some fNb
  E : Γ "met" = some fMet
  L : Γ "leading" = some fLead
  X : Γ "trimmed" = some fTrim
  R : Γ "renamed" = some fRen
theorem law_tail2 (Γ : Gm) (g : GL Γ) (E : Nd) (x0 s2 s7 s9 : Sl) (t : D) (ht : Tp t) (m : Mac) (hm : Mk m) (S0 : List Nat) (r0 : biD .repr [dM m] = some (.str S0)) (q7 : isFr s7 = true) (q9 : isFr s9 = true)
    (hE : ∀ t' y9, Tp t' → isFr y9 = true → E.nx [x0, .own t', s2, .val (dM m), .val (.str S0), .val (intsT (cloF m)), .val (intsT (cloB m)), s7, .val (trD m), y9, .no, .no, .no]) :
    wpB Γ ((b_law_b6.drop 2).drop 8) E [x0, .own t, s2, .val (dM m), .val (.str S0), .val (intsT (cloF m)), .val (intsT (cloB m)), s7, .val (trD m), s9, .no, .no, .no] := by
  have hK := g.K
  have hM := g.E
  have hL := g.L
  have hX := g.X
  have hR := g.R
  have m1 := hm.m1
  have m0 := hm.m0
  obtain ⟨S1, r1⟩ : ∃ S : List Nat, biD .repr [intsT (cloF m)] = some (.str S) := ⟨_, by rw [repr_x, shw_ints (fun k hk => (mem_clo.mp hk).1) (clo_len _ _)]; rfl⟩
  obtain ⟨S2, r2⟩ : ∃ S : List Nat, biD .repr [intsT (cloB m)] = some (.str S) := ⟨_, by rw [repr_x, shw_ints (fun k hk => (mem_clo.mp hk).1) (clo_len _ _)]; rfl⟩
  obtain ⟨S3, r3⟩ : ∃ S : List Nat, biD .repr [trD m] = some (.str S) := ⟨_, by rw [repr_x, shw_tr hm]; rfl⟩
  have e1 : idxD (dM m) (.int 1) = some (.int m.many) := rfl
  unfold b_law_b6
  simp only [List.drop_succ_cons, List.drop_zero]
  refine wpB_step fun N hN => ?_
  have hG := g.O
  simp only [wpD_f, wpD_n, wpF, wpN, Bool.false_eq_true, if_false, if_true, ev0, List.zipWith_cons_cons, List.zipWith_nil_left, List.zipWith_nil_right, List.zipWith, List.replicate, List.length_cons, List.length_nil, Nat.reduceAdd, Nat.reduceSub, List.cons_append, List.nil_append, wpB, MW.wpS, wpc, wpcs, opd, wp, wps, wpo, wpa, wpp, bnd_some, bnd_none, bnd_if, bnd_map, bnd_bind, pk, rdv, setv_e, setc, getc_e, isFr_no, isFr_val, isFr_own, isFr_io, isOw_own, isOw_io, getcS_own, getcS_io, List.getElem?_cons_zero, List.getElem?_cons_succ, List.set_cons_zero, List.set_cons_succ, add_ii, add_ss, add_ll, add_tt, sub_ii, mul_ii, mul_si, mod_ii, fdiv_ii, pow_ii, shr_ii, and_ii, c_eq, c_ne, lt_ii, lt_ss, gt_ii, gt_ss, le_ii, ge_ii, in_l, in_t, in_s, nin_l, nin_t, nin_s, is_n, isn_n, is_bb, isn_bb, ix_l, ix_t, ix_s, sl_l, sl_t, sl_s, t_b, t_i, t_l, t_t, t_n, t_s, len_s, len_l, len_t, tup_l, tup_t, lst_l, lst_t, srt_l, sset_x, lset_x, ssetM, lsetM, all_l, any_l, int_b, int_i, isi_x, revs_l, revs_s, trng_x, lrng_x, rep_x, cat_x, lst_s, ix_dk, dnew_x, as_d, key_i, key_s, enum_l, enum_t, srt_t, in_dk, nin_dk, len_dk, srt_dk, dpairs_l, find_x, findT, join_x, joinT, lt_l, lt_t, as_i, as_l, as_t, as_b, atA, atB, atC, atDd, atE, tn0, tn1, tn2, tn3, outsO, List.tail_cons, tgt, tgts, Option.bind_some, Option.map_some, Option.bind_none, Option.map_none, ownD, isTy, hG, argsIo, ioOk, List.all_cons, List.all_nil, Bool.and_true, Option.isSome_some, peekC, outsE, true_and, and_true, srcD, itemsD, turns, List.map_cons, List.map_nil, wipeE, backE, noOwn, Option.isNone_none, e1, g.O, q9]
  refine ⟨by decide, t, m.many, rfl, ht, m0, by omega, fun l t' hp ht' => ?_⟩
  simp only [wpD_f, wpD_n, wpF, wpN, Bool.false_eq_true, if_false, if_true, ev0, List.zipWith_cons_cons, List.zipWith_nil_left, List.zipWith_nil_right, List.zipWith, List.replicate, List.length_cons, List.length_nil, Nat.reduceAdd, Nat.reduceSub, List.cons_append, List.nil_append, wpB, MW.wpS, wpc, wpcs, opd, wp, wps, wpo, wpa, wpp, bnd_some, bnd_none, bnd_if, bnd_map, bnd_bind, pk, rdv, setv_e, setc, getc_e, isFr_no, isFr_val, isFr_own, isFr_io, isOw_own, isOw_io, getcS_own, getcS_io, List.getElem?_cons_zero, List.getElem?_cons_succ, List.set_cons_zero, List.set_cons_succ, add_ii, add_ss, add_ll, add_tt, sub_ii, mul_ii, mul_si, mod_ii, fdiv_ii, pow_ii, shr_ii, and_ii, c_eq, c_ne, lt_ii, lt_ss, gt_ii, gt_ss, le_ii, ge_ii, in_l, in_t, in_s, nin_l, nin_t, nin_s, is_n, isn_n, is_bb, isn_bb, ix_l, ix_t, ix_s, sl_l, sl_t, sl_s, t_b, t_i, t_l, t_t, t_n, t_s, len_s, len_l, len_t, tup_l, tup_t, lst_l, lst_t, srt_l, sset_x, lset_x, ssetM, lsetM, all_l, any_l, int_b, int_i, isi_x, revs_l, revs_s, trng_x, lrng_x, rep_x, cat_x, lst_s, ix_dk, dnew_x, as_d, key_i, key_s, enum_l, enum_t, srt_t, in_dk, nin_dk, len_dk, srt_dk, dpairs_l, find_x, findT, join_x, joinT, lt_l, lt_t, as_i, as_l, as_t, as_b, atA, atB, atC, atDd, atE, tn0, tn1, tn2, tn3, outsO, List.tail_cons, tgt, tgts, Option.bind_some, Option.map_some, Option.bind_none, Option.map_none, ownD, isTy, hG, argsIo, ioOk, List.all_cons, List.all_nil, Bool.and_true, Option.isSome_some, peekC, outsE, true_and, and_true, srcD, itemsD, turns, List.map_cons, List.map_nil, wipeE, backE, noOwn, Option.isNone_none, q9]
  rw [hN]
  have ll : l.length ≤ 8 := by rw [hp.length_eq, rngI_len]; omega
  have lb : ∀ k ∈ l, 0 ≤ k ∧ k < 8 := fun k hk => by have := (mem_rngI (by omega)).mp (hp.mem_iff.mp hk); omega
  have pR : Mk m ∧ l.length ≤ 1000 := ⟨hm, by omega⟩
  have dE := dict_E (l := l) (by omega)
  obtain ⟨S4, r4⟩ : ∃ S : List Nat, biD .repr [nbD m (nbE l)] = some (.str S) := ⟨_, by rw [repr_x, shw_nb hm (fk_E ll lb)]; rfl⟩
  repeat' array_get_dec
  · intro c
    simp at c
  · intro _
    repeat' array_get_dec
    · intro c
      simp at c
    · intro _
      repeat' array_get_dec
      · intro c
        simp at c
      · intro _
        repeat' array_get_dec
        exact hE _ _ ht' rfl
theorem law_tail (Γ : Gm) (g : GL Γ) (E : Nd) (x0 s2 s4 s5 s6 s7 s8 s9 : Sl) (t : D) (ht : Tp t) (m : Mac) (hm : Mk m) (q4 : isFr s4 = true) (q5 : isFr s5 = true) (q6 : isFr s6 = true) (q7 : isFr s7 = true) (q8 : isFr s8 = true) (q9 : isFr s9 = true)
    (hE : ∀ t' y4 y5 y6 y7 y8 y9, Tp t' → isFr y4 = true → isFr y5 = true → isFr y6 = true → isFr y7 = true → isFr y8 = true → isFr y9 = true → E.nx [x0, .own t', s2, .val (dM m), y4, y5, y6, y7, y8, y9, .no, .no, .no]) :
    wpB Γ (b_law_b6.drop 2) E [x0, .own t, s2, .val (dM m), s4, s5, s6, s7, s8, s9, .no, .no, .no] := by
  have hC := g.C
  have hK := g.K
  have hM := g.E
  have hL := g.L
  have hX := g.X
  have hR := g.R
  have hG := g.D
  have m1 := hm.m1
  have m0 := hm.m0
  have ls := hm.s.l
  have pF : Pk (fw m.steps) ∧ St 8 m.begins := ⟨Pk.fw hm, hm.b.up hm.m1⟩
  have pB : Pk (bw m.steps) ∧ St 8 m.ends := ⟨Pk.bw hm, hm.e.up hm.m1⟩
  have lF : (cloF m).length ≤ 8 := clo_len _ _
  obtain ⟨S0, r0⟩ : ∃ S : List Nat, biD .repr [dM m] = some (.str S) := ⟨_, by rw [repr_x, shw_dM hm]; rfl⟩
  obtain ⟨S1, r1⟩ : ∃ S : List Nat, biD .repr [intsT (cloF m)] = some (.str S) := ⟨_, by rw [repr_x, shw_ints (fun k hk => (mem_clo.mp hk).1) (clo_len _ _)]; rfl⟩
  obtain ⟨S2, r2⟩ : ∃ S : List Nat, biD .repr [intsT (cloB m)] = some (.str S) := ⟨_, by rw [repr_x, shw_ints (fun k hk => (mem_clo.mp hk).1) (clo_len _ _)]; rfl⟩
  obtain ⟨S3, r3⟩ : ∃ S : List Nat, biD .repr [trD m] = some (.str S) := ⟨_, by rw [repr_x, shw_tr hm]; rfl⟩
  have lu : ((cloF m).filter fun x => decide (x ∈ cloB m)).length ≤ 1000 := Nat.le_trans (List.length_filter_le _ _) (by omega)
  have len8 : (enumL ((cloF m).filter fun x => decide (x ∈ cloB m))).length ≤ 1000000 := by rw [enumL_len]; omega
  have dU := dict_U lu
  have eU : ((cloF m).filter fun x => decide (x ∈ cloB m)) = usd m := usd_eq m
  have e0 : idxD (dM m) (.int 0) = some (.str m.sg) := rfl
  have e1 : idxD (dM m) (.int 1) = some (.int m.many) := rfl
  have e2 : idxD (dM m) (.int 2) = some (.tuple (m.begins.map .int)) := rfl
  have e3 : idxD (dM m) (.int 3) = some (.tuple (m.ends.map .int)) := rfl
  have e4 : idxD (dM m) (.int 4) = some (.tuple (m.steps.map dS)) := rfl
  rw [← List.take_append_drop 8 (b_law_b6.drop 2), wpB_app]
  obtain ⟨N, hN⟩ : ∃ N, N = wpB Γ ((b_law_b6.drop 2).drop 8) E := ⟨_, rfl⟩
  rw [← hN]
  unfold b_law_b6
  simp only [List.drop_succ_cons, List.drop_zero, List.take_succ_cons, List.take_zero]
  repeat' array_get_dec
  · intro c
    simp at c
  · intro _
    have st2 : ∀ y7, isFr y7 = true → N [x0, .own t, s2, .val (dM m), .val (.str S0), .val (intsT (cloF m)), .val (intsT (cloB m)), y7, .val (trD m), s9, .no, .no, .no] := fun y7 q => by
      rw [hN]
      exact law_tail2 Γ g E x0 s2 y7 s9 t ht m hm S0 r0 q q9 fun t' y9 h1 h2 => hE _ _ _ _ _ _ _ h1 rfl rfl rfl q rfl h2
    repeat' array_get_dec
    · intro c
      have et : trD m = nbD m (nbU ((cloF m).filter fun x => decide (x ∈ cloB m))) := by
        unfold trD
        rw [← eU, if_neg (by simpa using c)]
      have r3' := r3
      rw [et] at r3' st2
      repeat' array_get_dec
      · intro c
        simp at c
      · intro _
        repeat' array_get_dec
        exact st2 _ rfl
    · intro c
      have et : trD m = .tuple [.str m.sg, .int 1, .tuple [], .tuple [], .tuple []] := by
        unfold trD
        rw [← eU, if_pos (by simpa using c)]
      rw [← et]
      clear et c
      repeat' array_get_dec
      · intro c
        simp at c
      · intro _
        repeat' array_get_dec
        exact st2 _ rfl
end K08

set_option Elab.async false
set_option linter.all false
set_option maxRecDepth 100000
set_option maxHeartbeats 0

namespace K08
open PySem MW MH
def spLaw : MW.PT := fun ds R => ∃ ns : List Int, ds = [.list (ns.map .int)] ∧ R (.bool true) []
theorem ok_law (Γ : Gm) (g : GL Γ) (ds : List D) (R : D → List D → Prop) (h : spLaw ds R) : wpD false Γ [false] 13 b_law ds R := by
  obtain ⟨ns, rfl, hR⟩ := h
  have hG := g.T
  rw [wpD_f]
  unfold wpF b_law
  refine wpB_step fun N hN => ?_
  simp only [wpD_f, wpD_n, wpF, wpN, Bool.false_eq_true, if_false, if_true, ev0, List.zipWith_cons_cons, List.zipWith_nil_left, List.zipWith_nil_right, List.zipWith, List.replicate, List.length_cons, List.length_nil, Nat.reduceAdd, Nat.reduceSub, List.cons_append, List.nil_append, wpB, MW.wpS, wpc, wpcs, opd, wp, wps, wpo, wpa, wpp, bnd_some, bnd_none, bnd_if, bnd_map, bnd_bind, pk, rdv, setv_e, setc, getc_e, isFr_no, isFr_val, isFr_own, isFr_io, isOw_own, isOw_io, getcS_own, getcS_io, List.getElem?_cons_zero, List.getElem?_cons_succ, List.set_cons_zero, List.set_cons_succ, add_ii, add_ss, add_ll, add_tt, sub_ii, mul_ii, mul_si, mod_ii, fdiv_ii, pow_ii, shr_ii, and_ii, c_eq, c_ne, lt_ii, lt_ss, gt_ii, gt_ss, le_ii, ge_ii, in_l, in_t, in_s, nin_l, nin_t, nin_s, is_n, isn_n, is_bb, isn_bb, ix_l, ix_t, ix_s, sl_l, sl_t, sl_s, t_b, t_i, t_l, t_t, t_n, t_s, len_s, len_l, len_t, tup_l, tup_t, lst_l, lst_t, srt_l, sset_x, lset_x, ssetM, lsetM, all_l, any_l, int_b, int_i, repr_x, isi_x, revs_l, revs_s, trng_x, lrng_x, rep_x, cat_x, lst_s, ix_dk, dnew_x, as_d, key_i, key_s, enum_l, enum_t, srt_t, in_dk, nin_dk, len_dk, srt_dk, dpairs_l, find_x, findT, join_x, joinT, lt_l, lt_t, as_i, as_l, as_t, as_b, atA, atB, atC, atDd, atE, tn0, tn1, tn2, tn3, outsO, List.tail_cons, tgt, tgts, Option.bind_some, Option.map_some, Option.bind_none, Option.map_none, ownD, isTy, hG, argsIo, ioOk, List.all_cons, List.all_nil, Bool.and_true, Option.isSome_some, peekC, outsE, true_and, and_true, srcD, itemsD, turns, List.map_cons, List.map_nil, wipeE, backE, noOwn, Option.isNone_none]
  refine ⟨by decide, ns, rfl, fun t ht => ?_⟩
  simp only [wpD_f, wpD_n, wpF, wpN, Bool.false_eq_true, if_false, if_true, ev0, List.zipWith_cons_cons, List.zipWith_nil_left, List.zipWith_nil_right, List.zipWith, List.replicate, List.length_cons, List.length_nil, Nat.reduceAdd, Nat.reduceSub, List.cons_append, List.nil_append, wpB, MW.wpS, wpc, wpcs, opd, wp, wps, wpo, wpa, wpp, bnd_some, bnd_none, bnd_if, bnd_map, bnd_bind, pk, rdv, setv_e, setc, getc_e, isFr_no, isFr_val, isFr_own, isFr_io, isOw_own, isOw_io, getcS_own, getcS_io, List.getElem?_cons_zero, List.getElem?_cons_succ, List.set_cons_zero, List.set_cons_succ, add_ii, add_ss, add_ll, add_tt, sub_ii, mul_ii, mul_si, mod_ii, fdiv_ii, pow_ii, shr_ii, and_ii, c_eq, c_ne, lt_ii, lt_ss, gt_ii, gt_ss, le_ii, ge_ii, in_l, in_t, in_s, nin_l, nin_t, nin_s, is_n, isn_n, is_bb, isn_bb, ix_l, ix_t, ix_s, sl_l, sl_t, sl_s, t_b, t_i, t_l, t_t, t_n, t_s, len_s, len_l, len_t, tup_l, tup_t, lst_l, lst_t, srt_l, sset_x, lset_x, ssetM, lsetM, all_l, any_l, int_b, int_i, repr_x, isi_x, revs_l, revs_s, trng_x, lrng_x, rep_x, cat_x, lst_s, ix_dk, dnew_x, as_d, key_i, key_s, enum_l, enum_t, srt_t, in_dk, nin_dk, len_dk, srt_dk, dpairs_l, find_x, findT, join_x, joinT, lt_l, lt_t, as_i, as_l, as_t, as_b, atA, atB, atC, atDd, atE, tn0, tn1, tn2, tn3, outsO, List.tail_cons, tgt, tgts, Option.bind_some, Option.map_some, Option.bind_none, Option.map_none, ownD, isTy, hG, argsIo, ioOk, List.all_cons, List.all_nil, Bool.and_true, Option.isSome_some, peekC, outsE, true_and, and_true, srcD, itemsD, turns, List.map_cons, List.map_nil, wipeE, backE, noOwn, Option.isNone_none]
  rw [hN]
  apply wb_forP [(0 : Nat), 1, 2, 3, 4] (fun (k : Nat) => D.int (k : Int)) (fun pre (s : D × Sl × Sl × Sl × Sl × Sl × Sl × Sl × Sl) => [.val (.list (ns.map .int)), .own s.1, s.2.1, s.2.2.1, s.2.2.2.1, s.2.2.2.2.1, s.2.2.2.2.2.1, s.2.2.2.2.2.2.1, s.2.2.2.2.2.2.2.1, s.2.2.2.2.2.2.2.2, .no, .no, .no])
    (fun pre s => Tp s.1 ∧ isFr s.2.1 = true ∧ isFr s.2.2.1 = true ∧ isFr s.2.2.2.1 = true ∧ isFr s.2.2.2.2.1 = true ∧ isFr s.2.2.2.2.2.1 = true ∧ isFr s.2.2.2.2.2.2.1 = true ∧ isFr s.2.2.2.2.2.2.2.1 = true ∧ isFr s.2.2.2.2.2.2.2.2 = true) (t, Sl.no, Sl.no, Sl.no, Sl.no, Sl.no, Sl.no, Sl.no, Sl.no)
  repeat' array_get_dec
  · exact ⟨ht, rfl, rfl, rfl, rfl, rfl, rfl, rfl, rfl⟩
  · rintro pre x rest ⟨t, s2, s3, s4, s5, s6, s7, s8, s9⟩ T e ⟨ht, q2, q3, q4, q5, q6, q7, q8, q9⟩ hT'
    have ht : Tp t := ht
    refine ⟨_, by repeat' array_get_dec, ?_⟩
    have q3 : isFr s3 = true := q3
    have q4 : isFr s4 = true := q4
    have q5 : isFr s5 = true := q5
    have q6 : isFr s6 = true := q6
    have q7 : isFr s7 = true := q7
    have q8 : isFr s8 = true := q8
    have q9 : isFr s9 = true := q9
    have fin : ∀ (m : Mac) (t' : D), Mk m → Tp t' → wpB Γ (b_law_b6.drop 2) { nx := T, rt := fun d ρ => bnd (outsO [false] ρ) (R d), bk := wpB Γ [Sm.ret (Ex.lit (D.bool true))] { nx := fun ρ => bnd (outsO [false] ρ) (R D.none), rt := fun d ρ => bnd (outsO [false] ρ) (R d) } } [.val (.list (ns.map .int)), .own t', .val (.int (x : Int)), .val (dM m), s4, s5, s6, s7, s8, s9, .no, .no, .no] := fun m t' hm ht' =>
      law_tail Γ g _ _ _ s4 s5 s6 s7 s8 s9 t' ht' m hm q4 q5 q6 q7 q8 q9 fun t2 y4 y5 y6 y7 y8 y9 h1 h4 h5 h6 h7 h8 h9 => hT' (t2, .val (.int (x : Int)), .val (dM m), y4, y5, y6, y7, y8, y9) ⟨h1, rfl, rfl, h4, h5, h6, h7, h8, h9⟩
    rw [show b_law_b6 = b_law_b6.take 1 ++ (b_law_b6.drop 1).take 1 ++ b_law_b6.drop 2 from rfl, List.append_assoc]
    obtain ⟨L, hL⟩ : ∃ L, L = b_law_b6.drop 2 := ⟨_, rfl⟩
    rw [← hL] at fin ⊢
    unfold b_law_b6
    simp only [List.take_succ_cons, List.take_zero, List.drop_succ_cons, List.drop_zero, List.cons_append, List.nil_append]
    refine wpB_step fun N hN => ?_
    simp only [wpD_f, wpD_n, wpF, wpN, Bool.false_eq_true, if_false, if_true, ev0, List.zipWith_cons_cons, List.zipWith_nil_left, List.zipWith_nil_right, List.zipWith, List.replicate, List.length_cons, List.length_nil, Nat.reduceAdd, Nat.reduceSub, List.cons_append, List.nil_append, wpB, MW.wpS, wpc, wpcs, opd, wp, wps, wpo, wpa, wpp, bnd_some, bnd_none, bnd_if, bnd_map, bnd_bind, pk, rdv, setv_e, setc, getc_e, isFr_no, isFr_val, isFr_own, isFr_io, isOw_own, isOw_io, getcS_own, getcS_io, List.getElem?_cons_zero, List.getElem?_cons_succ, List.set_cons_zero, List.set_cons_succ, add_ii, add_ss, add_ll, add_tt, sub_ii, mul_ii, mul_si, mod_ii, fdiv_ii, pow_ii, shr_ii, and_ii, c_eq, c_ne, lt_ii, lt_ss, gt_ii, gt_ss, le_ii, ge_ii, in_l, in_t, in_s, nin_l, nin_t, nin_s, is_n, isn_n, is_bb, isn_bb, ix_l, ix_t, ix_s, sl_l, sl_t, sl_s, t_b, t_i, t_l, t_t, t_n, t_s, len_s, len_l, len_t, tup_l, tup_t, lst_l, lst_t, srt_l, sset_x, lset_x, ssetM, lsetM, all_l, any_l, int_b, int_i, repr_x, isi_x, revs_l, revs_s, trng_x, lrng_x, rep_x, cat_x, lst_s, ix_dk, dnew_x, as_d, key_i, key_s, enum_l, enum_t, srt_t, in_dk, nin_dk, len_dk, srt_dk, dpairs_l, find_x, findT, join_x, joinT, lt_l, lt_t, as_i, as_l, as_t, as_b, atA, atB, atC, atDd, atE, tn0, tn1, tn2, tn3, outsO, List.tail_cons, tgt, tgts, Option.bind_some, Option.map_some, Option.bind_none, Option.map_none, ownD, isTy, hG, argsIo, ioOk, List.all_cons, List.all_nil, Bool.and_true, Option.isSome_some, peekC, outsE, true_and, and_true, srcD, itemsD, turns, List.map_cons, List.map_nil, wipeE, backE, noOwn, Option.isNone_none, q3, g.M]
    refine ⟨by decide, t, 6, rfl, by decide, by decide, ht, fun m t1 hm _ ht1 => ?_⟩
    simp only [wpD_f, wpD_n, wpF, wpN, Bool.false_eq_true, if_false, if_true, ev0, List.zipWith_cons_cons, List.zipWith_nil_left, List.zipWith_nil_right, List.zipWith, List.replicate, List.length_cons, List.length_nil, Nat.reduceAdd, Nat.reduceSub, List.cons_append, List.nil_append, wpB, MW.wpS, wpc, wpcs, opd, wp, wps, wpo, wpa, wpp, bnd_some, bnd_none, bnd_if, bnd_map, bnd_bind, pk, rdv, setv_e, setc, getc_e, isFr_no, isFr_val, isFr_own, isFr_io, isOw_own, isOw_io, getcS_own, getcS_io, List.getElem?_cons_zero, List.getElem?_cons_succ, List.set_cons_zero, List.set_cons_succ, add_ii, add_ss, add_ll, add_tt, sub_ii, mul_ii, mul_si, mod_ii, fdiv_ii, pow_ii, shr_ii, and_ii, c_eq, c_ne, lt_ii, lt_ss, gt_ii, gt_ss, le_ii, ge_ii, in_l, in_t, in_s, nin_l, nin_t, nin_s, is_n, isn_n, is_bb, isn_bb, ix_l, ix_t, ix_s, sl_l, sl_t, sl_s, t_b, t_i, t_l, t_t, t_n, t_s, len_s, len_l, len_t, tup_l, tup_t, lst_l, lst_t, srt_l, sset_x, lset_x, ssetM, lsetM, all_l, any_l, int_b, int_i, repr_x, isi_x, revs_l, revs_s, trng_x, lrng_x, rep_x, cat_x, lst_s, ix_dk, dnew_x, as_d, key_i, key_s, enum_l, enum_t, srt_t, in_dk, nin_dk, len_dk, srt_dk, dpairs_l, find_x, findT, join_x, joinT, lt_l, lt_t, as_i, as_l, as_t, as_b, atA, atB, atC, atDd, atE, tn0, tn1, tn2, tn3, outsO, List.tail_cons, tgt, tgts, Option.bind_some, Option.map_some, Option.bind_none, Option.map_none, ownD, isTy, hG, argsIo, ioOk, List.all_cons, List.all_nil, Bool.and_true, Option.isSome_some, peekC, outsE, true_and, and_true, srcD, itemsD, turns, List.map_cons, List.map_nil, wipeE, backE, noOwn, Option.isNone_none, q3]
    rw [hN]
    refine wpB_step fun N hN => ?_
    have done : ∀ (m : Mac) (t' : D), Mk m → Tp t' → N [.val (.list (ns.map .int)), .own t', .val (.int (x : Int)), .val (dM m), s4, s5, s6, s7, s8, s9, .no, .no, .no] := fun m t' hm ht' => by
      rw [hN]; exact fin m t' hm ht'
    simp only [wpD_f, wpD_n, wpF, wpN, Bool.false_eq_true, if_false, if_true, ev0, List.zipWith_cons_cons, List.zipWith_nil_left, List.zipWith_nil_right, List.zipWith, List.replicate, List.length_cons, List.length_nil, Nat.reduceAdd, Nat.reduceSub, List.cons_append, List.nil_append, wpB, MW.wpS, wpc, wpcs, opd, wp, wps, wpo, wpa, wpp, bnd_some, bnd_none, bnd_if, bnd_map, bnd_bind, pk, rdv, setv_e, setc, getc_e, isFr_no, isFr_val, isFr_own, isFr_io, isOw_own, isOw_io, getcS_own, getcS_io, List.getElem?_cons_zero, List.getElem?_cons_succ, List.set_cons_zero, List.set_cons_succ, add_ii, add_ss, add_ll, add_tt, sub_ii, mul_ii, mul_si, mod_ii, fdiv_ii, pow_ii, shr_ii, and_ii, c_eq, c_ne, lt_ii, lt_ss, gt_ii, gt_ss, le_ii, ge_ii, in_l, in_t, in_s, nin_l, nin_t, nin_s, is_n, isn_n, is_bb, isn_bb, ix_l, ix_t, ix_s, sl_l, sl_t, sl_s, t_b, t_i, t_l, t_t, t_n, t_s, len_s, len_l, len_t, tup_l, tup_t, lst_l, lst_t, srt_l, sset_x, lset_x, ssetM, lsetM, all_l, any_l, int_b, int_i, repr_x, isi_x, revs_l, revs_s, trng_x, lrng_x, rep_x, cat_x, lst_s, ix_dk, dnew_x, as_d, key_i, key_s, enum_l, enum_t, srt_t, in_dk, nin_dk, len_dk, srt_dk, dpairs_l, find_x, findT, join_x, joinT, lt_l, lt_t, as_i, as_l, as_t, as_b, atA, atB, atC, atDd, atE, tn0, tn1, tn2, tn3, outsO, List.tail_cons, tgt, tgts, Option.bind_some, Option.map_some, Option.bind_none, Option.map_none, ownD, isTy, hG, argsIo, ioOk, List.all_cons, List.all_nil, Bool.and_true, Option.isSome_some, peekC, outsE, true_and, and_true, srcD, itemsD, turns, List.map_cons, List.map_nil, wipeE, backE, noOwn, Option.isNone_none, g.D, eq_i]
    refine ⟨rfl, ?_⟩
    by_cases hx : ((x : Int) == 0) = true
    · rw [if_pos hx]
      refine ⟨by decide, t1, 3, rfl, ht1, by decide, by decide, fun v t2 v0 v1 ht2 => ?_⟩
      simp only [wpD_f, wpD_n, wpF, wpN, Bool.false_eq_true, if_false, if_true, ev0, List.zipWith_cons_cons, List.zipWith_nil_left, List.zipWith_nil_right, List.zipWith, List.replicate, List.length_cons, List.length_nil, Nat.reduceAdd, Nat.reduceSub, List.cons_append, List.nil_append, wpB, MW.wpS, wpc, wpcs, opd, wp, wps, wpo, wpa, wpp, bnd_some, bnd_none, bnd_if, bnd_map, bnd_bind, pk, rdv, setv_e, setc, getc_e, isFr_no, isFr_val, isFr_own, isFr_io, isOw_own, isOw_io, getcS_own, getcS_io, List.getElem?_cons_zero, List.getElem?_cons_succ, List.set_cons_zero, List.set_cons_succ, add_ii, add_ss, add_ll, add_tt, sub_ii, mul_ii, mul_si, mod_ii, fdiv_ii, pow_ii, shr_ii, and_ii, c_eq, c_ne, lt_ii, lt_ss, gt_ii, gt_ss, le_ii, ge_ii, in_l, in_t, in_s, nin_l, nin_t, nin_s, is_n, isn_n, is_bb, isn_bb, ix_l, ix_t, ix_s, sl_l, sl_t, sl_s, t_b, t_i, t_l, t_t, t_n, t_s, len_s, len_l, len_t, tup_l, tup_t, lst_l, lst_t, srt_l, sset_x, lset_x, ssetM, lsetM, all_l, any_l, int_b, int_i, repr_x, isi_x, revs_l, revs_s, trng_x, lrng_x, rep_x, cat_x, lst_s, ix_dk, dnew_x, as_d, key_i, key_s, enum_l, enum_t, srt_t, in_dk, nin_dk, len_dk, srt_dk, dpairs_l, find_x, findT, join_x, joinT, lt_l, lt_t, as_i, as_l, as_t, as_b, atA, atB, atC, atDd, atE, tn0, tn1, tn2, tn3, outsO, List.tail_cons, tgt, tgts, Option.bind_some, Option.map_some, Option.bind_none, Option.map_none, ownD, isTy, hG, argsIo, ioOk, List.all_cons, List.all_nil, Bool.and_true, Option.isSome_some, peekC, outsE, true_and, and_true, srcD, itemsD, turns, List.map_cons, List.map_nil, wipeE, backE, noOwn, Option.isNone_none, eq_i, g.H]
      refine ⟨rfl, ?_⟩
      by_cases hv : (v == 0) = true
      · rw [if_pos hv]
        refine ⟨by decide, t2, rfl, ht2, fun m' t3 hm' ht3 => ?_⟩
        simp only [wpD_f, wpD_n, wpF, wpN, Bool.false_eq_true, if_false, if_true, ev0, List.zipWith_cons_cons, List.zipWith_nil_left, List.zipWith_nil_right, List.zipWith, List.replicate, List.length_cons, List.length_nil, Nat.reduceAdd, Nat.reduceSub, List.cons_append, List.nil_append, wpB, MW.wpS, wpc, wpcs, opd, wp, wps, wpo, wpa, wpp, bnd_some, bnd_none, bnd_if, bnd_map, bnd_bind, pk, rdv, setv_e, setc, getc_e, isFr_no, isFr_val, isFr_own, isFr_io, isOw_own, isOw_io, getcS_own, getcS_io, List.getElem?_cons_zero, List.getElem?_cons_succ, List.set_cons_zero, List.set_cons_succ, add_ii, add_ss, add_ll, add_tt, sub_ii, mul_ii, mul_si, mod_ii, fdiv_ii, pow_ii, shr_ii, and_ii, c_eq, c_ne, lt_ii, lt_ss, gt_ii, gt_ss, le_ii, ge_ii, in_l, in_t, in_s, nin_l, nin_t, nin_s, is_n, isn_n, is_bb, isn_bb, ix_l, ix_t, ix_s, sl_l, sl_t, sl_s, t_b, t_i, t_l, t_t, t_n, t_s, len_s, len_l, len_t, tup_l, tup_t, lst_l, lst_t, srt_l, sset_x, lset_x, ssetM, lsetM, all_l, any_l, int_b, int_i, repr_x, isi_x, revs_l, revs_s, trng_x, lrng_x, rep_x, cat_x, lst_s, ix_dk, dnew_x, as_d, key_i, key_s, enum_l, enum_t, srt_t, in_dk, nin_dk, len_dk, srt_dk, dpairs_l, find_x, findT, join_x, joinT, lt_l, lt_t, as_i, as_l, as_t, as_b, atA, atB, atC, atDd, atE, tn0, tn1, tn2, tn3, outsO, List.tail_cons, tgt, tgts, Option.bind_some, Option.map_some, Option.bind_none, Option.map_none, ownD, isTy, hG, argsIo, ioOk, List.all_cons, List.all_nil, Bool.and_true, Option.isSome_some, peekC, outsE, true_and, and_true, srcD, itemsD, turns, List.map_cons, List.map_nil, wipeE, backE, noOwn, Option.isNone_none]
        exact done m' t3 hm' ht3
      · rw [if_neg hv]
        exact done m t2 hm ht2
    · rw [if_neg hx]
      exact done m t1 hm ht1
  · rintro ⟨t, s2, s3, s4, s5, s6, s7, s8, s9⟩ _
    repeat' array_get_dec
    ((try dsimp only); refine end_of hR ?_ ?_; (· rfl))
    rfl
end K08

set_option Elab.async false
set_option linter.all false
set_option maxRecDepth 100000
set_option maxHeartbeats 0
namespace K08
open PySem PySem.Spec PyProof.Rows L2 MW
open MH (ok_tape ok_draw ok_signs ok_some ok_steps ok_single ok_machine)
/-! ### the head -/
abbrev mb : List Str := ["dict", "enumerate", "len", "list", "range", "repr", "set", "sorted", "tuple"]
def d_law_tape : He.DefD := ⟨("_law_tape", none), "_law_tape", "_law_tape", defArgs s_law_tape, defBody s_law_tape, defScope s_law_tape, [], []⟩
def d_law_draw : He.DefD := ⟨("_law_draw", none), "_law_draw", "_law_draw", defArgs s_law_draw, defBody s_law_draw, defScope s_law_draw, [], []⟩
def d_law_signs : He.DefD := ⟨("_law_signs", none), "_law_signs", "_law_signs", defArgs s_law_signs, defBody s_law_signs, defScope s_law_signs, [], []⟩
def d_law_some : He.DefD := ⟨("_law_some", none), "_law_some", "_law_some", defArgs s_law_some, defBody s_law_some, defScope s_law_some, [], []⟩
def d_law_steps : He.DefD := ⟨("_law_steps", none), "_law_steps", "_law_steps", defArgs s_law_steps, defBody s_law_steps, defScope s_law_steps, [], []⟩
def d_law_single : He.DefD := ⟨("_law_single", none), "_law_single", "_law_single", defArgs s_law_single, defBody s_law_single, defScope s_law_single, [], []⟩
def d_law_machine : He.DefD := ⟨("_law_machine", none), "_law_machine", "_law_machine", defArgs s_law_machine, defBody s_law_machine, defScope s_law_machine, [], []⟩
def d_law_come_to : He.DefD := ⟨("_law_come_to", none), "_law_come_to", "_law_come_to", defArgs s_law_come_to, defBody s_law_come_to, defScope s_law_come_to, [], []⟩
def d_law_order : He.DefD := ⟨("_law_order", none), "_law_order", "_law_order", defArgs s_law_order, defBody s_law_order, defScope s_law_order, [], []⟩
def d_law_chain : He.DefD := ⟨("_law_chain", none), "_law_chain", "_law_chain", defArgs s_law_chain, defBody s_law_chain, defScope s_law_chain, [], []⟩
def d_law_called : He.DefD := ⟨("_law_called", none), "_law_called", "_law_called", defArgs s_law_called, defBody s_law_called, defScope s_law_called, [], []⟩
def d_beside : He.DefD := ⟨("beside", none), "beside", "beside", defArgs s_beside, defBody s_beside, defScope s_beside, [], []⟩
def d_closed : He.DefD := ⟨("closed", none), "closed", "closed", defArgs s_closed, defBody s_closed, defScope s_closed, [], []⟩
def d_met : He.DefD := ⟨("met", none), "met", "met", defArgs s_met, defBody s_met, defScope s_met, [], []⟩
def d_in_numbers : He.DefD := ⟨("in_numbers", none), "in_numbers", "in_numbers", defArgs s_in_numbers, defBody s_in_numbers, defScope s_in_numbers, [], []⟩
def d_numbered_by : He.DefD := ⟨("numbered_by", none), "numbered_by", "numbered_by", defArgs s_numbered_by, defBody s_numbered_by, defScope s_numbered_by, [], []⟩
def d_leading : He.DefD := ⟨("leading", none), "leading", "leading", defArgs s_leading, defBody s_leading, defScope s_leading, [], []⟩
def d_trimmed : He.DefD := ⟨("trimmed", none), "trimmed", "trimmed", defArgs s_trimmed, defBody s_trimmed, defScope s_trimmed, [], []⟩
def d_renamed : He.DefD := ⟨("renamed", none), "renamed", "renamed", defArgs s_renamed, defBody s_renamed, defScope s_renamed, [], []⟩
def d_law : He.DefD := ⟨("law", none), "law", "law", defArgs s_law, defBody s_law, defScope s_law, [], []⟩
def fn : List He.DefD := [d_law_tape, d_law_draw, d_law_signs, d_law_some, d_law_steps, d_law_single, d_law_machine, d_law_come_to, d_law_order, d_law_chain, d_law_called, d_beside, d_closed, d_met, d_in_numbers, d_numbered_by, d_leading, d_trimmed, d_renamed, d_law]
def fa : List He.Fa := [.glo "_law_tape", .glo "_law_draw", .glo "_law_signs", .glo "_law_some", .glo "_law_steps", .glo "_law_single", .glo "_law_machine", .glo "_law_come_to", .glo "_law_order", .glo "_law_chain", .glo "_law_called", .glo "beside", .glo "closed", .glo "met", .glo "in_numbers", .glo "numbered_by", .glo "leading", .glo "trimmed", .glo "renamed", .glo "law", .free "dict", .free "enumerate", .free "len", .free "list", .free "range", .free "repr", .free "set", .free "sorted", .free "tuple"]
abbrev R : PySem.W.OpenRow := PySem.W.OpenLaw.row PySem.Challenge.rw_manyways_k08_what_is_of_use
abbrev hk : PySem.W.Hook := He.hookD 4 fa fn
def ob (s : PySem.W.SharedT) : He.AlD := He.obsDG 4 fa fn (HandSHeadRun.getT s)
theorem ob_is (s : PySem.W.SharedT) : ob s = hk.obs s.abs := He.obsDG_eq (HandSHeadRun.getT_eq s)
def loose : List PySem.Str := ["closed", "beside", "met", "leading", "in_numbers", "numbered_by", "trimmed", "renamed", "_law_tape", "_law_draw", "_law_signs", "_law_some", "_law_steps", "_law_single", "_law_machine", "_law_come_to", "_law_called", "_law_order", "_law_chain"]
theorem run (w : World) : HandSHeadRun.RunEq R (PySem.W.view R.prog [21]) hk ob 4000 loose w := by
  intro os
  kernel_rfl
theorem facts {P : Program} {w : World} {K : PySem.W.Frag} {h : Heap} {mg : Str → Option Value} {f : Addr} (X : K.In h) (G : h.Ns mainGlobals mg) (hfa : mg ("law" : Str) = some (.ref f)) (c : He.SaysD fa fn K) :
    ∃ fd : FuncData, (∀ (s : Shared) (v : Value), BindsTo s fd ⟨[v], []⟩ [("_law_script", v)]) ∧ ∀ base : Heap, K.In base → base.Ns mainGlobals mg → FnG P w K mg base 20 f fd ["_law_script"] (spG ⟨K, w⟩ ⟨[false], spLaw, false⟩) := by
  obtain ⟨fd_law_tape, F_law_tape⟩ := c.def_ 0 (d := d_law_tape) rfl
  obtain ⟨fd_law_draw, F_law_draw⟩ := c.def_ 1 (d := d_law_draw) rfl
  obtain ⟨fd_law_signs, F_law_signs⟩ := c.def_ 2 (d := d_law_signs) rfl
  obtain ⟨fd_law_some, F_law_some⟩ := c.def_ 3 (d := d_law_some) rfl
  obtain ⟨fd_law_steps, F_law_steps⟩ := c.def_ 4 (d := d_law_steps) rfl
  obtain ⟨fd_law_single, F_law_single⟩ := c.def_ 5 (d := d_law_single) rfl
  obtain ⟨fd_law_machine, F_law_machine⟩ := c.def_ 6 (d := d_law_machine) rfl
  obtain ⟨fd_law_come_to, F_law_come_to⟩ := c.def_ 7 (d := d_law_come_to) rfl
  obtain ⟨fd_law_order, F_law_order⟩ := c.def_ 8 (d := d_law_order) rfl
  obtain ⟨fd_law_chain, F_law_chain⟩ := c.def_ 9 (d := d_law_chain) rfl
  obtain ⟨fd_law_called, F_law_called⟩ := c.def_ 10 (d := d_law_called) rfl
  obtain ⟨fd_beside, F_beside⟩ := c.def_ 11 (d := d_beside) rfl
  obtain ⟨fd_closed, F_closed⟩ := c.def_ 12 (d := d_closed) rfl
  obtain ⟨fd_met, F_met⟩ := c.def_ 13 (d := d_met) rfl
  obtain ⟨fd_in_numbers, F_in_numbers⟩ := c.def_ 14 (d := d_in_numbers) rfl
  obtain ⟨fd_numbered_by, F_numbered_by⟩ := c.def_ 15 (d := d_numbered_by) rfl
  obtain ⟨fd_leading, F_leading⟩ := c.def_ 16 (d := d_leading) rfl
  obtain ⟨fd_trimmed, F_trimmed⟩ := c.def_ 17 (d := d_trimmed) rfl
  obtain ⟨fd_renamed, F_renamed⟩ := c.def_ 18 (d := d_renamed) rfl
  obtain ⟨fd_law, F_law⟩ := c.def_ 19 (d := d_law) rfl
  have m_law_tape := He.glo_ok X G (c.fact 0 (f := .glo "_law_tape") rfl)
  have m_law_draw := He.glo_ok X G (c.fact 1 (f := .glo "_law_draw") rfl)
  have m_law_signs := He.glo_ok X G (c.fact 2 (f := .glo "_law_signs") rfl)
  have m_law_some := He.glo_ok X G (c.fact 3 (f := .glo "_law_some") rfl)
  have m_law_steps := He.glo_ok X G (c.fact 4 (f := .glo "_law_steps") rfl)
  have m_law_single := He.glo_ok X G (c.fact 5 (f := .glo "_law_single") rfl)
  have m_law_machine := He.glo_ok X G (c.fact 6 (f := .glo "_law_machine") rfl)
  have m_law_come_to := He.glo_ok X G (c.fact 7 (f := .glo "_law_come_to") rfl)
  have m_law_order := He.glo_ok X G (c.fact 8 (f := .glo "_law_order") rfl)
  have m_law_chain := He.glo_ok X G (c.fact 9 (f := .glo "_law_chain") rfl)
  have m_law_called := He.glo_ok X G (c.fact 10 (f := .glo "_law_called") rfl)
  have m_beside := He.glo_ok X G (c.fact 11 (f := .glo "beside") rfl)
  have m_closed := He.glo_ok X G (c.fact 12 (f := .glo "closed") rfl)
  have m_met := He.glo_ok X G (c.fact 13 (f := .glo "met") rfl)
  have m_in_numbers := He.glo_ok X G (c.fact 14 (f := .glo "in_numbers") rfl)
  have m_numbered_by := He.glo_ok X G (c.fact 15 (f := .glo "numbered_by") rfl)
  have m_leading := He.glo_ok X G (c.fact 16 (f := .glo "leading") rfl)
  have m_trimmed := He.glo_ok X G (c.fact 17 (f := .glo "trimmed") rfl)
  have m_renamed := He.glo_ok X G (c.fact 18 (f := .glo "renamed") rfl)
  have m_law := He.glo_ok X G (c.fact 19 (f := .glo "law") rfl)
  have n_dict := He.free_ok X G (c.fact 20 (f := .free "dict") rfl)
  have n_enumerate := He.free_ok X G (c.fact 21 (f := .free "enumerate") rfl)
  have n_len := He.free_ok X G (c.fact 22 (f := .free "len") rfl)
  have n_list := He.free_ok X G (c.fact 23 (f := .free "list") rfl)
  have n_range := He.free_ok X G (c.fact 24 (f := .free "range") rfl)
  have n_repr := He.free_ok X G (c.fact 25 (f := .free "repr") rfl)
  have n_set := He.free_ok X G (c.fact 26 (f := .free "set") rfl)
  have n_sorted := He.free_ok X G (c.fact 27 (f := .free "sorted") rfl)
  have n_tuple := He.free_ok X G (c.fact 28 (f := .free "tuple") rfl)
  cases hfa.symm.trans m_law
  have mo : ∀ l : List Str, (∀ x ∈ l, x ∈ mb) → MOk ⟨K, w⟩ mg [] l := fun l hl => ⟨fun x hx => by
    have hx := hl x hx
    simp only [mb, List.mem_cons, List.not_mem_nil, or_false] at hx
    rcases hx with rfl | rfl | rfl | rfl | rfl | rfl | rfl | rfl | rfl <;> assumption, fun x d hd => by simp at hd⟩
  refine ⟨fd_law, fun s v => ?_, fun base KB NB => ?_⟩
  · exact (FunD.bindsA (ps := ["_law_script"]) F_law fun _ _ _ _ _ _ us hl => match us, hl with | [_], _ => rfl) s [v] rfl
  have g0 : GOk P w K mg base (tab []) 0 := GOk.nil
  have b_law_tape : Binds K fd_law_tape ["_law_script"] [] := FunD.bindsN F_law_tape fun _ _ _ _ _ _ us hl => match us, hl with | [_], _ => rfl
  have g1 := GOk.cons (nw := true) (io := [false]) g0 F_law_tape m_law_tape b_law_tape sc_law_tape c_law_tape rfl (mo _ (by decide)) (fun f hf => by cases hf) (ok_tape _)
  have b_law_draw : Binds K fd_law_draw ["_law_tape_here", "_law_many"] [] := FunD.bindsN F_law_draw fun _ _ _ _ _ _ us hl => match us, hl with | [_, _], _ => rfl
  have g2 := GOk.cons (nw := false) (io := [true, false]) g1 F_law_draw m_law_draw b_law_draw sc_law_draw c_law_draw rfl (mo _ (by decide)) (fun f hf => by cases hf) (ok_draw _)
  have b_law_signs : Binds K fd_law_signs ["_law_tape_here"] [] := FunD.bindsN F_law_signs fun _ _ _ _ _ _ us hl => match us, hl with | [_], _ => rfl
  have g3 := GOk.cons (nw := false) (io := [true]) g2 F_law_signs m_law_signs b_law_signs sc_law_signs c_law_signs rfl (mo _ (by decide)) (fun f hf => by cases hf) (ok_signs _ rfl)
  have b_law_some : Binds K fd_law_some ["_law_tape_here", "_law_many", "_law_rare"] [] := FunD.bindsN F_law_some fun _ _ _ _ _ _ us hl => match us, hl with | [_, _, _], _ => rfl
  have g4 := GOk.cons (nw := false) (io := [true, false, false]) g3 F_law_some m_law_some b_law_some sc_law_some c_law_some rfl (mo _ (by decide)) (fun f hf => by cases hf) (ok_some _ rfl)
  have b_law_steps : Binds K fd_law_steps ["_law_tape_here", "_law_signs_here", "_law_many"] [] := FunD.bindsN F_law_steps fun _ _ _ _ _ _ us hl => match us, hl with | [_, _, _], _ => rfl
  have g5 := GOk.cons (nw := false) (io := [true, false, false]) g4 F_law_steps m_law_steps b_law_steps sc_law_steps c_law_steps rfl (mo _ (by decide)) (fun f hf => by cases hf) (ok_steps _ rfl)
  have b_law_single : Binds K fd_law_single ["_law_tape_here", "_law_signs_here", "_law_many"] [] := FunD.bindsN F_law_single fun _ _ _ _ _ _ us hl => match us, hl with | [_, _, _], _ => rfl
  have g6 := GOk.cons (nw := false) (io := [true, false, false]) g5 F_law_single m_law_single b_law_single sc_law_single c_law_single rfl (mo _ (by decide)) (fun f hf => by cases hf) (ok_single _ rfl)
  have b_law_machine : Binds K fd_law_machine ["_law_tape_here", "_law_most"] [] := FunD.bindsN F_law_machine fun _ _ _ _ _ _ us hl => match us, hl with | [_, _], _ => rfl
  have g7 := GOk.cons (nw := false) (io := [true, false]) g6 F_law_machine m_law_machine b_law_machine sc_law_machine c_law_machine rfl (mo _ (by decide)) (fun f hf => by cases hf) (ok_machine _ rfl rfl rfl rfl rfl)
  have b_law_come_to : Binds K fd_law_come_to ["_law_pairs", "_law_some_here"] [] := FunD.bindsN F_law_come_to fun _ _ _ _ _ _ us hl => match us, hl with | [_, _], _ => rfl
  have g8 := GOk.cons (nw := false) (io := [false, false]) g7 F_law_come_to m_law_come_to b_law_come_to sc_law_come_to c_law_come_to rfl (mo _ (by decide)) (fun f hf => by cases hf) (ok_come_to _)
  have b_law_order : Binds K fd_law_order ["_law_tape_here", "_law_many"] [] := FunD.bindsN F_law_order fun _ _ _ _ _ _ us hl => match us, hl with | [_, _], _ => rfl
  have g9 := GOk.cons (nw := false) (io := [true, false]) g8 F_law_order m_law_order b_law_order sc_law_order c_law_order rfl (mo _ (by decide)) (fun f hf => by cases hf) (ok_order _ rfl)
  have b_law_chain : Binds K fd_law_chain ["_law_tape_here"] [] := FunD.bindsN F_law_chain fun _ _ _ _ _ _ us hl => match us, hl with | [_], _ => rfl
  have g10 := GOk.cons (nw := false) (io := [true]) g9 F_law_chain m_law_chain b_law_chain sc_law_chain c_law_chain rfl (mo _ (by decide)) (fun f hf => by cases hf) (ok_chain _ rfl)
  have b_law_called : Binds K fd_law_called ["_law_machine_here", "_law_names"] [] := FunD.bindsN F_law_called fun _ _ _ _ _ _ us hl => match us, hl with | [_, _], _ => rfl
  have g11 := GOk.cons (nw := false) (io := [false, false]) g10 F_law_called m_law_called b_law_called sc_law_called c_law_called rfl (mo _ (by decide)) (fun f hf => by cases hf) (ok_called _)
  have b_beside : Binds K fd_beside ["pairs", "stand", "known"] [] := FunD.bindsN F_beside fun _ _ _ _ _ _ us hl => match us, hl with | [_, _, _], _ => rfl
  have g12 := GOk.cons (nw := false) (io := [false, false, true]) g11 F_beside m_beside b_beside sc_beside c_beside rfl (mo _ (by decide)) (fun f hf => by cases hf) (ok_beside _)
  have b_closed : Binds K fd_closed ["pairs", "some"] [] := FunD.bindsN F_closed fun _ _ _ _ _ _ us hl => match us, hl with | [_, _], _ => rfl
  have g13 := GOk.cons (nw := false) (io := [false, false]) g12 F_closed m_closed b_closed sc_closed c_closed rfl (mo _ (by decide)) (fun f hf => by cases hf) (ok_closed _ rfl)
  have b_met : Binds K fd_met ["machine"] [] := FunD.bindsN F_met fun _ _ _ _ _ _ us hl => match us, hl with | [_], _ => rfl
  have g14 := GOk.cons (nw := false) (io := [false]) g13 F_met m_met b_met sc_met c_met rfl (mo _ (by decide)) (fun f hf => by cases hf) (ok_met _ rfl)
  have b_in_numbers : Binds K fd_in_numbers ["numbers", "some"] [] := FunD.bindsN F_in_numbers fun _ _ _ _ _ _ us hl => match us, hl with | [_, _], _ => rfl
  have g15 := GOk.cons (nw := false) (io := [false, false]) g14 F_in_numbers m_in_numbers b_in_numbers sc_in_numbers c_in_numbers rfl (mo _ (by decide)) (fun f hf => by cases hf) (ok_in_numbers _)
  have b_numbered_by : Binds K fd_numbered_by ["machine", "numbers"] [] := FunD.bindsN F_numbered_by fun _ _ _ _ _ _ us hl => match us, hl with | [_, _], _ => rfl
  have g16 := GOk.cons (nw := false) (io := [false, false]) g15 F_numbered_by m_numbered_by b_numbered_by sc_numbered_by c_numbered_by rfl (mo _ (by decide)) (fun f hf => by cases hf) (ok_numbered_by _ rfl)
  have b_leading : Binds K fd_leading ["machine"] [] := FunD.bindsN F_leading fun _ _ _ _ _ _ us hl => match us, hl with | [_], _ => rfl
  have g17 := GOk.cons (nw := false) (io := [false]) g16 F_leading m_leading b_leading sc_leading c_leading rfl (mo _ (by decide)) (fun f hf => by cases hf) (ok_leading _ rfl)
  have b_trimmed : Binds K fd_trimmed ["machine"] [] := FunD.bindsN F_trimmed fun _ _ _ _ _ _ us hl => match us, hl with | [_], _ => rfl
  have g18 := GOk.cons (nw := false) (io := [false]) g17 F_trimmed m_trimmed b_trimmed sc_trimmed c_trimmed rfl (mo _ (by decide)) (fun f hf => by cases hf) (ok_trimmed _ rfl rfl rfl)
  have b_renamed : Binds K fd_renamed ["machine", "numbers"] [] := FunD.bindsN F_renamed fun _ _ _ _ _ _ us hl => match us, hl with | [_, _], _ => rfl
  have g19 := GOk.cons (nw := false) (io := [false, false]) g18 F_renamed m_renamed b_renamed sc_renamed c_renamed rfl (mo _ (by decide)) (fun f hf => by cases hf) (ok_renamed _ rfl)
  have b_law : Binds K fd_law ["_law_script"] [] := FunD.bindsN F_law fun _ _ _ _ _ _ us hl => match us, hl with | [_], _ => rfl
  exact fnG_sp (nw := false) (io := [false]) g19 F_law sc_law c_law rfl (mo _ (by decide)) (fun f hf => by simp only [List.mem_cons, List.not_mem_nil, or_false] at hf; rcases hf with rfl <;> exact ⟨_, rfl, rfl⟩) (ok_law _ ⟨rfl, rfl, rfl, rfl, rfl, rfl, rfl, rfl, rfl, rfl, rfl⟩)
end K08
open PySem PySem.W PySem.Calls PyProof.Rows
theorem PySem.Challenge.cw_manyways_k08_what_is_of_use_holds : PySem.Challenge.rw_manyways_k08_what_is_of_use.Holds := by
  w_on; o_law
  refine HandSHeadRun.head_any (r := OpenLaw.row PySem.Challenge.rw_manyways_k08_what_is_of_use) (q := view (OpenLaw.row PySem.Challenge.rw_manyways_k08_what_is_of_use).prog [21]) (H := K08.hk) (ob := K08.ob)
    (M := 4000) (loose := K08.loose) (d := HandSHeadRun.topDef (OpenLaw.row PySem.Challenge.rw_manyways_k08_what_is_of_use).prog 21) (kwd := []) K08.ob_is (by kernel_rfl) (fun s => by kernel_rfl) K08.run
    (by kernel_rfl) (by kernel_rfl) (by kernel_rfl) (by rfl) (by first | assumption | decide +kernel) (by decide +kernel) ⟨rfl, rfl, rfl, rfl, rfl, by decide +kernel⟩ ?hw ?hc
  case hw => w_witness2
  case hc =>
    refine MW.walk_law (l := PySem.Challenge.rw_manyways_k08_what_is_of_use) (n := 63) (k := 20) (x := "_law_script") rfl (by decide) (by kernel_rfl) ⟨rfl, by decide, by decide⟩ ?F
    intro w mg fa h Y G m0
    obtain ⟨K, KX, c⟩ := Y
    have e : (HandSHeadRun.topDef (OpenLaw.row PySem.Challenge.rw_manyways_k08_what_is_of_use).prog 21).name = ("law" : PySem.Str) := by kernel_rfl
    have hm : mg ("law" : PySem.Str) = some (.ref fa) := e ▸ m0
    obtain ⟨fd, hb, hF⟩ := K08.facts (P := (PySem.Challenge.rw_manyways_k08_what_is_of_use).prog) (w := w) KX G hm c
    exact ⟨K, fd, K08.spLaw, KX, hb, fun ns hl => ⟨ns, rfl, rfl⟩, hF⟩

